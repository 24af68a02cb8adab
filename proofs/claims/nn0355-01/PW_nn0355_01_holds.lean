import PyProof.Rows.All
import Wide.All
import OpenK.AllK
import Wide.FinOn
import Lean
import PySem.Challenge.RW_nn0355_01
open PySem PySem.W PyProof.Rows
set_option Elab.async false
set_option maxRecDepth 100000
set_option maxHeartbeats 8000000
namespace Mine
theorem nq : PySem.W.namesOk = PySem.W.namesOk := rfl
end Mine
name_quick tw7220997547264142339 for PySem.W.namesOk by Mine.nq
name_quick tw8075568018651887793 for PySem.W.namesOk by Mine.nq
name_quick tw3966717264747991198 for PySem.W.namesOk by Mine.nq
name_quick tw976971711843200656 for PySem.W.namesOk by Mine.nq
name_quick tw12838794471992183602 for PySem.W.namesOk by Mine.nq
name_quick tw14979626087600564940 for PySem.W.namesOk by Mine.nq
name_quick tw4802206622296518355 for PySem.W.namesOk by Mine.nq
name_quick tw3830411482411394332 for PySem.W.namesOk by Mine.nq
name_quick tw227664154600733314 for PySem.W.namesOk by Mine.nq
name_quick tw10881846856767400648 for PySem.W.namesOk by Mine.nq
name_quick tw13912434898499826684 for PySem.W.namesOk by Mine.nq
name_quick tw9951705424602377420 for PySem.W.namesOk by Mine.nq
name_quick tw8271852410755176070 for PySem.W.namesOk by Mine.nq
name_quick tw13375533955310729550 for PySem.W.namesOk by Mine.nq
name_quick tw5076957145309523181 for PySem.W.namesOk by Mine.nq
name_quick tw3856783459128436802 for PySem.W.namesOk by Mine.nq
name_quick tw14884601019740666482 for PySem.W.namesOk by Mine.nq
name_quick tw12635813782599140982 for PySem.W.namesOk by Mine.nq
name_quick tw13981391230805400906 for PySem.W.namesOk by Mine.nq
name_quick tw13640514254501968386 for PySem.W.namesOk by Mine.nq
name_quick tw5731285843209492418 for PySem.W.namesOk by Mine.nq
name_quick tw10323183001455561277 for PySem.W.namesOk by Mine.nq
name_quick tw2364824441312284604 for PySem.W.namesOk by Mine.nq
name_quick tw2478078296215019888 for PySem.W.namesOk by Mine.nq
name_quick tw5706481520468235054 for PySem.W.namesOk by Mine.nq
name_quick tw14168537005229113720 for PySem.W.namesOk by Mine.nq
name_quick tw4071324889030633612 for PySem.W.namesOk by Mine.nq
name_quick tw2670528217467546775 for PySem.W.namesOk by Mine.nq
name_quick tw6250672158363226905 for PySem.W.namesOk by Mine.nq
name_quick tw11462045893675790159 for PySem.W.namesOk by Mine.nq
name_quick tw9285146279643344392 for PySem.W.namesOk by Mine.nq
name_quick tw17954471519018878134 for PySem.W.namesOk by Mine.nq
name_quick tw9691624938235723451 for PySem.W.namesOk by Mine.nq
name_quick tw12329403913580668285 for PySem.W.namesOk by Mine.nq
name_quick tw10996506086634736982 for PySem.W.namesOk by Mine.nq
name_quick tw2905824091091238844 for PySem.W.namesOk by Mine.nq
name_quick tw2862820112641550484 for PySem.W.namesOk by Mine.nq
name_quick tw11588390666370768167 for PySem.W.namesOk by Mine.nq
name_quick tw5032809538720368765 for PySem.W.namesOk by Mine.nq
name_quick tw17111948838632640456 for PySem.W.namesOk by Mine.nq
name_quick tw6550987210724342151 for PySem.W.namesOk by Mine.nq
name_quick tw282004115355043989 for PySem.W.namesOk by Mine.nq
name_quick tw13512673800721320934 for PySem.W.namesOk by Mine.nq
name_quick tw4748654258956052638 for PySem.W.namesOk by Mine.nq
name_quick tw2664551874359636763 for PySem.W.namesOk by Mine.nq
name_quick tw15560500314895047343 for PySem.W.namesOk by Mine.nq
name_quick tw16350708796919097252 for PySem.W.namesOk by Mine.nq
name_quick tw8119918657739134586 for PySem.W.namesOk by Mine.nq
name_quick tw7401281599722004195 for PySem.W.namesOk by Mine.nq
name_quick tw14834023430324568649 for PySem.W.namesOk by Mine.nq
name_quick tw17532718790514356516 for PySem.W.namesOk by Mine.nq
name_quick tw13145125596335152023 for PySem.W.namesOk by Mine.nq
name_quick tw12945451867199242903 for PySem.W.namesOk by Mine.nq
name_quick tw1503297043503765363 for PySem.W.namesOk by Mine.nq
name_quick tw18340240734955500558 for PySem.W.namesOk by Mine.nq
name_quick tw3442601649717412197 for PySem.W.namesOk by Mine.nq
name_quick tw15066959818950650227 for PySem.W.namesOk by Mine.nq
name_quick tw12659028871203227004 for PySem.W.namesOk by Mine.nq
name_quick tw11566699232636054958 for PySem.W.namesOk by Mine.nq
name_quick tw505943868828395459 for PySem.W.namesOk by Mine.nq
name_quick tw7232422423428716515 for PySem.W.namesOk by Mine.nq
name_quick tw1218959903707654005 for PySem.W.namesOk by Mine.nq
name_quick tw17730428716208468724 for PySem.W.namesOk by Mine.nq
name_quick tw11625766737575182897 for PySem.W.namesOk by Mine.nq
name_quick tw18345786424863182364 for PySem.W.namesOk by Mine.nq
name_quick tw15894407043143930727 for PySem.W.namesOk by Mine.nq
name_quick tw9759809726879904816 for PySem.W.namesOk by Mine.nq
name_quick tw7299303143086499733 for PySem.W.namesOk by Mine.nq
name_quick tw13789449189825218787 for PySem.W.namesOk by Mine.nq
name_quick tw16018607276475445134 for PySem.W.namesOk by Mine.nq
name_quick tw16916688483869632129 for PySem.W.namesOk by Mine.nq
name_quick tw682011567655089306 for PySem.W.namesOk by Mine.nq
name_quick tw136631920214876835 for PySem.W.namesOk by Mine.nq
name_quick tw10528696920762540405 for PySem.W.namesOk by Mine.nq
name_quick tw3131671291697673992 for PySem.W.namesOk by Mine.nq
name_quick tw951843321253372498 for PySem.W.namesOk by Mine.nq
name_quick tw17828083071136270317 for PySem.W.namesOk by Mine.nq
name_quick tw219737044198020058 for PySem.W.namesOk by Mine.nq
name_quick tw8595292554425487202 for PySem.W.namesOk by Mine.nq
name_quick tw6380047634161181297 for PySem.W.namesOk by Mine.nq
name_quick tw16548257151911338427 for PySem.W.namesOk by Mine.nq
name_quick tw932993149863042379 for PySem.W.namesOk by Mine.nq
name_quick tw16531745337717519161 for PySem.W.namesOk by Mine.nq
name_quick tw7323676302269181137 for PySem.W.namesOk by Mine.nq
name_quick tw4552823106982906706 for PySem.W.namesOk by Mine.nq
name_quick tw17846936440860909165 for PySem.W.namesOk by Mine.nq
name_quick tw13759679279233594173 for PySem.W.namesOk by Mine.nq
name_quick tw13236226663087606529 for PySem.W.namesOk by Mine.nq
name_quick tw15112985482279097393 for PySem.W.namesOk by Mine.nq
name_quick tw2611137233208623240 for PySem.W.namesOk by Mine.nq
name_quick tw43969757491396457 for PySem.W.namesOk by Mine.nq
name_quick tw15980859228951719591 for PySem.W.namesOk by Mine.nq
namespace Mine
open_top hd for PySem.Challenge.rw_nn0355_01
end Mine
namespace Mine
theorem calm : True := by
  w_top off
  trivial
end Mine
namespace Mine
section
open PySem PySem.W PyProof.Rows PySem.Calls PySem.Spec
abbrev NewsL := List (Addr × Obj)
/-- what a call of the def at f with these arguments does to the ledger: whatever state it starts from, it ends with a value r and a ledger news' that Post tells of -/
def Does (w : World) (mean : ExcName → Option Value) (mg mb : Str → Option Value) (f : Addr) (args : List Value) (cost : Nat) (news : NewsL) (Post : Value → NewsL → Prop) : Prop :=
  ∀ (dp un : Nat) (gd : Option (List Code)) (cn : Str) (cs : Scope) (a : Addr) (ccd : Value) (cl : List (Str × Addr)) (outer : List Env) (A₀ : Around) (base h₀ : Heap) (L : Addr) (m : Str → Option Value) (s : Shared)
    (Q E : Value → Shared → Prop),
    Below A₀ base outer h₀ → Fr h₀ L s.heap m → (Mine.hd.heap_39 w.params).In h₀ → News h₀ L s.heap news →
    Top Mine.hd.view_39 (looseW Mine.hd.view_39 [Str.ofString "ToolError", Str.ofString "BARRED"]) mean mg mb h₀ → cs.kind = .function → dp + cost < recursionLimit → un + 8 * cost < cLine →
    (∀ r news' h' tk', Fr h₀ L h' m → News h₀ L h' news' → Post r news' → Q r { s with heap := h', toks := tk' }) →
    wpAny (model PySem.Challenge.rw_nn0355_01.row.prog w) (ktrTop dp un gd cn cs L a ccd cl outer) (call (.ref f) args) Q E s

/-- the pen: the script's list, the spot, the seed -/
abbrev penO (l : Addr) (spot : Int) (t : Tok) (seed : Int) (u : Tok) (n : Nat) : Obj := listOf #[.ref l, .int spot t, .int seed u] n

/-- a goal that the walk shall leave alone -/
def Hold (P : Prop) : Prop := P
theorem Hold.mk {P : Prop} (h : Hold P) : P := h
theorem Hold.out {P : Prop} (h : P) : Hold P := h
theorem compEnd_mono {h₀ : Heap} {L : Addr} {m : Str → Option Value} {s₁ : Shared} {I : Addr} {oI : Obj} {C : Addr} {oC : Obj} {D : Addr} {oD : Obj} {S : NewsL → Prop} {r r' : Value → NewsL → Prop} {y : Value} {s₂ : Shared}
    (h : LCg.CompEnd h₀ L m s₁ I oI C oC D oD S r y s₂) (f : ∀ y n, r y n → r' y n) : LCg.CompEnd h₀ L m s₁ I oI C oC D oD S r' y s₂ :=
  let ⟨h', tk, n, a, b, c, d, e, g⟩ := h
  ⟨h', tk, n, a, b, c, d, e, f _ _ g⟩
/-- a comprehension by a word over its turns -/
theorem comp_ind {prog : Program} {w : World} {A : Around} {h₀ : Heap} {L : Addr} {m : Str → Option Value} {env : Env} {elt : PySem.Expr} {x : Str} {scope : Scope} {cl : List (Str × Addr)} {s : Shared} {S : NewsL → Prop} {P : Nat → Value → Prop} {Fin : List Value → NewsL → Prop}
    (n : Nat) (J : Nat → List Value → NewsL → Prop)
    (turn : ∀ i ys news v I oI C oC D m₂ h tk (E' : Value → Shared → Prop), i < n → J i ys news → P i v → LCg.NsObj oC m₂ → m₂ x = some v → Fr h₀ L h m → News h₀ L h ((I, oI) :: (C, oC) :: (D, LCg.lst ys) :: news) → LCg.Off3 I C D news → ((@Ne Nat I C) ∧ (@Ne Nat I D) ∧ (@Ne Nat C D)) →
      wpAny (model prog w) A (eval elt (compEnvC scope cl C env)) (LCg.CompEnd h₀ L m { s with heap := h, toks := tk } I oI C oC D (LCg.lst ys) S (fun y news' => J (i + 1) (ys ++ [y]) news')) E' { s with heap := h, toks := tk })
    (fin : ∀ ys news, J n ys news → Fin ys news) :
    ∀ k i ys news, i + k = n → J i ys news → LCg.CompRest prog w A h₀ L m env elt x scope cl s S P Fin k i ys news := by
  intro k
  induction k with
  | zero => intro i ys news e j; obtain rfl : i = n := e; exact LCg.CompRest.zero (fin _ _ j)
  | succ k ih =>
    intro i ys news e j
    refine LCg.CompRest.succ fun v I oI C oC D m₂ h tk E' hp ho hx F N off ne => ?_
    exact wpAny_mono (turn i ys news v I oI C oC D m₂ h tk E' (by omega) j hp ho hx F N off ne) (fun y s₂ q => compEnd_mono q fun y n jn => ih (i + 1) _ _ (by omega) jn) fun _ _ e => e
theorem off1_mem {D : Addr} : ∀ {l : NewsL}, LCg.Off1 D l → ∀ p ∈ l, p.1 ≠ D
  | [], _, _, h => nomatch h
  | _ :: _, x, p, h => by
    rcases List.mem_cons.mp h with rfl | h
    · exact x.1
    · exact off1_mem x.2 p h
theorem mem_back {α : Type} {a : α} {l : List α} (h : a ∈ l) : List.Mem a l := h
end
local macro_rules | `(tactic| k_room) => `(tactic| ktr_room)
local macro_rules | `(tactic| k_mem) => `(tactic| (refine mem_back ?_; ktr_member))
local macro_rules | `(tactic| k_all) => `(tactic| assumption)
local macro_rules | `(tactic| k_enter) => `(tactic| (refine' code_def ?k1 ?k2 ?k3 ?k4 ?k5 ?kA ?kF ?kK ?k6 ?k7 ?k8 ?k9 ?kB ?_ ?c2 ?c3 ?c4 ?c5; (case kA => exact rfl); (case kF => exact rfl); (case kK => first | exact rfl | assumption); (case k1 => k_asm); (case k2 => k_asm); (case k3 => k_asm); (case k4 => k_asm); (case k5 => k_asm); (case k6 => k_is); (case k7 => k_is); (case k8 => k_room); (case k9 => first | exact BindsTo.of_eq rfl | exact binds_K (by k_in) rfl (by k_is) rfl rfl rfl | fail "k_enter: no rule for these arguments"); (case c5 => decide); (case kB => exact locs rfl); (case c2 => exact rfl); (case c3 => exact rfl); (case c4 => exact rfl); k_whole; intro g' L' h' FG' F' N' B' X' T'; (try dsimp only); (try k_lift B'); (try k_fold)))
section
open PySem PySem.W PyProof.Rows PySem.Calls PySem.Spec
local macro_rules | `(tactic| is_list) => `(tactic| exact News.isList (by k_asm) (by k_mem))
theorem fmod_lo {a b : Int} (h : 1 ≤ b) : 0 ≤ a.fmod b := by rw [Int.fmod_eq_emod_of_nonneg _ (by omega)]; exact Int.emod_nonneg _ (by omega)
theorem fmod_hi {a b : Int} (h : 1 ≤ b) : a.fmod b < b := by rw [Int.fmod_eq_emod_of_nonneg _ (by omega)]; exact Int.emod_lt_of_pos _ (by omega)
theorem draw_does (w : World) (mean : ExcName → Option Value) (mg mb : Str → Option Value) (pen l : Addr) (vs : List Value) (ns : List Int) (n0 n1 : Nat) (spot seed many : Int) (t u tm : Tok) (rest : NewsL)
    (hl : (l, listOf vs.toArray n1) ∈ rest) (hi : IntsAre vs ns) (hlen : ns.length ≤ 63) (h0 : 0 ≤ spot) (h1 : spot ≤ 200) (h2 : 0 ≤ seed) (h3 : seed < 1009) (hm0 : 1 ≤ many) (hm1 : many ≤ 100) (hr : ∀ p ∈ rest, p.1 ≠ pen) :
    Does w mean mg mb 279 [.ref pen, .int many tm] 4 ((pen, penO l spot t seed u n0) :: rest)
      (fun r news' => ∃ k tk t', r = .int k tk ∧ 0 ≤ k ∧ k < many ∧ news' = (pen, penO l (spot + 1) t' seed u n0) :: rest) := by
  unfold Does
  k_fill
  intro dp un gd cn cs a ccd cl outer A₀ base h₀ L m s Q E B F X N T hk hd hu hret
  refine wpAny_call ?_
  k_dflt ktr_enter
  k_steps
  all_goals (refine hret _ _ _ _ (by assumption) (by assumption) ⟨_, _, _, rfl, fmod_lo (by omega), fmod_hi (by omega), rfl⟩)
end
section
open PySem PySem.W PyProof.Rows PySem.Calls PySem.Spec
/-- what of the pen never turns -/
structure PenOk (vs : List Value) (ns : List Int) (seed : Int) : Prop where
  pInts : IntsAre vs ns
  pLen : ns.length ≤ 63
  pLo : 0 ≤ seed
  pHi : seed < 1009

theorem draw_use {w : World} {mean : ExcName → Option Value} {mg mb : Str → Option Value} {dp un : Nat} {gd : Option (List Code)} {cn : Str} {cs : Scope} {a : Addr} {ccd : Value} {cl : List (Str × Addr)} {outer : List Env} {A₀ : Around} {base h₀ : Heap} {L : Addr} {m : Str → Option Value} {s : Shared}
    {Q E : Value → Shared → Prop} {news : NewsL} {g : Obj → NewsL} {pen l : Addr} {vs : List Value} {ns : List Int} {n0 n1 : Nat} {spot seed many : Int} {t u tm : Tok}
    (B : Below A₀ base outer h₀) (F : Fr h₀ L s.heap m) (X : (Mine.hd.heap_39 w.params).In h₀) (N : News h₀ L s.heap news)
    (T : Top Mine.hd.view_39 (looseW Mine.hd.view_39 [Str.ofString "ToolError", Str.ofString "BARRED"]) mean mg mb h₀) (hk : cs.kind = .function)
    (U : UpdF pen (penO l spot t seed u n0) news g) (hl : (l, listOf vs.toArray n1) ∈ news) (P : PenOk vs ns seed) (h0 : 0 ≤ spot) (h1 : spot ≤ 200) (hm0 : 1 ≤ many) (hm1 : many ≤ 100)
    (hd : dp + 4 < recursionLimit) (hu : un + 8 * 4 < cLine)
    (h : ∀ k tk t' h' tk', 0 ≤ k → k < many → Fr h₀ L h' m → News h₀ L h' (g (penO l (spot + 1) t' seed u n0)) → Q (.int k tk) { s with heap := h', toks := tk' }) :
    wpAny (model PySem.Challenge.rw_nn0355_01.row.prog w) (ktrTop dp un gd cn cs L a ccd cl outer) (call (.ref 279) [.ref pen, .int many tm]) Q E s := by
  obtain ⟨pre, post, rfl, hg, ha, hb⟩ := U.split
  have hl' : (l, listOf vs.toArray n1) ∈ pre ++ post := by
    rcases List.mem_append.mp hl with q | q
    · exact List.mem_append_left _ q
    · rcases List.mem_cons.mp q with q | q
      · exfalso
        injection q with q1 q2
        have e : vs = [.ref l, .int spot t, .int seed u] := by
          injection q2 with _ _ q3 _
          injection q3 with q4 _
          exact congrArg Array.toList q4
        subst e
        have := P.pInts
        cases this
      · exact List.mem_append_right _ q
  refine draw_does w mean mg mb pen l vs ns n0 n1 spot seed many t u tm (pre ++ post) hl' P.pInts P.pLen h0 h1 P.pLo P.pHi hm0 hm1 (fun p hp => (List.mem_append.mp hp).elim (ha p) (hb p)) dp un gd cn cs a ccd cl outer A₀ base h₀ L m s Q E B F X ?_ T hk hd hu ?_
  · intro p hp
    refine N p ?_
    simp only [List.mem_cons, List.mem_append] at hp ⊢
    rcases hp with h | h | h
    · exact .inr (.inl h)
    · exact .inl h
    · exact .inr (.inr h)
  · rintro r news' h' tk' F' N' ⟨k, tk, t', rfl, hk0, hk1, rfl⟩
    refine h k tk t' h' tk' hk0 hk1 F' ?_
    rw [hg]
    intro p hp
    refine N' p ?_
    simp only [List.mem_cons, List.mem_append] at hp ⊢
    rcases hp with h | h | h
    · exact .inr (.inl h)
    · exact .inl h
    · exact .inr (.inr h)

/-- the menu of kinds -/
def menu : List Str := [Str.ofString "a", Str.ofString "'+'", Str.ofString "NUMBER", Str.ofString "b", Str.ofString "$end", Str.ofString "$undefined", Str.ofString "c9"]

local macro_rules | `(tactic| is_list) => `(tactic| exact News.isList (by k_asm) (by k_mem))
local macro_rules | `(tactic| walk_at "call ref") => `(tactic| (k_here; (with_reducible show wpAny _ _ (call (Value.ref 279) [Value.ref _, Value.int _ _]) _ _ _); k_dflt (refine' draw_use (by k_asm) (by k_asm) (by k_asm) (by k_asm) (by k_asm) (by first | exact rfl | assumption) (by k_updF) (by k_mem) (by assumption) (by omega) (by omega) (by omega) (by omega) (by ktr_room) (by ktr_units) ?_); intro k9 t9 u9 h9 tk9 lo9 hi9 F9 N9; (try dsimp only); (try k_fold)))

local macro_rules | `(tactic| walk_at "CompSrc") => `(tactic| (refine Hold.mk ?_))
theorem some_does (w : World) (mean : ExcName → Option Value) (mg mb : Str → Option Value) (pen l : Addr) (vs : List Value) (ns : List Int) (n0 n1 : Nat) (spot seed : Int) (t u tm : Tok) (rest : NewsL)
    (hl : (l, listOf vs.toArray n1) ∈ rest) (P : PenOk vs ns seed) (h0 : 0 ≤ spot) (h1 : spot ≤ 190) (hr : ∀ p ∈ rest, p.1 ≠ pen) :
    Does w mean mg mb 284 [.ref pen, .int 8 tm] 6 ((pen, penO l spot t seed u n0) :: rest)
      (fun r news' => ∃ D ws kinds t', r = .ref D ∧ StrsAre ws kinds ∧ (∀ k ∈ kinds, k ∈ menu) ∧ kinds.length ≤ 7 ∧ (∀ p ∈ (pen, penO l spot t seed u n0) :: rest, p.1 ≠ D) ∧
        news' = (D, listOf ws.toArray ws.length) :: (pen, penO l (spot + 1 + kinds.length) t' seed u n0) :: rest) := by
  unfold Does
  k_fill
  intro dp un gd cn cs a ccd cl outer A₀ base h₀ L m s Q E B F X N T hk hd hu hret
  refine wpAny_call ?_
  k_dflt (refine' code_defC ?k1 ?k2 ?k3 ?k4 ?k5 ?kA ?kF ?kK ?k6 ?k7 ?k8 ?k9 ?kB ?kD ?_ ?c2 ?c3 ?c4; (case kA => exact rfl); (case kF => exact rfl); (case kK => assumption); (case k1 => k_asm); (case k2 => k_asm); (case k3 => k_asm); (case k4 => k_asm); (case k5 => k_asm); (case k6 => k_is); (case k7 => k_is); (case k8 => ktr_room); (case k9 => first | exact BindsTo.of_eq rfl | exact binds_K (by k_in) rfl (by k_is) rfl rfl rfl | fail "k_enter: no rule for these arguments"); (case kB => exact rfl); (case kD => decide +kernel); (case c2 => exact rfl); (case c3 => exact rfl); (case c4 => exact rfl); k_whole; intro g' L' h' tk' cells' FG' F' N' Y' B' X' T' l1; (try k_lt l1); k_cells Y'; (try simp only [List.cons_append, List.nil_append] at N'); (try dsimp only); (try k_lift B'); (try k_fold))
  k_steps
  refine Hold.out ?_
  (rename IsRange _ _ _ _ _ _ _ _ => hR); (rename Fr g' L' _ _ => hF); (rename News g' L' _ _ => hN); (rename Obj => oc); (rename _ < (8 : Int) => hi9)
  refine LCg.CompSrc.range (by rfl) hF hN hR (small_one (by omega) (by omega) (by omega) (by omega)) (rangeSize_nat _ _) (by rw [PySem.sizeLine_eq]; omega) ?_
  intro g2
  refine comp_ind _ (fun i ys nw => ∃ kinds t', StrsAre ys kinds ∧ kinds.length = i ∧ (∀ k ∈ kinds, k ∈ menu) ∧ nw = (L' + 1, oc) :: (pen, penO l (spot + 1 + (i : Int)) t' seed u n0) :: rest) ?_ ?_ _ 0 [] _ (Nat.zero_add _) ⟨[], _, .nil, rfl, (fun _ h => nomatch h), by rw [Int.natCast_zero, Int.add_zero]⟩
  · rintro i ys nw v I oI C oC D m₂ h3 tk3 E' hlt ⟨kinds, t3, hs3, rfl, hm3, rfl⟩ ⟨tt, rfl⟩ hC3 hx3 F3 N3 off3 ne3
    simp only [LCg.Off3] at off3
    k_fold
    k_steps
    all_goals (
      (rename Fr g' L' _ _ => hF9); (rename News g' L' _ _ => hN9)
      refine LCg.CompEnd.intro hF9 hN9 _ (fun _ h => h) off3 trivial ⟨kinds ++ [_], _, StrsAre.append' hs3 (.cons _ _ .nil), by rw [List.length_append]; rfl, ?_, congrArg (fun z => (L' + 1, oc) :: (pen, penO l z _ seed u n0) :: rest) (by omega)⟩
      intro k hk
      rcases List.mem_append.mp hk with h | h
      · exact hm3 k h
      · rw [List.mem_singleton.mp h]
        repeat (first | exact List.Mem.head _ | refine List.Mem.tail _ ?_))
  · rintro ys nw ⟨kinds, t3, hs3, hk3, hm3, rfl⟩
    k_steps
    (rename Fr h₀ L _ m => hF9); (rename News h₀ L _ _ => hN9); (rename _ ∧ _ ∧ LCg.Off1 _ _ => ho9)
    refine hret _ _ _ _ hF9 (fun p hp => hN9 p ?_) ⟨_, ys, kinds, t3, rfl, hs3, hm3, by omega, ?_, rfl⟩
    · simp only [List.mem_cons] at hp ⊢
      rcases hp with h | h | h
      · exact .inl h
      · refine .inr (.inr (.inl (h.trans ?_)))
        rw [hk3]
      · exact .inr (.inr (.inr h))
    · intro p hp
      rcases List.mem_cons.mp hp with rfl | hp
      · exact ho9.2.1
      · exact off1_mem ho9.2.2 p hp
end
section
open PySem PySem.W PyProof.Rows PySem.Calls PySem.Spec
/-- the name of a kind as messages write it -/
def plainS (k : Str) : Str := if k = Str.ofString "$end" then Str.ofString "end of file" else if k = Str.ofString "$undefined" then Str.ofString "invalid token" else k

theorem plain_does (w : World) (mean : ExcName → Option Value) (mg mb : Str → Option Value) (k : Str) (t : Tok) (rest : NewsL) :
    Does w mean mg mb 138 [.str k t] 2 rest (fun r news' => ∃ t', r = .str (plainS k) t' ∧ news' = rest) := by
  unfold Does
  k_fill
  intro dp un gd cn cs a ccd cl outer A₀ base h₀ L m s Q E B F X N T hk hd hu hret
  refine wpAny_call ?_
  k_dflt ktr_enter
  k_steps
  · (rename _ = true => h1)
    refine hret _ _ _ _ (by assumption) (by assumption) ⟨_, congrArg (fun z => Value.str z _) ?_, rfl⟩
    rw [plainS, if_pos (by simpa using h1)]
  · (rename _ = true => h2); (rename _ = false => h1)
    refine hret _ _ _ _ (by assumption) (by assumption) ⟨_, congrArg (fun z => Value.str z _) ?_, rfl⟩
    rw [plainS, if_neg (by simpa using h1), if_pos (by simpa using h2)]
  · (rename _ = false => h2); (rename (k == Str.ofString "$end") = false => h1)
    refine hret _ _ _ _ (by assumption) (by assumption) ⟨_, congrArg (fun z => Value.str z _) ?_, rfl⟩
    rw [plainS, if_neg (by simpa using h1), if_neg (by simpa using h2)]
theorem flat_is (hp : Heap) {v : Value} {d : PyData} {x : Str} (h : PyProof.V.Flat v d) (e : d = .str x) : ∃ t, v = .str x t := by
  subst e
  cases h hp
  exact ⟨_, rfl⟩
theorem plain_look (k : Str) (t1 t2 t3 t4 : Tok) : (Spec.lookup (PyData.str k) (strData [(Value.str (Str.ofString "$end") t1, Value.str (Str.ofString "end of file") t2), (Value.str (Str.ofString "$undefined") t3, Value.str (Str.ofString "invalid token") t4)])).getD (PyData.str k) = PyData.str (plainS k) := by
  simp only [strData, Spec.lookup, PyProof.V.same_str, datumOf, Option.getD_some, decide_eq_true_eq, plainS]
  by_cases h1 : k = Str.ofString "$end"
  · rw [if_pos h1.symm, if_pos h1]; rfl
  · rw [if_neg (fun e => h1 e.symm), if_neg h1]
    by_cases h2 : k = Str.ofString "$undefined"
    · rw [if_pos h2.symm, if_pos h2]; rfl
    · rw [if_neg (fun e => h2 e.symm), if_neg h2]; rfl
theorem lawplain_does (w : World) (mean : ExcName → Option Value) (mg mb : Str → Option Value) (k : Str) (t : Tok) (rest : NewsL) :
    Does w mean mg mb 291 [.str k t] 2 rest (fun r news' => ∃ t', r = .str (plainS k) t' ∧ news' = rest) := by
  unfold Does
  k_fill
  intro dp un gd cn cs a ccd cl outer A₀ base h₀ L m s Q E B F X N T hk hd hu hret
  refine wpAny_call ?_
  k_dflt ktr_enter
  k_steps
  (rename PyProof.V.Flat _ _ => hv)
  obtain ⟨t', rfl⟩ := flat_is s.heap hv (plain_look _ _ _ _ _)
  (rename Fr h₀ L _ m => hF9); (rename News h₀ L _ _ => hN9)
  exact hret _ _ _ _ hF9 (fun p hp => hN9 p (List.mem_cons_of_mem _ hp)) ⟨_, rfl, rfl⟩
end
section
open PySem PySem.W PyProof.Rows PySem.Calls PySem.Spec
theorem menu_ok {k : Str} (h : k ∈ menu) : PyData.strOk k = true ∧ k.length ≤ 10 ∧ (plainS k).length ≤ 13 ∧ PyData.strOk (plainS k) = true := by
  simp only [menu, List.mem_cons, List.not_mem_nil, or_false] at h
  rcases h with rfl | rfl | rfl | rfl | rfl | rfl | rfl <;> decide +kernel
section
variable {w : World} {mean : ExcName → Option Value} {mg mb : Str → Option Value} {dp un : Nat} {gd : Option (List Code)} {cn : Str} {cs : Scope} {a : Addr} {ccd : Value} {cl : List (Str × Addr)} {outer : List Env} {A A₀ : Around} {base h₀ : Heap} {L : Addr} {m : Str → Option Value} {s : Shared}
    {Q E : Value → Shared → Prop} {news : NewsL} {g : Obj → NewsL} {pen l : Addr} {vs : List Value} {ns : List Int} {n0 n1 : Nat} {spot seed : Int} {t u tm : Tok}
theorem kinds_item {value slice : PySem.Expr} {i : Int} (F : Fr h₀ L s.heap m) (X : (Mine.hd.heap_39 w.params).In h₀) (h0 : 0 ≤ i) (h7 : i < 7) (h : ∀ k t, k ∈ menu → Q (.str k t) s)
    (hs : subscripted slice false (.ref 272) (.int i u) = operate [.ref 272, .int i u] (getItem (.ref 272) (.int i u))) :
    wpAny (model PySem.Challenge.rw_nn0355_01.row.prog w) A (subscriptTail value slice (.ref 272) (.int i u)) Q E s := by
  revert X
  k_fill
  intro X
  have c : i = 0 ∨ i = 1 ∨ i = 2 ∨ i = 3 ∨ i = 4 ∨ i = 5 ∨ i = 6 := by omega
  rcases c with rfl | rfl | rfl | rfl | rfl | rfl | rfl <;>
  · refine topTup_K F X (by k_dflt k_is) (by decide) (by decide) (by rfl) (by rfl) (h _ _ ?_) hs
    repeat (first | exact List.Mem.head _ | refine List.Mem.tail _ ?_)

theorem plain_use {k : Str}
    (B : Below A₀ base outer h₀) (F : Fr h₀ L s.heap m) (X : (Mine.hd.heap_39 w.params).In h₀) (N : News h₀ L s.heap news)
    (T : Top Mine.hd.view_39 (looseW Mine.hd.view_39 [Str.ofString "ToolError", Str.ofString "BARRED"]) mean mg mb h₀) (hk : cs.kind = .function)
    (hd : dp + 2 < recursionLimit) (hu : un + 8 * 2 < cLine) (h : ∀ t' h' tk', Fr h₀ L h' m → News h₀ L h' news → Q (.str (plainS k) t') { s with heap := h', toks := tk' }) :
    wpAny (model PySem.Challenge.rw_nn0355_01.row.prog w) (ktrTop dp un gd cn cs L a ccd cl outer) (call (.ref 138) [.str k t]) Q E s :=
  plain_does w mean mg mb k t news dp un gd cn cs a ccd cl outer A₀ base h₀ L m s Q E B F X N T hk hd hu fun _ _ h' tk' F' N' ⟨t', e1, e2⟩ => by subst e1 e2; exact h t' h' tk' F' N'
theorem lawplain_use {k : Str}
    (B : Below A₀ base outer h₀) (F : Fr h₀ L s.heap m) (X : (Mine.hd.heap_39 w.params).In h₀) (N : News h₀ L s.heap news)
    (T : Top Mine.hd.view_39 (looseW Mine.hd.view_39 [Str.ofString "ToolError", Str.ofString "BARRED"]) mean mg mb h₀) (hk : cs.kind = .function)
    (hd : dp + 2 < recursionLimit) (hu : un + 8 * 2 < cLine) (h : ∀ t' h' tk', Fr h₀ L h' m → News h₀ L h' news → Q (.str (plainS k) t') { s with heap := h', toks := tk' }) :
    wpAny (model PySem.Challenge.rw_nn0355_01.row.prog w) (ktrTop dp un gd cn cs L a ccd cl outer) (call (.ref 291) [.str k t]) Q E s :=
  lawplain_does w mean mg mb k t news dp un gd cn cs a ccd cl outer A₀ base h₀ L m s Q E B F X N T hk hd hu fun _ _ h' tk' F' N' ⟨t', e1, e2⟩ => by subst e1 e2; exact h t' h' tk' F' N'
theorem pen_apart (P : PenOk vs ns seed) {pre post : NewsL} (hl : (l, listOf vs.toArray n1) ∈ pre ++ (pen, penO l spot t seed u n0) :: post) : (l, listOf vs.toArray n1) ∈ pre ++ post := by
  rcases List.mem_append.mp hl with q | q
  · exact List.mem_append_left _ q
  · rcases List.mem_cons.mp q with q | q
    · exfalso
      injection q with q1 q2
      have e : vs = [.ref l, .int spot t, .int seed u] := by
        injection q2 with _ _ q3 _
        injection q3 with q4 _
        exact congrArg Array.toList q4
      subst e
      have := P.pInts
      cases this
    · exact List.mem_append_right _ q
theorem mem_turn {pre post : NewsL} {x p : Addr × Obj} (h : p ∈ x :: (pre ++ post)) : p ∈ pre ++ x :: post := by
  simp only [List.mem_cons, List.mem_append] at h ⊢
  rcases h with h | h | h
  · exact .inr (.inl h)
  · exact .inl h
  · exact .inr (.inr h)
theorem mem_turn' {pre post : NewsL} {x p : Addr × Obj} (h : p ∈ pre ++ x :: post) : p ∈ x :: (pre ++ post) := by
  simp only [List.mem_cons, List.mem_append] at h ⊢
  rcases h with h | h | h
  · exact .inr (.inl h)
  · exact .inl h
  · exact .inr (.inr h)
theorem some_use 
    (B : Below A₀ base outer h₀) (F : Fr h₀ L s.heap m) (X : (Mine.hd.heap_39 w.params).In h₀) (N : News h₀ L s.heap news)
    (T : Top Mine.hd.view_39 (looseW Mine.hd.view_39 [Str.ofString "ToolError", Str.ofString "BARRED"]) mean mg mb h₀) (hk : cs.kind = .function)
    (U : UpdF pen (penO l spot t seed u n0) news g) (hl : (l, listOf vs.toArray n1) ∈ news) (P : PenOk vs ns seed) (h0 : 0 ≤ spot) (h1 : spot ≤ 190)
    (hd : dp + 6 < recursionLimit) (hu : un + 8 * 6 < cLine)
    (h : ∀ D ws kinds t' h' tk', StrsAre ws kinds → (∀ k ∈ kinds, k ∈ menu) → kinds.length ≤ 7 → (∀ p ∈ news, p.1 ≠ D) → Fr h₀ L h' m → News h₀ L h' ((D, listOf ws.toArray ws.length) :: g (penO l (spot + 1 + kinds.length) t' seed u n0)) → Q (.ref D) { s with heap := h', toks := tk' }) :
    wpAny (model PySem.Challenge.rw_nn0355_01.row.prog w) (ktrTop dp un gd cn cs L a ccd cl outer) (call (.ref 284) [.ref pen, .int 8 tm]) Q E s := by
  obtain ⟨pre, post, rfl, hg, ha, hb⟩ := U.split
  refine some_does w mean mg mb pen l vs ns n0 n1 spot seed t u tm (pre ++ post) (pen_apart P hl) P h0 h1 (fun p hp => (List.mem_append.mp hp).elim (ha p) (hb p)) dp un gd cn cs a ccd cl outer A₀ base h₀ L m s Q E B F X (fun p hp => N p (mem_turn hp)) T hk hd hu ?_
  rintro r news' h' tk' F' N' ⟨D, ws, kinds, t', rfl, hs, hm, h7, hD, rfl⟩
  refine h D ws kinds t' h' tk' hs hm h7 (fun p hp => hD p (mem_turn' hp)) F' ?_
  rw [hg]
  intro p hp
  refine N' p ?_
  rcases List.mem_cons.mp hp with rfl | hp
  · exact List.mem_cons_self
  · exact List.mem_cons_of_mem _ (mem_turn' hp)
end
end
section
open PySem PySem.W PyProof.Rows PySem.Calls PySem.Spec
abbrev ent (P : Params) (n : String) (a : Tok) (v : Value) : DictEntry := ⟨PyData.keyHash P (Str.ofString n), .str (Str.ofString n) a, v⟩
/-- a Token's names -/
abbrev tokD (P : Params) (k : Str) (tk : Tok) (x : Str) (tx a b c d : Tok) : Obj := dictOf [ent P "kind" a (.str k tk), ent P "text" b (.str x tx), ent P "at" c .none, ent P "worth" d (.str x tx)] 4
/-- a Fault's names -/
abbrev fltD (P : Params) (tok : Addr) (st : Int) (ts : Tok) (ex : Addr) (i : Tok) (a b c d : Tok) : Obj := dictOf [ent P "token" a (.ref tok), ent P "state" b (.int st ts), ent P "expected" c (.ref ex), ent P "index" d (.int (-1) i)] 4
/-- a TokenRow's names -/
abbrev rowD (P : Params) (ts : Addr) (i : Int) (ti a b : Tok) : Obj := dictOf [ent P "tokens" a (.ref ts), ent P "at" b (.int i ti)] 2
section
variable {w : World} {mean : ExcName → Option Value} {mg mb : Str → Option Value} {dp un : Nat} {gd : Option (List Code)} {cn : Str} {cs : Scope} {a : Addr} {ccd : Value} {cl : List (Str × Addr)} {outer : List Env} {A A₀ : Around} {base h₀ : Heap} {L : Addr} {m : Str → Option Value} {s : Shared}
    {Q E : Value → Shared → Prop} {news : NewsL}
theorem token_new {k x : Str} {tk tx : Tok}
    (B : Below A₀ base outer h₀) (F : Fr h₀ L s.heap m) (X : (Mine.hd.heap_39 w.params).In h₀) (N : News h₀ L s.heap news)
    (T : Top Mine.hd.view_39 (looseW Mine.hd.view_39 [Str.ofString "ToolError", Str.ofString "BARRED"]) mean mg mb h₀) (hk : cs.kind = .function)
    (hd : dp + 2 < recursionLimit)
    (h : ∀ x' dx a b c d h' tk', Fr h₀ L h' m → News h₀ L h' ((x', instObj 93 dx) :: (dx, tokD w.params k tk x tx a b c d) :: news) → (∀ p ∈ news, p.1 < dx) → dx < x' → Q (.ref x') { s with heap := h', toks := tk' }) :
    wpAny (model PySem.Challenge.rw_nn0355_01.row.prog w) (ktrTop dp un gd cn cs L a ccd cl outer) (call (.ref 93) [.str k tk, .str x tx, .none]) Q E s := by
  revert X
  k_fill
  intro X
  k_steps
  (rename Fr h₀ L _ m => hF9); (rename News h₀ L _ _ => hN9)
  exact h _ _ _ _ _ _ _ _ hF9 hN9 (by assumption) (by assumption)
theorem fault_new {t ex : Addr} {st : Int} {ts : Tok}
    (B : Below A₀ base outer h₀) (F : Fr h₀ L s.heap m) (X : (Mine.hd.heap_39 w.params).In h₀) (N : News h₀ L s.heap news)
    (T : Top Mine.hd.view_39 (looseW Mine.hd.view_39 [Str.ofString "ToolError", Str.ofString "BARRED"]) mean mg mb h₀) (hk : cs.kind = .function)
    (hd : dp + 2 < recursionLimit)
    (h : ∀ x' dx i a b c d h' tk', Fr h₀ L h' m → News h₀ L h' ((x', instObj 127 dx) :: (dx, fltD w.params t st ts ex i a b c d) :: news) → (∀ p ∈ news, p.1 < dx) → dx < x' → Q (.ref x') { s with heap := h', toks := tk' }) :
    wpAny (model PySem.Challenge.rw_nn0355_01.row.prog w) (ktrTop dp un gd cn cs L a ccd cl outer) (call (.ref 127) [.ref t, .int st ts, .ref ex]) Q E s := by
  revert X
  k_fill
  intro X
  k_steps
  (rename Fr h₀ L _ m => hF9); (rename News h₀ L _ _ => hN9)
  exact h _ _ _ _ _ _ _ _ _ hF9 hN9 (by assumption) (by assumption)
theorem row_new {t : Addr}
    (B : Below A₀ base outer h₀) (F : Fr h₀ L s.heap m) (X : (Mine.hd.heap_39 w.params).In h₀) (N : News h₀ L s.heap news)
    (T : Top Mine.hd.view_39 (looseW Mine.hd.view_39 [Str.ofString "ToolError", Str.ofString "BARRED"]) mean mg mb h₀) (hk : cs.kind = .function)
    (hd : dp + 2 < recursionLimit)
    (h : ∀ x' dx i a b h' tk', Fr h₀ L h' m → News h₀ L h' ((x', instObj 162 dx) :: (dx, rowD w.params t 0 i a b) :: news) → (∀ p ∈ news, p.1 < dx) → dx < x' → Q (.ref x') { s with heap := h', toks := tk' }) :
    wpAny (model PySem.Challenge.rw_nn0355_01.row.prog w) (ktrTop dp un gd cn cs L a ccd cl outer) (call (.ref 162) [.ref t]) Q E s := by
  revert X
  k_fill
  intro X
  k_steps
  (rename Fr h₀ L _ m => hF9); (rename News h₀ L _ _ => hN9)
  exact h _ _ _ _ _ _ _ hF9 hN9 (by assumption) (by assumption)
end
end
section
open PySem PySem.W PyProof.Rows PySem.Calls PySem.Spec
/-- the words of a fault's message -/
def msg0 (k : Str) : Str := Str.ofString "syntax error, unexpected " ++ plainS k
def msgS (k : Str) (names : List Str) : Str := if 0 < names.length ∧ names.length ≤ 4 then msg0 k ++ Str.ofString ", expecting " ++ Str.join (Str.ofString " or ") (names.map plainS) else msg0 k
theorem join_use {prog : Program} {w : World} {A : Around} {E : Value → Shared → Prop} {s : Shared} {x : Str} {t : Tok} {Q : Value → Shared → Prop} {D : Addr} {items : Array Value} {ys : List Str} (hl : s.heap.IsList D items) (hi : StrsAre items.toList ys)
    (hB : ∀ y ∈ ys, y.length ≤ 13) (hn : ys.length ≤ 4) (hx : x.length = 4) (h : ∀ t' k, (Str.join x ys).length ≤ 100 → Q (.str (Str.join x ys) t') { s with toks := k }) : wpAny (model prog w) A (call (.builtin "str.join") [.str x t, .ref D]) Q E s := by
  have h1 := StrLaws.sumLen_le ys hB
  have h2 := StrLaws.join_length_le x ys
  rw [hx] at h2
  refine join_list hl hi (by rw [hx]; omega) fun t' k => ?_
  show Q (.str (Builtin.Str.glued x ys) t') _
  rw [StrLaws.glued_eq_join]
  exact h t' k (by omega)
local macro_rules | `(tactic| walk_at "call ref") => `(tactic| (k_here; (with_reducible show wpAny _ _ (call (Value.ref 138) [Value.str _ _]) _ _ _); k_dflt (refine' plain_use (by k_asm) (by k_asm) (by k_asm) (by k_asm) (by k_asm) (by first | exact rfl | assumption) (by ktr_room) (by ktr_units) ?_); intro u9 h9 tk9 F9 N9; (try dsimp only); (try k_sweep); (try k_fold)))
local macro_rules | `(tactic| walk_at "call builtin:len") => `(tactic| (k_here; (with_reducible show wpAny _ _ (call (Value.builtin "len") [Value.ref _]) _ _ _); k_dflt (refine' len_strsA (by exact News.isList (by k_asm) (by k_mem)) (by assumption) (by omega) ?_)))
local macro_rules | `(tactic| walk_at "CompSrc") => `(tactic| (refine Hold.mk ?_))
local macro_rules | `(tactic| walk_at "call builtin:str.join") => `(tactic| (k_here; (with_reducible show wpAny _ _ (call (Value.builtin "str.join") [Value.str _ _, Value.ref _]) _ _ _); k_dflt (refine' join_use (by exact News.isList (by k_asm) (by k_mem)) (by assumption) (by assumption) (by assumption) (by decide +kernel) ?_); intro t9 k9 l9; (try k_fold)))
section
variable {w : World} {mean : ExcName → Option Value} {mg mb : Str → Option Value} {dp un : Nat} {gd : Option (List Code)} {cn : Str} {cs : Scope} {a : Addr} {ccd : Value} {cl : List (Str × Addr)} {outer : List Env} {A A₀ : Around} {base h₀ : Heap} {L : Addr} {m : Str → Option Value} {s : Shared}
    {Q E : Value → Shared → Prop} {news : NewsL}
theorem message_use {x d t dt ex : Addr} {st : Int} {ts i d1 d2 d3 d4 tk tx e1 e2 e3 e4 : Tok} {k y : Str} {ws : List Value} {names : List Str} {n : Nat}
    (B : Below A₀ base outer h₀) (F : Fr h₀ L s.heap m) (X : (Mine.hd.heap_39 w.params).In h₀) (N : News h₀ L s.heap news)
    (T : Top Mine.hd.view_39 (looseW Mine.hd.view_39 [Str.ofString "ToolError", Str.ofString "BARRED"]) mean mg mb h₀) (hk : cs.kind = .function)
    (hd : dp + 4 < recursionLimit) (hu : un + 8 * 4 < cLine)
    (m1 : (x, instObj 127 d) ∈ news) (m2 : (d, fltD w.params t st ts ex i d1 d2 d3 d4) ∈ news) (m3 : (t, instObj 93 dt) ∈ news) (m4 : (dt, tokD w.params k tk y tx e1 e2 e3 e4) ∈ news) (m5 : (ex, listOf ws.toArray n) ∈ news)
    (hs : StrsAre ws names) (hm : ∀ z ∈ names, z ∈ menu) (hkm : k ∈ menu) (hn : names.length ≤ 7)
    (h : ∀ t' h' tk', Fr h₀ L h' m → News h₀ L h' news → Q (.str (msgS k names) t') { s with heap := h', toks := tk' }) :
    wpAny (model PySem.Challenge.rw_nn0355_01.row.prog w) (ktrTop dp un gd cn cs L a ccd cl outer) (call (.ref 124) [.ref x]) Q E s := by
  revert X
  k_fill
  intro X
  obtain ⟨o1, o2, o3, o4⟩ := menu_ok hkm
  refine wpAny_call ?_
  k_dflt k_enter
  k_steps
  · refine Hold.out ?_
    (rename Fr _ _ _ _ => hF); (rename News _ _ _ _ => hN)
    have hz : ws.length ≤ 7 := by rw [hs.length]; exact hn
    refine LCg.CompSrc.ledger (by rfl) hF hN m5 (by rw [PySem.sizeLine_eq, List.size_toArray]; omega) ?_
    intro g2
    refine comp_ind _ (fun i ys nw => StrsAre ys ((names.take i).map plainS) ∧ nw = news) ?_ ?_ _ 0 [] _ (Nat.zero_add _) ⟨.nil, rfl⟩
    · rintro i ys nw v I oI C oC D m₂ h3 tk3 E' hlt ⟨hs3, rfl⟩ hv hC3 hx3 F3 N3 off3 ne3
      obtain ⟨y', t', rfl, hy⟩ := StrsAre.item hs i v (by simpa using hv)
      k_fold
      k_steps
      (rename Fr _ _ _ _ => hF9); (rename News _ _ _ _ => hN9)
      refine LCg.CompEnd.intro hF9 hN9 _ (fun _ h => h) off3 (.inr ⟨_, m5, rfl, _, rfl⟩) ⟨?_, rfl⟩
      rw [List.take_add_one, hy, List.map_append]
      exact StrsAre.append' hs3 (.cons _ _ .nil)
    · rintro ys nw ⟨hs3, rfl⟩
      have hs4 : StrsAre ys (names.map plainS) := by
        rw [List.take_of_length_le (by rw [List.size_toArray, hs.length]; exact Nat.le_refl _)] at hs3
        exact hs3
      have hB : ∀ y ∈ names.map plainS, y.length ≤ 13 := by
        intro y hy
        obtain ⟨z, hz, rfl⟩ := List.mem_map.mp hy
        exact (menu_ok (hm z hz)).2.2.1
      have hB4 : (names.map plainS).length ≤ 4 := by rw [List.length_map]; omega
      k_steps
      (rename Fr h₀ L _ m => hF9); (rename News h₀ L _ _ => hN9)
      have hm9 : msgS k names = Str.ofString "syntax error, unexpected " ++ plainS k ++ Str.ofString ", expecting " ++ (Str.ofString " or ").join (List.map plainS names) := by
        rw [msgS, if_pos ⟨by omega, by omega⟩]; rfl
      rw [← hm9]
      exact h _ _ _ hF9 (fun p hp => hN9 p (List.mem_cons_of_mem _ hp))
  · (rename Fr h₀ L _ m => hF9); (rename News h₀ L _ _ => hN9)
    have hm9 : msgS k names = Str.ofString "syntax error, unexpected " ++ plainS k := by
      rw [msgS, if_neg (by omega)]; rfl
    rw [← hm9]
    exact h _ _ _ hF9 hN9
  · (rename Fr h₀ L _ m => hF9); (rename News h₀ L _ _ => hN9)
    have hm9 : msgS k names = Str.ofString "syntax error, unexpected " ++ plainS k := by
      rw [msgS, if_neg (by omega)]; rfl
    rw [← hm9]
    exact h _ _ _ hF9 hN9
end
end
section
open PySem PySem.W PyProof.Rows PySem.Calls PySem.Spec
theorem allObj_mono {k k' : NewsL → Prop} (f : ∀ its, k its → k' its) : ∀ {ws : List (Addr × String)}, AllObj ws k → AllObj ws k' := by
  intro ws
  induction ws generalizing k k' with
  | nil => exact fun h => f _ h
  | cons w r ih => exact fun h o ho => ih (fun its q => f _ q) (h o ho)
theorem unrEnd_mono {h₀ : Heap} {L : Addr} {s₁ : Shared} {its : NewsL} {r r' : (Str → Option Value) → NewsL → Prop} {s₂ : Shared} (f : ∀ m n, r m n → r' m n) (h : UnrEndW h₀ L s₁ its r s₂) : UnrEndW h₀ L s₁ its r' s₂ :=
  let ⟨h', tk, m', n', a, b, c, d, e⟩ := h
  ⟨h', tk, m', n', a, b, c, d, f _ _ e⟩
theorem unrPost_mono {h₀ : Heap} {L : Addr} {s₁ : Shared} {its : NewsL} {r r' : (Str → Option Value) → NewsL → Prop} {Q : Flow → Shared → Prop} {f : Flow} {s₂ : Shared} (g : ∀ m n, r m n → r' m n) (h : UnrPostW h₀ L s₁ its r Q f s₂) : UnrPostW h₀ L s₁ its r' Q f s₂ := by
  cases f with
  | ret v => exact h
  | brk => exact h
  | next => exact unrEnd_mono g h
  | cont => exact unrEnd_mono g h
section
variable {prog : Program} {w : World} {A : Around} {E : Value → Shared → Prop} {s : Shared} {env : Env} {h₀ : Heap} {target : PySem.Expr} {body : List Stmt} {Q : Flow → Shared → Prop} {ws : List (Addr × String)} {keep : NewsL}
/-- a loop over items by a word of what is left, the frame and the ledger -/
theorem items_ind (J : List Itm → (Str → Option Value) → NewsL → Prop) (hkeep : ∀ xs m n, J xs m n → SubL keep n)
    (turn : ∀ a r m n v h tk, J (a :: r) m n → a.Is v h → Fr h₀ env.locals h m → AllObj ws (fun its => News h₀ env.locals h (its ++ n) →
      wpAny (model prog w) A (assign target env v) (fun _ s₂ => wpAny (model prog w) A (execs body env) (UnrPostW h₀ env.locals { s with heap := h, toks := tk } its (fun m' n' => J r m' n') Q) E s₂) E { s with heap := h, toks := tk }))
    (fin : ∀ m n h tk, J [] m n → Fr h₀ env.locals h m → News h₀ env.locals h n → Q .next { s with heap := h, toks := tk }) :
    ∀ xs m n, J xs m n → ItemsRest prog w A E h₀ env target body Q s ws keep xs m n := by
  intro xs
  induction xs with
  | nil => exact fun m n j h tk F N => fin m n h tk j F N
  | cons a r ih =>
    intro m n j v h tk ha F
    exact allObj_mono (fun its q N => wpAny_mono (q N) (fun _ s₂ q₂ => wpAny_mono q₂ (fun f s₃ q₃ => unrPost_mono (fun m' n' j' => ⟨hkeep _ _ _ j', ih m' n' j'⟩) q₃) fun _ _ e => e) fun _ _ e => e) (turn a r m n v h tk j ha F)
theorem unrEnd_intro {L : Addr} {its : NewsL} {r : (Str → Option Value) → NewsL → Prop} {s₁ : Shared} {h' : Heap} {tk : Nat} {m' : Str → Option Value} {all : NewsL} (F : Fr h₀ L h' m') (N : News h₀ L h' all) (n' : NewsL) (hi : ∀ p ∈ its, p ∈ all) (hn : ∀ p ∈ n', p ∈ all)
    (off : ∀ p ∈ n', ∀ q ∈ its, p.1 ≠ q.1) (hr : r m' n') : UnrEndW h₀ L s₁ its r { s₁ with heap := h', toks := tk } :=
  ⟨h', tk, m', n', rfl, F, fun p hp => N p ((List.mem_append.mp hp).elim (hi p) (hn p)), off, hr⟩
/-- a loop over a range -/
theorem iter_rangeTurns {x : Str} {px : Pos} {r : Addr} {a₀ b₀ : Int} {t₀ u₀ v₀ : Tok} {n : Nat} {m₀ : Str → Option Value} {news : NewsL}
    (hh : A.handled = none) (hr : IsRange s.heap r a₀ b₀ 1 t₀ u₀ v₀) (hsmall : Builtin.Range.small a₀ b₀ 1 = true) (hn : Builtin.Range.rangeSize a₀ b₀ 1 = (n : Int)) (F : Fr h₀ env.locals s.heap m₀) (N : News h₀ env.locals s.heap news)
    (rest₀ : ∀ I : Addr, (∀ p ∈ news, p.1 < I) → ItemsRest prog w A E h₀ env (.Name x px) body Q s [(I, "range_iterator")] [] ((List.range n).map fun i : Nat => Itm.tok (fun t => .int (a₀ + (i : Int)) t)) m₀ news) :
    wpAny (model prog w) A (pyIter (.ref r)) (fun it s₂ => TurnsAt prog w A h₀ env (.Name x px) body Q E it s₂) E s := by
  refine wpAny_pyIter_range hr hsmall ?_
  have W : Walks prog w A s.heap.objs.size [s.heap.objs.size] [s.heap.objs.size] n (fun i v => i < n ∧ ∃ t, v = .int (a₀ + i * 1) t)
      (fun i h => IsRangeIter h s.heap.objs.size (a₀ + (i : Nat) * 1) ((n : Int) - (i : Nat)) 1) := (Walks.range hh _ a₀ 1 n).bound
  refine ktu_core (tk0 := s.toks) (keep := []) (ws := [(s.heap.objs.size, "range_iterator")]) (KTurns.ofWalks W fun i v s Q E st q => wpAny_pure q) (by simp) (fun i v h hp => ?_) (fun i h st => ?_) (fun b hb => ?_) (fun b hb => by simpa using hb) (fun b hb => .inl (by simpa using hb)) ?_ (fun p hp hI => ?_) ?_ (F.push _) (fun p hp => ⟨Heap.get?_push_of_some _ (N p hp).1, (N p hp).2⟩) trivial (rest₀ _ fun p hp => Heap.lt_size (N p hp).1)
  · obtain ⟨hlt, t, rfl⟩ := hp
    refine ⟨.tok (fun t => .int (a₀ + (i : Int)) t), by simp [hlt], t, ?_⟩
    rw [Int.mul_one]
  · exact ⟨[(s.heap.objs.size, _)], ⟨⟨rfl, rfl⟩, trivial⟩, fun p hp => by rw [List.mem_singleton.mp hp]; exact st⟩
  · have hb' : b = s.heap.objs.size := by simpa using hb
    rw [hb']
    exact ⟨List.mem_cons_self .., next_is_new F⟩
  · intro hI
    exact absurd F.ns.lt ((List.mem_singleton.mp hI) ▸ Nat.lt_irrefl _)
  · exact absurd (Heap.lt_size (N p hp).1) ((List.mem_singleton.mp hI) ▸ Nat.lt_irrefl _)
  · show IsRangeIter _ _ _ _ _
    rw [hn]
    simpa using Heap.get?_push_size _ rfl
abbrev mW (m₀ : Str → Option Value) (x1 x2 x3 : Str) (v1 : Value) (u2 u3 : Option Value) : Str → Option Value := fun y => if y = x1 then some v1 else if y = x2 then u2 else if y = x3 then u3 else m₀ y
theorem mW_turn {m₀ : Str → Option Value} {x1 x2 x3 : Str} {v1 v1' : Value} {u2 u3 a b : Option Value} (h23 : x2 ≠ x3) :
    (fun y => if y = x1 then some v1' else if y = x3 then b else if y = x2 then a else mW m₀ x1 x2 x3 v1 u2 u3 y) = mW m₀ x1 x2 x3 v1' a b := by
  funext y
  by_cases h1 : y = x1
  · simp only [if_pos h1]
  · by_cases h2 : y = x2
    · have h3 : y ≠ x3 := fun e => h23 (h2.symm.trans e)
      simp only [if_neg h1, if_neg h3, if_pos h2]
    · simp only [mW, if_neg h1, if_neg h2]
      by_cases h3 : y = x3 <;> simp [h3]
theorem mW_self {m₀ : Str → Option Value} {x1 x2 x3 : Str} {v1 : Value} (h : m₀ x1 = some v1) : m₀ = mW m₀ x1 x2 x3 v1 (m₀ x2) (m₀ x3) := by
  funext y
  by_cases h1 : y = x1
  · simp only [if_pos h1]; rw [h1, h]
  · by_cases h2 : y = x2
    · simp only [if_neg h1, if_pos h2]; rw [h2]
    · by_cases h3 : y = x3
      · simp only [if_neg h1, if_neg h2, if_pos h3]; rw [h3]
      · simp only [if_neg h1, if_neg h2, if_neg h3]
/-- «for i, y in enumerate(texts): words = ..» -/
theorem enum_words {elts : List PySem.Expr} {kk : Nat} {pos : Pos} {l : Addr} {vs : List Value} {ss : List Str} {n : Nat} {m₀ : Str → Option Value} {news : NewsL} {t0 : Tok} (W : Nat → Str) (x1 x2 x3 : Str)
    (hh : A.handled = none) (F : Fr h₀ env.locals s.heap m₀) (N : News h₀ env.locals s.heap news) (hm : (l, listOf vs.toArray n) ∈ news) (hs : StrsAre vs ss) (h0 : m₀ x1 = some (.str (W 0) t0))
    (turn : ∀ I, (∀ p ∈ news, p.1 < I) → ∀ (i : Nat) y t ty ti u2 u3 T h tk o1 o2, ss[i]? = some y → IsTup h T #[.int (i : Int) ti, .str y ty] → Fr h₀ env.locals h (mW m₀ x1 x2 x3 (.str (W i) t) u2 u3) → News h₀ env.locals h ((I + 1, o1) :: (I, o2) :: news) →
      wpAny (model prog w) A (assign (.Tuple elts kk pos) env (.ref T)) (fun _ s₂ => wpAny (model prog w) A (execs body env) (UnrPostW h₀ env.locals { s with heap := h, toks := tk } [(I + 1, o1), (I, o2)] (fun m' n' => n' = news ∧ ∃ t u2 u3, m' = mW m₀ x1 x2 x3 (.str (W (i + 1)) t) u2 u3) Q) E s₂) E { s with heap := h, toks := tk })
    (fin : ∀ t u2 u3 h tk, Fr h₀ env.locals h (mW m₀ x1 x2 x3 (.str (W ss.length) t) u2 u3) → News h₀ env.locals h news → Q .next { s with heap := h, toks := tk }) :
    wpAny (model prog w) A (call (.type "enumerate") [.ref l]) (fun xv s₁ => wpAny (model prog w) A (pyIter xv) (fun it s₂ => TurnsAt prog w A h₀ env (.Tuple elts kk pos) body Q E it s₂) E s₁) E s := by
  refine ktu_enum hh F N hm rfl rfl rfl fun I hI => ?_
  refine items_ind (fun xs m nw => nw = news ∧ ∃ i vs' ss' t u2 u3, xs = enumItems i vs' ∧ StrsAre vs' ss' ∧ ss = ss.take i ++ ss' ∧ i + ss'.length = ss.length ∧ m = mW m₀ x1 x2 x3 (.str (W i) t) u2 u3) ?_ ?_ ?_ _ _ _ ⟨rfl, 0, vs, ss, t0, _, _, rfl, hs, by simp, by simp, mW_self h0⟩
  · rintro xs m nw ⟨rfl, _⟩
    exact ⟨hm, trivial⟩
  · rintro a r m nw v h tk ⟨rfl, i, vs', ss', t, u2, u3, hx, hs', hss, hl, rfl⟩ hv F'
    cases hs' with
    | nil => cases hx
    | cons y ty hr =>
      rename_i vr sr
      injection hx with hx1 hx2
      subst hx1 hx2
      obtain ⟨T, ti, rfl, hT⟩ := hv
      have hlt : i < ss.length := by rw [List.length_cons] at hl; omega
      have hy : ss[i]? = some y := by
        rw [hss, List.getElem?_append_right (by rw [List.length_take]; omega), List.length_take, Nat.min_eq_left (Nat.le_of_lt hlt), Nat.sub_self]
        rfl
      intro o1 ho1 o2 ho2 N'
      refine wpAny_mono (turn I hI i y t ty ti u2 u3 T h tk o1 o2 hy hT F' N') (fun _ s₂ q => wpAny_mono q (fun f s₃ q₂ => unrPost_mono (fun m' n' j => ?_) q₂) fun _ _ e => e) fun _ _ e => e
      obtain ⟨rfl, t', u2', u3', rfl⟩ := j
      refine ⟨rfl, i + 1, _, _, t', u2', u3', rfl, hr, ?_, by rw [List.length_cons] at hl; omega, rfl⟩
      rw [List.take_add_one, hy]
      have e : ss.take i ++ (some y).toList ++ sr = ss.take i ++ y :: sr := by simp
      rw [e]
      exact hss
  · rintro m nw h tk ⟨rfl, i, vs', ss', t, u2, u3, hx, hs', hss, hl, rfl⟩ F' N'
    cases hs' with
    | cons => cases hx
    | nil =>
      obtain rfl : i = ss.length := hl
      exact fin t u2 u3 h tk F' N'
end
/-- the law's own words, name by name -/
def wW (k : Str) (ss : List Str) : Nat → Str
  | 0 => msg0 k
  | i + 1 => wW k ss i ++ (if 0 < i then Str.ofString " or " else Str.ofString ", expecting ") ++ plainS (ss.getD i Str.empty)
theorem wW_len {k : Str} {ss : List Str} (hk : k ∈ menu) (hm : ∀ z ∈ ss, z ∈ menu) : ∀ i, i ≤ ss.length → (wW k ss i).length ≤ 40 + 30 * i := by
  intro i
  induction i with
  | zero =>
    intro _
    show (Str.ofString "syntax error, unexpected " ++ plainS k).length ≤ _
    rw [Str.length_append]
    have h1 := (menu_ok hk).2.2.1
    have h2 : (Str.ofString "syntax error, unexpected ").length = 25 := by decide +kernel
    omega
  | succ i ih =>
    intro hi
    have h1 := ih (by omega)
    have hmem : ss.getD i Str.empty ∈ ss := by
      have e : ss.getD i Str.empty = ss[i] := by simp [List.getD, show i < ss.length by omega]
      rw [e]; exact List.getElem_mem _
    have h2 := (menu_ok (hm _ hmem)).2.2.1
    have h3 : (if 0 < i then Str.ofString " or " else Str.ofString ", expecting ").length ≤ 12 := by
      split <;> decide +kernel
    show (wW k ss i ++ (if 0 < i then Str.ofString " or " else Str.ofString ", expecting ") ++ plainS (ss.getD i Str.empty)).length ≤ _
    rw [Str.length_append, Str.length_append]
    omega
theorem wW_msg (k : Str) : ∀ ss : List Str, ss.length ≤ 4 → wW k ss ss.length = msgS k ss
  | [], _ => rfl
  | [a], _ => by simp [wW, msgS, Str.join]
  | [a, b], _ => by simp [wW, msgS, Str.join, Str.append_assoc]
  | [a, b, c], _ => by simp [wW, msgS, Str.join, Str.append_assoc]
  | [a, b, c, d], _ => by simp [wW, msgS, Str.join, Str.append_assoc]
  | _ :: _ :: _ :: _ :: _ :: _, h => by simp only [List.length_cons] at h; omega
end
section
open PySem PySem.W PyProof.Rows PySem.Calls PySem.Spec
theorem reads_strs {h : Heap} : ∀ {ws : List Value} {ss : List Str}, StrsAre ws ss → ReadsAll h ws (ss.map PyData.str) []
  | _, _, .nil => .nil
  | _, _, .cons y t r => ReadsAll.cons (as := []) (Reads.str y t) (reads_strs r)
theorem lay_strs : ∀ {ss : List Str}, (∀ z ∈ ss, PyData.strOk z = true) → PyData.canLayAll0 (ss.map PyData.str) = true ∧ PyData.depthAll (ss.map PyData.str) = 0
  | [], _ => ⟨rfl, rfl⟩
  | a :: r, h => by
    have ih := lay_strs (ss := r) fun z hz => h z (.tail _ hz)
    have ha := h a (.head _)
    simp only [List.map_cons, PyData.canLayAll0, PyData.canLay0, PyData.depthAll, PyData.depth, ih.1, ih.2, ha]
    exact ⟨rfl, rfl⟩
theorem eqv_strs : ∀ ss : List Str, PyData.eqvAll (ss.map PyData.str) (ss.map PyData.str) = true
  | [] => by simp [PyData.eqvAll]
  | a :: r => by simp only [List.map_cons, PyData.eqvAll, PyData.eqv, eqv_strs r, beq_self_eq_true, Bool.and_self]
section
variable {prog : Program} {w : World} {A : Around} {E : Value → Shared → Prop} {s : Shared} {h₀ : Heap} {L a b : Addr} {m : Str → Option Value} {news news' : NewsL} {Q : Value → Shared → Prop}
theorem append_strs {D : Addr} {ws : List Value} {ss : List Str} {x : Str} {t : Tok} {n : Nat} (F : Fr h₀ L s.heap m) (N : News h₀ L s.heap news) (U : Upd D (listOf ws.toArray n) (listOf (ws ++ [Value.str x t]).toArray (n + 1)) news news') (hs : StrsAre ws ss) (hn : ss.length ≤ 100)
    (h : ∀ h', Fr h₀ L h' m → News h₀ L h' news' → StrsAre (ws ++ [Value.str x t]) (ss ++ [x]) → Q .none { s with heap := h' }) : wpAny (model prog w) A (call (.builtin "list.append") [.ref D, .str x t]) Q E s := by
  have e : ws.toArray.push (.str x t) = (ws ++ [Value.str x t]).toArray := by simp
  refine append_K F N (its := ws.toArray) (x := .str x t) (news' := news') (by rw [e]; exact U) (fun h' F' N' => h h' F' N' (StrsAre.append' hs (.cons _ _ .nil))) ?_
  rw [PySem.sizeLine_eq, List.size_toArray, hs.length]
  omega
theorem add_strs {vs ws : List Value} {ss ts : List Str} (F : Fr h₀ L s.heap m) (N : News h₀ L s.heap news) (ha : s.heap.IsList a vs.toArray) (hb : s.heap.IsList b ws.toArray) (hi : StrsAre vs ss) (hj : StrsAre ws ts) (hn : ss.length + ts.length ≤ 100)
    (h : ∀ D us h', Fr h₀ L h' m → News h₀ L h' ((D, listOf (List.toArray us) 0) :: news) → (∀ p ∈ news, p.1 < D) → StrsAre us (ss ++ ts) → Q (.ref D) { s with heap := h' }) : wpAny (model prog w) A (binaryOp .Add (.ref a) (.ref b)) Q E s := by
  refine kmk_add_lit F N ha hb rfl (fun D h' F' N' l => h D _ h' F' N' l (StrsAre.append' hi hj)) ?_
  show vs.length + ws.length ≤ sizeLine
  rw [PySem.sizeLine_eq, hi.length, hj.length]
  omega
theorem eq_strs {ws1 ws2 : List Value} {ss : List Str} {n1 n2 : Nat} (N : News h₀ L s.heap news) (ma : (a, listOf ws1.toArray n1) ∈ news) (mb : (b, listOf ws2.toArray n2) ∈ news) (hs1 : StrsAre ws1 ss) (hs2 : StrsAre ws2 ss)
    (hss : ∀ z ∈ ss, PyData.strOk z = true) (hu : A.units + 64 < cLine) (h : Q (.bool true) s) : wpAny (model prog w) A (compareOp .Eq (.ref a) (.ref b)) Q E s := by
  have l := lay_strs hss
  have sh : SeqAt.shaped (.list (ss.map PyData.str)) = true := by
    unfold SeqAt.shaped
    simp only [PyData.canLay0, PyData.depth, l.1, l.2]
    decide
  refine eq_dataH (reads_list_at (N.get ma) rfl rfl (reads_strs hs1)) (reads_list_at (N.get mb) rfl rfl (reads_strs hs2)) sh sh hu ?_
  rw [PyData.eqv, eqv_strs]
  exact h
theorem eq_told {l1 l2 : Addr} {k : Str} {st : Int} {t1 t2 u1 u2 : Tok} {n1 n2 m1 m2 : Nat} {ws1 ws2 : List Value} {ss : List Str} (N : News h₀ L s.heap news)
    (ma : (a, { cls := .type "tuple", data := .seq #[.str k t1, .int st u1, .ref l1] n1 }) ∈ news) (ml1 : (l1, listOf ws1.toArray m1) ∈ news) (hs1 : StrsAre ws1 ss)
    (mb : (b, { cls := .type "tuple", data := .seq #[.str k t2, .int st u2, .ref l2] n2 }) ∈ news) (ml2 : (l2, listOf ws2.toArray m2) ∈ news) (hs2 : StrsAre ws2 ss)
    (hk : PyData.strOk k = true) (hss : ∀ z ∈ ss, PyData.strOk z = true) (hu : A.units + 64 < cLine) (h : Q (.bool true) s) : wpAny (model prog w) A (compareOp .Eq (.ref a) (.ref b)) Q E s := by
  have l := lay_strs hss
  have sh : SeqAt.shaped (.tuple [.str k, .int st, .list (ss.map PyData.str)]) = true := by
    unfold SeqAt.shaped
    simp only [PyData.canLay0, PyData.canLayAll0, PyData.depth, PyData.depthAll, l.1, l.2, hk]
    decide
  refine eq_dataH (reads_tuple_at (N.get ma) rfl rfl (.cons (.str _ _) (.cons (.int _ _) (.cons (reads_list_at (N.get ml1) rfl rfl (reads_strs hs1)) .nil))))
    (reads_tuple_at (N.get mb) rfl rfl (.cons (.str _ _) (.cons (.int _ _) (.cons (reads_list_at (N.get ml2) rfl rfl (reads_strs hs2)) .nil)))) sh sh hu ?_
  simp only [PyData.eqv, PyData.eqvAll, eqv_strs, beq_self_eq_true, Bool.and_self]
  exact h
end
end
local macro_rules | `(tactic| walk_at "call builtin:list.append") => `(tactic| (k_here; (with_reducible show wpAny _ _ (call (Value.builtin _) [Value.ref _, Value.str _ _]) _ _ _); k_dflt (refine' append_strs (by k_asm) (by k_asm) (by k_upd) (by with_reducible assumption) (by omega) ?_; k_whole); intro h9 F9 N9 s9; (try k_sweep)))
local macro_rules | `(tactic| walk_at "compareOp Eq ref ref") => `(tactic| (k_here; (with_reducible show wpAny _ _ (compareOp _ (Value.ref _) (Value.ref _)) _ _ _); k_dflt (refine' eq_strs (by k_asm) (by k_mem) (by k_mem) (by with_reducible assumption) (by with_reducible assumption) (by assumption) (by ktr_units) ?_)))
section
open PySem PySem.W PyProof.Rows PySem.Calls PySem.Spec
theorem wW_next {k y : Str} {ss : List Str} {i : Nat} (hy : ss[i]? = some y) (h : (0 : Int) < (i : Int)) : wW k ss (i + 1) = wW k ss i ++ Str.ofString " or " ++ plainS y := by
  show wW k ss i ++ (if 0 < i then Str.ofString " or " else Str.ofString ", expecting ") ++ plainS (ss.getD i Str.empty) = _
  rw [if_pos (by omega), List.getD, hy]; rfl
theorem wW_first {k y : Str} {ss : List Str} {i : Nat} (hy : ss[i]? = some y) (h : ¬ (0 : Int) < (i : Int)) : wW k ss (i + 1) = wW k ss i ++ Str.ofString ", expecting " ++ plainS y := by
  show wW k ss i ++ (if 0 < i then Str.ofString " or " else Str.ofString ", expecting ") ++ plainS (ss.getD i Str.empty) = _
  rw [if_neg (by omega), List.getD, hy]; rfl
section
variable {prog : Program} {w : World} {A : Around} {E : Value → Shared → Prop} {s : Shared} {env : Env} {h₀ : Heap} {target : PySem.Expr} {body : List Stmt} {Q : Flow → Shared → Prop} {ws : List (Addr × String)} {keep : NewsL}
theorem enum_law {elts : List PySem.Expr} {kk : Nat} {pos : Pos} {l : Addr} {vs : List Value} {ss : List Str} {n : Nat} {m₀ : Str → Option Value} {news : NewsL} {t0 : Tok} {k : Str} (x1 x2 x3 : Str)
    (hk : k ∈ menu) (hm : ∀ z ∈ ss, z ∈ menu) (h4 : (ss.length : Int) < 5)
    (hh : A.handled = none) (F : Fr h₀ env.locals s.heap m₀) (N : News h₀ env.locals s.heap news) (hml : (l, listOf vs.toArray n) ∈ news) (hs : StrsAre vs ss) (h0 : m₀ x1 = some (.str (wW k ss 0) t0))
    (turn : ∀ I, (∀ p ∈ news, p.1 < I) → ∀ (i : Nat) y t ty ti u2 u3 T h tk o1 o2, (wW k ss i).length ≤ 200 → (plainS y).length ≤ 13 → ss[i]? = some y → IsTup h T #[.int (i : Int) ti, .str y ty] → Fr h₀ env.locals h (mW m₀ x1 x2 x3 (.str (wW k ss i) t) u2 u3) → News h₀ env.locals h ((I + 1, o1) :: (I, o2) :: news) →
      wpAny (model prog w) A (assign (.Tuple elts kk pos) env (.ref T)) (fun _ s₂ => wpAny (model prog w) A (execs body env) (UnrPostW h₀ env.locals { s with heap := h, toks := tk } [(I + 1, o1), (I, o2)] (fun m' n' => n' = news ∧ ∃ t u2 u3, m' = mW m₀ x1 x2 x3 (.str (wW k ss (i + 1)) t) u2 u3) Q) E s₂) E { s with heap := h, toks := tk })
    (fin : ∀ t u2 u3 h tk, (msgS k ss).length ≤ 200 → Fr h₀ env.locals h (mW m₀ x1 x2 x3 (.str (msgS k ss) t) u2 u3) → News h₀ env.locals h news → Q .next { s with heap := h, toks := tk }) :
    wpAny (model prog w) A (call (.type "enumerate") [.ref l]) (fun xv s₁ => wpAny (model prog w) A (pyIter xv) (fun it s₂ => TurnsAt prog w A h₀ env (.Tuple elts kk pos) body Q E it s₂) E s₁) E s := by
  have h4' : ss.length ≤ 4 := by omega
  refine enum_words (wW k ss) x1 x2 x3 hh F N hml hs h0 (fun I hI i y t ty ti u2 u3 T h tk o1 o2 hy => ?_) (fun t u2 u3 h tk F' N' => ?_)
  · have hlt : i < ss.length := by
      by_cases q : i < ss.length
      · exact q
      · rw [List.getElem?_eq_none (by omega)] at hy; cases hy
    have hl := wW_len hk hm i (by omega)
    exact turn I hI i y t ty ti u2 u3 T h tk o1 o2 (by omega) (menu_ok (hm y (List.mem_of_getElem? hy))).2.2.1 hy
  · have e := wW_msg k ss h4'
    have hl := wW_len hk hm ss.length (Nat.le_refl _)
    rw [e] at F' hl
    exact fin t u2 u3 h tk (by omega) F' N'
theorem enum_none {elts : List PySem.Expr} {kk : Nat} {pos : Pos} {l : Addr} {ss : List Str} {n : Nat} {m₀ : Str → Option Value} {news : NewsL} {t0 : Tok} {k : Str} (x1 x2 x3 : Str)
    (hk : k ∈ menu) (h4 : ¬ (ss.length : Int) < 5)
    (hh : A.handled = none) (F : Fr h₀ env.locals s.heap m₀) (N : News h₀ env.locals s.heap news) (hml : (l, listOf (List.toArray []) n) ∈ news) (h0 : m₀ x1 = some (.str (msg0 k) t0))
    (fin : ∀ t u2 u3 h tk, (msgS k ss).length ≤ 200 → Fr h₀ env.locals h (mW m₀ x1 x2 x3 (.str (msgS k ss) t) u2 u3) → News h₀ env.locals h news → Q .next { s with heap := h, toks := tk }) :
    wpAny (model prog w) A (call (.type "enumerate") [.ref l]) (fun xv s₁ => wpAny (model prog w) A (pyIter xv) (fun it s₂ => TurnsAt prog w A h₀ env (.Tuple elts kk pos) body Q E it s₂) E s₁) E s := by
  refine enum_words (fun _ => msg0 k) x1 x2 x3 hh F N hml .nil h0 (fun I hI i y t ty ti u2 u3 T h tk o1 o2 hy => by cases hy) (fun t u2 u3 h tk F' N' => ?_)
  have e : msg0 k = msgS k ss := by rw [msgS, if_neg (by omega)]
  have hl := wW_len (ss := []) hk (fun _ h => nomatch h) 0 (Nat.le_refl _)
  have hl' : (msg0 k).length ≤ 40 := hl
  rw [e] at hl'
  exact fin t u2 u3 h tk (by omega) (by rw [← e]; exact F') N'
theorem unr_words {L : Addr} {news : NewsL} {I : Addr} {o1 o2 : Obj} {r : (Str → Option Value) → NewsL → Prop} {s₁ : Shared} {h' : Heap} {tk : Nat} {m' : Str → Option Value} {all : NewsL} (hI : ∀ p ∈ news, p.1 < I) (F : Fr h₀ L h' m') (N : News h₀ L h' all)
    (ha : ∀ p ∈ (I + 1, o1) :: (I, o2) :: news, p ∈ all) (hr : r m' news) : UnrEndW h₀ L s₁ [(I + 1, o1), (I, o2)] r { s₁ with heap := h', toks := tk } := by
  refine unrEnd_intro F N news (fun p hp => ha p (List.mem_append_left news hp)) (fun p hp => ha p (List.mem_append_right [(I + 1, o1), (I, o2)] hp)) (fun p hp q hq => ?_) hr
  have h1 := hI p hp
  rcases List.mem_cons.mp hq with rfl | hq
  · exact Nat.ne_of_lt (Nat.lt_succ_of_lt h1)
  · rcases List.mem_singleton.mp hq with rfl
    exact Nat.ne_of_lt h1
theorem unr_words2 {L : Addr} {news : NewsL} {I : Addr} {o1 o2 : Obj} {s₁ : Shared} {h' : Heap} {tk : Nat} {m₀ : Str → Option Value} {x1 x2 x3 Wn W' : Str} {t' : Tok} {v1 : Value} {u2 u3 a b : Option Value} {all : NewsL} (hI : ∀ p ∈ news, p.1 < I)
    (F : Fr h₀ L h' (fun y => if y = x1 then some (.str Wn t') else if y = x3 then b else if y = x2 then a else mW m₀ x1 x2 x3 v1 u2 u3 y)) (N : News h₀ L h' all)
    (ha : ∀ p ∈ (I + 1, o1) :: (I, o2) :: news, p ∈ all) (hW : W' = Wn) (h23 : x2 ≠ x3) : UnrEndW h₀ L s₁ [(I + 1, o1), (I, o2)] (fun m' n' => n' = news ∧ ∃ t u2 u3, m' = mW m₀ x1 x2 x3 (.str W' t) u2 u3) { s₁ with heap := h', toks := tk } := by
  subst hW
  exact unr_words hI F N ha ⟨rfl, _, _, _, mW_turn h23⟩
end
local macro_rules | `(tactic| walk_at "call ref") => `(tactic| (k_here; (with_reducible show wpAny _ _ (call (Value.ref 279) [Value.ref _, Value.int _ _]) _ _ _); k_dflt (refine' draw_use (by k_asm) (by k_asm) (by k_asm) (by k_asm) (by k_asm) (by first | exact rfl | assumption) (by k_updF) (by k_mem) (by assumption) (by omega) (by omega) (by omega) (by omega) (by ktr_room) (by ktr_units) ?_); intro k9 t9 u9 h9 tk9 lo9 hi9 F9 N9; (try dsimp only); (try k_sweep); (try k_fold)))
local macro_rules | `(tactic| walk_at "call ref") => `(tactic| (k_here; (with_reducible show wpAny _ _ (call (Value.ref 284) [Value.ref _, Value.int _ _]) _ _ _); k_dflt (refine' some_use (by k_asm) (by k_asm) (by k_asm) (by k_asm) (by k_asm) (by first | exact rfl | assumption) (by k_updF) (by k_mem) (by assumption) (by omega) (by omega) (by ktr_room) (by ktr_units) ?_); intro D9 ws9 ks9 u9 h9 tk9 ss9 m9 len9 ne9 F9 N9; (try dsimp only); (try k_sweep); (try k_fold)))
local macro_rules | `(tactic| walk_at "call ref") => `(tactic| (k_here; (with_reducible show wpAny _ _ (call (Value.ref 291) [Value.str _ _]) _ _ _); k_dflt (refine' lawplain_use (by k_asm) (by k_asm) (by k_asm) (by k_asm) (by k_asm) (by first | exact rfl | assumption) (by ktr_room) (by ktr_units) ?_); intro u9 h9 tk9 F9 N9; (try dsimp only); (try k_sweep); (try k_fold)))
local macro_rules | `(tactic| walk_at "subscriptTail") => `(tactic| (k_here; (with_reducible show wpAny _ _ (subscriptTail _ _ (Value.ref 272) (Value.int _ _)) _ _ _); k_dflt (refine' kinds_item (by k_asm) (by k_asm) (by omega) (by omega) ?_ (by with_unfolding_all rfl)); intro k9 t9 m9; (obtain ⟨o9, l9, p9, q9⟩ := menu_ok m9); (try k_fold)))
local macro_rules | `(tactic| walk_at "call builtin:len") => `(tactic| (k_here; (with_reducible show wpAny _ _ (call (Value.builtin "len") [Value.ref _]) _ _ _); k_dflt (refine' len_strsA (by exact News.isList (by k_asm) (by k_mem)) (by assumption) (by omega) ?_)))
local macro_rules | `(tactic| walk_at "call ref") => `(tactic| (k_here; (with_reducible show wpAny _ _ (call (Value.ref 93) [Value.str _ _, Value.str _ _, Value.none]) _ _ _); k_dflt (refine' token_new (by k_asm) (by k_asm) (by k_asm) (by k_asm) (by k_asm) (by first | exact rfl | assumption) (by ktr_room) ?_); intro x9 d9 a9 b9 c9 e9 h9 tk9 F9 N9 l1 l2; (try k_lt l1); (try k_lt2 l2); (try dsimp only); (try k_sweep); (try k_fold)))
local macro_rules | `(tactic| walk_at "call ref") => `(tactic| (k_here; (with_reducible show wpAny _ _ (call (Value.ref 127) [Value.ref _, Value.int _ _, Value.ref _]) _ _ _); k_dflt (refine' fault_new (by k_asm) (by k_asm) (by k_asm) (by k_asm) (by k_asm) (by first | exact rfl | assumption) (by ktr_room) ?_); intro x9 d9 i9 a9 b9 c9 e9 h9 tk9 F9 N9 l1 l2; (try k_lt l1); (try k_lt2 l2); (try dsimp only); (try k_sweep); (try k_fold)))
local macro_rules | `(tactic| walk_at "call ref") => `(tactic| (k_here; (with_reducible show wpAny _ _ (call (Value.ref 124) _) _ _ _); k_dflt (refine' message_use (by k_asm) (by k_asm) (by k_asm) (by k_asm) (by k_asm) (by first | exact rfl | assumption) (by ktr_room) (by ktr_units) (by k_mem) (by k_mem) (by k_mem) (by k_mem) (by k_mem) (by assumption) (by assumption) (by assumption) (by assumption) ?_); intro t9 h9 tk9 F9 N9; (try dsimp only); (try k_sweep); (try k_fold)))
local macro_rules | `(tactic| walk_at "call type:enumerate") => `(tactic| (refine Hold.mk ?_))
local macro_rules | `(tactic| walk_at "exec For Tuple Call cons nil") => `(tactic| (k_here; (rename Fr _ _ _ _ => lF'); (with_unfolding_all refine' For_turns lF' ?_; k_whole)))
local macro_rules | `(tactic| walk_at "binaryOp Add ref ref") => `(tactic| (k_here; (with_reducible show wpAny _ _ (binaryOp _ (Value.ref _) (Value.ref _)) _ _ _); k_dflt (refine' add_strs (by k_asm) (by k_asm) (by exact News.isList (by k_asm) (by k_mem)) (by exact News.isList (by k_asm) (by k_mem)) (by with_reducible assumption) (by exact StrsAre.cons _ _ StrsAre.nil) (by (simp only [List.length_cons, List.length_nil]; omega)) ?_); intro D9 us9 h9 F9 N9 l1 s9; (try k_lt l1); (try k_sweep)))
local macro_rules | `(tactic| walk_at "compareOp Eq ref ref") => `(tactic| (k_here; (with_reducible show wpAny _ _ (compareOp _ (Value.ref _) (Value.ref _)) _ _ _); k_dflt (refine' eq_told (by k_asm) (by k_mem) (by k_mem) (by with_reducible assumption) (by k_mem) (by k_mem) (by with_reducible assumption) (by assumption) (by assumption) (by ktr_units) ?_)))
theorem faulty_does (w : World) (mean : ExcName → Option Value) (mg mb : Str → Option Value) (pen l : Addr) (vs : List Value) (ns : List Int) (n0 n1 : Nat) (spot seed : Int) (t u : Tok) (rest : NewsL)
    (hl : (l, listOf vs.toArray n1) ∈ rest) (P : PenOk vs ns seed) (h0 : 0 ≤ spot) (h1 : spot ≤ 170) (hr : ∀ p ∈ rest, p.1 ≠ pen) :
    Does w mean mg mb 303 [.ref pen] 20 ((pen, penO l spot t seed u n0) :: rest)
      (fun r news' => ∃ k : Int, ∃ t', r = .bool true ∧ spot ≤ k ∧ k ≤ spot + 10 ∧ news' = (pen, penO l k t' seed u n0) :: rest) := by
  unfold Does
  k_fill
  intro dp un gd cn cs a ccd cl outer A₀ base h₀ L m s Q E B F X N T hk hd hu hret
  refine wpAny_call ?_
  k_dflt ktr_enter
  k_steps
  · refine Hold.out ?_
    (rename Fr _ _ _ _ => hF); (rename News _ _ _ _ => hN); (rename StrsAre _ _ => hs9); (rename _ ∈ menu => hk9); (rename ∀ k ∈ _, k ∈ menu => hm9); (rename _ < (5 : Int) => h5); (rename List Str => ks)
    k_dflt (refine' enum_law (Str.ofString "words") (Str.ofString "spot") (Str.ofString "name") hk9 hm9 h5 ?hh ?hF ?hN ?hml hs9 ?h0 ?turn ?fin)
    case hh => exact rfl
    case hF => exact hF
    case hN => exact hN
    case hml => k_mem
    case h0 => exact rfl
    case turn =>
      intro I hI i y t ty ti u2 u3 T3 h3 tk3 o1 o2 hl1 hl2 hy hT F3 N3
      k_fold
      k_steps
      all_goals (
        (rename Fr _ _ _ _ => hF9); (rename News _ _ _ _ => hN9)
        refine' unr_words2 hI hF9 hN9 (fun _ h => h) ?hW ?h23
        case h23 => decide
        case hW => first | exact wW_next hy (by omega) | exact wW_first hy (by omega))
    case fin =>
      intro t u2 u3 h3 tk3 hl1 F3 N3
      clear hF hN
      have hB1 : ∀ z ∈ ks, PyData.strOk z = true := fun z hz => (menu_ok (hm9 z hz)).1
      have hB2 : ∀ z ∈ ks ++ [Str.ofString "more"], PyData.strOk z = true := fun z hz => (List.mem_append.mp hz).elim (hB1 z) fun q => by rw [List.mem_singleton.mp q]; decide +kernel
      (
        k_steps
        · (rename Fr h₀ L _ m => hF9); (rename News h₀ L _ _ => hN9)
          refine' hret _ ((pen, penO l ?k ?t seed u n0) :: rest) _ _ hF9 (cb_drop hN9 ?sub) ⟨?k, ?t, rfl, ?e1, ?e2, rfl⟩
          case sub =>
            refine List.forall_mem_cons.mpr ⟨?_, ?_⟩
            · repeat (first | exact List.Mem.head _ | refine List.Mem.tail _ ?_)
            · intro p hp
              repeat (first | exact hp | refine List.Mem.tail _ ?_)
          case e1 => omega
          case e2 => omega
        · (rename (_ == _) = false => hb)
          simp at hb)
  · refine Hold.out ?_
    (rename Fr _ _ _ _ => hF); (rename News _ _ _ _ => hN); (rename StrsAre _ _ => hs9); (rename _ ∈ menu => hk9); (rename ∀ k ∈ _, k ∈ menu => hm9); (rename ¬ _ < (5 : Int) => h5); (rename List Str => ks)
    k_dflt (refine' enum_none (Str.ofString "words") (Str.ofString "spot") (Str.ofString "name") hk9 h5 ?hh ?hF ?hN ?hml ?h0 ?fin)
    case hh => exact rfl
    case hF => exact hF
    case hN => exact hN
    case hml => k_mem
    case h0 => exact rfl
    case fin =>
      intro t u2 u3 h3 tk3 hl1 F3 N3
      clear hF hN
      have hB1 : ∀ z ∈ ks, PyData.strOk z = true := fun z hz => (menu_ok (hm9 z hz)).1
      have hB2 : ∀ z ∈ ks ++ [Str.ofString "more"], PyData.strOk z = true := fun z hz => (List.mem_append.mp hz).elim (hB1 z) fun q => by rw [List.mem_singleton.mp q]; decide +kernel
      (
        k_steps
        · (rename Fr h₀ L _ m => hF9); (rename News h₀ L _ _ => hN9)
          refine' hret _ ((pen, penO l ?k ?t seed u n0) :: rest) _ _ hF9 (cb_drop hN9 ?sub) ⟨?k, ?t, rfl, ?e1, ?e2, rfl⟩
          case sub =>
            refine List.forall_mem_cons.mpr ⟨?_, ?_⟩
            · repeat (first | exact List.Mem.head _ | refine List.Mem.tail _ ?_)
            · intro p hp
              repeat (first | exact hp | refine List.Mem.tail _ ?_)
          case e1 => omega
          case e2 => omega
        · (rename (_ == _) = false => hb)
          simp at hb)
end
section
open PySem PySem.W PyProof.Rows PySem.Calls PySem.Spec PyProof.Rows.LCg
def Off4 (e it C D : Addr) (nw : NewsL) : Prop := ∀ p ∈ nw, p.1 ≠ e ∧ p.1 ≠ it ∧ p.1 ≠ C ∧ p.1 ≠ D
/-- the end of a turn of such a comprehension -/
def EEnd (h₀ : Heap) (L : Addr) (m : Str → Option Value) (s : Shared) (e : Addr) (oe : Obj) (it : Addr) (oi : Obj) (C : Addr) (oC : Obj) (D : Addr) (ys : List Value) (J' : List Value → NewsL → Prop) (y : Value) (s' : Shared) : Prop :=
  ∃ h' tk' nw', s' = { s with heap := h', toks := tk' } ∧ Fr h₀ L h' m ∧ News h₀ L h' ((e, oe) :: (it, oi) :: (C, oC) :: (D, lst ys) :: nw') ∧ Off4 e it C D nw' ∧ J' (ys ++ [y]) nw'
theorem EEnd.intro {h₀ : Heap} {L : Addr} {m : Str → Option Value} {s : Shared} {e it C D : Addr} {oe oi oC : Obj} {ys : List Value} {J' : List Value → NewsL → Prop} {y : Value} {h' : Heap} {tk' : Nat} {all : NewsL} (F : Fr h₀ L h' m) (N : News h₀ L h' all) (nw' : NewsL)
    (sub : ∀ p ∈ (e, oe) :: (it, oi) :: (C, oC) :: (D, lst ys) :: nw', p ∈ all) (off : Off4 e it C D nw') (hJ : J' (ys ++ [y]) nw') : EEnd h₀ L m s e oe it oi C oC D ys J' y { s with heap := h', toks := tk' } :=
  ⟨h', tk', nw', rfl, F, fun p hp => N p (sub p hp), off, hJ⟩
theorem EEnd.two {h₀ : Heap} {L : Addr} {m : Str → Option Value} {s : Shared} {e it C D : Addr} {oe oi oC : Obj} {ys : List Value} {J' : List Value → NewsL → Prop} {y : Value} {h' : Heap} {tk' : Nat} {nw : NewsL} {p q : Addr × Obj} {R : Prop} (F : Fr h₀ L h' m)
    (N : News h₀ L h' (p :: q :: (e, oe) :: (it, oi) :: (C, oC) :: (D, lst ys) :: nw)) (hl : e < q.1 ∧ it < q.1 ∧ C < q.1 ∧ D < q.1 ∧ R) (hl8 : q.1 < p.1) (off : Off4 e it C D nw) (hJ : J' (ys ++ [y]) (p :: q :: nw)) : EEnd h₀ L m s e oe it oi C oC D ys J' y { s with heap := h', toks := tk' } := by
  refine EEnd.intro F N _ ?_ ?_ hJ
  · intro p hp
    simp only [List.mem_cons] at hp ⊢
    rcases hp with h | h | h | h | h | h | h
    · exact .inr (.inr (.inl h))
    · exact .inr (.inr (.inr (.inl h)))
    · exact .inr (.inr (.inr (.inr (.inl h))))
    · exact .inr (.inr (.inr (.inr (.inr (.inl h)))))
    · exact .inl h
    · exact .inr (.inl h)
    · exact .inr (.inr (.inr (.inr (.inr (.inr h)))))
  · obtain ⟨q1, q2, q3, q4, _⟩ := hl
    exact List.forall_mem_cons.mpr ⟨⟨Nat.ne_of_gt (Nat.lt_trans q1 hl8), Nat.ne_of_gt (Nat.lt_trans q2 hl8), Nat.ne_of_gt (Nat.lt_trans q3 hl8), Nat.ne_of_gt (Nat.lt_trans q4 hl8)⟩, List.forall_mem_cons.mpr ⟨⟨Nat.ne_of_gt q1, Nat.ne_of_gt q2, Nat.ne_of_gt q3, Nat.ne_of_gt q4⟩, off⟩⟩
section
variable {prog : Program} {w : World} {A : Around} {E : Value → Shared → Prop} {s : Shared} {h₀ : Heap} {L : Addr} {m : Str → Option Value} {env : Env}
/-- the turns of a comprehension «[.. for a, b in enumerate(list)]» -/
theorem enum_block {elt iter : PySem.Expr} {a b : Str} {pa pb tp : Pos} {kk : Nat} {scope : Scope} {cl : List (Str × Addr)} {pos : Pos} {s₂ : Shared} {e it l : Addr} {lo : Obj} {items : Array Value} {n : Nat} {news : NewsL} {RR : Value → Addr → Result → Shared → Prop}
    (J : Nat → List Value → NewsL → Prop) (hJl : ∀ i ys nw, J i ys nw → (l, lo) ∈ nw) (hc : lo.cls = .type "list") (hd : lo.data = .seq items n)
    (hh : A.handled = none) (hei : e ≠ it) (hle : l ≠ e) (hli : l ≠ it) (hsz : items.size ≤ sizeLine) (hE : IsEnum s₂.heap e it 0 .none) (hI : s₂.heap.IsListIter it l 0)
    (hcell : ∀ y ∈ scope.names, y.2 ≠ .cell) (hkind : scope.kind = .function) (hxa : scope.names.lookup a = some .local) (hxb : scope.names.lookup b = some .local) (hab : ¬ a = b)
    (F : Fr h₀ L s₂.heap m) (N : News h₀ L s₂.heap news) (hLe : L ≠ e) (hLi : L ≠ it) (he₀ : h₀.get? e = none) (hi₀ : h₀.get? it = none) (off : ∀ p ∈ news, p.1 ≠ e ∧ p.1 ≠ it) (h0 : J 0 [] news)
    (turn : ∀ (i : Nat) ys nw (t : Tok) x oe oi C oC D m₂ h tk (E' : Value → Shared → Prop), items[i]? = some x → ys.length = i → J i ys nw → NsObj oC m₂ → m₂ a = some (.int (i : Int) t) → m₂ b = some x → Fr h₀ L h m → News h₀ L h ((e, oe) :: (it, oi) :: (C, oC) :: (D, lst ys) :: nw) → Off4 e it C D nw →
      ((@Ne Nat e C) ∧ (@Ne Nat e D) ∧ (@Ne Nat it C) ∧ (@Ne Nat it D) ∧ (@Ne Nat C D)) →
      wpAny (model prog w) A (eval elt (compEnvC scope cl C env)) (fun y s' => ∃ h' tk' nw', s' = { s₂ with heap := h', toks := tk' } ∧ Fr h₀ L h' m ∧ News h₀ L h' ((e, oe) :: (it, oi) :: (C, oC) :: (D, lst ys) :: nw') ∧ Off4 e it C D nw' ∧ J (i + 1) (ys ++ [y]) nw') E' { s₂ with heap := h, toks := tk })
    (hRR : ∀ D C h tk m' ys nw, Fr h₀ L h m → News h₀ L h ((D, lst ys) :: nw) → (∀ p ∈ nw, p.1 ≠ D) → h.Ns C m' → h₀.get? C = none → h₀.get? D = none → C ≠ L → D ≠ L → C ≠ D → (∀ p ∈ nw, p.1 ≠ C) → J items.size ys nw → RR (.ref D) C (.ok .next) { s₂ with heap := h, toks := tk }) :
    wpAny (model prog w) A (newList []) (fun acc s₃ => wpAny (model prog w) A (newFunctionEnv scope env.globals cl [] env.qual none .none (some env)) (fun cenv s₄ =>
      codeAny (model prog w) A (.compStart (.ListComp elt [⟨.Tuple [.Name a pa, .Name b pb] kk tp, iter, [], 0⟩] scope pos) 0 (.ref e) acc { cenv with scope := relabel scope env }) (RR acc cenv.locals) s₄) E s₃) E s₂ := by
  refine wpAny_newObj_type (wpAny_newFunctionEnv hcell (by intro y hy; simp at hy) (fun h₁ hns₁ hsb₁ => ?_) hkind)
  dsimp only at hns₁ hsb₁ ⊢
  generalize hH2 : s₂.heap.push { cls := .type "list", dict := none, data := .seq ([] : List Value).toArray } = H2 at hns₁ hsb₁ ⊢
  have hC : H2.objs.size = s₂.heap.objs.size + 1 := by rw [← hH2, Heap.size_push]
  have hDC : s₂.heap.objs.size ≠ H2.objs.size := by rw [hC]; exact Nat.ne_of_lt (Nat.lt_succ_self _)
  have below : ∀ b, b < s₂.heap.objs.size → b ≠ H2.objs.size ∧ b ≠ s₂.heap.objs.size := fun b hb => ⟨by rw [hC]; exact Nat.ne_of_lt (Nat.lt_succ_of_lt hb), Nat.ne_of_lt hb⟩
  have helt : e < s₂.heap.objs.size := Heap.lt_size hE
  have hilt : it < s₂.heap.objs.size := by obtain ⟨o, q, _⟩ := hI; exact Heap.lt_size q
  have old : ∀ b o, s₂.heap.get? b = some o → h₁.get? b = some o := fun b o q => hsb₁.extBut b o (below b (Heap.lt_size q)).1 (Heap.get?_push_of_some _ (hH2 ▸ Heap.get?_push_of_some _ q))
  have hacc : h₁.get? s₂.heap.objs.size = some (lst []) := hsb₁.extBut _ _ hDC (Heap.get?_push_of_some _ (hH2 ▸ Heap.get?_push_size _ rfl))
  have fresh : ∀ a, s₂.heap.objs.size ≤ a → s₂.heap.get? a = none := fun a ha => by
    cases q : s₂.heap.get? a with
    | none => rfl
    | some o' => exact absurd (Heap.lt_size q) (Nat.not_lt.mpr ha)
  have fresh₀ : ∀ a, s₂.heap.objs.size ≤ a → h₀.get? a = none := fun a ha => by
    cases q : h₀.get? a with
    | none => rfl
    | some o' => have := F.keep a o' q; rw [fresh a ha] at this; cases this
  have hD₀ : h₀.get? s₂.heap.objs.size = none := fresh₀ _ (Nat.le_refl _)
  have hC₀ : h₀.get? H2.objs.size = none := fresh₀ _ (by rw [hC]; exact Nat.le_succ _)
  have hLlt : L < s₂.heap.objs.size := F.ns.lt
  have hDL : s₂.heap.objs.size ≠ L := Ne.symm (below L hLlt).2
  have hCL : H2.objs.size ≠ L := Ne.symm (below L hLlt).1
  have hCe : e ≠ H2.objs.size := (below e helt).1
  have hDe : e ≠ s₂.heap.objs.size := (below e helt).2
  have hCi : it ≠ H2.objs.size := (below it hilt).1
  have hDi : it ≠ s₂.heap.objs.size := (below it hilt).2
  have off₀ : Off4 e it H2.objs.size s₂.heap.objs.size news := fun p hp => ⟨(off p hp).1, (off p hp).2, (below _ (Heap.lt_size (N p hp).1)).1, (below _ (Heap.lt_size (N p hp).1)).2⟩
  have W : KTurns prog w A (.Tuple [.Name a pa, .Name b pb] kk tp) e [e, it, l] [e, it] items.size _ _ _ := KTurns.ofWalksU (elts := [.Name a pa, .Name b pb]) (k := kk) (pos := tp) (WalksT.enumerate (prog := prog) (w := w) hh e it l hei hle hli items).toU
  have loop : ∀ s₃ : Shared, s₃ = { s₂ with heap := h₁, toks := s₂.toks + ([] : List (Str × Value)).length } →
      codeAny (model prog w) A (.compLoop (.ListComp elt [⟨.Tuple [.Name a pa, .Name b pb] kk tp, iter, [], 0⟩] scope pos) 0 (.ref e) (.ref s₂.heap.objs.size) (compEnvC scope cl H2.objs.size env))
        (RR (.ref s₂.heap.objs.size) H2.objs.size) s₃ := by
    rintro s₃ rfl
    refine kcp_loop
      (fun k s' => ∃ h' tk i ys m' nw, s' = { s₂ with heap := h', toks := tk } ∧ i ≤ items.size ∧ k = items.size + 1 - i ∧ ys.length = i ∧ (∃ old, IsEnum h' e it (i : Nat) old) ∧ h'.IsListIter it l i ∧ Fr h₀ L h' m ∧ h'.Ns H2.objs.size m' ∧
        News h₀ L h' ((s₂.heap.objs.size, lst ys) :: nw) ∧ Off4 e it H2.objs.size s₂.heap.objs.size nw ∧ J i ys nw) ?_ (items.size + 1)
      ⟨h₁, _, 0, [], _, news, rfl, Nat.zero_le _, rfl, rfl, ⟨.none, old _ _ hE⟩, hI.at fun o q => old _ _ q, F.keeps old, hns₁, fun p hp => ?_, off₀, h0⟩
    · rintro k s' ⟨h', tk, i, ys, m', nw, rfl, hi, rfl, hyl, ⟨ox, hE'⟩, hI', F', hn', N', off', hJ⟩
      have hL' : h'.IsList l items := ⟨lo, (N' _ (List.mem_cons_of_mem _ (hJl _ _ _ hJ))).1, hc, n, hd⟩
      by_cases hlt : i < items.size
      · refine W.item i _ _ _ hlt ⟨⟨ox, hE'⟩, hI', hL'⟩ fun v h₂ tk₂ hMd hk₂ => ?_
        refine W.go i v _ _ _ hMd fun h₃ hP hst₃ hk₃ => ?_
        obtain ⟨T, vals, rfl, ⟨t, x, hx, rfl⟩, hT⟩ := hP
        have up₃ : ∀ c o, c ≠ e → c ≠ it → h'.get? c = some o → h₃.get? c = some o := fun c o h1 h2 q => hk₃ c o (by simp [h1, h2]) (hk₂ c o (by simp [h1, h2]) q)
        refine kcp_assign (env := compEnvC scope cl H2.objs.size env) hh hT (lookup_relabel_local hxa) (lookup_relabel_local hxb) (by simp [compEnvC, relabel, hkind]) (hn'.at' fun o q => up₃ _ o (Ne.symm hCe) (Ne.symm hCi) q) fun h₄ tk₄ hn₄ hs₄ => ?_
        have up : ∀ c o, c ≠ e → c ≠ it → c ≠ H2.objs.size → h'.get? c = some o → h₄.get? c = some o := fun c o h1 h2 h3 q => hs₄ c o h3 (up₃ c o h1 h2 q)
        obtain ⟨⟨ox₃, hE₃⟩, hI₃, _⟩ := hst₃
        have hE₄ : IsEnum h₄ e it ((i + 1 : Nat) : Int) ox₃ := hs₄ e _ hCe hE₃
        have hI₄ : h₄.IsListIter it l (i + 1) := hI₃.at fun o q => hs₄ it o hCi q
        obtain ⟨oi, hoi, hoi2⟩ := id hI₄
        obtain ⟨oC, heC, hoC⟩ := ns_obj hn₄
        have F₄ : Fr h₀ L h₄ m := ⟨F'.ns.at' fun o q => up _ o hLe hLi (Ne.symm hCL) q, fun c o q => up c o (fun z => by rw [z, he₀] at q; cases q) (fun z => by rw [z, hi₀] at q; cases q) (fun z => by rw [z, hC₀] at q; cases q) (F'.keep c o q), F'.above⟩
        have N₄ : ∀ oe, h₄.get? e = some oe → News h₀ L h₄ ((e, oe) :: (it, oi) :: (H2.objs.size, oC) :: (s₂.heap.objs.size, lst ys) :: nw) := fun oe he q hq => by
          rcases List.mem_cons.mp hq with rfl | hq
          · exact ⟨he, Ne.symm hLe, he₀⟩
          · rcases List.mem_cons.mp hq with rfl | hq
            · exact ⟨hoi, Ne.symm hLi, hi₀⟩
            · rcases List.mem_cons.mp hq with rfl | hq
              · exact ⟨heC, hCL, hC₀⟩
              · have z := N' q hq
                rcases List.mem_cons.mp hq with rfl | hq
                · exact ⟨up _ _ (Ne.symm hDe) (Ne.symm hDi) hDC z.1, z.2⟩
                · exact ⟨up _ _ (off' q hq).1 (off' q hq).2.1 (off' q hq).2.2.1 z.1, z.2⟩
        refine wpAny_mono (turn i ys nw t x _ oi H2.objs.size oC s₂.heap.objs.size _ h₄ _ _ hx hyl hJ hoC (by simp [hab]) (by simp) F₄ (N₄ _ hE₄) off' ⟨hCe, hDe, hCi, hDi, Ne.symm hDC⟩) (fun y s₅ h₅ => ?_) fun _ _ q => q
        obtain ⟨h₅, tk₅, nw₅, rfl, F₅, N₅, off₅, hJ₅⟩ := h₅
        have zE := (N₅ _ List.mem_cons_self).1
        have zI := (N₅ (it, oi) (List.mem_cons_of_mem _ List.mem_cons_self)).1
        have zC := (N₅ (H2.objs.size, oC) (List.mem_cons_of_mem _ (List.mem_cons_of_mem _ List.mem_cons_self))).1
        have zD := (N₅ (s₂.heap.objs.size, lst ys) (List.mem_cons_of_mem _ (List.mem_cons_of_mem _ (List.mem_cons_of_mem _ List.mem_cons_self)))).1
        have N₅' : News h₀ L h₅ nw₅ := fun q hq => N₅ q (List.mem_cons_of_mem _ (List.mem_cons_of_mem _ (List.mem_cons_of_mem _ (List.mem_cons_of_mem _ hq))))
        refine append_at (hsz := by show ys.toArray.size ≤ sizeLine; rw [List.size_toArray, hyl]; exact Nat.le_trans hi hsz) zD fun h₆ hs₆ hD₆ => ?_
        refine ⟨items.size + 1 - (i + 1), by omega, h₆, tk₅, i + 1, ys ++ [y], _, nw₅, rfl, hlt, rfl, by rw [List.length_append, List.length_singleton, hyl], ⟨ox₃, hs₆.extBut e _ hDe zE⟩, ⟨oi, hs₆.extBut it _ hDi zI, hoi2⟩, F₅.change hs₆ hDL hD₀,
          (hoC.ns zC).sameBut hs₆ (Ne.symm hDC), fun q hq => ?_, off₅, hJ₅⟩
        rcases List.mem_cons.mp hq with rfl | hq
        · exact ⟨hD₆.trans (congrArg some (lst_snoc ys y)), hDL, hD₀⟩
        · exact ⟨hs₆.extBut _ _ (off₅ q hq).2.2.2 (N₅' q hq).1, (N₅' q hq).2⟩
      · have hin : i = items.size := Nat.le_antisymm hi (Nat.not_lt.mp hlt)
        subst hin
        refine W.done _ _ _ ⟨⟨ox, hE'⟩, hI', hL'⟩ fun h₂ tk₂ hk₂ => ?_
        have upd : ∀ c o, c ≠ e → c ≠ it → h'.get? c = some o → h₂.get? c = some o := fun c o h1 h2 q => hk₂ c o (by simp [h1, h2]) q
        refine hRR _ _ h₂ tk₂ _ ys nw ⟨F'.ns.at' fun o q => upd _ o hLe hLi q, fun c o q => upd c o (fun z => by rw [z, he₀] at q; cases q) (fun z => by rw [z, hi₀] at q; cases q) (F'.keep c o q), F'.above⟩ (fun p hp => ?_) (fun p hp => (off' p hp).2.2.2) (hn'.at' fun o q => upd _ o (Ne.symm hCe) (Ne.symm hCi) q) hC₀ hD₀ hCL hDL (Ne.symm hDC) (fun p hp => (off' p hp).2.2.1) hJ
        have z := N' p hp
        rcases List.mem_cons.mp hp with rfl | hp
        · exact ⟨upd _ _ (Ne.symm hDe) (Ne.symm hDi) z.1, z.2⟩
        · exact ⟨upd _ _ (off' p hp).1 (off' p hp).2.1 z.1, z.2⟩
    · rcases List.mem_cons.mp hp with rfl | hp
      · exact ⟨hacc, hDL, hD₀⟩
      · exact ⟨old _ _ (N p hp).1, (N p hp).2⟩
  refine codeAny_compStart_list (loop _ rfl) ?_
  exact wpAny_pyIter_enum (old _ _ hE) (loop _ rfl)

/-- an enumerate over a list of the ledger, its turns by the word J -/
def EnumHere (prog : Program) (w : World) (A : Around) (h₀ : Heap) (L : Addr) (m : Str → Option Value) (env : Env) (elt : PySem.Expr) (a b : Str) (scope : Scope) (cl : List (Str × Addr)) (Fin : Shared → List Value → NewsL → Prop) (xv : Value) (s₂ : Shared) : Prop :=
  ∃ (e it l : Addr) (lo : Obj) (items : Array Value) (n : Nat) (news : NewsL) (J : Nat → List Value → NewsL → Prop), xv = .ref e ∧ (∀ i ys nw, J i ys nw → (l, lo) ∈ nw) ∧ lo.cls = .type "list" ∧ lo.data = .seq items n ∧
    A.handled = none ∧ e ≠ it ∧ l ≠ e ∧ l ≠ it ∧ items.size ≤ sizeLine ∧ IsEnum s₂.heap e it 0 .none ∧ s₂.heap.IsListIter it l 0 ∧ Fr h₀ L s₂.heap m ∧ News h₀ L s₂.heap news ∧ L ≠ e ∧ L ≠ it ∧ h₀.get? e = none ∧ h₀.get? it = none ∧ (∀ p ∈ news, p.1 ≠ e ∧ p.1 ≠ it) ∧ J 0 [] news ∧
    (∀ (i : Nat) ys nw (t : Tok) x oe oi C oC D m₂ h tk (E' : Value → Shared → Prop), items[i]? = some x → ys.length = i → J i ys nw → NsObj oC m₂ → m₂ a = some (.int (i : Int) t) → m₂ b = some x → Fr h₀ L h m → News h₀ L h ((e, oe) :: (it, oi) :: (C, oC) :: (D, lst ys) :: nw) → Off4 e it C D nw →
      ((@Ne Nat e C) ∧ (@Ne Nat e D) ∧ (@Ne Nat it C) ∧ (@Ne Nat it D) ∧ (@Ne Nat C D)) →
      wpAny (model prog w) A (eval elt (compEnvC scope cl C env)) (fun y s' => ∃ h' tk' nw', s' = { s₂ with heap := h', toks := tk' } ∧ Fr h₀ L h' m ∧ News h₀ L h' ((e, oe) :: (it, oi) :: (C, oC) :: (D, lst ys) :: nw') ∧ Off4 e it C D nw' ∧ J (i + 1) (ys ++ [y]) nw') E' { s₂ with heap := h, toks := tk }) ∧
    (∀ ys nw, J items.size ys nw → Fin s₂ ys nw)
theorem off1_of {D : Addr} : ∀ {l : NewsL}, (∀ p ∈ l, p.1 ≠ D) → Off1 D l
  | [], _ => trivial
  | _ :: _, h => ⟨h _ List.mem_cons_self, off1_of fun p hp => h p (List.mem_cons_of_mem _ hp)⟩
theorem assign_enum {elt iter : PySem.Expr} {a b y : Str} {pa pb tp py : Pos} {kk : Nat} {scope : Scope} {cl : List (Str × Addr)} {pos spos : Pos} {Q : Flow → Shared → Prop} (hF₀ : Fr h₀ L s.heap m) (hLe : env.locals = L)
    (hsw : swapsWith (.ListComp elt [⟨.Tuple [.Name a pa, .Name b pb] kk tp, iter, [], 0⟩] scope pos) (some (.Name y py)) spos.line env = pure true)
    (hclos : closureFor scope env = pure cl) (hcell : ∀ z ∈ scope.names, z.2 ≠ .cell) (hkind : scope.kind = .function)
    (hnames : ∀ z ∈ scope.names, z.2 = .local → scope.names.lookup z.1 = some .local) (hxa : scope.names.lookup a = some .local) (hxb : scope.names.lookup b = some .local) (hab : ¬ a = b)
    (hy : env.kindOf y = some .local) (hp : (env.scope.kind == .class || (env.scope.kind == .module && env.locals != env.globals)) = false)
    (h : wpAny (model prog w) A (eval iter env) (fun xv s₁ => EnumHere prog w A h₀ L m env elt a b scope cl (fun s₂ => FinA h₀ L m s₂ y Q) xv s₁) E s)
    (hs : ∀ x, foldedSetIterable iter env x = pure x := by intro _; rfl) :
    wpAny (model prog w) A (exec (.Assign [.Name y py] (.ListComp elt [⟨.Tuple [.Name a pa, .Name b pb] kk tp, iter, [], 0⟩] scope pos) spos) env) Q E s := by
  subst hLe
  rw [exec_Assign_Name_used _ _ _ _ hsw]
  refine wpAny_bind (wpAny_standAt (wpAny_bind ?_))
  show wpAny _ A (do let _ ← comprehension (.ListComp elt [⟨.Tuple [.Name a pa, .Name b pb] kk tp, iter, [], 0⟩] scope pos) scope env _ (newList []) false (eval iter env) (some (assign (.Name y py) env))) _ _ s
  refine wpAny_bind (wpAny_mono (wpAny_comprehension_free (use := some (assign (.Name y py) env)) (Q := fun _ s' => Q .next s') rfl hs hclos hkind hnames
    (wpAny_mono h (fun xv s₁ h₁ => ?_) fun _ _ e => e)) (fun _ s' hq => wpAny_pure (wpAny_pure hq)) fun _ _ e => e)
  obtain ⟨e, it, l, lo, items, n, news, J, rfl, hJl, hc, hd, hh, hei, hle, hli, hsz, hE, hI, F, N, hLe, hLi, he₀, hi₀, off, h0, turn, fin⟩ := h₁
  refine wpAny_pyIter_enum hE ?_
  refine enum_block (RR := _) J hJl hc hd hh hei hle hli hsz hE hI hcell hkind hxa hxb hab F N hLe hLi he₀ hi₀ off h0 turn ?_
  intro D C h' tk m' ys nw F' N' o1 hn hC₀ hD₀ hCL hDL hCD offC hJ
  have fin := fin ys nw hJ
  show wpAny _ A (assign (.Name y py) env (.ref D)) _ _ _
  refine wpAny_assign_Name (wpAny_storeName_local hy F'.ns (fun h₂ hn₂ hs₂ => ?_) hp)
  have hL₀ : h₀.get? env.locals = none := Heap.get?_none_of_le F'.above
  have F₂ : Fr h₀ env.locals h₂ (fun z => if z = y then some (.ref D) else m z) := ⟨hn₂, fun b o e => hs₂.extBut b o (fun q => by rw [q, hL₀] at e; cases e) (F'.keep b o e), F'.above⟩
  refine ⟨m', hn.sameBut hs₂ hCL, fun h'' hs'' => fin D h'' _ (F₂.change hs'' hCL hC₀) (fun p hp => ?_) (off1_of o1)⟩
  have z : h₂.get? p.1 = some p.2 := hs₂.extBut _ _ (N' p hp).2.1 (N' p hp).1
  refine ⟨hs''.extBut _ _ ?_ z, (N' p hp).2⟩
  rcases List.mem_cons.mp hp with rfl | hp
  · exact Ne.symm hCD
  · exact offC p hp
theorem enum_call {elt : PySem.Expr} {a b : Str} {scope : Scope} {cl : List (Str × Addr)} {Fin : Shared → List Value → NewsL → Prop} {l : Addr} {vs : List Value} {n : Nat} {news : NewsL} (J : Nat → List Value → NewsL → Prop) (hJl : ∀ i ys nw, J i ys nw → (l, listOf vs.toArray n) ∈ nw)
    (hh : A.handled = none) (F : Fr h₀ L s.heap m) (N : News h₀ L s.heap news) (hsz : vs.length ≤ sizeLine) (h0 : J 0 [] news)
    (turn : ∀ e it (i : Nat) ys nw (t : Tok) x oe oi C oC D m₂ h tk (E' : Value → Shared → Prop), vs[i]? = some x → ys.length = i → J i ys nw → NsObj oC m₂ → m₂ a = some (.int (i : Int) t) → m₂ b = some x → Fr h₀ L h m → News h₀ L h ((e, oe) :: (it, oi) :: (C, oC) :: (D, lst ys) :: nw) → Off4 e it C D nw →
      ((@Ne Nat e C) ∧ (@Ne Nat e D) ∧ (@Ne Nat it C) ∧ (@Ne Nat it D) ∧ (@Ne Nat C D)) →
      wpAny (model prog w) A (eval elt (compEnvC scope cl C env)) (EEnd h₀ L m s e oe it oi C oC D ys (J (i + 1))) E' { s with heap := h, toks := tk })
    (fin : ∀ g ys nw, J vs.length ys nw → Fin { s with heap := g } ys nw) :
    wpAny (model prog w) A (call (.type "enumerate") [.ref l]) (fun xv s₁ => EnumHere prog w A h₀ L m env elt a b scope cl Fin xv s₁) E s := by
  have hml := hJl _ _ _ h0
  have hl : s.heap.IsList l vs.toArray := ⟨_, (N _ hml).1, rfl, n, rfl⟩
  have hlt : l < s.heap.objs.size := Heap.lt_size (N _ hml).1
  have hL : L < s.heap.objs.size := F.ns.lt
  refine call_enumerate_list hl fun h' hE hI hsz' hk => ?_
  have hlt1 : ∀ x, x < s.heap.objs.size → x ≠ s.heap.objs.size + 1 := fun x hx => Nat.ne_of_lt (Nat.lt_succ_of_lt hx)
  refine ⟨s.heap.objs.size + 1, s.heap.objs.size, l, _, vs.toArray, n, news, J, rfl, hJl, rfl, rfl, hh, Nat.succ_ne_self _, hlt1 _ hlt, Nat.ne_of_lt hlt, by rw [List.size_toArray]; exact hsz, hE, hI, F.keeps hk, N.grown hk, hlt1 _ hL, Nat.ne_of_lt hL,
    ktu_new F (Nat.le_add_right _ _), ktu_new F (Nat.le_refl _), fun p hp => ⟨hlt1 _ (Heap.lt_size (N p hp).1), Nat.ne_of_lt (Heap.lt_size (N p hp).1)⟩, h0, ?_, fun ys nw hJ => fin h' ys nw (by rw [List.size_toArray] at hJ; exact hJ)⟩
  intro i ys nw t x oe oi C oC D m₂ h tk E' hx hy hJ ho ha hb F' N' off ne
  exact turn _ _ i ys nw t x oe oi C oC D m₂ h tk E' (by simpa using hx) hy hJ ho ha hb F' N' off ne
end
end
section
open PySem PySem.W PyProof.Rows PySem.Calls PySem.Spec
def xT (i : Nat) : Str := Str.ofString "x" ++ Str.ofString (toString (i : Int))
def TokAt (P : Params) (news : NewsL) (v : Value) (k x : Str) : Prop := ∃ a dx tk tx e1 e2 e3 e4, v = .ref a ∧ (a, instObj 93 dx) ∈ news ∧ (dx, tokD P k tk x tx e1 e2 e3 e4) ∈ news
theorem TokAt.mono {P : Params} {news news' : NewsL} {v : Value} {k x : Str} (h : TokAt P news v k x) (f : ∀ p ∈ news, p ∈ news') : TokAt P news' v k x :=
  let ⟨a, dx, tk, tx, e1, e2, e3, e4, h1, h2, h3⟩ := h
  ⟨a, dx, tk, tx, e1, e2, e3, e4, h1, f _ h2, f _ h3⟩
/-- a row of tokens: the kinds in their order, the texts by place -/
def TokRow (P : Params) (news : NewsL) (ys : List Value) (ks : List Str) : Prop := ys.length = ks.length ∧ ∀ (j : Nat) k, ks[j]? = some k → ∃ v, ys[j]? = some v ∧ TokAt P news v k (xT j)
theorem TokRow.mono {P : Params} {news news' : NewsL} {ys : List Value} {ks : List Str} (h : TokRow P news ys ks) (f : ∀ p ∈ news, p ∈ news') : TokRow P news' ys ks :=
  ⟨h.1, fun j k hk => let ⟨v, hv, ht⟩ := h.2 j k hk; ⟨v, hv, ht.mono f⟩⟩
theorem TokRow.snoc {P : Params} {news : NewsL} {ys : List Value} {ks : List Str} {v : Value} {k : Str} (h : TokRow P news ys ks) (hv : TokAt P news v k (xT ys.length)) : TokRow P news (ys ++ [v]) (ks ++ [k]) := by
  refine ⟨by simp [h.1], fun j k' hk => ?_⟩
  by_cases hj : j < ks.length
  · rw [List.getElem?_append_left hj] at hk
    obtain ⟨v', h1, h2⟩ := h.2 j k' hk
    refine ⟨v', ?_, h2⟩
    rw [List.getElem?_append_left (h.1 ▸ hj)]
    exact h1
  · have hj' : j = ks.length := by
      have := (List.getElem?_eq_some_iff.mp hk).1
      rw [List.length_append, List.length_singleton] at this
      omega
    subst hj'
    rw [List.getElem?_append_right (Nat.le_refl _), Nat.sub_self] at hk
    injection hk with hk
    subst hk
    refine ⟨v, ?_, h.1 ▸ hv⟩
    rw [List.getElem?_append_right (Nat.le_of_eq h.1), h.1, Nat.sub_self]
    rfl

def endS : Str := Str.ofString "$end"
/-- where the source stands after a token -/
def nxt (ks : List Str) (p : Nat) : Nat := match ks[p]? with
  | some k => if k = endS then p else p + 1
  | none => p
/-- what the source tells at a place -/
def tel (ks : List Str) (p : Nat) : Str × Str := match ks[p]? with
  | some k => (k, xT p)
  | none => (endS, Str.ofString "")
theorem nxt_end {ks : List Str} {p : Nat} {k : Str} (h : ks[p]? = some k) (e : k = endS) : nxt ks p = p := by unfold nxt; rw [h]; exact if_pos e
theorem nxt_go {ks : List Str} {p : Nat} {k : Str} (h : ks[p]? = some k) (e : ¬ k = endS) : nxt ks p = p + 1 := by unfold nxt; rw [h]; exact if_neg e
section
variable {prog : Program} {w : World} {A : Around} {E : Value → Shared → Prop} {s : Shared} {h₀ : Heap} {L a b : Addr} {m : Str → Option Value} {news news' : NewsL} {Q : Value → Shared → Prop}
theorem len_row {P : Params} {l : Addr} {ys : List Value} {ks : List Str} {n : Nat} (N : News h₀ L s.heap news) (hl : (l, listOf ys.toArray n) ∈ news) (hr : TokRow P news' ys ks) (h7 : ks.length ≤ 7)
    (h : Q (.int ks.length (s.toks + 1)) { s with toks := s.toks + 1 + 1 }) : wpAny (model prog w) A (call (.builtin "len") [.ref l]) Q E s := by
  have e : ys.toArray.size = ks.length := by rw [List.size_toArray]; exact hr.1
  refine len_list (News.isList N hl) (by rw [e]; omega) ?_
  rw [e]
  exact h
theorem item_row {mid : NewsL} {value slice : PySem.Expr} {P : Params} {l : Addr} {ys : List Value} {ks : List Str} {n : Nat} {i : Int} {u : Tok} (N : News h₀ L s.heap news) (hl : (l, listOf ys.toArray n) ∈ news) (hr : TokRow P news' ys ks) (h7 : ks.length ≤ 7)
    (sub : ∀ q ∈ news', q ∈ mid) (h0 : 0 ≤ i) (hi : i < ks.length) (h : ∀ k a dx tk tx e1 e2 e3 e4, ks[i.toNat]? = some k → (a, instObj 93 dx) ∈ news' → (dx, tokD P k tk (xT i.toNat) tx e1 e2 e3 e4) ∈ news' → (a, instObj 93 dx) ∈ mid → (dx, tokD P k tk (xT i.toNat) tx e1 e2 e3 e4) ∈ mid → Q (.ref a) s)
    (hs : subscripted slice false (.ref l) (.int i u) = operate [.ref l, .int i u] (getItem (.ref l) (.int i u))) (hg : ∀ r, letTemporaryGo value (.ref l) r = pure ()) :
    wpAny (model prog w) A (subscriptTail value slice (.ref l) (.int i u)) Q E s := by
  have hlt : i.toNat < ks.length := by omega
  obtain ⟨v, hv, a, dx, tk, tx, e1, e2, e3, e4, rfl, h1, h2⟩ := hr.2 i.toNat _ (List.getElem?_eq_getElem hlt)
  exact item_listL (News.isList N hl) h0 (by omega) hv (h _ _ _ _ _ _ _ _ _ (List.getElem?_eq_getElem hlt) h1 h2 (sub _ h1) (sub _ h2)) hs hg
end
local macro_rules | `(tactic| walk_at "call builtin:len") => `(tactic| (k_here; (with_reducible show wpAny _ _ (call (Value.builtin "len") [Value.ref _]) _ _ _); k_dflt (refine' len_row (by k_asm) (by k_mem) (by with_reducible assumption) (by assumption) ?_)))
local macro_rules | `(tactic| walk_at "subscriptTail") => `(tactic| (k_here; (with_reducible show wpAny _ _ (subscriptTail _ _ (Value.ref _) (Value.int _ _)) _ _ _); k_dflt (refine' item_row (by k_asm) (by k_mem) (by with_reducible assumption) (by assumption) (by assumption) (by omega) (by omega) ?_ (by with_unfolding_all rfl) (by (intro _; with_unfolding_all rfl))); intro k9 a9 dx9 tk9 tx9 e19 e29 e39 e49 hk9 ha9 hd9 hb9 hc9; (try k_fold)))
theorem next_does (w : World) (mean : ExcName → Option Value) (mg mb : Str → Option Value) (R d Rw : Addr) (ys : List Value) (ks : List Str) (p : Int) (ti ta tb : Tok) (n : Nat) (rest nw : NewsL)
    (hR : (R, instObj 162 d) ∈ rest) (hw : (Rw, listOf ys.toArray n) ∈ rest) (hrow : TokRow w.params nw ys ks) (hnw : ∀ q ∈ nw, q ∈ rest) (h7 : ks.length ≤ 7) (hp0 : 0 ≤ p) (hp : p ≤ ks.length) (hd : ∀ q ∈ rest, q.1 ≠ d) :
    Does w mean mg mb 159 [.ref R] 5 ((d, rowD w.params Rw p ti ta tb) :: rest)
      (fun r news' => ∃ fresh ti' ta' tb', TokAt w.params (fresh ++ nw) r (tel ks p.toNat).1 (tel ks p.toNat).2 ∧ news' = fresh ++ (d, rowD w.params Rw (nxt ks p.toNat : Nat) ti' ta' tb') :: rest ∧ (∀ q ∈ fresh, d < q.1 ∧ ∀ z ∈ rest, z.1 < q.1)) := by
  unfold Does
  k_fill
  intro dp un gd cn cs a ccd cl outer A₀ base h₀ L m s Q E B F X N T hk hdp hu hret
  refine wpAny_call ?_
  k_dflt ktr_enter
  k_steps
  · (rename Fr h₀ L _ m => hF9); (rename News h₀ L _ _ => hN9); (rename _ ∧ AllLt _ rest => hl9); (rename _ < _ => hl8); (rename (ks.length : Int) ≤ p => hc)
    have hnone : ks[p.toNat]? = none := List.getElem?_eq_none (by omega)
    have e1 : tel ks p.toNat = (endS, Str.ofString "") := by unfold tel; rw [hnone]
    have e2 : ((nxt ks p.toNat : Nat) : Int) = p := by unfold nxt; rw [hnone]; exact Int.toNat_of_nonneg hp0
    refine' hret _ _ _ _ hF9 hN9 ⟨_ :: _ :: [], ti, ta, tb, ?t1, ?t2, ?t3⟩
    case t2 => rw [e2]; rfl
    case t1 =>
      rw [e1]
      exact ⟨_, _, _, _, _, _, _, _, rfl, List.mem_cons_self, .tail _ List.mem_cons_self⟩
    case t3 =>
      have hz := kst_ltOf hl9.2
      refine List.forall_mem_cons.mpr ⟨⟨Nat.lt_trans hl9.1 hl8, fun z h => Nat.lt_trans (hz z h) hl8⟩, List.forall_mem_cons.mpr ⟨⟨hl9.1, hz⟩, fun _ h => nomatch h⟩⟩
  · (rename Fr h₀ L _ m => hF9); (rename News h₀ L _ _ => hN9); (rename (_ != _) = true => hb); (rename Str => k9); (rename ks[p.toNat]? = some k9 => hk9); (rename (_, instObj 93 _) ∈ nw => ha9)
    have e1 : tel ks p.toNat = (k9, xT p.toNat) := by unfold tel; rw [hk9]
    have e2 : ((nxt ks p.toNat : Nat) : Int) = p + 1 := by rw [nxt_go hk9 (by simpa [endS] using hb)]; omega
    refine' hret _ _ _ _ hF9 hN9 ⟨[], ?x1, ?x2, ?x3, ?t1, ?t2, fun _ h => nomatch h⟩
    case t2 => rw [e2]; rfl
    case t1 =>
      rw [e1]
      exact ⟨_, _, _, _, _, _, _, _, rfl, ha9, by assumption⟩
  · (rename Fr h₀ L _ m => hF9); (rename News h₀ L _ _ => hN9); (rename (_ != _) = false => hb); (rename Str => k9); (rename ks[p.toNat]? = some k9 => hk9); (rename (_, instObj 93 _) ∈ nw => ha9)
    have e1 : tel ks p.toNat = (k9, xT p.toNat) := by unfold tel; rw [hk9]
    have e2 : ((nxt ks p.toNat : Nat) : Int) = p := by rw [nxt_end hk9 (by simpa [endS] using hb)]; omega
    refine' hret _ _ _ _ hF9 hN9 ⟨[], ?y1, ?y2, ?y3, ?u1, ?u2, fun _ h => nomatch h⟩
    case u2 => rw [e2]; rfl
    case u1 =>
      rw [e1]
      exact ⟨_, _, _, _, _, _, _, _, rfl, ha9, by assumption⟩
/-- what «told» of a token gives -/
def TupAt (news : NewsL) (v : Value) (p : Str × Str) : Prop := ∃ T tk tx n, v = .ref T ∧ (T, ({ cls := .type "tuple", data := .seq #[.str p.1 tk, .str p.2 tx] n } : Obj)) ∈ news
theorem TupAt.mono {news news' : NewsL} {v : Value} {p : Str × Str} (h : TupAt news v p) (f : ∀ p ∈ news, p ∈ news') : TupAt news' v p :=
  let ⟨T, tk, tx, n, h1, h2⟩ := h
  ⟨T, tk, tx, n, h1, f _ h2⟩
theorem told_does (w : World) (mean : ExcName → Option Value) (mg mb : Str → Option Value) (a dx : Addr) (k x : Str) (tk tx e1 e2 e3 e4 : Tok) (rest : NewsL)
    (ha : (a, instObj 93 dx) ∈ rest) (hd : (dx, tokD w.params k tk x tx e1 e2 e3 e4) ∈ rest) :
    Does w mean mg mb 83 [.ref a] 3 rest (fun r news' => ∃ T tk' tx' n, r = .ref T ∧ news' = (T, ({ cls := .type "tuple", data := .seq #[.str k tk', .str x tx'] n } : Obj)) :: rest ∧ (∀ z ∈ rest, z.1 < T)) := by
  unfold Does
  k_fill
  intro dp un gd cn cs a ccd cl outer A₀ base h₀ L m s Q E B F X N T hk hdp hu hret
  refine wpAny_call ?_
  k_dflt ktr_enter
  k_steps
  (rename Fr h₀ L _ m => hF9); (rename News h₀ L _ _ => hN9); (rename ∀ p ∈ rest, p.1 < _ => hl9)
  exact hret _ _ _ _ hF9 hN9 ⟨_, _, _, _, rfl, rfl, hl9⟩
section
variable {w : World} {mean : ExcName → Option Value} {mg mb : Str → Option Value} {dp un : Nat} {gd : Option (List Code)} {cn : Str} {cs : Scope} {a : Addr} {ccd : Value} {cl : List (Str × Addr)} {outer : List Env} {A A₀ : Around} {base h₀ : Heap} {L : Addr} {m : Str → Option Value} {s : Shared}
    {Q E : Value → Shared → Prop} {news : NewsL}
theorem told_use {b dx : Addr} {k x : Str} {tk tx e1 e2 e3 e4 : Tok}
    (B : Below A₀ base outer h₀) (F : Fr h₀ L s.heap m) (X : (Mine.hd.heap_39 w.params).In h₀) (N : News h₀ L s.heap news)
    (T : Top Mine.hd.view_39 (looseW Mine.hd.view_39 [Str.ofString "ToolError", Str.ofString "BARRED"]) mean mg mb h₀) (hk : cs.kind = .function)
    (hd : dp + 3 < recursionLimit) (hu : un + 8 * 3 < cLine) (ha : (b, instObj 93 dx) ∈ news) (hdx : (dx, tokD w.params k tk x tx e1 e2 e3 e4) ∈ news)
    (h : ∀ T tk' tx' n h' tk'', Fr h₀ L h' m → News h₀ L h' ((T, ({ cls := .type "tuple", data := .seq #[.str k tk', .str x tx'] n } : Obj)) :: news) → (∀ z ∈ news, z.1 < T) → Q (.ref T) { s with heap := h', toks := tk'' }) :
    wpAny (model PySem.Challenge.rw_nn0355_01.row.prog w) (ktrTop dp un gd cn cs L a ccd cl outer) (call (.ref 83) [.ref b]) Q E s :=
  told_does w mean mg mb b dx k x tk tx e1 e2 e3 e4 news ha hdx dp un gd cn cs a ccd cl outer A₀ base h₀ L m s Q E B F X N T hk hd hu fun _ _ h' tk' F' N' ⟨T, tk', tx', n, e1, e2, e3⟩ => by subst e1 e2; exact h T tk' tx' n h' _ F' N' e3
theorem next_use {z1 z2 : Addr × Obj} {R d Rw : Addr} {ys : List Value} {ks : List Str} {p : Nat} {ti ta tb : Tok} {n : Nat} {ex nw : NewsL}
    (B : Below A₀ base outer h₀) (F : Fr h₀ L s.heap m) (X : (Mine.hd.heap_39 w.params).In h₀) (N : News h₀ L s.heap (z1 :: z2 :: (d, rowD w.params Rw (p : Nat) ti ta tb) :: ex))
    (T : Top Mine.hd.view_39 (looseW Mine.hd.view_39 [Str.ofString "ToolError", Str.ofString "BARRED"]) mean mg mb h₀) (hk : cs.kind = .function)
    (hd : dp + 5 < recursionLimit) (hu : un + 8 * 5 < cLine) (hR : (R, instObj 162 d) ∈ ex) (hw : (Rw, listOf ys.toArray n) ∈ ex) (hrow : TokRow w.params nw ys ks) (hnw : ∀ q ∈ nw, q ∈ ex) (h7 : ks.length ≤ 7) (hp : p ≤ ks.length)
    (hz1 : @Ne Nat z1.1 d) (hz2 : @Ne Nat z2.1 d) (hex : ∀ q ∈ ex, q.1 ≠ d) (hex1 : ∀ q ∈ ex, q.1 ≠ z1.1) (hex2 : ∀ q ∈ ex, q.1 ≠ z2.1)
    (h : ∀ b dx tk tx e1 e2 e3 e4 ti' ta' tb' ex' h' tk', (∀ q ∈ ex, q ∈ ex') → (∀ q ∈ ex', q.1 ≠ d) → (∀ q ∈ ex', q.1 ≠ z1.1) → (∀ q ∈ ex', q.1 ≠ z2.1) → (b, instObj 93 dx) ∈ ex' → (dx, tokD w.params (tel ks p).1 tk (tel ks p).2 tx e1 e2 e3 e4) ∈ ex' →
      Fr h₀ L h' m → News h₀ L h' (z1 :: z2 :: (d, rowD w.params Rw (nxt ks p : Nat) ti' ta' tb') :: ex') → Q (.ref b) { s with heap := h', toks := tk' }) :
    wpAny (model PySem.Challenge.rw_nn0355_01.row.prog w) (ktrTop dp un gd cn cs L a ccd cl outer) (call (.ref 159) [.ref R]) Q E s := by
  have hsub : ∀ {q : Addr × Obj}, q ∈ ex → q ∈ z1 :: z2 :: ex := fun h => .tail _ (.tail _ h)
  refine next_does w mean mg mb R d Rw ys ks p ti ta tb n (z1 :: z2 :: ex) nw (hsub hR) (hsub hw) hrow (fun q hq => hsub (hnw q hq)) h7 (Int.natCast_nonneg _) (by omega) (List.forall_mem_cons.mpr ⟨hz1, List.forall_mem_cons.mpr ⟨hz2, hex⟩⟩) dp un gd cn cs a ccd cl outer A₀ base h₀ L m s Q E B F X ?_ T hk hd hu ?_
  · intro q hq
    refine N q ?_
    simp only [List.mem_cons] at hq ⊢
    rcases hq with h | h | h | h
    · exact .inr (.inr (.inl h))
    · exact .inl h
    · exact .inr (.inl h)
    · exact .inr (.inr (.inr h))
  · rintro r news' h' tk' F' N' ⟨fresh, ti', ta', tb', ⟨b, dx, tk, tx, e1, e2, e3, e4, rfl, hb, hdx⟩, rfl, hfr⟩
    rw [Int.toNat_natCast] at *
    refine h b dx tk tx e1 e2 e3 e4 ti' ta' tb' (fresh ++ ex) h' tk' (fun q hq => List.mem_append_right _ hq) (fun q hq => (List.mem_append.mp hq).elim (fun e => Nat.ne_of_gt (hfr q e).1) (hex q)) (fun q hq => (List.mem_append.mp hq).elim (fun e => Nat.ne_of_gt ((hfr q e).2 _ (.head _))) (hex1 q)) (fun q hq => (List.mem_append.mp hq).elim (fun e => Nat.ne_of_gt ((hfr q e).2 _ (.tail _ (.head _)))) (hex2 q)) ?_ ?_ F' fun q hq => N' q ?_
    · exact (List.mem_append.mp hb).elim (List.mem_append_left _) fun q => List.mem_append_right _ (hnw _ q)
    · exact (List.mem_append.mp hdx).elim (List.mem_append_left _) fun q => List.mem_append_right _ (hnw _ q)
    · simp only [List.mem_cons, List.mem_append] at hq ⊢
      rcases hq with h | h | h | h | h
      · exact .inr (.inr (.inl h))
      · exact .inr (.inr (.inr (.inl h)))
      · exact .inr (.inl h)
      · exact .inl h
      · exact .inr (.inr (.inr (.inr h)))
end
/-- a row of values that stand for words -/
def Row {α : Type} (R : Value → α → Prop) (ys : List Value) (xs : List α) : Prop := ys.length = xs.length ∧ ∀ (j : Nat) x, xs[j]? = some x → ∃ v, ys[j]? = some v ∧ R v x
theorem Row.mono {α : Type} {R R' : Value → α → Prop} {ys : List Value} {xs : List α} (h : Row R ys xs) (f : ∀ v x, R v x → R' v x) : Row R' ys xs :=
  ⟨h.1, fun j x hx => let ⟨v, hv, hr⟩ := h.2 j x hx; ⟨v, hv, f _ _ hr⟩⟩
theorem Row.nil {α : Type} {R : Value → α → Prop} : Row R [] [] := ⟨rfl, fun j x h => nomatch h⟩
theorem Row.snoc {α : Type} {R : Value → α → Prop} {ys : List Value} {xs : List α} {v : Value} {x : α} (h : Row R ys xs) (hv : R v x) : Row R (ys ++ [v]) (xs ++ [x]) := by
  refine ⟨by simp [h.1], fun j x' hx => ?_⟩
  by_cases hj : j < xs.length
  · rw [List.getElem?_append_left hj] at hx
    obtain ⟨v', h1, h2⟩ := h.2 j x' hx
    exact ⟨v', by rw [List.getElem?_append_left (h.1 ▸ hj)]; exact h1, h2⟩
  · have hj' : j = xs.length := by
      have := (List.getElem?_eq_some_iff.mp hx).1
      rw [List.length_append, List.length_singleton] at this
      omega
    subst hj'
    rw [List.getElem?_append_right (Nat.le_refl _), Nat.sub_self] at hx
    injection hx with hx
    subst hx
    exact ⟨v, by rw [List.getElem?_append_right (Nat.le_of_eq h.1), h.1, Nat.sub_self]; rfl, hv⟩
theorem Row.drop {α : Type} {R : Value → α → Prop} {ys : List Value} {xs : List α} (h : Row R ys xs) (k : Nat) : Row R (ys.drop k) (xs.drop k) :=
  ⟨by simp [h.1], fun j x hx => by
    rw [List.getElem?_drop] at hx
    obtain ⟨v, h1, h2⟩ := h.2 _ x hx
    exact ⟨v, by rw [List.getElem?_drop]; exact h1, h2⟩⟩
theorem Row.take {α : Type} {R : Value → α → Prop} {ys : List Value} {xs : List α} (h : Row R ys xs) (k : Nat) : Row R (ys.take k) (xs.take k) :=
  ⟨by simp [h.1], fun j x hx => by
    rw [List.getElem?_take] at hx
    split at hx
    · obtain ⟨v, h1, h2⟩ := h.2 _ x hx
      exact ⟨v, by rw [List.getElem?_take, if_pos (by assumption)]; exact h1, h2⟩
    · cases hx⟩
theorem Row.cons_inv {α : Type} {R : Value → α → Prop} {ys : List Value} {x : α} {xs : List α} (h : Row R ys (x :: xs)) : ∃ v vs, ys = v :: vs ∧ R v x ∧ Row R vs xs := by
  obtain ⟨h1, h2⟩ := h
  cases ys with
  | nil => simp at h1
  | cons v vs =>
    obtain ⟨v', e, hr⟩ := h2 0 x rfl
    injection e with e
    subst e
    exact ⟨v, vs, rfl, hr, by simpa using h1, fun j y hy => h2 (j + 1) y hy⟩
/-- where the source stands after some tokens -/
def pos (ks : List Str) : Nat → Nat
  | 0 => 0
  | i + 1 => nxt ks (pos ks i)
theorem nxt_le {ks : List Str} {p : Nat} (h : p ≤ ks.length) : nxt ks p ≤ ks.length := by
  unfold nxt
  split
  · rename_i k hk
    have := (List.getElem?_eq_some_iff.mp hk).1
    split <;> omega
  · exact h
theorem pos_le (ks : List Str) : ∀ i, pos ks i ≤ ks.length
  | 0 => Nat.zero_le _
  | i + 1 => nxt_le (pos_le ks i)
/-- what is heard of a source in i turns -/
def heardL (ks : List Str) (i : Nat) : List (Str × Str) := (List.range i).map fun j => tel ks (pos ks j)
theorem heardL_succ (ks : List Str) (i : Nat) : heardL ks (i + 1) = heardL ks i ++ [tel ks (pos ks i)] := by
  unfold heardL
  rw [List.range_succ, List.map_append]
  rfl
section
variable {prog : Program} {w : World} {A : Around} {E : Value → Shared → Prop} {s : Shared} {h₀ : Heap} {L : Addr} {m : Str → Option Value} {news news' : NewsL} {Q : Value → Shared → Prop}
theorem append_ref {D T : Addr} {ws : List Value} {n : Nat} (F : Fr h₀ L s.heap m) (N : News h₀ L s.heap news) (U : Upd D (listOf ws.toArray n) (listOf (ws ++ [Value.ref T]).toArray (n + 1)) news news') (hn : ws.length ≤ 100)
    (h : ∀ h', Fr h₀ L h' m → News h₀ L h' news' → Q .none { s with heap := h' }) : wpAny (model prog w) A (call (.builtin "list.append") [.ref D, .ref T]) Q E s := by
  have e : ws.toArray.push (.ref T) = (ws ++ [Value.ref T]).toArray := by simp
  refine append_K F N (its := ws.toArray) (x := .ref T) (news' := news') (by rw [e]; exact U) (fun h' F' N' => h h' F' N') ?_
  rw [PySem.sizeLine_eq, List.size_toArray]
  omega
end
end
section
open PySem PySem.W PyProof.Rows PySem.Calls PySem.Spec
/-- the word of the loop that hears the source -/
structure Heard (P : Params) (x : Str) (m₀ : Str → Option Value) (H d Rw : Addr) (ks : List Str) (base : NewsL) (i : Nat) (u : Option Value) (hs : List Value) (c : Nat) (ti ta tb : Tok) (ex : NewsL) (m' : Str → Option Value) (n' : NewsL) : Prop where
  frm : m' = fun y => if y = x then u else m₀ y
  led : n' = (H, listOf hs.toArray c) :: (d, rowD P Rw (pos ks i : Nat) ti ta tb) :: ex
  old : ∀ q ∈ base, q ∈ ex
  offd : ∀ q ∈ ex, q.1 ≠ d
  offH : ∀ q ∈ ex, q.1 ≠ H
  row : Row (TupAt ex) hs (heardL ks i)
theorem heardL_length (ks : List Str) (i : Nat) : (heardL ks i).length = i := by simp [heardL]
section
variable {prog : Program} {w : World} {A : Around} {E : Value → Shared → Prop} {s : Shared} {env : Env} {h₀ : Heap} {body : List Stmt} {Q : Flow → Shared → Prop}
theorem heard_loop {P : Params} {x : Str} {px : Pos} {r : Addr} {t₀ u₀ v₀ : Tok} {b₀ : Int} {m₀ : Str → Option Value} {news base ex₀ : NewsL} {H d Rw : Addr} {ks : List Str} {ti₀ ta₀ tb₀ : Tok} {n : Nat}
    (hh : A.handled = none) (hr : IsRange s.heap r 0 b₀ 1 t₀ u₀ v₀) (hsmall : Builtin.Range.small 0 b₀ 1 = true) (hn : Builtin.Range.rangeSize 0 b₀ 1 = (n : Int)) (F : Fr h₀ env.locals s.heap m₀) (N : News h₀ env.locals s.heap news)
    (hnews : ∀ p ∈ (H, listOf #[] 0) :: (d, rowD P Rw 0 ti₀ ta₀ tb₀) :: ex₀, p ∈ news) (hbase : ∀ q ∈ base, q ∈ ex₀) (hd : ∀ q ∈ ex₀, q.1 ≠ d) (hH : ∀ q ∈ ex₀, q.1 ≠ H)
    (turn : ∀ (I : Addr) (oI : Obj), (@LT.lt Nat _ H I ∧ @LT.lt Nat _ d I) → ∀ i u hs c ti ta tb ex (t : Tok) h tk, i < n → hs.length = i → (∀ q ∈ base, q ∈ ex) → (∀ q ∈ ex, q.1 ≠ d) → (∀ q ∈ ex, q.1 ≠ I) → (∀ q ∈ ex, q.1 ≠ H) → Row (TupAt ex) hs (heardL ks i) →
      Fr h₀ env.locals h (fun y => if y = x then u else m₀ y) → News h₀ env.locals h ((I, oI) :: (H, listOf hs.toArray c) :: (d, rowD P Rw (pos ks i : Nat) ti ta tb) :: ex) →
      wpAny (model prog w) A (assign (.Name x px) env (.int (i : Int) t)) (fun _ s₂ => wpAny (model prog w) A (execs body env) (UnrPostW h₀ env.locals { s with heap := h, toks := tk } [(I, oI)]
        (fun m' n' => (∀ q ∈ n', q.1 ≠ I) ∧ ∃ u hs c ti ta tb ex, Heard P x m₀ H d Rw ks base (i + 1) u hs c ti ta tb ex m' n') Q) E s₂) E { s with heap := h, toks := tk })
    (fin : ∀ u hs c ti ta tb ex h tk, (∀ q ∈ base, q ∈ ex) → (∀ q ∈ ex, q.1 ≠ d) → (∀ q ∈ ex, q.1 ≠ H) → Row (TupAt ex) hs (heardL ks n) → Fr h₀ env.locals h (fun y => if y = x then u else m₀ y) →
      News h₀ env.locals h ((H, listOf hs.toArray c) :: (d, rowD P Rw (pos ks n : Nat) ti ta tb) :: ex) → Q .next { s with heap := h, toks := tk }) :
    wpAny (model prog w) A (pyIter (.ref r)) (fun it s₂ => TurnsAt prog w A h₀ env (.Name x px) body Q E it s₂) E s := by
  have N' : News h₀ env.locals s.heap ((H, listOf #[] 0) :: (d, rowD P Rw 0 ti₀ ta₀ tb₀) :: ex₀) := fun p hp => N p (hnews p hp)
  refine iter_rangeTurns hh hr hsmall hn F N' fun I hI => ?_
  refine items_ind (fun xs m' n' => (∀ q ∈ n', q.1 ≠ I) ∧ ∃ i k, i + k = n ∧ xs = (List.range' i k).map (fun i : Nat => Itm.tok (fun t => .int (0 + (i : Int)) t)) ∧ ∃ u hs c ti ta tb ex, Heard P x m₀ H d Rw ks base i u hs c ti ta tb ex m' n') ?_ ?_ ?_ _ _ _
    ⟨fun q hq => Nat.ne_of_lt (hI q hq), 0, n, Nat.zero_add _, by rw [List.range_eq_range'], m₀ x, [], 0, ti₀, ta₀, tb₀, ex₀, ?_, rfl, hbase, hd, hH, Row.nil⟩
  · exact fun _ _ _ _ => trivial
  · rintro a r m' n' v h tk ⟨hoI, i, k, hik, hx, u, hs, c, ti, ta, tb, ex, hJ⟩ hv F'
    cases k with
    | zero => cases hx
    | succ k =>
      rw [List.range'_succ, List.map_cons] at hx
      injection hx with hx1 hx2
      subst hx1 hx2
      obtain ⟨t, rfl⟩ := hv
      obtain ⟨rfl, rfl, h1, h2, h3, h4⟩ := hJ
      intro oI hIo N'
      rw [Int.zero_add]
      refine wpAny_mono (turn I oI ⟨hI _ (.head _), hI _ (.tail _ (.head _))⟩ i u hs c ti ta tb ex t h tk (by omega) (by rw [h4.1, heardL_length]) h1 h2 (fun q hq => hoI q (.tail _ (.tail _ hq))) h3 h4 F' N') (fun _ s₂ q => wpAny_mono q (fun f s₃ q₂ => unrPost_mono (fun m' n' j => ?_) q₂) fun _ _ e => e) fun _ _ e => e
      obtain ⟨j1, j2⟩ := j
      exact ⟨j1, i + 1, k, by omega, rfl, j2⟩
  · rintro m' n' h tk ⟨hoI, i, k, hik, hx, u, hs, c, ti, ta, tb, ex, hJ⟩ F' N'
    cases k with
    | succ k => cases hx
    | zero =>
      obtain rfl : i = n := hik
      obtain ⟨rfl, rfl, h1, h2, h3, h4⟩ := hJ
      exact fin u hs c ti ta tb ex h tk h1 h2 h3 h4 F' N'
  · funext y
    by_cases hy : y = x
    · rw [if_pos hy, hy]
    · rw [if_neg hy]
end
theorem heard_turn {P : Params} {x : Str} {h₀ h' : Heap} {L T I H d Rw : Addr} {oI : Obj} {m₀ : Str → Option Value} {v : Value} {u : Option Value} {hs : List Value} {c n i tk' : Nat} {ks : List Str} {t1 t2 ti ta tb : Tok} {ex₀ ex base : NewsL} {R : Prop} {s₁ : Shared}
    (F : Fr h₀ L h' (fun y => if y = x then some v else if y = x then u else m₀ y))
    (N : News h₀ L h' ((T, { cls := .type "tuple", data := .seq #[.str (tel ks (pos ks i)).1 t1, .str (tel ks (pos ks i)).2 t2] n }) :: (I, oI) :: (H, listOf (hs ++ [Value.ref T]).toArray (c + 1)) :: (d, rowD P Rw (nxt ks (pos ks i) : Nat) ti ta tb) :: ex))
    (l : @LT.lt Nat _ I T ∧ @LT.lt Nat _ H T ∧ @LT.lt Nat _ d T ∧ R) (l1 : @LT.lt Nat _ H I) (l2 : @LT.lt Nat _ d I) (ed : ∀ q ∈ ex, q.1 ≠ d) (eI : ∀ q ∈ ex, q.1 ≠ I) (eH : ∀ q ∈ ex, q.1 ≠ H) (old : ∀ q ∈ base, q ∈ ex₀) (sub : ∀ q ∈ ex₀, q ∈ ex) (row : Row (TupAt ex₀) hs (heardL ks i)) :
    UnrEndW h₀ L s₁ [(I, oI)] (fun m' n' => (∀ q ∈ n', q.1 ≠ I) ∧ ∃ u hs c ti ta tb ex, Heard P x m₀ H d Rw ks base (i + 1) u hs c ti ta tb ex m' n') { s₁ with heap := h', toks := tk' } := by
  obtain ⟨a1, a2, a3, _⟩ := l
  have offI : ∀ q ∈ (H, listOf (hs ++ [Value.ref T]).toArray (c + 1)) :: (d, rowD P Rw (nxt ks (pos ks i) : Nat) ti ta tb) :: (T, ({ cls := .type "tuple", data := .seq #[.str (tel ks (pos ks i)).1 t1, .str (tel ks (pos ks i)).2 t2] n } : Obj)) :: ex, q.1 ≠ I :=
    List.forall_mem_cons.mpr ⟨Nat.ne_of_lt l1, List.forall_mem_cons.mpr ⟨Nat.ne_of_lt l2, List.forall_mem_cons.mpr ⟨Nat.ne_of_gt a1, eI⟩⟩⟩
  refine unrEnd_intro F N ((H, listOf (hs ++ [Value.ref T]).toArray (c + 1)) :: (d, rowD P Rw (nxt ks (pos ks i) : Nat) ti ta tb) :: (T, { cls := .type "tuple", data := .seq #[.str (tel ks (pos ks i)).1 t1, .str (tel ks (pos ks i)).2 t2] n }) :: ex) ?_ ?_ ?_
    ⟨offI, some v, hs ++ [.ref T], c + 1, ti, ta, tb, (T, { cls := .type "tuple", data := .seq #[.str (tel ks (pos ks i)).1 t1, .str (tel ks (pos ks i)).2 t2] n }) :: ex, ?_, rfl, fun q hq => .tail _ (sub q (old q hq)), List.forall_mem_cons.mpr ⟨Nat.ne_of_gt a3, ed⟩, List.forall_mem_cons.mpr ⟨Nat.ne_of_gt a2, eH⟩, ?_⟩
  · intro p hp
    rw [List.mem_singleton.mp hp]
    exact .tail _ (.head _)
  · intro p hp
    simp only [List.mem_cons] at hp ⊢
    rcases hp with h | h | h | h
    · exact .inr (.inr (.inl h))
    · exact .inr (.inr (.inr (.inl h)))
    · exact .inl h
    · exact .inr (.inr (.inr (.inr h)))
  · intro p hp q hq
    rw [List.mem_singleton.mp hq]
    exact offI p hp
  · funext y
    by_cases hy : y = x
    · simp only [if_pos hy]
    · simp only [if_neg hy]
  · rw [heardL_succ]
    exact (row.mono fun v x hx => hx.mono fun q hq => .tail _ (sub q hq)).snoc ⟨T, t1, t2, n, rfl, .head _⟩
/-- the ledger with one entry ahead, all others elsewhere -/
theorem cell_split {h₀ h : Heap} {L c : Addr} {oc : Obj} {news : NewsL} (N : News h₀ L h news) (hc : (c, oc) ∈ news) : ∃ tl, (∀ q ∈ tl, q.1 ≠ c) ∧ (∀ q ∈ news, q.2 ≠ oc → q ∈ tl) ∧ (∀ q ∈ news, q.1 ≠ c → q ∈ tl) ∧ News h₀ L h ((c, oc) :: tl) := by
  refine ⟨news.filter fun q => decide (q.1 ≠ c), fun q hq => ?_, fun q hq hne => ?_, fun q hq hne => List.mem_filter.mpr ⟨hq, decide_eq_true hne⟩, fun q hq => N q ?_⟩
  · exact of_decide_eq_true (List.mem_filter.mp hq).2
  · refine List.mem_filter.mpr ⟨hq, decide_eq_true fun e => hne ?_⟩
    have h1 := (N q hq).1
    have h2 := (N _ hc).1
    rw [e, h2] at h1
    injection h1 with h1
    exact h1.symm
  · rcases List.mem_cons.mp hq with rfl | hq
    · exact hc
    · exact (List.mem_filter.mp hq).1
theorem seq_ne_cell {o oc : Obj} {a : Array Value} {n : Nat} {x : Option Value} (h : o.data = .seq a n) (hc : oc.data = Data.cell x) : o ≠ oc := by
  intro e
  rw [e, hc] at h
  cases h
theorem TupAt.move {news tl : NewsL} {oc : Obj} {x : Option Value} {v : Value} {p : Str × Str} (hc : oc.data = Data.cell x) (t2 : ∀ q ∈ news, q.2 ≠ oc → q ∈ tl) (h : TupAt news v p) : TupAt tl v p :=
  let ⟨T, tk, tx, n, h1, h2⟩ := h
  ⟨T, tk, tx, n, h1, t2 _ h2 (seq_ne_cell rfl hc)⟩
theorem TokAt.move {P : Params} {news tl : NewsL} {oc : Obj} {y : Option Value} {v : Value} {k x : Str} (hc : oc.data = Data.cell y) (t2 : ∀ q ∈ news, q.2 ≠ oc → q ∈ tl) (h : TokAt P news v k x) : TokAt P tl v k x :=
  let ⟨a, dx, tk, tx, e1, e2, e3, e4, h1, h2, h3⟩ := h
  ⟨a, dx, tk, tx, e1, e2, e3, e4, h1, t2 _ h2 (fun e => by rw [← e] at hc; cases hc), t2 _ h3 (fun e => by rw [← e] at hc; cases hc)⟩
/-- the row's pairs -/
def pr (ks : List Str) : List (Str × Str) := (List.range ks.length).map fun j => (ks.getD j Str.empty, xT j)
theorem pr_take_succ {ks : List Str} {i : Nat} {k : Str} (h : ks[i]? = some k) : (pr ks).take (i + 1) = (pr ks).take i ++ [(k, xT i)] := by
  have hlt := (List.getElem?_eq_some_iff.mp h).1
  have e : (pr ks)[i]? = some (k, xT i) := by
    unfold pr
    rw [List.getElem?_map, List.getElem?_range hlt]
    simp [List.getD, h]
  rw [List.take_add_one, e]
  rfl
theorem pr_length (ks : List Str) : (pr ks).length = ks.length := by simp [pr]
theorem compEnd_tup {h₀ h' : Heap} {L I C D T c : Addr} {m : Str → Option Value} {s₁ : Shared} {oI oC oD oT oc : Obj} {S : NewsL → Prop} {rest : Value → NewsL → Prop} {y : Value} {tk : Nat} {tl : NewsL} {R : Prop}
    (F : Fr h₀ L h' m) (N : News h₀ L h' ((T, oT) :: (I, oI) :: (C, oC) :: (D, oD) :: (c, oc) :: tl)) (l : @LT.lt Nat _ I T ∧ @LT.lt Nat _ C T ∧ @LT.lt Nat _ D T ∧ R) (off : LCg.Off3 I C D ((c, oc) :: tl)) (hS : S ((c, oc) :: (T, oT) :: tl)) (r : rest y ((c, oc) :: (T, oT) :: tl)) :
    LCg.CompEnd h₀ L m s₁ I oI C oC D oD S rest y { s₁ with heap := h', toks := tk } := by
  refine LCg.CompEnd.intro F N ((c, oc) :: (T, oT) :: tl) ?_ ⟨off.1, ⟨⟨Nat.ne_of_gt l.1, Nat.ne_of_gt l.2.1, Nat.ne_of_gt l.2.2.1⟩, off.2⟩⟩ hS r
  intro p hp
  simp only [List.mem_cons] at hp ⊢
  rcases hp with h | h | h | h | h | h
  · exact .inr (.inl h)
  · exact .inr (.inr (.inl h))
  · exact .inr (.inr (.inr (.inl h)))
  · exact .inr (.inr (.inr (.inr (.inl h))))
  · exact .inl h
  · exact .inr (.inr (.inr (.inr (.inr h))))
end
section
open PySem PySem.W PyProof.Rows PySem.Calls PySem.Spec
/-- the place of the first end, or the length -/
def cut : List Str → Nat
  | [] => 0
  | k :: r => if k = endS then 0 else cut r + 1
theorem cut_le : ∀ ks, cut ks ≤ ks.length
  | [] => Nat.le_refl _
  | k :: r => by
    unfold cut
    split
    · exact Nat.zero_le _
    · exact Nat.succ_le_succ (cut_le r)
theorem cut_before : ∀ {ks : List Str} {i : Nat}, i < cut ks → ∃ k, ks[i]? = some k ∧ ¬ k = endS
  | [], i, h => absurd h (Nat.not_lt_zero _)
  | k :: r, i, h => by
    unfold cut at h
    split at h
    · exact absurd h (Nat.not_lt_zero _)
    · cases i with
      | zero => exact ⟨k, rfl, by assumption⟩
      | succ i => exact cut_before (ks := r) (Nat.lt_of_succ_lt_succ h)
theorem cut_at : ∀ {ks : List Str}, endS ∈ ks → ks[cut ks]? = some endS
  | [], h => nomatch h
  | k :: r, h => by
    unfold cut
    by_cases e : k = endS
    · rw [if_pos e, e]; rfl
    · rw [if_neg e]
      rcases List.mem_cons.mp h with q | q
      · exact absurd q.symm e
      · exact cut_at (ks := r) q
theorem cut_none : ∀ {ks : List Str}, endS ∉ ks → cut ks = ks.length
  | [], _ => rfl
  | k :: r, h => by
    unfold cut
    have hk : ¬ k = endS := fun e => h (by rw [e]; exact List.mem_cons_self)
    rw [if_neg hk, cut_none (ks := r) fun q => h (List.mem_cons_of_mem _ q)]
    rfl
theorem pos_min (ks : List Str) : ∀ i, pos ks i = min i (cut ks)
  | 0 => (Nat.zero_min _).symm
  | i + 1 => by
    show nxt ks (pos ks i) = _
    rw [pos_min ks i]
    by_cases h : i < cut ks
    · obtain ⟨k, hk, hn⟩ := cut_before h
      rw [Nat.min_eq_left (Nat.le_of_lt h), Nat.min_eq_left h, nxt_go hk hn]
    · rw [Nat.min_eq_right (by omega), Nat.min_eq_right (by omega)]
      by_cases he : endS ∈ ks
      · exact nxt_end (cut_at he) rfl
      · rw [cut_none he]
        unfold nxt
        rw [List.getElem?_eq_none (Nat.le_refl _)]
theorem tel_fst (ks : List Str) : (tel ks (cut ks)).1 = endS := by
  unfold tel
  by_cases he : endS ∈ ks
  · rw [cut_at he]
  · rw [cut_none he, List.getElem?_eq_none (Nat.le_refl _)]
theorem tel_in {ks : List Str} (he : endS ∈ ks) : tel ks (cut ks) = (endS, xT (cut ks)) := by unfold tel; rw [cut_at he]
theorem tel_out {ks : List Str} (he : endS ∉ ks) : tel ks (cut ks) = (endS, Str.ofString "") := by unfold tel; rw [cut_none he, List.getElem?_eq_none (Nat.le_refl _)]
theorem heardL_get (ks : List Str) {n j : Nat} (h : j < n) : (heardL ks n)[j]? = some (tel ks (min j (cut ks))) := by
  unfold heardL
  rw [List.getElem?_map, List.getElem?_range h, Option.map_some, pos_min]
theorem heard_drop (ks : List Str) (n : Nat) : (heardL ks n).drop (cut ks) = List.replicate (n - cut ks) (tel ks (cut ks)) := by
  apply List.ext_getElem?
  intro j
  rw [List.getElem?_drop]
  by_cases h : cut ks + j < n
  · rw [heardL_get ks h, Nat.min_eq_right (by omega), List.getElem?_replicate, if_pos (by omega)]
  · rw [List.getElem?_eq_none (by rw [heardL_length]; omega), List.getElem?_replicate, if_neg (by omega)]
theorem pr_get {ks : List Str} {i : Nat} {k : Str} (h : ks[i]? = some k) : (pr ks)[i]? = some (k, xT i) := by
  have hlt := (List.getElem?_eq_some_iff.mp h).1
  unfold pr
  rw [List.getElem?_map, List.getElem?_range hlt]
  simp [List.getD, h]
theorem heard_take (ks : List Str) {n : Nat} (hn : ks.length ≤ n) : (heardL ks n).take (cut ks) = (pr ks).take (cut ks) := by
  apply List.ext_getElem?
  intro j
  rw [List.getElem?_take, List.getElem?_take]
  split
  · rename_i h
    obtain ⟨k, hk, _⟩ := cut_before h
    have := cut_le ks
    rw [heardL_get ks (by omega), Nat.min_eq_left (Nat.le_of_lt h), pr_get hk]
    unfold tel
    rw [hk]
  · rfl
theorem xT_ok {i : Nat} (h : i ≤ 20) : PyData.strOk (xT i) = true := by
  have q : ∀ k : Fin 21, PyData.strOk (xT k.val) = true := by decide +kernel
  exact q ⟨i, Nat.lt_succ_of_le h⟩
def pairD (p : Str × Str) : PyData := .tuple [.str p.1, .str p.2]
section
variable {h : Heap} {h₀ : Heap} {L : Addr} {news : NewsL}
theorem TupAt.reads (N : News h₀ L h news) {v : Value} {p : Str × Str} (ht : TupAt news v p) : ∃ as, Reads h v (pairD p) as := by
  obtain ⟨T, tk, tx, n, rfl, hm⟩ := ht
  exact ⟨_, reads_tuple_at (N.get hm) rfl rfl (.cons (.str _ _) (.cons (.str _ _) .nil))⟩
theorem reads_row (N : News h₀ L h news) : ∀ {L' : List (Str × Str)} {ys : List Value}, Row (TupAt news) ys L' → ∃ as, ReadsAll h ys (L'.map pairD) as
  | [], ys, r => by
    obtain rfl : ys = [] := List.length_eq_zero_iff.mp r.1
    exact ⟨_, .nil⟩
  | p :: l, ys, r => by
    obtain ⟨v, vs, rfl, hv, hr⟩ := r.cons_inv
    obtain ⟨a1, h1⟩ := hv.reads N
    obtain ⟨a2, h2⟩ := reads_row N hr
    exact ⟨_, .cons h1 h2⟩
theorem lay_pairs : ∀ {l : List (Str × Str)}, (∀ p ∈ l, PyData.strOk p.1 = true ∧ PyData.strOk p.2 = true) → PyData.canLayAll0 (l.map pairD) = true ∧ PyData.depthAll (l.map pairD) ≤ 1
  | [], _ => ⟨rfl, by simp [PyData.depthAll]⟩
  | a :: r, h => by
    have ih := lay_pairs (l := r) fun z hz => h z (.tail _ hz)
    have ha := h a (.head _)
    simp only [List.map_cons, pairD, PyData.canLayAll0, PyData.canLay0, PyData.depthAll, PyData.depth, ih.1, ha.1, ha.2]
    exact ⟨rfl, by have := ih.2; omega⟩
theorem eqv_pairs : ∀ l : List (Str × Str), PyData.eqvAll (l.map pairD) (l.map pairD) = true
  | [] => by simp [PyData.eqvAll]
  | a :: r => by simp only [List.map_cons, pairD, PyData.eqvAll, PyData.eqv, eqv_pairs r, beq_self_eq_true, Bool.and_self]
end
section
variable {prog : Program} {w : World} {A : Around} {E : Value → Shared → Prop} {s : Shared} {h₀ : Heap} {L a b l : Addr} {m : Str → Option Value} {news news' : NewsL} {Q : Value → Shared → Prop}
theorem in_end {vs : List Value} {ks : List Str} {n : Nat} {t : Tok} (N : News h₀ L s.heap news) (hl : (l, listOf vs.toArray n) ∈ news) (hi : StrsAre vs ks) (hT : endS ∈ ks → Q (.bool true) s) (hF : endS ∉ ks → Q (.bool false) s) :
    wpAny (model prog w) A (compareOp .In (.str (Str.ofString "$end") t) (.ref l)) Q E s := by
  refine in_list_strs (News.isList N hl) hi ?_
  by_cases h : endS ∈ ks
  · have e : ks.any (· == Str.ofString "$end") = true := List.any_eq_true.mpr ⟨endS, h, by simp [endS]⟩
    rw [e]
    exact hT h
  · have e : ks.any (· == Str.ofString "$end") = false := by
      rw [Bool.eq_false_iff]
      intro q
      obtain ⟨x, hx, hxe⟩ := List.any_eq_true.mp q
      exact h (by rw [show endS = x from (by simpa using hxe : x = Str.ofString "$end").symm]; exact hx)
    rw [e]
    exact hF h
theorem in_yes {vs : List Value} {ks : List Str} {n : Nat} {t : Tok} (N : News h₀ L s.heap news) (hl : (l, listOf vs.toArray n) ∈ news) (hi : StrsAre vs ks) (he : endS ∈ ks) (h : Q (.bool true) s) :
    wpAny (model prog w) A (compareOp .In (.str (Str.ofString "$end") t) (.ref l)) Q E s := in_end N hl hi (fun _ => h) fun q => absurd he q
theorem in_no {vs : List Value} {ks : List Str} {n : Nat} {t : Tok} (N : News h₀ L s.heap news) (hl : (l, listOf vs.toArray n) ∈ news) (hi : StrsAre vs ks) (he : endS ∉ ks) (h : Q (.bool false) s) :
    wpAny (model prog w) A (compareOp .In (.str (Str.ofString "$end") t) (.ref l)) Q E s := in_end N hl hi (fun q => absurd q he) fun _ => h
theorem strs_getElem {vs : List Value} {ks : List Str} (hi : StrsAre vs ks) {i : Nat} {k : Str} (hk : ks[i]? = some k) (hlt : i < vs.length) : ∃ t, vs[i] = .str k t := by
  obtain ⟨t, e⟩ := hi.get i k hk
  rw [List.getElem?_eq_getElem hlt] at e
  injection e with e
  exact ⟨t, e⟩
theorem index_end {vs : List Value} {ks : List Str} {n : Nat} {t : Tok} (N : News h₀ L s.heap news) (hl : (l, listOf vs.toArray n) ∈ news) (hi : StrsAre vs ks) (he : endS ∈ ks) (h7 : ks.length ≤ 7)
    (h : Q (.int (cut ks : Nat) s.toks) { s with toks := s.toks + 1 }) : wpAny (model prog w) A (call (.builtin "list.index") [.ref l, .str (Str.ofString "$end") t]) Q E s := by
  have hlt := (List.getElem?_eq_some_iff.mp (cut_at he)).1
  have hlen := hi.length
  have hlt' : cut ks < vs.toArray.size := by rw [List.size_toArray]; omega
  refine call_meets PySem.F.slot_list_index ⟨_, (N _ hl).1, rfl⟩ PySem.F.entry_list_index (PySem.F.args_list_index_2 _ _)
    (MeetsSeq.list_index l vs.toArray n (.str (Str.ofString "$end") t) (isStrOf (Str.ofString "$end")) (fun y hy => eq_isStrOf _ t hi y (by simpa using hy)) (cut ks) hlt' (by omega) ?_ (fun i hi' hlt => ?_)) ⟨(N _ hl).1, h⟩
  · obtain ⟨t', e⟩ := strs_getElem hi (cut_at he) (by omega)
    simp only [List.getElem_toArray, e]
    simp [isStrOf, endS]
  · obtain ⟨k, hk, hne⟩ := cut_before hlt
    have hi2 : i < vs.length := by rw [List.size_toArray] at hi'; exact hi'
    obtain ⟨t', e⟩ := strs_getElem hi hk hi2
    simp only [List.getElem_toArray, e]
    simpa [isStrOf, endS] using hne
theorem len_of {vs : List Value} {n c : Nat} (N : News h₀ L s.heap news) (hl : (l, listOf vs.toArray n) ∈ news) (e : vs.length = c) (hc : c ≤ 100) (h : Q (.int (c : Nat) (s.toks + 1)) { s with toks := s.toks + 1 + 1 }) :
    wpAny (model prog w) A (call (.builtin "len") [.ref l]) Q E s := by
  have e' : vs.toArray.size = c := by rw [List.size_toArray]; exact e
  refine len_list (News.isList N hl) (by rw [e']; omega) ?_
  rw [e']
  exact h
theorem slice_take {vs : List Value} {n k : Nat} {t : Tok} {value slice : PySem.Expr} (F : Fr h₀ L s.heap m) (N : News h₀ L s.heap news) (hl : (l, listOf vs.toArray n) ∈ news) (hz : vs.length ≤ 100)
    (h : ∀ D h', Fr h₀ L h' m → News h₀ L h' ((D, listOf (vs.take k).toArray 0) :: news) → (∀ p ∈ news, p.1 < D) → Q (.ref D) { s with heap := h' })
    (hs : subscripted slice false (.ref l) (.ref s.heap.objs.size) = operate [.ref s.heap.objs.size, .ref l] (getItem (.ref l) (.ref s.heap.objs.size))) (ht : ∀ r, letTemporaryGo value (.ref l) r = pure ()) :
    wpAny (model prog w) A (subscriptTail value slice (.ref l) (.ref s.heap.objs.size)) Q E { s with heap := s.heap.push { cls := .type "slice", data := .fields #[.none, .int (k : Nat) t, .none] } } := by
  refine kmk_slice F N (News.isList N hl) IsPart.none (IsPart.int _ _) (fun D h' F' N' l1 => h D h' F' ?_ l1) hs ht (by rw [PySem.sizeLine_eq, List.size_toArray]; omega)
  rw [kms_pick_eq] at N'
  have e : kms_pick vs.toArray.toList none (some (k : Int)) = vs.take k := by
    unfold kms_pick kms_lo kms_hi
    simp only [List.drop_zero, Nat.sub_zero, Int.toNat_natCast]
    rw [if_neg (by omega)]
    exact (List.take_eq_take_iff).mpr (by omega)
  rw [e] at N'
  exact N'
theorem slice_drop {vs : List Value} {n k : Nat} {t : Tok} {value slice : PySem.Expr} (F : Fr h₀ L s.heap m) (N : News h₀ L s.heap news) (hl : (l, listOf vs.toArray n) ∈ news) (hz : vs.length ≤ 100)
    (h : ∀ D h', Fr h₀ L h' m → News h₀ L h' ((D, listOf (vs.drop k).toArray 0) :: news) → (∀ p ∈ news, p.1 < D) → Q (.ref D) { s with heap := h' })
    (hs : subscripted slice false (.ref l) (.ref s.heap.objs.size) = operate [.ref s.heap.objs.size, .ref l] (getItem (.ref l) (.ref s.heap.objs.size))) (ht : ∀ r, letTemporaryGo value (.ref l) r = pure ()) :
    wpAny (model prog w) A (subscriptTail value slice (.ref l) (.ref s.heap.objs.size)) Q E { s with heap := s.heap.push { cls := .type "slice", data := .fields #[.int (k : Nat) t, .none, .none] } } := by
  refine kmk_slice F N (News.isList N hl) (IsPart.int _ _) IsPart.none (fun D h' F' N' l1 => h D h' F' ?_ l1) hs ht (by rw [PySem.sizeLine_eq, List.size_toArray]; omega)
  rw [kms_pick_eq] at N'
  have e : kms_pick vs.toArray.toList (some (k : Int)) none = vs.drop k := by
    unfold kms_pick kms_lo kms_hi
    simp only [Int.toNat_natCast]
    rw [if_neg (by omega)]
    by_cases hk : k ≤ vs.length
    · rw [Nat.min_eq_left hk, List.take_of_length_le (by rw [List.length_drop]; exact Nat.le_refl _)]
    · rw [Nat.min_eq_right (by omega), List.drop_eq_nil_of_le (by omega), List.drop_eq_nil_of_le (by omega), List.take_nil]
  rw [e] at N'
  exact N'
theorem ne_rows {ws1 ws2 : List Value} {xs : List (Str × Str)} {n1 n2 : Nat} (N : News h₀ L s.heap news) (ma : (a, listOf ws1.toArray n1) ∈ news) (mb : (b, listOf ws2.toArray n2) ∈ news) (hs1 : Row (TupAt news) ws1 xs) (hs2 : Row (TupAt news) ws2 xs)
    (hss : ∀ p ∈ xs, PyData.strOk p.1 = true ∧ PyData.strOk p.2 = true) (hu : A.units + 64 < cLine) (h : Q (.bool false) s) : wpAny (model prog w) A (compareOp .NotEq (.ref a) (.ref b)) Q E s := by
  have l := lay_pairs hss
  have sh : SeqAt.shaped (.list (xs.map pairD)) = true := by
    unfold SeqAt.shaped
    simp only [PyData.canLay0, PyData.depth, l.1, Bool.true_and]
    refine decide_eq_true ?_
    have := l.2
    show PyData.depthAll (xs.map pairD) + 1 ≤ 64
    omega
  obtain ⟨as1, r1⟩ := reads_row N hs1
  obtain ⟨as2, r2⟩ := reads_row N hs2
  refine ne_dataH (reads_list_at (N.get ma) rfl rfl r1) (reads_list_at (N.get mb) rfl rfl r2) sh sh hu ?_
  rw [PyData.eqv, eqv_pairs]
  exact h
theorem ne_strs {ws1 ws2 : List Value} {ss : List Str} {n1 n2 : Nat} (N : News h₀ L s.heap news) (ma : (a, listOf ws1.toArray n1) ∈ news) (mb : (b, listOf ws2.toArray n2) ∈ news) (hs1 : StrsAre ws1 ss) (hs2 : StrsAre ws2 ss)
    (hss : ∀ z ∈ ss, PyData.strOk z = true) (hu : A.units + 64 < cLine) (h : Q (.bool false) s) : wpAny (model prog w) A (compareOp .NotEq (.ref a) (.ref b)) Q E s := by
  have l := lay_strs hss
  have sh : SeqAt.shaped (.list (ss.map PyData.str)) = true := by
    unfold SeqAt.shaped
    simp only [PyData.canLay0, PyData.depth, l.1, l.2]
    decide
  refine ne_dataH (reads_list_at (N.get ma) rfl rfl (reads_strs hs1)) (reads_list_at (N.get mb) rfl rfl (reads_strs hs2)) sh sh hu ?_
  rw [PyData.eqv, eqv_strs]
  exact h
theorem ne_tups {p : Str × Str} {v : Value} (N : News h₀ L s.heap news) (ha : TupAt news (.ref a) p) (hb : TupAt news v p) (hp : PyData.strOk p.1 = true ∧ PyData.strOk p.2 = true) (hu : A.units + 64 < cLine) (h : Q (.bool false) s) :
    wpAny (model prog w) A (compareOp .NotEq (.ref a) v) Q E s := by
  have sh : SeqAt.shaped (pairD p) = true := by
    unfold SeqAt.shaped pairD
    simp only [PyData.canLay0, PyData.canLayAll0, PyData.depth, PyData.depthAll, hp.1, hp.2]
    rfl
  obtain ⟨_, r1⟩ := ha.reads N
  obtain ⟨_, r2⟩ := hb.reads N
  refine ne_dataH r1 r2 sh sh hu ?_
  simp only [pairD, PyData.eqv, PyData.eqvAll, beq_self_eq_true, Bool.and_self]
  exact h
theorem strs_rep {x : Str} {t : Tok} : ∀ k : Nat, StrsAre (List.replicate k [Value.str x t]).flatten (List.replicate k x)
  | 0 => .nil
  | k + 1 => .cons _ _ (strs_rep k)
theorem mul_strs {x : Str} {t u : Tok} {n : Nat} {i : Int} (k : Nat) (F : Fr h₀ L s.heap m) (N : News h₀ L s.heap news) (hl : (l, listOf [Value.str x t].toArray n) ∈ news) (hi : i = (k : Int)) (hk : k ≤ 100)
    (h : ∀ D us h', Fr h₀ L h' m → News h₀ L h' ((D, listOf (List.toArray us) 0) :: news) → (∀ p ∈ news, p.1 < D) → StrsAre us (List.replicate k x) → Q (.ref D) { s with heap := h' }) : wpAny (model prog w) A (binaryOp .Mult (.ref l) (.int i u)) Q E s := by
  subst hi
  refine KMa.mul F N (News.isList N hl) (by omega) (by omega) (by simp; omega) rfl fun D h' F' N' l1 => h D _ h' F' N' l1 ?_
  rw [Int.toNat_natCast]
  exact strs_rep k
theorem ne_rows2 {tx : NewsL} {ws1 ws2 : List Value} {xs : List (Str × Str)} {n1 n2 : Nat} (N : News h₀ L s.heap news) (ma : (a, listOf ws1.toArray n1) ∈ news) (mb : (b, listOf ws2.toArray n2) ∈ news) (hs1 : Row (TupAt tx) ws1 xs) (hs2 : Row (TupAt tx) ws2 xs)
    (hss : ∀ p ∈ xs, PyData.strOk p.1 = true ∧ PyData.strOk p.2 = true) (hsub : ∀ q ∈ tx, q ∈ news) (hu : A.units + 64 < cLine) (h : Q (.bool false) s) : wpAny (model prog w) A (compareOp .NotEq (.ref a) (.ref b)) Q E s :=
  ne_rows N ma mb (hs1.mono fun _ _ h => h.mono hsub) (hs2.mono fun _ _ h => h.mono hsub) hss hu h
theorem mul_end {t u : Tok} {n : Nat} {ks : List Str} (F : Fr h₀ L s.heap m) (N : News h₀ L s.heap news) (hl : (l, listOf [Value.str (Str.ofString "$end") t].toArray n) ∈ news) (h7 : ks.length ≤ 7)
    (h : ∀ D us h', Fr h₀ L h' m → News h₀ L h' ((D, listOf (List.toArray us) 0) :: news) → (∀ p ∈ news, p.1 < D) → StrsAre us (List.replicate (ks.length + 3 - cut ks) endS) → Q (.ref D) { s with heap := h' }) :
    wpAny (model prog w) A (binaryOp .Mult (.ref l) (.int ((ks.length : Int) + 3 - (cut ks : Int)) u)) Q E s :=
  mul_strs (x := Str.ofString "$end") (ks.length + 3 - cut ks) F N hl (by have := cut_le ks; omega) (by omega) h
theorem pr_ok {ks : List Str} (hm : ∀ z ∈ ks, z ∈ menu) (h7 : ks.length ≤ 7) : ∀ p ∈ pr ks, PyData.strOk p.1 = true ∧ PyData.strOk p.2 = true := by
  intro p hp
  obtain ⟨j, hj, rfl⟩ := List.mem_map.mp hp
  have hj := List.mem_range.mp hj
  refine ⟨(menu_ok (hm _ ?_)).1, xT_ok (by omega)⟩
  rw [List.getD, List.getElem?_eq_getElem hj]
  exact List.getElem_mem _
end
/-- a comprehension whose turns leave the ledger as it is -/
theorem comp_still {prog : Program} {w : World} {A : Around} {h₀ : Heap} {L : Addr} {m : Str → Option Value} {env : Env} {elt : PySem.Expr} {x : Str} {scope : Scope} {cl : List (Str × Addr)} {s : Shared} {S : NewsL → Prop} {P : Nat → Value → Prop} {Fin : List Value → NewsL → Prop} {news₀ : NewsL} {n : Nat} (J : Nat → List Value → Prop)
    (h0 : J 0 [])
    (turn : ∀ i ys v I oI C oC D m₂ h tk (E' : Value → Shared → Prop), i < n → J i ys → P i v → LCg.NsObj oC m₂ → m₂ x = some v → Fr h₀ L h m → News h₀ L h ((I, oI) :: (C, oC) :: (D, LCg.lst ys) :: news₀) → LCg.Off3 I C D news₀ → ((@Ne Nat I C) ∧ (@Ne Nat I D) ∧ (@Ne Nat C D)) →
      wpAny (model prog w) A (eval elt (compEnvC scope cl C env)) (LCg.CompEnd h₀ L m { s with heap := h, toks := tk } I oI C oC D (LCg.lst ys) S (fun y news' => news' = news₀ ∧ J (i + 1) (ys ++ [y]))) E' { s with heap := h, toks := tk })
    (fin : ∀ ys, J n ys → Fin ys news₀) : LCg.CompRest prog w A h₀ L m env elt x scope cl s S P Fin n 0 [] news₀ := by
  refine comp_ind n (fun i ys nw => nw = news₀ ∧ J i ys) ?_ ?_ n 0 [] news₀ (Nat.zero_add _) ⟨rfl, h0⟩
  · rintro i ys nw v I oI C oC D m₂ h tk E' hi ⟨rfl, hJ⟩ hP hC hx F N off ne
    exact turn i ys v I oI C oC D m₂ h tk E' hi hJ hP hC hx F N off ne
  · rintro ys nw ⟨rfl, hJ⟩
    exact fin ys hJ
theorem row_rep {R : Value → (Str × Str) → Prop} {ys : List Value} {n i : Nat} {p : Str × Str} {v : Value} (h : Row R ys (List.replicate n p)) (hv : ys[i]? = some v) : R v p := by
  have hlt := (List.getElem?_eq_some_iff.mp hv).1
  rw [h.1, List.length_replicate] at hlt
  obtain ⟨v', h1, h2⟩ := h.2 i p (by rw [List.getElem?_replicate, if_pos hlt])
  rw [hv] at h1
  injection h1 with h1
  exact h1 ▸ h2
/-- a comprehension whose test lets nothing through -/
theorem comp_none {prog : Program} {w : World} {A : Around} {h₀ : Heap} {L : Addr} {m : Str → Option Value} {env : Env} {ct elt : PySem.Expr} {x : Str} {scope : Scope} {cl : List (Str × Addr)} {s : Shared} {S : NewsL → Prop} {P : Nat → Value → Prop} {Fin : List Value → NewsL → Prop} {news₀ : NewsL}
    (turn : ∀ i v I oI C oC D m₂ h tk (E' : Value → Shared → Prop), P i v → LCg.NsObj oC m₂ → m₂ x = some v → Fr h₀ L h m → News h₀ L h ((I, oI) :: (C, oC) :: (D, LCg.lst []) :: news₀) → LCg.Off3 I C D news₀ → ((@Ne Nat I C) ∧ (@Ne Nat I D) ∧ (@Ne Nat C D)) →
      wpAny (model prog w) A (isTrue ct (compEnvC scope cl C env) (eval ct (compEnvC scope cl C env))) (fun ok s' => ok = false ∧ LCg.CompEnd h₀ L m { s with heap := h, toks := tk } I oI C oC D (LCg.lst []) S (fun _ news' => news' = news₀) Value.none s') E' { s with heap := h, toks := tk })
    (fin : Fin [] news₀) : ∀ n i, LCt.CompRestT prog w A h₀ L m env ct elt x scope cl s S P Fin n i [] news₀ := by
  intro n
  induction n with
  | zero => exact fun i => LCt.CompRestT.zero fin
  | succ n ih =>
    intro i
    refine LCt.CompRestT.succ fun v I oI C oC D m₂ h tk E' hP hC hx F N off ne => ?_
    refine wpAny_mono (turn i v I oI C oC D m₂ h tk E' hP hC hx F N off ne) (fun ok s' q => ?_) fun _ _ e => e
    obtain ⟨rfl, q⟩ := q
    rw [if_neg (by decide)]
    exact compEnd_mono q fun _ nw e => by subst e; exact ih (i + 1)
theorem tup_in {news : NewsL} {T : Addr} {t1 t2 : Tok} {n : Nat} {ks : List Str} (he : endS ∈ ks) (h : (T, ({ cls := .type "tuple", data := .seq #[.str (Str.ofString "$end") t1, .str (Str.ofString "x" ++ Str.ofString (toString ((cut ks : Nat) : Int))) t2] n } : Obj)) ∈ news) : TupAt news (.ref T) (tel ks (cut ks)) := by
  rw [tel_in he]
  exact ⟨T, t1, t2, n, rfl, h⟩
theorem tup_out {news : NewsL} {T : Addr} {t1 t2 : Tok} {n : Nat} {ks : List Str} (he : endS ∉ ks) (h : (T, ({ cls := .type "tuple", data := .seq #[.str (Str.ofString "$end") t1, .str (Str.ofString "") t2] n } : Obj)) ∈ news) : TupAt news (.ref T) (tel ks (cut ks)) := by
  rw [tel_out he]
  exact ⟨T, t1, t2, n, rfl, h⟩
theorem tel_ok {ks : List Str} (h7 : ks.length ≤ 7) : PyData.strOk (tel ks (cut ks)).1 = true ∧ PyData.strOk (tel ks (cut ks)).2 = true := by
  by_cases he : endS ∈ ks
  · rw [tel_in he]
    have := cut_le ks
    have h1 : PyData.strOk endS = true := by decide +kernel
    exact ⟨h1, xT_ok (by omega)⟩
  · rw [tel_out he]
    exact ⟨by decide +kernel, by decide +kernel⟩
end
section
open PySem PySem.W PyProof.Rows PySem.Calls PySem.Spec
local macro_rules | `(tactic| walk_at "call builtin:len") => `(tactic| (k_here; (with_reducible show wpAny _ _ (call (Value.builtin "len") [Value.ref _]) _ _ _); k_dflt (refine' len_strsA (by exact News.isList (by k_asm) (by k_mem)) (by assumption) (by omega) ?_)))
local macro_rules | `(tactic| walk_at "CompSrc") => `(tactic| (refine Hold.mk ?_))
local macro_rules | `(tactic| walk_at "call ref") => `(tactic| (k_here; (with_reducible show wpAny _ _ (call (Value.ref 93) [Value.str _ _, Value.str _ _, Value.none]) _ _ _); k_dflt (refine' token_new (by k_asm) (by k_asm) (by k_asm) (by k_asm) (by k_asm) (by first | exact rfl | assumption) (by ktr_room) ?_); intro x9 d9 a9 b9 c9 e9 h9 tk9 F9 N9 l1 l2; (try k_lt l1); (try k_lt2 l2); (try dsimp only); (try k_sweep); (try k_fold)))
local macro_rules | `(tactic| walk_at "call type:enumerate") => `(tactic| (refine Hold.mk ?_))
local macro_rules | `(tactic| walk_at "exec For Name Call cons nil") => `(tactic| (k_here; (rename Fr _ _ _ _ => lF'); (with_unfolding_all refine' For_turns lF' ?_; k_whole)))
local macro_rules | `(tactic| walk_at "exec Assign cons ListComp") => `(tactic| (k_here; lcp_look; k_dflt (refine' assign_enum ?c0 ?c1 ?c2 ?c3 ?c4 ?c5 ?c6 ?c7 ?c8 ?c9 ?c10 ?c11 ?c12; (case c0 => k_asm); (case c1 => rfl); (case c4 => decide); (case c5 => rfl); (case c6 => decide); (case c7 => rfl); (case c8 => rfl); (case c9 => decide); (case c10 => rfl); (case c11 => rfl); (case c3 => with_unfolding_all rfl); (case c2 => with_unfolding_all rfl))))
local macro_rules | `(tactic| walk_at "call ref") => `(tactic| (k_here; (with_reducible show wpAny _ _ (call (Value.ref 162) [Value.ref _]) _ _ _); k_dflt (refine' row_new (by k_asm) (by k_asm) (by k_asm) (by k_asm) (by k_asm) (by first | exact rfl | assumption) (by ktr_room) ?_); intro x9 d9 i9 a9 b9 h9 tk9 F9 N9 l1 l2; (try k_lt l1); (try k_lt2 l2); (try dsimp only); (try k_sweep); (try k_fold)))
local macro_rules | `(tactic| walk_at "call ref") => `(tactic| (k_here; (with_reducible show wpAny _ _ (call (Value.ref 159) _) _ _ _); k_dflt (refine' next_use (by k_asm) (by k_asm) (by k_asm) (by k_asm) (by k_asm) (by first | exact rfl | assumption) (by ktr_room) (by ktr_units) (by k_mem) (by k_mem) (by assumption) (by assumption) (by assumption) (by exact pos_le _ _) (by k_ne) (by k_ne) (by assumption) (by assumption) (by assumption) ?_); intro b9 dx9 tk9 tx9 e19 e29 e39 e49 ti9 ta9 tb9 ex9 h9 tk99 sub9 ed9 ez9 ey9 mb9 md9 F9 N9; (try dsimp only); (try k_sweep); (try k_fold)))
local macro_rules | `(tactic| walk_at "call ref") => `(tactic| (k_here; (with_reducible show wpAny _ _ (call (Value.ref 83) _) _ _ _); k_dflt (refine' told_use (by k_asm) (by k_asm) (by k_asm) (by k_asm) (by k_asm) (by first | exact rfl | assumption) (by ktr_room) (by ktr_units) (by k_mem) (by k_mem) ?_); intro T9 tk9 tx9 n9 h9 tk99 F9 N9 l1; (try k_lt l1); (try dsimp only); (try k_sweep); (try k_fold)))
local macro_rules | `(tactic| walk_at "call builtin:list.append") => `(tactic| (k_here; (with_reducible show wpAny _ _ (call (Value.builtin _) [Value.ref _, Value.ref _]) _ _ _); k_dflt (refine' append_ref (by k_asm) (by k_asm) (by k_upd) (by omega) ?_; k_whole); intro h9 F9 N9; (try k_sweep)))
local macro_rules | `(tactic| walk_at "call builtin:len") => `(tactic| (k_here; (with_reducible show wpAny _ _ (call (Value.builtin "len") [Value.ref _]) _ _ _); k_dflt (refine' len_of (by k_asm) (by k_mem) (by with_reducible assumption) (by omega) ?_)))
local macro_rules | `(tactic| walk_at "compareOp In str ref") => `(tactic| (k_here; k_dflt (first
  | (refine' in_yes ?N ?l ?i ?e ?_; (case N => k_asm); (case l => k_mem); (case i => with_reducible assumption); (case e => assumption))
  | (refine' in_no ?N ?l ?i ?e ?_; (case N => k_asm); (case l => k_mem); (case i => with_reducible assumption); (case e => assumption))
  | (refine' in_end ?N ?l ?i ?_ ?_; (case N => k_asm); (case l => k_mem); (case i => with_reducible assumption); (all_goals intro he9)))))
local macro_rules | `(tactic| walk_at "call builtin:list.index") => `(tactic| (k_here; (with_reducible show wpAny _ _ (call (Value.builtin _) [Value.ref _, Value.str _ _]) _ _ _); k_dflt (refine' index_end (by k_asm) (by k_mem) (by with_reducible assumption) (by assumption) (by assumption) ?_)))
local macro_rules | `(tactic| walk_at "subscriptTail Name Slice ref ref") => `(tactic| (k_here; (with_reducible show wpAny _ _ (subscriptTail _ (PySem.Expr.Slice none _ none _) (Value.ref _) (Value.ref _)) _ _ _); k_dflt (refine' slice_take (by k_asm) (by k_asm) (by k_mem) (by omega) ?_ (by with_unfolding_all rfl) (by (intro _; with_unfolding_all rfl))); intro D9 h9 F9 N9 l1; (try k_lt l1); (try k_sweep); (try k_fold)))
local macro_rules | `(tactic| walk_at "subscriptTail Name Slice ref ref") => `(tactic| (k_here; (with_reducible show wpAny _ _ (subscriptTail _ (PySem.Expr.Slice _ none none _) (Value.ref _) (Value.ref _)) _ _ _); k_dflt (refine' slice_drop (by k_asm) (by k_asm) (by k_mem) (by omega) ?_ (by with_unfolding_all rfl) (by (intro _; with_unfolding_all rfl))); intro D9 h9 F9 N9 l1; (try k_lt l1); (try k_sweep); (try k_fold)))
local macro_rules | `(tactic| walk_at "compareOp NotEq ref ref") => `(tactic| (refine Hold.mk ?_))
local macro_rules | `(tactic| walk_at "eval ListComp") => `(tactic| (k_here; lct_look; k_dflt (refine LCt.ListComp_T (F₀ := by k_asm) (by with_unfolding_all rfl) (by decide) (by rfl) (by decide) (by rfl) ?_)))
local macro_rules | `(tactic| walk_at "CompSrcT") => `(tactic| (refine Hold.mk ?_))
local macro_rules | `(tactic| walk_at "compareOp NotEq ref ref") => `(tactic| (k_here; (with_reducible show wpAny _ _ (compareOp _ (Value.ref _) (Value.ref _)) _ _ _); k_dflt (refine' ne_strs (by k_asm) (by k_mem) (by k_mem) (by with_reducible assumption) (by with_reducible assumption) (by assumption) (by ktr_units) ?_)))
local macro_rules | `(tactic| walk_at "compareOp NotEq ref ref") => `(tactic| (k_here; (with_reducible show wpAny _ _ (compareOp _ (Value.ref _) (Value.ref _)) _ _ _); k_dflt (refine' ne_rows2 (by k_asm) (by k_mem) (by k_mem) (by with_reducible assumption) (by with_reducible assumption) (by assumption) (by (intro q hq; repeat (first | exact hq | refine List.Mem.tail _ ?_))) (by ktr_units) ?_)))
local macro_rules | `(tactic| walk_at "binaryOp Mult ref int") => `(tactic| (k_here; k_dflt (refine' mul_end (by k_asm) (by k_asm) (by k_mem) (by assumption) ?_); intro D9 us9 h9 F9 N9 l1 s9; (try k_lt l1); (try k_sweep); (try k_fold)))
theorem given_does (w : World) (mean : ExcName → Option Value) (mg mb : Str → Option Value) (kl : Addr) (ws : List Value) (kinds : List Str) (n : Nat) (rest : NewsL)
    (hkl : (kl, listOf ws.toArray n) ∈ rest) (hs : StrsAre ws kinds) (hm : ∀ z ∈ kinds, z ∈ menu) (hn : kinds.length ≤ 7) :
    Does w mean mg mb 296 [.ref kl] 20 rest (fun r news' => r = .bool true ∧ news' = rest) := by
  unfold Does
  k_fill
  intro dp un gd cn cs a ccd cl outer A₀ base h₀ L m s Q E B F X N T hk hd hu hret
  refine wpAny_call ?_
  k_dflt (refine' code_defC ?k1 ?k2 ?k3 ?k4 ?k5 ?kA ?kF ?kK ?k6 ?k7 ?k8 ?k9 ?kB ?kD ?_ ?c2 ?c3 ?c4; (case kA => exact rfl); (case kF => exact rfl); (case kK => assumption); (case k1 => k_asm); (case k2 => k_asm); (case k3 => k_asm); (case k4 => k_asm); (case k5 => k_asm); (case k6 => k_is); (case k7 => k_is); (case k8 => ktr_room); (case k9 => first | exact BindsTo.of_eq rfl | exact binds_K (by k_in) rfl (by k_is) rfl rfl rfl | fail "k_enter: no rule for these arguments"); (case kB => exact rfl); (case kD => decide +kernel); (case c2 => exact rfl); (case c3 => exact rfl); (case c4 => exact rfl); k_whole; intro g' L' h' tk' cells' FG' F' N' Y' B' X' T' l1; (try k_lt l1); k_cells Y'; (try simp only [List.cons_append, List.nil_append] at N'); (try dsimp only); (try k_lift B'); (try k_fold))
  k_steps
  refine Hold.out ?_
  (rename Fr g' L' _ _ => hF); (rename News g' L' _ _ => hN); (rename Obj => oc)
  k_dflt (refine' enum_call (fun i ys nw => (∀ p ∈ (L' + 1, oc) :: rest, p ∈ nw) ∧ ∃ e ks, kinds = ks ++ e ∧ ks.length = i ∧ TokRow w.params nw ys ks) ?hJl ?hh hF hN ?hsz ?h0 ?turn ?fin)
  case hJl => exact fun i ys nw h => h.1 _ (by k_mem)
  case hh => exact rfl
  case hsz => rw [hs.length, PySem.sizeLine_eq]; omega
  case h0 => exact ⟨fun _ h => h, _, [], rfl, rfl, rfl, fun j k h => nomatch h⟩
  case turn =>
    rintro e it i ys nw t x oe oi C oC D m₂ h tk E' hx hy ⟨hsub, en, ks, hks, hki, hrow⟩ hC ha hb F3 N3 off ne
    obtain ⟨k, tk0, rfl, hk0⟩ := hs.item _ _ hx
    have hkm := hm k (List.mem_of_getElem? hk0)
    have hi7 : i < kinds.length := (List.getElem?_eq_some_iff.mp hk0).1
    (try dsimp only)
    (try k_fold)
    k_steps
    (rename Fr g' L' _ _ => hF9); (rename News g' L' _ _ => hN9); (rename _ ∧ _ ∧ _ ∧ _ ∧ AllLt _ nw => hl9); (rename _ < _ => hl8)
    refine' EEnd.two hF9 hN9 hl9 hl8 off ⟨?j1, en.tail, ks ++ [k], ?j2, ?j3, ?j4⟩
    case j1 => exact fun p hp => .tail _ (.tail _ (hsub p hp))
    case j2 =>
      subst hki
      rw [hks] at hk0
      rw [List.getElem?_append_right (Nat.le_refl _), Nat.sub_self] at hk0
      cases en with
      | nil => cases hk0
      | cons z r => injection hk0 with hk0; subst hk0; simp [hks]
    case j3 => rw [List.length_append, hki]; rfl
    case j4 =>
      refine TokRow.snoc (hrow.mono fun p hp => .tail _ (.tail _ hp)) ?_
      rw [hy]
      exact ⟨_, _, _, _, _, _, _, _, rfl, List.mem_cons_self, .tail _ List.mem_cons_self⟩
  case fin =>
    rintro g2 ys nw ⟨hsub, en, ks, hks, hki, hrow⟩
    obtain rfl : en = [] := by
      have := congrArg List.length hks
      rw [List.length_append, hki, hs.length] at this
      exact List.length_eq_zero_iff.mp (by omega)
    obtain rfl : ks = kinds := by rw [hks, List.append_nil]
    have hkl' := hsub _ (.tail _ hkl)
    have hcl' := hsub _ (.head _)
    clear hks hki hF hN
    k_steps
    (rename IsRange _ _ _ _ _ _ _ _ => hR9); (rename Fr g' L' _ _ => hF9); (rename News g' L' _ _ => hN9)
    (rename _ ∧ AllLt _ nw => hd9); (rename _ ∧ _ ∧ _ ∧ AllLt _ nw => hH9); (rename _ ∧ _ ∧ _ ∧ _ ∧ AllLt _ nw => hT9)
    have hA1 := fun q hq => Nat.ne_of_lt (kst_ltOf hd9.2 q hq)
    have hA2 := fun q hq => Nat.ne_of_lt (kst_ltOf hH9.2.2.2 q hq)
    k_dflt (refine' heard_loop (P := w.params) (n := ks.length + 3) (ks := ks) (ex₀ := (_, _) :: (_, instObj 162 _) :: (_, LCg.lst ys) :: nw) ?hh hR9 ?sm ?sz hF9 hN9 ?hnews ?hbase ?hd ?hH ?turn ?fin)
    case hh => rfl
    case sm => exact small_one (by omega) (by omega) (by omega) (by omega)
    case sz => exact rangeSize_nat _ _
    case hnews =>
      refine List.forall_mem_cons.mpr ⟨?_, List.forall_mem_cons.mpr ⟨?_, List.forall_mem_cons.mpr ⟨?_, List.forall_mem_cons.mpr ⟨?_, List.forall_mem_cons.mpr ⟨?_, ?_⟩⟩⟩⟩⟩
      all_goals first | (intro p hp; repeat (first | exact hp | refine List.Mem.tail _ ?_)) | (refine mem_back ?_; repeat (first | exact List.Mem.head _ | refine List.Mem.tail _ ?_))
    case hbase => exact fun q hq => hq
    case hd => k_all
    case hH => k_all
    case turn =>
      clear hF9 hN9
      intro I oI hHI i u hs' c ti ta tb ex t h tk hi hlen hb ed ei eH hrow' F3 N3
      obtain ⟨hI1, hI2⟩ := hHI
      have hbR := hb _ (.tail _ (.head _))
      have hbW := hb _ (.tail _ (.tail _ (.head _)))
      have hbn : ∀ q ∈ nw, q ∈ ex := fun q hq => hb q (.tail _ (.tail _ (.tail _ hq)))
      (try dsimp only)
      (try k_fold)
      k_steps
      (rename Fr g' L' _ _ => hF9); (rename News g' L' _ _ => hN9); (rename _ ∧ _ ∧ _ ∧ AllLt _ _ => hl9); (rename ∀ q ∈ ex, q ∈ _ => hs9)
      exact heard_turn hF9 hN9 hl9 hI1 hI2 (by assumption) (by assumption) (by assumption) hb hs9 hrow'
    case fin =>
      clear hF9 hN9
      intro u hs' c ti ta tb ex h tk hb ed eH hrow' F3 N3
      have hbW := hb _ (.tail _ (.tail _ (.head _)))
      have hbn : ∀ q ∈ nw, q ∈ ex := fun q hq => hb q (.tail _ (.tail _ (.tail _ hq)))
      (rename _ = Data.cell _ => hcd)
      obtain ⟨tl, t1, t2, t3, N4⟩ := cell_split N3 (.tail _ (.tail _ (hbn _ hcl')))
      have hH4 := t2 _ (.head _) (seq_ne_cell rfl hcd)
      have hW4 := t2 _ (.tail _ (.tail _ hbW)) (seq_ne_cell rfl hcd)
      have hk4 := t2 _ (.tail _ (.tail _ (hbn _ hkl'))) (seq_ne_cell rfl hcd)
      have hr4 : Row (TupAt tl) hs' (heardL ks (ks.length + 3)) := hrow'.mono fun v p h => h.move hcd fun q hq => t2 q (.tail _ (.tail _ hq))
      have hw4 : TokRow w.params tl ys ks := ⟨hrow.1, fun j k hk => let ⟨v, hv, ht⟩ := hrow.2 j k hk; ⟨v, hv, ht.move hcd fun q hq => t2 q (.tail _ (.tail _ (hbn q hq)))⟩⟩
      have hrs : ∀ q ∈ rest, q ∈ tl := fun q hq => t3 q (.tail _ (.tail _ (hbn _ (hsub _ (.tail _ hq))))) (Nat.ne_of_lt (Nat.lt_succ_of_lt (l1 q hq)))
      clear t2 t3 N3 hrow hrow' hbW hbn hb hcl' hkl' ed eH
      k_steps
      refine Hold.out ?_
      (rename Fr g' L' _ _ => hF); (rename News g' L' _ _ => hN)
      refine LCg.CompSrc.ledger (by rfl) hF hN (.tail _ hW4) (by rw [List.size_toArray, hw4.1, PySem.sizeLine_eq]; omega) ?_
      intro g5
      refine comp_ind _ (fun i dys nx => ∃ tx, nx = (L' + 1, oc) :: tx ∧ (∀ q ∈ tl, q ∈ tx) ∧ (∀ q ∈ tx, q.1 ≠ L' + 1) ∧ Row (TupAt tx) dys ((pr ks).take i)) ?_ ?_ _ 0 [] _ (Nat.zero_add _) ⟨tl, rfl, fun _ h => h, t1, Row.nil⟩
      · rintro i dys nx v I oI C oC D m₂ h6 tk6 E' hlt ⟨tx, rfl, hsub6, hoff6, hrow6⟩ hv hC6 hx6 F6 N6 off6 ne6
        have hi' : i < ks.length := by rw [List.size_toArray, hw4.1] at hlt; exact hlt
        obtain ⟨v', hv', b, dx, tk', tx', e1, e2, e3, e4, rfl, hb6, hd6⟩ := hw4.2 i _ (List.getElem?_eq_getElem hi')
        obtain rfl : v = .ref b := by
          have q : ys[i]? = some v := by simpa using hv
          rw [hv'] at q
          injection q with q
          exact q.symm
        have hb6 := hsub6 _ hb6
        have hd6 := hsub6 _ hd6
        k_steps
        (rename Fr g' L' _ _ => hF9); (rename News g' L' _ _ => hN9); (rename _ ∧ _ ∧ _ ∧ _ ∧ AllLt _ _ => hl9)
        refine compEnd_tup hF9 hN9 hl9 off6 (.inr ⟨_, .tail _ (.tail _ (hsub6 _ hW4)), rfl, _, rfl⟩) ⟨_, rfl, fun q hq => .tail _ (hsub6 q hq), List.forall_mem_cons.mpr ⟨Nat.ne_of_gt hl9.2.2.2.1, hoff6⟩, ?_⟩
        rw [pr_take_succ (List.getElem?_eq_getElem hi')]
        exact (hrow6.mono fun v p h => h.mono fun q hq => .tail _ hq).snoc ⟨_, _, _, _, rfl, .head _⟩
      · rintro dys nx ⟨tx, rfl, hsub6, hoff6, hrow6⟩
        rw [List.size_toArray, hw4.1, ← pr_length, List.take_length] at hrow6
        have hr6 : Row (TupAt tx) hs' (heardL ks (ks.length + 3)) := hr4.mono fun v p h => h.mono hsub6
        have hH6 := hsub6 _ hH4
        have hk6 := hsub6 _ hk4
        have hlh : hs'.length = ks.length + 3 := by rw [hr6.1, heardL_length]
        have hld : dys.length = ks.length := by rw [hrow6.1, pr_length]
        clear hr4 hw4 hH4 hk4 hW4 hF hN
        have hcl := cut_le ks
        have hht : Row (TupAt tx) (hs'.take (cut ks)) ((pr ks).take (cut ks)) := by
          rw [← heard_take ks (Nat.le_add_right ks.length 3)]
          exact hr6.take _
        have hok : ∀ p ∈ (pr ks).take (cut ks), PyData.strOk p.1 = true ∧ PyData.strOk p.2 = true := fun p hp => pr_ok hm hn p (List.mem_of_mem_take hp)
        have hdp : Row (TupAt tx) (hs'.drop (cut ks)) (List.replicate (ks.length + 3 - cut ks) (tel ks (cut ks))) := by
          rw [← heard_drop]
          exact hr6.drop _
        have hdl : (hs'.drop (cut ks)).length = ks.length + 3 - cut ks := by rw [List.length_drop, hlh]
        have hrep : ∀ z ∈ List.replicate (ks.length + 3 - cut ks) endS, PyData.strOk z = true := fun z hz => by rw [List.eq_of_mem_replicate hz]; decide +kernel
        by_cases he9 : endS ∈ ks
        · have hdt : Row (TupAt tx) (dys.take (cut ks)) ((pr ks).take (cut ks)) := hrow6.take _
          have hlt : (dys.take (cut ks)).length = cut ks := by rw [List.length_take, hld]; exact Nat.min_eq_left hcl
          k_steps
          refine Hold.out ?_
          (rename Fr g' L' _ _ => hF9); (rename News g' L' _ _ => hN9)
          refine LCg.CompSrc.ledger (by rfl) hF9 hN9 (by k_mem) (by rw [List.size_toArray, hdl, PySem.sizeLine_eq]; omega) ?_
          intro g7
          refine comp_still (fun i oys => StrsAre oys (List.replicate i endS)) .nil ?_ ?_
          · intro i oys v I oI C oC D m₂ h8 tk8 E' hlt8 hs8 hv hC8 hx8 F8 N8 off8 ne8
            obtain ⟨T, t1', t2', n', rfl, hm8⟩ := row_rep hdp (by simpa using hv)
            clear hF9 hN9
            k_steps
            (rename Fr g' L' _ _ => hF8); (rename News g' L' _ _ => hN8)
            refine LCg.CompEnd.intro hF8 hN8 _ (fun _ h => h) off8 (.inr ⟨_, by k_mem, rfl, _, rfl⟩) ⟨rfl, ?_⟩
            rw [List.replicate_succ']
            exact StrsAre.append' hs8 (by rw [tel_fst]; exact .cons _ _ .nil)
          · intro oys hs8
            rw [List.size_toArray, hdl] at hs8
            k_steps
            refine Hold.out ?_
            (rename Fr g' L' _ _ => hF9); (rename News g' L' _ _ => hN9)
            refine LCt.CompSrcT.ledger (by rfl) hF9 hN9 (by k_mem) (by rw [List.size_toArray, hdl, PySem.sizeLine_eq]; omega) ?_
            intro g9
            refine comp_none ?_ ?_ _ 0
            · intro i v I oI C oC D m₂ h8 tk8 E' hv hC8 hx8 F8 N8 off8 ne8
              obtain ⟨T, t1', t2', n', rfl, hm8⟩ := row_rep hdp (by simpa using hv)
              clear hF9 hN9
              k_steps
              refine Hold.out ?_
              (rename News g' L' _ _ => hN8)
              k_dflt (refine' ne_tups (p := tel ks (cut ks)) hN8 ⟨T, t1', t2', n', rfl, ?m1⟩ (tup_in he9 ?m2) (tel_ok hn) ?u ?_)
              case m1 => k_mem
              case m2 => k_mem
              case u => ktr_units
              k_steps
              (rename Fr g' L' _ _ => hF8); (rename News g' L' _ _ => hN8)
              exact LCg.CompEnd.intro hF8 hN8 _ (fun _ h => h) off8 (.inr ⟨_, by k_mem, rfl, _, rfl⟩) rfl
            · clear hF9 hN9
              have hnil : StrsAre [] [] := .nil
              have hnok : ∀ z ∈ ([] : List Str), PyData.strOk z = true := fun z hz => nomatch hz
              k_steps
              (rename Fr h₀ L _ m => hF9); (rename News h₀ L _ _ => hN9)
              exact hret _ rest _ _ hF9 (fun p hp => hN9 p (by repeat (first | exact hsub6 _ (hrs p hp) | refine List.Mem.tail _ ?_))) ⟨rfl, rfl⟩
        · have hdt : Row (TupAt tx) dys ((pr ks).take (cut ks)) := by rw [cut_none he9, ← pr_length, List.take_length]; exact hrow6
          rw [← cut_none he9] at hld
          k_steps
          refine Hold.out ?_
          (rename Fr g' L' _ _ => hF9); (rename News g' L' _ _ => hN9)
          refine LCg.CompSrc.ledger (by rfl) hF9 hN9 (by k_mem) (by rw [List.size_toArray, hdl, PySem.sizeLine_eq]; omega) ?_
          intro g7
          refine comp_still (fun i oys => StrsAre oys (List.replicate i endS)) .nil ?_ ?_
          · intro i oys v I oI C oC D m₂ h8 tk8 E' hlt8 hs8 hv hC8 hx8 F8 N8 off8 ne8
            obtain ⟨T, t1', t2', n', rfl, hm8⟩ := row_rep hdp (by simpa using hv)
            clear hF9 hN9
            k_steps
            (rename Fr g' L' _ _ => hF8); (rename News g' L' _ _ => hN8)
            refine LCg.CompEnd.intro hF8 hN8 _ (fun _ h => h) off8 (.inr ⟨_, by k_mem, rfl, _, rfl⟩) ⟨rfl, ?_⟩
            rw [List.replicate_succ']
            exact StrsAre.append' hs8 (by rw [tel_fst]; exact .cons _ _ .nil)
          · intro oys hs8
            rw [List.size_toArray, hdl] at hs8
            k_steps
            refine Hold.out ?_
            (rename Fr g' L' _ _ => hF9); (rename News g' L' _ _ => hN9)
            refine LCt.CompSrcT.ledger (by rfl) hF9 hN9 (by k_mem) (by rw [List.size_toArray, hdl, PySem.sizeLine_eq]; omega) ?_
            intro g9
            refine comp_none ?_ ?_ _ 0
            · intro i v I oI C oC D m₂ h8 tk8 E' hv hC8 hx8 F8 N8 off8 ne8
              obtain ⟨T, t1', t2', n', rfl, hm8⟩ := row_rep hdp (by simpa using hv)
              clear hF9 hN9
              k_steps
              refine Hold.out ?_
              (rename News g' L' _ _ => hN8)
              k_dflt (refine' ne_tups (p := tel ks (cut ks)) hN8 ⟨T, t1', t2', n', rfl, ?m1⟩ (tup_out he9 ?m2) (tel_ok hn) ?u ?_)
              case m1 => k_mem
              case m2 => k_mem
              case u => ktr_units
              k_steps
              (rename Fr g' L' _ _ => hF8); (rename News g' L' _ _ => hN8)
              exact LCg.CompEnd.intro hF8 hN8 _ (fun _ h => h) off8 (.inr ⟨_, by k_mem, rfl, _, rfl⟩) rfl
            · clear hF9 hN9
              have hnil : StrsAre [] [] := .nil
              have hnok : ∀ z ∈ ([] : List Str), PyData.strOk z = true := fun z hz => nomatch hz
              k_steps
              (rename Fr h₀ L _ m => hF9); (rename News h₀ L _ _ => hN9)
              exact hret _ rest _ _ hF9 (fun p hp => hN9 p (by repeat (first | exact hsub6 _ (hrs p hp) | refine List.Mem.tail _ ?_))) ⟨rfl, rfl⟩
end
section
open PySem PySem.W PyProof.Rows PySem.Calls PySem.Spec
def namesL : List Str := [Str.ofString "$end", Str.ofString "error", Str.ofString "$undefined", Str.ofString "a", Str.ofString "b", Str.ofString "$accept", Str.ofString "s", Str.ofString "t"]
section
variable {prog : Program} {w : World} {A : Around} {E : Value → Shared → Prop} {s : Shared} {h₀ : Heap} {L l : Addr} {m : Str → Option Value} {news : NewsL} {Q : Value → Shared → Prop}
theorem item_str {vs : List Value} {ys : List Str} {c n : Nat} {k : Int} {u : Tok} {value slice : PySem.Expr} (N : News h₀ L s.heap news) (hl : (l, listOf vs.toArray n) ∈ news) (hi : StrsAre vs ys) (hc : ys.length = c) (h0 : 0 ≤ k) (hk : k < c) (h100 : c ≤ 100)
    (h : ∀ t', Q (.str (ys.getD k.toNat Str.empty) t') s) (hs : subscripted slice false (.ref l) (.int k u) = operate [.ref l, .int k u] (getItem (.ref l) (.int k u))) (hg : ∀ r, letTemporaryGo value (.ref l) r = pure ()) :
    wpAny (model prog w) A (subscriptTail value slice (.ref l) (.int k u)) Q E s := item_strsA (News.isList N hl) hi h0 (by omega) (by omega) h hs hg
end
section
variable {prog : Program} {w : World} {A : Around} {E : Value → Shared → Prop} {s : Shared} {env : Env} {h₀ : Heap} {body : List Stmt} {Q : Flow → Shared → Prop}
/-- a loop over a range by a word of the turn, the frame and the ledger -/
theorem range_ind {x : Str} {px : Pos} {r : Addr} {t₀ u₀ v₀ : Tok} {b₀ : Int} {m₀ : Str → Option Value} {news : NewsL} {n : Nat} (J : Addr → Nat → (Str → Option Value) → NewsL → Prop)
    (hh : A.handled = none) (hr : IsRange s.heap r 0 b₀ 1 t₀ u₀ v₀) (hsmall : Builtin.Range.small 0 b₀ 1 = true) (hn : Builtin.Range.rangeSize 0 b₀ 1 = (n : Int)) (F : Fr h₀ env.locals s.heap m₀) (N : News h₀ env.locals s.heap news)
    (h0 : ∀ I : Addr, (∀ p ∈ news, @LT.lt Nat _ p.1 I) → J I 0 m₀ news)
    (turn : ∀ (I : Addr) (oI : Obj) (i : Nat) m' n' (t : Tok) h tk, i < n → J I i m' n' → Fr h₀ env.locals h m' → News h₀ env.locals h ((I, oI) :: n') →
      wpAny (model prog w) A (assign (.Name x px) env (.int (i : Int) t)) (fun _ s₂ => wpAny (model prog w) A (execs body env) (UnrPostW h₀ env.locals { s with heap := h, toks := tk } [(I, oI)] (J I (i + 1)) Q) E s₂) E { s with heap := h, toks := tk })
    (fin : ∀ I m' n' h tk, J I n m' n' → Fr h₀ env.locals h m' → News h₀ env.locals h n' → Q .next { s with heap := h, toks := tk }) :
    wpAny (model prog w) A (pyIter (.ref r)) (fun it s₂ => TurnsAt prog w A h₀ env (.Name x px) body Q E it s₂) E s := by
  refine iter_rangeTurns hh hr hsmall hn F N fun I hI => ?_
  refine items_ind (fun xs m' n' => ∃ i k, i + k = n ∧ xs = (List.range' i k).map (fun i : Nat => Itm.tok (fun t => .int (0 + (i : Int)) t)) ∧ J I i m' n') ?_ ?_ ?_ _ _ _ ⟨0, n, Nat.zero_add _, by rw [List.range_eq_range'], h0 I hI⟩
  · exact fun _ _ _ _ => trivial
  · rintro a r m' n' v h tk ⟨i, k, hik, hx, hJ⟩ hv F'
    cases k with
    | zero => cases hx
    | succ k =>
      rw [List.range'_succ, List.map_cons] at hx
      injection hx with hx1 hx2
      subst hx1 hx2
      obtain ⟨t, rfl⟩ := hv
      intro oI hIo N'
      rw [Int.zero_add]
      refine wpAny_mono (turn I oI i m' n' t h tk (by omega) hJ F' N') (fun _ s₂ q => wpAny_mono q (fun f s₃ q₂ => unrPost_mono (fun m' n' j => ?_) q₂) fun _ _ e => e) fun _ _ e => e
      exact ⟨i + 1, k, by omega, rfl, j⟩
  · rintro m' n' h tk ⟨i, k, hik, hx, hJ⟩ F' N'
    cases k with
    | succ k => cases hx
    | zero =>
      obtain rfl : i = n := hik
      exact fin I m' n' h tk hJ F' N'
/-- a frame whose name x may hold anything -/
abbrev m1 (m₀ : Str → Option Value) (x : Str) (u : Option Value) : Str → Option Value := fun y => if y = x then u else m₀ y
theorem m1_self {m₀ : Str → Option Value} {x : Str} : m₀ = m1 m₀ x (m₀ x) := by
  funext y
  by_cases hy : y = x
  · simp only [m1, if_pos hy]; rw [hy]
  · simp only [m1, if_neg hy]
theorem m1_turn {m₀ : Str → Option Value} {x : Str} {u v : Option Value} : (fun y => if y = x then v else m1 m₀ x u y) = m1 m₀ x v := by
  funext y
  by_cases hy : y = x
  · simp only [if_pos hy]
  · simp only [m1, if_neg hy]
end
/-- a Tables' names -/
abbrev tblD (P : Params) (nm : Addr) (t5 : Tok) (lf ln bf l' nd : Addr) (b1 b2 b3 b4 b5 b6 b7 : Tok) : Obj := dictOf [ent P "names" b1 (.ref nm), ent P "terminal_count" b2 (.int 5 t5), ent P "lefts" b3 (.ref lf), ent P "lengths" b4 (.ref ln), ent P "befores" b5 (.ref bf), ent P "defaults" b6 (.ref l'), ent P "numbers" b7 (.ref nd)] 7
/-- the word of the loop that fills the numbers -/
def tabJ (prog : Program) (w : World) (nd : Addr) (base : NewsL) (m₀ : Str → Option Value) (I : Addr) (i : Nat) (m' : Str → Option Value) (n' : NewsL) : Prop :=
  ∃ o kvs u, n' = (nd, o) :: base ∧ Obj.IsDictOf (PySem.strKind prog w) o kvs ∧ kvs.length ≤ i ∧ m' = m1 m₀ (Str.ofString "number") u ∧ @LT.lt Nat _ nd I ∧ ∀ p ∈ base, @LT.lt Nat _ p.1 I
theorem tab_turn {prog : Program} {w : World} {nd I L : Addr} {oI o' : Obj} {base : NewsL} {m₀ : Str → Option Value} {u : Option Value} {v x : Value} {k : Str} {kvs : List (Str × Value)} {i tk' : Nat} {h₀ h' : Heap} {s₁ : Shared}
    (F : Fr h₀ L h' (fun y => if y = Str.ofString "number" then some v else m1 m₀ (Str.ofString "number") u y)) (N : News h₀ L h' ((I, oI) :: (nd, o') :: base)) (hd : Obj.IsDictOf (PySem.strKind prog w) o' (stored kvs k x)) (hz : kvs.length ≤ i) (l1 : @LT.lt Nat _ nd I) (l2 : ∀ p ∈ base, @LT.lt Nat _ p.1 I) :
    UnrEndW h₀ L s₁ [(I, oI)] (tabJ prog w nd base m₀ I (i + 1)) { s₁ with heap := h', toks := tk' } := by
  refine unrEnd_intro F N ((nd, o') :: base) (fun p hp => ?_) (fun p hp => .tail _ hp) (fun p hp q hq => ?_) ⟨o', _, some v, rfl, hd, Nat.le_trans (stored_length_le _ _ _) (Nat.succ_le_succ hz), m1_turn, l1, l2⟩
  · rw [List.mem_singleton.mp hp]; exact .head _
  · rw [List.mem_singleton.mp hq]
    rcases List.mem_cons.mp hp with rfl | hp
    · exact Nat.ne_of_lt l1
    · exact Nat.ne_of_lt (l2 p hp)
section
variable {w : World} {mean : ExcName → Option Value} {mg mb : Str → Option Value} {dp un : Nat} {gd : Option (List Code)} {cn : Str} {cs : Scope} {a : Addr} {ccd : Value} {cl : List (Str × Addr)} {outer : List Env} {A A₀ : Around} {base h₀ : Heap} {L : Addr} {m : Str → Option Value} {s : Shared}
    {Q E : Value → Shared → Prop} {news : NewsL}
local macro_rules | `(tactic| walk_at "exec For Name Call cons nil") => `(tactic| (k_here; (rename Fr _ _ _ _ => lF'); (with_unfolding_all refine' For_turns lF' ?_; k_whole)))
local macro_rules | `(tactic| walk_at "subscriptTail") => `(tactic| (k_here; (with_reducible show wpAny _ _ (subscriptTail _ _ (Value.ref _) (Value.int _ _)) _ _ _); k_dflt (refine' item_str (by k_asm) (by k_mem) (by with_reducible assumption) (by with_reducible assumption) (by omega) (by omega) (by omega) ?_ (by with_unfolding_all rfl) (by (intro _; with_unfolding_all rfl))); intro t9))
local macro_rules | `(tactic| walk_at "setItem ref str") => `(tactic| (k_here; k_dflt (refine' kda_set (knd := PySem.strKind _ _) (by k_asm) (by k_asm) (by k_updF) (by k_asm) (strKind_is _ _ _ _) (by (rw [PySem.sizeLine_eq]; omega)) ?_); intro h' o' F' N' hd'; (try dsimp only at N')))
theorem tables_new {nm lf ln bf : Addr} {t5 : Tok} {nn : Nat} {vs : List Value} (hnm : (nm, listOf vs.toArray nn) ∈ news) (hsn : StrsAre vs namesL)
    (B : Below A₀ base outer h₀) (F : Fr h₀ L s.heap m) (X : (Mine.hd.heap_39 w.params).In h₀) (N : News h₀ L s.heap news)
    (T : Top Mine.hd.view_39 (looseW Mine.hd.view_39 [Str.ofString "ToolError", Str.ofString "BARRED"]) mean mg mb h₀) (hk : cs.kind = .function)
    (hd : dp + 4 < recursionLimit) (hu : un + 8 * 4 < cLine)
    (hgo : ∀ x' d l' nd b1 b2 b3 b4 b5 b6 b7 b8 h' tk', Fr h₀ L h' m → News h₀ L h' ((x', instObj 267 d) :: (d, tblD w.params nm b8 lf ln bf l' nd b1 b2 b3 b4 b5 b6 b7) :: news) → (∀ p ∈ news, p.1 < d) → d < x' → Q (.ref x') { s with heap := h', toks := tk' }) :
    wpAny (model PySem.Challenge.rw_nn0355_01.row.prog w) (ktrTop dp un gd cn cs L a ccd cl outer) (call (.ref 267) [.ref nm, .int 5 t5, .ref lf, .ref ln, .ref bf]) Q E s := by
  revert X
  k_fill
  intro X
  have hnl : namesL.length = 8 := rfl
  k_steps
  (rename IsRange _ _ _ _ _ _ _ _ => hR9); (rename Fr _ _ _ _ => hF9); (rename News _ _ _ _ => hN9)
  (rename Obj => o9); (rename Obj.IsDictOf (PySem.strKind _ w) _ [] => hs9);
  k_dflt (refine' range_ind (n := 5) (tabJ PySem.Challenge.rw_nn0355_01.row.prog w ?nd ?base ?m0) ?hh hR9 ?sm ?sz hF9 hN9 ?h0 ?turn ?fin)
  case hh => rfl
  case sm => decide
  case sz => decide
  case h0 =>
    intro I hI
    refine' ⟨o9, [], _, rfl, hs9, Nat.le_refl _, m1_self, ?q1, ?q2⟩
    case q1 => exact hI _ (.head _)
    case q2 => exact fun p hp => hI p (.tail _ hp)
  case turn =>
    clear hF9 hN9 hR9
    rintro I oI i m' n' t h tk hi ⟨o, kvs, u, rfl, hs, hz, rfl, hl1, hl2⟩ F3 N3
    (rename _ ∧ _ ∧ _ ∧ AllLt _ news => hA9)
    have hA := fun q hq => Nat.ne_of_lt (kst_ltOf hA9.2.2.2 q hq)
    k_steps
    (rename Fr _ _ _ _ => hF9); (rename News _ _ _ _ => hN9); (rename Obj.IsDictOf _ _ (stored _ _ _) => hd9)
    exact tab_turn hF9 hN9 hd9 hz hl1 hl2
  case fin =>
    clear hF9 hN9 hR9
    rintro I m' n' h tk ⟨o, kvs, u, rfl, hs, hz, rfl, hl1, hl2⟩ F3 N3
    k_steps
    (rename Fr h₀ L _ m => hF9); (rename News h₀ L _ _ => hN9); (rename ∀ p ∈ news, p.1 < _ => hA9)
    refine' hgo _ _ _ _ _ _ _ _ _ _ _ _ _ _ hF9 (cb_drop hN9 ?sub) ?l1 ?l2
    case sub =>
      refine List.forall_mem_cons.mpr ⟨?_, List.forall_mem_cons.mpr ⟨?_, ?_⟩⟩
      · repeat (first | exact List.Mem.head _ | refine List.Mem.tail _ ?_)
      · repeat (first | exact List.Mem.head _ | refine List.Mem.tail _ ?_)
      · intro p hp
        repeat (first | exact hp | refine List.Mem.tail _ ?_)
    case l1 => exact hA9
    case l2 => assumption
end
end
section
open PySem PySem.W PyProof.Rows PySem.Calls PySem.Spec
def decS (n : Int) : Str := Str.ofString (toString n)
def oneOf (n : Int) : Int := 1 + n.fmod 3
/-- the row of a move -/
def txt (ln fn : List Int) (p : Int × Int) : Str :=
  if p.1 = 0 then Str.ofString "shift, to state " ++ decS p.2
  else if p.1 = 1 then Str.ofString "reduce " ++ decS (ln.getD (oneOf p.2).toNat 0) ++ Str.ofString " to " ++ namesL.getD (fn.getD (oneOf p.2).toNat 0).toNat Str.empty ++ Str.ofString " by rule " ++ decS (oneOf p.2)
  else if p.1 = 2 then Str.ofString "shift error, to state " ++ decS p.2
  else if p.1 = 3 then Str.ofString "pop state " ++ decS p.2
  else if p.1 = 4 then Str.ofString "discard " ++ namesL.getD (p.2.fmod 5).toNat Str.empty
  else Str.ofString "accept"
abbrev tupO (vs : Array Value) (n : Nat) : Obj := { cls := .type "tuple", data := .seq vs n }
/-- a move of the list -/
def MoveAt (news : NewsL) (v : Value) (p : Int × Int) : Prop := ∃ T t u n, v = .ref T ∧
  ((p.1 = 0 ∧ (T, tupO #[.str (Str.ofString "shift") t, .int p.2 u] n) ∈ news) ∨ (p.1 = 1 ∧ (T, tupO #[.str (Str.ofString "reduce") t, .int (oneOf p.2) u] n) ∈ news) ∨ (p.1 = 2 ∧ (T, tupO #[.str (Str.ofString "error") t, .int p.2 u] n) ∈ news) ∨
   (p.1 = 3 ∧ (T, tupO #[.str (Str.ofString "pop") t, .int p.2 u] n) ∈ news) ∨ (p.1 = 4 ∧ (T, tupO #[.str (Str.ofString "discard") t, .int (p.2.fmod 5) u] n) ∈ news) ∨ (p.1 = 5 ∧ (T, tupO #[.str (Str.ofString "accept") t] n) ∈ news))
theorem MoveAt.mono {news news' : NewsL} {v : Value} {p : Int × Int} (h : MoveAt news v p) (f : ∀ p ∈ news, p ∈ news') : MoveAt news' v p := by
  obtain ⟨T, t, u, n, rfl, h⟩ := h
  refine ⟨T, t, u, n, rfl, ?_⟩
  rcases h with ⟨e, h⟩ | ⟨e, h⟩ | ⟨e, h⟩ | ⟨e, h⟩ | ⟨e, h⟩ | ⟨e, h⟩
  · exact .inl ⟨e, f _ h⟩
  · exact .inr (.inl ⟨e, f _ h⟩)
  · exact .inr (.inr (.inl ⟨e, f _ h⟩))
  · exact .inr (.inr (.inr (.inl ⟨e, f _ h⟩)))
  · exact .inr (.inr (.inr (.inr (.inl ⟨e, f _ h⟩))))
  · exact .inr (.inr (.inr (.inr (.inr ⟨e, f _ h⟩))))
theorem txt0 {ln fn : List Int} {p : Int × Int} (h : p.1 = 0) : txt ln fn p = Str.ofString "shift, to state " ++ decS p.2 := if_pos h
theorem txt1 {ln fn : List Int} {p : Int × Int} (h : p.1 = 1) : txt ln fn p = Str.ofString "reduce " ++ decS (ln.getD (oneOf p.2).toNat 0) ++ Str.ofString " to " ++ namesL.getD (fn.getD (oneOf p.2).toNat 0).toNat Str.empty ++ Str.ofString " by rule " ++ decS (oneOf p.2) := by
  unfold txt; rw [if_neg (by omega), if_pos h]
theorem txt2 {ln fn : List Int} {p : Int × Int} (h : p.1 = 2) : txt ln fn p = Str.ofString "shift error, to state " ++ decS p.2 := by
  unfold txt; rw [if_neg (by omega), if_neg (by omega), if_pos h]
theorem txt3 {ln fn : List Int} {p : Int × Int} (h : p.1 = 3) : txt ln fn p = Str.ofString "pop state " ++ decS p.2 := by
  unfold txt; rw [if_neg (by omega), if_neg (by omega), if_neg (by omega), if_pos h]
theorem txt4 {ln fn : List Int} {p : Int × Int} (h : p.1 = 4) : txt ln fn p = Str.ofString "discard " ++ namesL.getD (p.2.fmod 5).toNat Str.empty := by
  unfold txt; rw [if_neg (by omega), if_neg (by omega), if_neg (by omega), if_neg (by omega), if_pos h]
theorem txt5 {ln fn : List Int} {p : Int × Int} (h : p.1 = 5) : txt ln fn p = Str.ofString "accept" := by
  unfold txt; rw [if_neg (by omega), if_neg (by omega), if_neg (by omega), if_neg (by omega), if_neg (by omega)]
section
variable {prog : Program} {w : World} {A : Around} {E : Value → Shared → Prop} {s : Shared} {h₀ : Heap} {L l : Addr} {m : Str → Option Value} {news : NewsL} {Q : Value → Shared → Prop}
theorem item_int {vs : List Value} {ns : List Int} {c n : Nat} {k lo hi : Int} {u : Tok} {value slice : PySem.Expr} (N : News h₀ L s.heap news) (hl : (l, listOf vs.toArray n) ∈ news) (hi' : IntsAre vs ns) (hc : ns.length = c) (hb : ∀ z ∈ ns, lo ≤ z ∧ z ≤ hi) (h0 : 0 ≤ k) (hk : k < c) (h100 : c ≤ 100)
    (h : ∀ t', lo ≤ ns.getD k.toNat 0 → ns.getD k.toNat 0 ≤ hi → Q (.int (ns.getD k.toNat 0) t') s) (hs : subscripted slice false (.ref l) (.int k u) = operate [.ref l, .int k u] (getItem (.ref l) (.int k u))) (hg : ∀ r, letTemporaryGo value (.ref l) r = pure ()) :
    wpAny (model prog w) A (subscriptTail value slice (.ref l) (.int k u)) Q E s := by
  have hlt : k.toNat < ns.length := by omega
  have e : ns[k.toNat]? = some (ns.getD k.toNat 0) := by simp [List.getD, hlt]
  obtain ⟨t, ht⟩ := hi'.get _ _ e
  have hm := hb _ (List.mem_of_getElem? e)
  exact item_listL (News.isList N hl) h0 (by omega) ht (h t hm.1 hm.2) hs hg
end
section
variable {prog : Program} {w : World} {A : Around} {E : Value → Shared → Prop} {s : Shared} {env : Env} {h₀ : Heap} {body : List Stmt} {Q : Flow → Shared → Prop}
/-- a loop over a list by a word of the turn, the frame and the ledger -/
theorem list_ind {x : Str} {px : Pos} {ax : Addr} {vs : List Value} {k : Nat} {m₀ : Str → Option Value} {news : NewsL} (J : Addr → Nat → (Str → Option Value) → NewsL → Prop)
    (hh : A.handled = none) (F : Fr h₀ env.locals s.heap m₀) (N : News h₀ env.locals s.heap news) (hm : (ax, listOf vs.toArray k) ∈ news) (hJl : ∀ I i m' n', J I i m' n' → (ax, listOf vs.toArray k) ∈ n')
    (h0 : ∀ I : Addr, (∀ p ∈ news, @LT.lt Nat _ p.1 I) → J I 0 m₀ news)
    (turn : ∀ (I : Addr) (oI : Obj) (i : Nat) m' n' v h tk, vs[i]? = some v → J I i m' n' → Fr h₀ env.locals h m' → News h₀ env.locals h ((I, oI) :: n') →
      wpAny (model prog w) A (assign (.Name x px) env v) (fun _ s₂ => wpAny (model prog w) A (execs body env) (UnrPostW h₀ env.locals { s with heap := h, toks := tk } [(I, oI)] (J I (i + 1)) Q) E s₂) E { s with heap := h, toks := tk })
    (fin : ∀ I m' n' h tk, J I vs.length m' n' → Fr h₀ env.locals h m' → News h₀ env.locals h n' → Q .next { s with heap := h, toks := tk }) :
    wpAny (model prog w) A (pyIter (.ref ax)) (fun it s₂ => TurnsAt prog w A h₀ env (.Name x px) body Q E it s₂) E s := by
  refine iter_listTurns hh F N hm rfl rfl fun I hI => ?_
  refine items_ind (fun xs m' n' => ∃ i, i ≤ vs.length ∧ xs = (vs.drop i).map Itm.val ∧ J I i m' n') ?_ ?_ ?_ _ _ _ ⟨0, Nat.zero_le _, rfl, h0 I hI⟩
  · rintro xs m' n' ⟨i, _, _, hJ⟩
    exact ⟨hJl _ _ _ _ hJ, trivial⟩
  · rintro a r m' n' v h tk ⟨i, hi, hx, hJ⟩ hv F'
    by_cases hlt : i < vs.length
    · rw [List.drop_eq_getElem_cons hlt, List.map_cons] at hx
      injection hx with hx1 hx2
      subst hx1 hx2
      obtain rfl : v = vs[i] := hv
      intro oI hIo N'
      refine wpAny_mono (turn I oI i m' n' _ h tk (List.getElem?_eq_getElem hlt) hJ F' N') (fun _ s₂ q => wpAny_mono q (fun f s₃ q₂ => unrPost_mono (fun m' n' j => ?_) q₂) fun _ _ e => e) fun _ _ e => e
      exact ⟨i + 1, hlt, rfl, j⟩
    · rw [List.drop_eq_nil_of_le (by omega)] at hx
      cases hx
  · rintro m' n' h tk ⟨i, hi, hx, hJ⟩ F' N'
    by_cases hlt : i < vs.length
    · rw [List.drop_eq_getElem_cons hlt] at hx
      cases hx
    · obtain rfl : i = vs.length := by omega
      exact fin I m' n' h tk hJ F' N'
abbrev m2 (m₀ : Str → Option Value) (x1 x2 : Str) (u1 u2 : Option Value) : Str → Option Value := fun y => if y = x1 then u1 else if y = x2 then u2 else m₀ y
theorem m2_of {m' m₀ : Str → Option Value} {x1 x2 : Str} (h : ∀ y, ¬ y = x1 → ¬ y = x2 → m' y = m₀ y) : m' = m2 m₀ x1 x2 (m' x1) (m' x2) := by
  funext y
  by_cases h1 : y = x1
  · simp only [m2, if_pos h1]; rw [h1]
  · by_cases h2 : y = x2
    · simp only [m2, if_neg h1, if_pos h2]; rw [h2]
    · simp only [m2, if_neg h1, if_neg h2]; exact h y h1 h2
end
theorem getD_bound {ns : List Int} {lo hi : Int} {i c : Nat} (hb : ∀ z ∈ ns, lo ≤ z ∧ z ≤ hi) (hc : ns.length = c) (h : i < c) : lo ≤ ns.getD i 0 ∧ ns.getD i 0 ≤ hi := by
  have hi' : i < ns.length := by omega
  have e : ns.getD i 0 = ns[i] := by simp [List.getD, hi']
  rw [e]
  exact hb _ (List.getElem_mem hi')
theorem name_ok (i : Nat) : (namesL.getD i Str.empty).length ≤ 10 ∧ PyData.strOk (namesL.getD i Str.empty) = true := by
  by_cases h : i < 8
  · have : i = 0 ∨ i = 1 ∨ i = 2 ∨ i = 3 ∨ i = 4 ∨ i = 5 ∨ i = 6 ∨ i = 7 := by omega
    rcases this with rfl | rfl | rfl | rfl | rfl | rfl | rfl | rfl <;> decide +kernel
  · have e : namesL.getD i Str.empty = Str.empty := by
      have : namesL[i]? = none := List.getElem?_eq_none (by show 8 ≤ i; omega)
      simp [List.getD, this]
    rw [e]
    decide +kernel
/-- the word of show_moves' loop -/
def rowsJ (P : (Int × Int) → Str) (R : Addr) (ms : List (Int × Int)) (base : NewsL) (m₀ : Str → Option Value) (I : Addr) (i : Nat) (m' : Str → Option Value) (n' : NewsL) : Prop :=
  ∃ rs c u1 u2, n' = (R, listOf rs.toArray c) :: base ∧ StrsAre rs ((ms.take i).map P) ∧ m' = m2 m₀ (Str.ofString "move") (Str.ofString "size") u1 u2 ∧ @LT.lt Nat _ R I ∧ (∀ p ∈ base, @LT.lt Nat _ p.1 I)
theorem rows_turn {P : (Int × Int) → Str} {R I L : Addr} {oI : Obj} {ms : List (Int × Int)} {base : NewsL} {m₀ m' : Str → Option Value} {rs : List Value} {x : Str} {t : Tok} {p : Int × Int} {i c tk' : Nat} {h₀ h' : Heap} {s₁ : Shared}
    (F : Fr h₀ L h' m') (N : News h₀ L h' ((I, oI) :: (R, listOf (rs ++ [Value.str x t]).toArray (c + 1)) :: base)) (hs : StrsAre rs ((ms.take i).map P)) (hp : ms[i]? = some p) (hx : P p = x) (hm : ∀ y, ¬ y = Str.ofString "move" → ¬ y = Str.ofString "size" → m' y = m₀ y)
    (l1 : @LT.lt Nat _ R I) (l2 : ∀ p ∈ base, @LT.lt Nat _ p.1 I) : UnrEndW h₀ L s₁ [(I, oI)] (rowsJ P R ms base m₀ I (i + 1)) { s₁ with heap := h', toks := tk' } := by
  refine unrEnd_intro F N ((R, listOf (rs ++ [Value.str x t]).toArray (c + 1)) :: base) (fun p hp => ?_) (fun p hp => .tail _ hp) (fun p hp q hq => ?_) ⟨rs ++ [.str x t], c + 1, _, _, rfl, ?_, m2_of hm, l1, l2⟩
  · rw [List.mem_singleton.mp hp]; exact .head _
  · rw [List.mem_singleton.mp hq]
    rcases List.mem_cons.mp hp with rfl | hp
    · exact Nat.ne_of_lt l1
    · exact Nat.ne_of_lt (l2 p hp)
  · rw [List.take_add_one, hp, List.map_append]
    subst hx
    exact StrsAre.append' hs (.cons _ _ .nil)
local macro_rules | `(tactic| walk_at "exec For Name Name cons nil") => `(tactic| (k_here; (rename Fr _ _ _ _ => lF'); (with_unfolding_all refine' For_turns lF' ?_; k_whole)))
local macro_rules | `(tactic| walk_at "subscriptTail") => `(tactic| (k_here; (with_reducible show wpAny _ _ (subscriptTail _ _ (Value.ref _) (Value.int _ _)) _ _ _); k_dflt (refine' item_str (by k_asm) (by k_mem) (by with_reducible assumption) (by with_reducible assumption) (by omega) (by omega) (by omega) ?_ (by with_unfolding_all rfl) (by (intro _; with_unfolding_all rfl))); intro t9))
theorem show_does (w : World) (mean : ExcName → Option Value) (mg mb : Str → Option Value) (Tb d nm lf la bf l' nd Mv : Addr) (t5 b1 b2 b3 b4 b5 b6 b7 : Tok) (nvs lvs fvs mvs : List Value) (ln fn : List Int) (ms : List (Int × Int)) (k1 k2 k3 k4 : Nat) (rest : NewsL)
    (hTb : (Tb, instObj 267 d) ∈ rest) (hd : (d, tblD w.params nm t5 lf la bf l' nd b1 b2 b3 b4 b5 b6 b7) ∈ rest) (hnm : (nm, listOf nvs.toArray k1) ∈ rest) (hsn : StrsAre nvs namesL) (hla : (la, listOf lvs.toArray k2) ∈ rest) (hil : IntsAre lvs ln) (hlf : (lf, listOf fvs.toArray k3) ∈ rest) (hif : IntsAre fvs fn)
    (hll : ln.length = 4) (hfl : fn.length = 4) (hlb : ∀ z ∈ ln, 0 ≤ z ∧ z ≤ 4) (hfb : ∀ z ∈ fn, 5 ≤ z ∧ z ≤ 7) (hMv : (Mv, listOf mvs.toArray k4) ∈ rest) (hrow : Row (MoveAt rest) mvs ms) (hms : ∀ p ∈ ms, 0 ≤ p.2 ∧ p.2 < 90) (h8 : ms.length ≤ 8) :
    Does w mean mg mb 173 [.ref Tb, .ref Mv] 8 rest (fun r news' => ∃ R rs c, r = .ref R ∧ StrsAre rs (ms.map (txt ln fn)) ∧ news' = (R, listOf rs.toArray c) :: rest ∧ ∀ p ∈ rest, @LT.lt Nat _ p.1 R) := by
  unfold Does
  k_fill
  intro dp un gd cn cs a ccd cl outer A₀ base h₀ L m s Q E B F X N T hk hdp hu hret
  have hnl : namesL.length = 8 := rfl
  refine wpAny_call ?_
  k_dflt ktr_enter
  k_steps
  (rename Fr _ _ _ _ => hF9); (rename News _ _ _ _ => hN9); (rename ∀ p ∈ rest, p.1 < _ => hR9)
  have hR' := fun p hp => Nat.ne_of_lt (hR9 p hp)
  k_dflt (refine' list_ind (rowsJ (txt ln fn) ?R ms rest ?m0) ?hh hF9 hN9 ?hm ?hJl ?h0 ?turn ?fin)
  case hh => rfl
  case hm => exact .tail _ hMv
  case hJl =>
    rintro I i m' n' ⟨rs, c, u1, u2, rfl, _⟩
    exact .tail _ hMv
  case h0 =>
    intro I hI
    refine' ⟨[], 0, _, _, rfl, .nil, m2_of fun _ _ _ => rfl, ?q1, ?q2⟩
    case q1 => exact hI _ (.head _)
    case q2 => exact fun p hp => hI p (.tail _ hp)
  case turn =>
    clear hF9 hN9
    rintro I oI i m' n' v h tk hv ⟨rs, c, u1, u2, rfl, hsr, rfl, hl1, hl2⟩ F3 N3
    have hi : i < ms.length := by rw [← hrow.1]; exact (List.getElem?_eq_some_iff.mp hv).1
    obtain ⟨v', hv', hmv⟩ := hrow.2 i _ (List.getElem?_eq_getElem hi)
    obtain rfl : v = v' := by rw [hv] at hv'; injection hv'
    have hp := List.getElem?_eq_getElem hi
    have hb := hms _ (List.getElem_mem hi)
    revert hp hb hmv
    generalize ms[i] = p
    obtain ⟨way, num⟩ := p
    intro hmv hp hb
    obtain ⟨T, t, u, n, rfl, hc⟩ := hmv
    have hlen : ((ms.take i).map (txt ln fn)).length ≤ 8 := by rw [List.length_map, List.length_take]; omega
    have ho1 : 1 ≤ oneOf num := by unfold oneOf; have := fmod_lo (a := num) (b := 3) (by omega); omega
    have ho2 : oneOf num ≤ 3 := by unfold oneOf; have := fmod_hi (a := num) (b := 3) (by omega); omega
    have hd1 := fmod_lo (a := num) (b := 5) (by omega)
    have hd2 := fmod_hi (a := num) (b := 5) (by omega)
    have hlg := getD_bound (i := (oneOf num).toNat) hlb hll (by omega)
    have hfg := getD_bound (i := (oneOf num).toNat) hfb hfl (by omega)
    have hn1 := (name_ok (num.fmod 5).toNat).1
    have hn2 := (name_ok (fn.getD (oneOf num).toNat 0).toNat).1
    dsimp only at hc hb
    rcases hc with ⟨e, hc⟩ | ⟨e, hc⟩ | ⟨e, hc⟩ | ⟨e, hc⟩ | ⟨e, hc⟩ | ⟨e, hc⟩
    all_goals (
      k_steps
      (rename Fr _ _ _ _ => hF9); (rename News _ _ _ _ => hN9)
      exact rows_turn hF9 hN9 hsr hp (by first | exact txt0 e | exact txt1 e | exact txt2 e | exact txt3 e | exact txt4 e | exact txt5 e) (by intro y h1 h2; simp only [m2, if_neg h1, if_neg h2]) hl1 hl2)
  case fin =>
    clear hF9 hN9
    rintro I m' n' h tk ⟨rs, c, u1, u2, rfl, hsr, rfl, hl1, hl2⟩ F3 N3
    k_steps
    rw [hrow.1, List.take_length] at hsr
    (rename Fr h₀ L _ m => hF9); (rename News h₀ L _ _ => hN9)
    exact hret _ _ _ _ hF9 hN9 ⟨_, rs, c, rfl, hsr, rfl, hR9⟩
end
section
open PySem PySem.W PyProof.Rows PySem.Calls PySem.Spec
abbrev m8 (m₀ : Str → Option Value) (u1 u2 u3 u4 u5 u6 u7 u8 : Option Value) : Str → Option Value := fun y =>
  if y = Str.ofString "turn" then u1 else if y = Str.ofString "way" then u2 else if y = Str.ofString "number" then u3 else if y = Str.ofString "one" then u4 else if y = Str.ofString "size" then u5 else if y = Str.ofString "left" then u6 else if y = Str.ofString "move" then u7 else if y = Str.ofString "words" then u8 else m₀ y
theorem m8_of {m' m₀ : Str → Option Value} (h : ∀ y, ¬ y = Str.ofString "turn" → ¬ y = Str.ofString "way" → ¬ y = Str.ofString "number" → ¬ y = Str.ofString "one" → ¬ y = Str.ofString "size" → ¬ y = Str.ofString "left" → ¬ y = Str.ofString "move" → ¬ y = Str.ofString "words" → m' y = m₀ y) :
    m' = m8 m₀ (m' (Str.ofString "turn")) (m' (Str.ofString "way")) (m' (Str.ofString "number")) (m' (Str.ofString "one")) (m' (Str.ofString "size")) (m' (Str.ofString "left")) (m' (Str.ofString "move")) (m' (Str.ofString "words")) := by
  funext y
  by_cases h1 : y = Str.ofString "turn"
  · simp only [m8, if_pos h1]; rw [h1]
  by_cases h2 : y = Str.ofString "way"
  · simp only [m8, if_neg h1, if_pos h2]; rw [h2]
  by_cases h3 : y = Str.ofString "number"
  · simp only [m8, if_neg h1, if_neg h2, if_pos h3]; rw [h3]
  by_cases h4 : y = Str.ofString "one"
  · simp only [m8, if_neg h1, if_neg h2, if_neg h3, if_pos h4]; rw [h4]
  by_cases h5 : y = Str.ofString "size"
  · simp only [m8, if_neg h1, if_neg h2, if_neg h3, if_neg h4, if_pos h5]; rw [h5]
  by_cases h6 : y = Str.ofString "left"
  · simp only [m8, if_neg h1, if_neg h2, if_neg h3, if_neg h4, if_neg h5, if_pos h6]; rw [h6]
  by_cases h7 : y = Str.ofString "move"
  · simp only [m8, if_neg h1, if_neg h2, if_neg h3, if_neg h4, if_neg h5, if_neg h6, if_pos h7]; rw [h7]
  by_cases h8 : y = Str.ofString "words"
  · simp only [m8, if_neg h1, if_neg h2, if_neg h3, if_neg h4, if_neg h5, if_neg h6, if_neg h7, if_pos h8]; rw [h8]
  simp only [m8, if_neg h1, if_neg h2, if_neg h3, if_neg h4, if_neg h5, if_neg h6, if_neg h7, if_neg h8]
  exact h y h1 h2 h3 h4 h5 h6 h7 h8
theorem strOk_app {a b : Str} (ha : PyData.strOk a = true) (hb : PyData.strOk b = true) : PyData.strOk (a ++ b) = true := by
  unfold PyData.strOk at *
  rw [Str.cps_append, Array.all_append, ha, hb]
  rfl
theorem decS_ok {n : Int} (h0 : 0 ≤ n) (h : n < 90) : PyData.strOk (decS n) = true := by
  have q : ∀ k : Fin 90, PyData.strOk (decS ((k.val : Nat) : Int)) = true := by decide +kernel
  have := q ⟨n.toNat, by omega⟩
  rw [show ((n.toNat : Nat) : Int) = n by omega] at this
  exact this
theorem txt_ok {ln fn : List Int} {p : Int × Int} (hll : ln.length = 4) (hlb : ∀ z ∈ ln, 0 ≤ z ∧ z ≤ 4) (hp : 0 ≤ p.2 ∧ p.2 < 90) : PyData.strOk (txt ln fn p) = true := by
  have ho1 : 1 ≤ oneOf p.2 := by unfold oneOf; have := fmod_lo (a := p.2) (b := 3) (by omega); omega
  have ho2 : oneOf p.2 ≤ 3 := by unfold oneOf; have := fmod_hi (a := p.2) (b := 3) (by omega); omega
  have hg := getD_bound (i := (oneOf p.2).toNat) hlb hll (by omega)
  unfold txt
  split
  · exact strOk_app (by decide +kernel) (decS_ok hp.1 hp.2)
  split
  · exact strOk_app (strOk_app (strOk_app (strOk_app (strOk_app (by decide +kernel) (decS_ok hg.1 (by omega))) (by decide +kernel)) (name_ok _).2) (by decide +kernel)) (decS_ok (by omega) (by omega))
  split
  · exact strOk_app (by decide +kernel) (decS_ok hp.1 hp.2)
  split
  · exact strOk_app (by decide +kernel) (decS_ok hp.1 hp.2)
  split
  · exact strOk_app (by decide +kernel) (name_ok _).2
  · decide +kernel
theorem sixC {z : Int} (h0 : 0 ≤ z) (h : z < 6) : z = 0 ∨ z = 1 ∨ z = 2 ∨ z = 3 ∨ z = 4 ∨ z = 5 := by omega
/-- the word of the loop that makes the moves -/
def shownJ (T : (Int × Int) → Str) (pen l Mv Du : Addr) (sp seed : Int) (u : Tok) (n0 : Nat) (news : NewsL) (m₀ : Str → Option Value) (I : Addr) (i : Nat) (m' : Str → Option Value) (n' : NewsL) : Prop :=
  ∃ ms mvs c dus c' t' sp' ex u1 u2 u3 u4 u5 u6 u7 u8, n' = (pen, penO l sp' t' seed u n0) :: (Mv, listOf (List.toArray mvs) c) :: (Du, listOf (List.toArray dus) c') :: ex ∧ sp' = sp + 2 * (i : Int) ∧ @LT.lt Nat _ Du I ∧
    (∀ q ∈ news, q.1 ≠ pen → q.1 ≠ Mv → q.1 ≠ Du → q ∈ ex) ∧ (∀ q ∈ ex, q.1 ≠ I) ∧ (∀ q ∈ ex, q.1 ≠ pen) ∧ (∀ q ∈ ex, q.1 ≠ Mv) ∧ (∀ q ∈ ex, q.1 ≠ Du) ∧
    Row (MoveAt ex) mvs ms ∧ StrsAre dus (ms.map T) ∧ ms.length = i ∧ (∀ p ∈ ms, 0 ≤ p.2 ∧ p.2 < 90) ∧ m' = m8 m₀ u1 u2 u3 u4 u5 u6 u7 u8
theorem shown_turn {T : (Int × Int) → Str} {pen l Mv Du I a L : Addr} {oI : Obj} {sp sp' seed : Int} {u t' tx : Tok} {n0 c c' i tk' : Nat} {news ex all : NewsL} {m₀ m' : Str → Option Value} {ms : List (Int × Int)} {mvs dus : List Value} {p : Int × Int} {x : Str} {h₀ h' : Heap} {s₁ : Shared}
    (F : Fr h₀ L h' m') (N : News h₀ L h' all) (hI : (I, oI) ∈ all) (hp : (pen, penO l sp' t' seed u n0) ∈ all) (hM : (Mv, listOf (mvs ++ [Value.ref a]).toArray c) ∈ all) (hD : (Du, listOf (dus ++ [Value.str x tx]).toArray c') ∈ all) (hex : ∀ q ∈ ex, q ∈ all)
    (hmv : MoveAt all (.ref a) p) (hb : 0 ≤ p.2 ∧ p.2 < 90) (hx : T p = x) (hsp : sp' = sp + 2 * (i : Int) + 2) (l1 : @LT.lt Nat _ pen Mv) (l2 : @LT.lt Nat _ Mv Du) (l3 : @LT.lt Nat _ Du I) (l4 : @LT.lt Nat _ I a)
    (hold : ∀ q ∈ news, q.1 ≠ pen → q.1 ≠ Mv → q.1 ≠ Du → q ∈ ex) (e1 : ∀ q ∈ ex, q.1 ≠ I) (e2 : ∀ q ∈ ex, q.1 ≠ pen) (e3 : ∀ q ∈ ex, q.1 ≠ Mv) (e4 : ∀ q ∈ ex, q.1 ≠ Du)
    (hrow : Row (MoveAt ex) mvs ms) (hs : StrsAre dus (ms.map T)) (hlen : ms.length = i) (hms : ∀ p ∈ ms, 0 ≤ p.2 ∧ p.2 < 90)
    (hm : ∀ y, ¬ y = Str.ofString "turn" → ¬ y = Str.ofString "way" → ¬ y = Str.ofString "number" → ¬ y = Str.ofString "one" → ¬ y = Str.ofString "size" → ¬ y = Str.ofString "left" → ¬ y = Str.ofString "move" → ¬ y = Str.ofString "words" → m' y = m₀ y) :
    UnrEndW h₀ L s₁ [(I, oI)] (shownJ T pen l Mv Du sp seed u n0 news m₀ I (i + 1)) { s₁ with heap := h', toks := tk' } := by
  let ex' := all.filter fun q => decide (q.1 ≠ I ∧ q.1 ≠ pen ∧ q.1 ≠ Mv ∧ q.1 ≠ Du)
  have hin : ∀ q ∈ all, q.1 ≠ I → q.1 ≠ pen → q.1 ≠ Mv → q.1 ≠ Du → q ∈ ex' := fun q hq a b c d => List.mem_filter.mpr ⟨hq, decide_eq_true ⟨a, b, c, d⟩⟩
  have hout : ∀ q ∈ ex', q ∈ all ∧ q.1 ≠ I ∧ q.1 ≠ pen ∧ q.1 ≠ Mv ∧ q.1 ≠ Du := fun q hq => ⟨(List.mem_filter.mp hq).1, of_decide_eq_true (List.mem_filter.mp hq).2⟩
  have hexx : ∀ q ∈ ex, q ∈ ex' := fun q hq => hin q (hex q hq) (e1 q hq) (e2 q hq) (e3 q hq) (e4 q hq)
  have hmv' : MoveAt ex' (.ref a) p := by
    obtain ⟨T, t, u, n, e, h⟩ := hmv
    injection e with e
    subst e
    have g : ∀ {o : Obj}, (a, o) ∈ all → (a, o) ∈ ex' := fun h => hin _ h (Nat.ne_of_gt l4) (Nat.ne_of_gt (Nat.lt_trans l1 (Nat.lt_trans l2 (Nat.lt_trans l3 l4)))) (Nat.ne_of_gt (Nat.lt_trans l2 (Nat.lt_trans l3 l4))) (Nat.ne_of_gt (Nat.lt_trans l3 l4))
    refine ⟨a, t, u, n, rfl, ?_⟩
    rcases h with ⟨e, h⟩ | ⟨e, h⟩ | ⟨e, h⟩ | ⟨e, h⟩ | ⟨e, h⟩ | ⟨e, h⟩
    · exact .inl ⟨e, g h⟩
    · exact .inr (.inl ⟨e, g h⟩)
    · exact .inr (.inr (.inl ⟨e, g h⟩))
    · exact .inr (.inr (.inr (.inl ⟨e, g h⟩)))
    · exact .inr (.inr (.inr (.inr (.inl ⟨e, g h⟩))))
    · exact .inr (.inr (.inr (.inr (.inr ⟨e, g h⟩))))
  refine unrEnd_intro F N ((pen, penO l sp' t' seed u n0) :: (Mv, listOf (mvs ++ [Value.ref a]).toArray c) :: (Du, listOf (dus ++ [Value.str x tx]).toArray c') :: ex') (fun q hq => ?_) (fun q hq => ?_) (fun q hq r hr => ?_)
    ⟨ms ++ [p], mvs ++ [.ref a], c, dus ++ [.str x tx], c', t', sp', ex', _, _, _, _, _, _, _, _, rfl, by rw [hsp]; push_cast; omega, l3, fun q hq a b c => hexx q (hold q hq a b c), fun q hq => (hout q hq).2.1, fun q hq => (hout q hq).2.2.1, fun q hq => (hout q hq).2.2.2.1, fun q hq => (hout q hq).2.2.2.2,
      (hrow.mono fun v p h => h.mono hexx).snoc hmv', ?_, by rw [List.length_append, hlen]; rfl, fun y hy => ?_, m8_of hm⟩
  · rw [List.mem_singleton.mp hq]; exact hI
  · simp only [List.mem_cons] at hq
    rcases hq with rfl | rfl | rfl | hq
    · exact hp
    · exact hM
    · exact hD
    · exact (hout q hq).1
  · rw [List.mem_singleton.mp hr]
    simp only [List.mem_cons] at hq
    rcases hq with rfl | rfl | rfl | hq
    · exact Nat.ne_of_lt (Nat.lt_trans l1 (Nat.lt_trans l2 l3))
    · exact Nat.ne_of_lt (Nat.lt_trans l2 l3)
    · exact Nat.ne_of_lt l3
    · exact (hout q hq).2.1
  · rw [List.map_append]
    exact StrsAre.append' hs (by rw [← hx]; exact .cons _ _ .nil)
  · rcases List.mem_append.mp hy with h | h
    · exact hms y h
    · rw [List.mem_singleton.mp h]; exact hb
theorem shown_turn6 {ln fn : List Int} {pen l Mv Du I a L a0 a1 a2 a3 a4 a5 : Addr} {oI : Obj} {sp sp' seed way num : Int} {u t' tx y0 y1 y2 y3 y4 y5 z0 z1 z2 z3 z4 : Tok} {n0 c c' i tk' w0 w1 w2 w3 w4 w5 : Nat} {news ex all : NewsL} {m₀ m' : Str → Option Value} {ms : List (Int × Int)} {mvs dus : List Value} {h₀ h' : Heap} {s₁ : Shared}
    (F : Fr h₀ L h' m') (N : News h₀ L h' all) (hI : (I, oI) ∈ all) (hp : (pen, penO l sp' t' seed u n0) ∈ all) (hM : (Mv, listOf (mvs ++ [Value.ref a]).toArray c) ∈ all)
    (hD : (Du, listOf (dus ++ [Value.str ([Str.ofString "shift, to state " ++ Str.ofString (toString num), Str.ofString "reduce " ++ Str.ofString (toString (ln.getD (1 + num.fmod 3).toNat 0)) ++ Str.ofString " to " ++ namesL.getD (fn.getD (1 + num.fmod 3).toNat 0).toNat Str.empty ++ Str.ofString " by rule " ++ Str.ofString (toString (1 + num.fmod 3)),
      Str.ofString "shift error, to state " ++ Str.ofString (toString num), Str.ofString "pop state " ++ Str.ofString (toString num), Str.ofString "discard " ++ namesL.getD (num.fmod 5).toNat Str.empty, Str.ofString "accept"].getD way.toNat Str.empty) tx]).toArray c') ∈ all) (hex : ∀ q ∈ ex, q ∈ all)
    (h6 : [a0, a1, a2, a3, a4, a5][way.toNat]? = some a) (hw0 : 0 ≤ way) (hw6 : way < 6)
    (g0 : (a0, tupO #[.str (Str.ofString "shift") y0, .int num z0] w0) ∈ all) (g1 : (a1, tupO #[.str (Str.ofString "reduce") y1, .int (1 + num.fmod 3) z1] w1) ∈ all) (g2 : (a2, tupO #[.str (Str.ofString "error") y2, .int num z2] w2) ∈ all)
    (g3 : (a3, tupO #[.str (Str.ofString "pop") y3, .int num z3] w3) ∈ all) (g4 : (a4, tupO #[.str (Str.ofString "discard") y4, .int (num.fmod 5) z4] w4) ∈ all) (g5 : (a5, tupO #[.str (Str.ofString "accept") y5] w5) ∈ all)
    (q0 : @LT.lt Nat _ I a0) (q1 : @LT.lt Nat _ I a1) (q2 : @LT.lt Nat _ I a2) (q3 : @LT.lt Nat _ I a3) (q4 : @LT.lt Nat _ I a4) (q5 : @LT.lt Nat _ I a5)
    (hb0 : 0 ≤ num) (hb1 : num < 90) (hsp : sp' = sp + 2 * (i : Int) + 2) (l1 : @LT.lt Nat _ pen Mv) (l2 : @LT.lt Nat _ Mv Du) (l3 : @LT.lt Nat _ Du I)
    (hold : ∀ q ∈ news, q.1 ≠ pen → q.1 ≠ Mv → q.1 ≠ Du → q ∈ ex) (e1 : ∀ q ∈ ex, q.1 ≠ I) (e2 : ∀ q ∈ ex, q.1 ≠ pen) (e3 : ∀ q ∈ ex, q.1 ≠ Mv) (e4 : ∀ q ∈ ex, q.1 ≠ Du)
    (hrow : Row (MoveAt ex) mvs ms) (hs : StrsAre dus (ms.map (txt ln fn))) (hlen : ms.length = i) (hms : ∀ p ∈ ms, 0 ≤ p.2 ∧ p.2 < 90)
    (hm : ∀ y, ¬ y = Str.ofString "turn" → ¬ y = Str.ofString "way" → ¬ y = Str.ofString "number" → ¬ y = Str.ofString "one" → ¬ y = Str.ofString "size" → ¬ y = Str.ofString "left" → ¬ y = Str.ofString "move" → ¬ y = Str.ofString "words" → m' y = m₀ y) :
    UnrEndW h₀ L s₁ [(I, oI)] (shownJ (txt ln fn) pen l Mv Du sp seed u n0 news m₀ I (i + 1)) { s₁ with heap := h', toks := tk' } := by
  have go : ∀ {x : Str}, MoveAt all (.ref a) (way, num) → txt ln fn (way, num) = x → (Du, listOf (dus ++ [Value.str x tx]).toArray c') ∈ all → @LT.lt Nat _ I a → UnrEndW h₀ L s₁ [(I, oI)] (shownJ (txt ln fn) pen l Mv Du sp seed u n0 news m₀ I (i + 1)) { s₁ with heap := h', toks := tk' } :=
    fun hmv hx hD' l4 => shown_turn (p := (way, num)) F N hI hp hM hD' hex hmv ⟨hb0, hb1⟩ hx hsp l1 l2 l3 l4 hold e1 e2 e3 e4 hrow hs hlen hms hm
  rcases sixC hw0 hw6 with rfl | rfl | rfl | rfl | rfl | rfl
  · obtain rfl : a0 = a := Option.some.inj h6
    exact go ⟨_, y0, z0, w0, rfl, .inl ⟨rfl, g0⟩⟩ (txt0 rfl) hD q0
  · obtain rfl : a1 = a := Option.some.inj h6
    exact go ⟨_, y1, z1, w1, rfl, .inr (.inl ⟨rfl, g1⟩)⟩ (txt1 rfl) hD q1
  · obtain rfl : a2 = a := Option.some.inj h6
    exact go ⟨_, y2, z2, w2, rfl, .inr (.inr (.inl ⟨rfl, g2⟩))⟩ (txt2 rfl) hD q2
  · obtain rfl : a3 = a := Option.some.inj h6
    exact go ⟨_, y3, z3, w3, rfl, .inr (.inr (.inr (.inl ⟨rfl, g3⟩)))⟩ (txt3 rfl) hD q3
  · obtain rfl : a4 = a := Option.some.inj h6
    exact go ⟨_, y4, z4, w4, rfl, .inr (.inr (.inr (.inr (.inl ⟨rfl, g4⟩))))⟩ (txt4 rfl) hD q4
  · obtain rfl : a5 = a := Option.some.inj h6
    exact go ⟨_, y5, z4, w5, rfl, .inr (.inr (.inr (.inr (.inr ⟨rfl, g5⟩))))⟩ (txt5 rfl) hD q5
section
variable {prog : Program} {w : World} {A : Around} {E : Value → Shared → Prop} {s : Shared} {env : Env} {h₀ : Heap} {body : List Stmt} {Q : Flow → Shared → Prop}
theorem shown_loop {x : Str} {px : Pos} {r : Addr} {t₀ u₀ v₀ : Tok} {b₀ : Int} {m₀ : Str → Option Value} {news : NewsL} {n : Nat} {pen l Mv Du Dt Tb : Addr} {sp seed : Int} {t u : Tok} {n0 kt : Nat} (T : (Int × Int) → Str)
    (hh : A.handled = none) (hr : IsRange s.heap r 0 b₀ 1 t₀ u₀ v₀) (hsmall : Builtin.Range.small 0 b₀ 1 = true) (hn : Builtin.Range.rangeSize 0 b₀ 1 = (n : Int)) (F : Fr h₀ env.locals s.heap m₀) (N : News h₀ env.locals s.heap news)
    (hT0 : (Dt, tupO #[.ref Tb, .ref Mv, .ref Du] kt) ∈ news) (hp : (pen, penO l sp t seed u n0) ∈ news) (hM : (Mv, listOf #[] 0) ∈ news) (hD : (Du, listOf #[] 0) ∈ news) (l1 : @LT.lt Nat _ pen Mv) (l2 : @LT.lt Nat _ Mv Du)
    (turn : ∀ (I : Addr) (oI : Obj) (i : Nat) ms mvs c dus c' t' sp' ex u1 u2 u3 u4 u5 u6 u7 u8 (tt : Tok) h tk, i < n → @LT.lt Nat _ pen Mv → @LT.lt Nat _ Mv Du → @LT.lt Nat _ Du I → sp' = sp + 2 * (i : Int) → (∀ q ∈ news, q.1 ≠ pen → q.1 ≠ Mv → q.1 ≠ Du → q ∈ ex) → (∀ q ∈ ex, q.1 ≠ I) → (∀ q ∈ ex, q.1 ≠ pen) → (∀ q ∈ ex, q.1 ≠ Mv) → (∀ q ∈ ex, q.1 ≠ Du) →
      Row (MoveAt ex) mvs ms → StrsAre dus (ms.map T) → ms.length = i → (∀ p ∈ ms, 0 ≤ p.2 ∧ p.2 < 90) → Fr h₀ env.locals h (m8 m₀ u1 u2 u3 u4 u5 u6 u7 u8) → News h₀ env.locals h ((I, oI) :: (pen, penO l sp' t' seed u n0) :: (Mv, listOf (List.toArray mvs) c) :: (Du, listOf (List.toArray dus) c') :: ex) →
      wpAny (model prog w) A (assign (.Name x px) env (.int (i : Int) tt)) (fun _ s₂ => wpAny (model prog w) A (execs body env) (UnrPostW h₀ env.locals { s with heap := h, toks := tk } [(I, oI)] (shownJ T pen l Mv Du sp seed u n0 news m₀ I (i + 1)) Q) E s₂) E { s with heap := h, toks := tk })
    (fin : ∀ ms mvs c dus c' t' sp' ex u1 u2 u3 u4 u5 u6 u7 u8 h tk, sp' = sp + 2 * (n : Int) → (∀ q ∈ news, q.1 ≠ pen → q.1 ≠ Mv → q.1 ≠ Du → q ∈ ex) → (∀ q ∈ ex, q.1 ≠ pen) → (∀ q ∈ ex, q.1 ≠ Mv) → (∀ q ∈ ex, q.1 ≠ Du) → Row (MoveAt ex) mvs ms → StrsAre dus (ms.map T) → ms.length = n → (∀ p ∈ ms, 0 ≤ p.2 ∧ p.2 < 90) →
      Fr h₀ env.locals h (m8 m₀ u1 u2 u3 u4 u5 u6 u7 u8) → News h₀ env.locals h ((pen, penO l sp' t' seed u n0) :: (Mv, listOf (List.toArray mvs) c) :: (Du, listOf (List.toArray dus) c') :: ex) → Q .next { s with heap := h, toks := tk }) :
    wpAny (model prog w) A (pyIter (.ref r)) (fun it s₂ => TurnsAt prog w A h₀ env (.Name x px) body Q E it s₂) E s := by
  let ex' := news.filter fun q => decide (q.1 ≠ pen ∧ q.1 ≠ Mv ∧ q.1 ≠ Du)
  have hin : ∀ q ∈ news, q.1 ≠ pen → q.1 ≠ Mv → q.1 ≠ Du → q ∈ ex' := fun q hq b c d => List.mem_filter.mpr ⟨hq, decide_eq_true ⟨b, c, d⟩⟩
  have hout : ∀ q ∈ ex', q ∈ news ∧ q.1 ≠ pen ∧ q.1 ≠ Mv ∧ q.1 ≠ Du := fun q hq => ⟨(List.mem_filter.mp hq).1, of_decide_eq_true (List.mem_filter.mp hq).2⟩
  have N' : News h₀ env.locals s.heap ((pen, penO l sp t seed u n0) :: (Mv, listOf (List.toArray []) 0) :: (Du, listOf (List.toArray []) 0) :: ex') := fun q hq => by
    refine N q ?_
    simp only [List.mem_cons] at hq
    rcases hq with rfl | rfl | rfl | hq
    · exact hp
    · exact hM
    · exact hD
    · exact (hout q hq).1
  refine range_ind (shownJ T pen l Mv Du sp seed u n0 news m₀) hh hr hsmall hn F N' (fun I hI => ?_) ?_ ?_
  · exact ⟨[], [], 0, [], 0, t, sp, ex', _, _, _, _, _, _, _, _, rfl, by omega, hI _ (.tail _ (.tail _ (.head _))), hin, fun q hq => Nat.ne_of_lt (hI q (.tail _ (.tail _ (.tail _ hq)))), fun q hq => (hout q hq).2.1, fun q hq => (hout q hq).2.2.1, fun q hq => (hout q hq).2.2.2, Row.nil, .nil, rfl, fun _ h => (nomatch h), m8_of fun _ _ _ _ _ _ _ _ _ => rfl⟩
  · rintro I oI i m' n' tt h tk hi ⟨ms, mvs, c, dus, c', t', sp', ex, u1, u2, u3, u4, u5, u6, u7, u8, rfl, hsp, hDI, hold, e1, e2, e3, e4, hrow, hs, hl, hms, rfl⟩ F' N'
    exact turn I oI i ms mvs c dus c' t' sp' ex u1 u2 u3 u4 u5 u6 u7 u8 tt h tk hi l1 l2 hDI hsp hold e1 e2 e3 e4 hrow hs hl hms F' N'
  · rintro I m' n' h tk ⟨ms, mvs, c, dus, c', t', sp', ex, u1, u2, u3, u4, u5, u6, u7, u8, rfl, hsp, hDI, hold, e1, e2, e3, e4, hrow, hs, hl, hms, rfl⟩ F' N'
    exact fin ms mvs c dus c' t' sp' ex u1 u2 u3 u4 u5 u6 u7 u8 h tk hsp hold e2 e3 e4 hrow hs hl hms F' N'
end
section
variable {w : World} {mean : ExcName → Option Value} {mg mb : Str → Option Value} {dp un : Nat} {gd : Option (List Code)} {cn : Str} {cs : Scope} {a : Addr} {ccd : Value} {cl : List (Str × Addr)} {outer : List Env} {A₀ : Around} {base h₀ : Heap} {L : Addr} {m : Str → Option Value} {s : Shared}
    {Q E : Value → Shared → Prop} {news ex : NewsL}
theorem show_use {Tb d nm lf la bf l' nd Mv : Addr} {t5 b1 b2 b3 b4 b5 b6 b7 : Tok} {nvs lvs fvs mvs : List Value} {ln fn : List Int} {ms : List (Int × Int)} {k1 k2 k3 k4 : Nat}
    (B : Below A₀ base outer h₀) (F : Fr h₀ L s.heap m) (X : (Mine.hd.heap_39 w.params).In h₀) (N : News h₀ L s.heap news)
    (Tp : Top Mine.hd.view_39 (looseW Mine.hd.view_39 [Str.ofString "ToolError", Str.ofString "BARRED"]) mean mg mb h₀) (hk : cs.kind = .function) (hdp : dp + 8 < recursionLimit) (hu : un + 8 * 8 < cLine)
    (hTb : (Tb, instObj 267 d) ∈ news) (hd : (d, tblD w.params nm t5 lf la bf l' nd b1 b2 b3 b4 b5 b6 b7) ∈ news) (hnm : (nm, listOf nvs.toArray k1) ∈ news) (hsn : StrsAre nvs namesL) (hla : (la, listOf lvs.toArray k2) ∈ news) (hil : IntsAre lvs ln) (hlf : (lf, listOf fvs.toArray k3) ∈ news) (hif : IntsAre fvs fn)
    (hll : ln.length = 4) (hfl : fn.length = 4) (hlb : ∀ z ∈ ln, 0 ≤ z ∧ z ≤ 4) (hfb : ∀ z ∈ fn, 5 ≤ z ∧ z ≤ 7) (hMv : (Mv, listOf mvs.toArray k4) ∈ news) (hrow : Row (MoveAt ex) mvs ms) (hex : ∀ q ∈ ex, q ∈ news) (hms : ∀ p ∈ ms, 0 ≤ p.2 ∧ p.2 < 90) (h8 : ms.length ≤ 8)
    (h : ∀ R rs c h' tk', StrsAre rs (ms.map (txt ln fn)) → Fr h₀ L h' m → News h₀ L h' ((R, listOf (List.toArray rs) c) :: news) → (∀ p ∈ news, p.1 < R) → Q (.ref R) { s with heap := h', toks := tk' }) :
    wpAny (model PySem.Challenge.rw_nn0355_01.row.prog w) (ktrTop dp un gd cn cs L a ccd cl outer) (call (.ref 173) [.ref Tb, .ref Mv]) Q E s :=
  show_does w mean mg mb Tb d nm lf la bf l' nd Mv t5 b1 b2 b3 b4 b5 b6 b7 nvs lvs fvs mvs ln fn ms k1 k2 k3 k4 news hTb hd hnm hsn hla hil hlf hif hll hfl hlb hfb hMv (hrow.mono fun _ _ h => h.mono hex) hms h8
    dp un gd cn cs a ccd cl outer A₀ base h₀ L m s Q E B F X N Tp hk hdp hu fun _ _ h' tk' F' N' ⟨R, rs, c, e1, hs, e2, hR⟩ => by subst e1 e2; exact h R rs c h' tk' hs F' N' hR
end
end
section
open PySem PySem.W PyProof.Rows PySem.Calls PySem.Spec
/-- a comprehension over a range that draws once a turn -/
theorem comp_draws {prog : Program} {w : World} {A : Around} {h₀ : Heap} {L : Addr} {m : Str → Option Value} {env : Env} {elt : PySem.Expr} {x : Str} {scope : Scope} {cl : List (Str × Addr)} {s : Shared} {P : Nat → Value → Prop} {Fin : List Value → NewsL → Prop}
    {pen l : Addr} {spot seed : Int} {t u : Tok} {n0 n : Nat} {news : NewsL} {g : Obj → NewsL} (lo hi : Int) (U : UpdF pen (penO l spot t seed u n0) news g)
    (turn : ∀ (i : Nat) ys t' v I oI C oC D m₂ h tk (E' : Value → Shared → Prop), i < n → LCg.NsObj oC m₂ → m₂ x = some v → Fr h₀ L h m → News h₀ L h ((I, oI) :: (C, oC) :: (D, LCg.lst ys) :: g (penO l (spot + (i : Int)) t' seed u n0)) → LCg.Off3 I C D (g (penO l (spot + (i : Int)) t' seed u n0)) → ((@Ne Nat I C) ∧ (@Ne Nat I D) ∧ (@Ne Nat C D)) →
      wpAny (model prog w) A (eval elt (compEnvC scope cl C env)) (LCg.CompEnd h₀ L m { s with heap := h, toks := tk } I oI C oC D (LCg.lst ys) (fun _ => True) (fun y news' => ∃ z tz t'' sp, y = .int z tz ∧ lo ≤ z ∧ z ≤ hi ∧ sp = spot + (i : Int) + 1 ∧ news' = g (penO l sp t'' seed u n0))) E' { s with heap := h, toks := tk })
    (fin : ∀ ys ns t', IntsAre ys ns → ns.length = n → (∀ z ∈ ns, lo ≤ z ∧ z ≤ hi) → Fin ys (g (penO l (spot + (n : Int)) t' seed u n0))) :
    LCg.CompRest prog w A h₀ L m env elt x scope cl s (fun _ => True) P Fin n 0 [] news := by
  obtain ⟨pre, post, rfl, hg, _, _⟩ := U.split
  refine comp_ind n (fun i ys nw => ∃ ns t' sp, IntsAre ys ns ∧ ns.length = i ∧ (∀ z ∈ ns, lo ≤ z ∧ z ≤ hi) ∧ sp = spot + (i : Int) ∧ nw = g (penO l sp t' seed u n0)) ?_ ?_ n 0 [] _ (Nat.zero_add _) ⟨[], t, spot, .nil, rfl, fun _ h => (nomatch h), by omega, (hg _).symm⟩
  · rintro i ys nw v I oI C oC D m₂ h tk E' hi ⟨ns, t', sp, hs, rfl, hb, rfl, rfl⟩ hP hC hx F N off ne
    refine wpAny_mono (turn _ ys t' v I oI C oC D m₂ h tk E' hi hC hx F N off ne) (fun y s₂ q => compEnd_mono q fun y nw e => ?_) fun _ _ e => e
    obtain ⟨z, tz, t'', sp, rfl, h1, h2, rfl, rfl⟩ := e
    refine ⟨ns ++ [z], t'', _, IntsAre.append hs (.cons _ _ .nil), by simp, fun y hy => ?_, ?_, rfl⟩
    · rcases List.mem_append.mp hy with q | q
      · exact hb y q
      · rw [List.mem_singleton.mp q]; exact ⟨h1, h2⟩
    · omega
  · rintro ys nw ⟨ns, t', sp, hs, hl, hb, rfl, rfl⟩
    exact fin ys ns t' hs hl hb
section
variable {prog : Program} {w : World} {A : Around} {E : Value → Shared → Prop} {s : Shared} {h₀ : Heap} {L l a b : Addr} {m : Str → Option Value} {news : NewsL} {Q : Value → Shared → Prop}
inductive RefsAre : List Value → List Addr → Prop where
  | nil : RefsAre [] []
  | cons (a : Addr) {vs : List Value} {as : List Addr} : RefsAre vs as → RefsAre (Value.ref a :: vs) (a :: as)
theorem RefsAre.get : ∀ {vs : List Value} {as : List Addr}, RefsAre vs as → vs = as.map Value.ref
  | _, _, .nil => rfl
  | _, _, .cons a h => by rw [List.map_cons, ← h.get]
theorem item_ref {vs : List Value} {as : List Addr} {n : Nat} {k : Int} {u : Tok} {value slice : PySem.Expr} (N : News h₀ L s.heap news) (hl : (l, listOf vs.toArray n) ∈ news) (hr : RefsAre vs as) (hc : as.length = 6) (h0 : 0 ≤ k) (hk : k < 6)
    (h : ∀ x, as[k.toNat]? = some x → Q (.ref x) s) (hs : subscripted slice false (.ref l) (.int k u) = operate [.ref l, .int k u] (getItem (.ref l) (.int k u))) (hg : ∀ r, letTemporaryGo value (.ref l) r = pure ()) :
    wpAny (model prog w) A (subscriptTail value slice (.ref l) (.int k u)) Q E s := by
  have hlt : k.toNat < as.length := by omega
  exact item_listL (News.isList N hl) h0 (by omega) (by rw [hr.get, List.getElem?_map, List.getElem?_eq_getElem hlt]; rfl) (h _ (List.getElem?_eq_getElem hlt)) hs hg
theorem item_name {vs : List Value} {n : Nat} {k : Int} {u : Tok} {value slice : PySem.Expr} (N : News h₀ L s.heap news) (hl : (l, listOf vs.toArray n) ∈ news) (hi : StrsAre vs namesL) (h0 : 0 ≤ k) (hk : k < 8)
    (h : ∀ t', (namesL.getD k.toNat Str.empty).length ≤ 10 → Q (.str (namesL.getD k.toNat Str.empty) t') s) (hs : subscripted slice false (.ref l) (.int k u) = operate [.ref l, .int k u] (getItem (.ref l) (.int k u))) (hg : ∀ r, letTemporaryGo value (.ref l) r = pure ()) :
    wpAny (model prog w) A (subscriptTail value slice (.ref l) (.int k u)) Q E s := item_str N hl hi (c := 8) rfl h0 hk (by omega) (fun t => h t (name_ok _).1) hs hg
end
local macro_rules | `(tactic| walk_at "CompSrc") => `(tactic| (refine Hold.mk ?_))
local macro_rules | `(tactic| walk_at "call ref") => `(tactic| (k_here; (with_reducible show wpAny _ _ (call (Value.ref 279) [Value.ref _, Value.int _ _]) _ _ _); k_dflt (refine' draw_use (by k_asm) (by k_asm) (by k_asm) (by k_asm) (by k_asm) (by first | exact rfl | assumption) (by k_updF) (by k_mem) (by assumption) (by omega) (by omega) (by omega) (by omega) (by ktr_room) (by ktr_units) ?_); intro k9 t9 u9 h9 tk9 lo9 hi9 F9 N9; (have q1 := fmod_lo (a := k9) (b := 3) (by decide)); (have q2 := fmod_hi (a := k9) (b := 3) (by decide)); (have q3 := fmod_lo (a := k9) (b := 5) (by decide)); (have q4 := fmod_hi (a := k9) (b := 5) (by decide)); (try dsimp only); (try k_sweep); (try k_fold)))
local macro_rules | `(tactic| walk_at "exec For Name Call cons nil") => `(tactic| (k_here; (rename Fr _ _ _ _ => lF'); (with_unfolding_all refine' For_turns lF' ?_; k_whole)))
local macro_rules | `(tactic| walk_at "eval ListComp") => `(tactic| (k_here; k_dflt (refine LCg.ListComp_U (F₀ := by k_asm) (by with_unfolding_all rfl) (by decide) (by rfl) (by decide) (by rfl) ?_)))
local macro_rules | `(tactic| walk_at "call ref") => `(tactic| (k_here; (with_reducible show wpAny _ _ (call (Value.ref 267) _) _ _ _); k_dflt (refine' tables_new ?hM ?hS ?k1 ?k2 ?k3 ?k4 ?k5 ?kK ?kd ?ku ?_; (case k1 => k_asm); (case k2 => k_asm); (case k3 => k_asm); (case k4 => k_asm); (case k5 => k_asm); (case kK => first | exact rfl | assumption); (case hM => k_mem); (case hS => (repeat (first | exact StrsAre.nil | refine StrsAre.cons _ _ ?_))); (case kd => ktr_room); (case ku => ktr_units)); intro x9 d9 l9 nd9 c1 c2 c3 c4 c5 c6 c7 c8 h9 tk9 F9 N9 l1 l2; (try k_lt l1); (try k_lt2 l2); (try dsimp only); (try k_sweep); (try k_fold)))
local macro_rules | `(tactic| walk_at "subscriptTail") => `(tactic| (k_here; (with_reducible show wpAny _ _ (subscriptTail _ _ (Value.ref _) (Value.int _ _)) _ _ _); k_dflt (refine' item_str (c := 6) (by k_asm) (by k_mem) (by exact .cons _ _ (.cons _ _ (.cons _ _ (.cons _ _ (.cons _ _ (.cons _ _ .nil)))))) (by rfl) (by omega) (by omega) (by omega) ?_ (by with_unfolding_all rfl) (by (intro _; with_unfolding_all rfl))); intro t9))
local macro_rules | `(tactic| walk_at "subscriptTail") => `(tactic| (k_here; (with_reducible show wpAny _ _ (subscriptTail _ _ (Value.ref _) (Value.int _ _)) _ _ _); k_dflt (refine' item_ref (by k_asm) (by k_mem) (by exact .cons _ (.cons _ (.cons _ (.cons _ (.cons _ (.cons _ .nil)))))) (by rfl) (by omega) (by omega) ?_ (by with_unfolding_all rfl) (by (intro _; with_unfolding_all rfl))); intro x9 hx9))
local macro_rules | `(tactic| walk_at "subscriptTail") => `(tactic| (k_here; (with_reducible show wpAny _ _ (subscriptTail _ _ (Value.ref _) (Value.int _ _)) _ _ _); k_dflt (refine' item_name (by k_asm) (by k_mem) (by (repeat (first | exact StrsAre.nil | refine StrsAre.cons _ _ ?_))) (by omega) (by omega) ?_ (by with_unfolding_all rfl) (by (intro _; with_unfolding_all rfl))); intro t9 z9))
local macro_rules | `(tactic| walk_at "subscriptTail") => `(tactic| (k_here; (with_reducible show wpAny _ _ (subscriptTail _ _ (Value.ref _) (Value.int _ _)) _ _ _); k_dflt (refine' item_int (by k_asm) (by k_mem) (by with_reducible assumption) (by with_reducible assumption) (by with_reducible assumption) (by omega) (by omega) (by omega) ?_ (by with_unfolding_all rfl) (by (intro _; with_unfolding_all rfl))); intro t9 lo9 hi9))
local macro_rules | `(tactic| walk_at "binaryOp Add ref ref") => `(tactic| (k_here; (with_reducible show wpAny _ _ (binaryOp _ (Value.ref _) (Value.ref _)) _ _ _); k_dflt (refine' add_strs (by k_asm) (by k_asm) (by exact News.isList (by k_asm) (by k_mem)) (by exact News.isList (by k_asm) (by k_mem)) (by exact .cons _ _ (.cons _ _ .nil)) (by exact .cons _ _ (.cons _ _ (.cons _ _ (.cons _ _ .nil)))) (by decide) ?_); intro D9 us9 h9 F9 N9 l1 s9; (try k_lt l1); (try k_sweep)))
local macro_rules | `(tactic| walk_at "call builtin:list.append") => `(tactic| (k_here; (with_reducible show wpAny _ _ (call (Value.builtin _) [Value.ref _, Value.ref _]) _ _ _); k_dflt (refine' append_ref (by k_asm) (by k_asm) (by k_upd) (by omega) ?_; k_whole); intro h9 F9 N9; (try k_sweep)))
local macro_rules | `(tactic| walk_at "call ref") => `(tactic| (k_here; (with_reducible show wpAny _ _ (call (Value.ref 173) _) _ _ _); k_dflt (refine' show_use (by k_asm) (by k_asm) (by k_asm) (by k_asm) (by k_asm) (by first | exact rfl | assumption) (by ktr_room) (by ktr_units) (by k_mem) (by k_mem) (by k_mem) (by (repeat (first | exact StrsAre.nil | refine StrsAre.cons _ _ ?_))) (by k_mem) (by with_reducible assumption) (by k_mem) (by with_reducible assumption) (by assumption) (by assumption) (by assumption) (by assumption) (by k_mem) (by with_reducible assumption) (by (intro q hq; repeat (first | exact hq | refine List.Mem.tail _ ?_))) (by assumption) (by assumption) ?_); intro R9 rs9 c9 h9 tk9 s9 F9 N9 l1; (try k_lt l1); (try dsimp only); (try k_sweep); (try k_fold)))
theorem shown_does (w : World) (mean : ExcName → Option Value) (mg mb : Str → Option Value) (pen l : Addr) (vs : List Value) (ns : List Int) (n0 n1 : Nat) (spot seed : Int) (t u : Tok) (rest : NewsL)
    (hl : (l, listOf vs.toArray n1) ∈ rest) (P : PenOk vs ns seed) (h0 : 0 ≤ spot) (h1 : spot ≤ 170) (hr : ∀ p ∈ rest, p.1 ≠ pen) :
    Does w mean mg mb 308 [.ref pen] 20 ((pen, penO l spot t seed u n0) :: rest)
      (fun r news' => ∃ k : Int, ∃ t', r = .bool true ∧ spot ≤ k ∧ k ≤ spot + 23 ∧ news' = (pen, penO l k t' seed u n0) :: rest) := by
  unfold Does
  k_fill
  intro dp un gd cn cs a ccd cl outer A₀ base h₀ L m s Q E B F X N T hk hd hu hret
  refine wpAny_call ?_
  k_dflt (refine' code_defC ?k1 ?k2 ?k3 ?k4 ?k5 ?kA ?kF ?kK ?k6 ?k7 ?k8 ?k9 ?kB ?kD ?_ ?c2 ?c3 ?c4; (case kA => exact rfl); (case kF => exact rfl); (case kK => assumption); (case k1 => k_asm); (case k2 => k_asm); (case k3 => k_asm); (case k4 => k_asm); (case k5 => k_asm); (case k6 => k_is); (case k7 => k_is); (case k8 => ktr_room); (case k9 => first | exact BindsTo.of_eq rfl | exact binds_K (by k_in) rfl (by k_is) rfl rfl rfl | fail "k_enter: no rule for these arguments"); (case kB => exact rfl); (case kD => decide +kernel); (case c2 => exact rfl); (case c3 => exact rfl); (case c4 => exact rfl); k_whole; intro g' L' h' tk' cells' FG' F' N' Y' B' X' T' l1; (try k_lt l1); k_cells Y'; (try simp only [List.cons_append, List.nil_append] at N'); (try dsimp only); (try k_lift B'); (try k_fold))
  k_steps
  refine Hold.out ?_
  (rename IsRange _ _ _ _ _ _ _ _ => hR); (rename Fr g' L' _ _ => hF); (rename News g' L' _ _ => hN)
  refine LCg.CompSrc.range (by rfl) hF hN hR (by decide) (n := 3) (by decide) (by rw [PySem.sizeLine_eq]; omega) ?_
  intro g2
  k_dflt (refine' comp_draws (pen := pen) (l := l) (spot := spot) (seed := seed) (t := t) (u := u) (n0 := n0) 0 4 ?U ?turn ?fin)
  case U => k_updF
  case turn =>
    clear hF hN
    intro i ys t' v I oI C oC D m₂ h3 tk3 E' hlt hC3 hx3 F3 N3 off3 ne3
    have ho3 : (@Ne Nat pen I) ∧ (@Ne Nat pen C) ∧ (@Ne Nat pen D) := LCg.Off3.mem off3 (pen, penO l _ t' seed u n0) (by repeat (first | exact List.Mem.head _ | refine List.Mem.tail _ ?_))
    (try k_fold)
    k_steps
    (rename Fr g' L' _ _ => hF9); (rename News g' L' _ _ => hN9)
    simp only [LCg.Off3] at off3
    exact LCg.CompEnd.intro hF9 hN9 _ (fun _ h => h) off3 trivial ⟨_, _, _, _, rfl, by omega, by omega, rfl, rfl⟩
  case fin =>
    clear hF hN hR
    intro ys lns t' hs3 hl3 hb3
    (try dsimp only)
    k_steps
    refine Hold.out ?_
    (rename IsRange _ _ _ _ _ _ _ _ => hR); (rename Fr g' L' _ _ => hF); (rename News g' L' _ _ => hN)
    refine LCg.CompSrc.range (by rfl) hF hN hR (by decide) (n := 3) (by decide) (by rw [PySem.sizeLine_eq]; omega) ?_
    intro g4
    k_dflt (refine' comp_draws (pen := pen) (l := l) (spot := spot + ((3 : Nat) : Int)) (seed := seed) (t := t') (u := u) (n0 := n0) 6 7 ?U2 ?turn2 ?fin2)
    case U2 => k_updF
    case turn2 =>
      clear hF hN
      intro i ys t' v I oI C oC D m₂ h3 tk3 E' hlt hC3 hx3 F3 N3 off3 ne3
      have ho3 : (@Ne Nat pen I) ∧ (@Ne Nat pen C) ∧ (@Ne Nat pen D) := LCg.Off3.mem off3 (pen, penO l _ t' seed u n0) (by repeat (first | exact List.Mem.head _ | refine List.Mem.tail _ ?_))
      (try k_fold)
      k_steps
      (rename Fr g' L' _ _ => hF9); (rename News g' L' _ _ => hN9)
      simp only [LCg.Off3] at off3
      exact LCg.CompEnd.intro hF9 hN9 _ (fun _ h => h) off3 trivial ⟨_, _, _, _, rfl, by omega, by omega, rfl, rfl⟩
    case fin2 =>
      clear hF hN hR
      intro ys2 fns t'2 hs4 hl4 hb4
      k_steps
      (rename IntsAre _ ([2] ++ lns) => hI1); (rename IntsAre _ ([5] ++ fns) => hI2); (replace hI1 : IntsAre _ (2 :: lns) := hI1); (replace hI2 : IntsAre _ (5 :: fns) := hI2)
      have hll : (2 :: lns).length = 4 := by rw [List.length_cons, hl3]
      have hfl : (5 :: fns).length = 4 := by rw [List.length_cons, hl4]
      have hlb : ∀ z ∈ 2 :: lns, 0 ≤ z ∧ z ≤ 4 := fun z hz => (List.mem_cons.mp hz).elim (fun q => by omega) (hb3 z)
      have hfb : ∀ z ∈ 5 :: fns, 5 ≤ z ∧ z ≤ 7 := fun z hz => (List.mem_cons.mp hz).elim (fun q => by omega) (fun q => by have := hb4 z q; omega)
      (rename IsRange _ _ _ _ _ _ _ _ => hR9); (rename Fr g' L' _ _ => hF9); (rename News g' L' _ _ => hN9); (rename Int => kk)
      k_dflt (refine' shown_loop (n := kk.toNat) (pen := pen) (l := l) (seed := seed) (u := u) (n0 := n0) (txt (2 :: lns) (5 :: fns)) ?hh hR9 ?sm ?sz hF9 hN9 ?hT ?hp ?hM ?hD ?l1 ?l2 ?turn ?fin)
      case hh => rfl
      case sm => exact small_one (by omega) (by omega) (by omega) (by omega)
      case hT => k_mem
      case hp => k_mem
      case hM => k_mem
      case hD => k_mem
      case l1 => omega
      case l2 => omega
      case sz => exact (rangeSize_nat 0 kk).trans (by omega)
      case turn =>
        clear hF9 hN9
        intro I oI i ms mvs c dus c' t' sp' ex u1 u2 u3 u4 u5 u6 u7 u8 tt h tk hi hpM hMD hDI hsp hold e1 e2 e3 e4 hrow hs hlen hms F3 N3
        have hb4 := hold _ (List.mem_of_getElem? (i := 4) rfl) (by k_ne) (by k_ne) (by k_ne)
        have hb7 := hold _ (List.mem_of_getElem? (i := 7) rfl) (by k_ne) (by k_ne) (by k_ne)
        have hb10 := hold _ (List.mem_of_getElem? (i := 10) rfl) (by k_ne) (by k_ne) (by k_ne)
        have hb13 := hold _ (List.mem_of_getElem? (i := 13) rfl) (by k_ne) (by k_ne) (by k_ne)
        have hb14 := hold _ (List.mem_of_getElem? (i := 14) rfl) (by k_ne) (by k_ne) (by k_ne)
        (rename @LT.lt Nat _ pen L' ∧ AllLt L' rest => hlL)
        have hlL' : @LT.lt Nat _ l L' := kst_ltOf hlL.2 _ hl
        have hbl := hold (l, listOf vs.toArray n1) (by repeat (first | exact hl | refine List.Mem.tail _ ?_)) (by have := hr _ hl; exact this) (by k_ne) (by k_ne)
        have hm8' : ms.length ≤ 8 := by omega
        have hv8 : mvs.length ≤ 8 := by rw [hrow.1]; exact hm8'
        have ht8 : (ms.map (txt (2 :: lns) (5 :: fns))).length ≤ 8 := by rw [List.length_map]; exact hm8'
        have hold2 := Hold.mk hold
        clear hold hlL hlL' hr hl
        repeat ((rename _ ∧ _ ∧ _ ∧ _ ∧ _ => hz); clear hz)
        (try dsimp only)
        (try k_fold)
        k_steps
        (rename Fr g' L' _ _ => hF9); (rename News g' L' _ _ => hN9); (rename [_, _, _, _, _, _][_]? = some _ => hx9); (rename _ < (6 : Int) => hw6)
        refine' shown_turn6 hF9 hN9 ?hI ?hp ?hM ?hD ?hex hx9 ?hw0 hw6 ?g0 ?g1 ?g2 ?g3 ?g4 ?g5 ?q0 ?q1 ?q2 ?q3 ?q4 ?q5 ?b0 ?b1 ?hsp hpM hMD hDI (Hold.out hold2) e1 e2 e3 e4 hrow hs hlen hms ?hm
        case hI => k_mem
        case hp => k_mem
        case hM => k_mem
        case hD => k_mem
        case hex => intro q hq; repeat (first | exact hq | refine List.Mem.tail _ ?_)
        case hw0 => omega
        case g0 => k_mem
        case g1 => k_mem
        case g2 => k_mem
        case g3 => k_mem
        case g4 => k_mem
        case g5 => k_mem
        case q0 => omega
        case q1 => omega
        case q2 => omega
        case q3 => omega
        case q4 => omega
        case q5 => omega
        case b0 => omega
        case b1 => omega
        case hsp => omega
        case hm => intro y h1 h2 h3 h4 h5 h6 h7 h8; simp only [m8, if_neg h1, if_neg h2, if_neg h3, if_neg h4, if_neg h5, if_neg h6, if_neg h7, if_neg h8]
      case fin =>
        clear hF9 hN9
        intro ms mvs c dus c' t' sp' ex u1 u2 u3 u4 u5 u6 u7 u8 h tk hsp hold e2 e3 e4 hrow hs hlen hms F3 N3
        have hb3 := hold _ (List.mem_of_getElem? (i := 3) rfl) (by k_ne) (by k_ne) (by k_ne)
        have hb4 := hold _ (List.mem_of_getElem? (i := 4) rfl) (by k_ne) (by k_ne) (by k_ne)
        have hb7 := hold _ (List.mem_of_getElem? (i := 7) rfl) (by k_ne) (by k_ne) (by k_ne)
        have hb10 := hold _ (List.mem_of_getElem? (i := 10) rfl) (by k_ne) (by k_ne) (by k_ne)
        have hb13 := hold _ (List.mem_of_getElem? (i := 13) rfl) (by k_ne) (by k_ne) (by k_ne)
        (rename @LT.lt Nat _ pen L' ∧ AllLt L' rest => hlL)
        have hold3 : Hold (∀ q ∈ rest, q ∈ ex) := by
          intro q hq
          have hqL : @LT.lt Nat _ q.1 L' := kst_ltOf hlL.2 q hq
          exact hold q (by repeat (first | exact hq | refine List.Mem.tail _ ?_)) (hr q hq) (by k_ne) (by k_ne)
        have hm8' : ms.length ≤ 8 := by omega
        have hok : ∀ z ∈ ms.map (txt (2 :: lns) (5 :: fns)), PyData.strOk z = true := by
          intro z hz
          obtain ⟨p, hp, rfl⟩ := List.mem_map.mp hz
          exact txt_ok hll hlb (hms p hp)
        clear hold hlL
        repeat ((rename _ ∧ _ ∧ _ ∧ _ ∧ _ => hz); clear hz)
        k_steps
        (rename Fr h₀ L _ m => hF9); (rename News h₀ L _ _ => hN9)
        refine' hret _ ((pen, penO l sp' t' seed u n0) :: rest) _ _ hF9 (cb_drop hN9 ?sub) ⟨sp', t', rfl, ?q1, ?q2, rfl⟩
        case q1 => omega
        case q2 => omega
        case sub =>
          refine List.forall_mem_cons.mpr ⟨by repeat (first | exact List.Mem.head _ | refine List.Mem.tail _ ?_), fun p hp => ?_⟩
          repeat (first | exact Hold.out hold3 p hp | refine List.Mem.tail _ ?_)
end
section
open PySem PySem.W PyProof.Rows PySem.Calls PySem.Spec
section
variable {w : World} {mean : ExcName → Option Value} {mg mb : Str → Option Value} {dp un : Nat} {gd : Option (List Code)} {cn : Str} {cs : Scope} {a : Addr} {ccd : Value} {cl : List (Str × Addr)} {outer : List Env} {A A₀ : Around} {base h₀ : Heap} {L : Addr} {m : Str → Option Value} {s : Shared}
    {Q E : Value → Shared → Prop} {news : NewsL} {g : Obj → NewsL} {pen l : Addr} {vs : List Value} {ns : List Int} {n0 n1 : Nat} {spot seed : Int} {t u : Tok}
theorem given_use {kl : Addr} {ws : List Value} {kinds : List Str} {n : Nat}
    (B : Below A₀ base outer h₀) (F : Fr h₀ L s.heap m) (X : (Mine.hd.heap_39 w.params).In h₀) (N : News h₀ L s.heap news)
    (T : Top Mine.hd.view_39 (looseW Mine.hd.view_39 [Str.ofString "ToolError", Str.ofString "BARRED"]) mean mg mb h₀) (hk : cs.kind = .function)
    (hkl : (kl, listOf ws.toArray n) ∈ news) (hs : StrsAre ws kinds) (hm : ∀ z ∈ kinds, z ∈ menu) (hn : kinds.length ≤ 7) (hd : dp + 20 < recursionLimit) (hu : un + 8 * 20 < cLine)
    (h : ∀ h' tk', Fr h₀ L h' m → News h₀ L h' news → Q (.bool true) { s with heap := h', toks := tk' }) :
    wpAny (model PySem.Challenge.rw_nn0355_01.row.prog w) (ktrTop dp un gd cn cs L a ccd cl outer) (call (.ref 296) [.ref kl]) Q E s :=
  given_does w mean mg mb kl ws kinds n news hkl hs hm hn dp un gd cn cs a ccd cl outer A₀ base h₀ L m s Q E B F X N T hk hd hu fun _ _ h' tk' F' N' ⟨e1, e2⟩ => by subst e1 e2; exact h h' tk' F' N'
theorem some_use2 {tm : Tok}
    (B : Below A₀ base outer h₀) (F : Fr h₀ L s.heap m) (X : (Mine.hd.heap_39 w.params).In h₀) (N : News h₀ L s.heap news)
    (T : Top Mine.hd.view_39 (looseW Mine.hd.view_39 [Str.ofString "ToolError", Str.ofString "BARRED"]) mean mg mb h₀) (hk : cs.kind = .function)
    (U : UpdF pen (penO l spot t seed u n0) news g) (hl : (l, listOf vs.toArray n1) ∈ news) (P : PenOk vs ns seed) (h0 : 0 ≤ spot) (h1 : spot ≤ 190) (hd : dp + 6 < recursionLimit) (hu : un + 8 * 6 < cLine)
    (h : ∀ D ws kinds t' h' tk', StrsAre ws kinds → (∀ k ∈ kinds, k ∈ menu) → kinds.length ≤ 7 → (@Ne Nat pen D) → Fr h₀ L h' m → News h₀ L h' ((D, listOf ws.toArray ws.length) :: g (penO l (spot + 1 + kinds.length) t' seed u n0)) → Q (.ref D) { s with heap := h', toks := tk' }) :
    wpAny (model PySem.Challenge.rw_nn0355_01.row.prog w) (ktrTop dp un gd cn cs L a ccd cl outer) (call (.ref 284) [.ref pen, .int 8 tm]) Q E s := by
  obtain ⟨pre, post, e, _, _, _⟩ := U.split
  exact some_use B F X N T hk U hl P h0 h1 hd hu fun D ws kinds t' h' tk' q1 q2 q3 q4 q5 q6 => h D ws kinds t' h' tk' q1 q2 q3 (q4 (pen, penO l spot t seed u n0) (e ▸ List.mem_append_right _ List.mem_cons_self)) q5 q6
theorem faulty_use
    (B : Below A₀ base outer h₀) (F : Fr h₀ L s.heap m) (X : (Mine.hd.heap_39 w.params).In h₀) (N : News h₀ L s.heap news)
    (T : Top Mine.hd.view_39 (looseW Mine.hd.view_39 [Str.ofString "ToolError", Str.ofString "BARRED"]) mean mg mb h₀) (hk : cs.kind = .function)
    (U : UpdF pen (penO l spot t seed u n0) news g) (hl : (l, listOf vs.toArray n1) ∈ news) (P : PenOk vs ns seed) (h0 : 0 ≤ spot) (h1 : spot ≤ 170) (hd : dp + 20 < recursionLimit) (hu : un + 8 * 20 < cLine)
    (h : ∀ k t' h' tk', spot ≤ k → k ≤ spot + 10 → Fr h₀ L h' m → News h₀ L h' (g (penO l k t' seed u n0)) → Q (.bool true) { s with heap := h', toks := tk' }) :
    wpAny (model PySem.Challenge.rw_nn0355_01.row.prog w) (ktrTop dp un gd cn cs L a ccd cl outer) (call (.ref 303) [.ref pen]) Q E s := by
  obtain ⟨pre, post, rfl, hg, ha, hb⟩ := U.split
  refine faulty_does w mean mg mb pen l vs ns n0 n1 spot seed t u (pre ++ post) (pen_apart P hl) P h0 h1 (fun p hp => (List.mem_append.mp hp).elim (ha p) (hb p)) dp un gd cn cs a ccd cl outer A₀ base h₀ L m s Q E B F X (fun p hp => N p (mem_turn hp)) T hk hd hu ?_
  rintro r news' h' tk' F' N' ⟨k, t', rfl, q1, q2, rfl⟩
  refine h k t' h' tk' q1 q2 F' ?_
  rw [hg]
  exact fun p hp => N' p (mem_turn' hp)
theorem shown_use
    (B : Below A₀ base outer h₀) (F : Fr h₀ L s.heap m) (X : (Mine.hd.heap_39 w.params).In h₀) (N : News h₀ L s.heap news)
    (T : Top Mine.hd.view_39 (looseW Mine.hd.view_39 [Str.ofString "ToolError", Str.ofString "BARRED"]) mean mg mb h₀) (hk : cs.kind = .function)
    (U : UpdF pen (penO l spot t seed u n0) news g) (hl : (l, listOf vs.toArray n1) ∈ news) (P : PenOk vs ns seed) (h0 : 0 ≤ spot) (h1 : spot ≤ 170) (hd : dp + 20 < recursionLimit) (hu : un + 8 * 20 < cLine)
    (h : ∀ k t' h' tk', spot ≤ k → k ≤ spot + 23 → Fr h₀ L h' m → News h₀ L h' (g (penO l k t' seed u n0)) → Q (.bool true) { s with heap := h', toks := tk' }) :
    wpAny (model PySem.Challenge.rw_nn0355_01.row.prog w) (ktrTop dp un gd cn cs L a ccd cl outer) (call (.ref 308) [.ref pen]) Q E s := by
  obtain ⟨pre, post, rfl, hg, ha, hb⟩ := U.split
  refine shown_does w mean mg mb pen l vs ns n0 n1 spot seed t u (pre ++ post) (pen_apart P hl) P h0 h1 (fun p hp => (List.mem_append.mp hp).elim (ha p) (hb p)) dp un gd cn cs a ccd cl outer A₀ base h₀ L m s Q E B F X (fun p hp => N p (mem_turn hp)) T hk hd hu ?_
  rintro r news' h' tk' F' N' ⟨k, t', rfl, q1, q2, rfl⟩
  refine h k t' h' tk' q1 q2 F' ?_
  rw [hg]
  exact fun p hp => N' p (mem_turn' hp)
end
end
section
open PySem PySem.W PyProof.Rows PySem.Calls PySem.Spec
local macro_rules | `(tactic| walk_at "call ref") => `(tactic| (k_here; (with_reducible show wpAny _ _ (call (Value.ref 284) _) _ _ _); k_dflt (refine' some_use2 (by k_asm) (by k_asm) (by k_asm) (by k_asm) (by k_asm) (by first | exact rfl | assumption) (by k_updF) (by k_mem) (by exact ⟨by assumption, by omega, fmod_lo (by decide), fmod_hi (by decide)⟩) (by omega) (by omega) (by ktr_room) (by ktr_units) ?_); intro D9 ws9 ks9 u9 h9 tk9 ss9 m9 len9 ne9 F9 N9; (try dsimp only); (try k_sweep); (try k_fold)))
local macro_rules | `(tactic| walk_at "call ref") => `(tactic| (k_here; (with_reducible show wpAny _ _ (call (Value.ref 296) _) _ _ _); k_dflt (refine' given_use (by k_asm) (by k_asm) (by k_asm) (by k_asm) (by k_asm) (by first | exact rfl | assumption) (by k_mem) (by with_reducible assumption) (by assumption) (by assumption) (by ktr_room) (by ktr_units) ?_); intro h9 tk9 F9 N9; (try dsimp only); (try k_sweep); (try k_fold)))
local macro_rules | `(tactic| walk_at "call ref") => `(tactic| (k_here; (with_reducible show wpAny _ _ (call (Value.ref 303) _) _ _ _); k_dflt (refine' faulty_use (by k_asm) (by k_asm) (by k_asm) (by k_asm) (by k_asm) (by first | exact rfl | assumption) (by k_updF) (by k_mem) (by exact ⟨by assumption, by omega, fmod_lo (by decide), fmod_hi (by decide)⟩) (by omega) (by omega) (by ktr_room) (by ktr_units) ?_); intro k9 u9 h9 tk9 lo9 hi9 F9 N9; (try dsimp only); (try k_sweep); (try k_fold)))
local macro_rules | `(tactic| walk_at "call ref") => `(tactic| (k_here; (with_reducible show wpAny _ _ (call (Value.ref 308) _) _ _ _); k_dflt (refine' shown_use (by k_asm) (by k_asm) (by k_asm) (by k_asm) (by k_asm) (by first | exact rfl | assumption) (by k_updF) (by k_mem) (by exact ⟨by assumption, by omega, fmod_lo (by decide), fmod_hi (by decide)⟩) (by omega) (by omega) (by ktr_room) (by ktr_units) ?_); intro k9 u9 h9 tk9 lo9 hi9 F9 N9; (try dsimp only); (try k_sweep); (try k_fold)))
theorem cw : PySem.Challenge.rw_nn0355_01.Holds := Mine.hd (by
  k_go0
  (all_goals try k_fold)
  k_steps)
end
end Mine
theorem PySem.Challenge.cw_nn0355_01_holds : PySem.Challenge.rw_nn0355_01.Holds := by
  exact Mine.cw
