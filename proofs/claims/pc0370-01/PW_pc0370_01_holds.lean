import PyProof.Rows.All
import Wide.All
import OpenK.AllK
import Wide.FinOn
import PySem.Challenge.RW_pc0370_01
open PySem PySem.W PyProof.Rows
set_option Elab.async false
set_option linter.all false
set_option maxRecDepth 100000
set_option maxHeartbeats 8000000
namespace Mine
/-- the text's statements that are kept in view: all but the four that bind the module's name -/
noncomputable def qv : Program := PySem.W.view PySem.Challenge.pw_pc0370_01 [0, 2, 3, 5, 6, 7, 9, 10, 11, 13, 14, 15, 16, 17, 18, 19, 20, 21, 22, 23]
/-- behind the library's boot state the whole top is one evaluation -/
theorem left_boot {p q : Program} {loose : List Str} {Xt : Shared → Bool} {α : Type} {Yf : Shared → α} {Ya : World → α} {N : Nat} {g0 : Bool} (e : opening p = plainProg p.main.scope.names) (hN : Nat.ble 600 N = true) (f : ∀ s, fenceModules? p s = some s)
    (h : ∀ (w : World) (os : OsState), (topFrom treeTable p w N ⟨boot_heap w.params, #[], boot_drawn, boot_toks, os⟩).map (fun s => (openSeen q loose (importedModules p.main.body) Xt g0 s, Yf s)) = some (openGood q loose, Ya w)) : LeftO p q loose Xt Yf Ya N g0 := fun w => by
  obtain ⟨⟨hp, gs, d, k, os⟩, e1, e2⟩ := Option.map_eq_some_iff.mp (boot_open e hN f w)
  obtain ⟨rfl, rfl, rfl, rfl⟩ : hp = boot_heap w.params ∧ gs = #[] ∧ d = boot_drawn ∧ k = boot_toks := by simpa using e2
  unfold openEnds
  rw [e1]
  exact h w os
theorem topFrom_fast : @topFrom = fun tb p w N s₀ => match s₀.heap.isNs mainGlobals && s₀.gens.size == 0 with
  | true => (PySem.W.Fast.tw14082659384304107361 tb p w s₀.heap.objs.size (s₀.heap.nsMap mainGlobals "__annotations__") N s₀ (topStub p)).bind fun s₁ => match staticsOk (importedModules p.main.body) s₀.heap s₁.heap && namesBound p s₁.heap && gensDone s₁ && laidKept s₀.heap s₁.heap with
      | true => some s₁
      | false => none
  | false => none := by
  rw [← PySem.W.Fast.te14082659384304107361]
  rfl
end Mine
local macro_rules | `(tactic| o_law) => `(tactic| refine holds_law (l := PySem.Challenge.rw_pc0370_01) (by kernel_rfl) fun said => ?_)
local macro_rules | `(tactic| o_head $H) => `(tactic|
  (refine holds_open (q := Mine.qv) (loose := [Str.ofString "SettingError", Str.ofString "Bpdu"]) (Xt := fun s => xlAt Mine.qv [] s && recOk (RowW.records (OpenRow.toRowW (OpenLaw.row PySem.Challenge.rw_pc0370_01))) s) (XP := XL Mine.qv []) (Yf := Hook.obs $H) (Ya := Hook.val $H) (YP := Hook.says $H) (N := 4578) ?hl (Hook.of $H) (Hook.keeps $H) (fun s e => xl_of s (Bool.and_eq_true_iff.mp e).1) XL.keeps (by rfl) (by rfl) (by rfl) (fun s e => recFacts_of (Bool.and_eq_true_iff.mp e).2) (by rfl) (by first | assumption | decide +kernel) (by decide +kernel) ⟨rfl, rfl, rfl, rfl, rfl, by decide +kernel⟩ ?hw ?hc
   case hl => (refine Mine.left_boot (by rfl) (by rfl) (fun s => rfl) ?_; intro w os; rw [Mine.topFrom_fast, PySem.W.Fast.te14364793385576792824, PySem.W.Fast.te4187177175401517315]; kernel_rfl)))
local macro_rules | `(tactic| k_head) => `(tactic| x_head)
namespace Mine
open_top hd for PySem.Challenge.rw_pc0370_01
end Mine

local macro_rules | `(tactic| k_all) => `(tactic| k_extra "k_all")
local macro_rules | `(tactic| k_enter) => `(tactic| k_extra "k_enter")
local macro_rules | `(tactic| k_handed) => `(tactic| k_extra "k_handed")
local macro_rules | `(tactic| k_ne) => `(tactic| k_extra "k_ne")
local macro_rules | `(tactic| k_room) => `(tactic| k_extra "k_room")
local macro_rules | `(tactic| k_units) => `(tactic| k_extra "k_units")
local macro_rules | `(tactic| k_upd) => `(tactic| k_extra "k_upd")
local macro_rules | `(tactic| k_updF) => `(tactic| k_extra "k_updF")
local macro_rules | `(tactic| kd_mem) => `(tactic| k_extra "kd_mem")
local macro_rules | `(tactic| kd_p) => `(tactic| k_extra "kd_p")
local macro_rules | `(tactic| kd_p1) => `(tactic| k_extra "kd_p1")
local macro_rules | `(tactic| kdy_has) => `(tactic| k_extra "kdy_has")
local macro_rules | `(tactic| kdy_size) => `(tactic| k_extra "kdy_size")
local macro_rules | `(tactic| kst_p) => `(tactic| k_extra "kst_p")
local macro_rules | `(tactic| kst_p1) => `(tactic| k_extra "kst_p1")
local macro_rules | `(tactic| ktn_open) => `(tactic| k_extra "ktn_open")
local macro_rules | `(tactic| ktr_rel) => `(tactic| k_extra "ktr_rel")
local macro_rules | `(tactic| ktr_room) => `(tactic| k_extra "ktr_room")
local macro_rules | `(tactic| ktr_units) => `(tactic| k_extra "ktr_units")
local macro_rules | `(tactic| tb_rel) => `(tactic| k_extra "tb_rel")
local macro_rules | `(tactic| tb_start) => `(tactic| k_extra "tb_start")
local macro_rules | `(tactic| units_room) => `(tactic| k_extra "units_room")
local macro_rules | `(tactic| x_close) => `(tactic| k_extra "x_close")
local macro_rules | `(tactic| walk_at $s:str) => `(tactic| k_extra $s)
local macro_rules | `(tactic| k_lt $h) => `(tactic| ((have hkeep := $h); (try (replace $h := allLt_of $h; simp only [AllLt, and_true] at $h:ident))))
namespace Mine
noncomputable abbrev Pg : Program := PySem.Challenge.rw_pc0370_01.row.prog
noncomputable abbrev Lo : List Str := looseW qv [Str.ofString "SettingError", Str.ofString "Bpdu"]
abbrev Nq (a b : Nat) : Prop := @Ne Nat a b
theorem nq {a b : Nat} (h : Nq a b) : a ≠ b := h
theorem nqs {a b : Nat} (h : Nq b a) : a ≠ b := Ne.symm h
section
variable {prog : Program} {w : World} {A : Around} {E : Value → Shared → Prop} {s : Shared} {h₀ : Heap} {L D : Addr} {m : Str → Option Value} {news news' : List (Addr × Obj)} {n : Nat}
theorem pop0 {x : Value} {r : List Value} {u : Tok} {Q : Value → Shared → Prop} (F : Fr h₀ L s.heap m) (N : News h₀ L s.heap news) (U : Upd D (listOf (x :: r).toArray n) (listOf r.toArray (n + 1)) news news') (hz : r.length ≤ 24)
    (h : ∀ h', Fr h₀ L h' m → News h₀ L h' news' → Q x { s with heap := h' }) : wpAny (model prog w) A (call (.builtin "list.pop") [.ref D, .int 0 u]) Q E s :=
  kl_popAt (p := []) (q := r) (k := 0) F N (by decide) (by simp [seqIndex?]) rfl U (by rw [sizeLine_eq]; simp; omega) h
end
theorem ncons {h₀ h : Heap} {L : Addr} {p : Addr × Obj} {l l' : List (Addr × Obj)} (N : News h₀ L h l') (hm : p ∈ l') (hr : News h₀ L h l) : News h₀ L h (p :: l) := fun q hq => (List.mem_cons.mp hq).elim (fun e => e ▸ N p hm) (hr q)
theorem nrest {h₀ h : Heap} {L : Addr} {l l' : List (Addr × Obj)} (N : News h₀ L h l') (hm : ∀ p, p ∈ l → p ∈ l') : News h₀ L h l := fun q hq => N q (hm q hq)
theorem ne_sub {l l' : List (Addr × Obj)} {d : Addr} (h : ∀ p ∈ l', @LT.lt Nat _ p.1 d) (hs : ∀ p, p ∈ l → p ∈ l') : ∀ p ∈ l, p.1 ≠ d := fun p hp => Nat.ne_of_lt (h p (hs p hp))
theorem ne_sub2 {l l' : List (Addr × Obj)} {d : Addr} (h : ∀ p ∈ l', p.1 ≠ d) (hs : ∀ p, p ∈ l → p ∈ l') : ∀ p ∈ l, p.1 ≠ d := fun p hp => h p (hs p hp)
theorem off1_mem {d : Addr} : ∀ {l : List (Addr × Obj)}, LCg.Off1 d l → ∀ p ∈ l, p.1 ≠ d
  | [], _, _, h => nomatch h
  | _ :: _, x, p, h => by
    rcases List.mem_cons.mp h with rfl | h
    · exact x.1
    · exact off1_mem x.2 p h
theorem fm0 {x t : Int} (h : 0 < t) : 0 ≤ x.fmod t := Int.fmod_nonneg_of_pos x h
theorem fm1 {x t : Int} (h : 0 < t) : x.fmod t < t := Int.fmod_lt_of_pos x h
theorem fd0 {x t : Int} (h : 0 ≤ x) (h2 : 0 ≤ t) : 0 ≤ x.fdiv t := by
  rw [Int.fdiv_eq_ediv_of_nonneg x h2]
  exact Int.ediv_nonneg h h2
/-- between two statements the state is the first one but for the heap and the count -/
theorem st_norm {M : Model} {A : Around} {α : Type} {t : Sem α} {Q : α → Shared → Prop} {E : Value → Shared → Prop} (s₁ : Shared) {h : Heap} {g : Array GenState} {d : Drawn} {k n : Nat} {o : OsState} (eg : g = s₁.gens) (ed : d = s₁.drawn) (eo : o = s₁.os)
    (hh : ∀ tk, wpAny M A t Q E { s₁ with heap := h, toks := tk }) : wpAny M A t Q E ⟨h, g, d, k + n, o⟩ := by
  subst eg ed eo
  exact hh _
theorem rm0 {a n m : Nat} (d : a + n < m) : a < m := Nat.lt_of_le_of_lt (Nat.le_add_right a n) d
theorem rm1 {a n k m : Nat} (d : a + n < m) (b : Nat.ble k n = true) : a + k < m := Nat.lt_of_le_of_lt (Nat.add_le_add_left (Nat.le_of_ble_eq_true b) a) d
theorem rmS {a i k m : Nat} (h : a + (i + k) < m) : a + i + k < m := (Nat.add_assoc a i k).symm ▸ h
theorem rmN {a m : Nat} (b : Nat.blt a m = true) : a < m := Nat.le_of_ble_eq_true b
end Mine

theorem Mine.fill0 : (PySem.Challenge.rw_pc0370_01 = PySem.Challenge.rw_pc0370_01) ∧ (Mine.hd.heap_1 = Mine.hd.heap_1) := by
  k_fill
  exact ⟨rfl, rfl⟩
theorem Mine.rules_j1 : True := by
  w_top off
  k_with_none
  k_with "k_ne" => (first | exact Mine.nq (by with_reducible assumption) | exact Mine.nqs (by with_reducible assumption))
  k_with "call builtin:list.pop" => ((k_here; (with_reducible show wpAny _ _ (call (Value.builtin _) [Value.ref _, Value.int _ _]) _ _ _); k_dflt (refine' Mine.pop0 ?z2F ?z2N ?z2U ?z2z ?_; (case z2F => k_asm); (case z2N => k_asm); (case z2U => k_upd); (case z2z => first | assumption | omega)); intro h' F' N'; (try dsimp only [List.nil_append, List.cons_append] at N')))
  k_with "tb_start" => (first | assumption | (refine List.Mem.tail _ ?_; tb_start))
  k_with "ktr_rel" => (first
      | with_reducible assumption
      | (refine' Mine.ncons ?z4N ?z4m ?z4r; (case z4N => k_asm); (case z4m => k_mem); (case z4r => ktr_rel))
      | (refine' Mine.nrest ?z4N ?z4m; (case z4N => k_asm); (case z4m => (intro p hp; tb_start))))
  k_with "ktr_room" => (first | exact Mine.rm1 (by assumption) rfl | exact Mine.rm0 (by assumption) | exact Mine.rmS (Mine.rm1 (by assumption) rfl) | exact Mine.rmS (Mine.rmS (Mine.rm1 (by assumption) rfl)) | exact Mine.rmN rfl | ((try simp only [depth_under_make, depth_under_kw, depth_in1, depth_deeper, depth_caller]); (try dsimp only [ktrTop]); omega))
  k_with "k_room" => (ktr_room)
  k_with "units_room" => (first | exact Mine.rm1 (by assumption) rfl | exact Mine.rm0 (by assumption) | exact Mine.rmS (Mine.rm1 (by assumption) rfl) | exact Mine.rmS (Mine.rmS (Mine.rm1 (by assumption) rfl)) | exact Mine.rmS (Mine.rmS (Mine.rmS (Mine.rm1 (by assumption) rfl))) | exact Mine.rmN rfl | ((try simp only [units_under_make, units_in1, units_deeper, Around.mark_units, units_caller]); (try dsimp only [ktrTop]); omega))
  k_with "k_units" => (units_room)
  k_with "k_enter" => (ktr_enter)
  k_with "k_all" => (first | exact Mine.ne_sub (by assumption) (by intro p hp; tb_start) | exact Mine.ne_sub2 (by assumption) (by intro p hp; tb_start))
  trivial

namespace Mine
theorem take_c {w : World} {A₀ : Around} {base : Heap} {outer : List Env} {h₀ : Heap} {mean : ExcName → Option Value} {mg mb : Str → Option Value} {cs : Scope} {dp un : Nat} {gd : Option (List Code)} {cn : Str} {L a : Addr} {ccd : Value} {cl : List (Str × Addr)} {s : Shared} {m : Str → Option Value} {rest : List (Addr × Obj)} {Q E : Value → Shared → Prop}
  {aS aR : Addr} {big mixed top : Int} {t1 t2 t3 : Tok} {vs : List Value} {ns : List Int} {n1 n2 : Nat}
  (B : Below A₀ base outer h₀) (F : Fr h₀ L s.heap m) (X : (hd.heap_1 w.params).In h₀) (T : Top qv Lo mean mg mb h₀) (k : cs.kind = .function) (d : dp + 40 < recursionLimit) (u : un + 600 < cLine)
  (N : News h₀ L s.heap ((aS, listOf #[.int big t1, .int mixed t2, .ref aR] n1) :: (aR, listOf vs.toArray n2) :: rest)) (iv : IntsAre vs ns) (ne : Nq aS aR) (off : OwnOff rest [aS, aR]) (h1 : 2 ≤ top) (h2 : top ≤ 9) (hb : 0 ≤ big) (hm : 0 ≤ mixed) (hm2 : mixed < 2147483647) (hl : vs.length ≤ 24)
  (ret : ∀ h' tk' v tv big' mixed' t1 t2 vs' n1 n2, 0 ≤ v → v < top → 0 ≤ big' → 0 ≤ mixed' → mixed' < 2147483647 → vs'.length ≤ 24 → (∃ ns', IntsAre vs' ns') → Fr h₀ L h' m → News h₀ L h' ((aS, listOf #[.int big' t1, .int mixed' t2, .ref aR] n1) :: (aR, listOf vs'.toArray n2) :: rest) → Q (.int v tv) { s with heap := h', toks := tk' }) :
  wpAny (model Pg w) (ktrTop dp un gd cn cs L a ccd cl outer) (call (.ref 244) [.ref aS, .int top t3]) Q E s := by
  refine wpAny_call ?_
  cases iv
  · k_dflt ktr_enter
    k_steps
    all_goals (refine ret _ _ _ _ _ _ _ _ _ _ _ (fm0 (by omega)) (fm1 (by omega)) ?_ ?_ ?_ (Nat.zero_le _) ⟨_, IntsAre.nil⟩ (by assumption) (by ktr_rel))
    all_goals first | assumption | exact fm0 (by decide) | exact fm1 (by decide) | exact fd0 hb (by omega)
  · simp only [List.length_cons] at hl
    k_dflt ktr_enter
    k_steps
    all_goals (refine ret _ _ _ _ _ _ _ _ _ _ _ (fm0 (by omega)) (fm1 (by omega)) ?_ ?_ ?_ ?_ ?_ (by assumption) (by ktr_rel))
    all_goals first | assumption | exact fm0 (by decide) | exact fm1 (by decide) | exact fd0 hb (by omega) | exact ⟨_, IntsAre.cons _ _ (by assumption)⟩ | exact ⟨_, by assumption⟩ | (simp only [List.length_cons]; omega) | omega
end Mine

namespace Mine
open PySem.Spec PySem.Calls PyProof.Rows.LCg
section
variable {prog : Program} {w : World} {K : Type} [DecidableEq K] {A : Around} {E : Value → Shared → Prop} {s : Shared} {h₀ : Heap} {L : Addr} {m : Str → Option Value} {env : Env}
def DEnd (knd : KeyKind prog w K) (h₀ : Heap) (L : Addr) (m : Str → Option Value) (s₁ : Shared) (I : Addr) (oI : Obj) (C : Addr) (oC : Obj) (D : Addr) (oD : Obj) (S : List (Addr × Obj) → Prop) (rest : K → Value → List (Addr × Obj) → Prop) (key y : Value) (s₂ : Shared) : Prop :=
  ∃ h' tk news' k, s₂ = { s₁ with heap := h', toks := tk } ∧ Fr h₀ L h' m ∧ News h₀ L h' ((I, oI) :: (C, oC) :: (D, oD) :: news') ∧ Off3 I C D news' ∧ S news' ∧ knd.is k key = true ∧ rest k y news'
def DRest (knd : KeyKind prog w K) (A : Around) (h₀ : Heap) (L : Addr) (m : Str → Option Value) (env : Env) (kx vx : Expr) (x : Str) (scope : Scope) (cl : List (Str × Addr)) (s : Shared) (S : List (Addr × Obj) → Prop) (P : Nat → Value → Prop)
    (Fin : List (K × Value) → List (Addr × Obj) → Prop) : Nat → Nat → List (K × Value) → List (Addr × Obj) → Prop
  | 0, _, kvs, news => Fin kvs news
  | j + 1, i, kvs, news => kvs.length ≤ sizeLine ∧ ∀ v I oI C oC D oD m₂ h tk (E' : Value → Shared → Prop), P i v → NsObj oC m₂ → m₂ x = some v → oD.IsDictOf knd kvs → Fr h₀ L h m → News h₀ L h ((I, oI) :: (C, oC) :: (D, oD) :: news) → Off3 I C D news →
      ((@Ne Nat I C) ∧ (@Ne Nat I D) ∧ (@Ne Nat C D)) →
      wpAny (model prog w) A (eval kx (compEnvC scope cl C env)) (fun key s₄ => wpAny (model prog w) A (eval vx (compEnvC scope cl C env))
        (fun y s₅ => DEnd knd h₀ L m { s with heap := h, toks := tk } I oI C oC D oD S (fun k y news' => DRest knd A h₀ L m env kx vx x scope cl s S P Fin j (i + 1) (stored kvs k y) news') key y s₅) E' s₄) E' { s with heap := h, toks := tk }

theorem block_D (knd : KeyKind prog w K) {kx vx iter : Expr} {x : Str} {px : Pos} {scope : Scope} {cl : List (Str × Addr)} {pos : Pos} {s₂ : Shared} {I : Addr} {fp : List Addr} {n : Nat} {P : Nat → Value → Prop} {St : Nat → Heap → Prop} {S : List (Addr × Obj) → Prop} {news : List (Addr × Obj)}
    {Fin : List (K × Value) → List (Addr × Obj) → Prop} {RR : Value → Addr → Result → Shared → Prop}
    (W : Walks prog w A I fp [I] n P St) (hIo : ∀ i h, St i h → ∃ o, h.get? I = some o)
    (hSt : ∀ i h h' o nw, St i h → h.get? I = some o → h'.get? I = some o → (∀ b o, h₀.get? b = some o → h'.get? b = some o) → News h₀ L h' nw → S nw → St i h')
    (hcell : ∀ y ∈ scope.names, y.2 ≠ .cell) (hkind : scope.kind = .function) (hx : scope.names.lookup x = some .local) (hst : St 0 s₂.heap) (hfp : ∀ b ∈ fp, b < s₂.heap.objs.size)
    (F : Fr h₀ L s₂.heap m) (N : News h₀ L s₂.heap news) (hIL : L ≠ I) (hI₀ : h₀.get? I = none) (off : ∀ p ∈ news, p.1 ≠ I) (hS : S news)
    (R : DRest knd A h₀ L m env kx vx x scope cl s₂ S P Fin n 0 [] news)
    (hRR : ∀ D oD C h tk m' kvs news', oD.IsDictOf knd kvs → Fr h₀ L h m → News h₀ L h ((D, oD) :: news') → Off1 D news' → h.Ns C m' → h₀.get? C = none → h₀.get? D = none → C ≠ L → D ≠ L → C ≠ D → (∀ p ∈ news', p.1 ≠ C) → Fin kvs news' → RR (.ref D) C (.ok .next) { s₂ with heap := h, toks := tk }) :
    wpAny (model prog w) A newDict (fun acc s₃ => wpAny (model prog w) A (newFunctionEnv scope env.globals cl [] env.qual none .none (some env)) (fun cenv s₄ =>
      codeAny (model prog w) A (.compStart (.DictComp kx vx [⟨.Name x px, iter, [], 0⟩] scope pos) 0 (.ref I) acc { cenv with scope := relabel scope env }) (RR acc cenv.locals) s₄) E s₃) E s₂ := by
  refine wpAny_newObj_type (wpAny_newFunctionEnv hcell (by intro y hy; simp at hy) (fun h₁ hns₁ hsb₁ => ?_) hkind)
  dsimp only at hns₁ hsb₁ ⊢
  have hnew : (s₂.heap.push { cls := .type "dict", dict := none, data := .dict #[] }).DictOf knd s₂.heap.objs.size [] := Heap.DictOf.new s₂.heap
  generalize hH2 : s₂.heap.push { cls := .type "dict", dict := none, data := .dict #[] } = H2 at hns₁ hsb₁ hnew ⊢
  have hC : H2.objs.size = s₂.heap.objs.size + 1 := by rw [← hH2, Heap.size_push]
  have hDC : s₂.heap.objs.size ≠ H2.objs.size := by rw [hC]; exact Nat.ne_of_lt (Nat.lt_succ_self _)
  have below : ∀ b, b < s₂.heap.objs.size → b ≠ H2.objs.size ∧ b ≠ s₂.heap.objs.size := fun b hb => ⟨by rw [hC]; exact Nat.ne_of_lt (Nat.lt_succ_of_lt hb), Nat.ne_of_lt hb⟩
  have hDf : s₂.heap.objs.size ∉ fp := fun hm => Nat.lt_irrefl _ (hfp _ hm)
  have hCf : H2.objs.size ∉ fp := fun hm => by have := hfp _ hm; rw [hC] at this; exact Nat.lt_irrefl _ (Nat.lt_of_succ_lt this)
  have hIf : I ∈ fp := W.sub I (List.mem_singleton.mpr rfl)
  have hIlt : I < s₂.heap.objs.size := hfp I hIf
  have old : ∀ b o, s₂.heap.get? b = some o → h₁.get? b = some o := fun b o e => hsb₁.extBut b o (below b (Heap.lt_size e)).1 (Heap.get?_push_of_some _ (hH2 ▸ Heap.get?_push_of_some _ e))
  have hacc : h₁.DictOf knd s₂.heap.objs.size [] := hnew.at fun o e => hsb₁.extBut _ _ hDC (Heap.get?_push_of_some _ e)
  obtain ⟨oD₀, heD₀, hoD₀⟩ := Heap.dictOf_iff.mp hacc
  have hst₁ : St 0 h₁ := W.frame _ _ _ hst fun b _ o e => old b o e
  have fresh : ∀ a, s₂.heap.objs.size ≤ a → s₂.heap.get? a = none := fun a ha => by
    cases e : s₂.heap.get? a with
    | none => rfl
    | some o' => exact absurd (Heap.lt_size e) (Nat.not_lt.mpr ha)
  have fresh₀ : ∀ a, s₂.heap.objs.size ≤ a → h₀.get? a = none := fun a ha => by
    cases e : h₀.get? a with
    | none => rfl
    | some o' => have := F.keep a o' e; rw [fresh a ha] at this; cases this
  have hD₀ : h₀.get? s₂.heap.objs.size = none := fresh₀ _ (Nat.le_refl _)
  have hC₀ : h₀.get? H2.objs.size = none := fresh₀ _ (by rw [hC]; exact Nat.le_succ _)
  have hLlt : L < s₂.heap.objs.size := F.ns.lt
  have hDL : s₂.heap.objs.size ≠ L := Ne.symm (below L hLlt).2
  have hCL : H2.objs.size ≠ L := Ne.symm (below L hLlt).1
  have hCI : I ≠ H2.objs.size := (below I hIlt).1
  have hDI : I ≠ s₂.heap.objs.size := (below I hIlt).2
  have off₀ : Off3 I H2.objs.size s₂.heap.objs.size news := Off3.of fun p hp => ⟨off p hp, (below _ (Heap.lt_size (N p hp).1)).1, (below _ (Heap.lt_size (N p hp).1)).2⟩
  have loop : ∀ s₃ : Shared, s₃ = { s₂ with heap := h₁, toks := s₂.toks + ([] : List (Str × Value)).length } →
      codeAny (model prog w) A (.compLoop (.DictComp kx vx [⟨.Name x px, iter, [], 0⟩] scope pos) 0 (.ref I) (.ref s₂.heap.objs.size) (compEnvC scope cl H2.objs.size env))
        (RR (.ref s₂.heap.objs.size) H2.objs.size) s₃ := by
    rintro s₃ rfl
    refine codeAny_compLoop_testsD
      (fun k s' => ∃ h' tk i kvs oD m' news', s' = { s₂ with heap := h', toks := tk } ∧ i ≤ n ∧ k = n + 1 - i ∧ oD.IsDictOf knd kvs ∧ St i h' ∧ Fr h₀ L h' m ∧ h'.Ns H2.objs.size m' ∧ News h₀ L h' ((s₂.heap.objs.size, oD) :: news') ∧
        Off3 I H2.objs.size s₂.heap.objs.size news' ∧ S news' ∧ DRest knd A h₀ L m env kx vx x scope cl s₂ S P Fin (n - i) i kvs news') ?_ (n + 1)
      ⟨h₁, _, 0, [], oD₀, _, news, rfl, Nat.zero_le _, rfl, hoD₀, hst₁, F.keeps old, hns₁, fun p hp => ?_, off₀, hS, R⟩
    · rintro k s' ⟨h', tk, i, kvs, oD, m', news', rfl, hi, rfl, hoD, hst', F', hn', N', off', hS', R'⟩
      by_cases hlt : i < n
      · obtain ⟨j, hj⟩ : ∃ j, n - i = j + 1 := ⟨n - i - 1, by omega⟩
        rw [hj] at R'
        obtain ⟨hsz, R'⟩ := R'
        refine W.item i _ _ _ hlt hst' fun v h₂ tk₂ hPv hst₂ hk₂ => ?_
        refine wpAny_assign_Name (wpAny_storeName_local (lookup_relabel_local hx) (hn'.at' fun o e => hk₂ _ o (by simpa using Ne.symm hCI) e) (fun h₃ hn₃ hs₃ => ?_) (by simp [compEnvC, relabel, hkind]))
        refine wpAny_tests_nil ?_
        simp only [if_true]
        have hst₃ : St (i + 1) h₃ := W.frame _ _ _ hst₂ fun b hb o e => hs₃.extBut b o (fun q => hCf (by have q' : b = H2.objs.size := q; rw [← q']; exact hb)) e
        obtain ⟨oI, heI⟩ := hIo _ _ hst₃
        obtain ⟨oC, heC, hoC⟩ := ns_obj hn₃
        have F₃ : Fr h₀ L h₃ m := (fr_but F' hk₂ hIL hI₀).change hs₃ hCL hC₀
        have off3 := off'.mem
        have N₂ : News h₀ L h₂ ((s₂.heap.objs.size, oD) :: news') := news_but N' hk₂ fun p hp => by
          rcases List.mem_cons.mp hp with rfl | hp
          · exact Ne.symm hDI
          · exact (off3 p hp).1
        have N₃ : News h₀ L h₃ ((I, oI) :: (H2.objs.size, oC) :: (s₂.heap.objs.size, oD) :: news') := fun p hp => by
          rcases List.mem_cons.mp hp with rfl | hp
          · exact ⟨heI, Ne.symm hIL, hI₀⟩
          · rcases List.mem_cons.mp hp with rfl | hp
            · exact ⟨heC, hCL, hC₀⟩
            · have z := N₂ p hp
              refine ⟨hs₃.extBut _ _ ?_ z.1, z.2⟩
              rcases List.mem_cons.mp hp with rfl | hp
              · exact hDC
              · exact (off3 p hp).2.1
        refine wpAny_mono (R' v I oI H2.objs.size oC s₂.heap.objs.size oD _ h₃ _ _ hPv hoC (by simp) hoD F₃ N₃ off' ⟨hCI, hDI, Ne.symm hDC⟩) (fun key s₄ h₄ => wpAny_mono h₄ (fun y s₅ h₅ => ?_) fun _ _ e => e) fun _ _ e => e
        obtain ⟨h₄, tk₄, news₄, kk, rfl, F₄, N₄, off₄, hS₄, hkey, R₄⟩ := h₅
        have zI := (N₄ (I, oI) List.mem_cons_self).1
        have zC := (N₄ (H2.objs.size, oC) (List.mem_cons_of_mem _ List.mem_cons_self)).1
        have zD := (N₄ (s₂.heap.objs.size, oD) (List.mem_cons_of_mem _ (List.mem_cons_of_mem _ List.mem_cons_self))).1
        have N₄' : News h₀ L h₄ news₄ := fun p hp => N₄ p (List.mem_cons_of_mem _ (List.mem_cons_of_mem _ (List.mem_cons_of_mem _ hp)))
        have hst₄ : St (i + 1) h₄ := hSt _ _ _ _ _ hst₃ heI zI F₄.keep N₄' hS₄
        refine wpAny_dictSet_pairs (hsz := hsz) hkey (Heap.dictOf_iff.mpr ⟨oD, zD, hoD⟩) fun h₅ hD₅ hs₅ => ?_
        obtain ⟨oD', heD', hoD'⟩ := Heap.dictOf_iff.mp hD₅
        have off4 := off₄.mem
        refine ⟨n + 1 - (i + 1), by omega, h₅, _, i + 1, stored kvs kk y, oD', _, news₄, rfl, hlt, rfl, hoD', W.frame _ _ _ hst₄ fun b hb o e => hs₅.extBut b o (fun q => hDf (q ▸ hb)) e, F₄.change hs₅ hDL hD₀,
          (hoC.ns zC).sameBut hs₅ (Ne.symm hDC), fun p hp => ?_, off₄, hS₄, ?_⟩
        · rcases List.mem_cons.mp hp with rfl | hp
          · exact ⟨heD', hDL, hD₀⟩
          · exact ⟨hs₅.extBut _ _ (off4 p hp).2.2 (N₄' p hp).1, (N₄' p hp).2⟩
        · rw [show n - (i + 1) = j by omega]
          exact R₄
      · obtain rfl : i = n := Nat.le_antisymm hi (Nat.not_lt.mp hlt)
        rw [Nat.sub_self] at R'
        refine W.done _ _ _ hst' fun h₂ tk₂ hk₂ => ?_
        have off3 := off'.mem
        exact hRR _ oD _ h₂ tk₂ _ kvs news' hoD (fr_but F' hk₂ hIL hI₀) (news_but N' hk₂ fun p hp => by
          rcases List.mem_cons.mp hp with rfl | hp
          · exact Ne.symm hDI
          · exact (off3 p hp).1) off'.one (hn'.at' fun o e => hk₂ _ o (by simpa using Ne.symm hCI) e) hC₀ hD₀ hCL hDL (Ne.symm hDC) (fun p hp => (off3 p hp).2.1) R'
    · rcases List.mem_cons.mp hp with rfl | hp
      · exact ⟨heD₀, hDL, hD₀⟩
      · exact ⟨old _ _ (N p hp).1, (N p hp).2⟩
  exact codeAny_compStart_dict (loop _ rfl) (W.self 0 _ _ _ hst₁ (loop _ rfl))

def DFinE (knd : KeyKind prog w K) (h₀ : Heap) (L : Addr) (m : Str → Option Value) (s : Shared) (Q : Value → Shared → Prop) (kvs : List (K × Value)) (news : List (Addr × Obj)) : Prop :=
  ∀ D oD h tk, oD.IsDictOf knd kvs → Fr h₀ L h m → News h₀ L h ((D, oD) :: news) → Off1 D news → Q (.ref D) { s with heap := h, toks := tk }
def DFinA (knd : KeyKind prog w K) (h₀ : Heap) (L : Addr) (m : Str → Option Value) (s : Shared) (y : Str) (Q : Flow → Shared → Prop) (kvs : List (K × Value)) (news : List (Addr × Obj)) : Prop :=
  ∀ D oD h tk, oD.IsDictOf knd kvs → Fr h₀ L h (fun z => if z = y then some (.ref D) else m z) → News h₀ L h ((D, oD) :: news) → Off1 D news → Q .next { s with heap := h, toks := tk }

/-- a dict comprehension over a tuple of the ground -/
theorem DictComp_T (knd : KeyKind prog w K) {kx vx iter : Expr} {x : Str} {px : Pos} {scope : Scope} {cl : List (Str × Addr)} {pos : Pos} {Q : Value → Shared → Prop} (_F₀ : Fr h₀ L s.heap m) (hh : A.handled = none)
    (hclos : closureFor scope env = pure cl) (hcell : ∀ y ∈ scope.names, y.2 ≠ .cell) (hkind : scope.kind = .function)
    (hnames : ∀ y ∈ scope.names, y.2 = .local → scope.names.lookup y.1 = some .local) (hx : scope.names.lookup x = some .local)
    (h : wpAny (model prog w) A (eval iter env) (fun xv s₁ => ∃ ax its news, xv = .ref ax ∧ Fr h₀ L s₁.heap m ∧ News h₀ L s₁.heap news ∧ h₀.IsTuple ax its ∧
      ∀ g : Heap, DRest knd A h₀ L m env kx vx x scope cl { s₁ with heap := g } (fun _ => True) (fun i v => its[i]? = some v) (DFinE knd h₀ L m { s₁ with heap := g } Q) its.size 0 [] news) E s)
    (hs : ∀ x, foldedSetIterable iter env x = pure x) :
    wpAny (model prog w) A (eval (.DictComp kx vx [⟨.Name x px, iter, [], 0⟩] scope pos) env) Q E s := by
  rw [arm_eval_DictComp]
  refine wpAny_comprehension_free (use := none) rfl hs hclos hkind hnames (wpAny_mono h (fun xv s₁ h₁ => ?_) fun _ _ e => e)
  obtain ⟨ax, its, news, rfl, F, N, ht, R⟩ := h₁
  have hl : s₁.heap.IsTuple ax its := let ⟨o, e, r⟩ := ht; ⟨o, F.keep _ _ e, r⟩
  have hlt : ax < s₁.heap.objs.size := by obtain ⟨_, e, _⟩ := hl; exact Heap.lt_size e
  refine wpAny_pyIter_tuple hl ?_
  have up : ∀ b o, s₁.heap.get? b = some o → (s₁.heap.push { cls := .type "tuple_iterator", data := .fields #[.ref ax, .int 0 0] }).get? b = some o := fun b o e => Heap.get?_push_of_some _ e
  refine block_D knd (Walks.tuple hh s₁.heap.objs.size ax (Nat.ne_of_lt hlt) its) (fun i h st => by obtain ⟨o, e, _⟩ := st.1; exact ⟨o, e⟩)
    (fun i h h' o nw st e e' k _ _ => ⟨by obtain ⟨o', q, r⟩ := st.1; rw [e] at q; cases q; exact ⟨o, e', r⟩, let ⟨o2, e2, r⟩ := ht; ⟨o2, k _ _ e2, r⟩⟩)
    hcell hkind hx ⟨⟨_, Heap.get?_push_size _ rfl, rfl, rfl⟩, let ⟨o2, e2, r⟩ := hl; ⟨o2, up _ _ e2, r⟩⟩ (fun b hb => ?_)
    (F.keeps up) (N.grown up) (Nat.ne_of_lt F.ns.lt) (next_is_new F) (fun p hp => Nat.ne_of_lt (Heap.lt_size (N p hp).1)) trivial (R _) ?_
  · show b < (s₁.heap.push _).objs.size
    rw [Heap.size_push]
    rcases List.mem_cons.mp hb with rfl | hb
    · exact Nat.lt_succ_self _
    · rw [List.mem_singleton.mp hb]; exact Nat.lt_succ_of_lt hlt
  · intro D oD C h tk m' kvs news' hoD F' N' o1 hn hC₀ hD₀ hCL hDL hCD offC fin
    refine ⟨m', hn, fun h'' hs'' => fin D oD h'' tk hoD (F'.change hs'' hCL hC₀) (fun p hp => ?_) o1⟩
    refine ⟨hs''.extBut _ _ ?_ (N' p hp).1, (N' p hp).2⟩
    rcases List.mem_cons.mp hp with rfl | hp
    · exact Ne.symm hCD
    · exact offC p hp

/-- a name is given a dict comprehension over a list of the ledger -/
theorem Assign_DictComp_L (knd : KeyKind prog w K) {kx vx iter : Expr} {x y : Str} {px py : Pos} {scope : Scope} {cl : List (Str × Addr)} {pos spos : Pos} {Q : Flow → Shared → Prop} (_F₀ : Fr h₀ L s.heap m) (hh : A.handled = none) (hLe : env.locals = L)
    (hsw : swapsWith (.DictComp kx vx [⟨.Name x px, iter, [], 0⟩] scope pos) (some (.Name y py)) spos.line env = pure true)
    (hclos : closureFor scope env = pure cl) (hcell : ∀ z ∈ scope.names, z.2 ≠ .cell) (hkind : scope.kind = .function)
    (hnames : ∀ z ∈ scope.names, z.2 = .local → scope.names.lookup z.1 = some .local) (hx : scope.names.lookup x = some .local)
    (hy : env.kindOf y = some .local) (hp : (env.scope.kind == .class || (env.scope.kind == .module && env.locals != env.globals)) = false)
    (h : wpAny (model prog w) A (eval iter env) (fun xv s₁ => ∃ ax its news, xv = .ref ax ∧ Fr h₀ L s₁.heap m ∧ News h₀ L s₁.heap news ∧ SrcAt h₀ ax its news ∧
      ∀ g : Heap, DRest knd A h₀ L m env kx vx x scope cl { s₁ with heap := g } (SrcAt h₀ ax its) (fun i v => its[i]? = some v) (DFinA knd h₀ L m { s₁ with heap := g } y Q) its.size 0 [] news) E s)
    (hs : ∀ x, foldedSetIterable iter env x = pure x) :
    wpAny (model prog w) A (exec (.Assign [.Name y py] (.DictComp kx vx [⟨.Name x px, iter, [], 0⟩] scope pos) spos) env) Q E s := by
  subst hLe
  rw [exec_Assign_Name_used _ _ _ _ hsw]
  refine wpAny_bind (wpAny_standAt (wpAny_bind ?_))
  show wpAny _ A (do let _ ← comprehension (.DictComp kx vx [⟨.Name x px, iter, [], 0⟩] scope pos) scope env _ newDict false (eval iter env) (some (assign (.Name y py) env))) _ _ s
  refine wpAny_bind (wpAny_mono (wpAny_comprehension_free (use := some (assign (.Name y py) env)) (Q := fun _ s' => Q .next s') rfl hs hclos hkind hnames
    (wpAny_mono h (fun xv s₁ h₁ => ?_) fun _ _ e => e)) (fun _ s' hq => wpAny_pure (wpAny_pure hq)) fun _ _ e => e)
  obtain ⟨ax, its, news, rfl, F, N, S, R⟩ := h₁
  have hl := S.list F.keep N
  have hlt : ax < s₁.heap.objs.size := by obtain ⟨_, e, _⟩ := hl; exact Heap.lt_size e
  refine wpAny_pyIter_list hl ?_
  have up : ∀ b o, s₁.heap.get? b = some o → (s₁.heap.push { cls := .type "list_iterator", data := .fields #[.ref ax, .int 0 0] }).get? b = some o := fun b o e => Heap.get?_push_of_some _ e
  refine block_D knd (Walks.list hh s₁.heap.objs.size ax (Nat.ne_of_lt hlt) its) (fun i h st => by obtain ⟨o, e, _⟩ := st.1; exact ⟨o, e⟩) list_st
    hcell hkind hx ⟨⟨_, Heap.get?_push_size _ rfl, rfl, rfl⟩, hl.push _⟩ (fun b hb => ?_)
    (F.keeps up) (N.grown up) (Nat.ne_of_lt F.ns.lt) (next_is_new F) (fun p hp => Nat.ne_of_lt (Heap.lt_size (N p hp).1)) S (R _) ?_
  · show b < (s₁.heap.push _).objs.size
    rw [Heap.size_push]
    rcases List.mem_cons.mp hb with rfl | hb
    · exact Nat.lt_succ_self _
    · rw [List.mem_singleton.mp hb]; exact Nat.lt_succ_of_lt hlt
  · intro D oD C h' tk m' kvs news' hoD F' N' o1 hn hC₀ hD₀ hCL hDL hCD offC fin
    show wpAny _ A (assign (.Name y py) env (.ref D)) _ _ _
    refine wpAny_assign_Name (wpAny_storeName_local hy F'.ns (fun h₂ hn₂ hs₂ => ?_) hp)
    have hL₀ : h₀.get? env.locals = none := Heap.get?_none_of_le F'.above
    have F₂ : Fr h₀ env.locals h₂ (fun z => if z = y then some (.ref D) else m z) := ⟨hn₂, fun b o e => hs₂.extBut b o (fun q => by rw [q, hL₀] at e; cases e) (F'.keep b o e), F'.above⟩
    refine ⟨m', hn.sameBut hs₂ hCL, fun h'' hs'' => fin D oD h'' _ hoD (F₂.change hs'' hCL hC₀) (fun p hp => ?_) o1⟩
    have z : h₂.get? p.1 = some p.2 := hs₂.extBut _ _ (N' p hp).2.1 (N' p hp).1
    refine ⟨hs''.extBut _ _ ?_ z, (N' p hp).2⟩
    rcases List.mem_cons.mp hp with rfl | hp
    · exact Ne.symm hCD
    · exact offC p hp
theorem DEnd.intro {knd : KeyKind prog w K} {I C D : Addr} {s₁ : Shared} {oI oC oD : Obj} {S : List (Addr × Obj) → Prop} {rest : K → Value → List (Addr × Obj) → Prop} {key y : Value} {h' : Heap} {tk : Nat} {all : List (Addr × Obj)} {k : K}
    (F : Fr h₀ L h' m) (N : News h₀ L h' all) (news' : List (Addr × Obj)) (hk : knd.is k key = true) (sub : ∀ p ∈ (I, oI) :: (C, oC) :: (D, oD) :: news', p ∈ all) (off : Off3 I C D news') (hS : S news') (r : rest k y news') :
    DEnd knd h₀ L m s₁ I oI C oC D oD S rest key y { s₁ with heap := h', toks := tk } := ⟨h', tk, news', k, rfl, F, fun p hp => N p (sub p hp), off, hS, hk, r⟩
theorem DRest.zero {knd : KeyKind prog w K} {kx vx : Expr} {x : Str} {scope : Scope} {cl : List (Str × Addr)} {S : List (Addr × Obj) → Prop} {P : Nat → Value → Prop} {Fin : List (K × Value) → List (Addr × Obj) → Prop} {i : Nat} {kvs : List (K × Value)} {news : List (Addr × Obj)} (h : Fin kvs news) :
    DRest knd A h₀ L m env kx vx x scope cl s S P Fin 0 i kvs news := h
theorem DRest.succ {knd : KeyKind prog w K} {kx vx : Expr} {x : Str} {scope : Scope} {cl : List (Str × Addr)} {S : List (Addr × Obj) → Prop} {P : Nat → Value → Prop} {Fin : List (K × Value) → List (Addr × Obj) → Prop} {j i : Nat} {kvs : List (K × Value)} {news : List (Addr × Obj)}
    (hz : kvs.length ≤ sizeLine) (h : ∀ v I oI C oC D oD m₂ h tk (E' : Value → Shared → Prop), P i v → NsObj oC m₂ → m₂ x = some v → oD.IsDictOf knd kvs → Fr h₀ L h m → News h₀ L h ((I, oI) :: (C, oC) :: (D, oD) :: news) → Off3 I C D news →
      ((@Ne Nat I C) ∧ (@Ne Nat I D) ∧ (@Ne Nat C D)) →
      wpAny (model prog w) A (eval kx (compEnvC scope cl C env)) (fun key s₄ => wpAny (model prog w) A (eval vx (compEnvC scope cl C env))
        (fun y s₅ => DEnd knd h₀ L m { s with heap := h, toks := tk } I oI C oC D oD S (fun k y news' => DRest knd A h₀ L m env kx vx x scope cl s S P Fin j (i + 1) (stored kvs k y) news') key y s₅) E' s₄) E' { s with heap := h, toks := tk }) :
    DRest knd A h₀ L m env kx vx x scope cl s S P Fin (j + 1) i kvs news := ⟨hz, h⟩
theorem tup_of_K {KF : Frag} {h : Heap} {a : Addr} {d : Option Addr} {its : Array Value} {n : Nat} {sl : Array (Option Value)} (X : KF.In h) (e : KF.lookup a = some ⟨.type "tuple", d, .seq its n, sl⟩) : h.IsTuple a its := ⟨_, X _ _ e, rfl, _, rfl⟩
end
end Mine

namespace Mine
/-- the place of an object in the ledger, and the ledger with another object there -/
inductive Pos (d : Addr) (o o' : Obj) : List (Addr × Obj) → List (Addr × Obj) → Prop
  | head {r} : Pos d o o' ((d, o) :: r) ((d, o') :: r)
  | tail {p r r'} : Pos d o o' r r' → Pos d o o' (p :: r) (p :: r')
inductive PosF (d : Addr) (o : Obj) : List (Addr × Obj) → (Obj → List (Addr × Obj)) → Prop
  | head {r} : PosF d o ((d, o) :: r) (fun o' => (d, o') :: r)
  | tail {p r g} : PosF d o r g → PosF d o (p :: r) (fun o' => p :: g o')
abbrev Nd (l : List (Addr × Obj)) : Prop := (l.map (·.1)).Nodup
theorem Pos.mem {d : Addr} {o o' : Obj} : ∀ {l l' : List (Addr × Obj)}, Pos d o o' l l' → d ∈ l.map (·.1)
  | _, _, .head => List.mem_cons_self
  | _, _, .tail h => List.mem_cons_of_mem _ h.mem
theorem PosF.mem {d : Addr} {o : Obj} : ∀ {l : List (Addr × Obj)} {g}, PosF d o l g → d ∈ l.map (·.1)
  | _, _, .head => List.mem_cons_self
  | _, _, .tail h => List.mem_cons_of_mem _ h.mem
theorem nd_off {d : Addr} {l : List (Addr × Obj)} (h : d ∉ l.map (·.1)) : ∀ p ∈ l, p.1 ≠ d := fun _ hp e => h (e ▸ List.mem_map_of_mem hp)
theorem pos_upd {d : Addr} {o o' : Obj} : ∀ {l l' : List (Addr × Obj)}, (l.map (·.1)).Nodup → Pos d o o' l l' → Upd d o o' l l'
  | _, _, nd, .head => .head (nd_off (List.nodup_cons.mp nd).1)
  | _, _, nd, .tail h => .tail (fun e => (List.nodup_cons.mp nd).1 (by have q := h.mem; rw [← e] at q; exact q)) (pos_upd (List.nodup_cons.mp nd).2 h)
theorem posF_upd {d : Addr} {o : Obj} : ∀ {l : List (Addr × Obj)} {g}, (l.map (·.1)).Nodup → PosF d o l g → UpdF d o l g
  | _, _, nd, .head => .head (nd_off (List.nodup_cons.mp nd).1)
  | _, _, nd, .tail h => .tail (fun e => (List.nodup_cons.mp nd).1 (by have q := h.mem; rw [← e] at q; exact q)) (posF_upd (List.nodup_cons.mp nd).2 h)
theorem upd_nd {d : Addr} {o o' : Obj} {l l' : List (Addr × Obj)} {as : List Addr} (nd : as.Nodup) (e : l.map (·.1) = as) (h : Pos d o o' l l') : Upd d o o' l l' := pos_upd (e ▸ nd) h
theorem updF_nd {d : Addr} {o : Obj} {l : List (Addr × Obj)} {g} {as : List Addr} (nd : as.Nodup) (e : l.map (·.1) = as) (h : PosF d o l g) : UpdF d o l g := posF_upd (e ▸ nd) h
theorem nd_of {l : List (Addr × Obj)} {as : List Addr} (nd : as.Nodup) (e : l.map (·.1) = as) : Nd l := by unfold Nd; rw [e]; exact nd
theorem nd_new {l l' : List (Addr × Obj)} {d : Addr} {o : Obj} (h : ∀ p ∈ l', @LT.lt Nat _ p.1 d) (e : l'.map (·.1) = l.map (·.1)) (nd : Nd l) : Nd ((d, o) :: l) := by
  refine List.nodup_cons.mpr ⟨fun hm => ?_, nd⟩
  have hm' : d ∈ l.map (·.1) := hm
  rw [← e] at hm'
  obtain ⟨p, hp, q⟩ := List.mem_map.mp hm'
  exact Nat.lt_irrefl _ (q ▸ h p hp)
theorem nd_new1 {l l' : List (Addr × Obj)} {d : Addr} {o : Obj} (h : ∀ p ∈ l', p.1 ≠ d) (e : l'.map (·.1) = l.map (·.1)) (nd : Nd l) : Nd ((d, o) :: l) := by
  refine List.nodup_cons.mpr ⟨fun hm => ?_, nd⟩
  have hm' : d ∈ l.map (·.1) := hm
  rw [← e] at hm'
  obtain ⟨p, hp, q⟩ := List.mem_map.mp hm'
  exact h p hp q
theorem nd_drop {l : List (Addr × Obj)} {p : Addr × Obj} (nd : Nd (p :: l)) : Nd l := (List.nodup_cons.mp nd).2
theorem nd3 {l : List (Addr × Obj)} {x y z q : Addr × Obj} (nd : Nd (x :: y :: z :: q :: l)) : Nd (x :: y :: z :: l) :=
  nd.sublist ((List.Sublist.cons_cons _ (List.Sublist.cons_cons _ (List.Sublist.cons_cons _ (List.sublist_cons_self _ _)))).map _)
theorem news_perm {h₀ h : Heap} {L : Addr} {l l' : List (Addr × Obj)} (N : News h₀ L h l) (P : l.Perm l') : News h₀ L h l' := fun p hp => N p (P.mem_iff.mpr hp)
theorem nd_perm {l l' : List (Addr × Obj)} (nd : Nd l) (P : l.Perm l') : Nd l' := (P.map (·.1)).nodup_iff.mp nd
/-- a wanted order of the ledger, by picks -/
theorem pk_cons {l r r' : List (Addr × Obj)} {p : Addr × Obj} (h : l.Perm (p :: r)) (h' : r.Perm r') : l.Perm (p :: r') := h.trans (h'.cons p)
theorem pk_head {r : List (Addr × Obj)} {p : Addr × Obj} : (p :: r).Perm (p :: r) := List.Perm.refl _
theorem pk_tail {l r : List (Addr × Obj)} {p q : Addr × Obj} (h : l.Perm (p :: r)) : (q :: l).Perm (p :: q :: r) := (h.cons q).trans (List.Perm.swap p q r)
theorem pk_seg {l r seg : List (Addr × Obj)} (h : l.Perm (seg ++ r)) : l.Perm (r ++ seg) := h.trans List.perm_append_comm
theorem sg_here {r seg : List (Addr × Obj)} : (seg ++ r).Perm (seg ++ r) := List.Perm.refl _
theorem sg_end {seg : List (Addr × Obj)} : seg.Perm (seg ++ []) := by rw [List.append_nil]
theorem sg_tail {l r seg : List (Addr × Obj)} {q : Addr × Obj} (h : l.Perm (seg ++ r)) : (q :: l).Perm (seg ++ q :: r) := (h.cons q).trans List.perm_middle.symm
theorem sg_app {l r seg a : List (Addr × Obj)} (h : l.Perm (seg ++ r)) : (a ++ l).Perm (seg ++ (a ++ r)) :=
  (List.Perm.append_left a h).trans (by rw [← List.append_assoc, ← List.append_assoc]; exact List.Perm.append_right r List.perm_append_comm)
/-- a ledger and its apartness -/
structure Lg (h₀ : Heap) (L : Addr) (h : Heap) (l : List (Addr × Obj)) : Prop where
  N : News h₀ L h l
  nd : Nd l
theorem Lg.perm {h₀ h : Heap} {L : Addr} {l l' : List (Addr × Obj)} (N : News h₀ L h l) (nd : Nd l) (P : l.Perm l') : Lg h₀ L h l' := ⟨news_perm N P, nd_perm nd P⟩

section
variable {prog : Program} {w : World} {K : Type} [DecidableEq K] {knd : KeyKind prog w K} {A : Around} {E : Value → Shared → Prop} {s : Shared} {h₀ : Heap} {L d : Addr} {m : Str → Option Value} {news : List (Addr × Obj)} {g : Obj → List (Addr × Obj)} {o : Obj} {kvs : List (K × Value)} {k : K} {key v : Value}
theorem stored_new (h : valueAt kvs k = none) : stored kvs k v = kvs ++ [(k, v)] := by
  unfold stored
  rw [if_neg]
  intro q
  unfold valueAt at h
  rw [Option.map_eq_none_iff, List.find?_eq_none] at h
  obtain ⟨x, hx, e⟩ := List.any_eq_true.mp q
  exact h x hx (by simpa using e)
theorem iss (h : valueAt kvs k = some v) : (valueAt kvs k).isSome = true := by rw [h]; rfl
theorem isn (h : valueAt kvs k = none) : (valueAt kvs k).isSome = false := by rw [h]; rfl
theorem get_dict {Q : Value → Shared → Prop} (N : News h₀ L s.heap news) (hp : (d, o) ∈ news) (hd : o.IsDictOf knd kvs) (hkey : knd.is k key = true) (hl : valueAt kvs k = some v) (h : Q v { s with toks := s.toks + 1 }) :
    wpAny (model prog w) A (getItem (.ref d) key) Q E s := PySem.wpAny_getItem_of hkey (kda_dict N hp hd).mapOf hl h
theorem val_new (h : valueAt kvs k = none) : valueAt (stored kvs k v) k = some v := by
  rw [stored_new h]
  unfold valueAt at h ⊢
  rw [Option.map_eq_none_iff] at h
  rw [List.find?_append, h]
  simp
end
theorem nd_new2 {l l' : List (Addr × Obj)} {x d : Addr} {ox od : Obj} (h : ∀ p ∈ l', @LT.lt Nat _ p.1 d) (h2 : @LT.lt Nat _ d x) (e : l'.map (·.1) = l.map (·.1)) (nd : Nd l) : Nd ((x, ox) :: (d, od) :: l) := by
  refine List.nodup_cons.mpr ⟨fun hm => ?_, nd_new h e nd⟩
  rcases List.mem_cons.mp hm with q | q
  · exact Nat.ne_of_gt h2 q
  · have q' : x ∈ l.map (·.1) := q
    rw [← e] at q'
    obtain ⟨p, hp, z⟩ := List.mem_map.mp q'
    exact Nat.lt_irrefl _ (Nat.lt_trans (z ▸ h p hp) h2)
end Mine

namespace Mine
inductive Hd | no | shut | root | loop deriving DecidableEq
inductive HG : Hd → Value → Prop
  | no : HG .no .none
  | shut (t : Tok) : HG .shut (.str (Str.ofString "shut") t)
  | root (t : Tok) : HG .root (.str (Str.ofString "root") t)
  | loop (t : Tok) : HG .loop (.str (Str.ofString "loop") t)
inductive HL : Hd → Value → Prop
  | no (t : Tok) : HL .no (.str (Str.ofString "") t)
  | shut (t : Tok) : HL .shut (.str (Str.ofString "shut") t)
  | root (t : Tok) : HL .root (.str (Str.ofString "root") t)
  | loop (t : Tok) : HL .loop (.str (Str.ofString "loop") t)
inductive UV : Option Int → Value → Prop
  | none : UV none .none
  | some (n : Int) (t : Tok) : UV (some n) (.int n t)
structure St where
  kr : Bool
  kb : Bool
  kf : Bool
  kl : Bool
  held : Hd
  til : Option Int
  heard : Bool
def St.start : St := ⟨false, false, false, false, .no, none, false⟩
/-- the dict of Guards -/
abbrev gdObj (w : World) (rc qt : Int) (GR : Addr) (t1 t2 t3 t4 t5 : Tok) : Obj := dictOf [⟨PyData.keyHash w.params (Str.ofString "recovery"), .str (Str.ofString "recovery") t1, .int rc t2⟩, ⟨PyData.keyHash w.params (Str.ofString "quiet"), .str (Str.ofString "quiet") t3, .int qt t4⟩, ⟨PyData.keyHash w.params (Str.ofString "rows"), .str (Str.ofString "rows") t5, .ref GR⟩] 3
/-- the dict of a GuardRow -/
abbrev wdObj (w : World) (WK : Addr) (vh vu : Value) (b : Bool) (t1 t2 t3 t4 : Tok) : Obj := dictOf [⟨PyData.keyHash w.params (Str.ofString "kinds"), .str (Str.ofString "kinds") t1, .ref WK⟩, ⟨PyData.keyHash w.params (Str.ofString "held"), .str (Str.ofString "held") t2, vh⟩, ⟨PyData.keyHash w.params (Str.ofString "until"), .str (Str.ofString "until") t3, vu⟩, ⟨PyData.keyHash w.params (Str.ofString "has_heard"), .str (Str.ofString "has_heard") t4, .bool b⟩] 4
abbrev kindsOf (kr kb kf kl : Bool) : List (Str × Value) := [(Str.ofString "root", .bool kr), (Str.ofString "bpdu", .bool kb), (Str.ofString "filter", .bool kf), (Str.ofString "loop", .bool kl)]
/-- a GuardRow's three objects -/
inductive Seg (w : World) (a : St) (W : Addr) : List (Addr × Obj) → Prop
  | mk (WD WK : Addr) (oK : Obj) (vh vu : Value) (t1 t2 t3 t4 : Tok) : oK.IsDictOf (strKind Pg w) (kindsOf a.kr a.kb a.kf a.kl) → HG a.held vh → UV a.til vu → Seg w a W [(W, instObj 77 WD), (WD, wdObj w WK vh vu a.heard t1 t2 t3 t4), (WK, oK)]
/-- a port's row, there or not yet -/
inductive PSeg (w : World) (es : List (Int × Value)) (p : Int) (a : St) : List (Addr × Obj) → Prop
  | there (W : Addr) (seg : List (Addr × Obj)) : valueAt es p = some (.ref W) → Seg w a W seg → PSeg w es p a seg
  | not : valueAt es p = none → es.length ≤ 1 → a = St.start → PSeg w es p a []
/-- what becomes of the table of rows -/
def EsStep (es : List (Int × Value)) (p : Int) (es' : List (Int × Value)) (W : Addr) : Prop := (valueAt es p = some (.ref W) ∧ es' = es) ∨ (valueAt es p = none ∧ es' = es ++ [(p, .ref W)])
theorem EsStep.val {es es' : List (Int × Value)} {p : Int} {W : Addr} (h : EsStep es p es' W) : valueAt es' p = some (.ref W) := by
  rcases h with ⟨h, rfl⟩ | ⟨h, rfl⟩
  · exact h
  · rw [← stored_new h]; exact val_new h
theorem PSeg.of {w : World} {es es' : List (Int × Value)} {p : Int} {a : St} {W : Addr} {seg : List (Addr × Obj)} (h : EsStep es p es' W) (s : Seg w a W seg) : PSeg w es' p a seg := .there W seg h.val s
theorem row_end {w : World} {h₀ h' : Heap} {L W WD WK : Addr} {oK : Obj} {t1 t2 t3 t4 : Tok} {g1 g2 g3 : Addr × Obj} {rest : List (Addr × Obj)}
    (N : News h₀ L h' ((WK, oK) :: (W, instObj 77 WD) :: (WD, wdObj w WK .none .none false t1 t2 t3 t4) :: g1 :: g2 :: g3 :: rest)) (hk : oK.IsDictOf (strKind Pg w) (kindsOf false false false false))
    (nd : Nd ((WK, oK) :: (W, instObj 77 WD) :: (WD, wdObj w WK .none .none false t1 t2 t3 t4) :: g1 :: g2 :: g3 :: rest)) :
    ∃ seg', Seg w St.start W seg' ∧ News h₀ L h' (g1 :: g2 :: g3 :: (rest ++ seg')) ∧ Nd (g1 :: g2 :: g3 :: (rest ++ seg')) := by
  refine ⟨[(W, instObj 77 WD), (WD, wdObj w WK .none .none false t1 t2 t3 t4), (WK, oK)], .mk _ _ _ _ _ _ _ _ _ hk .no .none, ?_⟩
  have P : ((WK, oK) :: (W, instObj 77 WD) :: (WD, wdObj w WK .none .none false t1 t2 t3 t4) :: g1 :: g2 :: g3 :: rest).Perm (g1 :: g2 :: g3 :: (rest ++ [(W, instObj 77 WD), (WD, wdObj w WK .none .none false t1 t2 t3 t4), (WK, oK)])) := by
    refine pk_cons (pk_tail (pk_tail (pk_tail pk_head))) (pk_cons (pk_tail (pk_tail (pk_tail pk_head))) (pk_cons (pk_tail (pk_tail (pk_tail pk_head))) ?_))
    exact pk_seg (pk_cons (pk_tail pk_head) (pk_cons (pk_tail pk_head) (List.Perm.refl _)))
  exact ⟨news_perm N P, nd_perm nd P⟩
theorem seg_close {w : World} {h₀ h' : Heap} {L W WD WK : Addr} {oK : Obj} {a : St} {vh vu : Value} {b : Bool} {t1 t2 t3 t4 : Tok} {g1 g2 g3 : Addr × Obj} {rest : List (Addr × Obj)}
    (N : News h₀ L h' (g1 :: g2 :: g3 :: (W, instObj 77 WD) :: (WD, wdObj w WK vh vu b t1 t2 t3 t4) :: (WK, oK) :: rest)) (nd : Nd (g1 :: g2 :: g3 :: (W, instObj 77 WD) :: (WD, wdObj w WK vh vu b t1 t2 t3 t4) :: (WK, oK) :: rest))
    (hk : oK.IsDictOf (strKind Pg w) (kindsOf a.kr a.kb a.kf a.kl)) (hh : HG a.held vh) (hu : UV a.til vu) (hb : b = a.heard) :
    ∃ seg', Seg w a W seg' ∧ News h₀ L h' (g1 :: g2 :: g3 :: (rest ++ seg')) ∧ Nd (g1 :: g2 :: g3 :: (rest ++ seg')) := by
  subst hb
  refine ⟨[(W, instObj 77 WD), (WD, wdObj w WK vh vu a.heard t1 t2 t3 t4), (WK, oK)], .mk _ _ _ _ _ _ _ _ _ hk hh hu, ?_⟩
  have P : (g1 :: g2 :: g3 :: (W, instObj 77 WD) :: (WD, wdObj w WK vh vu a.heard t1 t2 t3 t4) :: (WK, oK) :: rest).Perm (g1 :: g2 :: g3 :: (rest ++ [(W, instObj 77 WD), (WD, wdObj w WK vh vu a.heard t1 t2 t3 t4), (WK, oK)])) :=
    List.Perm.cons _ (List.Perm.cons _ (List.Perm.cons _ (pk_seg (seg := [(W, instObj 77 WD), (WD, wdObj w WK vh vu a.heard t1 t2 t3 t4), (WK, oK)]) (List.Perm.refl _))))
  exact ⟨news_perm N P, nd_perm nd P⟩
def due (t : Option Int) (now : Int) : Bool := match t with
  | none => false
  | some n => decide (n ≤ now)
def letgo (a : St) (now : Int) : St := if due a.til now then { a with held := .no, til := none } else a
theorem hg_in {H : Hd} {v : Value} (h : HG H v) : handedIn v = true := by cases h <;> rfl
theorem uv_in {U : Option Int} {v : Value} (h : UV U v) : handedIn v = true := by cases h <;> rfl
theorem letgo_no {a : St} {now : Int} (h : a.til = none) : letgo a now = a := by simp [letgo, due, h]
theorem letgo_yes {a : St} {now n : Int} (h : a.til = some n) (hn : n ≤ now) : letgo a now = { a with held := .no, til := none } := by simp [letgo, due, h, hn]
theorem letgo_keep {a : St} {now n : Int} (h : a.til = some n) (hn : ¬ n ≤ now) : letgo a now = a := by simp [letgo, due, h, hn]
theorem EsStep.trans {es es1 es2 : List (Int × Value)} {p : Int} {W1 W2 : Addr} (h1 : EsStep es p es1 W1) (h2 : EsStep es1 p es2 W2) : EsStep es p es2 W2 := by
  rcases h2 with ⟨q, rfl⟩ | ⟨q, _⟩
  · have e := h1.val
    rw [e] at q
    cases q
    exact h1
  · rw [h1.val] at q; cases q
theorem end_c {w : World} {h₀ h' : Heap} {L G GD GR W WD WK : Addr} {o1 o2 oR oK : Obj} {es es' : List (Int × Value)} {p : Int} {vh vu : Value} {kr kb kf kl b : Bool} {H : Hd} {U : Option Int} {t1 t2 t3 t4 : Tok} {rest : List (Addr × Obj)} (hE : EsStep es p es' W)
    (N : News h₀ L h' ((G, o1) :: (GD, o2) :: (GR, oR) :: (W, instObj 77 WD) :: (WD, wdObj w WK vh vu b t1 t2 t3 t4) :: (WK, oK) :: rest)) (nd : Nd ((G, o1) :: (GD, o2) :: (GR, oR) :: (W, instObj 77 WD) :: (WD, wdObj w WK vh vu b t1 t2 t3 t4) :: (WK, oK) :: rest))
    (hk : oK.IsDictOf (strKind Pg w) (kindsOf kr kb kf kl)) (hh : HG H vh) (hu : UV U vu) :
    ∃ seg', Seg w ⟨kr, kb, kf, kl, H, U, b⟩ W seg' ∧ PSeg w es' p ⟨kr, kb, kf, kl, H, U, b⟩ seg' ∧ News h₀ L h' ((G, o1) :: (GD, o2) :: (GR, oR) :: (rest ++ seg')) ∧ Nd ((G, o1) :: (GD, o2) :: (GR, oR) :: (rest ++ seg')) := by
  obtain ⟨seg', z1, z2, z3⟩ := seg_close (a := ⟨kr, kb, kf, kl, H, U, b⟩) N nd hk hh hu rfl
  exact ⟨seg', z1, .of hE z1, z2, z3⟩
inductive Ans | let_ | hold | shut | drop deriving DecidableEq
inductive AV : Ans → Value → Prop
  | let_ (t : Tok) : AV .let_ (.str (Str.ofString "let") t)
  | hold (t : Tok) : AV .hold (.str (Str.ofString "hold") t)
  | shut (t : Tok) : AV .shut (.str (Str.ofString "shut") t)
  | drop (t : Tok) : AV .drop (.str (Str.ofString "drop") t)
def stands : Hd → Ans
  | .no => .let_
  | .shut => .shut
  | _ => .hold
theorem av_in {a : Ans} {v : Value} (h : AV a v) : handedIn v = true := by cases h <;> rfl
end Mine

theorem Mine.rules_j2 : True := by
  w_top off
  k_with_none
  k_with "k_ne" => (first | exact Mine.nq (by with_reducible assumption) | exact Mine.nqs (by with_reducible assumption))
  k_with "call builtin:list.pop" => ((k_here; (with_reducible show wpAny _ _ (call (Value.builtin _) [Value.ref _, Value.int _ _]) _ _ _); k_dflt (refine' Mine.pop0 ?z12F ?z12N ?z12U ?z12z ?_; (case z12F => k_asm); (case z12N => k_asm); (case z12U => k_upd); (case z12z => first | assumption | omega)); intro h' F' N'; (try dsimp only [List.nil_append, List.cons_append] at N')))
  k_with "tb_start" => (first | assumption | (refine List.Mem.tail _ ?_; tb_start))
  k_with "ktr_rel" => (first
      | with_reducible assumption
      | (refine' Mine.ncons ?z14N ?z14m ?z14r; (case z14N => k_asm); (case z14m => k_mem); (case z14r => ktr_rel))
      | (refine' Mine.nrest ?z14N ?z14m; (case z14N => k_asm); (case z14m => (intro p hp; tb_start))))
  k_with "ktr_room" => (first | exact Mine.rm1 (by assumption) rfl | exact Mine.rm0 (by assumption) | exact Mine.rmS (Mine.rm1 (by assumption) rfl) | exact Mine.rmS (Mine.rmS (Mine.rm1 (by assumption) rfl)) | exact Mine.rmN rfl | ((try simp only [depth_under_make, depth_under_kw, depth_in1, depth_deeper, depth_caller]); (try dsimp only [ktrTop]); omega))
  k_with "k_room" => (ktr_room)
  k_with "units_room" => (first | exact Mine.rm1 (by assumption) rfl | exact Mine.rm0 (by assumption) | exact Mine.rmS (Mine.rm1 (by assumption) rfl) | exact Mine.rmS (Mine.rmS (Mine.rm1 (by assumption) rfl)) | exact Mine.rmS (Mine.rmS (Mine.rmS (Mine.rm1 (by assumption) rfl))) | exact Mine.rmN rfl | ((try simp only [units_under_make, units_in1, units_deeper, Around.mark_units, units_caller]); (try dsimp only [ktrTop]); omega))
  k_with "k_units" => (units_room)
  k_with "k_enter" => (ktr_enter)
  k_with "k_all" => (first | exact Mine.ne_sub (by assumption) (by intro p hp; tb_start) | exact Mine.ne_sub2 (by assumption) (by intro p hp; tb_start))
  k_with "eval DictComp" => ((k_here; k_dflt (refine Mine.DictComp_T (PySem.strKind _ _) (by k_asm) (by rfl) (by rfl) (by decide) (by rfl) (by decide) (by rfl) ?_ (fun _ => by with_unfolding_all rfl))))
  k_with "Exists" => ((k_here; k_dflt (refine ⟨_, _, _, rfl, by k_asm, by k_asm, Mine.tup_of_K (by k_asm) (by k_is), fun g₂ => ?_⟩)))
  k_with "DRest" => ((with_unfolding_all first
      | (refine Mine.DRest.succ (by rw [sizeLine_eq]; exact Nat.le_of_ble_eq_true rfl) ?_; intro v' I' oI' C' oC' D' oD' m' h' tk' E' hv' hC' hx' hoD' F' N' off' ne'; lcg_open hv'; (try simp only [LCg.Off3, and_true] at off'))
      | refine Mine.DRest.zero ?_))
  k_with "DEnd" => ((refine Mine.DEnd.intro (by assumption) (by assumption) _ (strKind_is _ _ _ _) (fun _ h => h) (by assumption) True.intro ?_))
  k_with "DFinE" => ((intro D' oD' h' tk' hoD' F' N' o1'; (have o2' := Mine.off1_mem o1'); (try simp only [LCg.Off1, and_true] at o1'); (try dsimp only)))
  k_with "kd_mem" => (first | exact Mine.Pos.head | exact Mine.PosF.head | (refine' Mine.Pos.tail ?z26p; (case z26p => kd_mem)) | (refine' Mine.PosF.tail ?z26p; (case z26p => kd_mem)))
  k_with "k_upd" => ((refine' Mine.upd_nd ?z27nd ?z27e ?z27p; (case z27nd => assumption); (case z27e => rfl); (case z27p => kd_mem)))
  k_with "k_updF" => (first | (refine' Mine.updF_nd ?z28nd ?z28e ?z28p; (case z28nd => assumption); (case z28e => rfl); (case z28p => kd_mem)) | (refine' UpdF.head ?z28a; (case z28a => k_all)) | (refine' UpdF.tail ?z28a ?z28b; (case z28a => k_ne); (case z28b => k_updF)))
  k_with "kd_p1" => (first | exact Mine.pk_head | (refine' Mine.pk_tail ?z29h; (case z29h => kd_p1)))
  k_with "kst_p" => (first | exact Mine.sg_here | exact Mine.sg_end | (refine' Mine.sg_tail ?z30h; (case z30h => kst_p)) | (refine' Mine.sg_app ?z30h; (case z30h => kst_p)))
  k_with "kd_p" => (first | exact List.Perm.refl _ | (refine' Mine.pk_cons ?z31h ?z31g; (case z31h => kd_p1); (case z31g => kd_p)) | (refine' Mine.pk_seg ?z31h; (case z31h => kst_p)))
  k_with "tb_rel" => (first | assumption | exact Mine.nd3 (by assumption) | exact Mine.nd3 (Mine.nd3 (by assumption)) | (refine' Mine.nd_of ?z32nd ?z32e; (case z32nd => assumption); (case z32e => rfl)) | (refine' Mine.nd_new ?z32h ?z32e ?z32n; (case z32h => assumption); (case z32e => rfl); (case z32n => tb_rel)) | (refine' Mine.nd_new2 ?z32h ?z32g ?z32e ?z32n; (case z32h => assumption); (case z32g => assumption); (case z32e => rfl); (case z32n => tb_rel)) | (refine' Mine.nd_new1 ?z32h ?z32e ?z32n; (case z32h => assumption); (case z32e => rfl); (case z32n => tb_rel)))
  k_with "subscriptTail" => ((k_here; k_dflt (first
      | ((with_reducible show wpAny _ _ (subscriptTail _ _ (Value.ref _) (Value.str _ _)) _ _ _); refine kda_item (knd := PySem.strKind _ _) (by k_asm) (by k_mem) (by k_asm) (strKind_is _ _ _ _) (by first | assumption | rfl) ?_)
      | ((with_reducible show wpAny _ _ (subscriptTail _ _ (Value.ref _) (Value.int _ _)) _ _ _); refine kda_item (knd := PySem.intKind _ _) (by k_asm) (by k_mem) (by k_asm) (intKind_is _ _ _ _) (by first | assumption | rfl | exact Mine.val_new (by assumption)) ?_))))
  k_with "setItem ref str" => ((k_here; k_dflt (refine' kda_set (knd := PySem.strKind _ _) ?z34F ?z34N ?z34U ?z34d (strKind_is _ _ _ _) ?z34z ?_; (case z34F => k_asm); (case z34N => k_asm); (case z34U => k_updF); (case z34d => k_asm); (case z34z => first | kob_size | assumption)); intro h' o' F' N' hd'; (try kob_lit); (try dsimp only at N')))
  k_with "setItem ref int" => ((k_here; k_dflt (refine' kda_set (knd := PySem.intKind _ _) ?z35F ?z35N ?z35U ?z35d (intKind_is _ _ _ _) ?z35z ?_; (case z35F => k_asm); (case z35N => k_asm); (case z35U => k_updF); (case z35d => k_asm); (case z35z => first | kob_size | assumption)); intro h' o' F' N' hd'; (try kob_lit); (try dsimp only at N')))
  k_with "compareOp NotIn int ref" => ((k_here; k_dflt (first
      | refine kdg_notin (knd := PySem.intKind _ _) (by k_asm) (by k_mem) (by k_asm) (by k_asm) (intKind_is _ _ _ _) true (by first | assumption | rfl | exact Mine.iss (by assumption) | exact Mine.isn (by assumption)) ?_
      | refine kdg_notin (knd := PySem.intKind _ _) (by k_asm) (by k_mem) (by k_asm) (by k_asm) (intKind_is _ _ _ _) false (by first | assumption | rfl | exact Mine.iss (by assumption) | exact Mine.isn (by assumption)) ?_); (try dsimp only [Bool.not_true, Bool.not_false])))
  k_with "getItem ref int" => ((k_here; k_dflt (refine Mine.get_dict (knd := PySem.intKind _ _) (by k_asm) (by k_mem) (by k_asm) (intKind_is _ _ _ _) (by first | assumption | rfl | exact Mine.val_new (by assumption)) ?_)))
  k_with "getItem ref str" => ((k_here; k_dflt (refine Mine.get_dict (knd := PySem.strKind _ _) (by k_asm) (by k_mem) (by k_asm) (strKind_is _ _ _ _) (by first | assumption | rfl) ?_)))
  k_with "execs cons" => (((with_reducible refine Mine.st_norm s rfl rfl rfl ?_); intro tk'))
  trivial

namespace Mine
section
variable {w : World} {A₀ : Around} {base : Heap} {outer : List Env} {h₀ : Heap} {mean : ExcName → Option Value} {mg mb : Str → Option Value} {cs : Scope} {dp un : Nat} {gd : Option (List Code)} {cn : Str} {L a : Addr} {ccd : Value} {cl : List (Str × Addr)} {s : Shared} {m : Str → Option Value} {rest : List (Addr × Obj)} {Q E : Value → Shared → Prop}
  (B : Below A₀ base outer h₀) (F : Fr h₀ L s.heap m) (X : (hd.heap_1 w.params).In h₀) (T : Top qv Lo mean mg mb h₀) (k : cs.kind = .function) (d : dp + 10 < recursionLimit) (u : un + 200 < cLine)
include B F X T k d u
theorem row_c {G GD GR : Addr} {rc qt p : Int} {t1 t2 t3 t4 t5 tp : Tok} {oR : Obj} {es : List (Int × Value)} {a0 : St} {seg : List (Addr × Obj)}
  (N : News h₀ L s.heap ((G, instObj 154 GD) :: (GD, gdObj w rc qt GR t1 t2 t3 t4 t5) :: (GR, oR) :: (rest ++ seg))) (nd : Nd ((G, instObj 154 GD) :: (GD, gdObj w rc qt GR t1 t2 t3 t4 t5) :: (GR, oR) :: (rest ++ seg)))
  (hR : oR.IsDictOf (intKind Pg w) es) (lo : (GR == sysModules) = false) (hs : PSeg w es p a0 seg)
  (ret : ∀ h' tk' W oR' es' seg', EsStep es p es' W → Seg w a0 W seg' → oR'.IsDictOf (intKind Pg w) es' → Fr h₀ L h' m →
    News h₀ L h' ((G, instObj 154 GD) :: (GD, gdObj w rc qt GR t1 t2 t3 t4 t5) :: (GR, oR') :: (rest ++ seg')) → Nd ((G, instObj 154 GD) :: (GD, gdObj w rc qt GR t1 t2 t3 t4 t5) :: (GR, oR') :: (rest ++ seg')) → Q (.ref W) { s with heap := h', toks := tk' }) :
  wpAny (model Pg w) (ktrTop dp un gd cn cs L a ccd cl outer) (call (.ref 102) [.ref G, .int p tp]) Q E s := by
  cases hs with
  | there W _ hv hs =>
    refine wpAny_call ?_
    k_dflt ktr_enter
    k_steps
    exact ret _ _ W oR es _ (.inl ⟨hv, rfl⟩) hs hR (by assumption) (by ktr_rel) nd
  | not hv hz ha =>
    replace hz : es.length ≤ sizeLine := by rw [sizeLine_eq]; omega
    subst ha
    simp only [List.append_nil] at N nd
    refine wpAny_call ?_
    k_dflt ktr_enter
    k_steps
    rename Obj.IsDictOf _ _ (stored es _ _) => hd
    rename Obj.IsDictOf (PySem.strKind Pg w) _ _ => hk
    rename Fr h₀ L _ _ => hkF
    rename News h₀ L _ _ => hkN
    rw [stored_new hv] at hd
    obtain ⟨seg', z1, z2, z3⟩ := row_end hkN hk (by tb_rel)
    exact ret _ _ _ _ _ _ (.inr ⟨hv, rfl⟩) z1 hd hkF z2 z3
/-- the row, its objects laid open -/
theorem row_o {G GD GR : Addr} {rc qt p : Int} {t1 t2 t3 t4 t5 tp : Tok} {oR : Obj} {es : List (Int × Value)} {a0 : St} {seg cur r : List (Addr × Obj)}
  (N : News h₀ L s.heap cur) (P1 : cur.Perm ((G, instObj 154 GD) :: (GD, gdObj w rc qt GR t1 t2 t3 t4 t5) :: (GR, oR) :: r)) (nd : Nd cur)
  (hR : oR.IsDictOf (intKind Pg w) es) (hs : PSeg w es p a0 seg) (P2 : r.Perm (rest ++ seg)) (lo : (GR == sysModules) = false)
  (ret : ∀ h' tk' W WD WK oK vh vu t6 t7 t8 t9 oR' es', EsStep es p es' W → oR'.IsDictOf (intKind Pg w) es' → oK.IsDictOf (strKind Pg w) (kindsOf a0.kr a0.kb a0.kf a0.kl) → HG a0.held vh → UV a0.til vu → Fr h₀ L h' m →
    News h₀ L h' ((G, instObj 154 GD) :: (GD, gdObj w rc qt GR t1 t2 t3 t4 t5) :: (GR, oR') :: (W, instObj 77 WD) :: (WD, wdObj w WK vh vu a0.heard t6 t7 t8 t9) :: (WK, oK) :: rest) →
    Nd ((G, instObj 154 GD) :: (GD, gdObj w rc qt GR t1 t2 t3 t4 t5) :: (GR, oR') :: (W, instObj 77 WD) :: (WD, wdObj w WK vh vu a0.heard t6 t7 t8 t9) :: (WK, oK) :: rest) → Q (.ref W) { s with heap := h', toks := tk' }) :
  wpAny (model Pg w) (ktrTop dp un gd cn cs L a ccd cl outer) (call (.ref 102) [.ref G, .int p tp]) Q E s := by
  have P := P1.trans (List.Perm.cons _ (List.Perm.cons _ (List.Perm.cons _ P2)))
  refine row_c B F X T k d u (news_perm N P) (nd_perm nd P) hR lo hs fun h' tk' W oR' es' seg' he sg hR' F' N' nd' => ?_
  cases sg with
  | mk WD WK oK vh vu t6 t7 t8 t9 hk hh hu =>
    have P' : ((G, instObj 154 GD) :: (GD, gdObj w rc qt GR t1 t2 t3 t4 t5) :: (GR, oR') :: (rest ++ [(W, instObj 77 WD), (WD, wdObj w WK vh vu a0.heard t6 t7 t8 t9), (WK, oK)])).Perm
        ((G, instObj 154 GD) :: (GD, gdObj w rc qt GR t1 t2 t3 t4 t5) :: (GR, oR') :: (W, instObj 77 WD) :: (WD, wdObj w WK vh vu a0.heard t6 t7 t8 t9) :: (WK, oK) :: rest) :=
      List.Perm.cons _ (List.Perm.cons _ (List.Perm.cons _ List.perm_append_comm))
    exact ret _ _ _ _ _ _ _ _ _ _ _ _ _ _ he hR' hk hh hu F' (news_perm N' P') (nd_perm nd' P')
end
end Mine

theorem Mine.rules_j3 : True := by
  w_top off
  k_with_none
  k_with "k_ne" => (first | exact Mine.nq (by with_reducible assumption) | exact Mine.nqs (by with_reducible assumption))
  k_with "call builtin:list.pop" => ((k_here; (with_reducible show wpAny _ _ (call (Value.builtin _) [Value.ref _, Value.int _ _]) _ _ _); k_dflt (refine' Mine.pop0 ?z41F ?z41N ?z41U ?z41z ?_; (case z41F => k_asm); (case z41N => k_asm); (case z41U => k_upd); (case z41z => first | assumption | omega)); intro h' F' N'; (try dsimp only [List.nil_append, List.cons_append] at N')))
  k_with "tb_start" => (first | assumption | (refine List.Mem.tail _ ?_; tb_start))
  k_with "ktr_rel" => (first
      | with_reducible assumption
      | (refine' Mine.ncons ?z43N ?z43m ?z43r; (case z43N => k_asm); (case z43m => k_mem); (case z43r => ktr_rel))
      | (refine' Mine.nrest ?z43N ?z43m; (case z43N => k_asm); (case z43m => (intro p hp; tb_start))))
  k_with "ktr_room" => (first | exact Mine.rm1 (by assumption) rfl | exact Mine.rm0 (by assumption) | exact Mine.rmS (Mine.rm1 (by assumption) rfl) | exact Mine.rmS (Mine.rmS (Mine.rm1 (by assumption) rfl)) | exact Mine.rmN rfl | ((try simp only [depth_under_make, depth_under_kw, depth_in1, depth_deeper, depth_caller]); (try dsimp only [ktrTop]); omega))
  k_with "k_room" => (ktr_room)
  k_with "units_room" => (first | exact Mine.rm1 (by assumption) rfl | exact Mine.rm0 (by assumption) | exact Mine.rmS (Mine.rm1 (by assumption) rfl) | exact Mine.rmS (Mine.rmS (Mine.rm1 (by assumption) rfl)) | exact Mine.rmS (Mine.rmS (Mine.rmS (Mine.rm1 (by assumption) rfl))) | exact Mine.rmN rfl | ((try simp only [units_under_make, units_in1, units_deeper, Around.mark_units, units_caller]); (try dsimp only [ktrTop]); omega))
  k_with "k_units" => (units_room)
  k_with "k_enter" => (ktr_enter)
  k_with "k_all" => (first | exact Mine.ne_sub (by assumption) (by intro p hp; tb_start) | exact Mine.ne_sub2 (by assumption) (by intro p hp; tb_start))
  k_with "eval DictComp" => ((k_here; k_dflt (refine Mine.DictComp_T (PySem.strKind _ _) (by k_asm) (by rfl) (by rfl) (by decide) (by rfl) (by decide) (by rfl) ?_ (fun _ => by with_unfolding_all rfl))))
  k_with "Exists" => ((k_here; k_dflt (refine ⟨_, _, _, rfl, by k_asm, by k_asm, Mine.tup_of_K (by k_asm) (by k_is), fun g₂ => ?_⟩)))
  k_with "DRest" => ((with_unfolding_all first
      | (refine Mine.DRest.succ (by rw [sizeLine_eq]; exact Nat.le_of_ble_eq_true rfl) ?_; intro v' I' oI' C' oC' D' oD' m' h' tk' E' hv' hC' hx' hoD' F' N' off' ne'; lcg_open hv'; (try simp only [LCg.Off3, and_true] at off'))
      | refine Mine.DRest.zero ?_))
  k_with "DEnd" => ((refine Mine.DEnd.intro (by assumption) (by assumption) _ (strKind_is _ _ _ _) (fun _ h => h) (by assumption) True.intro ?_))
  k_with "DFinE" => ((intro D' oD' h' tk' hoD' F' N' o1'; (have o2' := Mine.off1_mem o1'); (try simp only [LCg.Off1, and_true] at o1'); (try dsimp only)))
  k_with "kd_mem" => (first | exact Mine.Pos.head | exact Mine.PosF.head | (refine' Mine.Pos.tail ?z55p; (case z55p => kd_mem)) | (refine' Mine.PosF.tail ?z55p; (case z55p => kd_mem)))
  k_with "k_upd" => ((refine' Mine.upd_nd ?z56nd ?z56e ?z56p; (case z56nd => assumption); (case z56e => rfl); (case z56p => kd_mem)))
  k_with "k_updF" => (first | (refine' Mine.updF_nd ?z57nd ?z57e ?z57p; (case z57nd => assumption); (case z57e => rfl); (case z57p => kd_mem)) | (refine' UpdF.head ?z57a; (case z57a => k_all)) | (refine' UpdF.tail ?z57a ?z57b; (case z57a => k_ne); (case z57b => k_updF)))
  k_with "kd_p1" => (first | exact Mine.pk_head | (refine' Mine.pk_tail ?z58h; (case z58h => kd_p1)))
  k_with "kst_p" => (first | exact Mine.sg_here | exact Mine.sg_end | (refine' Mine.sg_tail ?z59h; (case z59h => kst_p)) | (refine' Mine.sg_app ?z59h; (case z59h => kst_p)))
  k_with "kd_p" => (first | exact List.Perm.refl _ | (refine' Mine.pk_cons ?z60h ?z60g; (case z60h => kd_p1); (case z60g => kd_p)) | (refine' Mine.pk_seg ?z60h; (case z60h => kst_p)))
  k_with "tb_rel" => (first | assumption | exact Mine.nd3 (by assumption) | exact Mine.nd3 (Mine.nd3 (by assumption)) | (refine' Mine.nd_of ?z61nd ?z61e; (case z61nd => assumption); (case z61e => rfl)) | (refine' Mine.nd_new ?z61h ?z61e ?z61n; (case z61h => assumption); (case z61e => rfl); (case z61n => tb_rel)) | (refine' Mine.nd_new2 ?z61h ?z61g ?z61e ?z61n; (case z61h => assumption); (case z61g => assumption); (case z61e => rfl); (case z61n => tb_rel)) | (refine' Mine.nd_new1 ?z61h ?z61e ?z61n; (case z61h => assumption); (case z61e => rfl); (case z61n => tb_rel)))
  k_with "subscriptTail" => ((k_here; k_dflt (first
      | ((with_reducible show wpAny _ _ (subscriptTail _ _ (Value.ref _) (Value.str _ _)) _ _ _); refine kda_item (knd := PySem.strKind _ _) (by k_asm) (by k_mem) (by k_asm) (strKind_is _ _ _ _) (by first | assumption | rfl) ?_)
      | ((with_reducible show wpAny _ _ (subscriptTail _ _ (Value.ref _) (Value.int _ _)) _ _ _); refine kda_item (knd := PySem.intKind _ _) (by k_asm) (by k_mem) (by k_asm) (intKind_is _ _ _ _) (by first | assumption | rfl | exact Mine.val_new (by assumption)) ?_))))
  k_with "setItem ref str" => ((k_here; k_dflt (refine' kda_set (knd := PySem.strKind _ _) ?z63F ?z63N ?z63U ?z63d (strKind_is _ _ _ _) ?z63z ?_; (case z63F => k_asm); (case z63N => k_asm); (case z63U => k_updF); (case z63d => k_asm); (case z63z => first | kob_size | assumption)); intro h' o' F' N' hd'; (try kob_lit); (try dsimp only at N')))
  k_with "setItem ref int" => ((k_here; k_dflt (refine' kda_set (knd := PySem.intKind _ _) ?z64F ?z64N ?z64U ?z64d (intKind_is _ _ _ _) ?z64z ?_; (case z64F => k_asm); (case z64N => k_asm); (case z64U => k_updF); (case z64d => k_asm); (case z64z => first | kob_size | assumption)); intro h' o' F' N' hd'; (try kob_lit); (try dsimp only at N')))
  k_with "compareOp NotIn int ref" => ((k_here; k_dflt (first
      | refine kdg_notin (knd := PySem.intKind _ _) (by k_asm) (by k_mem) (by k_asm) (by k_asm) (intKind_is _ _ _ _) true (by first | assumption | rfl | exact Mine.iss (by assumption) | exact Mine.isn (by assumption)) ?_
      | refine kdg_notin (knd := PySem.intKind _ _) (by k_asm) (by k_mem) (by k_asm) (by k_asm) (intKind_is _ _ _ _) false (by first | assumption | rfl | exact Mine.iss (by assumption) | exact Mine.isn (by assumption)) ?_); (try dsimp only [Bool.not_true, Bool.not_false])))
  k_with "getItem ref int" => ((k_here; k_dflt (refine Mine.get_dict (knd := PySem.intKind _ _) (by k_asm) (by k_mem) (by k_asm) (intKind_is _ _ _ _) (by first | assumption | rfl | exact Mine.val_new (by assumption)) ?_)))
  k_with "getItem ref str" => ((k_here; k_dflt (refine Mine.get_dict (knd := PySem.strKind _ _) (by k_asm) (by k_mem) (by k_asm) (strKind_is _ _ _ _) (by first | assumption | rfl) ?_)))
  k_with "execs cons" => (((with_reducible refine Mine.st_norm s rfl rfl rfl ?_); intro tk'))
  k_with "ktn_open" => (skip)
  k_with "k_handed" => (first | exact Mine.hg_in (by assumption) | exact Mine.uv_in (by assumption))
  k_with "call ref" => ((k_here; (with_reducible show wpAny _ _ (call (Value.ref 102) _) _ _ _); k_dflt (refine' Mine.row_o ?z71B ?z71F ?z71X ?z71T ?z71k ?z71d ?z71u ?z71N ?z71P1 ?z71nd ?z71hR ?z71hs ?z71P2 ?z71lo ?_; (case z71B => k_asm); (case z71F => k_asm); (case z71X => k_asm); (case z71T => k_asm); (case z71k => first | exact rfl | assumption); (case z71d => ktr_room); (case z71u => units_room); (case z71N => k_asm); (case z71P1 => kd_p); (case z71nd => tb_rel); (case z71hR => assumption); (case z71hs => assumption); (case z71P2 => kd_p); (case z71lo => assumption)); intro h' tk' W' WD' WK' oK' vh' vu' t6' t7' t8' t9' oR' es' hE' hR' hK' hH' hU' F' N' nd'; (try dsimp only at hK'); (try dsimp only at hH'); (try dsimp only at hU'); (try dsimp only at N'); (try dsimp only at nd'); (try dsimp only); ktn_open))
  k_with "ktn_open" => (((rename Mine.UV _ _ => hU9); (try dsimp only at hU9); cases hU9))
  trivial

namespace Mine
section
variable {w : World} {A₀ : Around} {base : Heap} {outer : List Env} {h₀ : Heap} {mean : ExcName → Option Value} {mg mb : Str → Option Value} {cs : Scope} {dp un : Nat} {gd : Option (List Code)} {cn : Str} {L a : Addr} {ccd : Value} {cl : List (Str × Addr)} {s : Shared} {m : Str → Option Value} {rest : List (Addr × Obj)} {Q E : Value → Shared → Prop}
  (B : Below A₀ base outer h₀) (F : Fr h₀ L s.heap m) (X : (hd.heap_1 w.params).In h₀) (T : Top qv Lo mean mg mb h₀) (k : cs.kind = .function) (d : dp + 12 < recursionLimit) (u : un + 230 < cLine)
include B F X T k d u
theorem letgo_c {G GD GR : Addr} {rc qt p now : Int} {t1 t2 t3 t4 t5 tp tn : Tok} {oR : Obj} {es : List (Int × Value)} {a0 : St} {seg cur r : List (Addr × Obj)}
  (N : News h₀ L s.heap cur) (P1 : cur.Perm ((G, instObj 154 GD) :: (GD, gdObj w rc qt GR t1 t2 t3 t4 t5) :: (GR, oR) :: r)) (nd : Nd cur)
  (hR : oR.IsDictOf (intKind Pg w) es) (hs : PSeg w es p a0 seg) (P2 : r.Perm (rest ++ seg)) (lo : (GR == sysModules) = false)
  (ret : ∀ h' tk' W oR' es' seg' a1, a1 = letgo a0 now → EsStep es p es' W → Seg w a1 W seg' → PSeg w es' p a1 seg' → oR'.IsDictOf (intKind Pg w) es' → Fr h₀ L h' m →
    News h₀ L h' ((G, instObj 154 GD) :: (GD, gdObj w rc qt GR t1 t2 t3 t4 t5) :: (GR, oR') :: (rest ++ seg')) → Nd ((G, instObj 154 GD) :: (GD, gdObj w rc qt GR t1 t2 t3 t4 t5) :: (GR, oR') :: (rest ++ seg')) → Q .none { s with heap := h', toks := tk' }) :
  wpAny (model Pg w) (ktrTop dp un gd cn cs L a ccd cl outer) (call (.ref 130) [.ref G, .int p tp, .int now tn]) Q E s := by
  have P := P1.trans (List.Perm.cons _ (List.Perm.cons _ (List.Perm.cons _ P2)))
  replace N := news_perm N P
  replace nd := nd_perm nd P
  rcases a0 with ⟨kr, kb, kf, kl, H, U, hr⟩
  refine wpAny_call ?_
  k_dflt ktr_enter
  k_steps
  all_goals rename EsStep _ _ _ _ => hE
  all_goals first
    | (have e : letgo ⟨kr, kb, kf, kl, H, none, hr⟩ now = ⟨kr, kb, kf, kl, H, none, hr⟩ := letgo_no rfl
       obtain ⟨seg', z1, z2, z3, z4⟩ := end_c (G := G) (GD := GD) (GR := GR) (rest := rest) hE (by ktr_rel) (by tb_rel) (by assumption) (by assumption) UV.none
       exact ret _ _ _ _ _ _ _ e.symm hE z1 z2 (by assumption) (by assumption) z3 z4)
    | (rename Int => n
       have e : letgo ⟨kr, kb, kf, kl, H, some n, hr⟩ now = ⟨kr, kb, kf, kl, .no, none, hr⟩ := letgo_yes rfl (by assumption)
       obtain ⟨seg', z1, z2, z3, z4⟩ := end_c (G := G) (GD := GD) (GR := GR) (rest := rest) hE (by ktr_rel) (by tb_rel) (by assumption) HG.no UV.none
       exact ret _ _ _ _ _ _ _ e.symm hE z1 z2 (by assumption) (by assumption) z3 z4)
    | (rename Int => n
       have e : letgo ⟨kr, kb, kf, kl, H, some n, hr⟩ now = ⟨kr, kb, kf, kl, H, some n, hr⟩ := letgo_keep rfl (by assumption)
       obtain ⟨seg', z1, z2, z3, z4⟩ := end_c (G := G) (GD := GD) (GR := GR) (rest := rest) hE (by ktr_rel) (by tb_rel) (by assumption) (by assumption) (UV.some _ _)
       exact ret _ _ _ _ _ _ _ e.symm hE z1 z2 (by assumption) (by assumption) z3 z4)
    | fail
end
end Mine

theorem Mine.rules_j4 : True := by
  w_top off
  k_with_none
  k_with "k_ne" => (first | exact Mine.nq (by with_reducible assumption) | exact Mine.nqs (by with_reducible assumption))
  k_with "call builtin:list.pop" => ((k_here; (with_reducible show wpAny _ _ (call (Value.builtin _) [Value.ref _, Value.int _ _]) _ _ _); k_dflt (refine' Mine.pop0 ?z74F ?z74N ?z74U ?z74z ?_; (case z74F => k_asm); (case z74N => k_asm); (case z74U => k_upd); (case z74z => first | assumption | omega)); intro h' F' N'; (try dsimp only [List.nil_append, List.cons_append] at N')))
  k_with "tb_start" => (first | assumption | (refine List.Mem.tail _ ?_; tb_start))
  k_with "ktr_rel" => (first
      | with_reducible assumption
      | (refine' Mine.ncons ?z76N ?z76m ?z76r; (case z76N => k_asm); (case z76m => k_mem); (case z76r => ktr_rel))
      | (refine' Mine.nrest ?z76N ?z76m; (case z76N => k_asm); (case z76m => (intro p hp; tb_start))))
  k_with "ktr_room" => (first | exact Mine.rm1 (by assumption) rfl | exact Mine.rm0 (by assumption) | exact Mine.rmS (Mine.rm1 (by assumption) rfl) | exact Mine.rmS (Mine.rmS (Mine.rm1 (by assumption) rfl)) | exact Mine.rmN rfl | ((try simp only [depth_under_make, depth_under_kw, depth_in1, depth_deeper, depth_caller]); (try dsimp only [ktrTop]); omega))
  k_with "k_room" => (ktr_room)
  k_with "units_room" => (first | exact Mine.rm1 (by assumption) rfl | exact Mine.rm0 (by assumption) | exact Mine.rmS (Mine.rm1 (by assumption) rfl) | exact Mine.rmS (Mine.rmS (Mine.rm1 (by assumption) rfl)) | exact Mine.rmS (Mine.rmS (Mine.rmS (Mine.rm1 (by assumption) rfl))) | exact Mine.rmN rfl | ((try simp only [units_under_make, units_in1, units_deeper, Around.mark_units, units_caller]); (try dsimp only [ktrTop]); omega))
  k_with "k_units" => (units_room)
  k_with "k_enter" => (ktr_enter)
  k_with "k_all" => (first | exact Mine.ne_sub (by assumption) (by intro p hp; tb_start) | exact Mine.ne_sub2 (by assumption) (by intro p hp; tb_start))
  k_with "eval DictComp" => ((k_here; k_dflt (refine Mine.DictComp_T (PySem.strKind _ _) (by k_asm) (by rfl) (by rfl) (by decide) (by rfl) (by decide) (by rfl) ?_ (fun _ => by with_unfolding_all rfl))))
  k_with "Exists" => ((k_here; k_dflt (refine ⟨_, _, _, rfl, by k_asm, by k_asm, Mine.tup_of_K (by k_asm) (by k_is), fun g₂ => ?_⟩)))
  k_with "DRest" => ((with_unfolding_all first
      | (refine Mine.DRest.succ (by rw [sizeLine_eq]; exact Nat.le_of_ble_eq_true rfl) ?_; intro v' I' oI' C' oC' D' oD' m' h' tk' E' hv' hC' hx' hoD' F' N' off' ne'; lcg_open hv'; (try simp only [LCg.Off3, and_true] at off'))
      | refine Mine.DRest.zero ?_))
  k_with "DEnd" => ((refine Mine.DEnd.intro (by assumption) (by assumption) _ (strKind_is _ _ _ _) (fun _ h => h) (by assumption) True.intro ?_))
  k_with "DFinE" => ((intro D' oD' h' tk' hoD' F' N' o1'; (have o2' := Mine.off1_mem o1'); (try simp only [LCg.Off1, and_true] at o1'); (try dsimp only)))
  k_with "kd_mem" => (first | exact Mine.Pos.head | exact Mine.PosF.head | (refine' Mine.Pos.tail ?z88p; (case z88p => kd_mem)) | (refine' Mine.PosF.tail ?z88p; (case z88p => kd_mem)))
  k_with "k_upd" => ((refine' Mine.upd_nd ?z89nd ?z89e ?z89p; (case z89nd => assumption); (case z89e => rfl); (case z89p => kd_mem)))
  k_with "k_updF" => (first | (refine' Mine.updF_nd ?z90nd ?z90e ?z90p; (case z90nd => assumption); (case z90e => rfl); (case z90p => kd_mem)) | (refine' UpdF.head ?z90a; (case z90a => k_all)) | (refine' UpdF.tail ?z90a ?z90b; (case z90a => k_ne); (case z90b => k_updF)))
  k_with "kd_p1" => (first | exact Mine.pk_head | (refine' Mine.pk_tail ?z91h; (case z91h => kd_p1)))
  k_with "kst_p" => (first | exact Mine.sg_here | exact Mine.sg_end | (refine' Mine.sg_tail ?z92h; (case z92h => kst_p)) | (refine' Mine.sg_app ?z92h; (case z92h => kst_p)))
  k_with "kd_p" => (first | exact List.Perm.refl _ | (refine' Mine.pk_cons ?z93h ?z93g; (case z93h => kd_p1); (case z93g => kd_p)) | (refine' Mine.pk_seg ?z93h; (case z93h => kst_p)))
  k_with "tb_rel" => (first | assumption | exact Mine.nd3 (by assumption) | exact Mine.nd3 (Mine.nd3 (by assumption)) | (refine' Mine.nd_of ?z94nd ?z94e; (case z94nd => assumption); (case z94e => rfl)) | (refine' Mine.nd_new ?z94h ?z94e ?z94n; (case z94h => assumption); (case z94e => rfl); (case z94n => tb_rel)) | (refine' Mine.nd_new2 ?z94h ?z94g ?z94e ?z94n; (case z94h => assumption); (case z94g => assumption); (case z94e => rfl); (case z94n => tb_rel)) | (refine' Mine.nd_new1 ?z94h ?z94e ?z94n; (case z94h => assumption); (case z94e => rfl); (case z94n => tb_rel)))
  k_with "subscriptTail" => ((k_here; k_dflt (first
      | ((with_reducible show wpAny _ _ (subscriptTail _ _ (Value.ref _) (Value.str _ _)) _ _ _); refine kda_item (knd := PySem.strKind _ _) (by k_asm) (by k_mem) (by k_asm) (strKind_is _ _ _ _) (by first | assumption | rfl) ?_)
      | ((with_reducible show wpAny _ _ (subscriptTail _ _ (Value.ref _) (Value.int _ _)) _ _ _); refine kda_item (knd := PySem.intKind _ _) (by k_asm) (by k_mem) (by k_asm) (intKind_is _ _ _ _) (by first | assumption | rfl | exact Mine.val_new (by assumption)) ?_))))
  k_with "setItem ref str" => ((k_here; k_dflt (refine' kda_set (knd := PySem.strKind _ _) ?z96F ?z96N ?z96U ?z96d (strKind_is _ _ _ _) ?z96z ?_; (case z96F => k_asm); (case z96N => k_asm); (case z96U => k_updF); (case z96d => k_asm); (case z96z => first | kob_size | assumption)); intro h' o' F' N' hd'; (try kob_lit); (try dsimp only at N')))
  k_with "setItem ref int" => ((k_here; k_dflt (refine' kda_set (knd := PySem.intKind _ _) ?z97F ?z97N ?z97U ?z97d (intKind_is _ _ _ _) ?z97z ?_; (case z97F => k_asm); (case z97N => k_asm); (case z97U => k_updF); (case z97d => k_asm); (case z97z => first | kob_size | assumption)); intro h' o' F' N' hd'; (try kob_lit); (try dsimp only at N')))
  k_with "compareOp NotIn int ref" => ((k_here; k_dflt (first
      | refine kdg_notin (knd := PySem.intKind _ _) (by k_asm) (by k_mem) (by k_asm) (by k_asm) (intKind_is _ _ _ _) true (by first | assumption | rfl | exact Mine.iss (by assumption) | exact Mine.isn (by assumption)) ?_
      | refine kdg_notin (knd := PySem.intKind _ _) (by k_asm) (by k_mem) (by k_asm) (by k_asm) (intKind_is _ _ _ _) false (by first | assumption | rfl | exact Mine.iss (by assumption) | exact Mine.isn (by assumption)) ?_); (try dsimp only [Bool.not_true, Bool.not_false])))
  k_with "getItem ref int" => ((k_here; k_dflt (refine Mine.get_dict (knd := PySem.intKind _ _) (by k_asm) (by k_mem) (by k_asm) (intKind_is _ _ _ _) (by first | assumption | rfl | exact Mine.val_new (by assumption)) ?_)))
  k_with "getItem ref str" => ((k_here; k_dflt (refine Mine.get_dict (knd := PySem.strKind _ _) (by k_asm) (by k_mem) (by k_asm) (strKind_is _ _ _ _) (by first | assumption | rfl) ?_)))
  k_with "execs cons" => (((with_reducible refine Mine.st_norm s rfl rfl rfl ?_); intro tk'))
  k_with "ktn_open" => (skip)
  k_with "k_handed" => (first | exact Mine.hg_in (by assumption) | exact Mine.uv_in (by assumption))
  k_with "call ref" => ((k_here; (with_reducible show wpAny _ _ (call (Value.ref 102) _) _ _ _); k_dflt (refine' Mine.row_o ?z104B ?z104F ?z104X ?z104T ?z104k ?z104d ?z104u ?z104N ?z104P1 ?z104nd ?z104hR ?z104hs ?z104P2 ?z104lo ?_; (case z104B => k_asm); (case z104F => k_asm); (case z104X => k_asm); (case z104T => k_asm); (case z104k => first | exact rfl | assumption); (case z104d => ktr_room); (case z104u => units_room); (case z104N => k_asm); (case z104P1 => kd_p); (case z104nd => tb_rel); (case z104hR => assumption); (case z104hs => assumption); (case z104P2 => kd_p); (case z104lo => assumption)); intro h' tk' W' WD' WK' oK' vh' vu' t6' t7' t8' t9' oR' es' hE' hR' hK' hH' hU' F' N' nd'; (try dsimp only at hK'); (try dsimp only at hH'); (try dsimp only at hU'); (try dsimp only at N'); (try dsimp only at nd'); (try dsimp only); ktn_open))
  k_with "call ref" => ((k_here; (with_reducible show wpAny _ _ (call (Value.ref 130) _) _ _ _); k_dflt (refine' Mine.letgo_c ?z105B ?z105F ?z105X ?z105T ?z105k ?z105d ?z105u ?z105N ?z105P1 ?z105nd ?z105hR ?z105hs ?z105P2 ?z105lo ?_; (case z105B => k_asm); (case z105F => k_asm); (case z105X => k_asm); (case z105T => k_asm); (case z105k => first | exact rfl | assumption); (case z105d => ktr_room); (case z105u => units_room); (case z105N => k_asm); (case z105P1 => kd_p); (case z105nd => tb_rel); (case z105hR => assumption); (case z105hs => assumption); (case z105P2 => kd_p); (case z105lo => assumption)); intro h' tk' W' oR' es' seg' a1' hA' hE' hS' hP' hR' F' N' nd'; clear hS'; rcases a1' with ⟨kr', kb', kf', kl', H', U', hr'⟩; (try simp only [List.cons_append, List.append_assoc] at N'); (try simp only [List.cons_append, List.append_assoc] at nd'); (try dsimp only)))
  k_with "ktn_open" => (((rename Mine.HG _ _ => hH9); (try dsimp only at hH9); cases hH9))
  trivial

namespace Mine
section
variable {w : World} {A₀ : Around} {base : Heap} {outer : List Env} {h₀ : Heap} {mean : ExcName → Option Value} {mg mb : Str → Option Value} {cs : Scope} {dp un : Nat} {gd : Option (List Code)} {cn : Str} {L a : Addr} {ccd : Value} {cl : List (Str × Addr)} {s : Shared} {m : Str → Option Value} {rest : List (Addr × Obj)} {Q E : Value → Shared → Prop}
  (B : Below A₀ base outer h₀) (F : Fr h₀ L s.heap m) (X : (hd.heap_1 w.params).In h₀) (T : Top qv Lo mean mg mb h₀) (k : cs.kind = .function) (d : dp + 14 < recursionLimit) (u : un + 260 < cLine)
include B F X T k d u
theorem state_c {G GD GR : Addr} {rc qt p now : Int} {t1 t2 t3 t4 t5 tp tn : Tok} {oR : Obj} {es : List (Int × Value)} {a0 : St} {seg cur r : List (Addr × Obj)}
  (N : News h₀ L s.heap cur) (P1 : cur.Perm ((G, instObj 154 GD) :: (GD, gdObj w rc qt GR t1 t2 t3 t4 t5) :: (GR, oR) :: r)) (nd : Nd cur)
  (hR : oR.IsDictOf (intKind Pg w) es) (hs : PSeg w es p a0 seg) (P2 : r.Perm (rest ++ seg)) (lo : (GR == sysModules) = false)
  (ret : ∀ h' tk' W oR' es' seg' a1 an v, a1 = letgo a0 now → an = stands a1.held → AV an v → EsStep es p es' W → Seg w a1 W seg' → PSeg w es' p a1 seg' → oR'.IsDictOf (intKind Pg w) es' → Fr h₀ L h' m →
    News h₀ L h' ((G, instObj 154 GD) :: (GD, gdObj w rc qt GR t1 t2 t3 t4 t5) :: (GR, oR') :: (rest ++ seg')) → Nd ((G, instObj 154 GD) :: (GD, gdObj w rc qt GR t1 t2 t3 t4 t5) :: (GR, oR') :: (rest ++ seg')) → Q v { s with heap := h', toks := tk' }) :
  wpAny (model Pg w) (ktrTop dp un gd cn cs L a ccd cl outer) (call (.ref 123) [.ref G, .int p tp, .int now tn]) Q E s := by
  have P := P1.trans (List.Perm.cons _ (List.Perm.cons _ (List.Perm.cons _ P2)))
  replace N := news_perm N P
  replace nd := nd_perm nd P
  refine wpAny_call ?_
  k_dflt ktr_enter
  k_steps
  all_goals first
    | (obtain ⟨seg', z1, z2, z3, z4⟩ := end_c (G := G) (GD := GD) (GR := GR) (rest := rest) (EsStep.trans (by assumption : EsStep es p _ _) (by assumption)) (by ktr_rel) (by tb_rel) (by assumption) (by first | exact HG.no | exact HG.shut _ | exact HG.root _ | exact HG.loop _) (by assumption)
       exact ret _ _ _ _ _ _ _ _ _ (by assumption) rfl (by first | exact AV.let_ _ | exact AV.hold _ | exact AV.shut _) (EsStep.trans (by assumption : EsStep es p _ _) (by assumption)) z1 z2 (by assumption) (by assumption) z3 z4)
    | fail
theorem state_o {G GD GR W WD WK : Addr} {rc qt p now : Int} {t1 t2 t3 t4 t5 t6 t7 t8 t9 tp tn : Tok} {oR oK : Obj} {es : List (Int × Value)} {kr kb kf kl hr : Bool} {H : Hd} {U : Option Int} {vh vu : Value} {cur : List (Addr × Obj)}
  (N : News h₀ L s.heap cur) (P1 : cur.Perm ((G, instObj 154 GD) :: (GD, gdObj w rc qt GR t1 t2 t3 t4 t5) :: (GR, oR) :: (W, instObj 77 WD) :: (WD, wdObj w WK vh vu hr t6 t7 t8 t9) :: (WK, oK) :: rest)) (nd : Nd cur)
  (hR : oR.IsDictOf (intKind Pg w) es) (hv : valueAt es p = some (.ref W)) (hk : oK.IsDictOf (strKind Pg w) (kindsOf kr kb kf kl)) (hh : HG H vh) (hu : UV U vu) (lo : (GR == sysModules) = false)
  (ret : ∀ h' tk' W oR' es' seg' a1 an v, a1 = letgo ⟨kr, kb, kf, kl, H, U, hr⟩ now → an = stands a1.held → AV an v → EsStep es p es' W → Seg w a1 W seg' → PSeg w es' p a1 seg' → oR'.IsDictOf (intKind Pg w) es' → Fr h₀ L h' m →
    News h₀ L h' ((G, instObj 154 GD) :: (GD, gdObj w rc qt GR t1 t2 t3 t4 t5) :: (GR, oR') :: (rest ++ seg')) → Nd ((G, instObj 154 GD) :: (GD, gdObj w rc qt GR t1 t2 t3 t4 t5) :: (GR, oR') :: (rest ++ seg')) → Q v { s with heap := h', toks := tk' }) :
  wpAny (model Pg w) (ktrTop dp un gd cn cs L a ccd cl outer) (call (.ref 123) [.ref G, .int p tp, .int now tn]) Q E s :=
  state_c B F X T k d u N P1 nd hR (.there W _ hv (Seg.mk (a := ⟨kr, kb, kf, kl, H, U, hr⟩) WD WK oK vh vu t6 t7 t8 t9 hk hh hu)) (pk_seg (seg := [(W, instObj 77 WD), (WD, wdObj w WK vh vu hr t6 t7 t8 t9), (WK, oK)]) (List.Perm.refl _)) lo ret
end
end Mine

theorem Mine.rules_j5 : True := by
  w_top off
  k_with_none
  k_with "k_ne" => (first | exact Mine.nq (by with_reducible assumption) | exact Mine.nqs (by with_reducible assumption))
  k_with "call builtin:list.pop" => ((k_here; (with_reducible show wpAny _ _ (call (Value.builtin _) [Value.ref _, Value.int _ _]) _ _ _); k_dflt (refine' Mine.pop0 ?z108F ?z108N ?z108U ?z108z ?_; (case z108F => k_asm); (case z108N => k_asm); (case z108U => k_upd); (case z108z => first | assumption | omega)); intro h' F' N'; (try dsimp only [List.nil_append, List.cons_append] at N')))
  k_with "tb_start" => (first | assumption | (refine List.Mem.tail _ ?_; tb_start))
  k_with "ktr_rel" => (first
      | with_reducible assumption
      | (refine' Mine.ncons ?z110N ?z110m ?z110r; (case z110N => k_asm); (case z110m => k_mem); (case z110r => ktr_rel))
      | (refine' Mine.nrest ?z110N ?z110m; (case z110N => k_asm); (case z110m => (intro p hp; tb_start))))
  k_with "ktr_room" => (first | exact Mine.rm1 (by assumption) rfl | exact Mine.rm0 (by assumption) | exact Mine.rmS (Mine.rm1 (by assumption) rfl) | exact Mine.rmS (Mine.rmS (Mine.rm1 (by assumption) rfl)) | exact Mine.rmN rfl | ((try simp only [depth_under_make, depth_under_kw, depth_in1, depth_deeper, depth_caller]); (try dsimp only [ktrTop]); omega))
  k_with "k_room" => (ktr_room)
  k_with "units_room" => (first | exact Mine.rm1 (by assumption) rfl | exact Mine.rm0 (by assumption) | exact Mine.rmS (Mine.rm1 (by assumption) rfl) | exact Mine.rmS (Mine.rmS (Mine.rm1 (by assumption) rfl)) | exact Mine.rmS (Mine.rmS (Mine.rmS (Mine.rm1 (by assumption) rfl))) | exact Mine.rmN rfl | ((try simp only [units_under_make, units_in1, units_deeper, Around.mark_units, units_caller]); (try dsimp only [ktrTop]); omega))
  k_with "k_units" => (units_room)
  k_with "k_enter" => (ktr_enter)
  k_with "k_all" => (first | exact Mine.ne_sub (by assumption) (by intro p hp; tb_start) | exact Mine.ne_sub2 (by assumption) (by intro p hp; tb_start))
  k_with "eval DictComp" => ((k_here; k_dflt (refine Mine.DictComp_T (PySem.strKind _ _) (by k_asm) (by rfl) (by rfl) (by decide) (by rfl) (by decide) (by rfl) ?_ (fun _ => by with_unfolding_all rfl))))
  k_with "Exists" => ((k_here; k_dflt (refine ⟨_, _, _, rfl, by k_asm, by k_asm, Mine.tup_of_K (by k_asm) (by k_is), fun g₂ => ?_⟩)))
  k_with "DRest" => ((with_unfolding_all first
      | (refine Mine.DRest.succ (by rw [sizeLine_eq]; exact Nat.le_of_ble_eq_true rfl) ?_; intro v' I' oI' C' oC' D' oD' m' h' tk' E' hv' hC' hx' hoD' F' N' off' ne'; lcg_open hv'; (try simp only [LCg.Off3, and_true] at off'))
      | refine Mine.DRest.zero ?_))
  k_with "DEnd" => ((refine Mine.DEnd.intro (by assumption) (by assumption) _ (strKind_is _ _ _ _) (fun _ h => h) (by assumption) True.intro ?_))
  k_with "DFinE" => ((intro D' oD' h' tk' hoD' F' N' o1'; (have o2' := Mine.off1_mem o1'); (try simp only [LCg.Off1, and_true] at o1'); (try dsimp only)))
  k_with "kd_mem" => (first | exact Mine.Pos.head | exact Mine.PosF.head | (refine' Mine.Pos.tail ?z122p; (case z122p => kd_mem)) | (refine' Mine.PosF.tail ?z122p; (case z122p => kd_mem)))
  k_with "k_upd" => ((refine' Mine.upd_nd ?z123nd ?z123e ?z123p; (case z123nd => assumption); (case z123e => rfl); (case z123p => kd_mem)))
  k_with "k_updF" => (first | (refine' Mine.updF_nd ?z124nd ?z124e ?z124p; (case z124nd => assumption); (case z124e => rfl); (case z124p => kd_mem)) | (refine' UpdF.head ?z124a; (case z124a => k_all)) | (refine' UpdF.tail ?z124a ?z124b; (case z124a => k_ne); (case z124b => k_updF)))
  k_with "kd_p1" => (first | exact Mine.pk_head | (refine' Mine.pk_tail ?z125h; (case z125h => kd_p1)))
  k_with "kst_p" => (first | exact Mine.sg_here | exact Mine.sg_end | (refine' Mine.sg_tail ?z126h; (case z126h => kst_p)) | (refine' Mine.sg_app ?z126h; (case z126h => kst_p)))
  k_with "kd_p" => (first | exact List.Perm.refl _ | (refine' Mine.pk_cons ?z127h ?z127g; (case z127h => kd_p1); (case z127g => kd_p)) | (refine' Mine.pk_seg ?z127h; (case z127h => kst_p)))
  k_with "tb_rel" => (first | assumption | exact Mine.nd3 (by assumption) | exact Mine.nd3 (Mine.nd3 (by assumption)) | (refine' Mine.nd_of ?z128nd ?z128e; (case z128nd => assumption); (case z128e => rfl)) | (refine' Mine.nd_new ?z128h ?z128e ?z128n; (case z128h => assumption); (case z128e => rfl); (case z128n => tb_rel)) | (refine' Mine.nd_new2 ?z128h ?z128g ?z128e ?z128n; (case z128h => assumption); (case z128g => assumption); (case z128e => rfl); (case z128n => tb_rel)) | (refine' Mine.nd_new1 ?z128h ?z128e ?z128n; (case z128h => assumption); (case z128e => rfl); (case z128n => tb_rel)))
  k_with "subscriptTail" => ((k_here; k_dflt (first
      | ((with_reducible show wpAny _ _ (subscriptTail _ _ (Value.ref _) (Value.str _ _)) _ _ _); refine kda_item (knd := PySem.strKind _ _) (by k_asm) (by k_mem) (by k_asm) (strKind_is _ _ _ _) (by first | assumption | rfl) ?_)
      | ((with_reducible show wpAny _ _ (subscriptTail _ _ (Value.ref _) (Value.int _ _)) _ _ _); refine kda_item (knd := PySem.intKind _ _) (by k_asm) (by k_mem) (by k_asm) (intKind_is _ _ _ _) (by first | assumption | rfl | exact Mine.val_new (by assumption)) ?_))))
  k_with "setItem ref str" => ((k_here; k_dflt (refine' kda_set (knd := PySem.strKind _ _) ?z130F ?z130N ?z130U ?z130d (strKind_is _ _ _ _) ?z130z ?_; (case z130F => k_asm); (case z130N => k_asm); (case z130U => k_updF); (case z130d => k_asm); (case z130z => first | kob_size | assumption)); intro h' o' F' N' hd'; (try kob_lit); (try dsimp only at N')))
  k_with "setItem ref int" => ((k_here; k_dflt (refine' kda_set (knd := PySem.intKind _ _) ?z131F ?z131N ?z131U ?z131d (intKind_is _ _ _ _) ?z131z ?_; (case z131F => k_asm); (case z131N => k_asm); (case z131U => k_updF); (case z131d => k_asm); (case z131z => first | kob_size | assumption)); intro h' o' F' N' hd'; (try kob_lit); (try dsimp only at N')))
  k_with "compareOp NotIn int ref" => ((k_here; k_dflt (first
      | refine kdg_notin (knd := PySem.intKind _ _) (by k_asm) (by k_mem) (by k_asm) (by k_asm) (intKind_is _ _ _ _) true (by first | assumption | rfl | exact Mine.iss (by assumption) | exact Mine.isn (by assumption)) ?_
      | refine kdg_notin (knd := PySem.intKind _ _) (by k_asm) (by k_mem) (by k_asm) (by k_asm) (intKind_is _ _ _ _) false (by first | assumption | rfl | exact Mine.iss (by assumption) | exact Mine.isn (by assumption)) ?_); (try dsimp only [Bool.not_true, Bool.not_false])))
  k_with "getItem ref int" => ((k_here; k_dflt (refine Mine.get_dict (knd := PySem.intKind _ _) (by k_asm) (by k_mem) (by k_asm) (intKind_is _ _ _ _) (by first | assumption | rfl | exact Mine.val_new (by assumption)) ?_)))
  k_with "getItem ref str" => ((k_here; k_dflt (refine Mine.get_dict (knd := PySem.strKind _ _) (by k_asm) (by k_mem) (by k_asm) (strKind_is _ _ _ _) (by first | assumption | rfl) ?_)))
  k_with "execs cons" => (((with_reducible refine Mine.st_norm s rfl rfl rfl ?_); intro tk'))
  k_with "ktn_open" => (skip)
  k_with "k_handed" => (first | exact Mine.hg_in (by assumption) | exact Mine.uv_in (by assumption))
  k_with "call ref" => ((k_here; (with_reducible show wpAny _ _ (call (Value.ref 102) _) _ _ _); k_dflt (refine' Mine.row_o ?z138B ?z138F ?z138X ?z138T ?z138k ?z138d ?z138u ?z138N ?z138P1 ?z138nd ?z138hR ?z138hs ?z138P2 ?z138lo ?_; (case z138B => k_asm); (case z138F => k_asm); (case z138X => k_asm); (case z138T => k_asm); (case z138k => first | exact rfl | assumption); (case z138d => ktr_room); (case z138u => units_room); (case z138N => k_asm); (case z138P1 => kd_p); (case z138nd => tb_rel); (case z138hR => assumption); (case z138hs => assumption); (case z138P2 => kd_p); (case z138lo => assumption)); intro h' tk' W' WD' WK' oK' vh' vu' t6' t7' t8' t9' oR' es' hE' hR' hK' hH' hU' F' N' nd'; (try dsimp only at hK'); (try dsimp only at hH'); (try dsimp only at hU'); (try dsimp only at N'); (try dsimp only at nd'); (try dsimp only); ktn_open))
  trivial

namespace Mine
section
variable {w : World} {A₀ : Around} {base : Heap} {outer : List Env} {h₀ : Heap} {mean : ExcName → Option Value} {mg mb : Str → Option Value} {cs : Scope} {dp un : Nat} {gd : Option (List Code)} {cn : Str} {L a : Addr} {ccd : Value} {cl : List (Str × Addr)} {s : Shared} {m : Str → Option Value} {rest : List (Addr × Obj)} {Q E : Value → Shared → Prop}
  (B : Below A₀ base outer h₀) (F : Fr h₀ L s.heap m) (X : (hd.heap_1 w.params).In h₀) (T : Top qv Lo mean mg mb h₀) (k : cs.kind = .function) (d : dp + 14 < recursionLimit) (u : un + 260 < cLine)
include B F X T k d u
theorem open_c {G GD GR : Addr} {rc qt p : Int} {t1 t2 t3 t4 t5 tp : Tok} {oR : Obj} {es : List (Int × Value)} {a0 : St} {seg cur r : List (Addr × Obj)}
  (N : News h₀ L s.heap cur) (P1 : cur.Perm ((G, instObj 154 GD) :: (GD, gdObj w rc qt GR t1 t2 t3 t4 t5) :: (GR, oR) :: r)) (nd : Nd cur)
  (hR : oR.IsDictOf (intKind Pg w) es) (hs : PSeg w es p a0 seg) (P2 : r.Perm (rest ++ seg)) (lo : (GR == sysModules) = false)
  (ret : ∀ h' tk' W oR' es' seg' a1, a1 = { a0 with held := .no, til := none } → EsStep es p es' W → PSeg w es' p a1 seg' → oR'.IsDictOf (intKind Pg w) es' → Fr h₀ L h' m →
    News h₀ L h' ((G, instObj 154 GD) :: (GD, gdObj w rc qt GR t1 t2 t3 t4 t5) :: (GR, oR') :: (rest ++ seg')) → Nd ((G, instObj 154 GD) :: (GD, gdObj w rc qt GR t1 t2 t3 t4 t5) :: (GR, oR') :: (rest ++ seg')) → Q .none { s with heap := h', toks := tk' }) :
  wpAny (model Pg w) (ktrTop dp un gd cn cs L a ccd cl outer) (call (.ref 116) [.ref G, .int p tp]) Q E s := by
  have P := P1.trans (List.Perm.cons _ (List.Perm.cons _ (List.Perm.cons _ P2)))
  replace N := news_perm N P
  replace nd := nd_perm nd P
  rcases a0 with ⟨kr, kb, kf, kl, H, U, hr⟩
  refine wpAny_call ?_
  k_dflt ktr_enter
  k_steps
  all_goals first
    | (obtain ⟨seg', z1, z2, z3, z4⟩ := end_c (G := G) (GD := GD) (GR := GR) (rest := rest) (by assumption : EsStep es p _ _) (by ktr_rel) (by tb_rel) (by assumption) HG.no UV.none
       exact ret _ _ _ _ _ _ _ rfl (by assumption) z2 (by assumption) (by assumption) z3 z4)
    | fail
end
end Mine

theorem Mine.rules_j6 : True := by
  w_top off
  k_with_none
  k_with "k_ne" => (first | exact Mine.nq (by with_reducible assumption) | exact Mine.nqs (by with_reducible assumption))
  k_with "call builtin:list.pop" => ((k_here; (with_reducible show wpAny _ _ (call (Value.builtin _) [Value.ref _, Value.int _ _]) _ _ _); k_dflt (refine' Mine.pop0 ?z140F ?z140N ?z140U ?z140z ?_; (case z140F => k_asm); (case z140N => k_asm); (case z140U => k_upd); (case z140z => first | assumption | omega)); intro h' F' N'; (try dsimp only [List.nil_append, List.cons_append] at N')))
  k_with "tb_start" => (first | assumption | (refine List.Mem.tail _ ?_; tb_start))
  k_with "ktr_rel" => (first
      | with_reducible assumption
      | (refine' Mine.ncons ?z142N ?z142m ?z142r; (case z142N => k_asm); (case z142m => k_mem); (case z142r => ktr_rel))
      | (refine' Mine.nrest ?z142N ?z142m; (case z142N => k_asm); (case z142m => (intro p hp; tb_start))))
  k_with "ktr_room" => (first | exact Mine.rm1 (by assumption) rfl | exact Mine.rm0 (by assumption) | exact Mine.rmS (Mine.rm1 (by assumption) rfl) | exact Mine.rmS (Mine.rmS (Mine.rm1 (by assumption) rfl)) | exact Mine.rmN rfl | ((try simp only [depth_under_make, depth_under_kw, depth_in1, depth_deeper, depth_caller]); (try dsimp only [ktrTop]); omega))
  k_with "k_room" => (ktr_room)
  k_with "units_room" => (first | exact Mine.rm1 (by assumption) rfl | exact Mine.rm0 (by assumption) | exact Mine.rmS (Mine.rm1 (by assumption) rfl) | exact Mine.rmS (Mine.rmS (Mine.rm1 (by assumption) rfl)) | exact Mine.rmS (Mine.rmS (Mine.rmS (Mine.rm1 (by assumption) rfl))) | exact Mine.rmN rfl | ((try simp only [units_under_make, units_in1, units_deeper, Around.mark_units, units_caller]); (try dsimp only [ktrTop]); omega))
  k_with "k_units" => (units_room)
  k_with "k_enter" => (ktr_enter)
  k_with "k_all" => (first | exact Mine.ne_sub (by assumption) (by intro p hp; tb_start) | exact Mine.ne_sub2 (by assumption) (by intro p hp; tb_start))
  k_with "eval DictComp" => ((k_here; k_dflt (refine Mine.DictComp_T (PySem.strKind _ _) (by k_asm) (by rfl) (by rfl) (by decide) (by rfl) (by decide) (by rfl) ?_ (fun _ => by with_unfolding_all rfl))))
  k_with "Exists" => ((k_here; k_dflt (refine ⟨_, _, _, rfl, by k_asm, by k_asm, Mine.tup_of_K (by k_asm) (by k_is), fun g₂ => ?_⟩)))
  k_with "DRest" => ((with_unfolding_all first
      | (refine Mine.DRest.succ (by rw [sizeLine_eq]; exact Nat.le_of_ble_eq_true rfl) ?_; intro v' I' oI' C' oC' D' oD' m' h' tk' E' hv' hC' hx' hoD' F' N' off' ne'; lcg_open hv'; (try simp only [LCg.Off3, and_true] at off'))
      | refine Mine.DRest.zero ?_))
  k_with "DEnd" => ((refine Mine.DEnd.intro (by assumption) (by assumption) _ (strKind_is _ _ _ _) (fun _ h => h) (by assumption) True.intro ?_))
  k_with "DFinE" => ((intro D' oD' h' tk' hoD' F' N' o1'; (have o2' := Mine.off1_mem o1'); (try simp only [LCg.Off1, and_true] at o1'); (try dsimp only)))
  k_with "kd_mem" => (first | exact Mine.Pos.head | exact Mine.PosF.head | (refine' Mine.Pos.tail ?z154p; (case z154p => kd_mem)) | (refine' Mine.PosF.tail ?z154p; (case z154p => kd_mem)))
  k_with "k_upd" => ((refine' Mine.upd_nd ?z155nd ?z155e ?z155p; (case z155nd => assumption); (case z155e => rfl); (case z155p => kd_mem)))
  k_with "k_updF" => (first | (refine' Mine.updF_nd ?z156nd ?z156e ?z156p; (case z156nd => assumption); (case z156e => rfl); (case z156p => kd_mem)) | (refine' UpdF.head ?z156a; (case z156a => k_all)) | (refine' UpdF.tail ?z156a ?z156b; (case z156a => k_ne); (case z156b => k_updF)))
  k_with "kd_p1" => (first | exact Mine.pk_head | (refine' Mine.pk_tail ?z157h; (case z157h => kd_p1)))
  k_with "kst_p" => (first | exact Mine.sg_here | exact Mine.sg_end | (refine' Mine.sg_tail ?z158h; (case z158h => kst_p)) | (refine' Mine.sg_app ?z158h; (case z158h => kst_p)))
  k_with "kd_p" => (first | exact List.Perm.refl _ | (refine' Mine.pk_cons ?z159h ?z159g; (case z159h => kd_p1); (case z159g => kd_p)) | (refine' Mine.pk_seg ?z159h; (case z159h => kst_p)))
  k_with "tb_rel" => (first | assumption | exact Mine.nd3 (by assumption) | exact Mine.nd3 (Mine.nd3 (by assumption)) | (refine' Mine.nd_of ?z160nd ?z160e; (case z160nd => assumption); (case z160e => rfl)) | (refine' Mine.nd_new ?z160h ?z160e ?z160n; (case z160h => assumption); (case z160e => rfl); (case z160n => tb_rel)) | (refine' Mine.nd_new2 ?z160h ?z160g ?z160e ?z160n; (case z160h => assumption); (case z160g => assumption); (case z160e => rfl); (case z160n => tb_rel)) | (refine' Mine.nd_new1 ?z160h ?z160e ?z160n; (case z160h => assumption); (case z160e => rfl); (case z160n => tb_rel)))
  k_with "subscriptTail" => ((k_here; k_dflt (first
      | ((with_reducible show wpAny _ _ (subscriptTail _ _ (Value.ref _) (Value.str _ _)) _ _ _); refine kda_item (knd := PySem.strKind _ _) (by k_asm) (by k_mem) (by k_asm) (strKind_is _ _ _ _) (by first | assumption | rfl) ?_)
      | ((with_reducible show wpAny _ _ (subscriptTail _ _ (Value.ref _) (Value.int _ _)) _ _ _); refine kda_item (knd := PySem.intKind _ _) (by k_asm) (by k_mem) (by k_asm) (intKind_is _ _ _ _) (by first | assumption | rfl | exact Mine.val_new (by assumption)) ?_))))
  k_with "setItem ref str" => ((k_here; k_dflt (refine' kda_set (knd := PySem.strKind _ _) ?z162F ?z162N ?z162U ?z162d (strKind_is _ _ _ _) ?z162z ?_; (case z162F => k_asm); (case z162N => k_asm); (case z162U => k_updF); (case z162d => k_asm); (case z162z => first | kob_size | assumption)); intro h' o' F' N' hd'; (try kob_lit); (try dsimp only at N')))
  k_with "setItem ref int" => ((k_here; k_dflt (refine' kda_set (knd := PySem.intKind _ _) ?z163F ?z163N ?z163U ?z163d (intKind_is _ _ _ _) ?z163z ?_; (case z163F => k_asm); (case z163N => k_asm); (case z163U => k_updF); (case z163d => k_asm); (case z163z => first | kob_size | assumption)); intro h' o' F' N' hd'; (try kob_lit); (try dsimp only at N')))
  k_with "compareOp NotIn int ref" => ((k_here; k_dflt (first
      | refine kdg_notin (knd := PySem.intKind _ _) (by k_asm) (by k_mem) (by k_asm) (by k_asm) (intKind_is _ _ _ _) true (by first | assumption | rfl | exact Mine.iss (by assumption) | exact Mine.isn (by assumption)) ?_
      | refine kdg_notin (knd := PySem.intKind _ _) (by k_asm) (by k_mem) (by k_asm) (by k_asm) (intKind_is _ _ _ _) false (by first | assumption | rfl | exact Mine.iss (by assumption) | exact Mine.isn (by assumption)) ?_); (try dsimp only [Bool.not_true, Bool.not_false])))
  k_with "getItem ref int" => ((k_here; k_dflt (refine Mine.get_dict (knd := PySem.intKind _ _) (by k_asm) (by k_mem) (by k_asm) (intKind_is _ _ _ _) (by first | assumption | rfl | exact Mine.val_new (by assumption)) ?_)))
  k_with "getItem ref str" => ((k_here; k_dflt (refine Mine.get_dict (knd := PySem.strKind _ _) (by k_asm) (by k_mem) (by k_asm) (strKind_is _ _ _ _) (by first | assumption | rfl) ?_)))
  k_with "execs cons" => (((with_reducible refine Mine.st_norm s rfl rfl rfl ?_); intro tk'))
  k_with "ktn_open" => (skip)
  k_with "k_handed" => (first | exact Mine.hg_in (by assumption) | exact Mine.uv_in (by assumption))
  k_with "call ref" => ((k_here; (with_reducible show wpAny _ _ (call (Value.ref 102) _) _ _ _); k_dflt (refine' Mine.row_o ?z170B ?z170F ?z170X ?z170T ?z170k ?z170d ?z170u ?z170N ?z170P1 ?z170nd ?z170hR ?z170hs ?z170P2 ?z170lo ?_; (case z170B => k_asm); (case z170F => k_asm); (case z170X => k_asm); (case z170T => k_asm); (case z170k => first | exact rfl | assumption); (case z170d => ktr_room); (case z170u => units_room); (case z170N => k_asm); (case z170P1 => kd_p); (case z170nd => tb_rel); (case z170hR => assumption); (case z170hs => assumption); (case z170P2 => kd_p); (case z170lo => assumption)); intro h' tk' W' WD' WK' oK' vh' vu' t6' t7' t8' t9' oR' es' hE' hR' hK' hH' hU' F' N' nd'; (try dsimp only at hK'); (try dsimp only at hH'); (try dsimp only at hU'); (try dsimp only at N'); (try dsimp only at nd'); (try dsimp only); ktn_open))
  k_with "call ref" => ((k_here; (with_reducible show wpAny _ _ (call (Value.ref 123) _) _ _ _); k_dflt (refine' Mine.state_o ?z171B ?z171F ?z171X ?z171T ?z171k ?z171d ?z171u ?z171N ?z171P1 ?z171nd ?z171hR ?z171hv ?z171hk ?z171hh ?z171hu ?z171lo ?_; (case z171B => k_asm); (case z171F => k_asm); (case z171X => k_asm); (case z171T => k_asm); (case z171k => first | exact rfl | assumption); (case z171d => ktr_room); (case z171u => units_room); (case z171N => k_asm); (case z171hv => exact Mine.EsStep.val (by assumption)); (case z171P1 => kd_p); (case z171nd => tb_rel); (case z171hR => assumption);  (case z171hk => assumption); (case z171hh => first | assumption | exact Mine.HG.no | exact Mine.HG.shut _ | exact Mine.HG.root _ | exact Mine.HG.loop _); (case z171hu => first | assumption | exact Mine.UV.none); (case z171lo => assumption)); intro h' tk' W' oR' es' seg' a1' an' v' hA' hAn' hAV' hE' hS' hP' hR' F' N' nd'; (try simp only [List.cons_append, List.append_assoc, List.nil_append] at N'); (try simp only [List.cons_append, List.append_assoc, List.nil_append] at nd'); (try dsimp only)))
  k_with "k_handed" => (exact Mine.av_in (by assumption))
  k_with "ktn_open" => (((rename Mine.HG _ _ => hH9); (try dsimp only at hH9); cases hH9))
  trivial

namespace Mine
def silentS (a : St) : St := if a.kl = true ∧ a.heard = true ∧ a.held = .no then { a with held := .loop, til := none } else a
section
variable {w : World} {A₀ : Around} {base : Heap} {outer : List Env} {h₀ : Heap} {mean : ExcName → Option Value} {mg mb : Str → Option Value} {cs : Scope} {dp un : Nat} {gd : Option (List Code)} {cn : Str} {L a : Addr} {ccd : Value} {cl : List (Str × Addr)} {s : Shared} {m : Str → Option Value} {rest : List (Addr × Obj)} {Q E : Value → Shared → Prop}
  (B : Below A₀ base outer h₀) (F : Fr h₀ L s.heap m) (X : (hd.heap_1 w.params).In h₀) (T : Top qv Lo mean mg mb h₀) (k : cs.kind = .function) (d : dp + 18 < recursionLimit) (u : un + 300 < cLine)
include B F X T k d u
theorem silent_c {G GD GR : Addr} {rc qt p now : Int} {t1 t2 t3 t4 t5 tp tn : Tok} {oR : Obj} {es : List (Int × Value)} {a0 : St} {seg cur r : List (Addr × Obj)}
  (N : News h₀ L s.heap cur) (P1 : cur.Perm ((G, instObj 154 GD) :: (GD, gdObj w rc qt GR t1 t2 t3 t4 t5) :: (GR, oR) :: r)) (nd : Nd cur)
  (hR : oR.IsDictOf (intKind Pg w) es) (hs : PSeg w es p a0 seg) (P2 : r.Perm (rest ++ seg)) (lo : (GR == sysModules) = false)
  (ret : ∀ h' tk' W oR' es' seg' a1 an v, a1 = letgo (silentS a0) now → an = stands a1.held → AV an v → EsStep es p es' W → PSeg w es' p a1 seg' → oR'.IsDictOf (intKind Pg w) es' → Fr h₀ L h' m →
    News h₀ L h' ((G, instObj 154 GD) :: (GD, gdObj w rc qt GR t1 t2 t3 t4 t5) :: (GR, oR') :: (rest ++ seg')) → Nd ((G, instObj 154 GD) :: (GD, gdObj w rc qt GR t1 t2 t3 t4 t5) :: (GR, oR') :: (rest ++ seg')) → Q v { s with heap := h', toks := tk' }) :
  wpAny (model Pg w) (ktrTop dp un gd cn cs L a ccd cl outer) (call (.ref 144) [.ref G, .int p tp, .int now tn]) Q E s := by
  have P := P1.trans (List.Perm.cons _ (List.Perm.cons _ (List.Perm.cons _ P2)))
  replace N := news_perm N P
  replace nd := nd_perm nd P
  rcases a0 with ⟨kr, kb, kf, kl, H, U, hr⟩
  refine wpAny_call ?_
  k_dflt ktr_enter
  k_steps
  all_goals first
    | exact ret _ _ _ _ _ _ _ _ _ (Eq.trans (by assumption) (congrArg (letgo · now) (by simp [silentS, *]))) (by assumption) (by assumption) (EsStep.trans (by assumption : EsStep es p _ _) (by assumption)) (by assumption) (by assumption) (by assumption) (by ktr_rel) (by tb_rel)
    | fail
end
end Mine

namespace Mine
/-- the dict of a Bpdu -/
inductive BdD (w : World) (kind vec : Value) : Obj → Prop
  | mk (t1 t2 t3 t4 t5 t6 t7 t8 t9 t10 t11 t12 : Tok) (v1 v4 v5 v6 v7 v8 v9 v10 v11 v12 : Value) : BdD w kind vec (dictOf [⟨PyData.keyHash w.params (Str.ofString "version"), .str (Str.ofString "version") t1, v1⟩, ⟨PyData.keyHash w.params (Str.ofString "kind"), .str (Str.ofString "kind") t2, kind⟩, ⟨PyData.keyHash w.params (Str.ofString "vector"), .str (Str.ofString "vector") t3, vec⟩, ⟨PyData.keyHash w.params (Str.ofString "times"), .str (Str.ofString "times") t4, v4⟩, ⟨PyData.keyHash w.params (Str.ofString "is_change"), .str (Str.ofString "is_change") t5, v5⟩, ⟨PyData.keyHash w.params (Str.ofString "is_change_ack"), .str (Str.ofString "is_change_ack") t6, v6⟩, ⟨PyData.keyHash w.params (Str.ofString "is_proposal"), .str (Str.ofString "is_proposal") t7, v7⟩, ⟨PyData.keyHash w.params (Str.ofString "is_agreement"), .str (Str.ofString "is_agreement") t8, v8⟩, ⟨PyData.keyHash w.params (Str.ofString "role"), .str (Str.ofString "role") t9, v9⟩, ⟨PyData.keyHash w.params (Str.ofString "is_learning"), .str (Str.ofString "is_learning") t10, v10⟩, ⟨PyData.keyHash w.params (Str.ofString "is_forwarding"), .str (Str.ofString "is_forwarding") t11, v11⟩, ⟨PyData.keyHash w.params (Str.ofString "tail"), .str (Str.ofString "tail") t12, v12⟩] 12)
end Mine

namespace Mine
theorem hl_in {H : Hd} {v : Value} (h : HL H v) : handedIn v = true := by cases h <;> rfl
abbrev rowsOf (O : Addr) (vh vu : Value) (b : Bool) : List (Str × Value) := [(Str.ofString "on", .ref O), (Str.ofString "held", vh), (Str.ofString "until", vu), (Str.ofString "heard", .bool b)]
/-- the law's row of a port -/
inductive Lr (w : World) (a : St) (O : Addr) (oD : Obj) : Prop
  | mk (vh vu : Value) : oD.IsDictOf (strKind Pg w) (rowsOf O vh vu a.heard) → HL a.held vh → UV a.til vu → Lr w a O oD
/-- the list of the guards that are on -/
structure OnRep (a : St) (ss : List Str) : Prop where
  r : ss.any (· == Str.ofString "root") = a.kr
  b : ss.any (· == Str.ofString "bpdu") = a.kb
  f : ss.any (· == Str.ofString "filter") = a.kf
  l : ss.any (· == Str.ofString "loop") = a.kl
  e : ss.any (· == Str.ofString "") = false
end Mine

theorem Mine.rules_j7 : True := by
  w_top off
  k_with_none
  k_with "k_ne" => (first | exact Mine.nq (by with_reducible assumption) | exact Mine.nqs (by with_reducible assumption))
  k_with "call builtin:list.pop" => ((k_here; (with_reducible show wpAny _ _ (call (Value.builtin _) [Value.ref _, Value.int _ _]) _ _ _); k_dflt (refine' Mine.pop0 ?z175F ?z175N ?z175U ?z175z ?_; (case z175F => k_asm); (case z175N => k_asm); (case z175U => k_upd); (case z175z => first | assumption | omega)); intro h' F' N'; (try dsimp only [List.nil_append, List.cons_append] at N')))
  k_with "tb_start" => (first | assumption | (refine List.Mem.tail _ ?_; tb_start))
  k_with "ktr_rel" => (first
      | with_reducible assumption
      | (refine' Mine.ncons ?z177N ?z177m ?z177r; (case z177N => k_asm); (case z177m => k_mem); (case z177r => ktr_rel))
      | (refine' Mine.nrest ?z177N ?z177m; (case z177N => k_asm); (case z177m => (intro p hp; tb_start))))
  k_with "ktr_room" => (first | exact Mine.rm1 (by assumption) rfl | exact Mine.rm0 (by assumption) | exact Mine.rmS (Mine.rm1 (by assumption) rfl) | exact Mine.rmS (Mine.rmS (Mine.rm1 (by assumption) rfl)) | exact Mine.rmN rfl | ((try simp only [depth_under_make, depth_under_kw, depth_in1, depth_deeper, depth_caller]); (try dsimp only [ktrTop]); omega))
  k_with "k_room" => (ktr_room)
  k_with "units_room" => (first | exact Mine.rm1 (by assumption) rfl | exact Mine.rm0 (by assumption) | exact Mine.rmS (Mine.rm1 (by assumption) rfl) | exact Mine.rmS (Mine.rmS (Mine.rm1 (by assumption) rfl)) | exact Mine.rmS (Mine.rmS (Mine.rmS (Mine.rm1 (by assumption) rfl))) | exact Mine.rmN rfl | ((try simp only [units_under_make, units_in1, units_deeper, Around.mark_units, units_caller]); (try dsimp only [ktrTop]); omega))
  k_with "k_units" => (units_room)
  k_with "k_enter" => (ktr_enter)
  k_with "k_all" => (first | exact Mine.ne_sub (by assumption) (by intro p hp; tb_start) | exact Mine.ne_sub2 (by assumption) (by intro p hp; tb_start))
  k_with "eval DictComp" => ((k_here; k_dflt (refine Mine.DictComp_T (PySem.strKind _ _) (by k_asm) (by rfl) (by rfl) (by decide) (by rfl) (by decide) (by rfl) ?_ (fun _ => by with_unfolding_all rfl))))
  k_with "Exists" => ((k_here; k_dflt (refine ⟨_, _, _, rfl, by k_asm, by k_asm, Mine.tup_of_K (by k_asm) (by k_is), fun g₂ => ?_⟩)))
  k_with "DRest" => ((with_unfolding_all first
      | (refine Mine.DRest.succ (by rw [sizeLine_eq]; exact Nat.le_of_ble_eq_true rfl) ?_; intro v' I' oI' C' oC' D' oD' m' h' tk' E' hv' hC' hx' hoD' F' N' off' ne'; lcg_open hv'; (try simp only [LCg.Off3, and_true] at off'))
      | refine Mine.DRest.zero ?_))
  k_with "DEnd" => ((refine Mine.DEnd.intro (by assumption) (by assumption) _ (strKind_is _ _ _ _) (fun _ h => h) (by assumption) True.intro ?_))
  k_with "DFinE" => ((intro D' oD' h' tk' hoD' F' N' o1'; (have o2' := Mine.off1_mem o1'); (try simp only [LCg.Off1, and_true] at o1'); (try dsimp only)))
  k_with "kd_mem" => (first | exact Mine.Pos.head | exact Mine.PosF.head | (refine' Mine.Pos.tail ?z189p; (case z189p => kd_mem)) | (refine' Mine.PosF.tail ?z189p; (case z189p => kd_mem)))
  k_with "k_upd" => ((refine' Mine.upd_nd ?z190nd ?z190e ?z190p; (case z190nd => assumption); (case z190e => rfl); (case z190p => kd_mem)))
  k_with "k_updF" => (first | (refine' Mine.updF_nd ?z191nd ?z191e ?z191p; (case z191nd => assumption); (case z191e => rfl); (case z191p => kd_mem)) | (refine' UpdF.head ?z191a; (case z191a => k_all)) | (refine' UpdF.tail ?z191a ?z191b; (case z191a => k_ne); (case z191b => k_updF)))
  k_with "kd_p1" => (first | exact Mine.pk_head | (refine' Mine.pk_tail ?z192h; (case z192h => kd_p1)))
  k_with "kst_p" => (first | exact Mine.sg_here | exact Mine.sg_end | (refine' Mine.sg_tail ?z193h; (case z193h => kst_p)) | (refine' Mine.sg_app ?z193h; (case z193h => kst_p)))
  k_with "kd_p" => (first | exact List.Perm.refl _ | (refine' Mine.pk_cons ?z194h ?z194g; (case z194h => kd_p1); (case z194g => kd_p)) | (refine' Mine.pk_seg ?z194h; (case z194h => kst_p)))
  k_with "tb_rel" => (first | assumption | exact Mine.nd3 (by assumption) | exact Mine.nd3 (Mine.nd3 (by assumption)) | (refine' Mine.nd_of ?z195nd ?z195e; (case z195nd => assumption); (case z195e => rfl)) | (refine' Mine.nd_new ?z195h ?z195e ?z195n; (case z195h => assumption); (case z195e => rfl); (case z195n => tb_rel)) | (refine' Mine.nd_new2 ?z195h ?z195g ?z195e ?z195n; (case z195h => assumption); (case z195g => assumption); (case z195e => rfl); (case z195n => tb_rel)) | (refine' Mine.nd_new1 ?z195h ?z195e ?z195n; (case z195h => assumption); (case z195e => rfl); (case z195n => tb_rel)))
  k_with "subscriptTail" => ((k_here; k_dflt (first
      | ((with_reducible show wpAny _ _ (subscriptTail _ _ (Value.ref _) (Value.str _ _)) _ _ _); refine kda_item (knd := PySem.strKind _ _) (by k_asm) (by k_mem) (by k_asm) (strKind_is _ _ _ _) (by first | assumption | rfl) ?_)
      | ((with_reducible show wpAny _ _ (subscriptTail _ _ (Value.ref _) (Value.int _ _)) _ _ _); refine kda_item (knd := PySem.intKind _ _) (by k_asm) (by k_mem) (by k_asm) (intKind_is _ _ _ _) (by first | assumption | rfl | exact Mine.val_new (by assumption)) ?_))))
  k_with "setItem ref str" => ((k_here; k_dflt (refine' kda_set (knd := PySem.strKind _ _) ?z197F ?z197N ?z197U ?z197d (strKind_is _ _ _ _) ?z197z ?_; (case z197F => k_asm); (case z197N => k_asm); (case z197U => k_updF); (case z197d => k_asm); (case z197z => first | kob_size | assumption)); intro h' o' F' N' hd'; (try kob_lit); (try dsimp only at N')))
  k_with "setItem ref int" => ((k_here; k_dflt (refine' kda_set (knd := PySem.intKind _ _) ?z198F ?z198N ?z198U ?z198d (intKind_is _ _ _ _) ?z198z ?_; (case z198F => k_asm); (case z198N => k_asm); (case z198U => k_updF); (case z198d => k_asm); (case z198z => first | kob_size | assumption)); intro h' o' F' N' hd'; (try kob_lit); (try dsimp only at N')))
  k_with "compareOp NotIn int ref" => ((k_here; k_dflt (first
      | refine kdg_notin (knd := PySem.intKind _ _) (by k_asm) (by k_mem) (by k_asm) (by k_asm) (intKind_is _ _ _ _) true (by first | assumption | rfl | exact Mine.iss (by assumption) | exact Mine.isn (by assumption)) ?_
      | refine kdg_notin (knd := PySem.intKind _ _) (by k_asm) (by k_mem) (by k_asm) (by k_asm) (intKind_is _ _ _ _) false (by first | assumption | rfl | exact Mine.iss (by assumption) | exact Mine.isn (by assumption)) ?_); (try dsimp only [Bool.not_true, Bool.not_false])))
  k_with "getItem ref int" => ((k_here; k_dflt (refine Mine.get_dict (knd := PySem.intKind _ _) (by k_asm) (by k_mem) (by k_asm) (intKind_is _ _ _ _) (by first | assumption | rfl | exact Mine.val_new (by assumption)) ?_)))
  k_with "getItem ref str" => ((k_here; k_dflt (refine Mine.get_dict (knd := PySem.strKind _ _) (by k_asm) (by k_mem) (by k_asm) (strKind_is _ _ _ _) (by first | assumption | rfl) ?_)))
  k_with "execs cons" => (((with_reducible refine Mine.st_norm s rfl rfl rfl ?_); intro tk'))
  k_with "k_handed" => (first | exact Mine.hl_in (by assumption) | exact Mine.uv_in (by assumption))
  trivial

namespace Mine
section
variable {w : World} {A₀ : Around} {base : Heap} {outer : List Env} {h₀ : Heap} {mean : ExcName → Option Value} {mg mb : Str → Option Value} {cs : Scope} {dp un : Nat} {gd : Option (List Code)} {cn : Str} {L a : Addr} {ccd : Value} {cl : List (Str × Addr)} {s : Shared} {m : Str → Option Value} {rest : List (Addr × Obj)} {Q E : Value → Shared → Prop}
  (B : Below A₀ base outer h₀) (F : Fr h₀ L s.heap m) (X : (hd.heap_1 w.params).In h₀) (T : Top qv Lo mean mg mb h₀) (k : cs.kind = .function) (d : dp + 10 < recursionLimit) (u : un + 200 < cLine)
include B F X T k d u
theorem letgoL_c {D O : Addr} {oD : Obj} {a0 : St} {now : Int} {tn : Tok} {cur : List (Addr × Obj)}
  (N : News h₀ L s.heap cur) (P1 : cur.Perm ((D, oD) :: rest)) (nd : Nd cur) (hD : Lr w a0 O oD)
  (ret : ∀ h' tk' oD' a1, a1 = letgo a0 now → Lr w a1 O oD' → Fr h₀ L h' m → News h₀ L h' ((D, oD') :: rest) → Nd ((D, oD') :: rest) → Q .none { s with heap := h', toks := tk' }) :
  wpAny (model Pg w) (ktrTop dp un gd cn cs L a ccd cl outer) (call (.ref 265) [.ref D, .int now tn]) Q E s := by
  replace N := news_perm N P1
  replace nd := nd_perm nd P1
  rcases a0 with ⟨kr, kb, kf, kl, H, U, hr⟩
  rcases hD with ⟨vh, vu, hD, hH, hU⟩
  dsimp only at hD hH hU
  refine wpAny_call ?_
  k_dflt ktr_enter
  cases hU
  all_goals k_steps
  · exact ret _ _ _ _ (letgo_no rfl).symm (.mk _ _ hD hH .none) (by assumption) (by assumption) (by tb_rel)
  · exact ret _ _ _ _ (letgo_yes rfl (by assumption)).symm (.mk _ _ (by assumption) (.no _) .none) (by assumption) (by ktr_rel) (by tb_rel)
  · exact ret _ _ _ _ (letgo_keep rfl (by assumption)).symm (.mk _ _ hD hH (.some _ _)) (by assumption) (by assumption) (by tb_rel)
theorem standsL_c {D O : Addr} {oD : Obj} {a0 : St} {cur : List (Addr × Obj)}
  (N : News h₀ L s.heap cur) (P1 : cur.Perm ((D, oD) :: rest)) (hD : Lr w a0 O oD)
  (ret : ∀ h' tk' v an, an = stands a0.held → AV an v → Fr h₀ L h' m → News h₀ L h' cur → Q v { s with heap := h', toks := tk' }) :
  wpAny (model Pg w) (ktrTop dp un gd cn cs L a ccd cl outer) (call (.ref 272) [.ref D]) Q E s := by
  replace N := news_perm N P1
  rcases a0 with ⟨kr, kb, kf, kl, H, U, hr⟩
  rcases hD with ⟨vh, vu, hD, hH, hU⟩
  dsimp only at hD hH hU
  refine wpAny_call ?_
  k_dflt ktr_enter
  cases hH
  all_goals k_steps
  all_goals exact ret _ _ _ _ rfl (by first | exact AV.let_ _ | exact AV.hold _ | exact AV.shut _) (by assumption) (news_perm (by ktr_rel) P1.symm)
end
end Mine

namespace Mine
theorem in_on {prog : Program} {w : World} {A : Around} {E : Value → Shared → Prop} {s : Shared} {l : Addr} {vs : List Value} {ss : List Str} {x : Str} {b : Bool} {u : Tok} {Q : Value → Shared → Prop} (hl : s.heap.IsList l vs.toArray) (hi : StrsAre vs ss) (he : ss.any (· == x) = b) (h : Q (.bool b) s) :
    wpAny (model prog w) A (compareOp .In (.str x u) (.ref l)) Q E s := in_list_strs hl (by simpa using hi) (by rw [he]; exact h)
theorem OnRep.letgo {a : St} {ss : List Str} {now : Int} (h : OnRep a ss) : OnRep (letgo a now) ss := by
  unfold Mine.letgo
  split
  · exact ⟨h.r, h.b, h.f, h.l, h.e⟩
  · exact h
def askedT (a : St) (better : Bool) (now rc qt : Int) : St × Ans :=
  if a.held = .shut then (a, .shut)
  else if a.kb = true then ({ a with held := .shut, til := if 0 < rc then some (now + rc) else none }, .shut)
  else if a.kf = true then (a, .drop)
  else if a.kr = true ∧ better = true then ({ a with heard := true, held := .root, til := some (now + qt) }, .hold)
  else if a.held = .loop then ({ a with heard := true, held := .no }, .let_)
  else ({ a with heard := true }, stands a.held)
end Mine
namespace Mine
section
variable {a : St} {ss : List Str} {b : Bool} {now rc qt : Int}
theorem tl_shut (h : a.held = .shut) : (a, Ans.shut) = askedT a b now rc qt := by simp [askedT, h]
theorem tl_b1 (hO : OnRep a ss) (h : a.held ≠ .shut) (hb : (ss.any fun x => x == Str.ofString "bpdu") = true) (hr : 0 < rc) : ({ a with held := .shut, til := some (now + rc) }, Ans.shut) = askedT a b now rc qt := by
  simp [askedT, h, hr, hO.b.symm.trans hb]
theorem tl_b0 (hO : OnRep a ss) (h : a.held ≠ .shut) (hb : (ss.any fun x => x == Str.ofString "bpdu") = true) (hr : ¬ 0 < rc) : ({ a with held := .shut, til := none }, Ans.shut) = askedT a b now rc qt := by
  simp [askedT, h, hr, hO.b.symm.trans hb]
theorem tl_f (hO : OnRep a ss) (h : a.held ≠ .shut) (hb : (ss.any fun x => x == Str.ofString "bpdu") = false) (hf : (ss.any fun x => x == Str.ofString "filter") = true) : (a, Ans.drop) = askedT a b now rc qt := by
  simp [askedT, h, hO.b.symm.trans hb, hO.f.symm.trans hf]
theorem tl_r (hO : OnRep a ss) (h : a.held ≠ .shut) (hb : (ss.any fun x => x == Str.ofString "bpdu") = false) (hf : (ss.any fun x => x == Str.ofString "filter") = false) (hr : (ss.any fun x => x == Str.ofString "root") = true) (hw : b = true) : ({ a with heard := true, held := .root, til := some (now + qt) }, Ans.hold) = askedT a b now rc qt := by
  simp [askedT, h, hO.b.symm.trans hb, hO.f.symm.trans hf, hO.r.symm.trans hr, hw]
theorem tl_l (hO : OnRep a ss) (h : a.held = .loop) (hb : (ss.any fun x => x == Str.ofString "bpdu") = false) (hf : (ss.any fun x => x == Str.ofString "filter") = false) (hr : (ss.any fun x => x == Str.ofString "root") = false ∨ b = false) : ({ a with heard := true, held := .no }, Ans.let_) = askedT a b now rc qt := by
  rcases hr with hr | hr
  · simp [askedT, h, hO.b.symm.trans hb, hO.f.symm.trans hf, hO.r.symm.trans hr]
  · simp [askedT, h, hO.b.symm.trans hb, hO.f.symm.trans hf, hr]
theorem tl_n (hO : OnRep a ss) (h : a.held = .no ∨ a.held = .root) (hb : (ss.any fun x => x == Str.ofString "bpdu") = false) (hf : (ss.any fun x => x == Str.ofString "filter") = false) (hr : (ss.any fun x => x == Str.ofString "root") = false ∨ b = false) : ({ a with heard := true }, stands a.held) = askedT a b now rc qt := by
  rcases hr with hr | hr <;> rcases h with h | h
  · simp [askedT, h, hO.b.symm.trans hb, hO.f.symm.trans hf, hO.r.symm.trans hr]
  · simp [askedT, h, hO.b.symm.trans hb, hO.f.symm.trans hf, hO.r.symm.trans hr]
  · simp [askedT, h, hO.b.symm.trans hb, hO.f.symm.trans hf, hr]
  · simp [askedT, h, hO.b.symm.trans hb, hO.f.symm.trans hf, hr]
end
end Mine
namespace Mine
def hlS0 : Hd → Str
  | .no => Str.ofString ""
  | .shut => Str.ofString "shut"
  | .root => Str.ofString "root"
  | .loop => Str.ofString "loop"
theorem HL.str0 {H : Hd} {v : Value} (h : HL H v) : ∃ t, v = .str (hlS0 H) t := by cases h <;> exact ⟨_, rfl⟩
theorem hs_shut {H : Hd} (h : (hlS0 H == Str.ofString "shut") = true) : H = .shut := by
  cases H
  case shut => rfl
  all_goals exact absurd (beq_iff_eq.mp h) (by decide +kernel)
theorem hs_loop {H : Hd} (h : (hlS0 H == Str.ofString "loop") = true) : H = .loop := by
  cases H
  case loop => rfl
  all_goals exact absurd (beq_iff_eq.mp h) (by decide +kernel)
theorem hs_nshut {H : Hd} (h : (hlS0 H == Str.ofString "shut") = false) : H ≠ .shut := by
  rintro rfl
  exact absurd h (by rw [show hlS0 .shut = Str.ofString "shut" from rfl, beq_self_eq_true]; decide)
theorem hs_nr {H : Hd} (h : (hlS0 H == Str.ofString "shut") = false) (h2 : (hlS0 H == Str.ofString "loop") = false) : H = .no ∨ H = .root := by
  cases H
  · exact .inl rfl
  · exact absurd rfl (hs_nshut h)
  · exact .inr rfl
  · exact absurd h2 (by rw [show hlS0 .loop = Str.ofString "loop" from rfl, beq_self_eq_true]; decide)
theorem av_of {an : Ans} {H : Hd} {v : Value} (e : an = stands H) (h : AV an v) : AV (stands H) v := e ▸ h
theorem lr_any {w : World} {O : Addr} {oD : Obj} {vh vu : Value} {b : Bool} {H : Hd} {U : Option Int} (h : oD.IsDictOf (strKind Pg w) (rowsOf O vh vu b)) (hh : HL H vh) (hu : UV U vu) : Lr w ⟨false, false, false, false, H, U, b⟩ O oD := .mk _ _ h hh hu
end Mine

theorem Mine.rules_j8 : True := by
  w_top off
  k_with_none
  k_with "k_ne" => (first | exact Mine.nq (by with_reducible assumption) | exact Mine.nqs (by with_reducible assumption))
  k_with "call builtin:list.pop" => ((k_here; (with_reducible show wpAny _ _ (call (Value.builtin _) [Value.ref _, Value.int _ _]) _ _ _); k_dflt (refine' Mine.pop0 ?z205F ?z205N ?z205U ?z205z ?_; (case z205F => k_asm); (case z205N => k_asm); (case z205U => k_upd); (case z205z => first | assumption | omega)); intro h' F' N'; (try dsimp only [List.nil_append, List.cons_append] at N')))
  k_with "tb_start" => (first | assumption | (refine List.Mem.tail _ ?_; tb_start))
  k_with "ktr_rel" => (first
      | with_reducible assumption
      | (refine' Mine.ncons ?z207N ?z207m ?z207r; (case z207N => k_asm); (case z207m => k_mem); (case z207r => ktr_rel))
      | (refine' Mine.nrest ?z207N ?z207m; (case z207N => k_asm); (case z207m => (intro p hp; tb_start))))
  k_with "ktr_room" => (first | exact Mine.rm1 (by assumption) rfl | exact Mine.rm0 (by assumption) | exact Mine.rmS (Mine.rm1 (by assumption) rfl) | exact Mine.rmS (Mine.rmS (Mine.rm1 (by assumption) rfl)) | exact Mine.rmN rfl | ((try simp only [depth_under_make, depth_under_kw, depth_in1, depth_deeper, depth_caller]); (try dsimp only [ktrTop]); omega))
  k_with "k_room" => (ktr_room)
  k_with "units_room" => (first | exact Mine.rm1 (by assumption) rfl | exact Mine.rm0 (by assumption) | exact Mine.rmS (Mine.rm1 (by assumption) rfl) | exact Mine.rmS (Mine.rmS (Mine.rm1 (by assumption) rfl)) | exact Mine.rmS (Mine.rmS (Mine.rmS (Mine.rm1 (by assumption) rfl))) | exact Mine.rmN rfl | ((try simp only [units_under_make, units_in1, units_deeper, Around.mark_units, units_caller]); (try dsimp only [ktrTop]); omega))
  k_with "k_units" => (units_room)
  k_with "k_enter" => (ktr_enter)
  k_with "k_all" => (first | exact Mine.ne_sub (by assumption) (by intro p hp; tb_start) | exact Mine.ne_sub2 (by assumption) (by intro p hp; tb_start))
  k_with "eval DictComp" => ((k_here; k_dflt (refine Mine.DictComp_T (PySem.strKind _ _) (by k_asm) (by rfl) (by rfl) (by decide) (by rfl) (by decide) (by rfl) ?_ (fun _ => by with_unfolding_all rfl))))
  k_with "Exists" => ((k_here; k_dflt (refine ⟨_, _, _, rfl, by k_asm, by k_asm, Mine.tup_of_K (by k_asm) (by k_is), fun g₂ => ?_⟩)))
  k_with "DRest" => ((with_unfolding_all first
      | (refine Mine.DRest.succ (by rw [sizeLine_eq]; exact Nat.le_of_ble_eq_true rfl) ?_; intro v' I' oI' C' oC' D' oD' m' h' tk' E' hv' hC' hx' hoD' F' N' off' ne'; lcg_open hv'; (try simp only [LCg.Off3, and_true] at off'))
      | refine Mine.DRest.zero ?_))
  k_with "DEnd" => ((refine Mine.DEnd.intro (by assumption) (by assumption) _ (strKind_is _ _ _ _) (fun _ h => h) (by assumption) True.intro ?_))
  k_with "DFinE" => ((intro D' oD' h' tk' hoD' F' N' o1'; (have o2' := Mine.off1_mem o1'); (try simp only [LCg.Off1, and_true] at o1'); (try dsimp only)))
  k_with "kd_mem" => (first | exact Mine.Pos.head | exact Mine.PosF.head | (refine' Mine.Pos.tail ?z219p; (case z219p => kd_mem)) | (refine' Mine.PosF.tail ?z219p; (case z219p => kd_mem)))
  k_with "k_upd" => ((refine' Mine.upd_nd ?z220nd ?z220e ?z220p; (case z220nd => assumption); (case z220e => rfl); (case z220p => kd_mem)))
  k_with "k_updF" => (first | (refine' Mine.updF_nd ?z221nd ?z221e ?z221p; (case z221nd => assumption); (case z221e => rfl); (case z221p => kd_mem)) | (refine' UpdF.head ?z221a; (case z221a => k_all)) | (refine' UpdF.tail ?z221a ?z221b; (case z221a => k_ne); (case z221b => k_updF)))
  k_with "kd_p1" => (first | exact Mine.pk_head | (refine' Mine.pk_tail ?z222h; (case z222h => kd_p1)))
  k_with "kst_p" => (first | exact Mine.sg_here | exact Mine.sg_end | (refine' Mine.sg_tail ?z223h; (case z223h => kst_p)) | (refine' Mine.sg_app ?z223h; (case z223h => kst_p)))
  k_with "kd_p" => (first | exact List.Perm.refl _ | (refine' Mine.pk_cons ?z224h ?z224g; (case z224h => kd_p1); (case z224g => kd_p)) | (refine' Mine.pk_seg ?z224h; (case z224h => kst_p)))
  k_with "tb_rel" => (first | assumption | exact Mine.nd3 (by assumption) | exact Mine.nd3 (Mine.nd3 (by assumption)) | (refine' Mine.nd_of ?z225nd ?z225e; (case z225nd => assumption); (case z225e => rfl)) | (refine' Mine.nd_new ?z225h ?z225e ?z225n; (case z225h => assumption); (case z225e => rfl); (case z225n => tb_rel)) | (refine' Mine.nd_new2 ?z225h ?z225g ?z225e ?z225n; (case z225h => assumption); (case z225g => assumption); (case z225e => rfl); (case z225n => tb_rel)) | (refine' Mine.nd_new1 ?z225h ?z225e ?z225n; (case z225h => assumption); (case z225e => rfl); (case z225n => tb_rel)))
  k_with "subscriptTail" => ((k_here; k_dflt (first
      | ((with_reducible show wpAny _ _ (subscriptTail _ _ (Value.ref _) (Value.str _ _)) _ _ _); refine kda_item (knd := PySem.strKind _ _) (by k_asm) (by k_mem) (by k_asm) (strKind_is _ _ _ _) (by first | assumption | rfl) ?_)
      | ((with_reducible show wpAny _ _ (subscriptTail _ _ (Value.ref _) (Value.int _ _)) _ _ _); refine kda_item (knd := PySem.intKind _ _) (by k_asm) (by k_mem) (by k_asm) (intKind_is _ _ _ _) (by first | assumption | rfl | exact Mine.val_new (by assumption)) ?_))))
  k_with "setItem ref str" => ((k_here; k_dflt (refine' kda_set (knd := PySem.strKind _ _) ?z227F ?z227N ?z227U ?z227d (strKind_is _ _ _ _) ?z227z ?_; (case z227F => k_asm); (case z227N => k_asm); (case z227U => k_updF); (case z227d => k_asm); (case z227z => first | kob_size | assumption)); intro h' o' F' N' hd'; (try kob_lit); (try dsimp only at N')))
  k_with "setItem ref int" => ((k_here; k_dflt (refine' kda_set (knd := PySem.intKind _ _) ?z228F ?z228N ?z228U ?z228d (intKind_is _ _ _ _) ?z228z ?_; (case z228F => k_asm); (case z228N => k_asm); (case z228U => k_updF); (case z228d => k_asm); (case z228z => first | kob_size | assumption)); intro h' o' F' N' hd'; (try kob_lit); (try dsimp only at N')))
  k_with "compareOp NotIn int ref" => ((k_here; k_dflt (first
      | refine kdg_notin (knd := PySem.intKind _ _) (by k_asm) (by k_mem) (by k_asm) (by k_asm) (intKind_is _ _ _ _) true (by first | assumption | rfl | exact Mine.iss (by assumption) | exact Mine.isn (by assumption)) ?_
      | refine kdg_notin (knd := PySem.intKind _ _) (by k_asm) (by k_mem) (by k_asm) (by k_asm) (intKind_is _ _ _ _) false (by first | assumption | rfl | exact Mine.iss (by assumption) | exact Mine.isn (by assumption)) ?_); (try dsimp only [Bool.not_true, Bool.not_false])))
  k_with "getItem ref int" => ((k_here; k_dflt (refine Mine.get_dict (knd := PySem.intKind _ _) (by k_asm) (by k_mem) (by k_asm) (intKind_is _ _ _ _) (by first | assumption | rfl | exact Mine.val_new (by assumption)) ?_)))
  k_with "getItem ref str" => ((k_here; k_dflt (refine Mine.get_dict (knd := PySem.strKind _ _) (by k_asm) (by k_mem) (by k_asm) (strKind_is _ _ _ _) (by first | assumption | rfl) ?_)))
  k_with "execs cons" => (((with_reducible refine Mine.st_norm s rfl rfl rfl ?_); intro tk'))
  k_with "k_handed" => (first | exact Mine.hl_in (by assumption) | exact Mine.uv_in (by assumption) | exact Mine.av_in (by assumption))
  k_with "call ref" => ((k_here; (with_reducible show wpAny _ _ (call (Value.ref 265) _) _ _ _); k_dflt (refine' Mine.letgoL_c ?z234B ?z234F ?z234X ?z234T ?z234k ?z234d ?z234u ?z234N ?z234P1 ?z234nd ?z234hD ?_; (case z234B => k_asm); (case z234F => k_asm); (case z234X => k_asm); (case z234T => k_asm); (case z234k => first | exact rfl | assumption); (case z234d => ktr_room); (case z234u => units_room); (case z234N => k_asm); (case z234P1 => kd_p); (case z234nd => tb_rel); (case z234hD => kst_p1)); intro h' tk' oD' a1' hA' hD' F' N' nd'; (try dsimp only at N'); (try dsimp only at nd'); (try dsimp only); ktr_units))
  k_with "call ref" => ((k_here; (with_reducible show wpAny _ _ (call (Value.ref 272) _) _ _ _); k_dflt (refine' Mine.standsL_c ?z235B ?z235F ?z235X ?z235T ?z235k ?z235d ?z235u ?z235N ?z235P1 ?z235hD ?_; (case z235B => k_asm); (case z235F => k_asm); (case z235X => k_asm); (case z235T => k_asm); (case z235k => first | exact rfl | assumption); (case z235d => ktr_room); (case z235u => units_room); (case z235N => k_asm); (case z235P1 => kd_p); (case z235hD => kst_p1)); intro h' tk' v' an' hA' hV' F' N'; (try dsimp only at N'); (try dsimp only)))
  k_with "ktr_units" => (skip)
  k_with "kst_p1" => (first | with_reducible assumption | exact Mine.lr_any (by assumption) (by first | assumption | exact Mine.HL.no _ | exact Mine.HL.root _) (by first | assumption | exact Mine.UV.none | exact Mine.UV.some _ _))
  k_with "compareOp In str ref" => ((k_here; (with_reducible show wpAny _ _ (compareOp CmpOp.In (Value.str _ _) (Value.ref _)) _ _ _); refine' Mine.in_on ?z238k1 ?z238k2 ?z238k3 ?_; (case z238k1 => exact News.isList (by k_asm) (by news_mem)); (case z238k2 => assumption); (case z238k3 => with_reducible assumption)))
  k_with "ktr_units" => (((with_reducible rename (_ = Mine.letgo _ _) => hA8); (with_reducible rename Mine.Lr _ _ _ _ => hD8); (with_reducible rename Mine.St => a8); rcases a8 with ⟨kr', kb', kf', kl', H', U', hr'⟩; rcases hD8 with ⟨vh8, vu8, hD8, hH8, hU8⟩; (try dsimp only at hD8); (try dsimp only at hH8); (try dsimp only at hU8); (obtain ⟨th8, hv8⟩ := Mine.HL.str0 hH8); subst hv8))
  trivial

namespace Mine
section
variable {w : World} {A₀ : Around} {base : Heap} {outer : List Env} {h₀ : Heap} {mean : ExcName → Option Value} {mg mb : Str → Option Value} {cs : Scope} {dp un : Nat} {gd : Option (List Code)} {cn : Str} {L a : Addr} {ccd : Value} {cl : List (Str × Addr)} {s : Shared} {m : Str → Option Value} {rest : List (Addr × Obj)} {Q E : Value → Shared → Prop}
  (B : Below A₀ base outer h₀) (F : Fr h₀ L s.heap m) (X : (hd.heap_1 w.params).In h₀) (T : Top qv Lo mean mg mb h₀) (k : cs.kind = .function) (d : dp + 14 < recursionLimit) (u : un + 260 < cLine)
include B F X T k d u
theorem askedL_c {D O : Addr} {oD : Obj} {n : Nat} {vs : List Value} {ss : List Str} {a0 : St} {now wy rc qt : Int} {tn ty tr tq : Tok} {cur : List (Addr × Obj)}
  (N : News h₀ L s.heap cur) (P1 : cur.Perm ((D, oD) :: (O, listOf vs.toArray n) :: rest)) (nd : Nd cur) (hD : Lr w a0 O oD) (hS : StrsAre vs ss) (hO : OnRep a0 ss) (hrc : 0 ≤ rc)
  (ret : ∀ h' tk' v oD' a1 an, (a1, an) = askedT (letgo a0 now) (decide (wy = 0)) now rc qt → AV an v → Lr w a1 O oD' → Fr h₀ L h' m → News h₀ L h' ((D, oD') :: (O, listOf vs.toArray n) :: rest) → Nd ((D, oD') :: (O, listOf vs.toArray n) :: rest) → Q v { s with heap := h', toks := tk' }) :
  wpAny (model Pg w) (ktrTop dp un gd cn cs L a ccd cl outer) (call (.ref 279) [.ref D, .int wy ty, .int now tn, .int rc tr, .int qt tq]) Q E s := by
  replace N := news_perm N P1
  replace nd := nd_perm nd P1
  replace hO := hO.letgo (now := now)
  rcases a0 with ⟨kr, kb, kf, kl, H, U, hr⟩
  refine wpAny_call ?_
  k_dflt ktr_enter
  k_steps
  all_goals (with_reducible rename (_ = Mine.letgo _ _) => hA7)
  all_goals rw [← hA7] at ret hO
  all_goals first
    | exact ret _ _ _ _ _ _ (tl_shut (hs_shut (by assumption))) (AV.shut _) (.mk _ _ (by assumption) (by assumption) (by assumption)) (by assumption) (by ktr_rel) (by tb_rel)
    | exact ret _ _ _ _ _ _ (tl_b1 hO (hs_nshut (by assumption)) (by assumption) (by omega)) (AV.shut _) (.mk _ _ (by assumption) (HL.shut _) (UV.some _ _)) (by assumption) (by ktr_rel) (by tb_rel)
    | exact ret _ _ _ _ _ _ (tl_b0 hO (hs_nshut (by assumption)) (by assumption) (by omega)) (AV.shut _) (.mk _ _ (by assumption) (HL.shut _) UV.none) (by assumption) (by ktr_rel) (by tb_rel)
    | exact ret _ _ _ _ _ _ (tl_f hO (hs_nshut (by assumption)) (by assumption) (by assumption)) (AV.drop _) (.mk _ _ (by assumption) (by assumption) (by assumption)) (by assumption) (by ktr_rel) (by tb_rel)
    | exact ret _ _ _ _ _ _ (tl_r hO (hs_nshut (by assumption)) (by assumption) (by assumption) (by assumption) (by simp; omega)) (av_of (H := .root) (by assumption) (by assumption)) (.mk _ _ (by assumption) (HL.root _) (UV.some _ _)) (by assumption) (by ktr_rel) (by tb_rel)
    | exact ret _ _ _ _ _ _ (tl_l hO (hs_loop (by assumption)) (by assumption) (by assumption) (by first | (left; assumption) | (right; simp; omega))) (av_of (H := .no) (by assumption) (by assumption)) (.mk _ _ (by assumption) (HL.no _) (by assumption)) (by assumption) (by ktr_rel) (by tb_rel)
    | exact ret _ _ _ _ _ _ (tl_n hO (hs_nr (by assumption) (by assumption)) (by assumption) (by assumption) (by first | (left; assumption) | (right; simp; omega))) (av_of (by assumption) (by assumption)) (.mk _ _ (by assumption) (by assumption) (by assumption)) (by assumption) (by ktr_rel) (by tb_rel)
    | fail
end
end Mine

namespace Mine
/-- what the order of two vectors says, where the Bpdu is no notice of a change -/
structure CmpOk (w : World) (kd : Str) (vec av : Value) (bt : Bool) (tl : List (Addr × Obj)) : Prop where
  hin : handedIn vec = true
  ch : kd = Str.ofString "change" → bt = false
  lt : kd ≠ Str.ofString "change" → ∀ (A : Around) (Q E : Value → Shared → Prop) (s : Shared), A.units + 64 < cLine → (∀ q ∈ tl, s.heap.get? q.1 = some q.2) → (∀ tk, Q (.bool bt) { s with toks := tk }) → wpAny (model Pg w) A (compareOp .Lt vec av) Q E s
theorem CmpOk.use {w : World} {h₀ : Heap} {L : Addr} {kd : Str} {vec av : Value} {bt : Bool} {tl cur : List (Addr × Obj)} {A : Around} {Q E : Value → Shared → Prop} {s : Shared} (hc : CmpOk w kd vec av bt tl) (hu : A.units + 64 < cLine) (N : News h₀ L s.heap cur) (hs : ∀ q, q ∈ tl → q ∈ cur) (hn : (kd != Str.ofString "change") = true)
    (h : ∀ tk, Q (.bool bt) { s with toks := tk }) : wpAny (model Pg w) A (compareOp .Lt vec av) Q E s := hc.lt (bne_iff_ne.mp hn) A Q E s hu (fun q hq => (N q (hs q hq)).1) h
theorem CmpOk.chg {w : World} {kd : Str} {vec av : Value} {bt : Bool} {tl : List (Addr × Obj)} (hc : CmpOk w kd vec av bt tl) (hn : (kd != Str.ofString "change") = false) : bt = false := hc.ch (by simpa using hn)
theorem tl_in {tl a : List (Addr × Obj)} : ∀ q, q ∈ tl → q ∈ tl ++ a := fun _ h => List.mem_append_left _ h
theorem tl_tail {tl a : List (Addr × Obj)} {p : Addr × Obj} (h : ∀ q, q ∈ tl → q ∈ a) : ∀ q, q ∈ tl → q ∈ p :: a := fun q hq => List.mem_cons_of_mem _ (h q hq)
section
variable {kr kb kf kl hr bt : Bool} {H : Hd} {U : Option Int} {now rc qt : Int}
theorem gs_shut : ((⟨kr, kb, kf, kl, .shut, U, hr⟩ : St), Ans.shut) = askedT ⟨kr, kb, kf, kl, .shut, U, hr⟩ bt now rc qt := by simp [askedT]
theorem gs_b1 (h : H ≠ .shut) (hb : kb = true) (hc : 0 < rc) : ((⟨kr, kb, kf, kl, .shut, some (now + rc), hr⟩ : St), Ans.shut) = askedT ⟨kr, kb, kf, kl, H, U, hr⟩ bt now rc qt := by simp [askedT, h, hb, hc]
theorem gs_b0 (h : H ≠ .shut) (hb : kb = true) (hc : ¬ 0 < rc) : ((⟨kr, kb, kf, kl, .shut, none, hr⟩ : St), Ans.shut) = askedT ⟨kr, kb, kf, kl, H, U, hr⟩ bt now rc qt := by simp [askedT, h, hb, hc]
theorem gs_f (h : H ≠ .shut) (hb : kb = false) (hf : kf = true) : ((⟨kr, kb, kf, kl, H, U, hr⟩ : St), Ans.drop) = askedT ⟨kr, kb, kf, kl, H, U, hr⟩ bt now rc qt := by simp [askedT, h, hb, hf]
theorem gs_r (h : H ≠ .shut) (hb : kb = false) (hf : kf = false) (hk : kr = true) (ht : bt = true) : ((⟨kr, kb, kf, kl, .root, some (now + qt), true⟩ : St), Ans.hold) = askedT ⟨kr, kb, kf, kl, H, U, hr⟩ bt now rc qt := by simp [askedT, h, hb, hf, hk, ht]
theorem gs_l (h : H = .loop) (hb : kb = false) (hf : kf = false) (hk : kr = false ∨ bt = false) : ((⟨kr, kb, kf, kl, .no, U, true⟩ : St), Ans.let_) = askedT ⟨kr, kb, kf, kl, H, U, hr⟩ bt now rc qt := by
  rcases hk with hk | hk <;> simp [askedT, h, hb, hf, hk]
theorem gs_n (h : H = .no ∨ H = .root) (hb : kb = false) (hf : kf = false) (hk : kr = false ∨ bt = false) : ((⟨kr, kb, kf, kl, H, U, true⟩ : St), stands H) = askedT ⟨kr, kb, kf, kl, H, U, hr⟩ bt now rc qt := by
  rcases hk with hk | hk <;> rcases h with h | h <;> simp [askedT, h, hb, hf, hk]
end
end Mine
namespace Mine
theorem sub_b {g1 g2 g3 w1 w2 w3 bp bd : Addr × Obj} {tl rest : List (Addr × Obj)} : (g1 :: g2 :: g3 :: w1 :: w2 :: w3 :: rest).Sublist (g1 :: g2 :: g3 :: w1 :: w2 :: w3 :: bp :: bd :: (tl ++ (rest ++ []))) := by
  rw [List.append_nil]
  exact (((((((List.sublist_append_right _ _).cons _).cons _).cons_cons _).cons_cons _).cons_cons _).cons_cons _).cons_cons _ |>.cons_cons _
theorem end_b {w : World} {h₀ h' : Heap} {L G GD GR W WD WK BP BD : Addr} {o1 o2 oR oK ob1 ob2 : Obj} {es es' : List (Int × Value)} {p : Int} {vh vu : Value} {kr kb kf kl b : Bool} {H : Hd} {U : Option Int} {t1 t2 t3 t4 : Tok} {tl rest : List (Addr × Obj)} (hE : EsStep es p es' W)
    (N : News h₀ L h' ((G, o1) :: (GD, o2) :: (GR, oR) :: (W, instObj 77 WD) :: (WD, wdObj w WK vh vu b t1 t2 t3 t4) :: (WK, oK) :: (BP, ob1) :: (BD, ob2) :: (tl ++ (rest ++ [])))) (nd : Nd ((G, o1) :: (GD, o2) :: (GR, oR) :: (W, instObj 77 WD) :: (WD, wdObj w WK vh vu b t1 t2 t3 t4) :: (WK, oK) :: (BP, ob1) :: (BD, ob2) :: (tl ++ (rest ++ []))))
    (hk : oK.IsDictOf (strKind Pg w) (kindsOf kr kb kf kl)) (hh : HG H vh) (hu : UV U vu) :
    ∃ seg', Seg w ⟨kr, kb, kf, kl, H, U, b⟩ W seg' ∧ PSeg w es' p ⟨kr, kb, kf, kl, H, U, b⟩ seg' ∧ News h₀ L h' ((G, o1) :: (GD, o2) :: (GR, oR) :: (rest ++ seg')) ∧ Nd ((G, o1) :: (GD, o2) :: (GR, oR) :: (rest ++ seg')) :=
  end_c hE (fun p hp => N p (sub_b.mem hp)) (nd.sublist (sub_b.map _)) hk hh hu
end Mine

namespace Mine
section
variable {prog : Program} {w : World} {A : Around} {E : Value → Shared → Prop} {s : Shared} {Q : Value → Shared → Prop}
theorem eq_hgs {H : Hd} {v : Value} {t : Tok} (h : HG H v) (q : Q (.bool (decide (H = .shut))) s) : wpAny (model prog w) A (compareOp .Eq v (.str (Str.ofString "shut") t)) Q E s := by
  cases h with
  | no => exact EqNone.eq_none_str q
  | shut t => exact eq_str (by rw [show (Str.ofString "shut" == Str.ofString "shut") = true by decide +kernel]; exact q)
  | root t => exact eq_str (by rw [show (Str.ofString "root" == Str.ofString "shut") = false by decide +kernel]; exact q)
  | loop t => exact eq_str (by rw [show (Str.ofString "loop" == Str.ofString "shut") = false by decide +kernel]; exact q)
theorem eq_hgl {H : Hd} {v : Value} {t : Tok} (h : HG H v) (q : Q (.bool (decide (H = .loop))) s) : wpAny (model prog w) A (compareOp .Eq v (.str (Str.ofString "loop") t)) Q E s := by
  cases h with
  | no => exact EqNone.eq_none_str q
  | shut t => exact eq_str (by rw [show (Str.ofString "shut" == Str.ofString "loop") = false by decide +kernel]; exact q)
  | root t => exact eq_str (by rw [show (Str.ofString "root" == Str.ofString "loop") = false by decide +kernel]; exact q)
  | loop t => exact eq_str (by rw [show (Str.ofString "loop" == Str.ofString "loop") = true by decide +kernel]; exact q)
theorem is_hg0 {H : Hd} {v : Value} (h : HG H v) (q : Q (.bool (decide (H = .no))) s) : wpAny (model prog w) A (compareOp .Is v .none) Q E s := by
  cases h with
  | no => exact wpAny_is_self (by rfl) q
  | shut t => exact wpAny_is_other (by rfl) (by intro x; cases x) q
  | root t => exact wpAny_is_other (by rfl) (by intro x; cases x) q
  | loop t => exact wpAny_is_other (by rfl) (by intro x; cases x) q
end
section
variable {kr kb kf kl hr bt : Bool} {H : Hd} {U : Option Int} {now rc qt : Int}
theorem gs_shutH (h : H = .shut) : ((⟨kr, kb, kf, kl, H, U, hr⟩ : St), Ans.shut) = askedT ⟨kr, kb, kf, kl, H, U, hr⟩ bt now rc qt := by simp [askedT, h]
theorem gs_nl (h : H = .no) (hb : kb = false) (hf : kf = false) (hk : kr = false ∨ bt = false) : ((⟨kr, kb, kf, kl, H, U, true⟩ : St), Ans.let_) = askedT ⟨kr, kb, kf, kl, H, U, hr⟩ bt now rc qt := by
  rcases hk with hk | hk <;> simp [askedT, h, hb, hf, hk, stands]
theorem gs_nh (h1 : ¬ H = .shut) (h2 : ¬ H = .loop) (h3 : ¬ H = .no) (hb : kb = false) (hf : kf = false) (hk : kr = false ∨ bt = false) : ((⟨kr, kb, kf, kl, H, U, true⟩ : St), Ans.hold) = askedT ⟨kr, kb, kf, kl, H, U, hr⟩ bt now rc qt := by
  have h : H = .root := by cases H <;> simp_all
  rcases hk with hk | hk <;> simp [askedT, h, hb, hf, hk, stands]
end
end Mine

namespace Mine
open PySem.Spec PySem.Calls
abbrev tupO (vs : Array Value) : Obj := { cls := .type "tuple", data := .seq vs }
/-- a vector's objects: its cost x -/
inductive Vec (x : Int) (v : Addr) : List (Addr × Obj) → Prop
  | mk (d1 d2 d3 : Addr) (t1 t2 t3 t4 t5 t6 t7 : Tok) : Vec x v [(v, tupO #[.ref d1, .int x t1, .ref d2, .ref d3]), (d3, tupO #[.int 128 t2, .int 1 t3]), (d2, tupO #[.int 8192 t4, .int 2 t5]), (d1, tupO #[.int 4096 t6, .int 1 t7])]
section
variable {prog : Program} {w : World} {A : Around} {E : Value → Shared → Prop} {s : Shared}
theorem tup_key {a : Addr} {x y : Int} {t u : Tok} (e : s.heap.get? a = some (tupO #[.int x t, .int y u])) : IsTupleKey (intKind prog w) s.heap [x, y] a :=
  ⟨_, _, _, e, rfl, rfl, .cons (intKind_is _ _ _ _) (.cons (intKind_is _ _ _ _) .nil)⟩
theorem tup_is {a : Addr} {vs : Array Value} (e : s.heap.get? a = some (tupO vs)) : s.heap.IsTuple a vs := ⟨_, e, rfl, _, rfl⟩
theorem vec_lt {x y : Int} {a b : Addr} {ta tb : List (Addr × Obj)} {Q : Value → Shared → Prop} (hu : A.units + 64 < cLine) (ha : Vec x a ta) (hb : Vec y b tb) (na : ∀ q ∈ ta, s.heap.get? q.1 = some q.2) (nb : ∀ q ∈ tb, s.heap.get? q.1 = some q.2)
    (h : Q (.bool (decide (x < y))) s) : wpAny (model prog w) A (compareOp .Lt (.ref a) (.ref b)) Q E s := by
  have hu' : A.units < cLine := by omega
  cases ha with
  | mk d1 d2 d3 t1 t2 t3 t4 t5 t6 t7 =>
    cases hb with
    | mk e1 e2 e3 u1 u2 u3 u4 u5 u6 u7 =>
      have ea := na _ (List.Mem.head _)
      have ea3 := na _ (.tail _ (List.Mem.head _))
      have ea2 := na _ (.tail _ (.tail _ (List.Mem.head _)))
      have ea1 := na _ (.tail _ (.tail _ (.tail _ (List.Mem.head _))))
      have eb := nb _ (List.Mem.head _)
      have eb3 := nb _ (.tail _ (List.Mem.head _))
      have eb2 := nb _ (.tail _ (.tail _ (List.Mem.head _)))
      have eb1 := nb _ (.tail _ (.tail _ (.tail _ (List.Mem.head _))))
      dsimp only at ea ea1 ea2 ea3 eb eb1 eb2 eb3
      show wpAny _ _ (richCompare .Lt (.ref a) (.ref b)) _ _ _
      refine wpAny_richCompare_same_room (op := .Lt) (tup_is ea).typeIs (tup_is eb).typeIs F.slot_tuple_lt
        (wpAny_call_entry F.slot_tuple_lt (tup_is ea).typeIs F.entry_tuple_lt ?_ (F.args_tuple_lt_2 _ _)) hu'
      show wpAny _ _ (isInstance (.ref b) (.type "tuple") >>= _) _ _ s
      refine wpAny_bind (wpAny_isInstance (tup_is eb).typeIs isSubtype_tuple_tuple ?_)
      simp only [Bool.not_true, Bool.false_eq_true, if_false]
      refine wpAny_bind (wpAny_tupleItemsOf ea rfl ?_)
      refine wpAny_bind (wpAny_tupleItemsOf eb rfl ?_)
      have hu2 : A.in1.units < cLine := by rw [units_in1]; omega
      refine wpAny_bind ?_
      show wpAny _ _ (forIn [(Value.ref d1, Value.ref e1), (Value.int x t1, Value.int y u1), (Value.ref d2, Value.ref e2), (Value.ref d3, Value.ref e3)] _ _) _ _ _
      rw [List.forIn_cons]
      refine wpAny_bind (wpAny_bind (wpAny_eqBool_tuple (knd := intKind prog w) hu2 (tup_key ea1) (tup_key eb1) ?_))
      rw [decide_eq_true rfl]
      simp only [Bool.not_true, Bool.false_eq_true, if_false]
      refine wpAny_pure ?_
      dsimp only
      rw [List.forIn_cons]
      refine wpAny_bind (wpAny_bind (wpAny_eqBool_int ?_))
      by_cases hxy : x = y
      · subst hxy
        rw [beq_self_eq_true]
        simp only [Bool.not_true, Bool.false_eq_true, if_false]
        refine wpAny_pure ?_
        dsimp only
        rw [List.forIn_cons]
        refine wpAny_bind (wpAny_bind (wpAny_eqBool_tuple (knd := intKind prog w) hu2 (tup_key ea2) (tup_key eb2) ?_))
        rw [decide_eq_true rfl]
        simp only [Bool.not_true, Bool.false_eq_true, if_false]
        refine wpAny_pure ?_
        dsimp only
        rw [List.forIn_cons]
        refine wpAny_bind (wpAny_bind (wpAny_eqBool_tuple (knd := intKind prog w) hu2 (tup_key ea3) (tup_key eb3) ?_))
        rw [decide_eq_true rfl]
        simp only [Bool.not_true, Bool.false_eq_true, if_false]
        refine wpAny_pure ?_
        dsimp only
        rw [List.forIn_nil]
        refine wpAny_pure ?_
        rw [decide_eq_false (Int.lt_irrefl x)] at h
        exact wpAny_pure ⟨_, rfl, (fun e => nomatch e), h⟩
      · rw [beq_eq_false_iff_ne.mpr hxy]
        simp only [Bool.not_false, if_true]
        refine wpAny_bind (wpAny_rule (wpAny_bind ?_))
        refine (show wpAny (model prog w) A.in1 (compareOp .Lt (.int x t1) (.int y u1)) _ _ _ from lt_int ?_)
        refine wpAny_bind (wpAny_pure (wpAny_pure (wpAny_pure ?_)))
        exact (show wpAny (model prog w) A.in1 (pure _) _ _ _ from wpAny_pure ⟨_, rfl, (fun e => nomatch e), h⟩)
end
end Mine
namespace Mine
/-- the Bpdu that the law makes -/
inductive BpR (n : Int) : Str → Value → List (Addr × Obj) → Prop
  | ch : n = 3 → BpR n (Str.ofString "change") .none []
  | rap (D : Addr) (tl : List (Addr × Obj)) : n ≠ 3 → Vec (([5, 10, 15] : List Int).getD n.toNat 0) D tl → BpR n (Str.ofString "rapid") (.ref D) tl
theorem cost_lt {n : Int} (h0 : 0 ≤ n) (h3 : n < 4) (hn : n ≠ 3) : decide ((([5, 10, 15] : List Int).getD n.toNat 0) < 10) = decide (n = 0) := by
  have : n = 0 ∨ n = 1 ∨ n = 2 := by omega
  rcases this with rfl | rfl | rfl <;> decide
theorem BpR.cmp {w : World} {n : Int} {kd : Str} {vec : Value} {tl tv : List (Addr × Obj)} {V : Addr} (h : BpR n kd vec tl) (h0 : 0 ≤ n) (h4 : n < 4) (hv : Vec 10 V tv) : CmpOk w kd vec (.ref V) (decide (n = 0)) (tl ++ tv) := by
  cases h with
  | ch h => exact ⟨rfl, fun _ => by subst h; rfl, fun q => absurd rfl q⟩
  | rap D tl hn hd => exact ⟨rfl, fun e => absurd e (by decide +kernel), fun _ A Q E s hu hs hq => vec_lt hu hd hv (fun q m => hs q (List.mem_append_left _ m)) (fun q m => hs q (List.mem_append_right _ m)) (by rw [cost_lt h0 h4 hn]; exact hq _)⟩
end Mine

namespace Mine
theorem lt_sub {l l' : List (Addr × Obj)} {d : Addr} (h : ∀ p ∈ l', @LT.lt Nat _ p.1 d) (hs : ∀ p, p ∈ l → p ∈ l') : ∀ p ∈ l, @LT.lt Nat _ p.1 d := fun p hp => h p (hs p hp)
theorem lt_cons {l : List (Addr × Obj)} {q : Addr × Obj} {d : Addr} (h : @LT.lt Nat _ q.1 d) (hs : ∀ p ∈ l, @LT.lt Nat _ p.1 d) : ∀ p ∈ q :: l, @LT.lt Nat _ p.1 d := fun p hp => by
  rcases List.mem_cons.mp hp with rfl | hp
  · exact h
  · exact hs p hp
theorem nd_one {d : Addr} {o : Obj} {l : List (Addr × Obj)} (h : ∀ p ∈ l, @LT.lt Nat _ p.1 d) (nd : Nd l) : Nd ((d, o) :: l) := nd_new h rfl nd
theorem nd_pair {x d : Addr} {ox od : Obj} {l : List (Addr × Obj)} (h : ∀ p ∈ l, @LT.lt Nat _ p.1 d) (h2 : @LT.lt Nat _ d x) (nd : Nd l) : Nd ((x, ox) :: (d, od) :: l) := nd_new2 h h2 rfl nd
end Mine

theorem Mine.rules_j9 : True := by
  w_top off
  k_with_none
  k_with "k_ne" => (first | exact Mine.nq (by with_reducible assumption) | exact Mine.nqs (by with_reducible assumption))
  k_with "call builtin:list.pop" => ((k_here; (with_reducible show wpAny _ _ (call (Value.builtin _) [Value.ref _, Value.int _ _]) _ _ _); k_dflt (refine' Mine.pop0 ?z241F ?z241N ?z241U ?z241z ?_; (case z241F => k_asm); (case z241N => k_asm); (case z241U => k_upd); (case z241z => first | assumption | omega)); intro h' F' N'; (try dsimp only [List.nil_append, List.cons_append] at N')))
  k_with "tb_start" => (first | assumption | (refine List.Mem.tail _ ?_; tb_start))
  k_with "ktr_rel" => (first
      | with_reducible assumption
      | (refine' Mine.ncons ?z243N ?z243m ?z243r; (case z243N => k_asm); (case z243m => k_mem); (case z243r => ktr_rel))
      | (refine' Mine.nrest ?z243N ?z243m; (case z243N => k_asm); (case z243m => (intro p hp; tb_start))))
  k_with "ktr_room" => (first | exact Mine.rm1 (by assumption) rfl | exact Mine.rm0 (by assumption) | exact Mine.rmS (Mine.rm1 (by assumption) rfl) | exact Mine.rmS (Mine.rmS (Mine.rm1 (by assumption) rfl)) | exact Mine.rmN rfl | ((try simp only [depth_under_make, depth_under_kw, depth_in1, depth_deeper, depth_caller]); (try dsimp only [ktrTop]); omega))
  k_with "k_room" => (ktr_room)
  k_with "units_room" => (first | exact Mine.rm1 (by assumption) rfl | exact Mine.rm0 (by assumption) | exact Mine.rmS (Mine.rm1 (by assumption) rfl) | exact Mine.rmS (Mine.rmS (Mine.rm1 (by assumption) rfl)) | exact Mine.rmS (Mine.rmS (Mine.rmS (Mine.rm1 (by assumption) rfl))) | exact Mine.rmN rfl | ((try simp only [units_under_make, units_in1, units_deeper, Around.mark_units, units_caller]); (try dsimp only [ktrTop]); omega))
  k_with "k_units" => (units_room)
  k_with "k_enter" => (ktr_enter)
  k_with "k_all" => (first | exact Mine.ne_sub (by assumption) (by intro p hp; tb_start) | exact Mine.ne_sub2 (by assumption) (by intro p hp; tb_start))
  k_with "eval DictComp" => ((k_here; k_dflt (refine Mine.DictComp_T (PySem.strKind _ _) (by k_asm) (by rfl) (by rfl) (by decide) (by rfl) (by decide) (by rfl) ?_ (fun _ => by with_unfolding_all rfl))))
  k_with "Exists" => ((k_here; k_dflt (refine ⟨_, _, _, rfl, by k_asm, by k_asm, Mine.tup_of_K (by k_asm) (by k_is), fun g₂ => ?_⟩)))
  k_with "DRest" => ((with_unfolding_all first
      | (refine Mine.DRest.succ (by rw [sizeLine_eq]; exact Nat.le_of_ble_eq_true rfl) ?_; intro v' I' oI' C' oC' D' oD' m' h' tk' E' hv' hC' hx' hoD' F' N' off' ne'; lcg_open hv'; (try simp only [LCg.Off3, and_true] at off'))
      | refine Mine.DRest.zero ?_))
  k_with "DEnd" => ((refine Mine.DEnd.intro (by assumption) (by assumption) _ (strKind_is _ _ _ _) (fun _ h => h) (by assumption) True.intro ?_))
  k_with "DFinE" => ((intro D' oD' h' tk' hoD' F' N' o1'; (have o2' := Mine.off1_mem o1'); (try simp only [LCg.Off1, and_true] at o1'); (try dsimp only)))
  k_with "kd_mem" => (first | exact Mine.Pos.head | exact Mine.PosF.head | (refine' Mine.Pos.tail ?z255p; (case z255p => kd_mem)) | (refine' Mine.PosF.tail ?z255p; (case z255p => kd_mem)))
  k_with "k_upd" => ((refine' Mine.upd_nd ?z256nd ?z256e ?z256p; (case z256nd => assumption); (case z256e => rfl); (case z256p => kd_mem)))
  k_with "k_updF" => (first | (refine' Mine.updF_nd ?z257nd ?z257e ?z257p; (case z257nd => assumption); (case z257e => rfl); (case z257p => kd_mem)) | (refine' UpdF.head ?z257a; (case z257a => k_all)) | (refine' UpdF.tail ?z257a ?z257b; (case z257a => k_ne); (case z257b => k_updF)))
  k_with "kd_p1" => (first | exact Mine.pk_head | (refine' Mine.pk_tail ?z258h; (case z258h => kd_p1)))
  k_with "kst_p" => (first | exact Mine.sg_here | exact Mine.sg_end | (refine' Mine.sg_tail ?z259h; (case z259h => kst_p)) | (refine' Mine.sg_app ?z259h; (case z259h => kst_p)))
  k_with "kd_p" => (first | exact List.Perm.refl _ | (refine' Mine.pk_cons ?z260h ?z260g; (case z260h => kd_p1); (case z260g => kd_p)) | (refine' Mine.pk_seg ?z260h; (case z260h => kst_p)))
  k_with "tb_rel" => (first | assumption | exact Mine.nd3 (by assumption) | exact Mine.nd3 (Mine.nd3 (by assumption)) | (refine' Mine.nd_of ?z261nd ?z261e; (case z261nd => assumption); (case z261e => rfl)) | (refine' Mine.nd_new ?z261h ?z261e ?z261n; (case z261h => assumption); (case z261e => rfl); (case z261n => tb_rel)) | (refine' Mine.nd_new2 ?z261h ?z261g ?z261e ?z261n; (case z261h => assumption); (case z261g => assumption); (case z261e => rfl); (case z261n => tb_rel)) | (refine' Mine.nd_new1 ?z261h ?z261e ?z261n; (case z261h => assumption); (case z261e => rfl); (case z261n => tb_rel)))
  k_with "subscriptTail" => ((k_here; k_dflt (first
      | ((with_reducible show wpAny _ _ (subscriptTail _ _ (Value.ref _) (Value.str _ _)) _ _ _); refine kda_item (knd := PySem.strKind _ _) (by k_asm) (by k_mem) (by k_asm) (strKind_is _ _ _ _) (by first | assumption | rfl) ?_)
      | ((with_reducible show wpAny _ _ (subscriptTail _ _ (Value.ref _) (Value.int _ _)) _ _ _); refine kda_item (knd := PySem.intKind _ _) (by k_asm) (by k_mem) (by k_asm) (intKind_is _ _ _ _) (by first | assumption | rfl | exact Mine.val_new (by assumption)) ?_))))
  k_with "setItem ref str" => ((k_here; k_dflt (refine' kda_set (knd := PySem.strKind _ _) ?z263F ?z263N ?z263U ?z263d (strKind_is _ _ _ _) ?z263z ?_; (case z263F => k_asm); (case z263N => k_asm); (case z263U => k_updF); (case z263d => k_asm); (case z263z => first | kob_size | assumption)); intro h' o' F' N' hd'; (try kob_lit); (try dsimp only at N')))
  k_with "setItem ref int" => ((k_here; k_dflt (refine' kda_set (knd := PySem.intKind _ _) ?z264F ?z264N ?z264U ?z264d (intKind_is _ _ _ _) ?z264z ?_; (case z264F => k_asm); (case z264N => k_asm); (case z264U => k_updF); (case z264d => k_asm); (case z264z => first | kob_size | assumption)); intro h' o' F' N' hd'; (try kob_lit); (try dsimp only at N')))
  k_with "compareOp NotIn int ref" => ((k_here; k_dflt (first
      | refine kdg_notin (knd := PySem.intKind _ _) (by k_asm) (by k_mem) (by k_asm) (by k_asm) (intKind_is _ _ _ _) true (by first | assumption | rfl | exact Mine.iss (by assumption) | exact Mine.isn (by assumption)) ?_
      | refine kdg_notin (knd := PySem.intKind _ _) (by k_asm) (by k_mem) (by k_asm) (by k_asm) (intKind_is _ _ _ _) false (by first | assumption | rfl | exact Mine.iss (by assumption) | exact Mine.isn (by assumption)) ?_); (try dsimp only [Bool.not_true, Bool.not_false])))
  k_with "getItem ref int" => ((k_here; k_dflt (refine Mine.get_dict (knd := PySem.intKind _ _) (by k_asm) (by k_mem) (by k_asm) (intKind_is _ _ _ _) (by first | assumption | rfl | exact Mine.val_new (by assumption)) ?_)))
  k_with "getItem ref str" => ((k_here; k_dflt (refine Mine.get_dict (knd := PySem.strKind _ _) (by k_asm) (by k_mem) (by k_asm) (strKind_is _ _ _ _) (by first | assumption | rfl) ?_)))
  k_with "execs cons" => (((with_reducible refine Mine.st_norm s rfl rfl rfl ?_); intro tk'))
  k_with "ktn_open" => (skip)
  k_with "k_handed" => (first | exact Mine.hg_in (by assumption) | exact Mine.uv_in (by assumption))
  k_with "call ref" => ((k_here; (with_reducible show wpAny _ _ (call (Value.ref 102) _) _ _ _); k_dflt (refine' Mine.row_o ?z271B ?z271F ?z271X ?z271T ?z271k ?z271d ?z271u ?z271N ?z271P1 ?z271nd ?z271hR ?z271hs ?z271P2 ?z271lo ?_; (case z271B => k_asm); (case z271F => k_asm); (case z271X => k_asm); (case z271T => k_asm); (case z271k => first | exact rfl | assumption); (case z271d => ktr_room); (case z271u => units_room); (case z271N => k_asm); (case z271P1 => kd_p); (case z271nd => tb_rel); (case z271hR => assumption); (case z271hs => assumption); (case z271P2 => kd_p); (case z271lo => assumption)); intro h' tk' W' WD' WK' oK' vh' vu' t6' t7' t8' t9' oR' es' hE' hR' hK' hH' hU' F' N' nd'; (try dsimp only at hK'); (try dsimp only at hH'); (try dsimp only at hU'); (try dsimp only at N'); (try dsimp only at nd'); (try dsimp only); ktn_open))
  k_with "call ref" => ((k_here; (with_reducible show wpAny _ _ (call (Value.ref 130) _) _ _ _); k_dflt (refine' Mine.letgo_c ?z272B ?z272F ?z272X ?z272T ?z272k ?z272d ?z272u ?z272N ?z272P1 ?z272nd ?z272hR ?z272hs ?z272P2 ?z272lo ?_; (case z272B => k_asm); (case z272F => k_asm); (case z272X => k_asm); (case z272T => k_asm); (case z272k => first | exact rfl | assumption); (case z272d => ktr_room); (case z272u => units_room); (case z272N => k_asm); (case z272P1 => kd_p); (case z272nd => tb_rel); (case z272hR => assumption); (case z272hs => assumption); (case z272P2 => kd_p); (case z272lo => assumption)); intro h' tk' W' oR' es' seg' a1' hA' hE' hS' hP' hR' F' N' nd'; clear hS'; rcases a1' with ⟨kr', kb', kf', kl', H', U', hr'⟩; (try simp only [List.cons_append, List.append_assoc] at N'); (try simp only [List.cons_append, List.append_assoc] at nd'); (try dsimp only)))
  k_with "k_handed" => (first | exact Mine.hg_in (by assumption) | exact Mine.uv_in (by assumption) | exact Mine.CmpOk.hin (by assumption))
  k_with "compareOp Eq" => ((k_here; (with_reducible show wpAny _ _ (compareOp CmpOp.Eq _ (Value.str _ _)) _ _ _); k_dflt (first | (refine' Mine.eq_hgs ?z274h ?_; (case z274h => assumption)) | (refine' Mine.eq_hgl ?z274g ?_; (case z274g => assumption)))))
  k_with "compareOp Is" => ((k_here; (with_reducible show wpAny _ _ (compareOp CmpOp.Is _ Value.none) _ _ _); k_dflt (refine' Mine.is_hg0 ?z275h ?_; (case z275h => assumption))))
  k_with "kdy_has" => (first | exact Mine.tl_in | (refine Mine.tl_tail ?_; kdy_has))
  k_with "compareOp Lt" => ((k_here; (with_reducible show wpAny _ _ (compareOp CmpOp.Lt _ _) _ _ _); k_dflt (refine' Mine.CmpOk.use ?z277hc ?z277hu ?z277N ?z277hs ?z277hn ?_; (case z277hc => assumption); (case z277hu => units_room); (case z277N => k_asm); (case z277hs => kdy_has); (case z277hn => assumption)); intro tk'))
  trivial

namespace Mine
section
variable {w : World} {A₀ : Around} {base : Heap} {outer : List Env} {h₀ : Heap} {mean : ExcName → Option Value} {mg mb : Str → Option Value} {cs : Scope} {dp un : Nat} {gd : Option (List Code)} {cn : Str} {L a : Addr} {ccd : Value} {cl : List (Str × Addr)} {s : Shared} {m : Str → Option Value} {rest : List (Addr × Obj)} {Q E : Value → Shared → Prop}
  (B : Below A₀ base outer h₀) (F : Fr h₀ L s.heap m) (X : (hd.heap_1 w.params).In h₀) (T : Top qv Lo mean mg mb h₀) (k : cs.kind = .function) (d : dp + 18 < recursionLimit) (u : un + 300 < cLine)
include B F X T k d u
theorem asked_c {G GD GR BP BD : Addr} {rc qt p now : Int} {t1 t2 t3 t4 t5 tp tn tkd : Tok} {oR oB : Obj} {es : List (Int × Value)} {a0 : St} {seg cur r tl : List (Addr × Obj)} {kd : Str} {vec av : Value} {bt : Bool}
  (N : News h₀ L s.heap cur) (P1 : cur.Perm ((G, instObj 154 GD) :: (GD, gdObj w rc qt GR t1 t2 t3 t4 t5) :: (GR, oR) :: r)) (nd : Nd cur)
  (hR : oR.IsDictOf (intKind Pg w) es) (hs : PSeg w es p a0 seg) (P2 : r.Perm ((BP, instObj 226 BD) :: (BD, oB) :: (tl ++ (rest ++ seg)))) (lo : (GR == sysModules) = false)
  (hB : BdD w (.str kd tkd) vec oB) (hc : CmpOk w kd vec av bt tl)
  (ret : ∀ h' tk' W oR' es' seg' a1 an v, (a1, an) = askedT (letgo a0 now) bt now rc qt → AV an v → EsStep es p es' W → PSeg w es' p a1 seg' → oR'.IsDictOf (intKind Pg w) es' → Fr h₀ L h' m →
    News h₀ L h' ((G, instObj 154 GD) :: (GD, gdObj w rc qt GR t1 t2 t3 t4 t5) :: (GR, oR') :: (rest ++ seg')) → Nd ((G, instObj 154 GD) :: (GD, gdObj w rc qt GR t1 t2 t3 t4 t5) :: (GR, oR') :: (rest ++ seg')) → Q v { s with heap := h', toks := tk' }) :
  wpAny (model Pg w) (ktrTop dp un gd cn cs L a ccd cl outer) (call (.ref 137) [.ref G, .int p tp, .ref BP, av, .int now tn]) Q E s := by
  have P := P1.trans (List.Perm.cons _ (List.Perm.cons _ (List.Perm.cons _ P2)))
  replace N := news_perm N P
  replace nd := nd_perm nd P
  rcases hB with ⟨b1, b2, b3, b4, b5, b6, b7, b8, b9, b10, b11, b12, w1, w4, w5, w6, w7, w8, w9, w10, w11, w12⟩
  refine wpAny_call ?_
  k_dflt ktr_enter
  k_steps
  all_goals rename EsStep es p _ _ => hE
  all_goals (with_reducible rename (_ = Mine.letgo _ _) => hA7)
  all_goals rw [← hA7] at ret
  all_goals first
    | (obtain ⟨seg', z1, z2, z3, z4⟩ := end_b (G := G) (GD := GD) (GR := GR) (BP := BP) (BD := BD) (tl := tl) (rest := rest) (EsStep.trans (by assumption : EsStep es p _ _) (by assumption)) (by ktr_rel) (by tb_rel) (by assumption) (by first | exact HG.no | exact HG.shut _ | exact HG.root _ | assumption) (by first | assumption | exact UV.none | exact UV.some _ _)
       exact ret _ _ _ _ _ _ _ _ _ (by first
         | exact gs_shutH (by assumption)
         | exact gs_b1 (by assumption) (by assumption) (by assumption)
         | exact gs_b0 (by assumption) (by assumption) (by assumption)
         | exact gs_f (by assumption) (by assumption) (by assumption)
         | exact gs_r (by assumption) (by assumption) (by assumption) (by assumption) (by assumption)
         | exact gs_l (by assumption) (by assumption) (by assumption) (by first | (left; assumption) | (right; assumption) | (right; exact CmpOk.chg (by assumption) (by assumption)))
         | exact gs_nl (by assumption) (by assumption) (by assumption) (by first | (left; assumption) | (right; assumption) | (right; exact CmpOk.chg (by assumption) (by assumption)))
         | exact gs_nh (by assumption) (by assumption) (by assumption) (by assumption) (by assumption) (by first | (left; assumption) | (right; assumption) | (right; exact CmpOk.chg (by assumption) (by assumption))))
        (by first | exact AV.let_ _ | exact AV.hold _ | exact AV.shut _ | exact AV.drop _) (EsStep.trans (by assumption : EsStep es p _ _) (by assumption)) z2 (by assumption) (by assumption) z3 z4)
    | fail
end
end Mine

namespace Mine
structure Mk13 : Prop where
def lookF (l : List (Str × Value)) : Str → Option Value := fun y => List.lookup y l
theorem raw13 {h₀ h : Heap} {L : Addr} {l : List (Str × Value)} (F : Fr h₀ L h (fun y => List.lookup y l)) : ∀ {k1 k2 k3 k4 k5 k6 k7 k8 k9 k10 k11 k12 k13 : Str} {a1 a2 a3 a4 a5 a6 a7 a8 a9 a10 a11 a12 a13 : Value}, l = [(k1, a1), (k2, a2), (k3, a3), (k4, a4), (k5, a5), (k6, a6), (k7, a7), (k8, a8), (k9, a9), (k10, a10), (k11, a11), (k12, a12), (k13, a13)] → Fr h₀ L h (lookF [(k1, a1), (k2, a2), (k3, a3), (k4, a4), (k5, a5), (k6, a6), (k7, a7), (k8, a8), (k9, a9), (k10, a10), (k11, a11), (k12, a12), (k13, a13)]) := fun e => e ▸ F
theorem tok_any {prog : Program} {w : World} {A : Around} {α : Type} {t : Sem α} {Q : α → Shared → Prop} {E : Value → Shared → Prop} {h g d k o} (hh : ∀ tk, wpAny (model prog w) A t Q E ⟨h, g, d, tk, o⟩) : wpAny (model prog w) A t Q E ⟨h, g, d, k, o⟩ := hh k
end Mine

theorem Mine.rules_j10 : True := by
  w_top off
  k_with_none
  k_with "k_ne" => (first | exact Mine.nq (by with_reducible assumption) | exact Mine.nqs (by with_reducible assumption))
  k_with "call builtin:list.pop" => ((k_here; (with_reducible show wpAny _ _ (call (Value.builtin _) [Value.ref _, Value.int _ _]) _ _ _); k_dflt (refine' Mine.pop0 ?z279F ?z279N ?z279U ?z279z ?_; (case z279F => k_asm); (case z279N => k_asm); (case z279U => k_upd); (case z279z => first | assumption | omega)); intro h' F' N'; (try dsimp only [List.nil_append, List.cons_append] at N')))
  k_with "tb_start" => (first | assumption | (refine List.Mem.tail _ ?_; tb_start))
  k_with "ktr_rel" => (first
      | with_reducible assumption
      | (refine' Mine.ncons ?z281N ?z281m ?z281r; (case z281N => k_asm); (case z281m => k_mem); (case z281r => ktr_rel))
      | (refine' Mine.nrest ?z281N ?z281m; (case z281N => k_asm); (case z281m => (intro p hp; tb_start))))
  k_with "ktr_room" => (first | exact Mine.rm1 (by assumption) rfl | exact Mine.rm0 (by assumption) | exact Mine.rmS (Mine.rm1 (by assumption) rfl) | exact Mine.rmS (Mine.rmS (Mine.rm1 (by assumption) rfl)) | exact Mine.rmN rfl | ((try simp only [depth_under_make, depth_under_kw, depth_in1, depth_deeper, depth_caller]); (try dsimp only [ktrTop]); omega))
  k_with "k_room" => (ktr_room)
  k_with "units_room" => (first | exact Mine.rm1 (by assumption) rfl | exact Mine.rm0 (by assumption) | exact Mine.rmS (Mine.rm1 (by assumption) rfl) | exact Mine.rmS (Mine.rmS (Mine.rm1 (by assumption) rfl)) | exact Mine.rmS (Mine.rmS (Mine.rmS (Mine.rm1 (by assumption) rfl))) | exact Mine.rmN rfl | ((try simp only [units_under_make, units_in1, units_deeper, Around.mark_units, units_caller]); (try dsimp only [ktrTop]); omega))
  k_with "k_units" => (units_room)
  k_with "k_enter" => (ktr_enter)
  k_with "k_all" => (first | exact Mine.ne_sub (by assumption) (by intro p hp; tb_start) | exact Mine.ne_sub2 (by assumption) (by intro p hp; tb_start))
  k_with "eval DictComp" => ((k_here; k_dflt (refine Mine.DictComp_T (PySem.strKind _ _) (by k_asm) (by rfl) (by rfl) (by decide) (by rfl) (by decide) (by rfl) ?_ (fun _ => by with_unfolding_all rfl))))
  k_with "Exists" => ((k_here; k_dflt (refine ⟨_, _, _, rfl, by k_asm, by k_asm, Mine.tup_of_K (by k_asm) (by k_is), fun g₂ => ?_⟩)))
  k_with "DRest" => ((with_unfolding_all first
      | (refine Mine.DRest.succ (by rw [sizeLine_eq]; exact Nat.le_of_ble_eq_true rfl) ?_; intro v' I' oI' C' oC' D' oD' m' h' tk' E' hv' hC' hx' hoD' F' N' off' ne'; lcg_open hv'; (try simp only [LCg.Off3, and_true] at off'))
      | refine Mine.DRest.zero ?_))
  k_with "DEnd" => ((refine Mine.DEnd.intro (by assumption) (by assumption) _ (strKind_is _ _ _ _) (fun _ h => h) (by assumption) True.intro ?_))
  k_with "DFinE" => ((intro D' oD' h' tk' hoD' F' N' o1'; (have o2' := Mine.off1_mem o1'); (try simp only [LCg.Off1, and_true] at o1'); (try dsimp only)))
  k_with "kd_mem" => (first | exact Mine.Pos.head | exact Mine.PosF.head | (refine' Mine.Pos.tail ?z293p; (case z293p => kd_mem)) | (refine' Mine.PosF.tail ?z293p; (case z293p => kd_mem)))
  k_with "k_upd" => ((refine' Mine.upd_nd ?z294nd ?z294e ?z294p; (case z294nd => assumption); (case z294e => rfl); (case z294p => kd_mem)))
  k_with "k_updF" => (first | (refine' Mine.updF_nd ?z295nd ?z295e ?z295p; (case z295nd => assumption); (case z295e => rfl); (case z295p => kd_mem)) | (refine' UpdF.head ?z295a; (case z295a => k_all)) | (refine' UpdF.tail ?z295a ?z295b; (case z295a => k_ne); (case z295b => k_updF)))
  k_with "kd_p1" => (first | exact Mine.pk_head | (refine' Mine.pk_tail ?z296h; (case z296h => kd_p1)))
  k_with "kst_p" => (first | exact Mine.sg_here | exact Mine.sg_end | (refine' Mine.sg_tail ?z297h; (case z297h => kst_p)) | (refine' Mine.sg_app ?z297h; (case z297h => kst_p)))
  k_with "kd_p" => (first | exact List.Perm.refl _ | (refine' Mine.pk_cons ?z298h ?z298g; (case z298h => kd_p1); (case z298g => kd_p)) | (refine' Mine.pk_seg ?z298h; (case z298h => kst_p)))
  k_with "tb_rel" => (first | assumption | exact Mine.nd3 (by assumption) | exact Mine.nd3 (Mine.nd3 (by assumption)) | (refine' Mine.nd_of ?z299nd ?z299e; (case z299nd => assumption); (case z299e => rfl)) | (refine' Mine.nd_new ?z299h ?z299e ?z299n; (case z299h => assumption); (case z299e => rfl); (case z299n => tb_rel)) | (refine' Mine.nd_new2 ?z299h ?z299g ?z299e ?z299n; (case z299h => assumption); (case z299g => assumption); (case z299e => rfl); (case z299n => tb_rel)) | (refine' Mine.nd_new1 ?z299h ?z299e ?z299n; (case z299h => assumption); (case z299e => rfl); (case z299n => tb_rel)))
  k_with "subscriptTail" => ((k_here; k_dflt (first
      | ((with_reducible show wpAny _ _ (subscriptTail _ _ (Value.ref _) (Value.str _ _)) _ _ _); refine kda_item (knd := PySem.strKind _ _) (by k_asm) (by k_mem) (by k_asm) (strKind_is _ _ _ _) (by first | assumption | rfl) ?_)
      | ((with_reducible show wpAny _ _ (subscriptTail _ _ (Value.ref _) (Value.int _ _)) _ _ _); refine kda_item (knd := PySem.intKind _ _) (by k_asm) (by k_mem) (by k_asm) (intKind_is _ _ _ _) (by first | assumption | rfl | exact Mine.val_new (by assumption)) ?_))))
  k_with "setItem ref str" => ((k_here; k_dflt (refine' kda_set (knd := PySem.strKind _ _) ?z301F ?z301N ?z301U ?z301d (strKind_is _ _ _ _) ?z301z ?_; (case z301F => k_asm); (case z301N => k_asm); (case z301U => k_updF); (case z301d => k_asm); (case z301z => first | kob_size | assumption)); intro h' o' F' N' hd'; (try kob_lit); (try dsimp only at N')))
  k_with "setItem ref int" => ((k_here; k_dflt (refine' kda_set (knd := PySem.intKind _ _) ?z302F ?z302N ?z302U ?z302d (intKind_is _ _ _ _) ?z302z ?_; (case z302F => k_asm); (case z302N => k_asm); (case z302U => k_updF); (case z302d => k_asm); (case z302z => first | kob_size | assumption)); intro h' o' F' N' hd'; (try kob_lit); (try dsimp only at N')))
  k_with "compareOp NotIn int ref" => ((k_here; k_dflt (first
      | refine kdg_notin (knd := PySem.intKind _ _) (by k_asm) (by k_mem) (by k_asm) (by k_asm) (intKind_is _ _ _ _) true (by first | assumption | rfl | exact Mine.iss (by assumption) | exact Mine.isn (by assumption)) ?_
      | refine kdg_notin (knd := PySem.intKind _ _) (by k_asm) (by k_mem) (by k_asm) (by k_asm) (intKind_is _ _ _ _) false (by first | assumption | rfl | exact Mine.iss (by assumption) | exact Mine.isn (by assumption)) ?_); (try dsimp only [Bool.not_true, Bool.not_false])))
  k_with "getItem ref int" => ((k_here; k_dflt (refine Mine.get_dict (knd := PySem.intKind _ _) (by k_asm) (by k_mem) (by k_asm) (intKind_is _ _ _ _) (by first | assumption | rfl | exact Mine.val_new (by assumption)) ?_)))
  k_with "getItem ref str" => ((k_here; k_dflt (refine Mine.get_dict (knd := PySem.strKind _ _) (by k_asm) (by k_mem) (by k_asm) (strKind_is _ _ _ _) (by first | assumption | rfl) ?_)))
  k_with "execs cons" => (((with_reducible refine Mine.st_norm s rfl rfl rfl ?_); intro tk'))
  k_with "execs cons" => (((fail_if_success (rename Mine.Mk13 => hmk)); (with_reducible rename Fr _ _ _ (fun y => List.lookup y (List.reverse _)) => hF9); (with_reducible have hF8 := @Mine.raw13 _ _ _ _ hF9); (replace hF9 := hF8 rfl); clear hF8; (try dsimp only at hF9); (with_reducible refine Mine.tok_any ?_); intro tk'; have hmk := Mine.Mk13.mk))
  k_with "eval Name" => ((k_here; (with_reducible show wpAny _ _ (eval (Expr.Name _ _) (envOf _ _ _ _ _)) _ _ _); (with_reducible rename Fr _ _ _ (Mine.lookF _) => hF9); refine' ld hF9 ?z308hv ?_ ?z308hk ?z308hl ?z308hd; (case z308hl => kernel_rfl!); (case z308hk => exact rfl); (case z308hd => decide +kernel); (case z308hv => with_unfolding_all rfl)))
  k_with "kdy_has" => (first | exact Mine.lt_sub (by assumption) (by intro p hp; tb_start) | (refine Mine.lt_cons ?_ ?_; (dsimp only; omega); kdy_has))
  trivial

namespace Mine
section
variable {w : World} {A₀ : Around} {base : Heap} {outer : List Env} {h₀ : Heap} {mean : ExcName → Option Value} {mg mb : Str → Option Value} {cs : Scope} {dp un : Nat} {gd : Option (List Code)} {cn : Str} {L a : Addr} {ccd : Value} {cl : List (Str × Addr)} {s : Shared} {m : Str → Option Value} {rest : List (Addr × Obj)} {Q E : Value → Shared → Prop}
  (B : Below A₀ base outer h₀) (F : Fr h₀ L s.heap m) (X : (hd.heap_1 w.params).In h₀) (T : Top qv Lo mean mg mb h₀) (k : cs.kind = .function) (d : dp + 20 < recursionLimit) (u : un + 300 < cLine)
include B F X T k d u
theorem bpdu_c {n : Int} {t : Tok} (h0 : 0 ≤ n) (h4 : n < 4) (N : News h₀ L s.heap rest) (nd : Nd rest)
  (ret : ∀ h' tk' BP BD kd tkd vec tl oB, BpR n kd vec tl → BdD w (.str kd tkd) vec oB → Fr h₀ L h' m → News h₀ L h' ((BP, instObj 226 BD) :: (BD, oB) :: (tl ++ rest)) → Nd ((BP, instObj 226 BD) :: (BD, oB) :: (tl ++ rest)) → Q (.ref BP) { s with heap := h', toks := tk' }) :
  wpAny (model Pg w) (ktrTop dp un gd cn cs L a ccd cl outer) (call (.ref 258) [.int n t]) Q E s := by
  have hkk : ScopeKind.function = ScopeKind.function := rfl
  refine wpAny_call ?_
  k_dflt k_enter
  k_steps
  · rename Fr h₀ L _ _ => hF
    rename News h₀ L _ _ => hN
    exact ret _ _ _ _ _ _ _ [] _ (.ch (by assumption)) (.mk _ _ _ _ _ _ _ _ _ _ _ _ _ _ _ _ _ _ _ _ _ _) hF hN (by tb_rel)
  · rename Fr h₀ L _ _ => hF
    rename News h₀ L _ _ => hN
    refine ret _ _ _ _ _ _ _ _ _ (.rap _ _ (by assumption) (.mk _ _ _ _ _ _ _ _ _ _)) (.mk _ _ _ _ _ _ _ _ _ _ _ _ _ _ _ _ _ _ _ _ _ _) hF (by ktr_rel) ?_
    refine nd_pair (by kdy_has) (by assumption) ?_
    exact nd_one (by kdy_has) (nd_one (by kdy_has) (nd_one (by kdy_has) (nd_one (by kdy_has) nd)))
end
end Mine

namespace Mine
open PySem.Spec PySem.Calls
/-- the law's source: its two objects -/
inductive Src (aS : Addr) : List (Addr × Obj) → Prop
  | mk (aR : Addr) (big mixed : Int) (t1 t2 : Tok) (vs : List Value) (ns : List Int) (n1 n2 : Nat) : 0 ≤ big → 0 ≤ mixed → mixed < 2147483647 → vs.length ≤ 24 → IntsAre vs ns → Src aS [(aS, listOf #[.int big t1, .int mixed t2, .ref aR] n1), (aR, listOf vs.toArray n2)]
theorem perm_pair {rest : List (Addr × Obj)} {x y : Addr × Obj} : (rest ++ [x, y]).Perm (x :: y :: rest) := List.perm_append_comm
section
variable {w : World} {A₀ : Around} {base : Heap} {outer : List Env} {h₀ : Heap} {mean : ExcName → Option Value} {mg mb : Str → Option Value} {cs : Scope} {dp un : Nat} {gd : Option (List Code)} {cn : Str} {L a : Addr} {ccd : Value} {cl : List (Str × Addr)} {s : Shared} {m : Str → Option Value} {rest : List (Addr × Obj)} {Q E : Value → Shared → Prop}
  (B : Below A₀ base outer h₀) (F : Fr h₀ L s.heap m) (X : (hd.heap_1 w.params).In h₀) (T : Top qv Lo mean mg mb h₀) (k : cs.kind = .function) (d : dp + 40 < recursionLimit) (u : un + 600 < cLine)
include B F X T k d u
theorem take_o {aS : Addr} {sg cur : List (Addr × Obj)} {top : Int} {t3 : Tok}
  (N : News h₀ L s.heap cur) (P1 : cur.Perm (rest ++ sg)) (nd : Nd cur) (hS : Src aS sg) (h1 : 2 ≤ top) (h2 : top ≤ 9)
  (ret : ∀ h' tk' v tv sg', 0 ≤ v → v < top → Src aS sg' → Fr h₀ L h' m → News h₀ L h' (rest ++ sg') → Nd (rest ++ sg') → Q (.int v tv) { s with heap := h', toks := tk' }) :
  wpAny (model Pg w) (ktrTop dp un gd cn cs L a ccd cl outer) (call (.ref 244) [.ref aS, .int top t3]) Q E s := by
  cases hS with
  | mk aR big mixed t1 t2 vs ns n1 n2 hb hm hm2 hl iv =>
    have P := P1.trans perm_pair
    have nd' := nd_perm nd P
    have ne : Nq aS aR := by
      have z := (List.nodup_cons.mp nd').1
      intro e
      exact z (e ▸ List.mem_cons_self)
    have off : OwnOff rest [aS, aR] := by
      intro p hp b hb' e
      have z1 := (List.nodup_cons.mp nd').1
      have z2 := (List.nodup_cons.mp (List.nodup_cons.mp nd').2).1
      rcases List.mem_cons.mp hb' with rfl | hb'
      · exact z1 (List.mem_cons_of_mem _ (List.mem_map.mpr ⟨p, hp, e⟩))
      · rw [List.mem_singleton.mp hb'] at e
        exact z2 (List.mem_map.mpr ⟨p, hp, e⟩)
    refine take_c B F X T k d u (news_perm N P) iv ne off h1 h2 hb hm hm2 hl fun h' tk' v tv big' mixed' t1' t2' vs' n1' n2' v0 v1 b0 m0 m1 hl' iv' F' N' => ?_
    obtain ⟨ns', iv'⟩ := iv'
    exact ret _ _ _ _ _ v0 v1 (.mk _ _ _ _ _ _ _ _ _ b0 m0 m1 hl' iv') F' (news_perm N' perm_pair.symm) (nd_perm (nd_of nd' rfl : Nd ((aS, listOf #[.int big' t1', .int mixed' t2', .ref aR] n1') :: (aR, listOf vs'.toArray n2') :: rest)) perm_pair.symm)
end
section
variable {prog : Program} {w : World} {A : Around} {E : Value → Shared → Prop} {s : Shared} {Q : Value → Shared → Prop}
theorem item_lt {value slice : PySem.Expr} {l : Addr} {vs : List Value} {k : Int} {u : Tok} (hl : s.heap.IsList l vs.toArray) (h0 : 0 ≤ k) (hk : k < vs.length) (hz : vs.length ≤ 9) (h : ∀ v, v ∈ vs → Q v s)
    (hs : subscripted slice false (.ref l) (.int k u) = operate [.ref l, .int k u] (getItem (.ref l) (.int k u)) := by with_unfolding_all rfl) :
    wpAny (model prog w) A (subscriptTail value slice (.ref l) (.int k u)) Q E s := by
  have hx : k.toNat < vs.length := by omega
  exact tail_any hl.typeIs slot_list_getitem.lookup (wpAny_getItem_list hl h0 (by omega) (by simp [hx]) (h vs[k.toNat] (List.getElem_mem hx))) hs
end
theorem len_vs {prog : Program} {w : World} {A : Around} {E : Value → Shared → Prop} {s : Shared} {Q : Value → Shared → Prop} {l : Addr} {vs : List Value} (hl : s.heap.IsList l vs.toArray) (hz : vs.length ≤ 9) (h : Q (.int (vs.length : Int) (s.toks + 1)) { s with toks := s.toks + 1 + 1 }) :
    wpAny (model prog w) A (call (.builtin "len") [.ref l]) Q E s := kun_lenL hl (by simp) (by omega) h
theorem handed_mem {vs : List Value} {v : Value} (hh : ∀ v, v ∈ vs → handedIn v = true) (h : v ∈ vs) : handedIn v = true := hh v h
theorem handed_ints {vs : List Value} {ns : List Int} (h : IntsAre vs ns) : ∀ v, v ∈ vs → handedIn v = true := fun v hv => by
  induction h with
  | nil => cases hv
  | cons n t h ih =>
    rcases List.mem_cons.mp hv with rfl | hv
    · rfl
    · exact ih hv
theorem handed_strs {vs : List Value} {ns : List Str} (h : StrsAre vs ns) : ∀ v, v ∈ vs → handedIn v = true := fun v hv => by
  induction h with
  | nil => cases hv
  | cons n t h ih =>
    rcases List.mem_cons.mp hv with rfl | hv
    · rfl
    · exact ih hv
theorem mem_ints {vs : List Value} {ns : List Int} (h : IntsAre vs ns) : ∀ v, v ∈ vs → ∃ n t, n ∈ ns ∧ v = .int n t := by
  induction h with
  | nil => intro v hv; cases hv
  | cons n t h ih =>
    intro v hv
    rcases List.mem_cons.mp hv with rfl | hv
    · exact ⟨_, _, List.mem_cons_self, rfl⟩
    · obtain ⟨n', t', a, b⟩ := ih v hv
      exact ⟨n', t', List.mem_cons_of_mem _ a, b⟩
theorem mem_strs {vs : List Value} {ns : List Str} (h : StrsAre vs ns) : ∀ v, v ∈ vs → ∃ n t, n ∈ ns ∧ v = .str n t := by
  induction h with
  | nil => intro v hv; cases hv
  | cons n t h ih =>
    intro v hv
    rcases List.mem_cons.mp hv with rfl | hv
    · exact ⟨_, _, List.mem_cons_self, rfl⟩
    · obtain ⟨n', t', a, b⟩ := ih v hv
      exact ⟨n', t', List.mem_cons_of_mem _ a, b⟩
end Mine

theorem Mine.rules_j11 : True := by
  w_top off
  k_with_none
  k_with "k_ne" => (first | exact Mine.nq (by with_reducible assumption) | exact Mine.nqs (by with_reducible assumption))
  k_with "call builtin:list.pop" => ((k_here; (with_reducible show wpAny _ _ (call (Value.builtin _) [Value.ref _, Value.int _ _]) _ _ _); k_dflt (refine' Mine.pop0 ?z311F ?z311N ?z311U ?z311z ?_; (case z311F => k_asm); (case z311N => k_asm); (case z311U => k_upd); (case z311z => first | assumption | omega)); intro h' F' N'; (try dsimp only [List.nil_append, List.cons_append] at N')))
  k_with "tb_start" => (first | assumption | (refine List.Mem.tail _ ?_; tb_start))
  k_with "ktr_rel" => (first
      | with_reducible assumption
      | (refine' Mine.ncons ?z313N ?z313m ?z313r; (case z313N => k_asm); (case z313m => k_mem); (case z313r => ktr_rel))
      | (refine' Mine.nrest ?z313N ?z313m; (case z313N => k_asm); (case z313m => (intro p hp; tb_start))))
  k_with "ktr_room" => (first | exact Mine.rm1 (by assumption) rfl | exact Mine.rm0 (by assumption) | exact Mine.rmS (Mine.rm1 (by assumption) rfl) | exact Mine.rmS (Mine.rmS (Mine.rm1 (by assumption) rfl)) | exact Mine.rmN rfl | ((try simp only [depth_under_make, depth_under_kw, depth_in1, depth_deeper, depth_caller]); (try dsimp only [ktrTop]); omega))
  k_with "k_room" => (ktr_room)
  k_with "units_room" => (first | exact Mine.rm1 (by assumption) rfl | exact Mine.rm0 (by assumption) | exact Mine.rmS (Mine.rm1 (by assumption) rfl) | exact Mine.rmS (Mine.rmS (Mine.rm1 (by assumption) rfl)) | exact Mine.rmS (Mine.rmS (Mine.rmS (Mine.rm1 (by assumption) rfl))) | exact Mine.rmN rfl | ((try simp only [units_under_make, units_in1, units_deeper, Around.mark_units, units_caller]); (try dsimp only [ktrTop]); omega))
  k_with "k_units" => (units_room)
  k_with "k_enter" => (ktr_enter)
  k_with "k_all" => (first | exact Mine.ne_sub (by assumption) (by intro p hp; tb_start) | exact Mine.ne_sub2 (by assumption) (by intro p hp; tb_start))
  k_with "eval DictComp" => ((k_here; k_dflt (refine Mine.DictComp_T (PySem.strKind _ _) (by k_asm) (by rfl) (by rfl) (by decide) (by rfl) (by decide) (by rfl) ?_ (fun _ => by with_unfolding_all rfl))))
  k_with "Exists" => ((k_here; k_dflt (refine ⟨_, _, _, rfl, by k_asm, by k_asm, Mine.tup_of_K (by k_asm) (by k_is), fun g₂ => ?_⟩)))
  k_with "DRest" => ((with_unfolding_all first
      | (refine Mine.DRest.succ (by rw [sizeLine_eq]; exact Nat.le_of_ble_eq_true rfl) ?_; intro v' I' oI' C' oC' D' oD' m' h' tk' E' hv' hC' hx' hoD' F' N' off' ne'; lcg_open hv'; (try simp only [LCg.Off3, and_true] at off'))
      | refine Mine.DRest.zero ?_))
  k_with "DEnd" => ((refine Mine.DEnd.intro (by assumption) (by assumption) _ (strKind_is _ _ _ _) (fun _ h => h) (by assumption) True.intro ?_))
  k_with "DFinE" => ((intro D' oD' h' tk' hoD' F' N' o1'; (have o2' := Mine.off1_mem o1'); (try simp only [LCg.Off1, and_true] at o1'); (try dsimp only)))
  k_with "kd_mem" => (first | exact Mine.Pos.head | exact Mine.PosF.head | (refine' Mine.Pos.tail ?z325p; (case z325p => kd_mem)) | (refine' Mine.PosF.tail ?z325p; (case z325p => kd_mem)))
  k_with "k_upd" => ((refine' Mine.upd_nd ?z326nd ?z326e ?z326p; (case z326nd => assumption); (case z326e => rfl); (case z326p => kd_mem)))
  k_with "k_updF" => (first | (refine' Mine.updF_nd ?z327nd ?z327e ?z327p; (case z327nd => assumption); (case z327e => rfl); (case z327p => kd_mem)) | (refine' UpdF.head ?z327a; (case z327a => k_all)) | (refine' UpdF.tail ?z327a ?z327b; (case z327a => k_ne); (case z327b => k_updF)))
  k_with "kd_p1" => (first | exact Mine.pk_head | (refine' Mine.pk_tail ?z328h; (case z328h => kd_p1)))
  k_with "kst_p" => (first | exact Mine.sg_here | exact Mine.sg_end | (refine' Mine.sg_tail ?z329h; (case z329h => kst_p)) | (refine' Mine.sg_app ?z329h; (case z329h => kst_p)))
  k_with "kd_p" => (first | exact List.Perm.refl _ | (refine' Mine.pk_cons ?z330h ?z330g; (case z330h => kd_p1); (case z330g => kd_p)) | (refine' Mine.pk_seg ?z330h; (case z330h => kst_p)))
  k_with "tb_rel" => (first | assumption | exact Mine.nd3 (by assumption) | exact Mine.nd3 (Mine.nd3 (by assumption)) | (refine' Mine.nd_of ?z331nd ?z331e; (case z331nd => assumption); (case z331e => rfl)) | (refine' Mine.nd_new ?z331h ?z331e ?z331n; (case z331h => assumption); (case z331e => rfl); (case z331n => tb_rel)) | (refine' Mine.nd_new2 ?z331h ?z331g ?z331e ?z331n; (case z331h => assumption); (case z331g => assumption); (case z331e => rfl); (case z331n => tb_rel)) | (refine' Mine.nd_new1 ?z331h ?z331e ?z331n; (case z331h => assumption); (case z331e => rfl); (case z331n => tb_rel)))
  k_with "subscriptTail" => ((k_here; k_dflt (first
      | ((with_reducible show wpAny _ _ (subscriptTail _ _ (Value.ref _) (Value.str _ _)) _ _ _); refine kda_item (knd := PySem.strKind _ _) (by k_asm) (by k_mem) (by k_asm) (strKind_is _ _ _ _) (by first | assumption | rfl) ?_)
      | ((with_reducible show wpAny _ _ (subscriptTail _ _ (Value.ref _) (Value.int _ _)) _ _ _); refine kda_item (knd := PySem.intKind _ _) (by k_asm) (by k_mem) (by k_asm) (intKind_is _ _ _ _) (by first | assumption | rfl | exact Mine.val_new (by assumption)) ?_))))
  k_with "setItem ref str" => ((k_here; k_dflt (refine' kda_set (knd := PySem.strKind _ _) ?z333F ?z333N ?z333U ?z333d (strKind_is _ _ _ _) ?z333z ?_; (case z333F => k_asm); (case z333N => k_asm); (case z333U => k_updF); (case z333d => k_asm); (case z333z => first | kob_size | assumption)); intro h' o' F' N' hd'; (try kob_lit); (try dsimp only at N')))
  k_with "setItem ref int" => ((k_here; k_dflt (refine' kda_set (knd := PySem.intKind _ _) ?z334F ?z334N ?z334U ?z334d (intKind_is _ _ _ _) ?z334z ?_; (case z334F => k_asm); (case z334N => k_asm); (case z334U => k_updF); (case z334d => k_asm); (case z334z => first | kob_size | assumption)); intro h' o' F' N' hd'; (try kob_lit); (try dsimp only at N')))
  k_with "compareOp NotIn int ref" => ((k_here; k_dflt (first
      | refine kdg_notin (knd := PySem.intKind _ _) (by k_asm) (by k_mem) (by k_asm) (by k_asm) (intKind_is _ _ _ _) true (by first | assumption | rfl | exact Mine.iss (by assumption) | exact Mine.isn (by assumption)) ?_
      | refine kdg_notin (knd := PySem.intKind _ _) (by k_asm) (by k_mem) (by k_asm) (by k_asm) (intKind_is _ _ _ _) false (by first | assumption | rfl | exact Mine.iss (by assumption) | exact Mine.isn (by assumption)) ?_); (try dsimp only [Bool.not_true, Bool.not_false])))
  k_with "getItem ref int" => ((k_here; k_dflt (refine Mine.get_dict (knd := PySem.intKind _ _) (by k_asm) (by k_mem) (by k_asm) (intKind_is _ _ _ _) (by first | assumption | rfl | exact Mine.val_new (by assumption)) ?_)))
  k_with "getItem ref str" => ((k_here; k_dflt (refine Mine.get_dict (knd := PySem.strKind _ _) (by k_asm) (by k_mem) (by k_asm) (strKind_is _ _ _ _) (by first | assumption | rfl) ?_)))
  k_with "execs cons" => (((with_reducible refine Mine.st_norm s rfl rfl rfl ?_); intro tk'))
  k_with "call ref" => ((k_here; (with_reducible show wpAny _ _ (call (Value.ref 244) _) _ _ _); k_dflt (refine' Mine.take_o ?z339B ?z339F ?z339X ?z339T ?z339k ?z339d ?z339u ?z339N ?z339P1 ?z339nd ?z339hS ?z339h1 ?z339h2 ?_; (case z339B => k_asm); (case z339F => k_asm); (case z339X => k_asm); (case z339T => k_asm); (case z339k => first | exact rfl | assumption); (case z339d => ktr_room); (case z339u => units_room); (case z339hS => assumption); (case z339N => k_asm); (case z339P1 => kd_p); (case z339nd => tb_rel); (case z339h1 => omega); (case z339h2 => omega)); intro h' tk' v' tv' sg' v0' v1' hS' F' N' nd'; (try simp only [List.cons_append, List.append_assoc, List.nil_append, List.append_nil] at N'); (try simp only [List.cons_append, List.append_assoc, List.nil_append, List.append_nil] at nd'); (try dsimp only)))
  k_with "subscriptTail" => ((k_here; (with_reducible show wpAny _ _ (subscriptTail _ _ (Value.ref _) (Value.int _ _)) _ _ _); k_dflt (refine' Mine.item_lt ?z340k1 ?z340k2 ?z340k3 ?z340k4 ?_; (case z340k1 => exact News.isList (by k_asm) (by news_mem)); (case z340k2 => assumption); (case z340k3 => first | assumption | omega); (case z340k4 => omega)); intro v' hv'))
  k_with "k_handed" => (exact Mine.handed_mem (by assumption) (by assumption))
  k_with "call builtin:len" => ((k_here; (with_reducible show wpAny _ _ (call (Value.builtin "len") [Value.ref _]) _ _ _); k_dflt (refine' Mine.len_vs ?z342k1 ?z342k2 ?_; (case z342k1 => exact News.isList (by k_asm) (by news_mem)); (case z342k2 => assumption))))
  trivial

namespace Mine
section
variable {w : World} {A₀ : Around} {base : Heap} {outer : List Env} {h₀ : Heap} {mean : ExcName → Option Value} {mg mb : Str → Option Value} {cs : Scope} {dp un : Nat} {gd : Option (List Code)} {cn : Str} {L a : Addr} {ccd : Value} {cl : List (Str × Addr)} {s : Shared} {m : Str → Option Value} {rest : List (Addr × Obj)} {Q E : Value → Shared → Prop}
  (B : Below A₀ base outer h₀) (F : Fr h₀ L s.heap m) (X : (hd.heap_1 w.params).In h₀) (T : Top qv Lo mean mg mb h₀) (k : cs.kind = .function) (d : dp + 44 < recursionLimit) (u : un + 660 < cLine)
include B F X T k d u
theorem one_c {aS TL : Addr} {sg cur : List (Addr × Obj)} {vs : List Value} {n : Nat}
  (N : News h₀ L s.heap cur) (P1 : cur.Perm ((TL, listOf vs.toArray n) :: (rest ++ sg))) (nd : Nd cur) (hS : Src aS sg) (h1 : 2 ≤ vs.length) (h2 : vs.length ≤ 9) (hh : ∀ v, v ∈ vs → handedIn v = true)
  (ret : ∀ h' tk' v sg', v ∈ vs → Src aS sg' → Fr h₀ L h' m → News h₀ L h' ((TL, listOf vs.toArray n) :: (rest ++ sg')) → Nd ((TL, listOf vs.toArray n) :: (rest ++ sg')) → Q v { s with heap := h', toks := tk' }) :
  wpAny (model Pg w) (ktrTop dp un gd cn cs L a ccd cl outer) (call (.ref 251) [.ref aS, .ref TL]) Q E s := by
  replace N := news_perm N P1
  replace nd := nd_perm nd P1
  refine wpAny_call ?_
  k_dflt ktr_enter
  k_steps
  exact ret _ _ _ _ (by assumption) (by assumption) (by assumption) (by assumption) (by assumption)
end
end Mine

namespace Mine
theorem notin_K {prog : Program} {w : World} {A : Around} {E : Value → Shared → Prop} {s : Shared} {h₀ : Heap} {L : Addr} {m : Str → Option Value} {t : Addr} {items : Array Value} {ys : List Str} {x : Str} {u : Tok} {b : Bool} {Q : Value → Shared → Prop} (F : Fr h₀ L s.heap m) (ht : h₀.IsTuple t items) (hi : StrsAre items.toList ys)
    (hb : ys.any (· == x) = b) (h : Q (.bool (!b)) s) : wpAny (model prog w) A (compareOp .NotIn (.str x u) (.ref t)) Q E s := by
  obtain ⟨o, e, r⟩ := ht
  exact notin_tuple_strs ⟨o, F.keep _ _ e, r⟩ hi (by rw [hb]; exact h)
abbrev fourK : List Str := [Str.ofString "root", Str.ofString "bpdu", Str.ofString "filter", Str.ofString "loop"]
theorem four_root : (fourK.any (· == Str.ofString "root")) = true := by decide +kernel
theorem four_bpdu : (fourK.any (· == Str.ofString "bpdu")) = true := by decide +kernel
theorem four_filter : (fourK.any (· == Str.ofString "filter")) = true := by decide +kernel
theorem four_loop : (fourK.any (· == Str.ofString "loop")) = true := by decide +kernel
theorem four_none : (fourK.any (· == Str.ofString "none")) = false := by decide +kernel
/-- a guard set on or off -/
def kset (a : St) (kd : Str) (b : Bool) : St := { a with kr := if kd = Str.ofString "root" then b else a.kr, kb := if kd = Str.ofString "bpdu" then b else a.kb, kf := if kd = Str.ofString "filter" then b else a.kf, kl := if kd = Str.ofString "loop" then b else a.kl }
/-- what may not be set -/
def badS (a : St) (kd : Str) (b : Bool) : Bool := decide (kd = Str.ofString "none") || (b && ((decide (kd = Str.ofString "root") && a.kl) || (decide (kd = Str.ofString "loop") && a.kr)))
section
variable {a : St} {b : Bool}
theorem sne1 : ¬ Str.ofString "root" = Str.ofString "bpdu" := by decide +kernel
theorem sne2 : ¬ Str.ofString "root" = Str.ofString "filter" := by decide +kernel
theorem sne3 : ¬ Str.ofString "root" = Str.ofString "loop" := by decide +kernel
theorem sne4 : ¬ Str.ofString "root" = Str.ofString "none" := by decide +kernel
theorem sne5 : ¬ Str.ofString "bpdu" = Str.ofString "filter" := by decide +kernel
theorem sne6 : ¬ Str.ofString "bpdu" = Str.ofString "loop" := by decide +kernel
theorem sne7 : ¬ Str.ofString "bpdu" = Str.ofString "none" := by decide +kernel
theorem sne8 : ¬ Str.ofString "filter" = Str.ofString "loop" := by decide +kernel
theorem sne9 : ¬ Str.ofString "filter" = Str.ofString "none" := by decide +kernel
theorem sne10 : ¬ Str.ofString "loop" = Str.ofString "none" := by decide +kernel
theorem kset_root : kset a (Str.ofString "root") b = { a with kr := b } := by simp [kset, sne1, sne2, sne3]
theorem kset_bpdu : kset a (Str.ofString "bpdu") b = { a with kb := b } := by simp [kset, Ne.symm sne1, sne5, sne6]
theorem kset_filter : kset a (Str.ofString "filter") b = { a with kf := b } := by simp [kset, Ne.symm sne2, Ne.symm sne5, sne8]
theorem kset_loop : kset a (Str.ofString "loop") b = { a with kl := b } := by simp [kset, Ne.symm sne3, Ne.symm sne6, Ne.symm sne8]
theorem bad_none : badS a (Str.ofString "none") b = true := by simp [badS]
theorem bad_root : badS a (Str.ofString "root") b = (b && a.kl) := by simp [badS, sne3, sne4]
theorem bad_bpdu : badS a (Str.ofString "bpdu") b = false := by simp [badS, sne7, Ne.symm sne1, sne6]
theorem bad_filter : badS a (Str.ofString "filter") b = false := by simp [badS, sne9, Ne.symm sne2, sne8]
theorem bad_loop : badS a (Str.ofString "loop") b = (b && a.kr) := by simp [badS, sne10, Ne.symm sne3]
end
/-- the table of rows: as it was, or with the port's row -/
def Es2 (es : List (Int × Value)) (p : Int) (es' : List (Int × Value)) : Prop := es' = es ∨ ∃ W, EsStep es p es' W
end Mine

namespace Mine
open PySem.Spec PySem.Calls
/-- an exception with a dict of its own, made -/
structure MadeX (h h' : Heap) (e : Addr) (cls : Value) (vs : List Value) : Prop where
  keeps : ∀ b o, h.get? b = some o → h'.get? b = some o
  new : h.get? e = none
  there : ∃ t d, h'.get? e = some { cls := cls, dict := d, data := .fields #[.ref t, .none, .none, .none, .bool false, .none] } ∧ h.get? t = none ∧ h'.get? t = some { cls := .type "tuple", data := .seq vs.toArray }
theorem madeX_of {h h' : Heap} {news : List (Addr × Obj)} {e t : Addr} {d : Option Addr} {cls : Value} {vs : List Value} (D : PySem.W.X.Mem h h' [] news)
    (he : (e, ({ cls := cls, dict := d, data := .fields #[.ref t, .none, .none, .none, .bool false, .none] } : Obj)) ∈ news) (ht : (t, ({ cls := .type "tuple", data := .seq vs.toArray } : Obj)) ∈ news) : MadeX h h' e cls vs :=
  ⟨fun b o q => D.keep b o q (by simp [PySem.W.X.away]), (D.nw _ he).2, t, d, (D.nw _ he).1, (D.nw _ ht).2, (D.nw _ ht).1⟩
section
variable {M : Model} {A : Around} {E : Value → Shared → Prop} {s s' : Shared} {base g h : Heap} {env : Env} {outer : List Env} {L a e : Addr} {m : Str → Option Value} {name : Str} {scope : Scope} {cd : Value} {Q : Unit → Shared → Prop} {news : List (Addr × Obj)} {cls : Value} {vs : List Value}
theorem leaves_madeX (hfr : A.frames = some (env :: outer)) (hf : env.frame = some L) (hkb : base.StaysIn h) (hl : h.FunFrames base (env :: outer)) (hx : MadeX h s.heap e cls vs)
    (hQ : ∀ h' t, Heap.FlyingW base outer e cls (.ref t) h' → h'.TupAt t vs → base.get? t = none → s.heap.UpToSlots h' → Q () { s with heap := h' }) : wpAny M A (leaving env (.ref e)) Q E s := by
  obtain ⟨t, d, he, htn, ht⟩ := hx.there
  have fresh : ∀ b, h.get? b = none → base.get? b = none := fun b hb => by
    cases hq : base.get? b with
    | none => rfl
    | some o' => have := hkb b o' hq; rw [hb] at this; cases this
  refine wpAny_leaving_firstW (a0 := .ref t) hfr (hl.of_keeps fun b o hb _ => ⟨o, hx.keeps b o hb, rfl⟩) hf he (fun b o hb => hx.keeps b o (hkb b o hb)) (fresh e hx.new) rfl rfl rfl fun h' hL => ?_
  obtain ⟨k1, ⟨_, _, k2⟩, k3, k4⟩ := hL
  exact hQ h' t ⟨k1, fresh e hx.new, k2, k3⟩ (Heap.TupAt.of_slots ⟨_, _, ht, rfl, rfl⟩ k4) (fresh t htn) k4
theorem leave_raiseX (K : Below A base outer g) (hx : MadeX h s'.heap e cls vs) (F : Fr g L h m) (N : News g L h news)
    (hQ : ∀ h' t, RaisedS base g outer e cls t vs news h' → g.UpToSlots h' → Q () { s' with heap := h' }) (hk : scope.kind = .function := by rfl) :
    wpAny M (A.deeper (envOf name scope L a cd)) (leaving (envOf name scope L a cd) (.ref e)) Q E s' := by
  have K' := K.push (name := name) (a := a) (cd := cd) F hk
  have hin : ∀ env ∈ (envOf name scope L a cd :: outer), ∀ b, env.frame = some b → b ∈ (envOf name scope L a cd :: outer).filterMap (·.frame) := fun env he b hb => List.mem_filterMap.mpr ⟨env, he, hb⟩
  have st : base.StaysIn (hideAll h ((envOf name scope L a cd :: outer).filterMap (·.frame))) := fun b o q => hideAll_get _ (K'.stays b o q) fun hm => by
    rw [(K'.frames.mem hm).1] at q; cases q
  have sg : ∀ b o, g.get? b = some o → b ∉ outer.filterMap (·.frame) → (hideAll h ((envOf name scope L a cd :: outer).filterMap (·.frame))).get? b = some o := fun b o q nm => hideAll_get _ (F.keep b o q) fun hm => by
    rcases kts_mem hm with z | z
    · rw [z, kts_self F] at q
      cases q
    · exact nm z
  have hl : ∀ q ∈ news, (hideAll h ((envOf name scope L a cd :: outer).filterMap (·.frame))).get? q.1 = some q.2 ∧ g.get? q.1 = none ∧ base.get? q.1 = none := fun q hq => by
    refine ⟨hideAll_get _ (N q hq).1 fun hm => ?_, (N q hq).2.2, fresh_of_stays K.stays (N q hq).2.2⟩
    obtain ⟨env, he, hf⟩ := List.mem_filterMap.mp hm
    rcases List.mem_cons.mp he with rfl | he
    · exact (N q hq).2.1 (Option.some.inj hf).symm
    · obtain ⟨o, ho, _⟩ := (K.frames.mem (List.mem_filterMap.mpr ⟨env, he, hf⟩)).2
      rw [(N q hq).2.2] at ho; cases ho
  exact leaves_madeX K'.stack rfl (fun b o q => of_hideAll _ q) (funFrames_hide K'.frames hin) hx fun h' t x1 x2 x3 x4 =>
    hQ h' t ⟨⟨_, st, sg, hl, x1, x3⟩, x2⟩ (((Heap.UpToSlots.of_keeps F.keep).trans (Heap.UpToSlots.of_keeps hx.keeps)).trans x4)
end
theorem RaisedS.sub {base G : Heap} {l : List Env} {e t : Addr} {cls : Value} {vs : List Value} {news news' : List (Addr × Obj)} {h : Heap} (R : RaisedS base G l e cls t vs news h) (hs : ∀ p, p ∈ news' → p ∈ news) : RaisedS base G l e cls t vs news' h := by
  obtain ⟨⟨B, hB, hBG, hl, hfl, hnew⟩, htup⟩ := R
  exact ⟨⟨B, hB, hBG, fun q hq => hl q (hs q hq), hfl, hnew⟩, htup⟩
section
variable {M : Model} {A : Around} {E : Value → Shared → Prop} {s : Shared} {env : Env} {C : Addr}
theorem Raise_x {KF : Frag} {ex : Expr} {pos : PySem.Pos} {Q : Flow → Shared → Prop} {T : String} (q : ktsIn KF C T = true) (hh : A.handled = none)
    (h : wpAny M A (eval ex env) (fun v s₁ => ∃ e t d, v = .ref e ∧ KF.In s₁.heap ∧ s₁.heap.get? e = some { cls := .ref C, dict := d, data := .fields #[.ref t, .none, .none, .none, .bool false, .none] } ∧ E (.ref e) s₁) E s) :
    wpAny M A (exec (.Raise (some ex) none pos) env) Q E s := by
  show wpAny M A (do standAt pos; raiseStmt env (some (do let v ← eval ex env; standAt pos; pure v)) none) Q E s
  refine wpAny_bind (wpAny_standAt ?_)
  unfold raiseStmt
  dsimp only
  refine wpAny_bind (wpAny_bind (wpAny_mono h (fun v s₁ h₁ => wpAny_bind (wpAny_standAt (wpAny_pure ?_))) fun _ _ x => x))
  obtain ⟨e, t, d, rfl, X, he, hE⟩ := h₁
  obtain ⟨nm, q', N, bs, bm, hdct, sn, sub, ab, col, dd, k0, k1, k2, k3, k5, newId, hC, hbase, hbT⟩ := kts_cls X q
  have hcB : (Value.ref C :: bm).contains (.type "BaseException") = true := by rw [List.contains_cons, hbase, Bool.or_true]
  obtain ⟨hp, g, dr, tk, os⟩ := s₁
  repeat (first | with_reducible refine wpAny_loadPart_at he ?_ | with_reducible refine wpAny_loadPart_at hC ?_ | (with_reducible refine wpAny_isSubtype_exc hC ?_; rw [hcB]) | wp_step)
  exact wpAny_raiseNew_none hh hE
end
end Mine
namespace Mine
structure RetX (Q : Value → Shared → Prop) (s : Shared) (cls : Value) (vs : List Value) : Prop where
  go : ∀ h' tk' e, MadeX s.heap h' e cls vs → Q (.ref e) { s with heap := h', toks := tk' }
end Mine

theorem Mine.rules_j12 : True := by
  w_top off
  k_with_none
  k_with "k_ne" => (first | exact Mine.nq (by with_reducible assumption) | exact Mine.nqs (by with_reducible assumption))
  k_with "call builtin:list.pop" => ((k_here; (with_reducible show wpAny _ _ (call (Value.builtin _) [Value.ref _, Value.int _ _]) _ _ _); k_dflt (refine' Mine.pop0 ?z344F ?z344N ?z344U ?z344z ?_; (case z344F => k_asm); (case z344N => k_asm); (case z344U => k_upd); (case z344z => first | assumption | omega)); intro h' F' N'; (try dsimp only [List.nil_append, List.cons_append] at N')))
  k_with "tb_start" => (first | assumption | (refine List.Mem.tail _ ?_; tb_start))
  k_with "ktr_rel" => (first
      | with_reducible assumption
      | (refine' Mine.ncons ?z346N ?z346m ?z346r; (case z346N => k_asm); (case z346m => k_mem); (case z346r => ktr_rel))
      | (refine' Mine.nrest ?z346N ?z346m; (case z346N => k_asm); (case z346m => (intro p hp; tb_start))))
  k_with "ktr_room" => (first | exact Mine.rm1 (by assumption) rfl | exact Mine.rm0 (by assumption) | exact Mine.rmS (Mine.rm1 (by assumption) rfl) | exact Mine.rmS (Mine.rmS (Mine.rm1 (by assumption) rfl)) | exact Mine.rmN rfl | ((try simp only [depth_under_make, depth_under_kw, depth_in1, depth_deeper, depth_caller]); (try dsimp only [ktrTop]); omega))
  k_with "k_room" => (ktr_room)
  k_with "units_room" => (first | exact Mine.rm1 (by assumption) rfl | exact Mine.rm0 (by assumption) | exact Mine.rmS (Mine.rm1 (by assumption) rfl) | exact Mine.rmS (Mine.rmS (Mine.rm1 (by assumption) rfl)) | exact Mine.rmS (Mine.rmS (Mine.rmS (Mine.rm1 (by assumption) rfl))) | exact Mine.rmN rfl | ((try simp only [units_under_make, units_in1, units_deeper, Around.mark_units, units_caller]); (try dsimp only [ktrTop]); omega))
  k_with "k_units" => (units_room)
  k_with "k_enter" => (ktr_enter)
  k_with "k_all" => (first | exact Mine.ne_sub (by assumption) (by intro p hp; tb_start) | exact Mine.ne_sub2 (by assumption) (by intro p hp; tb_start))
  k_with "x_close" => (((rename PySem.W.X.Mem _ _ _ _ => hD9); (rename Mine.RetX _ _ _ _ => hR9); (refine' Mine.RetX.go hR9 _ _ _ (Mine.madeX_of hD9 ?z353he ?z353ht)); (case z353he => with_unfolding_all kst_p1); (case z353ht => with_unfolding_all kst_p1)))
  k_with "kst_p1" => (first | exact List.Mem.head _ | (refine List.Mem.tail _ ?_; kst_p1))
  trivial

namespace Mine
abbrev far : Around := { handled := none, depth := 500, frames := none, guards := none, units := 5000 }
theorem to_far {M : Model} {A : Around} {α : Type} {t : Sem α} {Q : α → Shared → Prop} {E : Value → Shared → Prop} {s : Shared} (h0 : A.handled = none) (h1 : A.depth ≤ 500) (h2 : A.units ≤ 5000) (h : wpAny M far t Q E s) : wpAny M A t Q E s :=
  fun Γ p hΓ => h Γ p ⟨hΓ.1.trans h0, Nat.le_trans hΓ.2.1 h1, (fun l e => nomatch e), (fun l e => nomatch e), Nat.le_trans hΓ.2.2.2.2 h2⟩
theorem mk_err {w : World} {s : Shared} {msg : Str} {t : Tok} {Q E : Value → Shared → Prop}
  (X : (hd.heap_1 w.params).In s.heap) (hm : msg.length ≤ 1000) (ret : ∀ h' tk' e, MadeX s.heap h' e (.ref 59) [.str msg t] → Q (.ref e) { s with heap := h', toks := tk' }) :
  wpAny (model Pg w) far (call (.ref 59) [.str msg t]) Q E s := by
  have hR := RetX.mk ret
  have hb0 := X (nat_lit 0) _ (by with_unfolding_all rfl)
  have hb3 := X (nat_lit 3) _ (by with_unfolding_all rfl)
  x_run
end Mine

namespace Mine
open PySem.Spec PySem.Calls
def RzEnd (w : World) (E : Value → Shared → Prop) (v : Value) (s₁ : Shared) : Prop :=
  ∃ e t d, v = .ref e ∧ (hd.heap_1 w.params).In s₁.heap ∧ s₁.heap.get? e = some { cls := .ref 59, dict := d, data := .fields #[.ref t, .none, .none, .none, .bool false, .none] } ∧ E (.ref e) s₁
theorem call59 {w : World} {A : Around} {E : Value → Shared → Prop} {s : Shared} {h₀ : Heap} {L : Addr} {m : Str → Option Value} {msg : Str} {t : Tok} (F : Fr h₀ L s.heap m) (X : (hd.heap_1 w.params).In h₀) (hh : A.handled = none) (h1 : A.depth ≤ 500) (h2 : A.units ≤ 5000) (hm : msg.length ≤ 1000)
    (h : ∀ h' tk' e, MadeX s.heap h' e (.ref 59) [.str msg t] → E (.ref e) { s with heap := h', toks := tk' }) : wpAny (model Pg w) A (call (.ref 59) [.str msg t]) (RzEnd w E) E s :=
  to_far hh h1 h2 (mk_err (X.keeps F.keep) hm fun h' tk' e hx => by
    obtain ⟨t', d, he, _, _⟩ := hx.there
    exact ⟨e, t', d, rfl, X.keeps fun b o q => hx.keeps b o (F.keep b o q), he, h h' tk' e hx⟩)
theorem Raise_set {w : World} {A : Around} {E : Value → Shared → Prop} {s : Shared} {env : Env} {ex : Expr} {pos : PySem.Pos} {Q : Flow → Shared → Prop} (q : ktsIn (hd.heap_1 w.params) 59 "Exception" = true) (hh : A.handled = none)
    (h : wpAny (model Pg w) A (eval ex env) (RzEnd w E) E s) : wpAny (model Pg w) A (exec (.Raise (some ex) none pos) env) Q E s := Raise_x (C := 59) q hh h
theorem two_len : (Str.ofString "no such guard: " ++ Str.ofString "none").length ≤ 1000 := by decide +kernel
theorem one_len : (Str.ofString "a port is guarded against roots or against silence").length ≤ 1000 := by decide +kernel
end Mine
namespace Mine
theorem band1 {b x : Bool} (h : b = false) : (b && x) = false := by rw [h]; rfl
theorem band2 {b x : Bool} (h : x = false) : (b && x) = false := by rw [h, Bool.and_false]
theorem band3 {b x : Bool} (h : b = true) (h2 : x = true) : (b && x) = true := by rw [h, h2]; rfl
theorem end_r {w : World} {base g h' : Heap} {l : List Env} {e t G GD GR W WD WK : Addr} {cls : Value} {vs : List Value} {o1 o2 oR oK : Obj} {es es' : List (Int × Value)} {p : Int} {vh vu : Value} {kr kb kf kl b : Bool} {H : Hd} {U : Option Int} {t1 t2 t3 t4 : Tok} {rest : List (Addr × Obj)} (hE : EsStep es p es' W)
    (R : RaisedS base g l e cls t vs ((G, o1) :: (GD, o2) :: (GR, oR) :: (W, instObj 77 WD) :: (WD, wdObj w WK vh vu b t1 t2 t3 t4) :: (WK, oK) :: rest) h') (nd : Nd ((G, o1) :: (GD, o2) :: (GR, oR) :: (W, instObj 77 WD) :: (WD, wdObj w WK vh vu b t1 t2 t3 t4) :: (WK, oK) :: rest))
    (hk : oK.IsDictOf (strKind Pg w) (kindsOf kr kb kf kl)) (hh : HG H vh) (hu : UV U vu) :
    ∃ seg', PSeg w es' p ⟨kr, kb, kf, kl, H, U, b⟩ seg' ∧ RaisedS base g l e cls t vs ((G, o1) :: (GD, o2) :: (GR, oR) :: (rest ++ seg')) h' ∧ Nd ((G, o1) :: (GD, o2) :: (GR, oR) :: (rest ++ seg')) := by
  have P : ((G, o1) :: (GD, o2) :: (GR, oR) :: (W, instObj 77 WD) :: (WD, wdObj w WK vh vu b t1 t2 t3 t4) :: (WK, oK) :: rest).Perm ((G, o1) :: (GD, o2) :: (GR, oR) :: (rest ++ [(W, instObj 77 WD), (WD, wdObj w WK vh vu b t1 t2 t3 t4), (WK, oK)])) :=
    List.Perm.cons _ (List.Perm.cons _ (List.Perm.cons _ (pk_seg (seg := [(W, instObj 77 WD), (WD, wdObj w WK vh vu b t1 t2 t3 t4), (WK, oK)]) (List.Perm.refl _))))
  exact ⟨[(W, instObj 77 WD), (WD, wdObj w WK vh vu b t1 t2 t3 t4), (WK, oK)], .of hE (Seg.mk (a := ⟨kr, kb, kf, kl, H, U, b⟩) _ _ _ _ _ _ _ _ _ hk hh hu), RaisedS.sub R (fun p hp => P.mem_iff.mpr hp), nd_perm nd P⟩
end Mine

theorem Mine.rules_j13 : True := by
  w_top off
  k_with_none
  k_with "k_ne" => (first | exact Mine.nq (by with_reducible assumption) | exact Mine.nqs (by with_reducible assumption))
  k_with "call builtin:list.pop" => ((k_here; (with_reducible show wpAny _ _ (call (Value.builtin _) [Value.ref _, Value.int _ _]) _ _ _); k_dflt (refine' Mine.pop0 ?z356F ?z356N ?z356U ?z356z ?_; (case z356F => k_asm); (case z356N => k_asm); (case z356U => k_upd); (case z356z => first | assumption | omega)); intro h' F' N'; (try dsimp only [List.nil_append, List.cons_append] at N')))
  k_with "tb_start" => (first | assumption | (refine List.Mem.tail _ ?_; tb_start))
  k_with "ktr_rel" => (first
      | with_reducible assumption
      | (refine' Mine.ncons ?z358N ?z358m ?z358r; (case z358N => k_asm); (case z358m => k_mem); (case z358r => ktr_rel))
      | (refine' Mine.nrest ?z358N ?z358m; (case z358N => k_asm); (case z358m => (intro p hp; tb_start))))
  k_with "ktr_room" => (first | exact Mine.rm1 (by assumption) rfl | exact Mine.rm0 (by assumption) | exact Mine.rmS (Mine.rm1 (by assumption) rfl) | exact Mine.rmS (Mine.rmS (Mine.rm1 (by assumption) rfl)) | exact Mine.rmN rfl | ((try simp only [depth_under_make, depth_under_kw, depth_in1, depth_deeper, depth_caller]); (try dsimp only [ktrTop]); omega))
  k_with "k_room" => (ktr_room)
  k_with "units_room" => (first | exact Mine.rm1 (by assumption) rfl | exact Mine.rm0 (by assumption) | exact Mine.rmS (Mine.rm1 (by assumption) rfl) | exact Mine.rmS (Mine.rmS (Mine.rm1 (by assumption) rfl)) | exact Mine.rmS (Mine.rmS (Mine.rmS (Mine.rm1 (by assumption) rfl))) | exact Mine.rmN rfl | ((try simp only [units_under_make, units_in1, units_deeper, Around.mark_units, units_caller]); (try dsimp only [ktrTop]); omega))
  k_with "k_units" => (units_room)
  k_with "k_enter" => (ktr_enter)
  k_with "k_all" => (first | exact Mine.ne_sub (by assumption) (by intro p hp; tb_start) | exact Mine.ne_sub2 (by assumption) (by intro p hp; tb_start))
  k_with "eval DictComp" => ((k_here; k_dflt (refine Mine.DictComp_T (PySem.strKind _ _) (by k_asm) (by rfl) (by rfl) (by decide) (by rfl) (by decide) (by rfl) ?_ (fun _ => by with_unfolding_all rfl))))
  k_with "Exists" => ((k_here; k_dflt (refine ⟨_, _, _, rfl, by k_asm, by k_asm, Mine.tup_of_K (by k_asm) (by k_is), fun g₂ => ?_⟩)))
  k_with "DRest" => ((with_unfolding_all first
      | (refine Mine.DRest.succ (by rw [sizeLine_eq]; exact Nat.le_of_ble_eq_true rfl) ?_; intro v' I' oI' C' oC' D' oD' m' h' tk' E' hv' hC' hx' hoD' F' N' off' ne'; lcg_open hv'; (try simp only [LCg.Off3, and_true] at off'))
      | refine Mine.DRest.zero ?_))
  k_with "DEnd" => ((refine Mine.DEnd.intro (by assumption) (by assumption) _ (strKind_is _ _ _ _) (fun _ h => h) (by assumption) True.intro ?_))
  k_with "DFinE" => ((intro D' oD' h' tk' hoD' F' N' o1'; (have o2' := Mine.off1_mem o1'); (try simp only [LCg.Off1, and_true] at o1'); (try dsimp only)))
  k_with "kd_mem" => (first | exact Mine.Pos.head | exact Mine.PosF.head | (refine' Mine.Pos.tail ?z370p; (case z370p => kd_mem)) | (refine' Mine.PosF.tail ?z370p; (case z370p => kd_mem)))
  k_with "k_upd" => ((refine' Mine.upd_nd ?z371nd ?z371e ?z371p; (case z371nd => assumption); (case z371e => rfl); (case z371p => kd_mem)))
  k_with "k_updF" => (first | (refine' Mine.updF_nd ?z372nd ?z372e ?z372p; (case z372nd => assumption); (case z372e => rfl); (case z372p => kd_mem)) | (refine' UpdF.head ?z372a; (case z372a => k_all)) | (refine' UpdF.tail ?z372a ?z372b; (case z372a => k_ne); (case z372b => k_updF)))
  k_with "kd_p1" => (first | exact Mine.pk_head | (refine' Mine.pk_tail ?z373h; (case z373h => kd_p1)))
  k_with "kst_p" => (first | exact Mine.sg_here | exact Mine.sg_end | (refine' Mine.sg_tail ?z374h; (case z374h => kst_p)) | (refine' Mine.sg_app ?z374h; (case z374h => kst_p)))
  k_with "kd_p" => (first | exact List.Perm.refl _ | (refine' Mine.pk_cons ?z375h ?z375g; (case z375h => kd_p1); (case z375g => kd_p)) | (refine' Mine.pk_seg ?z375h; (case z375h => kst_p)))
  k_with "tb_rel" => (first | assumption | exact Mine.nd3 (by assumption) | exact Mine.nd3 (Mine.nd3 (by assumption)) | (refine' Mine.nd_of ?z376nd ?z376e; (case z376nd => assumption); (case z376e => rfl)) | (refine' Mine.nd_new ?z376h ?z376e ?z376n; (case z376h => assumption); (case z376e => rfl); (case z376n => tb_rel)) | (refine' Mine.nd_new2 ?z376h ?z376g ?z376e ?z376n; (case z376h => assumption); (case z376g => assumption); (case z376e => rfl); (case z376n => tb_rel)) | (refine' Mine.nd_new1 ?z376h ?z376e ?z376n; (case z376h => assumption); (case z376e => rfl); (case z376n => tb_rel)))
  k_with "subscriptTail" => ((k_here; k_dflt (first
      | ((with_reducible show wpAny _ _ (subscriptTail _ _ (Value.ref _) (Value.str _ _)) _ _ _); refine kda_item (knd := PySem.strKind _ _) (by k_asm) (by k_mem) (by k_asm) (strKind_is _ _ _ _) (by first | assumption | rfl) ?_)
      | ((with_reducible show wpAny _ _ (subscriptTail _ _ (Value.ref _) (Value.int _ _)) _ _ _); refine kda_item (knd := PySem.intKind _ _) (by k_asm) (by k_mem) (by k_asm) (intKind_is _ _ _ _) (by first | assumption | rfl | exact Mine.val_new (by assumption)) ?_))))
  k_with "setItem ref str" => ((k_here; k_dflt (refine' kda_set (knd := PySem.strKind _ _) ?z378F ?z378N ?z378U ?z378d (strKind_is _ _ _ _) ?z378z ?_; (case z378F => k_asm); (case z378N => k_asm); (case z378U => k_updF); (case z378d => k_asm); (case z378z => first | kob_size | assumption)); intro h' o' F' N' hd'; (try kob_lit); (try dsimp only at N')))
  k_with "setItem ref int" => ((k_here; k_dflt (refine' kda_set (knd := PySem.intKind _ _) ?z379F ?z379N ?z379U ?z379d (intKind_is _ _ _ _) ?z379z ?_; (case z379F => k_asm); (case z379N => k_asm); (case z379U => k_updF); (case z379d => k_asm); (case z379z => first | kob_size | assumption)); intro h' o' F' N' hd'; (try kob_lit); (try dsimp only at N')))
  k_with "compareOp NotIn int ref" => ((k_here; k_dflt (first
      | refine kdg_notin (knd := PySem.intKind _ _) (by k_asm) (by k_mem) (by k_asm) (by k_asm) (intKind_is _ _ _ _) true (by first | assumption | rfl | exact Mine.iss (by assumption) | exact Mine.isn (by assumption)) ?_
      | refine kdg_notin (knd := PySem.intKind _ _) (by k_asm) (by k_mem) (by k_asm) (by k_asm) (intKind_is _ _ _ _) false (by first | assumption | rfl | exact Mine.iss (by assumption) | exact Mine.isn (by assumption)) ?_); (try dsimp only [Bool.not_true, Bool.not_false])))
  k_with "getItem ref int" => ((k_here; k_dflt (refine Mine.get_dict (knd := PySem.intKind _ _) (by k_asm) (by k_mem) (by k_asm) (intKind_is _ _ _ _) (by first | assumption | rfl | exact Mine.val_new (by assumption)) ?_)))
  k_with "getItem ref str" => ((k_here; k_dflt (refine Mine.get_dict (knd := PySem.strKind _ _) (by k_asm) (by k_mem) (by k_asm) (strKind_is _ _ _ _) (by first | assumption | rfl) ?_)))
  k_with "execs cons" => (((with_reducible refine Mine.st_norm s rfl rfl rfl ?_); intro tk'))
  k_with "ktn_open" => (skip)
  k_with "k_handed" => (first | exact Mine.hg_in (by assumption) | exact Mine.uv_in (by assumption))
  k_with "call ref" => ((k_here; (with_reducible show wpAny _ _ (call (Value.ref 102) _) _ _ _); k_dflt (refine' Mine.row_o ?z386B ?z386F ?z386X ?z386T ?z386k ?z386d ?z386u ?z386N ?z386P1 ?z386nd ?z386hR ?z386hs ?z386P2 ?z386lo ?_; (case z386B => k_asm); (case z386F => k_asm); (case z386X => k_asm); (case z386T => k_asm); (case z386k => first | exact rfl | assumption); (case z386d => ktr_room); (case z386u => units_room); (case z386N => k_asm); (case z386P1 => kd_p); (case z386nd => tb_rel); (case z386hR => assumption); (case z386hs => assumption); (case z386P2 => kd_p); (case z386lo => assumption)); intro h' tk' W' WD' WK' oK' vh' vu' t6' t7' t8' t9' oR' es' hE' hR' hK' hH' hU' F' N' nd'; (try dsimp only at hK'); (try dsimp only at hH'); (try dsimp only at hU'); (try dsimp only at N'); (try dsimp only at nd'); (try dsimp only); ktn_open))
  k_with "compareOp NotIn str ref" => ((k_here; (with_reducible show wpAny _ _ (compareOp CmpOp.NotIn (Value.str _ _) (Value.ref 62)) _ _ _); k_dflt (refine' Mine.notin_K (ys := Mine.fourK) ?z387F ?z387ht ?z387hi ?z387hb ?_; (case z387F => k_asm); (case z387ht => exact Mine.tup_of_K (by k_asm) (by k_is)); (case z387hi => exact .cons _ _ (.cons _ _ (.cons _ _ (.cons _ _ .nil)))); (case z387hb => first | exact Mine.four_root | exact Mine.four_bpdu | exact Mine.four_filter | exact Mine.four_loop | exact Mine.four_none)); (try dsimp only [Bool.not_true, Bool.not_false])))
  k_with "exec Raise some none" => ((k_here; k_dflt ((with_reducible refine' Mine.Raise_set ?z388q ?z388hh ?_); (case z388q => kts_isx); (case z388hh => exact rfl))))
  k_with "call ref" => ((k_here; (with_reducible show wpAny _ _ (call (Value.ref 59) _) _ _ _); k_dflt (refine' Mine.call59 ?z389F ?z389X ?z389hh ?z389h1 ?z389h2 ?z389hm ?_; (case z389F => k_asm); (case z389X => k_asm); (case z389hh => rfl); (case z389h1 => kdy_size); (case z389h2 => kdy_size); (case z389hm => first | exact Mine.two_len | exact Mine.one_len)); intro h' tk' e' hx'))
  k_with "kdy_size" => (((try simp only [depth_under_make, depth_under_kw, depth_in1, depth_deeper, depth_caller, units_under_make, units_in1, units_deeper, Around.mark_units, units_caller]); (try dsimp only [ktrTop]); omega))
  k_with "leaving ref" => ((k_here; k_dflt (refine' Mine.leave_raiseX ?z391K ?z391hx ?z391F ?z391N ?_; (case z391K => assumption); (case z391hx => assumption); (case z391F => assumption); (case z391N => assumption)); intro h' t' hR' hU'; (try dsimp only)))
  trivial

namespace Mine
section
variable {w : World} {A₀ : Around} {base : Heap} {outer : List Env} {h₀ : Heap} {mean : ExcName → Option Value} {mg mb : Str → Option Value} {cs : Scope} {dp un : Nat} {gd : Option (List Code)} {cn : Str} {L a : Addr} {ccd : Value} {cl : List (Str × Addr)} {s : Shared} {m : Str → Option Value} {rest : List (Addr × Obj)} {Q E : Value → Shared → Prop}
  (B : Below A₀ base outer h₀) (F : Fr h₀ L s.heap m) (X : (hd.heap_1 w.params).In h₀) (T : Top qv Lo mean mg mb h₀) (k : cs.kind = .function) (d : dp + 18 < recursionLimit) (u : un + 300 < cLine) (d5 : dp ≤ 480) (u5 : un ≤ 4900)
include B F X T k d u d5 u5
theorem setg_c {G GD GR : Addr} {rc qt p : Int} {t1 t2 t3 t4 t5 tp tkd : Tok} {oR : Obj} {es : List (Int × Value)} {a0 : St} {seg cur r : List (Addr × Obj)} {kd : Str} {b : Bool}
  (N : News h₀ L s.heap cur) (P1 : cur.Perm ((G, instObj 154 GD) :: (GD, gdObj w rc qt GR t1 t2 t3 t4 t5) :: (GR, oR) :: r)) (nd : Nd cur)
  (hR : oR.IsDictOf (intKind Pg w) es) (hs : PSeg w es p a0 seg) (P2 : r.Perm (rest ++ seg)) (lo : (GR == sysModules) = false)
  (hk : kd = Str.ofString "bpdu" ∨ kd = Str.ofString "root" ∨ kd = Str.ofString "loop" ∨ kd = Str.ofString "filter" ∨ kd = Str.ofString "none")
  (ret : ∀ h' tk' W oR' es' seg', badS a0 kd b = false → EsStep es p es' W → PSeg w es' p (kset a0 kd b) seg' → oR'.IsDictOf (intKind Pg w) es' → Fr h₀ L h' m →
    News h₀ L h' ((G, instObj 154 GD) :: (GD, gdObj w rc qt GR t1 t2 t3 t4 t5) :: (GR, oR') :: (rest ++ seg')) → Nd ((G, instObj 154 GD) :: (GD, gdObj w rc qt GR t1 t2 t3 t4 t5) :: (GR, oR') :: (rest ++ seg')) → Q .none { s with heap := h', toks := tk' })
  (rai : ∀ g h' tk' e t vs oR' es' seg', badS a0 kd b = true → Es2 es p es' → PSeg w es' p a0 seg' → oR'.IsDictOf (intKind Pg w) es' → Fr h₀ L g m →
    RaisedS base g (envX cn cs L a ccd cl :: outer) e (.ref 59) t vs ((G, instObj 154 GD) :: (GD, gdObj w rc qt GR t1 t2 t3 t4 t5) :: (GR, oR') :: (rest ++ seg')) h' → g.UpToSlots h' → Nd ((G, instObj 154 GD) :: (GD, gdObj w rc qt GR t1 t2 t3 t4 t5) :: (GR, oR') :: (rest ++ seg')) → E (.ref e) { s with heap := h', toks := tk' }) :
  wpAny (model Pg w) (ktrTop dp un gd cn cs L a ccd cl outer) (call (.ref 109) [.ref G, .int p tp, .str kd tkd, .bool b]) Q E s := by
  have P := P1.trans (List.Perm.cons _ (List.Perm.cons _ (List.Perm.cons _ P2)))
  replace N := news_perm N P
  replace nd := nd_perm nd P
  rcases a0 with ⟨kr, kb, kf, kl, H, U, hr⟩
  refine wpAny_call ?_
  k_dflt ktr_enter
  rcases hk with rfl | rfl | rfl | rfl | rfl
  all_goals k_steps
  all_goals (try clear qk ek)
  all_goals first
    | (obtain ⟨seg', z1, z2, z3, z4⟩ := end_c (G := G) (GD := GD) (GR := GR) (rest := rest) (by assumption : EsStep es p _ _) (by ktr_rel) (by tb_rel) (by assumption) (by assumption) (by assumption)
       exact ret _ _ _ _ _ _ (by first
         | exact bad_bpdu
         | exact bad_filter
         | exact bad_root.trans (band1 (by assumption))
         | exact bad_root.trans (band2 (by assumption))
         | exact bad_loop.trans (band1 (by assumption))
         | exact bad_loop.trans (band2 (by assumption))) (by assumption) (by first | (rw [kset_bpdu]; exact z2) | (rw [kset_filter]; exact z2) | (rw [kset_root]; exact z2) | (rw [kset_loop]; exact z2)) (by assumption) (by assumption) z3 z4)
    | (obtain ⟨seg', z2, z3, z4⟩ := end_r (by assumption : EsStep es p _ _) (by assumption) (by tb_rel) (by assumption) (by assumption) (by assumption)
       exact rai _ _ _ _ _ _ _ _ _ (by first
         | exact bad_root.trans (band3 (by assumption) (by assumption))
         | exact bad_loop.trans (band3 (by assumption) (by assumption))) (.inr ⟨_, by assumption⟩) z2 (by assumption) (by assumption) z3 (by assumption) z4)
    | exact rai _ _ _ _ _ _ _ _ _ bad_none (.inl rfl) hs hR (by assumption) (by assumption) (by assumption) nd
    | fail
end
end Mine

namespace Mine
theorem OnRep.r' {a : St} {ss : List Str} (h : OnRep a ss) : (ss.any fun x => x == Str.ofString "root") = a.kr := h.r
/-- the list of the guards that are on, each once -/
structure OnL (a : St) (ss : List Str) : Prop where
  rep : OnRep a ss
  nd : ss.Nodup
  sub : ∀ x ∈ ss, x ∈ fourK
theorem nodup_len {α : Type} [DecidableEq α] : ∀ {l k : List α}, l.Nodup → (∀ x ∈ l, x ∈ k) → l.length ≤ k.length
  | [], _, _, _ => Nat.zero_le _
  | a :: l, k, hn, hs => by
    have hn' := List.nodup_cons.mp hn
    have ha : a ∈ k := hs a List.mem_cons_self
    have h := nodup_len (l := l) (k := k.erase a) hn'.2 fun x hx => by
      refine (List.mem_erase_of_ne ?_).mpr (hs x (List.mem_cons_of_mem _ hx))
      rintro rfl
      exact hn'.1 hx
    rw [List.length_erase_of_mem ha] at h
    have : 0 < k.length := List.length_pos_of_mem ha
    simp only [List.length_cons]
    omega
theorem OnL.len {a : St} {ss : List Str} (h : OnL a ss) : ss.length ≤ 4 := nodup_len h.nd h.sub
theorem strs_len {vs : List Value} {ss : List Str} (h : StrsAre vs ss) : vs.length = ss.length := by
  induction h with
  | nil => rfl
  | cons _ _ _ ih => simp [ih]
/-- the list behind a setting -/
def onUpd (ss : List Str) (kd : Str) (b : Bool) : List Str := ss.filter (fun x => decide (x ≠ kd)) ++ (if b then [kd] else [])
theorem any_upd {ss : List Str} {kd x : Str} {b : Bool} : (onUpd ss kd b).any (· == x) = if x = kd then b else ss.any (· == x) := by
  unfold onUpd
  rw [List.any_append, List.any_filter]
  by_cases h : x = kd
  · subst h
    have : (ss.any fun y => decide (y ≠ x) && y == x) = false := by
      rw [List.any_eq_false]
      intro y _
      by_cases q : y = x <;> simp [q]
    rw [if_pos rfl, this]
    cases b <;> simp
  · rw [if_neg h]
    have : (ss.any fun y => decide (y ≠ kd) && y == x) = ss.any (· == x) := by
      congr 1
      funext y
      by_cases q : y = x
      · subst q; simp [h]
      · simp [q]
    rw [this]
    cases b
    · simp
    · have : ((kd == x) : Bool) = false := by simpa using fun e => h e.symm
      simp [this]
theorem onL_upd {a : St} {ss : List Str} {kd : Str} {b : Bool} (h : OnL a ss) (hk : kd ∈ fourK) : OnL (kset a kd b) (onUpd ss kd b) := by
  have hne : ¬ Str.ofString "" = kd := by
    rintro rfl
    revert hk
    decide +kernel
  refine ⟨⟨?_, ?_, ?_, ?_, ?_⟩, ?_, ?_⟩
  · rw [any_upd, h.rep.r]; simp only [kset, eq_comm]
  · rw [any_upd, h.rep.b]; simp only [kset, eq_comm]
  · rw [any_upd, h.rep.f]; simp only [kset, eq_comm]
  · rw [any_upd, h.rep.l]; simp only [kset, eq_comm]
  · rw [any_upd, if_neg hne, h.rep.e]
  · unfold onUpd
    rw [List.nodup_append]
    refine ⟨h.nd.filter _, by cases b <;> simp, ?_⟩
    intro x hx y hy
    cases b
    · simp at hy
    · simp at hy
      subst hy
      simpa using (List.mem_filter.mp hx).2
  · intro x hx
    rcases List.mem_append.mp hx with hx | hx
    · exact h.sub x (List.mem_filter.mp hx).1
    · cases b
      · simp at hx
      · simp at hx
        exact hx ▸ hk
theorem OnL.letgo {a : St} {ss : List Str} {now : Int} (h : OnL a ss) : OnL (letgo a now) ss := ⟨h.rep.letgo, h.nd, h.sub⟩
end Mine

namespace Mine
open PySem.Spec PySem.Calls
/-! the ground behind a raise, for a frame with cells -/
theorem memX {env : Env} {L b : Addr} {outer : List Env} (hf : env.frame = some L) (hm : b ∈ (env :: outer).filterMap (·.frame)) : b = L ∨ b ∈ outer.filterMap (·.frame) := by
  obtain ⟨e', he, hb⟩ := List.mem_filterMap.mp hm
  rcases List.mem_cons.mp he with rfl | he
  · exact .inl (Option.some.inj (hb.symm.trans hf))
  · exact .inr (List.mem_filterMap.mpr ⟨e', he, hb⟩)
section
variable {A₀ : Around} {base g G B h₅ : Heap} {outer : List Env} {L : Addr} {m : Str → Option Value} {env : Env}
theorem off_frame {b : Addr} {o : Obj} (F : Fr g L G m) (hf : env.frame = some L) (e : g.get? b = some o) (nm : b ∉ outer.filterMap (·.frame)) : b ∉ (env :: outer).filterMap (·.frame) := fun hm => by
  rcases memX hf hm with z | z
  · rw [z, kts_self F] at e; cases e
  · exact nm z
theorem groundT (K : Below A₀ base outer g) (F : Fr g L G m) (hf : env.frame = some L) (hBG : ∀ b o, G.get? b = some o → b ∉ (env :: outer).filterMap (·.frame) → B.get? b = some o) (hBh : B.StaysIn h₅) (hsm : G.UpToSlots h₅) :
    ∃ g', KtsTurn (outer.filterMap (·.frame)) g g' ∧ Fr g' L h₅ m ∧ Below A₀ base outer g' := by
  obtain ⟨T, S⟩ := kts_turn_at (h := h₅) (fs := outer.filterMap (·.frame)) (g := g)
    (fun b hb => let ⟨_, o, ho, _⟩ := K.frames.mem hb; ⟨o, ho⟩)
    (fun b o e nm => hBh b o (hBG b o (F.keep b o e) (off_frame F hf e nm)))
    (fun b o e hm => by
      obtain ⟨_, o', ho', hd⟩ := K.frames.mem hm
      rw [e] at ho'
      cases ho'
      exact hsm b o (F.keep b o e) hd)
  refine ⟨_, T, ⟨hsm.ns F.ns, S, by rw [T.size]; exact F.above⟩, ⟨K.stack, fun b o e => T.other b o (K.stays b o e) fun hm => ?_, K.frames.of_keeps fun b o e _ => ?_⟩⟩
  · rw [(K.frames.mem hm).1] at e; cases e
  · obtain ⟨sl, hs⟩ := T.up e
    exact ⟨_, hs, rfl⟩
theorem freshT {b : Addr} (F : Fr g L G m) (hf : env.frame = some L) (hBG : ∀ b o, G.get? b = some o → b ∉ (env :: outer).filterMap (·.frame) → B.get? b = some o) (hb : B.get? b = none)
    (hnf : ∀ o, g.get? b = some o → b ∈ outer.filterMap (·.frame) → False) : g.get? b = none := by
  cases q : g.get? b with
  | none => rfl
  | some o =>
    by_cases hm : b ∈ outer.filterMap (·.frame)
    · exact (hnf o q hm).elim
    · have := hBG b o (F.keep b o q) (off_frame F hf q hm)
      rw [hb] at this; cases this
end
section
variable {prog : Program} {w : World} {A₀ : Around} {E : Value → Shared → Prop} {s' : Shared} {base g g₀ G : Heap} {outer : List Env} {L a e t C : Addr} {m : Str → Option Value} {name : Str} {scope : Scope} {cd : Value} {cl : List (Str × Addr)}
  {vs : List Value} {b₀ : Stmt} {suite : List Stmt} {pos np : PySem.Pos} {rest : List ExceptHandler} {Q : Flow → Shared → Prop} {news : List (Addr × Obj)} {KF : Frag}
  {p : Program} {loose : List Str} {mean : ExcName → Option Value} {mg mb : Str → Option Value} {x : Str}
/-- an own exception of a callee, caught by its name in a frame with cells -/
theorem caught_X (R : RaisedS base G (envX name scope L a cd cl :: outer) e (.ref C) t vs news s'.heap) (F : Fr g L G m) (K : Below A₀ base outer g) (hsm : G.UpToSlots s'.heap) (XB : KF.In base) (TB : Top p loose mean mg mb base)
    (D : KtsDicts (outer.filterMap (·.frame)) g) (ex : nsIn KF mainGlobals x = some (some (.ref C))) (q : ktsIn KF C "BaseException" = true)
    (k : ∀ h' g', KtsTurn (outer.filterMap (·.frame)) g g' → Fr g' L h' m → News g' L h' news → Below A₀ base outer g' → KF.In g' → Top p loose mean mg mb g' → KtsDicts (outer.filterMap (·.frame)) g' →
      wpAny (model prog w) ((A₀.deeper (envX name scope L a cd cl)).mark (some (.ref e))) (execs (b₀ :: suite) (envX name scope L a cd cl)) Q E { s' with heap := h' })
    (hk : scope.kind = .function) (hx : (envX name scope L a cd cl).kindOf x = some .globalImplicit) (hd : (x == ("__debug__" : Str)) = false)
    (hE : PassesOwnAt (model prog w) ((A₀.deeper (envX name scope L a cd cl)).mark (some (.ref e))) (A₀.deeper (envX name scope L a cd cl)) (envX name scope L a cd cl) E) :
    wpAny (model prog w) (A₀.deeper (envX name scope L a cd cl)) (noteFrame (.ref e) (envX name scope L a cd cl))
      (fun _ s₂ => wpAny (model prog w) (A₀.deeper (envX name scope L a cd cl)) (setFlight (.ref e) none) (fun _ s₃ =>
        wpAny (model prog w) (A₀.deeper (envX name scope L a cd cl)) (handleBy (.ref e) (envX name scope L a cd cl) (.ExceptHandler (some (.Name x np)) none (b₀ :: suite) pos :: rest)) Q E s₃) E s₂) E s' := by
  have hf : (envX name scope L a cd cl).frame = some L := rfl
  obtain ⟨⟨B, hB, hBG, hl, hfl, hnew⟩, htup⟩ := R
  have hL : B.get? L = none := by
    obtain ⟨_, ⟨L', _, hf', hn', _⟩, _⟩ := hfl.2.2.1
    obtain rfl : L = L' := Option.some.inj hf'
    exact hn'
  refine wpAny_looks_onW (Around.frames_deeper K.stack) rfl hfl fun h₄ hheld₄ hsm₄ => ?_
  refine wpAny_landsW hheld₄ fun h₅ hheld hsm₅' => ?_
  have hsm₅ := hsm₄.trans hsm₅'
  obtain ⟨g₅, T₅, F₅, K₅⟩ := groundT K F hf hBG hheld.1 (hsm.trans hsm₅)
  have X₅ : KF.In g₅ := XB.keeps K₅.stays
  obtain ⟨ob, hob, hobc⟩ := hheld.there
  obtain ⟨nm, q', N, bs, bm, hdct, sn, sub, ab, col, dd, k0, k1, k2, k3, k5, newId, hC, hbase, _⟩ := kts_cls X₅ q
  refine wpAny_handleBy_cons (codeAny_handlers_test (nameX_K F₅ X₅ (topRead_of (TB.keeps K₅.stays)) ex ?_ hk hx hd)) (by intro z; cases z)
  refine wpAny_excMatches_sub_self (F₅.keep _ _ hC) hob hobc hbase (codeAny_handlers_suite ?_)
  refine lands_againW hheld fun h₆ hfl₆ hsm₆ => ?_
  obtain ⟨g₆, T₆, F₆, K₆⟩ := groundT K F hf hBG hfl₆.1 ((hsm.trans hsm₅).trans hsm₆)
  have Nl : News g₆ L h₆ news := fun p hp => ⟨hfl₆.1 _ _ (hl p hp).1, (fun z => by have := (hl p hp).1; rw [z, hL] at this; cases this), T₆.none_ _ (kts_none F.keep (hl p hp).2.1)⟩
  exact wpAny_passesOwnAt hE (k h₆ g₆ T₆ F₆ Nl K₆ (XB.keeps K₆.stays) (TB.keeps K₆.stays) (D.turn T₆))
end
section
variable {prog : Program} {w : World} {A₀ A : Around} {s : Shared} {base h₀ : Heap} {outer : List Env} {L : Addr} {m : Str → Option Value} {env : Env} {news : List (Addr × Obj)} {K : Frag} {p : Program} {loose : List Str} {mean : ExcName → Option Value} {mg mb : Str → Option Value}
  {R : Result → Shared → Prop} {name qual : Str} {params : Arguments} {body : List Stmt} {scope : Scope} {dV kV doc pm cdv ct oc : Value} {an od : Option Addr} {osl : Array (Option Value)} {f : Addr} {args : Args} {binds : List (Str × Value)}
/-- what a frame hands back when the ground of its callers may have turned -/
def LeaveT (A₀ : Around) (base : Heap) (outer : List Env) (K : Frag) (p : Program) (loose : List Str) (mean : ExcName → Option Value) (mg mb : Str → Option Value) (fs : List Addr) (h₀ : Heap) (L : Addr) (m : Str → Option Value) (g : Heap) (R : Result → Shared → Prop) (v : Value) (s' : Shared) : Prop :=
  ∃ g' L' m' news', KtsTurn fs g g' ∧ Fr g' L' s'.heap m' ∧ News g' L' s'.heap news' ∧ ∀ h₀', KtsTurn (outer.filterMap (·.frame)) h₀ h₀' → Fr h₀' L s'.heap m → News h₀' L s'.heap news' → Below A₀ base outer h₀' → K.In h₀' → Top p loose mean mg mb h₀' →
    KtsDicts (outer.filterMap (·.frame)) h₀' → R (.ok (.ret v)) s'
theorem leaveT_ {fs : List Addr} {g g' : Heap} {L' : Addr} {m' : Str → Option Value} {news' : List (Addr × Obj)} {v : Value} {s' : Shared} (F' : Fr g' L' s'.heap m') (N' : News g' L' s'.heap news') (T : KtsTurn fs g g')
    (k : ∀ h₀', KtsTurn (outer.filterMap (·.frame)) h₀ h₀' → Fr h₀' L s'.heap m → News h₀' L s'.heap news' → Below A₀ base outer h₀' → K.In h₀' → Top p loose mean mg mb h₀' → KtsDicts (outer.filterMap (·.frame)) h₀' → R (.ok (.ret v)) s') :
    LeaveT A₀ base outer K p loose mean mg mb fs h₀ L m g R v s' := ⟨g', L', m', news', T, F', N', k⟩
theorem groundS (B : Below A₀ base outer h₀) (F : Fr h₀ L s.heap m) (N : News h₀ L s.heap news) (XB : K.In base) (TB : Top p loose mean mg mb base) (D : KtsDicts (outer.filterMap (·.frame)) h₀) (hA : A.frames = some (env :: outer)) (hf : env.frame = some L) (hke : env.scope.kind = .function) :
    Fr h₀ L (hideAll s.heap (news.map (·.1))) m ∧ Below A base (env :: outer) (hideAll s.heap (news.map (·.1))) ∧ h₀.StaysIn (hideAll s.heap (news.map (·.1))) ∧ KtsDicts ((env :: outer).filterMap (·.frame)) (hideAll s.heap (news.map (·.1))) ∧
      ∀ v s', LeaveT A₀ base outer K p loose mean mg mb ((env :: outer).filterMap (·.frame)) h₀ L m (hideAll s.heap (news.map (·.1))) R v s' → R (.ok (.ret v)) s' := by
  obtain ⟨FG, BG, st, _⟩ := groundX (R := R) B F N hA hf hke
  obtain ⟨oL, es, ep, hLg, hLd, hLk, hLf⟩ := FG.ns
  have nL₀ : h₀.get? L = none := kts_self F
  refine ⟨FG, BG, st, fun b hb => ?_, fun v s' hl => ?_⟩
  · rcases memX hf hb with rfl | hb
    · exact ⟨oL, es, ep, hLg, hLd⟩
    · obtain ⟨o, es', n', ho', hd'⟩ := D b hb
      exact ⟨o, es', n', st b o ho', hd'⟩
  · obtain ⟨g', L', m', news', T', F', N', k⟩ := hl
    obtain ⟨sl, hs⟩ := T'.up hLg
    obtain ⟨T₁, S₁⟩ := kts_turn_at (h := s'.heap) (fs := outer.filterMap (·.frame)) (g := h₀)
      (fun b hb => let ⟨_, o, ho, _⟩ := B.frames.mem hb; ⟨o, ho⟩)
      (fun b o e nm => F'.keep b o (T'.other b o (st b o e) fun q => by
        rcases memX hf q with z | z
        · rw [z, nL₀] at e; cases e
        · exact nm z))
      (fun b o e _ => by
        obtain ⟨sl', hs'⟩ := T'.up (st b o e)
        exact ⟨sl', F'.keep _ _ hs'⟩)
    have B₃ : Below A₀ base outer (ktsHeap s'.heap (outer.filterMap (·.frame)) h₀) := ⟨B.stack, fun b o e => T₁.other b o (B.stays b o e) (fun hm => by
      rw [(B.frames.mem hm).1] at e; cases e), B.frames.of_keeps fun b o e _ => by
        obtain ⟨sl', hs'⟩ := T₁.up e
        exact ⟨_, hs', rfl⟩⟩
    refine k _ T₁ ⟨⟨_, es, ep, F'.keep _ _ hs, hLd, hLk, hLf⟩, S₁, by rw [T₁.size]; exact F.above⟩ (fun p hp => ⟨(N' p hp).1, fun q => ?_, ?_⟩) B₃ (XB.keeps B₃.stays) (TB.keeps B₃.stays) (D.turn T₁)
    · have := (N' p hp).2.2; rw [q, hs] at this; cases this
    · refine T₁.none_ _ ?_
      cases q : h₀.get? p.1 with
      | none => rfl
      | some o =>
        obtain ⟨sl', hs'⟩ := T'.up (st _ _ q)
        have := (N' p hp).2.2
        rw [hs'] at this; cases this
/-- a def with cells, the ground of whose callers may turn -/
theorem code_defT (B : Below A₀ base outer h₀) (F : Fr h₀ L s.heap m) (X₀ : K.In h₀) (N : News h₀ L s.heap news) (T : Top p loose mean mg mb h₀) (XB : K.In base) (TB : Top p loose mean mg mb base) (D : KtsDicts (outer.filterMap (·.frame)) h₀) (hA : A.frames = some (env :: outer)) (hf : env.frame = some L) (hke : env.scope.kind = .function)
    (ho : K.lookup f = some ⟨oc, od, .func (fnOf name qual params body scope dV kV doc pm an cdv ct), osl⟩) (hcd : codeIn K cdv qual = true) (hroom : A.depth < recursionLimit)
    (hbind : BindsTo s (fnOf name qual params body scope dV kV doc pm an cdv ct) args binds) (hkind : (binds.all fun y => scope.names.lookup y.1 == some .local || scope.names.lookup y.1 == some .cell) = true)
    (hnd : ((cellsFrom 0 scope.names []).map (·.1)).Nodup)
    (h : ∀ g L' h₁ tk cells, Fr h₀ L g m → Fr g L' h₁ (bindL (envOfC qual scope L' f cdv).kindOf binds fun _ => none) → News g L' h₁ (cells ++ news) →
      CellsAre (bindC (envOfC qual scope L' f cdv).kindOf binds fun _ => none) (cellsFrom (L' + 1) scope.names []) cells → Below A base (env :: outer) g → K.In g → Top p loose mean mg mb g → (∀ p ∈ news, p.1 < L') → KtsDicts ((env :: outer).filterMap (·.frame)) g →
      wpAny (model prog w) (A.deeper (envOfC qual scope L' f cdv)) (execs body (envOfC qual scope L' f cdv))
        (fun fl s' => LeaveT A₀ base outer K p loose mean mg mb ((env :: outer).filterMap (·.frame)) h₀ L m g R (match fl with | .ret v => v | _ => .none) s')
        (fun e s' => wpAny (model prog w) (A.deeper (envOfC qual scope L' f cdv)) (leaving (envOfC qual scope L' f cdv) e) (fun _ s'' => R (.error e) s'') (fun e' s'' => R (.error e') s'') s')
        { s with heap := h₁, toks := tk })
    (hco : scope.isCoroutine = false) (hgen : scope.isGenerator = false) (hk : scope.kind = .function) : codeAny (model prog w) A (.call (.ref f) args) R s := by
  obtain ⟨FG, BG, st, DG, lv⟩ := groundS (R := R) B F N XB TB D hA hf hke
  have X := X₀.keeps F.keep
  refine codeAny_call_function (fd := fnOf name qual params body scope dV kV doc pm an cdv ct) hroom (X _ _ ho) rfl hco hgen rfl (codeRec_of X hcd) (hbind _ _ _ _ ?_)
  refine wpAny_newFunctionEnv_cells hk (kindsX hkind _) fun env' he s' x => ?_
  subst he
  refine ⟨(T.nolimit.keeps F.keep).keeps x.toInCall.keep, codeAny_func ?_⟩
  obtain ⟨h₁, tk, rfl, _⟩ := x.done
  have hk₁ := x.toInCall.keep
  obtain ⟨cells, NC, Y⟩ := Cl.news (h₀ := s.heap) (Nat.le_refl _) fun n c hm => ⟨x.cell n c (lookup_of_mem_nodup (cellsFrom_names scope.names 0 (s.heap.objs.size + 1) [] [] rfl ▸ hnd) hm), x.above n c hm⟩
  refine wpAny_mono (h _ s.heap.objs.size h₁ tk cells FG ⟨x.toInCall.ns, fun b o e => hk₁ b o (of_hideAll _ e), Nat.le_of_eq (hideAll_size _ _)⟩ (fun p hp => ?_) Y BG (X₀.keeps st) (T.keeps st) (fun p hp => Heap.lt_size (N p hp).1) DG) (fun fl s' hl => lv _ _ hl) fun _ _ y => y
  rcases List.mem_append.mp hp with hp | hp
  · refine ⟨(NC p hp).1, (NC p hp).2.1, ?_⟩
    cases q : (hideAll s.heap (news.map (·.1))).get? p.1 with
    | none => rfl
    | some o => have := of_hideAll _ q; rw [(NC p hp).2.2] at this; cases this
  · exact ⟨hk₁ _ _ (N p hp).1, Nat.ne_of_lt (Heap.lt_size (N p hp).1), hideAll_none _ (List.mem_map_of_mem hp)⟩
end
end Mine

namespace Mine
open PySem.Spec PySem.Calls PyProof.Rows.LCg
/-- the sign at hand -/
structure KdIs (kd : Str) : Prop where
def KeptS (y kd : Str) (t : Tok) (news : List (Addr × Obj)) (v : Value) (news' : List (Addr × Obj)) : Prop := y ≠ kd ∧ v = .str y t ∧ news' = news
def DropS (y kd : Str) (news news' : List (Addr × Obj)) : Prop := y = kd ∧ news' = news
theorem strs_get {vs : List Value} {ss : List Str} (h : StrsAre vs ss) : ∀ (i : Nat) (v : Value), vs[i]? = some v → ∃ (y : Str) (t : Tok), ss[i]? = some y ∧ v = Value.str y t := by
  induction h with
  | nil => intro i v e; simp at e
  | cons y t _ ih =>
    intro i v e
    cases i with
    | zero => exact ⟨y, t, rfl, (Option.some.inj e).symm⟩
    | succ i => exact ih i v (by simpa using e)
theorem strs_app {vs ws : List Value} {ss rs : List Str} (h : StrsAre vs ss) (h2 : StrsAre ws rs) : StrsAre (vs ++ ws) (ss ++ rs) := by
  induction h with
  | nil => exact h2
  | cons y t _ ih => exact .cons y t ih
section
variable {prog : Program} {w : World} {A : Around} {h₀ : Heap} {L : Addr} {m : Str → Option Value} {env : Env} {ct elt : Expr} {x : Str} {scope : Scope} {cl : List (Str × Addr)} {s : Shared} {S : List (Addr × Obj) → Prop} {Fin : List Value → List (Addr × Obj) → Prop} {news : List (Addr × Obj)}
theorem rest_ne {vs : List Value} {ss : List Str} {kd : Str} (hi : StrsAre vs ss) (_mk : KdIs kd)
    (turn : ∀ y t I oI C oC D m₂ ys h tk (E' : Value → Shared → Prop), NsObj oC m₂ → m₂ x = some (.str y t) → Fr h₀ L h m → News h₀ L h ((I, oI) :: (C, oC) :: (D, lst ys) :: news) → Off3 I C D news → ((@Ne Nat I C) ∧ (@Ne Nat I D) ∧ (@Ne Nat C D)) →
      wpAny (model prog w) A (isTrue ct (compEnvC scope cl C env) (eval ct (compEnvC scope cl C env))) (fun b s' => if b = true then wpAny (model prog w) A (eval elt (compEnvC scope cl C env)) (CompEnd h₀ L m { s with heap := h, toks := tk } I oI C oC D (lst ys) S (fun v news' => KeptS y kd t news v news')) E' s'
        else CompEnd h₀ L m { s with heap := h, toks := tk } I oI C oC D (lst ys) S (fun _ news' => DropS y kd news news') Value.none s') E' { s with heap := h, toks := tk })
    (fin : ∀ ys, StrsAre ys (ss.filter fun x => decide (x ≠ kd)) → Fin ys news) : LCt.CompRestT prog w A h₀ L m env ct elt x scope cl s S (fun i v => vs.toArray[i]? = some v) Fin vs.toArray.size 0 [] news := by
  have hlen : vs.toArray.size = ss.length := by rw [List.size_toArray, strs_len hi]
  have key : ∀ (j i : Nat) (ys : List Value), i + j = ss.length → StrsAre ys ((ss.take i).filter fun x => decide (x ≠ kd)) → LCt.CompRestT prog w A h₀ L m env ct elt x scope cl s S (fun i v => vs.toArray[i]? = some v) Fin j i ys news := by
    intro j
    induction j with
    | zero =>
      intro i ys hij hy
      have e : i = ss.length := by omega
      subst e
      rw [List.take_length] at hy
      exact LCt.CompRestT.zero (fin ys hy)
    | succ j ih =>
      intro i ys hij hy
      refine LCt.CompRestT.succ ?_
      intro v I oI C oC D m₂ h tk E' hv hC hx F N off ne
      obtain ⟨y, t, hk, rfl⟩ := strs_get hi i v (by simpa using hv)
      refine wpAny_mono (turn y t I oI C oC D m₂ ys h tk E' hC hx F N off ne) (fun b s₂ hq => ?_) fun _ _ e => e
      cases b with
      | true =>
        simp only [if_true] at hq ⊢
        refine wpAny_mono hq (fun v' s₃ hr => ?_) fun _ _ e => e
        obtain ⟨h', tk', nw, e, F', N', off', hS, hne, rfl, rfl⟩ := hr
        refine ⟨h', tk', _, e, F', N', off', hS, ih (i + 1) _ (by omega) ?_⟩
        rw [List.take_add_one, hk]
        simp only [Option.toList_some, List.filter_append]
        refine strs_app hy ?_
        simp only [List.filter_cons, hne, ne_eq, not_false_eq_true, decide_true, if_true, List.filter_nil]
        exact .cons _ _ .nil
      | false =>
        simp only [Bool.false_eq_true, if_false] at hq ⊢
        obtain ⟨h', tk', nw, e, F', N', off', hS, heq, rfl⟩ := hq
        refine ⟨h', tk', _, e, F', N', off', hS, ih (i + 1) _ (by omega) ?_⟩
        rw [List.take_add_one, hk]
        simp only [Option.toList_some, List.filter_append]
        simpa [List.filter_cons, heq] using hy
  rw [hlen]
  exact key ss.length 0 [] (by omega) (by simpa using StrsAre.nil)
end
end Mine

namespace Mine
theorem size_four {a : St} {vs : List Value} {ss : List Str} (h : StrsAre vs ss) (ho : OnL a ss) : vs.toArray.size ≤ sizeLine := by
  rw [List.size_toArray, strs_len h, sizeLine_eq]
  have := ho.len
  omega
theorem drop_eq {x y : Str} (h : (x != y) = false) : x = y := by simpa using h
section
variable {prog : Program} {w : World} {A : Around} {E : Value → Shared → Prop} {s : Shared} {h₀ : Heap} {L a b : Addr} {m : Str → Option Value} {news : List (Addr × Obj)} {Q : Value → Shared → Prop}
theorem cat_on {a0 : St} {ys : List Value} {ss : List Str} {kd : Str} {t : Tok} {c : Bool} (F : Fr h₀ L s.heap m) (N : News h₀ L s.heap news) (ha : (a, LCg.lst ys) ∈ news)
    (hb : s.heap.IsList b (List.replicate ((if c = true then 1 else 0) : Int).toNat #[Value.str kd t].toList).flatten.toArray) (hy : StrsAre ys (ss.filter fun x => decide (x ≠ kd))) (ho : OnL a0 ss)
    (h : ∀ D us h', Fr h₀ L h' m → News h₀ L h' ((D, listOf (List.toArray us) 0) :: news) → (∀ p ∈ news, p.1 < D) → StrsAre us (onUpd ss kd c) → Q (.ref D) { s with heap := h' }) :
    wpAny (model prog w) A (binaryOp .Add (.ref a) (.ref b)) Q E s := by
  have ha' : s.heap.IsList a ys.toArray := ⟨_, (N _ ha).1, rfl, _, rfl⟩
  refine add_lists F N ha' hb (fun h' F' N' => h _ _ h' F' N' (fun p hp => Heap.lt_size (N p hp).1) ?_) ?_
  · refine strs_app hy ?_
    cases c with
    | true => exact .cons _ _ .nil
    | false => exact .nil
  · have h1 := strs_len hy
    have h2 := ho.len
    have h3 := List.length_filter_le (fun x => decide (x ≠ kd)) ss
    rw [sizeLine_eq]
    cases c <;> simp <;> omega
end
end Mine
namespace Mine
theorem nd_cell {l l' : List (Addr × Obj)} {d : Addr} {o : Obj} (h : ∀ p ∈ l', @LT.lt Nat _ p.1 d) (e : l'.map (·.1) = l.map (·.1)) (nd : Nd l) : Nd ((d + 1, o) :: l) := nd_new (fun p hp => Nat.lt_succ_of_lt (h p hp)) e nd
end Mine

namespace Mine
def setR (a : St) (kd : Str) (b : Bool) : St := if badS a kd b = true then a else kset a kd b
theorem OnL.emp {a : St} {ss : List Str} (h : OnL a ss) : (ss.any fun x => x == Str.ofString "") = false := by
  rw [List.any_eq_false]
  intro x hx e
  have e := beq_iff_eq.mp e
  subst e
  exact absurd (h.sub _ hx) (by decide +kernel)
theorem setR_bad {a : St} {kd : Str} {b : Bool} (h : badS a kd b = true) : setR a kd b = a := if_pos h
theorem setR_ok {a : St} {kd : Str} {b : Bool} (h : badS a kd b = false) : setR a kd b = kset a kd b := if_neg (by rw [h]; decide)
def otherOf (kd : Str) : Str := if kd = Str.ofString "root" then Str.ofString "loop" else if kd = Str.ofString "loop" then Str.ofString "root" else Str.ofString ""
section
variable {a : St} {b : Bool} {ss : List Str} {kd : Str}
def Five (kd : Str) : Prop := kd = Str.ofString "bpdu" ∨ kd = Str.ofString "root" ∨ kd = Str.ofString "loop" ∨ kd = Str.ofString "filter" ∨ kd = Str.ofString "none"
theorem other_bpdu : otherOf (Str.ofString "bpdu") = Str.ofString "" := by decide +kernel
theorem other_filter : otherOf (Str.ofString "filter") = Str.ofString "" := by decide +kernel
theorem other_none : otherOf (Str.ofString "none") = Str.ofString "" := by decide +kernel
theorem other_root : otherOf (Str.ofString "root") = Str.ofString "loop" := by decide +kernel
theorem other_loop : otherOf (Str.ofString "loop") = Str.ofString "root" := by decide +kernel
theorem beq_no {x y : Str} (h : ¬ x = y) : (x == y) = false := beq_eq_false_iff_ne.mpr h
theorem bad_any (ho : OnL a ss) (hk : Five kd) : badS a kd b = ((kd == Str.ofString "none") || (b && ss.any fun x => x == otherOf kd)) := by
  rcases hk with rfl | rfl | rfl | rfl | rfl
  · rw [bad_bpdu, other_bpdu, ho.emp, beq_no sne7]; cases b <;> rfl
  · rw [bad_root, other_root, beq_no sne4, ho.rep.l]; rfl
  · rw [bad_loop, other_loop, beq_no sne10, ho.rep.r]; rfl
  · rw [bad_filter, other_filter, ho.emp, beq_no sne9]; cases b <;> rfl
  · rw [bad_none, beq_self_eq_true]; rfl
theorem four_of (hk : Five kd) (h : badS a kd b = false) : kd ∈ fourK := by
  rcases hk with rfl | rfl | rfl | rfl | rfl
  · decide +kernel
  · decide +kernel
  · decide +kernel
  · decide +kernel
  · rw [bad_none] at h; cases h
theorem tvA (ho : OnL a ss) (hk : Five kd) (h : badS a kd b = false) : (!(kd == Str.ofString "none")) = true := by
  rw [bad_any ho hk] at h
  rw [(Bool.or_eq_false_iff.mp h).1]; rfl
theorem tv2 (h : b = false) : (!b) = true := by rw [h]; rfl
theorem tvB (ho : OnL a ss) (hk : Five kd) (h : badS a kd b = false) (hb : b = true) : (!(ss.any fun x => x == otherOf kd)) = true := by
  rw [bad_any ho hk, hb] at h
  have := (Bool.or_eq_false_iff.mp h).2
  rw [Bool.true_and] at this
  rw [this]; rfl
theorem tvC (ho : OnL a ss) (hk : Five kd) (h : badS a kd b = true) (hn : (kd == Str.ofString "none") = false) : (ss.any fun x => x == otherOf kd) = true := by
  rw [bad_any ho hk] at h
  rcases Bool.or_eq_true_iff.mp h with h | h
  · rw [hn] at h; cases h
  · exact (Bool.and_eq_true_iff.mp h).2
theorem tvD {P : Prop} (ho : OnL a ss) (hk : Five kd) (h : badS a kd b = true) (hn : (kd == Str.ofString "none") = false) (hb : b = false) : P := by
  rw [bad_any ho hk] at h
  rcases Bool.or_eq_true_iff.mp h with h | h
  · rw [hn] at h; cases h
  · rw [hb] at h; cases h
end
section
open PyProof.V
variable {prog : Program} {w : World} {A : Around} {E : Value → Shared → Prop} {s : Shared} {d : Addr} {Q : Value → Shared → Prop}
theorem get_other {kd : Str} {tk t : Tok} (T : StrTab prog w s.heap d [(.str (Str.ofString "root"), .str (Str.ofString "loop")), (.str (Str.ofString "loop"), .str (Str.ofString "root"))]) (hk : Five kd)
    (h : ∀ t', Q (.str (otherOf kd) t') { s with toks := s.toks + 1 }) : wpAny (model prog w) A (call (.builtin "dict.get") [.ref d, .str kd tk, .str (Str.ofString "") t]) Q E s := by
  rcases hk with rfl | rfl | rfl | rfl | rfl
  · refine kt_get2_noneS T (by decide +kernel) (.str _ _) fun v hv => ?_
    obtain ⟨t', rfl⟩ := hv.str_inv
    exact other_bpdu ▸ h t'
  · refine kt_get2_thereS T (dv := .str (Str.ofString "loop")) (by with_unfolding_all rfl) (.str _ _) fun v hv => ?_
    obtain ⟨t', rfl⟩ := hv.str_inv
    exact other_root ▸ h t'
  · refine kt_get2_thereS T (dv := .str (Str.ofString "root")) (by with_unfolding_all rfl) (.str _ _) fun v hv => ?_
    obtain ⟨t', rfl⟩ := hv.str_inv
    exact other_loop ▸ h t'
  · refine kt_get2_noneS T (by decide +kernel) (.str _ _) fun v hv => ?_
    obtain ⟨t', rfl⟩ := hv.str_inv
    exact other_filter ▸ h t'
  · refine kt_get2_noneS T (by decide +kernel) (.str _ _) fun v hv => ?_
    obtain ⟨t', rfl⟩ := hv.str_inv
    exact other_none ▸ h t'
end
theorem q_tt {Q : Value → Shared → Prop} {x : Bool} {s : Shared} (h : x = true) (q : Q (.bool true) s) : Q (.bool x) s := h ▸ q
section
variable {h h' : Heap} {L : Addr} {x1 x2 x3 g gd gr c1 c2 d o : Addr × Obj} {r : List (Addr × Obj)}
theorem pick_ok (N : News h L h' (x1 :: x2 :: x3 :: g :: gd :: gr :: c1 :: c2 :: d :: o :: r)) : News h L h' (g :: gd :: gr :: d :: x1 :: r) := fun p hp => N p (by
  simp only [List.mem_cons] at hp ⊢
  rcases hp with hp | hp | hp | hp | hp | hp <;> simp [hp])
theorem pick_bad (N : News h L h' (g :: gd :: gr :: c1 :: c2 :: d :: o :: r)) : News h L h' (g :: gd :: gr :: d :: o :: r) := fun p hp => N p (by
  simp only [List.mem_cons] at hp ⊢
  rcases hp with hp | hp | hp | hp | hp | hp <;> simp [hp])
theorem perm_set {α : Type} {a b c d e f : α} {l : List α} : (a :: b :: c :: d :: e :: f :: l).Perm (d :: e :: a :: b :: c :: f :: l) := by
  have h : (a :: b :: c :: d :: e :: f :: l) = [a, b, c] ++ ([d, e] ++ (f :: l)) := rfl
  rw [h, ← List.append_assoc]
  exact (List.perm_append_comm.append_right _).trans (List.Perm.of_eq (by simp))
theorem nd_bad (nd : Nd (g :: gd :: gr :: c1 :: c2 :: d :: o :: r)) : Nd (g :: gd :: gr :: d :: o :: r) := nd_drop (nd_drop (nd_perm nd perm_set))
theorem nd_ok {D' : Addr} {oD' d' : Obj} (nd : Nd (g :: gd :: gr :: c1 :: c2 :: d :: o :: r)) (k : ∀ p ∈ x2 :: x3 :: g :: gd :: gr :: c1 :: c2 :: d :: o :: r, @LT.lt Nat _ p.1 D') : Nd (g :: gd :: gr :: (d.1, d') :: (D', oD') :: r) := by
  have n1 := nd_bad nd
  have n2 : Nd (g :: gd :: gr :: (d.1, d') :: r) := by
    refine nd_drop (p := o) (nd_perm (nd_of (as := (g :: gd :: gr :: d :: o :: r).map (·.1)) n1 (l := g :: gd :: gr :: (d.1, d') :: o :: r) rfl) ?_)
    exact List.perm_middle (l₁ := [g, gd, gr, (d.1, d')])
  have n3 : Nd ((D', oD') :: g :: gd :: gr :: (d.1, d') :: r) := by
    refine nd_new (l' := g :: gd :: gr :: d :: r) (fun p hp => k p ?_) rfl n2
    simp only [List.mem_cons] at hp ⊢
    rcases hp with hp | hp | hp | hp | hp <;> simp [hp]
  exact nd_perm n3 (List.perm_middle (l₁ := [g, gd, gr, (d.1, d')])).symm
end
end Mine

theorem Mine.rules_j14 : True := by
  w_top off
  k_with_none
  k_with "k_ne" => (first | exact Mine.nq (by with_reducible assumption) | exact Mine.nqs (by with_reducible assumption))
  k_with "call builtin:list.pop" => ((k_here; (with_reducible show wpAny _ _ (call (Value.builtin _) [Value.ref _, Value.int _ _]) _ _ _); k_dflt (refine' Mine.pop0 ?z393F ?z393N ?z393U ?z393z ?_; (case z393F => k_asm); (case z393N => k_asm); (case z393U => k_upd); (case z393z => first | assumption | omega)); intro h' F' N'; (try dsimp only [List.nil_append, List.cons_append] at N')))
  k_with "tb_start" => (first | assumption | (refine List.Mem.tail _ ?_; tb_start))
  k_with "ktr_rel" => (first
      | with_reducible assumption
      | (refine' Mine.ncons ?z395N ?z395m ?z395r; (case z395N => k_asm); (case z395m => k_mem); (case z395r => ktr_rel))
      | (refine' Mine.nrest ?z395N ?z395m; (case z395N => k_asm); (case z395m => (intro p hp; tb_start))))
  k_with "ktr_room" => (first | exact Mine.rm1 (by assumption) rfl | exact Mine.rm0 (by assumption) | exact Mine.rmS (Mine.rm1 (by assumption) rfl) | exact Mine.rmS (Mine.rmS (Mine.rm1 (by assumption) rfl)) | exact Mine.rmN rfl | ((try simp only [depth_under_make, depth_under_kw, depth_in1, depth_deeper, depth_caller]); (try dsimp only [ktrTop]); omega))
  k_with "k_room" => (ktr_room)
  k_with "units_room" => (first | exact Mine.rm1 (by assumption) rfl | exact Mine.rm0 (by assumption) | exact Mine.rmS (Mine.rm1 (by assumption) rfl) | exact Mine.rmS (Mine.rmS (Mine.rm1 (by assumption) rfl)) | exact Mine.rmS (Mine.rmS (Mine.rmS (Mine.rm1 (by assumption) rfl))) | exact Mine.rmN rfl | ((try simp only [units_under_make, units_in1, units_deeper, Around.mark_units, units_caller]); (try dsimp only [ktrTop]); omega))
  k_with "k_units" => (units_room)
  k_with "k_enter" => (ktr_enter)
  k_with "k_all" => (first | exact Mine.ne_sub (by assumption) (by intro p hp; tb_start) | exact Mine.ne_sub2 (by assumption) (by intro p hp; tb_start))
  k_with "eval DictComp" => ((k_here; k_dflt (refine Mine.DictComp_T (PySem.strKind _ _) (by k_asm) (by rfl) (by rfl) (by decide) (by rfl) (by decide) (by rfl) ?_ (fun _ => by with_unfolding_all rfl))))
  k_with "Exists" => ((k_here; k_dflt (refine ⟨_, _, _, rfl, by k_asm, by k_asm, Mine.tup_of_K (by k_asm) (by k_is), fun g₂ => ?_⟩)))
  k_with "DRest" => ((with_unfolding_all first
      | (refine Mine.DRest.succ (by rw [sizeLine_eq]; exact Nat.le_of_ble_eq_true rfl) ?_; intro v' I' oI' C' oC' D' oD' m' h' tk' E' hv' hC' hx' hoD' F' N' off' ne'; lcg_open hv'; (try simp only [LCg.Off3, and_true] at off'))
      | refine Mine.DRest.zero ?_))
  k_with "DEnd" => ((refine Mine.DEnd.intro (by assumption) (by assumption) _ (strKind_is _ _ _ _) (fun _ h => h) (by assumption) True.intro ?_))
  k_with "DFinE" => ((intro D' oD' h' tk' hoD' F' N' o1'; (have o2' := Mine.off1_mem o1'); (try simp only [LCg.Off1, and_true] at o1'); (try dsimp only)))
  k_with "kd_mem" => (first | exact Mine.Pos.head | exact Mine.PosF.head | (refine' Mine.Pos.tail ?z407p; (case z407p => kd_mem)) | (refine' Mine.PosF.tail ?z407p; (case z407p => kd_mem)))
  k_with "k_upd" => ((refine' Mine.upd_nd ?z408nd ?z408e ?z408p; (case z408nd => assumption); (case z408e => rfl); (case z408p => kd_mem)))
  k_with "k_updF" => (first | (refine' Mine.updF_nd ?z409nd ?z409e ?z409p; (case z409nd => assumption); (case z409e => rfl); (case z409p => kd_mem)) | (refine' UpdF.head ?z409a; (case z409a => k_all)) | (refine' UpdF.tail ?z409a ?z409b; (case z409a => k_ne); (case z409b => k_updF)))
  k_with "kd_p1" => (first | exact Mine.pk_head | (refine' Mine.pk_tail ?z410h; (case z410h => kd_p1)))
  k_with "kst_p" => (first | exact Mine.sg_here | exact Mine.sg_end | (refine' Mine.sg_tail ?z411h; (case z411h => kst_p)) | (refine' Mine.sg_app ?z411h; (case z411h => kst_p)))
  k_with "kd_p" => (first | exact List.Perm.refl _ | (refine' Mine.pk_cons ?z412h ?z412g; (case z412h => kd_p1); (case z412g => kd_p)) | (refine' Mine.pk_seg ?z412h; (case z412h => kst_p)))
  k_with "tb_rel" => (first | assumption | exact Mine.nd3 (by assumption) | exact Mine.nd3 (Mine.nd3 (by assumption)) | (refine' Mine.nd_of ?z413nd ?z413e; (case z413nd => assumption); (case z413e => rfl)) | (refine' Mine.nd_new ?z413h ?z413e ?z413n; (case z413h => assumption); (case z413e => rfl); (case z413n => tb_rel)) | (refine' Mine.nd_new2 ?z413h ?z413g ?z413e ?z413n; (case z413h => assumption); (case z413g => assumption); (case z413e => rfl); (case z413n => tb_rel)) | (refine' Mine.nd_new1 ?z413h ?z413e ?z413n; (case z413h => assumption); (case z413e => rfl); (case z413n => tb_rel)))
  k_with "subscriptTail" => ((k_here; k_dflt (first
      | ((with_reducible show wpAny _ _ (subscriptTail _ _ (Value.ref _) (Value.str _ _)) _ _ _); refine kda_item (knd := PySem.strKind _ _) (by k_asm) (by k_mem) (by k_asm) (strKind_is _ _ _ _) (by first | assumption | rfl) ?_)
      | ((with_reducible show wpAny _ _ (subscriptTail _ _ (Value.ref _) (Value.int _ _)) _ _ _); refine kda_item (knd := PySem.intKind _ _) (by k_asm) (by k_mem) (by k_asm) (intKind_is _ _ _ _) (by first | assumption | rfl | exact Mine.val_new (by assumption)) ?_))))
  k_with "setItem ref str" => ((k_here; k_dflt (refine' kda_set (knd := PySem.strKind _ _) ?z415F ?z415N ?z415U ?z415d (strKind_is _ _ _ _) ?z415z ?_; (case z415F => k_asm); (case z415N => k_asm); (case z415U => k_updF); (case z415d => k_asm); (case z415z => first | kob_size | assumption)); intro h' o' F' N' hd'; (try kob_lit); (try dsimp only at N')))
  k_with "setItem ref int" => ((k_here; k_dflt (refine' kda_set (knd := PySem.intKind _ _) ?z416F ?z416N ?z416U ?z416d (intKind_is _ _ _ _) ?z416z ?_; (case z416F => k_asm); (case z416N => k_asm); (case z416U => k_updF); (case z416d => k_asm); (case z416z => first | kob_size | assumption)); intro h' o' F' N' hd'; (try kob_lit); (try dsimp only at N')))
  k_with "compareOp NotIn int ref" => ((k_here; k_dflt (first
      | refine kdg_notin (knd := PySem.intKind _ _) (by k_asm) (by k_mem) (by k_asm) (by k_asm) (intKind_is _ _ _ _) true (by first | assumption | rfl | exact Mine.iss (by assumption) | exact Mine.isn (by assumption)) ?_
      | refine kdg_notin (knd := PySem.intKind _ _) (by k_asm) (by k_mem) (by k_asm) (by k_asm) (intKind_is _ _ _ _) false (by first | assumption | rfl | exact Mine.iss (by assumption) | exact Mine.isn (by assumption)) ?_); (try dsimp only [Bool.not_true, Bool.not_false])))
  k_with "getItem ref int" => ((k_here; k_dflt (refine Mine.get_dict (knd := PySem.intKind _ _) (by k_asm) (by k_mem) (by k_asm) (intKind_is _ _ _ _) (by first | assumption | rfl | exact Mine.val_new (by assumption)) ?_)))
  k_with "getItem ref str" => ((k_here; k_dflt (refine Mine.get_dict (knd := PySem.strKind _ _) (by k_asm) (by k_mem) (by k_asm) (strKind_is _ _ _ _) (by first | assumption | rfl) ?_)))
  k_with "execs cons" => (((with_reducible refine Mine.st_norm s rfl rfl rfl ?_); intro tk'))
  k_with "compareOp In str ref" => ((k_here; (with_reducible show wpAny _ _ (compareOp CmpOp.In (Value.str _ _) (Value.ref _)) _ _ _); refine' Mine.in_on ?z421k1 ?z421k2 ?z421k3 ?_; (case z421k1 => exact News.isList (by k_asm) (by news_mem)); (case z421k2 => assumption); (case z421k3 => with_reducible assumption)))
  k_with "k_handed" => (first | exact Mine.hl_in (by assumption) | exact Mine.uv_in (by assumption) | exact Mine.av_in (by assumption))
  k_with "call ref" => ((k_here; (with_reducible show wpAny _ _ (call (Value.ref 109) _) _ _ _); k_dflt (refine' Mine.setg_c ?z423B ?z423F ?z423X ?z423T ?z423k ?z423d ?z423u ?z423d5 ?z423u5 ?z423N ?z423P1 ?z423nd ?z423hR ?z423hs ?z423P2 ?z423lo ?z423hk ?_ ?_; (case z423B => k_asm); (case z423F => k_asm); (case z423X => k_asm); (case z423T => k_asm); (case z423k => first | exact rfl | assumption); (case z423d => ktr_room); (case z423u => units_room); (case z423d5 => ktr_room); (case z423u5 => units_room); (case z423N => k_asm); (case z423P1 => kd_p); (case z423nd => tb_rel); (case z423hR => assumption); (case z423hs => assumption); (case z423P2 => kd_p); (case z423lo => assumption); (case z423hk => first | assumption | exact .inl rfl | exact .inr (.inl rfl) | exact .inr (.inr (.inl rfl)) | exact .inr (.inr (.inr (.inl rfl))) | exact .inr (.inr (.inr (.inr rfl))))); (all_goals first | (intro h' tk' W' oR' es' seg' hb' hE' hS' hR' F' N' nd'; (have hz9 := (id N' : News _ _ _ _)); clear hz9; (try simp only [List.cons_append, List.append_assoc, List.nil_append] at N'); (try simp only [List.cons_append, List.append_assoc, List.nil_append] at nd'); (try dsimp only)) | (intro g' h' tk' e' t' vs' oR' es' seg' hb' hE' hS' hR' F' R' U' nd'; (try simp only [List.cons_append, List.append_assoc, List.nil_append] at nd'); (try dsimp only)))))
  k_with "noteFrame ref" => ((k_here; k_dflt (refine' Mine.caught_X ?z424R ?z424F ?z424K ?z424U ?z424XB ?z424TB ?z424D ?z424ex ?z424q ?_ ?z424hk ?z424hx ?z424hd ?z424hE; (case z424R => assumption); (case z424F => assumption); (case z424K => assumption); (case z424U => assumption); (case z424XB => assumption); (case z424TB => assumption); (case z424D => assumption); (case z424ex => k_is); (case z424q => kts_isx); (case z424hk => exact rfl); (case z424hx => exact rfl); (case z424hd => decide); (case z424hE => passes_own)); intro h' g' T' F' N' K' X' P' D'; (try simp only [List.cons_append, List.append_assoc, List.nil_append] at N')))
  k_with "LeaveT" => ((k_dflt (refine' Mine.leaveT_ ?z425F ?z425N ?z425T ?_; (case z425F => k_asm); (case z425N => k_asm); (case z425T => first | assumption | exact KtsTurn.refl)); intro h9 T9 kF kN kB kX kT kD; (try dsimp only)))
  k_with "CompSrcT" => ((k_here; k_dflt (refine' LCt.CompSrcT.ledger ?z426hh ?z426F ?z426N ?z426hm ?z426z ?_; (case z426hh => rfl); (case z426F => k_asm); (case z426N => k_asm); (case z426hm => news_mem); (case z426z => kdy_size)); intro g'; k_dflt (refine' Mine.rest_ne ?z426hi ?z426mk ?_ ?_; (case z426hi => assumption); (case z426mk => assumption)); (all_goals first | (intro y' t' I' oI' C' oC' D' m' ys' h' tk' E' hC' hx' F' N' off' ne'; (have offk := off'); (try simp only [LCg.Off3, and_true] at off')) | intro ys' hys')))
  k_with "KeptS" => (exact ⟨bne_iff_ne.mp (by assumption), rfl, rfl⟩)
  k_with "DropS" => (exact ⟨Mine.drop_eq (by assumption), rfl⟩)
  k_with "kdy_size" => (exact Mine.size_four (by assumption) (by assumption))
  k_with "exec Try" => ((k_here; (with_reducible refine wpAny_Try_except ?_)))
  k_with "tb_rel" => ((refine' Mine.nd_cell ?z431h ?z431e ?z431n; (case z431h => assumption); (case z431e => rfl); (case z431n => tb_rel)))
  k_with "CompEnd" => ((k_here; k_dflt (refine' LCg.CompEnd.intro ?z432F ?z432N _ ?z432sub ?z432off ?z432hS ?z432r; (case z432off => assumption); (case z432F => k_asm); (case z432N => k_asm); (case z432sub => exact fun _ hp => hp); (case z432hS => exact Or.inr ⟨_, by news_mem, rfl, _, rfl⟩); (case z432r => first | exact ⟨bne_iff_ne.mp (by assumption), rfl, rfl⟩ | exact ⟨Mine.drop_eq (by assumption), rfl⟩))))
  k_with "binaryOp Add ref ref" => ((k_here; (with_reducible show wpAny _ _ (binaryOp _ (Value.ref _) (Value.ref _)) _ _ _); k_dflt (refine' Mine.cat_on ?z433F ?z433N ?z433ha ?z433hb ?z433hy ?z433ho ?_; (case z433F => k_asm); (case z433N => k_asm); (case z433ha => news_mem); (case z433hb => assumption); (case z433hy => assumption); (case z433ho => assumption)); intro D' ws' h' F' N' l1 hY'; (try k_lt l1)))
  k_with "call builtin:dict.get" => ((k_here; k_dflt (refine' Mine.get_other ?z434T ?z434hk ?_; (case z434T => k_tabat); (case z434hk => assumption)); intro t'))
  trivial

namespace Mine
section
variable {w : World} {A₀ : Around} {base : Heap} {outer : List Env} {h₀ : Heap} {mean : ExcName → Option Value} {mg mb : Str → Option Value} {cs : Scope} {dp un : Nat} {gd : Option (List Code)} {cn : Str} {L a : Addr} {ccd : Value} {cl : List (Str × Addr)} {s : Shared} {m : Str → Option Value} {rest : List (Addr × Obj)} {Q E : Value → Shared → Prop}
  (B : Below A₀ base outer h₀) (F : Fr h₀ L s.heap m) (X : (hd.heap_1 w.params).In h₀) (T : Top qv Lo mean mg mb h₀) (XB : (hd.heap_1 w.params).In base) (TB : Top qv Lo mean mg mb base) (D0 : KtsDicts (outer.filterMap (·.frame)) h₀) (k : cs.kind = .function) (d : dp + 24 < recursionLimit) (u : un + 360 < cLine) (d5 : dp ≤ 460) (u5 : un ≤ 4800)
include B F X T XB TB D0 k d u d5 u5
theorem lset_c {G GD GR D O : Addr} {rc qt p : Int} {t1 t2 t3 t4 t5 tp tkd : Tok} {oR oD : Obj} {es : List (Int × Value)} {a0 : St} {seg cur r : List (Addr × Obj)} {kd : Str} {b : Bool} {vs : List Value} {ss : List Str} {n : Nat}
  (N : News h₀ L s.heap cur) (P1 : cur.Perm ((G, instObj 154 GD) :: (GD, gdObj w rc qt GR t1 t2 t3 t4 t5) :: (GR, oR) :: (D, oD) :: (O, listOf vs.toArray n) :: r)) (nd : Nd cur)
  (hR : oR.IsDictOf (intKind Pg w) es) (hs : PSeg w es p a0 seg) (P2 : r.Perm (rest ++ seg)) (lo : (GR == sysModules) = false)
  (hD : Lr w a0 O oD) (hS : StrsAre vs ss) (hO : OnL a0 ss)
  (hk : Five kd)
  (ret : ∀ h₀' h' tk' oR' oD' O' es' seg' vs' ss' n', KtsTurn (outer.filterMap (·.frame)) h₀ h₀' → Fr h₀' L h' m → News h₀' L h' ((G, instObj 154 GD) :: (GD, gdObj w rc qt GR t1 t2 t3 t4 t5) :: (GR, oR') :: (D, oD') :: (O', listOf vs'.toArray n') :: (rest ++ seg')) →
    Nd ((G, instObj 154 GD) :: (GD, gdObj w rc qt GR t1 t2 t3 t4 t5) :: (GR, oR') :: (D, oD') :: (O', listOf vs'.toArray n') :: (rest ++ seg')) → PSeg w es' p (setR a0 kd b) seg' → oR'.IsDictOf (intKind Pg w) es' → Es2 es p es' → Lr w (setR a0 kd b) O' oD' →
    StrsAre vs' ss' → OnL (setR a0 kd b) ss' → Below A₀ base outer h₀' → (hd.heap_1 w.params).In h₀' → Top qv Lo mean mg mb h₀' → KtsDicts (outer.filterMap (·.frame)) h₀' → Q (.bool true) { s with heap := h', toks := tk' }) :
  wpAny (model Pg w) (ktrTop dp un gd cn cs L a ccd cl outer) (call (.ref 284) [.ref G, .int p tp, .ref D, .str kd tkd, .bool b]) Q E s := by
  have P := P1.trans (List.Perm.cons _ (List.Perm.cons _ (List.Perm.cons _ (List.Perm.cons _ (List.Perm.cons _ P2)))))
  replace N := news_perm N P
  replace nd := nd_perm nd P
  have hOr := hO.rep.r
  have hOl := hO.rep.l
  have hOe := hO.rep.e
  rcases a0 with ⟨kr, kb, kf, kl, H, U, hr⟩
  rcases hD with ⟨vh, vu, hD, hH, hU⟩
  dsimp only at hD hH hU hOr hOl
  have hKd : KdIs kd := ⟨⟩
  refine wpAny_call ?_
  k_dflt (refine' Mine.code_defT ?B ?F ?X ?N ?T ?XB ?TB ?D ?kA ?kF ?kK ?k6 ?k7 ?k8 ?k9 ?kB ?kD ?_ ?c2 ?c3 ?c4; (case kA => exact rfl); (case kF => exact rfl); (case kK => assumption); (case B => k_asm); (case F => k_asm); (case X => k_asm); (case N => k_asm); (case T => k_asm); (case XB => assumption); (case TB => assumption); (case D => assumption); (case k6 => k_is); (case k7 => k_is); (case k8 => ktr_room); (case k9 => exact BindsTo.of_eq rfl); (case kB => exact rfl); (case kD => decide +kernel); (case c2 => exact rfl); (case c3 => exact rfl); (case c4 => exact rfl))
  intro g' L' h' tk' cells' FG' F' N' Y' B' X' T' l1 D'
  k_lt l1
  k_cells Y'
  (try simp only [List.cons_append, List.nil_append] at N')
  (try dsimp only)
  (try k_fold)
  k_steps
  all_goals first
  | (refine Mine.q_tt ?_ ?_; (first | exact tv2 (by assumption) | exact tvA hO hk (by assumption) | exact tvB hO hk (by assumption) (by assumption)); refine ret _ _ _ _ _ _ _ _ _ _ _ (by assumption) (by assumption) (pick_ok (by assumption)) (nd_ok (by assumption) (by assumption)) ?_ (by assumption) (.inr ⟨_, by assumption⟩) ?_ (by assumption) ?_ (by assumption) (by assumption) (by assumption) (by assumption); (rw [setR_ok (by assumption)]; assumption); (rw [setR_ok (by assumption)]; exact .mk vh vu (by assumption) hH hU); (rw [setR_ok (by assumption)]; exact onL_upd hO (four_of hk (by assumption))))
  | exact tvD hO hk (by assumption) (by assumption) (by assumption)
  | (refine Mine.q_tt ?_ ?_; (first | assumption | exact tvC hO hk (by assumption) (by assumption)); refine ret _ _ _ _ _ _ _ _ _ _ _ (by assumption) (by assumption) (pick_bad (by assumption)) (nd_bad (by assumption)) ?_ (by assumption) (by assumption) ?_ hS ?_ (by assumption) (by assumption) (by assumption) (by assumption); (rw [setR_bad (by assumption)]; assumption); (rw [setR_bad (by assumption)]; exact .mk vh vu hD hH hU); (rw [setR_bad (by assumption)]; exact hO))
  | fail
end
end Mine

namespace Mine
open PySem.Spec PySem.Calls
def ansS : Ans → Str
  | .let_ => Str.ofString "let"
  | .hold => Str.ofString "hold"
  | .shut => Str.ofString "shut"
  | .drop => Str.ofString "drop"
theorem AV.str {an : Ans} {v : Value} (h : AV an v) : ∃ t, v = .str (ansS an) t := by cases h <;> exact ⟨_, rfl⟩
def hlS : Hd → Str
  | .no => Str.ofString ""
  | .shut => Str.ofString "shut"
  | .root => Str.ofString "root"
  | .loop => Str.ofString "loop"
theorem HL.str {H : Hd} {v : Value} (h : HL H v) : ∃ t, v = .str (hlS H) t := by cases h <;> exact ⟨_, rfl⟩
theorem hl_no {H : Hd} (h : (hlS H == Str.ofString "") = true) : H = .no := by
  cases H
  · rfl
  all_goals exact absurd (beq_iff_eq.mp h) (by decide +kernel)
theorem hl_not {H : Hd} (h : (hlS H == Str.ofString "") = false) : H ≠ .no := by
  rintro rfl
  exact absurd h (by rw [show hlS .no = Str.ofString "" from rfl, beq_self_eq_true]; decide)
/-- the rows that may be there -/
inductive EsOk : List (Int × Value) → Prop
  | e0 : EsOk []
  | e1 (p : Int) (v : Value) : p = 1 ∨ p = 2 → EsOk [(p, v)]
  | e2 (p q : Int) (v u : Value) : p = 1 ∨ p = 2 → q = 1 ∨ q = 2 → p ≠ q → EsOk [(p, v), (q, u)]
theorem val_cons {k p : Int} {v : Value} {l : List (Int × Value)} : valueAt ((k, v) :: l) p = if k = p then some v else valueAt l p := by
  unfold valueAt
  rw [List.find?_cons]
  by_cases h : k = p <;> simp [h]
theorem val_nil {p : Int} : valueAt ([] : List (Int × Value)) p = none := rfl
theorem val_app {p : Int} {v : Value} {l r : List (Int × Value)} (h : valueAt l p = some v) : valueAt (l ++ r) p = some v := by
  unfold valueAt at h ⊢
  obtain ⟨x, hx, e⟩ := Option.map_eq_some_iff.mp h
  rw [List.find?_append, hx]
  exact congrArg some e
theorem EsOk.step {es es' : List (Int × Value)} {p : Int} {W : Addr} (h : EsOk es) (hp : p = 1 ∨ p = 2) (e : EsStep es p es' W) : EsOk es' := by
  rcases e with ⟨_, rfl⟩ | ⟨hn, rfl⟩
  · exact h
  · cases h with
    | e0 => exact .e1 _ _ hp
    | e1 q v hq =>
      rw [val_cons] at hn
      refine .e2 _ _ _ _ hq hp fun e => ?_
      rw [if_pos e] at hn
      cases hn
    | e2 q r v u hq hr hqr =>
      rw [val_cons, val_cons] at hn
      split at hn
      · cases hn
      · split at hn
        · cases hn
        · omega
theorem EsOk.two {es es' : List (Int × Value)} {p : Int} (h : EsOk es) (hp : p = 1 ∨ p = 2) (e : Es2 es p es') : EsOk es' := by
  rcases e with rfl | ⟨W, e⟩
  · exact h
  · exact h.step hp e
theorem EsOk.none2 {es : List (Int × Value)} {p q : Int} (h : EsOk es) (hp : p = 1 ∨ p = 2) (hq : q = 1 ∨ q = 2) (hn : p ≠ q) (h1 : valueAt es p = none) (h2 : valueAt es q = none) : es = [] := by
  cases h with
  | e0 => rfl
  | e1 r v hr =>
    rw [val_cons] at h1 h2
    split at h1
    · cases h1
    · split at h2
      · cases h2
      · omega
  | e2 r s v u hr hs hrs =>
    rw [val_cons, val_cons] at h1
    split at h1
    · cases h1
    · split at h1
      · cases h1
      · omega
theorem PSeg.other {w : World} {es es' : List (Int × Value)} {p q : Int} {a : St} {seg : List (Addr × Obj)} (h : PSeg w es q a seg) (ho : EsOk es) (hp : p = 1 ∨ p = 2) (hq : q = 1 ∨ q = 2) (hn : p ≠ q) (e : Es2 es p es') : PSeg w es' q a seg := by
  rcases e with rfl | ⟨W, ⟨_, rfl⟩ | ⟨h1, rfl⟩⟩
  · exact h
  · exact h
  · cases h with
    | there W' seg hv hs => exact .there W' _ (val_app hv) hs
    | not hv hl ha =>
      have := ho.none2 hp hq hn h1 hv
      subst this
      refine .not ?_ (Nat.le_refl _) ha
      rw [List.nil_append, val_cons, if_neg hn, val_nil]
/-- a port that waits for its time is shut or held as a root -/
def StOk (a : St) : Prop := a.til = none ∨ a.held = .shut ∨ a.held = .root
theorem stok_start : StOk St.start := .inl rfl
theorem StOk.letgo {a : St} {now : Int} (h : StOk a) : StOk (Mine.letgo a now) := by
  unfold Mine.letgo
  split
  · exact .inl rfl
  · exact h
theorem StOk.sil {a : St} (h : StOk a) : StOk (silentS a) := by
  unfold silentS
  split
  · exact .inl rfl
  · exact h
theorem StOk.set {a : St} {kd : Str} {b : Bool} (h : StOk a) : StOk (setR a kd b) := by
  unfold setR
  split
  · exact h
  · exact h
theorem StOk.sl {a a2 : St} {now : Int} (h : StOk a) (e : a2 = Mine.letgo (silentS a) now) : StOk a2 := by rw [e]; exact h.sil.letgo
theorem StOk.askd {a a1 : St} {n1 : Ans} {b : Bool} {now now' rc qt : Int} (h : StOk a) (e : (a1, n1) = askedT (Mine.letgo a now') b now rc qt) : StOk a1 := by
  have h := h.letgo (now := now')
  have : a1 = (askedT (Mine.letgo a now') b now rc qt).1 := by rw [← e]
  subst this
  unfold askedT
  split
  · exact h
  split
  · exact .inr (.inl rfl)
  split
  · exact h
  split
  · exact .inr (.inr rfl)
  split
  · rename_i hl
    refine .inl ?_
    rcases h with h | h | h
    · exact h
    · rw [hl] at h; cases h
    · rw [hl] at h; cases h
  · exact h
theorem expd_none {a : St} (h : StOk a) (e : a.held = .no) : a.til = none := by
  rcases h with h | h | h
  · exact h
  · rw [e] at h; cases h
  · rw [e] at h; cases h
/-- a port: the law's row, its list, the row of Guards -/
inductive Port (w : World) (es : List (Int × Value)) (p : Int) (a : St) (D : Addr) : List (Addr × Obj) → Prop
  | mk (O : Addr) (oD : Obj) (vs : List Value) (ss : List Str) (n : Nat) (seg : List (Addr × Obj)) : Lr w a O oD → StrsAre vs ss → OnL a ss → StOk a → PSeg w es p a seg → Port w es p a D ((D, oD) :: (O, listOf vs.toArray n) :: seg)
inductive Two (w : World) (es : List (Int × Value)) (st : Int → St) (D1 D2 : Addr) : List (Addr × Obj) → Prop
  | mk (l1 l2 : List (Addr × Obj)) : EsOk es → Port w es 1 (st 1) D1 l1 → Port w es 2 (st 2) D2 l2 → Two w es st D1 D2 (l1 ++ l2)
theorem Port.other {w : World} {es es' : List (Int × Value)} {p q : Int} {a : St} {D : Addr} {l : List (Addr × Obj)} (h : Port w es q a D l) (ho : EsOk es) (hp : p = 1 ∨ p = 2) (hq : q = 1 ∨ q = 2) (hn : p ≠ q) (e : Es2 es p es') : Port w es' q a D l := by
  cases h with
  | mk O oD vs ss n seg h1 h2 h3 h5 h4 => exact .mk _ _ _ _ _ _ h1 h2 h3 h5 (h4.other ho hp hq hn e)
def updS (st : Int → St) (p : Int) (a : St) : Int → St := fun q => if q = p then a else st q
theorem upd_same {st : Int → St} {p : Int} {a : St} : updS st p a p = a := if_pos rfl
theorem upd_other {st : Int → St} {p q : Int} {a : St} (h : q ≠ p) : updS st p a q = st q := if_neg h
/-- a port taken out of the two: how it goes back -/
def Close (w : World) (es : List (Int × Value)) (st : Int → St) (D1 D2 : Addr) (p : Int) (D : Addr) (lo : List (Addr × Obj)) : Prop :=
  ∀ es' a' oD' O' vs' ss' n' seg', Es2 es p es' → PSeg w es' p a' seg' → Lr w a' O' oD' → StrsAre vs' ss' → OnL a' ss' → StOk a' → ∃ lp', Two w es' (updS st p a') D1 D2 lp' ∧ ((D, oD') :: (O', listOf vs'.toArray n') :: (lo ++ seg')).Perm lp'
theorem Two.pick {w : World} {es : List (Int × Value)} {st : Int → St} {D1 D2 : Addr} {lp : List (Addr × Obj)} {p : Int} (h : Two w es st D1 D2 lp) (hp : p = 1 ∨ p = 2) :
    ∃ D O oD vs ss n seg lo, valueAt [((1 : Int), Value.ref D1), (2, Value.ref D2)] p = some (.ref D) ∧ Lr w (st p) O oD ∧ StrsAre vs ss ∧ OnL (st p) ss ∧ StOk (st p) ∧ PSeg w es p (st p) seg ∧ Close w es st D1 D2 p D lo ∧ lp.Perm ((D, oD) :: (O, listOf vs.toArray n) :: (lo ++ seg)) := by
  cases h with
  | mk l1 l2 ho p1 p2 =>
    rcases hp with rfl | rfl
    · cases p1 with
      | mk O oD vs ss n seg h1 h2 h3 h5 h4 =>
        refine ⟨D1, O, oD, vs, ss, n, seg, l2, by rw [val_cons, if_pos rfl], h1, h2, h3, h5, h4, ?_, (List.perm_append_comm).cons _ |>.cons _⟩
        intro es' a' oD' O' vs' ss' n' seg' he hs hl hv hO hk
        refine ⟨_, .mk _ _ (ho.two (.inl rfl) he) (.mk O' oD' vs' ss' n' seg' ?_ hv ?_ ?_ ?_) ?_, (List.perm_append_comm).cons _ |>.cons _⟩
        · exact upd_same.symm ▸ hl
        · exact upd_same.symm ▸ hO
        · exact upd_same.symm ▸ hk
        · exact upd_same.symm ▸ hs
        · exact (upd_other (st := st) (a := a') (show (2 : Int) ≠ 1 by decide)).symm ▸ p2.other ho (.inl rfl) (.inr rfl) (by decide) he
    · cases p2 with
      | mk O oD vs ss n seg h1 h2 h3 h5 h4 =>
        refine ⟨D2, O, oD, vs, ss, n, seg, l1, by rw [val_cons, if_neg (by decide), val_cons, if_pos rfl], h1, h2, h3, h5, h4, ?_, ?_⟩
        · intro es' a' oD' O' vs' ss' n' seg' he hs hl hv hO hk
          refine ⟨_, .mk l1 _ (ho.two (.inr rfl) he) ?_ (.mk O' oD' vs' ss' n' seg' ?_ hv ?_ ?_ ?_), ?_⟩
          · exact (upd_other (st := st) (a := a') (show (1 : Int) ≠ 2 by decide)).symm ▸ p1.other ho (.inr rfl) (.inl rfl) (by decide) he
          · exact upd_same.symm ▸ hl
          · exact upd_same.symm ▸ hO
          · exact upd_same.symm ▸ hk
          · exact upd_same.symm ▸ hs
          · exact (List.perm_middle (l₁ := l1) |>.trans ((List.perm_middle (l₁ := l1)).cons _)).symm
        · exact List.perm_middle (l₁ := l1) |>.trans ((List.perm_middle (l₁ := l1)).cons _)
end Mine

namespace Mine
open PySem.Spec PySem.Calls
section
variable {w : World} {A : Around} {E : Value → Shared → Prop} {s : Shared} {h₀ : Heap} {L : Addr} {m : Str → Option Value} {Q : Value → Shared → Prop} {rest cur : List (Addr × Obj)}
/-- the row of a port is looked up -/
theorem pick_port {value slice : PySem.Expr} {es : List (Int × Value)} {st : Int → St} {D1 D2 RW : Addr} {oRW : Obj} {lp : List (Addr × Obj)} {p : Int} {u : Tok}
    (N : News h₀ L s.heap cur) (nd : Nd cur) (P : cur.Perm ((RW, oRW) :: (rest ++ lp))) (hRW : oRW.IsDictOf (intKind Pg w) [((1 : Int), Value.ref D1), (2, Value.ref D2)]) (hT : Two w es st D1 D2 lp) (hp : p = 1 ∨ p = 2)
    (next : ∀ D O oD vs ss n seg lo, Lr w (st p) O oD → StrsAre vs ss → OnL (st p) ss → StOk (st p) → PSeg w es p (st p) seg → Close w es st D1 D2 p D lo → News h₀ L s.heap ((RW, oRW) :: (D, oD) :: (O, listOf vs.toArray n) :: (rest ++ (lo ++ seg))) →
      Nd ((RW, oRW) :: (D, oD) :: (O, listOf vs.toArray n) :: (rest ++ (lo ++ seg))) → Q (.ref D) { s with toks := s.toks + 1 })
    (hs : subscripted slice false (.ref RW) (.int p u) = operate [.ref RW, .int p u] (getItem (.ref RW) (.int p u)) := by with_unfolding_all rfl) (hg : ∀ r, letTemporaryGo value (.ref RW) r = pure () := by intro _; with_unfolding_all rfl) :
    wpAny (model Pg w) A (subscriptTail value slice (.ref RW) (.int p u)) Q E s := by
  obtain ⟨D, O, oD, vs, ss, n, seg, lo, hv, h1, h2, h3, h5, h4, hc, hP⟩ := hT.pick hp
  have P2 : cur.Perm ((RW, oRW) :: (D, oD) :: (O, listOf vs.toArray n) :: (rest ++ (lo ++ seg))) := P.trans (List.Perm.cons _ (((hP.append_left rest).trans List.perm_middle).trans (List.Perm.cons _ List.perm_middle)))
  exact kda_item (news_perm N P2) List.mem_cons_self hRW (intKind_is _ _ _ _) hv (next D O oD vs ss n seg lo h1 h2 h3 h5 h4 hc (news_perm N P2) (nd_perm nd P2)) hs hg
end
theorem five_of {v : Value} {t1 t2 t3 t4 t5 : Tok} (h : v ∈ [Value.str (Str.ofString "bpdu") t1, .str (Str.ofString "root") t2, .str (Str.ofString "loop") t3, .str (Str.ofString "filter") t4, .str (Str.ofString "none") t5]) : ∃ kd t, v = .str kd t ∧ Five kd := by
  simp only [List.mem_cons, List.not_mem_nil, or_false] at h
  rcases h with rfl | rfl | rfl | rfl | rfl
  · exact ⟨_, _, rfl, .inl rfl⟩
  · exact ⟨_, _, rfl, .inr (.inl rfl)⟩
  · exact ⟨_, _, rfl, .inr (.inr (.inl rfl))⟩
  · exact ⟨_, _, rfl, .inr (.inr (.inr (.inl rfl)))⟩
  · exact ⟨_, _, rfl, .inr (.inr (.inr (.inr rfl)))⟩
theorem five_hand {t1 t2 t3 t4 t5 : Tok} : ∀ v, v ∈ [Value.str (Str.ofString "bpdu") t1, .str (Str.ofString "root") t2, .str (Str.ofString "loop") t3, .str (Str.ofString "filter") t4, .str (Str.ofString "none") t5] → handedIn v = true := fun v h => by
  obtain ⟨kd, t, rfl, _⟩ := five_of h
  rfl
theorem lr_loop {w : World} {a : St} {O : Addr} {oD : Obj} {t : Tok} (h : oD.IsDictOf (strKind Pg w) (rowsOf O (.str (Str.ofString "loop") t) .none a.heard)) : Lr w { a with held := .loop, til := none } O oD := .mk _ _ h (.loop t) .none
theorem lr_no {w : World} {a : St} {O : Addr} {oD : Obj} {t : Tok} (h : oD.IsDictOf (strKind Pg w) (rowsOf O (.str (Str.ofString "") t) .none a.heard)) : Lr w { a with held := .no, til := none } O oD := .mk _ _ h (.no t) .none
theorem pk_app {l r r' seg : List (Addr × Obj)} (h : l.Perm (seg ++ r)) (h' : r.Perm r') : l.Perm (seg ++ r') := h.trans (h'.append_left seg)
theorem pk_last {l seg junk : List (Addr × Obj)} (h : l.Perm (seg ++ junk)) : l.Perm (seg ++ junk) := h
/-- the end of a deed: the port goes back -/
theorem deed_end {w : World} {h₀ h' : Heap} {L : Addr} {es es' : List (Int × Value)} {st : Int → St} {D1 D2 D O' : Addr} {p : Int} {lo seg' sg rest junk cur : List (Addr × Obj)} {a' : St} {oD' : Obj} {vs' : List Value} {ss' : List Str} {n' : Nat} {g1 g2 g3 g4 g5 : Addr × Obj}
    (hc : Close w es st D1 D2 p D lo) (he : Es2 es p es') (hs : PSeg w es' p a' seg') (hl : Lr w a' O' oD') (hv : StrsAre vs' ss') (hO : OnL a' ss') (hok : StOk a') (N : News h₀ L h' cur) (nd : Nd cur)
    (P : cur.Perm (g1 :: g2 :: g3 :: g4 :: g5 :: (D, oD') :: (O', listOf vs'.toArray n') :: (rest ++ (sg ++ (lo ++ (seg' ++ junk)))))) :
    ∃ lp', Two w es' (updS st p a') D1 D2 lp' ∧ News h₀ L h' (g1 :: g2 :: g3 :: g4 :: g5 :: (rest ++ (sg ++ lp'))) ∧ Nd (g1 :: g2 :: g3 :: g4 :: g5 :: (rest ++ (sg ++ lp'))) := by
  obtain ⟨lp', hT, hP⟩ := hc es' a' oD' O' vs' ss' n' seg' he hs hl hv hO hok
  have e : rest ++ (sg ++ (lo ++ (seg' ++ junk))) = (rest ++ sg) ++ ((lo ++ seg') ++ junk) := by simp
  have P2 : cur.Perm ((g1 :: g2 :: g3 :: g4 :: g5 :: (rest ++ (sg ++ lp'))) ++ junk) := by
    refine P.trans ?_
    refine List.Perm.cons _ (List.Perm.cons _ (List.Perm.cons _ (List.Perm.cons _ (List.Perm.cons _ ?_))))
    rw [e]
    have h1 : ((D, oD') :: (O', listOf vs'.toArray n') :: ((rest ++ sg) ++ ((lo ++ seg') ++ junk))).Perm ((rest ++ sg) ++ ([(D, oD'), (O', listOf vs'.toArray n')] ++ ((lo ++ seg') ++ junk))) := List.perm_append_comm_assoc [(D, oD'), (O', listOf vs'.toArray n')] (rest ++ sg) ((lo ++ seg') ++ junk)
    refine h1.trans ?_
    rw [← List.append_assoc [_, _]]
    refine ((hP.append_right junk).append_left _).trans (List.Perm.of_eq ?_)
    simp
  refine ⟨lp', hT, fun q hq => news_perm N P2 q (List.mem_append_left _ hq), ?_⟩
  have := nd_perm nd P2
  unfold Nd at this ⊢
  rw [List.map_append] at this
  exact (List.nodup_append.mp this).1
/-- what the law does of itself in the silence -/
theorem sil_yes {a : St} (h1 : a.kl = true) (h2 : a.heard = true) (h3 : a.held = .no) : silentS a = { a with held := .loop, til := none } := if_pos ⟨h1, h2, h3⟩
theorem sil_kl {a : St} (h1 : a.kl = false) : silentS a = a := if_neg fun h => by rw [h1] at h; cases h.1
theorem sil_heard {a : St} (h1 : a.heard = false) : silentS a = a := if_neg fun h => by rw [h1] at h; cases h.2.1
theorem sil_held {a : St} (h1 : a.held ≠ .no) : silentS a = a := if_neg fun h => h1 h.2.2
section
variable {w : World} {A₀ : Around} {base : Heap} {outer : List Env} {h₀ : Heap} {mean : ExcName → Option Value} {mg mb : Str → Option Value} {cs : Scope} {dp un : Nat} {gd : Option (List Code)} {cn : Str} {L a : Addr} {ccd : Value} {cl : List (Str × Addr)} {s : Shared} {m : Str → Option Value} {rest : List (Addr × Obj)} {Q E : Value → Shared → Prop}
  (B : Below A₀ base outer h₀) (F : Fr h₀ L s.heap m) (X : (hd.heap_1 w.params).In h₀) (T : Top qv Lo mean mg mb h₀) (k : cs.kind = .function) (d : dp + 40 < recursionLimit) (u : un + 600 < cLine)
include B F X T k d u
theorem asked_v {G GD GR BP BD V d1 d2 d3 : Addr} {rc qt p now n : Int} {t1 t2 t3 t4 t5 tp tn tkd u1 u2 u3 u4 u5 u6 u7 : Tok} {oR oB : Obj} {es : List (Int × Value)} {a0 : St} {seg cur r r2 tl : List (Addr × Obj)} {kd : Str} {vec : Value}
  (N : News h₀ L s.heap cur) (P1 : cur.Perm ((G, instObj 154 GD) :: (GD, gdObj w rc qt GR t1 t2 t3 t4 t5) :: (GR, oR) :: r)) (nd : Nd cur)
  (hR : oR.IsDictOf (intKind Pg w) es) (hs : PSeg w es p a0 seg) (P2 : r.Perm ((BP, instObj 226 BD) :: (BD, oB) :: (V, tupO #[.ref d1, .int 10 u1, .ref d2, .ref d3]) :: (d3, tupO #[.int 128 u2, .int 1 u3]) :: (d2, tupO #[.int 8192 u4, .int 2 u5]) :: (d1, tupO #[.int 4096 u6, .int 1 u7]) :: (r2 ++ tl)))
  (P3 : r2.Perm (rest ++ seg)) (lo : (GR == sysModules) = false) (hB : BdD w (.str kd tkd) vec oB) (hb : BpR n kd vec tl) (h0 : 0 ≤ n) (h4 : n < 4)
  (ret : ∀ h' tk' W oR' es' seg' a1 an t, (a1, an) = askedT (letgo a0 now) (decide (n = 0)) now rc qt → EsStep es p es' W → PSeg w es' p a1 seg' → oR'.IsDictOf (intKind Pg w) es' → Fr h₀ L h' m →
    News h₀ L h' ((G, instObj 154 GD) :: (GD, gdObj w rc qt GR t1 t2 t3 t4 t5) :: (GR, oR') :: (rest ++ seg')) → Nd ((G, instObj 154 GD) :: (GD, gdObj w rc qt GR t1 t2 t3 t4 t5) :: (GR, oR') :: (rest ++ seg')) → Q (.str (ansS an) t) { s with heap := h', toks := tk' }) :
  wpAny (model Pg w) (ktrTop dp un gd cn cs L a ccd cl outer) (call (.ref 137) [.ref G, .int p tp, .ref BP, .ref V, .int now tn]) Q E s := by
  refine asked_c (rest := rest) B F X T k ?_ ?_ N P1 nd hR hs (P2.trans (List.Perm.cons _ (List.Perm.cons _ ?_))) lo hB (hb.cmp h0 h4 (.mk d1 d2 d3 u1 u2 u3 u4 u5 u6 u7)) fun h' tk' W oR' es' seg' a1 an v e hv => ?_
  · omega
  · omega
  · have q : ((V, tupO #[.ref d1, .int 10 u1, .ref d2, .ref d3]) :: (d3, tupO #[.int 128 u2, .int 1 u3]) :: (d2, tupO #[.int 8192 u4, .int 2 u5]) :: (d1, tupO #[.int 4096 u6, .int 1 u7]) :: (r2 ++ tl)) = [(V, tupO #[.ref d1, .int 10 u1, .ref d2, .ref d3]), (d3, tupO #[.int 128 u2, .int 1 u3]), (d2, tupO #[.int 8192 u4, .int 2 u5]), (d1, tupO #[.int 4096 u6, .int 1 u7])] ++ (r2 ++ tl) := rfl
    rw [q]
    refine ((List.perm_append_comm (l₁ := r2)).append_left _).trans ?_
    rw [← List.append_assoc]
    exact List.Perm.append List.perm_append_comm P3
  · obtain ⟨t, rfl⟩ := hv.str
    exact ret h' tk' W oR' es' seg' a1 an t e
end
end Mine
namespace Mine
theorem pk_over {a l r : List (Addr × Obj)} {p : Addr × Obj} (h : l.Perm (p :: r)) : (a ++ l).Perm (p :: (a ++ r)) := (h.append_left a).trans List.perm_middle
end Mine
namespace Mine
theorem OnL.of_eq {a b : St} {ss : List Str} (h : OnL a ss) (e1 : b.kr = a.kr) (e2 : b.kb = a.kb) (e3 : b.kf = a.kf) (e4 : b.kl = a.kl) : OnL b ss := by
  obtain ⟨⟨r, b', f, l, e⟩, nd, sub⟩ := h
  exact ⟨⟨by rw [e1]; exact r, by rw [e2]; exact b', by rw [e3]; exact f, by rw [e4]; exact l, e⟩, nd, sub⟩
theorem asked_kinds {a a1 : St} {n1 : Ans} {b : Bool} {now rc qt : Int} (e : (a1, n1) = askedT a b now rc qt) : a1.kr = a.kr ∧ a1.kb = a.kb ∧ a1.kf = a.kf ∧ a1.kl = a.kl := by
  have : a1 = (askedT a b now rc qt).1 := by rw [← e]
  subst this
  unfold askedT
  repeat' split
  all_goals exact ⟨rfl, rfl, rfl, rfl⟩
theorem OnL.asked {a a1 : St} {ss : List Str} {n1 : Ans} {b : Bool} {now now' rc qt : Int} (h : OnL a ss) (e : (a1, n1) = askedT (Mine.letgo a now') b now rc qt) : OnL a1 ss := by
  obtain ⟨e1, e2, e3, e4⟩ := asked_kinds e
  exact (h.letgo (now := now')).of_eq e1 e2 e3 e4
theorem OnL.sil {a b : St} {ss : List Str} (h : OnL a ss) (e : silentS a = b) : OnL b ss := by
  subst e
  unfold silentS
  split
  · exact h.of_eq rfl rfl rfl rfl
  · exact h
theorem two_asked {w : World} {a a1 a2 : St} {n1 n2 : Ans} {O : Addr} {oD : Obj} {es : List (Int × Value)} {p : Int} {seg : List (Addr × Obj)} {b : Bool} {now rc qt : Int} (_ : Lr w a1 O oD) (_ : PSeg w es p a2 seg) (e1 : (a1, n1) = askedT a b now rc qt) (e2 : (a2, n2) = askedT a b now rc qt) : a2 = a1 ∧ n2 = n1 := by
  have := e2.trans e1.symm
  exact ⟨congrArg (·.1) this, congrArg (·.2) this⟩
theorem two_silent {w : World} {a b a1 a2 : St} {O : Addr} {oD : Obj} {es : List (Int × Value)} {p : Int} {seg : List (Addr × Obj)} {now : Int} (_ : Lr w a1 O oD) (_ : PSeg w es p a2 seg) (e1 : a1 = letgo b now) (e2 : a2 = letgo (silentS a) now) (hb : silentS a = b) : a2 = a1 := by rw [e2, e1, hb]
theorem two_open {a a' a1 : St} {now : Int} (e1 : a1 = letgo a' now) (e0 : a' = { a with held := .no, til := none }) : a1 = { a with held := .no, til := none } := by rw [e1, e0, letgo_no rfl]
theorem ans_eq {n1 n2 : Ans} {h : Hd} (e1 : n1 = stands h) (e2 : n2 = stands h) : (ansS n1 == ansS n2) = true := by rw [e1, e2]; exact beq_self_eq_true _
theorem ans_let {n1 : Ans} {a : St} (e1 : n1 = stands a.held) (e2 : a.held = .no) : (ansS n1 == Str.ofString "let") = true := by rw [e1, e2]; exact beq_self_eq_true _
theorem deed_fin {w : World} {h₀ h' : Heap} {L aS GR : Addr} {es es' : List (Int × Value)} {st : Int → St} {D1 D2 D O' : Addr} {p : Int} {lo seg' sg rest junk cur : List (Addr × Obj)} {a' : St} {oD' oR' : Obj} {vs' : List Value} {ss' : List Str} {n' : Nat} {g1 g2 g4 g5 : Addr × Obj} {R : Prop}
    (hc : Close w es st D1 D2 p D lo) (hl : Lr w a' O' oD') (hs : PSeg w es' p a' seg') (he : Es2 es p es') (hv : StrsAre vs' ss') (hO : OnL a' ss') (hok : StOk a') (hS : Src aS sg) (hR : oR'.IsDictOf (intKind Pg w) es') (N : News h₀ L h' cur) (nd : Nd cur)
    (P : cur.Perm (g1 :: g2 :: (GR, oR') :: g4 :: g5 :: (D, oD') :: (O', listOf vs'.toArray n') :: (rest ++ (sg ++ (lo ++ (seg' ++ junk))))))
    (next : ∀ lp', Two w es' (updS st p a') D1 D2 lp' → News h₀ L h' (g1 :: g2 :: (GR, oR') :: g4 :: g5 :: (rest ++ (sg ++ lp'))) → Nd (g1 :: g2 :: (GR, oR') :: g4 :: g5 :: (rest ++ (sg ++ lp'))) → R) : R := by
  obtain ⟨lp', a, b, c⟩ := deed_end hc he hs hl hv hO hok N nd P
  exact next lp' a b c
end Mine
namespace Mine
theorem OnL.sl {a a2 : St} {ss : List Str} {now : Int} (h : OnL a ss) (e : a2 = Mine.letgo (silentS a) now) : OnL a2 ss := by
  rw [e]
  exact (h.sil rfl).letgo
end Mine
namespace Mine
theorem kl_of {a : St} {ss : List Str} {b : Bool} (ho : OnL a ss) (h : (ss.any fun x => x == Str.ofString "loop") = b) : a.kl = b := ho.rep.l.symm.trans h
end Mine

theorem Mine.rules_j15 : True := by
  w_top off
  k_with_none
  k_with "k_ne" => (first | exact Mine.nq (by with_reducible assumption) | exact Mine.nqs (by with_reducible assumption))
  k_with "call builtin:list.pop" => ((k_here; (with_reducible show wpAny _ _ (call (Value.builtin _) [Value.ref _, Value.int _ _]) _ _ _); k_dflt (refine' Mine.pop0 ?z436F ?z436N ?z436U ?z436z ?_; (case z436F => k_asm); (case z436N => k_asm); (case z436U => k_upd); (case z436z => first | assumption | omega)); intro h' F' N'; (try dsimp only [List.nil_append, List.cons_append] at N')))
  k_with "tb_start" => (first | assumption | (refine List.Mem.tail _ ?_; tb_start))
  k_with "ktr_rel" => (first
      | with_reducible assumption
      | (refine' Mine.ncons ?z438N ?z438m ?z438r; (case z438N => k_asm); (case z438m => k_mem); (case z438r => ktr_rel))
      | (refine' Mine.nrest ?z438N ?z438m; (case z438N => k_asm); (case z438m => (intro p hp; tb_start))))
  k_with "ktr_room" => (first | exact Mine.rm1 (by assumption) rfl | exact Mine.rm0 (by assumption) | exact Mine.rmS (Mine.rm1 (by assumption) rfl) | exact Mine.rmS (Mine.rmS (Mine.rm1 (by assumption) rfl)) | exact Mine.rmN rfl | ((try simp only [depth_under_make, depth_under_kw, depth_in1, depth_deeper, depth_caller]); (try dsimp only [ktrTop]); omega))
  k_with "k_room" => (ktr_room)
  k_with "units_room" => (first | exact Mine.rm1 (by assumption) rfl | exact Mine.rm0 (by assumption) | exact Mine.rmS (Mine.rm1 (by assumption) rfl) | exact Mine.rmS (Mine.rmS (Mine.rm1 (by assumption) rfl)) | exact Mine.rmS (Mine.rmS (Mine.rmS (Mine.rm1 (by assumption) rfl))) | exact Mine.rmN rfl | ((try simp only [units_under_make, units_in1, units_deeper, Around.mark_units, units_caller]); (try dsimp only [ktrTop]); omega))
  k_with "k_units" => (units_room)
  k_with "k_enter" => (ktr_enter)
  k_with "k_all" => (first | exact Mine.ne_sub (by assumption) (by intro p hp; tb_start) | exact Mine.ne_sub2 (by assumption) (by intro p hp; tb_start))
  k_with "eval DictComp" => ((k_here; k_dflt (refine Mine.DictComp_T (PySem.strKind _ _) (by k_asm) (by rfl) (by rfl) (by decide) (by rfl) (by decide) (by rfl) ?_ (fun _ => by with_unfolding_all rfl))))
  k_with "Exists" => ((k_here; k_dflt (refine ⟨_, _, _, rfl, by k_asm, by k_asm, Mine.tup_of_K (by k_asm) (by k_is), fun g₂ => ?_⟩)))
  k_with "DRest" => ((with_unfolding_all first
      | (refine Mine.DRest.succ (by rw [sizeLine_eq]; exact Nat.le_of_ble_eq_true rfl) ?_; intro v' I' oI' C' oC' D' oD' m' h' tk' E' hv' hC' hx' hoD' F' N' off' ne'; lcg_open hv'; (try simp only [LCg.Off3, and_true] at off'))
      | refine Mine.DRest.zero ?_))
  k_with "DEnd" => ((refine Mine.DEnd.intro (by assumption) (by assumption) _ (strKind_is _ _ _ _) (fun _ h => h) (by assumption) True.intro ?_))
  k_with "DFinE" => ((intro D' oD' h' tk' hoD' F' N' o1'; (have o2' := Mine.off1_mem o1'); (try simp only [LCg.Off1, and_true] at o1'); (try dsimp only)))
  k_with "kd_mem" => (first | exact Mine.Pos.head | exact Mine.PosF.head | (refine' Mine.Pos.tail ?z450p; (case z450p => kd_mem)) | (refine' Mine.PosF.tail ?z450p; (case z450p => kd_mem)))
  k_with "k_upd" => ((refine' Mine.upd_nd ?z451nd ?z451e ?z451p; (case z451nd => assumption); (case z451e => rfl); (case z451p => kd_mem)))
  k_with "k_updF" => (first | (refine' Mine.updF_nd ?z452nd ?z452e ?z452p; (case z452nd => assumption); (case z452e => rfl); (case z452p => kd_mem)) | (refine' UpdF.head ?z452a; (case z452a => k_all)) | (refine' UpdF.tail ?z452a ?z452b; (case z452a => k_ne); (case z452b => k_updF)))
  k_with "kd_p1" => (first | exact Mine.pk_head | (refine' Mine.pk_tail ?z453h; (case z453h => kd_p1)))
  k_with "kst_p" => (first | exact Mine.sg_here | exact Mine.sg_end | (refine' Mine.sg_tail ?z454h; (case z454h => kst_p)) | (refine' Mine.sg_app ?z454h; (case z454h => kst_p)))
  k_with "kd_p" => (first | exact List.Perm.refl _ | (refine' Mine.pk_cons ?z455h ?z455g; (case z455h => kd_p1); (case z455g => kd_p)) | (refine' Mine.pk_seg ?z455h; (case z455h => kst_p)))
  k_with "tb_rel" => (first | assumption | exact Mine.nd3 (by assumption) | exact Mine.nd3 (Mine.nd3 (by assumption)) | (refine' Mine.nd_of ?z456nd ?z456e; (case z456nd => assumption); (case z456e => rfl)) | (refine' Mine.nd_new ?z456h ?z456e ?z456n; (case z456h => assumption); (case z456e => rfl); (case z456n => tb_rel)) | (refine' Mine.nd_new2 ?z456h ?z456g ?z456e ?z456n; (case z456h => assumption); (case z456g => assumption); (case z456e => rfl); (case z456n => tb_rel)) | (refine' Mine.nd_new1 ?z456h ?z456e ?z456n; (case z456h => assumption); (case z456e => rfl); (case z456n => tb_rel)))
  k_with "subscriptTail" => ((k_here; k_dflt (first
      | ((with_reducible show wpAny _ _ (subscriptTail _ _ (Value.ref _) (Value.str _ _)) _ _ _); refine kda_item (knd := PySem.strKind _ _) (by k_asm) (by k_mem) (by k_asm) (strKind_is _ _ _ _) (by first | assumption | rfl) ?_)
      | ((with_reducible show wpAny _ _ (subscriptTail _ _ (Value.ref _) (Value.int _ _)) _ _ _); refine kda_item (knd := PySem.intKind _ _) (by k_asm) (by k_mem) (by k_asm) (intKind_is _ _ _ _) (by first | assumption | rfl | exact Mine.val_new (by assumption)) ?_))))
  k_with "setItem ref str" => ((k_here; k_dflt (refine' kda_set (knd := PySem.strKind _ _) ?z458F ?z458N ?z458U ?z458d (strKind_is _ _ _ _) ?z458z ?_; (case z458F => k_asm); (case z458N => k_asm); (case z458U => k_updF); (case z458d => k_asm); (case z458z => first | kob_size | assumption)); intro h' o' F' N' hd'; (try kob_lit); (try dsimp only at N')))
  k_with "setItem ref int" => ((k_here; k_dflt (refine' kda_set (knd := PySem.intKind _ _) ?z459F ?z459N ?z459U ?z459d (intKind_is _ _ _ _) ?z459z ?_; (case z459F => k_asm); (case z459N => k_asm); (case z459U => k_updF); (case z459d => k_asm); (case z459z => first | kob_size | assumption)); intro h' o' F' N' hd'; (try kob_lit); (try dsimp only at N')))
  k_with "compareOp NotIn int ref" => ((k_here; k_dflt (first
      | refine kdg_notin (knd := PySem.intKind _ _) (by k_asm) (by k_mem) (by k_asm) (by k_asm) (intKind_is _ _ _ _) true (by first | assumption | rfl | exact Mine.iss (by assumption) | exact Mine.isn (by assumption)) ?_
      | refine kdg_notin (knd := PySem.intKind _ _) (by k_asm) (by k_mem) (by k_asm) (by k_asm) (intKind_is _ _ _ _) false (by first | assumption | rfl | exact Mine.iss (by assumption) | exact Mine.isn (by assumption)) ?_); (try dsimp only [Bool.not_true, Bool.not_false])))
  k_with "getItem ref int" => ((k_here; k_dflt (refine Mine.get_dict (knd := PySem.intKind _ _) (by k_asm) (by k_mem) (by k_asm) (intKind_is _ _ _ _) (by first | assumption | rfl | exact Mine.val_new (by assumption)) ?_)))
  k_with "getItem ref str" => ((k_here; k_dflt (refine Mine.get_dict (knd := PySem.strKind _ _) (by k_asm) (by k_mem) (by k_asm) (strKind_is _ _ _ _) (by first | assumption | rfl) ?_)))
  k_with "execs cons" => (((with_reducible refine Mine.st_norm s rfl rfl rfl ?_); intro tk'))
  k_with "call ref" => ((k_here; (with_reducible show wpAny _ _ (call (Value.ref 244) _) _ _ _); k_dflt (refine' Mine.take_o ?z464B ?z464F ?z464X ?z464T ?z464k ?z464d ?z464u ?z464N ?z464P1 ?z464nd ?z464hS ?z464h1 ?z464h2 ?_; (case z464B => k_asm); (case z464F => k_asm); (case z464X => k_asm); (case z464T => k_asm); (case z464k => first | exact rfl | assumption); (case z464d => ktr_room); (case z464u => units_room); (case z464hS => assumption); (case z464N => k_asm); (case z464P1 => kd_p); (case z464nd => tb_rel); (case z464h1 => omega); (case z464h2 => omega)); (intro h' tk' v' tv' sg' v0' v1' hS' F' N' nd'; (try simp only [List.cons_append, List.append_assoc, List.nil_append, List.append_nil] at N'); (try simp only [List.cons_append, List.append_assoc, List.nil_append, List.append_nil] at nd'); (try dsimp only))))
  k_with "call ref" => ((k_here; (with_reducible show wpAny _ _ (call (Value.ref 251) _) _ _ _); k_dflt (refine' Mine.one_c ?z465B ?z465F ?z465X ?z465T ?z465k ?z465d ?z465u ?z465N ?z465P1 ?z465nd ?z465hS ?z465h1 ?z465h2 ?z465hh ?_; (case z465B => k_asm); (case z465F => k_asm); (case z465X => k_asm); (case z465T => k_asm); (case z465k => first | exact rfl | assumption); (case z465d => ktr_room); (case z465u => units_room); (case z465hS => assumption); (case z465N => k_asm); (case z465P1 => kd_p); (case z465nd => tb_rel); (case z465h1 => exact Nat.le_of_ble_eq_true rfl); (case z465h2 => exact Nat.le_of_ble_eq_true rfl); (case z465hh => kdy_has)); (intro h' tk' v' sg' hv' hS' F' N' nd'; kdy_size; (try simp only [List.cons_append, List.append_assoc, List.nil_append, List.append_nil] at N'); (try simp only [List.cons_append, List.append_assoc, List.nil_append, List.append_nil] at nd'); (try dsimp only))))
  k_with "kdy_has" => (exact Mine.five_hand)
  k_with "kdy_size" => (((rename _ ∈ _ => hv9); (obtain ⟨kd', t', hk1', hK'⟩ := Mine.five_of hv9); subst hk1'; clear hv9))
  k_with "call ref" => ((k_here; (with_reducible show wpAny _ _ (call (Value.ref 284) _) _ _ _); k_dflt (refine' Mine.lset_c ?z468B ?z468F ?z468X ?z468T ?z468XB ?z468TB ?z468D0 ?z468k ?z468d ?z468u ?z468d5 ?z468u5 ?z468N ?z468P1 ?z468nd ?z468hR ?z468hs ?z468P2 ?z468lo ?z468hD ?z468hV ?z468hO ?z468hk ?_; (case z468B => k_asm); (case z468F => k_asm); (case z468X => k_asm); (case z468T => k_asm); (case z468k => first | exact rfl | assumption); (case z468d => ktr_room); (case z468u => units_room); (case z468XB => assumption); (case z468TB => assumption); (case z468D0 => assumption); (case z468d5 => ktr_room); (case z468u5 => units_room); (case z468hD => assumption); (case z468N => k_asm); (case z468P1 => kd_p); (case z468nd => tb_rel); (case z468hR => assumption); (case z468hs => assumption); (case z468P2 => kd_p); (case z468lo => assumption); (case z468hV => assumption); (case z468hO => assumption); (case z468hk => assumption)); (intro g' h' tk' oR' oD' O' es' seg' vs' ss' n' T' F' N' nd' hS' hR' hE' hD' hV' hO' B' X' P' D'; (try simp only [List.cons_append, List.append_assoc, List.nil_append, List.append_nil] at N'); (try simp only [List.cons_append, List.append_assoc, List.nil_append, List.append_nil] at nd'); (try dsimp only))))
  k_with "call ref" => ((k_here; (with_reducible show wpAny _ _ (call (Value.ref 279) _) _ _ _); k_dflt (refine' Mine.askedL_c ?z469B ?z469F ?z469X ?z469T ?z469k ?z469d ?z469u ?z469N ?z469P1 ?z469nd ?z469hD ?z469hV ?z469hO ?z469hrc ?_; (case z469B => k_asm); (case z469F => k_asm); (case z469X => k_asm); (case z469T => k_asm); (case z469k => first | exact rfl | assumption); (case z469d => ktr_room); (case z469u => units_room); (case z469hD => assumption); (case z469N => k_asm); (case z469P1 => kd_p); (case z469nd => tb_rel); (case z469hV => assumption); (case z469hO => exact Mine.OnL.rep (by assumption)); (case z469hrc => assumption)); (intro h' tk' v' oD' a1' an' hA' hV' hD' F' N' nd'; (obtain ⟨tv', hv'⟩ := hV'.str); subst hv'; (try simp only [List.cons_append, List.append_assoc, List.nil_append, List.append_nil] at N'); (try simp only [List.cons_append, List.append_assoc, List.nil_append, List.append_nil] at nd'); (try dsimp only))))
  k_with "call ref" => ((k_here; (with_reducible show wpAny _ _ (call (Value.ref 258) _) _ _ _); k_dflt (refine' Mine.bpdu_c ?z470B ?z470F ?z470X ?z470T ?z470k ?z470d ?z470u ?z470h0 ?z470h4 ?z470N ?z470nd ?_; (case z470B => k_asm); (case z470F => k_asm); (case z470X => k_asm); (case z470T => k_asm); (case z470k => first | exact rfl | assumption); (case z470d => ktr_room); (case z470u => units_room); (case z470h0 => assumption); (case z470h4 => assumption); (case z470N => k_asm); (case z470nd => tb_rel)); (intro h' tk' BP' BD' kd' tkd' vec' tl' oB' hb' hB' F' N' nd'; (try simp only [List.cons_append, List.append_assoc, List.nil_append, List.append_nil] at N'); (try simp only [List.cons_append, List.append_assoc, List.nil_append, List.append_nil] at nd'); (try dsimp only))))
  k_with "call ref" => ((k_here; (with_reducible show wpAny _ _ (call (Value.ref 137) _) _ _ _); k_dflt (refine' Mine.asked_v ?z471B ?z471F ?z471X ?z471T ?z471k ?z471d ?z471u ?z471N ?z471P1 ?z471nd ?z471hR ?z471hs ?z471P2 ?z471P3 ?z471lo ?z471hB ?z471hb ?z471h0 ?z471h4 ?_; (case z471B => k_asm); (case z471F => k_asm); (case z471X => k_asm); (case z471T => k_asm); (case z471k => first | exact rfl | assumption); (case z471d => ktr_room); (case z471u => units_room); (case z471N => k_asm); (case z471P1 => kd_p); (case z471nd => tb_rel); (case z471hR => assumption); (case z471hs => assumption); (case z471hb => assumption); (case z471hB => assumption); (case z471P2 => kd_p); (case z471P3 => kd_p); (case z471lo => assumption); (case z471h0 => assumption); (case z471h4 => assumption)); (intro h' tk' W' oR' es' seg' a1' an' tv' hA' hE' hS' hR' F' N' nd'; (try simp only [List.cons_append, List.append_assoc, List.nil_append, List.append_nil] at N'); (try simp only [List.cons_append, List.append_assoc, List.nil_append, List.append_nil] at nd'); (try dsimp only))))
  k_with "call ref" => ((k_here; (with_reducible show wpAny _ _ (call (Value.ref 144) _) _ _ _); k_dflt (refine' Mine.silent_c ?z472B ?z472F ?z472X ?z472T ?z472k ?z472d ?z472u ?z472N ?z472P1 ?z472nd ?z472hR ?z472hs ?z472P2 ?z472lo ?_; (case z472B => k_asm); (case z472F => k_asm); (case z472X => k_asm); (case z472T => k_asm); (case z472k => first | exact rfl | assumption); (case z472d => ktr_room); (case z472u => units_room); (case z472N => k_asm); (case z472P1 => kd_p); (case z472nd => tb_rel); (case z472hR => assumption); (case z472hs => assumption); (case z472P2 => kd_p); (case z472lo => assumption)); (intro h' tk' W' oR' es' seg' a1' an' v' hA' hAn' hV' hE' hS' hR' F' N' nd'; (obtain ⟨tv', hv'⟩ := hV'.str); subst hv'; (try simp only [List.cons_append, List.append_assoc, List.nil_append, List.append_nil] at N'); (try simp only [List.cons_append, List.append_assoc, List.nil_append, List.append_nil] at nd'); (try dsimp only))))
  k_with "call ref" => ((k_here; (with_reducible show wpAny _ _ (call (Value.ref 116) _) _ _ _); k_dflt (refine' Mine.open_c ?z473B ?z473F ?z473X ?z473T ?z473k ?z473d ?z473u ?z473N ?z473P1 ?z473nd ?z473hR ?z473hs ?z473P2 ?z473lo ?_; (case z473B => k_asm); (case z473F => k_asm); (case z473X => k_asm); (case z473T => k_asm); (case z473k => first | exact rfl | assumption); (case z473d => ktr_room); (case z473u => units_room); (case z473N => k_asm); (case z473P1 => kd_p); (case z473nd => tb_rel); (case z473hR => assumption); (case z473hs => assumption); (case z473P2 => kd_p); (case z473lo => assumption)); (intro h' tk' W' oR' es' seg' a1' hA' hE' hS' hR' F' N' nd'; (try simp only [List.cons_append, List.append_assoc, List.nil_append, List.append_nil] at N'); (try simp only [List.cons_append, List.append_assoc, List.nil_append, List.append_nil] at nd'); (try dsimp only))))
  k_with "call ref" => ((k_here; (with_reducible show wpAny _ _ (call (Value.ref 123) _) _ _ _); k_dflt (refine' Mine.state_c ?z474B ?z474F ?z474X ?z474T ?z474k ?z474d ?z474u ?z474N ?z474P1 ?z474nd ?z474hR ?z474hs ?z474P2 ?z474lo ?_; (case z474B => k_asm); (case z474F => k_asm); (case z474X => k_asm); (case z474T => k_asm); (case z474k => first | exact rfl | assumption); (case z474d => ktr_room); (case z474u => units_room); (case z474N => k_asm); (case z474P1 => kd_p); (case z474nd => tb_rel); (case z474hR => assumption); (case z474hs => assumption); (case z474P2 => kd_p); (case z474lo => assumption)); (intro h' tk' W' oR' es' seg' a1' an' v' hA' hAn' hV' hE' hSg' hS' hR' F' N' nd'; (obtain ⟨tv', hv'⟩ := hV'.str); subst hv'; (try simp only [List.cons_append, List.append_assoc, List.nil_append, List.append_nil] at N'); (try simp only [List.cons_append, List.append_assoc, List.nil_append, List.append_nil] at nd'); (try dsimp only))))
  k_with "call ref" => ((k_here; (with_reducible show wpAny _ _ (call (Value.ref 265) _) _ _ _); k_dflt (refine' Mine.letgoL_c ?z475B ?z475F ?z475X ?z475T ?z475k ?z475d ?z475u ?z475N ?z475P1 ?z475nd ?z475hD ?_; (case z475B => k_asm); (case z475F => k_asm); (case z475X => k_asm); (case z475T => k_asm); (case z475k => first | exact rfl | assumption); (case z475d => ktr_room); (case z475u => units_room); (case z475N => k_asm); (case z475P1 => kd_p); (case z475nd => tb_rel); (case z475hD => kst_p1)); (intro h' tk' oD' a1' hA' hD' F' N' nd'; (try simp only [List.cons_append, List.append_assoc, List.nil_append, List.append_nil] at N'); (try simp only [List.cons_append, List.append_assoc, List.nil_append, List.append_nil] at nd'); (try dsimp only))))
  k_with "call ref" => ((k_here; (with_reducible show wpAny _ _ (call (Value.ref 272) _) _ _ _); k_dflt (refine' Mine.standsL_c ?z476B ?z476F ?z476X ?z476T ?z476k ?z476d ?z476u ?z476N ?z476P1 ?z476hD ?_; (case z476B => k_asm); (case z476F => k_asm); (case z476X => k_asm); (case z476T => k_asm); (case z476k => first | exact rfl | assumption); (case z476d => ktr_room); (case z476u => units_room); (case z476N => k_asm); (case z476P1 => kd_p); (case z476hD => kst_p1)); (intro h' tk' v' an' hA' hV' F' N'; (obtain ⟨tv', hv'⟩ := hV'.str); subst hv'; (try simp only [List.cons_append, List.append_assoc, List.nil_append, List.append_nil] at N'); (try simp only [List.cons_append, List.append_assoc, List.nil_append, List.append_nil] at nd'); (try dsimp only))))
  k_with "kst_p1" => (first | assumption | exact Mine.lr_loop (by assumption) | exact Mine.lr_no (by assumption))
  k_with "subscriptTail" => ((k_here; (with_reducible show wpAny _ _ (subscriptTail _ _ (Value.ref _) (Value.int _ _)) _ _ _); k_dflt (refine' Mine.pick_port ?z478N ?z478nd ?z478P ?z478hRW ?z478hT ?z478hp ?_; (case z478N => k_asm); (case z478hRW => assumption); (case z478hT => assumption); (case z478P => kd_p); (case z478nd => tb_rel); (case z478hp => omega)); (intro D' O' oD' vs' ss' n' seg' lo' hD' hV' hO' hK' hS' hC' N' nd'; (have hDl := hD'); (rcases hDl with ⟨vh', vu', hD', hH', hU'⟩); (obtain ⟨th', hv'⟩ := hH'.str); subst hv'; (have hOl := hO'.rep.l); (try simp only [List.cons_append, List.append_assoc, List.nil_append, List.append_nil] at N'); (try simp only [List.cons_append, List.append_assoc, List.nil_append, List.append_nil] at nd'); (try dsimp only))))
  k_with "LeaveS0" => ((k_dflt (refine' leaveS0_ ?z479F ?z479N ?z479T ?_; (case z479F => k_asm); (case z479N => k_asm); (case z479T => first | assumption | exact KtsTurn.refl)); intro kF kN; (try dsimp only)))
  k_with "compareOp In str ref" => ((k_here; (with_reducible show wpAny _ _ (compareOp CmpOp.In (Value.str _ _) (Value.ref _)) _ _ _); refine' Mine.in_on ?z480k1 ?z480k2 ?z480k3 ?_; (case z480k1 => exact News.isList (by k_asm) (by news_mem)); (case z480k2 => assumption); (case z480k3 => with_reducible assumption)))
  k_with "kd_p1" => ((refine' Mine.pk_over ?z481h; (case z481h => kd_p1)))
  k_with "ktn_open" => (first | exact List.Perm.refl _ | (refine' Mine.pk_cons ?z482h ?z482g; (case z482h => kd_p1); (case z482g => ktn_open)) | (refine' Mine.pk_app ?z482h ?z482g; (case z482h => kst_p); (case z482g => ktn_open)))
  trivial

namespace Mine
section
variable {w : World} {A₀ : Around} {base : Heap} {h₀ : Heap} {mean : ExcName → Option Value} {mg mb : Str → Option Value} {cs : Scope} {dp un : Nat} {gd : Option (List Code)} {cn : Str} {L a : Addr} {ccd : Value} {s : Shared} {m : Str → Option Value} {rest : List (Addr × Obj)} {Q E : Value → Shared → Prop}
  (B : Below A₀ base [] h₀) (F : Fr h₀ L s.heap m) (X : (hd.heap_1 w.params).In h₀) (T : Top qv Lo mean mg mb h₀) (XB : (hd.heap_1 w.params).In base) (TB : Top qv Lo mean mg mb base) (k : cs.kind = .function) (d : dp + 60 < recursionLimit) (u : un + 900 < cLine) (d5 : dp ≤ 440) (u5 : un ≤ 4600)
include B F X T XB TB k d u d5 u5
theorem deed_c {G GD GR RW SP aS D1 D2 : Addr} {rc qt now : Int} {t1 t2 t3 t4 t5 tn tr tq : Tok} {oR oRW : Obj} {es : List (Int × Value)} {st : Int → St} {lp sg cur : List (Addr × Obj)} {n : Nat}
  (N : News h₀ L s.heap cur) (P1 : cur.Perm ((G, instObj 154 GD) :: (GD, gdObj w rc qt GR t1 t2 t3 t4 t5) :: (GR, oR) :: (RW, oRW) :: (SP, listOf #[.int rc tr, .int qt tq] n) :: (rest ++ (sg ++ lp)))) (nd : Nd cur)
  (hR : oR.IsDictOf (intKind Pg w) es) (lo : (GR == sysModules) = false) (hRW : oRW.IsDictOf (intKind Pg w) [((1 : Int), Value.ref D1), (2, Value.ref D2)]) (hT : Two w es st D1 D2 lp) (hS : Src aS sg) (hrc : 0 ≤ rc)
  (ret : ∀ h' tk' oR' es' st' sg' lp', oR'.IsDictOf (intKind Pg w) es' → Two w es' st' D1 D2 lp' → Src aS sg' → Fr h₀ L h' m → News h₀ L h' ((G, instObj 154 GD) :: (GD, gdObj w rc qt GR t1 t2 t3 t4 t5) :: (GR, oR') :: (RW, oRW) :: (SP, listOf #[.int rc tr, .int qt tq] n) :: (rest ++ (sg' ++ lp'))) →
    Nd ((G, instObj 154 GD) :: (GD, gdObj w rc qt GR t1 t2 t3 t4 t5) :: (GR, oR') :: (RW, oRW) :: (SP, listOf #[.int rc tr, .int qt tq] n) :: (rest ++ (sg' ++ lp'))) → Q (.bool true) { s with heap := h', toks := tk' }) :
  wpAny (model Pg w) (ktrTop dp un gd cn cs L a ccd [] []) (call (.ref 291) [.ref aS, .ref G, .ref RW, .int now tn, .ref SP]) Q E s := by
  replace N := news_perm N P1
  replace nd := nd_perm nd P1
  refine wpAny_call ?_
  k_dflt (refine' code_defS0 ?k1 ?k2 ?k3 ?k4 ?k5 ?kA ?k6 ?k7 ?k8 ?k9 ?kB ?_ ?cK ?c2 ?c3 ?c4 ?c5; (case kA => exact rfl); (case k1 => k_asm); (case k2 => k_asm); (case k3 => k_asm); (case k4 => k_asm); (case k5 => k_asm); (case k6 => k_is); (case k7 => k_is); (case k8 => ktr_room); (case k9 => exact BindsTo.of_eq rfl); (case kB => exact locs rfl); (case cK => assumption); (case c2 => exact rfl); (case c3 => exact rfl); (case c4 => exact rfl); (case c5 => decide))
  intro g' L' h' FG' F' N' B' X' T' D'
  (try dsimp only)
  (try k_fold)
  have nd' := nd
  k_steps
  all_goals (try clear P1 X T B F)
  all_goals first
  | (refine' Mine.deed_fin (aS := aS) (GR := GR) (rest := rest) (g1 := (G, instObj 154 GD)) (g2 := (GD, gdObj w rc qt GR t1 t2 t3 t4 t5)) (g4 := (RW, oRW)) (g5 := (SP, listOf #[.int rc tr, .int qt tq] n)) ?hc ?hl ?hs ?he ?hv ?hO ?hok ?hS ?hR ?N ?nd ?P ?next; (case hc => assumption); (case hs => assumption); (case hl => assumption); (case he => assumption); (case hv => assumption); (case hO => assumption); (case hR => assumption); (case hok => exact Mine.StOk.set (by assumption)); (case hS => assumption); (case N => assumption); (case nd => tb_rel); (case P => ktn_open); (case next => (intro lp' hT' N' nd'; exact ret _ _ _ _ _ _ _ (by assumption) hT' (by assumption) (by assumption) N' nd')))
  | ((have key := Mine.two_asked (w := w) (by assumption) (by assumption) (by assumption) (by assumption)); (obtain ⟨hq1, hq2⟩ := key); subst hq1; subst hq2; (refine Mine.q_tt (beq_self_eq_true _) ?_); refine' Mine.deed_fin (aS := aS) (GR := GR) (rest := rest) (g1 := (G, instObj 154 GD)) (g2 := (GD, gdObj w rc qt GR t1 t2 t3 t4 t5)) (g4 := (RW, oRW)) (g5 := (SP, listOf #[.int rc tr, .int qt tq] n)) ?hc ?hl ?hs ?he ?hv ?hO ?hok ?hS ?hR ?N ?nd ?P ?next; (case hc => assumption); (case hs => assumption); (case hl => assumption); (case he => exact .inr ⟨_, by assumption⟩); (case hv => assumption); (case hO => exact Mine.OnL.asked (by assumption) (by assumption)); (case hR => assumption); (case hok => exact Mine.StOk.askd (by assumption) (by assumption)); (case hS => assumption); (case N => assumption); (case nd => tb_rel); (case P => ktn_open); (case next => (intro lp' hT' N' nd'; exact ret _ _ _ _ _ _ _ (by assumption) hT' (by assumption) (by assumption) N' nd')))
  | ((have key := Mine.two_silent (w := w) (by assumption) (by assumption) (by assumption) (by assumption) (by first | exact Mine.sil_yes (Mine.kl_of (by assumption) (by assumption)) (by assumption) (Mine.hl_no (by assumption)) | exact Mine.sil_kl (Mine.kl_of (by assumption) (by assumption)) | exact Mine.sil_heard (by assumption) | exact Mine.sil_held (Mine.hl_not (by assumption)))); subst key; (refine Mine.q_tt (Mine.ans_eq (by assumption) (by assumption)) ?_); refine' Mine.deed_fin (aS := aS) (GR := GR) (rest := rest) (g1 := (G, instObj 154 GD)) (g2 := (GD, gdObj w rc qt GR t1 t2 t3 t4 t5)) (g4 := (RW, oRW)) (g5 := (SP, listOf #[.int rc tr, .int qt tq] n)) ?hc ?hl ?hs ?he ?hv ?hO ?hok ?hS ?hR ?N ?nd ?P ?next; (case hc => assumption); (case hs => assumption); (case hl => assumption); (case he => exact .inr ⟨_, by assumption⟩); (case hv => assumption); (case hO => exact Mine.OnL.sl (by assumption) (by assumption)); (case hR => assumption); (case hok => exact Mine.StOk.sl (by assumption) (by assumption)); (case hS => assumption); (case N => assumption); (case nd => tb_rel); (case P => ktn_open); (case next => (intro lp' hT' N' nd'; exact ret _ _ _ _ _ _ _ (by assumption) hT' (by assumption) (by assumption) N' nd')))
  | ((have key := Mine.two_open (by assumption) (by assumption)); subst key; (refine Mine.q_tt (Mine.ans_let (by assumption) rfl) ?_); refine' Mine.deed_fin (aS := aS) (GR := GR) (rest := rest) (g1 := (G, instObj 154 GD)) (g2 := (GD, gdObj w rc qt GR t1 t2 t3 t4 t5)) (g4 := (RW, oRW)) (g5 := (SP, listOf #[.int rc tr, .int qt tq] n)) ?hc ?hl ?hs ?he ?hv ?hO ?hok ?hS ?hR ?N ?nd ?P ?next; (case hc => assumption); (case hs => assumption); (case hl => exact Mine.lr_no (by assumption)); (case he => exact .inr ⟨_, Mine.EsStep.trans (by assumption) (by assumption)⟩); (case hv => assumption); (case hO => exact Mine.OnL.of_eq (a := st _) (by assumption) rfl rfl rfl rfl); (case hR => assumption); (case hok => exact .inl rfl); (case hS => assumption); (case N => assumption); (case nd => tb_rel); (case P => ktn_open); (case next => (intro lp' hT' N' nd'; exact ret _ _ _ _ _ _ _ (by assumption) hT' (by assumption) (by assumption) N' nd')))
  | fail
end
end Mine

namespace Mine
open PySem.Spec PySem.Calls PyProof.V
theorem ints_of {prog : Program} {w : World} : ∀ {vs : List Value} {es : List (Int × Value)}, vs.length = es.length → (∀ (j : Nat) (v : Value), vs[j]? = some v → ∃ k x, es[j]? = some (k, x) ∧ (intKind prog w).is k v = true) → IntsAre vs (es.map (·.1))
  | [], [], _, _ => .nil
  | [], _ :: _, h, _ => by cases h
  | _ :: _, [], h, _ => by cases h
  | v :: vs, (k, x) :: es, h, hv => by
    obtain ⟨k', x', e, hk⟩ := hv 0 v rfl
    simp only [List.getElem?_cons_zero, Option.some.injEq, Prod.mk.injEq] at e
    obtain ⟨rfl, rfl⟩ := e
    obtain ⟨t, rfl⟩ := Flat.int_inv (kdl_flat_int hk)
    exact .cons _ _ (ints_of (Nat.succ.inj h) fun j u hu => by
      obtain ⟨k2, x2, e2, h2⟩ := hv (j + 1) u (by simpa using hu)
      exact ⟨k2, x2, by simpa using e2, h2⟩)
theorem EsOk.len {es : List (Int × Value)} (h : EsOk es) : es.length ≤ 2 := by cases h <;> simp
section
variable {w : World} {A : Around} {E : Value → Shared → Prop} {s : Shared} {h₀ : Heap} {L : Addr} {m : Str → Option Value} {Q : Value → Shared → Prop} {news : List (Addr × Obj)}
theorem sorted_es {es : List (Int × Value)} {GR : Addr} {oR : Obj} (hh : A.handled = none) (F : Fr h₀ L s.heap m) (N : News h₀ L s.heap news) (hm : (GR, oR) ∈ news) (hR : oR.IsDictOf (intKind Pg w) es) (lo : (GR == sysModules) = false) (ho : EsOk es)
    (h : ∀ B h' tk vs ns c, Fr h₀ L h' m → News h₀ L h' ((B, listOf vs.toArray c) :: news) → (∀ q ∈ news, @LT.lt Nat _ q.1 B) → IntsAre vs ns → ns.Perm (es.map (·.1)) → ns.Pairwise (· ≤ ·) → Q (.ref B) { s with heap := h', toks := tk }) :
    wpAny (model Pg w) A (call (.builtin "sorted") [.ref GR]) Q E s := by
  obtain ⟨ep, hat⟩ := (kda_dict N hm hR).dictAt
  refine kdu_sorted (kdl_dict (knd := intKind Pg w) (kvs := es) (ep := ep) lo) hh F N hat (by have := ho.len; rw [sizeLine_eq]; omega) fun B h' tk vs F' N' l1 hl hv => ?_
  have hi := ints_of hl hv
  have z := N' _ List.mem_cons_self
  refine wpAny_call_entry PyProof.Rows.slot_list_sort ⟨_, z.1, rfl⟩ PyProof.Rows.entry_list_sort (list_sort_tree (n := 0) (vs := vs) z.1 hi (by have := ho.len; omega) fun out ns' hI hp hP => ⟨.none, rfl, ?_⟩) (PyProof.Rows.args_list_sort _)
  obtain ⟨e, he⟩ := sortedHeap_at (vs := vs) (out := out) z.1
  have hk : ∀ b o, b ∉ [B] → h'.get? b = some o → (sortedHeap h' B vs out).get? b = some o := fun b o nb eb => by
    rw [sortedHeap_old (by simpa using nb) (Heap.lt_size eb)]; exact eb
  refine h B _ tk out.toList ns' e (LCg.fr_but F' hk z.2.1.symm z.2.2) (fun p hp => ?_) l1 hI hp hP
  rcases List.mem_cons.mp hp with rfl | hp
  · exact ⟨by rw [Array.toArray_toList]; exact he, z.2⟩
  · exact LCg.news_but (fun p hp => N' p (List.mem_cons_of_mem _ hp)) hk (fun p hp => Nat.ne_of_lt (l1 p hp)) p hp
end
end Mine

namespace Mine
open PySem.Spec PySem.Calls
section
variable {prog : Program} {w : World} {A : Around} {E : Value → Shared → Prop} {s : Shared} {env : Env} {h₀ : Heap} {x : Str} {body : List Stmt} {Q : Flow → Shared → Prop}
theorem unr_mono {L I : Addr} {it : Obj} {s₁ : Shared} {R R' : (Str → Option Value) → List (Addr × Obj) → Prop} {f : Flow} {s₂ : Shared} (h : UnrPost h₀ L s₁ I it R Q f s₂) (hr : ∀ m n, R m n → R' m n) : UnrPost h₀ L s₁ I it R' Q f s₂ := by
  cases f with
  | ret v => exact h
  | brk => exact h
  | next => obtain ⟨h', tk, m', n', e, F, N, o, r⟩ := h; exact ⟨h', tk, m', n', e, F, N, o, hr _ _ r⟩
  | cont => obtain ⟨h', tk, m', n', e, F, N, o, r⟩ := h; exact ⟨h', tk, m', n', e, F, N, o, hr _ _ r⟩
/-- a for over a list of unknown length, by an invariant -/
theorem lrest_ind {I : Addr} {lp : Addr × Obj} (Inv : List Value → (Str → Option Value) → List (Addr × Obj) → Prop)
    (step : ∀ v r m news, Inv (v :: r) m news → ∀ it h tk, it.cls = .type "list_iterator" → Fr h₀ env.locals h (fun y => if y = x then some v else m y) → News h₀ env.locals h ((I, it) :: news) →
      wpAny (model prog w) A (execs body env) (UnrPost h₀ env.locals { s with heap := h, toks := tk } I it (fun m' n' => lp ∈ n' ∧ Inv r m' n') Q) E { s with heap := h, toks := tk })
    (done : ∀ m news h tk, Inv [] m news → Fr h₀ env.locals h m → News h₀ env.locals h news → Q .next { s with heap := h, toks := tk }) :
    ∀ r m news, Inv r m news → ListRest prog w A E h₀ env x body Q s I lp r m news := by
  intro r
  induction r with
  | nil => intro m news hI h tk F N; exact done m news h tk hI F N
  | cons v r ih =>
    intro m news hI it h tk hc F N
    exact wpAny_mono (step v r m news hI it h tk hc F N) (fun f s₂ p => unr_mono p fun m' n' q => ⟨q.1, ih m' n' q.2⟩) fun _ _ e => e
/-- a for over a range, by an invariant -/
theorem rrest_ind {I : Addr} {a : Int} {n : Nat} (Inv : (Str → Option Value) → List (Addr × Obj) → Prop)
    (step : ∀ m news, Inv m news → ∀ k t it h tk, Fr h₀ env.locals h (fun y => if y = x then some (.int k t) else m y) → News h₀ env.locals h ((I, it) :: news) →
      wpAny (model prog w) A (execs body env) (UnrPost h₀ env.locals { s with heap := h, toks := tk } I it Inv Q) E { s with heap := h, toks := tk })
    (done : ∀ m news h tk, Inv m news → Fr h₀ env.locals h m → News h₀ env.locals h news → Q .next { s with heap := h, toks := tk }) :
    ∀ k i m news, Inv m news → RangeRest prog w A E h₀ env x body Q s I a n k i m news := by
  intro k
  induction k with
  | zero => intro i m news hI h tk F N; exact done m news h tk hI F N
  | succ k ih =>
    intro i m news hI t h tk F N
    exact wpAny_mono (step m news hI _ t _ h tk F N) (fun f s₂ p => unr_mono p fun m' n' q => ih (i + 1) m' n' q) fun _ _ e => e
theorem isnot_hg {H : Hd} {v : Value} {Q' : Value → Shared → Prop} (h : HG H v) (q : Q' (.bool (decide (H ≠ .no))) s) : wpAny (model prog w) A (compareOp .IsNot v .none) Q' E s := by
  cases h with
  | no => exact wpAny_isNot_self (by rfl) q
  | shut t => exact wpAny_isNot_other (by rfl) (by intro x; cases x) q
  | root t => exact wpAny_isNot_other (by rfl) (by intro x; cases x) q
  | loop t => exact wpAny_isNot_other (by rfl) (by intro x; cases x) q
theorem is_hg {H : Hd} {v : Value} {Q' : Value → Shared → Prop} (h : HG H v) (q : Q' (.bool (decide (H = .no))) s) : wpAny (model prog w) A (compareOp .Is v .none) Q' E s := by
  cases h with
  | no => exact wpAny_is_self (by rfl) q
  | shut t => exact wpAny_is_other (by rfl) (by intro x; cases x) q
  | root t => exact wpAny_is_other (by rfl) (by intro x; cases x) q
  | loop t => exact wpAny_is_other (by rfl) (by intro x; cases x) q
end
theorem EsStep.same {es es' : List (Int × Value)} {p : Int} {W W' : Addr} (h : EsStep es p es' W') (hv : valueAt es p = some (.ref W)) : es' = es ∧ W' = W := by
  rcases h with ⟨h1, rfl⟩ | ⟨h1, _⟩
  · rw [hv] at h1
    exact ⟨rfl, (Value.ref.inj (Option.some.inj h1)).symm⟩
  · rw [hv] at h1; cases h1
/-- a port that is let go by expire -/
def expd (a : St) (now : Int) : Bool := decide (a.held ≠ .no) && decide ((letgo a now).held = .no)
/-- the states where the ports of a list were let go -/
def goneS (st : Int → St) (l : List Int) (now : Int) : Int → St := fun q => if q ∈ l then letgo (st q) now else st q
theorem val_of_mem {es : List (Int × Value)} {p : Int} (h : p ∈ es.map (·.1)) : ∃ v, valueAt es p = some v := by
  induction es with
  | nil => cases h
  | cons e r ih =>
    obtain ⟨k, v⟩ := e
    rw [val_cons]
    by_cases hk : k = p
    · exact ⟨v, if_pos hk⟩
    · rw [if_neg hk]
      refine ih ?_
      rcases List.mem_cons.mp h with h | h
      · exact absurd h.symm hk
      · exact h
theorem EsOk.keys {es : List (Int × Value)} (h : EsOk es) : ∀ p ∈ es.map (·.1), p = 1 ∨ p = 2 := by
  cases h with
  | e0 => intro p hp; cases hp
  | e1 p v h => intro q hq; simp only [List.map_cons, List.map_nil, List.mem_singleton] at hq; subst hq; exact h
  | e2 p q v u h1 h2 h3 =>
    intro r hr
    simp only [List.map_cons, List.map_nil, List.mem_cons, List.not_mem_nil, or_false] at hr
    rcases hr with rfl | rfl
    · exact h1
    · exact h2
theorem EsOk.nodup {es : List (Int × Value)} (h : EsOk es) : (es.map (·.1)).Nodup := by
  cases h with
  | e0 => exact .nil
  | e1 p v h => simp
  | e2 p q v u h1 h2 h3 => simpa using h3
end Mine

namespace Mine
open PySem.Spec PySem.Calls
section
variable {prog : Program} {w : World} {A : Around} {E : Value → Shared → Prop} {s : Shared} {env : Env} {h₀ : Heap} {x : Str} {body : List Stmt} {Q : Flow → Shared → Prop}
/-- a for over a list by an invariant of the ledger; two locals turn: the target x and y -/
theorem lrest_loc {I : Addr} {lp : Addr × Obj} {y : Str} {m₀ : Str → Option Value} {news₀ : List (Addr × Obj)} {vs : List Value} (J : List Value → List (Addr × Obj) → Prop)
    (step : ∀ v r news u2, J (v :: r) news → ∀ it h tk, it.cls = .type "list_iterator" → Fr h₀ env.locals h (fun z => if z = x then some v else if z = y then u2 else m₀ z) → News h₀ env.locals h ((I, it) :: news) →
      wpAny (model prog w) A (execs body env) (UnrPost h₀ env.locals { s with heap := h, toks := tk } I it (fun m' n' => lp ∈ n' ∧ (∀ z, z ≠ x → z ≠ y → m' z = m₀ z) ∧ J r n') Q) E { s with heap := h, toks := tk })
    (done : ∀ news u1 u2, J [] news → ∀ h tk, Fr h₀ env.locals h (fun z => if z = x then u1 else if z = y then u2 else m₀ z) → News h₀ env.locals h news → Q .next { s with heap := h, toks := tk })
    (init : J vs news₀) : ListRest prog w A E h₀ env x body Q s I lp vs m₀ news₀ := by
  refine lrest_ind (fun r m n => (∀ z, z ≠ x → z ≠ y → m z = m₀ z) ∧ J r n) ?_ ?_ vs m₀ news₀ ⟨fun _ _ _ => rfl, init⟩
  · rintro v r m news ⟨hm, hJ⟩ it h tk hc F N
    have e : (fun z => if z = x then some v else m z) = fun z => if z = x then some v else if z = y then m y else m₀ z := by
      funext z
      by_cases h1 : z = x
      · simp [h1]
      · simp only [if_neg h1]
        by_cases h2 : z = y
        · simp [h2]
        · simp only [if_neg h2]; exact hm z h1 h2
    rw [e] at F
    exact step v r news _ hJ it h tk hc F N
  · rintro m news h tk ⟨hm, hJ⟩ F N
    have e : m = fun z => if z = x then m x else if z = y then m y else m₀ z := by
      funext z
      by_cases h1 : z = x
      · simp [h1]
      · simp only [if_neg h1]
        by_cases h2 : z = y
        · simp [h2]
        · simp only [if_neg h2]; exact hm z h1 h2
    rw [e] at F
    exact done news _ _ hJ h tk F N
end
theorem PSeg.seg {w : World} {es : List (Int × Value)} {p : Int} {a : St} {seg : List (Addr × Obj)} {v : Value} (h : PSeg w es p a seg) (hv : valueAt es p = some v) : ∃ W, valueAt es p = some (.ref W) ∧ Seg w a W seg := by
  cases h with
  | there W seg h1 h2 => exact ⟨W, h1, h2⟩
  | not h1 _ _ => rw [hv] at h1; cases h1
inductive GTwo (w : World) (es : List (Int × Value)) (st : Int → St) : List (Addr × Obj) → Prop
  | mk (s1 s2 : List (Addr × Obj)) : EsOk es → PSeg w es 1 (st 1) s1 → PSeg w es 2 (st 2) s2 → GTwo w es st (s1 ++ s2)
/-- a row taken out of the two -/
def GClose (w : World) (es : List (Int × Value)) (st : Int → St) (p : Int) (lo : List (Addr × Obj)) : Prop := ∀ a' seg', PSeg w es p a' seg' → ∃ lg', GTwo w es (updS st p a') lg' ∧ (lo ++ seg').Perm lg'
theorem GTwo.pick {w : World} {es : List (Int × Value)} {st : Int → St} {lg : List (Addr × Obj)} {p : Int} (h : GTwo w es st lg) (hp : p = 1 ∨ p = 2) : ∃ seg lo, PSeg w es p (st p) seg ∧ GClose w es st p lo ∧ lg.Perm (lo ++ seg) := by
  cases h with
  | mk s1 s2 ho p1 p2 =>
    rcases hp with rfl | rfl
    · refine ⟨s1, s2, p1, fun a' seg' hs => ⟨_, .mk seg' s2 ho ?_ ?_, List.perm_append_comm⟩, List.perm_append_comm⟩
      · exact upd_same.symm ▸ hs
      · exact (upd_other (st := st) (a := a') (show (2 : Int) ≠ 1 by decide)).symm ▸ p2
    · refine ⟨s2, s1, p2, fun a' seg' hs => ⟨_, .mk s1 seg' ho ?_ ?_, .refl _⟩, .refl _⟩
      · exact (upd_other (st := st) (a := a') (show (1 : Int) ≠ 2 by decide)).symm ▸ p1
      · exact upd_same.symm ▸ hs
inductive LTwo (w : World) (st : Int → St) (D1 D2 : Addr) : List (Addr × Obj) → Prop
  | mk (O1 O2 : Addr) (o1 o2 : Obj) (v1 v2 : List Value) (k1 k2 : List Str) (n1 n2 : Nat) : Lr w (st 1) O1 o1 → StrsAre v1 k1 → OnL (st 1) k1 → StOk (st 1) → Lr w (st 2) O2 o2 → StrsAre v2 k2 → OnL (st 2) k2 → StOk (st 2) → LTwo w st D1 D2 [(D1, o1), (O1, listOf v1.toArray n1), (D2, o2), (O2, listOf v2.toArray n2)]
theorem Two.split {w : World} {es : List (Int × Value)} {st : Int → St} {D1 D2 : Addr} {lp : List (Addr × Obj)} (h : Two w es st D1 D2 lp) : ∃ ll lg, LTwo w st D1 D2 ll ∧ GTwo w es st lg ∧ lp.Perm (ll ++ lg) := by
  cases h with
  | mk l1 l2 ho p1 p2 =>
    cases p1 with
    | mk O1 o1 v1 k1 n1 s1 a1 a2 a3 a5 a4 =>
      cases p2 with
      | mk O2 o2 v2 k2 n2 s2 b1 b2 b3 b5 b4 =>
        refine ⟨_, _,   .mk O1 O2 o1 o2 v1 v2 k1 k2 n1 n2 a1 a2 a3 a5 b1 b2 b3 b5, .mk s1 s2 ho a4 b4, ?_⟩
        refine List.Perm.cons _ (List.Perm.cons _ ?_)
        exact List.perm_append_comm_assoc s1 [(D2, o2), (O2, listOf v2.toArray n2)] s2
theorem Two.join {w : World} {es : List (Int × Value)} {st : Int → St} {D1 D2 : Addr} {ll lg : List (Addr × Obj)} (h1 : LTwo w st D1 D2 ll) (h2 : GTwo w es st lg) : ∃ lp, Two w es st D1 D2 lp ∧ (ll ++ lg).Perm lp := by
  cases h1 with
  | mk O1 O2 o1 o2 v1 v2 k1 k2 n1 n2 a1 a2 a3 a5 b1 b2 b3 b5 =>
    cases h2 with
    | mk s1 s2 ho a4 b4 =>
      refine ⟨_, .mk _ _ ho (.mk O1 o1 v1 k1 n1 s1 a1 a2 a3 a5 a4) (.mk O2 o2 v2 k2 n2 s2 b1 b2 b3 b5 b4), ?_⟩
      refine List.Perm.cons _ (List.Perm.cons _ ?_)
      exact (List.perm_append_comm_assoc s1 [(D2, o2), (O2, listOf v2.toArray n2)] s2).symm
theorem gone_nil {st : Int → St} {now : Int} : goneS st [] now = st := by
  funext q; simp [goneS]
theorem gone_snoc {st : Int → St} {now p : Int} {l : List Int} (h : p ∉ l) : goneS st (l ++ [p]) now = updS (goneS st l now) p (letgo (goneS st l now p) now) := by
  funext q
  unfold goneS updS
  by_cases hq : q = p
  · subst hq; simp [h]
  · simp [hq]
theorem gone_at {st : Int → St} {now p : Int} {l : List Int} (h : p ∉ l) : goneS st l now p = st p := if_neg h
end Mine

namespace Mine
section
variable {w : World} {A₀ : Around} {base : Heap} {outer : List Env} {h₀ : Heap} {mean : ExcName → Option Value} {mg mb : Str → Option Value} {cs : Scope} {dp un : Nat} {gd : Option (List Code)} {cn : Str} {L a : Addr} {ccd : Value} {cl : List (Str × Addr)} {s : Shared} {m : Str → Option Value} {rest : List (Addr × Obj)} {Q E : Value → Shared → Prop}
  (B : Below A₀ base outer h₀) (F : Fr h₀ L s.heap m) (X : (hd.heap_1 w.params).In h₀) (T : Top qv Lo mean mg mb h₀) (k : cs.kind = .function) (d : dp + 12 < recursionLimit) (u : un + 230 < cLine)
include B F X T k d u
theorem letgo_x {G GD GR W WD WK : Addr} {rc qt p now : Int} {t1 t2 t3 t4 t5 t6 t7 t8 t9 tp tn : Tok} {oR oK : Obj} {es : List (Int × Value)} {a0 : St} {vh vu : Value} {cur : List (Addr × Obj)}
  (N : News h₀ L s.heap cur) (P1 : cur.Perm ((G, instObj 154 GD) :: (GD, gdObj w rc qt GR t1 t2 t3 t4 t5) :: (GR, oR) :: (W, instObj 77 WD) :: (WD, wdObj w WK vh vu a0.heard t6 t7 t8 t9) :: (WK, oK) :: rest)) (nd : Nd cur)
  (hR : oR.IsDictOf (intKind Pg w) es) (hv : valueAt es p = some (.ref W)) (hk : oK.IsDictOf (strKind Pg w) (kindsOf a0.kr a0.kb a0.kf a0.kl)) (hh : HG a0.held vh) (hu : UV a0.til vu) (lo : (GR == sysModules) = false)
  (ret : ∀ h' tk' oR' WD' WK' oK' vh' vu' t6' t7' t8' t9', oK'.IsDictOf (strKind Pg w) (kindsOf (letgo a0 now).kr (letgo a0 now).kb (letgo a0 now).kf (letgo a0 now).kl) → HG (letgo a0 now).held vh' → UV (letgo a0 now).til vu' → oR'.IsDictOf (intKind Pg w) es → Fr h₀ L h' m →
    News h₀ L h' ((W, instObj 77 WD') :: (WD', wdObj w WK' vh' vu' (letgo a0 now).heard t6' t7' t8' t9') :: (WK', oK') :: (G, instObj 154 GD) :: (GD, gdObj w rc qt GR t1 t2 t3 t4 t5) :: (GR, oR') :: rest) →
    Nd ((W, instObj 77 WD') :: (WD', wdObj w WK' vh' vu' (letgo a0 now).heard t6' t7' t8' t9') :: (WK', oK') :: (G, instObj 154 GD) :: (GD, gdObj w rc qt GR t1 t2 t3 t4 t5) :: (GR, oR') :: rest) → Q .none { s with heap := h', toks := tk' }) :
  wpAny (model Pg w) (ktrTop dp un gd cn cs L a ccd cl outer) (call (.ref 130) [.ref G, .int p tp, .int now tn]) Q E s := by
  refine letgo_c B F X T k (by omega) (by omega) N P1 nd hR (.there W _ hv (Seg.mk (a := a0) WD WK oK vh vu t6 t7 t8 t9 hk hh hu)) (pk_seg (seg := [(W, instObj 77 WD), (WD, wdObj w WK vh vu a0.heard t6 t7 t8 t9), (WK, oK)]) (List.Perm.refl _)) lo ?_
  intro h' tk' W' oR' es' seg' a1 hA hE hS hP hR' F' N' nd'
  obtain ⟨rfl, rfl⟩ := hE.same hv
  subst hA
  cases hS with
  | mk WD' WK' oK' vh' vu' t6' t7' t8' t9' hk' hh' hu' =>
    have P : ((G, instObj 154 GD) :: (GD, gdObj w rc qt GR t1 t2 t3 t4 t5) :: (GR, oR') :: (rest ++ [(W', instObj 77 WD'), (WD', wdObj w WK' vh' vu' (letgo a0 now).heard t6' t7' t8' t9'), (WK', oK')])).Perm ((W', instObj 77 WD') :: (WD', wdObj w WK' vh' vu' (letgo a0 now).heard t6' t7' t8' t9') :: (WK', oK') :: (G, instObj 154 GD) :: (GD, gdObj w rc qt GR t1 t2 t3 t4 t5) :: (GR, oR') :: rest) := List.perm_append_comm (l₁ := (G, instObj 154 GD) :: (GD, gdObj w rc qt GR t1 t2 t3 t4 t5) :: (GR, oR') :: rest) (l₂ := [(W', instObj 77 WD'), (WD', wdObj w WK' vh' vu' (letgo a0 now).heard t6' t7' t8' t9'), (WK', oK')])
    exact ret _ _ _ _ _ _ _ _ _ _ _ _ hk' hh' hu' hR' F' (news_perm N' P) (nd_perm nd' P)
end
end Mine

namespace Mine
open PySem.Spec PySem.Calls
section
variable {prog : Program} {w : World} {A : Around} {E : Value → Shared → Prop} {s : Shared} {env : Env} {h₀ : Heap} {x : Str} {body : List Stmt} {Q : Flow → Shared → Prop}
theorem exp_go {I : Addr} {lp : Addr × Obj} {y : Str} {m₀ : Str → Option Value} {news₀ : List (Addr × Obj)} {vs : List Value} (J : Addr → List Value → List (Addr × Obj) → Prop)
    (step : ∀ v r news u2, J I (v :: r) news → ∀ it h tk, it.cls = .type "list_iterator" → Fr h₀ env.locals h (fun z => if z = x then some v else if z = y then u2 else m₀ z) → News h₀ env.locals h ((I, it) :: news) →
      wpAny (model prog w) A (execs body env) (UnrPost h₀ env.locals { s with heap := h, toks := tk } I it (fun m' n' => lp ∈ n' ∧ (∀ z, z ≠ x → z ≠ y → m' z = m₀ z) ∧ J I r n') Q) E { s with heap := h, toks := tk })
    (done : ∀ news u1 u2, J I [] news → ∀ h tk, Fr h₀ env.locals h (fun z => if z = x then u1 else if z = y then u2 else m₀ z) → News h₀ env.locals h news → Q .next { s with heap := h, toks := tk })
    (init : J I vs news₀) : ListRest prog w A E h₀ env x body Q s I lp vs m₀ news₀ := lrest_loc (J I) step done init
end
/-- where expire's loop stands -/
def ExpJ (w : World) (rc qt : Int) (G GD GR : Addr) (t1 t2 t3 t4 t5 : Tok) (rest : List (Addr × Obj)) (es : List (Int × Value)) (st : Int → St) (now : Int) (ns : List Int) (B : Addr) (vs : List Value) (c : Nat) (FL I : Addr) (r : List Value) (news : List (Addr × Obj)) : Prop :=
  ∃ dn rs fvs nf oR lg, IntsAre r rs ∧ ns = dn ++ rs ∧ IntsAre fvs (dn.filter fun p => expd (st p) now) ∧ oR.IsDictOf (intKind Pg w) es ∧ GTwo w es (goneS st dn now) lg ∧
    news = (B, listOf vs.toArray c) :: (FL, listOf (List.toArray fvs) nf) :: (G, instObj 154 GD) :: (GD, gdObj w rc qt GR t1 t2 t3 t4 t5) :: (GR, oR) :: (rest ++ lg) ∧ I ∉ news.map (·.1) ∧ Nd news
section
variable {w : World} {rc qt now : Int} {G GD GR B FL I L : Addr} {t1 t2 t3 t4 t5 : Tok} {rest news : List (Addr × Obj)} {es : List (Int × Value)} {st : Int → St} {ns : List Int} {vs r : List Value} {c : Nat} {g h : Heap}
theorem exp_init {oR : Obj} {lg : List (Addr × Obj)} (hI : IntsAre vs ns) (hR : oR.IsDictOf (intKind Pg w) es) (hT : GTwo w es st lg)
    (lI : ∀ p ∈ (B, listOf vs.toArray c) :: (FL, listOf #[] 0) :: (G, instObj 154 GD) :: (GD, gdObj w rc qt GR t1 t2 t3 t4 t5) :: (GR, oR) :: (rest ++ lg), @LT.lt Nat _ p.1 I)
    (nd : Nd ((B, listOf vs.toArray c) :: (FL, listOf #[] 0) :: (G, instObj 154 GD) :: (GD, gdObj w rc qt GR t1 t2 t3 t4 t5) :: (GR, oR) :: (rest ++ lg))) :
    ExpJ w rc qt G GD GR t1 t2 t3 t4 t5 rest es st now ns B vs c FL I vs ((B, listOf vs.toArray c) :: (FL, listOf #[] 0) :: (G, instObj 154 GD) :: (GD, gdObj w rc qt GR t1 t2 t3 t4 t5) :: (GR, oR) :: (rest ++ lg)) := by
  refine ⟨[], ns, [], 0, oR, lg, hI, rfl, .nil, hR, by rw [gone_nil]; exact hT, rfl, ?_, nd⟩
  intro hm
  obtain ⟨p, hp, e⟩ := List.mem_map.mp hm
  exact absurd (lI p hp) (e ▸ Nat.lt_irrefl _)
theorem exp_open {v : Value} {it : Obj} (hJ : ExpJ w rc qt G GD GR t1 t2 t3 t4 t5 rest es st now ns B vs c FL I (v :: r) news) (N : News g L h ((I, it) :: news)) (hp : ns.Perm (es.map (·.1))) (ho : EsOk es) :
    ∃ p t dn rs fvs nf oR lo W WD WK oK vh vu t6 t7 t8 t9, v = .int p t ∧ IntsAre r rs ∧ ns = dn ++ p :: rs ∧ IntsAre fvs (dn.filter fun p => expd (st p) now) ∧ oR.IsDictOf (intKind Pg w) es ∧ valueAt es p = some (.ref W) ∧ oK.IsDictOf (strKind Pg w) (kindsOf (st p).kr (st p).kb (st p).kf (st p).kl) ∧
      HG (st p).held vh ∧ UV (st p).til vu ∧ GClose w es (goneS st dn now) p lo ∧ p ∉ dn ∧
      News g L h ((I, it) :: (W, instObj 77 WD) :: (WD, wdObj w WK vh vu (st p).heard t6 t7 t8 t9) :: (WK, oK) :: (B, listOf vs.toArray c) :: (FL, listOf (List.toArray fvs) nf) :: (G, instObj 154 GD) :: (GD, gdObj w rc qt GR t1 t2 t3 t4 t5) :: (GR, oR) :: (rest ++ lo)) ∧
      Nd ((I, it) :: (W, instObj 77 WD) :: (WD, wdObj w WK vh vu (st p).heard t6 t7 t8 t9) :: (WK, oK) :: (B, listOf vs.toArray c) :: (FL, listOf (List.toArray fvs) nf) :: (G, instObj 154 GD) :: (GD, gdObj w rc qt GR t1 t2 t3 t4 t5) :: (GR, oR) :: (rest ++ lo)) := by
  obtain ⟨dn, rs, fvs, nf, oR, lg, h1, h2, h3, h4, h5, rfl, h6, h7⟩ := hJ
  cases h1 with
  | cons p t h1 =>
    rename_i rs
    have hmem : p ∈ es.map (·.1) := hp.mem_iff.mp (by rw [h2]; exact List.mem_append_right _ List.mem_cons_self)
    have hnd : ns.Nodup := hp.nodup_iff.mpr ho.nodup
    have hdn : p ∉ dn := by
      rw [h2] at hnd
      intro hm
      exact (List.nodup_append.mp hnd).2.2 p hm p List.mem_cons_self rfl
    obtain ⟨seg, lo, hs, hc, hP⟩ := h5.pick (ho.keys p hmem)
    obtain ⟨v', hv'⟩ := val_of_mem hmem
    obtain ⟨W, hv, hS⟩ := hs.seg hv'
    rw [gone_at hdn] at hS
    cases hS with
    | mk WD WK oK vh vu t6 t7 t8 t9 hk hh hu =>
      have P : ((I, it) :: (B, listOf vs.toArray c) :: (FL, listOf (List.toArray fvs) nf) :: (G, instObj 154 GD) :: (GD, gdObj w rc qt GR t1 t2 t3 t4 t5) :: (GR, oR) :: (rest ++ lg)).Perm ((I, it) :: (W, instObj 77 WD) :: (WD, wdObj w WK vh vu (st p).heard t6 t7 t8 t9) :: (WK, oK) :: (B, listOf vs.toArray c) :: (FL, listOf (List.toArray fvs) nf) :: (G, instObj 154 GD) :: (GD, gdObj w rc qt GR t1 t2 t3 t4 t5) :: (GR, oR) :: (rest ++ lo)) := by
        refine List.Perm.cons _ ?_
        have e : ((B, listOf vs.toArray c) :: (FL, listOf (List.toArray fvs) nf) :: (G, instObj 154 GD) :: (GD, gdObj w rc qt GR t1 t2 t3 t4 t5) :: (GR, oR) :: (rest ++ lg)) = ((B, listOf vs.toArray c) :: (FL, listOf (List.toArray fvs) nf) :: (G, instObj 154 GD) :: (GD, gdObj w rc qt GR t1 t2 t3 t4 t5) :: (GR, oR) :: rest) ++ lg := rfl
        rw [e]
        refine (hP.append_left _).trans ?_
        rw [← List.append_assoc]
        exact List.perm_append_comm
      refine ⟨p, t, dn, rs, fvs, nf, oR, lo, W, WD, WK, oK, vh, vu, t6, t7, t8, t9, rfl, h1, h2, h3, h4, hv, hk, hh, hu, hc, hdn, news_perm N P, nd_perm ?_ P⟩
      exact List.nodup_cons.mpr ⟨h6, h7⟩
theorem exp_close {it : Obj} {p : Int} {dn rs : List Int} {fvs : List Value} {nf : Nat} {oR oK : Obj} {lo cur : List (Addr × Obj)} {W WD WK : Addr} {vh vu : Value} {t6 t7 t8 t9 : Tok} {s' : Shared} {tk : Nat} {m' m₀ : Str → Option Value} {x y : Str}
    (hr : IntsAre r rs) (hn : ns = dn ++ p :: rs) (hR : oR.IsDictOf (intKind Pg w) es) (hv : valueAt es p = some (.ref W)) (hk : oK.IsDictOf (strKind Pg w) (kindsOf (letgo (st p) now).kr (letgo (st p) now).kb (letgo (st p) now).kf (letgo (st p) now).kl))
    (hh : HG (letgo (st p) now).held vh) (hu : UV (letgo (st p) now).til vu) (hc : GClose w es (goneS st dn now) p lo) (hdn : p ∉ dn) (hf : IntsAre fvs ((dn ++ [p]).filter fun p => expd (st p) now)) (F : Fr g L h m') (N : News g L h cur) (nd : Nd cur)
    (P : cur.Perm ((I, it) :: (B, listOf vs.toArray c) :: (FL, listOf (List.toArray fvs) nf) :: (G, instObj 154 GD) :: (GD, gdObj w rc qt GR t1 t2 t3 t4 t5) :: (GR, oR) :: (W, instObj 77 WD) :: (WD, wdObj w WK vh vu (letgo (st p) now).heard t6 t7 t8 t9) :: (WK, oK) :: (rest ++ lo)))
    (hm : ∀ z, z ≠ x → z ≠ y → m' z = m₀ z) :
    UnrEnd g L s' I it (fun m' n' => (B, listOf vs.toArray c) ∈ n' ∧ (∀ z, z ≠ x → z ≠ y → m' z = m₀ z) ∧ ExpJ w rc qt G GD GR t1 t2 t3 t4 t5 rest es st now ns B vs c FL I r n') { s' with heap := h, toks := tk } := by
  have hs : PSeg w es p (letgo (goneS st dn now p) now) [(W, instObj 77 WD), (WD, wdObj w WK vh vu (letgo (st p) now).heard t6 t7 t8 t9), (WK, oK)] := by
    rw [gone_at hdn]
    exact .there W _ hv (.mk WD WK oK vh vu t6 t7 t8 t9 hk hh hu)
  obtain ⟨lg', hT, hP⟩ := hc _ _ hs
  rw [← gone_snoc hdn] at hT
  have P2 : cur.Perm ((I, it) :: (B, listOf vs.toArray c) :: (FL, listOf (List.toArray fvs) nf) :: (G, instObj 154 GD) :: (GD, gdObj w rc qt GR t1 t2 t3 t4 t5) :: (GR, oR) :: (rest ++ lg')) := by
    refine P.trans (List.Perm.cons _ (List.Perm.cons _ (List.Perm.cons _ (List.Perm.cons _ (List.Perm.cons _ (List.Perm.cons _ ?_))))))
    refine (List.perm_append_comm (l₁ := [(W, instObj 77 WD), (WD, wdObj w WK vh vu (letgo (st p) now).heard t6 t7 t8 t9), (WK, oK)]) (l₂ := rest ++ lo)).trans ?_
    rw [List.append_assoc]
    exact hP.append_left _
  have nd2 := nd_perm nd P2
  have hI := (List.nodup_cons.mp nd2).1
  refine ⟨h, tk, m', _, rfl, F, news_perm N P2, nd_off hI, List.mem_cons_self, hm, dn ++ [p], rs, fvs, nf, oR, lg', hr, by rw [hn]; simp, hf, hR, hT, rfl, hI, nd_drop nd2⟩
end
theorem filt_yes {st : Int → St} {now p : Int} {dn : List Int} {fvs : List Value} {t : Tok} (hf : IntsAre fvs (dn.filter fun p => expd (st p) now)) (h : expd (st p) now = true) : IntsAre (fvs ++ [.int p t]) ((dn ++ [p]).filter fun p => expd (st p) now) := by
  rw [List.filter_append, List.filter_cons, h]
  exact IntsAre.append hf (.cons _ _ .nil)
theorem filt_no {st : Int → St} {now p : Int} {dn : List Int} {fvs : List Value} (hf : IntsAre fvs (dn.filter fun p => expd (st p) now)) (h : expd (st p) now = false) : IntsAre fvs ((dn ++ [p]).filter fun p => expd (st p) now) := by
  rw [List.filter_append, List.filter_cons, h]
  simpa using hf
end Mine
namespace Mine
open PySem.Spec PySem.Calls
section
variable {w : World} {rc qt now : Int} {G GD GR B FL I L : Addr} {t1 t2 t3 t4 t5 : Tok} {rest news : List (Addr × Obj)} {es : List (Int × Value)} {st : Int → St} {ns : List Int} {vs r : List Value} {c : Nat} {g h : Heap}
theorem exp_end (hJ : ExpJ w rc qt G GD GR t1 t2 t3 t4 t5 rest es st now ns B vs c FL I [] news) (N : News g L h news) :
    ∃ fvs nf oR lg, oR.IsDictOf (intKind Pg w) es ∧ GTwo w es (goneS st ns now) lg ∧ IntsAre fvs (ns.filter fun p => expd (st p) now) ∧
      News g L h ((FL, listOf (List.toArray fvs) nf) :: (G, instObj 154 GD) :: (GD, gdObj w rc qt GR t1 t2 t3 t4 t5) :: (GR, oR) :: (rest ++ lg)) ∧ Nd ((FL, listOf (List.toArray fvs) nf) :: (G, instObj 154 GD) :: (GD, gdObj w rc qt GR t1 t2 t3 t4 t5) :: (GR, oR) :: (rest ++ lg)) := by
  obtain ⟨dn, rs, fvs, nf, oR, lg, h1, h2, h3, h4, h5, rfl, h6, h7⟩ := hJ
  cases h1
  rw [List.append_nil] at h2
  subst h2
  exact ⟨fvs, nf, oR, lg, h4, h5, h3, fun p hp => N p (List.mem_cons_of_mem _ hp), nd_drop h7⟩
theorem exp_len {dn rs : List Int} {p : Int} {fvs : List Value} (hf : IntsAre fvs (dn.filter fun p => expd (st p) now)) (hn : ns = dn ++ p :: rs) (hp : ns.Perm (es.map (·.1))) (ho : EsOk es) : fvs.toArray.size ≤ sizeLine := by
  have h1 := hf.length
  have h2 := List.length_filter_le (fun p => expd (st p) now) dn
  have h3 := hp.length_eq
  rw [hn, List.length_append, List.length_map] at h3
  have h4 := ho.len
  rw [List.size_toArray, sizeLine_eq]
  omega
end
section
variable {prog : Program} {w : World} {A : Around} {E : Value → Shared → Prop} {s : Shared} {h₀ : Heap} {L D : Addr} {m : Str → Option Value} {news news' : List (Addr × Obj)} {n : Nat}
theorem app_exp {fvs : List Value} {x : Value} {Q : Value → Shared → Prop} (F : Fr h₀ L s.heap m) (N : News h₀ L s.heap news) (U : Upd D (listOf (List.toArray fvs) n) (listOf (List.toArray (fvs ++ [x])) (n + 1)) news news')
    (hz : fvs.toArray.size ≤ sizeLine) (h : ∀ h', Fr h₀ L h' m → News h₀ L h' news' → Q .none { s with heap := h' }) : wpAny (model prog w) A (call (.builtin "list.append") [.ref D, x]) Q E s := by
  refine append_K (its := fvs.toArray) (n := n) F N ?_ h hz
  have e : fvs.toArray.push x = (fvs ++ [x]).toArray := by simp
  rw [e]
  exact U
end
theorem expd_yes {a : St} {now : Int} (h1 : a.held ≠ .no) (h2 : (letgo a now).held = .no) : expd a now = true := by simp [expd, h1, h2]
theorem expd_no1 {a : St} {now : Int} (h1 : ¬ a.held ≠ .no) : expd a now = false := by simp [expd, Decidable.not_not.mp h1]
theorem expd_no2 {a : St} {now : Int} (h2 : ¬ (letgo a now).held = .no) : expd a now = false := by simp [expd, h2]
end Mine

theorem Mine.rules_j16 : True := by
  w_top off
  k_with_none
  k_with "k_ne" => (first | exact Mine.nq (by with_reducible assumption) | exact Mine.nqs (by with_reducible assumption))
  k_with "call builtin:list.pop" => ((k_here; (with_reducible show wpAny _ _ (call (Value.builtin _) [Value.ref _, Value.int _ _]) _ _ _); k_dflt (refine' Mine.pop0 ?z484F ?z484N ?z484U ?z484z ?_; (case z484F => k_asm); (case z484N => k_asm); (case z484U => k_upd); (case z484z => first | assumption | omega)); intro h' F' N'; (try dsimp only [List.nil_append, List.cons_append] at N')))
  k_with "tb_start" => (first | assumption | (refine List.Mem.tail _ ?_; tb_start))
  k_with "ktr_rel" => (first
      | with_reducible assumption
      | (refine' Mine.ncons ?z486N ?z486m ?z486r; (case z486N => k_asm); (case z486m => k_mem); (case z486r => ktr_rel))
      | (refine' Mine.nrest ?z486N ?z486m; (case z486N => k_asm); (case z486m => (intro p hp; tb_start))))
  k_with "ktr_room" => (first | exact Mine.rm1 (by assumption) rfl | exact Mine.rm0 (by assumption) | exact Mine.rmS (Mine.rm1 (by assumption) rfl) | exact Mine.rmS (Mine.rmS (Mine.rm1 (by assumption) rfl)) | exact Mine.rmN rfl | ((try simp only [depth_under_make, depth_under_kw, depth_in1, depth_deeper, depth_caller]); (try dsimp only [ktrTop]); omega))
  k_with "k_room" => (ktr_room)
  k_with "units_room" => (first | exact Mine.rm1 (by assumption) rfl | exact Mine.rm0 (by assumption) | exact Mine.rmS (Mine.rm1 (by assumption) rfl) | exact Mine.rmS (Mine.rmS (Mine.rm1 (by assumption) rfl)) | exact Mine.rmS (Mine.rmS (Mine.rmS (Mine.rm1 (by assumption) rfl))) | exact Mine.rmN rfl | ((try simp only [units_under_make, units_in1, units_deeper, Around.mark_units, units_caller]); (try dsimp only [ktrTop]); omega))
  k_with "k_units" => (units_room)
  k_with "k_enter" => (ktr_enter)
  k_with "k_all" => (first | exact Mine.ne_sub (by assumption) (by intro p hp; tb_start) | exact Mine.ne_sub2 (by assumption) (by intro p hp; tb_start))
  k_with "eval DictComp" => ((k_here; k_dflt (refine Mine.DictComp_T (PySem.strKind _ _) (by k_asm) (by rfl) (by rfl) (by decide) (by rfl) (by decide) (by rfl) ?_ (fun _ => by with_unfolding_all rfl))))
  k_with "Exists" => ((k_here; k_dflt (refine ⟨_, _, _, rfl, by k_asm, by k_asm, Mine.tup_of_K (by k_asm) (by k_is), fun g₂ => ?_⟩)))
  k_with "DRest" => ((with_unfolding_all first
      | (refine Mine.DRest.succ (by rw [sizeLine_eq]; exact Nat.le_of_ble_eq_true rfl) ?_; intro v' I' oI' C' oC' D' oD' m' h' tk' E' hv' hC' hx' hoD' F' N' off' ne'; lcg_open hv'; (try simp only [LCg.Off3, and_true] at off'))
      | refine Mine.DRest.zero ?_))
  k_with "DEnd" => ((refine Mine.DEnd.intro (by assumption) (by assumption) _ (strKind_is _ _ _ _) (fun _ h => h) (by assumption) True.intro ?_))
  k_with "DFinE" => ((intro D' oD' h' tk' hoD' F' N' o1'; (have o2' := Mine.off1_mem o1'); (try simp only [LCg.Off1, and_true] at o1'); (try dsimp only)))
  k_with "kd_mem" => (first | exact Mine.Pos.head | exact Mine.PosF.head | (refine' Mine.Pos.tail ?z498p; (case z498p => kd_mem)) | (refine' Mine.PosF.tail ?z498p; (case z498p => kd_mem)))
  k_with "k_upd" => ((refine' Mine.upd_nd ?z499nd ?z499e ?z499p; (case z499nd => assumption); (case z499e => rfl); (case z499p => kd_mem)))
  k_with "k_updF" => (first | (refine' Mine.updF_nd ?z500nd ?z500e ?z500p; (case z500nd => assumption); (case z500e => rfl); (case z500p => kd_mem)) | (refine' UpdF.head ?z500a; (case z500a => k_all)) | (refine' UpdF.tail ?z500a ?z500b; (case z500a => k_ne); (case z500b => k_updF)))
  k_with "kd_p1" => (first | exact Mine.pk_head | (refine' Mine.pk_tail ?z501h; (case z501h => kd_p1)))
  k_with "kst_p" => (first | exact Mine.sg_here | exact Mine.sg_end | (refine' Mine.sg_tail ?z502h; (case z502h => kst_p)) | (refine' Mine.sg_app ?z502h; (case z502h => kst_p)))
  k_with "kd_p" => (first | exact List.Perm.refl _ | (refine' Mine.pk_cons ?z503h ?z503g; (case z503h => kd_p1); (case z503g => kd_p)) | (refine' Mine.pk_seg ?z503h; (case z503h => kst_p)))
  k_with "tb_rel" => (first | assumption | exact Mine.nd3 (by assumption) | exact Mine.nd3 (Mine.nd3 (by assumption)) | (refine' Mine.nd_of ?z504nd ?z504e; (case z504nd => assumption); (case z504e => rfl)) | (refine' Mine.nd_new ?z504h ?z504e ?z504n; (case z504h => assumption); (case z504e => rfl); (case z504n => tb_rel)) | (refine' Mine.nd_new2 ?z504h ?z504g ?z504e ?z504n; (case z504h => assumption); (case z504g => assumption); (case z504e => rfl); (case z504n => tb_rel)) | (refine' Mine.nd_new1 ?z504h ?z504e ?z504n; (case z504h => assumption); (case z504e => rfl); (case z504n => tb_rel)))
  k_with "subscriptTail" => ((k_here; k_dflt (first
      | ((with_reducible show wpAny _ _ (subscriptTail _ _ (Value.ref _) (Value.str _ _)) _ _ _); refine kda_item (knd := PySem.strKind _ _) (by k_asm) (by k_mem) (by k_asm) (strKind_is _ _ _ _) (by first | assumption | rfl) ?_)
      | ((with_reducible show wpAny _ _ (subscriptTail _ _ (Value.ref _) (Value.int _ _)) _ _ _); refine kda_item (knd := PySem.intKind _ _) (by k_asm) (by k_mem) (by k_asm) (intKind_is _ _ _ _) (by first | assumption | rfl | exact Mine.val_new (by assumption)) ?_))))
  k_with "setItem ref str" => ((k_here; k_dflt (refine' kda_set (knd := PySem.strKind _ _) ?z506F ?z506N ?z506U ?z506d (strKind_is _ _ _ _) ?z506z ?_; (case z506F => k_asm); (case z506N => k_asm); (case z506U => k_updF); (case z506d => k_asm); (case z506z => first | kob_size | assumption)); intro h' o' F' N' hd'; (try kob_lit); (try dsimp only at N')))
  k_with "setItem ref int" => ((k_here; k_dflt (refine' kda_set (knd := PySem.intKind _ _) ?z507F ?z507N ?z507U ?z507d (intKind_is _ _ _ _) ?z507z ?_; (case z507F => k_asm); (case z507N => k_asm); (case z507U => k_updF); (case z507d => k_asm); (case z507z => first | kob_size | assumption)); intro h' o' F' N' hd'; (try kob_lit); (try dsimp only at N')))
  k_with "compareOp NotIn int ref" => ((k_here; k_dflt (first
      | refine kdg_notin (knd := PySem.intKind _ _) (by k_asm) (by k_mem) (by k_asm) (by k_asm) (intKind_is _ _ _ _) true (by first | assumption | rfl | exact Mine.iss (by assumption) | exact Mine.isn (by assumption)) ?_
      | refine kdg_notin (knd := PySem.intKind _ _) (by k_asm) (by k_mem) (by k_asm) (by k_asm) (intKind_is _ _ _ _) false (by first | assumption | rfl | exact Mine.iss (by assumption) | exact Mine.isn (by assumption)) ?_); (try dsimp only [Bool.not_true, Bool.not_false])))
  k_with "getItem ref int" => ((k_here; k_dflt (refine Mine.get_dict (knd := PySem.intKind _ _) (by k_asm) (by k_mem) (by k_asm) (intKind_is _ _ _ _) (by first | assumption | rfl | exact Mine.val_new (by assumption)) ?_)))
  k_with "getItem ref str" => ((k_here; k_dflt (refine Mine.get_dict (knd := PySem.strKind _ _) (by k_asm) (by k_mem) (by k_asm) (strKind_is _ _ _ _) (by first | assumption | rfl) ?_)))
  k_with "execs cons" => (((with_reducible refine Mine.st_norm s rfl rfl rfl ?_); intro tk'))
  k_with "call ref" => ((k_here; (with_reducible show wpAny _ _ (call (Value.ref 130) _) _ _ _); k_dflt (refine' Mine.letgo_x ?z512B ?z512F ?z512X ?z512T ?z512k ?z512d ?z512u ?z512N ?z512P1 ?z512nd ?z512hR ?z512hv ?z512hk ?z512hh ?z512hu ?z512lo ?_; (case z512B => k_asm); (case z512F => k_asm); (case z512X => k_asm); (case z512T => k_asm); (case z512k => first | exact rfl | assumption); (case z512d => ktr_room); (case z512u => units_room); (case z512N => k_asm); (case z512hv => assumption); (case z512P1 => kd_p); (case z512nd => tb_rel); (case z512hR => assumption); (case z512hk => assumption); (case z512hh => assumption); (case z512hu => assumption); (case z512lo => assumption)); intro h' tk' oR' WD' WK' oK' vh' vu' t6' t7' t8' t9' hK' hH' hU' hR' F' N' nd'; (try dsimp only)))
  k_with "call builtin:sorted" => ((k_here; (with_reducible show wpAny _ _ (call (Value.builtin "sorted") [Value.ref _]) _ _ _); k_dflt (refine' Mine.sorted_es ?z513hh ?z513F ?z513N ?z513hm ?z513hR ?z513lo ?z513ho ?_; (case z513hh => exact rfl); (case z513F => k_asm); (case z513N => k_asm); (case z513hm => news_mem); (case z513hR => assumption); (case z513lo => assumption); (case z513ho => assumption)); intro B' h' tk' vs' ns' c' F' N' l1 hI' hP' hO'; (try k_lt l1)))
  k_with "pyIter ref" => ((k_here; (with_reducible show wpAny _ _ (pyIter (Value.ref _)) (fun it s₂ => LoopAtV _ _ _ _ _ _ _ _ _ it s₂) _ _); k_dflt (refine' iter_listUnr ?z514hh ?z514F ?z514N ?z514hm ?z514hc ?z514hd ?_; (case z514hh => exact rfl); (case z514F => k_asm); (case z514N => k_asm); (case z514hm => exact List.mem_cons_self); (case z514hc => exact rfl); (case z514hd => exact rfl)); intro I' lI'))
  k_with "compareOp IsNot" => ((k_here; (with_reducible show wpAny _ _ (compareOp CmpOp.IsNot _ Value.none) _ _ _); k_dflt (refine' Mine.isnot_hg ?z515h ?_; (case z515h => assumption))))
  k_with "compareOp Is" => ((k_here; (with_reducible show wpAny _ _ (compareOp CmpOp.Is _ Value.none) _ _ _); k_dflt (refine' Mine.is_hg ?z516h ?_; (case z516h => assumption))))
  k_with "k_handed" => (first | exact Mine.hg_in (by assumption) | exact Mine.uv_in (by assumption))
  k_with "call builtin:list.append" => ((k_here; (with_reducible show wpAny _ _ (call (Value.builtin _) [Value.ref _, _]) _ _ _); k_dflt (refine' Mine.app_exp ?z518F ?z518N ?z518U ?z518z ?_; (case z518F => k_asm); (case z518N => k_asm); (case z518U => k_upd); (case z518z => exact Mine.exp_len (by assumption) (by assumption) (by assumption) (by assumption))); intro h' F' N'; (try dsimp only [List.nil_append, List.cons_append] at N')))
  trivial

namespace Mine
section
variable {w : World} {A₀ : Around} {base : Heap} {outer : List Env} {h₀ : Heap} {mean : ExcName → Option Value} {mg mb : Str → Option Value} {cs : Scope} {dp un : Nat} {gd : Option (List Code)} {cn : Str} {L a : Addr} {ccd : Value} {cl : List (Str × Addr)} {s : Shared} {m : Str → Option Value} {rest : List (Addr × Obj)} {Q E : Value → Shared → Prop}
  (B : Below A₀ base outer h₀) (F : Fr h₀ L s.heap m) (X : (hd.heap_1 w.params).In h₀) (T : Top qv Lo mean mg mb h₀) (k : cs.kind = .function) (d : dp + 20 < recursionLimit) (u : un + 330 < cLine)
include B F X T k d u
theorem expire_c {G GD GR : Addr} {rc qt now : Int} {t1 t2 t3 t4 t5 tn : Tok} {oR : Obj} {es : List (Int × Value)} {st : Int → St} {lg cur : List (Addr × Obj)}
  (N : News h₀ L s.heap cur) (P1 : cur.Perm ((G, instObj 154 GD) :: (GD, gdObj w rc qt GR t1 t2 t3 t4 t5) :: (GR, oR) :: (rest ++ lg))) (nd : Nd cur)
  (hR : oR.IsDictOf (intKind Pg w) es) (lo : (GR == sysModules) = false) (hT : GTwo w es st lg) (ho : EsOk es)
  (ret : ∀ h' tk' FL fvs ns nf oR' lg', oR'.IsDictOf (intKind Pg w) es → ns.Perm (es.map (·.1)) → ns.Pairwise (· ≤ ·) → GTwo w es (goneS st ns now) lg' → IntsAre fvs (ns.filter fun p => expd (st p) now) → Fr h₀ L h' m →
    News h₀ L h' ((FL, listOf fvs.toArray nf) :: (G, instObj 154 GD) :: (GD, gdObj w rc qt GR t1 t2 t3 t4 t5) :: (GR, oR') :: (rest ++ lg')) →
    Nd ((FL, listOf fvs.toArray nf) :: (G, instObj 154 GD) :: (GD, gdObj w rc qt GR t1 t2 t3 t4 t5) :: (GR, oR') :: (rest ++ lg')) → Q (.ref FL) { s with heap := h', toks := tk' }) :
  wpAny (model Pg w) (ktrTop dp un gd cn cs L a ccd cl outer) (call (.ref 151) [.ref G, .int now tn]) Q E s := by
  replace N := news_perm N P1
  replace nd := nd_perm nd P1
  refine wpAny_call ?_
  k_dflt ktr_enter
  k_steps
  rename IntsAre _ _ => hI
  rename List.Perm _ (List.map _ _) => hP
  rename List.Pairwise _ _ => hO
  refine' Mine.exp_go (y := Str.ofString "was_held") (Mine.ExpJ w rc qt G GD GR t1 t2 t3 t4 t5 rest es st now _ _ _ _ _) ?step ?done ?init
  case init => exact Mine.exp_init hI hR hT (by assumption) (by tb_rel)
  case step =>
    intro v' r' news' u2' hJ' it' h' tk' hc' F' N'
    obtain ⟨p', t', dn', rs', fvs', nf', oR', lo', W', WD', WK', oK', vh', vu', t6', t7', t8', t9', rfl, hr', hn', hf', hR', hv', hK', hH', hU', hC', hdn', N', nd'⟩ := Mine.exp_open hJ' N' hP ho
    (try dsimp only at F')
    k_steps
    all_goals (refine' Mine.exp_close hr' hn' ?hR hv' ?hk ?hh ?hu hC' hdn' ?hf ?F ?N ?nd ?P ?hm; (case hR => assumption); (case hk => assumption); (case hh => assumption); (case hu => assumption); (case F => assumption); (case N => assumption); (case nd => tb_rel); (case P => kd_p); (case hf => first | exact Mine.filt_yes hf' (Mine.expd_yes (by assumption) (by assumption)) | exact Mine.filt_no hf' (Mine.expd_no1 (by assumption)) | exact Mine.filt_no hf' (Mine.expd_no2 (by assumption))); (case hm => exact fun z h1 h2 => (if_neg h2).trans ((if_neg h1).trans (if_neg h2))))
  case done =>
    intro news' u1' u2' hJ' h' tk' F' N'
    k_steps
    (rename News h₀ L _ _ => kN)
    (rename Fr h₀ L _ _ => kF)
    obtain ⟨fvs', nf', oR', lg', hR', hT', hf', N2, nd2⟩ := Mine.exp_end hJ' kN
    exact ret _ _ _ _ _ _ _ _ hR' hP hO hT' hf' kF N2 nd2
end
end Mine

namespace Mine
open PySem.Spec PySem.Calls
theorem due_none {now : Int} : due none now = false := rfl
theorem expd_due {a : St} {now : Int} (h : StOk a) : expd a now = due a.til now := by
  unfold expd Mine.letgo
  cases hd : due a.til now with
  | true =>
    have hh : a.held ≠ .no := by
      intro e
      rw [expd_none h e] at hd
      cases hd
    simp [hh]
  | false =>
    by_cases hh : a.held = .no <;> simp [hh]
end Mine

namespace Mine
open PySem.Spec PySem.Calls
theorem GTwo.ok {w : World} {es : List (Int × Value)} {st : Int → St} {lg : List (Addr × Obj)} (h : GTwo w es st lg) : EsOk es := by
  cases h with
  | mk s1 s2 ho _ _ => exact ho
theorem PSeg.start {w : World} {es : List (Int × Value)} {p : Int} {a : St} {seg : List (Addr × Obj)} (h : PSeg w es p a seg) (hv : valueAt es p = none) : a = St.start := by
  cases h with
  | there W _ h1 _ => rw [hv] at h1; cases h1
  | not _ _ e => exact e
theorem GTwo.start {w : World} {es : List (Int × Value)} {st : Int → St} {lg : List (Addr × Obj)} {p : Int} (h : GTwo w es st lg) (hp : p = 1 ∨ p = 2) (hv : valueAt es p = none) : st p = St.start := by
  cases h with
  | mk s1 s2 ho h1 h2 =>
    rcases hp with rfl | rfl
    · exact h1.start hv
    · exact h2.start hv
theorem val_not {es : List (Int × Value)} {p : Int} (h : p ∉ es.map (·.1)) : valueAt es p = none := by
  induction es with
  | nil => rfl
  | cons e r ih =>
    obtain ⟨k, v⟩ := e
    simp only [List.map_cons, List.mem_cons, not_or] at h
    rw [val_cons, if_neg fun e => h.1 e.symm]
    exact ih h.2
theorem GTwo.congr {w : World} {es : List (Int × Value)} {st st' : Int → St} {lg : List (Addr × Obj)} (h : GTwo w es st lg) (e1 : st 1 = st' 1) (e2 : st 2 = st' 2) : GTwo w es st' lg := by
  cases h with
  | mk s1 s2 ho h1 h2 => exact .mk s1 s2 ho (e1 ▸ h1) (e2 ▸ h2)
theorem LTwo.congr {w : World} {st st' : Int → St} {D1 D2 : Addr} {ll : List (Addr × Obj)} (h : LTwo w st D1 D2 ll) (e1 : st 1 = st' 1) (e2 : st 2 = st' 2) : LTwo w st' D1 D2 ll := by
  cases h with
  | mk O1 O2 o1 o2 v1 v2 k1 k2 n1 n2 a1 a2 a3 a5 b1 b2 b3 b5 => exact .mk O1 O2 o1 o2 v1 v2 k1 k2 n1 n2 (e1 ▸ a1) a2 (e1 ▸ a3) (e1 ▸ a5) (e2 ▸ b1) b2 (e2 ▸ b3) (e2 ▸ b5)
theorem letgo_start {now : Int} : letgo St.start now = St.start := letgo_no rfl
/-- all ports let go -/
def allS (st : Int → St) (now : Int) : Int → St := fun q => letgo (st q) now
theorem GTwo.all {w : World} {es : List (Int × Value)} {st : Int → St} {lg lg' : List (Addr × Obj)} {ns : List Int} {now : Int} (h : GTwo w es st lg) (hp : ns.Perm (es.map (·.1))) (h' : GTwo w es (goneS st ns now) lg') : GTwo w es (allS st now) lg' := by
  have key : ∀ p, p = 1 ∨ p = 2 → goneS st ns now p = allS st now p := by
    intro p hq
    unfold goneS allS
    by_cases hm : p ∈ ns
    · rw [if_pos hm]
    · rw [if_neg hm, h.start hq (val_not fun e => hm (hp.mem_iff.mpr e)), letgo_start]
  exact h'.congr (key 1 (.inl rfl)) (key 2 (.inr rfl))
theorem exp_same {w : World} {es : List (Int × Value)} {st : Int → St} {lg : List (Addr × Obj)} {ns : List Int} {now : Int} (h : GTwo w es st lg) (hp : ns.Perm (es.map (·.1))) (hs : ns.Pairwise (· ≤ ·)) (k1 : StOk (st 1)) (k2 : StOk (st 2)) :
    (ns.filter fun p => expd (st p) now) = ([1, 2] : List Int).filter fun p => due (st p).til now := by
  have e1 : expd (st 1) now = due (st 1).til now := expd_due k1
  have e2 : expd (st 2) now = due (st 2).til now := expd_due k2
  have n1 : (1 : Int) ∉ es.map (·.1) → due (st 1).til now = false := fun hm => by rw [h.start (.inl rfl) (val_not hm)]; rfl
  have n2 : (2 : Int) ∉ es.map (·.1) → due (st 2).til now = false := fun hm => by rw [h.start (.inr rfl) (val_not hm)]; rfl
  cases h.ok with
  | e0 =>
    have : ns = [] := hp.eq_nil
    subst this
    rw [List.filter_cons, List.filter_cons, n1 (by simp), n2 (by simp)]
    rfl
  | e1 p v hq =>
    have : ns = [p] := List.perm_singleton.mp hp
    subst this
    rcases hq with rfl | rfl
    · rw [List.filter_cons, List.filter_cons, List.filter_cons, n2 (by simp), e1]
      rfl
    · rw [List.filter_cons, List.filter_cons, List.filter_cons, n1 (by simp), e2]
      rfl
  | e2 p q v u hq hr hqr =>
    have : ns = [1, 2] := by
      refine lks_uniq (hp.trans ?_) hs (by decide)
      rcases hq with rfl | rfl <;> rcases hr with rfl | rfl
      · exact absurd rfl hqr
      · exact .refl _
      · exact List.Perm.swap _ _ _
      · exact absurd rfl hqr
    subst this
    rw [List.filter_cons, List.filter_cons, List.filter_cons, List.filter_cons, e1, e2]
    rfl
/-- a row of the law taken out of the two, to be let go -/
def LClose (w : World) (st : Int → St) (D1 D2 : Addr) (p now : Int) (D O : Addr) (lo : List (Addr × Obj)) : Prop := ∀ oD', Lr w (letgo (st p) now) O oD' → ∃ ll', LTwo w (updS st p (letgo (st p) now)) D1 D2 ll' ∧ ((D, oD') :: lo).Perm ll'
theorem LTwo.pick {w : World} {st : Int → St} {D1 D2 : Addr} {ll : List (Addr × Obj)} {p : Int} (now : Int) (h : LTwo w st D1 D2 ll) (hp : p = 1 ∨ p = 2) :
    ∃ D O oD lo, valueAt [((1 : Int), Value.ref D1), (2, Value.ref D2)] p = some (.ref D) ∧ Lr w (st p) O oD ∧ LClose w st D1 D2 p now D O lo ∧ ll.Perm ((D, oD) :: lo) := by
  cases h with
  | mk O1 O2 o1 o2 v1 v2 k1 k2 n1 n2 a1 a2 a3 a5 b1 b2 b3 b5 =>
    rcases hp with rfl | rfl
    · refine ⟨D1, O1, o1, [(O1, listOf v1.toArray n1), (D2, o2), (O2, listOf v2.toArray n2)], by rw [val_cons, if_pos rfl], a1, fun oD' hl => ⟨_, .mk O1 O2 oD' o2 v1 v2 k1 k2 n1 n2 ?_ a2 ?_ ?_ ?_ b2 ?_ ?_, .refl _⟩, .refl _⟩
      · exact upd_same.symm ▸ hl
      · exact upd_same.symm ▸ a3.letgo
      · exact upd_same.symm ▸ a5.letgo
      · exact (upd_other (st := st) (a := letgo (st 1) now) (show (2 : Int) ≠ 1 by decide)).symm ▸ b1
      · exact (upd_other (st := st) (a := letgo (st 1) now) (show (2 : Int) ≠ 1 by decide)).symm ▸ b3
      · exact (upd_other (st := st) (a := letgo (st 1) now) (show (2 : Int) ≠ 1 by decide)).symm ▸ b5
    · refine ⟨D2, O2, o2, [(D1, o1), (O1, listOf v1.toArray n1), (O2, listOf v2.toArray n2)], by rw [val_cons, if_neg (by decide), val_cons, if_pos rfl], b1, fun oD' hl => ⟨_, .mk O1 O2 o1 oD' v1 v2 k1 k2 n1 n2 ?_ a2 ?_ ?_ ?_ b2 ?_ ?_, ?_⟩, ?_⟩
      · exact (upd_other (st := st) (a := letgo (st 2) now) (show (1 : Int) ≠ 2 by decide)).symm ▸ a1
      · exact (upd_other (st := st) (a := letgo (st 2) now) (show (1 : Int) ≠ 2 by decide)).symm ▸ a3
      · exact (upd_other (st := st) (a := letgo (st 2) now) (show (1 : Int) ≠ 2 by decide)).symm ▸ a5
      · exact upd_same.symm ▸ hl
      · exact upd_same.symm ▸ b3.letgo
      · exact upd_same.symm ▸ b5.letgo
      · exact (List.perm_middle (l₁ := [(D1, o1), (O1, listOf v1.toArray n1)])).symm
      · exact List.perm_middle (l₁ := [(D1, o1), (O1, listOf v1.toArray n1)])
theorem nd_cell2 {l l' : List (Addr × Obj)} {d : Addr} {o o2 : Obj} (h : ∀ p ∈ l', @LT.lt Nat _ p.1 d) (e : l'.map (·.1) = l.map (·.1)) (nd : Nd l) : Nd ((d + 1 + 1, o) :: (d + 1, o2) :: l) :=
  nd_new2 (fun p hp => Nat.lt_succ_of_lt (h p hp)) (Nat.lt_succ_self (d + 1)) e nd
structure NowIs (now : Int) : Prop where
theorem in12 {y : Int} (h : y ∈ ([1, 2] : List Int)) : y = 1 ∨ y = 2 := by simpa using h
section
variable {w : World} {A : Around} {E : Value → Shared → Prop} {s : Shared} {h₀ : Heap} {L : Addr} {m : Str → Option Value} {Q : Value → Shared → Prop} {rest cur : List (Addr × Obj)}
theorem pick_l0 {value slice : PySem.Expr} {st : Int → St} {D1 D2 RW : Addr} {oRW : Obj} {ll : List (Addr × Obj)} {p now : Int} {u : Tok}
    (_hn : NowIs now) (N : News h₀ L s.heap cur) (P : cur.Perm ((RW, oRW) :: (rest ++ ll))) (hRW : oRW.IsDictOf (intKind Pg w) [((1 : Int), Value.ref D1), (2, Value.ref D2)]) (hT : LTwo w st D1 D2 ll) (hp : p = 1 ∨ p = 2)
    (next : ∀ D O oD lo, Lr w (st p) O oD → News h₀ L s.heap ((RW, oRW) :: (D, oD) :: (rest ++ lo)) → Q (.ref D) { s with toks := s.toks + 1 })
    (hs : subscripted slice false (.ref RW) (.int p u) = operate [.ref RW, .int p u] (getItem (.ref RW) (.int p u)) := by with_unfolding_all rfl) (hg : ∀ r, letTemporaryGo value (.ref RW) r = pure () := by intro _; with_unfolding_all rfl) :
    wpAny (model Pg w) A (subscriptTail value slice (.ref RW) (.int p u)) Q E s := by
  obtain ⟨D, O, oD, lo, hv, h1, hc, hP⟩ := hT.pick now hp
  have P2 : cur.Perm ((RW, oRW) :: (D, oD) :: (rest ++ lo)) := P.trans (List.Perm.cons _ ((hP.append_left rest).trans List.perm_middle))
  exact kda_item (news_perm N P2) List.mem_cons_self hRW (intKind_is _ _ _ _) hv (next D O oD lo h1 (news_perm N P2)) hs hg
/-- the law's row of a port is looked up -/
theorem pick_l {value slice : PySem.Expr} {st : Int → St} {D1 D2 RW : Addr} {oRW : Obj} {ll : List (Addr × Obj)} {p now : Int} {u : Tok}
    (_hn : NowIs now) (N : News h₀ L s.heap cur) (nd : Nd cur) (P : cur.Perm ((RW, oRW) :: (rest ++ ll))) (hRW : oRW.IsDictOf (intKind Pg w) [((1 : Int), Value.ref D1), (2, Value.ref D2)]) (hT : LTwo w st D1 D2 ll) (hp : p = 1 ∨ p = 2)
    (next : ∀ D O oD lo, Lr w (st p) O oD → LClose w st D1 D2 p now D O lo → News h₀ L s.heap ((RW, oRW) :: (D, oD) :: (rest ++ lo)) → Nd ((RW, oRW) :: (D, oD) :: (rest ++ lo)) → Q (.ref D) { s with toks := s.toks + 1 })
    (hs : subscripted slice false (.ref RW) (.int p u) = operate [.ref RW, .int p u] (getItem (.ref RW) (.int p u)) := by with_unfolding_all rfl) (hg : ∀ r, letTemporaryGo value (.ref RW) r = pure () := by intro _; with_unfolding_all rfl) :
    wpAny (model Pg w) A (subscriptTail value slice (.ref RW) (.int p u)) Q E s := by
  obtain ⟨D, O, oD, lo, hv, h1, hc, hP⟩ := hT.pick now hp
  have P2 : cur.Perm ((RW, oRW) :: (D, oD) :: (rest ++ lo)) := P.trans (List.Perm.cons _ ((hP.append_left rest).trans List.perm_middle))
  exact kda_item (news_perm N P2) List.mem_cons_self hRW (intKind_is _ _ _ _) hv (next D O oD lo h1 hc (news_perm N P2) (nd_perm nd P2)) hs hg
end
section
variable {prog : Program} {w : World} {A : Around} {E : Value → Shared → Prop} {s : Shared} {Q : Value → Shared → Prop}
theorem isnot_uv {U : Option Int} {v : Value} (h : UV U v) (q : Q (.bool (decide (U ≠ none))) s) : wpAny (model prog w) A (compareOp .IsNot v .none) Q E s := by
  cases h with
  | none => exact wpAny_isNot_self (by rfl) q
  | some n t => exact wpAny_isNot_other (by rfl) (by intro x; cases x) q
end
section
variable {prog : Program} {w : World} {A : Around} {h₀ : Heap} {L : Addr} {m : Str → Option Value} {env : Env} {ct elt : Expr} {x : Str} {scope : Scope} {cl : List (Str × Addr)} {s : Shared} {S : List (Addr × Obj) → Prop} {Fin : List Value → List (Addr × Obj) → Prop} {news : List (Addr × Obj)}
open PyProof.Rows.LCg
/-- the law's test -/
structure DueIs (f : Int → Bool) : Prop where
def KeptD (f : Int → Bool) (y : Int) (news : List (Addr × Obj)) (v : Value) (news' : List (Addr × Obj)) : Prop := f y = true ∧ (∃ t, v = .int y t) ∧ news' = news
def DropD (f : Int → Bool) (y : Int) (news news' : List (Addr × Obj)) : Prop := f y = false ∧ news' = news
theorem ints_get {vs : List Value} {ns : List Int} (h : IntsAre vs ns) : ∀ (i : Nat) (v : Value), vs[i]? = some v → ∃ (y : Int) (t : Tok), ns[i]? = some y ∧ v = Value.int y t := by
  induction h with
  | nil => intro i v e; simp at e
  | cons y t _ ih =>
    intro i v e
    cases i with
    | zero => exact ⟨y, t, rfl, (Option.some.inj e).symm⟩
    | succ i => exact ih i v (by simpa using e)
theorem rest_due {vs : List Value} {ns : List Int} {f : Int → Bool} (_hd : DueIs f) (hi : IntsAre vs ns)
    (turn : ∀ y t I oI C oC D m₂ ys h tk (E' : Value → Shared → Prop), y ∈ ns → NsObj oC m₂ → m₂ x = some (.int y t) → Fr h₀ L h m → News h₀ L h ((I, oI) :: (C, oC) :: (D, lst ys) :: news) → Off3 I C D news → ((@Ne Nat I C) ∧ (@Ne Nat I D) ∧ (@Ne Nat C D)) →
      wpAny (model prog w) A (isTrue ct (compEnvC scope cl C env) (eval ct (compEnvC scope cl C env))) (fun b s' => if b = true then wpAny (model prog w) A (eval elt (compEnvC scope cl C env)) (CompEnd h₀ L m { s with heap := h, toks := tk } I oI C oC D (lst ys) S (fun v news' => KeptD f y news v news')) E' s'
        else CompEnd h₀ L m { s with heap := h, toks := tk } I oI C oC D (lst ys) S (fun _ news' => DropD f y news news') Value.none s') E' { s with heap := h, toks := tk })
    (fin : ∀ ys, IntsAre ys (ns.filter f) → Fin ys news) : LCt.CompRestT prog w A h₀ L m env ct elt x scope cl s S (fun i v => vs.toArray[i]? = some v) Fin vs.toArray.size 0 [] news := by
  have hlen : vs.toArray.size = ns.length := by rw [List.size_toArray, hi.length]
  have key : ∀ (j i : Nat) (ys : List Value), i + j = ns.length → IntsAre ys ((ns.take i).filter f) → LCt.CompRestT prog w A h₀ L m env ct elt x scope cl s S (fun i v => vs.toArray[i]? = some v) Fin j i ys news := by
    intro j
    induction j with
    | zero =>
      intro i ys hij hy
      have e : i = ns.length := by omega
      subst e
      rw [List.take_length] at hy
      exact LCt.CompRestT.zero (fin ys hy)
    | succ j ih =>
      intro i ys hij hy
      refine LCt.CompRestT.succ ?_
      intro v I oI C oC D m₂ h tk E' hv hC hx F N off ne
      obtain ⟨y, t, hk, rfl⟩ := ints_get hi i v (by simpa using hv)
      refine wpAny_mono (turn y t I oI C oC D m₂ ys h tk E' (List.mem_of_getElem? hk) hC hx F N off ne) (fun b s₂ hq => ?_) fun _ _ e => e
      cases b with
      | true =>
        simp only [if_true] at hq ⊢
        refine wpAny_mono hq (fun v' s₃ hr => ?_) fun _ _ e => e
        obtain ⟨h', tk', nw, e, F', N', off', hS, hne, ⟨t', rfl⟩, rfl⟩ := hr
        refine ⟨h', tk', _, e, F', N', off', hS, ih (i + 1) _ (by omega) ?_⟩
        rw [List.take_add_one, hk]
        simp only [Option.toList_some, List.filter_append]
        refine IntsAre.append hy ?_
        rw [List.filter_cons, hne]
        exact .cons _ _ .nil
      | false =>
        simp only [Bool.false_eq_true, if_false] at hq ⊢
        obtain ⟨h', tk', nw, e, F', N', off', hS, heq, rfl⟩ := hq
        refine ⟨h', tk', _, e, F', N', off', hS, ih (i + 1) _ (by omega) ?_⟩
        rw [List.take_add_one, hk]
        simp only [Option.toList_some, List.filter_append]
        simpa [List.filter_cons, heq] using hy
  rw [hlen]
  exact key ns.length 0 [] (by omega) (by simpa using IntsAre.nil)
end
end Mine

namespace Mine
section
variable {w : World} {A₀ : Around} {base : Heap} {outer : List Env} {h₀ : Heap} {mean : ExcName → Option Value} {mg mb : Str → Option Value} {cs : Scope} {dp un : Nat} {gd : Option (List Code)} {cn : Str} {L a : Addr} {ccd : Value} {cl : List (Str × Addr)} {s : Shared} {m : Str → Option Value} {rest : List (Addr × Obj)} {Q E : Value → Shared → Prop}
  (B : Below A₀ base outer h₀) (F : Fr h₀ L s.heap m) (X : (hd.heap_1 w.params).In h₀) (T : Top qv Lo mean mg mb h₀) (k : cs.kind = .function) (d : dp + 20 < recursionLimit) (u : un + 330 < cLine)
include B F X T k d u
theorem letgoL_x {D O D1 D2 : Addr} {oD : Obj} {st : Int → St} {p now : Int} {tn : Tok} {lo cur : List (Addr × Obj)}
  (N : News h₀ L s.heap cur) (P1 : cur.Perm ((D, oD) :: (rest ++ lo))) (nd : Nd cur) (hD : Lr w (st p) O oD) (hC : LClose w st D1 D2 p now D O lo)
  (ret : ∀ h' tk' ll', LTwo w (updS st p (letgo (st p) now)) D1 D2 ll' → Fr h₀ L h' m → News h₀ L h' (rest ++ ll') → Nd (rest ++ ll') → Q .none { s with heap := h', toks := tk' }) :
  wpAny (model Pg w) (ktrTop dp un gd cn cs L a ccd cl outer) (call (.ref 265) [.ref D, .int now tn]) Q E s := by
  refine letgoL_c (rest := rest ++ lo) B F X T k (by omega) (by omega) N P1 nd hD ?_
  intro h' tk' oD' a1 hA hD' F' N' nd'
  subst hA
  obtain ⟨ll', hT, hP⟩ := hC oD' hD'
  have P : ((D, oD') :: (rest ++ lo)).Perm (rest ++ ll') := List.perm_middle.symm.trans (hP.append_left rest)
  exact ret h' tk' ll' hT F' (news_perm N' P) (nd_perm nd' P)
end
end Mine

namespace Mine
open PySem.Spec PySem.Calls
section
variable {prog : Program} {w : World} {A₀ A : Around} {s : Shared} {base h₀ : Heap} {L : Addr} {m : Str → Option Value} {env : Env} {news : List (Addr × Obj)} {K : Frag} {p : Program} {loose : List Str} {mean : ExcName → Option Value} {mg mb : Str → Option Value}
    {R : Result → Shared → Prop} {name qual : Str} {params : Arguments} {body : List Stmt} {scope : Scope} {dV kV doc pm cdv ct oc : Value} {an od : Option Addr} {osl : Array (Option Value)} {f : Addr} {args : Args} {binds : List (Str × Value)}
/-- a def with cells, called from the outermost frame: the ground stays -/
theorem code_defT0 (B : Below A₀ base [] h₀) (F : Fr h₀ L s.heap m) (X₀ : K.In h₀) (N : News h₀ L s.heap news) (T : Top p loose mean mg mb h₀) (hA : A.frames = some [env]) (hf : env.frame = some L) (hke : env.scope.kind = .function)
    (ho : K.lookup f = some ⟨oc, od, .func (fnOf name qual params body scope dV kV doc pm an cdv ct), osl⟩) (hcd : codeIn K cdv qual = true) (hroom : A.depth < recursionLimit)
    (hbind : BindsTo s (fnOf name qual params body scope dV kV doc pm an cdv ct) args binds) (hkind : (binds.all fun y => scope.names.lookup y.1 == some .local || scope.names.lookup y.1 == some .cell) = true)
    (hnd : ((cellsFrom 0 scope.names []).map (·.1)).Nodup)
    (h : ∀ g L' h₁ tk cells, Fr h₀ L g m → Fr g L' h₁ (bindL (envOfC qual scope L' f cdv).kindOf binds fun _ => none) → News g L' h₁ (cells ++ news) →
      CellsAre (bindC (envOfC qual scope L' f cdv).kindOf binds fun _ => none) (cellsFrom (L' + 1) scope.names []) cells → Below A base [env] g → K.In g → Top p loose mean mg mb g → (∀ p ∈ news, p.1 < L') → KtsDicts ([env].filterMap (·.frame)) g →
      wpAny (model prog w) (A.deeper (envOfC qual scope L' f cdv)) (execs body (envOfC qual scope L' f cdv))
        (fun fl s' => LeaveS0 ([env].filterMap (·.frame)) h₀ L m g R (match fl with | .ret v => v | _ => .none) s')
        (fun e s' => wpAny (model prog w) (A.deeper (envOfC qual scope L' f cdv)) (leaving (envOfC qual scope L' f cdv) e) (fun _ s'' => R (.error e) s'') (fun e' s'' => R (.error e') s'') s')
        { s with heap := h₁, toks := tk })
    (hco : scope.isCoroutine = false) (hgen : scope.isGenerator = false) (hk : scope.kind = .function) : codeAny (model prog w) A (.call (.ref f) args) R s := by
  obtain ⟨FG, BG, st, _⟩ := groundX (R := R) B F N hA hf hke
  obtain ⟨oL, es, ep, hLg, hLd, hLk, hLf⟩ := FG.ns
  have nL₀ : h₀.get? L = none := kts_self F
  have DG : KtsDicts ([env].filterMap (·.frame)) (hideAll s.heap (news.map (·.1))) := fun b hb => by
    rcases memX hf hb with rfl | hb
    · exact ⟨oL, es, ep, hLg, hLd⟩
    · simp at hb
  have X := X₀.keeps F.keep
  refine codeAny_call_function (fd := fnOf name qual params body scope dV kV doc pm an cdv ct) hroom (X _ _ ho) rfl hco hgen rfl (codeRec_of X hcd) (hbind _ _ _ _ ?_)
  refine wpAny_newFunctionEnv_cells hk (kindsX hkind _) fun env' he s' x => ?_
  subst he
  refine ⟨(T.nolimit.keeps F.keep).keeps x.toInCall.keep, codeAny_func ?_⟩
  obtain ⟨h₁, tk, rfl, _⟩ := x.done
  have hk₁ := x.toInCall.keep
  obtain ⟨cells, NC, Y⟩ := Cl.news (h₀ := s.heap) (Nat.le_refl _) fun n c hm => ⟨x.cell n c (lookup_of_mem_nodup (cellsFrom_names scope.names 0 (s.heap.objs.size + 1) [] [] rfl ▸ hnd) hm), x.above n c hm⟩
  refine wpAny_mono (h _ s.heap.objs.size h₁ tk cells FG ⟨x.toInCall.ns, fun b o e => hk₁ b o (of_hideAll _ e), Nat.le_of_eq (hideAll_size _ _)⟩ (fun p hp => ?_) Y BG (X₀.keeps st) (T.keeps st) (fun p hp => Heap.lt_size (N p hp).1) DG) (fun fl s' hl => ?_) fun _ _ y => y
  · rcases List.mem_append.mp hp with hp | hp
    · refine ⟨(NC p hp).1, (NC p hp).2.1, ?_⟩
      cases q : (hideAll s.heap (news.map (·.1))).get? p.1 with
      | none => rfl
      | some o => have := of_hideAll _ q; rw [(NC p hp).2.2] at this; cases this
    · exact ⟨hk₁ _ _ (N p hp).1, Nat.ne_of_lt (Heap.lt_size (N p hp).1), hideAll_none _ (List.mem_map_of_mem hp)⟩
  · obtain ⟨g', L'', m', news', T', F', N', k⟩ := hl
    obtain ⟨sl, hs⟩ := T'.up hLg
    refine k ⟨⟨_, es, ep, F'.keep _ _ hs, hLd, hLk, hLf⟩, fun b o e => F'.keep b o (T'.other b o (st b o e) (fun q => by
      rcases memX hf q with z | z
      · rw [z, nL₀] at e; cases e
      · simp at z)), F.above⟩ fun p hp => ⟨(N' p hp).1, fun q => ?_, ?_⟩
    · have := (N' p hp).2.2; rw [q, hs] at this; cases this
    · cases q : h₀.get? p.1 with
      | none => rfl
      | some o =>
        obtain ⟨sl', hs'⟩ := T'.up (st _ _ q)
        have := (N' p hp).2.2
        rw [hs'] at this
        cases this
end
end Mine

namespace Mine
open PySem.Spec PySem.Calls
theorem le_uv {prog : Program} {w : World} {A : Around} {E : Value → Shared → Prop} {s : Shared} {Q : Value → Shared → Prop} {U : Option Int} {v : Value} {now : Int} {t : Tok} (h : UV U v) (hU : U ≠ none) (q : Q (.bool (due U now)) s) : wpAny (model prog w) A (compareOp .LtE v (.int now t)) Q E s := by
  cases h with
  | none => exact absurd rfl hU
  | some n t => exact le_int q
theorem due_nn {U : Option Int} {now : Int} (h : ¬ U ≠ none) : due U now = false := by rw [Decidable.not_not.mp h]; rfl
/-- the end of a turn of a loop over the two ports, the law's rows -/
def LPost (w : World) (h₀ : Heap) (L I : Addr) (it : Obj) (m₀ : Str → Option Value) (x : Str) (st' : Int → St) (D1 D2 : Addr) (fx : List (Addr × Obj)) (s₁ : Shared) (fl : Flow) (s₂ : Shared) : Prop :=
  fl = .next ∧ ∃ h' tk m' ll', s₂ = { s₁ with heap := h', toks := tk } ∧ Fr h₀ L h' m' ∧ (∀ z, z ≠ x → m' z = m₀ z) ∧ LTwo w st' D1 D2 ll' ∧ News h₀ L h' ((I, it) :: (fx ++ ll')) ∧ Nd ((I, it) :: (fx ++ ll'))
theorem lpost_intro {w : World} {h₀ h' : Heap} {L I : Addr} {it : Obj} {m₀ m' : Str → Option Value} {x : Str} {st' : Int → St} {D1 D2 : Addr} {fx ll' cur : List (Addr × Obj)} {s₁ : Shared} {tk : Nat} (hT : LTwo w st' D1 D2 ll') (F : Fr h₀ L h' m') (N : News h₀ L h' cur) (nd : Nd cur)
    (P : cur.Perm ((I, it) :: (fx ++ ll'))) (hm : ∀ z, z ≠ x → m' z = m₀ z) : LPost w h₀ L I it m₀ x st' D1 D2 fx s₁ .next { s₁ with heap := h', toks := tk } :=
  ⟨rfl, _, _, _, _, rfl, F, hm, hT, news_perm N P, nd_perm nd P⟩
section
variable {w : World} {A : Around} {E : Value → Shared → Prop} {s : Shared} {env : Env} {h₀ : Heap} {x : Str} {body : List Stmt} {Q : Flow → Shared → Prop}
theorem loop12 {ax D1 D2 : Addr} {n : Nat} {m₀ : Str → Option Value} {t1 t2 : Tok} {st : Int → St} {fx ll cur : List (Addr × Obj)} {now : Int} (_hn : NowIs now)
    (hh : A.handled = none) (F : Fr h₀ env.locals s.heap m₀) (N : News h₀ env.locals s.heap cur) (nd : Nd cur) (hT : LTwo w st D1 D2 ll) (P : cur.Perm (fx ++ ll)) (hm : (ax, listOf #[.int 1 t1, .int 2 t2] n) ∈ fx)
    (step : ∀ p t dn rs ll I it h tk, (p = 1 ∨ p = 2) → p ∉ dn → ([1, 2] : List Int) = dn ++ p :: rs → LTwo w (goneS st dn now) D1 D2 ll → Fr h₀ env.locals h (fun z => if z = x then some (.int p t) else m₀ z) → News h₀ env.locals h ((I, it) :: (fx ++ ll)) → Nd ((I, it) :: (fx ++ ll)) →
      wpAny (model Pg w) A (execs body env) (LPost w h₀ env.locals I it m₀ x (goneS st (dn ++ [p]) now) D1 D2 fx { s with heap := h, toks := tk }) E { s with heap := h, toks := tk })
    (done : ∀ ll h tk u1, LTwo w (goneS st [1, 2] now) D1 D2 ll → Fr h₀ env.locals h (fun z => if z = x then u1 else m₀ z) → News h₀ env.locals h (fx ++ ll) → Nd (fx ++ ll) → Q .next { s with heap := h, toks := tk }) :
    wpAny (model Pg w) A (pyIter (.ref ax)) (fun it s₂ => LoopAtV Pg w A h₀ env x body Q E it s₂) E s := by
  have hm' : (ax, listOf (List.toArray [.int 1 t1, .int 2 t2]) n) ∈ fx ++ ll := List.mem_append_left _ hm
  refine iter_listUnr (vs := [.int 1 t1, .int 2 t2]) hh F (news_perm N P) hm' rfl rfl fun I lI => ?_
  refine lrest_ind (fun r m news => (∀ z, z ≠ x → m z = m₀ z) ∧ ∃ dn rs ll, IntsAre r rs ∧ ([1, 2] : List Int) = dn ++ rs ∧ LTwo w (goneS st dn now) D1 D2 ll ∧ news = fx ++ ll ∧ I ∉ news.map (·.1) ∧ Nd news) ?_ ?_ _ _ _
    ⟨fun _ _ => rfl, [], [1, 2], ll, .cons _ _ (.cons _ _ .nil), rfl, by rw [gone_nil]; exact hT, rfl, fun hi => ?_, nd_perm nd P⟩
  · rintro v r m news ⟨hm0, dn, rs, ll, hI, he, hT, rfl, hi, nd⟩ it h tk hc F N
    cases hI with
    | cons p t hI =>
      rename_i rs
      have hnd : ([1, 2] : List Int).Nodup := by decide
      have hdn : p ∉ dn := by
        rw [he] at hnd
        intro hq
        exact (List.nodup_append.mp hnd).2.2 p hq p List.mem_cons_self rfl
      have hp : p = 1 ∨ p = 2 := in12 (by rw [he]; exact List.mem_append_right _ List.mem_cons_self)
      have e : (fun z => if z = x then some (Value.int p t) else m z) = fun z => if z = x then some (Value.int p t) else m₀ z := by
        funext z
        by_cases h1 : z = x
        · simp [h1]
        · simp only [if_neg h1]; exact hm0 z h1
      rw [e] at F
      refine wpAny_mono (step p t dn rs ll I it h tk hp hdn he hT F N (List.nodup_cons.mpr ⟨hi, nd⟩)) (fun f s₂ q => ?_) fun _ _ e => e
      obtain ⟨rfl, h', tk', m', ll', rfl, F', hm', hT', N', nd'⟩ := q
      have hI' := (List.nodup_cons.mp nd').1
      exact ⟨h', tk', m', _, rfl, F', N', nd_off hI', List.mem_append_left _ hm, hm', dn ++ [p], rs, ll', hI, by rw [he]; simp, hT', rfl, hI', nd_drop nd'⟩
  · rintro m news h tk ⟨hm0, dn, rs, ll, hI, he, hT, rfl, hi, nd⟩ F N
    cases hI
    rw [List.append_nil] at he
    subst he
    have e : m = fun z => if z = x then m x else m₀ z := by
      funext z
      by_cases h1 : z = x
      · simp [h1]
      · simp only [if_neg h1]; exact hm0 z h1
    rw [e] at F
    exact done ll h tk _ hT F N nd
  · obtain ⟨p, hp, e⟩ := List.mem_map.mp hi
    exact absurd (lI p hp) (e ▸ Nat.lt_irrefl _)
end
theorem exp_dec {w : World} {es : List (Int × Value)} {st : Int → St} {lg : List (Addr × Obj)} {ns : List Int} {now : Int} {D1 D2 : Addr} {ll : List (Addr × Obj)} (hL : LTwo w st D1 D2 ll) (h : GTwo w es st lg) (hp : ns.Perm (es.map (·.1))) (hs : ns.Pairwise (· ≤ ·)) :
    decide ((ns.filter fun p => expd (st p) now) = ([1, 2] : List Int).filter fun p => due (st p).til now) = true := by
  cases hL with
  | mk O1 O2 o1 o2 v1 v2 k1 k2 n1 n2 a1 a2 a3 a5 b1 b2 b3 b5 => exact decide_eq_true (exp_same h hp hs a5 b5)
theorem gone_all {st : Int → St} {now p : Int} (h : p = 1 ∨ p = 2) : goneS st [1, 2] now p = allS st now p := if_pos (by simpa using h)
theorem expr_end {w : World} {es : List (Int × Value)} {st : Int → St} {lg lg' ll' : List (Addr × Obj)} {ns : List Int} {now : Int} {D1 D2 : Addr} (h : GTwo w es st lg) (hp : ns.Perm (es.map (·.1))) (h' : GTwo w es (goneS st ns now) lg') (hL : LTwo w (goneS st [1, 2] now) D1 D2 ll') : ∃ lp, Two w es (allS st now) D1 D2 lp ∧ (ll' ++ lg').Perm lp :=
  Two.join (hL.congr (gone_all (.inl rfl)) (gone_all (.inr rfl))) (h.all hp h')
end Mine
namespace Mine
theorem nd_off1 {d : Addr} {o : Obj} {l : List (Addr × Obj)} (h : LCg.Off1 d l) (nd : Nd l) : Nd ((d, o) :: l) := by
  refine List.nodup_cons.mpr ⟨fun hm => ?_, nd⟩
  obtain ⟨p, hp, q⟩ := List.mem_map.mp hm
  exact off1_mem h p hp q
end Mine
namespace Mine
open PySem.Spec PySem.Calls
theorem pick_m {w : World} {A : Around} {E : Value → Shared → Prop} {s : Shared} {h₀ : Heap} {L : Addr} {Q : Value → Shared → Prop} {rest cur : List (Addr × Obj)} {value slice : PySem.Expr} {st : Int → St} {D1 D2 RW : Addr} {oRW : Obj} {ll : List (Addr × Obj)} {p : Int} {u : Tok}
    (N : News h₀ L s.heap cur) (P : cur.Perm ((RW, oRW) :: (rest ++ ll))) (hRW : oRW.IsDictOf (intKind Pg w) [((1 : Int), Value.ref D1), (2, Value.ref D2)]) (hT : LTwo w st D1 D2 ll) (hp : p = 1 ∨ p = 2)
    (next : ∀ D O oD, Lr w (st p) O oD → News h₀ L s.heap ((D, oD) :: cur) → Q (.ref D) { s with toks := s.toks + 1 })
    (hs : subscripted slice false (.ref RW) (.int p u) = operate [.ref RW, .int p u] (getItem (.ref RW) (.int p u)) := by with_unfolding_all rfl) (hg : ∀ r, letTemporaryGo value (.ref RW) r = pure () := by intro _; with_unfolding_all rfl) :
    wpAny (model Pg w) A (subscriptTail value slice (.ref RW) (.int p u)) Q E s := by
  obtain ⟨D, O, oD, lo, hv, h1, hc, hP⟩ := hT.pick 0 hp
  have P2 : cur.Perm ((RW, oRW) :: (D, oD) :: (rest ++ lo)) := P.trans (List.Perm.cons _ ((hP.append_left rest).trans List.perm_middle))
  refine kda_item (news_perm N P2) List.mem_cons_self hRW (intKind_is _ _ _ _) hv (next D O oD h1 fun q hq => ?_) hs hg
  rcases List.mem_cons.mp hq with rfl | hq
  · exact news_perm N P2 _ (List.mem_cons_of_mem _ List.mem_cons_self)
  · exact N q hq
end Mine
namespace Mine
theorem expr_fin {w : World} {h₀ h' : Heap} {L GR : Addr} {oR' : Obj} {es : List (Int × Value)} {g1 g2 g4 : Addr × Obj} {rest ll lg lp junk cur : List (Addr × Obj)} {R : Prop} (_hR : oR'.IsDictOf (intKind Pg w) es) (hJ : (ll ++ lg).Perm lp) (N : News h₀ L h' cur) (nd : Nd cur) (P : cur.Perm (g1 :: g2 :: (GR, oR') :: g4 :: (rest ++ (ll ++ (lg ++ junk)))))
    (next : News h₀ L h' (g1 :: g2 :: (GR, oR') :: g4 :: (rest ++ lp)) → Nd (g1 :: g2 :: (GR, oR') :: g4 :: (rest ++ lp)) → R) : R := by
  have P2 : cur.Perm ((g1 :: g2 :: (GR, oR') :: g4 :: (rest ++ lp)) ++ junk) := by
    refine P.trans (List.Perm.cons _ (List.Perm.cons _ (List.Perm.cons _ (List.Perm.cons _ ?_))))
    rw [← List.append_assoc ll, ← List.append_assoc rest]
    exact (hJ.append_left _).append_right _
  refine next (fun q hq => news_perm N P2 q (List.mem_append_left _ hq)) ?_
  have := nd_perm nd P2
  unfold Nd at this ⊢
  rw [List.map_append] at this
  exact (List.nodup_append.mp this).1
end Mine

theorem Mine.rules_j17 : True := by
  w_top off
  k_with_none
  k_with "k_ne" => (first | exact Mine.nq (by with_reducible assumption) | exact Mine.nqs (by with_reducible assumption))
  k_with "call builtin:list.pop" => ((k_here; (with_reducible show wpAny _ _ (call (Value.builtin _) [Value.ref _, Value.int _ _]) _ _ _); k_dflt (refine' Mine.pop0 ?z520F ?z520N ?z520U ?z520z ?_; (case z520F => k_asm); (case z520N => k_asm); (case z520U => k_upd); (case z520z => first | assumption | omega)); intro h' F' N'; (try dsimp only [List.nil_append, List.cons_append] at N')))
  k_with "tb_start" => (first | assumption | (refine List.Mem.tail _ ?_; tb_start))
  k_with "ktr_rel" => (first
      | with_reducible assumption
      | (refine' Mine.ncons ?z522N ?z522m ?z522r; (case z522N => k_asm); (case z522m => k_mem); (case z522r => ktr_rel))
      | (refine' Mine.nrest ?z522N ?z522m; (case z522N => k_asm); (case z522m => (intro p hp; tb_start))))
  k_with "ktr_room" => (first | exact Mine.rm1 (by assumption) rfl | exact Mine.rm0 (by assumption) | exact Mine.rmS (Mine.rm1 (by assumption) rfl) | exact Mine.rmS (Mine.rmS (Mine.rm1 (by assumption) rfl)) | exact Mine.rmN rfl | ((try simp only [depth_under_make, depth_under_kw, depth_in1, depth_deeper, depth_caller]); (try dsimp only [ktrTop]); omega))
  k_with "k_room" => (ktr_room)
  k_with "units_room" => (first | exact Mine.rm1 (by assumption) rfl | exact Mine.rm0 (by assumption) | exact Mine.rmS (Mine.rm1 (by assumption) rfl) | exact Mine.rmS (Mine.rmS (Mine.rm1 (by assumption) rfl)) | exact Mine.rmS (Mine.rmS (Mine.rmS (Mine.rm1 (by assumption) rfl))) | exact Mine.rmN rfl | ((try simp only [units_under_make, units_in1, units_deeper, Around.mark_units, units_caller]); (try dsimp only [ktrTop]); omega))
  k_with "k_units" => (units_room)
  k_with "k_enter" => (ktr_enter)
  k_with "k_all" => (first | exact Mine.ne_sub (by assumption) (by intro p hp; tb_start) | exact Mine.ne_sub2 (by assumption) (by intro p hp; tb_start))
  k_with "eval DictComp" => ((k_here; k_dflt (refine Mine.DictComp_T (PySem.strKind _ _) (by k_asm) (by rfl) (by rfl) (by decide) (by rfl) (by decide) (by rfl) ?_ (fun _ => by with_unfolding_all rfl))))
  k_with "Exists" => ((k_here; k_dflt (refine ⟨_, _, _, rfl, by k_asm, by k_asm, Mine.tup_of_K (by k_asm) (by k_is), fun g₂ => ?_⟩)))
  k_with "DRest" => ((with_unfolding_all first
      | (refine Mine.DRest.succ (by rw [sizeLine_eq]; exact Nat.le_of_ble_eq_true rfl) ?_; intro v' I' oI' C' oC' D' oD' m' h' tk' E' hv' hC' hx' hoD' F' N' off' ne'; lcg_open hv'; (try simp only [LCg.Off3, and_true] at off'))
      | refine Mine.DRest.zero ?_))
  k_with "DEnd" => ((refine Mine.DEnd.intro (by assumption) (by assumption) _ (strKind_is _ _ _ _) (fun _ h => h) (by assumption) True.intro ?_))
  k_with "DFinE" => ((intro D' oD' h' tk' hoD' F' N' o1'; (have o2' := Mine.off1_mem o1'); (try simp only [LCg.Off1, and_true] at o1'); (try dsimp only)))
  k_with "kd_mem" => (first | exact Mine.Pos.head | exact Mine.PosF.head | (refine' Mine.Pos.tail ?z534p; (case z534p => kd_mem)) | (refine' Mine.PosF.tail ?z534p; (case z534p => kd_mem)))
  k_with "k_upd" => ((refine' Mine.upd_nd ?z535nd ?z535e ?z535p; (case z535nd => assumption); (case z535e => rfl); (case z535p => kd_mem)))
  k_with "k_updF" => (first | (refine' Mine.updF_nd ?z536nd ?z536e ?z536p; (case z536nd => assumption); (case z536e => rfl); (case z536p => kd_mem)) | (refine' UpdF.head ?z536a; (case z536a => k_all)) | (refine' UpdF.tail ?z536a ?z536b; (case z536a => k_ne); (case z536b => k_updF)))
  k_with "kd_p1" => (first | exact Mine.pk_head | (refine' Mine.pk_tail ?z537h; (case z537h => kd_p1)))
  k_with "kst_p" => (first | exact Mine.sg_here | exact Mine.sg_end | (refine' Mine.sg_tail ?z538h; (case z538h => kst_p)) | (refine' Mine.sg_app ?z538h; (case z538h => kst_p)))
  k_with "kd_p" => (first | exact List.Perm.refl _ | (refine' Mine.pk_cons ?z539h ?z539g; (case z539h => kd_p1); (case z539g => kd_p)) | (refine' Mine.pk_seg ?z539h; (case z539h => kst_p)))
  k_with "tb_rel" => (first | assumption | exact Mine.nd3 (by assumption) | exact Mine.nd3 (Mine.nd3 (by assumption)) | (refine' Mine.nd_of ?z540nd ?z540e; (case z540nd => assumption); (case z540e => rfl)) | (refine' Mine.nd_new ?z540h ?z540e ?z540n; (case z540h => assumption); (case z540e => rfl); (case z540n => tb_rel)) | (refine' Mine.nd_new2 ?z540h ?z540g ?z540e ?z540n; (case z540h => assumption); (case z540g => assumption); (case z540e => rfl); (case z540n => tb_rel)) | (refine' Mine.nd_new1 ?z540h ?z540e ?z540n; (case z540h => assumption); (case z540e => rfl); (case z540n => tb_rel)))
  k_with "subscriptTail" => ((k_here; k_dflt (first
      | ((with_reducible show wpAny _ _ (subscriptTail _ _ (Value.ref _) (Value.str _ _)) _ _ _); refine kda_item (knd := PySem.strKind _ _) (by k_asm) (by k_mem) (by k_asm) (strKind_is _ _ _ _) (by first | assumption | rfl) ?_)
      | ((with_reducible show wpAny _ _ (subscriptTail _ _ (Value.ref _) (Value.int _ _)) _ _ _); refine kda_item (knd := PySem.intKind _ _) (by k_asm) (by k_mem) (by k_asm) (intKind_is _ _ _ _) (by first | assumption | rfl | exact Mine.val_new (by assumption)) ?_))))
  k_with "setItem ref str" => ((k_here; k_dflt (refine' kda_set (knd := PySem.strKind _ _) ?z542F ?z542N ?z542U ?z542d (strKind_is _ _ _ _) ?z542z ?_; (case z542F => k_asm); (case z542N => k_asm); (case z542U => k_updF); (case z542d => k_asm); (case z542z => first | kob_size | assumption)); intro h' o' F' N' hd'; (try kob_lit); (try dsimp only at N')))
  k_with "setItem ref int" => ((k_here; k_dflt (refine' kda_set (knd := PySem.intKind _ _) ?z543F ?z543N ?z543U ?z543d (intKind_is _ _ _ _) ?z543z ?_; (case z543F => k_asm); (case z543N => k_asm); (case z543U => k_updF); (case z543d => k_asm); (case z543z => first | kob_size | assumption)); intro h' o' F' N' hd'; (try kob_lit); (try dsimp only at N')))
  k_with "compareOp NotIn int ref" => ((k_here; k_dflt (first
      | refine kdg_notin (knd := PySem.intKind _ _) (by k_asm) (by k_mem) (by k_asm) (by k_asm) (intKind_is _ _ _ _) true (by first | assumption | rfl | exact Mine.iss (by assumption) | exact Mine.isn (by assumption)) ?_
      | refine kdg_notin (knd := PySem.intKind _ _) (by k_asm) (by k_mem) (by k_asm) (by k_asm) (intKind_is _ _ _ _) false (by first | assumption | rfl | exact Mine.iss (by assumption) | exact Mine.isn (by assumption)) ?_); (try dsimp only [Bool.not_true, Bool.not_false])))
  k_with "getItem ref int" => ((k_here; k_dflt (refine Mine.get_dict (knd := PySem.intKind _ _) (by k_asm) (by k_mem) (by k_asm) (intKind_is _ _ _ _) (by first | assumption | rfl | exact Mine.val_new (by assumption)) ?_)))
  k_with "getItem ref str" => ((k_here; k_dflt (refine Mine.get_dict (knd := PySem.strKind _ _) (by k_asm) (by k_mem) (by k_asm) (strKind_is _ _ _ _) (by first | assumption | rfl) ?_)))
  k_with "execs cons" => (((with_reducible refine Mine.st_norm s rfl rfl rfl ?_); intro tk'))
  k_with "call ref" => ((k_here; (with_reducible show wpAny _ _ (call (Value.ref 265) _) _ _ _); k_dflt (refine' Mine.letgoL_x ?z548B ?z548F ?z548X ?z548T ?z548k ?z548d ?z548u ?z548N ?z548P1 ?z548nd ?z548hD ?z548hC ?_; (case z548B => k_asm); (case z548F => k_asm); (case z548X => k_asm); (case z548T => k_asm); (case z548k => first | exact rfl | assumption); (case z548d => ktr_room); (case z548u => units_room); (case z548hD => assumption); (case z548hC => assumption); (case z548N => k_asm); (case z548P1 => kd_p); (case z548nd => tb_rel)); intro h' tk' ll' hT' F' N' nd'; (try simp only [List.cons_append, List.append_assoc, List.nil_append, List.append_nil] at N'); (try simp only [List.cons_append, List.append_assoc, List.nil_append, List.append_nil] at nd'); (try dsimp only)))
  k_with "call ref" => ((k_here; (with_reducible show wpAny _ _ (call (Value.ref 151) _) _ _ _); k_dflt (refine' Mine.expire_c ?z549B ?z549F ?z549X ?z549T ?z549k ?z549d ?z549u ?z549N ?z549P1 ?z549nd ?z549hR ?z549lo ?z549hT ?z549ho ?_; (case z549B => k_asm); (case z549F => k_asm); (case z549X => k_asm); (case z549T => k_asm); (case z549k => first | exact rfl | assumption); (case z549d => ktr_room); (case z549u => units_room); (case z549hT => assumption); (case z549N => k_asm); (case z549P1 => kd_p); (case z549nd => tb_rel); (case z549hR => assumption); (case z549lo => assumption); (case z549ho => assumption)); intro h' tk' FL' fvs' ns' nf' oR' lg' hR' hP' hO' hT' hf' F' N' nd'; (try simp only [List.cons_append, List.append_assoc, List.nil_append, List.append_nil] at N'); (try simp only [List.cons_append, List.append_assoc, List.nil_append, List.append_nil] at nd'); (try dsimp only)))
  k_with "subscriptTail" => ((k_here; (with_reducible show wpAny _ _ (subscriptTail _ _ (Value.ref _) (Value.int _ _)) _ _ _); k_dflt (refine' Mine.pick_m ?z550N ?z550P ?z550hRW ?z550hT ?z550hp ?_; (case z550N => k_asm); (case z550hRW => assumption); (case z550hT => assumption); (case z550P => kd_p); (case z550hp => first | assumption | exact Mine.in12 (by assumption) | exact .inl rfl | exact .inr rfl)); intro D' O' oD' hD' N'; (have hDl := hD'); (rcases hDl with ⟨vh', vu', hD', hH', hU'⟩); (try dsimp only)))
  k_with "subscriptTail" => ((k_here; (fail_if_success (with_reducible rename LCg.Off3 _ _ _ _ => hoff9)); (with_reducible show wpAny _ _ (subscriptTail _ _ (Value.ref _) (Value.int _ _)) _ _ _); k_dflt (refine' Mine.pick_l ?z551hn ?z551N ?z551nd ?z551P ?z551hRW ?z551hT ?z551hp ?_; (case z551hn => assumption); (case z551N => k_asm); (case z551hRW => assumption); (case z551hT => assumption); (case z551P => kd_p); (case z551nd => tb_rel); (case z551hp => first | assumption | exact Mine.in12 (by assumption) | exact .inl rfl | exact .inr rfl)); intro D' O' oD' lo' hD' hC' N' nd'; (have hDl := hD'); (rcases hDl with ⟨vh', vu', hD', hH', hU'⟩); (try simp only [List.cons_append, List.append_assoc, List.nil_append, List.append_nil] at N'); (try simp only [List.cons_append, List.append_assoc, List.nil_append, List.append_nil] at nd'); (try dsimp only)))
  k_with "compareOp IsNot" => ((k_here; (with_reducible show wpAny _ _ (compareOp CmpOp.IsNot _ Value.none) _ _ _); k_dflt (refine' Mine.isnot_uv ?z552h ?_; (case z552h => assumption))))
  k_with "CompSrcT" => ((k_here; k_dflt (refine' LCt.CompSrcT.ledger ?z553hh ?z553F ?z553N ?z553hm ?z553z ?_; (case z553hh => rfl); (case z553F => k_asm); (case z553N => k_asm); (case z553hm => news_mem); (case z553z => exact Nat.le_of_ble_eq_true rfl)); intro g'; k_dflt (refine' Mine.rest_due ?z553hd ?z553hi ?_ ?_; (case z553hd => assumption); (case z553hi => exact IntsAre.cons _ _ (IntsAre.cons _ _ IntsAre.nil))); (all_goals first | (intro y' t' I' oI' C' oC' D' m' ys' h' tk' E' hy' hC' hx' F' N' off' ne'; (have offk := off'); (try simp only [LCg.Off3, and_true] at off')) | intro ys' hys')))
  k_with "LeaveS0" => ((k_dflt (refine' leaveS0_ ?z554F ?z554N ?z554T ?_; (case z554F => k_asm); (case z554N => k_asm); (case z554T => first | assumption | exact KtsTurn.refl)); intro kF kN; (try dsimp only)))
  k_with "tb_rel" => ((refine' Mine.nd_cell ?z555h ?z555e ?z555n; (case z555h => assumption); (case z555e => rfl); (case z555n => tb_rel)))
  k_with "CompEnd" => ((k_here; k_dflt (refine' LCg.CompEnd.intro ?z556F ?z556N _ ?z556sub ?z556off ?z556hS ?z556r; (case z556off => assumption); (case z556sub => exact fun _ hp => hp); (case z556F => k_asm); (case z556N => assumption); (case z556hS => exact Or.inr ⟨_, by news_mem, rfl, _, rfl⟩); (case z556r => kst_p1))))
  k_with "tb_rel" => ((refine' Mine.nd_cell2 ?z557h ?z557e ?z557n; (case z557h => assumption); (case z557e => rfl); (case z557n => tb_rel)))
  k_with "compareOp LtE" => ((k_here; (with_reducible show wpAny _ _ (compareOp CmpOp.LtE _ (Value.int _ _)) _ _ _); k_dflt (refine' Mine.le_uv ?z558h ?z558hU ?_; (case z558h => assumption); (case z558hU => assumption))))
  k_with "kst_p1" => (first | exact ⟨by assumption, ⟨_, rfl⟩, rfl⟩ | exact ⟨by assumption, rfl⟩ | exact ⟨Mine.due_nn (by assumption), rfl⟩ | exact ⟨by simpa using (by assumption), rfl⟩)
  k_with "pyIter ref" => ((k_here; (with_reducible show wpAny _ _ (pyIter (Value.ref _)) (fun it s₂ => LoopAtV _ _ _ _ _ _ _ _ _ it s₂) _ _); k_dflt (refine' Mine.loop12 ?z560hn ?z560hh ?z560F ?z560N ?z560nd ?z560hT ?z560P ?z560hm ?_ ?_; (case z560hn => assumption); (case z560hh => exact rfl); (case z560F => k_asm); (case z560N => k_asm); (case z560nd => tb_rel); (case z560hT => assumption); (case z560P => kd_p); (case z560hm => news_mem)); (all_goals first | (intro p' t' dn' rs' ll' I' it' h' tk' hp' hdn' hn' hT' F' N' nd'; (try simp only [List.cons_append, List.append_assoc, List.nil_append] at N' nd')) | (intro ll' h' tk' u1' hT' F' N' nd'; (try simp only [List.cons_append, List.append_assoc, List.nil_append] at N' nd')))))
  k_with "exec For Name List cons nil" => ((k_here; (rename Fr _ _ _ _ => lF'); (with_unfolding_all refine' For_invVF lF' ?z561k1 ?z561k2 ?_; (case z561k1 => exact rfl); (case z561k2 => exact rfl); k_whole)))
  k_with "tb_rel" => ((refine' Mine.nd_off1 ?z562h ?z562n; (case z562h => assumption); (case z562n => tb_rel)))
  k_with "kd_p1" => ((refine' Mine.pk_over ?z563h; (case z563h => kd_p1)))
  k_with "ktn_open" => (first | exact List.Perm.refl _ | (refine' Mine.pk_cons ?z564h ?z564g; (case z564h => kd_p1); (case z564g => ktn_open)) | (refine' Mine.pk_app ?z564h ?z564g; (case z564h => kst_p); (case z564g => ktn_open)))
  trivial

namespace Mine
section
variable {w : World} {A₀ : Around} {base : Heap} {h₀ : Heap} {mean : ExcName → Option Value} {mg mb : Str → Option Value} {cs : Scope} {dp un : Nat} {gd : Option (List Code)} {cn : Str} {L a : Addr} {ccd : Value} {s : Shared} {m : Str → Option Value} {rest : List (Addr × Obj)} {Q E : Value → Shared → Prop}
  (B : Below A₀ base [] h₀) (F : Fr h₀ L s.heap m) (X : (hd.heap_1 w.params).In h₀) (T : Top qv Lo mean mg mb h₀) (k : cs.kind = .function) (d : dp + 30 < recursionLimit) (u : un + 480 < cLine)
include B F X T k d u
theorem expr_c {G GD GR RW D1 D2 : Addr} {rc qt now : Int} {t1 t2 t3 t4 t5 tn : Tok} {oR oRW : Obj} {es : List (Int × Value)} {st : Int → St} {lp cur : List (Addr × Obj)}
  (N : News h₀ L s.heap cur) (P1 : cur.Perm ((G, instObj 154 GD) :: (GD, gdObj w rc qt GR t1 t2 t3 t4 t5) :: (GR, oR) :: (RW, oRW) :: (rest ++ lp))) (nd : Nd cur)
  (hR : oR.IsDictOf (intKind Pg w) es) (lo : (GR == sysModules) = false) (hRW : oRW.IsDictOf (intKind Pg w) [((1 : Int), Value.ref D1), (2, Value.ref D2)]) (hT : Two w es st D1 D2 lp)
  (ret : ∀ h' tk' oR' lp', oR'.IsDictOf (intKind Pg w) es → Two w es (allS st now) D1 D2 lp' → Fr h₀ L h' m → News h₀ L h' ((G, instObj 154 GD) :: (GD, gdObj w rc qt GR t1 t2 t3 t4 t5) :: (GR, oR') :: (RW, oRW) :: (rest ++ lp')) →
    Nd ((G, instObj 154 GD) :: (GD, gdObj w rc qt GR t1 t2 t3 t4 t5) :: (GR, oR') :: (RW, oRW) :: (rest ++ lp')) → Q (.bool true) { s with heap := h', toks := tk' }) :
  wpAny (model Pg w) (ktrTop dp un gd cn cs L a ccd [] []) (call (.ref 296) [.ref G, .ref RW, .int now tn]) Q E s := by
  obtain ⟨ll, lg, hL, hG, hP⟩ := hT.split
  have P := P1.trans (List.Perm.cons _ (List.Perm.cons _ (List.Perm.cons _ (List.Perm.cons _ (hP.append_left rest)))))
  replace N := news_perm N P
  replace nd := nd_perm nd P
  have hnow : NowIs now := ⟨⟩
  have ho := hG.ok
  have hdue : DueIs (fun p => due (st p).til now) := ⟨⟩
  refine wpAny_call ?_
  k_dflt (refine' Mine.code_defT0 ?B ?F ?X ?N ?T ?kA ?kF ?kK ?k6 ?k7 ?k8 ?k9 ?kB ?kD ?_ ?c2 ?c3 ?c4; (case kA => exact rfl); (case kF => exact rfl); (case kK => assumption); (case B => k_asm); (case F => k_asm); (case X => k_asm); (case N => k_asm); (case T => k_asm); (case k6 => k_is); (case k7 => k_is); (case k8 => ktr_room); (case k9 => exact BindsTo.of_eq rfl); (case kB => exact rfl); (case kD => decide +kernel); (case c2 => exact rfl); (case c3 => exact rfl); (case c4 => exact rfl))
  intro g' L' h' tk' cells' FG' F' N' Y' B' X' T' l1 D'
  k_lt l1
  k_cells Y'
  (try simp only [List.cons_append, List.nil_append] at N')
  (try dsimp only)
  (try k_fold)
  k_steps
  all_goals (try clear P1 X T B F)
  all_goals first
    | (refine' Mine.lpost_intro ?hT ?F ?N ?nd ?P ?hm
       case hT => (rw [Mine.gone_snoc (by assumption)]; assumption)
       case F => assumption
       case N => assumption
       case nd => tb_rel
       case P => kd_p
       case hm => exact fun z h => if_neg h)
    | (rename GTwo _ _ (goneS _ _ _) _ => hG9
       rename LTwo _ (goneS _ [1, 2] _) _ _ _ => hL9
       rename List.Perm _ (es.map _) => hp9
       rename Fr h₀ L _ m => kF9
       rename News h₀ L _ _ => kN9
       obtain ⟨lp9, hT9, hJ9⟩ := expr_end hG hp9 hG9 hL9
       refine q_tt (exp_dec hL hG hp9 (by assumption)) ?_
       refine' Mine.expr_fin (GR := GR) (rest := rest) (g1 := (G, instObj 154 GD)) (g2 := (GD, gdObj w rc qt GR t1 t2 t3 t4 t5)) (g4 := (RW, oRW)) ?hR hJ9 kN9 ?nd ?P ?next
       case hR => assumption
       case nd => tb_rel
       case P => ktn_open
       case next => (intro N9 nd9; exact ret _ _ _ _ (by assumption) hT9 kF9 N9 nd9))
    | fail
end
end Mine

theorem Mine.rules_j18 : True := by
  w_top off
  k_with_none
  k_with "k_ne" => (first | exact Mine.nq (by with_reducible assumption) | exact Mine.nqs (by with_reducible assumption))
  k_with "call builtin:list.pop" => ((k_here; (with_reducible show wpAny _ _ (call (Value.builtin _) [Value.ref _, Value.int _ _]) _ _ _); k_dflt (refine' Mine.pop0 ?z566F ?z566N ?z566U ?z566z ?_; (case z566F => k_asm); (case z566N => k_asm); (case z566U => k_upd); (case z566z => first | assumption | omega)); intro h' F' N'; (try dsimp only [List.nil_append, List.cons_append] at N')))
  k_with "tb_start" => (first | assumption | (refine List.Mem.tail _ ?_; tb_start))
  k_with "ktr_rel" => (first
      | with_reducible assumption
      | (refine' Mine.ncons ?z568N ?z568m ?z568r; (case z568N => k_asm); (case z568m => k_mem); (case z568r => ktr_rel))
      | (refine' Mine.nrest ?z568N ?z568m; (case z568N => k_asm); (case z568m => (intro p hp; tb_start))))
  k_with "ktr_room" => (first | exact Mine.rm1 (by assumption) rfl | exact Mine.rm0 (by assumption) | exact Mine.rmS (Mine.rm1 (by assumption) rfl) | exact Mine.rmS (Mine.rmS (Mine.rm1 (by assumption) rfl)) | exact Mine.rmN rfl | ((try simp only [depth_under_make, depth_under_kw, depth_in1, depth_deeper, depth_caller]); (try dsimp only [ktrTop]); omega))
  k_with "k_room" => (ktr_room)
  k_with "units_room" => (first | exact Mine.rm1 (by assumption) rfl | exact Mine.rm0 (by assumption) | exact Mine.rmS (Mine.rm1 (by assumption) rfl) | exact Mine.rmS (Mine.rmS (Mine.rm1 (by assumption) rfl)) | exact Mine.rmS (Mine.rmS (Mine.rmS (Mine.rm1 (by assumption) rfl))) | exact Mine.rmN rfl | ((try simp only [units_under_make, units_in1, units_deeper, Around.mark_units, units_caller]); (try dsimp only [ktrTop]); omega))
  k_with "k_units" => (units_room)
  k_with "k_enter" => (ktr_enter)
  k_with "k_all" => (first | exact Mine.ne_sub (by assumption) (by intro p hp; tb_start) | exact Mine.ne_sub2 (by assumption) (by intro p hp; tb_start))
  k_with "eval DictComp" => ((k_here; k_dflt (refine Mine.DictComp_T (PySem.strKind _ _) (by k_asm) (by rfl) (by rfl) (by decide) (by rfl) (by decide) (by rfl) ?_ (fun _ => by with_unfolding_all rfl))))
  k_with "Exists" => ((k_here; k_dflt (refine ⟨_, _, _, rfl, by k_asm, by k_asm, Mine.tup_of_K (by k_asm) (by k_is), fun g₂ => ?_⟩)))
  k_with "DRest" => ((with_unfolding_all first
      | (refine Mine.DRest.succ (by rw [sizeLine_eq]; exact Nat.le_of_ble_eq_true rfl) ?_; intro v' I' oI' C' oC' D' oD' m' h' tk' E' hv' hC' hx' hoD' F' N' off' ne'; lcg_open hv'; (try simp only [LCg.Off3, and_true] at off'))
      | refine Mine.DRest.zero ?_))
  k_with "DEnd" => ((refine Mine.DEnd.intro (by assumption) (by assumption) _ (strKind_is _ _ _ _) (fun _ h => h) (by assumption) True.intro ?_))
  k_with "DFinE" => ((intro D' oD' h' tk' hoD' F' N' o1'; (have o2' := Mine.off1_mem o1'); (try simp only [LCg.Off1, and_true] at o1'); (try dsimp only)))
  k_with "kd_mem" => (first | exact Mine.Pos.head | exact Mine.PosF.head | (refine' Mine.Pos.tail ?z580p; (case z580p => kd_mem)) | (refine' Mine.PosF.tail ?z580p; (case z580p => kd_mem)))
  k_with "k_upd" => ((refine' Mine.upd_nd ?z581nd ?z581e ?z581p; (case z581nd => assumption); (case z581e => rfl); (case z581p => kd_mem)))
  k_with "k_updF" => (first | (refine' Mine.updF_nd ?z582nd ?z582e ?z582p; (case z582nd => assumption); (case z582e => rfl); (case z582p => kd_mem)) | (refine' UpdF.head ?z582a; (case z582a => k_all)) | (refine' UpdF.tail ?z582a ?z582b; (case z582a => k_ne); (case z582b => k_updF)))
  k_with "kd_p1" => (first | exact Mine.pk_head | (refine' Mine.pk_tail ?z583h; (case z583h => kd_p1)))
  k_with "kst_p" => (first | exact Mine.sg_here | exact Mine.sg_end | (refine' Mine.sg_tail ?z584h; (case z584h => kst_p)) | (refine' Mine.sg_app ?z584h; (case z584h => kst_p)))
  k_with "kd_p" => (first | exact List.Perm.refl _ | (refine' Mine.pk_cons ?z585h ?z585g; (case z585h => kd_p1); (case z585g => kd_p)) | (refine' Mine.pk_seg ?z585h; (case z585h => kst_p)))
  k_with "tb_rel" => (first | assumption | exact Mine.nd3 (by assumption) | exact Mine.nd3 (Mine.nd3 (by assumption)) | (refine' Mine.nd_of ?z586nd ?z586e; (case z586nd => assumption); (case z586e => rfl)) | (refine' Mine.nd_new ?z586h ?z586e ?z586n; (case z586h => assumption); (case z586e => rfl); (case z586n => tb_rel)) | (refine' Mine.nd_new2 ?z586h ?z586g ?z586e ?z586n; (case z586h => assumption); (case z586g => assumption); (case z586e => rfl); (case z586n => tb_rel)) | (refine' Mine.nd_new1 ?z586h ?z586e ?z586n; (case z586h => assumption); (case z586e => rfl); (case z586n => tb_rel)))
  k_with "subscriptTail" => ((k_here; k_dflt (first
      | ((with_reducible show wpAny _ _ (subscriptTail _ _ (Value.ref _) (Value.str _ _)) _ _ _); refine kda_item (knd := PySem.strKind _ _) (by k_asm) (by k_mem) (by k_asm) (strKind_is _ _ _ _) (by first | assumption | rfl) ?_)
      | ((with_reducible show wpAny _ _ (subscriptTail _ _ (Value.ref _) (Value.int _ _)) _ _ _); refine kda_item (knd := PySem.intKind _ _) (by k_asm) (by k_mem) (by k_asm) (intKind_is _ _ _ _) (by first | assumption | rfl | exact Mine.val_new (by assumption)) ?_))))
  k_with "setItem ref str" => ((k_here; k_dflt (refine' kda_set (knd := PySem.strKind _ _) ?z588F ?z588N ?z588U ?z588d (strKind_is _ _ _ _) ?z588z ?_; (case z588F => k_asm); (case z588N => k_asm); (case z588U => k_updF); (case z588d => k_asm); (case z588z => first | kob_size | assumption)); intro h' o' F' N' hd'; (try kob_lit); (try dsimp only at N')))
  k_with "setItem ref int" => ((k_here; k_dflt (refine' kda_set (knd := PySem.intKind _ _) ?z589F ?z589N ?z589U ?z589d (intKind_is _ _ _ _) ?z589z ?_; (case z589F => k_asm); (case z589N => k_asm); (case z589U => k_updF); (case z589d => k_asm); (case z589z => first | kob_size | assumption)); intro h' o' F' N' hd'; (try kob_lit); (try dsimp only at N')))
  k_with "compareOp NotIn int ref" => ((k_here; k_dflt (first
      | refine kdg_notin (knd := PySem.intKind _ _) (by k_asm) (by k_mem) (by k_asm) (by k_asm) (intKind_is _ _ _ _) true (by first | assumption | rfl | exact Mine.iss (by assumption) | exact Mine.isn (by assumption)) ?_
      | refine kdg_notin (knd := PySem.intKind _ _) (by k_asm) (by k_mem) (by k_asm) (by k_asm) (intKind_is _ _ _ _) false (by first | assumption | rfl | exact Mine.iss (by assumption) | exact Mine.isn (by assumption)) ?_); (try dsimp only [Bool.not_true, Bool.not_false])))
  k_with "getItem ref int" => ((k_here; k_dflt (refine Mine.get_dict (knd := PySem.intKind _ _) (by k_asm) (by k_mem) (by k_asm) (intKind_is _ _ _ _) (by first | assumption | rfl | exact Mine.val_new (by assumption)) ?_)))
  k_with "getItem ref str" => ((k_here; k_dflt (refine Mine.get_dict (knd := PySem.strKind _ _) (by k_asm) (by k_mem) (by k_asm) (strKind_is _ _ _ _) (by first | assumption | rfl) ?_)))
  k_with "execs cons" => (((with_reducible refine Mine.st_norm s rfl rfl rfl ?_); intro tk'))
  trivial

namespace Mine
theorem big0 {x : Int} : 0 ≤ (if -1 - x > x then -1 - x else x) := by split <;> omega
theorem big1 {b : Int} {c : Bool} (h : 0 ≤ b) : 0 ≤ b * (if c = true then 1 else 0) := by
  split
  · omega
  · simp
theorem pool_end {h₀ h' : Heap} {L : Addr} {x y : Addr × Obj} {rest junk cur : List (Addr × Obj)} {R : Prop} (N : News h₀ L h' cur) (nd : Nd cur) (P : cur.Perm (x :: y :: (rest ++ junk))) (next : News h₀ L h' (rest ++ [x, y]) → Nd (rest ++ [x, y]) → R) : R := by
  have P2 : cur.Perm ((rest ++ [x, y]) ++ junk) := by
    refine P.trans ?_
    rw [show x :: y :: (rest ++ junk) = [x, y] ++ (rest ++ junk) from rfl, ← List.append_assoc]
    exact List.perm_append_comm.append_right _
  refine next (fun q hq => news_perm N P2 q (List.mem_append_left _ hq)) ?_
  have := nd_perm nd P2
  unfold Nd at this ⊢
  rw [List.map_append] at this
  exact (List.nodup_append.mp this).1
theorem lstKeep {g h : Heap} {L a : Addr} {m : Str → Option Value} {vs : Array Value} (F : Fr g L h m) (hl : g.IsList a vs) : h.IsList a vs := by
  obtain ⟨o, e, r⟩ := hl
  exact ⟨o, F.keep _ _ e, r⟩
section
variable {w : World} {A₀ : Around} {base : Heap} {outer : List Env} {h₀ : Heap} {mean : ExcName → Option Value} {mg mb : Str → Option Value} {cs : Scope} {dp un : Nat} {gd : Option (List Code)} {cn : Str} {L a : Addr} {ccd : Value} {cl : List (Str × Addr)} {s : Shared} {m : Str → Option Value} {rest : List (Addr × Obj)} {Q E : Value → Shared → Prop}
  (B : Below A₀ base outer h₀) (F : Fr h₀ L s.heap m) (X : (hd.heap_1 w.params).In h₀) (T : Top qv Lo mean mg mb h₀) (k : cs.kind = .function) (d : dp + 40 < recursionLimit) (u : un + 600 < cLine)
include B F X T k d u
theorem pool_c {aP RL : Addr} {scr vs : List Value} {ns rs : List Int} {n : Nat} {cur : List (Addr × Obj)}
  (N : News h₀ L s.heap cur) (P1 : cur.Perm ((RL, listOf vs.toArray n) :: rest)) (nd : Nd cur) (hP : h₀.IsList aP scr.toArray) (hI : IntsAre scr ns) (hl : ns.length ≤ 63) (iv : IntsAre vs rs) (hv : vs.length ≤ 24)
  (ret : ∀ h' tk' aS sg', Src aS sg' → Fr h₀ L h' m → News h₀ L h' (rest ++ sg') → Nd (rest ++ sg') → Q (.ref aS) { s with heap := h', toks := tk' }) :
  wpAny (model Pg w) (ktrTop dp un gd cn cs L a ccd cl outer) (call (.ref 237) [.ref aP, .ref RL]) Q E s := by
  replace N := news_perm N P1
  replace nd := nd_perm nd P1
  refine wpAny_call ?_
  cases hI with
  | nil =>
    k_dflt ktr_enter
    (rename Fr h₀ L _ m => FG9)
    have hP9 := lstKeep FG9 hP
    have hI9 := IntsAre.nil
    k_steps
    rename Fr h₀ L _ m => kF9
    rename News h₀ L _ _ => kN9
    refine pool_end (rest := rest) (y := (RL, listOf vs.toArray n)) kN9 (by tb_rel) (pk_cons pk_head (pk_cons (by kd_p1) (by kst_p))) fun N9 nd9 => ?_
    exact ret _ _ _ _ (.mk _ _ _ _ _ _ _ _ _ (big1 big0) (fm0 (by decide)) (fm1 (by decide)) hv iv) kF9 N9 nd9
  | cons n1 tn1 hI =>
    simp only [List.length_cons] at hl
    k_dflt ktr_enter
    (rename Fr h₀ L _ m => FG9)
    have hP9 := lstKeep FG9 hP
    have hI9 := IntsAre.cons n1 tn1 hI
    k_steps
    all_goals first
    | (exfalso; simp at *; done)
    | (rename Fr h₀ L _ m => kF9
       rename News h₀ L _ _ => kN9
       refine pool_end (rest := rest) kN9 (by tb_rel) (pk_cons pk_head (pk_cons pk_head (by kst_p))) fun N9 nd9 => ?_
       exact ret _ _ _ _ (.mk _ _ _ _ _ _ _ _ _ (big1 big0) (fm0 (by decide)) (fm1 (by decide)) (Nat.zero_le _) .nil) kF9 N9 nd9)
    | fail
end
end Mine

namespace Mine
open PySem.Spec PySem.Calls
theorem lo_of {w : World} {h₀ h : Heap} {L a : Addr} {o : Obj} {news : List (Addr × Obj)} (X : (hd.heap_1 w.params).In h₀) (N : News h₀ L h news) (hm : (a, o) ∈ news) : (a == sysModules) = false := by
  rw [beq_eq_false_iff_ne]
  rintro rfl
  have h1 := (N _ hm).2.2
  have h2 := X (nat_lit 1) _ (by with_unfolding_all rfl)
  exact absurd (h1.symm.trans h2) (by intro z; cases z)
theorem pos_of {vs : List Value} {ns : List Int} {v : Value} (h : v ∈ vs) (hi : IntsAre vs ns) (hp : ∀ n ∈ ns, 0 ≤ n) : ∃ n t, v = .int n t ∧ 0 ≤ n := by
  obtain ⟨n, t, hn, e⟩ := mem_ints hi v h
  exact ⟨n, t, e, hp n hn⟩
theorem two_init {w : World} {D1 D2 O1 O2 : Addr} {o1 o2 : Obj} {n1 n2 : Nat} {t1 t2 : Tok} (h1 : o1.IsDictOf (strKind Pg w) (rowsOf O1 (.str (Str.ofString "") t1) .none false)) (h2 : o2.IsDictOf (strKind Pg w) (rowsOf O2 (.str (Str.ofString "") t2) .none false)) :
    Two w [] (fun _ => St.start) D1 D2 ([(D1, o1), (O1, listOf #[] n1)] ++ [(D2, o2), (O2, listOf #[] n2)]) :=
  have ho : OnL St.start [] := ⟨⟨rfl, rfl, rfl, rfl, rfl⟩, .nil, fun _ h => by cases h⟩
  .mk _ _ .e0 (.mk O1 o1 [] [] n1 [] (.mk _ _ h1 (.no _) .none) .nil ho stok_start (.not rfl (Nat.zero_le _) rfl)) (.mk O2 o2 [] [] n2 [] (.mk _ _ h2 (.no _) .none) .nil ho stok_start (.not rfl (Nat.zero_le _) rfl))
theorem pk_seg2 {l r1 r a b : List (Addr × Obj)} (h : l.Perm (a ++ r1)) (h' : r1.Perm (b ++ r)) : l.Perm (r ++ (a ++ b)) := by
  refine h.trans ((h'.append_left a).trans ?_)
  rw [← List.append_assoc]
  exact List.perm_append_comm
theorem pick_w {w : World} {A : Around} {E : Value → Shared → Prop} {s : Shared} {h₀ : Heap} {L : Addr} {Q : Value → Shared → Prop} {rest cur : List (Addr × Obj)} {value slice : PySem.Expr} {es : List (Int × Value)} {st : Int → St} {D1 D2 RW : Addr} {oRW : Obj} {lp : List (Addr × Obj)} {p : Int} {u : Tok}
    (N : News h₀ L s.heap cur) (nd : Nd cur) (P : cur.Perm ((RW, oRW) :: (rest ++ lp))) (hRW : oRW.IsDictOf (intKind Pg w) [((1 : Int), Value.ref D1), (2, Value.ref D2)]) (hT : Two w es st D1 D2 lp) (hp : p = 1 ∨ p = 2)
    (next : ∀ D O oD vs ss n seg lo, valueAt [((1 : Int), Value.ref D1), (2, Value.ref D2)] p = some (.ref D) → Lr w (st p) O oD → StrsAre vs ss → OnL (st p) ss → StOk (st p) → PSeg w es p (st p) seg → Close w es st D1 D2 p D lo → News h₀ L s.heap ((RW, oRW) :: (D, oD) :: (O, listOf vs.toArray n) :: (rest ++ (lo ++ seg))) →
      Nd ((RW, oRW) :: (D, oD) :: (O, listOf vs.toArray n) :: (rest ++ (lo ++ seg))) → Q (.ref D) { s with toks := s.toks + 1 })
    (hs : subscripted slice false (.ref RW) (.int p u) = operate [.ref RW, .int p u] (getItem (.ref RW) (.int p u)) := by with_unfolding_all rfl) (hg : ∀ r, letTemporaryGo value (.ref RW) r = pure () := by intro _; with_unfolding_all rfl) :
    wpAny (model Pg w) A (subscriptTail value slice (.ref RW) (.int p u)) Q E s := by
  obtain ⟨D, O, oD, vs, ss, n, seg, lo, hv, h1, h2, h3, h5, h4, hc, hP⟩ := hT.pick hp
  have P2 : cur.Perm ((RW, oRW) :: (D, oD) :: (O, listOf vs.toArray n) :: (rest ++ (lo ++ seg))) := P.trans (List.Perm.cons _ (((hP.append_left rest).trans List.perm_middle).trans (List.Perm.cons _ List.perm_middle)))
  exact kda_item (news_perm N P2) List.mem_cons_self hRW (intKind_is _ _ _ _) hv (next D O oD vs ss n seg lo hv h1 h2 h3 h5 h4 hc (news_perm N P2) (nd_perm nd P2)) hs hg
/-- the end of a turn over the two ports -/
def PPost (w : World) (h₀ : Heap) (L I GR : Addr) (it : Obj) (m₀ : Str → Option Value) (x : Str) (D1 D2 : Addr) (fx : List (Addr × Obj)) (s₁ : Shared) (fl : Flow) (s₂ : Shared) : Prop :=
  fl = .next ∧ ∃ h' tk m' es' st' oR' lp', s₂ = { s₁ with heap := h', toks := tk } ∧ Fr h₀ L h' m' ∧ (∀ z, z ≠ x → m' z = m₀ z) ∧ oR'.IsDictOf (intKind Pg w) es' ∧ Two w es' st' D1 D2 lp' ∧ News h₀ L h' ((I, it) :: (GR, oR') :: (fx ++ lp')) ∧ Nd ((I, it) :: (GR, oR') :: (fx ++ lp'))
theorem ppost_intro {w : World} {h₀ h' : Heap} {L I GR D O' : Addr} {it oD' oR' : Obj} {m₀ m' : Str → Option Value} {x : Str} {st : Int → St} {es es' : List (Int × Value)} {D1 D2 : Addr} {p : Int} {a' : St} {vs' : List Value} {ss' : List Str} {n' : Nat} {fx lo seg' junk cur : List (Addr × Obj)} {s₁ : Shared} {tk : Nat}
    (hc : Close w es st D1 D2 p D lo) (hl : Lr w a' O' oD') (hs : PSeg w es' p a' seg') (he : Es2 es p es') (hv : StrsAre vs' ss') (hO : OnL a' ss') (hok : StOk a') (hR : oR'.IsDictOf (intKind Pg w) es') (F : Fr h₀ L h' m') (N : News h₀ L h' cur) (nd : Nd cur)
    (P : cur.Perm ((I, it) :: (GR, oR') :: (D, oD') :: (O', listOf vs'.toArray n') :: (fx ++ (lo ++ (seg' ++ junk))))) (hm : ∀ z, z ≠ x → m' z = m₀ z) : PPost w h₀ L I GR it m₀ x D1 D2 fx s₁ .next { s₁ with heap := h', toks := tk } := by
  obtain ⟨lp', hT, hP⟩ := hc es' a' oD' O' vs' ss' n' seg' he hs hl hv hO hok
  have P2 : cur.Perm (((I, it) :: (GR, oR') :: (fx ++ lp')) ++ junk) := by
    refine P.trans (List.Perm.cons _ (List.Perm.cons _ ?_))
    have h1 : ((D, oD') :: (O', listOf vs'.toArray n') :: (fx ++ ((lo ++ seg') ++ junk))).Perm (fx ++ ([(D, oD'), (O', listOf vs'.toArray n')] ++ ((lo ++ seg') ++ junk))) := List.perm_append_comm_assoc [(D, oD'), (O', listOf vs'.toArray n')] fx ((lo ++ seg') ++ junk)
    rw [← List.append_assoc lo]
    refine h1.trans ?_
    rw [← List.append_assoc [_, _]]
    refine ((hP.append_right junk).append_left _).trans (List.Perm.of_eq ?_)
    simp
  refine ⟨rfl, _, _, _, es', _, oR', lp', rfl, F, hm, hR, hT, fun q hq => news_perm N P2 q (List.mem_append_left _ hq), ?_⟩
  have := nd_perm nd P2
  unfold Nd at this ⊢
  rw [List.map_append] at this
  exact (List.nodup_append.mp this).1
/-- the end of a turn of the law's loop -/
def RPost (w : World) (h₀ : Heap) (L I GR aS : Addr) (it : Obj) (m₀ : Str → Option Value) (x y n : Str) (D1 D2 : Addr) (fx : List (Addr × Obj)) (s₁ : Shared) (fl : Flow) (s₂ : Shared) : Prop :=
  fl = .next ∧ ∃ h' tk m' nw tn es' st' oR' sg' lp', s₂ = { s₁ with heap := h', toks := tk } ∧ Fr h₀ L h' m' ∧ m' n = some (.int nw tn) ∧ (∀ z, z ≠ x → z ≠ y → z ≠ n → m' z = m₀ z) ∧ oR'.IsDictOf (intKind Pg w) es' ∧ Two w es' st' D1 D2 lp' ∧ Src aS sg' ∧
    News h₀ L h' ((I, it) :: (GR, oR') :: (fx ++ (sg' ++ lp'))) ∧ Nd ((I, it) :: (GR, oR') :: (fx ++ (sg' ++ lp')))
theorem rpost_intro {w : World} {h₀ h' : Heap} {L I GR aS : Addr} {it oR' : Obj} {m₀ m' : Str → Option Value} {x y n : Str} {st' : Int → St} {es' : List (Int × Value)} {D1 D2 : Addr} {nw : Int} {tn : Tok} {fx sg' lp' junk cur : List (Addr × Obj)} {s₁ : Shared} {tk : Nat}
    (hR : oR'.IsDictOf (intKind Pg w) es') (hT : Two w es' st' D1 D2 lp') (hS : Src aS sg') (F : Fr h₀ L h' m') (N : News h₀ L h' cur) (nd : Nd cur)
    (P : cur.Perm ((I, it) :: (GR, oR') :: (fx ++ (sg' ++ (lp' ++ junk))))) (hn : m' n = some (.int nw tn)) (hm : ∀ z, z ≠ x → z ≠ y → z ≠ n → m' z = m₀ z) : RPost w h₀ L I GR aS it m₀ x y n D1 D2 fx s₁ .next { s₁ with heap := h', toks := tk } := by
  have P2 : cur.Perm (((I, it) :: (GR, oR') :: (fx ++ (sg' ++ lp'))) ++ junk) := P.trans (List.Perm.of_eq (by simp))
  refine ⟨rfl, _, _, _, nw, tn, es', _, oR', sg', lp', rfl, F, hn, hm, hR, hT, hS, fun q hq => news_perm N P2 q (List.mem_append_left _ hq), ?_⟩
  have := nd_perm nd P2
  unfold Nd at this ⊢
  rw [List.map_append] at this
  exact (List.nodup_append.mp this).1
section
variable {w : World} {A : Around} {E : Value → Shared → Prop} {s : Shared} {env : Env} {h₀ : Heap} {x : Str} {body : List Stmt} {Q : Flow → Shared → Prop}
theorem loopP {ax GR D1 D2 : Addr} {n : Nat} {m₀ : Str → Option Value} {t1 t2 : Tok} {es : List (Int × Value)} {st : Int → St} {oR : Obj} {fx lp cur : List (Addr × Obj)}
    (hh : A.handled = none) (F : Fr h₀ env.locals s.heap m₀) (N : News h₀ env.locals s.heap cur) (nd : Nd cur) (hR : oR.IsDictOf (intKind Pg w) es) (hT : Two w es st D1 D2 lp) (P : cur.Perm ((GR, oR) :: (fx ++ lp))) (hm : (ax, listOf #[.int 1 t1, .int 2 t2] n) ∈ fx)
    (step : ∀ p t es st oR lp I it h tk, (p = 1 ∨ p = 2) → oR.IsDictOf (intKind Pg w) es → Two w es st D1 D2 lp → Fr h₀ env.locals h (fun z => if z = x then some (.int p t) else m₀ z) → News h₀ env.locals h ((I, it) :: (GR, oR) :: (fx ++ lp)) → Nd ((I, it) :: (GR, oR) :: (fx ++ lp)) →
      wpAny (model Pg w) A (execs body env) (PPost w h₀ env.locals I GR it m₀ x D1 D2 fx { s with heap := h, toks := tk }) E { s with heap := h, toks := tk })
    (done : ∀ es st oR lp h tk u1, oR.IsDictOf (intKind Pg w) es → Two w es st D1 D2 lp → Fr h₀ env.locals h (fun z => if z = x then u1 else m₀ z) → News h₀ env.locals h ((GR, oR) :: (fx ++ lp)) → Nd ((GR, oR) :: (fx ++ lp)) → Q .next { s with heap := h, toks := tk }) :
    wpAny (model Pg w) A (pyIter (.ref ax)) (fun it s₂ => LoopAtV Pg w A h₀ env x body Q E it s₂) E s := by
  have hm' : ∀ oR lp, (ax, listOf (List.toArray [.int 1 t1, .int 2 t2]) n) ∈ (GR, oR) :: (fx ++ lp) := fun _ _ => List.mem_cons_of_mem _ (List.mem_append_left _ hm)
  refine iter_listUnr (vs := [.int 1 t1, .int 2 t2]) hh F (news_perm N P) (hm' _ _) rfl rfl fun I lI => ?_
  refine lrest_ind (fun r m news => (∀ z, z ≠ x → m z = m₀ z) ∧ ∃ rs es st oR lp, IntsAre r rs ∧ (∀ p ∈ rs, p = 1 ∨ p = 2) ∧ oR.IsDictOf (intKind Pg w) es ∧ Two w es st D1 D2 lp ∧ news = (GR, oR) :: (fx ++ lp) ∧ I ∉ news.map (·.1) ∧ Nd news) ?_ ?_ _ _ _
    ⟨fun _ _ => rfl, [1, 2], es, st, oR, lp, .cons _ _ (.cons _ _ .nil), fun p hp => in12 hp, hR, hT, rfl, fun hi => ?_, nd_perm nd P⟩
  · rintro v r m news ⟨hm0, rs, es, st, oR, lp, hI, he, hR, hT, rfl, hi, nd⟩ it h tk hc F N
    cases hI with
    | cons p t hI =>
      rename_i rs
      have e : (fun z => if z = x then some (Value.int p t) else m z) = fun z => if z = x then some (Value.int p t) else m₀ z := by
        funext z
        by_cases h1 : z = x
        · simp [h1]
        · simp only [if_neg h1]; exact hm0 z h1
      rw [e] at F
      refine wpAny_mono (step p t es st oR lp I it h tk (he p List.mem_cons_self) hR hT F N (List.nodup_cons.mpr ⟨hi, nd⟩)) (fun f s₂ q => ?_) fun _ _ e => e
      obtain ⟨rfl, h', tk', m', es', st', oR', lp', rfl, F', hmm, hR', hT', N', nd'⟩ := q
      have hI' := (List.nodup_cons.mp nd').1
      exact ⟨h', tk', m', _, rfl, F', N', nd_off hI', hm' _ _, hmm, rs, es', st', oR', lp', hI, fun q hq => he q (List.mem_cons_of_mem _ hq), hR', hT', rfl, hI', nd_drop nd'⟩
  · rintro m news h tk ⟨hm0, rs, es, st, oR, lp, hI, he, hR, hT, rfl, hi, nd⟩ F N
    have e : m = fun z => if z = x then m x else m₀ z := by
      funext z
      by_cases h1 : z = x
      · simp [h1]
      · simp only [if_neg h1]; exact hm0 z h1
    rw [e] at F
    exact done es st oR lp h tk _ hR hT F N nd
  · obtain ⟨p, hp, e⟩ := List.mem_map.mp hi
    exact absurd (lI p hp) (e ▸ Nat.lt_irrefl _)
theorem loopR {r GR aS D1 D2 : Addr} {y n : Str} {m₀ : Str → Option Value} {b : Int} {u1 u2 u3 : Tok} {nw : Int} {tn : Tok} {es : List (Int × Value)} {st : Int → St} {oR : Obj} {fx sg lp cur : List (Addr × Obj)}
    (hh : A.handled = none) (hr : IsRange s.heap r 0 b 1 u1 u2 u3) (b0 : 0 ≤ b) (b1 : b ≤ 100) (F : Fr h₀ env.locals s.heap m₀) (hn : m₀ n = some (.int nw tn)) (N : News h₀ env.locals s.heap cur) (nd : Nd cur) (hR : oR.IsDictOf (intKind Pg w) es) (hT : Two w es st D1 D2 lp) (hS : Src aS sg) (P : cur.Perm ((GR, oR) :: (fx ++ (sg ++ lp))))
    (step : ∀ k t nw tn u es st oR sg lp I it h tk, oR.IsDictOf (intKind Pg w) es → Two w es st D1 D2 lp → Src aS sg → Fr h₀ env.locals h (fun z => if z = x then some (.int k t) else if z = n then some (.int nw tn) else if z = y then u else m₀ z) → News h₀ env.locals h ((I, it) :: (GR, oR) :: (fx ++ (sg ++ lp))) → Nd ((I, it) :: (GR, oR) :: (fx ++ (sg ++ lp))) →
      wpAny (model Pg w) A (execs body env) (RPost w h₀ env.locals I GR aS it m₀ x y n D1 D2 fx { s with heap := h, toks := tk }) E { s with heap := h, toks := tk })
    (done : ∀ m news h tk, Fr h₀ env.locals h m → News h₀ env.locals h news → Q .next { s with heap := h, toks := tk }) :
    wpAny (model Pg w) A (pyIter (.ref r)) (fun it s₂ => LoopAtV Pg w A h₀ env x body Q E it s₂) E s := by
  refine iter_rangeUnr (n := (b - 0).toNat) hh hr (small_one (by decide) (by decide) (by omega) (by omega)) (rangeSize_nat _ _) F (news_perm N P) fun I lI => ?_
  refine rrest_ind (fun m news => (∃ nw tn, m n = some (.int nw tn)) ∧ (∀ z, z ≠ x → z ≠ y → z ≠ n → m z = m₀ z) ∧ ∃ es st oR sg lp, oR.IsDictOf (intKind Pg w) es ∧ Two w es st D1 D2 lp ∧ Src aS sg ∧ news = (GR, oR) :: (fx ++ (sg ++ lp)) ∧ I ∉ news.map (·.1) ∧ Nd news) ?_ ?_ _ _ _ _
    ⟨⟨nw, tn, hn⟩, fun _ _ _ _ => rfl, es, st, oR, sg, lp, hR, hT, hS, rfl, fun hi => ?_, nd_perm nd P⟩
  · rintro m news ⟨⟨nw, tn, hn⟩, hm0, es, st, oR, sg, lp, hR, hT, hS, rfl, hi, nd⟩ k t it h tk F N
    have e : (fun z => if z = x then some (Value.int k t) else m z) = fun z => if z = x then some (Value.int k t) else if z = n then some (.int nw tn) else if z = y then m y else m₀ z := by
      funext z
      by_cases h1 : z = x
      · simp [h1]
      · simp only [if_neg h1]
        by_cases h2 : z = n
        · simp only [h2, if_true]; exact hn
        · simp only [if_neg h2]
          by_cases h3 : z = y
          · simp [h3]
          · simp only [if_neg h3]; exact hm0 z h1 h3 h2
    rw [e] at F
    refine wpAny_mono (step k t nw tn _ es st oR sg lp I it h tk hR hT hS F N (List.nodup_cons.mpr ⟨hi, nd⟩)) (fun f s₂ q => ?_) fun _ _ e => e
    obtain ⟨rfl, h', tk', m', nw', tn', es', st', oR', sg', lp', rfl, F', hn', hmm, hR', hT', hS', N', nd'⟩ := q
    have hI' := (List.nodup_cons.mp nd').1
    exact ⟨h', tk', m', _, rfl, F', N', nd_off hI', ⟨nw', tn', hn'⟩, hmm, es', st', oR', sg', lp', hR', hT', hS', rfl, hI', nd_drop nd'⟩
  · rintro m news h tk _ F N
    exact done m news h tk F N
  · obtain ⟨p, hp, e⟩ := List.mem_map.mp hi
    exact absurd (lI p hp) (e ▸ Nat.lt_irrefl _)
end
end Mine
namespace Mine
open PySem.Spec PySem.Calls PyProof.Rows.LCg
theorem off3_nd {I C D : Addr} {oI oC oD : Obj} {l : List (Addr × Obj)} (nd : Nd ((I, oI) :: (C, oC) :: (D, oD) :: l)) : Off3 I C D l := by
  have n1 := List.nodup_cons.mp nd
  have n2 := List.nodup_cons.mp n1.2
  have n3 := List.nodup_cons.mp n2.2
  refine Off3.of fun p hp => ⟨fun e => n1.1 ?_, fun e => n2.1 ?_, fun e => n3.1 ?_⟩
  · exact List.mem_cons_of_mem _ (List.mem_cons_of_mem _ (List.mem_map.mpr ⟨p, hp, e⟩))
  · exact List.mem_cons_of_mem _ (List.mem_map.mpr ⟨p, hp, e⟩)
  · exact List.mem_map.mpr ⟨p, hp, e⟩
theorem nd_ic {I C D : Addr} {oI oC oD : Obj} {l : List (Addr × Obj)} (off : Off3 I C D l) (ne : (@Ne Nat I C) ∧ (@Ne Nat I D) ∧ (@Ne Nat C D)) (nd : Nd l) : Nd ((I, oI) :: (C, oC) :: (D, oD) :: l) := by
  have o := off.mem
  refine List.nodup_cons.mpr ⟨fun hm => ?_, List.nodup_cons.mpr ⟨fun hm => ?_, List.nodup_cons.mpr ⟨fun hm => ?_, nd⟩⟩⟩
  · rcases List.mem_cons.mp hm with e | hm
    · exact ne.1 e
    · rcases List.mem_cons.mp hm with e | hm
      · exact ne.2.1 e
      · obtain ⟨p, hp, e⟩ := List.mem_map.mp hm
        exact (o p hp).1 e
  · rcases List.mem_cons.mp hm with e | hm
    · exact ne.2.2 e
    · obtain ⟨p, hp, e⟩ := List.mem_map.mp hm
      exact (o p hp).2.1 e
  · obtain ⟨p, hp, e⟩ := List.mem_map.mp hm
    exact (o p hp).2.2 e
theorem DEnd.introN {prog : Program} {w : World} {K : Type} [DecidableEq K] {knd : KeyKind prog w K} {h₀ : Heap} {L : Addr} {m : Str → Option Value} {I C D : Addr} {s₁ : Shared} {oI oC oD : Obj} {S : List (Addr × Obj) → Prop} {rest : K → Value → List (Addr × Obj) → Prop} {key y : Value} {h' : Heap} {tk : Nat} {all : List (Addr × Obj)} {k : K}
    (F : Fr h₀ L h' m) (N : News h₀ L h' all) (nd : Nd all) (news' : List (Addr × Obj)) (P : all.Perm ((I, oI) :: (C, oC) :: (D, oD) :: news')) (hk : knd.is k key = true) (hS : S news') (r : Nd news' → rest k y news') :
    DEnd knd h₀ L m s₁ I oI C oC D oD S rest key y { s₁ with heap := h', toks := tk } :=
  have nd2 := nd_perm nd P
  ⟨h', tk, news', k, rfl, F, news_perm N P, off3_nd nd2, hS, hk, r (nd_drop (nd_drop (nd_drop nd2)))⟩
theorem two_stored {w : World} {o : Obj} {a b : Value} (h : o.IsDictOf (intKind Pg w) (stored (stored [] 1 a) 2 b)) : o.IsDictOf (intKind Pg w) [((1 : Int), a), (2, b)] := h
end Mine
namespace Mine
theorem nd_nil : Nd [] := List.nodup_nil
end Mine
namespace Mine
open PySem.Spec PySem.Calls
theorem getD0 {a b : Int} : [a, b].getD (Int.toNat 0) 0 = a := rfl
theorem getD1 {a b : Int} : [a, b].getD (Int.toNat 1) 0 = b := rfl
theorem two_start {w : World} {h₀ h : Heap} {L D1 D2 O1 O2 : Addr} {oRW o1 o2 : Obj} {n1 n2 : Nat} {t1 t2 : Tok} {r cur : List (Addr × Obj)} (_hRW : oRW.IsDictOf (intKind Pg w) [((1 : Int), Value.ref D1), (2, Value.ref D2)]) (N : News h₀ L h cur) (_m1 : (D1, o1) ∈ cur) (_m2 : (D2, o2) ∈ cur)
    (h1 : o1.IsDictOf (strKind Pg w) (rowsOf O1 (.str (Str.ofString "") t1) .none false)) (h2 : o2.IsDictOf (strKind Pg w) (rowsOf O2 (.str (Str.ofString "") t2) .none false)) (nd : Nd cur) (P : cur.Perm ((D1, o1) :: (O1, listOf #[] n1) :: (D2, o2) :: (O2, listOf #[] n2) :: r)) {R : Prop}
    (next : ∀ lp, Two w [] (fun _ => St.start) D1 D2 lp → News h₀ L h (r ++ lp) → Nd (r ++ lp) → R) : R := by
  have P2 : cur.Perm (r ++ ([(D1, o1), (O1, listOf #[] n1)] ++ [(D2, o2), (O2, listOf #[] n2)])) := P.trans (List.perm_append_comm (l₁ := [(D1, o1), (O1, listOf #[] n1), (D2, o2), (O2, listOf #[] n2)]))
  exact next _ (two_init h1 h2) (news_perm N P2) (nd_perm nd P2)
end Mine
namespace Mine
open PySem.Spec PySem.Calls
theorem look_w {w : World} {A : Around} {E : Value → Shared → Prop} {s : Shared} {h₀ : Heap} {L D D1 D2 RW : Addr} {oRW : Obj} {Q : Value → Shared → Prop} {cur : List (Addr × Obj)} {value slice : PySem.Expr} {p : Int} {u : Tok}
    (hv : valueAt [((1 : Int), Value.ref D1), (2, Value.ref D2)] p = some (.ref D)) (hRW : oRW.IsDictOf (intKind Pg w) [((1 : Int), Value.ref D1), (2, Value.ref D2)]) (N : News h₀ L s.heap cur) (hm : (RW, oRW) ∈ cur) (next : Q (.ref D) { s with toks := s.toks + 1 })
    (hs : subscripted slice false (.ref RW) (.int p u) = operate [.ref RW, .int p u] (getItem (.ref RW) (.int p u)) := by with_unfolding_all rfl) (hg : ∀ r, letTemporaryGo value (.ref RW) r = pure () := by intro _; with_unfolding_all rfl) :
    wpAny (model Pg w) A (subscriptTail value slice (.ref RW) (.int p u)) Q E s :=
  kda_item N hm hRW (intKind_is _ _ _ _) hv next hs hg
theorem ne_ans {n1 n2 : Ans} {a b : St} {c : St} {now : Int} {P : Prop} (h : (ansS n1 != ansS n2) = true) (e1 : n1 = stands a.held) (e2 : n2 = stands b.held) (ha : a = letgo c now) (hb : b = letgo c now) : P := by
  subst ha hb e1 e2
  simp at h
end Mine
namespace Mine
open PySem.Spec PySem.Calls
/-- what lies behind a statement that may turn the ports -/
def JPost (w : World) (h₀ : Heap) (L GR aS : Addr) (m : Str → Option Value) (D1 D2 : Addr) (fx : List (Addr × Obj)) (s₁ : Shared) (fl : Flow) (s₂ : Shared) : Prop :=
  fl = .next ∧ ∃ h' tk es' st' oR' sg' lp', s₂ = { s₁ with heap := h', toks := tk } ∧ Fr h₀ L h' m ∧ oR'.IsDictOf (intKind Pg w) es' ∧ Two w es' st' D1 D2 lp' ∧ Src aS sg' ∧ News h₀ L h' ((GR, oR') :: (fx ++ (sg' ++ lp'))) ∧ Nd ((GR, oR') :: (fx ++ (sg' ++ lp')))
theorem jpost_intro {w : World} {h₀ h' : Heap} {L GR aS : Addr} {oR' : Obj} {m : Str → Option Value} {st' : Int → St} {es' : List (Int × Value)} {D1 D2 : Addr} {fx sg' lp' junk cur : List (Addr × Obj)} {s₁ : Shared} {tk : Nat}
    (hR : oR'.IsDictOf (intKind Pg w) es') (hT : Two w es' st' D1 D2 lp') (hS : Src aS sg') (F : Fr h₀ L h' m) (N : News h₀ L h' cur) (nd : Nd cur)
    (P : cur.Perm ((GR, oR') :: (fx ++ (sg' ++ (lp' ++ junk))))) : JPost w h₀ L GR aS m D1 D2 fx s₁ .next { s₁ with heap := h', toks := tk } := by
  have P2 : cur.Perm (((GR, oR') :: (fx ++ (sg' ++ lp'))) ++ junk) := P.trans (List.Perm.of_eq (by simp))
  refine ⟨rfl, _, _, es', _, oR', sg', lp', rfl, F, hR, hT, hS, fun q hq => news_perm N P2 q (List.mem_append_left _ hq), ?_⟩
  have := nd_perm nd P2
  unfold Nd at this ⊢
  rw [List.map_append] at this
  exact (List.nodup_append.mp this).1
theorem if_join {w : World} {A : Around} {E : Value → Shared → Prop} {s : Shared} {env : Env} {h₀ : Heap} {Q : Flow → Shared → Prop} {test : Expr} {body orelse : List Stmt} {pos : PySem.Pos} {GR aS D1 D2 L : Addr} {m : Str → Option Value} {es : List (Int × Value)} {st : Int → St} {oR : Obj} {fx sg lp cur : List (Addr × Obj)}
    (_F : Fr h₀ L s.heap m) (_N : News h₀ L s.heap cur) (_hT : Two w es st D1 D2 lp) (_hS : Src aS sg) (_hR : oR.IsDictOf (intKind Pg w) es) (_P : cur.Perm ((GR, oR) :: (fx ++ (sg ++ lp))))
    (h : wpAny (model Pg w) A (exec (.If test body orelse pos) env) (JPost w h₀ L GR aS m D1 D2 fx s) E s)
    (next : ∀ h' tk es' st' oR' sg' lp', oR'.IsDictOf (intKind Pg w) es' → Two w es' st' D1 D2 lp' → Src aS sg' → Fr h₀ L h' m → News h₀ L h' ((GR, oR') :: (fx ++ (sg' ++ lp'))) → Nd ((GR, oR') :: (fx ++ (sg' ++ lp'))) → Q .next { s with heap := h', toks := tk }) :
    wpAny (model Pg w) A (exec (.If test body orelse pos) env) Q E s := by
  refine wpAny_mono h (fun f s₂ q => ?_) fun _ _ e => e
  obtain ⟨rfl, h', tk, es', st', oR', sg', lp', rfl, F', hR', hT', hS', N', nd'⟩ := q
  exact next h' tk es' st' oR' sg' lp' hR' hT' hS' F' N' nd'
theorem post_gen {M : Model} {A : Around} {t : Sem Flow} {s S : Shared} {Q₀ : Flow → Shared → Prop} {E₀ : Value → Shared → Prop} {h₀ : Heap} {L : Addr} (hret : ∀ h tk m, Fr h₀ L h m → Q₀ (.ret (.bool true)) { s with heap := h, toks := tk })
    (go : ∀ (Q : Flow → Shared → Prop) (E : Value → Shared → Prop), (∀ h tk m, Fr h₀ L h m → Q (.ret (.bool true)) { s with heap := h, toks := tk }) → wpAny M A t Q E S) : wpAny M A t Q₀ E₀ S := go Q₀ E₀ hret
end Mine

theorem Mine.rules_j19 : True := by
  w_top off
  k_with_none
  k_with "k_ne" => (first | exact Mine.nq (by with_reducible assumption) | exact Mine.nqs (by with_reducible assumption))
  k_with "call builtin:list.pop" => ((k_here; (with_reducible show wpAny _ _ (call (Value.builtin _) [Value.ref _, Value.int _ _]) _ _ _); k_dflt (refine' Mine.pop0 ?z595F ?z595N ?z595U ?z595z ?_; (case z595F => k_asm); (case z595N => k_asm); (case z595U => k_upd); (case z595z => first | assumption | omega)); intro h' F' N'; (try dsimp only [List.nil_append, List.cons_append] at N')))
  k_with "tb_start" => (first | assumption | (refine List.Mem.tail _ ?_; tb_start))
  k_with "ktr_rel" => (first
      | with_reducible assumption
      | (refine' Mine.ncons ?z597N ?z597m ?z597r; (case z597N => k_asm); (case z597m => k_mem); (case z597r => ktr_rel))
      | (refine' Mine.nrest ?z597N ?z597m; (case z597N => k_asm); (case z597m => (intro p hp; tb_start))))
  k_with "ktr_room" => (first | exact Mine.rm1 (by assumption) rfl | exact Mine.rm0 (by assumption) | exact Mine.rmS (Mine.rm1 (by assumption) rfl) | exact Mine.rmS (Mine.rmS (Mine.rm1 (by assumption) rfl)) | exact Mine.rmN rfl | ((try simp only [depth_under_make, depth_under_kw, depth_in1, depth_deeper, depth_caller]); (try dsimp only [ktrTop]); omega))
  k_with "k_room" => (ktr_room)
  k_with "units_room" => (first | exact Mine.rm1 (by assumption) rfl | exact Mine.rm0 (by assumption) | exact Mine.rmS (Mine.rm1 (by assumption) rfl) | exact Mine.rmS (Mine.rmS (Mine.rm1 (by assumption) rfl)) | exact Mine.rmS (Mine.rmS (Mine.rmS (Mine.rm1 (by assumption) rfl))) | exact Mine.rmN rfl | ((try simp only [units_under_make, units_in1, units_deeper, Around.mark_units, units_caller]); (try dsimp only [ktrTop]); omega))
  k_with "k_units" => (units_room)
  k_with "k_enter" => (ktr_enter)
  k_with "k_all" => (first | exact Mine.ne_sub (by assumption) (by intro p hp; tb_start) | exact Mine.ne_sub2 (by assumption) (by intro p hp; tb_start))
  k_with "eval DictComp" => ((k_here; k_dflt (refine Mine.DictComp_T (PySem.strKind _ _) (by k_asm) (by rfl) (by rfl) (by decide) (by rfl) (by decide) (by rfl) ?_ (fun _ => by with_unfolding_all rfl))))
  k_with "Exists" => ((k_here; k_dflt (refine ⟨_, _, _, rfl, by k_asm, by k_asm, Mine.tup_of_K (by k_asm) (by k_is), fun g₂ => ?_⟩)))
  k_with "DRest" => ((with_unfolding_all first
      | (refine Mine.DRest.succ (by rw [sizeLine_eq]; exact Nat.le_of_ble_eq_true rfl) ?_; intro v' I' oI' C' oC' D' oD' m' h' tk' E' hv' hC' hx' hoD' F' N' off' ne'; lcg_open hv'; (try simp only [LCg.Off3, and_true] at off'))
      | refine Mine.DRest.zero ?_))
  k_with "DEnd" => ((refine Mine.DEnd.intro (by assumption) (by assumption) _ (strKind_is _ _ _ _) (fun _ h => h) (by assumption) True.intro ?_))
  k_with "DFinE" => ((intro D' oD' h' tk' hoD' F' N' o1'; (have o2' := Mine.off1_mem o1'); (try simp only [LCg.Off1, and_true] at o1'); (try dsimp only)))
  k_with "kd_mem" => (first | exact Mine.Pos.head | exact Mine.PosF.head | (refine' Mine.Pos.tail ?z609p; (case z609p => kd_mem)) | (refine' Mine.PosF.tail ?z609p; (case z609p => kd_mem)))
  k_with "k_upd" => ((refine' Mine.upd_nd ?z610nd ?z610e ?z610p; (case z610nd => assumption); (case z610e => rfl); (case z610p => kd_mem)))
  k_with "k_updF" => (first | (refine' Mine.updF_nd ?z611nd ?z611e ?z611p; (case z611nd => assumption); (case z611e => rfl); (case z611p => kd_mem)) | (refine' UpdF.head ?z611a; (case z611a => k_all)) | (refine' UpdF.tail ?z611a ?z611b; (case z611a => k_ne); (case z611b => k_updF)))
  k_with "kd_p1" => (first | exact Mine.pk_head | (refine' Mine.pk_tail ?z612h; (case z612h => kd_p1)))
  k_with "kst_p" => (first | exact Mine.sg_here | exact Mine.sg_end | (refine' Mine.sg_tail ?z613h; (case z613h => kst_p)) | (refine' Mine.sg_app ?z613h; (case z613h => kst_p)))
  k_with "kd_p" => (first | exact List.Perm.refl _ | (refine' Mine.pk_cons ?z614h ?z614g; (case z614h => kd_p1); (case z614g => kd_p)) | (refine' Mine.pk_seg ?z614h; (case z614h => kst_p)))
  k_with "tb_rel" => (first | assumption | exact Mine.nd3 (by assumption) | exact Mine.nd3 (Mine.nd3 (by assumption)) | (refine' Mine.nd_of ?z615nd ?z615e; (case z615nd => assumption); (case z615e => rfl)) | (refine' Mine.nd_new ?z615h ?z615e ?z615n; (case z615h => assumption); (case z615e => rfl); (case z615n => tb_rel)) | (refine' Mine.nd_new2 ?z615h ?z615g ?z615e ?z615n; (case z615h => assumption); (case z615g => assumption); (case z615e => rfl); (case z615n => tb_rel)) | (refine' Mine.nd_new1 ?z615h ?z615e ?z615n; (case z615h => assumption); (case z615e => rfl); (case z615n => tb_rel)))
  k_with "subscriptTail" => ((k_here; k_dflt (first
      | ((with_reducible show wpAny _ _ (subscriptTail _ _ (Value.ref _) (Value.str _ _)) _ _ _); refine kda_item (knd := PySem.strKind _ _) (by k_asm) (by k_mem) (by k_asm) (strKind_is _ _ _ _) (by first | assumption | rfl) ?_)
      | ((with_reducible show wpAny _ _ (subscriptTail _ _ (Value.ref _) (Value.int _ _)) _ _ _); refine kda_item (knd := PySem.intKind _ _) (by k_asm) (by k_mem) (by k_asm) (intKind_is _ _ _ _) (by first | assumption | rfl | exact Mine.val_new (by assumption)) ?_))))
  k_with "setItem ref str" => ((k_here; k_dflt (refine' kda_set (knd := PySem.strKind _ _) ?z617F ?z617N ?z617U ?z617d (strKind_is _ _ _ _) ?z617z ?_; (case z617F => k_asm); (case z617N => k_asm); (case z617U => k_updF); (case z617d => k_asm); (case z617z => first | kob_size | assumption)); intro h' o' F' N' hd'; (try kob_lit); (try dsimp only at N')))
  k_with "setItem ref int" => ((k_here; k_dflt (refine' kda_set (knd := PySem.intKind _ _) ?z618F ?z618N ?z618U ?z618d (intKind_is _ _ _ _) ?z618z ?_; (case z618F => k_asm); (case z618N => k_asm); (case z618U => k_updF); (case z618d => k_asm); (case z618z => first | kob_size | assumption)); intro h' o' F' N' hd'; (try kob_lit); (try dsimp only at N')))
  k_with "compareOp NotIn int ref" => ((k_here; k_dflt (first
      | refine kdg_notin (knd := PySem.intKind _ _) (by k_asm) (by k_mem) (by k_asm) (by k_asm) (intKind_is _ _ _ _) true (by first | assumption | rfl | exact Mine.iss (by assumption) | exact Mine.isn (by assumption)) ?_
      | refine kdg_notin (knd := PySem.intKind _ _) (by k_asm) (by k_mem) (by k_asm) (by k_asm) (intKind_is _ _ _ _) false (by first | assumption | rfl | exact Mine.iss (by assumption) | exact Mine.isn (by assumption)) ?_); (try dsimp only [Bool.not_true, Bool.not_false])))
  k_with "getItem ref int" => ((k_here; k_dflt (refine Mine.get_dict (knd := PySem.intKind _ _) (by k_asm) (by k_mem) (by k_asm) (intKind_is _ _ _ _) (by first | assumption | rfl | exact Mine.val_new (by assumption)) ?_)))
  k_with "getItem ref str" => ((k_here; k_dflt (refine Mine.get_dict (knd := PySem.strKind _ _) (by k_asm) (by k_mem) (by k_asm) (strKind_is _ _ _ _) (by first | assumption | rfl) ?_)))
  k_with "execs cons" => (((with_reducible refine Mine.st_norm s rfl rfl rfl ?_); intro tk'))
  k_with "call ref" => ((k_here; (with_reducible show wpAny _ _ (call (Value.ref 237) _) _ _ _); k_dflt (refine' Mine.pool_c ?z623B ?z623F ?z623X ?z623T ?z623k ?z623d ?z623u ?z623N ?z623P1 ?z623nd ?z623hP ?z623hI ?z623hl ?z623iv ?z623hv ?_; (case z623B => k_asm); (case z623F => k_asm); (case z623X => k_asm); (case z623T => k_asm); (case z623k => first | exact rfl | assumption); (case z623d => ktr_room); (case z623u => units_room); (case z623hP => assumption); (case z623hI => assumption); (case z623hl => (simp only [Int.not_lt] at *; omega)); (case z623N => k_asm); (case z623P1 => kd_p); (case z623nd => tb_rel); (case z623iv => exact (IntsAre.cons _ _ (IntsAre.cons _ _ (IntsAre.cons _ _ (IntsAre.cons _ _ (IntsAre.cons _ _ (IntsAre.cons _ _ (IntsAre.cons _ _ (IntsAre.cons _ _ (IntsAre.cons _ _ (IntsAre.cons _ _ (IntsAre.cons _ _ (IntsAre.cons _ _ (IntsAre.cons _ _ (IntsAre.cons _ _ (IntsAre.cons _ _ (IntsAre.cons _ _ (IntsAre.cons _ _ (IntsAre.cons _ _ (IntsAre.cons _ _ (IntsAre.cons _ _ (IntsAre.cons _ _ (IntsAre.cons _ _ (IntsAre.cons _ _ (IntsAre.cons _ _ IntsAre.nil))))))))))))))))))))))))); (case z623hv => (simp only [List.length_cons, List.length_nil]; omega))); (intro h' tk' aS' sg' hS' F' N' nd'; (try simp only [List.cons_append, List.append_assoc, List.nil_append, List.append_nil] at N'); (try simp only [List.cons_append, List.append_assoc, List.nil_append, List.append_nil] at nd'); (try dsimp only))))
  k_with "call ref" => ((k_here; (with_reducible show wpAny _ _ (call (Value.ref 244) _) _ _ _); k_dflt (refine' Mine.take_o ?z624B ?z624F ?z624X ?z624T ?z624k ?z624d ?z624u ?z624N ?z624P1 ?z624nd ?z624hS ?z624h1 ?z624h2 ?_; (case z624B => k_asm); (case z624F => k_asm); (case z624X => k_asm); (case z624T => k_asm); (case z624k => first | exact rfl | assumption); (case z624d => ktr_room); (case z624u => units_room); (case z624hS => assumption); (case z624N => k_asm); (case z624P1 => kd_p); (case z624nd => tb_rel); (case z624h1 => omega); (case z624h2 => omega)); (intro h' tk' v' tv' sg' v0' v1' hS' F' N' nd'; (try simp only [List.cons_append, List.append_assoc, List.nil_append, List.append_nil] at N'); (try simp only [List.cons_append, List.append_assoc, List.nil_append, List.append_nil] at nd'); (try dsimp only))))
  k_with "call ref" => ((k_here; (with_reducible show wpAny _ _ (call (Value.ref 251) _) _ _ _); k_dflt (refine' Mine.one_c ?z625B ?z625F ?z625X ?z625T ?z625k ?z625d ?z625u ?z625N ?z625P1 ?z625nd ?z625hS ?z625h1 ?z625h2 ?z625hh ?_; (case z625B => k_asm); (case z625F => k_asm); (case z625X => k_asm); (case z625T => k_asm); (case z625k => first | exact rfl | assumption); (case z625d => ktr_room); (case z625u => units_room); (case z625hS => assumption); (case z625N => k_asm); (case z625P1 => kd_p); (case z625nd => tb_rel); (case z625h1 => exact Nat.le_of_ble_eq_true rfl); (case z625h2 => exact Nat.le_of_ble_eq_true rfl); (case z625hh => exact Mine.handed_ints (by first | exact (IntsAre.cons _ _ (IntsAre.cons _ _ IntsAre.nil)) | exact (IntsAre.cons _ _ (IntsAre.cons _ _ (IntsAre.cons _ _ IntsAre.nil))) | exact (IntsAre.cons _ _ (IntsAre.cons _ _ (IntsAre.cons _ _ (IntsAre.cons _ _ (IntsAre.cons _ _ IntsAre.nil)))))))); (intro h' tk' v' sg' hv' hS' F' N' nd'; (obtain ⟨n', t', hn1, hp'⟩ := Mine.pos_of hv' (by first | exact (IntsAre.cons _ _ (IntsAre.cons _ _ IntsAre.nil)) | exact (IntsAre.cons _ _ (IntsAre.cons _ _ (IntsAre.cons _ _ IntsAre.nil))) | exact (IntsAre.cons _ _ (IntsAre.cons _ _ (IntsAre.cons _ _ (IntsAre.cons _ _ (IntsAre.cons _ _ IntsAre.nil)))))) (by decide)); subst hn1; clear hv'; (try simp only [List.cons_append, List.append_assoc, List.nil_append, List.append_nil] at N'); (try simp only [List.cons_append, List.append_assoc, List.nil_append, List.append_nil] at nd'); (try dsimp only))))
  k_with "call ref" => ((k_here; (with_reducible show wpAny _ _ (call (Value.ref 291) _) _ _ _); k_dflt (refine' Mine.deed_c ?z626B ?z626F ?z626X ?z626T ?z626XB ?z626TB ?z626k ?z626d ?z626u ?z626d5 ?z626u5 ?z626N ?z626P1 ?z626nd ?z626hR ?z626lo ?z626hRW ?z626hT ?z626hS ?z626hrc ?_; (case z626B => k_asm); (case z626F => k_asm); (case z626X => k_asm); (case z626T => k_asm); (case z626k => first | exact rfl | assumption); (case z626d => ktr_room); (case z626u => units_room); (case z626XB => assumption); (case z626TB => assumption); (case z626d5 => ktr_room); (case z626u5 => units_room); (case z626hT => assumption); (case z626hS => assumption); (case z626hRW => assumption); (case z626N => k_asm); (case z626P1 => kd_p); (case z626nd => tb_rel); (case z626hR => assumption); (case z626lo => exact Mine.lo_of (by assumption) (by assumption) (by news_mem)); (case z626hrc => assumption)); (intro h' tk' oR' es' st' sg' lp' hR' hT' hS' F' N' nd'; (try simp only [List.cons_append, List.append_assoc, List.nil_append, List.append_nil] at N'); (try simp only [List.cons_append, List.append_assoc, List.nil_append, List.append_nil] at nd'); (try dsimp only))))
  k_with "call ref" => ((k_here; (with_reducible show wpAny _ _ (call (Value.ref 296) _) _ _ _); k_dflt (refine' Mine.expr_c ?z627B ?z627F ?z627X ?z627T ?z627k ?z627d ?z627u ?z627N ?z627P1 ?z627nd ?z627hR ?z627lo ?z627hRW ?z627hT ?_; (case z627B => k_asm); (case z627F => k_asm); (case z627X => k_asm); (case z627T => k_asm); (case z627k => first | exact rfl | assumption); (case z627d => ktr_room); (case z627u => units_room); (case z627hT => assumption); (case z627hRW => assumption); (case z627N => k_asm); (case z627P1 => kd_p); (case z627nd => tb_rel); (case z627hR => assumption); (case z627lo => exact Mine.lo_of (by assumption) (by assumption) (by news_mem))); (intro h' tk' oR' lp' hR' hT' F' N' nd'; (try simp only [List.cons_append, List.append_assoc, List.nil_append, List.append_nil] at N'); (try simp only [List.cons_append, List.append_assoc, List.nil_append, List.append_nil] at nd'); (try dsimp only))))
  k_with "call ref" => ((k_here; (with_reducible show wpAny _ _ (call (Value.ref 265) _) _ _ _); k_dflt (refine' Mine.letgoL_c ?z628B ?z628F ?z628X ?z628T ?z628k ?z628d ?z628u ?z628N ?z628P1 ?z628nd ?z628hD ?_; (case z628B => k_asm); (case z628F => k_asm); (case z628X => k_asm); (case z628T => k_asm); (case z628k => first | exact rfl | assumption); (case z628d => ktr_room); (case z628u => units_room); (case z628N => k_asm); (case z628P1 => kd_p); (case z628nd => tb_rel); (case z628hD => assumption)); (intro h' tk' oD' a1' hA' hD' F' N' nd'; (try simp only [List.cons_append, List.append_assoc, List.nil_append, List.append_nil] at N'); (try simp only [List.cons_append, List.append_assoc, List.nil_append, List.append_nil] at nd'); (try dsimp only))))
  k_with "call ref" => ((k_here; (with_reducible show wpAny _ _ (call (Value.ref 123) _) _ _ _); k_dflt (refine' Mine.state_c ?z629B ?z629F ?z629X ?z629T ?z629k ?z629d ?z629u ?z629N ?z629P1 ?z629nd ?z629hR ?z629hs ?z629P2 ?z629lo ?_; (case z629B => k_asm); (case z629F => k_asm); (case z629X => k_asm); (case z629T => k_asm); (case z629k => first | exact rfl | assumption); (case z629d => ktr_room); (case z629u => units_room); (case z629N => k_asm); (case z629P1 => kd_p); (case z629nd => tb_rel); (case z629hR => assumption); (case z629hs => assumption); (case z629P2 => kd_p); (case z629lo => exact Mine.lo_of (by assumption) (by assumption) (by news_mem))); (intro h' tk' W' oR' es' seg' a1' an' v' hA' hAn' hV' hE' hSg' hS' hR' F' N' nd'; (obtain ⟨tv', hv'⟩ := hV'.str); subst hv'; (try simp only [List.cons_append, List.append_assoc, List.nil_append, List.append_nil] at N'); (try simp only [List.cons_append, List.append_assoc, List.nil_append, List.append_nil] at nd'); (try dsimp only))))
  k_with "call ref" => ((k_here; (with_reducible show wpAny _ _ (call (Value.ref 272) _) _ _ _); k_dflt (refine' Mine.standsL_c ?z630B ?z630F ?z630X ?z630T ?z630k ?z630d ?z630u ?z630N ?z630P1 ?z630hD ?_; (case z630B => k_asm); (case z630F => k_asm); (case z630X => k_asm); (case z630T => k_asm); (case z630k => first | exact rfl | assumption); (case z630d => ktr_room); (case z630u => units_room); (case z630N => k_asm); (case z630P1 => kd_p); (case z630hD => assumption)); (intro h' tk' v' an' hA' hV' F' N'; (obtain ⟨tv', hv'⟩ := hV'.str); subst hv'; (try simp only [List.cons_append, List.append_assoc, List.nil_append, List.append_nil] at N'); (try simp only [List.cons_append, List.append_assoc, List.nil_append, List.append_nil] at nd'); (try dsimp only))))
  k_with "subscriptTail" => ((k_here; (with_reducible show wpAny _ _ (subscriptTail _ _ (Value.ref _) (Value.int _ _)) _ _ _); k_dflt (refine' Mine.pick_w ?z631N ?z631nd ?z631P ?z631hRW ?z631hT ?z631hp ?_; (case z631N => k_asm); (case z631hRW => assumption); (case z631hT => assumption); (case z631P => kd_p); (case z631nd => tb_rel); (case z631hp => assumption)); (intro D' O' oD' vs' ss' n' seg' lo' hv' hD' hV' hO' hK' hS' hC' N' nd'; (try simp only [List.cons_append, List.append_assoc, List.nil_append, List.append_nil] at N'); (try simp only [List.cons_append, List.append_assoc, List.nil_append, List.append_nil] at nd'); (try dsimp only))))
  k_with "exec For Name List cons nil" => ((k_here; (rename Fr _ _ _ _ => lF'); (with_unfolding_all refine' For_invVF lF' ?z632k1 ?z632k2 ?_; (case z632k1 => exact rfl); (case z632k2 => exact rfl); k_whole)))
  k_with "exec For Name Call cons nil" => ((k_here; (rename Fr _ _ _ _ => lF'); (with_unfolding_all refine' For_invVF lF' ?z633k1 ?z633k2 ?_; (case z633k1 => exact rfl); (case z633k2 => exact rfl); k_whole)))
  k_with "pyIter ref" => ((k_here; (with_reducible show wpAny _ _ (pyIter (Value.ref _)) (fun it s₂ => LoopAtV _ _ _ _ _ _ _ _ _ it s₂) _ _); k_dflt (refine' Mine.loopR (y := Str.ofString "port") (n := Str.ofString "now") ?z634hh ?z634hr ?z634b0 ?z634b1 ?z634F ?z634hn ?z634N ?z634nd ?z634hR ?z634hT ?z634hS ?z634P ?_ ?_; (case z634hh => exact rfl); (case z634hr => assumption); (case z634b0 => omega); (case z634b1 => omega); (case z634F => k_asm); (case z634hn => with_unfolding_all rfl); (case z634N => k_asm); (case z634nd => tb_rel); (case z634hT => assumption); (case z634hS => assumption); (case z634hR => assumption); (case z634P => kd_p)); (all_goals first | (intro k' t' nw' tn' u' es' st' oR' sg' lp' I' it' h' tk' hR' hT' hS' F' N' nd'; (try simp only [List.cons_append, List.append_assoc, List.nil_append, List.append_nil] at N' nd')) | (intro m' news' h' tk' F' N'))))
  k_with "pyIter ref" => ((k_here; (with_reducible show wpAny _ _ (pyIter (Value.ref _)) (fun it s₂ => LoopAtV _ _ _ _ _ _ _ _ _ it s₂) _ _); k_dflt (refine' Mine.loopP ?z635hh ?z635F ?z635N ?z635nd ?z635hR ?z635hT ?z635P ?z635hm ?_ ?_; (case z635hh => exact rfl); (case z635F => k_asm); (case z635N => k_asm); (case z635nd => tb_rel); (case z635hT => assumption); (case z635hR => assumption); (case z635P => kd_p); (case z635hm => news_mem)); (all_goals first | (intro p' t' es' st' oR' lp' I' it' h' tk' hp' hR' hT' F' N' nd'; (try simp only [List.cons_append, List.append_assoc, List.nil_append, List.append_nil] at N' nd')) | (intro es' st' oR' lp' h' tk' u1' hR' hT' F' N' nd'; (try simp only [List.cons_append, List.append_assoc, List.nil_append, List.append_nil] at N' nd')))))
  k_with "exec Assign cons DictComp" => ((k_here; k_dflt (refine Mine.Assign_DictComp_L (PySem.intKind _ _) (by k_asm) (by rfl) (by rfl) (by rfl) (by rfl) (by decide) (by rfl) (by decide) (by rfl) (by rfl) (by rfl) ?_ (fun _ => by with_unfolding_all rfl))))
  k_with "Exists" => ((k_here; k_dflt (refine ⟨_, _, _, rfl, by k_asm, by k_asm, Or.inr ⟨_, by news_mem, rfl, _, rfl⟩, fun g₂ => ?_⟩)))
  k_with "DRest" => ((with_unfolding_all first | (refine Mine.DRest.succ (by rw [sizeLine_eq]; exact Nat.le_of_ble_eq_true rfl) ?_; intro v' I' oI' C' oC' D' oD' m' h' tk' E' hv' hC' hx' hoD' F' N' off' ne'; lcg_open hv'; clear hoD'; (have offk := off'); (try simp only [LCg.Off3, and_true] at off')) | refine Mine.DRest.zero ?_))
  k_with "DEnd" => ((k_dflt (refine' Mine.DEnd.introN ?z639F ?z639N ?z639nd _ ?z639P (intKind_is _ _ _ _) ?z639hS ?_; (case z639F => k_asm); (case z639N => k_asm); (case z639nd => tb_rel); (case z639P => kd_p); (case z639hS => exact Or.inr ⟨_, by news_mem, rfl, _, rfl⟩)); intro nd'))
  k_with "DFinA" => ((intro D' oD' h' tk' hoD' F' N' o1'; (replace hoD' := Mine.two_stored hoD'); (try simp only [Mine.getD0, Mine.getD1] at N'); k_dflt (refine' Mine.two_start ?z640hRW ?z640N ?z640m1 ?z640m2 ?z640h1 ?z640h2 ?z640nd ?z640P ?_; (case z640hRW => assumption); (case z640N => assumption); (case z640m1 => news_mem); (case z640m2 => news_mem); (case z640h1 => assumption); (case z640h2 => assumption); (case z640nd => tb_rel); (case z640P => ktn_open)); clear N'; intro lp' hT' N' nd'; (try simp only [List.cons_append, List.append_assoc, List.nil_append, List.append_nil] at N' nd'); (try dsimp only)))
  k_with "tb_rel" => ((refine' Mine.nd_ic ?z641h ?z641g ?z641n; (case z641h => assumption); (case z641g => assumption); (case z641n => tb_rel)))
  k_with "tb_rel" => ((refine' Mine.nd_off1 ?z642h ?z642n; (case z642h => assumption); (case z642n => tb_rel)))
  k_with "kd_p" => (first | exact List.Perm.refl _ | (refine' Mine.pk_seg2 ?z643h ?z643g; (case z643h => kst_p); (case z643g => kst_p)))
  k_with "kd_p1" => ((refine' Mine.pk_over ?z644h; (case z644h => kd_p1)))
  k_with "ktn_open" => (first | exact List.Perm.refl _ | (refine' Mine.pk_cons ?z645h ?z645g; (case z645h => kd_p1); (case z645g => ktn_open)) | (refine' Mine.pk_app ?z645h ?z645g; (case z645h => kst_p); (case z645g => ktn_open)))
  k_with "tb_rel" => (exact Mine.nd_nil)
  k_with "subscriptTail" => ((k_here; (with_reducible show wpAny _ _ (subscriptTail _ _ (Value.ref _) (Value.int _ _)) _ _ _); k_dflt (refine' Mine.look_w ?z647hv ?z647hRW ?z647N ?z647hm ?_; (case z647hv => assumption); (case z647hRW => assumption); (case z647N => k_asm); (case z647hm => news_mem))))
  k_with "exec If" => ((k_here; (with_reducible show wpAny _ _ (exec (Stmt.If (Expr.BoolOp _ _ _) _ _ _) _) _ _ _); (fail_if_success (with_reducible show wpAny _ _ _ (Mine.JPost _ _ _ _ _ _ _ _ _ _) _ _)); k_dflt (refine' Mine.if_join ?z648F ?z648N ?z648hT ?z648hS ?z648hR ?z648P ?_ ?_; (case z648F => k_asm); (case z648N => k_asm); (case z648hT => assumption); (case z648hS => assumption); (case z648hR => assumption); (case z648P => kd_p)); (all_goals first | (intro h' tk' es' st' oR' sg' lp' hR' hT' hS' F' N' nd'; (try simp only [List.cons_append, List.append_assoc, List.nil_append, List.append_nil] at N' nd'); (try dsimp only)) | skip)))
  trivial

namespace Mine
theorem law_try : PySem.Challenge.rw_pc0370_01.Holds := hd (by
  k_go0
  all_goals ((try k_unmd); k_fold)
  rename Shared => s
  rename Below _ _ _ _ => K9
  replace K9 : Below callerA s.heap [] s.heap := K9
  k_steps
  all_goals first
    | (refine' Mine.jpost_intro ?hR ?hT ?hS ?F ?N ?nd ?P
       case hT => assumption
       case hR => assumption
       case hS => assumption
       case F => assumption
       case N => assumption
       case nd => tb_rel
       case P => ((try simp only [List.cons_append, List.append_assoc, List.nil_append, List.append_nil]); ktn_open))
    | (refine' Mine.rpost_intro ?hR ?hT ?hS ?F ?N ?nd ?P ?hn ?hm
       case hT => assumption
       case hR => assumption
       case hS => assumption
       case F => assumption
       case N => assumption
       case nd => tb_rel
       case P => ((try simp only [List.cons_append, List.append_assoc, List.nil_append, List.append_nil]); ktn_open)
       case hn => with_unfolding_all rfl
       case hm => exact fun z h1 h2 h3 => (by simp only [if_neg h1, if_neg h2, if_neg h3]))
    | exact Mine.ne_ans (by assumption) (by assumption) (by assumption) (by assumption) (by assumption)
    | (rename (_ = Mine.letgo _ _) => e9
       subst e9
       rename (_ = Mine.letgo _ _) => e9
       subst e9
       refine' Mine.ppost_intro ?hc ?hl ?hs ?he ?hv ?hO ?hok ?hR ?F ?N ?nd ?P ?hm
       case hc => assumption
       case hl => assumption
       case hs => assumption
       case he => exact .inr ⟨_, by assumption⟩
       case hv => assumption
       case hO => exact Mine.OnL.letgo (by assumption)
       case hok => exact Mine.StOk.letgo (by assumption)
       case hR => assumption
       case F => assumption
       case N => assumption
       case nd => tb_rel
       case P => ((try simp only [List.cons_append, List.append_assoc, List.nil_append, List.append_nil]); ktn_open)
       case hm => exact fun z h => if_neg h)
    | fail)
end Mine

theorem PySem.Challenge.cw_pc0370_01_holds : PySem.Challenge.rw_pc0370_01.Holds := by
  exact Mine.law_try
