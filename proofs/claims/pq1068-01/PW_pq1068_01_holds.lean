import PyProof.Rows.All
import Wide.All
import OpenK.AllK
import Wide.FinOn
import PySem.Challenge.RW_pq1068_01
set_option Elab.async false
set_option maxRecDepth 100000
set_option compiler.extract_closed false

section
open PySem PySem.W PyProof.Rows
namespace Mine
noncomputable def qv : Program := view PySem.Challenge.pw_pq1068_01 [1, 2, 4, 5, 6, 9, 10, 11, 12, 13, 14, 15, 16, 17]
noncomputable def Hooked (_ : Hook) (P : Prop) : Prop := P
theorem hooked (H : Hook) {P : Prop} (h : Hooked H P) : P := h
theorem linesT1 : True := by
  k_with "head" =>
    (refine (show Hooked ?H9 _ from holds_open (q := qv) (loose := [Str.ofString "walk_chain"]) (Xt := fun s => xlAt qv [] s && recOk (RowW.records (OpenRow.toRowW (OpenLaw.row PySem.Challenge.rw_pq1068_01))) s) (XP := XL qv []) (Yf := Hook.obs ?H9) (Ya := Hook.val ?H9) (YP := Hook.says ?H9) (N := 2366) ?hl (Hook.of ?H9) (Hook.keeps ?H9) (fun s e => xl_of s (Bool.and_eq_true_iff.mp e).1) XL.keeps (by rfl) (by rfl) (by rfl) (fun s e => recFacts_of (Bool.and_eq_true_iff.mp e).2) (by rfl) (by first | assumption | decide +kernel) (by decide +kernel) ⟨rfl, rfl, rfl, rfl, rfl, by decide +kernel⟩ ?hw ?hc))
    (case hl => (intro w; unfold openEnds fencedOpening topFrom; rw [PySem.W.Fast.te10274390034422433532, PySem.W.Fast.te1435165496053646825, PySem.W.Fast.te14082659384304107361, PySem.W.Fast.te14364793385576792824, PySem.W.Fast.te4187177175401517315]; kernel_rfl))
  trivial
local macro_rules | `(tactic| o_head $H) => `(tactic| (refine hooked $H ?_; k_extra "head"))
set_option maxRecDepth 100000 in
set_option maxHeartbeats 8000000 in
open_top hd for PySem.Challenge.rw_pq1068_01

end Mine
end
open PySem PySem.W PyProof.Rows PySem.Calls
local macro_rules | `(tactic| k_room) => `(tactic| ((try simp only [depth_under_make, depth_under_kw, depth_in1, depth_deeper, depth_caller]); (try dsimp only); omega))
local macro_rules | `(tactic| size_fits) => `(tactic| assumption)
local macro_rules | `(tactic| k_all) => `(tactic| assumption)
local macro_rules | `(tactic| walk_at $s:str) => `(tactic| k_extra $s)

section
open PySem PySem.W PyProof.Rows PySem.Calls
namespace Mine
/-- all but M stays -/
theorem sub_cons {α : Type} {a : α} {l all : List α} (h : a ∈ all) (r : ∀ p ∈ l, p ∈ all) : ∀ p ∈ a :: l, p ∈ all := by
  intro p hp
  cases hp with
  | head => exact h
  | tail _ hp => exact r p hp
theorem sub_skip {α : Type} {b : α} {l all : List α} (r : ∀ p ∈ l, p ∈ all) : ∀ p ∈ l, p ∈ b :: all := fun p hp => .tail _ (r p hp)
noncomputable def Keeps (M : List Addr) (h h' : Heap) : Prop := ∀ b o, b ∉ M → h.get? b = some o → h'.get? b = some o

theorem Keeps.of_fr {M : List Addr} {h h' : Heap} {L : Addr} {m : Str → Option Value} (F : Fr (hideAll h M) L h' m) : Keeps M h h' :=
  fun b o hb e => F.keep b o (hideAll_get M e hb)

theorem Keeps.trans {M : List Addr} {h h' h'' : Heap} (a : Keeps M h h') (b : Keeps M h' h'') : Keeps M h h'' :=
  fun c o hc e => b c o hc (a c o hc e)

theorem Keeps.mono {M M' : List Addr} {h h' : Heap} (a : Keeps M h h') (hs : ∀ x ∈ M, x ∈ M') : Keeps M' h h' :=
  fun c o hc e => a c o (fun hm => hc (hs c hm)) e

section
variable {prog : Program} {w : World} {A : Around} {s : Shared} {base : Heap} {outer : List Env} {M : List Addr} {K : Frag} {p : Program} {loose : List Str} {mean : ExcName → Option Value} {mg mb : Str → Option Value}
  {R : Result → Shared → Prop} {name qual : Str} {params : Arguments} {body : List Stmt} {scope : Scope} {dV kV doc pm cdv ct oc : Value} {an od : Option Addr} {osl : Array (Option Value)} {f : Addr} {args : Args} {binds : List (Str × Value)} {news : List (Addr × Obj)}

/-- into a def, the base being all but M -/
theorem enter (B : Below A base outer (hideAll s.heap M)) (X : K.In (hideAll s.heap M)) (T : Top p loose mean mg mb (hideAll s.heap M))
    (hN : ∀ q ∈ news, s.heap.get? q.1 = some q.2 ∧ q.1 ∈ M)
    (ho : K.lookup f = some ⟨oc, od, .func (fnOf name qual params body scope dV kV doc pm an cdv ct), osl⟩) (hcd : codeIn K cdv qual = true) (hroom : A.depth < recursionLimit)
    (hbind : BindsTo s (fnOf name qual params body scope dV kV doc pm an cdv ct) args binds) (hloc : ∀ y ∈ binds, scope.names.lookup y.1 = some .local)
    (h : ∀ g L' h₁, g = hideAll s.heap M → Fr g L' h₁ (fun y => binds.reverse.lookup y) → News g L' h₁ news → Below A base outer g → K.In g → Top p loose mean mg mb g → (∀ q ∈ news, q.1 < L') →
      wpAny (model prog w) (A.deeper (envOf qual scope L' f cdv)) (execs body (envOf qual scope L' f cdv))
        (fun fl s' => R (.ok (.ret (match fl with | .ret v => v | _ => .none))) s')
        (fun e s' => wpAny (model prog w) (A.deeper (envOf qual scope L' f cdv)) (leaving (envOf qual scope L' f cdv) e) (fun _ s'' => R (.error e) s'') (fun e' s'' => R (.error e') s'') s')
        { s with heap := h₁, toks := s.toks + binds.length })
    (hco : scope.isCoroutine = false) (hgen : scope.isGenerator = false) (hk : scope.kind = .function)
    (hcell : ∀ x ∈ scope.names, x.2 ≠ .cell) : codeAny (model prog w) A (.call (.ref f) args) R s := by
  have st : (hideAll s.heap M).StaysIn s.heap := fun b o e => of_hideAll M e
  refine codeAny_call_def (fd := fnOf name qual params body scope dV kV doc pm an cdv ct) (body := body) (binds := binds) hroom (st _ _ (X _ _ ho)) rfl (T.nolimit.keeps st) (codeRec_of (X.keeps st) hcd) rfl hbind hcell hloc (fun h₁ hns hk₁ => ?_) hco hgen hk
  exact h _ s.heap.objs.size h₁ rfl ⟨hns, fun b o e => hk₁ b o (of_hideAll _ e), Nat.le_of_eq (hideAll_size _ _)⟩
    (fun q hq => ⟨hk₁ _ _ (hN q hq).1, Nat.ne_of_lt (Heap.lt_size (hN q hq).1), hideAll_none _ (hN q hq).2⟩) B X T (fun q hq => Heap.lt_size (hN q hq).1)
end

section
variable {w : World} {A : Around} {s : Shared} {base h₀ : Heap} {outer : List Env} {M : List Addr} {K : Frag} {p : Program} {loose : List Str} {mean : ExcName → Option Value} {mg mb : Str → Option Value} {L : Addr} {m : Str → Option Value} {news news' : List (Addr × Obj)} {env : Env}

/-- what a call hands to a def of ours -/
theorem down (B : Below A base outer h₀) (F : Fr h₀ L s.heap m) (X : K.In h₀) (N : News h₀ L s.heap news) (T : Top p loose mean mg mb h₀) (hf : env.frame = some L) (hke : env.scope.kind = .function)
    (hM : ∀ a ∈ M, ∃ o, (a, o) ∈ news) :
    Below (A.deeper env) base (env :: outer) (hideAll s.heap M) ∧ K.In (hideAll s.heap M) ∧ Top p loose mean mg mb (hideAll s.heap M) := by
  have nm : ∀ b o, h₀.get? b = some o → b ∉ M := fun b o e q => by
    obtain ⟨o', hp⟩ := hM b q
    have := (N _ hp).2.2
    rw [e] at this; cases this
  have st : h₀.StaysIn (hideAll s.heap M) := fun b o e => hideAll_get _ (F.keep b o e) (nm b o e)
  obtain ⟨oL, es, ep, hL, hLd, hLk, hLf⟩ := F.ns
  have nL : L ∉ M := fun q => by
    obtain ⟨o', hp⟩ := hM L q
    exact (N _ hp).2.1 rfl
  have B₁ := pushX B F hf hke
  refine ⟨⟨B₁.stack, fun b o e => st b o (B.stays b o e), funFrames_hideAll B₁.frames fun env' he b hb hf' => ?_⟩, X.keeps st, T.keeps st⟩
  cases he with
  | head => exact nL ((Option.some.inj (hf.symm.trans hf') : L = b) ▸ hb)
  | tail _ he =>
    obtain ⟨L₁, o₁, hf₁, ho₁⟩ := funFrames_in B.frames env' he
    rw [hf₁] at hf'
    exact nm L₁ o₁ ho₁ ((Option.some.inj hf' : L₁ = b) ▸ hb)

/-- back from it -/
theorem back {h' : Heap} (F : Fr h₀ L s.heap m) (N : News h₀ L s.heap news) (hM : ∀ a ∈ M, ∃ o, (a, o) ∈ news) (hk : Keeps M s.heap h')
    (hn : ∀ q ∈ news', (q ∈ news ∧ q.1 ∉ M) ∨ (h'.get? q.1 = some q.2 ∧ (q.1 ∈ M ∨ s.heap.get? q.1 = none))) : Fr h₀ L h' m ∧ News h₀ L h' news' := by
  have nm : ∀ b o, h₀.get? b = some o → b ∉ M := fun b o e q => by
    obtain ⟨o', hp⟩ := hM b q
    have := (N _ hp).2.2
    rw [e] at this; cases this
  have nL : L ∉ M := fun q => by
    obtain ⟨o', hp⟩ := hM L q
    exact (N _ hp).2.1 rfl
  obtain ⟨oL, es, ep, hL, hLd, hLk, hLf⟩ := F.ns
  refine ⟨⟨⟨oL, es, ep, hk _ _ nL hL, hLd, hLk, hLf⟩, fun b o e => hk _ _ (nm b o e) (F.keep b o e), F.above⟩, fun q hq => ?_⟩
  rcases hn q hq with ⟨h1, h2⟩ | ⟨h1, h2 | h2⟩
  · exact ⟨hk _ _ h2 (N q h1).1, (N q h1).2⟩
  · obtain ⟨o', hp⟩ := hM _ h2
    exact ⟨h1, (N _ hp).2⟩
  · refine ⟨h1, fun e => ?_, ?_⟩
    · rw [e, hL] at h2; cases h2
    · cases q' : h₀.get? q.1 with
      | none => rfl
      | some o => rw [F.keep _ _ q'] at h2; cases h2
end

end Mine
end

section
open PySem PySem.W PyProof.Rows PySem.Calls
namespace Mine
theorem freshC1 : True := by
  w_top off
  k_with_none
  trivial

/-- the pen: the script, the place, the sum -/
noncomputable abbrev penObj (ls : Addr) (at' c : Int) (t1 t2 : Tok) (n : Nat) : Obj := listOf [.ref ls, .int at' t1, .int c t2].toArray n



set_option maxHeartbeats 8000000 in
theorem next_ok {w : World} {A : Around} {s : Shared} {base : Heap} {outer : List Env} {p : Program} {loose : List Str} {mean : ExcName → Option Value} {mg mb : Str → Option Value} {R : Result → Shared → Prop}
    {pl ls : Addr} {at' c : Int} {t1 t2 : Tok} {n : Nat} {vs : List Value} {ns : List Int}
    (B : Below A base outer (hideAll s.heap [pl])) (X : (hd.heap_39 w.params).In (hideAll s.heap [pl])) (T : Top p loose mean mg mb (hideAll s.heap [pl]))
    (hroom : A.depth + 5 < recursionLimit)
    (hp : s.heap.get? pl = some (penObj ls at' c t1 t2 n)) (hl : (hideAll s.heap [pl]).IsList ls vs.toArray) (hi : IntsAre vs ns) (hlen : ns.length ≤ 63)
    (h0 : 0 ≤ at') (h1 : at' ≤ 100) (hc0 : 0 ≤ c) (hc1 : c < 65521)
    (hR : ∀ h' tk' i tk t1' n', Keeps [pl] s.heap h' → h'.get? pl = some (penObj ls (at' + 1) c t1' t2 n') → R (.ok (.ret (.int i tk))) { s with heap := h', toks := tk' }) :
    codeAny (model PySem.Challenge.rw_pq1068_01.row.prog w) A (.call (.ref 97) ⟨[.ref pl], []⟩) R s := by
  revert X; k_fill; intro X
  refine' enter (news := [(pl, penObj ls at' c t1 t2 n)]) B X T ?hN ?ho ?hcd ?hroom ?hbind ?hloc ?h ?c2 ?c3 ?c4 ?c5
  case hN => intro q hq; simp only [List.mem_singleton] at hq; subst hq; exact ⟨hp, by simp⟩
  case ho => k_is
  case hcd => k_is
  case hroom => omega
  case hbind => exact BindsTo.of_eq rfl
  case hloc => exact locs rfl
  case c2 => exact rfl
  case c3 => exact rfl
  case c4 => exact rfl
  case c5 => decide
  intro g L' h₁ hg F N B' X' T' l1
  subst hg
  dsimp only
  k_fold
  k_steps
  all_goals exact hR _ _ _ _ _ _ (Keeps.of_fr (by assumption)) (News.get (by assumption) (List.Mem.head _))

end Mine
end

section
open PySem PySem.W PyProof.Rows PySem.Calls
namespace Mine
theorem freshC2 : True := by
  w_top off
  k_with_none
  trivial

/-- what stays of the pen -/
structure PenOk (h : Heap) (ls : Addr) (vs : List Value) (ns : List Int) : Prop where
  l : h.IsList ls vs.toArray
  i : IntsAre vs ns
  len : ns.length ≤ 63

theorem PenOk.stays {h h' : Heap} {ls vs ns} (P : PenOk h ls vs ns) (k : h.StaysIn h') : PenOk h' ls vs ns := ⟨stays_list k P.l, P.i, P.len⟩

section
variable {w : World} {A : Around} {s : Shared} {base h₀ : Heap} {outer : List Env} {p : Program} {loose : List Str} {mean : ExcName → Option Value} {mg mb : Str → Option Value} {L : Addr} {m : Str → Option Value} {news : List (Addr × Obj)} {env : Env}

theorem stays_hide (F : Fr h₀ L s.heap m) (N : News h₀ L s.heap news) {M : List Addr} (hM : ∀ a ∈ M, ∃ o, (a, o) ∈ news) : h₀.StaysIn (hideAll s.heap M) := fun b o e => hideAll_get _ (F.keep b o e) fun q => by
  obtain ⟨o', hp⟩ := hM b q
  have := (N _ hp).2.2
  rw [e] at this; cases this

theorem next_K {Q : Value → Shared → Prop} {E : Value → Shared → Prop} {pl ls : Addr} {at' c : Int} {t1 t2 : Tok} {n : Nat} {vs : List Value} {ns : List Int} {g : Obj → List (Addr × Obj)}
    (B : Below A base outer h₀) (F : Fr h₀ L s.heap m) (X : (hd.heap_39 w.params).In h₀) (N : News h₀ L s.heap news) (T : Top p loose mean mg mb h₀) (P : PenOk h₀ ls vs ns)
    (U : UpdF pl (penObj ls at' c t1 t2 n) news g) (hroom : A.depth + 6 < recursionLimit)
    (h0 : 0 ≤ at') (h1 : at' ≤ 100) (hc0 : 0 ≤ c) (hc1 : c < 65521) (hf : env.frame = some L) (hke : env.scope.kind = .function)
    (hR : ∀ h' tk' i tk t1' n', Fr h₀ L h' m → News h₀ L h' (g (penObj ls (at' + 1) c t1' t2 n')) → Q (.int i tk) { s with heap := h', toks := tk' }) :
    wpAny (model PySem.Challenge.rw_pq1068_01.row.prog w) (A.deeper env) (call (.ref 97) [.ref pl]) Q E s := by
  obtain ⟨pre, post, rfl, hg, u1, u2⟩ := U.split
  have hmem : (pl, penObj ls at' c t1 t2 n) ∈ pre ++ (pl, penObj ls at' c t1 t2 n) :: post := by simp
  have hM : ∀ a ∈ [pl], ∃ o, (a, o) ∈ pre ++ (pl, penObj ls at' c t1 t2 n) :: post := by
    intro a ha; rw [List.mem_singleton.mp ha]; exact ⟨_, hmem⟩
  obtain ⟨B', X', T'⟩ := down (M := [pl]) (env := env) B F X N T hf hke hM
  refine wpAny_call (next_ok B' X' T' (by rw [depth_deeper]; omega) (N _ hmem).1 (P.stays (stays_hide F N hM)).l P.i P.len h0 h1 hc0 hc1 ?_)
  intro h' tk' i tk t1' n' hk hp
  have ⟨F', N'⟩ := back (news' := g (penObj ls (at' + 1) c t1' t2 n')) F N hM hk (by
    intro q hq
    rw [hg] at hq
    rcases List.mem_append.mp hq with hq | hq
    · exact .inl ⟨by simp [hq], by simpa using u1 q hq⟩
    · rcases List.mem_cons.mp hq with rfl | hq
      · exact .inr ⟨hp, .inl (by simp)⟩
      · exact .inl ⟨by simp [hq], by simpa using u2 q hq⟩)
  exact hR h' tk' i tk t1' n' F' N'
end



theorem linesC2 : True := by
  k_with "call ref" => (k_here; (with_reducible show wpAny _ _ (call (Value.ref 97) _) _ _ _); k_dflt (refine' next_K ?k1 ?k2 ?k3 ?k4 ?k5 ?k6 ?k7 ?k8 ?k9 ?k10 ?k11 ?k12 ?k13 ?k14 ?_; (case k13 => exact rfl); (case k14 => exact rfl); (case k1 => k_asm); (case k2 => k_asm); (case k3 => k_asm); (case k4 => k_asm); (case k5 => k_asm); (case k6 => k_asm); (case k7 => k_updF); (case k8 => omega); (case k9 => omega); (case k10 => omega); (case k11 => assumption); (case k12 => assumption); k_whole); intro _ _ _ _ _ _ _ N'; (try dsimp only at N'); revert N'; intro _; (try k_sweep))
  trivial
noncomputable abbrev tup2 (k g : Str) (t1 t2 : Tok) : Obj := { cls := .type "tuple", data := .seq [.str k t1, .str g t2].toArray 0 }

/-- a verdict: None, or a pair of texts -/
inductive VerdIn (l : List (Addr × Obj)) : Value → Option (Str × Str) → Prop
  | none : VerdIn l .none none
  | tup {a k g t1 t2} : (a, tup2 k g t1 t2) ∈ l → VerdIn l (.ref a) (some (k, g))

noncomputable abbrev kindsL : List Str := [Str.ofString "jump", Str.ofString "", Str.ofString "continue", Str.ofString "goto", Str.ofString "return", Str.ofString "jump", Str.ofString "break", Str.ofString "accept", Str.ofString "jump", Str.ofString "goto", Str.ofString "drop", Str.ofString "jump", Str.ofString ""]
noncomputable def plainKinds : List Str := [Str.ofString "continue", Str.ofString "return", Str.ofString "break", Str.ofString "accept", Str.ofString "drop"]
structure GotoOk (place : Int) (g : Str) : Prop where
  is : g = Str.ofString "e" ∨ (place < 1 ∧ g = Str.ofString "b") ∨ (place < 2 ∧ g = Str.ofString "c") ∨ (place < 3 ∧ g = Str.ofString "d")
noncomputable def goals5 : List Str := [Str.ofString "a", Str.ofString "b", Str.ofString "c", Str.ofString "d", Str.ofString "e"]
inductive SaidOk (place : Int) : Option (Str × Str) → Prop
  | none : SaidOk place none
  | plain {k} : k ∈ plainKinds → SaidOk place (some (k, Str.ofString ""))
  | jump {g} : g ∈ goals5 → SaidOk place (some (Str.ofString "jump", g))
  | goto {g} : GotoOk place g → SaidOk place (some (Str.ofString "goto", g))

theorem kinds_are : ∀ j : Fin 13, kindsL.getD j.val Str.empty = Str.ofString "" ∨ kindsL.getD j.val Str.empty = Str.ofString "jump" ∨ kindsL.getD j.val Str.empty = Str.ofString "goto" ∨ kindsL.getD j.val Str.empty ∈ plainKinds := by decide
theorem plain_of {j : Nat} (hj : j < 13) (h1 : (kindsL.getD j Str.empty == Str.ofString "") = false) (h2 : (kindsL.getD j Str.empty == Str.ofString "jump") = false) (h3 : (kindsL.getD j Str.empty == Str.ofString "goto") = false) : kindsL.getD j Str.empty ∈ plainKinds := by
  rcases kinds_are ⟨j, hj⟩ with h | h | h | h
  · rw [h] at h1; simp at h1
  · rw [h] at h2; simp at h2
  · rw [h] at h3; simp at h3
  · exact h

theorem SaidOk.jump' {place : Int} {k g : Str} (h : (k == Str.ofString "jump") = true) (hg : g ∈ goals5) : SaidOk place (some (k, g)) := by rw [eq_of_beq h]; exact .jump hg
theorem SaidOk.goto' {place : Int} {k g : Str} (h : (k == Str.ofString "goto") = true) (hg : GotoOk place g) : SaidOk place (some (k, g)) := by rw [eq_of_beq h]; exact .goto hg
theorem slice0 : Txt.slice (Str.ofString "abcd") (some (0 + 1)) none = Str.ofString "bcd" := by decide +kernel
theorem slice1 : Txt.slice (Str.ofString "abcd") (some (1 + 1)) none = Str.ofString "cd" := by decide +kernel
theorem slice2 : Txt.slice (Str.ofString "abcd") (some (2 + 1)) none = Str.ofString "d" := by decide +kernel
theorem slice3 : Txt.slice (Str.ofString "abcd") (some (3 + 1)) none = Str.ofString "" := by decide +kernel

theorem fmod_fin (i : Int) (n : Nat) (hn : 0 < n) : ∃ j : Fin n, i.fmod (n : Int) = ((j.val : Nat) : Int) := by
  have h1 := Int.fmod_nonneg_of_pos i (b := (n : Int)) (by omega)
  have h2 := Int.fmod_lt_of_pos i (b := (n : Int)) (by omega)
  exact ⟨⟨(i.fmod n).toNat, by omega⟩, by simp only []; omega⟩
theorem item0 (i : Int) : GotoOk 0 (Txt.item (Str.ofString "bcdbcdbcde") (i.fmod ((10 : Nat) : Int))) := by
  obtain ⟨j, hj⟩ := fmod_fin i 10 (by decide)
  rw [hj]; clear hj; refine ⟨?_⟩; revert j; decide +kernel
theorem item1 (i : Int) : GotoOk 1 (Txt.item (Str.ofString "cdcdcde") (i.fmod ((7 : Nat) : Int))) := by
  obtain ⟨j, hj⟩ := fmod_fin i 7 (by decide)
  rw [hj]; clear hj; refine ⟨?_⟩; revert j; decide +kernel
theorem item2 (i : Int) : GotoOk 2 (Txt.item (Str.ofString "ddde") (i.fmod ((4 : Nat) : Int))) := by
  obtain ⟨j, hj⟩ := fmod_fin i 4 (by decide)
  rw [hj]; clear hj; refine ⟨?_⟩; revert j; decide +kernel
theorem item3 (i : Int) : GotoOk 3 (Txt.item (Str.ofString "e") (i.fmod ((1 : Nat) : Int))) := by
  obtain ⟨j, hj⟩ := fmod_fin i 1 (by decide)
  rw [hj]; clear hj; refine ⟨?_⟩; revert j; decide +kernel

theorem itemJ (i : Int) : Txt.item (Str.ofString "abcdabcdabcde") (i.fmod ((13 : Nat) : Int)) ∈ goals5 := by
  obtain ⟨j, hj⟩ := fmod_fin i 13 (by decide)
  rw [hj]; clear hj; revert j; decide +kernel

theorem said_fresh {h h' : Heap} {L pl a : Addr} {news : List (Addr × Obj)} {k g : Str} {t1 t2 u1 u2 : Tok} {ls : Addr} {x c : Int} {n : Nat} (N : News (hideAll h [pl]) L h' news) (hm : (a, tup2 k g t1 t2) ∈ news) (hp : (pl, penObj ls x c u1 u2 n) ∈ news) :
    ∀ q ∈ [(a, tup2 k g t1 t2)], h'.get? q.1 = some q.2 ∧ h.get? q.1 = none := by
  intro q hq
  rw [List.mem_singleton.mp hq]
  refine ⟨(N _ hm).1, ?_⟩
  have h1 := (N _ hm).1
  have h2 := (N _ hp).1
  have ne : a ∉ [pl] := fun e => by
    rw [List.mem_singleton.mp e] at h1
    exact absurd (Value.type.inj (congrArg Obj.cls (Option.some.inj (h1.symm.trans h2)))) (by decide)
  cases e : h.get? a with
  | none => rfl
  | some o => have := (N _ hm).2.2; rw [hideAll_get _ e ne] at this; cases this

set_option maxHeartbeats 8000000 in
theorem said_ok {w : World} {A : Around} {s : Shared} {base : Heap} {outer : List Env} {p : Program} {loose : List Str} {mean : ExcName → Option Value} {mg mb : Str → Option Value} {R : Result → Shared → Prop}
    {pl ls : Addr} {at' c place : Int} {t1 t2 t3 : Tok} {n : Nat} {vs : List Value} {ns : List Int}
    (B : Below A base outer (hideAll s.heap [pl])) (X : (hd.heap_39 w.params).In (hideAll s.heap [pl])) (T : Top p loose mean mg mb (hideAll s.heap [pl])) (P : PenOk (hideAll s.heap [pl]) ls vs ns)
    (hroom : A.depth + 12 < recursionLimit)
    (hp : s.heap.get? pl = some (penObj ls at' c t1 t2 n)) (h0 : 0 ≤ at') (h1 : at' ≤ 90) (hc0 : 0 ≤ c) (hc1 : c < 65521) (hp0 : 0 ≤ place) (hp1 : place ≤ 3)
    (hR : ∀ h' tk' v d at'' t1' n' tl, Keeps [pl] s.heap h' → h'.get? pl = some (penObj ls at'' c t1' t2 n') → at' ≤ at'' → at'' ≤ at' + 2 → (∀ q ∈ tl, h'.get? q.1 = some q.2 ∧ s.heap.get? q.1 = none) →
      VerdIn tl v d → SaidOk place d → R (.ok (.ret v)) { s with heap := h', toks := tk' }) :
    codeAny (model PySem.Challenge.rw_pq1068_01.row.prog w) A (.call (.ref 104) ⟨[.ref pl, .int place t3], []⟩) R s := by
  revert X; k_fill; intro X
  refine' enter (news := [(pl, penObj ls at' c t1 t2 n)]) (binds := [(Str.ofString "pen", .ref pl), (Str.ofString "place", .int place t3)]) B X T ?hN ?ho ?hcd ?hroom ?hbind ?hloc ?h ?c2 ?c3 ?c4 ?c5
  case hN => intro q hq; simp only [List.mem_singleton] at hq; subst hq; exact ⟨hp, by simp⟩
  case ho => k_is
  case hcd => k_is
  case hroom => omega
  case hbind => exact BindsTo.of_eq rfl
  case hloc => exact locs rfl
  case c2 => exact rfl
  case c3 => exact rfl
  case c4 => exact rfl
  case c5 => decide
  intro g L' h₁ hg F N B' X' T' l1
  subst hg
  try dsimp only
  k_fold
  k_steps
  · exact hR _ _ _ none _ _ _ [] (Keeps.of_fr (by assumption)) (News.get (by assumption) (by k_mem)) (by omega) (by omega) (fun _ h => nomatch h) .none .none
  · exact hR _ _ _ (some (_, _)) _ _ _ [(_, tup2 _ _ _ _)] (Keeps.of_fr (by assumption)) (News.get (by assumption) (by k_mem)) (by omega) (by omega) (said_fresh (by assumption) (by k_mem) (by k_mem)) (.tup (List.Mem.head _)) (SaidOk.jump' (by assumption) (itemJ _))
  · obtain rfl | rfl | rfl | rfl : place = 0 ∨ place = 1 ∨ place = 2 ∨ place = 3 := by omega
    all_goals (simp only [slice0, slice1, slice2, slice3])
    all_goals k_steps
    · exact hR _ _ _ (some (_, _)) _ _ _ [(_, tup2 _ _ _ _)] (Keeps.of_fr (by assumption)) (News.get (by assumption) (by k_mem)) (by omega) (by omega) (said_fresh (by assumption) (by k_mem) (by k_mem)) (.tup (List.Mem.head _)) (SaidOk.goto' (by assumption) (item0 _))
    · exact hR _ _ _ (some (_, _)) _ _ _ [(_, tup2 _ _ _ _)] (Keeps.of_fr (by assumption)) (News.get (by assumption) (by k_mem)) (by omega) (by omega) (said_fresh (by assumption) (by k_mem) (by k_mem)) (.tup (List.Mem.head _)) (SaidOk.goto' (by assumption) (item1 _))
    · exact hR _ _ _ (some (_, _)) _ _ _ [(_, tup2 _ _ _ _)] (Keeps.of_fr (by assumption)) (News.get (by assumption) (by k_mem)) (by omega) (by omega) (said_fresh (by assumption) (by k_mem) (by k_mem)) (.tup (List.Mem.head _)) (SaidOk.goto' (by assumption) (item2 _))
    · exact hR _ _ _ (some (_, _)) _ _ _ [(_, tup2 _ _ _ _)] (Keeps.of_fr (by assumption)) (News.get (by assumption) (by k_mem)) (by omega) (by omega) (said_fresh (by assumption) (by k_mem) (by k_mem)) (.tup (List.Mem.head _)) (SaidOk.goto' (by assumption) (item3 _))
  · exact hR _ _ _ (some (_, _)) _ _ _ [(_, tup2 _ _ _ _)] (Keeps.of_fr (by assumption)) (News.get (by assumption) (by k_mem)) (by omega) (by omega) (said_fresh (by assumption) (by k_mem) (by k_mem)) (.tup (List.Mem.head _)) (.plain (plain_of (by omega) (by assumption) (by assumption) (by assumption)))

end Mine
end

section
open PySem PySem.W PyProof.Rows PySem.Calls PyProof.V
namespace Mine
noncomputable def AllNe (d : Addr) : List (Addr × Obj) → Prop
  | [] => True
  | p :: r => @Ne Nat p.1 d ∧ AllNe d r
theorem allNe_of {d : Addr} : ∀ {l : List (Addr × Obj)}, (∀ p ∈ l, p.1 ≠ d) → AllNe d l
  | [], _ => trivial
  | _ :: _, h => ⟨h _ (.head _), allNe_of fun q hq => h q (.tail _ hq)⟩
theorem AllNe.all {d : Addr} {l : List (Addr × Obj)} (h : AllNe d l) : ∀ p ∈ l, p.1 ≠ d := by
  induction l with
  | nil => intro p hp; cases hp
  | cons q r ih =>
    intro p hp
    rcases List.mem_cons.mp hp with e | hp
    · rw [e]; exact h.1
    · exact ih h.2 p hp
theorem AllNe.of_lt {d : Addr} {l : List (Addr × Obj)} (h : AllLt d l) : AllNe d l := by
  induction l with
  | nil => trivial
  | cons p r ih => exact ⟨Nat.ne_of_lt h.1, ih h.2⟩

/-- a mark at which the walk stops -/
noncomputable def Stop (P : Prop) : Prop := P
theorem Stop.go {P : Prop} (h : Stop P) : P := h
theorem Stop.out {P : Prop} (h : P) : Stop P := h
/-- a flag in the context: stop where it lies -/
noncomputable def Flag : Prop := True
theorem stopF {P : Prop} (_ : Flag) (h : Stop P) : P := h
theorem stopC (a : Addr) {M : Model} {A : Around} {pos : List Value} {kw : List (Str × Value)} {Q : Value → Shared → Prop} {E : Value → Shared → Prop} {s : Shared} (h : Stop (wpAny M A (call (.ref a) pos kw) Q E s)) : wpAny M A (call (.ref a) pos kw) Q E s := h

section
variable {prog : Program} {w : World} {A : Around} {E : Value → Shared → Prop} {s : Shared} {env : Env} {h₀ : Heap} {x : Str} {body : List Stmt} {Q : Flow → Shared → Prop}

theorem UnrEnd.mono {L I : Addr} {s₁ s₂ : Shared} {it : Obj} {r r' : (Str → Option Value) → List (Addr × Obj) → Prop} (h : UnrEnd h₀ L s₁ I it r s₂) (k : ∀ m l, (∀ p ∈ l, p.1 ≠ I) → r m l → r' m l) : UnrEnd h₀ L s₁ I it r' s₂ :=
  let ⟨h', tk, m', news', e, F, N, o, q⟩ := h; ⟨h', tk, m', news', e, F, N, o, k _ _ o q⟩

theorem UnrPost.mono {L I : Addr} {s₁ s₂ : Shared} {it : Obj} {r r' : (Str → Option Value) → List (Addr × Obj) → Prop} {f : Flow} (h : UnrPost h₀ L s₁ I it r Q f s₂) (k : ∀ m l, (∀ p ∈ l, p.1 ≠ I) → r m l → r' m l) : UnrPost h₀ L s₁ I it r' Q f s₂ := by
  cases f <;> first | exact h | exact UnrEnd.mono h k

/-- a loop over a range, by what holds between the turns -/
theorem iter_rangeI {r : Addr} {a₀ b₀ : Int} {t₀ u₀ v₀ : Tok} {n : Nat} {m₀ : Str → Option Value} {news : List (Addr × Obj)} (Inv : Nat → (Str → Option Value) → List (Addr × Obj) → Prop)
    (hh : A.handled = none) (hr : IsRange s.heap r a₀ b₀ 1 t₀ u₀ v₀) (hsmall : Builtin.Range.small a₀ b₀ 1 = true) (hn : Builtin.Range.rangeSize a₀ b₀ 1 = (n : Int)) (F : Fr h₀ env.locals s.heap m₀) (N : News h₀ env.locals s.heap news)
    (h0 : Inv 0 m₀ news)
    (turn : ∀ I i t m₁ news₁ h tk, i < n → Inv i m₁ news₁ → (∀ p ∈ news, p.1 < I) → (∀ p ∈ news₁, p.1 ≠ I) → Fr h₀ env.locals h (fun y => if y = x then some (.int (a₀ + (i : Int)) t) else m₁ y) →
      News h₀ env.locals h ((I, itR (a₀ + ((i + 1 : Nat) : Int)) ((n : Int) - ((i + 1 : Nat) : Int))) :: news₁) →
      wpAny (model prog w) A (execs body env) (UnrPost h₀ env.locals { s with heap := h, toks := tk } I (itR (a₀ + ((i + 1 : Nat) : Int)) ((n : Int) - ((i + 1 : Nat) : Int))) (Inv (i + 1)) Q) E { s with heap := h, toks := tk })
    (done : ∀ m₁ news₁ h tk, Inv n m₁ news₁ → Fr h₀ env.locals h m₁ → News h₀ env.locals h news₁ → Q .next { s with heap := h, toks := tk }) :
    wpAny (model prog w) A (pyIter (.ref r)) (fun it s₂ => LoopAtV prog w A h₀ env x body Q E it s₂) E s := by
  refine iter_rangeUnr hh hr hsmall hn F N fun I hI => ?_
  have go : ∀ k i m₁ news₁, i + k = n → (∀ p ∈ news₁, p.1 ≠ I) → Inv i m₁ news₁ → RangeRest prog w A E h₀ env x body Q s I a₀ n k i m₁ news₁ := by
    intro k
    induction k with
    | zero =>
      intro i m₁ news₁ e ho h
      obtain rfl : i = n := by omega
      exact RangeRest.zero fun h' tk F' N' => done _ _ _ _ h F' N'
    | succ k ih =>
      intro i m₁ news₁ e ho h
      exact RangeRest.succ fun t h' tk F' N' => wpAny_mono (turn I i t m₁ news₁ h' tk (by omega) h hI ho F' N') (fun f s₂ hq => UnrPost.mono hq fun m l ho hl => ih (i + 1) m l (by omega) ho hl) fun _ _ e => e
  exact go n 0 m₀ news (by omega) (fun p hp e => absurd (hI p hp) (e ▸ Nat.lt_irrefl _)) h0
end

section
variable {w : World} {A : Around} {s : Shared} {base h₀ : Heap} {outer : List Env} {p : Program} {loose : List Str} {mean : ExcName → Option Value} {mg mb : Str → Option Value} {L : Addr} {m : Str → Option Value} {news : List (Addr × Obj)} {env : Env}

theorem said_K {Q : Value → Shared → Prop} {E : Value → Shared → Prop} {pl ls : Addr} {at' c place : Int} {t1 t2 t3 : Tok} {n : Nat} {vs : List Value} {ns : List Int} {g : Obj → List (Addr × Obj)}
    (B : Below A base outer h₀) (F : Fr h₀ L s.heap m) (X : (hd.heap_39 w.params).In h₀) (N : News h₀ L s.heap news) (T : Top p loose mean mg mb h₀) (P : PenOk h₀ ls vs ns)
    (U : UpdF pl (penObj ls at' c t1 t2 n) news g) (hroom : A.depth + 14 < recursionLimit)
    (h0 : 0 ≤ at') (h1 : at' ≤ 90) (hc0 : 0 ≤ c) (hc1 : c < 65521) (hp0 : 0 ≤ place) (hp1 : place ≤ 3) (hf : env.frame = some L) (hke : env.scope.kind = .function)
    (hR1 : ∀ h' tk' at'' t1' n', at' ≤ at'' → at'' ≤ at' + 2 → Fr h₀ L h' m → News h₀ L h' (g (penObj ls at'' c t1' t2 n')) → Q .none { s with heap := h', toks := tk' })
    (hR2 : ∀ h' tk' at'' t1' n' a k d u1 u2, at' ≤ at'' → at'' ≤ at' + 2 → Fr h₀ L h' m → News h₀ L h' ((a, tup2 k d u1 u2) :: g (penObj ls at'' c t1' t2 n')) → AllNe a news → SaidOk place (some (k, d)) → Q (.ref a) { s with heap := h', toks := tk' }) :
    wpAny (model PySem.Challenge.rw_pq1068_01.row.prog w) (A.deeper env) (call (.ref 104) [.ref pl, .int place t3]) Q E s := by
  obtain ⟨pre, post, rfl, hg, u1, u2⟩ := U.split
  have hmem : (pl, penObj ls at' c t1 t2 n) ∈ pre ++ (pl, penObj ls at' c t1 t2 n) :: post := by simp
  have hM : ∀ a ∈ [pl], ∃ o, (a, o) ∈ pre ++ (pl, penObj ls at' c t1 t2 n) :: post := by
    intro a ha; rw [List.mem_singleton.mp ha]; exact ⟨_, hmem⟩
  obtain ⟨B', X', T'⟩ := down (M := [pl]) (env := env) B F X N T hf hke hM
  refine wpAny_call (said_ok B' X' T' (P.stays (stays_hide F N hM)) (by rw [depth_deeper]; omega) (N _ hmem).1 h0 h1 hc0 hc1 hp0 hp1 ?_)
  intro h' tk' v d at'' t1' n' tl hk hp ha1 ha2 htl hv hd
  have sub : ∀ q ∈ g (penObj ls at'' c t1' t2 n'), (q ∈ pre ++ (pl, penObj ls at' c t1 t2 n) :: post ∧ q.1 ∉ [pl]) ∨ (h'.get? q.1 = some q.2 ∧ (q.1 ∈ [pl] ∨ s.heap.get? q.1 = none)) := by
    intro q hq
    rw [hg] at hq
    rcases List.mem_append.mp hq with hq | hq
    · exact .inl ⟨by simp [hq], by simpa using u1 q hq⟩
    · rcases List.mem_cons.mp hq with rfl | hq
      · exact .inr ⟨hp, .inl (by simp)⟩
      · exact .inl ⟨by simp [hq], by simpa using u2 q hq⟩
  cases hv with
  | none =>
    have ⟨F', N'⟩ := back (news' := g (penObj ls at'' c t1' t2 n')) F N hM hk sub
    exact hR1 h' tk' at'' t1' n' ha1 ha2 F' N'
  | @tup a k d u1 u2 hm =>
    have ⟨F', N'⟩ := back (news' := (a, tup2 k d u1 u2) :: g (penObj ls at'' c t1' t2 n')) F N hM hk (by
      intro q hq
      rcases List.mem_cons.mp hq with rfl | hq
      · exact .inr ⟨(htl _ hm).1, .inr (htl _ hm).2⟩
      · exact sub q hq)
    refine hR2 h' tk' at'' t1' n' a k d u1 u2 ha1 ha2 F' N' (allNe_of fun q hq e => ?_) hd
    have z1 := (N q hq).1
    rw [e, (htl _ hm).2] at z1
    cases z1
end

end Mine
end

section
open PySem PySem.W PyProof.Rows PySem.Calls PyProof.V
namespace Mine
theorem freshC4 : True := by
  w_top off
  k_with_none
  trivial

noncomputable abbrev Rule := Int × Option (Str × Str)
noncomputable abbrev tupRule (k : Int) (t : Tok) (v : Value) : Obj := { cls := .type "tuple", data := .seq [.int k t, v].toArray 0 }

inductive All2 {α β : Type} (R : α → β → Prop) : List α → List β → Prop
  | nil : All2 R [] []
  | cons {a b l m} : R a b → All2 R l m → All2 R (a :: l) (b :: m)

theorem All2.imp {α β : Type} {R S : α → β → Prop} (h : ∀ a b, R a b → S a b) : ∀ {l m}, All2 R l m → All2 S l m
  | _, _, .nil => .nil
  | _, _, .cons x y => .cons (h _ _ x) (y.imp h)
theorem All2.snoc {α β : Type} {R : α → β → Prop} {a b} : ∀ {l m}, All2 R l m → R a b → All2 R (l ++ [a]) (m ++ [b])
  | _, _, .nil, h => .cons h .nil
  | _, _, .cons x y, h => .cons x (y.snoc h)
theorem All2.length {α β : Type} {R : α → β → Prop} : ∀ {l m}, All2 R l m → l.length = m.length
  | _, _, .nil => rfl
  | _, _, .cons _ y => by rw [List.length_cons, List.length_cons, y.length]

inductive RuleIn (l : List (Addr × Obj)) : Value → Rule → Prop
  | mk {a k t v d} : (a, tupRule k t v) ∈ l → VerdIn l v d → RuleIn l (.ref a) (k, d)

theorem VerdIn.mono {l l' : List (Addr × Obj)} {v d} (h : VerdIn l v d) (k : ∀ p ∈ l, p ∈ l') : VerdIn l' v d := by
  cases h with
  | none => exact .none
  | tup hm => exact .tup (k _ hm)
theorem RuleIn.mono {l l' : List (Addr × Obj)} {v d} (h : RuleIn l v d) (k : ∀ p ∈ l, p ∈ l') : RuleIn l' v d := by
  cases h with
  | mk hm hv => exact .mk (k _ hm) (hv.mono k)


noncomputable def nameOf (i : Nat) : Str := [Str.ofString "a", Str.ofString "b", Str.ofString "c", Str.ofString "d"].getD i Str.empty

/-- a chain of the book -/
structure ChainIn (l : List (Addr × Obj)) (kv : Str × Value) (nr : Str × List Rule) : Prop where
  name : kv.1 = nr.1
  rules : ∃ li its n, kv.2 = .ref li ∧ (li, listOf its n) ∈ l ∧ All2 (RuleIn l) its.toList nr.2
  len : nr.2.length ≤ 1000
theorem ChainIn.mono {l l' : List (Addr × Obj)} {a b} (h : ChainIn l a b) (k : ∀ p ∈ l, p ∈ l') : ChainIn l' a b :=
  ⟨h.name, let ⟨li, its, n, e, hm, hr⟩ := h.rules; ⟨li, its, n, e, k _ hm, hr.imp fun _ _ x => x.mono k⟩, h.len⟩

inductive BkOk : Nat → List (Str × List Rule) → Prop
  | nil : BkOk 0 []
  | snoc {i bk rs} : BkOk i bk → rs.length ≤ 3 → (∀ r ∈ rs, SaidOk (i : Nat) r.2) → BkOk (i + 1) (bk ++ [(nameOf i, rs)])

theorem News.sub {h₀ h : Heap} {L : Addr} {l l' : List (Addr × Obj)} (N : News h₀ L h l) (k : ∀ p ∈ l', p ∈ l) : News h₀ L h l' := fun p hp => N p (k p hp)

noncomputable def BookInv (prog : Program) (w : World) (pl bd ls : Addr) (at0 c : Int) (t2 : Tok) (i : Nat) (m : Str → Option Value) (l : List (Addr × Obj)) : Prop :=
  ∃ at'' t1 n bo kvs bk rest nk tn, l = (pl, penObj ls at'' c t1 t2 n) :: (bd, bo) :: rest ∧ at0 ≤ at'' ∧ at'' ≤ at0 + 7 * (i : Int) ∧
    m (Str.ofString "pen") = some (.ref pl) ∧ m (Str.ofString "book") = some (.ref bd) ∧ m (Str.ofString "number") = some (.int nk tn) ∧
    bo.IsDictOf (strKind prog w) kvs ∧ All2 (ChainIn rest) kvs bk ∧ BkOk i bk ∧ (∀ p ∈ rest, p.1 ≠ pl) ∧ (∀ p ∈ rest, p.1 ≠ bd)
noncomputable def ToldInv (pl bd td I ls : Addr) (bo it : Obj) (at0 c : Int) (t2 : Tok) (place : Int) (tp : Tok) (rest0 : List (Addr × Obj)) (i : Nat) (m : Str → Option Value) (l : List (Addr × Obj)) : Prop :=
  ∃ at'' t1 n its nt ri rest nk tn, l = (pl, penObj ls at'' c t1 t2 n) :: (td, listOf its nt) :: (bd, bo) :: (I, it) :: rest ∧ at0 ≤ at'' ∧ at'' ≤ at0 + 2 * (i : Int) ∧
    m (Str.ofString "pen") = some (.ref pl) ∧ m (Str.ofString "book") = some (.ref bd) ∧ m (Str.ofString "number") = some (.int nk tn) ∧ m (Str.ofString "told") = some (.ref td) ∧ m (Str.ofString "place") = some (.int place tp) ∧
    All2 (RuleIn rest) its.toList ri ∧ its.size = i ∧ (∀ r ∈ ri, SaidOk place r.2) ∧ (∀ p ∈ rest, p.1 ≠ pl) ∧ (∀ p ∈ rest, p.1 ≠ bd) ∧ (∀ p ∈ rest, p.1 ≠ td) ∧ (∀ p ∈ rest, p.1 ≠ I) ∧ (∀ p ∈ rest0, p ∈ rest)

theorem cons_ne {D d : Nat} {o : Obj} {l : List (Addr × Obj)} (h : D ≠ d) (k : ∀ p ∈ l, p.1 ≠ d) : ∀ p ∈ (D, o) :: l, p.1 ≠ d := by
  intro p hp
  rcases List.mem_cons.mp hp with e | hp
  · rw [e]; exact h
  · exact k p hp
theorem snoc_all {α : Type} {P : α → Prop} {l : List α} {a : α} (h : ∀ x ∈ l, P x) (k : P a) : ∀ x ∈ l ++ [a], P x := by
  intro x hx
  rcases List.mem_append.mp hx with hx | hx
  · exact h x hx
  · rw [List.mem_singleton.mp hx]; exact k

/-- a book, out of a list of objects -/
noncomputable def BookIn (prog : Program) (w : World) (l : List (Addr × Obj)) (bd : Addr) (bk : List (Str × List Rule)) : Prop :=
  ∃ bo kvs, (bd, bo) ∈ l ∧ bo.IsDictOf (strKind prog w) kvs ∧ All2 (ChainIn l) kvs bk ∧ (bd == sysModules) = false

theorem BkOk.len {i : Nat} {bk} (h : BkOk i bk) : bk.length = i := by
  induction h with
  | nil => rfl
  | snoc _ _ _ ih => rw [List.length_append, ih]; rfl
theorem BkOk.names {i : Nat} {bk} (h : BkOk i bk) : ∀ x ∈ bk, ∃ j, j < i ∧ x.1 = nameOf j := by
  induction h with
  | nil => intro x hx; cases hx
  | @snoc i _ _ _ _ _ ih =>
    intro x hx
    rcases List.mem_append.mp hx with hx | hx
    · obtain ⟨j, hj, e⟩ := ih x hx; exact ⟨j, by omega, e⟩
    · rw [List.mem_singleton.mp hx]; exact ⟨i, by omega, rfl⟩
theorem nameOf_inj : ∀ j k : Fin 4, nameOf j.val = nameOf k.val → j = k := by decide
theorem item_name : ∀ j : Fin 4, Txt.item (Str.ofString "abcd") (0 + ((j.val : Nat) : Int)) = nameOf j.val := by decide +kernel
theorem stored_new {kvs : List (Str × Value)} {k : Str} {v : Value} (h : ∀ kv ∈ kvs, kv.1 ≠ k) : stored kvs k v = kvs ++ [(k, v)] := by
  unfold stored
  rw [if_neg]
  intro e
  obtain ⟨kv, hkv, e⟩ := List.any_eq_true.mp e
  exact h kv hkv (of_decide_eq_true e)
theorem All2.left {α β : Type} {R : α → β → Prop} : ∀ {l m}, All2 R l m → ∀ a ∈ l, ∃ b ∈ m, R a b
  | _, _, .cons h _, _, .head _ => ⟨_, .head _, h⟩
  | _, _, .cons _ t, _, .tail _ ha => let ⟨b, hb, r⟩ := t.left _ ha; ⟨b, .tail _ hb, r⟩
theorem keys_new {l : List (Addr × Obj)} {kvs bk} {i : Nat} (h : All2 (ChainIn l) kvs bk) (hb : BkOk i bk) (hi : i < 4) : ∀ kv ∈ kvs, kv.1 ≠ Txt.item (Str.ofString "abcd") (0 + ((i : Nat) : Int)) := by
  intro kv hkv e
  obtain ⟨b, hb', r⟩ := h.left kv hkv
  obtain ⟨j, hj, e'⟩ := hb.names b hb'
  rw [item_name ⟨i, hi⟩, r.name, e'] at e
  have := congrArg Fin.val (nameOf_inj ⟨j, by omega⟩ ⟨i, hi⟩ e)
  simp at this; omega
theorem fresh1 {h h' : Heap} {pl : Addr} {L : Addr} {l : List (Addr × Obj)} (N : News (hideAll h [pl]) L h' l) (hne : ∀ p ∈ l, p.1 ≠ pl) : ∀ q ∈ l, h'.get? q.1 = some q.2 ∧ h.get? q.1 = none := by
  intro q hq
  refine ⟨(N q hq).1, ?_⟩
  cases e : h.get? q.1 with
  | none => rfl
  | some o => have := (N q hq).2.2; rw [hideAll_get _ e (by simpa using hne q hq)] at this; cases this

structure Le3 (k : Nat) : Prop where
  le : k ≤ 3

theorem range3 {k : Nat} (h : Le3 k) : Builtin.Range.small 0 (k : Int) 1 = true ∧ Builtin.Range.rangeSize 0 (k : Int) 1 = (k : Int) := by
  have := h.le
  have e : k = 0 ∨ k = 1 ∨ k = 2 ∨ k = 3 := by omega
  rcases e with rfl | rfl | rfl | rfl <;> exact ⟨by decide, by decide⟩

theorem menu5 {prog : Program} {w : World} {A : Around} {s : Shared} {Q : Value → Shared → Prop} {E : Value → Shared → Prop} {value slice : PySem.Expr} {a : Addr} {i : Int} {u t1 t2 t3 t4 t5 : Tok} (I : IsTup s.heap a [.int 2 t1, .int 3 t2, .int 1 t3, .int 3 t4, .int 0 t5].toArray)
    (h : ∀ k t, Le3 k → Q (.int ((k : Nat) : Int) t) s)
    (hs : subscripted slice false (.ref a) (.int (i.fmod 5) u) = operate [.ref a, .int (i.fmod 5) u] (getItem (.ref a) (.int (i.fmod 5) u)) := by with_unfolding_all rfl) :
    wpAny (model prog w) A (subscriptTail value slice (.ref a) (.int (i.fmod 5) u)) Q E s := by
  have e : i.fmod 5 = 0 ∨ i.fmod 5 = 1 ∨ i.fmod 5 = 2 ∨ i.fmod 5 = 3 ∨ i.fmod 5 = 4 := by
    have h1 := Int.fmod_nonneg_of_pos i (b := 5) (by omega)
    have h2 := Int.fmod_lt_of_pos i (b := 5) (by omega)
    omega
  rcases e with e | e | e | e | e <;> rw [e] at hs ⊢
  · exact item_tupleT (j := 0) I (by decide) (by decide) rfl rfl (h 2 t1 ⟨by decide⟩) hs
  · exact item_tupleT (j := 1) I (by decide) (by decide) rfl rfl (h 3 t2 ⟨by decide⟩) hs
  · exact item_tupleT (j := 2) I (by decide) (by decide) rfl rfl (h 1 t3 ⟨by decide⟩) hs
  · exact item_tupleT (j := 3) I (by decide) (by decide) rfl rfl (h 3 t4 ⟨by decide⟩) hs
  · exact item_tupleT (j := 4) I (by decide) (by decide) rfl rfl (h 0 t5 ⟨by decide⟩) hs



theorem linesC4 : True := by
  k_with "call ref" => (k_here; (with_reducible show wpAny _ _ (call (Value.ref 97) _) _ _ _); k_dflt (refine' next_K ?k1 ?k2 ?k3 ?k4 ?k5 ?k6 ?k7 ?k8 ?k9 ?k10 ?k11 ?k12 ?k13 ?k14 ?_; (case k13 => exact rfl); (case k14 => exact rfl); (case k1 => k_asm); (case k2 => k_asm); (case k3 => k_asm); (case k4 => k_asm); (case k5 => k_asm); (case k6 => k_asm); (case k7 => k_updF); (case k8 => ((try dsimp only); omega)); (case k9 => omega); (case k10 => omega); (case k11 => assumption); (case k12 => assumption); k_whole); intro _ _ _ _ _ _ _ N'; (try dsimp only at N'); revert N'; intro _; (try k_sweep))
  k_with "call ref" => (k_here; (with_reducible show wpAny _ _ (call (Value.ref 104) _) _ _ _); k_dflt (refine' said_K ?k1 ?k2 ?k3 ?k4 ?k5 ?k6 ?k7 ?k8 ?k9 ?k10 ?k11 ?k12 ?k15 ?k16 ?k13 ?k14 ?_ ?_; (case k13 => exact rfl); (case k14 => exact rfl); (case k1 => k_asm); (case k2 => k_asm); (case k3 => k_asm); (case k4 => k_asm); (case k5 => k_asm); (case k6 => k_asm); (case k7 => k_updF); (case k8 => ((try dsimp only); omega)); (case k9 => omega); (case k10 => omega); (case k11 => assumption); (case k12 => assumption); (case k15 => omega); (case k16 => omega); k_whole); intro _ _ _ _ _ _ _ _ N'; (try dsimp only at N'); revert N'; intro _; (try k_sweep); rotate_left; intro _ _ _ _ _ _ _ _ _ _ _ _ _ N' ne9 sd; (try dsimp only at N'); (simp only [AllNe, and_true] at ne9); revert N' ne9 sd; intro _ _ _; (try k_sweep); rotate_right)
  k_with "pyIter ref" => ((with_reducible show wpAny _ _ (pyIter (Value.ref _)) (fun it s₂ => LoopAtV _ _ _ _ _ _ _ _ _ it s₂) _ _); refine Stop.go ?_)
  k_with "eval Name" => (k_here; k_dflt (refine' PyProof.Rows.ld ?k1 ?k2 ?_; (case k1 => k_asm); (case k2 => ((repeat (refine Eq.trans (if_neg (by decide)) ?_)); assumption)); k_whole))
  k_with "loadName" => (k_here; k_dflt (refine' PyProof.Rows.ldn ?k1 ?k2 ?_; (case k1 => k_asm); (case k2 => ((repeat (refine Eq.trans (if_neg (by decide)) ?_)); assumption)); k_whole))
  k_with "setItem ref str" => (k_here; k_dflt (refine' kda_set (knd := PySem.strKind _ _) ?k41 ?k42 ?k43 ?k44 (strKind_is _ _ _ _) ?k45 ?_; (case k41 => k_asm); (case k42 => k_asm); (case k43 => k_updF); (case k44 => k_asm); (case k45 => assumption)); intro _ _ _ N' hd'; (try dsimp only at N'); revert N' hd'; intro _ _)
  k_with "subscriptTail Tuple" => (k_here; (with_reducible show wpAny _ _ (subscriptTail _ _ (Value.ref _) (Value.int (Int.fmod _ 5) _)) _ _ _); k_dflt (refine' menu5 ?k1 ?_ ?k2; (case k1 => exact News.isTup (by k_asm) (by k_mem)); (case k2 => with_unfolding_all rfl); k_whole); intro _ _ _)
  trivial
set_option maxHeartbeats 8000000 in
theorem book_ok {w : World} {A : Around} {s : Shared} {base : Heap} {outer : List Env} {p : Program} {loose : List Str} {mean : ExcName → Option Value} {mg mb : Str → Option Value} {R : Result → Shared → Prop}
    {pl ls : Addr} {at' c : Int} {t1 t2 : Tok} {n : Nat} {vs : List Value} {ns : List Int}
    (B : Below A base outer (hideAll s.heap [pl])) (X : (hd.heap_39 w.params).In (hideAll s.heap [pl])) (T : Top p loose mean mg mb (hideAll s.heap [pl])) (P : PenOk (hideAll s.heap [pl]) ls vs ns)
    (hroom : A.depth + 20 < recursionLimit) (hh : A.handled = none)
    (hp : s.heap.get? pl = some (penObj ls at' c t1 t2 n)) (h0 : 0 ≤ at') (h1 : at' ≤ 50) (hc0 : 0 ≤ c) (hc1 : c < 65521) 
    (hR : ∀ h' tk' bd at'' t1' n' bk tl, Keeps [pl] s.heap h' → h'.get? pl = some (penObj ls at'' c t1' t2 n') → at' ≤ at'' → at'' ≤ at' + 28 → (∀ q ∈ tl, h'.get? q.1 = some q.2 ∧ s.heap.get? q.1 = none) →
      BookIn PySem.Challenge.rw_pq1068_01.row.prog w tl bd bk → BkOk 4 bk → R (.ok (.ret (.ref bd))) { s with heap := h', toks := tk' }) :
    codeAny (model PySem.Challenge.rw_pq1068_01.row.prog w) A (.call (.ref 111) ⟨[.ref pl], []⟩) R s := by
  obtain ⟨hdl, dp, fr, gd, un⟩ := A
  obtain rfl : hdl = none := hh
  obtain rfl : fr = some outer := B.stack
  replace hroom : dp + 20 < recursionLimit := hroom
  revert X; k_fill; intro X
  refine' enter (news := [(pl, penObj ls at' c t1 t2 n)]) (binds := [(Str.ofString "pen", .ref pl)]) B X T ?hN ?ho ?hcd ?hroom ?hbind ?hloc ?h ?c2 ?c3 ?c4 ?c5
  case hN => intro q hq; simp only [List.mem_singleton] at hq; subst hq; exact ⟨hp, by simp⟩
  case ho => k_is
  case hcd => k_is
  case hroom => show dp < _; omega
  case hbind => exact BindsTo.of_eq rfl
  case hloc => exact locs rfl
  case c2 => exact rfl
  case c3 => exact rfl
  case c4 => exact rfl
  case c5 => decide
  intro g L' h₁ hg F N B' X' T' l1
  subst hg
  try dsimp only
  k_fold
  k_steps
  (with_reducible rename IsRange _ _ _ _ _ _ _ _ => hr)
  (with_reducible rename Fr _ _ _ _ => F0)
  (with_reducible rename News _ _ _ _ => N0)
  (with_reducible rename Obj.IsDictOf (PySem.strKind _ _) _ [] => hd0)
  rename_i tk1 bd hA bo0 lo fs hi0 fi ll D hB ll2 hC hD hE FF NN hF tkk u1 u2 u3 aa
  refine Stop.out (iter_rangeI (n := 4) (BookInv PySem.Challenge.rw_pq1068_01.row.prog w pl bd ls at' c t2) rfl hr (by decide) (by decide) F0 (News.sub (l' := [(pl, _), (bd, _)]) N0 (SubL.mem (by k_subL))) ?_ ?_ ?_)
  · exact ⟨at', _, _, _, [], [], [], _, _, rfl, by omega, by omega, rfl, rfl, rfl, hd0, .nil, .nil, (fun _ h => nomatch h), (fun _ h => nomatch h)⟩
  · clear hr F0 N0 hd0 fs hi0 fi ll2 FF NN aa
    intro I i t m₁ news₁ h tk hi hInv hI hoff F N
    obtain ⟨at2, t3, n3, bo, kvs, bk, rest, nk, tn, rfl, ha1, ha2, hm1, hm2, hm3, hbo, hch, hbk, hr1, hr2⟩ := hInv
    k_fold
    replace hI := allLt_of hI
    simp only [AllLt, and_true] at hI
    replace F : Fr (hideAll s.heap [pl]) L' h _ := F
    replace N : News (hideAll s.heap [pl]) L' h _ := N
    have hr3 : ∀ p ∈ rest, p.1 ≠ I := fun p hp => hoff p (.tail _ (.tail _ hp))
    clear hoff
    k_steps
    rename_i td hA' ll1 hB' D' hC' ll2 hD' tkk' iv tkv t4 n4 FF NN kk tt hk3 hE' tke w1 w2 w3 hr' F' N' aa'
    have hr4 : ∀ p ∈ rest, p.1 ≠ td := AllNe.all (AllNe.of_lt ll1.2.2.2)
    refine Stop.out (iter_rangeI (n := kk) (ToldInv pl bd td I ls bo (itR (0 + ((i + 1 : Nat) : Int)) (((4 : Nat) : Int) - ((i + 1 : Nat) : Int))) (at2 + 1) c t2 (0 + (i : Int)) t rest) rfl hr' (range3 hk3).1 (range3 hk3).2 F' (News.sub (l' := (pl, penObj ls (at2 + 1) c t4 t2 n4) :: (td, listOf #[] 0) :: (bd, bo) :: (I, itR (0 + ((i + 1 : Nat) : Int)) (((4 : Nat) : Int) - ((i + 1 : Nat) : Int))) :: rest) N' ?_) ?_ ?_ ?_)
    · intro p hp
      simp only [List.mem_cons] at hp ⊢
      rcases hp with e | e | e | e | e
      · exact .inr (.inr (.inr (.inl e)))
      · exact .inr (.inl e)
      · exact .inr (.inr (.inr (.inr (.inl e))))
      · exact .inr (.inr (.inl e))
      · exact .inr (.inr (.inr (.inr (.inr e))))
    · exact ⟨_, _, _, _, _, [], rest, nk, tn, rfl, by omega, by omega, hm1, hm2, hm3, rfl, rfl, .nil, rfl, (fun _ h => nomatch h), hr1, hr2, hr4, hr3, fun _ h => h⟩
    · clear F' N' hr' aa' FF NN
      intro J i' t' m2 news2 h3 tk3 hi' hInv2 hJ hoff2 F N
      obtain ⟨at3, t5, n5, its, nt, ri, rest2, nk2, tn2, rfl, hb1, hb2, hn1, hn2, hn3, hn4, hn5, hri, hsz, hsd, hq1, hq2, hq3, hq4, hq5⟩ := hInv2
      k_fold
      replace hJ := allLt_of hJ
      simp only [AllLt, and_true] at hJ
      replace F : Fr (hideAll s.heap [pl]) L' h3 _ := F
      replace N : News (hideAll s.heap [pl]) L' h3 _ := N
      have hle := hk3.le
      have hq6 : ∀ p ∈ rest2, p.1 ≠ J := fun p hp => hoff2 p (.tail _ (.tail _ (.tail _ (.tail _ hp))))
      clear hoff2
      k_steps
      · rename_i hh1 tk9 at4 t6 n6 c1 c2 D9 hh2 l9 hh3 hh4 F9 N9
        refine UnrEnd.intro F9 N9 ((pl, penObj ls at4 c t6 t2 n6) :: (td, listOf (its.push (.ref D9)) (nt + 1)) :: (bd, bo) :: (I, itR (0 + ((i + 1 : Nat) : Int)) (((4 : Nat) : Int) - ((i + 1 : Nat) : Int))) :: (D9, tupRule nk2 tn2 .none) :: rest2) ?_ ?_ ?_
        · (repeat (refine sub_cons (by k_mem) ?_)); (repeat (first | exact fun _ h => h | refine sub_skip ?_))
        · exact cons_ne (by omega) (cons_ne (by omega) (cons_ne (by omega) (cons_ne (by omega) (cons_ne (by omega) hq6))))
        · exact ⟨at4, t6, n6, its.push (.ref D9), nt + 1, ri ++ [(nk2, none)], (D9, tupRule nk2 tn2 .none) :: rest2, nk2 + 1, _, rfl, by omega, by omega, (if_neg (by decide)).trans ((if_neg (by decide)).trans hn1), (if_neg (by decide)).trans ((if_neg (by decide)).trans hn2), rfl, (if_neg (by decide)).trans ((if_neg (by decide)).trans hn4), (if_neg (by decide)).trans ((if_neg (by decide)).trans hn5),
            (by rw [Array.toList_push]; exact (hri.imp fun _ _ x => x.mono fun _ h => .tail _ h).snoc (.mk (.head _) .none)), (by rw [Array.size_push, hsz]), snoc_all hsd .none,
            cons_ne (by omega) hq1, cons_ne (by omega) hq2, cons_ne (by omega) hq3, cons_ne (by omega) hq4, fun p hp => .tail _ (hq5 p hp)⟩
      · rename_i hh1 tk9 at4 t6 n6 a9 k9 d9 u9 v9 c1 c2 ne9 sd9 D9 hh2 l9 hh3 hh4 F9 N9
        have ne8 := AllNe.all ne9.2.2.2.2.2
        refine UnrEnd.intro F9 N9 ((pl, penObj ls at4 c t6 t2 n6) :: (td, listOf (its.push (.ref D9)) (nt + 1)) :: (bd, bo) :: (I, itR (0 + ((i + 1 : Nat) : Int)) (((4 : Nat) : Int) - ((i + 1 : Nat) : Int))) :: (D9, tupRule nk2 tn2 (.ref a9)) :: (a9, tup2 k9 d9 u9 v9) :: rest2) ?_ ?_ ?_
        · (repeat (refine sub_cons (by k_mem) ?_)); (repeat (first | exact fun _ h => h | refine sub_skip ?_))
        · exact cons_ne (by omega) (cons_ne (by omega) (cons_ne (by omega) (cons_ne (by omega) (cons_ne (by omega) (cons_ne (by omega) hq6)))))
        · exact ⟨at4, t6, n6, its.push (.ref D9), nt + 1, ri ++ [(nk2, some (k9, d9))], (D9, tupRule nk2 tn2 (.ref a9)) :: (a9, tup2 k9 d9 u9 v9) :: rest2, nk2 + 1, _, rfl, by omega, by omega, (if_neg (by decide)).trans ((if_neg (by decide)).trans hn1), (if_neg (by decide)).trans ((if_neg (by decide)).trans hn2), rfl, (if_neg (by decide)).trans ((if_neg (by decide)).trans hn4), (if_neg (by decide)).trans ((if_neg (by decide)).trans hn5),
            (by rw [Array.toList_push]; exact (hri.imp fun _ _ x => x.mono fun _ h => .tail _ (.tail _ h)).snoc (.mk (.head _) (.tup (.tail _ (.head _))))), (by rw [Array.size_push, hsz]), snoc_all hsd sd9,
            cons_ne (by omega) (cons_ne (by omega) hq1), cons_ne (by omega) (cons_ne (by omega) hq2), cons_ne (by omega) (cons_ne (by omega) hq3), cons_ne (by omega) (cons_ne (by omega) hq4), fun p hp => .tail _ (.tail _ (hq5 p hp))⟩
    · clear F' N' hr' aa' FF NN
      intro m2 news2 h3 tk3 hInv2 F N
      obtain ⟨at3, t5, n5, its, nt, ri, rest2, nk2, tn2, rfl, hb1, hb2, hn1, hn2, hn3, hn4, hn5, hri, hsz, hsd, hq1, hq2, hq3, hq4, hq5⟩ := hInv2
      replace F : Fr (hideAll s.heap [pl]) L' h3 _ := F
      replace N : News (hideAll s.heap [pl]) L' h3 _ := N
      have hkl : kvs.length ≤ sizeLine := by rw [hch.length, hbk.len, sizeLine_eq]; omega
      have hle := hk3.le
      dsimp only
      k_steps
      rename_i kx hh1 bo' F9 N9 hbo'
      have hq7 : ∀ p ∈ rest2, p.1 ≠ I := hq4
      rw [stored_new (keys_new hch hbk hi), item_name ⟨i, hi⟩] at hbo'
      refine UnrEnd.intro F9 N9 ((pl, penObj ls at3 c t5 t2 n5) :: (bd, bo') :: (td, listOf its nt) :: rest2) ?_ ?_ ?_
      · (repeat (refine sub_cons (by k_mem) ?_)); (repeat (first | exact fun _ h => h | refine sub_skip ?_))
      · exact cons_ne (by omega) (cons_ne (by omega) (cons_ne (by omega) hq4))
      · exact ⟨at3, t5, n5, bo', kvs ++ [(nameOf i, .ref td)], bk ++ [(nameOf i, ri)], (td, listOf its nt) :: rest2, nk2, tn2, rfl, by omega, by omega, hn1, hn2, hn3, hbo',
          ((hch.imp fun _ _ x => x.mono fun _ h => .tail _ (hq5 _ h)).snoc ⟨rfl, ⟨td, its, nt, rfl, .head _, hri.imp fun _ _ x => x.mono fun _ h => .tail _ h⟩, by rw [← hri.length]; simp; omega⟩),
          .snoc hbk (by rw [← hri.length]; simp; omega) (by simpa using hsd), cons_ne (by omega) hq1, cons_ne (by omega) hq2⟩
  · clear hr F0 N0 hd0 fs hi0 fi ll2 FF NN aa
    intro m2 news2 h3 tk3 hInv F N
    obtain ⟨at2, t3, n3, bo, kvs, bk, rest, nk, tn, rfl, ha1, ha2, hm1, hm2, hm3, hbo, hch, hbk, hr1, hr2⟩ := hInv
    replace F : Fr (hideAll s.heap [pl]) L' h3 _ := F
    replace N : News (hideAll s.heap [pl]) L' h3 _ := N
    dsimp only
    k_steps
    exact hR _ _ bd at2 t3 n3 bk ((bd, bo) :: rest) (Keeps.of_fr F) (News.get N (.head _)) ha1 (by omega) (fresh1 (News.sub N fun _ h => .tail _ h) (cons_ne (by omega) hr1)) ⟨bo, kvs, .head _, hbo, hch.imp fun _ _ x => x.mono fun _ h => .tail _ h, lo⟩ hbk

end Mine
end

section
open PySem PySem.W PyProof.Rows PySem.Calls PyProof.V
namespace Mine
inductive VerdAt (h : Heap) : Value → Option (Str × Str) → Prop
  | none : VerdAt h .none none
  | tup {a k g t1 t2} : h.get? a = some (tup2 k g t1 t2) → VerdAt h (.ref a) (some (k, g))
inductive RuleAt (h : Heap) : Value → Rule → Prop
  | mk {a k t v d} : h.get? a = some (tupRule k t v) → VerdAt h v d → RuleAt h (.ref a) (k, d)
structure RulesAt (h : Heap) (li : Addr) (rs : List Rule) : Prop where
  is : ∃ its n, h.get? li = some (listOf its n) ∧ All2 (RuleAt h) its.toList rs
  len : rs.length ≤ 1000
structure ChainAt (h : Heap) (kv : Str × Value) (nr : Str × List Rule) : Prop where
  name : kv.1 = nr.1
  rules : ∃ li, kv.2 = .ref li ∧ RulesAt h li nr.2
structure BookAt (prog : Program) (w : World) (h : Heap) (bd : Addr) (bk : List (Str × List Rule)) : Prop where
  is : ∃ kvs, h.DictOf (strKind prog w) bd kvs ∧ All2 (ChainAt h) kvs bk
  low : (bd == sysModules) = false
noncomputable def bkAt (bk : List (Str × List Rule)) (x : Str) : Option (List Rule) := (bk.find? fun kv => kv.1 = x).map (·.2)

theorem VerdAt.stays {h h' : Heap} {v d} (x : VerdAt h v d) (k : h.StaysIn h') : VerdAt h' v d := by
  cases x with
  | none => exact .none
  | tup e => exact .tup (k _ _ e)
theorem RuleAt.stays {h h' : Heap} {v d} (x : RuleAt h v d) (k : h.StaysIn h') : RuleAt h' v d := by
  cases x with
  | mk e hv => exact .mk (k _ _ e) (hv.stays k)
theorem RulesAt.stays {h h' : Heap} {v d} (x : RulesAt h v d) (k : h.StaysIn h') : RulesAt h' v d :=
  ⟨let ⟨its, n, e, r⟩ := x.is; ⟨its, n, k _ _ e, r.imp fun _ _ y => y.stays k⟩, x.len⟩
theorem ChainAt.stays {h h' : Heap} {v d} (x : ChainAt h v d) (k : h.StaysIn h') : ChainAt h' v d :=
  ⟨x.name, let ⟨li, e, r⟩ := x.rules; ⟨li, e, r.stays k⟩⟩
theorem BookAt.stays {prog : Program} {w : World} {h h' : Heap} {v d} (x : BookAt prog w h v d) (k : h.StaysIn h') : BookAt prog w h' v d :=
  ⟨let ⟨kvs, e, r⟩ := x.is; ⟨kvs, let ⟨o, es, ep, ho, q⟩ := e; ⟨o, es, ep, k _ _ ho, q⟩, r.imp fun _ _ y => y.stays k⟩, x.low⟩

theorem VerdIn.at {l : List (Addr × Obj)} {h : Heap} {v d} (x : VerdIn l v d) (k : ∀ q ∈ l, h.get? q.1 = some q.2) : VerdAt h v d := by
  cases x with
  | none => exact .none
  | tup e => exact .tup (k _ e)
theorem RuleIn.at {l : List (Addr × Obj)} {h : Heap} {v d} (x : RuleIn l v d) (k : ∀ q ∈ l, h.get? q.1 = some q.2) : RuleAt h v d := by
  cases x with
  | mk e hv => exact .mk (k _ e) (hv.at k)
theorem ChainIn.at {l : List (Addr × Obj)} {h : Heap} {v d} (x : ChainIn l v d) (k : ∀ q ∈ l, h.get? q.1 = some q.2) : ChainAt h v d :=
  ⟨x.name, let ⟨li, its, n, e, m, r⟩ := x.rules; ⟨li, e, ⟨its, n, k _ m, r.imp fun _ _ y => y.at k⟩, x.len⟩⟩
theorem BookIn.at {prog : Program} {w : World} {l : List (Addr × Obj)} {h : Heap} {bd bk} (x : BookIn prog w l bd bk) (k : ∀ q ∈ l, h.get? q.1 = some q.2) : BookAt prog w h bd bk :=
  let ⟨bo, kvs, m, hd, r, lo⟩ := x; ⟨⟨kvs, Heap.dictOf_iff.mpr ⟨bo, k _ m, hd⟩, r.imp fun _ _ y => y.at k⟩, lo⟩

theorem look {h : Heap} {x : Str} : ∀ {kvs bk}, All2 (ChainAt h) kvs bk → (valueAt kvs x = none ∧ bkAt bk x = none) ∨ ∃ li rs, valueAt kvs x = some (.ref li) ∧ bkAt bk x = some rs ∧ RulesAt h li rs
  | _, _, .nil => .inl ⟨rfl, rfl⟩
  | (k, v) :: kvs, (n, rs) :: bk, .cons c r => by
    obtain ⟨li, e, q⟩ := c.rules
    have e1 : k = n := c.name
    have e2 : v = .ref li := e
    subst e1 e2
    unfold valueAt bkAt
    rw [List.find?_cons, List.find?_cons]
    by_cases hx : k = x
    · simp only [hx, decide_true]
      exact .inr ⟨li, rs, rfl, rfl, q⟩
    · simp only [hx, decide_false]
      exact look r

theorem BookAt.look {prog : Program} {w : World} {h : Heap} {bd bk} (b : BookAt prog w h bd bk) (x : Str) :
    ∃ f, h.MapOf (strKind prog w) bd f ∧ ((f x = none ∧ bkAt bk x = none) ∨ ∃ li rs, f x = some (.ref li) ∧ bkAt bk x = some rs ∧ RulesAt h li rs) := by
  obtain ⟨kvs, hd, r⟩ := b.is
  exact ⟨_, hd.mapOf, Mine.look r⟩

section
variable {w : World} {A : Around} {E : Value → Shared → Prop} {s : Shared} {h₀ : Heap} {L bd : Addr} {m : Str → Option Value} {bk : List (Str × List Rule)} {x : Str} {t : Tok} {prog : Program}
theorem notin_book {Q : Value → Shared → Prop} (F : Fr h₀ L s.heap m) (b : BookAt prog w h₀ bd bk) (h : Q (.bool (!(bkAt bk x).isSome)) { s with toks := s.toks + 1 }) :
    wpAny (model prog w) A (compareOp .NotIn (.str x t) (.ref bd)) Q E s := by
  obtain ⟨f, hm, r⟩ := (b.stays F.keep).look x
  refine wpAny_notIn_of (strKind_is prog w x t) b.low hm ?_
  rcases r with ⟨e1, e2⟩ | ⟨li, rs, e1, e2, _⟩ <;> (rw [e2] at h; rw [e1]; exact h)
theorem notin_none {Q : Value → Shared → Prop} (F : Fr h₀ L s.heap m) (b : BookAt prog w h₀ bd bk) (e : bkAt bk x = none) (h : Q (.bool true) { s with toks := s.toks + 1 }) :
    wpAny (model prog w) A (compareOp .NotIn (.str x t) (.ref bd)) Q E s := notin_book F b (by rw [e]; exact h)
theorem notin_some {Q : Value → Shared → Prop} {rs : List Rule} (F : Fr h₀ L s.heap m) (b : BookAt prog w h₀ bd bk) (e : bkAt bk x = some rs) (h : Q (.bool false) { s with toks := s.toks + 1 }) :
    wpAny (model prog w) A (compareOp .NotIn (.str x t) (.ref bd)) Q E s := notin_book F b (by rw [e]; exact h)
theorem item_book {Q : Value → Shared → Prop} {value slice : PySem.Expr} {rs : List Rule} (F : Fr h₀ L s.heap m) (b : BookAt prog w h₀ bd bk) (e : bkAt bk x = some rs) (h : ∀ li, RulesAt h₀ li rs → Q (.ref li) { s with toks := s.toks + 1 })
    (hs : subscripted slice false (.ref bd) (.str x t) = operate [.ref bd, .str x t] (getItem (.ref bd) (.str x t)) := by with_unfolding_all rfl) :
    wpAny (model prog w) A (subscriptTail value slice (.ref bd) (.str x t)) Q E s := by
  obtain ⟨f, hm, r⟩ := b.look x
  rcases r with ⟨e1, e2⟩ | ⟨li, rs', e1, e2, q⟩
  · rw [e] at e2; cases e2
  · rw [e] at e2; cases e2
    have hm' : s.heap.MapOf (strKind prog w) bd f := by
      obtain ⟨o, es, ep, ho, r⟩ := hm; exact ⟨o, es, ep, F.keep _ _ ho, r⟩
    exact tail_any hm'.typeIs slot_dict_getitem.lookup (wpAny_getItem_of (strKind_is prog w x t) hm' e1 (h li q)) hs
end


theorem All2.at {α β : Type} {R : α → β → Prop} : ∀ {l : List α} {m : List β} {i : Nat} {b : β}, All2 R l m → m[i]? = some b → ∃ a, l[i]? = some a ∧ R a b
  | _, _, 0, _, .cons h _, e => by simp only [List.getElem?_cons_zero, Option.some.injEq] at e ⊢; subst e; exact ⟨_, rfl, h⟩
  | _, _, i + 1, _, .cons _ r, e => by simp only [List.getElem?_cons_succ] at e ⊢; exact r.at e

section
variable {w : World} {A : Around} {E : Value → Shared → Prop} {s : Shared} {h₀ : Heap} {L li : Addr} {m : Str → Option Value} {rs : List Rule} {prog : Program} {i : Nat} {n : Int} {u : Tok}
theorem RulesAt.list (x : RulesAt h₀ li rs) : ∃ its : Array Value, h₀.IsList li its ∧ its.size = rs.length ∧ ∀ (j : Nat) (r : Rule), rs[j]? = some r → ∃ v, its[j]? = some v ∧ RuleAt h₀ v r := by
  obtain ⟨its, n, e, a⟩ := x.is
  refine ⟨its, ⟨_, e, rfl, n, rfl⟩, by rw [← a.length]; simp, fun j r hj => ?_⟩
  obtain ⟨v, e1, e2⟩ := a.at hj
  exact ⟨v, by simpa using e1, e2⟩
theorem isList_keep {its : Array Value} (F : Fr h₀ L s.heap m) (x : h₀.IsList li its) : s.heap.IsList li its := let ⟨o, ho, r⟩ := x; ⟨o, F.keep _ _ ho, r⟩
theorem len_rules {Q : Value → Shared → Prop} (F : Fr h₀ L s.heap m) (x : RulesAt h₀ li rs) (h : Q (.int (rs.length : Nat) (s.toks + 1)) { s with toks := s.toks + 1 + 1 }) : wpAny (model prog w) A (call (.builtin "len") [.ref li]) Q E s := by
  obtain ⟨its, hl, hs, _⟩ := x.list
  have := x.len
  exact len_list (isList_keep F hl) (by rw [hs]; omega) (by rw [hs]; exact h)
theorem item_rules {Q : Value → Shared → Prop} {value slice : PySem.Expr} {k : Int} {v : Option (Str × Str)} (F : Fr h₀ L s.heap m) (x : RulesAt h₀ li rs) (hk : k = (i : Int)) (hr : rs[i]? = some (n, v))
    (h : ∀ a t vv, IsTup h₀ a [.int n t, vv].toArray → VerdAt h₀ vv v → Q (.ref a) s)
    (hs : subscripted slice false (.ref li) (.int k u) = operate [.ref li, .int k u] (getItem (.ref li) (.int k u)) := by with_unfolding_all rfl) :
    wpAny (model prog w) A (subscriptTail value slice (.ref li) (.int k u)) Q E s := by
  subst hk
  obtain ⟨its, hl, hz, hg⟩ := x.list
  have hlen := x.len
  obtain ⟨vv, e1, e2⟩ := hg i _ hr
  have hi : i < rs.length := (List.getElem?_eq_some_iff.mp hr).1
  have hl' := isList_keep F hl
  refine tail_any hl'.typeIs slot_list_getitem.lookup (wpAny_getItem_list hl' (by omega) (by omega) (x := vv) (by simpa using e1) ?_) hs
  cases e2 with
  | mk e hv => exact h _ _ _ ⟨_, e, rfl, _, rfl⟩ hv
end

end Mine
end

section
open PySem PySem.W PyProof.Rows PySem.Calls PyProof.V
namespace Mine
theorem freshC6 : True := by
  w_top off
  k_with_none
  trivial

/-- what is noted of a rule: the chain, the place, the kind, the goal, the number -/
structure Step where
  name : Str
  place : Nat
  kind : Str
  goal : Str
  num : Int

inductive Out where
  | back
  | ended (k : Str)
  | fault (x : Str)

/-- the walk from a place of a chain on: what is noted, what comes of it; the last number bounds the depth -/
inductive Run (bk : List (Str × List Rule)) (most : Nat) : Str → Nat → List Rule → Nat → List Step → Out → Nat → Prop
  | done {name i w d} : Run bk most name i [] w [] .back d
  | none {name i n rest w st o d} : Run bk most name (i + 1) rest w st o d → Run bk most name i ((n, none) :: rest) w (⟨name, i, Str.ofString "", Str.ofString "", n⟩ :: st) o d
  | brk {name i n g rest w st o d} : Run bk most name (i + 1) rest w st o d → Run bk most name i ((n, some (Str.ofString "break", g)) :: rest) w (⟨name, i, Str.ofString "break", g, n⟩ :: st) o d
  | cont {name i n g rest w st o d} : Run bk most name (i + 1) rest w st o d → Run bk most name i ((n, some (Str.ofString "continue", g)) :: rest) w (⟨name, i, Str.ofString "continue", g, n⟩ :: st) o d
  | ret {name i n g rest w d} : Run bk most name i ((n, some (Str.ofString "return", g)) :: rest) w [⟨name, i, Str.ofString "return", g, n⟩] .back d
  | acc {name i n rest w d} : Run bk most name i ((n, some (Str.ofString "accept", Str.ofString "")) :: rest) w [⟨name, i, Str.ofString "accept", Str.ofString "", n⟩] (.ended (Str.ofString "accept")) d
  | drop {name i n rest w d} : Run bk most name i ((n, some (Str.ofString "drop", Str.ofString "")) :: rest) w [⟨name, i, Str.ofString "drop", Str.ofString "", n⟩] (.ended (Str.ofString "drop")) d
  | gotoMiss {name i n g rest w d} : bkAt bk g = none → Run bk most name i ((n, some (Str.ofString "goto", g)) :: rest) w [⟨name, i, Str.ofString "goto", g, n⟩] (.fault g) (d + 1)
  | goto {name i n g rest w rs st o d} : bkAt bk g = some rs → Run bk most g 0 rs w st o d → Run bk most name i ((n, some (Str.ofString "goto", g)) :: rest) w (⟨name, i, Str.ofString "goto", g, n⟩ :: st) o (d + 1)
  | full {name i n g rest w d} : most ≤ w → Run bk most name i ((n, some (Str.ofString "jump", g)) :: rest) w [⟨name, i, Str.ofString "jump", g, n⟩] (.ended (Str.ofString "drop")) d
  | jumpMiss {name i n g rest w d} : w < most → bkAt bk g = none → Run bk most name i ((n, some (Str.ofString "jump", g)) :: rest) w [⟨name, i, Str.ofString "jump", g, n⟩] (.fault g) (d + 1)
  | jumpOut {name i n g rest w rs st o d} : w < most → bkAt bk g = some rs → Run bk most g 0 rs (w + 1) st o d → o ≠ .back → Run bk most name i ((n, some (Str.ofString "jump", g)) :: rest) w (⟨name, i, Str.ofString "jump", g, n⟩ :: st) o (d + 1)
  | jumpBack {name i n g rest w rs st st2 o d} : w < most → bkAt bk g = some rs → Run bk most g 0 rs (w + 1) st .back d → Run bk most name (i + 1) rest w st2 o (d + 1) →
      Run bk most name i ((n, some (Str.ofString "jump", g)) :: rest) w (⟨name, i, Str.ofString "jump", g, n⟩ :: (st ++ st2)) o (d + 1)

noncomputable abbrev tup4 (a : Str) (b : Int) (c e : Str) (t1 t2 t3 t4 : Tok) : Obj := { cls := .type "tuple", data := .seq [.str a t1, .int b t2, .str c t3, .str e t4].toArray 0 }
inductive StepIn (l : List (Addr × Obj)) : Value → Step → Prop
  | mk {a : Addr} {x : Step} {t1 t2 t3 t4 : Tok} : (a, tup4 x.name (x.place : Nat) x.kind x.goal t1 t2 t3 t4) ∈ l → StepIn l (.ref a) x
inductive IntIs : Value → Step → Prop
  | mk {x : Step} {t : Tok} : IntIs (.int x.num t) x
theorem StepIn.mono {l l' : List (Addr × Obj)} {v d} (h : StepIn l v d) (k : ∀ p ∈ l, p ∈ l') : StepIn l' v d := by
  cases h with
  | mk hm => exact .mk (k _ hm)

inductive OutIs : Out → Str → Str → Prop
  | back : OutIs .back (Str.ofString "back") (Str.ofString "")
  | ended {k} : OutIs (.ended k) (Str.ofString "ended") k
  | fault {x} : OutIs (.fault x) (Str.ofString "fault") (Str.ofString "unknown chain " ++ x)

/-- what a walk hands back -/
noncomputable def WalkRet (s : Shared) (ls la : Addr) (S Q : Array Value) (st : List Step) (o : Out) (R : Result → Shared → Prop) : Prop :=
  ∀ h' tk' r k g u1 u2 its qs n1' n2' tl, Keeps [ls, la] s.heap h' → h'.get? ls = some (listOf (S ++ its) n1') → h'.get? la = some (listOf (Q ++ qs) n2') → (∀ q ∈ tl, h'.get? q.1 = some q.2 ∧ s.heap.get? q.1 = none) →
      (r, tup2 k g u1 u2) ∈ tl → OutIs o k g → All2 (StepIn tl) its.toList st → All2 IntIs qs.toList st → R (.ok (.ret (.ref r))) { s with heap := h', toks := tk' }

/-- _law_walk as a caller sees it, where its chain is there -/
noncomputable def WalkFn (w : World) (bd : Addr) (bk : List (Str × List Rule)) (most : Nat) (name : Str) (wt : Nat) (st : List Step) (o : Out) (d : Nat) : Prop :=
  ∀ (A : Around) (s : Shared) (base : Heap) (outer : List Env) (p : Program) (loose : List Str) (mean : ExcName → Option Value) (mg mb : Str → Option Value) (R : Result → Shared → Prop) (ls la : Addr) (S Q : Array Value) (n1 n2 : Nat) (tn tw tm : Tok),
    Below A base outer (hideAll s.heap [ls, la]) → (hd.heap_39 w.params).In (hideAll s.heap [ls, la]) → Top p loose mean mg mb (hideAll s.heap [ls, la]) → A.handled = none → A.depth + d + 5 < recursionLimit →
    BookAt PySem.Challenge.rw_pq1068_01.row.prog w (hideAll s.heap [ls, la]) bd bk → ls ≠ la → s.heap.get? ls = some (listOf S n1) → s.heap.get? la = some (listOf Q n2) → S.size + st.length ≤ 1000000 → Q.size + st.length ≤ 1000000 → name.length ≤ 1000 →
    WalkRet s ls la S Q st o R →
    codeAny (model PySem.Challenge.rw_pq1068_01.row.prog w) A (.call (.ref 130) ⟨[.ref bd, .str name tn, .int (wt : Nat) tw, .int (most : Nat) tm, .ref ls, .ref la], []⟩) R s


theorem linesC6 : True := by
  k_with "compareOp NotIn str ref" => (k_here; k_dflt (first | (refine' notin_none ?k1 ?k2 ?k3 ?_; (case k1 => k_asm); (case k2 => k_asm); (case k3 => k_asm); k_whole) | (refine' notin_some ?k1 ?k2 ?k3 ?_; (case k1 => k_asm); (case k2 => k_asm); (case k3 => k_asm); k_whole)))
  k_with "subscriptTail Name" => (k_here; (with_reducible show wpAny _ _ (subscriptTail _ _ (Value.ref _) (Value.str _ _)) _ _ _); k_dflt (refine' item_book ?k1 ?k2 ?k3 ?_ ?k4; (case k1 => k_asm); (case k2 => k_asm); (case k3 => k_asm); (case k4 => with_unfolding_all rfl); k_whole); intro _ _)
  trivial
theorem freshM {h h' : Heap} {M : List Addr} {L : Addr} {l : List (Addr × Obj)} (N : News (hideAll h M) L h' l) (hne : ∀ p ∈ l, p.1 ∉ M) : ∀ q ∈ l, h'.get? q.1 = some q.2 ∧ h.get? q.1 = none := by
  intro q hq
  refine ⟨(N q hq).1, ?_⟩
  cases e : h.get? q.1 with
  | none => rfl
  | some o => have := (N q hq).2.2; rw [hideAll_get _ e (hne q hq)] at this; cases this

set_option maxHeartbeats 8000000 in
theorem walk_miss {w : World} {bd : Addr} {bk : List (Str × List Rule)} {most : Nat} {name : Str} {wt d : Nat} (hx : bkAt bk name = none) : WalkFn w bd bk most name wt [] (.fault name) d := by
  intro A s base outer p loose mean mg mb R ls la S Q n1 n2 tn tw tm B X T hh hroom b hne hs ha hz1 hz2 hnl hR
  obtain ⟨hdl, dp, fr, gd, un⟩ := A
  obtain rfl : hdl = none := hh
  obtain rfl : fr = some outer := B.stack
  replace hroom : dp + d + 5 < recursionLimit := hroom
  revert X; k_fill; intro X
  refine' enter (news := [(ls, listOf S n1), (la, listOf Q n2)]) (binds := [(Str.ofString "book", .ref bd), (Str.ofString "name", .str name tn), (Str.ofString "waiting", .int (wt : Nat) tw), (Str.ofString "most", .int (most : Nat) tm), (Str.ofString "steps", .ref ls), (Str.ofString "asked", .ref la)]) B X T ?hN ?ho ?hcd ?hroom ?hbind ?hloc ?h ?c2 ?c3 ?c4 ?c5
  case hN => intro q hq; simp only [List.mem_cons, List.not_mem_nil, or_false] at hq; rcases hq with rfl | rfl; exact ⟨hs, by simp⟩; exact ⟨ha, by simp⟩
  case ho => k_is
  case hcd => k_is
  case hroom => show dp < _; omega
  case hbind => exact BindsTo.of_eq rfl
  case hloc => exact locs rfl
  case c2 => exact rfl
  case c3 => exact rfl
  case c4 => exact rfl
  case c5 => decide
  intro g L' h₁ hg F N B' X' T' l1
  subst hg
  try dsimp only
  k_fold
  k_steps
  rename_i tk1 tx kx ax D h9 F9 N9 l9
  refine hR _ _ D _ _ _ _ #[] #[] n1 n2 [(D, tup2 _ _ _ _)] (Keeps.of_fr F9) (by simpa using News.get N9 (.tail _ (.head _))) (by simpa using News.get N9 (.tail _ (.tail _ (.head _)))) (freshM (News.sub N9 (fun p hp => by rw [List.mem_singleton.mp hp]; exact .head _)) (fun p hp => ?_)) (.head _) .fault .nil .nil
  rw [List.mem_singleton.mp hp]
  simp only [List.mem_cons, List.not_mem_nil, or_false, not_or]
  exact ⟨fun e => absurd l9.1 (e ▸ Nat.lt_irrefl _), fun e => absurd l9.2 (e ▸ Nat.lt_irrefl _)⟩

theorem verd_tup {h : Heap} {a : Addr} {k g : Str} {t1 t2 : Tok} (e : h.get? a = some (tup2 k g t1 t2)) : IsTup h a [.str k t1, .str g t2].toArray := ⟨_, e, rfl, _, rfl⟩

noncomputable def GoalLens (bk : List (Str × List Rule)) : Prop := ∀ x rs, bkAt bk x = some rs → ∀ r ∈ rs, ∀ k g, r.2 = some (k, g) → g.length ≤ 1000

structure Loc (m : Str → Option Value) (bd ls la : Addr) (name : Str) (wt most : Nat) (tn tw tm : Tok) : Prop where
  m1 : m (Str.ofString "book") = some (.ref bd)
  m2 : m (Str.ofString "name") = some (.str name tn)
  m3 : m (Str.ofString "waiting") = some (.int (wt : Nat) tw)
  m4 : m (Str.ofString "most") = some (.int (most : Nat) tm)
  m5 : m (Str.ofString "steps") = some (.ref ls)
  m6 : m (Str.ofString "asked") = some (.ref la)
theorem Loc.set {m : Str → Option Value} {bd ls la : Addr} {name : Str} {wt most : Nat} {tn tw tm : Tok} {x : Str} {v : Option Value} (h : Loc m bd ls la name wt most tn tw tm)
    (hx : x ≠ Str.ofString "book" ∧ x ≠ Str.ofString "name" ∧ x ≠ Str.ofString "waiting" ∧ x ≠ Str.ofString "most" ∧ x ≠ Str.ofString "steps" ∧ x ≠ Str.ofString "asked") : Loc (fun y => if y = x then v else m y) bd ls la name wt most tn tw tm :=
  ⟨(if_neg (Ne.symm hx.1)).trans h.m1, (if_neg (Ne.symm hx.2.1)).trans h.m2, (if_neg (Ne.symm hx.2.2.1)).trans h.m3, (if_neg (Ne.symm hx.2.2.2.1)).trans h.m4, (if_neg (Ne.symm hx.2.2.2.2.1)).trans h.m5, (if_neg (Ne.symm hx.2.2.2.2.2)).trans h.m6⟩

noncomputable def WalkInv (bk : List (Str × List Rule)) (most : Nat) (name : Str) (wt : Nat) (rs : List Rule) (st : List Step) (o : Out) (d : Nat) (bd ls la : Addr) (S Q : Array Value) (tn tw tm : Tok) (i : Nat) (m : Str → Option Value) (l : List (Addr × Obj)) : Prop :=
  ∃ stD stR its qs n1 n2 rest, l = (ls, listOf (S ++ its) n1) :: (la, listOf (Q ++ qs) n2) :: rest ∧ st = stD ++ stR ∧ Run bk most name i (rs.drop i) wt stR o d ∧ All2 (StepIn rest) its.toList stD ∧ All2 IntIs qs.toList stD ∧
    Loc m bd ls la name wt most tn tw tm ∧ (∀ p ∈ rest, p.1 ≠ ls) ∧ (∀ p ∈ rest, p.1 ≠ la)

theorem walk_next {h₀ h' : Heap} {L I ls la bd D : Addr} {s₁ : Shared} {it : Obj} {m' : Str → Option Value} {l9 rest : List (Addr × Obj)} {tk : Nat} {bk : List (Str × List Rule)} {most : Nat} {name kk gg : Str} {wt d i : Nat} {rs rest' : List Rule} {stD st2 : List Step} {o : Out} {its qs S Q : Array Value} {tn tw tm t1 t2 t3 t4 tq : Tok} {nn : Int} {n1 n2 : Nat}
    (F9 : Fr h₀ L h' m') (N9 : News h₀ L h' l9) (hD : (D, tup4 name (i : Nat) kk gg t1 t2 t3 t4) ∈ l9) (hI : (I, it) ∈ l9) (hls : (ls, listOf ((S ++ its).push (.ref D)) n1) ∈ l9) (hla : (la, listOf ((Q ++ qs).push (.int nn tq)) n2) ∈ l9) (hrest : ∀ p ∈ rest, p ∈ l9)
    (run : Run bk most name (i + 1) rest' wt st2 o d) (hdrop : rs.drop (i + 1) = rest') (hsI : All2 (StepIn rest) its.toList stD) (hqI : All2 IntIs qs.toList stD) (loc : Loc m' bd ls la name wt most tn tw tm)
    (e1 : @Ne Nat D ls) (e2 : @Ne Nat D la) (e3 : @Ne Nat D I) (e4 : @Ne Nat ls I) (e5 : @Ne Nat la I) (hr1 : ∀ p ∈ rest, p.1 ≠ ls) (hr2 : ∀ p ∈ rest, p.1 ≠ la) (hr3 : ∀ p ∈ rest, p.1 ≠ I) :
    UnrEnd h₀ L s₁ I it (WalkInv bk most name wt rs (stD ++ (⟨name, i, kk, gg, nn⟩ :: st2)) o d bd ls la S Q tn tw tm (i + 1)) { s₁ with heap := h', toks := tk } := by
  refine UnrEnd.intro F9 N9 ((ls, listOf ((S ++ its).push (.ref D)) n1) :: (la, listOf ((Q ++ qs).push (.int nn tq)) n2) :: (D, tup4 name (i : Nat) kk gg t1 t2 t3 t4) :: rest) ?_ (cons_ne e4 (cons_ne e5 (cons_ne e3 hr3))) ?_
  · intro p hp
    simp only [List.mem_cons] at hp
    rcases hp with e | e | e | e | e
    · rw [e]; exact hI
    · rw [e]; exact hls
    · rw [e]; exact hla
    · rw [e]; exact hD
    · exact hrest p e
  · refine ⟨stD ++ [⟨name, i, kk, gg, nn⟩], st2, its.push (.ref D), qs.push (.int nn tq), n1, n2, (D, tup4 name (i : Nat) kk gg t1 t2 t3 t4) :: rest, by rw [Array.append_push, Array.append_push], by simp, by rw [hdrop]; exact run, ?_, ?_, loc, cons_ne e1 hr1, cons_ne e2 hr2⟩
    · rw [Array.toList_push]
      exact (hsI.imp fun _ _ x => x.mono fun _ h => .tail _ h).snoc (.mk (.head _))
    · rw [Array.toList_push]
      exact hqI.snoc (b := ⟨name, i, kk, gg, nn⟩) .mk

theorem walk_fin {s : Shared} {h' : Heap} {L ls la D r : Addr} {m' : Str → Option Value} {l9 rest : List (Addr × Obj)} {tk : Nat} {name kk gg k g : Str} {i : Nat} {stD : List Step} {o : Out} {its qs S Q : Array Value} {t1 t2 t3 t4 tq u1 u2 : Tok} {nn : Int} {n1 n2 : Nat} {R : Result → Shared → Prop}
    (hR : WalkRet s ls la S Q (stD ++ [⟨name, i, kk, gg, nn⟩]) o R) (F9 : Fr (hideAll s.heap [ls, la]) L h' m') (N9 : News (hideAll s.heap [ls, la]) L h' l9) (hr : (r, tup2 k g u1 u2) ∈ l9) (hD : (D, tup4 name (i : Nat) kk gg t1 t2 t3 t4) ∈ l9) (hls : (ls, listOf ((S ++ its).push (.ref D)) n1) ∈ l9) (hla : (la, listOf ((Q ++ qs).push (.int nn tq)) n2) ∈ l9) (hrest : ∀ p ∈ rest, p ∈ l9)
    (ho : OutIs o k g) (hsI : All2 (StepIn rest) its.toList stD) (hqI : All2 IntIs qs.toList stD)
    (e1 : @Ne Nat D ls) (e2 : @Ne Nat D la) (e3 : @Ne Nat r ls) (e4 : @Ne Nat r la) (hr1 : ∀ p ∈ rest, p.1 ≠ ls) (hr2 : ∀ p ∈ rest, p.1 ≠ la) :
    R (.ok (.ret (.ref r))) { s with heap := h', toks := tk } := by
  refine hR h' tk r k g u1 u2 (its.push (.ref D)) (qs.push (.int nn tq)) n1 n2 ((r, tup2 k g u1 u2) :: (D, tup4 name (i : Nat) kk gg t1 t2 t3 t4) :: rest) (Keeps.of_fr F9) (by rw [Array.append_push]; exact N9.get hls) (by rw [Array.append_push]; exact N9.get hla) (freshM (News.sub N9 ?_) ?_) (.head _) ho ?_ ?_
  · intro p hp
    simp only [List.mem_cons] at hp
    rcases hp with e | e | e
    · rw [e]; exact hr
    · rw [e]; exact hD
    · exact hrest p e
  · intro p hp
    have h1 := cons_ne (o := tup2 k g u1 u2) e3 (cons_ne (o := tup4 name (i : Nat) kk gg t1 t2 t3 t4) e1 hr1) p hp
    have h2 := cons_ne (o := tup2 k g u1 u2) e4 (cons_ne (o := tup4 name (i : Nat) kk gg t1 t2 t3 t4) e2 hr2) p hp
    simp only [List.mem_cons, List.not_mem_nil, or_false, not_or]
    exact ⟨h1, h2⟩
  · rw [Array.toList_push]
    exact (hsI.imp fun _ _ x => x.mono fun _ h => .tail _ (.tail _ h)).snoc (.mk (.tail _ (.head _)))
  · rw [Array.toList_push]
    exact hqI.snoc (b := ⟨name, i, kk, gg, nn⟩) .mk

theorem All2.app {α β : Type} {R : α → β → Prop} : ∀ {l m l' m'}, All2 R l m → All2 R l' m' → All2 R (l ++ l') (m ++ m')
  | _, _, _, _, .nil, h => h
  | _, _, _, _, .cons x y, h => .cons x (y.app h)

theorem walk_fin2 {s : Shared} {h' : Heap} {L ls la D r : Addr} {m' : Str → Option Value} {l9 rest rest2 : List (Addr × Obj)} {tk : Nat} {name kk gg k g : Str} {i : Nat} {stD st2 : List Step} {o : Out} {its qs its2 qs2 S Q : Array Value} {t1 t2 t3 t4 tq u1 u2 : Tok} {nn : Int} {n1 n2 : Nat} {R : Result → Shared → Prop}
    (hR : WalkRet s ls la S Q (stD ++ (⟨name, i, kk, gg, nn⟩ :: st2)) o R) (F9 : Fr (hideAll s.heap [ls, la]) L h' m') (N9 : News (hideAll s.heap [ls, la]) L h' l9) (hr : (r, tup2 k g u1 u2) ∈ l9) (hD : (D, tup4 name (i : Nat) kk gg t1 t2 t3 t4) ∈ l9) (hls : (ls, listOf ((S ++ its).push (.ref D) ++ its2) n1) ∈ l9) (hla : (la, listOf ((Q ++ qs).push (.int nn tq) ++ qs2) n2) ∈ l9) (hrest : ∀ p ∈ rest2, p ∈ l9)
    (ho : OutIs o k g) (hsI : All2 (StepIn rest) its.toList stD) (hqI : All2 IntIs qs.toList stD) (hsub : ∀ p ∈ rest, p ∈ rest2) (hs2 : All2 (StepIn rest2) its2.toList st2) (hq2 : All2 IntIs qs2.toList st2)
    (e1 : @Ne Nat D ls) (e2 : @Ne Nat D la) (e3 : @Ne Nat r ls) (e4 : @Ne Nat r la) (hr1 : ∀ p ∈ rest2, p.1 ≠ ls) (hr2 : ∀ p ∈ rest2, p.1 ≠ la) :
    R (.ok (.ret (.ref r))) { s with heap := h', toks := tk } := by
  refine hR h' tk r k g u1 u2 (its.push (.ref D) ++ its2) (qs.push (.int nn tq) ++ qs2) n1 n2 ((r, tup2 k g u1 u2) :: (D, tup4 name (i : Nat) kk gg t1 t2 t3 t4) :: rest2) (Keeps.of_fr F9) (by rw [← Array.append_assoc, Array.append_push]; exact N9.get hls) (by rw [← Array.append_assoc, Array.append_push]; exact N9.get hla) (freshM (News.sub N9 ?_) ?_) (.head _) ho ?_ ?_
  · intro p hp
    simp only [List.mem_cons] at hp
    rcases hp with e | e | e
    · rw [e]; exact hr
    · rw [e]; exact hD
    · exact hrest p e
  · intro p hp
    have h1 := cons_ne (o := tup2 k g u1 u2) e3 (cons_ne (o := tup4 name (i : Nat) kk gg t1 t2 t3 t4) e1 hr1) p hp
    have h2 := cons_ne (o := tup2 k g u1 u2) e4 (cons_ne (o := tup4 name (i : Nat) kk gg t1 t2 t3 t4) e2 hr2) p hp
    simp only [List.mem_cons, List.not_mem_nil, or_false, not_or]
    exact ⟨h1, h2⟩
  · rw [Array.toList_append, Array.toList_push, List.append_assoc]
    exact (hsI.imp fun _ _ x => x.mono fun _ h => .tail _ (.tail _ (hsub _ h))).app (.cons (.mk (.tail _ (.head _))) (hs2.imp fun _ _ x => x.mono fun _ h => .tail _ (.tail _ h)))
  · rw [Array.toList_append, Array.toList_push, List.append_assoc]
    have hq3 : All2 IntIs (Value.int nn tq :: qs2.toList) (⟨name, i, kk, gg, nn⟩ :: st2) := .cons (.mk (x := ⟨name, i, kk, gg, nn⟩)) hq2
    exact hqI.app hq3

theorem walk_next2 {h₀ h' : Heap} {L I ls la bd D : Addr} {s₁ : Shared} {it : Obj} {m' : Str → Option Value} {l9 rest rest2 : List (Addr × Obj)} {tk : Nat} {bk : List (Str × List Rule)} {most : Nat} {name kk gg : Str} {wt d i : Nat} {rs rest' : List Rule} {stD st2 st3 : List Step} {o : Out} {its qs its2 qs2 S Q : Array Value} {tn tw tm t1 t2 t3 t4 tq : Tok} {nn : Int} {n1 n2 : Nat}
    (F9 : Fr h₀ L h' m') (N9 : News h₀ L h' l9) (hD : (D, tup4 name (i : Nat) kk gg t1 t2 t3 t4) ∈ l9) (hI : (I, it) ∈ l9) (hls : (ls, listOf ((S ++ its).push (.ref D) ++ its2) n1) ∈ l9) (hla : (la, listOf ((Q ++ qs).push (.int nn tq) ++ qs2) n2) ∈ l9) (hrest : ∀ p ∈ rest2, p ∈ l9)
    (run : Run bk most name (i + 1) rest' wt st3 o d) (hdrop : rs.drop (i + 1) = rest') (hsI : All2 (StepIn rest) its.toList stD) (hqI : All2 IntIs qs.toList stD) (hsub : ∀ p ∈ rest, p ∈ rest2) (hs2 : All2 (StepIn rest2) its2.toList st2) (hq2 : All2 IntIs qs2.toList st2) (loc : Loc m' bd ls la name wt most tn tw tm)
    (e1 : @Ne Nat D ls) (e2 : @Ne Nat D la) (e3 : @Ne Nat D I) (e4 : @Ne Nat ls I) (e5 : @Ne Nat la I) (hr1 : ∀ p ∈ rest2, p.1 ≠ ls) (hr2 : ∀ p ∈ rest2, p.1 ≠ la) (hr3 : ∀ p ∈ rest2, p.1 ≠ I) :
    UnrEnd h₀ L s₁ I it (WalkInv bk most name wt rs (stD ++ (⟨name, i, kk, gg, nn⟩ :: (st2 ++ st3))) o d bd ls la S Q tn tw tm (i + 1)) { s₁ with heap := h', toks := tk } := by
  refine UnrEnd.intro F9 N9 ((ls, listOf ((S ++ its).push (.ref D) ++ its2) n1) :: (la, listOf ((Q ++ qs).push (.int nn tq) ++ qs2) n2) :: (D, tup4 name (i : Nat) kk gg t1 t2 t3 t4) :: rest2) ?_ (cons_ne e4 (cons_ne e5 (cons_ne e3 hr3))) ?_
  · intro p hp
    simp only [List.mem_cons] at hp
    rcases hp with e | e | e | e | e
    · rw [e]; exact hI
    · rw [e]; exact hls
    · rw [e]; exact hla
    · rw [e]; exact hD
    · exact hrest p e
  · refine ⟨stD ++ ⟨name, i, kk, gg, nn⟩ :: st2, st3, its.push (.ref D) ++ its2, qs.push (.int nn tq) ++ qs2, n1, n2, (D, tup4 name (i : Nat) kk gg t1 t2 t3 t4) :: rest2, by rw [← Array.append_assoc, ← Array.append_assoc, Array.append_push, Array.append_push], by simp, by rw [hdrop]; exact run, ?_, ?_, loc, cons_ne e1 hr1, cons_ne e2 hr2⟩
    · rw [Array.toList_append, Array.toList_push, List.append_assoc]
      exact (hsI.imp fun _ _ x => x.mono fun _ h => .tail _ (hsub _ h)).app (.cons (.mk (.head _)) (hs2.imp fun _ _ x => x.mono fun _ h => .tail _ h))
    · rw [Array.toList_append, Array.toList_push, List.append_assoc]
      have hq3 : All2 IntIs (Value.int nn tq :: qs2.toList) (⟨name, i, kk, gg, nn⟩ :: st2) := .cons (.mk (x := ⟨name, i, kk, gg, nn⟩)) hq2
      exact hqI.app hq3

theorem walk_call {w : World} {A : Around} {s : Shared} {base h₀ : Heap} {outer : List Env} {p : Program} {loose : List Str} {mean : ExcName → Option Value} {mg mb : Str → Option Value} {L : Addr} {m : Str → Option Value} {news : List (Addr × Obj)} {env : Env}
    {Q : Value → Shared → Prop} {E : Value → Shared → Prop} {bd ls la : Addr} {bk : List (Str × List Rule)} {most wt d : Nat} {name : Str} {st : List Step} {o : Out} {S P : Array Value} {n1 n2 : Nat} {tn tw tm : Tok} {x : Int} {rest : List (Addr × Obj)} {I D : Addr} {oI oD : Obj}
    (C : WalkFn w bd bk most name wt st o d) (B : Below A base outer h₀) (F : Fr h₀ L s.heap m) (X : (hd.heap_39 w.params).In h₀) (N : News h₀ L s.heap news) (T : Top p loose mean mg mb h₀)
    (b : BookAt PySem.Challenge.rw_pq1068_01.row.prog w h₀ bd bk) (hroom : A.depth + 1 + d + 5 < recursionLimit) (hh : (A.deeper env).handled = none) (hf : env.frame = some L) (hke : env.scope.kind = .function)
    (hls : (ls, listOf S n1) ∈ news) (hla : (la, listOf P n2) ∈ news) (hne : @Ne Nat ls la) (hx : x = (wt : Nat)) (hz1 : S.size + st.length ≤ 1000000) (hz2 : P.size + st.length ≤ 1000000) (hnl : name.length ≤ 1000)
    (hI : (I, oI) ∈ news) (hD : (D, oD) ∈ news) (e1 : @Ne Nat I ls) (e2 : @Ne Nat I la) (e3 : @Ne Nat D ls) (e4 : @Ne Nat D la)
    (hkeep : ∀ q ∈ rest, q ∈ news) (hk1 : ∀ q ∈ rest, q.1 ≠ ls) (hk2 : ∀ q ∈ rest, q.1 ≠ la)
    (k : ∀ h' tk' r kk gg u1 u2 its qs n1' n2' rest2, Fr h₀ L h' m → News h₀ L h' ((r, tup2 kk gg u1 u2) :: (ls, listOf (S ++ its) n1') :: (la, listOf (P ++ qs) n2') :: (I, oI) :: (D, oD) :: rest2) → OutIs o kk gg → All2 (StepIn rest2) its.toList st → All2 IntIs qs.toList st →
      (∀ q ∈ rest, q ∈ rest2) → AllNe r news → (∀ a : Addr, (∃ ob, (a, ob) ∈ news) → (∀ q ∈ rest, q.1 ≠ a) → ∀ q ∈ rest2, q.1 ≠ a) → Q (.ref r) { s with heap := h', toks := tk' }) :
    wpAny (model PySem.Challenge.rw_pq1068_01.row.prog w) (A.deeper env) (call (.ref 130) [.ref bd, .str name tn, .int x tw, .int (most : Nat) tm, .ref ls, .ref la]) Q E s := by
  subst hx
  have hM : ∀ a ∈ [ls, la], ∃ o, (a, o) ∈ news := by
    intro a ha
    simp only [List.mem_cons, List.not_mem_nil, or_false] at ha
    rcases ha with rfl | rfl
    · exact ⟨_, hls⟩
    · exact ⟨_, hla⟩
  obtain ⟨B', X', T'⟩ := down (M := [ls, la]) (env := env) B F X N T hf hke hM
  refine wpAny_call (C _ s _ _ _ _ _ _ _ _ ls la S P n1 n2 tn tw tm B' X' T' hh (by rw [depth_deeper]; omega) (b.stays (stays_hide F N hM)) hne (N _ hls).1 (N _ hla).1 hz1 hz2 hnl ?_)
  intro h' tk' r kk gg u1 u2 its qs n1' n2' tl hk z1 z2 htl hr ho hs hq
  have hfr : ∀ q ∈ tl, ∀ p ∈ news, p.1 ≠ q.1 := fun q hq p hp e => by
    have z1 := (N p hp).1
    rw [e, (htl q hq).2] at z1; cases z1
  have ⟨F', N'⟩ := back (news' := (r, tup2 kk gg u1 u2) :: (ls, listOf (S ++ its) n1') :: (la, listOf (P ++ qs) n2') :: (I, oI) :: (D, oD) :: (tl ++ rest)) F N hM hk (by
    intro q hq
    simp only [List.mem_cons, List.mem_append] at hq
    rcases hq with rfl | rfl | rfl | rfl | rfl | hq | hq
    · exact .inr ⟨(htl _ hr).1, .inr (htl _ hr).2⟩
    · exact .inr ⟨z1, .inl (by simp)⟩
    · exact .inr ⟨z2, .inl (by simp)⟩
    · exact .inl ⟨hI, by simp only [List.mem_cons, List.not_mem_nil, or_false, not_or]; exact ⟨e1, e2⟩⟩
    · exact .inl ⟨hD, by simp only [List.mem_cons, List.not_mem_nil, or_false, not_or]; exact ⟨e3, e4⟩⟩
    · exact .inr ⟨(htl _ hq).1, .inr (htl _ hq).2⟩
    · exact .inl ⟨hkeep q hq, by simp only [List.mem_cons, List.not_mem_nil, or_false, not_or]; exact ⟨hk1 q hq, hk2 q hq⟩⟩)
  refine k h' tk' r kk gg u1 u2 its qs n1' n2' (tl ++ rest) F' N' ho (hs.imp fun _ _ x => x.mono fun _ h => List.mem_append_left _ h) hq (fun q hq => List.mem_append_right _ hq) (allNe_of fun p hp => hfr _ hr p hp) ?_
  intro a ⟨ob, ha⟩ h1 q hq
  rcases List.mem_append.mp hq with hq | hq
  · exact fun e => hfr q hq _ ha e.symm
  · exact h1 q hq

section
variable {w : World} {bd : Addr} {bk : List (Str × List Rule)} {most : Nat} {name kk gg : Str} {i wt d : Nat} {nn : Int} {rest' : List Rule} {stR : List Step} {o : Out}
/-- what a run is that stands at a rule with a verdict -/
inductive RunInv (w : World) (bd : Addr) (bk : List (Str × List Rule)) (most : Nat) (name kk gg : Str) (i wt d : Nat) (nn : Int) (rest' : List Rule) (stR : List Step) (o : Out) : Prop
  | ret : kk = Str.ofString "return" → stR = [⟨name, i, kk, gg, nn⟩] ∧ o = .back → RunInv w bd bk most name kk gg i wt d nn rest' stR o
  | acc : kk = Str.ofString "accept" → stR = [⟨name, i, kk, gg, nn⟩] ∧ o = .ended kk → RunInv w bd bk most name kk gg i wt d nn rest' stR o
  | drop : kk = Str.ofString "drop" → stR = [⟨name, i, kk, gg, nn⟩] ∧ o = .ended kk → RunInv w bd bk most name kk gg i wt d nn rest' stR o
  | full : kk = Str.ofString "jump" → most ≤ wt → stR = [⟨name, i, kk, gg, nn⟩] ∧ o = .ended (Str.ofString "drop") → RunInv w bd bk most name kk gg i wt d nn rest' stR o
  | plain : (kk = Str.ofString "break" ∨ kk = Str.ofString "continue") → (∃ st2, stR = ⟨name, i, kk, gg, nn⟩ :: st2 ∧ Run bk most name (i + 1) rest' wt st2 o d) → RunInv w bd bk most name kk gg i wt d nn rest' stR o
  | goto : kk = Str.ofString "goto" → (∃ st2 d', stR = ⟨name, i, kk, gg, nn⟩ :: st2 ∧ d' + 1 ≤ d ∧ WalkFn w bd bk most gg wt st2 o d') → RunInv w bd bk most name kk gg i wt d nn rest' stR o
  | jump : kk = Str.ofString "jump" → wt < most → (∃ oi st2 d', d' + 1 ≤ d ∧ WalkFn w bd bk most gg (wt + 1) st2 oi d' ∧ st2.length + 1 ≤ stR.length ∧ ((oi ≠ .back ∧ o = oi ∧ stR = ⟨name, i, kk, gg, nn⟩ :: st2) ∨ (oi = .back ∧ ∃ st3, Run bk most name (i + 1) rest' wt st3 o d ∧ stR = ⟨name, i, kk, gg, nn⟩ :: (st2 ++ st3)))) → RunInv w bd bk most name kk gg i wt d nn rest' stR o
theorem run_inv (ih : ∀ m, m < d → ∀ name rs wt st o, bkAt bk name = some rs → Run bk most name 0 rs wt st o m → WalkFn w bd bk most name wt st o m) (run : Run bk most name i ((nn, some (kk, gg)) :: rest') wt stR o d) : RunInv w bd bk most name kk gg i wt d nn rest' stR o := by
  generalize hrs : ((nn, some (kk, gg)) :: rest' : List Rule) = rs at run
  cases run with
  | done => cases hrs
  | none _ => cases hrs
  | ret => cases hrs; exact .ret rfl ⟨rfl, rfl⟩
  | acc => cases hrs; exact .acc rfl ⟨rfl, rfl⟩
  | drop => cases hrs; exact .drop rfl ⟨rfl, rfl⟩
  | full hq => cases hrs; exact .full rfl hq ⟨rfl, rfl⟩
  | brk hq => cases hrs; exact .plain (.inl rfl) ⟨_, rfl, hq⟩
  | cont hq => cases hrs; exact .plain (.inr rfl) ⟨_, rfl, hq⟩
  | gotoMiss hg => cases hrs; exact .goto rfl ⟨[], _, rfl, Nat.le_refl _, walk_miss hg⟩
  | goto hg hq => cases hrs; exact .goto rfl ⟨_, _, rfl, Nat.le_refl _, ih _ (Nat.lt_succ_self _) _ _ _ _ _ hg hq⟩
  | jumpMiss hw hg => cases hrs; exact .jump rfl hw ⟨_, [], _, Nat.le_refl _, walk_miss hg, Nat.le_refl _, .inl ⟨(fun q => nomatch q), rfl, rfl⟩⟩
  | jumpOut hw hg hq hno => cases hrs; exact .jump rfl hw ⟨_, _, _, Nat.le_refl _, ih _ (Nat.lt_succ_self _) _ _ _ _ _ hg hq, Nat.le_refl _, .inl ⟨hno, rfl, rfl⟩⟩
  | jumpBack hw hg hq hq2 => cases hrs; exact .jump rfl hw ⟨_, _, _, Nat.le_refl _, ih _ (Nat.lt_succ_self _) _ _ _ _ _ hg hq, by rw [List.length_cons, List.length_append]; omega, .inr ⟨rfl, _, hq2, rfl⟩⟩
theorem off_kk {a b : Str} {P : Prop} (h' : kk = a) (h : (kk == b) = true) (ne : a ≠ b) : P := absurd (h'.symm.trans (eq_of_beq h)) ne
theorem off_kf {a : Str} {P : Prop} (h' : kk = a) (h : (kk == a) = false) : P := by rw [h', beq_self_eq_true] at h; cases h
theorem inv_ret (V : RunInv w bd bk most name kk gg i wt d nn rest' stR o) (h : (kk == Str.ofString "return") = true) : stR = [⟨name, i, kk, gg, nn⟩] ∧ o = .back := by
  rcases V with ⟨_, r⟩ | ⟨q, _⟩ | ⟨q, _⟩ | ⟨q, _⟩ | ⟨q | q, _⟩ | ⟨q, _⟩ | ⟨q, _⟩
  · exact r
  all_goals first | exact r | exact off_kk q h (by decide) | exact absurd (Int.ofNat_lt.mpr r) hw | exact absurd (Int.ofNat_lt.mp hw) (Nat.not_lt.mpr r)
theorem inv_acc (V : RunInv w bd bk most name kk gg i wt d nn rest' stR o) (h : (kk == Str.ofString "accept") = true) : stR = [⟨name, i, kk, gg, nn⟩] ∧ o = .ended kk := by
  rcases V with ⟨q, _⟩ | ⟨_, r⟩ | ⟨q, _⟩ | ⟨q, _⟩ | ⟨q | q, _⟩ | ⟨q, _⟩ | ⟨q, _⟩
  all_goals first | exact r | exact off_kk q h (by decide) | exact absurd (Int.ofNat_lt.mpr r) hw | exact absurd (Int.ofNat_lt.mp hw) (Nat.not_lt.mpr r)
theorem inv_drop (V : RunInv w bd bk most name kk gg i wt d nn rest' stR o) (h : (kk == Str.ofString "drop") = true) : stR = [⟨name, i, kk, gg, nn⟩] ∧ o = .ended kk := by
  rcases V with ⟨q, _⟩ | ⟨q, _⟩ | ⟨_, r⟩ | ⟨q, _⟩ | ⟨q | q, _⟩ | ⟨q, _⟩ | ⟨q, _⟩
  all_goals first | exact r | exact off_kk q h (by decide) | exact absurd (Int.ofNat_lt.mpr r) hw | exact absurd (Int.ofNat_lt.mp hw) (Nat.not_lt.mpr r)
theorem inv_full (V : RunInv w bd bk most name kk gg i wt d nn rest' stR o) (h : (kk == Str.ofString "jump") = true) (hw : ¬ ((wt : Int) < (most : Int))) : stR = [⟨name, i, kk, gg, nn⟩] ∧ o = .ended (Str.ofString "drop") := by
  rcases V with ⟨q, _⟩ | ⟨q, _⟩ | ⟨q, _⟩ | ⟨_, _, r⟩ | ⟨q | q, _⟩ | ⟨q, _⟩ | ⟨_, r, _⟩
  all_goals first | exact r | exact off_kk q h (by decide) | exact absurd (Int.ofNat_lt.mpr r) hw | exact absurd (Int.ofNat_lt.mp hw) (Nat.not_lt.mpr r)
theorem inv_plain (V : RunInv w bd bk most name kk gg i wt d nn rest' stR o) (h1 : (kk == Str.ofString "return") = false) (h2 : (kk == Str.ofString "accept") = false) (h3 : (kk == Str.ofString "drop") = false) (h4 : (kk == Str.ofString "goto") = false) (h5 : (kk == Str.ofString "jump") = false) :
    ∃ st2, stR = ⟨name, i, kk, gg, nn⟩ :: st2 ∧ Run bk most name (i + 1) rest' wt st2 o d := by
  rcases V with ⟨q, _⟩ | ⟨q, _⟩ | ⟨q, _⟩ | ⟨q, _⟩ | ⟨_, r⟩ | ⟨q, _⟩ | ⟨q, _⟩
  · exact off_kf q h1
  · exact off_kf q h2
  · exact off_kf q h3
  · exact off_kf q h5
  · exact r
  · exact off_kf q h4
  · exact off_kf q h5
theorem inv_goto (V : RunInv w bd bk most name kk gg i wt d nn rest' stR o) (h : (kk == Str.ofString "goto") = true) : ∃ st2 d', stR = ⟨name, i, kk, gg, nn⟩ :: st2 ∧ d' + 1 ≤ d ∧ WalkFn w bd bk most gg wt st2 o d' := by
  rcases V with ⟨q, _⟩ | ⟨q, _⟩ | ⟨q, _⟩ | ⟨q, _⟩ | ⟨q | q, _⟩ | ⟨_, r⟩ | ⟨q, _⟩
  all_goals first | exact r | exact off_kk q h (by decide) | exact absurd (Int.ofNat_lt.mpr r) hw | exact absurd (Int.ofNat_lt.mp hw) (Nat.not_lt.mpr r)
theorem inv_jump (V : RunInv w bd bk most name kk gg i wt d nn rest' stR o) (h : (kk == Str.ofString "jump") = true) (hw : (wt : Int) < (most : Int)) :
    ∃ oi st2 d', d' + 1 ≤ d ∧ WalkFn w bd bk most gg (wt + 1) st2 oi d' ∧ st2.length + 1 ≤ stR.length ∧ ((oi ≠ .back ∧ o = oi ∧ stR = ⟨name, i, kk, gg, nn⟩ :: st2) ∨ (oi = .back ∧ ∃ st3, Run bk most name (i + 1) rest' wt st3 o d ∧ stR = ⟨name, i, kk, gg, nn⟩ :: (st2 ++ st3))) := by
  rcases V with ⟨q, _⟩ | ⟨q, _⟩ | ⟨q, _⟩ | ⟨_, r, _⟩ | ⟨q | q, _⟩ | ⟨q, _⟩ | ⟨_, _, r⟩
  all_goals first | exact r | exact off_kk q h (by decide) | exact absurd (Int.ofNat_lt.mpr r) hw | exact absurd (Int.ofNat_lt.mp hw) (Nat.not_lt.mpr r)
end


theorem linesC6b : True := by
  k_with "eval Name" => (k_here; k_dflt (refine' PyProof.Rows.ld ?k1 ?k2 ?_; (case k1 => k_asm); (case k2 => ((repeat (refine Eq.trans (if_neg (by decide)) ?_)); assumption)); k_whole))
  k_with "loadName" => (k_here; k_dflt (refine' PyProof.Rows.ldn ?k1 ?k2 ?_; (case k1 => k_asm); (case k2 => ((repeat (refine Eq.trans (if_neg (by decide)) ?_)); assumption)); k_whole))
  k_with "pyIter ref" => ((with_reducible show wpAny _ _ (pyIter (Value.ref _)) (fun it s₂ => LoopAtV _ _ _ _ _ _ _ _ _ it s₂) _ _); refine Stop.go ?_)
  k_with "call builtin:len" => (k_here; (with_reducible show wpAny _ _ (call (Value.builtin "len") [Value.ref _]) _ _ _); k_dflt (refine' len_rules ?k1 ?k2 ?_; (case k1 => k_asm); (case k2 => k_asm); k_whole))
  k_with "subscriptTail Subscript" => (k_here; (with_reducible show wpAny _ _ (subscriptTail _ _ (Value.ref _) (Value.int _ _)) _ _ _); k_dflt (refine' item_rules ?k1 ?k2 ?k5 ?k3 ?_ ?k4; (case k1 => k_asm); (case k2 => k_asm); (case k5 => exact rfl); (case k3 => k_asm); (case k4 => with_unfolding_all rfl); k_whole); intro _ _ _ _ hv; cases hv; (try (have _ := verd_tup (by with_reducible assumption))))
  k_with "call ref" => (k_here; (with_reducible show wpAny _ _ (call (Value.ref 130) _) _ _ _); refine Stop.go ?_)
  trivial
set_option maxHeartbeats 8000000 in
theorem walk_ok {w : World} {bd : Addr} {bk : List (Str × List Rule)} {most : Nat} (hlen : GoalLens bk) : ∀ (d : Nat) (name : Str) (rs : List Rule) (wt : Nat) (st : List Step) (o : Out), bkAt bk name = some rs → Run bk most name 0 rs wt st o d → WalkFn w bd bk most name wt st o d := by
  intro d
  induction d using Nat.strongRecOn with
  | ind d ih =>
  intro name rs wt st o hx run A s base outer p loose mean mg mb R ls la S Q n1 n2 tn tw tm B X T hh hroom b hne hs ha hz1 hz2 hnl hR
  obtain ⟨hdl, dp, fr, gd, un⟩ := A
  obtain rfl : hdl = none := hh
  obtain rfl : fr = some outer := B.stack
  replace hroom : dp + d + 5 < recursionLimit := hroom
  revert X; k_fill; intro X
  refine' enter (news := [(ls, listOf S n1), (la, listOf Q n2)]) (binds := [(Str.ofString "book", .ref bd), (Str.ofString "name", .str name tn), (Str.ofString "waiting", .int (wt : Nat) tw), (Str.ofString "most", .int (most : Nat) tm), (Str.ofString "steps", .ref ls), (Str.ofString "asked", .ref la)]) B X T ?hN ?ho ?hcd ?hroom ?hbind ?hloc ?h ?c2 ?c3 ?c4 ?c5
  case hN => intro q hq; simp only [List.mem_cons, List.not_mem_nil, or_false] at hq; rcases hq with rfl | rfl; exact ⟨hs, by simp⟩; exact ⟨ha, by simp⟩
  case ho => k_is
  case hcd => k_is
  case hroom => show dp < _; omega
  case hbind => exact BindsTo.of_eq rfl
  case hloc => exact locs rfl
  case c2 => exact rfl
  case c3 => exact rfl
  case c4 => exact rfl
  case c5 => decide
  intro g L' h₁ hg F N B' X' T' l1
  subst hg
  try dsimp only
  k_fold
  k_steps
  (with_reducible rename IsRange _ _ _ _ _ _ _ _ => hr)
  (with_reducible rename Fr _ _ _ _ => F0)
  (with_reducible rename News _ _ _ _ => N0)
  (with_reducible rename RulesAt _ _ _ => hrul)
  have hrl := hrul.len
  refine Stop.out (iter_rangeI (n := rs.length) (WalkInv bk most name wt rs st o d bd ls la S Q tn tw tm) rfl hr (small_one (by omega) (by omega) (by omega) (by omega)) (by rw [rangeSize_nat]; omega) F0 N0 ?_ ?_ ?_)
  · exact ⟨[], st, #[], #[], n1, n2, [], by simp, by simp, run, .nil, .nil, ⟨rfl, rfl, rfl, rfl, rfl, rfl⟩, (fun _ h => nomatch h), (fun _ h => nomatch h)⟩
  · clear hr F0 N0
    intro I i t m₁ news₁ h tk hi hInv hI hoff F N
    obtain ⟨stD, stR, its, qs, n3, n4, rest, rfl, rfl, hrun, hsI, hqI, loc, hr1, hr2⟩ := hInv
    obtain ⟨hm1, hm2, hm3, hm4, hm5, hm6⟩ := id loc
    k_fold
    have hzS : its.size = stD.length := by rw [← hsI.length]; simp
    have hzQ : qs.size = stD.length := by rw [← hqI.length]; simp
    rw [List.length_append] at hz1 hz2
    have hsz1 : (S ++ its).size ≤ sizeLine := by rw [Array.size_append, sizeLine_eq]; omega
    have hsz2 : (Q ++ qs).size ≤ sizeLine := by rw [Array.size_append, sizeLine_eq]; omega
    obtain ⟨⟨nn, vv⟩, hrv⟩ : ∃ r, rs[i]? = some r := ⟨rs[i], by simp [hi]⟩
    have hdrop : rs.drop i = (nn, vv) :: rs.drop (i + 1) := by
      rw [List.drop_eq_getElem_cons hi]
      congr 1
      exact Option.some.inj ((List.getElem?_eq_getElem hi).symm.trans hrv)
    rw [hdrop] at hrun
    generalize hrest : rs.drop (i + 1) = rest' at hrun
    replace hI := allLt_of hI
    simp only [AllLt, and_true] at hI
    replace F : Fr (hideAll s.heap [ls, la]) L' h _ := F
    replace N : News (hideAll s.heap [ls, la]) L' h _ := N
    have hne1 : @Ne Nat ls la := hne
    have hne2 : @Ne Nat la ls := Ne.symm hne
    have hr3 : ∀ p ∈ rest, p.1 ≠ I := fun p hp => hoff p (.tail _ (.tail _ hp))
    clear hoff hdrop
    simp only [Int.zero_add] at F
    cases vv with
    | none =>
      cases hrun with
      | none hq =>
        k_steps
        (with_reducible rename Fr _ _ _ _ => F9)
        (with_reducible rename News _ _ _ _ => N9)
        exact walk_next F9 N9 (List.Mem.head _) (by k_mem) (by k_mem) (by k_mem) (fun p hp => .tail _ (.tail _ (.tail _ (.tail _ (.tail _ hp))))) hq hrest hsI hqI (by repeat (first | exact loc | refine Loc.set ?_ (by decide))) (by omega) (by omega) (by omega) (by omega) (by omega) hr1 hr2 hr3
    | some kg =>
      obtain ⟨kk, gg⟩ := kg
      k_steps
      · (with_reducible rename Fr _ _ _ _ => F9)
        (with_reducible rename News _ _ _ _ => N9)
        obtain ⟨rfl, rfl⟩ := inv_ret (run_inv ih hrun) (by assumption)
        exact walk_fin hR F9 N9 (List.Mem.head _) (.tail _ (.head _)) (by k_mem) (by k_mem) (fun p hp => .tail _ (.tail _ (.tail _ (.tail _ (.tail _ hp))))) .back hsI hqI (by omega) (by omega) (by omega) (by omega) hr1 hr2
      · (with_reducible rename Fr _ _ _ _ => F9)
        (with_reducible rename News _ _ _ _ => N9)
        obtain ⟨rfl, rfl⟩ := inv_acc (run_inv ih hrun) (by assumption)
        exact walk_fin hR F9 N9 (List.Mem.head _) (.tail _ (.head _)) (by k_mem) (by k_mem) (fun p hp => .tail _ (.tail _ (.tail _ (.tail _ (.tail _ hp))))) .ended hsI hqI (by omega) (by omega) (by omega) (by omega) hr1 hr2
      · (with_reducible rename Fr _ _ _ _ => F9)
        (with_reducible rename News _ _ _ _ => N9)
        obtain ⟨rfl, rfl⟩ := inv_drop (run_inv ih hrun) (by assumption)
        exact walk_fin hR F9 N9 (List.Mem.head _) (.tail _ (.head _)) (by k_mem) (by k_mem) (fun p hp => .tail _ (.tail _ (.tail _ (.tail _ (.tail _ hp))))) .ended hsI hqI (by omega) (by omega) (by omega) (by omega) hr1 hr2
      · (with_reducible rename Fr _ _ _ _ => F9)
        (with_reducible rename News _ _ _ _ => N9)
        obtain ⟨st2, d', rfl, hd', C⟩ := inv_goto (run_inv ih hrun) (by assumption)
        simp only [List.length_cons] at hz1 hz2
        refine Stop.out (walk_call C B' F9 X' N9 T' b (by dsimp only; omega) rfl rfl rfl (by k_mem) (by k_mem) hne1 rfl (by simp only [Array.size_push, Array.size_append]; omega) (by simp only [Array.size_push, Array.size_append]; omega) (hlen _ _ hx _ (List.mem_of_getElem? hrv) _ _ rfl) (I := I) (rest := rest) (by k_mem) (List.Mem.head _) (by omega) (by omega) (by omega) (by omega) (fun p hp => .tail _ (.tail _ (.tail _ (.tail _ hp)))) hr1 hr2 ?_)
        intro h9 tk9 r kk9 gg9 u1 u2 its2 qs2 n5 n6 rest2 F8 N8 ho9 hs9 hq9 hsub ner hne9
        have hs1 := hne9 ls ⟨_, by k_mem⟩ hr1
        have hs2 := hne9 la ⟨_, by k_mem⟩ hr2
        have hs3 := hne9 I ⟨_, by k_mem⟩ hr3
        simp only [AllNe, and_true] at ner
        clear F9 N9
        k_steps
        exact walk_fin2 hR F8 N8 (List.Mem.head _) (by k_mem) (by k_mem) (by k_mem) (fun p hp => .tail _ (.tail _ (.tail _ (.tail _ (.tail _ hp))))) ho9 hsI hqI hsub hs9 hq9 (by omega) (by omega) (by omega) (by omega) hs1 hs2
      · (with_reducible rename Fr _ _ _ _ => F9)
        (with_reducible rename News _ _ _ _ => N9)
        obtain ⟨oi, st2, d', hd', C, hl2, hout⟩ := inv_jump (run_inv ih hrun) (by assumption) (by assumption)
        refine Stop.out (walk_call C B' F9 X' N9 T' b (by dsimp only; omega) rfl rfl rfl (by k_mem) (by k_mem) hne1 rfl (by simp only [Array.size_push, Array.size_append]; omega) (by simp only [Array.size_push, Array.size_append]; omega) (hlen _ _ hx _ (List.mem_of_getElem? hrv) _ _ rfl) (I := I) (rest := rest) (by k_mem) (.tail _ (List.Mem.head _)) (by omega) (by omega) (by omega) (by omega) (fun p hp => .tail _ (.tail _ (.tail _ (.tail _ (.tail _ hp))))) hr1 hr2 ?_)
        intro h9 tk9 r kk9 gg9 u1 u2 its2 qs2 n5 n6 rest2 F8 N8 ho9 hs9 hq9 hsub ner hne9
        have hs1 := hne9 ls ⟨_, by k_mem⟩ hr1
        have hs2 := hne9 la ⟨_, by k_mem⟩ hr2
        have hs3 := hne9 I ⟨_, by k_mem⟩ hr3
        simp only [AllNe, and_true] at ner
        clear F9 N9
        k_steps
        · (with_reducible rename Fr _ _ _ _ => F7)
          (with_reducible rename News _ _ _ _ => N7)
          have hk9 : (kk9 != Str.ofString "back") = true := by assumption
          rcases hout with ⟨_, rfl, rfl⟩ | ⟨rfl, _⟩
          · exact walk_fin2 hR F7 N7 (List.Mem.head _) (by k_mem) (by k_mem) (by k_mem) (fun p hp => .tail _ (.tail _ (.tail _ (.tail _ (.tail _ hp))))) ho9 hsI hqI hsub hs9 hq9 (by omega) (by omega) (by omega) (by omega) hs1 hs2
          · cases ho9
            exact absurd hk9 (by decide)
        · (with_reducible rename Fr _ _ _ _ => F7)
          (with_reducible rename News _ _ _ _ => N7)
          have hk9 : (kk9 != Str.ofString "back") = false := by assumption
          rcases hout with ⟨hno, _, _⟩ | ⟨rfl, st3, hq2, rfl⟩
          · cases ho9 with
            | back => exact absurd rfl hno
            | ended => exact absurd hk9 (by decide)
            | fault => exact absurd hk9 (by decide)
          · exact walk_next2 F7 N7 (by k_mem) (by k_mem) (by k_mem) (by k_mem) (fun p hp => .tail _ (.tail _ (.tail _ (.tail _ (.tail _ hp))))) hq2 hrest hsI hqI hsub hs9 hq9 (by repeat (first | exact loc | refine Loc.set ?_ (by decide))) (by omega) (by omega) (by omega) (by omega) (by omega) hs1 hs2 hs3
      · (with_reducible rename Fr _ _ _ _ => F9)
        (with_reducible rename News _ _ _ _ => N9)
        obtain ⟨rfl, rfl⟩ := inv_full (run_inv ih hrun) (by assumption) (by assumption)
        exact walk_fin hR F9 N9 (List.Mem.head _) (.tail _ (.head _)) (by k_mem) (by k_mem) (fun p hp => .tail _ (.tail _ (.tail _ (.tail _ (.tail _ hp))))) .ended hsI hqI (by omega) (by omega) (by omega) (by omega) hr1 hr2
      · (with_reducible rename Fr _ _ _ _ => F9)
        (with_reducible rename News _ _ _ _ => N9)
        obtain ⟨st2, rfl, hq⟩ := inv_plain (run_inv ih hrun) (by assumption) (by assumption) (by assumption) (by assumption) (by assumption)
        exact walk_next F9 N9 (List.Mem.head _) (by k_mem) (by k_mem) (by k_mem) (fun p hp => .tail _ (.tail _ (.tail _ (.tail _ hp)))) hq hrest hsI hqI (by repeat (first | exact loc | refine Loc.set ?_ (by decide))) (by omega) (by omega) (by omega) (by omega) (by omega) hr1 hr2 hr3
  · clear hr F0 N0
    intro m₁ news₁ h tk hInv F N
    obtain ⟨stD, stR, its, qs, n3, n4, rest, rfl, rfl, hrun, hsI, hqI, loc, hr1, hr2⟩ := hInv
    rw [List.drop_length] at hrun
    cases hrun
    replace F : Fr (hideAll s.heap [ls, la]) L' h _ := F
    replace N : News (hideAll s.heap [ls, la]) L' h _ := N
    dsimp only
    k_steps
    (with_reducible rename Fr _ _ _ _ => F9)
    (with_reducible rename News _ _ _ _ => N9)
    rename_i D9 hh9 l9
    have hn1 : @Ne Nat D9 ls := Nat.ne_of_gt l9.1
    have hn2 : @Ne Nat D9 la := Nat.ne_of_gt l9.2.1
    refine hR _ _ _ _ _ _ _ its qs n3 n4 ((D9, tup2 (Str.ofString "back") (Str.ofString "") tk (tk + 1)) :: rest) (Keeps.of_fr F9) (N9.get (by k_mem)) (N9.get (by k_mem)) (freshM (News.sub N9 (fun p hp => ?_)) (fun p hp => ?_)) (.head _) .back ?_ ?_
    · rcases List.mem_cons.mp hp with e | hp
      · rw [e]; exact List.Mem.head _
      · exact .tail _ (.tail _ (.tail _ hp))
    · simp only [List.mem_cons, List.not_mem_nil, or_false, not_or]
      exact ⟨cons_ne hn1 hr1 p hp, cons_ne hn2 hr2 p hp⟩
    · rw [List.append_nil]; exact hsI.imp fun _ _ x => x.mono fun _ h => .tail _ h
    · rw [List.append_nil]; exact hqI

end Mine
end

section
open PySem PySem.W PyProof.Rows PySem.Calls PyProof.V
namespace Mine
/-- an exception of our class -/
noncomputable abbrev excObj (dd : Option Addr) (vs : Array Value) : Obj := { cls := .ref 44, dict := dd, data := .fields vs }

/-- e with its trail; the trail's head is T -/
noncomputable def Trail (h : Heap) (e dx T : Addr) (fl : Value) : Prop :=
  ∃ vs oT ts, h.get? e = some (excObj (some dx) vs) ∧ vs[1]? = some (.ref T) ∧ T ≠ e ∧ h.get? T = some oT ∧ oT.data = .fields ts ∧ ts[3]? = some fl

/-- all but X stays; the frames fs up to their slots -/
noncomputable def Moved (fs X : List Addr) (h h' : Heap) : Prop :=
  ∀ b o, h.get? b = some o → b ∉ X → (b ∉ fs → h'.get? b = some o) ∧ ∃ sl, h'.get? b = some { o with slots := sl }

theorem Moved.refl {fs X : List Addr} {h : Heap} : Moved fs X h h := fun _ o e _ => ⟨fun _ => e, o.slots, e⟩
theorem Moved.trans {fs X : List Addr} {h h' h'' : Heap} (a : Moved fs X h h') (b : Moved fs X h' h'') : Moved fs X h h'' := fun c o e hx =>
  ⟨fun hf => (b c o ((a c o e hx).1 hf) hx).1 hf, by obtain ⟨sl, e1⟩ := (a c o e hx).2; obtain ⟨sl', e2⟩ := (b c _ e1 hx).2; exact ⟨sl', e2⟩⟩
theorem Moved.mono {fs fs' X X' : List Addr} {h h' : Heap} (a : Moved fs X h h') (hf : ∀ b ∈ fs, b ∈ fs') (hx : ∀ b ∈ X, b ∈ X') : Moved fs' X' h h' := fun c o e hn =>
  ⟨fun hc => (a c o e fun q => hn (hx c q)).1 fun q => hc (hf c q), (a c o e fun q => hn (hx c q)).2⟩
theorem Moved.of_slots {fs X : List Addr} {h h' : Heap} (x : Heap.SlotsOnly fs h h') : Moved fs X h h' := fun b o e _ =>
  ⟨fun hb => (x.2.1 b hb).trans e, x.2.2 b o e⟩

section
variable {M : Model} {A : Around} {E : Value → Shared → Prop} {s : Shared}

/-- a new head of the trail -/
theorem entry_T {base : Heap} {env : Env} {outer : List Env} {L e dx : Addr} {vs : Array Value} {head : Value} {hadNext : Bool} {Q : Unit → Shared → Prop}
    (hfr : A.frames = some (env :: outer)) (hl : s.heap.FunFrames base (env :: outer)) (hf : env.frame = some L)
    (he : s.heap.get? e = some (excObj (some dx) vs)) (hsz : 1 < vs.size)
    (h : ∀ h' T, Moved ((env :: outer).filterMap (·.frame)) [e] s.heap h' → s.heap.get? T = none → Trail h' e dx T (rawInt L) → Q () { s with heap := h' }) :
    wpAny M A (do let a ← frameOf env; let pl ← entryPlaceOf L hadNext; let b ← EntryCells.newEntry head a .none (rawInt L) .none pl; setField (.ref e) 1 b) Q E s := by
  have hene : e ∉ (env :: outer).filterMap (·.frame) := fun hm => by
    obtain ⟨_, o, ho, hnf⟩ := hl.mem hm
    rw [he] at ho; cases ho; exact hnf vs rfl
  refine wpAny_bind (wpAny_frameOf_fun hfr hl hf fun h₁ hs => ?_)
  refine wpAny_bind (wpAny_entryPlaceOf fun pl hpl => ?_)
  unfold EntryCells.newEntry newFields
  refine wpAny_bind (wpAny_newObj_type ?_ (hpl.sizeOk5 _ _ _ _ _))
  have he₁ : h₁.get? e = some (excObj (some dx) vs) := (hs.2.1 e hene).trans he
  generalize hto : ({ cls := .type "traceback", dict := none, data := .fields ([head, .ref L, .none, rawInt L, .none] ++ (if pl.isEmpty then List.replicate 6 Value.none else pl)).toArray } : Obj) = to
  have hfree : to.isFreed = false := by rw [← hto]; rfl
  have he₂ := Heap.get?_push_of_some (h := h₁) to he₁
  refine wpAny_setField he₂ rfl hsz ?_
  have hTe : h₁.objs.size ≠ e := Nat.ne_of_gt (Heap.lt_size he₁)
  have he₃ := Heap.get?_update_self (Obj.mapFields (·.setIfInBounds 1 (Value.ref h₁.objs.size))) he₂ rfl
  have hT₃ := (Heap.get?_update_other (h₁.push to) (Obj.mapFields (·.setIfInBounds 1 (Value.ref h₁.objs.size))) (Ne.symm hTe)).trans (Heap.get?_push_size h₁ hfree)
  refine h _ h₁.objs.size (fun b o hb hx => ?_) ?_ ⟨_, _, _, he₃, by simp [hsz], hTe, hT₃, by rw [← hto], by simp⟩
  · have hbe : e ≠ b := fun q => hx (by simp [q])
    have go : ∀ o', h₁.get? b = some o' → ((h₁.push to).update e (Obj.mapFields (·.setIfInBounds 1 (Value.ref h₁.objs.size)))).get? b = some o' := fun o' e' => by
      rw [Heap.get?_update_other _ _ hbe]; exact Heap.get?_push_of_some _ e'
    have m1 := Moved.of_slots (X := []) hs b o hb (by simp)
    refine ⟨fun hn => go o (m1.1 hn), ?_⟩
    obtain ⟨sl, e'⟩ := m1.2
    exact ⟨sl, go _ e'⟩
  · exact Heap.get?_none_of_le (Nat.le_of_eq hs.1.symm)

theorem flight_T {e dx T : Addr} {fl : Value} {fr : Option Addr} {Q : Unit → Shared → Prop} (ht : Trail s.heap e dx T fl)
    (h : ∀ h', Moved [] [T] s.heap h' → Trail h' e dx T (fr.elim .none fun f => rawInt f) → Q () { s with heap := h' }) : wpAny M A (setFlight (.ref e) fr) Q E s := by
  obtain ⟨vs, oT, ts, he, h1, hTe, hT, hd, h3⟩ := ht
  unfold setFlight
  refine wpAny_bind (wpAny_field he rfl h1 ?_)
  rw [if_pos (show (Value.ref T != Value.none) = true from by simp)]
  refine wpAny_setField hT hd (Array.getElem?_eq_some_iff.mp h3).1 ?_
  have hlt := (Array.getElem?_eq_some_iff.mp h3).1
  have hd' := Obj.data_mapFields hd (·.setIfInBounds 3 (fr.elim Value.none fun f => rawInt f))
  have hT' := Heap.get?_update_self (Obj.mapFields (·.setIfInBounds 3 (fr.elim Value.none fun f => rawInt f))) hT (Obj.isFreed_of_fields hd')
  refine h _ (fun b o hb hx => ?_) ⟨vs, _, _, ?_, h1, hTe, hT', hd', by simp [hlt]⟩
  · have hbT : T ≠ b := fun q => hx (by simp [q])
    have := (Heap.get?_update_other s.heap (Obj.mapFields (·.setIfInBounds 3 (fr.elim Value.none fun f => rawInt f))) hbT).trans hb
    exact ⟨fun _ => this, o.slots, this⟩
  · rw [Heap.get?_update_other _ _ hTe]; exact he

/-- noting the first frame -/
theorem note_first {base : Heap} {env : Env} {outer : List Env} {L e dx : Addr} {vs : Array Value} {Q : Unit → Shared → Prop}
    (hfr : A.frames = some (env :: outer)) (hl : s.heap.FunFrames base (env :: outer)) (hf : env.frame = some L)
    (he : s.heap.get? e = some (excObj (some dx) vs)) (h1 : vs[1]? = some .none)
    (h : ∀ h' T, Moved ((env :: outer).filterMap (·.frame)) [e] s.heap h' → s.heap.get? T = none → Trail h' e dx T (rawInt L) → Q () { s with heap := h' }) : wpAny M A (noteFrame (.ref e) env) Q E s := by
  unfold noteFrame
  simp only [hf]
  refine wpAny_bind (wpAny_field he rfl h1 ?_)
  rw [if_neg (by decide)]
  exact entry_T hfr hl hf he (Array.getElem?_eq_some_iff.mp h1).1 h

/-- noting the next -/
theorem note_next {base : Heap} {env : Env} {outer : List Env} {L e dx T : Addr} {Q : Unit → Shared → Prop}
    (hfr : A.frames = some (env :: outer)) (hl : s.heap.FunFrames base (env :: outer)) (hf : env.frame = some L) (ht : Trail s.heap e dx T .none)
    (h : ∀ h' T', Moved ((env :: outer).filterMap (·.frame)) [e, T] s.heap h' → s.heap.get? T' = none → Trail h' e dx T' (rawInt L) → Q () { s with heap := h' }) : wpAny M A (noteFrame (.ref e) env) Q E s := by
  obtain ⟨vs, oT, ts, he, h1, hTe, hT, hd, h3⟩ := ht
  unfold noteFrame
  simp only [hf]
  refine wpAny_bind (wpAny_field he rfl h1 ?_)
  rw [if_pos (show (Value.ref T != Value.none) = true from by simp)]
  refine wpAny_bind (wpAny_field hT hd h3 ?_)
  rw [if_neg (show ¬ ((Value.none == rawInt L) = true) from by simp [rawInt])]
  refine wpAny_bind (wpAny_setField hT hd (Array.getElem?_eq_some_iff.mp h3).1 ?_)
  have other : ∀ b, b ≠ T → (s.heap.update T (Obj.mapFields (·.setIfInBounds 3 Value.none))).get? b = s.heap.get? b := fun b hb => Heap.get?_update_other _ _ (Ne.symm hb)
  have notT : ∀ b o, s.heap.get? b = some o → (∀ vs, o.data ≠ .fields vs) → b ≠ T := fun b o hb hnf q => by
    rw [q, hT] at hb; cases hb; exact hnf ts hd
  refine entry_T hfr (hl.of_keeps fun b o hb hnf => ⟨o, (other b (notT b o hb hnf)).trans hb, rfl⟩) hf ((other e (Ne.symm hTe)).trans he) (Array.getElem?_eq_some_iff.mp h1).1 fun h' T' hm hn htr => ?_
  refine h h' T' (fun b o hb hx => ?_) ?_ htr
  · simp only [List.mem_cons, List.not_mem_nil, or_false, not_or] at hx
    exact hm b o ((other b hx.2).trans hb) (by simp [hx.1])
  · by_cases q : T' = T
    · subst q
      rw [Heap.get?_update_self _ hT (Obj.isFreed_of_fields (Obj.data_mapFields hd _))] at hn; cases hn
    · rw [other T' q] at hn; exact hn
end

end Mine
end

section
open PySem PySem.W PyProof.Rows PySem.Calls PyProof.V
namespace Mine
noncomputable abbrev excTail : List Value := [.ref 31, .type "Exception", .type "BaseException", .type "object"]
noncomputable abbrev obj44 : Obj := excClassObj (Str.ofString "Misused") (Str.ofString "Misused") 44 43 [.ref 31] excTail true [] [] false none none (some (.ref 35)) none (some (.str (Str.ofString "Misused") 219)) (some (.str (Str.ofString "Misused") 227)) (some (.bool true)) "Exception.__new__"

/-- what is written of our class -/
structure Cls44 (K : Frag) : Prop where
  obj : K.lookup 44 = some obj44
  sa : findIn K (.ref 44) "__setattr__" = some (some (.builtin "object.__setattr__"))
  t1 : takerIn K 44 "why" = some none
  t2 : takerIn K 44 "at" = some none
  init : findIn K (.ref 44) "__init__" = some (some (.ref 28))
  fn : typeIn K (.ref 28) = some (.type "function")
  ga : findIn K (.ref 44) "__getattribute__" = some (some (.builtin "BaseException.__getattribute__"))
  gt : findIn K (.ref 44) "__getattr__" = some none
  why : findIn K (.ref 44) "why" = some none

set_option maxHeartbeats 4000000 in
theorem cls44 {w : World} {h : Heap} (X : (hd.heap_39 w.params).In h) : Cls44 (hd.heap_39 w.params) := by
  suffices hz : PySem.Challenge.rw_pq1068_01 = PySem.Challenge.rw_pq1068_01 → (hd.heap_39 w.params).In h → Cls44 (hd.heap_39 w.params) from hz rfl X
  clear X
  k_fill
  intro _ X
  refine' ⟨?k, ?a, ?b, ?c, ?d, ?e, ?f, ?g, ?h⟩
  all_goals k_is

end Mine
end

section
open PySem PySem.W PyProof.Rows PySem.Calls PyProof.V
namespace Mine
section
variable {M : Model} {A : Around} {E : Value → Shared → Prop} {h : Heap} {g : Array GenState} {d : Drawn} {t : Nat} {os : OsState}

theorem is44_exc : (Value.ref 44 :: excTail).contains (.type "Exception") = true := by decide
theorem is44_base : (Value.ref 44 :: excTail).contains (.type "BaseException") = true := by decide
theorem is44_attr : (Value.ref 44 :: excTail).contains (.type "AttributeError") = false := by decide
theorem is44_name : (Value.ref 44 :: excTail).contains (.type "NameError") = false := by decide
theorem is44_self : (Value.ref 44 :: excTail).contains (.ref 44) = true := by decide

theorem check_new44 {rest : List Value} {Q : Unit → Shared → Prop} (hC : h.get? 44 = some obj44) (hq : Q () ⟨h, g, d, t, os⟩) :
    wpAny M A (checkBuiltinCall "Exception.__new__" ⟨.ref 44 :: rest, []⟩) Q E ⟨h, g, d, t, os⟩ := by
  have F := PySem.F.excBase_Exception
  have hs := F.noStar
  simp only [checkBuiltinCall, F.newKind, F.newSplit, F.newRow]
  repeat (first | refine wpAny_loadPart_at hC ?_ | (refine wpAny_isSubtype_exc hC ?_; rw [is44_exc]) | refine wpAny_staticBase_exc hC ?_ | refine wpAny_madeBy_exc hC ?_ | simp only [bne_self_eq_false, Bool.false_eq_true, if_false] | wp_step)
  exact hq

theorem check_init44 {e : Addr} {oe : Obj} {rest : List Value} {Q : Unit → Shared → Prop} (hC : h.get? 44 = some obj44) (he : h.get? e = some oe) (hcls : oe.cls = .ref 44) (hq : Q () ⟨h, g, d, t, os⟩) :
    wpAny M A (checkBuiltinCall "Exception.__init__" ⟨.ref e :: rest, []⟩) Q E ⟨h, g, d, t, os⟩ := by
  have F := PySem.F.excBase_Exception
  have hs := F.noStar
  simp only [checkBuiltinCall, F.initKind, F.initSplit, F.initRow]
  repeat (first | (with_reducible refine wpAny_loadPart_at he ?_; rw [hcls]) | with_reducible refine wpAny_loadPart_at hC ?_ | (with_reducible refine wpAny_isSubtype_exc hC ?_; rw [is44_exc]) | wp_step)
  refine wpAny_onRaise ?_
  rw [show ∀ (a b : String) (n : Nat), Bind.check ⟨.positional, "*", "Exception", .self, [⟨"args", .varPos, false⟩]⟩ a b n (List.map (fun x => x.fst) ({ pos := Value.ref e :: rest } : Args).kw) = pure () from
    fun a b n => check_star_args _ _ _ _ _ _]
  exact wpAny_pure hq
end

section
variable {prog : Program} {w : World} {A : Around} {R : Result → Shared → Prop} {E : Value → Shared → Prop} {h : Heap} {g : Array GenState} {d : Drawn} {t : Nat} {os : OsState}

theorem new44 {rest : List Value} (hC : h.get? 44 = some obj44)
    (hq : R (.ok (.ret (.ref (h.objs.size + 1)))) ⟨(h.push { cls := .type "tuple", data := .seq rest.toArray }).push (excObj none #[.ref h.objs.size, .none, .none, .none, .bool false, .none]), g, d, t, os⟩) (hrest : rest.length ≤ sizeLine := by size_fits) :
    codeAny (model prog w) A (.builtin "Exception.__new__" ⟨.ref 44 :: rest, []⟩) R ⟨h, g, d, t, os⟩ := by
  have F := PySem.F.excBase_Exception
  have hends := F.ends
  refine codeAny_builtinAt F.entry ?_
  unfold Builtin.«BaseException.__new__»
  refine PySem.wpAt_bind ?_
  show PySem.wpAt _ _ _ (stack >>= _) _ _ _
  refine PySem.wpAt_bind (PySem.wpAt_stack fun p below => PySem.wpAt_of_wpAny ?_)
  wp_walk
  refine PySem.wpAt_of_wpAny ?_
  rw [F.owner]
  repeat (first | with_reducible refine wpAny_madeHere_exc F.canon hC ?_ | with_reducible refine wpAny_loadPart_at hC ?_ | (with_reducible refine wpAny_isSubtype_exc hC ?_; first | rw [is44_exc] | rw [is44_attr] | rw [is44_name]) | wp_step)
  show R _ _
  rw [Heap.size_push]
  exact hq

/-- Exception.__init__ on an exception of ours -/
theorem init_call44 {e : Addr} {dd : Option Addr} {t0 : Addr} {v : Value} {Q : Value → Shared → Prop} (hC : h.get? 44 = some obj44) (he : h.get? e = some (excObj dd #[.ref t0, .none, .none, .none, .bool false, .none]))
    (hq : Q .none ⟨(h.push { cls := .type "tuple", data := .seq #[v] }).update e (Obj.mapFields (·.setIfInBounds 0 (.ref h.objs.size))), g, d, t, os⟩) :
    wpAny (model prog w) A (call (.builtin "Exception.__init__") [.ref e, v]) Q E ⟨h, g, d, t, os⟩ := by
  have F := PySem.F.excBase_Exception
  refine wpAny_call (codeAny_call_builtin F.init.plain F.initEntry (check_init44 hC he rfl ?_))
  have he' := Heap.get?_push_of_some (h := h) { cls := .type "tuple", data := .seq #[v] } he
  wp_walk
  exact hq
end

end Mine
end

section
open PySem PySem.W PyProof.Rows PySem.Calls PyProof.V Builtin Builtin.ObjectAttr
namespace Mine
section
variable {prog : Program} {w : World} {A : Around} {E : Value → Shared → Prop} {s : Shared} {K : Frag} {e L : Addr} {h₀ : Heap} {m : Str → Option Value} {name : Str} {v : Value} {R : Result → Shared → Prop} {vs : Array Value}

theorem Cls44.cd (C : Cls44 K) : ∃ cd, clsIn K 44 = some cd ∧ cd.mro = .ref 44 :: excTail ∧ cd.hasDict = true := by
  have h : clsIn K 44 = (match (some obj44 : Option Obj) with | some ⟨_, _, .cls cd, _⟩ => some cd | _ => none) := by unfold clsIn; rw [C.obj]
  exact ⟨_, h, rfl, rfl⟩

theorem Cls44.type {M : Model} {h : Heap} {dd : Option Addr} (he : h.get? e = some (excObj dd vs)) : Looks M h (typeOf (.ref e)) (.ref 44) := (Looks.ld he).andThen .now

theorem osa44 {dd : Option Addr} {tk : Tok} (X : K.In s.heap) (C : Cls44 K) (he : s.heap.get? e = some (excObj dd vs)) (ht : takerIn K 44 name = some none)
    (h : ∀ b, wpAny (model prog w) A.in1 (storeInOwnDict (.ref e) (.ref 44) (.str name tk) name v b)
      (fun fin s' => match fin with | .done f => R (.ok f) s' | .again c' => c'.quiet = true ∧ codeAny (model prog w) A c' R s') (fun e s' => R (.error e) s') s) :
    codeAny (model prog w) A (.call (.builtin "object.__setattr__") ⟨[.ref e, .str name tk, v], []⟩) R s := by
  have SF := PySem.F.store_Exception
  obtain ⟨cd, hc, hm, hd⟩ := C.cd
  have T := Cls44.type (M := model prog w) he
  have sub : Looks (model prog w) s.heap (isInstance (.ref e) (.type "object")) true := T.andThen (looks_mroIn X (by unfold mroIn; rw [hc, Option.bind_some, hm]; rfl))
  refine codeAny_call_builtin SF.slot.plain SF.entry (@check_slot (model prog w) _ _ s "object.__setattr__" "object" "__setattr__" (.ref e) [.str name tk, v] [] _ SF.kind SF.split sub (SF.args (.ref e) (.str name tk) v) ?_)
  obtain ⟨attr, ha, hr⟩ := Option.bind_eq_some_iff.mp ht
  have hl : Looks (model prog w) s.heap (mroOf (.ref 44)) (.ref 44 :: excTail) := hm ▸ (looks_clsIn X hc).andThen .now
  have L3 : Looks (model prog w) s.heap (storeTaker? attr) none := by
    cases attr with
    | none => exact .now
    | some a =>
      obtain ⟨b, hb, hr⟩ := Option.map_eq_some_iff.mp hr
      refine (looks_takesIn X hb).andThen ?_
      cases b with
      | false => exact .now
      | true => cases hr
  rw [osa_eq, refuse_eq]
  refine wpAny_bind (wpAny_bind (T.here (wpAny_bind (hl.here ?_))))
  rw [refuseLoop_ref, refuseLoop_ref, SF.passes]
  refine wpAny_pure (wpAny_bind (T.here (wpAny_bind ((looks_findIn X ha).here (wpAny_bind (L3.here ?_))))))
  exact h _

theorem setPlain44 {dd : Option Addr} {Q : Unit → Shared → Prop} (X : K.In s.heap) (C : Cls44 K) (he : s.heap.get? e = some (excObj dd vs))
    (h : codeAny (model prog w) A (.call (.builtin "object.__setattr__") ⟨[.ref e, .str name s.toks, v], []⟩) (fun r s' => match r with | .ok (.ret _) => Q () s' | .ok _ => False | .error e => E e s') { s with toks := s.toks + 1 }) :
    wpAny (model prog w) A (setAttr (.ref e) name v) Q E s := by
  refine wpAny_bind (wpAny_mkText (wpAny_bind (wpAny_bind (wpAny_bind ((Cls44.type he) _ _ _ _ (fun _ _ e => e) (looks_findIn X C.sa _ _ _ _ (fun _ _ e => e) (wpAny_holding ?_)))))))
  rw [PySem.F.store_Exception.slot.bind]
  refine wpAny_bind (wpAny_pure (wpAny_bind (wpAny_call (codeAny_mono h fun r s' z => ?_))))
  rcases r with e | (v | _ | _ | _) <;> first | exact z | exact wpAny_pure (wpAny_pure z)

/-- the first store makes the dict -/
theorem set_first {Q : Unit → Shared → Prop} {rest : List (Addr × Obj)} (F : Fr h₀ L s.heap m) (X₀ : K.In h₀) (C : Cls44 K) (N : News h₀ L s.heap ((e, excObj none vs) :: rest)) (hne : ∀ p ∈ rest, p.1 ≠ e) (ht : takerIn K 44 name = some none)
    (h : ∀ D h', Fr h₀ L h' m → News h₀ L h' ((e, excObj (some D) vs) :: (D, dictOf [⟨PyData.keyHash w.params name, .str name (s.toks + 1), v⟩] 1) :: rest) → (∀ p ∈ (e, excObj none vs) :: rest, p.1 < D) → Q () { s with heap := h', toks := s.toks + 2 }) :
    wpAny (model prog w) A (setAttr (.ref e) name v) Q E s := by
  have X := X₀.keeps F.keep
  have he := (N _ (.head _)).1
  obtain ⟨cd, hc, hm, hd⟩ := C.cd
  refine setPlain44 X C he (osa44 (s := { s with toks := s.toks + 1 }) X C he ht fun b => ?_)
  refine wpAny_bind (wpAny_pure (wpAny_bind (wpAny_bind (wpAny_loadPart he (wpAny_bind (looks_clsIn X hc _ _ _ _ (fun _ _ e => e) ?_))))))
  rw [hd]
  refine wpAny_bind (wpAny_alloc ?_)
  have he₁ := Heap.get?_push_of_some (h := s.heap) { cls := .type "dict", data := .dict #[] } he
  have hlt := Heap.lt_size he
  have hes : e ≠ s.heap.objs.size := Nat.ne_of_lt hlt
  refine wpAny_bind (wpAny_update he₁ ?_)
  refine wpAny_pure ?_
  show wpAny _ _ (storeInDict s.heap.objs.size (.str name s.toks) name v) _ _ _
  have hD : ((s.heap.push { cls := .type "dict", data := .dict #[] }).update e fun o => { cls := o.cls, dict := some s.heap.objs.size, data := o.data, slots := o.slots }).get? s.heap.objs.size = some (dictOf [] 0) :=
    (Heap.get?_update_ne _ _ _ _ hes.symm).trans (Heap.get?_push_at rfl rfl)
  have keep : ∀ b o, b ≠ e → s.heap.get? b = some o → ((s.heap.push { cls := .type "dict", data := .dict #[] }).update e fun o => { cls := o.cls, dict := some s.heap.objs.size, data := o.data, slots := o.slots }).get? b = some o :=
    fun b o hb ho => (Heap.get?_update_ne _ _ _ _ hb).trans (Heap.get?_push_of_some _ ho)
  have he₂ : ((s.heap.push { cls := .type "dict", data := .dict #[] }).update e fun o => { cls := o.cls, dict := some s.heap.objs.size, data := o.data, slots := o.slots }).get? e = some (excObj (some s.heap.objs.size) vs) :=
    Heap.get?_update_self _ he₁ rfl
  have hn : h₀.get? e = none := (N _ (.head _)).2.2
  have F₁ : Fr h₀ L ((s.heap.push { cls := .type "dict", data := .dict #[] }).update e fun o => { cls := o.cls, dict := some s.heap.objs.size, data := o.data, slots := o.slots }) m := by
    obtain ⟨oL, es, ep, hL, r⟩ := F.ns
    refine ⟨⟨oL, es, ep, keep _ _ (Ne.symm (N _ (.head _)).2.1) hL, r⟩, fun b o q => keep b o (fun z => by rw [z, hn] at q; cases q) (F.keep b o q), F.above⟩
  have N₁ : News h₀ L ((s.heap.push { cls := .type "dict", data := .dict #[] }).update e fun o => { cls := o.cls, dict := some s.heap.objs.size, data := o.data, slots := o.slots }) ([(e, excObj (some s.heap.objs.size) vs)] ++ (s.heap.objs.size, dictOf [] 0) :: rest) := by
    intro p hp
    simp only [List.singleton_append, List.mem_cons] at hp
    rcases hp with rfl | rfl | hp
    · exact ⟨he₂, (N _ (.head _)).2⟩
    · refine ⟨hD, Nat.ne_of_gt F.ns.lt, ?_⟩
      cases q : h₀.get? s.heap.objs.size with
      | none => rfl
      | some o => exact absurd (Heap.lt_size (F.keep _ _ q)) (Nat.lt_irrefl _)
    · exact ⟨keep _ _ (hne p hp) (N p (.tail _ hp)).1, (N p (.tail _ hp)).2⟩
  generalize ((s.heap.push { cls := .type "dict", data := .dict #[] }).update e fun o => { cls := o.cls, dict := some s.heap.objs.size, data := o.data, slots := o.slots }) = h₁ at *
  have hput : Obj.putName name (PyData.keyHash w.params name) (.str name (s.toks + 1)) v (dictOf [] 0) = dictOf [⟨PyData.keyHash w.params name, .str name (s.toks + 1), v⟩] 1 := by
    rw [putName_dict]; rfl
  obtain ⟨F₂, N₂⟩ := news_upd (f := Obj.putName name (PyData.keyHash w.params name) (.str name (s.toks + 1)) v) F₁ N₁ (fun p hp => by rw [List.mem_singleton.mp hp]; exact hes) (fun p hp z => absurd (Heap.lt_size (N p (.tail _ hp)).1) (z ▸ Nat.lt_irrefl _)) hput rfl
  unfold storeInDict newKeyGuard
  refine wpAny_bind (wpAny_pure (wpAny_bind ?_))
  unfold nsSet
  refine wpAny_bind (wpAny_bind (wpAny_askSetting (wpAny_pure (wpAny_bind (wpAny_mkText (wpAny_bind (wpAny_loadPart hD ?_)))))))
  have hnone : aRefKeyMayBeTheName name #[] = false := by rw [aRefKeyMayBeTheName_at]; simp
  show wpAny _ _ (if aRefKeyMayBeTheName name #[] = true then _ else _) _ _ _
  rw [hnone]
  refine wpAny_updatePart hD ?_
  have hD2 := (N₂ _ (.tail _ (.head _))).1
  refine wpAny_bind (wpAny_lookBehind hD2 (pastItsLine_dict (by rw [List.size_toArray, sizeLine_eq, List.length_singleton]; omega)) ?_)
  refine wpAny_pure (h _ _ F₂ N₂ fun p hp => ?_)
  exact Heap.lt_size (N p hp).1

/-- a later store -/
theorem set_next {Q : Unit → Shared → Prop} {dx : Addr} {es es' : List DictEntry} {n n' : Nat} {rest : List (Addr × Obj)} (F : Fr h₀ L s.heap m) (X₀ : K.In h₀) (C : Cls44 K) (N : News h₀ L s.heap ((e, excObj (some dx) vs) :: (dx, dictOf es n) :: rest)) (h1 : e ≠ dx) (h2 : ∀ p ∈ rest, p.1 ≠ dx)
    (ht : takerIn K 44 name = some none) (hl : (getL name es).isSome = true) (eq : (putL name (PyData.keyHash w.params name) (.str name (s.toks + 1)) v es, putN name es n) = (es', n')) (hz : es'.length ≤ 1000)
    (h : ∀ h', Fr h₀ L h' m → News h₀ L h' ((e, excObj (some dx) vs) :: (dx, dictOf es' n') :: rest) → Q () { s with heap := h', toks := s.toks + 2 }) :
    wpAny (model prog w) A (setAttr (.ref e) name v) Q E s := by
  have X := X₀.keeps F.keep
  have he := (N _ (.head _)).1
  have D := (N _ (.tail _ (.head _))).1
  obtain ⟨cd, hc, hm, hd⟩ := C.cd
  obtain ⟨e1, e2⟩ := Prod.mk.inj eq
  refine setPlain44 X C he (osa44 (s := { s with toks := s.toks + 1 }) X C he ht fun b => ?_)
  obtain ⟨F₂, N₂⟩ := news_upd (pre := [(e, excObj (some dx) vs)]) (f := Obj.putName name (PyData.keyHash w.params name) (.str name (s.toks + 1)) v) F N (fun p hp => by rw [List.mem_singleton.mp hp]; exact h1) h2 (by rw [putName_dict, e1, e2]) rfl
  refine wpAny_bind (wpAny_pure (wpAny_bind (wpAny_bind (wpAny_loadPart he (wpAny_bind (looks_clsIn X hc _ _ _ _ (fun _ _ e => e) ?_))))))
  rw [hd]
  refine wpAny_pure (a := some dx) ?_
  show wpAny _ _ (storeInDict dx (.str name s.toks) name v) _ _ _
  unfold storeInDict newKeyGuard
  refine wpAny_bind (wpAny_pure (wpAny_bind ?_))
  unfold nsSet
  refine wpAny_bind (wpAny_bind (wpAny_askSetting (wpAny_pure (wpAny_bind (wpAny_mkText (wpAny_bind (wpAny_loadPart D ?_)))))))
  show wpAny _ _ (if aRefKeyMayBeTheName name es.toArray = true then _ else _) _ _ _
  have c : (!es.toArray.any (·.key.isStr name) && es.toArray.any (·.refKey)) = false := by
    rw [← Array.any_toList, ← Array.any_toList]
    unfold getL at hl
    split at hl
    · rename_i en he
      rw [List.any_eq_true.mpr ⟨en, List.mem_of_find?_eq_some he, List.find?_some he⟩]; rfl
    · split at hl
      · cases hl
      · rename_i z; rw [Bool.not_eq_true] at z; simp only [z, Bool.and_false]
  rw [aRefKeyMayBeTheName_at, c]
  refine wpAny_updatePart D ?_
  have hD2 := (N₂ _ (.tail _ (.head _))).1
  refine wpAny_bind (wpAny_lookBehind hD2 (pastItsLine_dict (by rw [List.size_toArray, sizeLine_eq]; omega)) ?_)
  exact wpAny_pure (h _ F₂ N₂)
end

end Mine
end

section
open PySem PySem.W PyProof.Rows PySem.Calls PyProof.V Builtin Builtin.ObjectAttr
namespace Mine
section
variable {prog : Program} {w : World} {A : Around} {E : Value → Shared → Prop} {s : Shared} {K : Frag} {e dx : Addr} {v : Value} {vs : Array Value} {od : Obj}

theorem why_entry {tk : Tok} {Q : Fin → Shared → Prop} (X : K.In s.heap) (C : Cls44 K) (I : InstAt s.heap e (excObj (some dx) vs) 44 (some od)) (hl : lookIn "why" od = some (some v)) (hq : Q (.done (.ret v)) s) :
    wpAny (model prog w) A (Builtin.«object.__getattribute__» ⟨[.ref e, .str "why" tk], []⟩) Q E s := by
  obtain ⟨cd, hc, hm, hd⟩ := C.cd
  have hf : findObj K 44 (some od) "why" = some (.value v) := findObj_own (by unfold hasDictIn; rw [hc]; exact hd) C.why (by rfl) hl
  obtain ⟨h, g, d, t, os⟩ := s
  have L0 := I.type (M := model prog w)
  have L1 := looks_find (M := model prog w) X I hf
  unfold Builtin.«object.__getattribute__»
  repeat (any_goals (first | assumption | with_reducible refine Looks.at (by assumption) ?_ | wp_step))

theorem why_check {tk : Tok} {M : Model} {Q : Unit → Shared → Prop} (X : K.In s.heap) (C : Cls44 K) (I : InstAt s.heap e (excObj (some dx) vs) 44 (some od)) (hq : Q () s) :
    wpAny M A (checkBuiltinCall "BaseException.__getattribute__" ⟨[.ref e, .str "why" tk], []⟩) Q E s := by
  have hk : builtinKind "BaseException.__getattribute__" = some .slot := by decide +kernel
  have hsplit : splitId "BaseException.__getattribute__" = some ("BaseException", "__getattribute__") := by decide +kernel
  have ha := F.args_bexc_ga (.ref e) (.str "why" tk)
  have hC : s.heap.get? 44 = some obj44 := X _ _ C.obj
  have hx := I.at_
  obtain ⟨h, g, d, t, os⟩ := s
  simp only [checkBuiltinCall, hk, hsplit]
  refine wpAny_bind ?_
  unfold isInstance
  repeat (first | with_reducible refine wpAny_loadPart_at hx ?_ | (with_reducible refine wpAny_isSubtype_exc hC ?_; rw [is44_base]) | wp_step)
  exact hq
where is44_base : (Value.ref 44 :: excTail).contains (.type "BaseException") = true := by decide

theorem why_get {expr : Bool} {Q : Value → Shared → Prop} (X : K.In s.heap) (C : Cls44 K) (I : InstAt s.heap e (excObj (some dx) vs) 44 (some od)) (hl : lookIn "why" od = some (some v)) (hh : handedIn v = true) (hq : Q v { s with toks := s.toks + 1 }) :
    wpAny (model prog w) A (getAttr (.ref e) "why" expr) Q E s := by
  obtain ⟨h, g, d, t, os⟩ := s
  have L0 := I.type (M := model prog w)
  have L1 := looks_findIn (M := model prog w) X C.ga
  have L2 := looks_findIn (M := model prog w) X C.gt
  have SA : Slot "Exception" "__getattribute__" "BaseException.__getattribute__" := PySem.F.attr_Exception.ga
  have f3 := SA.bind (.ref e)
  have hx0 : (expr && onTheHeap (Value.builtin "BaseException.__getattribute__")) = false := by cases expr <;> rfl
  have hx2 : (Value.builtin "BaseException.__getattribute__" == Value.builtin "object.__getattribute__") = false := by decide +kernel
  have hx1 : (onTheHeap (Value.ref 44) && Value.builtin "BaseException.__getattribute__" == Value.builtin "object.__getattribute__") = false := by rw [hx2]; rfl
  unfold getAttr
  refine wpAny_bind (wpAny_mkText ?_)
  unfold getAttrBy
  repeat (any_goals (first | assumption | with_reducible refine Looks.at (by assumption) ?_ | wp_step))
  refine codeAny_call_builtin SA.plain F.entry_bexc_ga (why_check (s := ⟨h, g, d, t + 1, os⟩) X C I (why_entry (s := ⟨h, g, d, t + 1, os⟩) X C I hl ?_))
  repeat (any_goals (first | assumption | wp_step))
  show wpAny (model prog w) A (handedOut v) Q E _
  rw [handedOut_of hh]
  exact wpAny_pure hq
end

end Mine
end

section
open PySem PySem.W PyProof.Rows PySem.Calls PyProof.V
namespace Mine
theorem freshD5 : True := by
  w_top off
  k_with_none
  trivial

theorem exc_meta : typeOf (.type "Exception") = pure (.type "type") := by kernel_rfl
noncomputable abbrev excVs (t : Addr) : Array Value := #[.ref t, .none, .none, .none, .bool false, .none]

section
variable {prog : Program} {w : World} {A : Around} {E : Value → Shared → Prop} {s : Shared} {K : Frag} {e L : Addr} {h₀ : Heap} {m : Str → Option Value} {v : Value}

theorem exc_init_K {Q : Value → Shared → Prop} {t0 : Addr} {dd : Option Addr} {rest : List (Addr × Obj)} (F : Fr h₀ L s.heap m) (X₀ : K.In h₀) (C : Cls44 K) (N : News h₀ L s.heap ((e, excObj dd (excVs t0)) :: rest)) (hne : ∀ p ∈ rest, p.1 ≠ e)
    (h : ∀ D h', Fr h₀ L h' m → News h₀ L h' ((e, excObj dd (excVs D)) :: (D, { cls := .type "tuple", data := .seq #[v] }) :: rest) → (∀ p ∈ (e, excObj dd (excVs t0)) :: rest, p.1 < D) → Q .none { s with heap := h' }) :
    wpAny (model prog w) A (call (.builtin "Exception.__init__") [.ref e, v]) Q E s := by
  have X := X₀.keeps F.keep
  have he := (N _ (.head _)).1
  have hC : s.heap.get? 44 = some obj44 := X _ _ C.obj
  have hlt := Heap.lt_size he
  have hes : e ≠ s.heap.objs.size := Nat.ne_of_lt hlt
  have he₁ := Heap.get?_push_of_some (h := s.heap) { cls := .type "tuple", data := .seq #[v] } he
  have key := h s.heap.objs.size ((s.heap.push { cls := .type "tuple", data := .seq #[v] }).update e (Obj.mapFields (·.setIfInBounds 0 (.ref s.heap.objs.size)))) ?_ ?_ (fun p hp => Heap.lt_size (N p hp).1)
  · exact init_call44 hC he key
  · obtain ⟨oL, es, ep, hL, r⟩ := F.ns
    have keep : ∀ b o, b ≠ e → s.heap.get? b = some o → ((s.heap.push { cls := .type "tuple", data := .seq #[v] }).update e (Obj.mapFields (·.setIfInBounds 0 (.ref s.heap.objs.size)))).get? b = some o :=
      fun b o hb ho => (Heap.get?_update_ne _ _ _ _ hb).trans (Heap.get?_push_of_some _ ho)
    have hn : h₀.get? e = none := (N _ (.head _)).2.2
    exact ⟨⟨oL, es, ep, keep _ _ (Ne.symm (N _ (.head _)).2.1) hL, r⟩, fun b o q => keep b o (fun z => by rw [z, hn] at q; cases q) (F.keep b o q), F.above⟩
  · intro p hp
    simp only [List.mem_cons] at hp
    rcases hp with rfl | rfl | hp
    · exact ⟨Heap.get?_update_self _ he₁ rfl, (N _ (.head _)).2⟩
    · refine ⟨(Heap.get?_update_ne _ _ _ _ hes.symm).trans (Heap.get?_push_at rfl rfl), Nat.ne_of_gt F.ns.lt, ?_⟩
      cases q : h₀.get? s.heap.objs.size with
      | none => rfl
      | some o => exact absurd (Heap.lt_size (F.keep _ _ q)) (Nat.lt_irrefl _)
    · exact ⟨(Heap.get?_update_ne _ _ _ _ (hne p hp)).trans (Heap.get?_push_of_some _ (N p (.tail _ hp)).1), (N p (.tail _ hp)).2⟩
end


theorem linesD5 : True := by
  k_with "getMethod type:Exception" => (k_here; refine' method_type ?k41 ?k42 ?k43 (by decide +kernel) ?k44 ?k45 ?_; (case k41 => k_asm); (case k42 => k_asm); (case k43 => exact exc_meta); (case k44 => k_dflt k_is); (case k45 => k_handed))
  k_with "call builtin:Exception.__init__" => (k_here; refine' exc_init_K ?k41 ?k42 ?k43 ?k44 ?k45 ?_; (case k41 => k_asm); (case k42 => k_asm); (case k43 => assumption); (case k44 => k_asm); (case k45 => (simp; done)); intro _ _ _ _ _)
  trivial
set_option maxHeartbeats 8000000 in
theorem init28_ok {w : World} {A : Around} {s : Shared} {base : Heap} {outer : List Env} {p : Program} {loose : List Str} {mean : ExcName → Option Value} {mg mb : Str → Option Value} {R : Result → Shared → Prop}
    {e t0 : Addr} {x : Str} {tx : Tok}
    (B : Below A base outer (hideAll s.heap [e])) (X : (hd.heap_39 w.params).In (hideAll s.heap [e])) (T : Top p loose mean mg mb (hideAll s.heap [e])) (hh : A.handled = none)
    (hroom : A.depth + 3 < recursionLimit) (he : s.heap.get? e = some (excObj none (excVs t0)))
    (hR : ∀ h' tk' D t1 es n t, Keeps [e] s.heap h' → h'.get? e = some (excObj (some D) (excVs t1)) → h'.get? D = some (dictOf es n) → s.heap.get? D = none → lookIn "why" (dictOf es n) = some (some (.str x t)) → R (.ok (.ret .none)) { s with heap := h', toks := tk' }) :
    codeAny (model PySem.Challenge.rw_pq1068_01.row.prog w) A (.call (.ref 28) ⟨[.ref e, .str x tx], []⟩) R s := by
  obtain ⟨hdl, dp, fr, gd, un⟩ := A
  obtain rfl : hdl = none := hh
  obtain rfl : fr = some outer := B.stack
  replace hroom : dp + 3 < recursionLimit := hroom
  have C := cls44 X
  revert X; k_fill; intro X
  refine' enter (news := [(e, excObj none (excVs t0))]) (binds := [(Str.ofString "self", .ref e), (Str.ofString "why", .str x tx)]) B X T ?hN ?ho ?hcd ?hroom ?hbind ?hloc ?h ?c2 ?c3 ?c4 ?c5
  case hN => intro q hq; simp only [List.mem_singleton] at hq; subst hq; exact ⟨he, by simp⟩
  case ho => k_is
  case hcd => k_is
  case hroom => show dp < _; omega
  case hbind => exact BindsTo.of_eq rfl
  case hloc => exact locs rfl
  case c2 => exact rfl
  case c3 => exact rfl
  case c4 => exact rfl
  case c5 => decide
  intro g L' h₁ hg F N B' X' T' l1
  subst hg
  try dsimp only
  k_fold
  k_steps
  rename_i D1 h2 F2 N2 l2
  have d1 : e < D1 := l2 _ (.head _)
  refine set_first F2 X' C N2 (fun p hp => by rw [List.mem_singleton.mp hp]; exact Nat.ne_of_gt d1) C.t1 fun D2 h3 F3 N3 l3 => ?_
  have d2 : e < D2 := l3 _ (.head _)
  have d3 : D1 < D2 := l3 _ (.tail _ (.head _))
  dsimp only
  clear F2 N2
  k_steps
  refine set_next F3 X' C N3 (Nat.ne_of_lt d2) (fun p hp => by rw [List.mem_singleton.mp hp]; exact Nat.ne_of_lt d3) C.t2 (by k_get) (by k_put) (Nat.le_of_ble_eq_true rfl) fun h4 F4 N4 => ?_
  dsimp only
  clear F3 N3
  k_steps
  refine hR _ _ D2 D1 _ _ _ (Keeps.of_fr F4) (News.get N4 (.head _)) (News.get N4 (.tail _ (.head _))) ?_ (by rw [lookIn_dict]; rfl)
  have q := (N4 _ (.tail _ (.head _))).2.2
  cases z : s.heap.get? D2 with
  | none => rfl
  | some o =>
    have := hideAll_get [e] z (by simpa using Nat.ne_of_gt d2)
    rw [this] at q; cases q

end Mine
end

section
open PySem PySem.W PyProof.Rows PySem.Calls PyProof.V
namespace Mine
noncomputable abbrev tupObj (l : List Value) : Obj := { cls := .type "tuple", data := .seq l.toArray }

section
variable {prog : Program} {w : World} {A : Around} {R : Result → Shared → Prop} {h : Heap} {g : Array GenState} {d : Drawn} {t : Nat} {os : OsState}

theorem make44_core {rest : List Value} (hC : h.get? 44 = some obj44) (hi : Looks (model prog w) h (typeLookup (.ref 44) "__init__") (some (.ref 28)))
    (hb : ∀ self, Looks (model prog w) h (bindSpecial (.ref 28) self) (.ref 28, [self]))
    (hq : codeAny (model prog w) (A.under (.builtin "type.__call__" ⟨.ref 44 :: rest, []⟩)) (.call (.ref 28) ⟨.ref (h.objs.size + 1) :: rest, []⟩) (InitBack (h.objs.size + 1) R) ⟨(h.push (tupObj rest)).push (excObj none (excVs h.objs.size)), g, d, t, os⟩)
    (hrest : rest.length ≤ sizeLine := by size_fits) :
    codeAny (model prog w) A (.call (.ref 44) ⟨rest, []⟩) R ⟨h, g, d, t, os⟩ := by
  have F := PySem.F.excBase_Exception
  have f1 := tc_lookup
  have f2 := tc_bind (.ref 44)
  have hT : (⟨h, g, d, t, os⟩ : Shared).TypeIs (.ref 44) "type" := ⟨_, hC, rfl⟩
  refine codeAny_of_tree ?_
  show wpAny _ _ (callAny (.ref 44) _) _ _ _
  repeat (any_goals (first | assumption | with_reducible refine wpAny_loadPart_at hC ?_ | wp_step))
  refine ⟨rfl, ?_⟩
  refine codeAny_call_builtin_at (Code.quiet_builtin _ (by decide +kernel)) entry_typeCall (wpAny_check_type_call_sub hC ?_)
  unfold Builtin.«type.__call__»
  repeat (first | with_reducible refine wpAny_loadPart_at hC ?_ | with_reducible refine wpAny_madeBy_exc hC ?_ | wp_step)
  refine codeAny_call_builtin_code (Code.quiet_builtin _ F.quiet) (check_new44 hC ?_)
  refine new44 hC ?_ hrest
  show wpAny _ _ _ _ _ ⟨(h.push (tupObj rest)).push (excObj none (excVs h.objs.size)), g, d, t, os⟩
  have k : ∀ b o, h.get? b = some o → ((h.push (tupObj rest)).push (excObj none (excVs h.objs.size))).get? b = some o := fun b o e => Heap.get?_push_of_some _ (Heap.get?_push_of_some _ e)
  have hC₁ := k _ _ hC
  have hget : ((h.push (tupObj rest)).push (excObj none (excVs h.objs.size))).get? (h.objs.size + 1) = some (excObj none (excVs h.objs.size)) := by heap_get
  have i1 := hi.keeps k
  have b1 := (hb (.ref (h.objs.size + 1))).keeps k
  have t1 : Looks (model prog w) ((h.push (tupObj rest)).push (excObj none (excVs h.objs.size))) (typeOf (.ref (h.objs.size + 1))) (.ref 44) := (Looks.ld hget).andThen .now
  have s1 : Looks (model prog w) ((h.push (tupObj rest)).push (excObj none (excVs h.objs.size))) (isSubtype (.ref 44) (.ref 44)) true := fun A Q E s k q => by
    obtain ⟨hh, g, d, t, os⟩ := s
    refine wpAny_isSubtype_exc (k _ _ hC₁) ?_
    rw [is44_self]; exact q
  unfold isInstance callSpecial? specialOf
  repeat (first | (refine wpAny_loadPart_at hget ?_; dsimp only) | (with_reducible refine wpAny_isSubtype_exc hC₁ ?_; rw [is44_self]) | with_reducible refine wpAny_call ?_ | with_reducible refine Looks.at (by assumption) ?_ | wp_step)
  refine codeAny_mono hq fun r s' z => ?_
  rcases r with e | (v | _ | _ | _) <;> first | exact z | exact z.elim | skip
  obtain ⟨rfl, z⟩ := z
  exact wpAny_pure (wpAny_pure z)
end

end Mine
end

section
open PySem PySem.W PyProof.Rows PySem.Calls PyProof.V
namespace Mine
theorem lt_abs {t e : Nat} {P : Prop} (h : t + 1 = e) (k : e < t) : P := absurd k (by omega)

section
variable {w : World} {A : Around} {s : Shared} {base h₀ : Heap} {outer : List Env} {p : Program} {loose : List Str} {mean : ExcName → Option Value} {mg mb : Str → Option Value} {L : Addr} {m : Str → Option Value} {news : List (Addr × Obj)} {env : Env}

theorem below_make {g : Heap} {args : Args} (B : Below A base outer g) : Below (A.under (.builtin "type.__call__" args)) base outer g := by
  refine ⟨?_, B.stays, B.frames⟩
  show pushEnvs (Code.builtin "type.__call__" args).envs A.frames = _
  rw [show (Code.builtin "type.__call__" args).envs = [] from rfl]
  exact B.stack

theorem make44_K {Q : Value → Shared → Prop} {E : Value → Shared → Prop} {x : Str} {tx : Tok}
    (B : Below A base outer h₀) (F : Fr h₀ L s.heap m) (X : (hd.heap_39 w.params).In h₀) (N : News h₀ L s.heap news) (T : Top p loose mean mg mb h₀)
    (hh : A.handled = none) (hroom : A.depth + 7 < recursionLimit) (hf : env.frame = some L) (hke : env.scope.kind = .function)
    (hR : ∀ e D t1 es n t h' tk, Fr h₀ L h' m → News h₀ L h' ((e, excObj (some D) (excVs t1)) :: (D, dictOf es n) :: news) → lookIn "why" (dictOf es n) = some (some (.str x t)) → (∀ p ∈ news, p.1 ≠ e ∧ p.1 ≠ D) → Q (.ref e) { s with heap := h', toks := tk }) :
    wpAny (model PySem.Challenge.rw_pq1068_01.row.prog w) (A.deeper env) (call (.ref 44) [.str x tx]) Q E s := by
  have C := cls44 X
  have Xs := X.keeps F.keep
  obtain ⟨hp, g, d, tk, os⟩ := s
  refine wpAny_call (make44_core (Xs _ _ C.obj) (looks_findIn Xs C.init) (fun self => bind_fn Xs self C.fn) ?_ (by rw [sizeLine_eq, List.length_singleton]; omega))
  have F2 : Fr h₀ L ((hp.push (tupObj [.str x tx])).push (excObj none (excVs hp.objs.size))) m := (F.push _).push _
  have N2 := (N.push F (tupObj [.str x tx])).push (F.push _) (excObj none (excVs hp.objs.size))
  rw [Heap.size_push] at N2
  have lt1 : ∀ p ∈ news, p.1 < hp.objs.size := fun p hp' => Heap.lt_size (N p hp').1
  generalize he : hp.objs.size + 1 = e at *
  generalize hp.objs.size = t0 at *
  generalize ((hp.push (tupObj [.str x tx])).push (excObj none (excVs t0))) = h2 at *
  have hM : ∀ a ∈ [e], ∃ o, (a, o) ∈ (e, excObj none (excVs t0)) :: (t0, tupObj [.str x tx]) :: news := by
    intro a ha; rw [List.mem_singleton.mp ha]; exact ⟨_, .head _⟩
  obtain ⟨B', X', T'⟩ := down (s := ⟨h2, g, d, tk, os⟩) (M := [e]) (env := env) B F2 X N2 T hf hke hM
  refine init28_ok (s := ⟨h2, g, d, tk, os⟩) (below_make B') X' T' hh ?_ (N2 _ (.head _)).1 ?_
  · rw [depth_under_make, depth_deeper]; omega
  intro h' tk' D t1 es n t hk hpe hpD hfresh hl
  refine ⟨rfl, ?_⟩
  have hDn : ∀ p ∈ (e, excObj none (excVs t0)) :: (t0, tupObj [.str x tx]) :: news, p.1 ≠ D := fun p hp' q => by
    have := (N2 p hp').1
    rw [q] at this
    rw [hfresh] at this
    cases this
  have ⟨F', N'⟩ := back (s := ⟨h2, g, d, tk, os⟩) (news' := (e, excObj (some D) (excVs t1)) :: (D, dictOf es n) :: news) F2 N2 hM hk (by
    intro q hq
    simp only [List.mem_cons] at hq
    rcases hq with rfl | rfl | hq
    · exact .inr ⟨hpe, .inl (.head _)⟩
    · exact .inr ⟨hpD, .inr hfresh⟩
    · refine .inl ⟨.tail _ (.tail _ hq), fun z => ?_⟩
      rw [List.mem_singleton] at z
      have := lt1 q hq
      rw [z] at this
      exact lt_abs he this)
  exact hR e D t1 es n t h' tk' F' N' hl fun p hp' => ⟨fun z => by have := lt1 p hp'; rw [z] at this; exact lt_abs he this, hDn p (.tail _ (.tail _ hp'))⟩
end

section
variable {A : Around} {E : Value → Shared → Prop} {s : Shared} {env : Env} {prog : Program} {w : World}

/-- what is raised -/
noncomputable def Raised44 (E : Value → Shared → Prop) (v : Value) (s₁ : Shared) : Prop :=
  ∃ e dd t, v = .ref e ∧ s₁.heap.get? 44 = some obj44 ∧ s₁.heap.get? e = some (excObj dd (excVs t)) ∧ E (.ref e) s₁

theorem Raise44 {e : PySem.Expr} {pos : Pos} {Q : Flow → Shared → Prop} (hh : A.handled = none)
    (h : wpAny (model prog w) A (eval e env) (Raised44 E) E s) : wpAny (model prog w) A (exec (.Raise (some e) none pos) env) Q E s := by
  show wpAny (model prog w) A (do standAt pos; raiseStmt env (some (do let v ← eval e env; standAt pos; pure v)) none) Q E s
  refine wpAny_bind (wpAny_standAt ?_)
  unfold raiseStmt
  dsimp only
  refine wpAny_bind (wpAny_bind (wpAny_mono h (fun v s₁ h₁ => wpAny_bind (wpAny_standAt (wpAny_pure ?_))) fun _ _ x => x))
  obtain ⟨e, dd, t, rfl, hC, he, hE⟩ := h₁
  obtain ⟨hp, g, d, tk, os⟩ := s₁
  repeat (first | with_reducible refine wpAny_loadPart_at he ?_ | with_reducible refine wpAny_loadPart_at hC ?_ | (with_reducible refine wpAny_isSubtype_exc hC ?_; rw [is44_base]) | wp_step)
  exact wpAny_raiseNew_none hh hE
end

end Mine
end

section
open PySem PySem.W PyProof.Rows PySem.Calls PyProof.V
namespace Mine
noncomputable abbrev framesOf (l : List Env) : List Addr := l.filterMap (·.frame)

/-- a Misused under way, out of a def that was entered at h -/
noncomputable def Fault (M : List Addr) (outer : List Env) (x : Str) (h h' : Heap) (e : Addr) : Prop :=
  ∃ dx T es n t, Moved (framesOf outer) M h h' ∧ h.get? e = none ∧ h.get? T = none ∧ Trail h' e dx T .none ∧ h'.get? dx = some (dictOf es n) ∧ h.get? dx = none ∧ dx ≠ e ∧ lookIn "why" (dictOf es n) = some (some (.str x t))

section
variable {M : Model} {A : Around} {E : Value → Shared → Prop} {s s' : Shared} {base h₁ : Heap} {outer : List Env} {L a e dx : Addr} {m : Str → Option Value} {name : Str} {scope : Scope} {cd : Value} {Q : Unit → Shared → Prop} {news : List (Addr × Obj)} {X : List Addr} {x : Str}

theorem frames_not (B : Below A base outer (hideAll s.heap X)) {b : Addr} (hb : (hideAll s.heap X).get? b = none) : b ∉ framesOf outer := fun hm => by
  obtain ⟨_, o, ho, _⟩ := B.frames.mem hm
  rw [hb] at ho; cases ho

theorem none_out {b : Addr} (hb : (hideAll s.heap X).get? b = none) (hx : b ∉ X) : s.heap.get? b = none := by
  cases z : s.heap.get? b with
  | none => rfl
  | some o => rw [hideAll_get X z hx] at hb; cases hb

theorem leave_raiseT {es : List DictEntry} {n : Nat} {t : Tok} {t1 : Addr} (B : Below A base outer (hideAll s.heap X)) (F : Fr (hideAll s.heap X) L s'.heap m)
    (N : News (hideAll s.heap X) L s'.heap ((e, excObj (some dx) (excVs t1)) :: (dx, dictOf es n) :: news)) (hl : lookIn "why" (dictOf es n) = some (some (.str x t)))
    (hX : ∀ b ∈ X, ∃ o, s'.heap.get? b = some o) (he : e ∉ X) (hd : dx ∉ X) (hne : ∀ p ∈ news, p.1 ≠ e)
    (hQ : ∀ h', Fault X outer x s.heap h' e → (∀ q ∈ news, h'.get? q.1 = some q.2) → Q () { s' with heap := h' }) (hk : scope.kind = .function := by rfl) :
    wpAny M (A.deeper (envOf name scope L a cd)) (leaving (envOf name scope L a cd) (.ref e)) Q E s' := by
  have K' := B.push (name := name) (a := a) (cd := cd) F hk
  have pe := N _ (.head _)
  have pd := N _ (.tail _ (.head _))
  have hde : dx ≠ e := fun z => by
    have h1 := pe.1
    have h2 := pd.1
    dsimp only at h1 h2
    rw [z, h1] at h2
    exact absurd (congrArg Obj.data (Option.some.inj h2)) (by intro q; cases q)
  have hL : (hideAll s.heap X).get? L = none := Heap.get?_none_of_le F.above
  unfold leaving
  refine wpAny_bind (note_first K'.stack K'.frames rfl pe.1 rfl fun h₂ T m₂ nT tr => ?_)
  refine flight_T (s := { s' with heap := h₂ }) tr fun h₃ m₃ tr₃ => ?_
  have go : ∀ b o, s'.heap.get? b = some o → b ≠ e → (b ∉ framesOf (envOf name scope L a cd :: outer) → h₃.get? b = some o) ∧ ∃ sl, h₃.get? b = some { o with slots := sl } := by
    intro b o hb hbe
    have hbT : b ∉ [T] := by intro q; rw [List.mem_singleton.mp q, nT] at hb; cases hb
    have z := m₂ b o hb (by simpa using hbe)
    refine ⟨fun hf => (m₃ b o (z.1 hf) hbT).1 (by simp), ?_⟩
    obtain ⟨sl, z2⟩ := z.2
    exact ⟨sl, (m₃ b _ z2 hbT).1 (by simp)⟩
  have fr : ∀ b, b ∉ framesOf outer → b ≠ L → b ∉ framesOf (envOf name scope L a cd :: outer) := by
    intro b h1 h2 hm
    have hm' : b ∈ L :: framesOf outer := hm
    rcases List.mem_cons.mp hm' with q | q
    · exact h2 q
    · exact h1 q
  refine hQ _ ⟨dx, T, es, n, t, fun b o hb hbX => ?_, none_out pe.2.2 he, ?_, tr₃, ?_, none_out pd.2.2 hd, hde, hl⟩ fun q hq => ?_
  · have hb' := F.keep b o (hideAll_get X hb hbX)
    have hbe : b ≠ e := fun z => by rw [z, none_out pe.2.2 he] at hb; cases hb
    have hbL : b ≠ L := fun z => by rw [← z, hideAll_get X hb hbX] at hL; cases hL
    have z := go b o hb' hbe
    exact ⟨fun hf => z.1 (fr b hf hbL), z.2⟩
  · cases z : s.heap.get? T with
    | none => rfl
    | some o =>
      by_cases hT : T ∈ X
      · obtain ⟨o', ho'⟩ := hX T hT
        rw [nT] at ho'; cases ho'
      · have := F.keep T o (hideAll_get X z hT)
        rw [nT] at this; cases this
  · exact (go dx _ pd.1 hde).1 (fr dx (frames_not B pd.2.2) pd.2.1)
  · have pq := N q (.tail _ (.tail _ hq))
    exact (go q.1 _ pq.1 (hne q hq)).1 (fr q.1 (frames_not B pq.2.2) pq.2.1)

theorem leave_onT (B : Below A base outer (hideAll s.heap X)) (F : Fr (hideAll s.heap X) L h₁ m) (N : News (hideAll s.heap X) L h₁ news)
    (hX : ∀ b ∈ X, ∃ o, h₁.get? b = some o) (ft : Fault [] (envOf name scope L a cd :: outer) x h₁ s'.heap e)
    (hQ : ∀ h', Fault X outer x s.heap h' e → (∀ q ∈ news, h'.get? q.1 = some q.2) → Q () { s' with heap := h' }) (hk : scope.kind = .function := by rfl) :
    wpAny M (A.deeper (envOf name scope L a cd)) (leaving (envOf name scope L a cd) (.ref e)) Q E s' := by
  have K' := B.push (name := name) (a := a) (cd := cd) F hk
  obtain ⟨dx, T, es, n, t, mv, ne, nT, tr, hdx, nd, hde, hl⟩ := ft
  have hL : (hideAll s.heap X).get? L = none := Heap.get?_none_of_le F.above
  have fl : s'.heap.FunFrames base (envOf name scope L a cd :: outer) := by
    refine K'.frames.of_keeps fun b o hb _ => ?_
    obtain ⟨sl, z⟩ := (mv b o hb (by simp)).2
    exact ⟨_, z, rfl⟩
  unfold leaving
  refine wpAny_bind (note_next K'.stack fl rfl tr fun h₂ T' m₂ nT' tr₂ => ?_)
  refine flight_T (s := { s' with heap := h₂ }) tr₂ fun h₃ m₃ tr₃ => ?_
  have up : ∀ b o, s'.heap.get? b = some o → b ≠ e → b ≠ T → (b ∉ framesOf (envOf name scope L a cd :: outer) → h₃.get? b = some o) ∧ ∃ sl, h₃.get? b = some { o with slots := sl } := by
    intro b o hb hbe hbT
    have hbT' : b ∉ [T'] := by intro q; rw [List.mem_singleton.mp q, nT'] at hb; cases hb
    have z := m₂ b o hb (by simp only [List.mem_cons, List.not_mem_nil, or_false, not_or]; exact ⟨hbe, hbT⟩)
    refine ⟨fun hf => (m₃ b o (z.1 hf) hbT').1 (by simp), ?_⟩
    obtain ⟨sl, z2⟩ := z.2
    exact ⟨sl, (m₃ b _ z2 hbT').1 (by simp)⟩
  have go : ∀ b o, h₁.get? b = some o → (b ∉ framesOf (envOf name scope L a cd :: outer) → h₃.get? b = some o) ∧ ∃ sl, h₃.get? b = some { o with slots := sl } := by
    intro b o hb
    have hbe : b ≠ e := fun z => by rw [z, ne] at hb; cases hb
    have hbT : b ≠ T := fun z => by rw [z, nT] at hb; cases hb
    have z := mv b o hb (by simp)
    refine ⟨fun hf => (up b o (z.1 hf) hbe hbT).1 hf, ?_⟩
    obtain ⟨sl, z2⟩ := z.2
    obtain ⟨sl', z3⟩ := (up b _ z2 hbe hbT).2
    exact ⟨sl', z3⟩
  have fr : ∀ b, b ∉ framesOf outer → b ≠ L → b ∉ framesOf (envOf name scope L a cd :: outer) := by
    intro b h1 h2 hm
    have hm' : b ∈ L :: framesOf outer := hm
    rcases List.mem_cons.mp hm' with q | q
    · exact h2 q
    · exact h1 q
  have out : ∀ b, h₁.get? b = none → s.heap.get? b = none := by
    intro b hb
    cases z : s.heap.get? b with
    | none => rfl
    | some o =>
      by_cases hT : b ∈ X
      · obtain ⟨o', ho'⟩ := hX b hT
        rw [hb] at ho'; cases ho'
      · have := F.keep b o (hideAll_get X z hT)
        rw [hb] at this; cases this
  have new' : ∀ b, s'.heap.get? b = none → h₁.get? b = none := by
    intro b hb
    cases z : h₁.get? b with
    | none => rfl
    | some o => obtain ⟨sl, q⟩ := (mv b o z (by simp)).2; rw [hb] at q; cases q
  have hdT : dx ≠ T := fun z => by
    obtain ⟨vs, oT, ts, _, _, _, q1, q2, _⟩ := tr
    rw [← z, hdx] at q1
    cases q1; cases q2
  have hdfr : dx ∉ framesOf (envOf name scope L a cd :: outer) := fun hm => by
    obtain ⟨_, o, ho, _⟩ := K'.frames.mem hm
    rw [nd] at ho; cases ho
  refine hQ _ ⟨dx, T', es, n, t, fun b o hb hbX => ?_, out _ ne, out _ (new' _ nT'), tr₃, (up dx _ hdx hde hdT).1 hdfr, out _ nd, hde, hl⟩ fun q hq => ?_
  · have hb' := F.keep b o (hideAll_get X hb hbX)
    have hbL : b ≠ L := fun z => by rw [← z, hideAll_get X hb hbX] at hL; cases hL
    have z := go b o hb'
    exact ⟨fun hf => z.1 (fr b hf hbL), z.2⟩
  · have pq := N q hq
    exact (go q.1 _ pq.1).1 (fr q.1 (frames_not B pq.2.2) pq.2.1)
end

end Mine
end

section
open PySem PySem.W PyProof.Rows PySem.Calls PyProof.V
namespace Mine
theorem freshD9 : True := by
  w_top off
  k_with_none
  trivial

noncomputable abbrev prog0 : Program := PySem.Challenge.rw_pq1068_01.row.prog
theorem linesD9 : True := by
  k_with "compareOp NotIn str ref" => (k_here; k_dflt (first | (refine' notin_none ?k1 ?k2 ?k3 ?_; (case k1 => k_asm); (case k2 => k_asm); (case k3 => k_asm); k_whole) | (refine' notin_some ?k1 ?k2 ?k3 ?_; (case k1 => k_asm); (case k2 => k_asm); (case k3 => k_asm); k_whole)))
  trivial
section
variable {w : World} {A : Around} {E : Value → Shared → Prop} {s : Shared} {h₀ hb : Heap} {L bd : Addr} {m : Str → Option Value} {bk : List (Str × List Rule)} {x : Str} {t : Tok} {prog : Program}
theorem item_book' {Q : Value → Shared → Prop} {value slice : PySem.Expr} {rs : List Rule} (F : Fr h₀ L s.heap m) (k : hb.StaysIn h₀) (b : BookAt prog w hb bd bk) (e : bkAt bk x = some rs) (h : ∀ li, RulesAt hb li rs → Q (.ref li) { s with toks := s.toks + 1 })
    (hs : subscripted slice false (.ref bd) (.str x t) = operate [.ref bd, .str x t] (getItem (.ref bd) (.str x t)) := by with_unfolding_all rfl) :
    wpAny (model prog w) A (subscriptTail value slice (.ref bd) (.str x t)) Q E s := by
  obtain ⟨f, hm, r⟩ := b.look x
  rcases r with ⟨e1, e2⟩ | ⟨li, rs', e1, e2, q⟩
  · rw [e] at e2; cases e2
  · rw [e] at e2; cases e2
    have hm' : s.heap.MapOf (strKind prog w) bd f := by
      obtain ⟨o, es, ep, ho, r⟩ := hm; exact ⟨o, es, ep, F.keep _ _ (k _ _ ho), r⟩
    exact tail_any hm'.typeIs slot_dict_getitem.lookup (wpAny_getItem_of (strKind_is prog w x t) hm' e1 (h li q)) hs
end

theorem linesD9b : True := by
  k_with "subscriptTail Name" => (k_here; (with_reducible show wpAny _ _ (subscriptTail _ _ (Value.ref _) (Value.str _ _)) _ _ _); k_dflt (refine' item_book' ?k1 ?k5 ?k2 ?k3 ?_ ?k4; (case k1 => k_asm); (case k5 => assumption); (case k2 => k_asm); (case k3 => k_asm); (case k4 => with_unfolding_all rfl); k_whole); intro _ _)
  k_with "exec Raise some none" => (k_here; refine Raise44 rfl ?_)
  k_with "call ref" => (k_here; (with_reducible show wpAny _ _ (call (Value.ref 44) _) _ _ _); refine Stop.go ?_)
  trivial
set_option maxHeartbeats 8000000 in
theorem rules_ok {w : World} {A : Around} {s : Shared} {base : Heap} {outer : List Env} {p : Program} {loose : List Str} {mean : ExcName → Option Value} {mg mb : Str → Option Value} {R : Result → Shared → Prop}
    {bd : Addr} {bk : List (Str × List Rule)} {name : Str} {tn : Tok} {hb : Heap}
    (B : Below A base outer (hideAll s.heap [])) (X : (hd.heap_39 w.params).In (hideAll s.heap [])) (T : Top p loose mean mg mb (hideAll s.heap [])) (hh : A.handled = none) (hroom : A.depth + 8 < recursionLimit)
    (kb : hb.StaysIn (hideAll s.heap [])) (b : BookAt PySem.Challenge.rw_pq1068_01.row.prog w hb bd bk) (hnl : name.length ≤ 1000)
    (hR1 : ∀ rs, bkAt bk name = some rs → ∀ li h' tk', RulesAt hb li rs → Keeps [] s.heap h' → R (.ok (.ret (.ref li))) { s with heap := h', toks := tk' })
    (hR2 : bkAt bk name = none → ∀ e h' tk', Fault [] outer (Str.ofString "unknown chain " ++ name) s.heap h' e → R (.error (.ref e)) { s with heap := h', toks := tk' }) :
    codeAny (model PySem.Challenge.rw_pq1068_01.row.prog w) A (.call (.ref 75) ⟨[.ref bd, .str name tn], []⟩) R s := by
  obtain ⟨hdl, dp, fr, gd, un⟩ := A
  obtain rfl : hdl = none := hh
  obtain rfl : fr = some outer := B.stack
  replace hroom : dp + 8 < recursionLimit := hroom
  have C := cls44 X
  have b' := b.stays kb
  revert X; k_fill; intro X
  refine' enter (news := []) (binds := [(Str.ofString "chains", .ref bd), (Str.ofString "name", .str name tn)]) B X T ?hN ?ho ?hcd ?hroom ?hbind ?hloc ?h ?c2 ?c3 ?c4 ?c5
  case hN => intro q hq; cases hq
  case ho => k_is
  case hcd => k_is
  case hroom => show dp < _; omega
  case hbind => exact BindsTo.of_eq rfl
  case hloc => exact locs rfl
  case c2 => exact rfl
  case c3 => exact rfl
  case c4 => exact rfl
  case c5 => decide
  intro g L' h₁ hg F N B' X' T' l1
  subst hg
  try dsimp only
  k_fold
  cases hx : bkAt bk name with
  | none =>
    k_steps
    refine Stop.out (make44_K B' F X' N T' rfl (by dsimp only; omega) rfl rfl fun e D t1 es n t h' tk' F2 N2 hl hne => ?_)
    refine ⟨e, _, _, rfl, X.keeps F2.keep _ _ C.obj, (N2 _ (.head _)).1, ?_⟩
    refine leave_raiseT B' F2 N2 hl (fun _ h => nomatch h) (fun h => nomatch h) (fun h => nomatch h) (fun _ h => nomatch h) fun h3 ft _ => ?_
    exact hR2 hx _ _ _ ft
  | some rs =>
    k_steps
    dsimp only
    k_steps
    rename_i li hli
    exact hR1 rs hx li _ _ hli (Keeps.of_fr F)

end Mine
end

section
open PySem PySem.W PyProof.Rows PySem.Calls PyProof.V
namespace Mine
theorem freshE1 : True := by
  w_top off
  k_with_none
  trivial

/-- the scene as walk_chain sees it -/
structure SceneAt (h : Heap) (sc lg : Addr) (st : Option Addr) : Prop where
  is : ∃ ds es n, h.get? sc = some (instObj 64 ds) ∧ h.get? ds = some (dictOf es n) ∧ getL "log" es = some (some (.ref lg)) ∧ getL "steps" es = some (some (st.elim .none .ref))

theorem SceneAt.stays {h h' : Heap} {sc lg st} (x : SceneAt h sc lg st) (k : h.StaysIn h') : SceneAt h' sc lg st :=
  ⟨let ⟨ds, es, n, a, b, c, d⟩ := x.is; ⟨ds, es, n, k _ _ a, k _ _ b, c, d⟩⟩

structure Cls64 (K : Frag) : Prop where
  hd : hasDictIn K 64 = true
  g1 : plainGet K 64 "log" = true
  g2 : plainGet K 64 "steps" = true
  f1 : findIn K (.ref 64) "log" = some none
  f2 : findIn K (.ref 64) "steps" = some none

set_option maxHeartbeats 4000000 in
theorem cls64 {w : World} {h : Heap} (X : (hd.heap_39 w.params).In h) : Cls64 (hd.heap_39 w.params) := by
  suffices hz : PySem.Challenge.rw_pq1068_01 = PySem.Challenge.rw_pq1068_01 → (hd.heap_39 w.params).In h → Cls64 (hd.heap_39 w.params) from hz rfl X
  clear X
  k_fill
  intro _ X
  refine ⟨?_, ?_, ?_, ?_, ?_⟩
  all_goals k_is

section
variable {prog : Program} {w : World} {A : Around} {E : Value → Shared → Prop} {s : Shared} {h₀ : Heap} {L sc lg : Addr} {m : Str → Option Value} {st : Option Addr} {K : Frag}
theorem get_log {expr : Bool} {Q : Value → Shared → Prop} (F : Fr h₀ L s.heap m) (X : K.In h₀) (C : Cls64 K) (S : SceneAt h₀ sc lg st) (h : Q (.ref lg) { s with toks := s.toks + 1 }) : wpAny (model prog w) A (getAttr (.ref sc) "log" expr) Q E s := by
  obtain ⟨ds, es, n, a, b, c, d⟩ := S.is
  have I : InstAt s.heap sc (instObj 64 ds) 64 (some (dictOf es n)) := ⟨F.keep _ _ a, rfl, rfl, F.keep _ _ b⟩
  exact get_own F X I C.g1 C.hd C.f1 (by rfl) c rfl h
theorem get_steps {expr : Bool} {Q : Value → Shared → Prop} (F : Fr h₀ L s.heap m) (X : K.In h₀) (C : Cls64 K) (S : SceneAt h₀ sc lg st) (h : Q (st.elim .none .ref) { s with toks := s.toks + 1 }) : wpAny (model prog w) A (getAttr (.ref sc) "steps" expr) Q E s := by
  obtain ⟨ds, es, n, a, b, c, d⟩ := S.is
  have I : InstAt s.heap sc (instObj 64 ds) 64 (some (dictOf es n)) := ⟨F.keep _ _ a, rfl, rfl, F.keep _ _ b⟩
  exact get_own F X I C.g2 C.hd C.f2 (by rfl) d (by cases st <;> rfl) h
end


theorem linesE1 : True := by
  k_with "getAttr ref" => (k_here; (with_reducible show wpAny _ _ (getAttr (Value.ref _) (Str.ofString "log") _) _ _ _); k_dflt (refine' get_log ?k1 ?k2 ?k3 ?k4 ?_; (case k1 => k_asm); (case k2 => k_asm); (case k3 => assumption); (case k4 => k_asm); k_whole))
  k_with "getAttr ref" => (k_here; (with_reducible show wpAny _ _ (getAttr (Value.ref _) (Str.ofString "steps") _) _ _ _); k_dflt (refine' get_steps ?k1 ?k2 ?k3 ?k4 ?_; (case k1 => k_asm); (case k2 => k_asm); (case k3 => assumption); (case k4 => k_asm); k_whole); (try dsimp only [Option.elim]))
  trivial
set_option maxHeartbeats 8000000 in
theorem note_ok0 {w : World} {A : Around} {s : Shared} {base : Heap} {outer : List Env} {p : Program} {loose : List Str} {mean : ExcName → Option Value} {mg mb : Str → Option Value} {R : Result → Shared → Prop}
    {sc lg : Addr} {name : Str} {tn ti : Tok} {i : Nat} {v : Value}
    (B : Below A base outer (hideAll s.heap [])) (X : (hd.heap_39 w.params).In (hideAll s.heap [])) (T : Top p loose mean mg mb (hideAll s.heap [])) (hh : A.handled = none) (hroom : A.depth + 4 < recursionLimit)
    (S : SceneAt (hideAll s.heap []) sc lg none)
    (hR : ∀ h' tk', Keeps [] s.heap h' → R (.ok (.ret .none)) { s with heap := h', toks := tk' }) :
    codeAny (model PySem.Challenge.rw_pq1068_01.row.prog w) A (.call (.ref 82) ⟨[.ref sc, .str name tn, .int (i : Nat) ti, v], []⟩) R s := by
  obtain ⟨hdl, dp, fr, gd, un⟩ := A
  obtain rfl : hdl = none := hh
  obtain rfl : fr = some outer := B.stack
  replace hroom : dp + 4 < recursionLimit := hroom
  have C := cls64 X
  revert X; k_fill; intro X
  refine' enter (news := []) (binds := [(Str.ofString "scene", .ref sc), (Str.ofString "chain", .str name tn), (Str.ofString "at", .int (i : Nat) ti), (Str.ofString "verdict", v)]) B X T ?hN ?ho ?hcd ?hroom ?hbind ?hloc ?h ?c2 ?c3 ?c4 ?c5
  case hN => intro q hq; cases hq
  case ho => k_is
  case hcd => k_is
  case hroom => show dp < _; omega
  case hbind => exact BindsTo.of_eq rfl
  case hloc => exact locs rfl
  case c2 => exact rfl
  case c3 => exact rfl
  case c4 => exact rfl
  case c5 => decide
  intro g L' h₁ hg F N B' X' T' l1
  subst hg
  try dsimp only
  k_fold
  k_steps
  all_goals exact hR _ _ (Keeps.of_fr (by assumption))

end Mine
end

section
open PySem PySem.W PyProof.Rows PySem.Calls PyProof.V
namespace Mine
theorem freshE2 : True := by
  w_top off
  k_with_none
  trivial


theorem linesE2 : True := by
  k_with "getAttr ref" => (k_here; (with_reducible show wpAny _ _ (getAttr (Value.ref _) (Str.ofString "log") _) _ _ _); k_dflt (refine' get_log ?k1 ?k2 ?k3 ?k4 ?_; (case k1 => k_asm); (case k2 => k_asm); (case k3 => assumption); (case k4 => k_asm); k_whole))
  k_with "getAttr ref" => (k_here; (with_reducible show wpAny _ _ (getAttr (Value.ref _) (Str.ofString "steps") _) _ _ _); k_dflt (refine' get_steps ?k1 ?k2 ?k3 ?k4 ?_; (case k1 => k_asm); (case k2 => k_asm); (case k3 => assumption); (case k4 => k_asm); k_whole); (try dsimp only [Option.elim]))
  trivial
noncomputable abbrev kindOf (d : Option (Str × Str)) : Str := (d.map (·.1)).getD (Str.ofString "")
noncomputable abbrev goalOf (d : Option (Str × Str)) : Str := (d.map (·.2)).getD (Str.ofString "")

theorem fresh_of {h h' : Heap} {M : List Addr} {L D : Addr} {o : Obj} {l : List (Addr × Obj)} (N : News (hideAll h M) L h' l) (hD : (D, o) ∈ l) (hM : D ∉ M) : h.get? D = none := by
  have q := (N _ hD).2.2
  cases z : h.get? D with
  | none => rfl
  | some o => rw [hideAll_get M z hM] at q; cases q

set_option maxHeartbeats 8000000 in
theorem note_ok1 {w : World} {A : Around} {s : Shared} {base : Heap} {outer : List Env} {p : Program} {loose : List Str} {mean : ExcName → Option Value} {mg mb : Str → Option Value} {R : Result → Shared → Prop}
    {sc lg ls : Addr} {name : Str} {tn ti : Tok} {i : Nat} {v : Value} {d : Option (Str × Str)} {S0 : Array Value} {n1 : Nat}
    (B : Below A base outer (hideAll s.heap [ls])) (X : (hd.heap_39 w.params).In (hideAll s.heap [ls])) (T : Top p loose mean mg mb (hideAll s.heap [ls])) (hh : A.handled = none) (hroom : A.depth + 4 < recursionLimit)
    (S : SceneAt (hideAll s.heap [ls]) sc lg (some ls)) (V : VerdAt (hideAll s.heap [ls]) v d) (hs : s.heap.get? ls = some (listOf S0 n1)) (hz : S0.size ≤ sizeLine)
    (hR : ∀ h' tk' D n1' t1 t2 t3 t4, Keeps [ls] s.heap h' → h'.get? ls = some (listOf (S0.push (.ref D)) n1') → h'.get? D = some (tup4 name (i : Nat) (kindOf d) (goalOf d) t1 t2 t3 t4) → s.heap.get? D = none → R (.ok (.ret .none)) { s with heap := h', toks := tk' }) :
    codeAny (model PySem.Challenge.rw_pq1068_01.row.prog w) A (.call (.ref 82) ⟨[.ref sc, .str name tn, .int (i : Nat) ti, v], []⟩) R s := by
  obtain ⟨hdl, dp, fr, gd, un⟩ := A
  obtain rfl : hdl = none := hh
  obtain rfl : fr = some outer := B.stack
  replace hroom : dp + 4 < recursionLimit := hroom
  have C := cls64 X
  revert X; k_fill; intro X
  refine' enter (news := [(ls, listOf S0 n1)]) (binds := [(Str.ofString "scene", .ref sc), (Str.ofString "chain", .str name tn), (Str.ofString "at", .int (i : Nat) ti), (Str.ofString "verdict", v)]) B X T ?hN ?ho ?hcd ?hroom ?hbind ?hloc ?h ?c2 ?c3 ?c4 ?c5
  case hN => intro q hq; simp only [List.mem_singleton] at hq; subst hq; exact ⟨hs, by simp⟩
  case ho => k_is
  case hcd => k_is
  case hroom => show dp < _; omega
  case hbind => exact BindsTo.of_eq rfl
  case hloc => exact locs rfl
  case c2 => exact rfl
  case c3 => exact rfl
  case c4 => exact rfl
  case c5 => decide
  intro g L' h₁ hg F N B' X' T' l1
  subst hg
  try dsimp only
  k_fold
  have l2 : ls < L' := l1 _ (.head _)
  cases V with
  | none =>
    k_steps
    (with_reducible rename Fr _ _ _ _ => F9)
    (with_reducible rename News _ _ _ _ => N9)
    refine hR _ _ _ _ _ _ _ _ (Keeps.of_fr F9) (News.get N9 (by k_mem)) (News.get N9 (List.Mem.head _)) (fresh_of N9 (List.Mem.head _) ?_)
    rename_i D9 hh l9 h99
    exact fun e => absurd l9.2 (List.mem_singleton.mp e ▸ Nat.lt_irrefl _)
  | tup e9 =>
    have T9 := verd_tup e9
    k_steps
    (with_reducible rename Fr _ _ _ _ => F9)
    (with_reducible rename News _ _ _ _ => N9)
    refine hR _ _ _ _ _ _ _ _ (Keeps.of_fr F9) (News.get N9 (by k_mem)) (News.get N9 (List.Mem.head _)) (fresh_of N9 (List.Mem.head _) ?_)
    rename_i D9 hh l9 h99
    exact fun e => absurd l9 (List.mem_singleton.mp e ▸ Nat.lt_irrefl _)

set_option maxHeartbeats 8000000 in
theorem say_ok {w : World} {A : Around} {s : Shared} {base : Heap} {outer : List Env} {p : Program} {loose : List Str} {mean : ExcName → Option Value} {mg mb : Str → Option Value} {R : Result → Shared → Prop}
    {sc lg a : Addr} {st : Option Addr} {v : Value} {i : Int} {ti : Tok} {Q0 : Array Value} {n1 : Nat}
    (B : Below A base outer (hideAll s.heap [lg])) (X : (hd.heap_39 w.params).In (hideAll s.heap [lg])) (T : Top p loose mean mg mb (hideAll s.heap [lg])) (hh : A.handled = none) (hroom : A.depth + 4 < recursionLimit)
    (S : SceneAt (hideAll s.heap [lg]) sc lg st) (V : IsTup (hideAll s.heap [lg]) a [.int i ti, v].toArray) (hs : s.heap.get? lg = some (listOf Q0 n1)) (hz : Q0.size ≤ sizeLine)
    (hR : ∀ h' tk' n1', Keeps [lg] s.heap h' → h'.get? lg = some (listOf (Q0.push (.int i ti)) n1') → R (.ok (.ret v)) { s with heap := h', toks := tk' }) :
    codeAny (model PySem.Challenge.rw_pq1068_01.row.prog w) A (.call (.ref 123) ⟨[.ref sc, .ref a], []⟩) R s := by
  obtain ⟨hdl, dp, fr, gd, un⟩ := A
  obtain rfl : hdl = none := hh
  obtain rfl : fr = some outer := B.stack
  replace hroom : dp + 4 < recursionLimit := hroom
  have C := cls64 X
  revert X; k_fill; intro X
  refine' enter (news := [(lg, listOf Q0 n1)]) (binds := [(Str.ofString "scene", .ref sc), (Str.ofString "rule", .ref a)]) B X T ?hN ?ho ?hcd ?hroom ?hbind ?hloc ?h ?c2 ?c3 ?c4 ?c5
  case hN => intro q hq; simp only [List.mem_singleton] at hq; subst hq; exact ⟨hs, by simp⟩
  case ho => k_is
  case hcd => k_is
  case hroom => show dp < _; omega
  case hbind => exact BindsTo.of_eq rfl
  case hloc => exact locs rfl
  case c2 => exact rfl
  case c3 => exact rfl
  case c4 => exact rfl
  case c5 => decide
  intro g L' h₁ hg F N B' X' T' l1
  subst hg
  try dsimp only
  k_fold
  k_steps
  dsimp only
  (with_reducible rename Fr _ _ _ _ => F9)
  (with_reducible rename News _ _ _ _ => N9)
  k_steps
  exact hR _ _ _ (Keeps.of_fr F9) (News.get N9 (List.Mem.head _))

end Mine
end

section
open PySem PySem.W PyProof.Rows PySem.Calls PyProof.V
namespace Mine
noncomputable abbrev tup3 (a : Str) (b : Addr) (c : Int) (t1 t3 : Tok) : Obj := { cls := .type "tuple", data := .seq [.str a t1, .ref b, .int c t3].toArray 0 }
noncomputable abbrev Fram := Str × Addr × Nat
inductive FrIn (l : List (Addr × Obj)) : Value → Fram → Prop
  | mk {D : Addr} {nm : Str} {li : Addr} {i : Nat} {t1 t3 : Tok} : (D, tup3 nm li (i : Nat) t1 t3) ∈ l → FrIn l (.ref D) (nm, li, i)
theorem FrIn.mono {l l' : List (Addr × Obj)} {v d} (h : FrIn l v d) (k : ∀ a b c t1 t3 D, (D, tup3 a b c t1 t3) ∈ l → (D, tup3 a b c t1 t3) ∈ l') : FrIn l' v d := by
  cases h with
  | mk hm => exact .mk (k _ _ _ _ _ _ hm)
theorem StepIn.mono' {l l' : List (Addr × Obj)} {v d} (h : StepIn l v d) (k : ∀ a b c e t1 t2 t3 t4 D, (D, tup4 a b c e t1 t2 t3 t4) ∈ l → (D, tup4 a b c e t1 t2 t3 t4) ∈ l') : StepIn l' v d := by
  cases h with
  | mk hm => exact .mk (k _ _ _ _ _ _ _ _ _ hm)

/-- what is noted so far, and the stack's frames -/
structure NT (tl : List (Addr × Obj)) (lg sk : Addr) (st : Option Addr) (Q0 S0 : Array Value) (dq ds : List Step) (stk : Array Value) (frs : List Fram) : Prop where
  log : ∃ n qs, (lg, listOf (Q0 ++ qs) n) ∈ tl ∧ All2 IntIs qs.toList dq
  steps : ∀ ls, st = some ls → ls ≠ lg ∧ ∃ n its, (ls, listOf (S0 ++ its) n) ∈ tl ∧ All2 (StepIn tl) its.toList ds
  stk : All2 (FrIn tl) stk.toList frs
  off : ∀ p ∈ tl, p.1 ≠ sk

theorem NT.grow {tl : List (Addr × Obj)} {lg sk : Addr} {st : Option Addr} {Q0 S0 : Array Value} {dq ds : List Step} {stk : Array Value} {frs : List Fram} {D : Addr} {o : Obj} (x : NT tl lg sk st Q0 S0 dq ds stk frs) (h : D ≠ sk) : NT ((D, o) :: tl) lg sk st Q0 S0 dq ds stk frs :=
  ⟨let ⟨n, qs, a, b⟩ := x.log; ⟨n, qs, .tail _ a, b⟩, fun ls e => let ⟨ne, n, its, a, b⟩ := x.steps ls e; ⟨ne, n, its, .tail _ a, b.imp fun _ _ y => y.mono fun _ h => .tail _ h⟩,
    x.stk.imp fun _ _ y => y.mono fun _ _ _ _ _ _ h => .tail _ h, cons_ne h x.off⟩

theorem isTup_stays {h h' : Heap} {a : Addr} {items : Array Value} (x : IsTup h a items) (k : h.StaysIn h') : IsTup h' a items := by
  obtain ⟨o, ho, r⟩ := x
  exact ⟨o, k _ _ ho, r⟩

noncomputable def without (l : List (Addr × Obj)) (a : Addr) : List (Addr × Obj) := l.filter fun p => decide (p.1 ≠ a)
theorem mem_without {l : List (Addr × Obj)} {a : Addr} {p : Addr × Obj} : p ∈ without l a ↔ p ∈ l ∧ p.1 ≠ a := by
  unfold without
  rw [List.mem_filter, decide_eq_true_eq]

section
variable {w : World} {A : Around} {s : Shared} {base h₀ : Heap} {outer : List Env} {p : Program} {loose : List Str} {mean : ExcName → Option Value} {mg mb : Str → Option Value} {L : Addr} {m : Str → Option Value} {env : Env}
  {Q : Value → Shared → Prop} {E : Value → Shared → Prop} {sc lg sk a : Addr} {so : Obj} {st : Option Addr} {tl : List (Addr × Obj)} {Q0 S0 stk : Array Value} {dq ds : List Step} {frs : List Fram} {v : Value} {x : Step} {ti tn : Tok}

theorem say_K (B : Below A base outer h₀) (F : Fr h₀ L s.heap m) (X : (hd.heap_39 w.params).In h₀) (N : News h₀ L s.heap ((sk, so) :: tl)) (T : Top p loose mean mg mb h₀)
    (S : SceneAt h₀ sc lg st) (V : IsTup h₀ a [.int x.num ti, v].toArray) (nt : NT tl lg sk st Q0 S0 dq ds stk frs) (hh : A.handled = none) (hroom : A.depth + 6 < recursionLimit) (hz : Q0.size + dq.length ≤ 1000000)
    (hf : env.frame = some L) (hke : env.scope.kind = .function)
    (hR : ∀ h' tk' tl', Fr h₀ L h' m → News h₀ L h' ((sk, so) :: tl') → NT tl' lg sk st Q0 S0 (dq ++ [x]) ds stk frs → Q v { s with heap := h', toks := tk' }) :
    wpAny (model PySem.Challenge.rw_pq1068_01.row.prog w) (A.deeper env) (call (.ref 123) [.ref sc, .ref a]) Q E s := by
  obtain ⟨n, qs, hm, hq⟩ := nt.log
  have hM : ∀ b ∈ [lg], ∃ o, (b, o) ∈ (sk, so) :: tl := by
    intro b hb; rw [List.mem_singleton.mp hb]; exact ⟨_, .tail _ hm⟩
  have st' := stays_hide F N hM
  obtain ⟨B', X', T'⟩ := down (M := [lg]) (env := env) B F X N T hf hke hM
  have hlg : lg ≠ sk := nt.off _ hm
  have heap_lg := (N _ (.tail _ hm)).1
  refine wpAny_call (say_ok B' X' T' hh (by rw [depth_deeper]; omega) (S.stays st') (isTup_stays V st') heap_lg (by rw [Array.size_append, sizeLine_eq]; have := hq.length; rw [Array.length_toList] at this; omega) ?_)
  intro h' tk' n1' hk hp
  obtain ⟨F', N'⟩ := back (news' := (sk, so) :: (lg, listOf ((Q0 ++ qs).push (.int x.num ti)) n1') :: without tl lg) F N hM hk (by
    intro q hq
    rcases List.mem_cons.mp hq with rfl | hq
    · exact .inl ⟨.head _, by simpa using Ne.symm hlg⟩
    · rcases List.mem_cons.mp hq with rfl | hq
      · exact .inr ⟨hp, .inl (by simp)⟩
      · obtain ⟨q1, q2⟩ := mem_without.mp hq
        exact .inl ⟨.tail _ q1, by simpa using q2⟩)
  have other : ∀ b o, (b, o) ∈ tl → o.data ≠ (listOf (Q0 ++ qs) n).data → (b, o) ∈ (lg, listOf ((Q0 ++ qs).push (.int x.num ti)) n1') :: without tl lg := by
    intro b o hb hd
    refine .tail _ (mem_without.mpr ⟨hb, fun e => hd ?_⟩)
    have h1 := (N _ (.tail _ hb)).1
    have e' : b = lg := e
    dsimp only at h1 heap_lg
    rw [e', heap_lg] at h1
    rw [← Option.some.inj h1]
  have cls : ∀ b o, (b, o) ∈ tl → o.cls = .type "tuple" → (b, o) ∈ (lg, listOf ((Q0 ++ qs).push (.int x.num ti)) n1') :: without tl lg := by
    intro b o hb hc
    refine .tail _ (mem_without.mpr ⟨hb, fun e => ?_⟩)
    have h1 := (N _ (.tail _ hb)).1
    have e' : b = lg := e
    dsimp only at h1 heap_lg
    rw [e', heap_lg] at h1
    rw [← Option.some.inj h1] at hc
    exact absurd (Value.type.inj hc) (by decide)
  refine hR h' tk' _ F' N' ⟨⟨n1', qs.push (.int x.num ti), by rw [Array.append_push]; exact .head _, by rw [Array.toList_push]; exact hq.snoc .mk⟩, fun ls e => ?_, nt.stk.imp fun _ _ y => y.mono fun _ _ _ _ _ _ h => cls _ _ h rfl, cons_ne hlg fun p hp => nt.off p (mem_without.mp hp).1⟩
  obtain ⟨ne, n2, its, a1, a2⟩ := nt.steps ls e
  exact ⟨ne, n2, its, .tail _ (mem_without.mpr ⟨a1, ne⟩), a2.imp fun _ _ y => y.mono' fun _ _ _ _ _ _ _ _ _ h => cls _ _ h rfl⟩

theorem note_K {d : Option (Str × Str)} (B : Below A base outer h₀) (F : Fr h₀ L s.heap m) (X : (hd.heap_39 w.params).In h₀) (N : News h₀ L s.heap ((sk, so) :: tl)) (T : Top p loose mean mg mb h₀)
    (S : SceneAt h₀ sc lg st) (V : VerdAt h₀ v d) (nt : NT tl lg sk st Q0 S0 dq ds stk frs) (hh : A.handled = none) (hroom : A.depth + 6 < recursionLimit) (hz : S0.size + ds.length ≤ 1000000)
    (hf : env.frame = some L) (hke : env.scope.kind = .function) (hk : x.kind = kindOf d) (hg : x.goal = goalOf d)
    (hR : ∀ h' tk' tl', Fr h₀ L h' m → News h₀ L h' ((sk, so) :: tl') → NT tl' lg sk st Q0 S0 dq (ds ++ [x]) stk frs → Q .none { s with heap := h', toks := tk' }) :
    wpAny (model PySem.Challenge.rw_pq1068_01.row.prog w) (A.deeper env) (call (.ref 82) [.ref sc, .str x.name tn, .int (x.place : Nat) ti, v]) Q E s := by
  cases st with
  | none =>
    have hM : ∀ b ∈ ([] : List Addr), ∃ o, (b, o) ∈ (sk, so) :: tl := fun _ h => nomatch h
    have st' := stays_hide F N hM
    obtain ⟨B', X', T'⟩ := down (M := []) (env := env) B F X N T hf hke hM
    refine wpAny_call (note_ok0 B' X' T' hh (by rw [depth_deeper]; omega) (S.stays st') ?_)
    intro h' tk' hk'
    obtain ⟨F', N'⟩ := back (news' := (sk, so) :: tl) F N hM hk' (fun q hq => .inl ⟨hq, by simp⟩)
    exact hR h' tk' tl F' N' ⟨nt.log, (fun ls e => nomatch e), nt.stk, nt.off⟩
  | some ls =>
    obtain ⟨ne, n, its, hm, hi⟩ := nt.steps ls rfl
    have hM : ∀ b ∈ [ls], ∃ o, (b, o) ∈ (sk, so) :: tl := by
      intro b hb; rw [List.mem_singleton.mp hb]; exact ⟨_, .tail _ hm⟩
    have st' := stays_hide F N hM
    obtain ⟨B', X', T'⟩ := down (M := [ls]) (env := env) B F X N T hf hke hM
    have hls : ls ≠ sk := nt.off _ hm
    have heap_ls := (N _ (.tail _ hm)).1
    refine wpAny_call (note_ok1 B' X' T' hh (by rw [depth_deeper]; omega) (S.stays st') (V.stays st') heap_ls (by rw [Array.size_append, sizeLine_eq]; have := hi.length; rw [Array.length_toList] at this; omega) ?_)
    intro h' tk' D n1' t1 t2 t3 t4 hk' hp hD hfr
    obtain ⟨F', N'⟩ := back (news' := (sk, so) :: (ls, listOf ((S0 ++ its).push (.ref D)) n1') :: (D, tup4 x.name (x.place : Nat) (kindOf d) (goalOf d) t1 t2 t3 t4) :: without tl ls) F N hM hk' (by
      intro q hq
      rcases List.mem_cons.mp hq with rfl | hq
      · exact .inl ⟨.head _, by simpa using Ne.symm hls⟩
      · rcases List.mem_cons.mp hq with rfl | hq
        · exact .inr ⟨hp, .inl (by simp)⟩
        · rcases List.mem_cons.mp hq with rfl | hq
          · exact .inr ⟨hD, .inr hfr⟩
          · obtain ⟨q1, q2⟩ := mem_without.mp hq
            exact .inl ⟨.tail _ q1, by simpa using q2⟩)
    have cls : ∀ b o, (b, o) ∈ tl → o.cls = .type "tuple" → (b, o) ∈ (ls, listOf ((S0 ++ its).push (.ref D)) n1') :: (D, tup4 x.name (x.place : Nat) (kindOf d) (goalOf d) t1 t2 t3 t4) :: without tl ls := by
      intro b o hb hc
      refine .tail _ (.tail _ (mem_without.mpr ⟨hb, fun e => ?_⟩))
      have h1 := (N _ (.tail _ hb)).1
      have e' : b = ls := e
      dsimp only at h1 heap_ls
      rw [e', heap_ls] at h1
      rw [← Option.some.inj h1] at hc
      exact absurd (Value.type.inj hc) (by decide)
    have hDs : D ≠ sk := fun e => by
      have h1 := (N _ (.head _)).1
      dsimp only at h1
      rw [← e, hfr] at h1; cases h1
    obtain ⟨n0, qs, l1, l2⟩ := nt.log
    refine hR h' tk' _ F' N' ⟨⟨n0, qs, .tail _ (.tail _ (mem_without.mpr ⟨l1, Ne.symm ne⟩)), l2⟩, fun ls' e => ?_, nt.stk.imp fun _ _ y => y.mono fun _ _ _ _ _ _ h => cls _ _ h rfl, cons_ne hls (cons_ne hDs fun p hp => nt.off p (mem_without.mp hp).1)⟩
    cases e
    refine ⟨ne, n1', its.push (.ref D), by rw [Array.append_push]; exact .head _, ?_⟩
    rw [Array.toList_push]
    refine (hi.imp fun _ _ y => y.mono' fun _ _ _ _ _ _ _ _ _ h => cls _ _ h rfl).snoc ?_
    refine .mk (t1 := t1) (t2 := t2) (t3 := t3) (t4 := t4) ?_
    rw [hk, hg]
    exact .tail _ (.head _)

theorem rules_K {news : List (Addr × Obj)} {bd : Addr} {bk : List (Str × List Rule)} {name : Str} (B : Below A base outer h₀) (F : Fr h₀ L s.heap m) (X : (hd.heap_39 w.params).In h₀) (N : News h₀ L s.heap news) (T : Top p loose mean mg mb h₀)
    (b : BookAt PySem.Challenge.rw_pq1068_01.row.prog w h₀ bd bk) (hh : A.handled = none) (hroom : A.depth + 12 < recursionLimit) (hnl : name.length ≤ 1000)
    (hf : env.frame = some L) (hke : env.scope.kind = .function)
    (hR1 : ∀ rs, bkAt bk name = some rs → ∀ li h' tk', RulesAt h₀ li rs → Fr h₀ L h' m → News h₀ L h' news → Q (.ref li) { s with heap := h', toks := tk' })
    (hR2 : bkAt bk name = none → ∀ e h' tk', Fault [] (env :: outer) (Str.ofString "unknown chain " ++ name) s.heap h' e → E (.ref e) { s with heap := h', toks := tk' }) :
    wpAny (model PySem.Challenge.rw_pq1068_01.row.prog w) (A.deeper env) (call (.ref 75) [.ref bd, .str name tn]) Q E s := by
  have hM : ∀ b ∈ ([] : List Addr), ∃ o, (b, o) ∈ news := fun _ h => nomatch h
  have st' := stays_hide F N hM
  obtain ⟨B', X', T'⟩ := down (M := []) (env := env) B F X N T hf hke hM
  refine wpAny_call (rules_ok B' X' T' hh (by rw [depth_deeper]; omega) st' b hnl ?_ ?_)
  · intro rs hx li h' tk' hr hk'
    obtain ⟨F', N'⟩ := back (news' := news) F N hM hk' (fun q hq => .inl ⟨hq, by simp⟩)
    exact hR1 rs hx li h' tk' hr F' N'
  · intro hx e h' tk' ft
    exact hR2 hx e h' tk' ft
end

end Mine
end

section
open PySem PySem.W PyProof.Rows PySem.Calls PyProof.V
namespace Mine
noncomputable abbrev stepOf (nm : Str) (i : Nat) (n : Int) (v : Option (Str × Str)) : Step := ⟨nm, i, kindOf v, goalOf v, n⟩

inductive Plain : Option (Str × Str) → Prop
  | none : Plain none
  | brk {g} : Plain (some (Str.ofString "break", g))
  | cont {g} : Plain (some (Str.ofString "continue", g))

section
variable {bk : List (Str × List Rule)} {most N : Nat} (H : Str → Addr → Nat → List Fram → List Step → Shared → Prop) (W : Shared → Prop) (RA : Addr → List Rule → Prop) (Fin : Out → List Step → Prop)

/-- what may follow a rule with a verdict -/
noncomputable def NextK (bk : List (Str × List Rule)) (most : Nat) (nm : Str) (li : Addr) (rs : List Rule) (i : Nat) (frs : List Fram) (dq : List Step) (n : Int) (kk gg : Str) : Prop :=
  ((kk = Str.ofString "break" ∨ kk = Str.ofString "continue") ∧ ∀ s', H nm li (i + 1) frs (dq ++ [stepOf nm i n (some (kk, gg))]) s' → W s') ∨
  (kk = Str.ofString "return" ∧ ∀ s', H nm li rs.length frs (dq ++ [stepOf nm i n (some (kk, gg))]) s' → W s') ∨
  ((kk = Str.ofString "accept" ∨ kk = Str.ofString "drop") ∧ gg = Str.ofString "" ∧ Fin (.ended kk) (dq ++ [stepOf nm i n (some (kk, gg))])) ∨
  (kk = Str.ofString "goto" ∧ ((bkAt bk gg = none ∧ Fin (.fault gg) (dq ++ [stepOf nm i n (some (kk, gg))])) ∨ ∃ rs', bkAt bk gg = some rs' ∧ ∀ li' s', RA li' rs' → H gg li' 0 frs (dq ++ [stepOf nm i n (some (kk, gg))]) s' → W s')) ∨
  (kk = Str.ofString "jump" ∧ most ≤ frs.length ∧ Fin (.ended (Str.ofString "drop")) (dq ++ [stepOf nm i n (some (kk, gg))])) ∨
  (kk = Str.ofString "jump" ∧ frs.length < most ∧ ((bkAt bk gg = none ∧ Fin (.fault gg) (dq ++ [stepOf nm i n (some (kk, gg))])) ∨ ∃ rs', bkAt bk gg = some rs' ∧ ∀ li' s', RA li' rs' → H gg li' 0 (frs ++ [(nm, li, i + 1)]) (dq ++ [stepOf nm i n (some (kk, gg))]) s' → W s'))

/-- the turns of a loop with a stack -/
structure Turns (bk : List (Str × List Rule)) (most N : Nat) : Prop where
  rule0 : ∀ nm li rs i frs dq s n, H nm li i frs dq s → RA li rs → rs[i]? = some (n, none) → dq.length + 1 ≤ N → (∀ s', H nm li (i + 1) frs (dq ++ [stepOf nm i n none]) s' → W s') → W s
  rule1 : ∀ nm li rs i frs dq s n kk gg, H nm li i frs dq s → RA li rs → rs[i]? = some (n, some (kk, gg)) → dq.length + 1 ≤ N → NextK H W RA Fin bk most nm li rs i frs dq n kk gg → W s
  pop : ∀ nm li rs i f frs dq s, H nm li i (frs ++ [f]) dq s → RA li rs → rs.length ≤ i → (∀ s', H f.1 f.2.1 f.2.2 frs dq s' → W s') → W s

section
variable {H W RA Fin} {nm : Str} {li : Addr} {rs : List Rule} {i : Nat} {frs : List Fram} {dq : List Step} {n : Int} {kk gg : Str}
theorem nk_plain (V : NextK H W RA Fin bk most nm li rs i frs dq n kk gg) (h : ([Str.ofString "break", Str.ofString "continue"].any fun x => x == kk) = true) : ∀ s', H nm li (i + 1) frs (dq ++ [stepOf nm i n (some (kk, gg))]) s' → W s' := by
  rcases V with ⟨_, r⟩ | ⟨q, _⟩ | ⟨q | q, _⟩ | ⟨q, _⟩ | ⟨q, _⟩ | ⟨q, _⟩
  · exact r
  all_goals (subst q; exact absurd h (by decide))
theorem nk_ret (V : NextK H W RA Fin bk most nm li rs i frs dq n kk gg) (h : (kk == Str.ofString "return") = true) : ∀ s', H nm li rs.length frs (dq ++ [stepOf nm i n (some (kk, gg))]) s' → W s' := by
  rcases V with ⟨q | q, _⟩ | ⟨_, r⟩ | ⟨q | q, _⟩ | ⟨q, _⟩ | ⟨q, _⟩ | ⟨q, _⟩
  all_goals first | exact r | exact off_kk q h (by decide)
theorem nk_full (V : NextK H W RA Fin bk most nm li rs i frs dq n kk gg) (h : (kk == Str.ofString "jump") = true) (hw : (most : Int) ≤ (frs.length : Int)) : Fin (.ended (Str.ofString "drop")) (dq ++ [stepOf nm i n (some (kk, gg))]) := by
  rcases V with ⟨q | q, _⟩ | ⟨q, _⟩ | ⟨q | q, _⟩ | ⟨q, _⟩ | ⟨_, _, r⟩ | ⟨_, r', _⟩
  all_goals first | exact r | exact off_kk q h (by decide) | exact absurd (Int.ofNat_le.mp hw) (Nat.not_le.mpr r')
theorem nk_jump (V : NextK H W RA Fin bk most nm li rs i frs dq n kk gg) (h : (kk == Str.ofString "jump") = true) (hw : ¬ (most : Int) ≤ (frs.length : Int)) :
    (bkAt bk gg = none ∧ Fin (.fault gg) (dq ++ [stepOf nm i n (some (kk, gg))])) ∨ ∃ rs', bkAt bk gg = some rs' ∧ ∀ li' s', RA li' rs' → H gg li' 0 (frs ++ [(nm, li, i + 1)]) (dq ++ [stepOf nm i n (some (kk, gg))]) s' → W s' := by
  rcases V with ⟨q | q, _⟩ | ⟨q, _⟩ | ⟨q | q, _⟩ | ⟨q, _⟩ | ⟨_, r', _⟩ | ⟨_, _, r⟩
  all_goals first | exact r | exact off_kk q h (by decide) | exact absurd (Int.ofNat_le.mpr r') hw
theorem nk_goto (V : NextK H W RA Fin bk most nm li rs i frs dq n kk gg) (h : (kk == Str.ofString "goto") = true) :
    (bkAt bk gg = none ∧ Fin (.fault gg) (dq ++ [stepOf nm i n (some (kk, gg))])) ∨ ∃ rs', bkAt bk gg = some rs' ∧ ∀ li' s', RA li' rs' → H gg li' 0 frs (dq ++ [stepOf nm i n (some (kk, gg))]) s' → W s' := by
  rcases V with ⟨q | q, _⟩ | ⟨q, _⟩ | ⟨q | q, _⟩ | ⟨_, r⟩ | ⟨q, _⟩ | ⟨q, _⟩
  all_goals first | exact r | exact off_kk q h (by decide)
theorem nk_end (V : NextK H W RA Fin bk most nm li rs i frs dq n kk gg) (h0 : ([Str.ofString "break", Str.ofString "continue"].any fun x => x == kk) = false) (h1 : (kk == Str.ofString "return") = false) (h2 : (kk == Str.ofString "jump") = false) (h3 : (kk == Str.ofString "goto") = false) :
    gg = Str.ofString "" ∧ Fin (.ended kk) (dq ++ [stepOf nm i n (some (kk, gg))]) := by
  rcases V with ⟨q | q, _⟩ | ⟨q, _⟩ | ⟨_, r⟩ | ⟨q, _⟩ | ⟨q, _⟩ | ⟨q, _⟩
  · subst q; exact absurd h0 (by decide)
  · subst q; exact absurd h0 (by decide)
  · exact off_kf q h1
  · exact r
  · exact off_kf q h3
  · exact off_kf q h2
  · exact off_kf q h2
end

theorem drop_at {rs : List Rule} {i : Nat} {r : Rule} {rest : List Rule} (h : rs.drop i = r :: rest) : rs[i]? = some r ∧ rs.drop (i + 1) = rest := by
  constructor
  · have := congrArg (·[0]?) h
    simpa using this
  · have := congrArg (·.drop 1) h
    simpa [List.drop_drop, Nat.add_comm] using this

theorem loop_run (T : Turns H W RA Fin bk most N) {nm : Str} {i : Nat} {rs' : List Rule} {w : Nat} {st : List Step} {o : Out} {d : Nat} (run : Run bk most nm i rs' w st o d) :
    ∀ (li : Addr) (rs : List Rule) (frs : List Fram) (dq : List Step) (s : Shared), H nm li i frs dq s → RA li rs → rs.drop i = rs' → frs.length = w → dq.length + st.length ≤ N →
      (o = .back → ∀ nm' li' rs' i' s', RA li' rs' → rs'.length ≤ i' → H nm' li' i' frs (dq ++ st) s' → W s') → (o ≠ .back → Fin o (dq ++ st)) → W s := by
  induction run with
  | done =>
    intro li rs frs dq s h ra hd _ hz hb _
    refine hb rfl _ _ _ _ s ra ?_ (by simpa using h)
    exact List.drop_eq_nil_iff.mp hd
  | none _ ih =>
    intro li rs frs dq s h ra hd hw hz hb hf
    obtain ⟨h1, h2⟩ := drop_at hd
    simp only [List.length_cons] at hz
    refine T.rule0 _ _ _ _ _ _ _ _ h ra h1 (by omega) fun s' h' => ih _ _ _ _ _ h' ra h2 hw (by simp only [List.length_append, List.length_singleton]; omega) ?_ ?_
    · intro e; rw [List.append_assoc]; exact hb e
    · intro e; rw [List.append_assoc]; exact hf e
  | brk _ ih =>
    intro li rs frs dq s h ra hd hw hz hb hf
    obtain ⟨h1, h2⟩ := drop_at hd
    simp only [List.length_cons] at hz
    refine T.rule1 _ _ _ _ _ _ _ _ _ _ h ra h1 (by omega) (.inl ⟨.inl rfl, fun s' h' => ih _ _ _ _ _ h' ra h2 hw (by simp only [List.length_append, List.length_singleton]; omega) ?_ ?_⟩)
    · intro e; rw [List.append_assoc]; exact hb e
    · intro e; rw [List.append_assoc]; exact hf e
  | cont _ ih =>
    intro li rs frs dq s h ra hd hw hz hb hf
    obtain ⟨h1, h2⟩ := drop_at hd
    simp only [List.length_cons] at hz
    refine T.rule1 _ _ _ _ _ _ _ _ _ _ h ra h1 (by omega) (.inl ⟨.inr rfl, fun s' h' => ih _ _ _ _ _ h' ra h2 hw (by simp only [List.length_append, List.length_singleton]; omega) ?_ ?_⟩)
    · intro e; rw [List.append_assoc]; exact hb e
    · intro e; rw [List.append_assoc]; exact hf e
  | ret =>
    intro li rs frs dq s h ra hd hw hz hb hf
    obtain ⟨h1, h2⟩ := drop_at hd
    simp only [List.length_cons] at hz
    exact T.rule1 _ _ _ _ _ _ _ _ _ _ h ra h1 (by omega) (.inr (.inl ⟨rfl, fun s' h' => hb rfl _ _ _ _ s' ra (Nat.le_refl _) h'⟩))
  | acc =>
    intro li rs frs dq s h ra hd hw hz hb hf
    obtain ⟨h1, h2⟩ := drop_at hd
    simp only [List.length_cons] at hz
    exact T.rule1 _ _ _ _ _ _ _ _ _ _ h ra h1 (by omega) (.inr (.inr (.inl ⟨.inl rfl, rfl, hf (by intro q; cases q)⟩)))
  | drop =>
    intro li rs frs dq s h ra hd hw hz hb hf
    obtain ⟨h1, h2⟩ := drop_at hd
    simp only [List.length_cons] at hz
    exact T.rule1 _ _ _ _ _ _ _ _ _ _ h ra h1 (by omega) (.inr (.inr (.inl ⟨.inr rfl, rfl, hf (by intro q; cases q)⟩)))
  | gotoMiss hx =>
    intro li rs frs dq s h ra hd hw hz hb hf
    obtain ⟨h1, h2⟩ := drop_at hd
    simp only [List.length_cons] at hz
    exact T.rule1 _ _ _ _ _ _ _ _ _ _ h ra h1 (by omega) (.inr (.inr (.inr (.inl ⟨rfl, .inl ⟨hx, hf (by intro q; cases q)⟩⟩))))
  | goto hx _ ih =>
    intro li rs frs dq s h ra hd hw hz hb hf
    obtain ⟨h1, h2⟩ := drop_at hd
    simp only [List.length_cons] at hz
    refine T.rule1 _ _ _ _ _ _ _ _ _ _ h ra h1 (by omega) (.inr (.inr (.inr (.inl ⟨rfl, .inr ⟨_, hx, fun li' s' ra' h' => ih _ _ _ _ _ h' ra' rfl hw (by simp only [List.length_append, List.length_singleton]; omega) ?_ ?_⟩⟩))))
    · intro e; rw [List.append_assoc]; exact hb e
    · intro e; rw [List.append_assoc]; exact hf e
  | full hw' =>
    intro li rs frs dq s h ra hd hw hz hb hf
    obtain ⟨h1, h2⟩ := drop_at hd
    simp only [List.length_cons] at hz
    exact T.rule1 _ _ _ _ _ _ _ _ _ _ h ra h1 (by omega) (.inr (.inr (.inr (.inr (.inl ⟨rfl, by omega, hf (by intro q; cases q)⟩)))))
  | jumpMiss hw' hx =>
    intro li rs frs dq s h ra hd hw hz hb hf
    obtain ⟨h1, h2⟩ := drop_at hd
    simp only [List.length_cons] at hz
    exact T.rule1 _ _ _ _ _ _ _ _ _ _ h ra h1 (by omega) (.inr (.inr (.inr (.inr (.inr ⟨rfl, by omega, .inl ⟨hx, hf (by intro q; cases q)⟩⟩)))))
  | jumpOut hw' hx _ hno ih =>
    intro li rs frs dq s h ra hd hw hz hb hf
    obtain ⟨h1, h2⟩ := drop_at hd
    simp only [List.length_cons] at hz
    refine T.rule1 _ _ _ _ _ _ _ _ _ _ h ra h1 (by omega) (.inr (.inr (.inr (.inr (.inr ⟨rfl, by omega, .inr ⟨_, hx, fun li' s' ra' h' => ih _ _ _ _ _ h' ra' rfl (by simp [hw]) (by simp only [List.length_append, List.length_singleton]; omega) (fun e => absurd e hno) ?_⟩⟩)))))
    intro e; rw [List.append_assoc]; exact hf e
  | jumpBack hw' hx _ _ ih1 ih2 =>
    intro li rs frs dq s h ra hd hw hz hb hf
    obtain ⟨h1, h2⟩ := drop_at hd
    simp only [List.length_cons, List.length_append] at hz
    refine T.rule1 _ _ _ _ _ _ _ _ _ _ h ra h1 (by omega) (.inr (.inr (.inr (.inr (.inr ⟨rfl, by omega, .inr ⟨_, hx, fun li' s' ra' h' => ih1 _ _ _ _ _ h' ra' rfl (by simp [hw]) (by simp only [List.length_append, List.length_singleton]; omega) (fun _ nm2 li2 rs2 i2 s2 ra2 hl2 hh2 => ?_) (fun e => absurd rfl e)⟩⟩)))))
    refine T.pop _ _ _ _ _ _ _ _ hh2 ra2 hl2 fun s3 h3 => ih2 _ _ _ _ _ h3 ra h2 hw (by simp only [List.length_append, List.length_singleton]; omega) ?_ ?_
    · intro e; rw [List.append_assoc, List.append_assoc]; exact hb e
    · intro e; rw [List.append_assoc, List.append_assoc]; exact hf e
end

end Mine
end

section
open PySem PySem.W PyProof.Rows PySem.Calls PyProof.V
namespace Mine
theorem freshE5 : True := by
  w_top off
  k_with_none
  trivial

noncomputable def stepsPart (st : Option Addr) (S0 : Array Value) (n : Nat) : List (Addr × Obj) := match st with | none => [] | some ls => [(ls, listOf S0 n)]

noncomputable def isSeq (o : Obj) : Bool := match o.data with | .seq _ _ => true | _ => false

inductive VerdRet (h₀ : Heap) (tl : List (Addr × Obj)) : Value → Option (Str × Str) → Prop
  | at {v d} : VerdAt h₀ v d → VerdRet h₀ tl v d
  | new {v d} : VerdIn tl v d → VerdRet h₀ tl v d

inductive ChainEnd (M : List Addr) (outer : List Env) (s : Shared) (tl : List (Addr × Obj)) : Out → Heap → Result → Prop
  | back {h'} : ChainEnd M outer s tl .back h' (.ok (.ret .none))
  | ended {h' v k} : VerdRet (hideAll s.heap M) tl v (some (k, Str.ofString "")) → ChainEnd M outer s tl (.ended k) h' (.ok (.ret v))
  | fault {h' x e} : Fault M outer (Str.ofString "unknown chain " ++ x) s.heap h' e → ChainEnd M outer s tl (.fault x) h' (.error (.ref e))

/-- what walk_chain hands back -/
noncomputable def ChainRet (s : Shared) (outer : List Env) (lg : Addr) (st : Option Addr) (Q0 S0 : Array Value) (stp : List Step) (o : Out) (R : Result → Shared → Prop) : Prop :=
  ∀ h' tk' r tl its qs n1' n2', Moved (framesOf outer) (lg :: st.toList) s.heap h' → (∀ q ∈ tl, h'.get? q.1 = some q.2 ∧ s.heap.get? q.1 = none ∧ isSeq q.2 = true) →
    h'.get? lg = some (listOf (Q0 ++ qs) n1') → All2 IntIs qs.toList stp → (∀ ls, st = some ls → h'.get? ls = some (listOf (S0 ++ its) n2') ∧ All2 (StepIn tl) its.toList stp) →
    ChainEnd (lg :: st.toList) outer s tl o h' r → R r { s with heap := h', toks := tk' }


structure LocC (m : Str → Option Value) (sc bd sk : Addr) (nm : Str) (li : Addr) (i most : Nat) : Prop where
  c1 : m (Str.ofString "scene") = some (.ref sc)
  c2 : m (Str.ofString "chains") = some (.ref bd)
  c3 : m (Str.ofString "do_rule") = some (.ref 123)
  c4 : ∃ t, m (Str.ofString "most") = some (.int (most : Nat) t)
  c5 : ∃ t, m (Str.ofString "chain") = some (.str nm t)
  c6 : m (Str.ofString "rules") = some (.ref li)
  c7 : ∃ t, m (Str.ofString "at") = some (.int (i : Nat) t)
  c8 : m (Str.ofString "stack") = some (.ref sk)

/-- the loop's head -/
noncomputable def Head (h₀ : Heap) (L sc bd lg sk : Addr) (st : Option Addr) (Q0 S0 : Array Value) (most : Nat) (s0 : Shared) (nm : Str) (li : Addr) (i : Nat) (frs : List Fram) (dq : List Step) (s' : Shared) : Prop :=
  ∃ h' tk m stk n tl, s' = { s0 with heap := h', toks := tk } ∧ Fr h₀ L h' m ∧ News h₀ L h' ((sk, listOf stk n) :: tl) ∧ NT tl lg sk st Q0 S0 dq dq stk frs ∧ frs.length ≤ most ∧ LocC m sc bd sk nm li i most

noncomputable def RulesOk (h₀ : Heap) (li : Addr) (rs : List Rule) : Prop := RulesAt h₀ li rs ∧ ∀ r ∈ rs, ∀ k g, r.2 = some (k, g) → g.length ≤ 1000

theorem LocC.other {m : Str → Option Value} {sc bd sk : Addr} {nm : Str} {li : Addr} {i most : Nat} {x : Str} {v : Option Value} (h : LocC m sc bd sk nm li i most)
    (hx : x ≠ Str.ofString "scene" ∧ x ≠ Str.ofString "chains" ∧ x ≠ Str.ofString "do_rule" ∧ x ≠ Str.ofString "most" ∧ x ≠ Str.ofString "chain" ∧ x ≠ Str.ofString "rules" ∧ x ≠ Str.ofString "at" ∧ x ≠ Str.ofString "stack") :
    LocC (fun y => if y = x then v else m y) sc bd sk nm li i most :=
  ⟨(if_neg (Ne.symm hx.1)).trans h.c1, (if_neg (Ne.symm hx.2.1)).trans h.c2, (if_neg (Ne.symm hx.2.2.1)).trans h.c3, let ⟨t, e⟩ := h.c4; ⟨t, (if_neg (Ne.symm hx.2.2.2.1)).trans e⟩, let ⟨t, e⟩ := h.c5; ⟨t, (if_neg (Ne.symm hx.2.2.2.2.1)).trans e⟩,
    (if_neg (Ne.symm hx.2.2.2.2.2.1)).trans h.c6, let ⟨t, e⟩ := h.c7; ⟨t, (if_neg (Ne.symm hx.2.2.2.2.2.2.1)).trans e⟩, (if_neg (Ne.symm hx.2.2.2.2.2.2.2)).trans h.c8⟩
theorem LocC.at {m : Str → Option Value} {sc bd sk : Addr} {nm : Str} {li : Addr} {i j most : Nat} {k : Int} {t : Tok} (h : LocC m sc bd sk nm li i most) (hk : k = (j : Nat)) :
    LocC (fun y => if y = Str.ofString "at" then some (.int k t) else m y) sc bd sk nm li j most := by
  subst hk
  exact ⟨(if_neg (by decide)).trans h.c1, (if_neg (by decide)).trans h.c2, (if_neg (by decide)).trans h.c3, let ⟨t, e⟩ := h.c4; ⟨t, (if_neg (by decide)).trans e⟩, let ⟨t, e⟩ := h.c5; ⟨t, (if_neg (by decide)).trans e⟩, (if_neg (by decide)).trans h.c6, ⟨_, if_pos rfl⟩, (if_neg (by decide)).trans h.c8⟩
theorem LocC.chain {m : Str → Option Value} {sc bd sk : Addr} {nm nm' : Str} {li : Addr} {i most : Nat} {t : Tok} (h : LocC m sc bd sk nm li i most) :
    LocC (fun y => if y = Str.ofString "chain" then some (.str nm' t) else m y) sc bd sk nm' li i most :=
  ⟨(if_neg (by decide)).trans h.c1, (if_neg (by decide)).trans h.c2, (if_neg (by decide)).trans h.c3, let ⟨t, e⟩ := h.c4; ⟨t, (if_neg (by decide)).trans e⟩, ⟨_, if_pos rfl⟩, (if_neg (by decide)).trans h.c6, let ⟨t, e⟩ := h.c7; ⟨t, (if_neg (by decide)).trans e⟩, (if_neg (by decide)).trans h.c8⟩
theorem LocC.rules {m : Str → Option Value} {sc bd sk : Addr} {nm : Str} {li li' : Addr} {i most : Nat} (h : LocC m sc bd sk nm li i most) :
    LocC (fun y => if y = Str.ofString "rules" then some (.ref li') else m y) sc bd sk nm li' i most :=
  ⟨(if_neg (by decide)).trans h.c1, (if_neg (by decide)).trans h.c2, (if_neg (by decide)).trans h.c3, let ⟨t, e⟩ := h.c4; ⟨t, (if_neg (by decide)).trans e⟩, let ⟨t, e⟩ := h.c5; ⟨t, (if_neg (by decide)).trans e⟩, if_pos rfl, let ⟨t, e⟩ := h.c7; ⟨t, (if_neg (by decide)).trans e⟩, (if_neg (by decide)).trans h.c8⟩

theorem head_next {h₀ h' : Heap} {L sc bd lg sk : Addr} {st : Option Addr} {Q0 S0 stk : Array Value} {most n : Nat} {s : Shared} {nm : Str} {li : Addr} {i tk : Nat} {frs : List Fram} {dq : List Step} {m : Str → Option Value} {tl : List (Addr × Obj)}
    (F : Fr h₀ L h' m) (N : News h₀ L h' ((sk, listOf stk n) :: tl)) (nt : NT tl lg sk st Q0 S0 dq dq stk frs) (hf : frs.length ≤ most) (loc : LocC m sc bd sk nm li i most) :
    Head h₀ L sc bd lg sk st Q0 S0 most s nm li i frs dq { s with heap := h', toks := tk } := ⟨h', tk, m, stk, n, tl, rfl, F, N, nt, hf, loc⟩

theorem chain_end {s : Shared} {outer : List Env} {L lg sk : Addr} {st : Option Addr} {Q0 S0 stk : Array Value} {stp dq : List Step} {o o' : Out} {R : Result → Shared → Prop} {h' h'' : Heap} {so : Obj} {tl : List (Addr × Obj)} {frs : List Fram} {r : Result} {tk : Nat}
    (hR : ChainRet s outer lg st Q0 S0 stp o R) (N : News (hideAll s.heap (lg :: st.toList)) L h' ((sk, so) :: tl)) (nt : NT tl lg sk st Q0 S0 dq dq stk frs) (hfin : o' = o ∧ dq = stp)
    (mv : Moved (framesOf outer) (lg :: st.toList) s.heap h'') (hN : ∀ q ∈ tl, h''.get? q.1 = some q.2)
    (ce : ∀ tl', (∀ b x, (b, x) ∈ tl → x.cls = .type "tuple" → isSeq x = true → (b, x) ∈ tl') → ChainEnd (lg :: st.toList) outer s tl' o' h'' r) : R r { s with heap := h'', toks := tk } := by
  obtain ⟨rfl, rfl⟩ := hfin
  obtain ⟨n, qs, hm, hq⟩ := nt.log
  have key : ∀ b x, (b, x) ∈ tl → x.cls = .type "tuple" → isSeq x = true → (b, x) ∈ tl.filter (fun p => decide (p.1 ∉ lg :: st.toList ∧ isSeq p.2 = true)) := by
    intro b x hb hc hseq
    rw [List.mem_filter, decide_eq_true_eq]
    refine ⟨hb, fun hx => ?_, hseq⟩
    have h1 := (N _ (.tail _ hb)).1
    have no : ∀ c (items : Array Value) k, (c, listOf items k) ∈ tl → b ≠ c := by
      intro c items k hc' e
      have h2 := (N _ (.tail _ hc')).1
      dsimp only at h1 h2
      rw [e, h2] at h1
      rw [← Option.some.inj h1] at hc
      exact absurd (Value.type.inj hc) (by decide)
    rcases List.mem_cons.mp hx with e | e
    · exact no _ _ _ hm e
    · cases st with
      | none => cases e
      | some ls =>
        obtain ⟨_, n2, its, a, _⟩ := nt.steps ls rfl
        exact no _ _ _ a (List.mem_singleton.mp e)
  have hfr := freshM (News.sub N (l' := tl.filter (fun p => decide (p.1 ∉ lg :: st.toList ∧ isSeq p.2 = true))) fun p hp => .tail _ (List.mem_filter.mp hp).1) fun p hp => (of_decide_eq_true (List.mem_filter.mp hp).2).1
  cases st with
  | none =>
    exact hR h'' tk r _ #[] qs n 0 mv (fun q hq => ⟨hN q (List.mem_filter.mp hq).1, (hfr q hq).2, (of_decide_eq_true (List.mem_filter.mp hq).2).2⟩) (hN _ hm) hq (fun ls e => nomatch e) (ce _ key)
  | some ls =>
    obtain ⟨_, n2, its, a, b⟩ := nt.steps ls rfl
    refine hR h'' tk r _ its qs n n2 mv (fun q hq => ⟨hN q (List.mem_filter.mp hq).1, (hfr q hq).2, (of_decide_eq_true (List.mem_filter.mp hq).2).2⟩) (hN _ hm) hq (fun ls' e => ?_) (ce _ key)
    cases e
    exact ⟨hN _ a, b.imp fun _ _ y => y.mono' fun _ _ _ _ _ _ _ _ _ h => key _ _ h rfl rfl⟩

theorem moved_fr {s : Shared} {M fs : List Addr} {L : Addr} {h' : Heap} {m : Str → Option Value} (F : Fr (hideAll s.heap M) L h' m) : Moved fs M s.heap h' := fun b o e hb =>
  let z := F.keep b o (hideAll_get M e hb); ⟨fun _ => z, o.slots, z⟩

theorem all2_snoc_inv {α β : Type} {R : α → β → Prop} {l : List α} {m : List β} {b : β} (h : All2 R l (m ++ [b])) : ∃ l' a, l = l' ++ [a] ∧ All2 R l' m ∧ R a b := by
  induction m generalizing l with
  | nil =>
    cases h with
    | cons x y => cases y with | nil => exact ⟨[], _, rfl, .nil, x⟩
  | cons c m ih =>
    cases h with
    | cons x y =>
      obtain ⟨l', a, rfl, p, q⟩ := ih y
      exact ⟨_ :: l', a, rfl, .cons x p, q⟩

theorem allLt_all {d : Addr} {l : List (Addr × Obj)} (h : AllLt d l) : ∀ p ∈ l, p.1 < d := by
  induction l with
  | nil => intro p hp; cases hp
  | cons q r ih =>
    intro p hp
    rcases List.mem_cons.mp hp with e | hp
    · rw [e]; exact h.1
    · exact ih h.2 p hp
theorem news_ne {h₀ h : Heap} {L a b : Addr} {l : List (Addr × Obj)} {o o' : Obj} (N : News h₀ L h l) (ha : (a, o) ∈ l) (hb : (b, o') ∈ l) (hc : o.cls ≠ o'.cls) : a ≠ b := fun e => by
  have h1 := (N _ ha).1
  have h2 := (N _ hb).1
  dsimp only at h1 h2
  rw [e, h2] at h1
  exact hc (congrArg Obj.cls (Option.some.inj h1)).symm
theorem nt_has {h₀ h : Heap} {L lg sk : Addr} {st : Option Addr} {Q0 S0 stk : Array Value} {dq ds : List Step} {tl l : List (Addr × Obj)} {frs : List Fram} (N : News h₀ L h l) (hs : ∀ p ∈ tl, p ∈ l) (nt : NT tl lg sk st Q0 S0 dq ds stk frs) : ∀ b ∈ lg :: st.toList, ∃ o, h.get? b = some o := by
  intro b hb
  rcases List.mem_cons.mp hb with rfl | hb
  · obtain ⟨n, qs, hm, _⟩ := nt.log
    exact ⟨_, (N _ (hs _ hm)).1⟩
  · cases st with
    | none => cases hb
    | some ls =>
      obtain ⟨_, n, its, hm, _⟩ := nt.steps ls rfl
      rw [List.mem_singleton.mp hb]
      exact ⟨_, (N _ (hs _ hm)).1⟩
theorem NT.push {tl : List (Addr × Obj)} {lg sk : Addr} {st : Option Addr} {Q0 S0 : Array Value} {dq ds : List Step} {stk : Array Value} {frs : List Fram} {D li : Addr} {nm : Str} {k : Int} {i : Nat} {t1 t3 : Tok}
    (x : NT tl lg sk st Q0 S0 dq ds stk frs) (hD : (D, tup3 nm li k t1 t3) ∈ tl) (hk : k = (i : Nat)) : NT tl lg sk st Q0 S0 dq ds (stk.push (.ref D)) (frs ++ [(nm, li, i)]) := by
  subst hk
  exact ⟨x.log, x.steps, by rw [Array.toList_push]; exact x.stk.snoc (.mk hD), x.off⟩
theorem kl_last_push {y : Value} : ∀ {l : List Value}, kl_last (l ++ [y]) = some (l, y)
  | [] => rfl
  | x :: r => by rw [List.cons_append, kl_last, kl_last_push]
theorem news_swap2 {h₀ h : Heap} {L : Addr} {a b c : Addr × Obj} {tl : List (Addr × Obj)} (N : News h₀ L h (a :: b :: c :: tl)) : News h₀ L h (c :: a :: tl) := News.sub N (by (repeat (refine sub_cons (by k_mem) ?_)); (repeat (first | exact fun _ h => h | refine sub_skip ?_)))
theorem news_swap3 {h₀ h : Heap} {L : Addr} {a b c d : Addr × Obj} {tl : List (Addr × Obj)} (N : News h₀ L h (a :: b :: c :: d :: tl)) : News h₀ L h (d :: b :: tl) := News.sub N (by (repeat (refine sub_cons (by k_mem) ?_)); (repeat (first | exact fun _ h => h | refine sub_skip ?_)))
theorem NT.pop {tl : List (Addr × Obj)} {lg sk : Addr} {st : Option Addr} {Q0 S0 : Array Value} {dq ds : List Step} {stk stk' : Array Value} {frs frs' : List Fram}
    (x : NT tl lg sk st Q0 S0 dq ds stk frs) (h : All2 (FrIn tl) stk'.toList frs') : NT tl lg sk st Q0 S0 dq ds stk' frs' := ⟨x.log, x.steps, h, x.off⟩


theorem linesE5 : True := by
  k_with "call ref" => (k_here; refine Stop.go ?_)
  k_with "eval Name" => (k_here; k_dflt (refine' PyProof.Rows.ld ?k1 ?k2 ?_; (case k1 => k_asm); (case k2 => ((repeat (refine Eq.trans (if_neg (by decide)) ?_)); assumption)); k_whole))
  k_with "loadName" => (k_here; k_dflt (refine' PyProof.Rows.ldn ?k1 ?k2 ?_; (case k1 => k_asm); (case k2 => ((repeat (refine Eq.trans (if_neg (by decide)) ?_)); assumption)); k_whole))
  k_with "call builtin:len" => (k_here; (with_reducible show wpAny _ _ (call (Value.builtin "len") [Value.ref _]) _ _ _); k_dflt (refine' len_rules ?k1 ?k2 ?_; (case k1 => k_asm); (case k2 => k_asm); k_whole))
  k_with "subscriptTail Name" => (k_here; (with_reducible show wpAny _ _ (subscriptTail _ _ (Value.ref _) (Value.int _ _)) _ _ _); k_dflt (refine' item_rules ?k1 ?k2 ?k5 ?k3 ?_ ?k4; (case k1 => k_asm); (case k2 => k_asm); (case k5 => exact rfl); (case k3 => k_asm); (case k4 => with_unfolding_all rfl); k_whole); intro _ _ _ _ vd; have _ := vd; cases vd; (try (have _ := verd_tup (by with_reducible assumption))))
  k_with "call builtin:list.pop" => (refine Stop.go ?_)
  k_with "WhlRest" => (refine Stop.go ?_)
  trivial
set_option maxHeartbeats 8000000 in
theorem chain_ok {w : World} {A : Around} {s : Shared} {base : Heap} {outer : List Env} {p : Program} {loose : List Str} {mean : ExcName → Option Value} {mg mb : Str → Option Value} {R : Result → Shared → Prop}
    {bd sc lg : Addr} {st : Option Addr} {bk : List (Str × List Rule)} {first : Str} {most : Nat} {tf tm : Tok} {Q0 S0 : Array Value} {n1 n2 : Nat} {rs : List Rule} {stp : List Step} {o : Out} {d : Nat} {args : Args}
    (hargs : args = ⟨[.ref sc, .ref bd, .str first tf, .ref 123, .int (most : Nat) tm], []⟩ ∨ (args = ⟨[.ref sc, .ref bd, .str first tf, .ref 123], []⟩ ∧ most = 16 ∧ tm = 309))
    (B : Below A base outer (hideAll s.heap (lg :: st.toList))) (X : (hd.heap_39 w.params).In (hideAll s.heap (lg :: st.toList))) (T : Top p loose mean mg mb (hideAll s.heap (lg :: st.toList))) (hh : A.handled = none) (hroom : A.depth + 20 < recursionLimit)
    (S : SceneAt (hideAll s.heap (lg :: st.toList)) sc lg st) (b : BookAt PySem.Challenge.rw_pq1068_01.row.prog w (hideAll s.heap (lg :: st.toList)) bd bk) (hg : GoalLens bk) (hne : ∀ ls, st = some ls → ls ≠ lg)
    (hq : s.heap.get? lg = some (listOf Q0 n1)) (hs : ∀ ls, st = some ls → s.heap.get? ls = some (listOf S0 n2)) (hfl : first.length ≤ 1000) (hmost : most ≤ 1000)
    (hz1 : Q0.size + stp.length ≤ 1000000) (hz2 : S0.size + stp.length ≤ 1000000) (hx : bkAt bk first = some rs) (run : Run bk most first 0 rs 0 stp o d)
    (hR : ChainRet s outer lg st Q0 S0 stp o R) :
    codeAny (model PySem.Challenge.rw_pq1068_01.row.prog w) A (.call (.ref 90) args) R s := by
  obtain ⟨hdl, dp, fr, gd, un⟩ := A
  obtain rfl : hdl = none := hh
  obtain rfl : fr = some outer := B.stack
  replace hroom : dp + 20 < recursionLimit := hroom
  have C := cls64 X
  revert X; k_fill; intro X
  refine' enter (news := (lg, listOf Q0 n1) :: stepsPart st S0 n2) (binds := [(Str.ofString "scene", .ref sc), (Str.ofString "chains", .ref bd), (Str.ofString "first", .str first tf), (Str.ofString "do_rule", .ref 123), (Str.ofString "most", .int (most : Nat) tm)]) B X T ?hN ?ho ?hcd ?hroom ?hbind ?hloc ?h ?c2 ?c3 ?c4 ?c5
  case hN =>
    intro q hq'
    rcases List.mem_cons.mp hq' with rfl | hq'
    · exact ⟨hq, .head _⟩
    · cases st with
      | none => cases hq'
      | some ls =>
        rw [List.mem_singleton.mp hq']
        exact ⟨hs ls rfl, .tail _ (.head _)⟩
  case ho => k_is
  case hcd => k_is
  case hroom => show dp < _; omega
  case hbind =>
    have Xs := X.keeps (fun b o e => of_hideAll _ e : (hideAll s.heap (lg :: st.toList)).StaysIn s.heap)
    rcases hargs with rfl | ⟨rfl, rfl, rfl⟩
    · refine' binds_K Xs ?d ?o ?s ?h1 ?h2
      case d => exact rfl
      case o => k_is
      case s => exact rfl
      case h1 => exact rfl
      case h2 => exact rfl
    · refine' binds_K Xs ?d ?o ?s ?h1 ?h2
      case d => exact rfl
      case o => k_is
      case s => exact rfl
      case h1 => exact rfl
      case h2 => exact rfl
  case hloc => exact locs rfl
  case c2 => exact rfl
  case c3 => exact rfl
  case c4 => exact rfl
  case c5 => decide
  intro g L' h₁ hg' F N B' X' T' l1
  subst hg'
  try dsimp only
  k_fold
  k_steps
  refine Stop.out (rules_K B' F X' N T' b rfl (by dsimp only; omega) hfl rfl rfl ?_ ?_)
  · intro rs' hx' li h2 tk2 hli F2 N2
    obtain rfl : rs = rs' := Option.some.inj (hx.symm.trans hx')
    clear F N
    k_steps
    (with_reducible rename Fr _ _ _ _ => F3)
    (with_reducible rename News _ _ _ _ => N3)
    rename_i sk h3 l3 D3 h4 l4 h5 h6 h7 h8 h9
    refine Stop.out (loop_run (most := most) (N := stp.length) (Head (hideAll s.heap (lg :: st.toList)) L' sc bd lg sk st Q0 S0 most s) (fun s => WhlRest _ _ _ _ _ _ _ _ _ _ s) (RulesOk (hideAll s.heap (lg :: st.toList))) (fun o' dq => o' = o ∧ dq = stp) ?T run li rs [] [] _ ?head ⟨hli, hg _ _ hx⟩ rfl rfl (by simp) ?back ?fin)
    case fin => intro _; exact ⟨rfl, rfl⟩
    case head =>
      have hsk : ∀ p ∈ (lg, listOf Q0 n1) :: stepsPart st S0 n2, p.1 ≠ sk := fun p hp => by
        rcases List.mem_cons.mp hp with e | hp
        · rw [e]; exact Nat.ne_of_lt l3.1
        · exact Nat.ne_of_lt (allLt_all l3.2 p hp)
      refine head_next (tl := (lg, listOf Q0 n1) :: stepsPart st S0 n2) F3 (News.sub N3 fun p hp => .tail _ hp) ⟨⟨n1, #[], by simp, .nil⟩, fun ls e => ⟨hne ls e, n2, #[], ?_, .nil⟩, .nil, hsk⟩ (Nat.zero_le _) ⟨rfl, rfl, rfl, ⟨_, rfl⟩, ⟨_, rfl⟩, rfl, ⟨_, rfl⟩, rfl⟩
      subst e
      simp [stepsPart]
    case back =>
      intro ho nm li rs' i s' ra hi H
      clear l1 l4 F3 N3 run hx
      obtain ⟨hh, tk, m, stk, nn, tl, rfl, F, N, nt, hfm, loc⟩ := H
      obtain ⟨c1, c2, c3, ⟨tm4, c4⟩, ⟨tc, c5⟩, c6, ⟨ta, c7⟩, c8⟩ := id loc
      obtain ⟨ra, rg⟩ := ra
      obtain rfl : stk = #[] := by
        have h1 := nt.stk.length
        rw [Array.length_toList] at h1
        exact Array.eq_empty_of_size_eq_zero h1
      refine whl_turn (k := 99) ?hE ?_
      case hE => first | passes_own | with_unfolding_all passes_own
      k_steps
      exact chain_end (s := s) hR N nt ⟨ho.symm, List.nil_append _⟩ (moved_fr F) (fun q hq => (N _ (.tail _ hq)).1) fun tl' _ => .back
    case T =>
      clear l1 l4 F3 N3 run hx
      refine ⟨?rule0, ?rule1, ?pop⟩
      case rule0 =>
        intro nm li rs i frs dq s' n H ra hi hN hnext
        obtain ⟨hh, tk, m, stk, nn, tl, rfl, F, N, nt, hfm, loc⟩ := H
        obtain ⟨c1, c2, c3, ⟨tm4, c4⟩, ⟨tc, c5⟩, c6, ⟨ta, c7⟩, c8⟩ := id loc
        obtain ⟨ra, rg⟩ := ra
        have hil : i < rs.length := (List.getElem?_eq_some_iff.mp hi).1
        refine whl_turn (k := 99) ?hE ?_
        case hE => first | passes_own | with_unfolding_all passes_own
        k_steps
        refine Stop.out (say_K (x := stepOf nm i n (none)) B' F X' N T' S (by assumption) nt rfl (by dsimp only; omega) (by omega) rfl rfl ?_)
        intro h11 tk11 tl11 F11 N11 nt11
        clear F N nt
        k_steps
        (with_reducible rename Fr _ _ _ _ => F12)
        (with_reducible rename News _ _ _ _ => N12)
        refine Stop.out (note_K (x := stepOf nm i n (none)) B' F12 X' N12 T' S (by assumption) nt11 rfl (by dsimp only; omega) (by omega) rfl rfl rfl rfl ?_)
        intro h13 tk13 tl13 F13 N13 nt13
        clear F12 N12 nt11
        have hoff := nt13.off
        have hsk : stk.size = frs.length := by rw [← nt13.stk.length, Array.length_toList]
        have hsl : stk.size ≤ sizeLine := by rw [sizeLine_eq]; omega
        k_steps
        (with_reducible rename Fr _ _ _ _ => F14)
        (with_reducible rename News _ _ _ _ => N14)
        exact hnext _ (head_next F14 N14 nt13 hfm ((loc.other (by decide)).at (by omega)))
      case rule1 =>
        intro nm li rs i frs dq s' n kk gg H ra hi hN hnext
        obtain ⟨hh, tk, m, stk, nn, tl, rfl, F, N, nt, hfm, loc⟩ := H
        obtain ⟨c1, c2, c3, ⟨tm4, c4⟩, ⟨tc, c5⟩, c6, ⟨ta, c7⟩, c8⟩ := id loc
        obtain ⟨ra, rg⟩ := ra
        have hil : i < rs.length := (List.getElem?_eq_some_iff.mp hi).1
        refine whl_turn (k := 99) ?hE ?_
        case hE => first | passes_own | with_unfolding_all passes_own
        k_steps
        refine Stop.out (say_K (x := stepOf nm i n (some (kk, gg))) B' F X' N T' S (by assumption) nt rfl (by dsimp only; omega) (by omega) rfl rfl ?_)
        intro h11 tk11 tl11 F11 N11 nt11
        clear F N nt
        k_steps
        (with_reducible rename Fr _ _ _ _ => F12)
        (with_reducible rename News _ _ _ _ => N12)
        refine Stop.out (note_K (x := stepOf nm i n (some (kk, gg))) B' F12 X' N12 T' S (by assumption) nt11 rfl (by dsimp only; omega) (by omega) rfl rfl rfl rfl ?_)
        intro h13 tk13 tl13 F13 N13 nt13
        clear F12 N12 nt11
        have hoff := nt13.off
        have hsk : stk.size = frs.length := by rw [← nt13.stk.length, Array.length_toList]
        have hsl : stk.size ≤ sizeLine := by rw [sizeLine_eq]; omega
        k_steps
        · (with_reducible rename Fr _ _ _ _ => F14)
          (with_reducible rename News _ _ _ _ => N14)
          exact nk_plain hnext (by assumption) _ (head_next F14 (News.sub N14 fun p hp => .tail _ hp) nt13 hfm ((loc.other (by decide)).at (by omega)))
        · (with_reducible rename Fr _ _ _ _ => F14)
          (with_reducible rename News _ _ _ _ => N14)
          exact nk_ret hnext (by assumption) _ (head_next F14 (News.sub N14 fun p hp => .tail _ hp) nt13 hfm ((((loc.other (by decide)).at (j := i + 1) (by omega)).other (by decide)).at rfl))
        · (with_reducible rename Fr _ _ _ _ => F14)
          (with_reducible rename News _ _ _ _ => N14)
          have hd := news_ne N14 (.head _) (.tail _ (.tail _ (.head _))) (by intro q; exact absurd (Value.type.inj q) (by decide))
          have N15 := news_swap2 N14
          refine chain_end (s := s) hR N15 (nt13.grow hd) (nk_full hnext (by assumption) (by assumption)) (moved_fr F14) (fun q hq => (N15 _ (.tail _ hq)).1) fun tl' key => .ended (.new (.tup (key _ _ (.head _) rfl rfl)))
        · (with_reducible rename Fr _ _ _ _ => F14)
          (with_reducible rename News _ _ _ _ => N14)
          have hnx := nk_jump hnext (by assumption) (by assumption)
          refine Stop.out (rules_K B' F14 X' N14 T' b rfl (by dsimp only; omega) (rg _ (List.mem_of_getElem? hi) _ _ rfl) rfl rfl ?_ ?_)
          · intro rs3 hx' li' h15 tk15 hli' F15 N15
            rcases hnx with ⟨hx, _⟩ | ⟨rs', hx, next⟩
            · rw [hx] at hx'; cases hx'
            obtain rfl : rs' = rs3 := Option.some.inj (hx.symm.trans hx')
            clear F14 N14
            k_steps
            (with_reducible rename Fr _ _ _ _ => F16)
            (with_reducible rename News _ _ _ _ => N16)
            have hd := news_ne N16 (.tail _ (.head _)) (.tail _ (.tail _ (.tail _ (.head _)))) (by intro q; exact absurd (Value.type.inj q) (by decide))
            exact next li' _ ⟨hli', hg _ _ hx⟩ (head_next F16 (news_swap3 N16) ((nt13.grow hd).push (.head _) (by omega)) (by rw [List.length_append, List.length_singleton]; omega) ((((((loc.other (by decide)).at (j := i + 1) (by omega)).other (by decide)).at (j := 0) rfl).rules).chain))
          · intro hx' e h' tk' ft
            rcases hnx with ⟨_, hfin⟩ | ⟨rs', hx, _⟩
            · refine leave_onT B' F14 N14 (nt_has N14 (fun p hp => .tail _ (.tail _ (.tail _ (hp)))) nt13) ft fun h2 ft2 hN2 => ?_
              have mv2 := ft2
              obtain ⟨_, _, _, _, _, mv2, _⟩ := mv2
              exact chain_end (s := s) hR (News.sub N14 fun p hp => .tail _ (.tail _ (hp))) nt13 hfin mv2 (fun q hq => hN2 _ (.tail _ (.tail _ (.tail _ (hq))))) fun tl' _ => .fault ft2
            · rw [hx] at hx'; cases hx'
        · (with_reducible rename Fr _ _ _ _ => F14)
          (with_reducible rename News _ _ _ _ => N14)
          have hnx := nk_goto hnext (by assumption)
          refine Stop.out (rules_K B' F14 X' N14 T' b rfl (by dsimp only; omega) (rg _ (List.mem_of_getElem? hi) _ _ rfl) rfl rfl ?_ ?_)
          · intro rs3 hx' li' h15 tk15 hli' F15 N15
            rcases hnx with ⟨hx, _⟩ | ⟨rs', hx, next⟩
            · rw [hx] at hx'; cases hx'
            obtain rfl : rs' = rs3 := Option.some.inj (hx.symm.trans hx')
            clear F14 N14
            k_steps
            (with_reducible rename Fr _ _ _ _ => F16)
            (with_reducible rename News _ _ _ _ => N16)
            exact next li' _ ⟨hli', hg _ _ hx⟩ (head_next F16 (News.sub N16 fun p hp => .tail _ (.tail _ hp)) nt13 hfm ((((((loc.other (by decide)).at (j := i + 1) (by omega)).other (by decide)).at (j := 0) rfl).rules).chain))
          · intro hx' e h' tk' ft
            rcases hnx with ⟨_, hfin⟩ | ⟨rs', hx, _⟩
            · refine leave_onT B' F14 N14 (nt_has N14 (fun p hp => .tail _ (.tail _ (hp))) nt13) ft fun h2 ft2 hN2 => ?_
              have mv2 := ft2
              obtain ⟨_, _, _, _, _, mv2, _⟩ := mv2
              exact chain_end (s := s) hR (News.sub N14 fun p hp => .tail _ (hp)) nt13 hfin mv2 (fun q hq => hN2 _ (.tail _ (.tail _ (hq)))) fun tl' _ => .fault ft2
            · rw [hx] at hx'; cases hx'
        · (with_reducible rename Fr _ _ _ _ => F14)
          (with_reducible rename News _ _ _ _ => N14)
          obtain ⟨rfl, hfin⟩ := nk_end hnext (by assumption) (by assumption) (by assumption) (by assumption)
          refine chain_end (s := s) hR (News.sub N14 fun p hp => .tail _ hp) nt13 hfin (moved_fr F14) (fun q hq => (N14 _ (.tail _ (.tail _ hq))).1) fun tl' _ => .ended (.at (by assumption))
      case pop =>
        intro nm li rs i f frs dq s' H ra hi next
        obtain ⟨hh, tk, m, stk, nn, tl, rfl, F, N, nt, hfm, loc⟩ := H
        obtain ⟨c1, c2, c3, ⟨tm4, c4⟩, ⟨tc, c5⟩, c6, ⟨ta, c7⟩, c8⟩ := id loc
        obtain ⟨ra, rg⟩ := ra
        obtain ⟨l', v, hl', hst, hfr⟩ := all2_snoc_inv nt.stk
        obtain ⟨stk', rfl⟩ : ∃ a : Array Value, l' = a.toList := ⟨l'.toArray, by simp⟩
        have hlen := hst.length
        rw [Array.length_toList] at hlen
        rw [List.length_append, List.length_singleton] at hfm
        cases hfr with
        | @mk D nm2 li2 i2 t1 t3 hD =>
        obtain rfl : stk = stk'.push (.ref D) := by apply Array.toList_inj.mp; rw [hl', Array.toList_push]
        have hoff := cons_ne (nt.off _ hD) (o := tup3 nm2 li2 (i2 : Nat) t1 t3) nt.off
        have ND := News.sub (l' := (sk, _) :: (D, tup3 nm2 li2 (i2 : Nat) t1 t3) :: tl) N (fun p hp => by
          simp only [List.mem_cons] at hp ⊢
          rcases hp with e | e | e
          · exact .inl e
          · rw [e]; exact .inr hD
          · exact .inr e)
        have hsl : (stk'.push (Value.ref D)).size ≤ sizeLine := by rw [Array.size_push, sizeLine_eq]; omega
        clear N
        refine whl_turn (k := 99) ?hE ?_
        case hE => first | passes_own | with_unfolding_all passes_own
        k_steps
        (with_reducible rename Fr _ _ _ _ => F14)
        (with_reducible rename News _ _ _ _ => N14)
        refine Stop.out (kl_pop F14 N14 (p := stk'.toList) (y := .ref D) (by rw [Array.toList_push]; exact kl_last_push) (.head hoff) (by rw [Array.length_toList]; exact hsl) ?_)
        rw [Array.toArray_toList]
        intro h15 F15 N15
        clear F14 N14
        k_steps
        (with_reducible rename Fr _ _ _ _ => F16)
        (with_reducible rename News _ _ _ _ => N16)
        exact next _ (head_next F16 (News.sub N16 (fun p hp => by
          simp only [List.mem_cons] at hp ⊢
          rcases hp with e | e
          · exact .inl e
          · exact .inr (.inr e))) (nt.pop hst) (by omega) (((loc.chain).rules).at rfl))
  · intro hx'; rw [hx] at hx'; cases hx'

end Mine
end

section
open PySem PySem.W PyProof.Rows PySem.Calls PyProof.V
namespace Mine
theorem freshE6 : True := by
  w_top off
  k_with_none
  trivial


theorem linesE6 : True := by
  k_with "call ref" => (k_here; refine Stop.go ?_)
  k_with "eval Name" => (k_here; k_dflt (refine' PyProof.Rows.ld ?k1 ?k2 ?_; (case k1 => k_asm); (case k2 => ((repeat (refine Eq.trans (if_neg (by decide)) ?_)); assumption)); k_whole))
  k_with "loadName" => (k_here; k_dflt (refine' PyProof.Rows.ldn ?k1 ?k2 ?_; (case k1 => k_asm); (case k2 => ((repeat (refine Eq.trans (if_neg (by decide)) ?_)); assumption)); k_whole))
  k_with "call builtin:len" => (k_here; (with_reducible show wpAny _ _ (call (Value.builtin "len") [Value.ref _]) _ _ _); k_dflt (refine' len_rules ?k1 ?k2 ?_; (case k1 => k_asm); (case k2 => k_asm); k_whole))
  k_with "subscriptTail Name" => (k_here; (with_reducible show wpAny _ _ (subscriptTail _ _ (Value.ref _) (Value.int _ _)) _ _ _); k_dflt (refine' item_rules ?k1 ?k2 ?k5 ?k3 ?_ ?k4; (case k1 => k_asm); (case k2 => k_asm); (case k5 => exact rfl); (case k3 => k_asm); (case k4 => with_unfolding_all rfl); k_whole); intro _ _ _ _ vd; have _ := vd; cases vd; (try (have _ := verd_tup (by with_reducible assumption))))
  k_with "call builtin:list.pop" => (refine Stop.go ?_)
  k_with "WhlRest" => (refine Stop.go ?_)
  trivial
set_option maxHeartbeats 8000000 in
theorem chain_miss {w : World} {A : Around} {s : Shared} {base : Heap} {outer : List Env} {p : Program} {loose : List Str} {mean : ExcName → Option Value} {mg mb : Str → Option Value} {R : Result → Shared → Prop}
    {bd sc lg : Addr} {st : Option Addr} {bk : List (Str × List Rule)} {first : Str} {most : Nat} {tf tm : Tok} {Q0 S0 : Array Value} {n1 n2 : Nat} {args : Args}
    (hargs : args = ⟨[.ref sc, .ref bd, .str first tf, .ref 123, .int (most : Nat) tm], []⟩ ∨ (args = ⟨[.ref sc, .ref bd, .str first tf, .ref 123], []⟩ ∧ most = 16 ∧ tm = 309))
    (B : Below A base outer (hideAll s.heap (lg :: st.toList))) (X : (hd.heap_39 w.params).In (hideAll s.heap (lg :: st.toList))) (T : Top p loose mean mg mb (hideAll s.heap (lg :: st.toList))) (hh : A.handled = none) (hroom : A.depth + 20 < recursionLimit)
    (S : SceneAt (hideAll s.heap (lg :: st.toList)) sc lg st) (b : BookAt PySem.Challenge.rw_pq1068_01.row.prog w (hideAll s.heap (lg :: st.toList)) bd bk) (hg : GoalLens bk) (hne : ∀ ls, st = some ls → ls ≠ lg)
    (hq : s.heap.get? lg = some (listOf Q0 n1)) (hs : ∀ ls, st = some ls → s.heap.get? ls = some (listOf S0 n2)) (hfl : first.length ≤ 1000) (hmost : most ≤ 1000)
    (hx : bkAt bk first = none) (hR : ChainRet s outer lg st Q0 S0 [] (.fault first) R) :
    codeAny (model PySem.Challenge.rw_pq1068_01.row.prog w) A (.call (.ref 90) args) R s := by
  obtain ⟨hdl, dp, fr, gd, un⟩ := A
  obtain rfl : hdl = none := hh
  obtain rfl : fr = some outer := B.stack
  replace hroom : dp + 20 < recursionLimit := hroom
  have C := cls64 X
  revert X; k_fill; intro X
  refine' enter (news := (lg, listOf Q0 n1) :: stepsPart st S0 n2) (binds := [(Str.ofString "scene", .ref sc), (Str.ofString "chains", .ref bd), (Str.ofString "first", .str first tf), (Str.ofString "do_rule", .ref 123), (Str.ofString "most", .int (most : Nat) tm)]) B X T ?hN ?ho ?hcd ?hroom ?hbind ?hloc ?h ?c2 ?c3 ?c4 ?c5
  case hN =>
    intro q hq'
    rcases List.mem_cons.mp hq' with rfl | hq'
    · exact ⟨hq, .head _⟩
    · cases st with
      | none => cases hq'
      | some ls =>
        rw [List.mem_singleton.mp hq']
        exact ⟨hs ls rfl, .tail _ (.head _)⟩
  case ho => k_is
  case hcd => k_is
  case hroom => show dp < _; omega
  case hbind =>
    have Xs := X.keeps (fun b o e => of_hideAll _ e : (hideAll s.heap (lg :: st.toList)).StaysIn s.heap)
    rcases hargs with rfl | ⟨rfl, rfl, rfl⟩
    · refine' binds_K Xs ?d ?o ?s ?h1 ?h2
      case d => exact rfl
      case o => k_is
      case s => exact rfl
      case h1 => exact rfl
      case h2 => exact rfl
    · refine' binds_K Xs ?d ?o ?s ?h1 ?h2
      case d => exact rfl
      case o => k_is
      case s => exact rfl
      case h1 => exact rfl
      case h2 => exact rfl
  case hloc => exact locs rfl
  case c2 => exact rfl
  case c3 => exact rfl
  case c4 => exact rfl
  case c5 => decide
  intro g L' h₁ hg' F N B' X' T' l1
  subst hg'
  try dsimp only
  k_fold
  k_steps
  refine Stop.out (rules_K B' F X' N T' b rfl (by dsimp only; omega) hfl rfl rfl ?_ ?_)
  · intro rs' hx'; rw [hx] at hx'; cases hx'
  · intro _ e h' tk' ft
    have hX : ∀ b ∈ lg :: st.toList, ∃ o, h₁.get? b = some o := by
      intro b hb
      rcases List.mem_cons.mp hb with rfl | hb
      · exact ⟨_, (N _ (.head _)).1⟩
      · cases st with
        | none => cases hb
        | some ls => rw [List.mem_singleton.mp hb]; exact ⟨_, (N _ (.tail _ (.head _))).1⟩
    refine leave_onT B' F N hX ft fun h2 ft2 hN2 => ?_
    have mv2 := ft2
    obtain ⟨_, _, _, _, _, mv2, _⟩ := mv2
    refine hR h2 tk' _ [] #[] #[] n1 n2 mv2 (fun _ h => nomatch h) (by simpa using hN2 _ (.head _)) .nil (fun ls e => ?_) (.fault ft2)
    subst e
    exact ⟨by simpa using hN2 _ (.tail _ (.head _)), .nil⟩

end Mine
end

section
open PySem PySem.W PyProof.Rows PySem.Calls PyProof.V
namespace Mine
section
variable {prog : Program} {w : World} {A : Around} {s : Shared} {base : Heap} {outer : List Env} {M : List Addr} {K : Frag} {p : Program} {loose : List Str} {mean : ExcName → Option Value} {mg mb : Str → Option Value}
  {R : Result → Shared → Prop} {name qual : Str} {params : Arguments} {body : List Stmt} {scope : Scope} {dV kV doc pm cdv ct oc : Value} {an od : Option Addr} {osl : Array (Option Value)} {f : Addr} {args : Args} {binds : List (Str × Value)} {news : List (Addr × Obj)}

/-- into a def with cells, the base being all but M -/
theorem enterC (B : Below A base outer (hideAll s.heap M)) (X : K.In (hideAll s.heap M)) (T : Top p loose mean mg mb (hideAll s.heap M))
    (hN : ∀ q ∈ news, s.heap.get? q.1 = some q.2 ∧ q.1 ∈ M)
    (ho : K.lookup f = some ⟨oc, od, .func (fnOf name qual params body scope dV kV doc pm an cdv ct), osl⟩) (hcd : codeIn K cdv qual = true) (hroom : A.depth < recursionLimit)
    (hbind : BindsTo s (fnOf name qual params body scope dV kV doc pm an cdv ct) args binds) (hkind : (binds.all fun y => scope.names.lookup y.1 == some .local || scope.names.lookup y.1 == some .cell) = true)
    (hnd : ((cellsFrom 0 scope.names []).map (·.1)).Nodup)
    (h : ∀ g L' h₁ tk cells, g = hideAll s.heap M → Fr g L' h₁ (bindL (envOfC qual scope L' f cdv).kindOf binds fun _ => none) → News g L' h₁ (cells ++ news) →
      CellsAre (bindC (envOfC qual scope L' f cdv).kindOf binds fun _ => none) (cellsFrom (L' + 1) scope.names []) cells → Below A base outer g → K.In g → Top p loose mean mg mb g → (∀ q ∈ news, q.1 < L') →
      wpAny (model prog w) (A.deeper (envOfC qual scope L' f cdv)) (execs body (envOfC qual scope L' f cdv))
        (fun fl s' => R (.ok (.ret (match fl with | .ret v => v | _ => .none))) s')
        (fun e s' => wpAny (model prog w) (A.deeper (envOfC qual scope L' f cdv)) (leaving (envOfC qual scope L' f cdv) e) (fun _ s'' => R (.error e) s'') (fun e' s'' => R (.error e') s'') s')
        { s with heap := h₁, toks := tk })
    (hco : scope.isCoroutine = false) (hgen : scope.isGenerator = false) (hk : scope.kind = .function) : codeAny (model prog w) A (.call (.ref f) args) R s := by
  have st : (hideAll s.heap M).StaysIn s.heap := fun b o e => of_hideAll M e
  refine codeAny_call_function hroom (st _ _ (X _ _ ho)) rfl hco hgen rfl (codeRec_of (X.keeps st) hcd) (hbind _ _ _ _ ?_)
  refine wpAny_newFunctionEnv_cells hk (kindsX hkind _) fun env' he s' x => ?_
  subst he
  refine ⟨(T.nolimit.keeps st).keeps x.toInCall.keep, codeAny_func ?_⟩
  obtain ⟨h₁, tk, rfl, _⟩ := x.done
  have hk₁ := x.toInCall.keep
  obtain ⟨cells, NC, Y⟩ := Cl.news (h₀ := s.heap) (Nat.le_refl _) fun n c hm => ⟨x.cell n c (lookup_of_mem_nodup (cellsFrom_names scope.names 0 (s.heap.objs.size + 1) [] [] rfl ▸ hnd) hm), x.above n c hm⟩
  refine wpAny_mono (h _ s.heap.objs.size h₁ tk cells rfl ⟨x.toInCall.ns, fun b o e => hk₁ b o (of_hideAll _ e), Nat.le_of_eq (hideAll_size _ _)⟩ (fun q hq => ?_) Y B X T (fun q hq => Heap.lt_size (hN q hq).1)) (fun fl s' hl => hl) fun _ _ y => y
  rcases List.mem_append.mp hq with hq | hq
  · refine ⟨(NC q hq).1, (NC q hq).2.1, ?_⟩
    cases z : (hideAll s.heap M).get? q.1 with
    | none => rfl
    | some o => have := of_hideAll _ z; rw [(NC q hq).2.2] at this; cases this
  · exact ⟨hk₁ _ _ (hN q hq).1, Nat.ne_of_lt (Heap.lt_size (hN q hq).1), hideAll_none _ (hN q hq).2⟩
end

section
variable {prog : Program} {w : World} {A : Around} {E : Value → Shared → Prop} {s : Shared} {env : Env} {h₀ : Heap} {target : PySem.Expr} {body : List Stmt} {Q : Flow → Shared → Prop}

/-- a loop over a range to any target, by what holds between the turns -/
theorem iter_rangeT {r : Addr} {a₀ b₀ : Int} {t₀ u₀ v₀ : Tok} {n : Nat} {m₀ : Str → Option Value} {news : List (Addr × Obj)} (Inv : Nat → (Str → Option Value) → List (Addr × Obj) → Prop)
    (hh : A.handled = none) (hr : IsRange s.heap r a₀ b₀ 1 t₀ u₀ v₀) (hsmall : Builtin.Range.small a₀ b₀ 1 = true) (hn : Builtin.Range.rangeSize a₀ b₀ 1 = (n : Int)) (F : Fr h₀ env.locals s.heap m₀) (N : News h₀ env.locals s.heap news)
    (hgo : ∀ it v, letOwnedTupleGo target it v = pure ()) (h0 : Inv 0 m₀ news)
    (turn : ∀ I i t m₁ news₁ s₁, i < n → Inv i m₁ news₁ → (∀ p ∈ news, p.1 < I) → (∀ p ∈ news₁, p.1 ≠ I) → Fr h₀ env.locals s₁.heap m₁ →
      News h₀ env.locals s₁.heap ((I, itR (a₀ + ((i + 1 : Nat) : Int)) ((n : Int) - ((i + 1 : Nat) : Int))) :: news₁) →
      wpAny (model prog w) A (assign target env (.int (a₀ + (i : Int)) t)) (fun _ s₂ => wpAny (model prog w) A (execs body env)
        (fun f s₃ => f = .next ∧ UnrEnd h₀ env.locals s₁ I (itR (a₀ + ((i + 1 : Nat) : Int)) ((n : Int) - ((i + 1 : Nat) : Int))) (Inv (i + 1)) s₃) E s₂) E s₁)
    (done : ∀ m₁ news₁ h tk, Inv n m₁ news₁ → Fr h₀ env.locals h m₁ → News h₀ env.locals h news₁ → Q .next { s with heap := h, toks := tk }) :
    wpAny (model prog w) A (pyIter (.ref r)) (fun it s₂ => LoopAtT prog w A h₀ env target body Q E it s₂) E s := by
  refine wpAny_pyIter_range hr hsmall ?_
  have hlt : ∀ p ∈ news, p.1 < s.heap.objs.size := fun p hp => Heap.lt_size (N p hp).1
  have W : Walks prog w A s.heap.objs.size [s.heap.objs.size] [s.heap.objs.size] n (fun i v => i < n ∧ ∃ t, v = .int (a₀ + i * 1) t)
      (fun i h => IsRangeIter h s.heap.objs.size (a₀ + (i : Nat) * 1) ((n : Int) - (i : Nat)) 1) := (Walks.range hh _ a₀ 1 n).bound
  have hnew := next_is_new F
  refine ⟨_, _, _, n, _, _, m₀, news, Inv, rfl, W, ?_, ?_, ?_, (by show IsRangeIter _ _ _ _ _; rw [hn]; simpa using Heap.get?_push_size _ rfl), F.push _, (fun p hp => ⟨Heap.get?_push_of_some _ (N p hp).1, (N p hp).2⟩),
    (fun i s' v Q' _ hq => wpAny_of_eq (hgo _ _) hq), h0, ?_, ?_⟩
  · intro hm
    exact absurd F.ns.lt ((List.mem_singleton.mp hm) ▸ Nat.lt_irrefl _)
  · intro b hb
    rw [List.mem_singleton.mp hb]
    exact hnew
  · intro p hp hI
    exact absurd (hlt p hp) ((List.mem_singleton.mp hI) ▸ Nat.lt_irrefl _)
  · intro i v m₁ news₁ s₁ own hi hP hJ hoff hown hget hall hst F₁ N₁
    obtain ⟨_, t, rfl⟩ := hP
    have hst' : s₁.heap.get? s.heap.objs.size = some (itR (a₀ + ((i + 1 : Nat) : Int)) ((n : Int) - ((i + 1 : Nat) : Int))) := by
      have q : IsRangeIter s₁.heap s.heap.objs.size (a₀ + ((i + 1 : Nat) : Int) * 1) ((n : Int) - ((i + 1 : Nat) : Int)) 1 := hst
      rw [Int.mul_one] at q
      exact q
    have hmem := hall s.heap.objs.size (List.mem_singleton.mpr rfl) hnew _ hst'
    have e1 : a₀ + (i : Int) * 1 = a₀ + (i : Int) := by rw [Int.mul_one]
    rw [e1]
    refine wpAny_mono (turn s.heap.objs.size i t m₁ news₁ s₁ hi hJ hlt (fun p hp e => hoff p hp (List.mem_singleton.mpr e)) F₁ fun p hp => ?_) (fun _ s₂ h₂ => wpAny_mono h₂ (fun f s₃ h₃ => ?_) fun _ _ e => e) fun _ _ e => e
    · rcases List.mem_cons.mp hp with rfl | hp
      · exact N₁ _ (List.mem_append_left _ hmem)
      · exact N₁ _ (List.mem_append_right _ hp)
    · obtain ⟨rfl, h', tk, m', news', e, F', N', ho, r⟩ := h₃
      refine ⟨rfl, h', tk, m', news', e, F', fun p hp => ?_, fun p hp hI => ho p hp (List.mem_singleton.mp hI), r⟩
      rcases List.mem_append.mp hp with hp | hp
      · have h1 : p.1 = s.heap.objs.size := List.mem_singleton.mp (hown p hp)
        have h2 := hget p hp
        have h3 : p = (s.heap.objs.size, itR (a₀ + ((i + 1 : Nat) : Int)) ((n : Int) - ((i + 1 : Nat) : Int))) := by
          rw [h1, hst'] at h2
          exact Prod.ext h1 (Option.some.inj h2).symm
        rw [h3]; exact N' _ (List.mem_cons_self ..)
      · exact N' _ (List.mem_cons_of_mem _ hp)
  · intro h' tk m' news' F' N' _ hJ
    exact done _ _ _ _ hJ F' N'
end

end Mine
end

section
open PySem PySem.W PyProof.Rows PySem.Calls PyProof.V
namespace Mine
theorem freshF1 : True := by
  w_top off
  k_with_none
  trivial

inductive LineRules (nxt : Str) : List Rule → Prop
  | mk {n0 n1 n2 n3 : Int} {v1 v2 : Option (Str × Str)} {k : Str} : (v1 = none ∨ v1 = some (Str.ofString "continue", Str.ofString "") ∨ v1 = some (Str.ofString "break", Str.ofString "")) → (k = Str.ofString "goto" ∨ k = Str.ofString "jump") →
      (v2 = none ∨ v2 = some (Str.ofString "continue", Str.ofString "") ∨ v2 = some (Str.ofString "break", Str.ofString "") ∨ v2 = some (Str.ofString "return", Str.ofString "")) →
      LineRules nxt [(n0, v1), (n1, some (k, nxt)), (n2, v2), (n3, none)]

noncomputable def cn (i : Nat) : Str := Str.ofString "c" ++ Str.ofString (toString i)

inductive LineBk : Nat → List (Str × List Rule) → Prop
  | nil : LineBk 0 []
  | snoc {i bk rs} : LineBk i bk → LineRules (cn (i + 1)) rs → LineBk (i + 1) (bk ++ [(cn i, rs)])

noncomputable def EndV (e : Option (Str × Str)) : Prop := e = none ∨ e = some (Str.ofString "return", Str.ofString "") ∨ e = some (Str.ofString "accept", Str.ofString "") ∨ e = some (Str.ofString "continue", Str.ofString "") ∨ e = some (Str.ofString "drop", Str.ofString "")
structure LineBook (bk : List (Str × List Rule)) : Prop where
  is : ∃ K bk0 n e, bk = bk0 ++ [(cn K, [(n, e)])] ∧ LineBk K bk0 ∧ EndV e ∧ 15 ≤ K ∧ K ≤ 18

noncomputable def LineInv (prog : Program) (w : World) (L' bd sl el : Addr) (lk gk tu : Int) (tl tg tt : Tok) (sv : Array Value) (rest0 : List (Addr × Obj)) (i : Nat) (m : Str → Option Value) (l : List (Addr × Obj)) : Prop :=
  ∃ bo oF oP vF vP kvs bk rest, l = (bd, bo) :: (L' + 1 + 1, oF) :: (L' + 1, oP) :: (sl, listOf sv 0) :: rest ∧
    m (Str.ofString "links") = some (.int lk tl) ∧ m (Str.ofString "by_goto") = some (.int gk tg) ∧ m (Str.ofString "turn") = some (.int tu tt) ∧ m (Str.ofString "sayings") = some (.ref sl) ∧ m (Str.ofString "ends") = some (.ref el) ∧ m (Str.ofString "book") = some (.ref bd) ∧
    bo.IsDictOf (strKind prog w) kvs ∧ All2 (ChainIn rest) kvs bk ∧ LineBk i bk ∧ oF.data = .cell vF ∧ oP.data = .cell vP ∧
    (∀ p ∈ rest, p.1 ≠ bd) ∧ (∀ p ∈ rest, p.1 ≠ L' + 1 + 1) ∧ (∀ p ∈ rest, p.1 ≠ L' + 1) ∧ ∀ p ∈ rest0, p ∈ rest

theorem ne_data {h₀ h : Heap} {L b : Addr} {l : List (Addr × Obj)} {p : Addr × Obj} {o' : Obj} (N : News h₀ L h l) (ha : p ∈ l) (hb : (b, o') ∈ l) (hc : p.2.data ≠ o'.data) : p.1 ≠ b := fun e => by
  have h1 := (N _ ha).1
  have h2 := (N _ hb).1
  dsimp only at h2
  rw [e, h2] at h1
  exact hc (congrArg Obj.data (Option.some.inj h1)).symm

theorem ts0 (i : Nat) : toString (0 + (i : Int)) = toString i := by rw [Int.zero_add]; rfl
theorem ts1 (i : Nat) : toString (0 + (i : Int) + 1) = toString (i + 1) := by rw [Int.zero_add]; rfl
theorem cn_inj : ∀ a b : Fin 20, cn a.val = cn b.val → a = b := by decide +kernel
theorem LineBk.len {i : Nat} {bk} (h : LineBk i bk) : bk.length = i := by
  induction h with
  | nil => rfl
  | snoc _ _ ih => rw [List.length_append, ih]; rfl
theorem LineBk.names {i : Nat} {bk} (h : LineBk i bk) : ∀ x ∈ bk, ∃ j, j < i ∧ x.1 = cn j := by
  induction h with
  | nil => intro x hx; cases hx
  | @snoc i _ _ _ _ ih =>
    intro x hx
    rcases List.mem_append.mp hx with hx | hx
    · obtain ⟨j, hj, e⟩ := ih x hx; exact ⟨j, by omega, e⟩
    · rw [List.mem_singleton.mp hx]; exact ⟨i, by omega, rfl⟩
theorem line_new {l : List (Addr × Obj)} {kvs bk} {i : Nat} (h : All2 (ChainIn l) kvs bk) (hb : LineBk i bk) (hi : i < 20) : ∀ kv ∈ kvs, kv.1 ≠ cn i := by
  intro kv hkv e
  obtain ⟨b, hb', r⟩ := h.left kv hkv
  obtain ⟨j, hj, e'⟩ := hb.names b hb'
  rw [r.name, e'] at e
  have := congrArg Fin.val (cn_inj ⟨j, by omega⟩ ⟨i, hi⟩ e)
  simp at this; omega
theorem verd3 {rest : List (Addr × Obj)} {a b : Addr} {v : Value} {x y : Option (Str × Str)} (h : v = .none ∨ v = .ref a ∨ v = .ref b) (ha : VerdIn rest (.ref a) x) (hb : VerdIn rest (.ref b) y) : ∃ d, VerdIn rest v d ∧ (d = none ∨ d = x ∨ d = y) := by
  rcases h with rfl | rfl | rfl
  · exact ⟨none, .none, .inl rfl⟩
  · exact ⟨x, ha, .inr (.inl rfl)⟩
  · exact ⟨y, hb, .inr (.inr rfl)⟩
theorem verd4 {rest : List (Addr × Obj)} {a b c : Addr} {v : Value} {x y z : Option (Str × Str)} (h : v = .none ∨ v = .ref a ∨ v = .ref b ∨ v = .ref c) (ha : VerdIn rest (.ref a) x) (hb : VerdIn rest (.ref b) y) (hc : VerdIn rest (.ref c) z) : ∃ d, VerdIn rest v d ∧ (d = none ∨ d = x ∨ d = y ∨ d = z) := by
  rcases h with rfl | rfl | rfl | rfl
  · exact ⟨none, .none, .inl rfl⟩
  · exact ⟨x, ha, .inr (.inl rfl)⟩
  · exact ⟨y, hb, .inr (.inr (.inl rfl))⟩
  · exact ⟨z, hc, .inr (.inr (.inr rfl))⟩

theorem verd5 {rest : List (Addr × Obj)} {a b c d : Addr} {v : Value} {x y z u : Option (Str × Str)} (h : v = .none ∨ v = .ref a ∨ v = .ref b ∨ v = .ref c ∨ v = .ref d) (ha : VerdIn rest (.ref a) x) (hb : VerdIn rest (.ref b) y) (hc : VerdIn rest (.ref c) z) (hd : VerdIn rest (.ref d) u) :
    ∃ d, VerdIn rest v d ∧ (d = none ∨ d = x ∨ d = y ∨ d = z ∨ d = u) := by
  rcases h with rfl | rfl | rfl | rfl | rfl
  · exact ⟨none, .none, .inl rfl⟩
  · exact ⟨x, ha, .inr (.inl rfl)⟩
  · exact ⟨y, hb, .inr (.inr (.inl rfl))⟩
  · exact ⟨z, hc, .inr (.inr (.inr (.inl rfl)))⟩
  · exact ⟨u, hd, .inr (.inr (.inr (.inr rfl)))⟩

theorem chain_without {h₀ h : Heap} {L pl ls : Addr} {l rest : List (Addr × Obj)} {at' c : Int} {t1 t2 : Tok} {n : Nat} {a : Str × Value} {b : Str × List Rule} (N : News h₀ L h l) (hs : ∀ p ∈ rest, p ∈ l) (hpen : (pl, penObj ls at' c t1 t2 n) ∈ rest) (x : ChainIn rest a b) : ChainIn (without rest pl) a b := by
  have key : ∀ q o, (q, o) ∈ rest → o.cls = .type "tuple" → (q, o) ∈ without rest pl := fun q o hq hc => mem_without.mpr ⟨hq, fun e => by
    have h1 := (N _ (hs _ hq)).1
    have h2 := (N _ (hs _ hpen)).1
    have e' : q = pl := e
    dsimp only at h1 h2
    rw [e', h2] at h1
    rw [← Option.some.inj h1] at hc
    exact absurd (Value.type.inj hc) (by decide)⟩
  have kv : ∀ v d, VerdIn rest v d → VerdIn (without rest pl) v d := fun v d y => by
    cases y with
    | none => exact .none
    | tup hm => exact .tup (key _ _ hm rfl)
  have kr : ∀ v d, RuleIn rest v d → RuleIn (without rest pl) v d := fun v d y => by
    cases y with
    | mk hm hv => exact .mk (key _ _ hm rfl) (kv _ _ hv)
  obtain ⟨li, its, n', e, hm, r⟩ := x.rules
  refine ⟨x.name, ⟨li, its, n', e, mem_without.mpr ⟨hm, fun e => ?_⟩, r.imp kr⟩, x.len⟩
  have h1 := (N _ (hs _ hm)).1
  have h2 := (N _ (hs _ hpen)).1
  have e' : li = pl := e
  dsimp only at h1 h2
  rw [e', h2] at h1
  have h3 : Data.seq [Value.ref ls, .int at' t1, .int c t2].toArray n = Data.seq its n' := congrArg Obj.data (Option.some.inj h1)
  injection h3 with h3 _
  rw [← h3] at r
  generalize b.2 = bl at r
  cases r with
  | cons _ r2 => cases r2 with | cons y _ => cases y

theorem comp_end {h₀ h' : Heap} {L I C D T : Addr} {m : Str → Option Value} {s₁ : Shared} {oI oC oD oT : Obj} {S : List (Addr × Obj) → Prop} {rest : Value → List (Addr × Obj) → Prop} {y : Value} {tk : Nat} {news : List (Addr × Obj)}
    (F : Fr h₀ L h' m) (N : News h₀ L h' ((T, oT) :: (I, oI) :: (C, oC) :: (D, oD) :: news)) (off : LCg.Off3 I C D news) (l : @Ne Nat T I ∧ @Ne Nat T C ∧ @Ne Nat T D) (hS : S ((T, oT) :: news)) (r : rest y ((T, oT) :: news)) :
    LCg.CompEnd h₀ L m s₁ I oI C oC D oD S rest y { s₁ with heap := h', toks := tk } :=
  LCg.CompEnd.intro F N _ (by (repeat (refine sub_cons (by k_mem) ?_)); (repeat (first | exact fun _ h => h | refine sub_skip ?_))) (by unfold LCg.Off3; exact ⟨l, off⟩) hS r

section
variable {prog : Program} {w : World} {A : Around} {s : Shared} {Q : Value → Shared → Prop} {E : Value → Shared → Prop} {value slice : PySem.Expr} {l : Addr} {i : Int} {u : Tok} {a b c d e : Value} {h₀ : Heap} {L : Addr} {news : List (Addr × Obj)} {n : Nat}
theorem sub_list {items : Array Value} {k : Int} {v : Value} (N : News h₀ L s.heap news) (hm : (l, listOf items n) ∈ news) (h0 : 0 ≤ k) (h1 : k < 2 ^ 30) (e : items[k.toNat]? = some v) (h : Q v s)
    (hs : subscripted slice false (.ref l) (.int k u) = operate [.ref l, .int k u] (getItem (.ref l) (.int k u)) := by with_unfolding_all rfl) :
    wpAny (model prog w) A (subscriptTail value slice (.ref l) (.int k u)) Q E s := by
  have hl : s.heap.IsList l items := ⟨_, (N _ hm).1, rfl, n, rfl⟩
  refine tail_any hl.typeIs slot_list_getitem.lookup (wpAny_getItem_list hl (by omega) (by omega) (x := v) (by simpa using e) h) hs
theorem sub3 (N : News h₀ L s.heap news) (hm : (l, listOf #[a, b, c, d] n) ∈ news) (h : ∀ v, (v = a ∨ v = b ∨ v = c) → Q v s)
    (hs : subscripted slice false (.ref l) (.int (i.fmod 3) u) = operate [.ref l, .int (i.fmod 3) u] (getItem (.ref l) (.int (i.fmod 3) u)) := by with_unfolding_all rfl) :
    wpAny (model prog w) A (subscriptTail value slice (.ref l) (.int (i.fmod 3) u)) Q E s := by
  have h1 := Int.fmod_nonneg_of_pos i (b := 3) (by omega)
  have h2 := Int.fmod_lt_of_pos i (b := 3) (by omega)
  have e : i.fmod 3 = 0 ∨ i.fmod 3 = 1 ∨ i.fmod 3 = 2 := by omega
  rcases e with e | e | e <;> rw [e] at hs ⊢
  · exact sub_list N hm (by decide) (by decide) rfl (h a (.inl rfl)) hs
  · exact sub_list N hm (by decide) (by decide) rfl (h b (.inr (.inl rfl))) hs
  · exact sub_list N hm (by decide) (by decide) rfl (h c (.inr (.inr rfl))) hs
theorem sub4 (N : News h₀ L s.heap news) (hm : (l, listOf #[a, b, c, d] n) ∈ news) (h : ∀ v, (v = a ∨ v = b ∨ v = c ∨ v = d) → Q v s)
    (hs : subscripted slice false (.ref l) (.int (i.fmod 4) u) = operate [.ref l, .int (i.fmod 4) u] (getItem (.ref l) (.int (i.fmod 4) u)) := by with_unfolding_all rfl) :
    wpAny (model prog w) A (subscriptTail value slice (.ref l) (.int (i.fmod 4) u)) Q E s := by
  have h1 := Int.fmod_nonneg_of_pos i (b := 4) (by omega)
  have h2 := Int.fmod_lt_of_pos i (b := 4) (by omega)
  have e : i.fmod 4 = 0 ∨ i.fmod 4 = 1 ∨ i.fmod 4 = 2 ∨ i.fmod 4 = 3 := by omega
  rcases e with e | e | e | e <;> rw [e] at hs ⊢
  · exact sub_list N hm (by decide) (by decide) rfl (h a (.inl rfl)) hs
  · exact sub_list N hm (by decide) (by decide) rfl (h b (.inr (.inl rfl))) hs
  · exact sub_list N hm (by decide) (by decide) rfl (h c (.inr (.inr (.inl rfl)))) hs
  · exact sub_list N hm (by decide) (by decide) rfl (h d (.inr (.inr (.inr rfl)))) hs
theorem sub5 (N : News h₀ L s.heap news) (hm : (l, listOf #[a, b, c, d, e] n) ∈ news) (h : ∀ v, (v = a ∨ v = b ∨ v = c ∨ v = d ∨ v = e) → Q v s)
    (hs : subscripted slice false (.ref l) (.int (i.fmod 5) u) = operate [.ref l, .int (i.fmod 5) u] (getItem (.ref l) (.int (i.fmod 5) u)) := by with_unfolding_all rfl) :
    wpAny (model prog w) A (subscriptTail value slice (.ref l) (.int (i.fmod 5) u)) Q E s := by
  have h1 := Int.fmod_nonneg_of_pos i (b := 5) (by omega)
  have h2 := Int.fmod_lt_of_pos i (b := 5) (by omega)
  have e : i.fmod 5 = 0 ∨ i.fmod 5 = 1 ∨ i.fmod 5 = 2 ∨ i.fmod 5 = 3 ∨ i.fmod 5 = 4 := by omega
  rcases e with e | e | e | e | e <;> rw [e] at hs ⊢
  · exact sub_list N hm (by decide) (by decide) rfl (h _ (.inl rfl)) hs
  · exact sub_list N hm (by decide) (by decide) rfl (h _ (.inr (.inl rfl))) hs
  · exact sub_list N hm (by decide) (by decide) rfl (h _ (.inr (.inr (.inl rfl)))) hs
  · exact sub_list N hm (by decide) (by decide) rfl (h _ (.inr (.inr (.inr (.inl rfl))))) hs
  · exact sub_list N hm (by decide) (by decide) rfl (h _ (.inr (.inr (.inr (.inr rfl))))) hs
end

theorem line_next {prog : Program} {w : World} {h₀ h' : Heap} {L L' I bd sl el LD T5 T6 T7 T8 fl W1 : Addr} {s₁ : Shared} {it bo2 oF2 oP2 ofl : Obj} {m₁ : Str → Option Value} {tk i : Nat} {lk gk tu n5 n6 n7 n8 : Int} {tl tg tt t5 t6 t7 t8 u1 u2 : Tok} {sv : Array Value} {rest0 rest : List (Addr × Obj)}
    {kvs bk} {kk key nxt : Str} {v3 v4 vF vP : Value} {d3 d4 : Option (Str × Str)}
    (F9 : Fr h₀ L h' fun y => if y = Str.ofString "way" then some (.ref W1) else m₁ y)
    (N9 : News h₀ L h' ((LD, LCg.lst [.ref T5, .ref T6, .ref T7, .ref T8]) :: (T8, tupRule n8 t8 .none) :: (T7, tupRule n7 t7 v4) :: (T6, tupRule n6 t6 (.ref W1)) :: (T5, tupRule n5 t5 v3) :: (fl, ofl) :: (W1, tup2 kk nxt u1 u2) :: (I, it) :: (bd, bo2) :: (L' + 1 + 1, oF2) :: (L' + 1, oP2) :: (sl, listOf sv 0) :: rest))
    (hkey : key = cn i) (hnxt : nxt = cn (i + 1)) (hi : i < 20) (hkk : kk = Str.ofString "goto" ∨ kk = Str.ofString "jump")
    (hm1 : m₁ (Str.ofString "links") = some (.int lk tl)) (hm2 : m₁ (Str.ofString "by_goto") = some (.int gk tg)) (hm3 : m₁ (Str.ofString "turn") = some (.int tu tt)) (hm4 : m₁ (Str.ofString "sayings") = some (.ref sl)) (hm5 : m₁ (Str.ofString "ends") = some (.ref el)) (hm6 : m₁ (Str.ofString "book") = some (.ref bd))
    (hbo : bo2.IsDictOf (strKind prog w) (stored kvs key (.ref LD))) (hch : All2 (ChainIn rest) kvs bk) (hbk : LineBk i bk) (hdF : oF2.data = .cell (some vF)) (hdP : oP2.data = .cell (some vP))
    (hd3 : VerdIn rest v3 d3) (hp3 : d3 = none ∨ d3 = some (Str.ofString "continue", Str.ofString "") ∨ d3 = some (Str.ofString "break", Str.ofString ""))
    (hd4 : VerdIn rest v4 d4) (hp4 : d4 = none ∨ d4 = some (Str.ofString "continue", Str.ofString "") ∨ d4 = some (Str.ofString "break", Str.ofString "") ∨ d4 = some (Str.ofString "return", Str.ofString ""))
    (hr1 : ∀ p ∈ rest, p.1 ≠ bd) (hr2 : ∀ p ∈ rest, p.1 ≠ L' + 1 + 1) (hr3 : ∀ p ∈ rest, p.1 ≠ L' + 1) (hr4 : ∀ p ∈ rest, p.1 ≠ I) (hr0 : ∀ p ∈ rest0, p ∈ rest)
    (e5 : @Ne Nat T5 bd ∧ @Ne Nat T5 (L' + 1 + 1) ∧ @Ne Nat T5 (L' + 1) ∧ @Ne Nat T5 I) (e6 : @Ne Nat T6 bd ∧ @Ne Nat T6 (L' + 1 + 1) ∧ @Ne Nat T6 (L' + 1) ∧ @Ne Nat T6 I) (e7 : @Ne Nat T7 bd ∧ @Ne Nat T7 (L' + 1 + 1) ∧ @Ne Nat T7 (L' + 1) ∧ @Ne Nat T7 I)
    (e8 : @Ne Nat T8 bd ∧ @Ne Nat T8 (L' + 1 + 1) ∧ @Ne Nat T8 (L' + 1) ∧ @Ne Nat T8 I) (eW : @Ne Nat W1 bd ∧ @Ne Nat W1 (L' + 1 + 1) ∧ @Ne Nat W1 (L' + 1) ∧ @Ne Nat W1 I) (eD : @Ne Nat LD bd ∧ @Ne Nat LD (L' + 1 + 1) ∧ @Ne Nat LD (L' + 1) ∧ @Ne Nat LD I)
    (c1 : @Ne Nat bd I) (c2 : @Ne Nat (L' + 1 + 1) I) (c3 : @Ne Nat (L' + 1) I) (c4 : @Ne Nat sl I) :
    UnrEnd h₀ L s₁ I it (LineInv prog w L' bd sl el lk gk tu tl tg tt sv rest0 (i + 1)) { s₁ with heap := h', toks := tk } := by
  subst hkey hnxt
  have sub : ∀ p ∈ rest, p ∈ (LD, LCg.lst [.ref T5, .ref T6, .ref T7, .ref T8]) :: (T5, tupRule n5 t5 v3) :: (T6, tupRule n6 t6 (.ref W1)) :: (T7, tupRule n7 t7 v4) :: (T8, tupRule n8 t8 .none) :: (W1, tup2 kk (cn (i + 1)) u1 u2) :: rest := fun p hp => .tail _ (.tail _ (.tail _ (.tail _ (.tail _ (.tail _ hp)))))
  refine UnrEnd.intro F9 N9 ((bd, bo2) :: (L' + 1 + 1, oF2) :: (L' + 1, oP2) :: (sl, listOf sv 0) :: (LD, LCg.lst [.ref T5, .ref T6, .ref T7, .ref T8]) :: (T5, tupRule n5 t5 v3) :: (T6, tupRule n6 t6 (.ref W1)) :: (T7, tupRule n7 t7 v4) :: (T8, tupRule n8 t8 .none) :: (W1, tup2 kk (cn (i + 1)) u1 u2) :: rest) ?_ ?_ ?_
  · (repeat (refine sub_cons (by k_mem) ?_)); (repeat (first | exact fun _ h => h | refine sub_skip ?_))
  · exact cons_ne c1 (cons_ne c2 (cons_ne c3 (cons_ne c4 (cons_ne eD.2.2.2 (cons_ne e5.2.2.2 (cons_ne e6.2.2.2 (cons_ne e7.2.2.2 (cons_ne e8.2.2.2 (cons_ne eW.2.2.2 hr4)))))))))
  · rw [stored_new (line_new hch hbk hi)] at hbo
    refine ⟨bo2, oF2, oP2, _, _, _, bk ++ [(cn i, [(n5, d3), (n6, some (kk, cn (i + 1))), (n7, d4), (n8, none)])], _, rfl, (if_neg (by decide)).trans hm1, (if_neg (by decide)).trans hm2, (if_neg (by decide)).trans hm3, (if_neg (by decide)).trans hm4, (if_neg (by decide)).trans hm5, (if_neg (by decide)).trans hm6, hbo,
      (hch.imp fun _ _ x => x.mono sub).snoc ⟨rfl, ⟨LD, _, _, rfl, .head _, ?_⟩, by simp⟩, .snoc hbk (.mk hp3 hkk hp4), hdF, hdP,
      cons_ne eD.1 (cons_ne e5.1 (cons_ne e6.1 (cons_ne e7.1 (cons_ne e8.1 (cons_ne eW.1 hr1))))), cons_ne eD.2.1 (cons_ne e5.2.1 (cons_ne e6.2.1 (cons_ne e7.2.1 (cons_ne e8.2.1 (cons_ne eW.2.1 hr2))))),
      cons_ne eD.2.2.1 (cons_ne e5.2.2.1 (cons_ne e6.2.2.1 (cons_ne e7.2.2.1 (cons_ne e8.2.2.1 (cons_ne eW.2.2.1 hr3))))), fun p hp => sub p (hr0 p hp)⟩
    exact .cons (.mk (.tail _ (.head _)) (hd3.mono sub)) (.cons (.mk (.tail _ (.tail _ (.head _))) (.tup (.tail _ (.tail _ (.tail _ (.tail _ (.tail _ (.head _)))))))) (.cons (.mk (.tail _ (.tail _ (.tail _ (.head _)))) (hd4.mono sub)) (.cons (.mk (.tail _ (.tail _ (.tail _ (.tail _ (.head _))))) .none) .nil)))

theorem linesF1 : True := by
  k_with "call ref" => (k_here; (with_reducible show wpAny _ _ (call (Value.ref 97) _) _ _ _); k_dflt (refine' next_K ?k1 ?k2 ?k3 ?k4 ?k5 ?k6 ?k7 ?k8 ?k9 ?k10 ?k11 ?k12 ?k13 ?k14 ?_; (case k13 => exact rfl); (case k14 => exact rfl); (case k1 => k_asm); (case k2 => k_asm); (case k3 => k_asm); (case k4 => k_asm); (case k5 => k_asm); (case k6 => k_asm); (case k7 => k_updF); (case k8 => ((try dsimp only); omega)); (case k9 => omega); (case k10 => omega); (case k11 => assumption); (case k12 => assumption); k_whole); intro _ _ _ _ _ _ _ N'; (try dsimp only at N'); revert N'; intro _; (try k_sweep))
  trivial
theorem ite_kind {c : Prop} [Decidable c] {M : Model} {A : Around} {Q E : Value → Shared → Prop} {s : Shared} {env : Env} {a b : Str} {k1 k2 : Tok} {p1 p2 : Pos} (h : ∀ kk t, (kk = a ∨ kk = b) → Q (.str kk t) { s with toks := s.toks + 1 }) :
    if c then wpAny M A (eval (.Constant (.str a) k1 p1) env) Q E s else wpAny M A (eval (.Constant (.str b) k2 p2) env) Q E s := by
  split
  · exact Constant_str (h _ _ (.inl rfl))
  · exact Constant_str (h _ _ (.inr rfl))





theorem linesF1b : True := by
  k_with "ite" => (refine ite_kind ?_; intro _ _ _)
  k_with "exec For Name Call cons nil" => (k_here; refine Stop.go ?_)
  k_with "pyIter ref" => ((with_reducible show wpAny _ _ (pyIter (Value.ref _)) (fun it s₂ => LoopAtT _ _ _ _ _ _ _ _ _ it s₂) _ _); refine Stop.go ?_)
  k_with "eval Name" => (k_here; k_dflt (refine' nameX_L ?k41 ?k42 ?_ ?k43 ?k44; (case k41 => k_asm); (case k43 => rfl); (case k44 => rfl); (case k42 => ((repeat (refine Eq.trans (if_neg (by decide)) ?_)); assumption)); k_whole))
  k_with "subscriptTail Name BinOp ref int" => (k_here; (with_reducible show wpAny _ _ (subscriptTail _ _ (Value.ref _) (Value.int (Int.fmod _ 3) _)) _ _ _); k_dflt (refine' sub3 ?k1 ?k2 ?_ ?k3; (case k1 => k_asm); (case k2 => k_mem); (case k3 => with_unfolding_all rfl); k_whole); intro _ _)
  k_with "subscriptTail Name BinOp ref int" => (k_here; (with_reducible show wpAny _ _ (subscriptTail _ _ (Value.ref _) (Value.int (Int.fmod _ 4) _)) _ _ _); k_dflt (refine' sub4 ?k1 ?k2 ?_ ?k3; (case k1 => k_asm); (case k2 => k_mem); (case k3 => with_unfolding_all rfl); k_whole); intro _ _)
  k_with "eval ListComp" => (k_here; k_dflt (refine LCg.ListComp_U (F₀ := by k_asm) (by with_unfolding_all rfl) (by decide) (by rfl) (by decide) (by rfl) ?_); k_dflt lcg_toSrc)
  k_with "CompSrc" => (k_here; k_dflt (refine LCg.CompSrc.range (by rfl) (by k_asm) (by k_asm) (by assumption) (by first | decide | rfl) (by first | rfl | decide) (by first | size_fits | exact Nat.le_of_ble_eq_true rfl) ?_; intro _; lcg_lit))
  k_with "CompRest" => (refine Stop.go ?_)
  k_with "CompEnd" => (refine Stop.go ?_)
  k_with "subscriptTail Name BinOp ref int" => (k_here; (with_reducible show wpAny _ _ (subscriptTail _ _ (Value.ref _) (Value.int (Int.fmod _ 5) _)) _ _ _); refine Stop.go ?_)
  k_with "subscriptTail Name Name ref int" => (k_here; k_dflt (refine' sub_list ?k1 ?k2 ?k4 ?k5 ?k6 ?_ ?k3; (case k1 => k_asm); (case k2 => k_mem); (case k4 => decide); (case k5 => decide); (case k6 => exact rfl); (case k3 => with_unfolding_all rfl); k_whole))
  k_with "setItem ref str" => (refine Stop.go ?_)
  trivial
set_option maxHeartbeats 8000000 in
theorem line_ok {w : World} {A : Around} {s : Shared} {base : Heap} {outer : List Env} {p : Program} {loose : List Str} {mean : ExcName → Option Value} {mg mb : Str → Option Value} {R : Result → Shared → Prop}
    {pl ls : Addr} {at' c : Int} {t1 t2 : Tok} {n : Nat} {vs : List Value} {ns : List Int}
    (B : Below A base outer (hideAll s.heap [pl])) (X : (hd.heap_39 w.params).In (hideAll s.heap [pl])) (T : Top p loose mean mg mb (hideAll s.heap [pl])) (P : PenOk (hideAll s.heap [pl]) ls vs ns)
    (hroom : A.depth + 20 < recursionLimit) (hh : A.handled = none)
    (hp : s.heap.get? pl = some (penObj ls at' c t1 t2 n)) (h0 : 0 ≤ at') (h1 : at' ≤ 50) (hc0 : 0 ≤ c) (hc1 : c < 65521)
    (hR : ∀ h' tk' bd at'' t1' n' bk tl, Keeps [pl] s.heap h' → h'.get? pl = some (penObj ls at'' c t1' t2 n') → at' ≤ at'' → at'' ≤ at' + 3 → (∀ q ∈ tl, h'.get? q.1 = some q.2 ∧ s.heap.get? q.1 = none) →
      BookIn PySem.Challenge.rw_pq1068_01.row.prog w tl bd bk → LineBook bk → R (.ok (.ret (.ref bd))) { s with heap := h', toks := tk' }) :
    codeAny (model PySem.Challenge.rw_pq1068_01.row.prog w) A (.call (.ref 116) ⟨[.ref pl], []⟩) R s := by
  obtain ⟨hdl, dp, fr, gd, un⟩ := A
  obtain rfl : hdl = none := hh
  obtain rfl : fr = some outer := B.stack
  replace hroom : dp + 20 < recursionLimit := hroom
  revert X; k_fill; intro X
  refine' enterC (news := [(pl, penObj ls at' c t1 t2 n)]) (binds := [(Str.ofString "pen", .ref pl)]) B X T ?hN ?ho ?hcd ?hroom ?hbind ?hkind ?hnd ?h ?c2 ?c3 ?c4
  case hN => intro q hq; simp only [List.mem_singleton] at hq; subst hq; exact ⟨hp, by simp⟩
  case ho => k_is
  case hcd => k_is
  case hroom => show dp < _; omega
  case hbind => exact BindsTo.of_eq rfl
  case hkind => exact rfl
  case hnd => decide +kernel
  case c2 => exact rfl
  case c3 => exact rfl
  case c4 => exact rfl
  intro g L' h₁ tk0 cells hg F N Y B' X' T' l1
  subst hg
  k_cells Y
  rename_i oF oP dF dP
  (try simp only [List.cons_append, List.nil_append] at N)
  show wpAny _ _ _ _ _ _
  k_fold
  have l2 : @LT.lt Nat _ pl L' := l1 _ (.head _)
  k_steps
  (with_reducible rename Fr _ _ _ _ => F0)
  (with_reducible rename News _ _ _ _ => N0)
  refine Stop.out (For_invTF F0 ?_ (fun _ => rfl) ?hE)
  case hE => first | passes_own | with_unfolding_all passes_own
  k_steps
  rename_i hA1 tA1 iL tA2 tA3 nA1 hA2 tA4 iG tA5 tA6 nA2 hA3 tA7 iT tA8 tpen npen D7 hA4 lA10 hA5 hA6 hA7 hA8 tB2 D6 hB1 lA9 D5 hB2 lA8 D4 hB3 lA7 sl hB4 lA6 hB5 tB1 D3 hB6 lA5 D2 hB7 lA4 D1 hB8 lA3 D0 hB9 lA2 el hC1 lA1 hC2 bd hC3 bo0 lo hs fs hi fi lA0 hC4 FB NB hR0 tR uR1 uR2 uR3 hr FR NR ah
  obtain ⟨K, hK1, hK2, hKe⟩ : ∃ K : Nat, 15 ≤ K ∧ K ≤ 18 ∧ 15 + iL.fmod 4 = (K : Int) := by
    have h1 := Int.fmod_nonneg_of_pos iL (b := 4) (by omega)
    have h2 := Int.fmod_lt_of_pos iL (b := 4) (by omega)
    exact ⟨(15 + iL.fmod 4).toNat, by omega, by omega, by omega⟩
  rw [hKe] at hr FR
  obtain ⟨gk, hg1, hg2, hge⟩ : ∃ g : Int, 0 ≤ g ∧ g < 24 ∧ iG.fmod 24 = g := ⟨_, Int.fmod_nonneg_of_pos iG (by omega), Int.fmod_lt_of_pos iG (by omega), rfl⟩
  obtain ⟨tu, ht1, ht2, hte⟩ : ∃ g : Int, 0 ≤ g ∧ g < 60 ∧ iT.fmod 60 = g := ⟨_, Int.fmod_nonneg_of_pos iT (by omega), Int.fmod_lt_of_pos iT (by omega), rfl⟩
  rw [hge, hte] at FR
  clear FB NB ah
  obtain ⟨rest0, hre⟩ : ∃ r : List (Addr × Obj), r = [(el, listOf #[.none, .ref D3, .ref D2, .ref D1, .ref D0] 0), (D0, tup2 (Str.ofString "drop") (Str.ofString "") (tB1 + 1 + 1 + 1 + 1 + 1 + 1) (tB1 + 1 + 1 + 1 + 1 + 1 + 1 + 1)), (D1, tup2 (Str.ofString "continue") (Str.ofString "") (tB1 + 1 + 1 + 1 + 1) (tB1 + 1 + 1 + 1 + 1 + 1)),
      (D2, tup2 (Str.ofString "accept") (Str.ofString "") (tB1 + 1 + 1) (tB1 + 1 + 1 + 1)), (D3, tup2 (Str.ofString "return") (Str.ofString "") tB1 (tB1 + 1)), (D4, tup2 (Str.ofString "return") (Str.ofString "") (tB2 + 1 + 1 + 1 + 1) (tB2 + 1 + 1 + 1 + 1 + 1)),
      (D5, tup2 (Str.ofString "break") (Str.ofString "") (tB2 + 1 + 1) (tB2 + 1 + 1 + 1)), (D6, tup2 (Str.ofString "continue") (Str.ofString "") tB2 (tB2 + 1)), (pl, penObj ls (at' + 1 + 1 + 1) c tpen t2 npen)] := ⟨_, rfl⟩
  have N1 : News (hideAll s.heap [pl]) L' hR0 ((bd, bo0) :: (L' + 1 + 1, oF) :: (L' + 1, oP) :: (sl, listOf #[.none, .ref D6, .ref D5, .ref D4] 0) :: rest0) := by
    rw [hre]; exact News.sub NR (SubL.mem (by k_subL))
  have hD6 : VerdIn rest0 (.ref D6) (some (Str.ofString "continue", Str.ofString "")) := by rw [hre]; exact .tup (t1 := tB2) (t2 := tB2 + 1) (by k_mem)
  have hD5 : VerdIn rest0 (.ref D5) (some (Str.ofString "break", Str.ofString "")) := by rw [hre]; exact .tup (t1 := tB2 + 1 + 1) (t2 := tB2 + 1 + 1 + 1) (by k_mem)
  have hD4 : VerdIn rest0 (.ref D4) (some (Str.ofString "return", Str.ofString "")) := by rw [hre]; exact .tup (t1 := tB2 + 1 + 1 + 1 + 1) (t2 := tB2 + 1 + 1 + 1 + 1 + 1) (by k_mem)
  have hel : (el, listOf #[.none, .ref D3, .ref D2, .ref D1, .ref D0] 0) ∈ rest0 := by rw [hre]; exact .head _
  have hpen : (pl, penObj ls (at' + 1 + 1 + 1) c tpen t2 npen) ∈ rest0 := by rw [hre]; k_mem
  have hD3 : VerdIn rest0 (.ref D3) (some (Str.ofString "return", Str.ofString "")) := by rw [hre]; exact .tup (t1 := tB1) (t2 := tB1 + 1) (by k_mem)
  have hD2 : VerdIn rest0 (.ref D2) (some (Str.ofString "accept", Str.ofString "")) := by rw [hre]; exact .tup (t1 := tB1 + 1 + 1) (t2 := tB1 + 1 + 1 + 1) (by k_mem)
  have hD1 : VerdIn rest0 (.ref D1) (some (Str.ofString "continue", Str.ofString "")) := by rw [hre]; exact .tup (t1 := tB1 + 1 + 1 + 1 + 1) (t2 := tB1 + 1 + 1 + 1 + 1 + 1) (by k_mem)
  have hD0 : VerdIn rest0 (.ref D0) (some (Str.ofString "drop", Str.ofString "")) := by rw [hre]; exact .tup (t1 := tB1 + 1 + 1 + 1 + 1 + 1 + 1) (t2 := tB1 + 1 + 1 + 1 + 1 + 1 + 1 + 1) (by k_mem)
  obtain ⟨z1, z2, z3, z4, z5, z6, z7, z8, z9, z10, z11, z12, z13⟩ := lA0
  have q1 : ∀ p ∈ rest0, p.1 ≠ bd := by
    rw [hre]
    exact AllNe.all (AllNe.of_lt ⟨z1, z2, z3, z4, z5, z7, z8, z9, z13, trivial⟩)
  have hseq : ∀ p ∈ rest0, ∃ a n, p.2.data = .seq a n := by
    rw [hre]
    intro p hp
    simp only [List.mem_cons, List.not_mem_nil, or_false] at hp
    rcases hp with rfl | rfl | rfl | rfl | rfl | rfl | rfl | rfl | rfl <;> exact ⟨_, _, rfl⟩
  have q2 : ∀ p ∈ rest0, p.1 ≠ L' + 1 + 1 := fun p hp => by
    obtain ⟨a, n, e⟩ := hseq p hp
    exact ne_data N1 (.tail _ (.tail _ (.tail _ (.tail _ hp)))) (.tail _ (.head _)) (by rw [e, dF]; intro q; cases q)
  have q3 : ∀ p ∈ rest0, p.1 ≠ L' + 1 := fun p hp => by
    obtain ⟨a, n, e⟩ := hseq p hp
    exact ne_data N1 (.tail _ (.tail _ (.tail _ (.tail _ hp)))) (.tail _ (.tail _ (.head _))) (by rw [e, dP]; intro q; cases q)
  have y1 : @LT.lt Nat _ (L' + 1 + 1) bd := z11
  have y4 : @LT.lt Nat _ pl bd := z13
  have y2 : @LT.lt Nat _ sl bd := z6
  have y3 : @LT.lt Nat _ (L' + 1 + 1) sl := by omega
  clear z1 z2 z3 z4 z5 z6 z7 z8 z9 z10 z11 z12 z13 lA1 lA2 lA3 lA4 lA5 lA6 lA7 lA8 lA9 lA10
  refine Stop.out (iter_rangeT (n := K) (LineInv PySem.Challenge.rw_pq1068_01.row.prog w L' bd sl el K gk tu (tA1 + 1 + 1) (tA4 + 1) (tA7 + 1) #[.none, .ref D6, .ref D5, .ref D4] rest0) rfl hr ?sm ?sz FR N1 (fun _ _ => rfl) ?start ?turn ?done)
  case sm => exact small_one (by omega) (by omega) (by omega) (by omega)
  case sz => rw [rangeSize_nat]; omega
  case start =>
    exact ⟨bo0, oF, oP, _, _, [], [], rest0, rfl, rfl, rfl, rfl, rfl, rfl, rfl, hs, .nil, .nil, dF, dP, q1, q2, q3, fun _ h => h⟩
  case done =>
    clear hr NR N1 FR hs hi fs fi
    intro m₁ news₁ h9 tk9 hInv F N
    obtain ⟨bo, oF', oP', vF, vP, kvs, bk, rest, rfl, hm1, hm2, hm3, hm4, hm5, hm6, hbo, hch, hbk, hdF, hdP, hr1, hr2, hr3, hr0⟩ := hInv
    have hkl : kvs.length ≤ sizeLine := by rw [hch.length, hbk.len, sizeLine_eq]; omega
    dsimp only
    k_steps
    (with_reducible rename Fr _ _ _ _ => F5)
    (with_reducible rename News _ _ _ _ => N5)
    refine Stop.out (sub5 N5 (.tail _ (.tail _ (.tail _ (.tail _ (hr0 _ hel))))) ?_)
    intro v5 hv5
    obtain ⟨d5, hd5, hp5⟩ := verd5 hv5 (hD3.mono hr0) (hD2.mono hr0) (hD1.mono hr0) (hD0.mono hr0)
    k_steps
    rename_i T9 g40 lT LD g41 FL NL lL g42 g43 aL
    refine Stop.out (kda_set (knd := PySem.strKind _ _) FL NL (.tail (Nat.ne_of_gt lL.2.1) (.tail (Nat.ne_of_gt lT.1) (.head (cons_ne (Nat.ne_of_lt y1) (cons_ne (by omega) (cons_ne (Nat.ne_of_lt y2) hr1)))))) hbo (strKind_is _ _ _ _) hkl ?_)
    intro h30 bo2 F30 N30 hbo2
    (try dsimp only at N30)
    clear FL NL
    k_steps
    have hkey : Str.ofString "c" ++ Str.ofString (toString (K : Int)) = cn K := rfl
    rw [hkey, stored_new (line_new hch hbk (by omega))] at hbo2
    have hsub : ∀ p ∈ without rest pl, p ∈ (bd, bo2) :: (LD, listOf #[.ref T9] 0) :: (T9, tupRule 99 tk9 v5) :: without rest pl := fun p hp => .tail _ (.tail _ (.tail _ hp))
    have hin : ∀ p ∈ rest, p ∈ (LD, listOf #[.ref T9] 0) :: (T9, tupRule 99 tk9 v5) :: (bd, bo2) :: (L' + 1 + 1, oF') :: (L' + 1, oP') :: (sl, listOf #[.none, .ref D6, .ref D5, .ref D4] 0) :: rest := fun p hp => .tail _ (.tail _ (.tail _ (.tail _ (.tail _ (.tail _ hp)))))
    have hv5' : VerdIn (without rest pl) v5 d5 := by
      cases hd5 with
      | none => exact .none
      | tup hm =>
        refine .tup (mem_without.mpr ⟨hm, fun e => ?_⟩)
        have h1 := (N30 _ (hin _ hm)).1
        have h2 := (N30 _ (hin _ (hr0 _ hpen))).1
        dsimp only at h1 h2 e
        rw [e, h2] at h1
        exact absurd (Value.type.inj (congrArg Obj.cls (Option.some.inj h1))) (by decide)
    refine hR _ _ bd (at' + 1 + 1 + 1) tpen npen (bk ++ [(cn K, [(99, d5)])]) ((bd, bo2) :: (LD, listOf #[.ref T9] 0) :: (T9, tupRule 99 tk9 v5) :: without rest pl) (Keeps.of_fr F30) (News.get N30 (hin _ (hr0 _ hpen))) (by omega) (by omega) ?_
      ⟨bo2, _, .head _, hbo2, (hch.imp fun _ _ x => (chain_without N30 hin (hr0 _ hpen) x).mono hsub).snoc ⟨rfl, ⟨LD, _, _, rfl, .tail _ (.head _), .cons (.mk (.tail _ (.tail _ (.head _))) (hv5'.mono hsub)) .nil⟩, by simp⟩, lo⟩ ⟨K, bk, 99, d5, rfl, hbk, hp5, hK1, hK2⟩
    refine fresh1 (News.sub N30 ?_) (cons_ne (Nat.ne_of_gt y4) (cons_ne ?_ (cons_ne ?_ fun p hp => (mem_without.mp hp).2)))
    · intro p hp
      simp only [List.mem_cons] at hp ⊢
      rcases hp with e | e | e | e
      · simp [e]
      · simp [e]
      · simp [e]
      · exact .inr (.inr (.inr (.inr (.inr (.inr (mem_without.mp e).1)))))
    · exact Nat.ne_of_gt (Nat.lt_trans y4 lL.2.1)
    · exact Nat.ne_of_gt (Nat.lt_trans y4 lT.1)
  case turn =>
    clear hr NR N1 FR hs hi fs fi
    intro I i t m₁ news₁ s₁ hi hInv hI hoff F N
    obtain ⟨bo, oF', oP', vF, vP, kvs, bk, rest, rfl, hm1, hm2, hm3, hm4, hm5, hm6, hbo, hch, hbk, hdF, hdP, hr1, hr2, hr3, hr0⟩ := hInv
    k_fold
    replace hI := allLt_of hI
    simp only [AllLt, and_true] at hI
    have hr4 : ∀ p ∈ rest, p.1 ≠ I := fun p hp => hoff p (.tail _ (.tail _ (.tail _ (.tail _ hp))))
    clear hoff
    have hkl : kvs.length ≤ sizeLine := by rw [hch.length, hbk.len, sizeLine_eq]; omega
    k_steps
    all_goals
      rename_i g1 oP2 dP2 kk tkk hkk tW g3 g4 W1 g5 lW g6 g7 v3 hv3 v4 hv4 fl g8 lF g9 oF2 g10 g11 dF2 g12 g13 g14 g15 g16 g17 g18 g19 g20 g21
      have bW : @Ne Nat W1 bd ∧ @Ne Nat W1 (L' + 1 + 1) ∧ @Ne Nat W1 (L' + 1) ∧ @Ne Nat W1 I := ⟨Nat.ne_of_gt lW.2.1, Nat.ne_of_gt lW.2.2.1, Nat.ne_of_gt lW.2.2.2.1, Nat.ne_of_gt lW.1⟩
      obtain ⟨d3, hd3, hp3⟩ := verd3 hv3 (hD6.mono hr0) (hD5.mono hr0)
      obtain ⟨d4, hd4, hp4⟩ := verd4 hv4 (hD6.mono hr0) (hD5.mono hr0) (hD4.mono hr0)
      clear g17 g18 g19 g20 g10 g11 hv3 hv4
      refine Stop.out (LCg.CompRest.succ ?_)
      intro v5' I5 oI5 C5 oC5 D5x m5 h5x tk5 E5 hv5' hC5 hx5 F5x N5x off5 ne5
      have off50 := off5
      simp only [LCg.Off3, and_true] at off5
      obtain ⟨t95, hv95⟩ := hv5'
      subst hv95
      k_steps
      rename_i T5 hh5 FF5 NN5 ll5
      refine Stop.out (comp_end (oT := tupRule _ _ v3) FF5 NN5 off50 ⟨Nat.ne_of_gt ll5.1, Nat.ne_of_gt ll5.2.1, Nat.ne_of_gt ll5.2.2.1⟩ trivial ?_)
      have bT5 : @Ne Nat T5 bd ∧ @Ne Nat T5 (L' + 1 + 1) ∧ @Ne Nat T5 (L' + 1) ∧ @Ne Nat T5 I := ⟨Nat.ne_of_gt ll5.2.2.2.2.2.2.1, Nat.ne_of_gt ll5.2.2.2.2.2.2.2.1, Nat.ne_of_gt ll5.2.2.2.2.2.2.2.2.1, Nat.ne_of_gt ll5.2.2.2.2.2.1⟩
      clear FF5 NN5 off50 off5 ne5 hC5 hx5 ll5
      intro v6' I6 oI6 C6 oC6 D6x m6 h6x tk6 E6 hv6' hC6 hx6 F6x N6x off6 ne6
      have off60 := off6
      simp only [LCg.Off3, and_true] at off6
      obtain ⟨t96, hv96⟩ := hv6'
      subst hv96
      k_steps
      rename_i T6 hh6 FF6 NN6 ll6
      refine Stop.out (comp_end (oT := tupRule _ _ (.ref W1)) FF6 NN6 off60 ⟨Nat.ne_of_gt ll6.1, Nat.ne_of_gt ll6.2.1, Nat.ne_of_gt ll6.2.2.1⟩ trivial ?_)
      have bT6 : @Ne Nat T6 bd ∧ @Ne Nat T6 (L' + 1 + 1) ∧ @Ne Nat T6 (L' + 1) ∧ @Ne Nat T6 I := ⟨Nat.ne_of_gt ll6.2.2.2.2.2.2.2.1, Nat.ne_of_gt ll6.2.2.2.2.2.2.2.2.1, Nat.ne_of_gt ll6.2.2.2.2.2.2.2.2.2.1, Nat.ne_of_gt ll6.2.2.2.2.2.2.1⟩
      clear FF6 NN6 off60 off6 ne6 hC6 hx6 ll6
      intro v7' I7 oI7 C7 oC7 D7x m7 h7x tk7 E7 hv7' hC7 hx7 F7x N7x off7 ne7
      have off70 := off7
      simp only [LCg.Off3, and_true] at off7
      obtain ⟨t97, hv97⟩ := hv7'
      subst hv97
      k_steps
      rename_i T7 hh7 FF7 NN7 ll7
      refine Stop.out (comp_end (oT := tupRule _ _ v4) FF7 NN7 off70 ⟨Nat.ne_of_gt ll7.1, Nat.ne_of_gt ll7.2.1, Nat.ne_of_gt ll7.2.2.1⟩ trivial ?_)
      have bT7 : @Ne Nat T7 bd ∧ @Ne Nat T7 (L' + 1 + 1) ∧ @Ne Nat T7 (L' + 1) ∧ @Ne Nat T7 I := ⟨Nat.ne_of_gt ll7.2.2.2.2.2.2.2.2.1, Nat.ne_of_gt ll7.2.2.2.2.2.2.2.2.2.1, Nat.ne_of_gt ll7.2.2.2.2.2.2.2.2.2.2.1, Nat.ne_of_gt ll7.2.2.2.2.2.2.2.1⟩
      clear FF7 NN7 off70 off7 ne7 hC7 hx7 ll7
      intro v8' I8 oI8 C8 oC8 D8x m8 h8x tk8 E8 hv8' hC8 hx8 F8x N8x off8 ne8
      have off80 := off8
      simp only [LCg.Off3, and_true] at off8
      obtain ⟨t98, hv98⟩ := hv8'
      subst hv98
      k_steps
      rename_i T8 hh8 FF8 NN8 ll8
      refine Stop.out (comp_end (oT := tupRule _ _ .none) FF8 NN8 off80 ⟨Nat.ne_of_gt ll8.1, Nat.ne_of_gt ll8.2.1, Nat.ne_of_gt ll8.2.2.1⟩ trivial ?_)
      have bT8 : @Ne Nat T8 bd ∧ @Ne Nat T8 (L' + 1 + 1) ∧ @Ne Nat T8 (L' + 1) ∧ @Ne Nat T8 I := ⟨Nat.ne_of_gt ll8.2.2.2.2.2.2.2.2.2.1, Nat.ne_of_gt ll8.2.2.2.2.2.2.2.2.2.2.1, Nat.ne_of_gt ll8.2.2.2.2.2.2.2.2.2.2.2.1, Nat.ne_of_gt ll8.2.2.2.2.2.2.2.2.1⟩
      clear FF8 NN8 off80 off8 ne8 hC8 hx8 ll8
      first | refine LCg.CompRest.zero ?_ | (k_steps; refine Stop.out (LCg.CompRest.zero ?_))
      k_steps
      rename_i LD g30 g31 FL NL oL tL kL aL
      have eD : @Ne Nat LD bd ∧ @Ne Nat LD (L' + 1 + 1) ∧ @Ne Nat LD (L' + 1) ∧ @Ne Nat LD I := ⟨Ne.symm oL.2.2.2.2.2.2.2.1, Ne.symm oL.2.2.2.2.2.2.2.2.1, Ne.symm oL.2.2.2.2.2.2.2.2.2.1, Ne.symm oL.2.2.2.2.2.2.1⟩
      clear oL aL
      refine Stop.out (kda_set (knd := PySem.strKind _ _) FL NL (.tail eD.1 (.tail bT8.1 (.tail bT7.1 (.tail bT6.1 (.tail bT5.1 (.tail (Nat.ne_of_gt lF.2.2.1) (.tail bW.1 (.tail (Nat.ne_of_gt hI.1) (.head (cons_ne (Nat.ne_of_lt y1) (cons_ne (by omega) (cons_ne (Nat.ne_of_lt y2) hr1)))))))))))) hbo (strKind_is _ _ _ _) hkl ?_)
      intro h30 bo2 F30 N30 hbo2
      (try dsimp only at N30)
      clear FL NL
      k_steps
      exact line_next F30 N30 (by rw [ts0]; rfl) (by rw [ts1]; rfl) (by omega) hkk hm1 hm2 hm3 hm4 hm5 hm6 hbo2 hch hbk dF2 dP2 hd3 hp3 hd4 hp4 hr1 hr2 hr3 hr4 hr0 bT5 bT6 bT7 bT8 bW eD (Nat.ne_of_lt hI.1) (Nat.ne_of_lt hI.2.1) (Nat.ne_of_lt hI.2.2.1) (Nat.ne_of_lt hI.2.2.2.1)

end Mine
end

section
open PySem PySem.W PyProof.Rows PySem.Calls PyProof.V
namespace Mine
theorem Run.mono {bk : List (Str × List Rule)} {most : Nat} {name : Str} {i : Nat} {rs : List Rule} {w : Nat} {st : List Step} {o : Out} {d : Nat} (h : Run bk most name i rs w st o d) : ∀ {d' : Nat}, d ≤ d' → Run bk most name i rs w st o d' := by
  induction h with
  | done => intro d' _; exact .done
  | none _ ih => intro d' h; exact .none (ih h)
  | brk _ ih => intro d' h; exact .brk (ih h)
  | cont _ ih => intro d' h; exact .cont (ih h)
  | ret => intro d' _; exact .ret
  | acc => intro d' _; exact .acc
  | drop => intro d' _; exact .drop
  | gotoMiss hx =>
    intro d' h
    obtain ⟨e, rfl⟩ : ∃ e, d' = e + 1 := ⟨d' - 1, by omega⟩
    exact .gotoMiss hx
  | goto hx _ ih =>
    intro d' h
    obtain ⟨e, rfl⟩ : ∃ e, d' = e + 1 := ⟨d' - 1, by omega⟩
    exact .goto hx (ih (by omega))
  | full hw => intro d' _; exact .full hw
  | jumpMiss hw hx =>
    intro d' h
    obtain ⟨e, rfl⟩ : ∃ e, d' = e + 1 := ⟨d' - 1, by omega⟩
    exact .jumpMiss hw hx
  | jumpOut hw hx _ hno ih =>
    intro d' h
    obtain ⟨e, rfl⟩ : ∃ e, d' = e + 1 := ⟨d' - 1, by omega⟩
    exact .jumpOut hw hx (ih (by omega)) hno
  | jumpBack hw hx _ _ ih1 ih2 =>
    intro d' h
    obtain ⟨e, rfl⟩ : ∃ e, d' = e + 1 := ⟨d' - 1, by omega⟩
    exact .jumpBack hw hx (ih1 (by omega)) (ih2 h)

theorem bkAt_snoc {bk : List (Str × List Rule)} {n x : Str} {rs : List Rule} : bkAt (bk ++ [(n, rs)]) x = (bkAt bk x).or (if n = x then some rs else none) := by
  unfold bkAt
  rw [List.find?_append]
  cases h : List.find? (fun kv => decide (kv.1 = x)) bk with
  | some y => rfl
  | none =>
    rw [Option.none_or, List.find?_cons]
    by_cases e : n = x <;> simp [e]

theorem bk_char {i : Nat} {bk : List (Str × List Rule)} (h : BkOk i bk) : ∀ x, bkAt bk x = none ∨ ∃ p, p < i ∧ x = nameOf p ∧ ∃ rs, bkAt bk x = some rs ∧ rs.length ≤ 3 ∧ ∀ r ∈ rs, SaidOk (p : Nat) r.2 := by
  induction h with
  | nil => intro x; exact .inl rfl
  | @snoc i bk rs _ hl hs ih =>
    intro x
    rw [bkAt_snoc]
    rcases ih x with e | ⟨p, hp, hx, rs', e, h1, h2⟩
    · rw [e, Option.none_or]
      by_cases hn : nameOf i = x
      · rw [if_pos hn]
        exact .inr ⟨i, by omega, hn.symm, rs, rfl, hl, hs⟩
      · rw [if_neg hn]; exact .inl rfl
    · rw [e]
      exact .inr ⟨p, by omega, hx, rs', rfl, h1, h2⟩

noncomputable def bnd : Nat → Nat
  | 0 => 0
  | k + 1 => 12 + 12 * bnd k

theorem e_none {bk : List (Str × List Rule)} (hb : BkOk 4 bk) : bkAt bk (Str.ofString "e") = none := by
  rcases bk_char hb (Str.ofString "e") with h | ⟨p, hp, hx, _⟩
  · exact h
  · have : ∀ p : Fin 4, Str.ofString "e" ≠ nameOf p.val := by decide
    exact absurd hx (this ⟨p, hp⟩)

theorem later {bk : List (Str × List Rule)} (hb : BkOk 4 bk) {p : Nat} {g : Str} (hg : GotoOk (p : Nat) g) : bkAt bk g = none ∨ ∃ p', p < p' ∧ p' < 4 ∧ ∃ rs, bkAt bk g = some rs ∧ rs.length ≤ 3 ∧ ∀ r ∈ rs, SaidOk (p' : Nat) r.2 := by
  rcases bk_char hb g with h | ⟨q, hq, hx, rs, e, h1, h2⟩
  · exact .inl h
  · have inj : ∀ j k : Fin 4, nameOf j.val = nameOf k.val → j = k := nameOf_inj
    rcases hg.is with hg | ⟨hp, hg⟩ | ⟨hp, hg⟩ | ⟨hp, hg⟩
    · rw [hg] at e; rw [e_none hb] at e; cases e
    · have := congrArg Fin.val (inj ⟨1, by omega⟩ ⟨q, hq⟩ ((show nameOf 1 = Str.ofString "b" from rfl).trans (hg.symm.trans hx)))
      simp only at this
      exact .inr ⟨q, by omega, hq, rs, e, h1, h2⟩
    · have := congrArg Fin.val (inj ⟨2, by omega⟩ ⟨q, hq⟩ ((show nameOf 2 = Str.ofString "c" from rfl).trans (hg.symm.trans hx)))
      simp only at this
      exact .inr ⟨q, by omega, hq, rs, e, h1, h2⟩
    · have := congrArg Fin.val (inj ⟨3, by omega⟩ ⟨q, hq⟩ ((show nameOf 3 = Str.ofString "d" from rfl).trans (hg.symm.trans hx)))
      simp only at this
      exact .inr ⟨q, by omega, hq, rs, e, h1, h2⟩

theorem bCons {a L J Y : Nat} (h : a ≤ L * (1 + J) + Y) : a + 1 ≤ (L + 1) * (1 + J) + Y := by rw [Nat.succ_mul]; omega
theorem bOne {L J Y : Nat} : 1 ≤ (L + 1) * (1 + J) + Y := by rw [Nat.succ_mul]; omega
theorem bJump {a b L J Y : Nat} (ha : a ≤ J) (hb : b ≤ L * (1 + J) + Y) : a + b + 1 ≤ (L + 1) * (1 + J) + Y := by rw [Nat.succ_mul]; omega
theorem bOut {a L J Y : Nat} (ha : a ≤ J) : a + 1 ≤ (L + 1) * (1 + J) + Y := by rw [Nat.succ_mul]; omega
theorem bGoto {a L J l q q' : Nat} (ha : a ≤ l * (1 + J) + q' * (3 + 3 * J)) (hl : l ≤ 3) (hq : q' < q) : a + 1 ≤ (L + 1) * (1 + J) + q * (3 + 3 * J) := by
  have a1 := Nat.mul_le_mul_right (1 + J) hl
  have a2 : (q' + 1) * (3 + 3 * J) ≤ q * (3 + 3 * J) := Nat.mul_le_mul_right _ hq
  rw [Nat.succ_mul] at a2 ⊢; omega
theorem bAll {a J l q : Nat} (ha : a ≤ l * (1 + J) + q * (3 + 3 * J)) (hl : l ≤ 3) (hq : q ≤ 3) : a ≤ 12 + 12 * J := by
  have a1 := Nat.mul_le_mul_right (1 + J) hl
  have a2 := Nat.mul_le_mul_right (3 + 3 * J) hq
  omega
theorem pq1 {p q p' : Nat} (h : p + q = 3) (hp : p < p') (h4 : p' < 4) : p' + (3 - p') = 3 ∧ 3 - p' < q := by omega

theorem level {bk : List (Str × List Rule)} (hb : BkOk 4 bk) {most w J D : Nat}
    (hj : w < most → ∀ g, bkAt bk g = none ∨ ∃ rs st o, bkAt bk g = some rs ∧ Run bk most g 0 rs (w + 1) st o D ∧ st.length ≤ J) :
    ∀ q p, p + q = 3 → ∀ rest name i, rest.length ≤ 3 → (∀ r ∈ rest, SaidOk (p : Nat) r.2) →
    ∃ st o, Run bk most name i rest w st o (D + q + 1) ∧ st.length ≤ rest.length * (1 + J) + q * (3 + 3 * J) := by
  intro q
  induction q using Nat.strongRecOn with
  | ind q ihq =>
  intro p hp rest
  induction rest with
  | nil => intro name i _ _; exact ⟨[], .back, .done, Nat.zero_le _⟩
  | cons r rest ih =>
    intro name i hl hs
    obtain ⟨n, v⟩ := r
    obtain ⟨st, o, run, hz⟩ := ih name (i + 1) (Nat.le_of_succ_le hl) fun r hr => hs r (.tail _ hr)
    have hv : SaidOk (p : Nat) v := hs (n, v) (.head _)
    clear hs ih
    cases hv with
    | none => exact ⟨_, _, .none run, bCons hz⟩
    | plain hk =>
      simp only [plainKinds, List.mem_cons, List.not_mem_nil, or_false] at hk
      rcases hk with rfl | rfl | rfl | rfl | rfl
      · exact ⟨_, _, .cont run, bCons hz⟩
      · exact ⟨_, _, .ret, bOne⟩
      · exact ⟨_, _, .brk run, bCons hz⟩
      · exact ⟨_, _, .acc, bOne⟩
      · exact ⟨_, _, .drop, bOne⟩
    | @jump g _ =>
      rcases Nat.lt_or_ge w most with hw | hw
      · rcases hj hw g with hx | ⟨rs, st2, o2, hx, run2, hz2⟩
        · exact ⟨_, _, .jumpMiss (d := D + q) hw hx, bOne⟩
        · have run3 := run2.mono (Nat.le_add_right D q)
          by_cases ho : o2 = .back
          · subst ho
            refine ⟨_, _, .jumpBack hw hx run3 run, ?_⟩
            rw [List.length_cons, List.length_append]; exact bJump hz2 hz
          · exact ⟨_, _, .jumpOut hw hx run3 ho, bOut hz2⟩
      · exact ⟨_, _, .full hw, bOne⟩
    | goto hg =>
      rcases later hb hg with hx | ⟨p', h1, h2, rs, hx, h3, h4⟩
      · exact ⟨_, _, .gotoMiss (d := D + q) hx, bOne⟩
      · obtain ⟨e1, e2⟩ := pq1 hp h1 h2
        obtain ⟨st2, o2, run2, hz2⟩ := ihq (3 - p') e2 p' e1 rs _ 0 h3 h4
        exact ⟨_, _, .goto hx (run2.mono (Nat.add_le_add_left e2 D)), bGoto hz2 h3 e2⟩

theorem book_run {bk : List (Str × List Rule)} (hb : BkOk 4 bk) {most : Nat} : ∀ k w, w + k = most → ∀ g, bkAt bk g = none ∨ ∃ rs st o, bkAt bk g = some rs ∧ Run bk most g 0 rs w st o (4 * (k + 1)) ∧ st.length ≤ bnd (k + 1) := by
  have up : ∀ k w, (w < most → ∀ g, bkAt bk g = none ∨ ∃ rs st o, bkAt bk g = some rs ∧ Run bk most g 0 rs (w + 1) st o (4 * k) ∧ st.length ≤ bnd k) → ∀ g, bkAt bk g = none ∨ ∃ rs st o, bkAt bk g = some rs ∧ Run bk most g 0 rs w st o (4 * (k + 1)) ∧ st.length ≤ bnd (k + 1) := by
    intro k w hj g
    rcases bk_char hb g with h | ⟨p, hp, _, rs, hx, h1, h2⟩
    · exact .inl h
    · obtain ⟨st, o, run, hz⟩ := level hb hj (3 - p) p (by omega) rs g 0 h1 h2
      exact .inr ⟨rs, st, o, hx, run.mono (by omega), bAll hz h1 (by omega)⟩
  intro k
  induction k with
  | zero => intro w hw; exact up 0 w fun h => absurd h (by omega)
  | succ k ih => intro w hw; exact up (k + 1) w fun _ => ih (w + 1) (by omega)

theorem book_whole {bk : List (Str × List Rule)} (hb : BkOk 4 bk) {most : Nat} (hm : most ≤ 3) (first : Str) : bkAt bk first = none ∨ ∃ rs st o d, bkAt bk first = some rs ∧ Run bk most first 0 rs 0 st o d ∧ d ≤ 40 ∧ st.length ≤ 500000 := by
  rcases book_run hb most 0 (Nat.zero_add _) first with h | ⟨rs, st, o, hx, run, hz⟩
  · exact .inl h
  · refine .inr ⟨rs, st, o, _, hx, run, by omega, Nat.le_trans hz ?_⟩
    have : ∀ m : Fin 4, bnd (m.val + 1) ≤ 500000 := by decide
    exact this ⟨most, by omega⟩

theorem book_goals {bk : List (Str × List Rule)} (hb : BkOk 4 bk) : GoalLens bk := by
  intro x rs hx r hr k g hk
  rcases bk_char hb x with h | ⟨p, _, _, rs', e, _, h2⟩
  · rw [h] at hx; cases hx
  · rw [e] at hx; cases hx
    have := h2 r hr
    rw [hk] at this
    cases this with
    | plain _ => decide
    | jump h =>
      have : ∀ g ∈ goals5, g.length ≤ 1000 := by decide
      exact this g h
    | goto hg =>
      rcases hg.is with h | ⟨_, h⟩ | ⟨_, h⟩ | ⟨_, h⟩ <;> (rw [h]; decide)

end Mine
end

section
open PySem PySem.W PyProof.Rows PySem.Calls PyProof.V
namespace Mine
theorem line_char {i : Nat} {bk : List (Str × List Rule)} (h : LineBk i bk) (hi : i ≤ 19) : (∀ x, bkAt bk x = none ∨ ∃ j, j < i ∧ x = cn j ∧ ∃ rs, bkAt bk x = some rs ∧ LineRules (cn (j + 1)) rs) ∧ ∀ j, j < i → ∃ rs, bkAt bk (cn j) = some rs ∧ LineRules (cn (j + 1)) rs := by
  induction h with
  | nil => exact ⟨fun x => .inl rfl, fun j hj => absurd hj (Nat.not_lt_zero j)⟩
  | @snoc i bk rs _ hl ih =>
    obtain ⟨h1, h2⟩ := ih (by omega)
    refine ⟨fun x => ?_, fun j hj => ?_⟩
    · rw [bkAt_snoc]
      rcases h1 x with e | ⟨j, hj, hx, rs', e, hr⟩
      · rw [e, Option.none_or]
        by_cases hn : cn i = x
        · rw [if_pos hn]; exact .inr ⟨i, by omega, hn.symm, rs, rfl, hl⟩
        · rw [if_neg hn]; exact .inl rfl
      · rw [e]; exact .inr ⟨j, by omega, hx, rs', rfl, hr⟩
    · rw [bkAt_snoc]
      by_cases hji : j < i
      · obtain ⟨rs', e, hr⟩ := h2 j hji
        rw [e]; exact ⟨rs', rfl, hr⟩
      · obtain rfl : j = i := by omega
        rcases h1 (cn j) with e | ⟨j', hj', hx, _⟩
        · rw [e, Option.none_or, if_pos rfl]; exact ⟨rs, rfl, hl⟩
        · have := congrArg Fin.val (cn_inj ⟨j, by omega⟩ ⟨j', by omega⟩ hx)
          simp only at this; omega

theorem tail_run {bk : List (Str × List Rule)} {most : Nat} {name : Str} {i w d : Nat} {n2 n3 : Int} {v2 : Option (Str × Str)}
    (h : v2 = none ∨ v2 = some (Str.ofString "continue", Str.ofString "") ∨ v2 = some (Str.ofString "break", Str.ofString "") ∨ v2 = some (Str.ofString "return", Str.ofString "")) : ∃ st, Run bk most name i [(n2, v2), (n3, none)] w st .back d ∧ st.length ≤ 2 := by
  rcases h with rfl | rfl | rfl | rfl
  · exact ⟨_, .none (.none .done), by simp⟩
  · exact ⟨_, .cont (.none .done), by simp⟩
  · exact ⟨_, .brk (.none .done), by simp⟩
  · exact ⟨_, .ret, by simp⟩

theorem line_run {bk : List (Str × List Rule)} {K : Nat} {n : Int} {e : Option (Str × Str)} (hlast : bkAt bk (cn K) = some [(n, e)]) (he : EndV e) (hall : ∀ j, j < K → ∃ rs, bkAt bk (cn j) = some rs ∧ LineRules (cn (j + 1)) rs) :
    ∀ m j w, j + m = K → ∃ rs st o, bkAt bk (cn j) = some rs ∧ Run bk 16 (cn j) 0 rs w st o m ∧ st.length ≤ 4 * m + 1 := by
  intro m
  induction m with
  | zero =>
    intro j w hj
    obtain rfl : j = K := by omega
    refine ⟨[(n, e)], ?_⟩
    rcases he with rfl | rfl | rfl | rfl | rfl
    · exact ⟨_, _, hlast, .none .done, by simp⟩
    · exact ⟨_, _, hlast, .ret, by simp⟩
    · exact ⟨_, _, hlast, .acc, by simp⟩
    · exact ⟨_, _, hlast, .cont .done, by simp⟩
    · exact ⟨_, _, hlast, .drop, by simp⟩
  | succ m ih =>
    intro j w hj
    obtain ⟨rs, hx, hr⟩ := hall j (by omega)
    cases hr with
    | @mk n0 n1 n2 n3 v1 v2 k h1 hk h2 =>
      have way : ∃ st o, Run bk 16 (cn j) 1 [(n1, some (k, cn (j + 1))), (n2, v2), (n3, none)] w st o (m + 1) ∧ st.length ≤ 4 * m + 4 := by
        rcases hk with rfl | rfl
        · obtain ⟨rs2, st2, o2, hx2, run2, hz⟩ := ih (j + 1) w (by omega)
          exact ⟨_, _, .goto hx2 run2, by rw [List.length_cons]; omega⟩
        · by_cases hw : 16 ≤ w
          · exact ⟨_, _, .full hw, by simp⟩
          · obtain ⟨rs2, st2, o2, hx2, run2, hz⟩ := ih (j + 1) (w + 1) (by omega)
            by_cases ho : o2 = .back
            · subst ho
              obtain ⟨st3, run3, hz3⟩ := tail_run (bk := bk) (most := 16) (name := cn j) (i := 1 + 1) (w := w) (d := m + 1) (n2 := n2) (n3 := n3) h2
              exact ⟨_, _, .jumpBack (by omega) hx2 run2 run3, by rw [List.length_cons, List.length_append]; omega⟩
            · exact ⟨_, _, .jumpOut (by omega) hx2 run2 ho, by rw [List.length_cons]; omega⟩
      obtain ⟨st, o, run, hz⟩ := way
      rcases h1 with rfl | rfl | rfl
      · exact ⟨_, _, _, hx, .none run, by rw [List.length_cons]; omega⟩
      · exact ⟨_, _, _, hx, .cont run, by rw [List.length_cons]; omega⟩
      · exact ⟨_, _, _, hx, .brk run, by rw [List.length_cons]; omega⟩

theorem c0_is : Str.ofString "c0" = cn 0 := by decide +kernel

theorem line_at {bk : List (Str × List Rule)} (h : LineBook bk) : ∃ K n e, bkAt bk (cn K) = some [(n, e)] ∧ EndV e ∧ (∀ j, j < K → ∃ rs, bkAt bk (cn j) = some rs ∧ LineRules (cn (j + 1)) rs) ∧ K ≤ 18 ∧
    ∀ x rs, bkAt bk x = some rs → rs = [(n, e)] ∨ ∃ j, j < K ∧ LineRules (cn (j + 1)) rs := by
  obtain ⟨K, bk0, n, e, rfl, hb, he, _, hK⟩ := h.is
  obtain ⟨h1, h2⟩ := line_char hb (by omega)
  refine ⟨K, n, e, ?_, he, fun j hj => ?_, hK, fun x rs hx => ?_⟩
  · rw [bkAt_snoc]
    rcases h1 (cn K) with q | ⟨j, hj, hx, _⟩
    · rw [q, Option.none_or, if_pos rfl]
    · have := congrArg Fin.val (cn_inj ⟨K, by omega⟩ ⟨j, by omega⟩ hx)
      simp only at this; omega
  · obtain ⟨rs, q, hr⟩ := h2 j hj
    exact ⟨rs, by rw [bkAt_snoc, q]; rfl, hr⟩
  · rw [bkAt_snoc] at hx
    rcases h1 x with q | ⟨j, hj, hx', rs', q, hr⟩
    · rw [q, Option.none_or] at hx
      by_cases hn : cn K = x
      · rw [if_pos hn] at hx; exact .inl (Option.some.inj hx).symm
      · rw [if_neg hn] at hx; cases hx
    · rw [q] at hx
      obtain rfl : rs' = rs := Option.some.inj hx
      exact .inr ⟨j, hj, hr⟩

theorem line_whole {bk : List (Str × List Rule)} (h : LineBook bk) : ∃ rs st o d, bkAt bk (Str.ofString "c0") = some rs ∧ Run bk 16 (Str.ofString "c0") 0 rs 0 st o d ∧ d ≤ 40 ∧ st.length ≤ 500000 := by
  obtain ⟨K, n, e, h1, h2, h3, h4, _⟩ := line_at h
  obtain ⟨rs, st, o, hx, run, hz⟩ := line_run h1 h2 h3 K 0 0 (by omega)
  rw [c0_is]
  exact ⟨rs, st, o, K, hx, run, by omega, by omega⟩

theorem cn_len : ∀ j : Fin 20, (cn j.val).length ≤ 1000 := by decide +kernel

theorem line_goals {bk : List (Str × List Rule)} (h : LineBook bk) : GoalLens bk := by
  intro x rs hx r hr k g hk
  obtain ⟨K, n, e, _, he, _, hK, hall⟩ := line_at h
  rcases hall x rs hx with rfl | ⟨j, hj, hl⟩
  · rw [List.mem_singleton.mp hr] at hk
    dsimp only at hk
    rcases he with q | q | q | q | q <;> rw [q] at hk <;> cases hk <;> decide
  · cases hl with
    | mk h1 _ h2 =>
      simp only [List.mem_cons, List.not_mem_nil, or_false] at hr
      rcases hr with rfl | rfl | rfl | rfl
      · dsimp only at hk
        rcases h1 with q | q | q <;> rw [q] at hk <;> cases hk <;> decide
      · cases hk; exact cn_len ⟨j + 1, by omega⟩
      · dsimp only at hk
        rcases h2 with q | q | q | q <;> rw [q] at hk <;> cases hk <;> decide
      · cases hk

end Mine
end

section
open PySem PySem.W PyProof.Rows PySem.Calls PyProof.V
namespace Mine
noncomputable def cut (h : Heap) (n : Nat) : Heap := { objs := h.objs.extract 0 n, life := h.life }
theorem cut_get {h : Heap} {n : Nat} {a : Addr} {o : Obj} (e : h.get? a = some o) (hn : @LT.lt Nat _ a n) : (cut h n).get? a = some o := by
  rw [Heap.get?_some_iff] at e ⊢
  refine ⟨?_, e.2⟩
  show (h.objs.extract 0 n)[a]? = some o
  have hlt := (Array.getElem?_eq_some_iff.mp e.1).1
  rw [Array.getElem?_extract]
  rw [if_pos (by omega), Nat.zero_add]
  exact e.1
theorem of_cut {h : Heap} {n : Nat} {a : Addr} {o : Obj} (e : (cut h n).get? a = some o) : h.get? a = some o := by
  rw [Heap.get?_some_iff] at e ⊢
  refine ⟨?_, e.2⟩
  have e1 : (h.objs.extract 0 n)[a]? = some o := e.1
  rw [Array.getElem?_extract] at e1
  split at e1
  · rw [Nat.zero_add] at e1; exact e1
  · cases e1
theorem cut_size {h : Heap} {n : Nat} : (cut h n).objs.size ≤ n := by
  show (h.objs.extract 0 n).size ≤ n
  rw [Array.size_extract]; omega

section
variable {A : Around} {base h₀ h₁ h' : Heap} {outer : List Env} {L : Addr} {m : Str → Option Value} {K : Frag} {p : Program} {loose : List Str} {mean : ExcName → Option Value} {mg mb : Str → Option Value} {news : List (Addr × Obj)} {X : List Addr}

/-- what holds of a new base -/
structure Grounded (A : Around) (base h₀ h₂ h' : Heap) (outer : List Env) (L : Addr) (m : Str → Option Value) (K : Frag) (p : Program) (loose : List Str) (mean : ExcName → Option Value) (mg mb : Str → Option Value) (news : List (Addr × Obj)) : Prop where
  B : Below A base outer h₂
  X : K.In h₂
  T : Top p loose mean mg mb h₂
  F : Fr h₂ L h' m
  N : News h₂ L h' news
  keep : ∀ b o, h₀.get? b = some o → (b ∉ framesOf outer → h₂.get? b = some o) ∧ ∃ sl, h₂.get? b = some { o with slots := sl }

theorem ground (B : Below A base outer h₀) (F : Fr h₀ L h₁ m) (XB : K.In base) (TB : Top p loose mean mg mb base) (mv : Moved (L :: framesOf outer) X h₁ h') (hX : ∀ b ∈ X, h₀.get? b = none) (hLX : L ∉ X)
    (hN : ∀ q ∈ news, h'.get? q.1 = some q.2 ∧ h₀.get? q.1 = none ∧ q.1 ≠ L) : ∃ h₂, Grounded A base h₀ h₂ h' outer L m K p loose mean mg mb news := by
  have hL : h₀.get? L = none := Heap.get?_none_of_le F.above
  have key : ∀ b o, h₀.get? b = some o → (b ∉ framesOf outer → (hideAll (cut h' h₀.objs.size) (news.map (·.1))).get? b = some o) ∧ ∃ sl, (hideAll (cut h' h₀.objs.size) (news.map (·.1))).get? b = some { o with slots := sl } := by
    intro b o e
    have hbX : b ∉ X := fun q => by rw [hX b q] at e; cases e
    have hbL : b ≠ L := fun q => by rw [q, hL] at e; cases e
    have hbn : b ∉ news.map (·.1) := fun hq0 => by
      obtain ⟨q, hq, rfl⟩ := List.mem_map.mp hq0
      rw [(hN q hq).2.1] at e; cases e
    have hlt := Heap.lt_size e
    obtain ⟨z1, sl, z2⟩ := mv b o (F.keep b o e) hbX
    refine ⟨fun hf => hideAll_get _ (cut_get (z1 fun hm => ?_) hlt) hbn, sl, hideAll_get _ (cut_get z2 hlt) hbn⟩
    rcases List.mem_cons.mp hm with q | q
    · exact hbL q
    · exact hf q
  have bst : base.StaysIn (hideAll (cut h' h₀.objs.size) (news.map (·.1))) := fun b o e => (key b o (B.stays b o e)).1 fun hm => by
    rw [(B.frames.mem hm).1] at e; cases e
  have f1 : ∀ b o, (hideAll (cut h' h₀.objs.size) (news.map (·.1))).get? b = some o → h'.get? b = some o := fun b o e => of_cut (of_hideAll _ e)
  have f2 : (hideAll (cut h' h₀.objs.size) (news.map (·.1))).objs.size ≤ h₀.objs.size := by rw [hideAll_size]; exact cut_size
  have f3 : ∀ q ∈ news, (hideAll (cut h' h₀.objs.size) (news.map (·.1))).get? q.1 = none := fun q hq => hideAll_none _ (List.mem_map_of_mem hq)
  generalize hideAll (cut h' h₀.objs.size) (news.map (·.1)) = h₂ at key bst f1 f2 f3
  refine ⟨h₂, ⟨⟨B.stack, bst, B.frames.of_keeps fun b o e _ => ?_⟩, XB.keeps bst, TB.keeps bst, ⟨?_, f1, Nat.le_trans f2 F.above⟩, fun q hq => ⟨(hN q hq).1, (hN q hq).2.2, f3 q hq⟩, key⟩⟩
  · obtain ⟨sl, z⟩ := (key b o e).2
    exact ⟨_, z, rfl⟩
  · obtain ⟨oL, es, ep, ho, hd, r⟩ := F.ns
    obtain ⟨sl, z⟩ := (mv L oL ho hLX).2
    exact ⟨_, es, ep, z, hd, r⟩
end

section
variable {prog : Program} {w : World} {A : Around} {E : Value → Shared → Prop} {s : Shared} {env : Env}

theorem handle44_as {e : Addr} {t : PySem.Expr} {n : Str} {b₀ : Stmt} {suite : List Stmt} {pos : Pos} {rest : List ExceptHandler} {Q : Flow → Shared → Prop}
    (h : wpAny (model prog w) (A.mark (some (.ref e))) (eval t env) (fun c s₁ => c = .ref 44 ∧ s₁.heap.get? 44 = some obj44 ∧ (∃ dd vs, s₁.heap.get? e = some (excObj dd vs)) ∧
      wpAny (model prog w) (A.mark (some (.ref e))) (setFlight (.ref e) none) (fun _ s₂ =>
          wpAny (model prog w) (A.mark (some (.ref e))) (storeName env n (.ref e)) (fun _ s₃ =>
            wpAny (model prog w) (A.mark (some (.ref e))) (execs (b₀ :: suite) env)
              (fun f s₄ => wpAny (model prog w) A (do bindName env n .none; unbindBehindTheSuite env n pos) (fun _ s₅ => Q f s₅) E s₄)
              (AsSuiteRaised (model prog w) (A.mark (some (.ref e))) env n pos (notedBy (model prog w) (A.mark (some (.ref e))) env (cameBackBy (model prog w) A env E))) s₃) (notedBy (model prog w) (A.mark (some (.ref e))) env (cameBackBy (model prog w) A env E)) s₂) (notedBy (model prog w) (A.mark (some (.ref e))) env (cameBackBy (model prog w) A env E)) s₁) (notedBy (model prog w) (A.mark (some (.ref e))) env (cameBackBy (model prog w) A env E)) s) :
    wpAny (model prog w) A (handleBy (.ref e) env (.ExceptHandler (some t) (some n) (b₀ :: suite) pos :: rest)) Q E s := by
  refine wpAny_handleBy_cons (codeAny_handlers_test (wpAny_mono h (fun c s₁ h₁ => ?_) fun _ _ y => y)) (by intro q; cases q)
  obtain ⟨rfl, hC, ⟨dd, vs, he⟩, hk⟩ := h₁
  obtain ⟨hp, g, d, tk, os⟩ := s₁
  exact wpAny_excMatches_sub_self hC he rfl (by decide) (codeAny_handlers_suite_as hk)
end

end Mine
end

section
open PySem PySem.W PyProof.Rows PySem.Calls PyProof.V
namespace Mine
section
variable {w : World} {A : Around} {s : Shared} {base h₀ : Heap} {outer : List Env} {p : Program} {loose : List Str} {mean : ExcName → Option Value} {mg mb : Str → Option Value} {L : Addr} {m : Str → Option Value} {env : Env}
  {Q : Value → Shared → Prop} {E : Value → Shared → Prop} {sc lg ds bd : Addr} {st : Option Addr} {es : List DictEntry} {nn n1 n2 : Nat} {rest : List (Addr × Obj)} {bk : List (Str × List Rule)} {first : Str} {most : Nat} {tf tm : Tok} {stp : List Step} {o : Out} {pos : List Value}

theorem chain_K (hpos : pos = [.ref sc, .ref bd, .str first tf, .ref 123, .int (most : Nat) tm] ∨ (pos = [.ref sc, .ref bd, .str first tf, .ref 123] ∧ most = 16 ∧ tm = 309))
    (B : Below A base outer h₀) (F : Fr h₀ L s.heap m) (X : (hd.heap_39 w.params).In h₀) (XB : (hd.heap_39 w.params).In base) (TB : Top p loose mean mg mb base) (T : Top p loose mean mg mb h₀)
    (N : News h₀ L s.heap ((lg, listOf #[] n1) :: (stepsPart st #[] n2 ++ rest))) (hoff : ∀ q ∈ rest, q.1 ∉ lg :: st.toList) (hne : ∀ ls, st = some ls → ls ≠ lg)
    (hsc : (sc, instObj 64 ds) ∈ rest) (hds : (ds, dictOf es nn) ∈ rest) (hg1 : getL "log" es = some (some (.ref lg))) (hg2 : getL "steps" es = some (some (st.elim .none .ref)))
    (b : BookAt PySem.Challenge.rw_pq1068_01.row.prog w h₀ bd bk) (hgl : GoalLens bk) (hh : A.handled = none) (hroom : A.depth + 24 < recursionLimit) (hfl : first.length ≤ 1000) (hmost : most ≤ 1000) (hz : stp.length ≤ 500000)
    (hrun : (∃ rs d, bkAt bk first = some rs ∧ Run bk most first 0 rs 0 stp o d) ∨ (bkAt bk first = none ∧ stp = [] ∧ o = .fault first)) (hf : env.frame = some L) (hke : env.scope.kind = .function)
    (hok : ∀ h₂ h' tk v qs its n1' n2' tl, Grounded A base h₀ h₂ h' outer L m (hd.heap_39 w.params) p loose mean mg mb ((lg, listOf qs n1') :: (stepsPart st its n2' ++ (rest ++ tl))) → All2 IntIs qs.toList stp → (∀ ls, st = some ls → All2 (StepIn tl) its.toList stp) →
      (o = .back ∧ v = .none ∨ ∃ k, o = .ended k ∧ VerdRet h₀ tl v (some (k, Str.ofString ""))) → Q v { s with heap := h', toks := tk })
    (hbad : ∀ x e h' tk qs its n1' n2' tl, o = .fault x → Fault (lg :: st.toList) (env :: outer) (Str.ofString "unknown chain " ++ x) s.heap h' e →
      (∀ q ∈ (lg, listOf qs n1') :: (stepsPart st its n2' ++ (rest ++ tl)), h'.get? q.1 = some q.2 ∧ h₀.get? q.1 = none ∧ q.1 ≠ L ∧ ((∃ z, s.heap.get? q.1 = some z) ∨ isSeq q.2 = true)) → All2 IntIs qs.toList stp → (∀ ls, st = some ls → All2 (StepIn tl) its.toList stp) →
      E (.ref e) { s with heap := h', toks := tk }) :
    wpAny (model PySem.Challenge.rw_pq1068_01.row.prog w) (A.deeper env) (call (.ref 90) pos) Q E s := by
  have hM : ∀ a ∈ lg :: st.toList, ∃ o, (a, o) ∈ (lg, listOf #[] n1) :: (stepsPart st #[] n2 ++ rest) := by
    intro a ha
    rcases List.mem_cons.mp ha with rfl | ha
    · exact ⟨_, .head _⟩
    · cases st with
      | none => cases ha
      | some ls => rw [List.mem_singleton.mp ha]; exact ⟨_, .tail _ (.head _)⟩
  have st' := stays_hide F N hM
  obtain ⟨B', X', T'⟩ := down (M := lg :: st.toList) (env := env) B F X N T hf hke hM
  have hrest : ∀ q ∈ rest, q ∈ (lg, listOf #[] n1) :: (stepsPart st #[] n2 ++ rest) := fun q hq => .tail _ (List.mem_append_right _ hq)
  have S : SceneAt (hideAll s.heap (lg :: st.toList)) sc lg st := ⟨ds, es, nn, hideAll_get _ (N _ (hrest _ hsc)).1 (hoff _ hsc), hideAll_get _ (N _ (hrest _ hds)).1 (hoff _ hds), hg1, hg2⟩
  have hls : ∀ ls, st = some ls → s.heap.get? ls = some (listOf #[] n2) := fun ls e => by
    subst e; exact (N _ (.tail _ (.head _))).1
  have hfo : framesOf (env :: outer) = L :: framesOf outer := by
    show List.filterMap _ (env :: outer) = _
    rw [List.filterMap_cons, hf]
  have hargs : (⟨pos, []⟩ : Args) = ⟨[.ref sc, .ref bd, .str first tf, .ref 123, .int (most : Nat) tm], []⟩ ∨ ((⟨pos, []⟩ : Args) = ⟨[.ref sc, .ref bd, .str first tf, .ref 123], []⟩ ∧ most = 16 ∧ tm = 309) := by
    rcases hpos with rfl | ⟨rfl, h1, h2⟩
    · exact .inl rfl
    · exact .inr ⟨rfl, h1, h2⟩
  suffices hret : ChainRet s (env :: outer) lg st #[] #[] stp o (fun r s' => match r with | .ok (.ret v) => Q v s' | .ok _ => False | .error e => E e s') by
    refine wpAny_call ?_
    rcases hrun with ⟨rs, d, hx, run⟩ | ⟨hx, h1, h2⟩
    · exact chain_ok (Q0 := #[]) (S0 := #[]) (n1 := n1) (n2 := n2) hargs B' X' T' hh (by rw [depth_deeper]; omega) S (b.stays st') hgl hne (N _ (.head _)).1 hls hfl hmost (by simp; omega) (by simp; omega) hx run hret
    · rw [h1, h2] at hret
      exact chain_miss (Q0 := #[]) (S0 := #[]) (n1 := n1) (n2 := n2) hargs B' X' T' hh (by rw [depth_deeper]; omega) S (b.stays st') hgl hne (N _ (.head _)).1 hls hfl hmost hx hret
  intro h' tk' r tl its qs n1' n2' mv htl hlg hq hst ce
  rw [Array.empty_append] at hlg
  have old : ∀ a z, h₀.get? a = some z → s.heap.get? a = some z := F.keep
  obtain ⟨oL, _, _, hoL, _⟩ := F.ns
  have hN : ∀ q ∈ (lg, listOf qs n1') :: (stepsPart st its n2' ++ (rest ++ tl)), h'.get? q.1 = some q.2 ∧ h₀.get? q.1 = none ∧ q.1 ≠ L ∧ ((∃ z, s.heap.get? q.1 = some z) ∨ isSeq q.2 = true) := by
    intro q hq'
    rcases List.mem_cons.mp hq' with rfl | hq'
    · exact ⟨hlg, (N _ (.head _)).2.2, (N _ (.head _)).2.1, .inl ⟨_, (N _ (.head _)).1⟩⟩
    · rcases List.mem_append.mp hq' with hq' | hq'
      · cases st with
        | none => cases hq'
        | some ls =>
          rw [List.mem_singleton.mp hq']
          have z := N _ (.tail _ (.head _))
          have z2 := (hst ls rfl).1
          rw [Array.empty_append] at z2
          exact ⟨z2, z.2.2, z.2.1, .inl ⟨_, z.1⟩⟩
      · rcases List.mem_append.mp hq' with hq' | hq'
        · have z := N _ (hrest _ hq')
          refine ⟨(mv _ _ z.1 (hoff _ hq')).1 fun hm => ?_, z.2.2, z.2.1, .inl ⟨_, z.1⟩⟩
          rw [hfo] at hm
          rcases List.mem_cons.mp hm with q' | q'
          · exact z.2.1 q'
          · obtain ⟨_, o', ho', _⟩ := B.frames.mem q'
            rw [z.2.2] at ho'; cases ho'
        · have z := htl _ hq'
          refine ⟨z.1, ?_, fun e => ?_, .inr z.2.2⟩
          · cases y : h₀.get? q.1 with
            | none => rfl
            | some o' => have := old _ _ y; rw [z.2.1] at this; cases this
          · rw [e, hoL] at z; cases z.2.1
  have hX0 : ∀ a ∈ lg :: st.toList, h₀.get? a = none := fun a ha => by
    obtain ⟨o', ho'⟩ := hM a ha
    exact (N _ ho').2.2
  have hLX : L ∉ lg :: st.toList := fun ha => by
    obtain ⟨o', ho'⟩ := hM L ha
    exact (N _ ho').2.1 rfl
  rw [hfo] at mv
  cases ce with
  | back =>
    obtain ⟨h₂, G⟩ := ground B F XB TB mv hX0 hLX (fun q hq => ⟨(hN q hq).1, (hN q hq).2.1, (hN q hq).2.2.1⟩)
    exact hok h₂ h' tk' .none qs its n1' n2' tl G hq (fun ls e => (hst ls e).2) (.inl ⟨rfl, rfl⟩)
  | @ended _ v k hv =>
    have plain : VerdRet h₀ tl v (some (k, Str.ofString "")) → Q v { s with heap := h', toks := tk' } := fun hv' => by
      obtain ⟨h₂, G⟩ := ground B F XB TB mv hX0 hLX (fun q hq => ⟨(hN q hq).1, (hN q hq).2.1, (hN q hq).2.2.1⟩)
      exact hok h₂ h' tk' v qs its n1' n2' tl G hq (fun ls e => (hst ls e).2) (.inr ⟨k, rfl, hv'⟩)
    cases hv with
    | new h => exact plain (.new h)
    | «at» h =>
      cases h with
      | @tup r _ _ u1 u2 e =>
        cases y : h₀.get? r with
        | some o' =>
          have e2 := old _ _ y
          have e3 := of_hideAll _ e
          rw [e2] at e3
          cases e3
          exact plain (.at (.tup y))
        | none =>
          have hr : r ∉ lg :: st.toList := fun hm => by rw [hideAll_none _ hm] at e; cases e
          have e3 := of_hideAll _ e
          have hrL : r ≠ L := fun q => by
            obtain ⟨oL2, _, _, h1, h2, _⟩ := F.ns
            rw [q, h1] at e3
            cases e3; cases h2
          have e4 := (mv _ _ e3 hr).1 fun hm => by
            rcases List.mem_cons.mp hm with q' | q'
            · exact hrL q'
            · obtain ⟨_, o', ho', _⟩ := B.frames.mem q'
              rw [y] at ho'; cases ho'
          obtain ⟨h₂, G⟩ := ground (news := (lg, listOf qs n1') :: (stepsPart st its n2' ++ (rest ++ ((r, tup2 k (Str.ofString "") u1 u2) :: tl)))) B F XB TB mv hX0 hLX (fun q hq => by
            simp only [List.mem_cons, List.mem_append] at hq
            have go : ∀ q ∈ (lg, listOf qs n1') :: (stepsPart st its n2' ++ (rest ++ tl)), h'.get? q.1 = some q.2 ∧ h₀.get? q.1 = none ∧ q.1 ≠ L := fun q hq => ⟨(hN q hq).1, (hN q hq).2.1, (hN q hq).2.2.1⟩
            rcases hq with hq | hq | hq | hq | hq
            · exact go q (by simp [hq])
            · exact go q (by simp [hq])
            · exact go q (by simp [hq])
            · rw [hq]; exact ⟨e4, y, hrL⟩
            · exact go q (by simp [hq]))
          exact hok h₂ h' tk' (.ref r) qs its n1' n2' _ G hq (fun ls e => (hst ls e).2.imp fun _ _ x => x.mono fun _ h => .tail _ h) (.inr ⟨k, rfl, .new (.tup (.head _))⟩)
  | @fault _ x e hft =>
    exact hbad x e h' tk' qs its n1' n2' tl rfl hft hN hq (fun ls e => (hst ls e).2)
end

end Mine
end

section
open PySem PySem.W PyProof.Rows PySem.Calls PyProof.V
namespace Mine
set_option maxHeartbeats 4000000 in
theorem name44 {w : World} : nsIn (hd.heap_39 w.params) mainGlobals (Str.ofString "Misused") = some (some (.ref 44)) := by
  suffices hz : PySem.Challenge.rw_pq1068_01 = PySem.Challenge.rw_pq1068_01 → nsIn (hd.heap_39 w.params) mainGlobals (Str.ofString "Misused") = some (some (.ref 44)) from hz rfl
  k_fill
  intro _
  k_is

section
variable {w : World} {A : Around} {s' : Shared} {base h₀ h₁ : Heap} {outer : List Env} {p : Program} {loose : List Str} {mean : ExcName → Option Value} {mg mb : Str → Option Value} {L a e : Addr} {m : Str → Option Value} {name : Str} {scope : Scope} {cd : Value}
  {Q : Flow → Shared → Prop} {E : Value → Shared → Prop} {news : List (Addr × Obj)} {X : List Addr} {x nn : Str} {np pos : Pos} {b₀ : Stmt} {suite : List Stmt} {rest : List ExceptHandler}

theorem catch_K (B : Below A base outer h₀) (F : Fr h₀ L h₁ m) (XB : (hd.heap_39 w.params).In base) (TB : Top p loose mean mg mb base) (hX0 : ∀ b ∈ X, h₀.get? b = none) (hLX : L ∉ X)
    (ft : Fault X (envOf name scope L a cd :: outer) x h₁ s'.heap e)
    (hN : ∀ q ∈ news, s'.heap.get? q.1 = some q.2 ∧ h₀.get? q.1 = none ∧ q.1 ≠ L ∧ ((∃ z, h₁.get? q.1 = some z) ∨ isSeq q.2 = true))
    (hk : scope.kind = .function) (hx : (envOf name scope L a cd).kindOf (Str.ofString "Misused") = some .globalImplicit)
    (k : ∀ h₂ h' dx vs es n t, Grounded A base h₀ h₂ h' outer L m (hd.heap_39 w.params) p loose mean mg mb ((e, excObj (some dx) vs) :: (dx, dictOf es n) :: news) → lookIn "why" (dictOf es n) = some (some (.str x t)) → (∀ q ∈ news, q.1 ≠ e ∧ q.1 ≠ dx) → dx ≠ e →
      wpAny (model PySem.Challenge.rw_pq1068_01.row.prog w) ((A.deeper (envOf name scope L a cd)).mark (some (.ref e))) (storeName (envOf name scope L a cd) nn (.ref e)) (fun _ s₃ =>
        wpAny (model PySem.Challenge.rw_pq1068_01.row.prog w) ((A.deeper (envOf name scope L a cd)).mark (some (.ref e))) (execs (b₀ :: suite) (envOf name scope L a cd))
          (fun f s₄ => wpAny (model PySem.Challenge.rw_pq1068_01.row.prog w) (A.deeper (envOf name scope L a cd)) (do bindName (envOf name scope L a cd) nn .none; unbindBehindTheSuite (envOf name scope L a cd) nn pos) (fun _ s₅ => Q f s₅) E s₄)
          (AsSuiteRaised (model PySem.Challenge.rw_pq1068_01.row.prog w) ((A.deeper (envOf name scope L a cd)).mark (some (.ref e))) (envOf name scope L a cd) nn pos (notedBy (model PySem.Challenge.rw_pq1068_01.row.prog w) ((A.deeper (envOf name scope L a cd)).mark (some (.ref e))) (envOf name scope L a cd) (cameBackBy (model PySem.Challenge.rw_pq1068_01.row.prog w) (A.deeper (envOf name scope L a cd)) (envOf name scope L a cd) E))) s₃)
        (notedBy (model PySem.Challenge.rw_pq1068_01.row.prog w) ((A.deeper (envOf name scope L a cd)).mark (some (.ref e))) (envOf name scope L a cd) (cameBackBy (model PySem.Challenge.rw_pq1068_01.row.prog w) (A.deeper (envOf name scope L a cd)) (envOf name scope L a cd) E)) { s' with heap := h' }) :
    wpAny (model PySem.Challenge.rw_pq1068_01.row.prog w) (A.deeper (envOf name scope L a cd)) (noteFrame (.ref e) (envOf name scope L a cd))
      (fun _ s₂ => wpAny (model PySem.Challenge.rw_pq1068_01.row.prog w) (A.deeper (envOf name scope L a cd)) (setFlight (.ref e) none) (fun _ s₃ =>
        wpAny (model PySem.Challenge.rw_pq1068_01.row.prog w) (A.deeper (envOf name scope L a cd)) (handleBy (.ref e) (envOf name scope L a cd) (.ExceptHandler (some (.Name (Str.ofString "Misused") np)) (some nn) (b₀ :: suite) pos :: rest)) Q E s₃) E s₂) E s' := by
  obtain ⟨dx, T, es, n, t, mv, ne, nT, tr, hdx, nd, hde, hl⟩ := ft
  have K' := B.push (name := name) (a := a) (cd := cd) F hk
  have hfo : framesOf (envOf name scope L a cd :: outer) = L :: framesOf outer := rfl
  have out : ∀ b, h₁.get? b = none → h₀.get? b = none := fun b hb => by
    cases z : h₀.get? b with
    | none => rfl
    | some o => have := F.keep b o z; rw [hb] at this; cases this
  have fl : s'.heap.FunFrames base (envOf name scope L a cd :: outer) := by
    have f1 : (hideAll h₁ X).FunFrames base (envOf name scope L a cd :: outer) := funFrames_hideAll K'.frames fun env' he b hb hf' => by
      cases he with
      | head => exact hLX ((Option.some.inj hf' : L = b) ▸ hb)
      | tail _ he =>
        obtain ⟨L₁, o₁, hf₁, ho₁⟩ := funFrames_in B.frames env' he
        rw [hf₁] at hf'
        have := hX0 b hb
        rw [← (Option.some.inj hf' : L₁ = b), ho₁] at this; cases this
    refine f1.of_keeps fun b o hb _ => ?_
    have hbX : b ∉ X := fun q => by rw [hideAll_none _ q] at hb; cases hb
    obtain ⟨sl, z⟩ := (mv b o (of_hideAll _ hb) hbX).2
    exact ⟨_, z, rfl⟩
  refine note_next (base := base) K'.stack fl rfl tr fun h2 T2 m2 nT2 tr2 => ?_
  refine flight_T (s := { s' with heap := h2 }) tr2 fun h3 m3 tr3 => ?_
  have up : ∀ b o, s'.heap.get? b = some o → b ≠ e → b ≠ T → (b ∉ framesOf (envOf name scope L a cd :: outer) → h3.get? b = some o) ∧ ∃ sl, h3.get? b = some { o with slots := sl } := by
    intro b o hb hbe hbT
    have hbT' : b ∉ [T2] := by intro q; rw [List.mem_singleton.mp q, nT2] at hb; cases hb
    have z := m2 b o hb (by simp only [List.mem_cons, List.not_mem_nil, or_false, not_or]; exact ⟨hbe, hbT⟩)
    refine ⟨fun hf => (m3 b o (z.1 hf) hbT').1 (by simp), ?_⟩
    obtain ⟨sl, z2⟩ := z.2
    exact ⟨sl, (m3 b _ z2 hbT').1 (by simp)⟩
  have mv3 : Moved (L :: framesOf outer) X h₁ h3 := by
    intro b o hb hbX
    have hbe : b ≠ e := fun z => by rw [z, ne] at hb; cases hb
    have hbT : b ≠ T := fun z => by rw [z, nT] at hb; cases hb
    have z := mv b o hb hbX
    refine ⟨fun hf => (up b o (z.1 hf) hbe hbT).1 hf, ?_⟩
    obtain ⟨sl, z2⟩ := z.2
    obtain ⟨sl', z3⟩ := (up b _ z2 hbe hbT).2
    exact ⟨sl', z3⟩
  obtain ⟨vs0, oT, ts, he0, _, hTe, hT, hTd, _⟩ := tr
  have offr : ∀ b, h₀.get? b = none → b ≠ L → b ∉ framesOf (envOf name scope L a cd :: outer) := fun b hb hbL hm => by
    rw [hfo] at hm
    rcases List.mem_cons.mp hm with q | q
    · exact hbL q
    · obtain ⟨_, o, ho, _⟩ := B.frames.mem q
      rw [hb] at ho; cases ho
  have hneq : ∀ q ∈ news, q.1 ≠ e ∧ q.1 ≠ T ∧ q.1 ≠ dx ∨ q.1 ≠ e ∧ q.1 ≠ T := fun q hq => by
    obtain ⟨q1, q2, q3, q4⟩ := hN q hq
    right
    rcases q4 with ⟨z, hz⟩ | hs
    · exact ⟨fun y => by (rw [y, ne] at hz; cases hz), fun y => by (rw [y, nT] at hz; cases hz)⟩
    · refine ⟨fun y => ?_, fun y => ?_⟩
      · rw [y, he0] at q1
        rw [← Option.some.inj q1] at hs; cases hs
      · rw [y, hT] at q1
        rw [← Option.some.inj q1] at hs
        unfold isSeq at hs; rw [hTd] at hs; cases hs
  have hne : ∀ q ∈ news, q.1 ≠ e ∧ q.1 ≠ T := fun q hq => (hneq q hq).elim (fun z => ⟨z.1, z.2.1⟩) id
  have hnd : ∀ q ∈ news, q.1 ≠ dx := fun q hq y => by
    obtain ⟨q1, q2, q3, q4⟩ := hN q hq
    rcases q4 with ⟨z, hz⟩ | hs
    · rw [y, nd] at hz; cases hz
    · rw [y, hdx] at q1
      rw [← Option.some.inj q1] at hs; cases hs
  have hL1 : h₁.get? L ≠ none := by
    obtain ⟨oL, _, _, hoL, _⟩ := F.ns
    rw [hoL]; simp
  have hdT : dx ≠ T := fun z => by
    rw [← z, hdx] at hT
    rw [← Option.some.inj hT] at hTd; cases hTd
  have hd3 : h3.get? dx = some (dictOf es n) := (up dx _ hdx hde hdT).1 (offr dx (out _ nd) fun z => hL1 (z ▸ nd))
  have hN3 : ∀ q ∈ (dx, dictOf es n) :: news, h3.get? q.1 = some q.2 ∧ h₀.get? q.1 = none ∧ q.1 ≠ L := fun q hq => by
    rcases List.mem_cons.mp hq with rfl | hq
    · exact ⟨hd3, out _ nd, fun z => hL1 (z ▸ nd)⟩
    · obtain ⟨q1, q2, q3, q4⟩ := hN q hq
      exact ⟨(up q.1 _ q1 (hne q hq).1 (hne q hq).2).1 (offr _ q2 q3), q2, q3⟩
  obtain ⟨g3, G3⟩ := ground B F XB TB mv3 hX0 hLX hN3
  refine handle44_as (name_K G3.F G3.X (topRead_of G3.T) name44 ?_ hk hx (by decide))
  obtain ⟨vs3, _, _, he3, _⟩ := id tr3
  refine ⟨rfl, G3.X.keeps G3.F.keep _ _ (cls44 G3.X).obj, ⟨_, _, he3⟩, ?_⟩
  refine flight_T (s := { s' with heap := h3 }) tr3 fun h4 m4 tr4 => ?_
  have mv4 : Moved (L :: framesOf outer) X h₁ h4 := by
    intro b o hb hbX
    have hbT : b ∉ [T2] := by
      intro q
      obtain ⟨sl, z⟩ := (mv b o hb hbX).2
      rw [List.mem_singleton.mp q, nT2] at z; cases z
    have z := mv3 b o hb hbX
    refine ⟨fun hf => (m4 b o (z.1 hf) hbT).1 (by simp), ?_⟩
    obtain ⟨sl, z2⟩ := z.2
    exact ⟨sl, (m4 b _ z2 hbT).1 (by simp)⟩
  obtain ⟨vs4, _, _, he4, _⟩ := id tr4
  have hN4 : ∀ q ∈ (e, excObj (some dx) vs4) :: (dx, dictOf es n) :: news, h4.get? q.1 = some q.2 ∧ h₀.get? q.1 = none ∧ q.1 ≠ L := fun q hq => by
    rcases List.mem_cons.mp hq with rfl | hq
    · exact ⟨he4, out _ ne, fun z => hL1 (z ▸ ne)⟩
    · have hqT : q.1 ∉ [T2] := by
        intro z
        rw [List.mem_singleton] at z
        rcases List.mem_cons.mp hq with rfl | hq
        · have z' : dx = T2 := z
          rw [z', nT2] at hdx; cases hdx
        · have := (hN q hq).1
          rw [z, nT2] at this; cases this
      have z := hN3 q hq
      exact ⟨(m4 _ _ z.1 hqT).1 (by simp), z.2⟩
  obtain ⟨g4, G4⟩ := ground B F XB TB mv4 hX0 hLX hN4
  exact k g4 h4 dx vs4 es n t G4 hl (fun q hq => ⟨(hne q hq).1, hnd q hq⟩) hde
end

end Mine
end

section
open PySem PySem.W PyProof.Rows PySem.Calls PyProof.V
namespace Mine
section
variable {w : World} {A : Around} {s : Shared} {base h₀ : Heap} {outer : List Env} {p : Program} {loose : List Str} {mean : ExcName → Option Value} {mg mb : Str → Option Value} {L : Addr} {m : Str → Option Value} {env : Env}
  {Q : Value → Shared → Prop} {E : Value → Shared → Prop} {bd ls la : Addr} {n1 n2 : Nat} {bk : List (Str × List Rule)} {name : Str} {most : Nat} {tn tw tm : Tok} {st : List Step} {o : Out}

theorem walk_A (hrun : (∃ rs d, bkAt bk name = some rs ∧ Run bk most name 0 rs 0 st o d ∧ d ≤ 40) ∨ (bkAt bk name = none ∧ st = [] ∧ o = .fault name)) (hgl : GoalLens bk)
    (B : Below A base outer h₀) (F : Fr h₀ L s.heap m) (X : (hd.heap_39 w.params).In h₀) (N : News h₀ L s.heap ((ls, listOf #[] n1) :: (la, listOf #[] n2) :: [])) (T : Top p loose mean mg mb h₀) (b : BookAt PySem.Challenge.rw_pq1068_01.row.prog w h₀ bd bk)
    (hh : A.handled = none) (hroom : A.depth + 60 < recursionLimit) (hf : env.frame = some L) (hke : env.scope.kind = .function) (hne : ls ≠ la) (hz : st.length ≤ 500000) (hnl : name.length ≤ 1000)
    (hR : ∀ h' tk' r k g u1 u2 its qs n1' n2' tl, Fr h₀ L h' m → News h₀ L h' ((r, tup2 k g u1 u2) :: (ls, listOf its n1') :: (la, listOf qs n2') :: tl) → OutIs o k g → All2 (StepIn tl) its.toList st → All2 IntIs qs.toList st →
      (∀ q ∈ (r, tup2 k g u1 u2) :: tl, q.1 ≠ ls ∧ q.1 ≠ la) → Q (.ref r) { s with heap := h', toks := tk' }) :
    wpAny (model PySem.Challenge.rw_pq1068_01.row.prog w) (A.deeper env) (call (.ref 130) [.ref bd, .str name tn, .int 0 tw, .int (most : Nat) tm, .ref ls, .ref la]) Q E s := by
  obtain ⟨d, W, hd⟩ : ∃ d, WalkFn w bd bk most name 0 st o d ∧ d ≤ 40 := by
    rcases hrun with ⟨rs, d, hx, run, hd⟩ | ⟨hx, rfl, rfl⟩
    · exact ⟨d, walk_ok hgl d name rs 0 st o hx run, hd⟩
    · exact ⟨0, walk_miss hx, by omega⟩
  have hM : ∀ a ∈ [ls, la], ∃ o, (a, o) ∈ (ls, listOf #[] n1) :: (la, listOf #[] n2) :: [] := by
    intro a ha
    rcases List.mem_cons.mp ha with rfl | ha
    · exact ⟨_, .head _⟩
    · rw [List.mem_singleton.mp ha]; exact ⟨_, .tail _ (.head _)⟩
  obtain ⟨B', X', T'⟩ := down (M := [ls, la]) (env := env) B F X N T hf hke hM
  refine wpAny_call (W (A.deeper env) s base (env :: outer) p loose mean mg mb _ ls la #[] #[] n1 n2 tn tw tm B' X' T' hh (by rw [depth_deeper]; omega) (b.stays (stays_hide F N hM)) hne (N _ (.head _)).1 (N _ (.tail _ (.head _))).1 (by simp; omega) (by simp; omega) hnl ?_)
  intro h' tk' r k g u1 u2 its qs n1' n2' tl hk hls hla htl hr ho hst hq
  rw [Array.empty_append] at hls hla
  have hne2 : ∀ q ∈ (r, tup2 k g u1 u2) :: tl, q.1 ≠ ls ∧ q.1 ≠ la := by
    have go : ∀ q ∈ tl, q.1 ≠ ls ∧ q.1 ≠ la := fun q hq => by
      have z := (htl q hq).2
      refine ⟨fun e => ?_, fun e => ?_⟩
      · rw [e, (N _ (.head _)).1] at z; cases z
      · rw [e, (N _ (.tail _ (.head _))).1] at z; cases z
    intro q hq
    rcases List.mem_cons.mp hq with rfl | hq
    · exact go _ hr
    · exact go _ hq
  obtain ⟨F', N'⟩ := back (news' := (r, tup2 k g u1 u2) :: (ls, listOf its n1') :: (la, listOf qs n2') :: tl) F N hM hk (by
    intro q hq
    simp only [List.mem_cons] at hq
    rcases hq with rfl | rfl | rfl | hq
    · exact .inr ⟨(htl _ hr).1, .inr (htl _ hr).2⟩
    · exact .inr ⟨hls, .inl (by simp)⟩
    · exact .inr ⟨hla, .inl (by simp)⟩
    · exact .inr ⟨(htl _ hq).1, .inr (htl _ hq).2⟩)
  exact hR h' tk' r k g u1 u2 its qs n1' n2' tl F' N' ho hst hq hne2
end

end Mine
end

section
open PySem PySem.W PyProof.Rows PySem.Calls PyProof.V
namespace Mine
theorem moved_keep {h₀ h₂ hf : Heap} {fs : List Addr} {L : Addr} {m : Str → Option Value} (keep : ∀ b o, h₀.get? b = some o → (b ∉ fs → h₂.get? b = some o) ∧ ∃ sl, h₂.get? b = some { o with slots := sl }) (F : Fr h₂ L hf m) : Moved fs [] h₀ hf := fun b o e _ =>
  ⟨fun hf' => F.keep _ _ ((keep b o e).1 hf'), let ⟨sl, z⟩ := (keep b o e).2; ⟨sl, F.keep _ _ z⟩⟩

theorem ints_of {vs : List Value} : ∀ {st : List Step}, All2 IntIs vs st → IntsAre vs (st.map (·.num)) := by
  induction vs with
  | nil => intro st h; cases h; exact .nil
  | cons v vs ih =>
    intro st h
    cases h with
    | cons x y => cases x with | mk => exact .cons _ _ (ih y)

noncomputable def stepDat (x : Step) : Dat := .tuple [.str x.name, .int (x.place : Nat), .str x.kind, .str x.goal]
theorem dats_of {l : List (Addr × Obj)} {vs : List Value} : ∀ {st : List Step}, All2 (StepIn l) vs st → DatAll l vs (st.map stepDat) := by
  induction vs with
  | nil => intro st h; cases h; exact .nil
  | cons v vs ih =>
    intro st h
    cases h with
    | cons x y =>
      refine .cons ?_ (ih y)
      cases x with
      | mk hm => exact .tuple hm (.cons (.str _ _) (.cons (.int _ _) (.cons (.str _ _) (.cons (.str _ _) .nil))))

noncomputable def StrOk3 (x : Step) : Prop := PyData.strOk x.name = true ∧ PyData.strOk x.kind = true ∧ PyData.strOk x.goal = true
theorem dats_ok {st : List Step} (h : ∀ x ∈ st, StrOk3 x) : ∀ d ∈ st.map stepDat, kqdOk 8 d = true := by
  intro d hd
  obtain ⟨x, hx, rfl⟩ := List.mem_map.mp hd
  obtain ⟨a, b, c⟩ := h x hx
  show ([Dat.str x.name, .int (x.place : Nat), .str x.kind, .str x.goal]).all (kqdOk 7) = true
  simp only [List.all_cons, List.all_nil, kqdOk, a, b, c, Bool.and_self]

section
variable {prog : Program} {w : World} {A : Around} {E : Value → Shared → Prop} {s : Shared} {h₀ : Heap} {L a b : Addr} {news : List (Addr × Obj)} {Q : Value → Shared → Prop} {x y : Array Value} {n1 n2 : Nat} {st : List Step}

theorem eq_logs (N : News h₀ L s.heap news) (ma : (a, listOf x n1) ∈ news) (mb : (b, listOf y n2) ∈ news) (hx : All2 IntIs x.toList st) (hy : All2 IntIs y.toList st) (hu : A.units + 64 < cLine) (h : Q (.bool true) s) :
    wpAny (model prog w) A (compareOp .Eq (.ref a) (.ref b)) Q E s := by
  refine eq_intsK (vs := x.toList) (us := y.toList) ⟨_, (N _ ma).1, rfl, n1, by simp⟩ (ints_of hx) ⟨_, (N _ mb).1, rfl, n2, by simp⟩ (ints_of hy) hu ?_
  rw [decide_eq_true rfl]; exact h

theorem eq_steps {l1 l2 : List (Addr × Obj)} (N : News h₀ L s.heap news) (ma : (a, listOf x n1) ∈ news) (mb : (b, listOf y n2) ∈ news) (hx : All2 (StepIn l1) x.toList st) (hy : All2 (StepIn l2) y.toList st) (s1 : ∀ p ∈ l1, p ∈ news) (s2 : ∀ p ∈ l2, p ∈ news)
    (hk : ∀ x ∈ st, StrOk3 x) (hu : A.units + 64 < cLine) (h : Q (.bool true) s) : wpAny (model prog w) A (compareOp .Eq (.ref a) (.ref b)) Q E s := by
  refine kqd_eq (xs := x.toList) (ys := y.toList) (ka := n1) (kb := n2) N ma rfl rfl (dats_of hx) s1 mb rfl rfl (dats_of hy) s2 (dats_ok hk) (dats_ok hk) hu ?_
  simpa using h
end

section
variable {prog : Program} {w : World} {A : Around} {E : Value → Shared → Prop} {s : Shared} {r1 r2 : Addr} {Q : Value → Shared → Prop} {k1 g1 : Str} {t1 t2 t3 t4 : Tok}
theorem reads_tup2 {h : Heap} {r : Addr} (e : h.get? r = some (tup2 k1 g1 t1 t2)) : Reads h (.ref r) (.tuple [.str k1, .str g1]) [] :=
  Reads.tuple (as := []) e rfl rfl (.cons (.str _ _) (.cons (.str _ _) .nil))
end

end Mine
end

section
open PySem PySem.W PyProof.Rows PySem.Calls PyProof.V
namespace Mine
theorem freshK1 : True := by
  w_top off
  k_with_none
  trivial

/-- a plain dict that is empty -/
noncomputable def EmptyP (P : Addr → Obj → Prop) (a : Addr) : Prop := (∃ o ep, P a o ∧ o.ExactDict ∧ o.data = .dict #[] ep) ∧ (a == sysModules) = false
noncomputable abbrev InHeap (h : Heap) : Addr → Obj → Prop := fun a o => h.get? a = some o
noncomputable abbrev InLedger (l : List (Addr × Obj)) : Addr → Obj → Prop := fun a o => (a, o) ∈ l
noncomputable abbrev EmptyD (h : Heap) (a : Addr) : Prop := EmptyP (InHeap h) a
theorem EmptyP.imp {P P' : Addr → Obj → Prop} {a : Addr} (x : EmptyP P a) (k : ∀ b o, P b o → P' b o) : EmptyP P' a := ⟨let ⟨o, ep, a, b, c⟩ := x.1; ⟨o, ep, k _ _ a, b, c⟩, x.2⟩
theorem EmptyP.of {prog : Program} {w : World} {P : Addr → Obj → Prop} {a : Addr} {o : Obj} (e : P a o) (d : o.IsDictOf (strKind prog w) []) (n : (a == sysModules) = false) : EmptyP P a := by
  obtain ⟨es, ep, h1, h2, _, h4, _⟩ := d
  refine ⟨⟨o, ep, e, h1, ?_⟩, n⟩
  rw [h2]
  obtain ⟨l⟩ := es
  cases h4
  rfl
theorem EmptyP.dictOf {h : Heap} {a : Addr} (x : EmptyD h a) (prog : Program) (w : World) : h.DictOf (strKind prog w) a [] := by
  obtain ⟨⟨o, ep, e, h1, h2⟩, _⟩ := x
  exact ⟨o, #[], ep, e, h1, h2, (fun _ hm => nomatch hm), .nil, List.nodup_nil⟩
section
variable {prog : Program} {w : World} {A : Around} {E : Value → Shared → Prop} {s : Shared} {l1 l2 : Addr} {Q : Value → Shared → Prop} {x y : Array Value} {n1 n2 : Nat}
noncomputable def BothEmpty (h : Heap) (a b : Value) : Prop := ∃ i j, a = .ref i ∧ b = .ref j ∧ EmptyD h i ∧ EmptyD h j
theorem eqAt_empty {i j : Addr} (hi : EmptyD s.heap i) (hj : EmptyD s.heap j) (hu : A.units < cLine) : SeqAt.EqAt A s (.ref i) (.ref j) true := by
  by_cases q : i = j
  · subst q; exact SeqAt.EqAt.same _
  · refine SeqAt.EqAt.of_refs q fun prog w E Q hq => ?_
    exact keq_eq (r := true) hi.2 hj.2 (hi.dictOf prog w) (hj.dictOf prog w) hu (fun _ => KeqHits.nil) hq
theorem all2_get {α β : Type} {R : α → β → Prop} : ∀ {l : List α} {m : List β}, All2 R l m → l.length = m.length ∧ ∀ j (h1 : j < l.length) (h2 : j < m.length), R l[j] m[j]
  | _, _, .nil => ⟨rfl, fun _ h _ => nomatch h⟩
  | _, _, .cons a r => by
    obtain ⟨h1, h2⟩ := all2_get r
    refine ⟨by simp [h1], fun j p q => ?_⟩
    cases j with
    | zero => exact a
    | succ j => exact h2 j (by simpa using p) (by simpa using q)
theorem ne_dicts (ex : s.heap.get? l1 = some (listOf x n1)) (ey : s.heap.get? l2 = some (listOf y n2)) (hb : All2 (BothEmpty s.heap) x.toList y.toList) (hu : A.units + 64 < cLine) (h : Q (.bool false) s) :
    wpAny (model prog w) A (compareOp .NotEq (.ref l1) (.ref l2)) Q E s := by
  obtain ⟨hz, hg⟩ := all2_get hb
  have hz' : x.size = y.size := by simpa using hz
  have R := SeqAt.RcNeAt.lists (A := A) (s := s) (e := fun _ => true) ⟨_, ex, rfl, n1, rfl⟩ ⟨_, ey, rfl, n2, rfl⟩ hz' (by omega) (fun j h1 h2 => by
    obtain ⟨i, k, e1, e2, g1, g2⟩ := hg j (by simpa using h1) (by simpa using h2)
    have e1' : x[j] = .ref i := by simpa using e1
    have e2' : y[j] = .ref k := by simpa using e2
    rw [e1', e2']
    exact eqAt_empty g1 g2 (by show A.units + 1 < cLine; omega))
  have e0 : (!(List.range x.size).all fun _ => true) = false := by simp
  exact R prog w E Q (e0.symm ▸ h)
end

structure KeptP (prog : Program) (w : World) (P : Addr → Obj → Prop) (sc : Addr) (now : Int) (hook : Str) (kf : List (Str × Value)) : Prop where
  is : ∃ ds es n a1 a2 a3 a4 a5 a6 a7 rp fd n' t1 t2 t3 t4 t5 of, P sc (instObj 64 ds) ∧ P ds (dictOf es n) ∧
    (getL "sets" es = some (some (.ref a1)) ∧ getL "objects" es = some (some (.ref a2)) ∧ getL "readers" es = some (some (.ref a3)) ∧ getL "doers" es = some (some (.ref a4)) ∧ getL "ops" es = some (some (.ref a5)) ∧ getL "tools" es = some (some (.ref a6)) ∧ getL "homes" es = some (some (.ref a7))) ∧
    (EmptyP P a1 ∧ EmptyP P a2 ∧ EmptyP P a3 ∧ EmptyP P a4 ∧ EmptyP P a5 ∧ EmptyP P a6 ∧ EmptyP P a7) ∧
    (getL "replies" es = some (some (.ref rp)) ∧ P rp (listOf #[] n')) ∧
    (getL "fields" es = some (some (.ref fd)) ∧ (fd == sysModules) = false ∧ P fd of ∧ of.IsDictOf (strKind prog w) kf) ∧
    getL "packet" es = some (some .none) ∧ getL "talk" es = some (some .none) ∧ getL "talks" es = some (some .none) ∧
    getL "now" es = some (some (.int now t1)) ∧ getL "hook" es = some (some (.str hook t2)) ∧ getL "state" es = some (some (.int 1 t3)) ∧ getL "is_reply" es = some (some (.int 0 t4)) ∧ getL "order" es = some (some (.str "little" t5))
theorem KeptP.imp {prog : Program} {w : World} {P P' : Addr → Obj → Prop} {sc : Addr} {now : Int} {hook : Str} {kf : List (Str × Value)} (x : KeptP prog w P sc now hook kf) (k : ∀ b o, P b o → P' b o) : KeptP prog w P' sc now hook kf := by
  obtain ⟨ds, es, n, a1, a2, a3, a4, a5, a6, a7, rp, fd, n', t1, t2, t3, t4, t5, of, e1, e2, q, ⟨m1, m2, m3, m4, m5, m6, m7⟩, ⟨r1, r2⟩, ⟨f1, f2, f3, f4⟩, z⟩ := x.is
  exact ⟨ds, es, n, a1, a2, a3, a4, a5, a6, a7, rp, fd, n', t1, t2, t3, t4, t5, of, k _ _ e1, k _ _ e2, q, ⟨m1.imp k, m2.imp k, m3.imp k, m4.imp k, m5.imp k, m6.imp k, m7.imp k⟩, ⟨r1, k _ _ r2⟩, ⟨f1, f2, k _ _ f3, f4⟩, z⟩

section
variable {prog : Program} {w : World} {A : Around} {E : Value → Shared → Prop} {s : Shared} {r1 r2 : Addr} {Q : Value → Shared → Prop} {a b : Int} {x y : Str} {c : Int} {t1 t2 t3 t4 t5 u1 u2 u3 u4 u5 : Tok}
noncomputable abbrev five (a c b : Int) (x y : Str) (t1 t2 t3 t4 t5 : Tok) : Obj := { cls := .type "tuple", data := .seq #[.int a t1, .str x t2, .int b t3, .int c t4, .str y t5] 0 }
theorem reads_five {h : Heap} {r : Addr} (e : h.get? r = some (five a c b x y t1 t2 t3 t4 t5)) : Reads h (.ref r) (.tuple [.int a, .str x, .int b, .int c, .str y]) [] :=
  Reads.tuple (as := []) e rfl rfl (.cons (.int _ _) (.cons (.str _ _) (.cons (.int _ _) (.cons (.int _ _) (.cons (.str _ _) .nil)))))
theorem eq_fives (e1 : s.heap.get? r1 = some (five a c b x y t1 t2 t3 t4 t5)) (e2 : s.heap.get? r2 = some (five a c b x y u1 u2 u3 u4 u5)) (hk : PyData.strOk x = true) (hg : PyData.strOk y = true) (hu : A.units + 64 < cLine) (h : Q (.bool true) s) :
    wpAny (model prog w) A (compareOp .Eq (.ref r1) (.ref r2)) Q E s := by
  have sh : SeqAt.shaped (.tuple [.int a, .str x, .int b, .int c, .str y]) = true := by
    simp [SeqAt.shaped, PyData.canLay0, PyData.canLayAll0, PyData.depth, PyData.depthAll, hk, hg]
  refine eq_dataH (reads_five e1) (reads_five e2) sh sh hu ?_
  have : PyData.eqv (.tuple [.int a, .str x, .int b, .int c, .str y]) (.tuple [.int a, .str x, .int b, .int c, .str y]) = true := by simp [PyData.eqv, PyData.eqvAll]
  rw [this]; exact h
end

noncomputable def sceneNames : List Str := ["sets", "objects", "readers", "doers", "ops", "tools", "homes", "replies", "fields", "packet", "talk", "talks", "now", "hook", "state", "is_reply", "order"]
structure Cls64b (K : Frag) : Prop where
  hd : hasDictIn K 64 = true
  g : ∀ n ∈ sceneNames, plainGet K 64 n = true
  f : ∀ n ∈ sceneNames, findIn K (.ref 64) n = some none

set_option maxHeartbeats 4000000 in
theorem cls64b {w : World} {h : Heap} (X : (hd.heap_39 w.params).In h) : Cls64b (hd.heap_39 w.params) := by
  suffices hz : PySem.Challenge.rw_pq1068_01 = PySem.Challenge.rw_pq1068_01 → (hd.heap_39 w.params).In h → Cls64b (hd.heap_39 w.params) from hz rfl X
  clear X
  k_fill
  intro _ X
  refine ⟨?_, ?_, ?_⟩
  · k_is
  · intro n hn
    simp only [sceneNames, List.mem_cons, List.not_mem_nil, or_false] at hn
    rcases hn with rfl | rfl | rfl | rfl | rfl | rfl | rfl | rfl | rfl | rfl | rfl | rfl | rfl | rfl | rfl | rfl | rfl
    all_goals k_is
  · intro n hn
    simp only [sceneNames, List.mem_cons, List.not_mem_nil, or_false] at hn
    rcases hn with rfl | rfl | rfl | rfl | rfl | rfl | rfl | rfl | rfl | rfl | rfl | rfl | rfl | rfl | rfl | rfl | rfl
    all_goals k_is

section
variable {prog : Program} {w : World} {A : Around} {E : Value → Shared → Prop} {s : Shared} {h₀ : Heap} {L sc ds : Addr} {m : Str → Option Value} {K : Frag} {es : List DictEntry} {n : Nat} {v : Value} {name : Str}
theorem get_sc {expr : Bool} {Q : Value → Shared → Prop} (F : Fr h₀ L s.heap m) (X : K.In h₀) (C : Cls64b K) (a : h₀.get? sc = some (instObj 64 ds)) (b : h₀.get? ds = some (dictOf es n)) (hn : name ∈ sceneNames) (c : getL name es = some (some v)) (hv : handedIn v = true)
    (h : Q v { s with toks := s.toks + 1 }) : wpAny (model prog w) A (getAttr (.ref sc) name expr) Q E s := by
  have I : InstAt s.heap sc (instObj 64 ds) 64 (some (dictOf es n)) := ⟨F.keep _ _ a, rfl, rfl, F.keep _ _ b⟩
  exact get_own F X I (C.g _ hn) C.hd (C.f _ hn) (by rfl) c hv h
end


theorem linesK1 : True := by
  k_with "getAttr ref" => (k_here; k_dflt (refine' get_sc ?k1 ?k2 ?k3 ?k4 ?k5 ?k6 ?k7 ?k8 ?_; (case k1 => k_asm); (case k2 => k_asm); (case k3 => assumption); (case k4 => assumption); (case k5 => assumption); (case k6 => decide); (case k7 => assumption); (case k8 => rfl); k_whole))
  k_with "compareOp NotEq ref ref" => (refine Stop.go ?_)
  k_with "compareOp Eq ref ref" => (refine Stop.go ?_)
  trivial
set_option maxHeartbeats 8000000 in
theorem kept_ok {w : World} {A : Around} {s : Shared} {base : Heap} {outer : List Env} {p : Program} {loose : List Str} {mean : ExcName → Option Value} {mg mb : Str → Option Value} {R : Result → Shared → Prop}
    {sc fd' : Addr} {now : Int} {hook : Str} {kf kf' : List (Str × Value)} {tn th : Tok}
    (B : Below A base outer (hideAll s.heap [])) (X : (hd.heap_39 w.params).In (hideAll s.heap [])) (T : Top p loose mean mg mb (hideAll s.heap [])) (hh : A.handled = none) (hroom : A.depth + 4 < recursionLimit) (hu : A.units + 200 < cLine)
    (S : KeptP PySem.Challenge.rw_pq1068_01.row.prog w (InHeap (hideAll s.heap [])) sc now hook kf) (hfd : (fd' == sysModules) = false) (hdd : (hideAll s.heap []).DictOf (strKind PySem.Challenge.rw_pq1068_01.row.prog w) fd' kf')
    (hlen : kf.length = kf'.length) (hits : ∀ A s, A.units < cLine → KeqHits A s kf' kf true) (hsh : PyData.strOk hook = true)
    (hR : ∀ h' tk', Keeps [] s.heap h' → R (.ok (.ret (.bool true))) { s with heap := h', toks := tk' }) :
    codeAny (model PySem.Challenge.rw_pq1068_01.row.prog w) A (.call (.ref 137) ⟨[.ref sc, .int now tn, .str hook th, .ref fd'], []⟩) R s := by
  obtain ⟨hdl, dp, fr, gd, un⟩ := A
  obtain rfl : hdl = none := hh
  obtain rfl : fr = some outer := B.stack
  replace hroom : dp + 4 < recursionLimit := hroom
  replace hu : un + 200 < cLine := hu
  have C := cls64b X
  obtain ⟨ds, es, n, a1, a2, a3, a4, a5, a6, a7, rp, fd, n', t1, t2, t3, t4, t5, of0, e1, e2, ⟨q1, q2, q3, q4, q5, q6, q7⟩, ⟨m1, m2, m3, m4, m5, m6, m7⟩, ⟨r1, r2⟩, ⟨f1, f2, f30, f31⟩, p1, p2, p3, p4, p5, p6, p7, p8⟩ := S.is
  have f3 : (hideAll s.heap []).DictOf (strKind PySem.Challenge.rw_pq1068_01.row.prog w) fd kf := Heap.dictOf_iff.mpr ⟨_, f30, f31⟩
  clear S f30 f31
  replace e1 : (hideAll s.heap []).get? sc = _ := e1
  replace e2 : (hideAll s.heap []).get? ds = _ := e2
  replace r2 : (hideAll s.heap []).get? rp = _ := r2
  revert X; k_fill; intro X
  refine' enter (news := []) (binds := [(Str.ofString "scene", .ref sc), (Str.ofString "now", .int now tn), (Str.ofString "hook", .str hook th), (Str.ofString "fields", .ref fd')]) B X T ?hN ?ho ?hcd ?hroom ?hbind ?hloc ?h ?c2 ?c3 ?c4 ?c5
  case hN => intro q hq; cases hq
  case ho => k_is
  case hcd => k_is
  case hroom => show dp < _; omega
  case hbind => exact BindsTo.of_eq rfl
  case hloc => exact locs rfl
  case c2 => exact rfl
  case c3 => exact rfl
  case c4 => exact rfl
  case c5 => decide
  intro g L' h₁ hg F N B' X' T' l1
  subst hg
  try dsimp only
  k_fold
  k_steps
  rename_i d6 x6 o6 lo6 hs6 fs6 hi6 fi6 l6 d5 x5 o5 lo5 hs5 fs5 hi5 fi5 l5 d4 x4 o4 lo4 hs4 fs4 hi4 fi4 l4 d3 x3 o3 lo3 hs3 fs3 hi3 fi3 l3 d2 x2 o2 lo2 hs2 fs2 hi2 fi2 l2 d1 x1 o1 lo1 hs1 fs1 hi1 fi1 l1 d0 x0 o0 lo0 hs0 fs0 hi0 fi0 l0 lst hh1 F3 N3 lz
  refine Stop.out (ne_dicts (x := #[.ref a1, .ref a2, .ref a3, .ref a4, .ref a5, .ref a6, .ref a7]) (N3 (_, listOf #[.ref a1, .ref a2, .ref a3, .ref a4, .ref a5, .ref a6, .ref a7] 0) (by k_mem)).1 (N3 _ (List.Mem.head _)).1 ?hb (by show un + 3 + 64 < cLine; omega) ?_)
  case hb =>
    refine .cons ⟨_, _, rfl, rfl, m1.imp F3.keep, ?_⟩ (.cons ⟨_, _, rfl, rfl, m2.imp F3.keep, ?_⟩ (.cons ⟨_, _, rfl, rfl, m3.imp F3.keep, ?_⟩ (.cons ⟨_, _, rfl, rfl, m4.imp F3.keep, ?_⟩ (.cons ⟨_, _, rfl, rfl, m5.imp F3.keep, ?_⟩ (.cons ⟨_, _, rfl, rfl, m6.imp F3.keep, ?_⟩ (.cons ⟨_, _, rfl, rfl, m7.imp F3.keep, ?_⟩ .nil))))))
    · exact EmptyP.of (N3 (_, o6) (by k_mem)).1 hs6 lo6
    · exact EmptyP.of (N3 (_, o5) (by k_mem)).1 hs5 lo5
    · exact EmptyP.of (N3 (_, o4) (by k_mem)).1 hs4 lo4
    · exact EmptyP.of (N3 (_, o3) (by k_mem)).1 hs3 lo3
    · exact EmptyP.of (N3 (_, o2) (by k_mem)).1 hs2 lo2
    · exact EmptyP.of (N3 (_, o1) (by k_mem)).1 hs1 lo1
    · exact EmptyP.of (N3 (_, o0) (by k_mem)).1 hs0 lo0
  k_steps
  (with_reducible rename Fr _ _ _ _ => F4)
  (with_reducible rename News _ _ _ _ => N4)
  refine Stop.out (ne_dicts (x := #[]) (F4.keep _ _ r2) (N4 _ (List.Mem.head _)).1 .nil (by show un + 3 + 64 < cLine; omega) ?_)
  k_steps
  (with_reducible rename Fr _ _ _ _ => F5)
  refine Stop.out (keq_ne (r := true) f2 hfd (f3.keep F5.keep) (hdd.keep F5.keep) (by show un + 3 < cLine; omega) (fun _ => hits _ _ (by show un + 3 + 1 < cLine; omega)) ?_)
  rw [hlen, beq_self_eq_true]
  dsimp only [Bool.and_true, Bool.not_true]
  k_steps
  (with_reducible rename Fr _ _ _ _ => F6)
  (with_reducible rename News _ _ _ _ => N6)
  refine Stop.out (eq_fives (N6 (_, five now 0 1 hook "little" t1 t2 t3 t4 t5) (.tail _ (.head _))).1 (N6 _ (List.Mem.head _)).1 hsh (by decide +kernel) (by show un + 3 + 64 < cLine; omega) ?_)
  k_steps
  all_goals exact hR _ _ (Keeps.of_fr (by assumption))

theorem Moved.of_keeps {fs : List Addr} {h h' : Heap} (k : Keeps [] h h') : Moved fs [] h h' := fun b o e hb => ⟨fun _ => k b o hb e, o.slots, k b o hb e⟩

section
variable {w : World} {A : Around} {s : Shared} {base h₀ : Heap} {outer : List Env} {p : Program} {loose : List Str} {mean : ExcName → Option Value} {mg mb : Str → Option Value} {L : Addr} {m : Str → Option Value} {env : Env}
  {Q : Value → Shared → Prop} {E : Value → Shared → Prop} {sc fd' : Addr} {now : Int} {hook : Str} {kf kf' : List (Str × Value)} {tn th : Tok} {l news : List (Addr × Obj)} {od : Obj}

theorem kept_K (B : Below A base outer h₀) (F : Fr h₀ L s.heap m) (X : (hd.heap_39 w.params).In h₀) (T : Top p loose mean mg mb h₀) (N : News h₀ L s.heap news) (hf : env.frame = some L) (hke : env.scope.kind = .function)
    (hh : A.handled = none) (hroom : A.depth + 10 < recursionLimit) (hu : A.units + 300 < cLine) (S : KeptP PySem.Challenge.rw_pq1068_01.row.prog w (InLedger l) sc now hook kf) (hsub : ∀ p ∈ l, p ∈ news)
    (hfd : (fd' == sysModules) = false) (hm : (fd', od) ∈ news) (hdd : od.IsDictOf (strKind PySem.Challenge.rw_pq1068_01.row.prog w) kf')
    (hlen : kf.length = kf'.length) (hits : ∀ A s, A.units < cLine → KeqHits A s kf' kf true) (hsh : PyData.strOk hook = true)
    (hR : ∀ h' tk', Keeps [] s.heap h' → Q (.bool true) { s with heap := h', toks := tk' }) :
    wpAny (model PySem.Challenge.rw_pq1068_01.row.prog w) (A.deeper env) (call (.ref 137) [.ref sc, .int now tn, .str hook th, .ref fd']) Q E s := by
  obtain ⟨B', X', T'⟩ := down (M := []) (env := env) (news := []) B F X (fun q hq => nomatch hq) T hf hke (fun a ha => nomatch ha)
  have up : ∀ b o, s.heap.get? b = some o → (hideAll s.heap []).get? b = some o := fun b o e => hideAll_get _ e (fun q => nomatch q)
  refine wpAny_call (kept_ok B' X' T' hh (by rw [depth_deeper]; omega) (by show A.units + 3 + 200 < cLine; omega) (S.imp fun b o z => up _ _ (N _ (hsub _ z)).1) hfd (Heap.dictOf_iff.mpr ⟨_, up _ _ (N _ hm).1, hdd⟩) hlen hits hsh ?_)
  intro h' tk' hk
  exact hR h' tk' hk
end

end Mine
end

section
open PySem PySem.W PyProof.Rows PySem.Calls PyProof.V
namespace Mine
theorem hits_x {x : Str} {i : Int} {t t' : Tok} (A : Around) (s : Shared) (_ : A.units < cLine) : KeqHits A s [(x, .int i t')] [(x, .int i t)] true := by
  have := KeqHits.hit (A := A) (s := s) (kb := [(x, Value.int i t')]) (k := x) (v := .int i t) (y := .int i t') (by simp [valueAt]) (SeqAt.EqAt.int_int i t i t') KeqHits.nil
  rw [beq_self_eq_true] at this
  exact this
theorem hits_nil (A : Around) (s : Shared) (_ : A.units < cLine) : KeqHits (K := Str) A s [] [] true := KeqHits.nil

end Mine
end

section
open PySem PySem.W PyProof.Rows PySem.Calls PyProof.V
namespace Mine
theorem verd_ref {h₀ h₂ : Heap} {fs : List Addr} {tl : List (Addr × Obj)} {v : Value} {k g : Str} (keep : ∀ b o, h₀.get? b = some o → (b ∉ fs → h₂.get? b = some o) ∧ ∃ sl, h₂.get? b = some { o with slots := sl }) (h : VerdRet h₀ tl v (some (k, g))) :
    ∃ r9 u3 u4, v = .ref r9 ∧ ((∃ sl, h₂.get? r9 = some { tup2 k g u3 u4 with slots := sl }) ∨ (r9, tup2 k g u3 u4) ∈ tl) := by
  cases h with
  | new h => cases h with | tup m => exact ⟨_, _, _, rfl, .inr m⟩
  | «at» h => cases h with | tup e => exact ⟨_, _, _, rfl, .inl (keep _ _ e).2⟩
section
variable {prog : Program} {w : World} {A : Around} {E : Value → Shared → Prop} {s : Shared} {r1 r2 : Addr} {Q : Value → Shared → Prop} {k1 g1 : Str} {t1 t2 t3 t4 : Tok}
theorem ne_verdicts2 (e1 : ∃ sl, s.heap.get? r1 = some { tup2 k1 g1 t1 t2 with slots := sl }) (e2 : s.heap.get? r2 = some (tup2 k1 g1 t3 t4)) (hk : PyData.strOk k1 = true) (hg : PyData.strOk g1 = true) (hu : A.units + 64 < cLine) (h : Q (.bool false) s) :
    wpAny (model prog w) A (compareOp .NotEq (.ref r1) (.ref r2)) Q E s := by
  obtain ⟨sl, e1⟩ := e1
  have sh : SeqAt.shaped (.tuple [.str k1, .str g1]) = true := by
    simp [SeqAt.shaped, PyData.canLay0, PyData.canLayAll0, PyData.depth, PyData.depthAll, hk, hg]
  refine ne_dataH (Reads.tuple (as := []) e1 rfl rfl (.cons (.str _ _) (.cons (.str _ _) .nil))) (reads_tup2 e2) sh sh hu ?_
  have : PyData.eqv (.tuple [.str k1, .str g1]) (.tuple [.str k1, .str g1]) = true := by simp [PyData.eqv, PyData.eqvAll]
  rw [this]; exact h
end

end Mine
end

section
open PySem PySem.W PyProof.Rows PySem.Calls PyProof.V
namespace Mine
/-- a dict of attributes, told by what it holds -/
noncomputable def EsObj (O : Obj) (l : List (Str × Value)) : Prop := ∃ es n, O = dictOf es n ∧ es.length ≤ l.length ∧ ∀ x, getL x es = some (l.lookup x)

theorem put_ref {name : Str} {h : Int} {tk : Tok} {v : Value} : ∀ es : List DictEntry, (putL name h (.str name tk) v es).any (·.refKey) = es.any (·.refKey)
  | [] => rfl
  | en :: r => by
    unfold putL
    split
    · rw [List.any_cons, List.any_cons]; rfl
    · rw [List.any_cons, List.any_cons, put_ref r]
theorem isStr_ne {k : Value} {name x : Str} (hk : k.isStr name = true) (e : x ≠ name) : k.isStr x = false := by
  cases k with
  | str s _ =>
    have hk' : (s == name) = true := hk
    have : s = name := eq_of_beq hk'
    subst this
    show (s == x) = false
    simpa using fun q : s = x => e q.symm
  | _ => cases hk
theorem put_find {name : Str} {h : Int} {tk : Tok} {v : Value} {x : Str} : ∀ es : List DictEntry,
    ((putL name h (.str name tk) v es).find? (·.key.isStr x)).map (·.val) = if x = name then some v else (es.find? (·.key.isStr x)).map (·.val)
  | [] => by
    by_cases e : x = name
    · rw [if_pos e]; subst e
      simp [putL, Value.isStr]
    · rw [if_neg e]
      simp [putL, isStr_ne (k := .str name tk) (by simp [Value.isStr]) e]
  | en :: r => by
    unfold putL
    cases hk : en.key.isStr name with
    | true =>
      rw [if_pos rfl]
      by_cases e : x = name
      · rw [if_pos e]; subst e
        rw [List.find?_cons_of_pos (by exact hk)]; rfl
      · rw [if_neg e, List.find?_cons_of_neg (by simp [isStr_ne hk e]), List.find?_cons_of_neg (by simp [isStr_ne hk e])]
    | false =>
      rw [if_neg (by simp)]
      cases hx : en.key.isStr x with
      | true =>
        have e : x ≠ name := fun q => by rw [q, hk] at hx; cases hx
        rw [if_neg e, List.find?_cons_of_pos (by exact hx), List.find?_cons_of_pos (by exact hx)]
      | false =>
        rw [List.find?_cons_of_neg (by simp [hx]), List.find?_cons_of_neg (by simp [hx])]
        exact put_find r
theorem getL_eq {x : Str} {es : List DictEntry} : getL x es = (match (es.find? (·.key.isStr x)).map (·.val) with | some v => some (some v) | none => if es.any (·.refKey) then none else some none) := by
  unfold getL
  cases es.find? (·.key.isStr x) <;> rfl
theorem getL_put {name : Str} {h : Int} {tk : Tok} {v : Value} {x : Str} {es : List DictEntry} : getL x (putL name h (.str name tk) v es) = if x = name then some (some v) else getL x es := by
  rw [getL_eq, put_find, put_ref]
  by_cases e : x = name
  · rw [if_pos e, if_pos e]
  · rw [if_neg e, if_neg e, getL_eq]

theorem EsObj.put {name : Str} {h : Int} {tk : Tok} {v : Value} {es : List DictEntry} {n : Nat} {l : List (Str × Value)} (hl : es.length ≤ l.length) (H : ∀ x, getL x es = some (l.lookup x)) :
    EsObj (dictOf (putL name h (.str name tk) v es) (putN name es n)) ((name, v) :: l) := by
  refine ⟨_, _, rfl, ?_, fun x => ?_⟩
  · have : ∀ es : List DictEntry, (putL name h (.str name tk) v es).length ≤ es.length + 1 := by
      intro es
      induction es with
      | nil => simp [putL]
      | cons a r ih =>
        unfold putL
        split
        · simp
        · simp only [List.length_cons]; omega
    have := this es
    simp only [List.length_cons]; omega
  · rw [getL_put, H]
    by_cases e : x = name
    · subst e; simp
    · have e' : (x == name) = false := by simpa using e
      rw [if_neg e, List.lookup_cons, e']

theorem EsObj.nil : EsObj (dictOf [] 0) [] := ⟨[], 0, rfl, Nat.le_refl _, fun _ => rfl⟩

theorem upd_of {d : Addr} {o : Obj} {l : List (Addr × Obj)} {g : Obj → List (Addr × Obj)} (U : UpdF d o l g) (o' : Obj) : Upd d o o' l (g o') := by
  induction U with
  | head h => exact .head h
  | tail h _ ih => exact .tail h ih

noncomputable def initNames : List Str := ["self", "packet", "now", "hook", "talk", "state", "is_reply", "talks", "sets", "objects", "fields", "readers", "doers", "ops", "tools", "order", "log", "replies", "steps", "homes"]
structure Cls64i (K : Frag) : Prop where
  hd : hasDictIn K 64 = true
  sa : findIn K (.ref 64) "__setattr__" = some (some (.builtin "object.__setattr__"))
  ov : plainOver K 64 = true
  t : ∀ n ∈ initNames, takerIn K 64 n = some none

set_option maxHeartbeats 4000000 in
theorem cls64i {w : World} {h : Heap} (X : (hd.heap_39 w.params).In h) : Cls64i (hd.heap_39 w.params) := by
  suffices hz : PySem.Challenge.rw_pq1068_01 = PySem.Challenge.rw_pq1068_01 → (hd.heap_39 w.params).In h → Cls64i (hd.heap_39 w.params) from hz rfl X
  clear X
  k_fill
  intro _ X
  refine ⟨?_, ?_, ?_, ?_⟩
  · k_is
  · k_is
  · k_is
  · intro n hn
    simp only [initNames, List.mem_cons, List.not_mem_nil, or_false] at hn
    rcases hn with rfl | rfl | rfl | rfl | rfl | rfl | rfl | rfl | rfl | rfl | rfl | rfl | rfl | rfl | rfl | rfl | rfl | rfl | rfl | rfl
    all_goals k_is

section
variable {prog : Program} {w : World} {A : Around} {E : Value → Shared → Prop} {s : Shared} {h₀ : Heap} {L x dx : Addr} {m : Str → Option Value} {K : Frag} {O : Obj} {l : List (Str × Value)} {news : List (Addr × Obj)} {g : Obj → List (Addr × Obj)} {v : Value} {name : Str}
theorem set_es {Q : Unit → Shared → Prop} (F : Fr h₀ L s.heap m) (X₀ : K.In h₀) (N : News h₀ L s.heap news) (C : Cls64i K) (hx : (x, instObj 64 dx) ∈ news) (U : UpdF dx O news g) (hO : EsObj O l) (hz : l.length ≤ 900) (hn : name ∈ initNames)
    (h : ∀ O' h' tk', EsObj O' ((name, v) :: l) → Fr h₀ L h' m → News h₀ L h' (g O') → Q () { s with heap := h', toks := tk' }) :
    wpAny (model prog w) A (setAttr (.ref x) name v) Q E s := by
  obtain ⟨es, n, rfl, hl, H⟩ := hO
  have hm : (dx, dictOf es n) ∈ news := by
    obtain ⟨pre, post, rfl, _⟩ := U.split
    simp
  have P := EsObj.put (name := name) (h := PyData.keyHash w.params name) (tk := s.toks + 1) (v := v) (n := n) hl H
  refine set_dict F X₀ N (InstAt.of_news N hx hm) rfl C.sa C.ov (C.t _ hn) C.hd (by rw [H]; rfl) rfl (upd_of U _) ?_ fun h' F' N' => h _ h' _ P F' N'
  obtain ⟨_, _, e, hl', _⟩ := P
  have : (putL name (PyData.keyHash w.params name) (.str name (s.toks + 1)) v es).length ≤ ((name, v) :: l).length := by
    have := congrArg (fun o : Obj => match o.data with | .dict a _ => a.size | _ => 0) e
    simp only [List.size_toArray] at this
    rw [this]; exact hl'
  simp only [List.length_cons] at this
  omega
end

end Mine
end

section
open PySem PySem.W PyProof.Rows PySem.Calls PyProof.V
namespace Mine
theorem freshS2 : True := by
  w_top off
  k_with_none
  trivial

/-- what a scene's dict holds of a new scene -/
structure ScP (prog : Program) (w : World) (P : Addr → Obj → Prop) (es : List DictEntry) (lg fd : Addr) (stv : Value) (now : Int) (hook : Str) : Prop where
  log : getL "log" es = some (some (.ref lg))
  steps : getL "steps" es = some (some stv)
  fields : getL "fields" es = some (some (.ref fd))
  is : ∃ a1 a2 a3 a4 a5 a6 a7 rp n' t1 t2 t3 t4 t5,
    (getL "sets" es = some (some (.ref a1)) ∧ getL "objects" es = some (some (.ref a2)) ∧ getL "readers" es = some (some (.ref a3)) ∧ getL "doers" es = some (some (.ref a4)) ∧ getL "ops" es = some (some (.ref a5)) ∧ getL "tools" es = some (some (.ref a6)) ∧ getL "homes" es = some (some (.ref a7))) ∧
    (EmptyP P a1 ∧ EmptyP P a2 ∧ EmptyP P a3 ∧ EmptyP P a4 ∧ EmptyP P a5 ∧ EmptyP P a6 ∧ EmptyP P a7) ∧
    (getL "replies" es = some (some (.ref rp)) ∧ P rp (listOf #[] n')) ∧
    getL "packet" es = some (some .none) ∧ getL "talk" es = some (some .none) ∧ getL "talks" es = some (some .none) ∧
    getL "now" es = some (some (.int now t1)) ∧ getL "hook" es = some (some (.str hook t2)) ∧ getL "state" es = some (some (.int 1 t3)) ∧ getL "is_reply" es = some (some (.int 0 t4)) ∧ getL "order" es = some (some (.str "little" t5))

theorem all_put {α : Type} {P : α → Prop} {a : α} {l : List α} (h : P a) (t : ∀ q ∈ l, P q) : ∀ q ∈ a :: l, P q := fun q hq => by
  cases hq with
  | head => exact h
  | tail _ hq => exact t q hq
theorem fresh2 {h h' : Heap} {x dx L a : Addr} {o : Obj} {l : List (Addr × Obj)} (N : News (hideAll h [x, dx]) L h' l) (hm : (a, o) ∈ l) (h1 : x < a) (h2 : dx < a) : h'.get? a = some o ∧ h.get? a = none := by
  refine ⟨(N _ hm).1, ?_⟩
  cases z : h.get? a with
  | none => rfl
  | some o =>
    have := (N _ hm).2.2
    rw [hideAll_get _ z (by simp only [List.mem_cons, List.not_mem_nil, or_false, not_or]; exact ⟨Nat.ne_of_gt h1, Nat.ne_of_gt h2⟩)] at this
    cases this


theorem linesS2 : True := by
  k_with "setAttr ref" => (k_here; k_dflt (refine' set_es ?k1 ?k2 ?k3 ?k4 ?k5 ?k6 ?k7 ?k8 ?k9 ?_; (case k1 => k_asm); (case k2 => k_asm); (case k3 => k_asm); (case k4 => assumption); (case k5 => k_mem); (case k6 => k_updF); (case k7 => assumption); (case k8 => exact Nat.le_of_ble_eq_true rfl); (case k9 => decide); k_whole); intro _ _ _ E' F' N'; (try dsimp only at N'); (try dsimp only at E'); revert E' F' N'; intro _ _ _; (try k_sweep))
  trivial
set_option maxHeartbeats 8000000 in
theorem init_ok {w : World} {A : Around} {s : Shared} {base : Heap} {outer : List Env} {p : Program} {loose : List Str} {mean : ExcName → Option Value} {mg mb : Str → Option Value} {R : Result → Shared → Prop}
    {x dx fd : Addr} {now : Int} {hook : Str} {tn th : Tok} {args : Args}
    (hargs : args = ⟨[.ref x, .none, .ref fd, .int now tn, .str hook th], []⟩ ∨ (args = ⟨[.ref x, .none, .ref fd], []⟩ ∧ now = 0 ∧ hook = Str.ofString "input" ∧ tn = 249 ∧ th = 250))
    (B : Below A base outer (hideAll s.heap [x, dx])) (X : (hd.heap_39 w.params).In (hideAll s.heap [x, dx])) (T : Top p loose mean mg mb (hideAll s.heap [x, dx])) (hh : A.handled = none) (hroom : A.depth + 4 < recursionLimit)
    (hx : s.heap.get? x = some (instObj 64 dx)) (hd : s.heap.get? dx = some (dictOf [] 0)) (hne : dx ≠ x)
    (hR : ∀ h' tk' es n lg tl, Keeps [x, dx] s.heap h' → h'.get? x = some (instObj 64 dx) → h'.get? dx = some (dictOf es n) → h'.get? lg = some (listOf #[] 0) → s.heap.get? lg = none →
      (∀ q ∈ tl, h'.get? q.1 = some q.2 ∧ s.heap.get? q.1 = none ∧ q.1 ≠ lg) → ScP PySem.Challenge.rw_pq1068_01.row.prog w (InLedger tl) es lg fd .none now hook → es.length ≤ 60 → R (.ok (.ret .none)) { s with heap := h', toks := tk' }) :
    codeAny (model PySem.Challenge.rw_pq1068_01.row.prog w) A (.call (.ref 61) args) R s := by
  obtain ⟨hdl, dp, fr, gd, un⟩ := A
  obtain rfl : hdl = none := hh
  obtain rfl : fr = some outer := B.stack
  replace hroom : dp + 4 < recursionLimit := hroom
  have C := cls64i X
  have hxd : x ≠ dx := Ne.symm hne
  obtain ⟨O, hO, hE⟩ : ∃ O, s.heap.get? dx = some O ∧ EsObj O [] := ⟨_, hd, EsObj.nil⟩
  clear hd
  revert X; k_fill; intro X
  refine' enter (news := [(x, instObj 64 dx), (dx, O)]) (binds := [(Str.ofString "self", .ref x), (Str.ofString "packet", .none), (Str.ofString "fields", .ref fd), (Str.ofString "now", .int now tn), (Str.ofString "hook", .str hook th)]) B X T ?hN ?ho ?hcd ?hroom ?hbind ?hloc ?h ?c2 ?c3 ?c4 ?c5
  case hN =>
    intro q hq'
    rcases List.mem_cons.mp hq' with rfl | hq'
    · exact ⟨hx, .head _⟩
    · rw [List.mem_singleton.mp hq']; exact ⟨hO, .tail _ (.head _)⟩
  case ho => k_is
  case hcd => k_is
  case hroom => show dp < _; omega
  case hbind =>
    have Xs := X.keeps (fun b o e => of_hideAll _ e : (hideAll s.heap [x, dx]).StaysIn s.heap)
    rcases hargs with rfl | ⟨rfl, rfl, rfl, rfl, rfl⟩
    · refine' binds_K Xs ?d ?o ?s ?h1 ?h2
      case d => exact rfl
      case o => k_is
      case s => exact rfl
      case h1 => exact rfl
      case h2 => exact rfl
    · refine' binds_K Xs ?d ?o ?s ?h1 ?h2
      case d => exact rfl
      case o => k_is
      case s => exact rfl
      case h1 => exact rfl
      case h2 => exact rfl
  case hloc => exact locs rfl
  case c2 => exact rfl
  case c3 => exact rfl
  case c4 => exact rfl
  case c5 => decide
  intro g L' h₁ hg' F N B' X' T' lq
  subst hg'
  try dsimp only
  k_fold
  k_steps
  rename_i d6 hD6 o6 lo6 hs6 fs6 hi6 fi6 l6 O11 hO11 tO11 E11 d5 hD5 o5 lo5 hs5 fs5 hi5 fi5 l5 O10 hO10 tO10 E10 O9 hO9 tO9 E9 d4 hD4 o4 lo4 hs4 fs4 hi4 fi4 l4 O8 hO8 tO8 E8 d3 hD3 o3 lo3 hs3 fs3 hi3 fi3 l3 O7 hO7 tO7 E7 d2 hD2 o2 lo2 hs2 fs2 hi2 fi2 l2 O6 hO6 tO6 E6 d1 hD1 o1 lo1 hs1 fs1 hi1 fi1 l1 O5 hO5 tO5 E5 O4 hO4 tO4 E4 lg hlg llg O3 hO3 tO3 E3 rp hrp lrp O2 hO2 tO2 E2 O1 hO1 tO1 E1 d0 hD0 o0 lo0 hs0 fs0 hi0 fi0 l0 OZ hZ tZ EZ FZ NZ
  clear E1 E2 E3 E4 E5 E6 E7 E8 E9 E10 E11
  obtain ⟨es, n, rfl, hl, H⟩ := EZ
  have f0 := fresh2 NZ (a := d0) (o := o0) (by k_mem) l0.2.2.2.2.2.2.2.2.1 l0.2.2.2.2.2.2.2.2.2
  have frp := fresh2 NZ (a := rp) (o := listOf #[] 0) (by k_mem) lrp.2.2.2.2.2.2.2.1 lrp.2.2.2.2.2.2.2.2
  have flg := fresh2 NZ (a := lg) (o := listOf #[] 0) (by k_mem) llg.2.2.2.2.2.2.1 llg.2.2.2.2.2.2.2
  have f1 := fresh2 NZ (a := d1) (o := o1) (by k_mem) l1.2.2.2.2.2.1 l1.2.2.2.2.2.2
  have f2 := fresh2 NZ (a := d2) (o := o2) (by k_mem) l2.2.2.2.2.1 l2.2.2.2.2.2
  have f3 := fresh2 NZ (a := d3) (o := o3) (by k_mem) l3.2.2.2.1 l3.2.2.2.2
  have f4 := fresh2 NZ (a := d4) (o := o4) (by k_mem) l4.2.2.1 l4.2.2.2
  have f5 := fresh2 NZ (a := d5) (o := o5) (by k_mem) l5.2.1 l5.2.2
  have f6 := fresh2 NZ (a := d6) (o := o6) (by k_mem) l6.1 l6.2
  refine hR _ _ es n lg [(d0, o0), (rp, listOf #[] 0), (d1, o1), (d2, o2), (d3, o3), (d4, o4), (d5, o5), (d6, o6)] (Keeps.of_fr FZ) (NZ (x, instObj 64 dx) (by k_mem)).1 (NZ (dx, dictOf es n) (by k_mem)).1 flg.1 flg.2
    (all_put ⟨f0.1, f0.2, Nat.ne_of_gt l0.2.1⟩ (all_put ⟨frp.1, frp.2, Nat.ne_of_gt lrp.1⟩ (all_put ⟨f1.1, f1.2, Nat.ne_of_lt llg.1⟩ (all_put ⟨f2.1, f2.2, Nat.ne_of_lt llg.2.1⟩ (all_put ⟨f3.1, f3.2, Nat.ne_of_lt llg.2.2.1⟩ (all_put ⟨f4.1, f4.2, Nat.ne_of_lt llg.2.2.2.1⟩ (all_put ⟨f5.1, f5.2, Nat.ne_of_lt llg.2.2.2.2.1⟩ (all_put ⟨f6.1, f6.2, Nat.ne_of_lt llg.2.2.2.2.2.1⟩ (fun _ h => nomatch h)))))))))
    ⟨(H _).trans rfl, (H _).trans rfl, (H _).trans rfl, d6, d5, d4, d3, d2, d1, d0, rp, 0, _, _, _, _, _,
      ⟨(H _).trans rfl, (H _).trans rfl, (H _).trans rfl, (H _).trans rfl, (H _).trans rfl, (H _).trans rfl, (H _).trans rfl⟩,
      ⟨EmptyP.of (P := InLedger _) (o := o6) (by show (_, _) ∈ _; k_mem) hs6 lo6, EmptyP.of (P := InLedger _) (o := o5) (by show (_, _) ∈ _; k_mem) hs5 lo5, EmptyP.of (P := InLedger _) (o := o4) (by show (_, _) ∈ _; k_mem) hs4 lo4, EmptyP.of (P := InLedger _) (o := o3) (by show (_, _) ∈ _; k_mem) hs3 lo3, EmptyP.of (P := InLedger _) (o := o2) (by show (_, _) ∈ _; k_mem) hs2 lo2, EmptyP.of (P := InLedger _) (o := o1) (by show (_, _) ∈ _; k_mem) hs1 lo1, EmptyP.of (P := InLedger _) (o := o0) (by show (_, _) ∈ _; k_mem) hs0 lo0⟩,
      ⟨(H _).trans rfl, by show (_, _) ∈ _; k_mem⟩, (H _).trans rfl, (H _).trans rfl, (H _).trans rfl, (H _).trans rfl, (H _).trans rfl, (H _).trans rfl, (H _).trans rfl, (H _).trans rfl⟩ (Nat.le_trans hl (Nat.le_of_ble_eq_true rfl))

end Mine
end

section
open PySem PySem.W PyProof.Rows PySem.Calls PyProof.V
namespace Mine
theorem ScP.imp {prog : Program} {w : World} {P P' : Addr → Obj → Prop} {es : List DictEntry} {lg fd : Addr} {stv : Value} {now : Int} {hook : Str} (x : ScP prog w P es lg fd stv now hook) (k : ∀ b o, P b o → P' b o) : ScP prog w P' es lg fd stv now hook := by
  obtain ⟨x1, x2, x3, a1, a2, a3, a4, a5, a6, a7, rp, n', t1, t2, t3, t4, t5, q, ⟨m1, m2, m3, m4, m5, m6, m7⟩, ⟨r1, r2⟩, r⟩ := x
  exact ⟨x1, x2, x3, a1, a2, a3, a4, a5, a6, a7, rp, n', t1, t2, t3, t4, t5, q, ⟨m1.imp k, m2.imp k, m3.imp k, m4.imp k, m5.imp k, m6.imp k, m7.imp k⟩, ⟨r1, k _ _ r2⟩, r⟩

theorem ScP.put {prog : Program} {w : World} {P : Addr → Obj → Prop} {es : List DictEntry} {lg fd : Addr} {stv v : Value} {now : Int} {hook : Str} {h : Int} {tk : Tok} (x : ScP prog w P es lg fd stv now hook) : ScP prog w P (putL "steps" h (.str "steps" tk) v es) lg fd v now hook := by
  have g : ∀ {y : Str} {z : Value}, y ≠ "steps" → getL y es = some (some z) → getL y (putL "steps" h (.str "steps" tk) v es) = some (some z) := fun e q => (getL_put).trans ((if_neg e).trans q)
  obtain ⟨x1, x2, x3, a1, a2, a3, a4, a5, a6, a7, rp, n', t1, t2, t3, t4, t5, ⟨q1, q2, q3, q4, q5, q6, q7⟩, m, ⟨r1, r2⟩, p1, p2, p3, p4, p5, p6, p7, p8⟩ := x
  exact ⟨g (by decide) x1, (getL_put).trans (if_pos rfl), g (by decide) x3, a1, a2, a3, a4, a5, a6, a7, rp, n', t1, t2, t3, t4, t5, ⟨g (by decide) q1, g (by decide) q2, g (by decide) q3, g (by decide) q4, g (by decide) q5, g (by decide) q6, g (by decide) q7⟩, m, ⟨g (by decide) r1, r2⟩,
    g (by decide) p1, g (by decide) p2, g (by decide) p3, g (by decide) p4, g (by decide) p5, g (by decide) p6, g (by decide) p7, g (by decide) p8⟩

theorem ScP.kept {prog : Program} {w : World} {P : Addr → Obj → Prop} {es : List DictEntry} {lg fd sc ds : Addr} {stv : Value} {now : Int} {hook : Str} {n : Nat} {of : Obj} {kf : List (Str × Value)} (x : ScP prog w P es lg fd stv now hook)
    (h1 : P sc (instObj 64 ds)) (h2 : P ds (dictOf es n)) (h3 : (fd == sysModules) = false) (h4 : P fd of) (h5 : of.IsDictOf (strKind prog w) kf) : KeptP prog w P sc now hook kf := by
  obtain ⟨x1, x2, x3, a1, a2, a3, a4, a5, a6, a7, rp, n', t1, t2, t3, t4, t5, q, m, r, r'⟩ := x
  exact ⟨ds, es, n, a1, a2, a3, a4, a5, a6, a7, rp, fd, n', t1, t2, t3, t4, t5, of, h1, h2, q, m, r, ⟨x3, h3, h4, h5⟩, r'⟩

section
variable {prog : Program} {w : World} {A : Around} {E : Value → Shared → Prop} {s : Shared} {h₀ : Heap} {L x dx : Addr} {m : Str → Option Value} {K : Frag} {news : List (Addr × Obj)} {g : Obj → List (Addr × Obj)} {v stv : Value} {es : List DictEntry} {n : Nat} {P : Addr → Obj → Prop} {lg fd : Addr} {now : Int} {hook : Str}
theorem set_steps {Q : Unit → Shared → Prop} (F : Fr h₀ L s.heap m) (X₀ : K.In h₀) (N : News h₀ L s.heap news) (C : Cls64i K) (hx : (x, instObj 64 dx) ∈ news) (U : UpdF dx (dictOf es n) news g) (S : ScP prog w P es lg fd stv now hook) (hl : es.length ≤ 60)
    (h : ∀ es' n' h' tk', ScP prog w P es' lg fd v now hook → Fr h₀ L h' m → News h₀ L h' (g (dictOf es' n')) → Q () { s with heap := h', toks := tk' }) :
    wpAny (model prog w) A (setAttr (.ref x) "steps" v) Q E s := by
  have hm : (dx, dictOf es n) ∈ news := by
    obtain ⟨pre, post, rfl, _⟩ := U.split
    simp
  refine set_dict F X₀ N (InstAt.of_news N hx hm) rfl C.sa C.ov (C.t _ (by decide)) C.hd (by rw [S.steps]; rfl) rfl (upd_of U _) ?_ fun h' F' N' => h _ _ h' _ S.put F' N'
  have : ∀ es : List DictEntry, (putL "steps" (PyData.keyHash w.params "steps") (.str "steps" (s.toks + 1)) v es).length ≤ es.length + 1 := by
    intro es
    induction es with
    | nil => simp [putL]
    | cons a r ih =>
      unfold putL
      split
      · simp
      · simp only [List.length_cons]; omega
  have := this es
  omega
end

structure Made64 (K : Frag) : Prop where
  m : makesIn K 64 = true
  i : findIn K (.ref 64) "__init__" = some (some (.ref 61))
  f : isFn K (.ref 61) = true
set_option maxHeartbeats 4000000 in
theorem made64 {w : World} {h : Heap} (X : (hd.heap_39 w.params).In h) : Made64 (hd.heap_39 w.params) := by
  suffices hz : PySem.Challenge.rw_pq1068_01 = PySem.Challenge.rw_pq1068_01 → (hd.heap_39 w.params).In h → Made64 (hd.heap_39 w.params) from hz rfl X
  clear X
  k_fill
  intro _ X
  refine ⟨?_, ?_, ?_⟩
  all_goals k_is

section
variable {w : World} {A : Around} {s : Shared} {base h₀ : Heap} {outer : List Env} {p : Program} {loose : List Str} {mean : ExcName → Option Value} {mg mb : Str → Option Value} {L : Addr} {m : Str → Option Value} {env : Env}
  {Q : Value → Shared → Prop} {E : Value → Shared → Prop} {fd : Addr} {now : Int} {hook : Str} {tn th : Tok} {pos : List Value} {news : List (Addr × Obj)}

theorem scene_K (hpos : pos = [.none, .ref fd, .int now tn, .str hook th] ∨ (pos = [.none, .ref fd] ∧ now = 0 ∧ hook = Str.ofString "input" ∧ tn = 249 ∧ th = 250))
    (B : Below A base outer h₀) (F : Fr h₀ L s.heap m) (X : (hd.heap_39 w.params).In h₀) (N : News h₀ L s.heap news) (T : Top p loose mean mg mb h₀) (hh : A.handled = none) (hroom : A.depth + 20 < recursionLimit) (hf : env.frame = some L) (hke : env.scope.kind = .function)
    (hR : ∀ h' tk' sc ds es n lg tl, Fr h₀ L h' m → News h₀ L h' ((sc, instObj 64 ds) :: (ds, dictOf es n) :: (lg, listOf #[] 0) :: (tl ++ news)) → sc ≠ ds → lg ≠ sc → lg ≠ ds → (∀ q ∈ tl, q.1 ≠ sc ∧ q.1 ≠ ds ∧ q.1 ≠ lg) → (∀ q ∈ news, q.1 ≠ sc ∧ q.1 ≠ ds ∧ q.1 ≠ lg) →
      ScP PySem.Challenge.rw_pq1068_01.row.prog w (InLedger tl) es lg fd .none now hook → es.length ≤ 60 → Q (.ref sc) { s with heap := h', toks := tk' }) :
    wpAny (model PySem.Challenge.rw_pq1068_01.row.prog w) (A.deeper env) (call (.ref 64) pos []) Q E s := by
  have M := made64 X
  refine call_cls F X N M.m M.i M.f fun x dx h' F1 N1 hlt hdx => ?_
  have hM : ∀ a ∈ [x, dx], ∃ o, (a, o) ∈ (x, instObj 64 dx) :: (dx, dictOf [] 0) :: news := by
    intro a ha
    rcases List.mem_cons.mp ha with rfl | ha
    · exact ⟨_, .head _⟩
    · rw [List.mem_singleton.mp ha]; exact ⟨_, .tail _ (.head _)⟩
  obtain ⟨B', X', T'⟩ := down (s := { s with heap := h' }) (M := [x, dx]) (env := env) B F1 X N1 T hf hke hM
  refine init_ok (s := { s with heap := h' }) (hpos.imp (fun e => by rw [e]) (fun ⟨e, r⟩ => ⟨by rw [e], r⟩)) ⟨B'.stack, B'.stays, B'.frames⟩ X' T' hh (by simp only [depth_under_make, depth_deeper]; omega) (N1 _ (.head _)).1 (N1 _ (.tail _ (.head _))).1 (Nat.ne_of_lt hdx) ?_
  intro h2 tk2 es n lg tl hk hx hd hlg nlg htl S hl
  have fresh : ∀ q : Addr × Obj, h'.get? q.1 = none → q.1 ≠ x ∧ q.1 ≠ dx := fun q e => by
    refine ⟨fun z => ?_, fun z => ?_⟩
    · rw [z, (N1 _ (.head _)).1] at e; cases e
    · rw [z, (N1 _ (.tail _ (.head _))).1] at e; cases e
  obtain ⟨F2, N2⟩ := back (s := { s with heap := h' }) (news' := (x, instObj 64 dx) :: (dx, dictOf es n) :: (lg, listOf #[] 0) :: (tl ++ news)) F1 N1 hM hk (by
    intro q hq
    simp only [List.mem_cons, List.mem_append] at hq
    rcases hq with rfl | rfl | rfl | hq | hq
    · exact .inr ⟨hx, .inl (by simp)⟩
    · exact .inr ⟨hd, .inl (by simp)⟩
    · exact .inr ⟨hlg, .inr nlg⟩
    · exact .inr ⟨(htl _ hq).1, .inr (htl _ hq).2.1⟩
    · refine .inl ⟨.tail _ (.tail _ hq), ?_⟩
      have := hlt q hq
      simp only [List.mem_cons, List.not_mem_nil, or_false, not_or]
      exact ⟨Nat.ne_of_lt (Nat.lt_trans this hdx), Nat.ne_of_lt this⟩)
  have hlg' := fresh (lg, listOf #[] 0) nlg
  refine ⟨rfl, hR h2 tk2 x dx es n lg tl F2 N2 (Nat.ne_of_gt hdx) hlg'.1 hlg'.2 (fun q hq => ⟨(fresh q (htl q hq).2.1).1, (fresh q (htl q hq).2.1).2, (htl q hq).2.2⟩) (fun q hq => ?_) S hl⟩
  have z := hlt q hq
  refine ⟨Nat.ne_of_lt (Nat.lt_trans z hdx), Nat.ne_of_lt z, fun e => ?_⟩
  have := (N1 q (.tail _ (.tail _ hq))).1
  have nlg' : h'.get? lg = none := nlg
  rw [e, nlg'] at this; cases this
end

section
variable {prog : Program} {w : World} {A : Around} {E : Value → Shared → Prop} {s : Shared} {h₀ : Heap} {L x dx : Addr} {m : Str → Option Value} {K : Frag} {news : List (Addr × Obj)} {stv : Value} {es : List DictEntry} {n : Nat} {P : Addr → Obj → Prop} {lg fd : Addr} {now : Int} {hook : Str}
theorem get_logN {expr : Bool} {Q : Value → Shared → Prop} (F : Fr h₀ L s.heap m) (X : K.In h₀) (N : News h₀ L s.heap news) (C : Cls64 K) (hx : (x, instObj 64 dx) ∈ news) (hd : (dx, dictOf es n) ∈ news) (S : ScP prog w P es lg fd stv now hook) (h : Q (.ref lg) { s with toks := s.toks + 1 }) :
    wpAny (model prog w) A (getAttr (.ref x) "log" expr) Q E s := get_own F X (InstAt.of_news N hx hd) C.g1 C.hd C.f1 (by rfl) S.log rfl h
theorem get_stepsN {expr : Bool} {Q : Value → Shared → Prop} (F : Fr h₀ L s.heap m) (X : K.In h₀) (N : News h₀ L s.heap news) (C : Cls64 K) (hx : (x, instObj 64 dx) ∈ news) (hd : (dx, dictOf es n) ∈ news) (S : ScP prog w P es lg fd stv now hook) (hs : handedIn stv = true) (h : Q stv { s with toks := s.toks + 1 }) :
    wpAny (model prog w) A (getAttr (.ref x) "steps" expr) Q E s := get_own F X (InstAt.of_news N hx hd) C.g2 C.hd C.f2 (by rfl) S.steps hs h
end

end Mine
end

section
open PySem PySem.W PyProof.Rows PySem.Calls PyProof.V
namespace Mine
theorem regroup {h₀ h : Heap} {L : Addr} {a b c d e f g : Addr × Obj} {u v : List (Addr × Obj)} (N : News h₀ L h (a :: b :: c :: (u ++ (d :: e :: f :: g :: v)))) : News h₀ L h (c :: a :: b :: d :: e :: f :: g :: (u ++ v)) := News.sub N fun q hq => by
  simp only [List.mem_cons, List.mem_append] at hq ⊢
  rcases hq with h | h | h | h | h | h | h | h | h <;> simp [h]
theorem reorderT {h₀ h : Heap} {L : Addr} {a b c : Addr × Obj} {rest : List (Addr × Obj)} (N : News h₀ L h (a :: b :: c :: rest)) : News h₀ L h (c :: b :: rest) := News.sub N (by (repeat (refine sub_cons (by k_mem) ?_)); (repeat (first | exact fun _ h => h | refine sub_skip ?_)))
theorem reorderF {h₀ h : Heap} {L : Addr} {a : Addr × Obj} {rest : List (Addr × Obj)} (N : News h₀ L h (a :: rest)) : News h₀ L h rest := News.sub N fun _ hq => .tail _ hq

/-- the addresses of a ledger are off one address -/
theorem off_all {z : Addr} {a b d e f g : Addr} {oa ob od oe of og : Obj} {u v : List (Addr × Obj)} (ha : a ≠ z) (hb : b ≠ z) (hu : ∀ q ∈ u, q.1 ≠ z) (hv : ∀ q ∈ (d, od) :: (e, oe) :: (f, of) :: (g, og) :: v, q.1 ≠ z) :
    ∀ oa' ob', ∀ q ∈ (a, oa') :: (b, ob') :: (d, od) :: (e, oe) :: (f, of) :: (g, og) :: (u ++ v), q.1 ≠ z := fun oa' ob' q hq => by
  simp only [List.mem_cons, List.mem_append] at hq hv
  rcases hq with rfl | rfl | rfl | rfl | rfl | rfl | hq | hq
  · exact ha
  · exact hb
  · exact hv _ (by simp)
  · exact hv _ (by simp)
  · exact hv _ (by simp)
  · exact hv _ (by simp)
  · exact hu _ hq
  · exact hv _ (by simp [hq])
theorem off_tail {z : Addr} {a b : Addr × Obj} {l : List (Addr × Obj)} (h : ∀ q ∈ a :: b :: l, q.1 ≠ z) : ∀ q ∈ l, q.1 ≠ z := fun q hq => h q (.tail _ (.tail _ hq))
theorem off_one {z : Addr} {l : List (Addr × Obj)} (h : ∀ q ∈ l, q.1 ≠ z) : ∀ q ∈ l, q.1 ∉ z :: (none : Option Addr).toList := fun q hq => by simpa using h q hq
theorem off_two {z y : Addr} {l : List (Addr × Obj)} (h : ∀ q ∈ l, q.1 ≠ z) (h' : ∀ q ∈ l, q.1 ≠ y) : ∀ q ∈ l, q.1 ∉ z :: (some y).toList := fun q hq => by simpa using ⟨h q hq, h' q hq⟩
theorem off_lt {z a b d e f g : Addr} {oa ob od oe of og : Obj} {l : List (Addr × Obj)} {c : Addr} (h : c < z ∧ a < z ∧ b < z ∧ d < z ∧ e < z ∧ f < z ∧ g < z ∧ AllLt z l) :
    ∀ q ∈ (a, oa) :: (b, ob) :: (d, od) :: (e, oe) :: (f, of) :: (g, og) :: l, q.1 ≠ z := fun q hq => by
  simp only [List.mem_cons] at hq
  obtain ⟨_, h1, h2, h3, h4, h5, h6, h7⟩ := h
  rcases hq with rfl | rfl | rfl | rfl | rfl | rfl | hq
  · exact Nat.ne_of_lt h1
  · exact Nat.ne_of_lt h2
  · exact Nat.ne_of_lt h3
  · exact Nat.ne_of_lt h4
  · exact Nat.ne_of_lt h5
  · exact Nat.ne_of_lt h6
  · exact AllNe.all (AllNe.of_lt h7) q hq
theorem sub_four {a b c : Addr × Obj} {t l : List (Addr × Obj)} (ha : a ∈ l) (hb : b ∈ l) (hc : c ∈ l) (ht : ∀ p ∈ t, p ∈ l) : ∀ p ∈ a :: b :: c :: t, p ∈ l := fun p hp => by
  simp only [List.mem_cons] at hp
  rcases hp with rfl | rfl | rfl | hp
  · exact ha
  · exact hb
  · exact hc
  · exact ht _ hp
theorem mem_hide1 {q l : Addr} (h : q ∈ l :: (none : Option Addr).toList) : q = l := by simpa using h
theorem mem_hide2 {q l y : Addr} (h : q ∈ l :: (some y).toList) : q = l ∨ q = y := by simpa using h
theorem off3 {x y z : Addr} {l : List (Addr × Obj)} (h : ∀ q ∈ l, q.1 ≠ x ∧ q.1 ≠ y ∧ q.1 ≠ z) : (∀ q ∈ l, q.1 ≠ y) ∧ ∀ q ∈ l, q.1 ≠ z := ⟨fun q hq => (h q hq).2.1, fun q hq => (h q hq).2.2⟩

end Mine
end

section
open PySem PySem.W PyProof.Rows PySem.Calls PyProof.V
namespace Mine
theorem freshIa : True := by
  w_top off
  k_with_none
  trivial


theorem linesIa : True := by
  k_with "call ref" => (k_here; (with_reducible show wpAny _ _ (call (Value.ref 64) _) _ _ _); refine Stop.go ?_)
  k_with "call ref" => (k_here; (with_reducible show wpAny _ _ (call (Value.ref 130) _) _ _ _); refine Stop.go ?_)
  k_with "call ref" => (k_here; (with_reducible show wpAny _ _ (call (Value.ref 90) _) _ _ _); refine Stop.go ?_)
  k_with "call ref" => (k_here; (with_reducible show wpAny _ _ (call (Value.ref 137) _) _ _ _); refine Stop.go ?_)
  k_with "setAttr ref" => (k_here; refine Stop.go ?_)
  k_with "compareOp Eq ref ref" => (refine Stop.go ?_)
  k_with "compareOp NotEq ref ref" => (refine Stop.go ?_)
  k_with "getAttr ref" => (k_here; (with_reducible show wpAny _ _ (getAttr (Value.ref _) (Str.ofString "why") _) _ _ _); refine Stop.go ?_)
  k_with "getAttr ref" => (k_here; (with_reducible show wpAny _ _ (getAttr (Value.ref _) (Str.ofString "log") _) _ _ _); k_dflt (refine' get_logN ?k1 ?k2 ?k3 ?k4 ?k5 ?k6 ?k7 ?_; (case k1 => k_asm); (case k2 => k_asm); (case k3 => k_asm); (case k4 => assumption); (case k5 => k_mem); (case k6 => k_mem); (case k7 => assumption); k_whole))
  k_with "getAttr ref" => (k_here; (with_reducible show wpAny _ _ (getAttr (Value.ref _) (Str.ofString "steps") _) _ _ _); k_dflt (refine' get_stepsN ?k1 ?k2 ?k3 ?k4 ?k5 ?k6 ?k7 ?k8 ?_; (case k1 => k_asm); (case k2 => k_asm); (case k3 => k_asm); (case k4 => assumption); (case k5 => k_mem); (case k6 => k_mem); (case k7 => assumption); (case k8 => rfl); k_whole))
  k_with "exec Try" => (k_here; refine Stop.go ?_)
  trivial
set_option maxHeartbeats 8000000 in
theorem Ia {w : World} {A : Around} {s : Shared} {base : Heap} {outer : List Env} {p : Program} {loose : List Str} {mean : ExcName → Option Value} {mg mb : Str → Option Value} {R : Result → Shared → Prop}
    {bd : Addr} {bk : List (Str × List Rule)} {first : Str} {most : Nat} {tf tm : Tok} {stp : List Step} {o : Out}
    (B : Below A base outer (hideAll s.heap [])) (X : (hd.heap_39 w.params).In (hideAll s.heap [])) (T : Top p loose mean mg mb (hideAll s.heap [])) (XB : (hd.heap_39 w.params).In base) (TB : Top p loose mean mg mb base)
    (hh : A.handled = none) (hroom : A.depth + 80 < recursionLimit) (hu : A.units + 400 < cLine)
    (b : BookAt PySem.Challenge.rw_pq1068_01.row.prog w (hideAll s.heap []) bd bk) (hgl : GoalLens bk) (hfl : first.length ≤ 1000) (hmost : most = 16) (hz : stp.length ≤ 500000)
    (hrun : (∃ rs d, bkAt bk first = some rs ∧ Run bk most first 0 rs 0 stp o d ∧ d ≤ 40) ∨ (bkAt bk first = none ∧ stp = [] ∧ o = .fault first))
    (hstr : ∀ x ∈ stp, StrOk3 x) (hend : ∀ k, o = .ended k → PyData.strOk k = true)
    (hR : ∀ h' tk', Moved (framesOf outer) [] s.heap h' → R (.ok (.ret (.bool true))) { s with heap := h', toks := tk' }) :
    codeAny (model PySem.Challenge.rw_pq1068_01.row.prog w) A (.call (.ref 144) ⟨[.ref bd, .str first tf, .none, .bool true], []⟩) R s := by
  obtain ⟨hdl, dp, fr, gd, un⟩ := A
  obtain rfl : hdl = none := hh
  obtain rfl : fr = some outer := B.stack
  replace hroom : dp + 80 < recursionLimit := hroom
  replace hu : un + 400 < cLine := hu
  subst hmost
  have C := cls64i X
  revert X XB; k_fill; intro X XB
  refine' enter (news := []) (binds := [(Str.ofString "book", .ref bd), (Str.ofString "first", .str first tf), (Str.ofString "most", .none), (Str.ofString "is_traced", .bool true)]) B X T ?hN ?ho ?hcd ?hroom ?hbind ?hloc ?h ?c2 ?c3 ?c4 ?c5
  case hN => intro q hq; cases hq
  case ho => k_is
  case hcd => k_is
  case hroom => show dp < _; omega
  case hbind => exact BindsTo.of_eq rfl
  case hloc => exact locs rfl
  case c2 => exact rfl
  case c3 => exact rfl
  case c4 => exact rfl
  case c5 => decide
  intro g L' h₁ hg F N B' X' T' l1
  subst hg
  try dsimp only
  k_fold
  k_steps
  rename_i ls g1 g2 la g3 lA D1 g4 lD g5 g6 g7 F1 N1
  refine Stop.out (walk_A hrun hgl B' F1 X' (News.sub N1 (l' := [(ls, _), (la, _)]) (SubL.mem (by k_subL))) T' b rfl (by dsimp only; omega) rfl rfl (Nat.ne_of_lt lA) hz hfl ?_)
  intro h8 tk8 r kk gg u1 u2 its8 qs8 n18 n28 tl8 F8 N8 ho8 hst8 hq8 hne8
  clear F1 N1
  k_steps
  (with_reducible rename Fr _ _ _ _ => F9)
  (with_reducible rename News _ _ _ _ => N9)
  rename_i HX F7 N7 fdA fdH oFd loFd hdFd hfFd apFd lFd
  clear F7 N7 fdA
  obtain ⟨fd, hfd⟩ : ∃ fd, HX.objs.size = fd := ⟨_, rfl⟩
  rw [hfd] at loFd N9 ⊢
  obtain ⟨tq, hdFd'⟩ : ∃ tq, oFd.IsDictOf (strKind PySem.Challenge.rw_pq1068_01.row.prog w) [(Str.ofString "x", .int 2 tq)] := ⟨_, hdFd⟩
  clear hdFd hfFd apFd
  refine Stop.out (scene_K (.inl rfl) B' F9 X' N9 T' rfl (by dsimp only; omega) rfl rfl ?_)
  intro h10 tk10 x dsx es10 n10 lg tlS F10 N10 nxd nlx nld htlS hnw S10 hes
  have hlg9 := off_all (oa := oFd) (ob := oFd) nlx.symm nld.symm (off3 htlS).2 (off3 hnw).2
  have hdx9 := off_all (oa := oFd) (ob := oFd) (a := fd) (b := fd) (hnw _ (.head _)).2.1 (hnw _ (.head _)).2.1 (off3 htlS).1 (off3 hnw).1
  replace S10 := ScP.imp (P' := InLedger (tlS ++ tl8)) S10 fun _ _ h => List.mem_append_left _ h
  have N11 := regroup N10
  replace hst8 := hst8.imp fun _ _ y => StepIn.mono y fun _ h => List.mem_append_right tlS h
  clear N10 N9 F9 htlS hnw
  revert hlg9 hdx9 S10 N11 hst8
  generalize tlS ++ tl8 = tlR
  intro hlg9 hdx9 S10 N11 hst8
  k_steps
  (with_reducible rename Fr _ _ _ _ => F12)
  (with_reducible rename News _ _ _ _ => N12)
  rename_i hQ1 st hQ2 lst
  refine Stop.out (set_steps F12 X' N12 C (.tail _ (.tail _ (.head _))) (UpdF.tail (Nat.ne_of_gt lst.2.2.1) (UpdF.tail nld (UpdF.tail nxd (UpdF.head (off_tail (hdx9 oFd oFd)))))) S10 hes ?_)
  intro es11 n11 h13 tk13 S11 F13 N13
  clear F12 N12 S10 hdx9
  (try dsimp only at N13)
  k_steps
  (with_reducible rename Fr _ _ _ _ => F14)
  (with_reducible rename News _ _ _ _ => N14)
  refine Stop.out (wpAny_Try_except ?_)
  have N15 := reorderT N14
  have KP : KeptP PySem.Challenge.rw_pq1068_01.row.prog w (InLedger ((x, instObj 64 dsx) :: (dsx, dictOf es11 n11) :: (fd, oFd) :: tlR)) x 7 (Str.ofString "forward") [(Str.ofString "x", .int 2 tq)] := ScP.kept (S11.imp fun _ _ h => .tail _ (.tail _ (.tail _ h))) (.head _) (.tail _ (.head _)) loFd (.tail _ (.tail _ (.head _))) hdFd'
  clear N14
  k_steps
  (with_reducible rename Fr _ _ _ _ => F16)
  (with_reducible rename News _ _ _ _ => N16)
  have hrun2 : (∃ rs d, bkAt bk first = some rs ∧ Run bk 16 first 0 rs 0 stp o d) ∨ (bkAt bk first = none ∧ stp = [] ∧ o = .fault first) := by
    rcases hrun with ⟨rs, d, h1, h2, _⟩ | h
    · exact .inl ⟨rs, d, h1, h2⟩
    · exact .inr h
  refine Stop.out (chain_K (st := some st) (lg := lg) (n2 := 0) (rest := (x, instObj 64 dsx) :: (dsx, dictOf es11 n11) :: (fd, oFd) :: (r, tup2 kk gg u1 u2) :: (ls, listOf its8 n18) :: (la, listOf qs8 n28) :: tlR) (.inr ⟨rfl, rfl, rfl⟩) B' F16 X' XB TB T' N16 ?hoff (fun ls' e => by cases e; exact Nat.ne_of_gt lst.1) (sc := x) (ds := dsx) (.head _) (.tail _ (.head _)) S11.log S11.steps b hgl rfl (by dsimp only; omega) hfl (by omega) hz hrun2 rfl rfl ?hok ?hbad)
  case hoff => exact off_two (hlg9 _ _) (off_lt lst)
  case hok =>
    intro h₂ h' tk9 v qs its n1' n2' tl9 G hq9 hst9 hv9
    obtain ⟨B2, X2, T2, F2, N2, keep2⟩ := G
    replace hst9 := hst9 st rfl
    simp only [stepsPart, List.cons_append, List.nil_append] at N2
    clear F16 N16
    have C2 := cls64 X2
    rcases hv9 with ⟨rfl, rfl⟩ | ⟨k9, rfl, hv9⟩
    · cases ho8
      k_steps
      (with_reducible rename News _ _ _ _ => N3)
      refine Stop.out (eq_logs N3 (by k_mem) (by k_mem) hq9 hq8 (by show un + 3 + 64 < cLine; omega) ?_)
      k_steps
      (with_reducible rename News _ _ _ _ => N4)
      refine Stop.out (eq_steps N4 (by k_mem) (by k_mem) hst9 hst8 (fun p hp => by repeat first | exact List.mem_append_right _ hp | exact List.mem_append_left _ hp | exact hp | refine List.Mem.tail _ ?_) (fun p hp => by repeat first | exact List.mem_append_right _ hp | exact List.mem_append_left _ hp | exact hp | refine List.Mem.tail _ ?_) hstr (by show un + 3 + 64 < cLine; omega) ?_)
      k_steps
      rename_i aX hX2 oX FX NX loX hdX hfX apX lX
      refine Stop.out (kept_K B2 FX X2 T2 NX rfl rfl rfl (by dsimp only; omega) (by dsimp only; omega) KP (sub_four (by k_mem) (by k_mem) (by k_mem) (fun p hp => by repeat first | exact List.mem_append_right _ hp | exact List.mem_append_left _ hp | exact hp | refine List.Mem.tail _ ?_)) loX (.head _) hdX rfl hits_x (by decide +kernel) ?_)
      intro hZ tkZ hkZ
      exact hR _ _ ((moved_keep keep2 FX).trans (Moved.of_keeps hkZ))
    · obtain ⟨r9, u3, u4, rfl, hr9⟩ : ∃ r9 u3 u4, v = .ref r9 ∧ ((∃ sl, h₂.get? r9 = some { tup2 k9 (Str.ofString "") u3 u4 with slots := sl }) ∨ (r9, tup2 k9 (Str.ofString "") u3 u4) ∈ tl9) := verd_ref keep2 hv9
      have hk9 := hend k9 rfl
      clear hv9
      cases ho8
      k_steps
      (with_reducible rename News _ _ _ _ => N3)
      (with_reducible rename Fr _ _ _ _ => F3)
      refine Stop.out (ne_verdicts2 (hr9.elim (fun ⟨sl, e⟩ => ⟨sl, F3.keep _ _ e⟩) fun m => ⟨#[], (N3 (r9, tup2 _ _ u3 u4) (by repeat first | exact List.mem_append_right _ m | refine List.Mem.tail _ ?_)).1⟩) (N3 _ (.head _)).1 hk9 (by decide +kernel) (by show un + 3 + 64 < cLine; omega) ?_)
      k_steps
      (with_reducible rename News _ _ _ _ => N3)
      refine Stop.out (eq_logs N3 (by k_mem) (by k_mem) hq9 hq8 (by show un + 3 + 64 < cLine; omega) ?_)
      k_steps
      (with_reducible rename News _ _ _ _ => N4)
      refine Stop.out (eq_steps N4 (by k_mem) (by k_mem) hst9 hst8 (fun p hp => by repeat first | exact List.mem_append_right _ hp | exact List.mem_append_left _ hp | exact hp | refine List.Mem.tail _ ?_) (fun p hp => by repeat first | exact List.mem_append_right _ hp | exact List.mem_append_left _ hp | exact hp | refine List.Mem.tail _ ?_) hstr (by show un + 3 + 64 < cLine; omega) ?_)
      k_steps
      rename_i aX hX2 oX FX NX loX hdX hfX apX lX
      refine Stop.out (kept_K B2 FX X2 T2 NX rfl rfl rfl (by dsimp only; omega) (by dsimp only; omega) KP (sub_four (by k_mem) (by k_mem) (by k_mem) (fun p hp => by repeat first | exact List.mem_append_right _ hp | exact List.mem_append_left _ hp | exact hp | refine List.Mem.tail _ ?_)) loX (.head _) hdX rfl hits_x (by decide +kernel) ?_)
      intro hZ tkZ hkZ
      exact hR _ _ ((moved_keep keep2 FX).trans (Moved.of_keeps hkZ))
  case hbad =>
    intro x9 e9 h9 tk9 qs its n1' n2' tl9 ho9 ft9 hN9 hq9 hst9
    replace hst9 := hst9 st rfl
    simp only [stepsPart, List.cons_append, List.nil_append] at hN9
    subst ho9
    refine catch_K B' F16 XB TB ?hX0 ?hLX ft9 hN9 rfl (by rfl) ?_
    case hX0 => exact fun q hq => (mem_hide2 hq).elim (fun e => by rw [e]; exact (N16 (lg, listOf #[] 0) (by k_mem)).2.2) (fun e => by rw [e]; exact (N16 (st, listOf #[] 0) (by k_mem)).2.2)
    case hLX => exact fun hq => (mem_hide2 hq).elim (fun e => (N16 (lg, listOf #[] 0) (by k_mem)).2.1 e.symm) (fun e => (N16 (st, listOf #[] 0) (by k_mem)).2.1 e.symm)
    intro h₂ h' dx vs esx nx tx G hlx hnex hdex
    obtain ⟨B2, X2, T2, F2, N2, keep2⟩ := G
    clear F16 N16
    have C2 := cls64 X2
    have C44 := cls44 X2
    cases ho8
    k_steps
    (with_reducible rename News _ _ _ _ => N12)
    (with_reducible rename Fr _ _ _ _ => F12)
    refine Stop.out (why_get (X2.keeps F12.keep) C44 ⟨(N12 (e9, excObj (some dx) vs) (by k_mem)).1, rfl, rfl, (N12 (dx, dictOf esx nx) (by k_mem)).1⟩ hlx rfl ?_)
    k_steps
    · exact absurd (show (Str.ofString "unknown chain " ++ x9 != Str.ofString "unknown chain " ++ x9) = true by assumption) (by simp)
    (with_reducible rename News _ _ _ _ => N3)
    refine Stop.out (eq_logs N3 (by k_mem) (by k_mem) hq9 hq8 (by show un + 3 + 64 < cLine; omega) ?_)
    k_steps
    (with_reducible rename News _ _ _ _ => N4)
    refine Stop.out (eq_steps N4 (by k_mem) (by k_mem) hst9 hst8 (fun p hp => by repeat first | exact List.mem_append_right _ hp | exact List.mem_append_left _ hp | exact hp | refine List.Mem.tail _ ?_) (fun p hp => by repeat first | exact List.mem_append_right _ hp | exact List.mem_append_left _ hp | exact hp | refine List.Mem.tail _ ?_) hstr (by show un + 3 + 64 < cLine; omega) ?_)
    k_steps
    rename_i aX hX2 oX FX NX loX hdX hfX apX lX
    refine Stop.out (kept_K B2 FX X2 T2 NX rfl rfl rfl (by dsimp only; omega) (by dsimp only; omega) KP (sub_four (by k_mem) (by k_mem) (by k_mem) (fun p hp => by repeat first | exact List.mem_append_right _ hp | exact List.mem_append_left _ hp | exact hp | refine List.Mem.tail _ ?_)) loX (.head _) hdX rfl hits_x (by decide +kernel) ?_)
    intro hZ tkZ hkZ
    exact hR _ _ ((moved_keep keep2 FX).trans (Moved.of_keeps hkZ))

end Mine
end

section
open PySem PySem.W PyProof.Rows PySem.Calls PyProof.V
namespace Mine
theorem freshIb : True := by
  w_top off
  k_with_none
  trivial


theorem linesIb : True := by
  k_with "call ref" => (k_here; (with_reducible show wpAny _ _ (call (Value.ref 64) _) _ _ _); refine Stop.go ?_)
  k_with "call ref" => (k_here; (with_reducible show wpAny _ _ (call (Value.ref 130) _) _ _ _); refine Stop.go ?_)
  k_with "call ref" => (k_here; (with_reducible show wpAny _ _ (call (Value.ref 90) _) _ _ _); refine Stop.go ?_)
  k_with "call ref" => (k_here; (with_reducible show wpAny _ _ (call (Value.ref 137) _) _ _ _); refine Stop.go ?_)
  k_with "setAttr ref" => (k_here; refine Stop.go ?_)
  k_with "compareOp Eq ref ref" => (refine Stop.go ?_)
  k_with "compareOp NotEq ref ref" => (refine Stop.go ?_)
  k_with "getAttr ref" => (k_here; (with_reducible show wpAny _ _ (getAttr (Value.ref _) (Str.ofString "why") _) _ _ _); refine Stop.go ?_)
  k_with "getAttr ref" => (k_here; (with_reducible show wpAny _ _ (getAttr (Value.ref _) (Str.ofString "log") _) _ _ _); k_dflt (refine' get_logN ?k1 ?k2 ?k3 ?k4 ?k5 ?k6 ?k7 ?_; (case k1 => k_asm); (case k2 => k_asm); (case k3 => k_asm); (case k4 => assumption); (case k5 => k_mem); (case k6 => k_mem); (case k7 => assumption); k_whole))
  k_with "getAttr ref" => (k_here; (with_reducible show wpAny _ _ (getAttr (Value.ref _) (Str.ofString "steps") _) _ _ _); k_dflt (refine' get_stepsN ?k1 ?k2 ?k3 ?k4 ?k5 ?k6 ?k7 ?k8 ?_; (case k1 => k_asm); (case k2 => k_asm); (case k3 => k_asm); (case k4 => assumption); (case k5 => k_mem); (case k6 => k_mem); (case k7 => assumption); (case k8 => rfl); k_whole))
  k_with "exec Try" => (k_here; refine Stop.go ?_)
  trivial
set_option maxHeartbeats 8000000 in
theorem Ib {w : World} {A : Around} {s : Shared} {base : Heap} {outer : List Env} {p : Program} {loose : List Str} {mean : ExcName → Option Value} {mg mb : Str → Option Value} {R : Result → Shared → Prop}
    {bd : Addr} {bk : List (Str × List Rule)} {first : Str} {most : Nat} {tf tm : Tok} {stp : List Step} {o : Out}
    (B : Below A base outer (hideAll s.heap [])) (X : (hd.heap_39 w.params).In (hideAll s.heap [])) (T : Top p loose mean mg mb (hideAll s.heap [])) (XB : (hd.heap_39 w.params).In base) (TB : Top p loose mean mg mb base)
    (hh : A.handled = none) (hroom : A.depth + 80 < recursionLimit) (hu : A.units + 400 < cLine)
    (b : BookAt PySem.Challenge.rw_pq1068_01.row.prog w (hideAll s.heap []) bd bk) (hgl : GoalLens bk) (hfl : first.length ≤ 1000) (hmost : most ≤ 1000) (hz : stp.length ≤ 500000)
    (hrun : (∃ rs d, bkAt bk first = some rs ∧ Run bk most first 0 rs 0 stp o d ∧ d ≤ 40) ∨ (bkAt bk first = none ∧ stp = [] ∧ o = .fault first))
    (hstr : ∀ x ∈ stp, StrOk3 x) (hend : ∀ k, o = .ended k → PyData.strOk k = true)
    (hR : ∀ h' tk', Moved (framesOf outer) [] s.heap h' → R (.ok (.ret (.bool true))) { s with heap := h', toks := tk' }) :
    codeAny (model PySem.Challenge.rw_pq1068_01.row.prog w) A (.call (.ref 144) ⟨[.ref bd, .str first tf, .int (most : Nat) tm, .bool true], []⟩) R s := by
  obtain ⟨hdl, dp, fr, gd, un⟩ := A
  obtain rfl : hdl = none := hh
  obtain rfl : fr = some outer := B.stack
  replace hroom : dp + 80 < recursionLimit := hroom
  replace hu : un + 400 < cLine := hu
  have C := cls64i X
  revert X XB; k_fill; intro X XB
  refine' enter (news := []) (binds := [(Str.ofString "book", .ref bd), (Str.ofString "first", .str first tf), (Str.ofString "most", .int (most : Nat) tm), (Str.ofString "is_traced", .bool true)]) B X T ?hN ?ho ?hcd ?hroom ?hbind ?hloc ?h ?c2 ?c3 ?c4 ?c5
  case hN => intro q hq; cases hq
  case ho => k_is
  case hcd => k_is
  case hroom => show dp < _; omega
  case hbind => exact BindsTo.of_eq rfl
  case hloc => exact locs rfl
  case c2 => exact rfl
  case c3 => exact rfl
  case c4 => exact rfl
  case c5 => decide
  intro g L' h₁ hg F N B' X' T' l1
  subst hg
  try dsimp only
  k_fold
  k_steps
  rename_i ls g1 g2 la g3 lA D1 g4 lD g5 g6 g7 F1 N1
  refine Stop.out (walk_A hrun hgl B' F1 X' (News.sub N1 (l' := [(ls, _), (la, _)]) (SubL.mem (by k_subL))) T' b rfl (by dsimp only; omega) rfl rfl (Nat.ne_of_lt lA) hz hfl ?_)
  intro h8 tk8 r kk gg u1 u2 its8 qs8 n18 n28 tl8 F8 N8 ho8 hst8 hq8 hne8
  clear F1 N1
  k_steps
  (with_reducible rename Fr _ _ _ _ => F9)
  (with_reducible rename News _ _ _ _ => N9)
  rename_i HX F7 N7 fdA fdH oFd loFd hdFd hfFd apFd lFd
  clear F7 N7 fdA
  obtain ⟨fd, hfd⟩ : ∃ fd, HX.objs.size = fd := ⟨_, rfl⟩
  rw [hfd] at loFd N9 ⊢
  obtain ⟨tq, hdFd'⟩ : ∃ tq, oFd.IsDictOf (strKind PySem.Challenge.rw_pq1068_01.row.prog w) [(Str.ofString "x", .int 2 tq)] := ⟨_, hdFd⟩
  clear hdFd hfFd apFd
  refine Stop.out (scene_K (.inl rfl) B' F9 X' N9 T' rfl (by dsimp only; omega) rfl rfl ?_)
  intro h10 tk10 x dsx es10 n10 lg tlS F10 N10 nxd nlx nld htlS hnw S10 hes
  have hlg9 := off_all (oa := oFd) (ob := oFd) nlx.symm nld.symm (off3 htlS).2 (off3 hnw).2
  have hdx9 := off_all (oa := oFd) (ob := oFd) (a := fd) (b := fd) (hnw _ (.head _)).2.1 (hnw _ (.head _)).2.1 (off3 htlS).1 (off3 hnw).1
  replace S10 := ScP.imp (P' := InLedger (tlS ++ tl8)) S10 fun _ _ h => List.mem_append_left _ h
  have N11 := regroup N10
  replace hst8 := hst8.imp fun _ _ y => StepIn.mono y fun _ h => List.mem_append_right tlS h
  clear N10 N9 F9 htlS hnw
  revert hlg9 hdx9 S10 N11 hst8
  generalize tlS ++ tl8 = tlR
  intro hlg9 hdx9 S10 N11 hst8
  k_steps
  (with_reducible rename Fr _ _ _ _ => F12)
  (with_reducible rename News _ _ _ _ => N12)
  rename_i hQ1 st hQ2 lst
  refine Stop.out (set_steps F12 X' N12 C (.tail _ (.tail _ (.head _))) (UpdF.tail (Nat.ne_of_gt lst.2.2.1) (UpdF.tail nld (UpdF.tail nxd (UpdF.head (off_tail (hdx9 oFd oFd)))))) S10 hes ?_)
  intro es11 n11 h13 tk13 S11 F13 N13
  clear F12 N12 S10 hdx9
  (try dsimp only at N13)
  k_steps
  (with_reducible rename Fr _ _ _ _ => F14)
  (with_reducible rename News _ _ _ _ => N14)
  refine Stop.out (wpAny_Try_except ?_)
  have N15 := reorderT N14
  have KP : KeptP PySem.Challenge.rw_pq1068_01.row.prog w (InLedger ((x, instObj 64 dsx) :: (dsx, dictOf es11 n11) :: (fd, oFd) :: tlR)) x 7 (Str.ofString "forward") [(Str.ofString "x", .int 2 tq)] := ScP.kept (S11.imp fun _ _ h => .tail _ (.tail _ (.tail _ h))) (.head _) (.tail _ (.head _)) loFd (.tail _ (.tail _ (.head _))) hdFd'
  clear N14
  k_steps
  (with_reducible rename Fr _ _ _ _ => F16)
  (with_reducible rename News _ _ _ _ => N16)
  have hrun2 : (∃ rs d, bkAt bk first = some rs ∧ Run bk most first 0 rs 0 stp o d) ∨ (bkAt bk first = none ∧ stp = [] ∧ o = .fault first) := by
    rcases hrun with ⟨rs, d, h1, h2, _⟩ | h
    · exact .inl ⟨rs, d, h1, h2⟩
    · exact .inr h
  refine Stop.out (chain_K (st := some st) (lg := lg) (n2 := 0) (rest := (x, instObj 64 dsx) :: (dsx, dictOf es11 n11) :: (fd, oFd) :: (r, tup2 kk gg u1 u2) :: (ls, listOf its8 n18) :: (la, listOf qs8 n28) :: tlR) (.inl rfl) B' F16 X' XB TB T' N16 ?hoff (fun ls' e => by cases e; exact Nat.ne_of_gt lst.1) (sc := x) (ds := dsx) (.head _) (.tail _ (.head _)) S11.log S11.steps b hgl rfl (by dsimp only; omega) hfl (by omega) hz hrun2 rfl rfl ?hok ?hbad)
  case hoff => exact off_two (hlg9 _ _) (off_lt lst)
  case hok =>
    intro h₂ h' tk9 v qs its n1' n2' tl9 G hq9 hst9 hv9
    obtain ⟨B2, X2, T2, F2, N2, keep2⟩ := G
    replace hst9 := hst9 st rfl
    simp only [stepsPart, List.cons_append, List.nil_append] at N2
    clear F16 N16
    have C2 := cls64 X2
    rcases hv9 with ⟨rfl, rfl⟩ | ⟨k9, rfl, hv9⟩
    · cases ho8
      k_steps
      (with_reducible rename News _ _ _ _ => N3)
      refine Stop.out (eq_logs N3 (by k_mem) (by k_mem) hq9 hq8 (by show un + 3 + 64 < cLine; omega) ?_)
      k_steps
      (with_reducible rename News _ _ _ _ => N4)
      refine Stop.out (eq_steps N4 (by k_mem) (by k_mem) hst9 hst8 (fun p hp => by repeat first | exact List.mem_append_right _ hp | exact List.mem_append_left _ hp | exact hp | refine List.Mem.tail _ ?_) (fun p hp => by repeat first | exact List.mem_append_right _ hp | exact List.mem_append_left _ hp | exact hp | refine List.Mem.tail _ ?_) hstr (by show un + 3 + 64 < cLine; omega) ?_)
      k_steps
      rename_i aX hX2 oX FX NX loX hdX hfX apX lX
      refine Stop.out (kept_K B2 FX X2 T2 NX rfl rfl rfl (by dsimp only; omega) (by dsimp only; omega) KP (sub_four (by k_mem) (by k_mem) (by k_mem) (fun p hp => by repeat first | exact List.mem_append_right _ hp | exact List.mem_append_left _ hp | exact hp | refine List.Mem.tail _ ?_)) loX (.head _) hdX rfl hits_x (by decide +kernel) ?_)
      intro hZ tkZ hkZ
      exact hR _ _ ((moved_keep keep2 FX).trans (Moved.of_keeps hkZ))
    · obtain ⟨r9, u3, u4, rfl, hr9⟩ : ∃ r9 u3 u4, v = .ref r9 ∧ ((∃ sl, h₂.get? r9 = some { tup2 k9 (Str.ofString "") u3 u4 with slots := sl }) ∨ (r9, tup2 k9 (Str.ofString "") u3 u4) ∈ tl9) := verd_ref keep2 hv9
      have hk9 := hend k9 rfl
      clear hv9
      cases ho8
      k_steps
      (with_reducible rename News _ _ _ _ => N3)
      (with_reducible rename Fr _ _ _ _ => F3)
      refine Stop.out (ne_verdicts2 (hr9.elim (fun ⟨sl, e⟩ => ⟨sl, F3.keep _ _ e⟩) fun m => ⟨#[], (N3 (r9, tup2 _ _ u3 u4) (by repeat first | exact List.mem_append_right _ m | refine List.Mem.tail _ ?_)).1⟩) (N3 _ (.head _)).1 hk9 (by decide +kernel) (by show un + 3 + 64 < cLine; omega) ?_)
      k_steps
      (with_reducible rename News _ _ _ _ => N3)
      refine Stop.out (eq_logs N3 (by k_mem) (by k_mem) hq9 hq8 (by show un + 3 + 64 < cLine; omega) ?_)
      k_steps
      (with_reducible rename News _ _ _ _ => N4)
      refine Stop.out (eq_steps N4 (by k_mem) (by k_mem) hst9 hst8 (fun p hp => by repeat first | exact List.mem_append_right _ hp | exact List.mem_append_left _ hp | exact hp | refine List.Mem.tail _ ?_) (fun p hp => by repeat first | exact List.mem_append_right _ hp | exact List.mem_append_left _ hp | exact hp | refine List.Mem.tail _ ?_) hstr (by show un + 3 + 64 < cLine; omega) ?_)
      k_steps
      rename_i aX hX2 oX FX NX loX hdX hfX apX lX
      refine Stop.out (kept_K B2 FX X2 T2 NX rfl rfl rfl (by dsimp only; omega) (by dsimp only; omega) KP (sub_four (by k_mem) (by k_mem) (by k_mem) (fun p hp => by repeat first | exact List.mem_append_right _ hp | exact List.mem_append_left _ hp | exact hp | refine List.Mem.tail _ ?_)) loX (.head _) hdX rfl hits_x (by decide +kernel) ?_)
      intro hZ tkZ hkZ
      exact hR _ _ ((moved_keep keep2 FX).trans (Moved.of_keeps hkZ))
  case hbad =>
    intro x9 e9 h9 tk9 qs its n1' n2' tl9 ho9 ft9 hN9 hq9 hst9
    replace hst9 := hst9 st rfl
    simp only [stepsPart, List.cons_append, List.nil_append] at hN9
    subst ho9
    refine catch_K B' F16 XB TB ?hX0 ?hLX ft9 hN9 rfl (by rfl) ?_
    case hX0 => exact fun q hq => (mem_hide2 hq).elim (fun e => by rw [e]; exact (N16 (lg, listOf #[] 0) (by k_mem)).2.2) (fun e => by rw [e]; exact (N16 (st, listOf #[] 0) (by k_mem)).2.2)
    case hLX => exact fun hq => (mem_hide2 hq).elim (fun e => (N16 (lg, listOf #[] 0) (by k_mem)).2.1 e.symm) (fun e => (N16 (st, listOf #[] 0) (by k_mem)).2.1 e.symm)
    intro h₂ h' dx vs esx nx tx G hlx hnex hdex
    obtain ⟨B2, X2, T2, F2, N2, keep2⟩ := G
    clear F16 N16
    have C2 := cls64 X2
    have C44 := cls44 X2
    cases ho8
    k_steps
    (with_reducible rename News _ _ _ _ => N12)
    (with_reducible rename Fr _ _ _ _ => F12)
    refine Stop.out (why_get (X2.keeps F12.keep) C44 ⟨(N12 (e9, excObj (some dx) vs) (by k_mem)).1, rfl, rfl, (N12 (dx, dictOf esx nx) (by k_mem)).1⟩ hlx rfl ?_)
    k_steps
    · exact absurd (show (Str.ofString "unknown chain " ++ x9 != Str.ofString "unknown chain " ++ x9) = true by assumption) (by simp)
    (with_reducible rename News _ _ _ _ => N3)
    refine Stop.out (eq_logs N3 (by k_mem) (by k_mem) hq9 hq8 (by show un + 3 + 64 < cLine; omega) ?_)
    k_steps
    (with_reducible rename News _ _ _ _ => N4)
    refine Stop.out (eq_steps N4 (by k_mem) (by k_mem) hst9 hst8 (fun p hp => by repeat first | exact List.mem_append_right _ hp | exact List.mem_append_left _ hp | exact hp | refine List.Mem.tail _ ?_) (fun p hp => by repeat first | exact List.mem_append_right _ hp | exact List.mem_append_left _ hp | exact hp | refine List.Mem.tail _ ?_) hstr (by show un + 3 + 64 < cLine; omega) ?_)
    k_steps
    rename_i aX hX2 oX FX NX loX hdX hfX apX lX
    refine Stop.out (kept_K B2 FX X2 T2 NX rfl rfl rfl (by dsimp only; omega) (by dsimp only; omega) KP (sub_four (by k_mem) (by k_mem) (by k_mem) (fun p hp => by repeat first | exact List.mem_append_right _ hp | exact List.mem_append_left _ hp | exact hp | refine List.Mem.tail _ ?_)) loX (.head _) hdX rfl hits_x (by decide +kernel) ?_)
    intro hZ tkZ hkZ
    exact hR _ _ ((moved_keep keep2 FX).trans (Moved.of_keeps hkZ))

end Mine
end

section
open PySem PySem.W PyProof.Rows PySem.Calls PyProof.V
namespace Mine
theorem freshIc : True := by
  w_top off
  k_with_none
  trivial


theorem linesIc : True := by
  k_with "call ref" => (k_here; (with_reducible show wpAny _ _ (call (Value.ref 64) _) _ _ _); refine Stop.go ?_)
  k_with "call ref" => (k_here; (with_reducible show wpAny _ _ (call (Value.ref 130) _) _ _ _); refine Stop.go ?_)
  k_with "call ref" => (k_here; (with_reducible show wpAny _ _ (call (Value.ref 90) _) _ _ _); refine Stop.go ?_)
  k_with "call ref" => (k_here; (with_reducible show wpAny _ _ (call (Value.ref 137) _) _ _ _); refine Stop.go ?_)
  k_with "setAttr ref" => (k_here; refine Stop.go ?_)
  k_with "compareOp Eq ref ref" => (refine Stop.go ?_)
  k_with "compareOp NotEq ref ref" => (refine Stop.go ?_)
  k_with "getAttr ref" => (k_here; (with_reducible show wpAny _ _ (getAttr (Value.ref _) (Str.ofString "why") _) _ _ _); refine Stop.go ?_)
  k_with "getAttr ref" => (k_here; (with_reducible show wpAny _ _ (getAttr (Value.ref _) (Str.ofString "log") _) _ _ _); k_dflt (refine' get_logN ?k1 ?k2 ?k3 ?k4 ?k5 ?k6 ?k7 ?_; (case k1 => k_asm); (case k2 => k_asm); (case k3 => k_asm); (case k4 => assumption); (case k5 => k_mem); (case k6 => k_mem); (case k7 => assumption); k_whole))
  k_with "getAttr ref" => (k_here; (with_reducible show wpAny _ _ (getAttr (Value.ref _) (Str.ofString "steps") _) _ _ _); k_dflt (refine' get_stepsN ?k1 ?k2 ?k3 ?k4 ?k5 ?k6 ?k7 ?k8 ?_; (case k1 => k_asm); (case k2 => k_asm); (case k3 => k_asm); (case k4 => assumption); (case k5 => k_mem); (case k6 => k_mem); (case k7 => assumption); (case k8 => rfl); k_whole))
  k_with "exec Try" => (k_here; refine Stop.go ?_)
  trivial
set_option maxHeartbeats 8000000 in
theorem Ic {w : World} {A : Around} {s : Shared} {base : Heap} {outer : List Env} {p : Program} {loose : List Str} {mean : ExcName → Option Value} {mg mb : Str → Option Value} {R : Result → Shared → Prop}
    {bd : Addr} {bk : List (Str × List Rule)} {first : Str} {most : Nat} {tf tm : Tok} {stp : List Step} {o : Out}
    (B : Below A base outer (hideAll s.heap [])) (X : (hd.heap_39 w.params).In (hideAll s.heap [])) (T : Top p loose mean mg mb (hideAll s.heap [])) (XB : (hd.heap_39 w.params).In base) (TB : Top p loose mean mg mb base)
    (hh : A.handled = none) (hroom : A.depth + 80 < recursionLimit) (hu : A.units + 400 < cLine)
    (b : BookAt PySem.Challenge.rw_pq1068_01.row.prog w (hideAll s.heap []) bd bk) (hgl : GoalLens bk) (hfl : first.length ≤ 1000) (hmost : most = 16) (hz : stp.length ≤ 500000)
    (hrun : (∃ rs d, bkAt bk first = some rs ∧ Run bk most first 0 rs 0 stp o d ∧ d ≤ 40) ∨ (bkAt bk first = none ∧ stp = [] ∧ o = .fault first))
    (hstr : ∀ x ∈ stp, StrOk3 x) (hend : ∀ k, o = .ended k → PyData.strOk k = true)
    (hR : ∀ h' tk', Moved (framesOf outer) [] s.heap h' → R (.ok (.ret (.bool true))) { s with heap := h', toks := tk' }) :
    codeAny (model PySem.Challenge.rw_pq1068_01.row.prog w) A (.call (.ref 144) ⟨[.ref bd, .str first tf, .none, .bool false], []⟩) R s := by
  obtain ⟨hdl, dp, fr, gd, un⟩ := A
  obtain rfl : hdl = none := hh
  obtain rfl : fr = some outer := B.stack
  replace hroom : dp + 80 < recursionLimit := hroom
  replace hu : un + 400 < cLine := hu
  subst hmost
  have C := cls64i X
  revert X XB; k_fill; intro X XB
  refine' enter (news := []) (binds := [(Str.ofString "book", .ref bd), (Str.ofString "first", .str first tf), (Str.ofString "most", .none), (Str.ofString "is_traced", .bool false)]) B X T ?hN ?ho ?hcd ?hroom ?hbind ?hloc ?h ?c2 ?c3 ?c4 ?c5
  case hN => intro q hq; cases hq
  case ho => k_is
  case hcd => k_is
  case hroom => show dp < _; omega
  case hbind => exact BindsTo.of_eq rfl
  case hloc => exact locs rfl
  case c2 => exact rfl
  case c3 => exact rfl
  case c4 => exact rfl
  case c5 => decide
  intro g L' h₁ hg F N B' X' T' l1
  subst hg
  try dsimp only
  k_fold
  k_steps
  rename_i ls g1 g2 la g3 lA D1 g4 lD g5 g6 g7 F1 N1
  refine Stop.out (walk_A hrun hgl B' F1 X' (News.sub N1 (l' := [(ls, _), (la, _)]) (SubL.mem (by k_subL))) T' b rfl (by dsimp only; omega) rfl rfl (Nat.ne_of_lt lA) hz hfl ?_)
  intro h8 tk8 r kk gg u1 u2 its8 qs8 n18 n28 tl8 F8 N8 ho8 hst8 hq8 hne8
  clear F1 N1
  k_steps
  (with_reducible rename Fr _ _ _ _ => F9)
  (with_reducible rename News _ _ _ _ => N9)
  rename_i HX fd fdH oFd loFd hdFd hfFd hiFd fiFd lFd
  have hdFd' := hdFd
  clear hdFd hfFd hiFd fiFd
  refine Stop.out (scene_K (.inr ⟨rfl, rfl, rfl, rfl, rfl⟩) B' F9 X' N9 T' rfl (by dsimp only; omega) rfl rfl ?_)
  intro h10 tk10 x dsx es10 n10 lg tlS F10 N10 nxd nlx nld htlS hnw S10 hes
  have hlg9 := off_all (oa := oFd) (ob := oFd) nlx.symm nld.symm (off3 htlS).2 (off3 hnw).2
  have hdx9 := off_all (oa := oFd) (ob := oFd) (a := fd) (b := fd) (hnw _ (.head _)).2.1 (hnw _ (.head _)).2.1 (off3 htlS).1 (off3 hnw).1
  replace S10 := ScP.imp (P' := InLedger (tlS ++ tl8)) S10 fun _ _ h => List.mem_append_left _ h
  have N11 := regroup N10
  replace hst8 := hst8.imp fun _ _ y => StepIn.mono y fun _ h => List.mem_append_right tlS h
  clear N10 N9 F9 htlS hnw
  revert hlg9 hdx9 S10 N11 hst8
  generalize tlS ++ tl8 = tlR
  intro hlg9 hdx9 S10 N11 hst8
  k_steps
  (with_reducible rename Fr _ _ _ _ => F14)
  (with_reducible rename News _ _ _ _ => N14)
  refine Stop.out (wpAny_Try_except ?_)
  have N15 := reorderF N14
  have KP : KeptP PySem.Challenge.rw_pq1068_01.row.prog w (InLedger ((x, instObj 64 dsx) :: (dsx, dictOf es10 n10) :: (fd, oFd) :: tlR)) x 0 (Str.ofString "input") [] := ScP.kept (S10.imp fun _ _ h => .tail _ (.tail _ (.tail _ h))) (.head _) (.tail _ (.head _)) loFd (.tail _ (.tail _ (.head _))) hdFd'
  clear N14
  k_steps
  (with_reducible rename Fr _ _ _ _ => F16)
  (with_reducible rename News _ _ _ _ => N16)
  have hrun2 : (∃ rs d, bkAt bk first = some rs ∧ Run bk 16 first 0 rs 0 stp o d) ∨ (bkAt bk first = none ∧ stp = [] ∧ o = .fault first) := by
    rcases hrun with ⟨rs, d, h1, h2, _⟩ | h
    · exact .inl ⟨rs, d, h1, h2⟩
    · exact .inr h
  refine Stop.out (chain_K (st := none) (lg := lg) (n2 := 0) (rest := (x, instObj 64 dsx) :: (dsx, dictOf es10 n10) :: (fd, oFd) :: (r, tup2 kk gg u1 u2) :: (ls, listOf its8 n18) :: (la, listOf qs8 n28) :: tlR) (.inr ⟨rfl, rfl, rfl⟩) B' F16 X' XB TB T' N16 ?hoff (fun ls' e => nomatch e) (sc := x) (ds := dsx) (.head _) (.tail _ (.head _)) S10.log S10.steps b hgl rfl (by dsimp only; omega) hfl (by omega) hz hrun2 rfl rfl ?hok ?hbad)
  case hoff => exact off_one (hlg9 _ _)
  case hok =>
    intro h₂ h' tk9 v qs its n1' n2' tl9 G hq9 hst9 hv9
    obtain ⟨B2, X2, T2, F2, N2, keep2⟩ := G
    clear hst9
    simp only [stepsPart, List.cons_append, List.nil_append] at N2
    clear F16 N16
    have C2 := cls64 X2
    rcases hv9 with ⟨rfl, rfl⟩ | ⟨k9, rfl, hv9⟩
    · cases ho8
      k_steps
      (with_reducible rename News _ _ _ _ => N3)
      refine Stop.out (eq_logs N3 (by k_mem) (by k_mem) hq9 hq8 (by show un + 3 + 64 < cLine; omega) ?_)
      k_steps
      rename_i aX hX2 oX FX NX loX hdX hfX hiX fiX lX
      refine Stop.out (kept_K B2 FX X2 T2 NX rfl rfl rfl (by dsimp only; omega) (by dsimp only; omega) KP (sub_four (by k_mem) (by k_mem) (by k_mem) (fun p hp => by repeat first | exact List.mem_append_right _ hp | exact List.mem_append_left _ hp | exact hp | refine List.Mem.tail _ ?_)) loX (.head _) hdX rfl hits_nil (by decide +kernel) ?_)
      intro hZ tkZ hkZ
      exact hR _ _ ((moved_keep keep2 FX).trans (Moved.of_keeps hkZ))
    · obtain ⟨r9, u3, u4, rfl, hr9⟩ : ∃ r9 u3 u4, v = .ref r9 ∧ ((∃ sl, h₂.get? r9 = some { tup2 k9 (Str.ofString "") u3 u4 with slots := sl }) ∨ (r9, tup2 k9 (Str.ofString "") u3 u4) ∈ tl9) := verd_ref keep2 hv9
      have hk9 := hend k9 rfl
      clear hv9
      cases ho8
      k_steps
      (with_reducible rename News _ _ _ _ => N3)
      (with_reducible rename Fr _ _ _ _ => F3)
      refine Stop.out (ne_verdicts2 (hr9.elim (fun ⟨sl, e⟩ => ⟨sl, F3.keep _ _ e⟩) fun m => ⟨#[], (N3 (r9, tup2 _ _ u3 u4) (by repeat first | exact List.mem_append_right _ m | refine List.Mem.tail _ ?_)).1⟩) (N3 _ (.head _)).1 hk9 (by decide +kernel) (by show un + 3 + 64 < cLine; omega) ?_)
      k_steps
      (with_reducible rename News _ _ _ _ => N3)
      refine Stop.out (eq_logs N3 (by k_mem) (by k_mem) hq9 hq8 (by show un + 3 + 64 < cLine; omega) ?_)
      k_steps
      rename_i aX hX2 oX FX NX loX hdX hfX hiX fiX lX
      refine Stop.out (kept_K B2 FX X2 T2 NX rfl rfl rfl (by dsimp only; omega) (by dsimp only; omega) KP (sub_four (by k_mem) (by k_mem) (by k_mem) (fun p hp => by repeat first | exact List.mem_append_right _ hp | exact List.mem_append_left _ hp | exact hp | refine List.Mem.tail _ ?_)) loX (.head _) hdX rfl hits_nil (by decide +kernel) ?_)
      intro hZ tkZ hkZ
      exact hR _ _ ((moved_keep keep2 FX).trans (Moved.of_keeps hkZ))
  case hbad =>
    intro x9 e9 h9 tk9 qs its n1' n2' tl9 ho9 ft9 hN9 hq9 hst9
    clear hst9
    simp only [stepsPart, List.cons_append, List.nil_append] at hN9
    subst ho9
    refine catch_K B' F16 XB TB ?hX0 ?hLX ft9 hN9 rfl (by rfl) ?_
    case hX0 => exact fun q hq => by rw [mem_hide1 hq]; exact (N16 (lg, listOf #[] 0) (by k_mem)).2.2
    case hLX => exact fun hq => (N16 (lg, listOf #[] 0) (by k_mem)).2.1 (mem_hide1 hq).symm
    intro h₂ h' dx vs esx nx tx G hlx hnex hdex
    obtain ⟨B2, X2, T2, F2, N2, keep2⟩ := G
    clear F16 N16
    have C2 := cls64 X2
    have C44 := cls44 X2
    cases ho8
    k_steps
    (with_reducible rename News _ _ _ _ => N12)
    (with_reducible rename Fr _ _ _ _ => F12)
    refine Stop.out (why_get (X2.keeps F12.keep) C44 ⟨(N12 (e9, excObj (some dx) vs) (by k_mem)).1, rfl, rfl, (N12 (dx, dictOf esx nx) (by k_mem)).1⟩ hlx rfl ?_)
    k_steps
    · exact absurd (show (Str.ofString "unknown chain " ++ x9 != Str.ofString "unknown chain " ++ x9) = true by assumption) (by simp)
    (with_reducible rename News _ _ _ _ => N3)
    refine Stop.out (eq_logs N3 (by k_mem) (by k_mem) hq9 hq8 (by show un + 3 + 64 < cLine; omega) ?_)
    k_steps
    rename_i aX hX2 oX FX NX loX hdX hfX hiX fiX lX
    refine Stop.out (kept_K B2 FX X2 T2 NX rfl rfl rfl (by dsimp only; omega) (by dsimp only; omega) KP (sub_four (by k_mem) (by k_mem) (by k_mem) (fun p hp => by repeat first | exact List.mem_append_right _ hp | exact List.mem_append_left _ hp | exact hp | refine List.Mem.tail _ ?_)) loX (.head _) hdX rfl hits_nil (by decide +kernel) ?_)
    intro hZ tkZ hkZ
    exact hR _ _ ((moved_keep keep2 FX).trans (Moved.of_keeps hkZ))

end Mine
end

section
open PySem PySem.W PyProof.Rows PySem.Calls PyProof.V
namespace Mine
section
variable {w : World} {A : Around} {s : Shared} {base h₀ : Heap} {outer : List Env} {p : Program} {loose : List Str} {mean : ExcName → Option Value} {mg mb : Str → Option Value} {L : Addr} {m : Str → Option Value} {env : Env} {rest l : List (Addr × Obj)}
  {Q : Value → Shared → Prop} {E : Value → Shared → Prop} {pl ls : Addr} {at' c : Int} {t1 t2 : Tok} {n k : Nat} {vs : List Value} {ns : List Int}

theorem pen_down (F : Fr h₀ L s.heap m) (N : News h₀ L s.heap ((pl, penObj ls at' c t1 t2 n) :: (ls, listOf vs.toArray k) :: rest)) (hne : @Ne Nat ls pl) (hi : IntsAre vs ns) (hlen : ns.length ≤ 63) : PenOk (hideAll s.heap [pl]) ls vs ns :=
  ⟨⟨_, hideAll_get _ (N _ (.tail _ (.head _))).1 (fun q => hne (List.mem_singleton.mp q)), rfl, k, rfl⟩, hi, hlen⟩

theorem pen_back {h' : Heap} {at'' : Int} {t1' : Tok} {n' : Nat} {tl : List (Addr × Obj)} (F : Fr h₀ L s.heap m) (N : News h₀ L s.heap ((pl, penObj ls at' c t1 t2 n) :: (ls, listOf vs.toArray k) :: rest)) (hne : @Ne Nat ls pl) (hrest : ∀ p ∈ rest, p.1 ≠ pl)
    (hk : Keeps [pl] s.heap h') (hp : h'.get? pl = some (penObj ls at'' c t1' t2 n')) (htl : ∀ q ∈ tl, h'.get? q.1 = some q.2 ∧ s.heap.get? q.1 = none) :
    Fr h₀ L h' m ∧ News h₀ L h' ((pl, penObj ls at'' c t1' t2 n') :: (ls, listOf vs.toArray k) :: (tl ++ rest)) ∧ ∀ p ∈ tl ++ rest, p.1 ≠ pl := by
  have hM : ∀ a ∈ [pl], ∃ o, (a, o) ∈ (pl, penObj ls at' c t1 t2 n) :: (ls, listOf vs.toArray k) :: rest := by
    intro a ha; rw [List.mem_singleton.mp ha]; exact ⟨_, .head _⟩
  obtain ⟨F', N'⟩ := back (news' := (pl, penObj ls at'' c t1' t2 n') :: (ls, listOf vs.toArray k) :: (tl ++ rest)) F N hM hk (by
    intro q hq
    simp only [List.mem_cons, List.mem_append] at hq
    rcases hq with hq | hq | hq | hq
    · rw [hq]; exact .inr ⟨hp, .inl (by simp)⟩
    · rw [hq]; exact .inl ⟨by simp, fun z => hne (List.mem_singleton.mp z)⟩
    · exact .inr ⟨(htl q hq).1, .inr (htl q hq).2⟩
    · exact .inl ⟨by simp [hq], fun z => hrest q hq (List.mem_singleton.mp z)⟩)
  refine ⟨F', N', fun q hq => ?_⟩
  rcases List.mem_append.mp hq with hq | hq
  · intro e
    have h1 := (htl q hq).2
    rw [e, (N _ (.head _)).1] at h1; cases h1
  · exact hrest q hq

theorem line_K (B : Below A base outer h₀) (F : Fr h₀ L s.heap m) (X : (hd.heap_39 w.params).In h₀) (T : Top p loose mean mg mb h₀)
    (N : News h₀ L s.heap ((pl, penObj ls at' c t1 t2 n) :: (ls, listOf vs.toArray k) :: rest)) (hne : @Ne Nat ls pl) (hrest : ∀ p ∈ rest, p.1 ≠ pl) (hi : IntsAre vs ns) (hlen : ns.length ≤ 63)
    (hh : A.handled = none) (hroom : A.depth + 30 < recursionLimit) (h0 : 0 ≤ at') (h1 : at' ≤ 50) (hc0 : 0 ≤ c) (hc1 : c < 65521) (hf : env.frame = some L) (hke : env.scope.kind = .function)
    (hR : ∀ h' tk' bd at'' t1' n' bk tl, Fr h₀ L h' m → News h₀ L h' ((pl, penObj ls at'' c t1' t2 n') :: (ls, listOf vs.toArray k) :: (tl ++ rest)) → (∀ p ∈ tl ++ rest, p.1 ≠ pl) → at' ≤ at'' → at'' ≤ at' + 3 → BookIn PySem.Challenge.rw_pq1068_01.row.prog w tl bd bk → LineBook bk →
      Q (.ref bd) { s with heap := h', toks := tk' }) :
    wpAny (model PySem.Challenge.rw_pq1068_01.row.prog w) (A.deeper env) (call (.ref 116) [.ref pl]) Q E s := by
  have hM : ∀ a ∈ [pl], ∃ o, (a, o) ∈ (pl, penObj ls at' c t1 t2 n) :: (ls, listOf vs.toArray k) :: rest := by
    intro a ha; rw [List.mem_singleton.mp ha]; exact ⟨_, .head _⟩
  obtain ⟨B', X', T'⟩ := down (M := [pl]) (env := env) B F X N T hf hke hM
  refine wpAny_call (line_ok B' X' T' (pen_down F N hne hi hlen) (by rw [depth_deeper]; omega) hh (N _ (.head _)).1 h0 h1 hc0 hc1 ?_)
  intro h' tk' bd at'' t1' n' bk tl hk hp ha1 ha2 htl hb hl
  obtain ⟨F', N', hne'⟩ := pen_back F N hne hrest hk hp htl
  exact hR h' tk' bd at'' t1' n' bk tl F' N' hne' ha1 ha2 hb hl

theorem book_K (B : Below A base outer h₀) (F : Fr h₀ L s.heap m) (X : (hd.heap_39 w.params).In h₀) (T : Top p loose mean mg mb h₀)
    (N : News h₀ L s.heap ((pl, penObj ls at' c t1 t2 n) :: (ls, listOf vs.toArray k) :: rest)) (hne : @Ne Nat ls pl) (hrest : ∀ p ∈ rest, p.1 ≠ pl) (hi : IntsAre vs ns) (hlen : ns.length ≤ 63)
    (hh : A.handled = none) (hroom : A.depth + 30 < recursionLimit) (h0 : 0 ≤ at') (h1 : at' ≤ 50) (hc0 : 0 ≤ c) (hc1 : c < 65521) (hf : env.frame = some L) (hke : env.scope.kind = .function)
    (hR : ∀ h' tk' bd at'' t1' n' bk tl, Fr h₀ L h' m → News h₀ L h' ((pl, penObj ls at'' c t1' t2 n') :: (ls, listOf vs.toArray k) :: (tl ++ rest)) → (∀ p ∈ tl ++ rest, p.1 ≠ pl) → at' ≤ at'' → at'' ≤ at' + 28 → BookIn PySem.Challenge.rw_pq1068_01.row.prog w tl bd bk → BkOk 4 bk →
      Q (.ref bd) { s with heap := h', toks := tk' }) :
    wpAny (model PySem.Challenge.rw_pq1068_01.row.prog w) (A.deeper env) (call (.ref 111) [.ref pl]) Q E s := by
  have hM : ∀ a ∈ [pl], ∃ o, (a, o) ∈ (pl, penObj ls at' c t1 t2 n) :: (ls, listOf vs.toArray k) :: rest := by
    intro a ha; rw [List.mem_singleton.mp ha]; exact ⟨_, .head _⟩
  obtain ⟨B', X', T'⟩ := down (M := [pl]) (env := env) B F X N T hf hke hM
  refine wpAny_call (book_ok B' X' T' (pen_down F N hne hi hlen) (by rw [depth_deeper]; omega) hh (N _ (.head _)).1 h0 h1 hc0 hc1 ?_)
  intro h' tk' bd at'' t1' n' bk tl hk hp ha1 ha2 htl hb hl
  obtain ⟨F', N', hne'⟩ := pen_back F N hne hrest hk hp htl
  exact hR h' tk' bd at'' t1' n' bk tl F' N' hne' ha1 ha2 hb hl

theorem next_K2 (B : Below A base outer h₀) (F : Fr h₀ L s.heap m) (X : (hd.heap_39 w.params).In h₀) (T : Top p loose mean mg mb h₀)
    (N : News h₀ L s.heap ((pl, penObj ls at' c t1 t2 n) :: (ls, listOf vs.toArray k) :: rest)) (hne : @Ne Nat ls pl) (hrest : ∀ p ∈ rest, p.1 ≠ pl) (hi : IntsAre vs ns) (hlen : ns.length ≤ 63)
    (hroom : A.depth + 30 < recursionLimit) (h0 : 0 ≤ at') (h1 : at' ≤ 100) (hc0 : 0 ≤ c) (hc1 : c < 65521) (hf : env.frame = some L) (hke : env.scope.kind = .function)
    (hR : ∀ h' tk' i tk t1' n', Fr h₀ L h' m → News h₀ L h' ((pl, penObj ls (at' + 1) c t1' t2 n') :: (ls, listOf vs.toArray k) :: rest) → Q (.int i tk) { s with heap := h', toks := tk' }) :
    wpAny (model PySem.Challenge.rw_pq1068_01.row.prog w) (A.deeper env) (call (.ref 97) [.ref pl]) Q E s := by
  have hM : ∀ a ∈ [pl], ∃ o, (a, o) ∈ (pl, penObj ls at' c t1 t2 n) :: (ls, listOf vs.toArray k) :: rest := by
    intro a ha; rw [List.mem_singleton.mp ha]; exact ⟨_, .head _⟩
  obtain ⟨B', X', T'⟩ := down (M := [pl]) (env := env) B F X N T hf hke hM
  have P := pen_down F N hne hi hlen
  refine wpAny_call (next_ok B' X' T' (by rw [depth_deeper]; omega) (N _ (.head _)).1 P.l P.i P.len h0 h1 hc0 hc1 ?_)
  intro h' tk' i tk t1' n' hk hp
  obtain ⟨F', N', _⟩ := pen_back (tl := []) F N hne hrest hk hp (fun q hq => nomatch hq)
  exact hR h' tk' i tk t1' n' F' N'

/-- a call of _law_same from the law: what it needs, and that all stands after it -/
theorem same_K {pos : List Value} (B : Below A base [] h₀) (F : Fr h₀ L s.heap m) (X : (hd.heap_39 w.params).In h₀) (T : Top p loose mean mg mb h₀) (N : News h₀ L s.heap l) (hf : env.frame = some L) (hke : env.scope.kind = .function)
    (hc : ∀ R : Result → Shared → Prop, Below (A.deeper env) base (env :: []) (hideAll s.heap []) → (hd.heap_39 w.params).In (hideAll s.heap []) → Top p loose mean mg mb (hideAll s.heap []) → (∀ q ∈ l, (hideAll s.heap []).get? q.1 = some q.2) →
      (∀ h' tk', Moved (framesOf (env :: [])) [] s.heap h' → R (.ok (.ret (.bool true))) { s with heap := h', toks := tk' }) → codeAny (model PySem.Challenge.rw_pq1068_01.row.prog w) (A.deeper env) (.call (.ref 144) ⟨pos, []⟩) R s)
    (hR : ∀ h' tk', Fr h₀ L h' m → News h₀ L h' l → Q (.bool true) { s with heap := h', toks := tk' }) :
    wpAny (model PySem.Challenge.rw_pq1068_01.row.prog w) (A.deeper env) (call (.ref 144) pos) Q E s := by
  obtain ⟨B', X', T'⟩ := down (M := []) (env := env) (news := []) B F X (fun q hq => nomatch hq) T hf hke (fun a ha => nomatch ha)
  refine wpAny_call (hc _ B' X' T' (fun q hq => (N q hq).1) ?_)
  intro h' tk' mv
  have hL : h₀.get? L = none := Heap.get?_none_of_le F.above
  have hfo : framesOf (env :: []) = [L] := by
    show List.filterMap _ (env :: []) = _
    rw [List.filterMap_cons, hf]; rfl
  rw [hfo] at mv
  have kp : ∀ b o, s.heap.get? b = some o → b ≠ L → h'.get? b = some o := fun b o e hb => (mv b o e (fun q => nomatch q)).1 fun q => hb (List.mem_singleton.mp q)
  refine hR h' tk' ⟨?_, fun b o e => kp _ _ (F.keep b o e) fun q => (by rw [q, hL] at e; cases e), F.above⟩ fun q hq => ⟨kp _ _ (N q hq).1 (N q hq).2.1, (N q hq).2⟩
  obtain ⟨oL, es, ep, ho, hd, r⟩ := F.ns
  obtain ⟨sl, z⟩ := (mv L oL ho (fun q => nomatch q)).2
  exact ⟨_, es, ep, z, hd, r⟩
end

theorem item7 (i : Int) : Txt.item (Str.ofString "bcdbcde") (i.fmod ((7 : Nat) : Int)) ∈ goals5 := by
  obtain ⟨j, hj⟩ := fmod_fin i 7 (by decide)
  rw [hj]; clear hj; revert j; decide +kernel
theorem most3 (i : Int) : ∃ k : Nat, k ≤ 3 ∧ i.fmod 4 = (k : Int) := by
  obtain ⟨j, hj⟩ := fmod_fin i 4 (by decide)
  exact ⟨j.val, by omega, hj⟩

end Mine
end

section
open PySem PySem.W PyProof.Rows PySem.Calls PyProof.V
namespace Mine
noncomputable def BookStr (bk : List (Str × List Rule)) : Prop := ∀ x rs, bkAt bk x = some rs → ∀ r ∈ rs, ∀ k g, r.2 = some (k, g) → PyData.strOk g = true

theorem kinds_ok : ∀ k ∈ [Str.ofString "", Str.ofString "break", Str.ofString "continue", Str.ofString "return", Str.ofString "accept", Str.ofString "drop", Str.ofString "goto", Str.ofString "jump"], PyData.strOk k = true := by decide +kernel
theorem ok_empty : PyData.strOk (Str.ofString "") = true := kinds_ok _ (by simp)
theorem ok_break : PyData.strOk (Str.ofString "break") = true := kinds_ok _ (by simp)
theorem ok_continue : PyData.strOk (Str.ofString "continue") = true := kinds_ok _ (by simp)
theorem ok_return : PyData.strOk (Str.ofString "return") = true := kinds_ok _ (by simp)
theorem ok_accept : PyData.strOk (Str.ofString "accept") = true := kinds_ok _ (by simp)
theorem ok_drop : PyData.strOk (Str.ofString "drop") = true := kinds_ok _ (by simp)
theorem ok_goto : PyData.strOk (Str.ofString "goto") = true := kinds_ok _ (by simp)
theorem ok_jump : PyData.strOk (Str.ofString "jump") = true := kinds_ok _ (by simp)

theorem all_cons {x : Step} {st : List Step} (a : StrOk3 x) (b : ∀ x ∈ st, StrOk3 x) : ∀ y ∈ x :: st, StrOk3 y := by
  intro y hy
  rcases List.mem_cons.mp hy with rfl | hy
  · exact a
  · exact b y hy

theorem run_str {bk : List (Str × List Rule)} {most : Nat} (hb : BookStr bk) {name : Str} {i : Nat} {rs : List Rule} {w : Nat} {st : List Step} {o : Out} {d : Nat} (h : Run bk most name i rs w st o d) :
    PyData.strOk name = true → (∀ r ∈ rs, ∀ k g, r.2 = some (k, g) → PyData.strOk g = true) → (∀ x ∈ st, StrOk3 x) ∧ ∀ k, o = .ended k → PyData.strOk k = true := by
  induction h with
  | done => intro _ _; exact ⟨(fun x hx => nomatch hx), (fun k e => nomatch e)⟩
  | none _ ih =>
    intro hn hr
    obtain ⟨h1, h2⟩ := ih hn fun r h => hr r (.tail _ h)
    exact ⟨all_cons ⟨hn, ok_empty, ok_empty⟩ h1, h2⟩
  | brk _ ih =>
    intro hn hr
    obtain ⟨h1, h2⟩ := ih hn fun r h => hr r (.tail _ h)
    exact ⟨all_cons ⟨hn, ok_break, hr _ (.head _) _ _ rfl⟩ h1, h2⟩
  | cont _ ih =>
    intro hn hr
    obtain ⟨h1, h2⟩ := ih hn fun r h => hr r (.tail _ h)
    exact ⟨all_cons ⟨hn, ok_continue, hr _ (.head _) _ _ rfl⟩ h1, h2⟩
  | ret => intro hn hr; exact ⟨all_cons ⟨hn, ok_return, hr _ (.head _) _ _ rfl⟩ (fun x hx => nomatch hx), (fun k e => nomatch e)⟩
  | acc => intro hn hr; exact ⟨all_cons ⟨hn, ok_accept, ok_empty⟩ (fun x hx => nomatch hx), fun k e => by cases e; exact ok_accept⟩
  | drop => intro hn hr; exact ⟨all_cons ⟨hn, ok_drop, ok_empty⟩ (fun x hx => nomatch hx), fun k e => by cases e; exact ok_drop⟩
  | gotoMiss _ => intro hn hr; exact ⟨all_cons ⟨hn, ok_goto, hr _ (.head _) _ _ rfl⟩ (fun x hx => nomatch hx), (fun k e => nomatch e)⟩
  | goto hx _ ih =>
    intro hn hr
    have hg := hr _ (.head _) _ _ rfl
    obtain ⟨h1, h2⟩ := ih hg (hb _ _ hx)
    exact ⟨all_cons ⟨hn, ok_goto, hg⟩ h1, h2⟩
  | full _ => intro hn hr; exact ⟨all_cons ⟨hn, ok_jump, hr _ (.head _) _ _ rfl⟩ (fun x hx => nomatch hx), fun k e => by cases e; exact ok_drop⟩
  | jumpMiss _ _ => intro hn hr; exact ⟨all_cons ⟨hn, ok_jump, hr _ (.head _) _ _ rfl⟩ (fun x hx => nomatch hx), (fun k e => nomatch e)⟩
  | jumpOut _ hx _ _ ih =>
    intro hn hr
    have hg := hr _ (.head _) _ _ rfl
    obtain ⟨h1, h2⟩ := ih hg (hb _ _ hx)
    exact ⟨all_cons ⟨hn, ok_jump, hg⟩ h1, h2⟩
  | jumpBack _ hx _ _ ih1 ih2 =>
    intro hn hr
    have hg := hr _ (.head _) _ _ rfl
    obtain ⟨h1, _⟩ := ih1 hg (hb _ _ hx)
    obtain ⟨h3, h4⟩ := ih2 hn fun r h => hr r (.tail _ h)
    refine ⟨all_cons ⟨hn, ok_jump, hg⟩ fun x hx => ?_, h4⟩
    rcases List.mem_append.mp hx with hx | hx
    · exact h1 x hx
    · exact h3 x hx

theorem goals5_ok : ∀ g ∈ goals5, PyData.strOk g = true := by decide +kernel
theorem goals5_len : ∀ g ∈ goals5, g.length ≤ 1000 := by decide +kernel
theorem cn_ok : ∀ j : Fin 20, PyData.strOk (cn j.val) = true := by decide +kernel

theorem book_str {bk : List (Str × List Rule)} (hb : BkOk 4 bk) : BookStr bk := by
  intro x rs hx r hr k g hk
  rcases bk_char hb x with h | ⟨p, _, _, rs', e, _, h2⟩
  · rw [h] at hx; cases hx
  · rw [e] at hx; cases hx
    have := h2 r hr
    rw [hk] at this
    cases this with
    | plain _ => exact ok_empty
    | jump h => exact goals5_ok g h
    | goto hg =>
      rcases hg.is with h | ⟨_, h⟩ | ⟨_, h⟩ | ⟨_, h⟩ <;> (rw [h]; exact goals5_ok _ (by simp [goals5]))

theorem line_str {bk : List (Str × List Rule)} (h : LineBook bk) : BookStr bk := by
  intro x rs hx r hr k g hk
  obtain ⟨K, n, e, _, he, _, hK, hall⟩ := line_at h
  rcases hall x rs hx with rfl | ⟨j, hj, hl⟩
  · rw [List.mem_singleton.mp hr] at hk
    dsimp only at hk
    rcases he with q | q | q | q | q <;> rw [q] at hk <;> cases hk <;> exact ok_empty
  · cases hl with
    | mk h1 _ h2 =>
      simp only [List.mem_cons, List.not_mem_nil, or_false] at hr
      rcases hr with rfl | rfl | rfl | rfl
      · dsimp only at hk
        rcases h1 with q | q | q <;> rw [q] at hk <;> cases hk <;> exact ok_empty
      · cases hk; exact cn_ok ⟨j + 1, by omega⟩
      · dsimp only at hk
        rcases h2 with q | q | q | q <;> rw [q] at hk <;> cases hk <;> exact ok_empty
      · cases hk

/-- all that _law_same asks of a line -/
theorem line_facts {bk : List (Str × List Rule)} (h : LineBook bk) : ∃ stp o, ((∃ rs d, bkAt bk (Str.ofString "c0") = some rs ∧ Run bk 16 (Str.ofString "c0") 0 rs 0 stp o d ∧ d ≤ 40) ∨ (bkAt bk (Str.ofString "c0") = none ∧ stp = [] ∧ o = .fault (Str.ofString "c0"))) ∧
    stp.length ≤ 500000 ∧ (∀ x ∈ stp, StrOk3 x) ∧ ∀ k, o = .ended k → PyData.strOk k = true := by
  obtain ⟨rs, st, o, d, hx, run, hd, hz⟩ := line_whole h
  obtain ⟨h1, h2⟩ := run_str (line_str h) run (by rw [c0_is]; exact cn_ok 0) (line_str h _ _ hx)
  exact ⟨st, o, .inl ⟨rs, d, hx, run, hd⟩, hz, h1, h2⟩

/-- all that _law_same asks of a book -/
theorem book_facts {bk : List (Str × List Rule)} (hb : BkOk 4 bk) {most : Nat} (hm : most ≤ 3) {first : Str} (hf : first ∈ goals5) : ∃ stp o, ((∃ rs d, bkAt bk first = some rs ∧ Run bk most first 0 rs 0 stp o d ∧ d ≤ 40) ∨ (bkAt bk first = none ∧ stp = [] ∧ o = .fault first)) ∧
    stp.length ≤ 500000 ∧ (∀ x ∈ stp, StrOk3 x) ∧ ∀ k, o = .ended k → PyData.strOk k = true := by
  rcases book_whole hb hm first with h | ⟨rs, st, o, d, hx, run, hd, hz⟩
  · exact ⟨[], .fault first, .inr ⟨h, rfl, rfl⟩, by simp, (fun x hx => nomatch hx), (fun k e => nomatch e)⟩
  · obtain ⟨h1, h2⟩ := run_str (book_str hb) run (goals5_ok _ hf) (book_str hb _ _ hx)
    exact ⟨st, o, .inl ⟨rs, d, hx, run, hd⟩, hz, h1, h2⟩

end Mine
end

section
open PySem PySem.W PyProof.Rows PySem.Calls PyProof.V
namespace Mine
theorem freshL3 : True := by
  w_top off
  k_with_none
  trivial

theorem linesL3 : True := by
  k_with "call ref" => (k_here; (with_reducible show wpAny _ _ (call (Value.ref 116) _) _ _ _); refine Stop.go ?_)
  k_with "call ref" => (k_here; (with_reducible show wpAny _ _ (call (Value.ref 111) _) _ _ _); refine Stop.go ?_)
  k_with "call ref" => (k_here; (with_reducible show wpAny _ _ (call (Value.ref 97) _) _ _ _); refine Stop.go ?_)
  k_with "call ref" => (k_here; (with_reducible show wpAny _ _ (call (Value.ref 144) _) _ _ _); refine Stop.go ?_)
  k_with "pyIter ref" => ((with_reducible show wpAny _ _ (pyIter (Value.ref _)) (fun it s₂ => LoopAtV _ _ _ _ _ _ _ _ _ it s₂) _ _); refine Stop.go ?_)
  k_with "eval Name" => (k_here; k_dflt (refine' PyProof.Rows.ld ?k1 ?k2 ?_; (case k1 => k_asm); (case k2 => ((repeat (refine Eq.trans (if_neg (by decide)) ?_)); assumption)); k_whole))
  k_with "loadName" => (k_here; k_dflt (refine' PyProof.Rows.ldn ?k1 ?k2 ?_; (case k1 => k_asm); (case k2 => ((repeat (refine Eq.trans (if_neg (by decide)) ?_)); assumption)); k_whole))
  trivial
theorem end1 {h₀ h' : Heap} {L J : Addr} {s₁ : Shared} {o : Obj} {m' : Str → Option Value} {news' : List (Addr × Obj)} {tk : Nat} {rest : (Str → Option Value) → List (Addr × Obj) → Prop} (F : Fr h₀ L h' m') (N : News h₀ L h' ((J, o) :: news')) (off : ∀ p ∈ news', p.1 < J) (r : rest m' news') :
    UnrEndW h₀ L s₁ [(J, o)] rest { s₁ with heap := h', toks := tk } := ⟨h', tk, m', news', rfl, F, N, fun p hp q hq => by rw [List.mem_singleton.mp hq]; exact Nat.ne_of_lt (off p hp), r⟩
theorem rot3 {h₀ h : Heap} {L : Addr} {a b c : Addr × Obj} {rest : List (Addr × Obj)} (N : News h₀ L h (a :: b :: c :: rest)) : News h₀ L h (b :: c :: a :: rest) := News.sub N (by (repeat (refine sub_cons (by k_mem) ?_)); (repeat (first | exact fun _ h => h | refine sub_skip ?_)))

noncomputable def LawInv (pl D : Addr) (c : Int) (t2 : Tok) (vs : List Value) (i : Nat) (m : Str → Option Value) (l : List (Addr × Obj)) : Prop :=
  ∃ at'' t1 n rest, l = (pl, penObj D at'' c t1 t2 n) :: (D, listOf vs.toArray 0) :: rest ∧ 0 ≤ at'' ∧ at'' ≤ 3 + 30 * (i : Int) ∧ m (Str.ofString "pen") = some (.ref pl) ∧ ∀ p ∈ rest, p.1 ≠ pl
theorem room0 : callerA.depth + 90 < recursionLimit := by decide +kernel
theorem units0 : callerA.units + 450 < cLine := by decide +kernel
theorem room80 {env : Env} : (callerA.deeper env).depth + 80 < recursionLimit := by rw [depth_deeper]; have := room0; omega
theorem c0_len : (Str.ofString "c0").length ≤ 1000 := by decide
theorem units400 {env : Env} : (callerA.deeper env).units + 400 < cLine := by show callerA.units + 3 + 400 < cLine; have := units0; omega
set_option maxHeartbeats 8000000 in
theorem main : PySem.Challenge.rw_pq1068_01.Holds := by
  refine Mine.hd ?_
  k_go0
  all_goals try k_fold
  k_steps
  rename_i wz hsz hlz hLz hrz hl2z w4 w3 w2 w1 w0 hLl ral w1l r0l hIl hrl hcd2 hcd1 K0 hDf h₁ D' ws' hh4 hI' hC' hL' la hh3 hh2 tk' t' l' hh1 lb hh0 F0 N0
  (with_reducible rename Top _ _ _ _ _ _ => T0)
  (with_reducible rename Frag.In _ _ => KX)
  have r30 : callerA.depth + 30 < recursionLimit := by have := room0; omega
  refine Stop.out (line_K K0 F0 KX T0 (rest := []) N0 (Nat.ne_of_lt lb) (fun _ h => nomatch h) hI' (by omega) rfl r30 (Int.le_refl 0) (by omega) (Int.fmod_nonneg_of_pos _ (by omega)) (Int.fmod_lt_of_pos _ (by omega)) rfl rfl ?_)
  intro h1 tk1 ld at1 t1 n1 lbk ltl F1 N1 hn1 ha1 ha2 hbl hlb
  rw [List.append_nil] at N1 hn1
  clear F0 N0
  obtain ⟨stp, o, hrun, hz, hstr, hend⟩ := line_facts hlb
  k_steps
  (with_reducible rename Fr _ _ _ _ => F2)
  (with_reducible rename News _ _ _ _ => N2)
  refine Stop.out (same_K K0 F2 KX T0 N2 rfl rfl (fun R B' X' T' hb hR' => Ia (tm := 0) B' X' T' KX T0 rfl room80 units400 (BookIn.at hbl fun q hq => hb q (.tail _ (.tail _ hq))) (line_goals hlb) c0_len rfl hz hrun hstr hend hR') ?_)
  clear F2 N2
  intro h3 tk3 F3 N3
  k_steps
  (with_reducible rename Fr _ _ _ _ => F4)
  (with_reducible rename News _ _ _ _ => N4)
  refine Stop.out (same_K K0 F4 KX T0 N4 rfl rfl (fun R B' X' T' hb hR' => Ic (tm := 0) B' X' T' KX T0 rfl room80 units400 (BookIn.at hbl fun q hq => hb q (.tail _ (.tail _ hq))) (line_goals hlb) c0_len rfl hz hrun hstr hend hR') ?_)
  clear F4 N4
  intro h5 tk5 F5 N5
  k_steps
  (with_reducible rename IsRange _ _ _ _ _ _ _ _ => hr)
  (with_reducible rename Fr _ _ _ _ => F6)
  (with_reducible rename News _ _ _ _ => N6)
  have hc0 := Int.fmod_nonneg_of_pos (List.take 63 wz).sum (b := 65521) (by omega)
  have hc1 := Int.fmod_lt_of_pos (List.take 63 wz).sum (b := 65521) (by omega)
  have hDl : @Ne Nat D' l' := Nat.ne_of_lt lb
  refine Stop.out (iter_rangeI (n := 2) (LawInv l' D' _ _ ws') rfl hr (by decide) (by decide) F6 N6 ⟨_, _, _, _, rfl, ha1, by omega, rfl, hn1⟩ ?_ ?_)
  · clear hr F6 N6
    intro I i t m₁ news₁ h tk hi hInv hI hoff F N
    obtain ⟨at2, t3, n3, rest, rfl, hb1, hb2, hm1, hr1⟩ := hInv
    k_fold
    replace hI := allLt_of hI
    simp only [AllLt, and_true] at hI
    k_steps
    (with_reducible rename Fr _ _ _ _ => F7)
    (with_reducible rename News _ _ _ _ => N7)
    refine Stop.out (book_K K0 F7 KX T0 (rot3 N7) hDl (cons_ne (Nat.ne_of_gt hI.1) hr1) hI' (by omega) rfl r30 hb1 (by omega) hc0 hc1 rfl rfl ?_)
    intro h8 tk8 bd at8 t8 n8 bk tl F8 N8 hn8 hx1 hx2 hbb hbk
    clear F7 N7
    k_steps
    (with_reducible rename Fr _ _ _ _ => F9)
    (with_reducible rename News _ _ _ _ => N9)
    refine Stop.out (next_K2 K0 F9 KX T0 N9 hDl hn8 hI' (by omega) r30 (by omega) (by omega) hc0 hc1 rfl rfl ?_)
    intro h10 tk10 iv10 tv10 t10 n10 F10 N10
    clear F9 N9
    k_steps
    (with_reducible rename Fr _ _ _ _ => F11)
    obtain ⟨mk, hmk, emk⟩ := most3 iv10
    simp only [emk] at F11
    (with_reducible rename News _ _ _ _ => N11)
    refine Stop.out (next_K2 K0 F11 KX T0 N11 hDl hn8 hI' (by omega) r30 (by omega) (by omega) hc0 hc1 rfl rfl ?_)
    intro h12 tk12 iv12 tv12 t12 n12 F12 N12
    clear F11 N11
    k_steps
    rename_i kxi DT hT FT NT lT
    have hFirst := item7 iv12
    generalize Txt.item (Str.ofString "bcdbcde") (iv12.fmod 7) = fst at FT NT kxi hFirst
    refine iter_tupTurns (vs := [.str (Str.ofString "a") _, .str fst _]) rfl FT NT (.head _) rfl rfl (fun J hJ => ?_)
    clear FT NT
    (with_unfolding_all refine ItemsRest.val (fun hs1 ts1 FS1 => ?_))
    ktu_objs
    k_steps
    (with_reducible rename Fr _ _ _ _ => FA)
    (with_reducible rename News _ _ _ _ => NA)
    obtain ⟨stp1, o1, hrun1, hz1, hstr1, hend1⟩ := book_facts hbk hmk (first := Str.ofString "a") (by simp [goals5])
    refine Stop.out (same_K K0 FA KX T0 NA rfl rfl (fun R B' X' T' hb hR' => Ib B' X' T' KX T0 rfl room80 units400 (BookIn.at hbb fun q hq => hb q (by simp [hq])) (book_goals hbk) (by decide) (by omega) hz1 hrun1 hstr1 hend1 hR') ?_)
    clear FA NA
    intro hA tkA FA NA
    k_steps
    refine end1 FA NA hJ ⟨⟨.head _, trivial⟩, ?_⟩
    (with_unfolding_all refine ItemsRest.val (fun hs2 ts2 FS2 => ?_))
    clear FA NA
    ktu_objs
    k_steps
    (with_reducible rename Fr _ _ _ _ => FA)
    (with_reducible rename News _ _ _ _ => NA)
    obtain ⟨stp2, o2, hrun2, hz2, hstr2, hend2⟩ := book_facts hbk hmk hFirst
    refine Stop.out (same_K K0 FA KX T0 NA rfl rfl (fun R B' X' T' hb hR' => Ib B' X' T' KX T0 rfl room80 units400 (BookIn.at hbb fun q hq => hb q (by simp [hq])) (book_goals hbk) (by omega) (by omega) hz2 hrun2 hstr2 hend2 hR') ?_)
    clear FA NA
    intro hB tkB FB NB
    k_steps
    refine end1 FB NB hJ ⟨⟨.head _, trivial⟩, ?_⟩
    clear FB NB
    refine ItemsRest.zero (fun hC tkC FC NC => ?_)
    k_steps
    refine UnrEnd.intro FC NC [(l', penObj D' (at8 + 1 + 1) ((List.take 63 wz).sum.fmod 65521) t12 (tk' + 1) n12), (D', listOf ws'.toArray 0)] ?_ ?_ ?_
    · intro p hp
      simp only [List.mem_cons, List.not_mem_nil, or_false] at hp
      rcases hp with e | e | e <;> simp [e]
    · exact cons_ne (Nat.ne_of_lt hI.1) (cons_ne (Nat.ne_of_lt hI.2.1) (fun _ h => nomatch h))
    · exact ⟨_, _, _, [], rfl, by omega, by omega, (by repeat (refine Eq.trans (if_neg (by decide)) ?_); exact hm1), (fun _ h => nomatch h)⟩
  · clear hr F6 N6
    intro m₁ news₁ h tk hInv F N
    obtain ⟨at2, t3, n3, rest, rfl, hb1, hb2, hm1, hr1⟩ := hInv
    dsimp only
    k_steps

end Mine
end

theorem PySem.Challenge.cw_pq1068_01_holds : PySem.Challenge.rw_pq1068_01.Holds := by
  exact Mine.main
