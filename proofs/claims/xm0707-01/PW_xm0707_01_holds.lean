import PyProof.Rows.All
import PyProof.AttrMissHeap
import Wide.All
import OpenK.AllK
import Wide.FinOn
import Lean
import PySem.Challenge.RW_xm0707_01
set_option Elab.async false
section
open PySem PySem.W PyProof.Rows
namespace Mine
set_option maxRecDepth 100000 in
set_option maxHeartbeats 8000000 in
open_top hd for PySem.Challenge.rw_xm0707_01
end Mine
end

section
open PySem PySem.Spec PySem.Calls PySem.W PyProof.Rows
namespace Mine

theorem fr_after {h₀ h h' : Heap} {L : Addr} {m : Str → Option Value} {hid : List Addr} (F : Fr h₀ L h m) (hL : L ∉ hid) (h0 : ∀ a ∈ hid, h₀.get? a = none)
    (hk : ∀ b o, b ∉ hid → h.get? b = some o → h'.get? b = some o) : Fr h₀ L h' m := by
  obtain ⟨oL, es, ep, hg, r⟩ := F.ns
  refine ⟨⟨oL, es, ep, hk _ _ hL hg, r⟩, fun b o e => hk b o (fun hb => ?_) (F.keep b o e), F.above⟩
  rw [h0 b hb] at e; cases e

theorem fr_keep {h₀ h h' : Heap} {L : Addr} {m : Str → Option Value} (F : Fr h₀ L h m) (hk : ∀ b o, h.get? b = some o → h'.get? b = some o) : Fr h₀ L h' m :=
  fr_after (hid := []) F List.not_mem_nil (fun _ h => absurd h List.not_mem_nil) fun b o _ e => hk b o e

theorem news_keep {h₀ h h' : Heap} {L : Addr} {news : List (Addr × Obj)} (N : News h₀ L h news) (hk : ∀ b o, h.get? b = some o → h'.get? b = some o) : News h₀ L h' news :=
  fun p hp => ⟨hk _ _ (N p hp).1, (N p hp).2⟩

theorem news_new {h₀ h h' : Heap} {L : Addr} {m : Str → Option Value} {news : List (Addr × Obj)} {l : Addr} {o : Obj} (F : Fr h₀ L h m) (N : News h₀ L h news) (hk : ∀ b o, h.get? b = some o → h'.get? b = some o)
    (hn : h.get? l = none) (ho : h'.get? l = some o) : News h₀ L h' ((l, o) :: news) := by
  intro p hp
  rcases List.mem_cons.mp hp with rfl | hp
  · refine ⟨ho, fun e => ?_, ?_⟩
    · obtain ⟨oL, _, _, hg, _⟩ := F.ns
      have e' : l = L := e
      rw [← e', hn] at hg; cases hg
    · cases q : h₀.get? l with
      | none => rfl
      | some o' => have := F.keep _ _ q; rw [hn] at this; cases this
  · exact news_keep N hk p hp

section
variable {prog : Program} {w : World} {A₀ A : Around} {s : Shared} {base h₀ : Heap} {outer : List Env} {L : Addr} {m : Str → Option Value} {env : Env} {K : Frag}
  {R : Result → Shared → Prop} {name qual : Str} {params : Arguments} {body : List Stmt} {scope : Scope} {dV kV doc pm cdv ct oc : Value} {an od : Option Addr} {osl : Array (Option Value)} {f : Addr} {args : Args} {binds : List (Str × Value)}
  {p : Program} {loose : List Str} {mean : ExcName → Option Value} {mg mb : Str → Option Value}

/-- a def is entered upon the whole heap of its caller (but `hid`) as the ground -/
theorem enterG (hid : List Addr) (B : Below A₀ base outer h₀) (F : Fr h₀ L s.heap m) (X₀ : K.In h₀) (T : Top p loose mean mg mb h₀) (hA : A.frames = some (env :: outer)) (hf : env.frame = some L) (hke : env.scope.kind = .function)
    (hidL : L ∉ hid) (hid0 : ∀ a ∈ hid, h₀.get? a = none)
    (ho : K.lookup f = some ⟨oc, od, .func (fnOf name qual params body scope dV kV doc pm an cdv ct), osl⟩) (hcd : codeIn K cdv qual = true) (hroom : A.depth < recursionLimit)
    (hbind : BindsTo s (fnOf name qual params body scope dV kV doc pm an cdv ct) args binds) (hloc : ∀ y ∈ binds, scope.names.lookup y.1 = some .local)
    (h : ∀ g L' h₁, g = hideAll s.heap hid → s.heap.StaysIn h₁ → Fr g L' h₁ (fun y => binds.reverse.lookup y) → L' = s.heap.objs.size → Below A base (env :: outer) g → K.In g → Top p loose mean mg mb g →
      wpAny (model prog w) (A.deeper (envOf qual scope L' f cdv)) (execs body (envOf qual scope L' f cdv))
        (fun fl s' => R (.ok (.ret (match fl with | .ret v => v | _ => .none))) s')
        (fun e s' => wpAny (model prog w) (A.deeper (envOf qual scope L' f cdv)) (leaving (envOf qual scope L' f cdv) e) (fun _ s'' => R (.error e) s'') (fun e' s'' => R (.error e') s'') s')
        { s with heap := h₁, toks := s.toks + binds.length })
    (hco : scope.isCoroutine = false) (hgen : scope.isGenerator = false) (hk : scope.kind = .function)
    (hcell : ∀ x ∈ scope.names, x.2 ≠ .cell) : codeAny (model prog w) A (.call (.ref f) args) R s := by
  have X := X₀.keeps F.keep
  refine codeAny_call_def (fd := fnOf name qual params body scope dV kV doc pm an cdv ct) (body := body) (binds := binds) hroom (X _ _ ho) rfl (T.nolimit.keeps F.keep) (codeRec_of X hcd) rfl hbind hcell hloc (fun h₁ hns hk₁ => ?_) hco hgen hk
  have st : h₀.StaysIn (hideAll s.heap hid) := fun b o e => hideAll_get _ (F.keep b o e) fun hb => by rw [hid0 b hb] at e; cases e
  have B₁ := pushX B F hf hke
  have BG : Below A base (env :: outer) (hideAll s.heap hid) := ⟨hA, fun b o e => st b o (B.stays b o e), funFrames_hideAll B₁.frames fun env' he b hb hf' => by
    cases he with
    | head => exact hidL ((Option.some.inj (hf.symm.trans hf') : L = b) ▸ hb)
    | tail _ he =>
      obtain ⟨L₁, o₁, hf₁, ho₁⟩ := funFrames_in B.frames env' he
      rw [hf₁] at hf'
      have hb' : L₁ = b := Option.some.inj hf'
      rw [hb', hid0 b hb] at ho₁; cases ho₁⟩
  exact h _ _ h₁ rfl hk₁ ⟨hns, fun b o e => hk₁ b o (of_hideAll _ e), Nat.le_of_eq (hideAll_size _ _)⟩ rfl BG (X₀.keeps st) (T.keeps st)
end
end Mine
end

section
open PySem PySem.Spec PySem.Calls PySem.W PyProof.Rows
namespace Mine

/-- what a call of a def of the text answers, whoever calls it -/
def Ask (w : World) (f : Addr) (vs : List Value) (dk uk : Nat) (pre : Shared → Prop) (post : Shared → Value → Shared → Prop) : Prop :=
  ∀ (mean : ExcName → Option Value) (mg mb : Str → Option Value) (dp un : Nat) (gd : Option (List Code)) (cn : Str) (cs : Scope) (a : Addr) (ccd : Value) (cl : List (Str × Addr)) (outer : List Env) (A₀ : Around) (base h₀ : Heap) (L : Addr) (m : Str → Option Value) (s : Shared) (Q E : Value → Shared → Prop),
    Below A₀ base outer h₀ → Fr h₀ L s.heap m → (Mine.hd.heap_39 w.params).In h₀ → Top Mine.hd.view_39 (looseW Mine.hd.view_39 []) mean mg mb h₀ → cs.kind = .function → dp + dk < recursionLimit → un + uk < cLine → pre s →
    (∀ v s', post s v s' → Q v s') →
    wpAny (model PySem.Challenge.rw_xm0707_01.row.prog w) (ktrTop dp un gd cn cs L a ccd cl outer) (call (.ref f) vs) Q E s

/-- the state behind a call that changes nothing that stood -/
def Kept (s s' : Shared) : Prop := ∃ h' tk', s' = { s with heap := h', toks := tk' } ∧ ∀ b o, s.heap.get? b = some o → h'.get? b = some o

theorem hide_nil {g h : Heap} (e : g = hideAll h []) : ∀ b o, h.get? b = some o → g.get? b = some o := fun _ _ x => by rw [e]; exact x

local macro_rules | `(tactic| ktr_enter) => `(tactic| (refine' enterG [] ?k1 ?k2 ?k3 ?k5 ?kA ?kF ?kK ?kh ?kh0 ?k6 ?k7 ?k8 ?k9 ?kB ?_ ?c2 ?c3 ?c4 ?c5; (case kA => exact rfl); (case kF => exact rfl); (case kK => assumption); (case kh => exact List.not_mem_nil); (case kh0 => exact fun _ h => absurd h List.not_mem_nil); (case k1 => k_asm); (case k2 => k_asm); (case k3 => k_asm); (case k5 => k_asm); (case k6 => k_is); (case k7 => k_is); (case k8 => ktr_room); (case k9 => exact BindsTo.of_eq rfl); (case c5 => decide); (case kB => exact locs rfl); (case c2 => exact rfl); (case c3 => exact rfl); (case c4 => exact rfl); k_whole))

def pb (n : Int) : Array UInt8 := #[((n.fdiv 256).fmod 256).toNat.toUInt8, (n.fmod 256).toNat.toUInt8]

set_option maxRecDepth 100000 in
set_option maxHeartbeats 8000000 in
theorem put16_ask (w : World) (n : Int) (tn : Tok) : Ask w 53 [.int n tn] 1 8 (fun _ => True) (fun s v s' => (∃ t, v = .bytes (pb n) t) ∧ Kept s s') := by
  unfold Ask
  k_fill
  intro mean mg mb dp un gd cn cs a ccd cl outer A₀ base h₀ L m s Q E B F X T hk hd hu hp hret
  refine wpAny_call ?_
  k_dflt ktr_enter
  intro g' L' h' gE gS F' Le B' X' T'
  have N' := News.nil (h₀ := g') (L := L') (h := h')
  dsimp only
  k_steps
  exact hret _ _ ⟨⟨_, rfl⟩, _, _, rfl, fun b o e => Fr.keep (by assumption) b o (hide_nil gE b o e)⟩
end Mine
end

section
open PySem PySem.Spec PySem.Calls PySem.W PyProof.Rows
namespace Mine

def SrcOk (o : Obj) : Prop := ∃ (x y : Int) (t u : Tok) (c : Nat), o = listOf #[.int x t, .int y u] c ∧ 0 ≤ x ∧ 0 ≤ y ∧ y < 2147483648

/-- the state behind a call that changes the object at `a` alone, which stays a pool -/
def Drew (a : Addr) (s s' : Shared) : Prop := ∃ h' tk' o', s' = { s with heap := h', toks := tk' } ∧ h'.get? a = some o' ∧ SrcOk o' ∧ ∀ b o, b ≠ a → s.heap.get? b = some o → h'.get? b = some o

theorem hide_one {g h : Heap} {a : Addr} (e : g = hideAll h [a]) : ∀ b o, b ≠ a → h.get? b = some o → g.get? b = some o := fun b o n x => by rw [e]; exact hideAll_get _ x (by simpa using n)
theorem news_one {g h h₁ : Heap} {a L : Addr} {o : Obj} (e : g = hideAll h [a]) (ho : h.get? a = some o) (hL : L = h.objs.size) (hS : h.StaysIn h₁) : News g L h₁ [(a, o)] := by
  intro p hp
  obtain rfl := List.mem_singleton.mp hp
  exact ⟨hS _ _ ho, by rw [hL]; exact Nat.ne_of_lt (Heap.lt_size ho), by rw [e]; exact hideAll_none _ (.head _)⟩

theorem fm_pos (z : Int) {k : Int} (hk : 0 < k) : 0 ≤ z.fmod k ∧ z.fmod k < k := by
  rw [Int.fmod_eq_emod_of_nonneg _ (Int.le_of_lt hk)]
  exact ⟨Int.emod_nonneg _ (Int.ne_of_gt hk), Int.emod_lt_of_pos _ hk⟩
theorem fd_pos {z k : Int} (hz : 0 ≤ z) (hk : 0 < k) : 0 ≤ z.fdiv k := by
  rw [Int.fdiv_eq_ediv_of_nonneg _ (Int.le_of_lt hk)]
  exact Int.ediv_nonneg hz (Int.le_of_lt hk)
theorem mul_lcg (x z b : Int) : IntMulOk ([x, z.fmod 2147483647].getD (Int.toNat 1) 0) b := by
  have h := fm_pos z (k := 2147483647) (by decide)
  exact IntMulOk.of_left (intBits_le_64 (k := z.fmod 2147483647) (by omega) (by omega))

theorem take_end {a : Addr} {g h₁ : Heap} {s : Shared} {L' : Addr} {m' : Str → Option Value} {tk' : Nat} {x y : Int} {t u : Tok} {c : Nat} (e : g = hideAll s.heap [a]) (F : Fr g L' h₁ m') (N : News g L' h₁ [(a, listOf #[.int x t, .int y u] c)])
    (hx : 0 ≤ x) (hy : 0 ≤ y) (hy2 : y < 2147483648) : Drew a s { s with heap := h₁, toks := tk' } :=
  ⟨h₁, tk', _, rfl, (N _ (.head _)).1, ⟨x, y, t, u, c, rfl, hx, hy, hy2⟩, fun b o n q => F.keep b o (hide_one e b o n q)⟩

theorem take_r1 {a : Addr} {g h₁ : Heap} {s : Shared} {L' : Addr} {m' : Str → Option Value} {tk' : Nat} {x y top : Int} {t u : Tok} {c : Nat} {Q : Value → Shared → Prop} {tr : Tok}
    (hret : ∀ r t s', 0 ≤ r → r < top → Drew a s s' → Q (.int r t) s') (h1 : 1 ≤ top) (e : g = hideAll s.heap [a]) (hx : 0 ≤ x) (hy : 0 ≤ y) (hy2 : y < 2147483648)
    (F : Fr g L' h₁ m') (N : News g L' h₁ [(a, listOf #[.int (([x, y].getD (Int.toNat 0) 0).fdiv top) t, .int y u] c)]) : Q (.int (([x, y].getD (Int.toNat 0) 0).fmod top) tr) { heap := h₁, gens := s.gens, drawn := s.drawn, toks := tk', os := s.os } := by
  have f := fm_pos x (k := top) (by omega)
  exact hret _ _ _ f.1 f.2 (take_end (s := s) (tk' := tk') e F N (fd_pos hx (by omega)) hy hy2)

theorem take_r2 {a : Addr} {g h₁ : Heap} {s : Shared} {L' : Addr} {m' : Str → Option Value} {tk' : Nat} {x top z : Int} {t u : Tok} {c : Nat} {Q : Value → Shared → Prop} {tr : Tok} {r' : Int}
    (hret : ∀ r t s', 0 ≤ r → r < top → Drew a s s' → Q (.int r t) s') (h1 : 1 ≤ top) (e : g = hideAll s.heap [a]) (hx : 0 ≤ x)
    (F : Fr g L' h₁ m') (N : News g L' h₁ [(a, listOf #[.int x t, .int (z.fmod 2147483647) u] c)]) : Q (.int (r'.fmod top) tr) { heap := h₁, gens := s.gens, drawn := s.drawn, toks := tk', os := s.os } := by
  have f := fm_pos r' (k := top) (by omega)
  have f2 := fm_pos z (k := 2147483647) (by decide)
  exact hret _ _ _ f.1 f.2 (take_end (s := s) (tk' := tk') e F N hx f2.1 (by omega))

local macro_rules | `(tactic| walk_at "binaryOp Mult int int") => `(tactic| (with_reducible refine mul_int ?_ (mul_lcg _ _ _)))
local macro_rules | `(tactic| ktr_enter) => `(tactic| (refine' enterG [_] ?k1 ?k2 ?k3 ?k5 ?kA ?kF ?kK ?kh ?kh0 ?k6 ?k7 ?k8 ?k9 ?kB ?_ ?c2 ?c3 ?c4 ?c5; (case kA => exact rfl); (case kF => exact rfl); (case kK => assumption); (case kh => assumption); (case kh0 => assumption); (case k1 => k_asm); (case k2 => k_asm); (case k3 => k_asm); (case k5 => k_asm); (case k6 => k_is); (case k7 => k_is); (case k8 => ktr_room); (case k9 => exact BindsTo.of_eq rfl); (case c5 => decide); (case kB => exact locs rfl); (case c2 => exact rfl); (case c3 => exact rfl); (case c4 => exact rfl); k_whole))

set_option maxRecDepth 100000 in
set_option maxHeartbeats 8000000 in
theorem take_ask (w : World) (a : Addr) (top : Int) (tt : Tok) (h1 : 1 ≤ top) (h2 : top ≤ 65536) (mean : ExcName → Option Value) (mg mb : Str → Option Value) (dp un : Nat) (gd : Option (List Code)) (cn : Str) (cs : Scope) (ac : Addr) (ccd : Value) (cl : List (Str × Addr)) (outer : List Env) (A₀ : Around) (base h₀ : Heap) (L : Addr) (m : Str → Option Value) (s : Shared) (Q E : Value → Shared → Prop)
    (B : Below A₀ base outer h₀) (F : Fr h₀ L s.heap m) (X : (Mine.hd.heap_39 w.params).In h₀) (T : Top Mine.hd.view_39 (looseW Mine.hd.view_39 []) mean mg mb h₀) (hk : cs.kind = .function) (hd : dp + 1 < recursionLimit) (hu : un + 8 < cLine)
    (hp : ∃ o, s.heap.get? a = some o ∧ SrcOk o) (hL : a ≠ L) (ha : h₀.get? a = none)
    (hret : ∀ r t s', 0 ≤ r → r < top → Drew a s s' → Q (.int r t) s') :
    wpAny (model PySem.Challenge.rw_xm0707_01.row.prog w) (ktrTop dp un gd cn cs L ac ccd cl outer) (call (.ref 74) [.ref a, .int top tt]) Q E s := by
  revert X
  k_fill
  intro X
  obtain ⟨o, ho, x, y, t, u, c, rfl, hx, hy, hy2⟩ := hp
  have hL' : L ∉ [a] := by simpa using Ne.symm hL
  have ha' : ∀ b ∈ [a], h₀.get? b = none := fun b hb => by rw [List.mem_singleton.mp hb]; exact ha
  refine wpAny_call ?_
  k_dflt ktr_enter
  intro g' L' h' gE gS F' Le B' X' T'
  have N' := news_one gE ho Le gS
  dsimp only
  k_steps
  · dsimp only
    refine' take_r1 hret h1 gE hx hy hy2 ?F ?N
    case F => assumption
    case N => assumption
  · dsimp only
    refine' take_r2 hret h1 gE hx ?F ?N
    case F => assumption
    case N => assumption

theorem take_rule {w : World} {a : Addr} {top : Int} {tt : Tok} {mean : ExcName → Option Value} {mg mb : Str → Option Value} {dp un : Nat} {gd : Option (List Code)} {cn : Str} {cs : Scope} {ac : Addr} {ccd : Value} {cl : List (Str × Addr)} {outer : List Env} {A₀ : Around} {base h₀ : Heap} {L : Addr} {m : Str → Option Value} {s : Shared} {Q E : Value → Shared → Prop}
    {news : List (Addr × Obj)} {g : Obj → List (Addr × Obj)} {o : Obj} (B : Below A₀ base outer h₀) (F : Fr h₀ L s.heap m) (X : (Mine.hd.heap_39 w.params).In h₀) (T : Top Mine.hd.view_39 (looseW Mine.hd.view_39 []) mean mg mb h₀) (N : News h₀ L s.heap news) (U : UpdF a o news g) (ok : SrcOk o) (hk : cs.kind = .function) (hd : dp + 1 < recursionLimit) (hu : un + 8 < cLine) (h1 : 1 ≤ top) (h2 : top ≤ 65536)
    (hret : ∀ r t h' tk' o', 0 ≤ r → r < top → SrcOk o' → Fr h₀ L h' m → News h₀ L h' (g o') → Q (.int r t) { s with heap := h', toks := tk' }) :
    wpAny (model PySem.Challenge.rw_xm0707_01.row.prog w) (ktrTop dp un gd cn cs L ac ccd cl outer) (call (.ref 74) [.ref a, .int top tt]) Q E s := by
  obtain ⟨pre, post, rfl, hg, hpre, hpost⟩ := U.split
  have hm := N (a, o) (List.mem_append_right _ (.head _))
  refine take_ask w a top tt h1 h2 mean mg mb dp un gd cn cs ac ccd cl outer A₀ base h₀ L m s Q E B F X T hk hd hu ⟨o, hm.1, ok⟩ hm.2.1 hm.2.2 fun r t s' r0 r1 D => ?_
  obtain ⟨h', tk', o', rfl, ha', ok', hkeep⟩ := D
  refine hret r t h' tk' o' r0 r1 ok' (fr_after (hid := [a]) F (by simpa using Ne.symm hm.2.1) (fun b hb => by rw [List.mem_singleton.mp hb]; exact hm.2.2) fun b o n e => hkeep b o (by simpa using n) e) ?_
  rw [hg]
  intro p hp
  rcases List.mem_append.mp hp with q | q
  · have P := N p (List.mem_append_left _ q); exact ⟨hkeep _ _ (hpre p q) P.1, P.2⟩
  · rcases List.mem_cons.mp q with rfl | q
    · exact ⟨ha', hm.2⟩
    · have P := N p (List.mem_append_right _ (.tail _ q)); exact ⟨hkeep _ _ (hpost p q) P.1, P.2⟩
end Mine
end

section
open PySem PySem.Spec PySem.Calls PySem.W PyProof.Rows
namespace Mine

local macro_rules | `(tactic| walk_at "part XA3") => `(tactic| fail)
local macro_rules | `(tactic| walk_at "call ref") => `(tactic| (k_here; (with_reducible show wpAny _ _ (call (Value.ref 74) [Value.ref _, Value.int _ _]) _ _ _); k_dflt (refine' take_rule ?B ?F ?X ?T ?N ?U ?ok ?hk ?hd ?hu ?h1 ?h2 ?_; (case B => k_asm); (case F => k_asm); (case X => k_asm); (case T => k_asm); (case N => k_asm); (case U => k_updF); (case ok => k_asm); (case hk => first | exact rfl | assumption); (case hd => ktr_room); (case hu => ktr_units); (case h1 => first | decide | omega); (case h2 => first | decide | omega)); intro r' t' h' tk' o' r0' r1' ok' F' N'; (try dsimp only at N'); (try k_sweep)))
local macro_rules | `(tactic| ktr_enter) => `(tactic| (refine' enterG [_] ?k1 ?k2 ?k3 ?k5 ?kA ?kF ?kK ?kh ?kh0 ?k6 ?k7 ?k8 ?k9 ?kB ?_ ?c2 ?c3 ?c4 ?c5; (case kA => exact rfl); (case kF => exact rfl); (case kK => assumption); (case kh => assumption); (case kh0 => assumption); (case k1 => k_asm); (case k2 => k_asm); (case k3 => k_asm); (case k5 => k_asm); (case k6 => k_is); (case k7 => k_is); (case k8 => ktr_room); (case k9 => exact BindsTo.of_eq rfl); (case c5 => decide); (case kB => exact locs rfl); (case c2 => exact rfl); (case c3 => exact rfl); (case c4 => exact rfl); k_whole))

theorem one_end {a : Addr} {g h₁ : Heap} {s : Shared} {L' : Addr} {m' : Str → Option Value} {tk' : Nat} {xs : List Int} {Q : Value → Shared → Prop} {tr : Tok} {r : Int} {o' : Obj}
    (hret : ∀ r t s', r ∈ xs → Drew a s s' → Q (.int r t) s') (e : g = hideAll s.heap [a]) (r0 : 0 ≤ r) (r1 : r < (xs.length : Int)) (ok : SrcOk o')
    (F : Fr g L' h₁ m') (N : News g L' h₁ [(a, o')]) : Q (.int (xs.getD r.toNat 0) tr) { heap := h₁, gens := s.gens, drawn := s.drawn, toks := tk', os := s.os } := by
  refine hret _ _ _ ?_ ⟨h₁, tk', o', rfl, (N _ (.head _)).1, ok, fun b o n q => F.keep b o (hide_one e b o n q)⟩
  have hj : r.toNat < xs.length := by omega
  rw [List.getD_eq_getElem?_getD, List.getElem?_eq_getElem hj]
  exact List.getElem_mem hj

set_option maxRecDepth 100000 in
set_option maxHeartbeats 8000000 in
theorem one_ask (w : World) (a b : Addr) (vs : List Value) (xs : List Int) (hi : IntsAre vs xs) (n0 : 0 < xs.length) (n1 : xs.length ≤ 65536) (mean : ExcName → Option Value) (mg mb : Str → Option Value) (dp un : Nat) (gd : Option (List Code)) (cn : Str) (cs : Scope) (ac : Addr) (ccd : Value) (cl : List (Str × Addr)) (outer : List Env) (A₀ : Around) (base h₀ : Heap) (L : Addr) (m : Str → Option Value) (s : Shared) (Q E : Value → Shared → Prop)
    (B : Below A₀ base outer h₀) (F : Fr h₀ L s.heap m) (X : (Mine.hd.heap_39 w.params).In h₀) (T : Top Mine.hd.view_39 (looseW Mine.hd.view_39 []) mean mg mb h₀) (hk : cs.kind = .function) (hd : dp + 2 < recursionLimit) (hu : un + 16 < cLine)
    (hp : ∃ o, s.heap.get? a = some o ∧ SrcOk o) (hL : a ≠ L) (ha : h₀.get? a = none) (hb : s.heap.IsList b vs.toArray) (hab : b ≠ a)
    (hret : ∀ r t s', r ∈ xs → Drew a s s' → Q (.int r t) s') :
    wpAny (model PySem.Challenge.rw_xm0707_01.row.prog w) (ktrTop dp un gd cn cs L ac ccd cl outer) (call (.ref 81) [.ref a, .ref b]) Q E s := by
  revert X
  k_fill
  intro X
  obtain ⟨o, ho, hok⟩ := hp
  have hL' : L ∉ [a] := by simpa using Ne.symm hL
  have ha' : ∀ b ∈ [a], h₀.get? b = none := fun b hb => by rw [List.mem_singleton.mp hb]; exact ha
  refine wpAny_call ?_
  k_dflt ktr_enter
  intro g' L' h' gE gS F' Le B' X' T'
  have N' := news_one gE ho Le gS
  have hbg : g'.IsList b vs.toArray := hb.at fun o e => hide_one gE b o hab e
  have nn : ((xs.length : Nat) : Int) < 2 ^ 63 := by omega
  dsimp only
  k_steps
  dsimp only
  refine' one_end hret gE ?r0 ?r1 ?ok ?F ?N
  case r0 => assumption
  case r1 => assumption
  case ok => assumption
  case F => assumption
  case N => assumption

theorem one_rule {w : World} {a b : Addr} {vs : List Value} {xs : List Int} {mean : ExcName → Option Value} {mg mb : Str → Option Value} {dp un : Nat} {gd : Option (List Code)} {cn : Str} {cs : Scope} {ac : Addr} {ccd : Value} {cl : List (Str × Addr)} {outer : List Env} {A₀ : Around} {base h₀ : Heap} {L : Addr} {m : Str → Option Value} {s : Shared} {Q E : Value → Shared → Prop}
    {news : List (Addr × Obj)} {g : Obj → List (Addr × Obj)} {o ob : Obj} (B : Below A₀ base outer h₀) (F : Fr h₀ L s.heap m) (X : (Mine.hd.heap_39 w.params).In h₀) (T : Top Mine.hd.view_39 (looseW Mine.hd.view_39 []) mean mg mb h₀) (N : News h₀ L s.heap news) (U : UpdF a o news g) (ok : SrcOk o) (hk : cs.kind = .function) (hd : dp + 2 < recursionLimit) (hu : un + 16 < cLine)
    (hb : (b, ob) ∈ news) (hab : b ≠ a) (hob : ∃ c, ob = listOf vs.toArray c) (hi : IntsAre vs xs) (n0 : 0 < xs.length) (n1 : xs.length ≤ 65536)
    (hret : ∀ r t h' tk' o', r ∈ xs → SrcOk o' → Fr h₀ L h' m → News h₀ L h' (g o') → Q (.int r t) { s with heap := h', toks := tk' }) :
    wpAny (model PySem.Challenge.rw_xm0707_01.row.prog w) (ktrTop dp un gd cn cs L ac ccd cl outer) (call (.ref 81) [.ref a, .ref b]) Q E s := by
  obtain ⟨pre, post, rfl, hg, hpre, hpost⟩ := U.split
  have hm := N (a, o) (List.mem_append_right _ (.head _))
  obtain ⟨cb, rfl⟩ := hob
  have hbn := (N _ hb).1
  refine one_ask w a b vs xs hi n0 n1 mean mg mb dp un gd cn cs ac ccd cl outer A₀ base h₀ L m s Q E B F X T hk hd hu ⟨o, hm.1, ok⟩ hm.2.1 hm.2.2 ⟨_, hbn, rfl, _, rfl⟩ hab fun r t s' r0 D => ?_
  obtain ⟨h', tk', o', rfl, ha', ok', hkeep⟩ := D
  refine hret r t h' tk' o' r0 ok' (fr_after (hid := [a]) F (by simpa using Ne.symm hm.2.1) (fun b hb => by rw [List.mem_singleton.mp hb]; exact hm.2.2) fun b o n e => hkeep b o (by simpa using n) e) ?_
  rw [hg]
  intro p hp
  rcases List.mem_append.mp hp with q | q
  · have P := N p (List.mem_append_left _ q); exact ⟨hkeep _ _ (hpre p q) P.1, P.2⟩
  · rcases List.mem_cons.mp q with rfl | q
    · exact ⟨ha', hm.2⟩
    · have P := N p (List.mem_append_right _ (.tail _ q)); exact ⟨hkeep _ _ (hpost p q) P.1, P.2⟩
end Mine
end

section
open PySem PySem.Spec PySem.Calls PySem.W PyProof.Rows
namespace Mine

inductive Vals : List (Int × Value) → List (Int × Int) → Prop
  | nil : Vals [] []
  | cons {k n : Int} {t : Tok} {kvs : List (Int × Value)} {es : List (Int × Int)} : Vals kvs es → Vals ((k, .int n t) :: kvs) ((k, n) :: es)

/-- at `d` stands a dict whose keys and values are these ints -/
structure CodesAt (prog : Program) (w : World) (h : Heap) (d : Addr) (es : List (Int × Int)) : Prop where
  lo : (d == sysModules) = false
  ex : ∃ kvs, h.DictOf (PySem.intKind prog w) d kvs ∧ Vals kvs es

def glyph (es : List (Int × Int)) (c : Int) : Int := ((es.find? fun p => decide (p.1 = c)).map (·.2)).getD 0

theorem Vals.length {kvs : List (Int × Value)} {es : List (Int × Int)} (h : Vals kvs es) : kvs.length = es.length := by
  induction h with
  | nil => rfl
  | cons _ ih => simp [ih]
theorem Vals.keys {kvs : List (Int × Value)} {es : List (Int × Int)} (h : Vals kvs es) : kvs.map (·.1) = es.map (·.1) := by
  induction h with
  | nil => rfl
  | cons _ ih => simp [ih]
theorem Vals.at {kvs : List (Int × Value)} {es : List (Int × Int)} (h : Vals kvs es) : ∀ {i : Nat} {k : Int} {x : Value}, kvs[i]? = some (k, x) → ∃ n t, x = .int n t ∧ es[i]? = some (k, n) := by
  induction h with
  | nil => intro i k x e; simp at e
  | cons _ ih =>
    intro i k x e
    cases i with
    | zero => simp at e; obtain ⟨rfl, rfl⟩ := e; exact ⟨_, _, rfl, rfl⟩
    | succ i => simp at e; obtain ⟨n, t, h1, h2⟩ := ih e; exact ⟨n, t, h1, by simpa using h2⟩
theorem Vals.valueAt {kvs : List (Int × Value)} {es : List (Int × Int)} (h : Vals kvs es) (c : Int) : (valueAt kvs c = none ∧ es.find? (fun p => decide (p.1 = c)) = none) ∨ ∃ n t, valueAt kvs c = some (.int n t) ∧ es.find? (fun p => decide (p.1 = c)) = some (c, n) := by
  induction h with
  | nil => exact .inl ⟨rfl, rfl⟩
  | @cons k n t kvs es _ ih =>
    by_cases e : k = c
    · subst e
      refine .inr ⟨n, t, ?_, ?_⟩
      · simp [PySem.valueAt]
      · simp
    · rcases ih with ⟨h1, h2⟩ | ⟨n', t', h1, h2⟩
      · refine .inl ⟨?_, ?_⟩
        · simpa [PySem.valueAt, e] using h1
        · simpa [e] using h2
      · refine .inr ⟨n', t', ?_, ?_⟩
        · simpa [PySem.valueAt, e] using h1
        · simpa [e] using h2

theorem CodesAt.keep {prog : Program} {w : World} {h h' : Heap} {d : Addr} {es : List (Int × Int)} (C : CodesAt prog w h d es) (hk : ∀ b o, h.get? b = some o → h'.get? b = some o) : CodesAt prog w h' d es :=
  let ⟨lo, kvs, hd, hv⟩ := C; ⟨lo, kvs, hd.keep hk, hv⟩
theorem CodesAt.nodup {prog : Program} {w : World} {h : Heap} {d : Addr} {es : List (Int × Int)} (C : CodesAt prog w h d es) : (es.map (·.1)).Nodup := by
  obtain ⟨lo, kvs, ⟨o, es', ep, _, _, _, _, _, hn⟩, hv⟩ := C
  rw [← hv.keys]; exact hn

section
variable {prog : Program} {w : World} {A : Around} {E : Value → Shared → Prop} {s : Shared} {h₀ : Heap} {L d : Addr} {m : Str → Option Value} {news : List (Addr × Obj)} {es : List (Int × Int)} {Q : Value → Shared → Prop}

theorem d_get {c : Int} {tc t0 : Tok} (C : CodesAt prog w s.heap d es) (h : ∀ t, Q (.int (glyph es c) t) { s with toks := s.toks + 1 }) :
    wpAny (model prog w) A (call (.builtin "dict.get") [.ref d, .int c tc, .int 0 t0]) Q E s := by
  obtain ⟨lo, kvs, hD, hv⟩ := C
  refine call_meetsIn PySem.F.slot_dict_get hD.typeIs PySem.F.entry_dict_get (PySem.F.args_dict_get_3 _ _ _) (meets_dict_get_default (PySem.intKind prog w) d (intKind_is prog w c tc) lo (.int 0 t0)) ⟨_, hD.mapOf, ?_⟩
  rcases hv.valueAt c with ⟨h1, h2⟩ | ⟨n, t, h1, h2⟩
  · rw [h1]; have := h t0; simp only [glyph, h2] at this; exact this
  · rw [h1]; have := h t; simp only [glyph, h2] at this; exact this

theorem d_item {value slice : PySem.Expr} {c n : Int} {tc : Tok} (C : CodesAt prog w s.heap d es) (hc : es.find? (fun p => decide (p.1 = c)) = some (c, n)) (h : ∀ t, Q (.int n t) { s with toks := s.toks + 1 })
    (hs : subscripted slice false (.ref d) (.int c tc) = operate [.ref d, .int c tc] (getItem (.ref d) (.int c tc)) := by with_unfolding_all rfl) (hg : ∀ r, letTemporaryGo value (.ref d) r = pure () := by intro _; with_unfolding_all rfl) :
    wpAny (model prog w) A (subscriptTail value slice (.ref d) (.int c tc)) Q E s := by
  obtain ⟨lo, kvs, hD, hv⟩ := C
  rcases hv.valueAt c with ⟨h1, h2⟩ | ⟨n', t, h1, h2⟩
  · rw [hc] at h2; cases h2
  · rw [hc] at h2
    cases h2
    exact subscriptTail_builtin hD.typeIs slot_dict_getitem.lookup (wpAny_getItem_of (intKind_is prog w c tc) hD.mapOf h1 (h t)) hs hg

theorem d_method {pl : Sem Bool} {Q : Value × List Value → Shared → Prop} (C : CodesAt prog w s.heap d es) (h : Q (.builtin "dict.get", [.ref d]) s) : wpAny (model prog w) A (getMethod (.ref d) "get" pl) Q E s := by
  obtain ⟨lo, kvs, hD, hv⟩ := C
  exact getMethod_builtin hD.typeIs PySem.F.plainAttrs_dict PySem.F.slot_dict_get PySem.F.type_dict_get hD.mapOf.noDict h

theorem d_len (C : CodesAt prog w s.heap d es) (hz : es.length < 64) (h : ∀ t tk', Q (.int es.length t) { s with toks := tk' }) : wpAny (model prog w) A (call (.builtin "len") [.ref d]) Q E s := by
  obtain ⟨lo, kvs, hD, hv⟩ := C
  refine call_len_dict lo hD (by rw [hv.length]; omega) ?_
  rw [hv.length]
  exact h _ _

theorem key_val {kvs : List (Int × Value)} (hv : Vals kvs es) (i : Nat) (v : Value) (h : ∃ k x, kvs[i]? = some (k, x) ∧ (PySem.intKind prog w).is k v = true) : ∃ t, v = .int ((es.map (·.1)).getD i 0) t := by
  obtain ⟨k, x, e, hk⟩ := h
  obtain ⟨t, rfl⟩ := Value.isInt_shape hk
  obtain ⟨n, u, _, e2⟩ := hv.at e
  exact ⟨t, by simp [e2]⟩

theorem d_min (hh : A.handled = none) (C : CodesAt prog w s.heap d es) (F : Fr h₀ L s.heap m) (N : News h₀ L s.heap news) (hne : 0 < es.length)
    (h : ∀ h' tk t' M, Fr h₀ L h' m → News h₀ L h' news → M ∈ es.map (·.1) → (∀ k ∈ es.map (·.1), M ≤ k) → Q (.int M t') { s with heap := h', toks := tk }) :
    wpAny (model prog w) A (call (.builtin "min") [.ref d]) Q E s := by
  obtain ⟨lo, kvs, hD, hv⟩ := C
  obtain ⟨ep, hat⟩ := hD.dictAt
  refine call_min_walkS ?_
  have K := kdl_dict (prog := prog) (w := w) (knd := PySem.intKind prog w) (kvs := kvs) (ep := ep) lo
  obtain ⟨oI, St, hit, W, st⟩ := K.iter A.in1 s hh hat
  have hn : kvs.length = es.length := hv.length
  refine hit _ _ ⟨s.heap.objs.size, _, _, _, kvs.length, _, _, _, rfl, W.toS, st, fun b hb => ?_, by omega, CmpOf.ints_lt (fun i => (es.map (·.1)).getD i 0) (fun i v hv' => key_val hv i v hv'), fun v s' hP hm => ?_⟩
  · show b < (s.heap.push oI).objs.size
    rw [size_push']
    rcases List.mem_cons.mp hb with e | hb
    · rw [e]; exact Nat.lt_succ_self _
    · rw [List.mem_singleton.mp hb]; exact Nat.lt_succ_of_lt (K.there _ hat).2
  · have hk : ∀ b o, s.heap.get? b = some o → s'.heap.get? b = some o := fun b o e =>
      hm.heap b o (fun hI => absurd (Heap.lt_size e) (by rw [List.mem_singleton.mp hI]; exact Nat.lt_irrefl _)) (Heap.get?_push_of_some _ e)
    obtain ⟨t, rfl⟩ := key_val hv _ _ hP
    rw [Moved.eq_with hm]
    have hb := argBest_lt (fun i => (es.map (·.1)).getD i 0) (kvs.length - 1)
    refine h s'.heap s'.toks t _ (fr_keep F hk) (news_keep N hk) ?_ fun k hkk => ?_
    · exact getD_mem (by rw [List.length_map]; omega)
    · obtain ⟨j, hj, rfl⟩ := mem_getD hkk
      rw [List.length_map] at hj
      exact hb.2 j (by omega)

theorem d_max (hh : A.handled = none) (C : CodesAt prog w s.heap d es) (F : Fr h₀ L s.heap m) (N : News h₀ L s.heap news) (hne : 0 < es.length)
    (h : ∀ h' tk t' M, Fr h₀ L h' m → News h₀ L h' news → M ∈ es.map (·.1) → (∀ k ∈ es.map (·.1), k ≤ M) → Q (.int M t') { s with heap := h', toks := tk }) :
    wpAny (model prog w) A (call (.builtin "max") [.ref d]) Q E s := by
  obtain ⟨lo, kvs, hD, hv⟩ := C
  obtain ⟨ep, hat⟩ := hD.dictAt
  refine call_max_walkS ?_
  have K := kdl_dict (prog := prog) (w := w) (knd := PySem.intKind prog w) (kvs := kvs) (ep := ep) lo
  obtain ⟨oI, St, hit, W, st⟩ := K.iter A.in1 s hh hat
  have hn : kvs.length = es.length := hv.length
  refine hit _ _ ⟨s.heap.objs.size, _, _, _, kvs.length, _, _, _, rfl, W.toS, st, fun b hb => ?_, by omega, CmpOf.ints_gt (fun i => (es.map (·.1)).getD i 0) (fun i v hv' => key_val hv i v hv'), fun v s' hP hm => ?_⟩
  · show b < (s.heap.push oI).objs.size
    rw [size_push']
    rcases List.mem_cons.mp hb with e | hb
    · rw [e]; exact Nat.lt_succ_self _
    · rw [List.mem_singleton.mp hb]; exact Nat.lt_succ_of_lt (K.there _ hat).2
  · have hk : ∀ b o, s.heap.get? b = some o → s'.heap.get? b = some o := fun b o e =>
      hm.heap b o (fun hI => absurd (Heap.lt_size e) (by rw [List.mem_singleton.mp hI]; exact Nat.lt_irrefl _)) (Heap.get?_push_of_some _ e)
    obtain ⟨t, rfl⟩ := key_val hv _ _ hP
    rw [Moved.eq_with hm]
    have hb := argBest_gt (fun i => (es.map (·.1)).getD i 0) (kvs.length - 1)
    refine h s'.heap s'.toks t _ (fr_keep F hk) (news_keep N hk) ?_ fun k hkk => ?_
    · exact getD_mem (by rw [List.length_map]; omega)
    · obtain ⟨j, hj, rfl⟩ := mem_getD hkk
      rw [List.length_map] at hj
      exact hb.2 j (by omega)

theorem ints_of : ∀ {vs : List Value} {ks : List Int}, vs.length = ks.length → (∀ (j : Nat) (v : Value), vs[j]? = some v → ∃ t, v = .int (ks.getD j 0) t) → IntsAre vs ks
  | [], [], _, _ => .nil
  | v :: vs, k :: ks, hl, h => by
    obtain ⟨t, rfl⟩ := h 0 v rfl
    exact .cons _ t (ints_of (by simpa using hl) fun j v e => by simpa using h (j + 1) v (by simpa using e))
  | [], _ :: _, hl, _ => by simp at hl
  | _ :: _, [], hl, _ => by simp at hl

theorem d_sorted (hh : A.handled = none) (C : CodesAt prog w s.heap d es) (F : Fr h₀ L s.heap m) (N : News h₀ L s.heap news) (hz : es.length < 64)
    (h : ∀ D vs ns c h' tk, Fr h₀ L h' m → News h₀ L h' ((D, listOf vs.toArray c) :: news) → (∀ q ∈ news, q.1 < D) → IntsAre vs ns → ns.Perm (es.map (·.1)) → ns.Pairwise (· ≤ ·) → Q (.ref D) { s with heap := h', toks := tk }) :
    wpAny (model prog w) A (call (.builtin "sorted") [.ref d]) Q E s := by
  obtain ⟨lo, kvs, hD, hv⟩ := C
  obtain ⟨ep, hat⟩ := hD.dictAt
  have hn : kvs.length = es.length := hv.length
  refine kdu_sorted (kdl_dict (knd := PySem.intKind prog w) (kvs := kvs) (ep := ep) lo) hh F N hat (by rw [sizeLine_eq]; omega) fun D h' tk vs F' N' l1 hl hP => ?_
  have hi : IntsAre vs (es.map (·.1)) := ints_of (by rw [hl, hn, List.length_map]) fun j v e => key_val hv j v (hP j v e)
  have hm := N' (D, listOf vs.toArray 0) (.head _)
  refine wpAny_call_entry slot_list_sort ⟨_, hm.1, rfl⟩ entry_list_sort (list_sort_tree (n := 0) (vs := vs) hm.1 hi (by omega) fun out ns' hI hp hPw => ⟨.none, rfl, ?_⟩) (args_list_sort _)
  have D0 : D ∉ [L] := by simpa using hm.2.1
  have hk : ∀ b o, b ∉ [D] → h'.get? b = some o → (sortedHeap h' D vs out).get? b = some o := fun b o hb e => by
    have hb' : b ≠ D := by simpa using hb
    unfold sortedHeap
    refine (Heap.get?_update_other _ _ (Ne.symm hb')).trans ?_
    refine Heap.get?_push_of_some _ (Heap.get?_push_of_some _ ?_)
    exact (Heap.get?_update_other _ _ (Ne.symm hb')).trans e
  have hD' : ∃ c, (sortedHeap h' D vs out).get? D = some (listOf out c) := by
    have e1 := get?_update_seq (c := "list") (xs := vs.toArray) (n := 0) hm.1 (fun _ => (#[] : Array Value))
    have e2 := Heap.get?_push_of_some (seqObj "list" #[] 0) (Heap.get?_push_of_some (seqObj "tuple" vs.toArray 0) e1)
    exact ⟨_, get?_update_seq e2 (fun _ => out)⟩
  obtain ⟨c, hD'⟩ := hD'
  refine h D out.toList ns' c _ tk (fr_after (hid := [D]) F' (by simpa using Ne.symm hm.2.1) (fun b hb => by rw [List.mem_singleton.mp hb]; exact hm.2.2) hk) ?_ l1 hI hp hPw
  intro p hp'
  rcases List.mem_cons.mp hp' with rfl | q
  · exact ⟨by rw [Array.toArray_toList]; exact hD', hm.2⟩
  · have P := N' p (.tail _ q)
    exact ⟨hk _ _ (by simpa using Nat.ne_of_lt (l1 p q)) P.1, P.2⟩
end
end Mine
end

section
open PySem PySem.Spec PySem.Calls PySem.W PyProof.Rows
namespace Mine

theorem d_sortedS {prog : Program} {w : World} {A : Around} {E : Value → Shared → Prop} {s : Shared} {h₀ : Heap} {L d : Addr} {m : Str → Option Value} {news : List (Addr × Obj)} {es : List (Int × Int)} {Q : Value → Shared → Prop} {f l : Int}
    (hh : A.handled = none) (C : CodesAt prog w h₀ d es) (F : Fr h₀ L s.heap m) (N : News h₀ L s.heap news) (hz : es.length < 64) (hne : 0 < es.length) (hf : f ∈ es.map (·.1) ∧ ∀ k ∈ es.map (·.1), f ≤ k) (hl : l ∈ es.map (·.1) ∧ ∀ k ∈ es.map (·.1), k ≤ l)
    (h : ∀ D vs ns c h' tk, Fr h₀ L h' m → News h₀ L h' ((D, listOf vs.toArray c) :: news) → (∀ q ∈ news, q.1 < D) → IntsAre vs ns → 0 < ns.length → ns.length < 64 → ns.getD (Int.toNat 0) 0 = f → ns.getD (-1 + (ns.length : Int)).toNat 0 = l → Q (.ref D) { s with heap := h', toks := tk }) :
    wpAny (model prog w) A (call (.builtin "sorted") [.ref d]) Q E s := by
  refine d_sorted hh (C.keep F.keep) F N hz fun D vs ns c h' tk F' N' l1 hi hp hw => ?_
  have hlen : ns.length = es.length := by rw [hp.length_eq, List.length_map]
  refine h D vs ns c h' tk F' N' l1 hi (by omega) (by omega) ?_ ?_
  · obtain ⟨a, b⟩ := kso_first hp hw (by rw [List.length_map]; exact hne)
    have := hf.2 _ a
    have := b _ hf.1
    omega
  · have e : (-1 + (ns.length : Int)).toNat = ns.length - 1 := by omega
    rw [e]
    obtain ⟨a, b⟩ := ksl_last (k := ns.length - 1) hp hw (by rw [List.length_map]; omega)
    have := hl.2 _ a
    have := b _ hl.1
    omega

theorem ne_nilS {prog : Program} {w : World} {A : Around} {E : Value → Shared → Prop} {s : Shared} {a b : Addr} {vs : List Value} {ns : List Int} {Q : Value → Shared → Prop} (hl : s.heap.IsList a vs.toArray) (hi : IntsAre vs ns) (hl' : s.heap.IsList b ([] : List Value).toArray) (hn : 0 < ns.length) (hu : A.units + 64 < cLine)
    (h : Q (.bool true) s) : wpAny (model prog w) A (compareOp .NotEq (.ref a) (.ref b)) Q E s := by
  refine ne_intsK hl hi hl' .nil hu ?_
  have e : decide (ns = []) = false := decide_eq_false fun e => by rw [e] at hn; exact absurd hn (Nat.lt_irrefl _)
  rw [e]; exact h

def wB (l : List Int) : Array UInt8 := (l.flatMap fun n => (pb n).toList).toArray
theorem wB_snoc (l : List Int) (n : Int) : wB (l ++ [n]) = wB l ++ pb n := by
  apply Array.toList_inj.mp
  simp [wB]
theorem wB_size : ∀ l : List Int, (wB l).size = 2 * l.length
  | [] => rfl
  | n :: l => by
    have := wB_size l
    simp only [wB, List.flatMap_cons, List.size_toArray, List.length_append, List.length_cons] at this ⊢
    have e : (pb n).toList.length = 2 := rfl
    omega
structure FoundIs (es : List (Int × Int)) (pre : List Int) (found : Array UInt8) : Prop where
  eq : found = wB (pre.map (glyph es))
  two : found.size = 2 * pre.length
theorem FoundIs.size {es : List (Int × Int)} {pre : List Int} {found : Array UInt8} (h : FoundIs es pre found) : found.size = 2 * pre.length := h.two
theorem pb_size (n : Int) : (pb n).size = 2 := rfl
theorem found_nil (es : List (Int × Int)) : FoundIs es [] #[] := ⟨rfl, rfl⟩
theorem found_snoc {es : List (Int × Int)} {pre : List Int} {found : Array UInt8} (k : Int) (h : FoundIs es pre found) : FoundIs es (pre ++ [k]) (found ++ pb (glyph es k)) := by
  obtain ⟨rfl, h⟩ := h
  refine ⟨by rw [List.map_append, List.map_singleton, wB_snoc], ?_⟩
  rw [← wB_snoc, wB_size, List.length_append, List.length_append, List.length_map]
  simp

structure PbIs (n : Int) (b : Array UInt8) : Prop where
  eq : b = pb n
theorem found_snocB {es : List (Int × Int)} {pre : List Int} {found b : Array UInt8} {k : Int} (h : FoundIs es pre found) (hb : PbIs (glyph es k) b) : FoundIs es (pre ++ [k]) (found ++ b) := by
  rw [hb.eq]; exact found_snoc k h

theorem put16_rule {w : World} {n : Int} {tn : Tok} {mean : ExcName → Option Value} {mg mb : Str → Option Value} {dp un : Nat} {gd : Option (List Code)} {cn : Str} {cs : Scope} {ac : Addr} {ccd : Value} {cl : List (Str × Addr)} {outer : List Env} {A₀ : Around} {base h₀ : Heap} {L : Addr} {m : Str → Option Value} {s : Shared} {Q E : Value → Shared → Prop} {news : List (Addr × Obj)}
    (B : Below A₀ base outer h₀) (F : Fr h₀ L s.heap m) (X : (Mine.hd.heap_39 w.params).In h₀) (T : Top Mine.hd.view_39 (looseW Mine.hd.view_39 []) mean mg mb h₀) (N : News h₀ L s.heap news) (hk : cs.kind = .function) (hd : dp + 1 < recursionLimit) (hu : un + 8 < cLine)
    (hret : ∀ b t h' tk', PbIs n b → b.size = 2 → Fr h₀ L h' m → News h₀ L h' news → Q (.bytes b t) { s with heap := h', toks := tk' }) :
    wpAny (model PySem.Challenge.rw_xm0707_01.row.prog w) (ktrTop dp un gd cn cs L ac ccd cl outer) (call (.ref 53) [.int n tn]) Q E s := by
  refine put16_ask w n tn mean mg mb dp un gd cn cs ac ccd cl outer A₀ base h₀ L m s Q E B F X T hk hd hu trivial fun v s' h => ?_
  obtain ⟨⟨t, rfl⟩, h', tk', rfl, hk'⟩ := h
  exact hret _ t h' tk' ⟨rfl⟩ rfl (fr_keep F hk') (news_keep N hk')

local macro_rules | `(tactic| walk_at "call ref") => `(tactic| (k_here; (with_reducible show wpAny _ _ (call (Value.ref 53) [Value.int _ _]) _ _ _); k_dflt (refine' put16_rule ?B ?F ?X ?T ?N ?hk ?hd ?hu ?_; (case B => k_asm); (case F => k_asm); (case X => k_asm); (case T => k_asm); (case N => k_asm); (case hk => first | exact rfl | assumption); (case hd => ktr_room); (case hu => ktr_units)); intro b' t' h' tk' hb' hbz' F' N'; (try k_sweep)))
local macro_rules | `(tactic| walk_at "call builtin:sorted") => `(tactic| (k_here; k_dflt (refine' d_sortedS ?hh ?C ?F ?N ?hz ?hne ?hf ?hl ?_; (case hh => exact rfl); (case C => k_asm); (case F => k_asm); (case N => k_asm); (case hz => assumption); (case hne => assumption); (case hf => assumption); (case hl => assumption)); intro D' vs' ns' c' h' tk' F' N' l1 hi' hp' hz' hf' hl'; (try k_lt l1); (try k_sweep)))
local macro_rules | `(tactic| walk_at "getMethod ref") => `(tactic| (k_here; (with_reducible show wpAny _ _ (getMethod (Value.ref _) (PySem.Str.ofString "get") _) _ _ _); k_dflt (refine' d_method ?C ?_; (case C => exact CodesAt.keep (by assumption) (Fr.keep (by assumption))))))
local macro_rules | `(tactic| walk_at "compareOp NotEq ref ref") => `(tactic| (k_here; (with_reducible show wpAny _ _ (compareOp CmpOp.NotEq (Value.ref _) (Value.ref _)) _ _ _); k_dflt (refine' ne_nilS ?a ?b ?c ?e ?f ?_; (case a => is_list); (case b => assumption); (case c => is_list); (case e => assumption); (case f => ktr_units))))
local macro_rules | `(tactic| walk_at "call builtin:dict.get") => `(tactic| (k_here; k_dflt (refine' d_get ?C ?_; (case C => exact CodesAt.keep (by assumption) (Fr.keep (by assumption)))); intro t'))
local macro_rules | `(tactic| ktr_enter) => `(tactic| (refine' enterG [] ?k1 ?k2 ?k3 ?k5 ?kA ?kF ?kK ?kh ?kh0 ?k6 ?k7 ?k8 ?k9 ?kB ?_ ?c2 ?c3 ?c4 ?c5; (case kA => exact rfl); (case kF => exact rfl); (case kK => assumption); (case kh => exact List.not_mem_nil); (case kh0 => exact fun _ h => absurd h List.not_mem_nil); (case k1 => k_asm); (case k2 => k_asm); (case k3 => k_asm); (case k5 => k_asm); (case k6 => k_is); (case k7 => k_is); (case k8 => ktr_room); (case k9 => exact BindsTo.of_eq rfl); (case c5 => decide); (case kB => exact locs rfl); (case c2 => exact rfl); (case c3 => exact rfl); (case c4 => exact rfl); k_whole))

/-- the words that a table of format 6 holds -/
def words6 (es : List (Int × Int)) (f l : Int) : List Int := [6, 10 + 2 * (l - f + 1), 0, f, l - f + 1] ++ (rangeKs f (l + 1 - f).toNat).map (glyph es)

theorem wf6_end {es : List (Int × Int)} {f l F1 L1 : Int} {fd b0 b1 b2 b3 b4 : Array UInt8} {g h₁ : Heap} {s : Shared} {L' : Addr} {m' : Str → Option Value} {tk' : Nat} {t : Tok} {Q : Value → Shared → Prop} {G : Array GenState} {D : Drawn} {O : OsState}
    (hret : ∀ v s', (∃ t, v = .bytes (wB (words6 es f l)) t) ∧ Kept s s' → Q v s') (e : g = hideAll s.heap []) (hf : F1 = f) (hl : L1 = l) (hfl : f ≤ l + 1)
    (hk : FoundIs es (rangeKs F1 (L1 + 1 - F1).toNat) fd) (h0 : PbIs 6 b0) (h1 : PbIs (10 + (fd.size : Int)) b1) (h2 : PbIs 0 b2) (h3 : PbIs F1 b3) (h4 : PbIs (L1 - F1 + 1) b4) (F : Fr g L' h₁ m') (hG : G = s.gens) (hD : D = s.drawn) (hO : O = s.os) :
    Q (.bytes (b0 ++ b1 ++ b2 ++ b3 ++ b4 ++ fd) t) { heap := h₁, gens := G, drawn := D, toks := tk', os := O } := by
  subst hf hl hG hD hO
  refine hret _ _ ⟨⟨t, ?_⟩, h₁, tk', rfl, fun b o q => F.keep b o (hide_nil e b o q)⟩
  have hz := hk.two
  rw [rangeKs_length] at hz
  have e1 : (10 : Int) + (fd.size : Int) = 10 + 2 * (L1 - F1 + 1) := by omega
  rw [e1] at h1
  rw [h0.eq, h1.eq, h2.eq, h3.eq, h4.eq, hk.eq]
  congr 1
  apply Array.toList_inj.mp
  simp [wB, words6]

local macro_rules | `(tactic| walk_at "binaryOp Add bytes bytes") => `(tactic| (k_here; (with_reducible show wpAny _ _ (binaryOp Operator.Add (Value.bytes _ _) (Value.bytes _ _)) _ _ _); (refine' KBy.add_bytes ?z ?_; (case z => (try (have z9 := FoundIs.size (by assumption)); (try simp only [rangeKs_length] at z9)); (try simp only [Array.size_append]); omega)); intro _ _))
local macro_rules | `(tactic| walk_at "call builtin:len") => `(tactic| (k_here; (with_reducible show wpAny _ _ (call (Value.builtin "len") [Value.bytes _ _]) _ _ _); (refine' len_bytes ?z ?_; (case z => (have z9 := FoundIs.size (by assumption); (try simp only [rangeKs_length] at z9)); omega))))

structure Hold (P : Prop) : Prop where
  h : P
local macro_rules | `(tactic| walk_at "InvPostN") => `(tactic| (refine Hold.h ?_))
local macro_rules | `(tactic| walk_at "Hold") => `(tactic| fail)
set_option maxRecDepth 100000 in
set_option maxHeartbeats 8000000 in
theorem wf6_ask (w : World) (d : Addr) (es : List (Int × Int)) (f l : Int) (hf : f ∈ es.map (·.1) ∧ ∀ k ∈ es.map (·.1), f ≤ k) (hl : l ∈ es.map (·.1) ∧ ∀ k ∈ es.map (·.1), k ≤ l) (hz : es.length < 64) (hne : 0 < es.length) (h0 : 0 ≤ f) (hl1 : l ≤ 65535) (hl2 : l - f + 1 ≤ 32762) : Ask w 60 [.ref d] 2 200 (fun s => CodesAt PySem.Challenge.rw_xm0707_01.row.prog w s.heap d es) (fun s v s' => (∃ t, v = .bytes (wB (words6 es f l)) t) ∧ Kept s s') := by
  unfold Ask
  k_fill
  intro mean mg mb dp un gd cn cs a ccd cl outer A₀ base h₀ L m s Q E B F X T hk hd hu hp hret
  refine wpAny_call ?_
  k_dflt ktr_enter
  intro g' L' h' gE gS F' Le B' X' T'
  have N' := News.nil (h₀ := g') (L := L') (h := h')
  have C' := hp.keep (hide_nil gE)
  have hfl : f ≤ l := hf.2 _ hl.1
  dsimp only
  k_with "pyIter ref" => k_state (fun pre found => FoundIs es pre found) "found"
  k_with "state" => first | (refine' found_snocB ?a ?b; (case a => assumption); (case b => assumption)) | with_reducible exact found_nil _
  k_steps
  k_with_none
  · refine ⟨?_⟩
    rename News _ _ _ _ => nE
    rename Fr _ _ _ _ => fE
    refine' kst_end (c := (_, _)) fE nE ?e2 ?e3 ?e4 ?e5 ?e6 ?e7 ?e8
    case e6 => exact fun p hp => by rw [List.mem_singleton.mp hp]; rfl
    case e2 => exact fun p hp => List.mem_append_left kOwn hp
    case e3 => exact fun p hp => List.mem_append_right [_, _, _] hp
    case e4 => rfl
    case e5 => trivial
    case e7 => kst_same
    case e8 => refine found_snocB kInv ?_; assumption
  · refine' wf6_end hret gE ?f1 ?f2 (by omega) ?f3 ?f4 ?f5 ?f6 ?f7 ?f8 ?f9 ?g1 ?g2 ?g3
    case f9 => assumption
    case g1 => rfl
    case g2 => rfl
    case g3 => rfl
    case f4 => assumption
    case f5 => assumption
    case f6 => assumption
    case f7 => assumption
    case f8 => assumption
    all_goals assumption
end Mine
end

section
open PySem PySem.Spec PySem.Calls PySem.W PyProof.Rows
namespace Mine

theorem d_sorted0 {prog : Program} {w : World} {A : Around} {E : Value → Shared → Prop} {s : Shared} {h₀ : Heap} {L d : Addr} {m : Str → Option Value} {news : List (Addr × Obj)} {Q : Value → Shared → Prop}
    (hh : A.handled = none) (C : CodesAt prog w h₀ d []) (F : Fr h₀ L s.heap m) (N : News h₀ L s.heap news)
    (h : ∀ D c h' tk, Fr h₀ L h' m → News h₀ L h' ((D, listOf ([] : List Value).toArray c) :: news) → (∀ q ∈ news, q.1 < D) → Q (.ref D) { s with heap := h', toks := tk }) :
    wpAny (model prog w) A (call (.builtin "sorted") [.ref d]) Q E s := by
  refine d_sorted hh (C.keep F.keep) F N (by decide) fun D vs ns c h' tk F' N' l1 hi hp hw => ?_
  have e : ns = [] := hp.eq_nil
  subst e
  cases hi
  exact h D c h' tk F' N' l1

theorem ne_nil0 {prog : Program} {w : World} {A : Around} {E : Value → Shared → Prop} {s : Shared} {a b : Addr} {Q : Value → Shared → Prop} (hl : s.heap.IsList a ([] : List Value).toArray) (hl' : s.heap.IsList b ([] : List Value).toArray) (hu : A.units + 64 < cLine)
    (h : Q (.bool false) s) : wpAny (model prog w) A (compareOp .NotEq (.ref a) (.ref b)) Q E s := by
  refine ne_intsK hl .nil hl' .nil hu ?_
  exact h

local macro_rules | `(tactic| walk_at "part XC2") => `(tactic| fail)
local macro_rules | `(tactic| walk_at "call ref") => `(tactic| (k_here; (with_reducible show wpAny _ _ (call (Value.ref 53) [Value.int _ _]) _ _ _); k_dflt (refine' put16_rule ?B ?F ?X ?T ?N ?hk ?hd ?hu ?_; (case B => k_asm); (case F => k_asm); (case X => k_asm); (case T => k_asm); (case N => k_asm); (case hk => first | exact rfl | assumption); (case hd => ktr_room); (case hu => ktr_units)); intro b' t' h' tk' hb' hbz' F' N'; (try k_sweep)))
local macro_rules | `(tactic| walk_at "call builtin:sorted") => `(tactic| (k_here; k_dflt (refine' d_sorted0 ?hh ?C ?F ?N ?_; (case hh => exact rfl); (case C => k_asm); (case F => k_asm); (case N => k_asm)); intro D' c' h' tk' F' N' l1; (try k_lt l1); (try k_sweep)))
local macro_rules | `(tactic| walk_at "getMethod ref") => `(tactic| (k_here; (with_reducible show wpAny _ _ (getMethod (Value.ref _) (PySem.Str.ofString "get") _) _ _ _); k_dflt (refine' d_method ?C ?_; (case C => exact CodesAt.keep (by assumption) (Fr.keep (by assumption))))))
local macro_rules | `(tactic| walk_at "compareOp NotEq ref ref") => `(tactic| (k_here; (with_reducible show wpAny _ _ (compareOp CmpOp.NotEq (Value.ref _) (Value.ref _)) _ _ _); k_dflt (refine' ne_nil0 ?a ?c ?f ?_; (case a => is_list); (case c => is_list); (case f => ktr_units))))
local macro_rules | `(tactic| walk_at "call builtin:dict.get") => `(tactic| (k_here; k_dflt (refine' d_get ?C ?_; (case C => exact CodesAt.keep (by assumption) (Fr.keep (by assumption)))); intro t'))
local macro_rules | `(tactic| ktr_enter) => `(tactic| (refine' enterG [] ?k1 ?k2 ?k3 ?k5 ?kA ?kF ?kK ?kh ?kh0 ?k6 ?k7 ?k8 ?k9 ?kB ?_ ?c2 ?c3 ?c4 ?c5; (case kA => exact rfl); (case kF => exact rfl); (case kK => assumption); (case kh => exact List.not_mem_nil); (case kh0 => exact fun _ h => absurd h List.not_mem_nil); (case k1 => k_asm); (case k2 => k_asm); (case k3 => k_asm); (case k5 => k_asm); (case k6 => k_is); (case k7 => k_is); (case k8 => ktr_room); (case k9 => exact BindsTo.of_eq rfl); (case c5 => decide); (case kB => exact locs rfl); (case c2 => exact rfl); (case c3 => exact rfl); (case c4 => exact rfl); k_whole))

local macro_rules | `(tactic| walk_at "binaryOp Add bytes bytes") => `(tactic| (k_here; (with_reducible show wpAny _ _ (binaryOp Operator.Add (Value.bytes _ _) (Value.bytes _ _)) _ _ _); (refine' KBy.add_bytes ?z ?_; (case z => (try (have z9 := FoundIs.size (by assumption)); (try simp only [rangeKs_length] at z9)); (try simp only [Array.size_append, List.size_toArray, List.length_nil]); omega)); intro _ _))
local macro_rules | `(tactic| walk_at "call builtin:len") => `(tactic| (k_here; (with_reducible show wpAny _ _ (call (Value.builtin "len") [Value.bytes _ _]) _ _ _); (refine' len_bytes ?z ?_; (case z => (have z9 := FoundIs.size (by assumption); (try simp only [rangeKs_length] at z9)); omega))))

local macro_rules | `(tactic| walk_at "InvPostN") => `(tactic| (refine Hold.h ?_))
local macro_rules | `(tactic| walk_at "Hold") => `(tactic| fail)

set_option maxRecDepth 100000 in
set_option maxHeartbeats 8000000 in
theorem wf60_ask (w : World) (d : Addr) : Ask w 60 [.ref d] 2 200 (fun s => CodesAt PySem.Challenge.rw_xm0707_01.row.prog w s.heap d []) (fun s v s' => (∃ t, v = .bytes (wB (words6 [] 0 (-1))) t) ∧ Kept s s') := by
  unfold Ask
  k_fill
  intro mean mg mb dp un gd cn cs a ccd cl outer A₀ base h₀ L m s Q E B F X T hk hd hu hp hret
  refine wpAny_call ?_
  k_dflt ktr_enter
  intro g' L' h' gE gS F' Le B' X' T'
  have N' := News.nil (h₀ := g') (L := L') (h := h')
  have C' := hp.keep (hide_nil gE)
  dsimp only
  k_steps
  refine' wf6_end (F1 := 0) (L1 := -1) (f := 0) (l := -1) (es := []) hret gE rfl rfl (by decide) (show FoundIs [] (rangeKs 0 (-1 + 1 - 0 : Int).toNat) #[] from found_nil _) ?f4 ?f5 ?f6 ?f7 ?f8 ?f9 ?g1 ?g2 ?g3
  case f9 => assumption
  case g1 => rfl
  case g2 => rfl
  case g3 => rfl
  case f4 => assumption
  case f5 => assumption
  case f6 => assumption
  case f7 => assumption
  case f8 => assumption
end Mine
end

section
open PySem PySem.Spec PySem.Calls PySem.W PyProof.Rows
open Sem (wp)
namespace Mine
section
variable {prog : Program} {w : World} {A : Around} {E : Value → Shared → Prop} {R : Result → Shared → Prop} {h : Heap} {g : Array GenState} {d : Drawn} {t : Nat} {os : OsState}
variable {nm q : Str} {C N : Addr} {bs bm bmB : List Value} {hdct : Bool} {sn : List Str} {sub : List Value} {ab : Bool} {col : Option Bool} {dd : Option Addr} {k0 k1 k2 k3 k5 : Option Value} {B newId initId : String}

/-- the own class's line of bases holds the built-in base, and is no AttributeError and no NameError -/
structure Line (B : String) (bm : List Value) : Prop where
  b : bm.contains (.type B) = true
  a : bm.contains (.type "AttributeError") = false
  n : bm.contains (.type "NameError") = false

set_option maxRecDepth 100000 in
theorem own_check_new (F : ExcBaseFacts B newId initId bmB) (Y : Line B bm) {M : Model} {rest : List Value} {Q : Unit → Shared → Prop} (hC : h.get? C = some (excClassObj nm q C N bs bm hdct sn sub ab col dd k0 k1 k2 k3 k5 newId))
    (hq : Q () ⟨h, g, d, t, os⟩) : wpAny M A (checkBuiltinCall newId ⟨.ref C :: rest, []⟩) Q E ⟨h, g, d, t, os⟩ := by
  have hcont : (Value.ref C :: bm).contains (.type B) = true := by rw [List.contains_cons, Y.b, Bool.or_true]
  have hstar := F.noStar
  simp only [checkBuiltinCall, F.newKind, F.newSplit, F.newRow]
  repeat (first | refine wpAny_loadPart_at hC ?_ | (refine wpAny_isSubtype_exc hC ?_; rw [hcont]) | refine wpAny_staticBase_exc hC ?_ | refine wpAny_madeBy_exc hC ?_ | simp only [bne_self_eq_false, Bool.false_eq_true, if_false] | wp_step)
  exact hq

set_option maxRecDepth 100000 in
theorem own_new (F : ExcBaseFacts B newId initId bmB) (Y : Line B bm) {rest : List Value} (hC : h.get? C = some (excClassObj nm q C N bs bm hdct sn sub ab col dd k0 k1 k2 k3 k5 newId))
    (hq : R (.ok (.ret (.ref (h.objs.size + 1)))) ⟨(h.push { cls := .type "tuple", data := .seq rest.toArray }).push
      { cls := .ref C, data := .fields #[.ref h.objs.size, .none, .none, .none, .bool false, .none] }, g, d, t, os⟩) (hrest : rest.length ≤ sizeLine) :
    codeAny (model prog w) A (.builtin newId ⟨.ref C :: rest, []⟩) R ⟨h, g, d, t, os⟩ := by
  have hends := F.ends
  have hcB : (Value.ref C :: bm).contains (.type B) = true := by rw [List.contains_cons, Y.b, Bool.or_true]
  have hcA : (Value.ref C :: bm).contains (.type "AttributeError") = false := by rw [List.contains_cons, Y.a]; rfl
  have hcN : (Value.ref C :: bm).contains (.type "NameError") = false := by rw [List.contains_cons, Y.n]; rfl
  refine codeAny_builtinAt F.entry ?_
  unfold Builtin.«BaseException.__new__»
  refine PySem.wpAt_bind ?_
  show PySem.wpAt _ _ _ (stack >>= _) _ _ _
  refine PySem.wpAt_bind (PySem.wpAt_stack fun p below => PySem.wpAt_of_wpAny ?_)
  wp_walk
  refine PySem.wpAt_of_wpAny ?_
  rw [F.owner]
  repeat (first | with_reducible refine wpAny_madeHere_exc F.canon hC ?_ | with_reducible refine wpAny_loadPart_at hC ?_ | (with_reducible refine wpAny_isSubtype_exc hC ?_; first | rw [hcB] | rw [hcA] | rw [hcN]) | wp_step)
  show R _ _
  rw [Heap.size_push]
  exact hq

set_option maxRecDepth 100000 in
theorem own_type_call (F : ExcBaseFacts B newId initId bmB) (Y : Line B bm) {rest : List Value} {fI : Addr} {oI : Obj} {Q : Fin → Shared → Prop}
    (hC : h.get? C = some (excClassObj nm q C N bs bm hdct sn sub ab col dd k0 k1 k2 k3 k5 newId)) (hi : Looks (model prog w) h (typeLookup (.ref C) "__init__") (some (.ref fI)))
    (hfI : h.get? fI = some oI) (hfc : oI.cls = .type "function")
    (hq : ∀ h' e, Heap.MadeExcOf h h' e (.ref C) rest →
      wpAny (model prog w) A (call (.ref fI) (.ref e :: rest)) (fun r s' => r = .none ∧ Q (.done (.ret (.ref e))) s') E ⟨h', g, d, t, os⟩) (hrest : rest.length ≤ sizeLine) :
    wpAny (model prog w) A (Builtin.«type.__call__» ⟨.ref C :: rest, []⟩) Q E ⟨h, g, d, t, os⟩ := by
  repeat (first | with_reducible refine wpAny_loadPart_at hC ?_ | with_reducible refine wpAny_madeBy_exc hC ?_ | wp_step)
  refine codeAny_call_builtin_code (Code.quiet_builtin _ F.quiet) (own_check_new F Y hC ?_)
  refine own_new F Y hC ?_ hrest
  show wpAny _ _ _ _ _ _
  have kk : ∀ b o, h.get? b = some o → ((h.push { cls := .type "tuple", data := .seq rest.toArray }).push { cls := .ref C, data := .fields #[.ref h.objs.size, .none, .none, .none, .bool false, .none] }).get? b = some o :=
    fun b o e => Heap.get?_push_of_some _ (Heap.get?_push_of_some _ e)
  have hC₁ := kk _ _ hC
  have hfI₁ := kk _ _ hfI
  have hget : ((h.push { cls := .type "tuple", data := .seq rest.toArray }).push
      { cls := .ref C, data := .fields #[.ref h.objs.size, .none, .none, .none, .bool false, .none] }).get? (h.objs.size + 1) = some
      { cls := .ref C, data := .fields #[.ref h.objs.size, .none, .none, .none, .bool false, .none] } := by heap_get
  have hcC : (Value.ref C :: bm).contains (.ref C) = true := by simp
  unfold isInstance
  repeat (first | with_reducible refine wpAny_loadPart_at hget ?_ | (with_reducible refine wpAny_isSubtype_exc hC₁ ?_; rw [hcC]) | wp_step)
  show wpAny _ _ (typeLookup (.ref C) _) _ _ _
  refine hi A _ E _ kk ?_
  refine wpAny_holding (wpAny_bind ?_)
  unfold bindSpecial
  refine wpAny_bind (wpAny_typeOf (T := "function") ⟨_, hfI₁, hfc⟩ ?_)
  rw [if_pos (by decide)]
  refine wpAny_pure (wpAny_bind (wpAny_mono (hq _ (h.objs.size + 1) ⟨kk, Heap.get?_none_of_le (Nat.le_succ _), h.objs.size, hget, Heap.get?_none_of_le (Nat.le_refl _), ?_⟩) (fun r s' hr => ?_) fun _ _ x => x))
  · exact Heap.get?_push_of_some _ (Heap.get?_push_at rfl rfl)
  · obtain ⟨rfl, hQ⟩ := hr
    wp_walk
    exact hQ

set_option maxRecDepth 100000 in
theorem own_call (F : ExcBaseFacts B newId initId bmB) (Y : Line B bm) {rest : List Value} {fI : Addr} {oI : Obj} {Q : Value → Shared → Prop}
    (hC : h.get? C = some (excClassObj nm q C N bs bm hdct sn sub ab col dd k0 k1 k2 k3 k5 newId)) (hi : Looks (model prog w) h (typeLookup (.ref C) "__init__") (some (.ref fI)))
    (hfI : h.get? fI = some oI) (hfc : oI.cls = .type "function")
    (hq : ∀ h' e, Heap.MadeExcOf h h' e (.ref C) rest →
      wpAny (model prog w) (A.under (.builtin "type.__call__" ⟨.ref C :: rest, []⟩)) (call (.ref fI) (.ref e :: rest)) (fun r s' => r = .none ∧ Q (.ref e) s') E ⟨h', g, d, t, os⟩) (hrest : rest.length ≤ sizeLine) :
    wpAny (model prog w) A (call (.ref C) rest) Q E ⟨h, g, d, t, os⟩ := by
  have f1 := tc_lookup
  have f2 := PySem.tc_bind (.ref C)
  have hT : (⟨h, g, d, t, os⟩ : Shared).TypeIs (.ref C) "type" := ⟨_, hC, rfl⟩
  refine wpAny_call (codeAny_of_tree ?_)
  show wpAny _ _ (callAny (.ref C) _) _ _ _
  repeat (any_goals (first | assumption | with_reducible refine wpAny_loadPart_at hC ?_ | wp_step))
  refine ⟨rfl, ?_⟩
  refine codeAny_call_builtin_at (Code.quiet_builtin _ (by decide +kernel)) PySem.entry_typeCall (wpAny_check_type_call_sub hC (own_type_call F Y hC hi hfI hfc (fun h' e hm => ?_) hrest))
  exact hq h' e hm
end
end Mine
end

section
open PySem PySem.Spec PySem.Calls PySem.W PyProof.Rows
open PySem.Builtin PySem.Builtin.ObjectAttr
namespace Mine
section
variable {prog : Program} {w : World} {A : Around} {E : Value → Shared → Prop} {s : Shared} {K : Frag} {C x : Addr} {Q : Unit → Shared → Prop}

/-- the object's own dict is made at its first store -/
structure Stored (h h' : Heap) (x : Addr) (o : Obj) : Prop where
  keeps : ∀ b ob, b ≠ x → h.get? b = some ob → h'.get? b = some ob
  there : ∃ D, h'.get? x = some { cls := o.cls, dict := some D, data := o.data, slots := o.slots }

set_option maxRecDepth 100000 in
theorem exc_store {vs : Array Value} {mro : List Value} {name : Str} {v : Value} (X : K.In s.heap) (hx : s.heap.get? x = some { cls := .ref C, data := .fields vs })
    (hcls : ∃ cd, clsIn K C = some cd ∧ cd.mro = mro ∧ cd.hasDict = true) (hne : mro.isEmpty = false) (hob : mro.contains (.type "object") = true) (hpass : ∀ self, refuseLoop self "__setattr__" mro = pure ())
    (hs : findIn K (.ref C) "__setattr__" = some (some (.builtin "object.__setattr__"))) (ha : findIn K (.ref C) name = some none)
    (h : ∀ h' tk, Stored s.heap h' x { cls := .ref C, data := .fields vs } → Q () { s with heap := h', toks := tk }) : wpAny (model prog w) A (setAttr (.ref x) name v) Q E s := by
  have I : InstAt s.heap x { cls := .ref C, data := .fields vs } C none := ⟨hx, rfl, rfl, trivial⟩
  refine set_plain X I hs ?_
  have SF := PySem.F.store_object
  obtain ⟨cd, hcd, rfl, hd'⟩ := hcls
  have sub : Looks (model prog w) s.heap (isInstance (.ref x) (.type "object")) true := I.type.andThen (looks_mroIn X (by unfold mroIn; rw [hcd, Option.bind_some, if_neg (by rw [hne]; decide), hob]))
  refine codeAny_call_builtin SF.slot.plain SF.entry (@check_slot (model prog w) _ _ { s with toks := s.toks + 1 } "object.__setattr__" "object" "__setattr__" (.ref x) [.str name s.toks, v] [] _ SF.kind SF.split sub (SF.args (.ref x) (.str name s.toks) v) ?_)
  have hm : Looks (model prog w) s.heap (mroOf (.ref C)) cd.mro := (looks_clsIn X hcd).andThen .now
  rw [osa_eq, refuse_eq]
  refine wpAny_bind (wpAny_bind (I.type.here (s := { s with toks := s.toks + 1 }) (wpAny_bind (hm.here (s := { s with toks := s.toks + 1 }) ?_))))
  rw [hpass]
  refine wpAny_pure (wpAny_bind (I.type.here (s := { s with toks := s.toks + 1 }) (wpAny_bind ((looks_findIn X ha).here (s := { s with toks := s.toks + 1 }) (wpAny_bind (wpAny_pure ?_))))))
  show wpAny _ _ (storeInOwnDict (.ref x) (.ref C) (.str name s.toks) name v false) _ _ _
  obtain ⟨hp, g, d, tk, os⟩ := s
  dsimp only at hx X I h ⊢
  have hx₁ : (hp.push { cls := .type "dict", data := .dict #[] }).get? x = some { cls := .ref C, data := .fields vs } := Heap.get?_push_of_some _ hx
  have hxs : x ≠ hp.objs.size := Nat.ne_of_lt (Heap.lt_size hx)
  unfold storeInOwnDict ownDictForStores instanceDict
  refine wpAny_bind (wpAny_pure ?_)
  have hm0 : (Value.ref C == Value.type "module") = false := by simp
  dsimp only
  rw [hm0]
  refine wpAny_bind (wpAny_bind (wpAny_loadPart hx (wpAny_bind ((looks_clsIn X hcd).here (s := ⟨hp, g, d, tk + 1, os⟩) ?_))))
  rw [hd']
  refine wpAny_bind (wpAny_alloc' ?_)
  refine wpAny_bind (wpAny_update' hx₁ ?_)
  refine wpAny_pure ?_
  have hgx : ((hp.push { cls := .type "dict", data := .dict #[] }).update x fun o => { cls := o.cls, dict := some hp.objs.size, data := o.data, slots := o.slots }).get? x
      = some { cls := .ref C, dict := some hp.objs.size, data := .fields vs } := Heap.get?_update_self _ hx₁ rfl
  have hgd : ((hp.push { cls := .type "dict", data := .dict #[] }).update x fun o => { cls := o.cls, dict := some hp.objs.size, data := o.data, slots := o.slots }).get? hp.objs.size
      = some { cls := .type "dict", data := .dict #[] } :=
    (Heap.get?_update_ne _ _ _ _ hxs.symm).trans (Heap.get?_push_at rfl rfl)
  have hnd : ((hp.push { cls := .type "dict", data := .dict #[] }).update x fun o => { cls := o.cls, dict := some hp.objs.size, data := o.data, slots := o.slots }).Ns hp.objs.size (fun _ => none) :=
    ⟨_, #[], _, hgd, rfl, fun e he => absurd he (by simp), fun _ => rfl⟩
  show wpAny _ _ (storeInDict hp.objs.size (.str name tk) name v) _ _ _
  unfold storeInDict newKeyGuard
  refine wpAny_bind (wpAny_pure (wpAny_bind (wpAny_nsSet1 (Heap.Ns1.of_empty hnd) fun h' hn' hs' => ?_)))
  obtain ⟨oD, esD, epD, hoD, hdD, hcD⟩ := hn'.count (Within.cons name v Within.nil)
  refine wpAny_bind (wpAny_lookBehind hoD (by rw [hdD]; exact pastItsLine_dict (Nat.le_trans hcD (by rw [List.length_cons, List.length_nil, sizeLine_eq]; omega))) ?_)
  refine wpAny_pure (h _ _ ⟨fun b ob hb e => ?_, hp.objs.size, (hs'.2 x hxs).trans hgx⟩)
  exact (hs'.2 b (Nat.ne_of_lt (Heap.lt_size e))).trans ((Heap.get?_update_ne _ _ _ _ hb).trans (Heap.get?_push_of_some _ e))
end
end Mine
end

section
open PySem PySem.Spec PySem.Calls PySem.W PyProof.Rows
namespace Mine

/-- the parts of an exception of the text's own, ahead of its first store -/
abbrev excObj (C : Addr) (t : Addr) : Obj := { cls := .ref C, data := .fields #[.ref t, .none, .none, .none, .bool false, .none] }

theorem font_passes (self : Value) : PySem.refuseLoop self "__setattr__" [.ref 44, .ref 31, .type "Exception", .type "BaseException", .type "object"] = pure () := by
  rw [refuseLoop_ref, refuseLoop_ref]
  exact PySem.F.store_Exception.passes self

theorem font_store {prog : Program} {w : World} {A : Around} {E : Value → Shared → Prop} {s : Shared} {x t : Addr} {v : Value} {Q : Unit → Shared → Prop} {K : Frag} {g : Heap} {L : Addr} {m : Str → Option Value} {news : List (Addr × Obj)}
    (F : Fr g L s.heap m) (N : News g L s.heap news) (X : K.In g) (hx : (x, excObj 44 t) ∈ news)
    (hcls : ∃ cd, clsIn K 44 = some cd ∧ cd.mro = [.ref 44, .ref 31, .type "Exception", .type "BaseException", .type "object"] ∧ cd.hasDict = true)
    (hs : findIn K (.ref 44) "__setattr__" = some (some (.builtin "object.__setattr__"))) (ha : findIn K (.ref 44) "message" = some none)
    (h : ∀ h' tk, Fr g L h' m → Stored s.heap h' x (excObj 44 t) → Q () { s with heap := h', toks := tk }) : wpAny (model prog w) A (setAttr (.ref x) "message" v) Q E s := by
  have hm := N _ hx
  refine exc_store (C := 44) (X.keeps F.keep) hm.1 hcls rfl (by decide) font_passes hs ha fun h' tk st => h h' tk ?_ st
  exact fr_after (hid := [x]) F (by simpa using Ne.symm hm.2.1) (fun b hb => by rw [List.mem_singleton.mp hb]; exact hm.2.2) fun b o n e => st.keeps b o (by simpa using n) e

local macro_rules | `(tactic| walk_at "setAttr ref") => `(tactic| (k_here; k_dflt (refine' font_store ?F ?N ?X ?x ?c ?s ?a ?_; (case F => k_asm); (case N => k_asm); (case X => k_asm); (case x => k_mem); (case c => exact ⟨_, rfl, rfl, rfl⟩); (case s => k_is); (case a => k_is)); intro h' tk' F' S'))
local macro_rules | `(tactic| ktr_enter) => `(tactic| (refine' enterG [_] ?k1 ?k2 ?k3 ?k5 ?kA ?kF ?kK ?kh ?kh0 ?k6 ?k7 ?k8 ?k9 ?kB ?_ ?c2 ?c3 ?c4 ?c5; (case kA => exact rfl); (case kF => exact rfl); (case kK => assumption); (case kh => assumption); (case kh0 => assumption); (case k1 => k_asm); (case k2 => k_asm); (case k3 => k_asm); (case k5 => k_asm); (case k6 => k_is); (case k7 => k_is); (case k8 => ktr_room); (case k9 => exact BindsTo.of_eq rfl); (case c5 => decide); (case kB => exact locs rfl); (case c2 => exact rfl); (case c3 => exact rfl); (case c4 => exact rfl); k_whole))

set_option maxRecDepth 100000 in
set_option maxHeartbeats 8000000 in
theorem init_ask (w : World) (x t : Addr) (msg : Str) (tm : Tok) (mean : ExcName → Option Value) (mg mb : Str → Option Value) (dp un : Nat) (gd : Option (List Code)) (cn : Str) (cs : Scope) (ac : Addr) (ccd : Value) (cl : List (Str × Addr)) (outer : List Env) (A₀ : Around) (base h₀ : Heap) (L : Addr) (m : Str → Option Value) (s : Shared) (Q E : Value → Shared → Prop)
    (B : Below A₀ base outer h₀) (F : Fr h₀ L s.heap m) (X : (Mine.hd.heap_39 w.params).In h₀) (T : Top Mine.hd.view_39 (looseW Mine.hd.view_39 []) mean mg mb h₀) (hk : cs.kind = .function) (hd : dp + 1 < recursionLimit)
    (ho : s.heap.get? x = some (excObj 44 t)) (hL : x ≠ L) (ha : h₀.get? x = none)
    (hret : ∀ h' tk', Stored s.heap h' x (excObj 44 t) → Q .none { s with heap := h', toks := tk' }) :
    wpAny (model PySem.Challenge.rw_xm0707_01.row.prog w) (ktrTop dp un gd cn cs L ac ccd cl outer) (call (.ref 28) [.ref x, .str msg tm]) Q E s := by
  revert X
  k_fill
  intro X
  have hL' : L ∉ [x] := by simpa using Ne.symm hL
  have ha' : ∀ b ∈ [x], h₀.get? b = none := fun b hb => by rw [List.mem_singleton.mp hb]; exact ha
  refine wpAny_call ?_
  k_dflt ktr_enter
  intro g' L' h' gE gS F' Le B' X' T'
  have N' := news_one gE ho Le gS
  dsimp only
  k_steps
  dsimp only
  rename Stored _ _ _ _ => st
  exact hret _ _ ⟨fun b ob n e => st.keeps b ob n (gS b ob e), st.there⟩
end Mine
end

section
open PySem PySem.Spec PySem.Calls PySem.W PyProof.Rows
namespace Mine

/-- the exception behind its __init__ -/
abbrev excObjD (C : Addr) (t D : Addr) : Obj := { cls := .ref C, dict := some D, data := .fields #[.ref t, .none, .none, .none, .bool false, .none] }

section
variable {M : Model} {A : Around} {E : Value → Shared → Prop} {env : Env} {s : Shared}
variable {nm q : Str} {C N : Addr} {bs bm : List Value} {hdct : Bool} {sn : List Str} {sub : List Value} {ab : Bool} {col : Option Bool} {dd : Option Addr} {k0 k1 k2 k3 k5 : Option Value} {newId : String}

set_option maxRecDepth 100000 in
theorem raiseStmt_own {x : Sem Value} {Q : Flow → Shared → Prop} (hbase : bm.contains (.type "BaseException") = true) (hh : A.handled = none)
    (h : wpAny M A x (fun v s₁ => ∃ e t D, v = .ref e ∧ s₁.heap.get? C = some (excClassObj nm q C N bs bm hdct sn sub ab col dd k0 k1 k2 k3 k5 newId) ∧
      s₁.heap.get? e = some (excObjD C t D) ∧ E (.ref e) s₁) E s) :
    wpAny M A (raiseStmt env (some x) none) Q E s := by
  have hcB : (Value.ref C :: bm).contains (.type "BaseException") = true := by rw [List.contains_cons, hbase, Bool.or_true]
  unfold raiseStmt
  refine wpAny_bind (wpAny_mono h (fun v s₁ h₁ => ?_) fun _ _ x => x)
  obtain ⟨e, t, D, rfl, hC, he, hE⟩ := h₁
  obtain ⟨hp, g, d, tk, os⟩ := s₁
  repeat (first | with_reducible refine wpAny_loadPart_at he ?_ | with_reducible refine wpAny_loadPart_at hC ?_ | (with_reducible refine wpAny_isSubtype_exc hC ?_; rw [hcB]) | wp_step)
  exact wpAny_raiseNew_none hh hE
end

/-- what the call of the text's own exception class hands to the raise -/
def RaisF (w : World) (E : Value → Shared → Prop) (v : Value) (s₁ : Shared) : Prop :=
  (Mine.hd.heap_39 w.params).In s₁.heap ∧ ∃ e t D, v = .ref e ∧ s₁.heap.get? e = some (excObjD 44 t D) ∧ E (.ref e) s₁

set_option maxRecDepth 100000 in
theorem Raise_font {o44 : Obj} {w : World} {M : Model} {A : Around} {E : Value → Shared → Prop} {s : Shared} {env : Env} {e : PySem.Expr} {pos : Pos} {Q : Flow → Shared → Prop} {g0 : Heap} (hX0 : (Mine.hd.heap_39 w.params).In g0) (hk : (Mine.hd.heap_39 w.params).lookup 44 = some o44) (hh : A.handled = none)
    (ho : ∃ nm q N bs bm hdct sn sub ab col dd k0 k1 k2 k3 k5 newId, o44 = excClassObj nm q 44 N bs bm hdct sn sub ab col dd k0 k1 k2 k3 k5 newId ∧ bm.contains (.type "BaseException") = true)
    (h : wpAny M A (eval e env) (RaisF w E) E s) : wpAny M A (exec (.Raise (some e) none pos) env) Q E s := by
  obtain ⟨nm, q, N, bs, bm, hdct, sn, sub, ab, col, dd, k0, k1, k2, k3, k5, newId, rfl, hb⟩ := ho
  show wpAny M A (do standAt pos; raiseStmt env (some (do let v ← eval e env; standAt pos; pure v)) none) Q E s
  refine wpAny_bind (wpAny_standAt (raiseStmt_own (C := 44) (nm := nm) (q := q) (N := N) (bs := bs) (bm := bm) (hdct := hdct) (sn := sn) (sub := sub) (ab := ab) (col := col) (dd := dd) (k0 := k0) (k1 := k1) (k2 := k2) (k3 := k3) (k5 := k5) (newId := newId) hb hh (wpAny_bind (wpAny_mono h (fun v s₁ h₁ => wpAny_bind (wpAny_standAt (wpAny_pure ?_))) fun _ _ x => x))))
  obtain ⟨X, e, t, D, rfl, he, hE⟩ := h₁
  exact ⟨e, t, D, rfl, X _ _ hk, he, hE⟩

/-- the exception flies below these frames, over this ground -/
def FliesF (B : Heap) (l : List Env) (e : Addr) (h : Heap) : Prop := ∃ a0, Heap.FlyingW B l e (.ref 44) a0 h

section
variable {M : Model} {A : Around} {E : Value → Shared → Prop} {s' : Shared} {base g h : Heap} {outer : List Env} {L a e t D : Addr} {m : Str → Option Value} {name : Str} {scope : Scope} {cd : Value} {Q : Unit → Shared → Prop}
theorem leave_font (K : Below A base outer g) (F : Fr g L h m) (hk : ∀ b o, h.get? b = some o → s'.heap.get? b = some o) (hn : h.get? e = none) (he : s'.heap.get? e = some (excObjD 44 t D))
    (hQ : ∀ h', FliesF base outer e h' → g.UpToSlots h' → Q () { s' with heap := h' }) (hkf : scope.kind = .function := by rfl) :
    wpAny M (A.deeper (envOf name scope L a cd)) (leaving (envOf name scope L a cd) (.ref e)) Q E s' := by
  have K' := K.push (name := name) (a := a) (cd := cd) F hkf
  have hen : base.get? e = none := by
    cases q : base.get? e with
    | none => rfl
    | some o => have := K'.stays _ _ q; rw [hn] at this; cases this
  refine wpAny_leaving_firstW (a0 := .ref t) K'.stack (K'.frames.of_keeps fun b o hb _ => ⟨o, hk b o hb, rfl⟩) rfl he (fun b o hb => hk b o (K'.stays b o hb)) hen rfl rfl rfl fun h' hL => ?_
  obtain ⟨k1, ⟨_, _, k2⟩, k3, k4⟩ := hL
  exact hQ h' ⟨.ref t, k1, hen, k2, k3⟩ (((Heap.UpToSlots.of_keeps F.keep).trans (Heap.UpToSlots.of_keeps hk)).trans k4)
end

section
variable {prog : Program} {w : World} {A₀ : Around} {E : Value → Shared → Prop} {s' : Shared} {B g h : Heap} {outer : List Env} {L a e : Addr} {m : Str → Option Value} {name : Str} {scope : Scope} {cd : Value}
  {b₀ : Stmt} {suite : List Stmt} {pos np : Pos} {rest : List ExceptHandler} {Q : Flow → Shared → Prop} {p : Program} {loose : List Str} {mg mb : Str → Option Value} {x : Str} {K : Frag}
set_option maxRecDepth 100000 in
theorem caught_font {o44 : Obj} (hA : A₀.frames = some outer) (F : Fr g L h m) (hBL : B.objs.size ≤ L) (hsm : h.UpToSlots s'.heap) (R : FliesF B (envOf name scope L a cd :: outer) e s'.heap)
    (X : K.In B) (T : TopRead p loose mg mb B) (ex : nsIn K mainGlobals x = some (some (.ref 44))) (h44 : K.lookup 44 = some o44)
    (ho : ∃ nm q N bs bm hdct sn sub ab col dd k0 k1 k2 k3 k5 newId, o44 = excClassObj nm q 44 N bs bm hdct sn sub ab col dd k0 k1 k2 k3 k5 newId ∧ bm.contains (.type "BaseException") = true)
    (k : ∀ h', B.StaysIn h' → h.UpToSlots h' → 
      wpAny (model prog w) ((A₀.deeper (envOf name scope L a cd)).mark (some (.ref e))) (execs (b₀ :: suite) (envOf name scope L a cd)) Q E { s' with heap := h' })
    (hk : scope.kind = .function := by rfl) (hx : (envOf name scope L a cd).kindOf x = some .globalImplicit := by rfl) (hd : (x == ("__debug__" : Str)) = false := by decide)
    (hE : PassesOwnAt (model prog w) ((A₀.deeper (envOf name scope L a cd)).mark (some (.ref e))) (A₀.deeper (envOf name scope L a cd)) (envOf name scope L a cd) E := by passes_own) :
    wpAny (model prog w) (A₀.deeper (envOf name scope L a cd)) (noteFrame (.ref e) (envOf name scope L a cd))
      (fun _ s₂ => wpAny (model prog w) (A₀.deeper (envOf name scope L a cd)) (setFlight (.ref e) none) (fun _ s₃ =>
        wpAny (model prog w) (A₀.deeper (envOf name scope L a cd)) (handleBy (.ref e) (envOf name scope L a cd) (.ExceptHandler (some (.Name x np)) none (b₀ :: suite) pos :: rest)) Q E s₃) E s₂) E s' := by
  obtain ⟨a0, hfl⟩ := R
  obtain ⟨nm, q, N, bs, bm, hdct, sn, sub, ab, col, dd, k0, k1, k2, k3, k5, newId, rfl, hb⟩ := ho
  refine wpAny_looks_onW (Around.frames_deeper hA) rfl hfl fun h₄ hheld₄ hsm₄ => ?_
  refine wpAny_landsW hheld₄ fun h₅ hheld hsm₅' => ?_
  have hsm₅ := hsm₄.trans hsm₅'
  have F₅ : Fr B L h₅ m := ⟨(hsm.trans hsm₅).ns F.ns, hheld.1, hBL⟩
  obtain ⟨ob, hob, hobc⟩ := hheld.there
  refine wpAny_handleBy_cons (codeAny_handlers_test (name_K F₅ X T ex ?_ hk hx hd)) (by intro q; cases q)
  refine wpAny_excMatches_sub_self (F₅.keep _ _ (X _ _ h44)) hob hobc hb (codeAny_handlers_suite ?_)
  refine lands_againW hheld fun h₆ hfl₆ hsm₆ => ?_
  exact wpAny_passesOwnAt hE (k h₆ hfl₆.1 ((hsm.trans hsm₅).trans hsm₆))
end
end Mine
end

section
open PySem PySem.Spec PySem.Calls PySem.W PyProof.Rows
namespace Mine

set_option maxRecDepth 100000 in
set_option maxHeartbeats 8000000 in
theorem font_call {w : World} {msg : Str} {tm : Tok} {mean : ExcName → Option Value} {mg mb : Str → Option Value} {dp un : Nat} {gd : Option (List Code)} {cn : Str} {cs : Scope} {ac : Addr} {ccd : Value} {cl : List (Str × Addr)} {outer : List Env} {A₀ : Around} {base h₀ : Heap} {L : Addr} {m : Str → Option Value} {s : Shared} {Q E : Value → Shared → Prop}
    (B : Below A₀ base outer h₀) (F : Fr h₀ L s.heap m) (X : (Mine.hd.heap_39 w.params).In h₀) (T : Top Mine.hd.view_39 (looseW Mine.hd.view_39 []) mean mg mb h₀) (hk : cs.kind = .function) (hd : dp + 3 < recursionLimit)
    (hret : ∀ e t D h' tk', (∀ b o, s.heap.get? b = some o → h'.get? b = some o) → s.heap.get? e = none → h'.get? e = some (excObjD 44 t D) → Q (.ref e) { s with heap := h', toks := tk' }) :
    wpAny (model PySem.Challenge.rw_xm0707_01.row.prog w) (ktrTop dp un gd cn cs L ac ccd cl outer) (call (.ref 44) [.str msg tm]) Q E s := by
  revert X
  k_fill
  intro X
  have X' := X.keeps F.keep
  obtain ⟨hp, g, d, tk, os⟩ := s
  refine own_call (B := "Exception") PySem.F.excBase_Exception ⟨rfl, rfl, rfl⟩ (X' 44 _ (by k_is)) (looks_findIn X' (by k_is)) (X' 28 _ (by k_is)) rfl (fun h' e hm => ?_) (by rw [sizeLine_eq]; exact Nat.le_of_ble_eq_true rfl)
  obtain ⟨t, he, ht, _⟩ := hm.there
  have hL : e ≠ L := fun q => by
    obtain ⟨oL, _, _, hg, _⟩ := F.ns
    rw [← q, hm.new] at hg; cases hg
  have h0 : h₀.get? e = none := by
    cases q : h₀.get? e with
    | none => rfl
    | some o => have := F.keep _ _ q; rw [hm.new] at this; cases this
  refine init_ask w e t msg tm mean mg mb (dp + 1) _ _ cn cs ac ccd cl outer A₀ base h₀ L m ⟨h', g, d, tk, os⟩ _ _ B (fr_keep F hm.keeps) X T hk (by omega) he hL h0 fun h'' tk' st => ⟨rfl, ?_⟩
  obtain ⟨D, hD⟩ := st.there
  exact hret e t D h'' tk' (fun b o q => st.keeps b o (fun z => by rw [z, hm.new] at q; cases q) (hm.keeps b o q)) hm.new hD
end Mine
end

section
open PySem PySem.Spec PySem.Calls PySem.W PyProof.Rows
namespace Mine

theorem reground {A : Around} {base g : Heap} {env : Env} {L : Addr} (B : Below A base [env] g) (hf : env.frame = some L) : Below A (hideAll g [L]) [env] g := by
  obtain ⟨h1, h2, hk, ⟨L', o, hf', hn, ho, hd⟩, _⟩ := B
  obtain rfl : L = L' := Option.some.inj (hf.symm.trans hf')
  exact ⟨h1, fun b o e => of_hideAll _ e, hk, ⟨L, o, hf', hideAll_none _ (.head _), ho, hd⟩, trivial⟩

local macro_rules | `(tactic| walk_at "exec Raise some none") => `(tactic| (k_here; k_dflt (refine' Raise_font ?X ?k ?hh ?ho ?_; (case X => k_asm); (case k => k_is); (case hh => rfl); (case ho => exact ⟨_, _, _, _, _, _, _, _, _, _, _, _, _, _, _, _, _, rfl, rfl⟩))))
local macro_rules | `(tactic| walk_at "call ref") => `(tactic| (k_here; (with_reducible show wpAny _ _ (call (Value.ref 44) [Value.str _ _]) _ _ _); k_dflt (refine' font_call ?B ?F ?X ?T ?hk ?hd ?_; (case B => k_asm); (case F => k_asm); (case X => k_asm); (case T => k_asm); (case hk => first | exact rfl | assumption); (case hd => ktr_room)); intro e' t' D' h' tk' eK' eN' eH'))
local macro_rules | `(tactic| walk_at "call ref") => `(tactic| (k_here; (with_reducible show wpAny _ _ (call (Value.ref 60) [Value.ref _]) _ _ _); k_dflt (refine wpAny_call ?_; (refine' code_def ?k1 ?k2 ?k3 ?k4 ?k5 ?kA ?kF ?kK ?k6 ?k7 ?k8 ?k9 ?kB ?_ ?c2 ?c3 ?c4 ?c5; (case kA => exact rfl); (case kF => exact rfl); (case kK => exact rfl); (case k1 => k_asm); (case k2 => k_asm); (case k3 => k_asm); (case k4 => k_asm); (case k5 => k_asm); (case k6 => k_is); (case k7 => k_is); (case k8 => ktr_room); (case k9 => exact BindsTo.of_eq rfl); (case c5 => decide); (case kB => exact locs rfl); (case c2 => exact rfl); (case c3 => exact rfl); (case c4 => exact rfl); k_whole; intro g' L' h' FG' F' N' B' X' T'; (have C2 := CodesAt.keep ‹CodesAt _ _ _ _ _› (Fr.keep FG')); (try dsimp only)))))
local macro_rules | `(tactic| walk_at "RaisF") => `(tactic| (refine ⟨Frag.In.keeps (Frag.In.keeps (by assumption) (Fr.keep (by assumption))) (by assumption), _, _, _, rfl, (by assumption), ?_⟩))
local macro_rules | `(tactic| walk_at "leaving ref") => `(tactic| (k_here; (refine' leave_font ?B ?F ?k ?n ?e ?_; (case k => assumption); (case n => assumption); (case e => assumption); (case B => assumption); (case F => assumption)); intro h' fF' uF'; (try dsimp only at fF' uF' ⊢)))
local macro_rules | `(tactic| walk_at "call builtin:sorted") => `(tactic| (k_here; k_dflt (refine' d_sortedS ?hh ?C ?F ?N ?hz ?hne ?hf ?hl ?_; (case hh => exact rfl); (case C => first | k_asm | exact CodesAt.keep (by assumption) (Fr.keep (by assumption))); (case F => k_asm); (case N => k_asm); (case hz => assumption); (case hne => assumption); (case hf => assumption); (case hl => assumption)); intro D' vs' ns' c' h' tk' F' N' l1 hi' hp' hz' hf' hl'; (try k_lt l1); (try k_sweep)))
local macro_rules | `(tactic| walk_at "compareOp NotEq ref ref") => `(tactic| (k_here; (with_reducible show wpAny _ _ (compareOp CmpOp.NotEq (Value.ref _) (Value.ref _)) _ _ _); k_dflt (refine' ne_nilS ?a ?b ?c ?e ?f ?_; (case a => is_list); (case b => assumption); (case c => is_list); (case e => assumption); (case f => ktr_units))))
local macro_rules | `(tactic| ktr_enter) => `(tactic| (refine' enterG [] ?k1 ?k2 ?k3 ?k5 ?kA ?kF ?kK ?kh ?kh0 ?k6 ?k7 ?k8 ?k9 ?kB ?_ ?c2 ?c3 ?c4 ?c5; (case kA => exact rfl); (case kF => exact rfl); (case kK => assumption); (case kh => exact List.not_mem_nil); (case kh0 => exact fun _ h => absurd h List.not_mem_nil); (case k1 => k_asm); (case k2 => k_asm); (case k3 => k_asm); (case k5 => k_asm); (case k6 => k_is); (case k7 => k_is); (case k8 => ktr_room); (case k9 => exact BindsTo.of_eq rfl); (case c5 => decide); (case kB => exact locs rfl); (case c2 => exact rfl); (case c3 => exact rfl); (case c4 => exact rfl); k_whole))

set_option maxRecDepth 100000 in
set_option maxHeartbeats 8000000 in
theorem refused_ask (w : World) (d : Addr) (es : List (Int × Int)) (f l : Int) (hf : f ∈ es.map (·.1) ∧ ∀ k ∈ es.map (·.1), f ≤ k) (hl : l ∈ es.map (·.1) ∧ ∀ k ∈ es.map (·.1), k ≤ l) (hz : es.length < 64) (hne : 0 < es.length) (hbad : 65535 < l ∨ 32762 < l - f + 1)
    (mean : ExcName → Option Value) (mg mb : Str → Option Value) (dp un : Nat) (gd : Option (List Code)) (cn : Str) (cs : Scope) (a : Addr) (ccd : Value) (cl : List (Str × Addr)) (A₀ : Around) (base h₀ : Heap) (L : Addr) (m : Str → Option Value) (s : Shared) (Q E : Value → Shared → Prop)
    (B : Below A₀ base [] h₀) (F : Fr h₀ L s.heap m) (X : (Mine.hd.heap_39 w.params).In h₀) (T : Top Mine.hd.view_39 (looseW Mine.hd.view_39 []) mean mg mb h₀) (hk : cs.kind = .function) (hd : dp + 8 < recursionLimit) (hu : un + 200 < cLine)
    (hp : CodesAt PySem.Challenge.rw_xm0707_01.row.prog w s.heap d es)
    (hret : ∀ h' tk', Fr h₀ L h' m → (∀ b o, b ≠ L → s.heap.get? b = some o → h'.get? b = some o) → Q (.bool true) { s with heap := h', toks := tk' }) :
    wpAny (model PySem.Challenge.rw_xm0707_01.row.prog w) (ktrTop dp un gd cn cs L a ccd cl []) (call (.ref 102) [.ref d]) Q E s := by
  revert X
  k_fill
  intro X
  refine wpAny_call ?_
  k_dflt ktr_enter
  intro g' L' h' gE gS F' Le B1 X' T'
  have N' := News.nil (h₀ := g') (L := L') (h := h')
  have C' := hp.keep (hide_nil gE)
  have B' := reground B1 rfl
  clear B1
  have hfl : f ≤ l := hf.2 _ hl.1
  dsimp only
  have st0 : h₀.StaysIn (hideAll g' [L]) := fun b o e => hideAll_get _ (hide_nil gE b o (F.keep b o e)) (by
    intro hb
    rw [List.mem_singleton.mp hb] at e
    exact absurd (Nat.lt_of_lt_of_le (Heap.lt_size e) F.above) (Nat.lt_irrefl _))
  have X0 : (Mine.hd.heap_39 w.params).In (hideAll g' [L]) := X.keeps st0
  have T0 : Top Mine.hd.view_39 (looseW Mine.hd.view_39 []) mean mg mb (hideAll g' [L]) := T.keeps st0
  have hBL : (hideAll g' [L]).objs.size ≤ L' := by rw [hideAll_size, Le, gE, hideAll_size]; exact Nat.le_refl _
  have fin : ∀ (h6 g2 : Heap) (m1 : Str → Option Value) (tk : Nat) (G : Array GenState) (D : Drawn) (O : OsState), Fr g' L' g2 m1 → (hideAll g' [L]).StaysIn h6 → g2.UpToSlots h6 → G = s.gens → D = s.drawn → O = s.os → Q (.bool true) { heap := h6, gens := G, drawn := D, toks := tk, os := O } := by
    rintro h6 g2 m1 tk G D O FG st up rfl rfl rfl
    refine hret h6 tk ⟨((Heap.UpToSlots.of_keeps fun b o e => FG.keep b o (hide_nil gE b o e)).trans up).ns F.ns, fun b o e => st b o (st0 b o e), F.above⟩ fun b o n e => st b o (hideAll_get _ (hide_nil gE b o e) (by simpa using n))
  k_steps
  all_goals (
    refine' caught_font ?hA ?F hBL ?hsm ?R X0 (topRead_of T0) ?ex ?h44 ?ho ?k
    case hA => exact rfl
    case F => assumption
    case hsm => assumption
    case R => assumption
    case ex => k_dflt k_is
    case h44 => k_dflt k_is
    case ho => exact ⟨_, _, _, _, _, _, _, _, _, _, _, _, _, _, _, _, _, rfl, rfl⟩
    case k =>
      intro h6 st6 up6
      k_steps
      refine' fin h6 _ _ _ _ _ _ ?f1 st6 up6 rfl rfl rfl
      case f1 => assumption)
end Mine
end

section
open PySem PySem.Spec PySem.Calls PySem.W PyProof.Rows
namespace Mine

section
variable {prog : Program} {w : World} {A : Around} {E : Value → Shared → Prop} {s : Shared} {env : Env} {h₀ : Heap} {x : Str} {body : List Stmt} {Q : Flow → Shared → Prop}

/-- a for over the dict's signs -/
theorem iter_dict {d : Addr} {es : List (Int × Int)} {m₀ : Str → Option Value} {news : List (Addr × Obj)} (J : Nat → (Str → Option Value) → List (Addr × Obj) → Prop)
    (hh : A.handled = none) (C : CodesAt prog w h₀ d es) (F : Fr h₀ env.locals s.heap m₀) (N : News h₀ env.locals s.heap news) (hj : J 0 m₀ news)
    (turn : ∀ i k n t m₁ news₁ h tk own, es[i]? = some (k, n) → news₁.map (·.1) = news.map (·.1) → OwnOff own (news.map (·.1)) → J i m₁ news₁ → Fr h₀ env.locals h (fun y => if y = x then some (.int k t) else m₁ y) → News h₀ env.locals h (news₁ ++ own) →
      wpAny (model prog w) A (execs body env) (InvPostN h₀ env.locals (J (i + 1)) own (news.map (·.1)) { s with heap := h, toks := tk } Q) E { s with heap := h, toks := tk })
    (done : ∀ m₁ news₁ h tk, J es.length m₁ news₁ → Fr h₀ env.locals h m₁ → News h₀ env.locals h news₁ → Q .next { s with heap := h, toks := tk }) :
    wpAny (model prog w) A (pyIter (.ref d)) (fun it s₂ => LoopAtV prog w A h₀ env x body Q E it s₂) E s := by
  obtain ⟨lo, kvs, hD, hv⟩ := C
  obtain ⟨ep, hat⟩ := hD.dictAt
  have hat' := hat.keep F.keep
  have hlt : d < h₀.objs.size := hat.lt_size
  have hne : d ≠ s.heap.objs.size := Nat.ne_of_lt hat'.lt_size
  refine wpAny_pyIter_dict lo hat' ?_
  have W := Walks.dictKeys (prog := prog) (w := w) (knd := PySem.intKind prog w) hh s.heap.objs.size d hne kvs ep
  have hlen : kvs.length = es.length := hv.length
  rw [hlen] at W
  refine loop_invN J W ?_ ?_ ?_ ?_ ⟨⟨_, Heap.get?_push_size _ rfl, rfl, by rw [hlen]; rfl⟩, hat'.push _⟩ (F.push _) (fun p hp => ⟨Heap.get?_push_of_some _ (N p hp).1, (N p hp).2⟩) hj ?_ ?_
  · intro hm
    rcases List.mem_cons.mp hm with e | hm
    · exact absurd F.ns.lt (e ▸ Nat.lt_irrefl _)
    · exact absurd (Nat.lt_of_lt_of_le hlt F.above) ((List.mem_singleton.mp hm) ▸ Nat.lt_irrefl _)
  · intro b hb
    rw [List.mem_singleton.mp hb]
    exact next_is_new F
  · intro p hp hI
    exact absurd (Heap.lt_size (N p hp).1) ((List.mem_singleton.mp hI) ▸ Nat.lt_irrefl _)
  · intro p hp hI
    rcases List.mem_cons.mp hI with e | hI
    · exact absurd (Heap.lt_size (N p hp).1) (e ▸ Nat.lt_irrefl _)
    · have e := List.mem_singleton.mp hI
      have hn := (N p hp).2.2
      obtain ⟨o, es', ho, _⟩ := hat
      rw [e, ho] at hn; cases hn
  · rintro i v m₁ nx h tk own hi ⟨k, y, hk, hkey⟩ ha hoff hJ F₁ N₁
    obtain ⟨t, rfl⟩ := Value.isInt_shape hkey
    obtain ⟨n, u, _, he⟩ := hv.at hk
    exact turn i k n t m₁ nx h tk own he ha hoff hJ F₁ N₁
  · rintro m₁ nx h tk hJ F₁ N₁
    exact done m₁ nx h tk hJ F₁ N₁
end

/-- the row behind the first signs of the dict: their glyphs, nought elsewhere -/
structure RowIs (es : List (Int × Int)) (f l : Int) (i : Nat) (r : List Int) : Prop where
  len : r.length = (l - f + 1).toNat
  at_ : ∀ j : Nat, j < r.length → r.getD j 0 = glyph (es.take i) (f + (j : Int))

theorem glyph_take {es : List (Int × Int)} (hn : (es.map (·.1)).Nodup) {i : Nat} {k n : Int} (h : es[i]? = some (k, n)) (c : Int) : glyph (es.take (i + 1)) c = if c = k then n else glyph (es.take i) c := by
  have e : es.take (i + 1) = es.take i ++ [(k, n)] := by simp [List.take_add_one, h]
  rw [e]
  unfold glyph
  rw [List.find?_append]
  by_cases hc : c = k
  · subst hc
    rw [if_pos rfl]
    have hnone : (es.take i).find? (fun p => decide (p.1 = c)) = none := by
      rw [List.find?_eq_none]
      intro p hp hpc
      have hpc' : p.1 = c := by simpa using hpc
      obtain ⟨j, hj, hje⟩ := List.getElem_of_mem hp
      have hji : j < i := by
        have := hj
        rw [List.length_take] at this
        omega
      have hi : i < es.length := by
        rcases List.getElem?_eq_some_iff.mp h with ⟨hi, _⟩; exact hi
      have e1 : (es.map (·.1))[j]'(by rw [List.length_map]; omega) = (es.map (·.1))[i]'(by rw [List.length_map]; exact hi) := by
        rw [List.getElem_map, List.getElem_map]
        have h1 : es[j] = p := by rw [← hje, List.getElem_take]
        have h2 : es[i] = (c, n) := (List.getElem?_eq_some_iff.mp h).2
        rw [h1, h2, hpc']
      exact absurd e1 (List.pairwise_iff_getElem.mp hn j i _ _ hji)
    rw [hnone]
    simp
  · rw [if_neg hc]
    cases hq : (es.take i).find? (fun p => decide (p.1 = c)) with
    | some p => rfl
    | none =>
      have : ¬ k = c := fun e => hc e.symm
      simp [this]

theorem row_start (es : List (Int × Int)) (f l : Int) : RowIs es f l 0 (List.replicate (l - f + 1).toNat 0) := by
  refine ⟨List.length_replicate, fun j hj => ?_⟩
  rw [List.getD_eq_getElem?_getD, List.getElem?_eq_getElem hj, List.getElem_replicate]
  rfl
theorem row_step {es : List (Int × Int)} (hn : (es.map (·.1)).Nodup) {f l : Int} {i : Nat} {k n : Int} {r : List Int} (h : es[i]? = some (k, n)) (hk : f ≤ k ∧ k ≤ l) (R : RowIs es f l i r) : RowIs es f l (i + 1) (r.set (k - f).toNat n) := by
  refine ⟨by rw [List.length_set]; exact R.len, fun j hj => ?_⟩
  rw [List.length_set] at hj
  rw [glyph_take hn h]
  have hR := R.at_ j hj
  rw [List.getD_eq_getElem?_getD] at hR ⊢
  by_cases hjk : (k - f).toNat = j
  · subst hjk
    rw [if_pos (by omega), List.getElem?_set_self hj]
    rfl
  · rw [if_neg (by omega), List.getElem?_set_ne hjk]
    exact hR
theorem row_end {es : List (Int × Int)} {f l : Int} {r : List Int} (R : RowIs es f l es.length r) : r = (rangeKs f (l - f + 1).toNat).map (glyph es) := by
  apply List.ext_getElem
  · rw [List.length_map, rangeKs_length]; exact R.len
  · intro j h1 h2
    have hR := R.at_ j h1
    rw [List.take_length, List.getD_eq_getElem?_getD, List.getElem?_eq_getElem h1] at hR
    have e : r[j] = glyph es (f + (j : Int)) := hR
    rw [e, List.getElem_map]
    simp [rangeKs]
end Mine
end

section
open PySem PySem.Spec PySem.Calls PySem.W PyProof.Rows
namespace Mine

section
variable {prog : Program} {w : World} {A : Around} {E : Value → Shared → Prop} {s : Shared} {h₀ : Heap} {L d : Addr} {m : Str → Option Value} {news : List (Addr × Obj)} {es : List (Int × Int)} {Q : Value → Shared → Prop}
theorem d_minS {f : Int} (hh : A.handled = none) (C : CodesAt prog w h₀ d es) (F : Fr h₀ L s.heap m) (N : News h₀ L s.heap news) (hne : 0 < es.length) (hf : f ∈ es.map (·.1) ∧ ∀ k ∈ es.map (·.1), f ≤ k)
    (h : ∀ h' tk t', Fr h₀ L h' m → News h₀ L h' news → Q (.int f t') { s with heap := h', toks := tk }) :
    wpAny (model prog w) A (call (.builtin "min") [.ref d]) Q E s :=
  d_min hh (C.keep F.keep) F N hne fun h' tk t' M F' N' h1 h2 => by
    have e : M = f := by have a := hf.2 _ h1; have b := h2 _ hf.1; omega
    subst e; exact h h' tk t' F' N'
theorem d_maxS {l : Int} (hh : A.handled = none) (C : CodesAt prog w h₀ d es) (F : Fr h₀ L s.heap m) (N : News h₀ L s.heap news) (hne : 0 < es.length) (hl : l ∈ es.map (·.1) ∧ ∀ k ∈ es.map (·.1), k ≤ l)
    (h : ∀ h' tk t', Fr h₀ L h' m → News h₀ L h' news → Q (.int l t') { s with heap := h', toks := tk }) :
    wpAny (model prog w) A (call (.builtin "max") [.ref d]) Q E s :=
  d_max hh (C.keep F.keep) F N hne fun h' tk t' M F' N' h1 h2 => by
    have e : M = l := by have a := hl.2 _ h1; have b := h2 _ hl.1; omega
    subst e; exact h h' tk t' F' N'
theorem find_at {es : List (Int × Int)} (hn : (es.map (·.1)).Nodup) {i : Nat} {k n : Int} (h : es[i]? = some (k, n)) : es.find? (fun p => decide (p.1 = k)) = some (k, n) := by
  induction es generalizing i with
  | nil => simp at h
  | cons p es ih =>
    rw [List.map_cons, List.nodup_cons] at hn
    cases i with
    | zero =>
      simp at h
      subst h
      simp
    | succ i =>
      have h' : es[i]? = some (k, n) := by simpa using h
      have hk : k ∈ es.map (·.1) := List.mem_map.mpr ⟨(k, n), List.mem_of_getElem? h', rfl⟩
      have hpk : ¬ p.1 = k := fun e => hn.1 (e ▸ hk)
      rw [List.find?_cons]
      simp only [hpk, decide_false]
      exact ih hn.2 h'
theorem d_itemS {value slice : PySem.Expr} {i : Nat} {c n : Int} {tc : Tok} (C : CodesAt prog w s.heap d es) (hc : es[i]? = some (c, n)) (h : ∀ t, Q (.int n t) { s with toks := s.toks + 1 })
    (hs : subscripted slice false (.ref d) (.int c tc) = operate [.ref d, .int c tc] (getItem (.ref d) (.int c tc))) (hg : ∀ r, letTemporaryGo value (.ref d) r = pure ()) :
    wpAny (model prog w) A (subscriptTail value slice (.ref d) (.int c tc)) Q E s := d_item C (find_at C.nodup hc) h hs hg
end

section
variable {prog : Program} {w : World} {A : Around} {E : Value → Shared → Prop} {s : Shared} {env : Env} {h₀ : Heap} {x : Str} {body : List Stmt} {Q : Flow → Shared → Prop}

def RowJ (es : List (Int × Int)) (f l : Int) (D : Addr) (x : Str) (m₀ : Str → Option Value) (i : Nat) (m₁ : Str → Option Value) (news₁ : List (Addr × Obj)) : Prop :=
  ∃ us r c, news₁ = [(D, listOf us.toArray c)] ∧ IntsAre us r ∧ RowIs es f l i r ∧ ∀ z, z ≠ x → m₁ z = m₀ z

theorem iter_row {d D : Addr} {es : List (Int × Int)} {f l : Int} {m₀ : Str → Option Value} {news : List (Addr × Obj)} {us : List Value} {c : Nat}
    (hh : A.handled = none) (C : CodesAt prog w h₀ d es) (F : Fr h₀ env.locals s.heap m₀) (N : News h₀ env.locals s.heap news) (hD : (D, listOf us.toArray c) ∈ news) (hi : IntsAre us (List.replicate (l - f + 1).toNat 0)) (hb : ∀ k ∈ es.map (·.1), f ≤ k ∧ k ≤ l)
    (turn : ∀ i k n t us r c h tk own, es[i]? = some (k, n) → f ≤ k → k ≤ l → IntsAre us r → RowIs es f l i r → r.length = (l - f + 1).toNat → OwnOff own [D] → Fr h₀ env.locals h (fun y => if y = x then some (.int k t) else m₀ y) → News h₀ env.locals h ((D, listOf us.toArray c) :: own) →
      wpAny (model prog w) A (execs body env) (InvPostN h₀ env.locals (RowJ es f l D x m₀ (i + 1)) own [D] { s with heap := h, toks := tk } Q) E { s with heap := h, toks := tk })
    (done : ∀ (us : List Value) (r : List Int) (c : Nat) (u : Str → Option Value) h tk, IntsAre us r → r = (rangeKs f (l - f + 1).toNat).map (glyph es) → Fr h₀ env.locals h (fun y => if y = x then u y else m₀ y) → News h₀ env.locals h [(D, listOf us.toArray c)] → Q .next { s with heap := h, toks := tk }) :
    wpAny (model prog w) A (pyIter (.ref d)) (fun it s₂ => LoopAtV prog w A h₀ env x body Q E it s₂) E s := by
  refine iter_dict (news := [(D, listOf us.toArray c)]) (RowJ es f l D x m₀) hh C F (fun p hp => N p (by rw [List.mem_singleton.mp hp]; exact hD)) ⟨us, _, c, rfl, hi, row_start es f l, fun _ _ => rfl⟩ ?_ ?_
  · rintro i k n t m₁ nx h tk own he ha hoff ⟨us, r, c, rfl, hi, R, hm⟩ F₁ N₁
    have hk : k ∈ es.map (·.1) := List.mem_map.mpr ⟨(k, n), List.mem_of_getElem? he, rfl⟩
    have e : (fun y => if y = x then some (Value.int k t) else m₁ y) = fun y => if y = x then some (Value.int k t) else m₀ y := by
      funext y
      by_cases hy : y = x
      · rw [if_pos hy, if_pos hy]
      · rw [if_neg hy, if_neg hy, hm y hy]
    rw [e] at F₁
    exact turn i k n t us r c h tk own he (hb k hk).1 (hb k hk).2 hi R R.len hoff F₁ N₁
  · rintro m₁ nx h tk ⟨us, r, c, rfl, hi, R, hm⟩ F₁ N₁
    have e : (fun y => if y = x then m₁ y else m₀ y) = m₁ := by
      funext y
      by_cases hy : y = x
      · rw [if_pos hy]
      · rw [if_neg hy, hm y hy]
    exact done us r c m₁ h tk hi (row_end R) (by rw [e]; exact F₁) N₁
end

local macro_rules | `(tactic| walk_at "call builtin:min") => `(tactic| (k_here; k_dflt (refine' d_minS ?hh ?C ?F ?N ?hne ?hf ?_; (case hh => exact rfl); (case C => k_asm); (case F => k_asm); (case N => k_asm); (case hne => assumption); (case hf => assumption)); intro h' tk' t' F' N'; (try k_sweep)))
local macro_rules | `(tactic| walk_at "call builtin:max") => `(tactic| (k_here; k_dflt (refine' d_maxS ?hh ?C ?F ?N ?hne ?hl ?_; (case hh => exact rfl); (case C => k_asm); (case F => k_asm); (case N => k_asm); (case hne => assumption); (case hl => assumption)); intro h' tk' t' F' N'; (try k_sweep)))
local macro_rules | `(tactic| walk_at "call builtin:len") => `(tactic| (k_here; (with_reducible show wpAny _ _ (call (Value.builtin "len") [Value.ref _]) _ _ _); k_dflt (refine' d_len ?C ?z ?_; (case C => exact CodesAt.keep (by assumption) (Fr.keep (by assumption))); (case z => assumption)); intro t' tk'))
local macro_rules | `(tactic| walk_at "subscriptTail") => `(tactic| (k_here; (with_reducible show wpAny _ _ (subscriptTail _ _ (Value.ref _) (Value.int _ _)) _ _ _); k_dflt (refine' d_itemS ?C ?e ?_ ?s ?g; (case C => exact CodesAt.keep (by assumption) (Fr.keep (by assumption))); (case e => assumption); (case s => with_unfolding_all rfl); (case g => intro _; with_unfolding_all rfl)); intro t'))
local macro_rules | `(tactic| ktr_enter) => `(tactic| (refine' enterG [] ?k1 ?k2 ?k3 ?k5 ?kA ?kF ?kK ?kh ?kh0 ?k6 ?k7 ?k8 ?k9 ?kB ?_ ?c2 ?c3 ?c4 ?c5; (case kA => exact rfl); (case kF => exact rfl); (case kK => assumption); (case kh => exact List.not_mem_nil); (case kh0 => exact fun _ h => absurd h List.not_mem_nil); (case k1 => k_asm); (case k2 => k_asm); (case k3 => k_asm); (case k5 => k_asm); (case k6 => k_is); (case k7 => k_is); (case k8 => ktr_room); (case k9 => exact BindsTo.of_eq rfl); (case c5 => decide); (case kB => exact locs rfl); (case c2 => exact rfl); (case c3 => exact rfl); (case c4 => exact rfl); k_whole))
local macro_rules | `(tactic| walk_at "exec For Name Name cons nil") => `(tactic| (k_here; (rename Fr _ _ _ _ => lF'); (with_unfolding_all refine' For_invVF lF' ?k1 ?k2 ?_; (case k1 => exact rfl); (case k2 => exact rfl); k_whole)))
local macro_rules | `(tactic| walk_at "pyIter ref") => `(tactic| (refine Hold.h ?_))
local macro_rules | `(tactic| walk_at "binaryOp Add ref ref") => `(tactic| (k_here; (with_reducible show wpAny _ _ (binaryOp _ (Value.ref _) (Value.ref _)) _ _ _); k_dflt (refine' kmk_add_ints ?F ?N ?a ?b ?i ?j ?_ ?z; (case F => k_asm); (case N => k_asm); (case a => kmk_list); (case b => kmk_list); (case i => exact .cons _ _ (.cons _ _ (.cons _ _ (.cons _ _ (.cons _ _ .nil))))); (case j => assumption); (case z => rw [sizeLine_eq]; (try subst_vars); simp only [List.length_cons, List.length_nil, List.length_map, rangeKs_length]; omega)); intro D' ws' h' F' N' l1 hI'; (try k_lt l1); (try k_sweep)))
local macro_rules | `(tactic| walk_at "InvPostN") => `(tactic| (refine Hold.h ?_))
local macro_rules | `(tactic| walk_at "Hold") => `(tactic| fail)

/-- a call hands back a new list of these ints, and changes nothing that stood -/
def NewList (ns : List Int) (s : Shared) (v : Value) (s' : Shared) : Prop := ∃ lst ws c h' tk', v = .ref lst ∧ s' = { s with heap := h', toks := tk' } ∧ (∀ b o, s.heap.get? b = some o → h'.get? b = some o) ∧ s.heap.get? lst = none ∧ h'.get? lst = some (listOf ws.toArray c) ∧ IntsAre ws ns

theorem words_due {es : List (Int × Int)} {f l : Int} {r : List Int} (hr : r = (rangeKs f (l - f + 1).toNat).map (glyph es)) : [6, 2 * (5 + (1 + l - f)), 0, f, 1 + l - f] ++ r = words6 es f l := by
  have e1 : 2 * (5 + (1 + l - f)) = 10 + 2 * (l - f + 1) := by omega
  have e2 : 1 + l - f = l - f + 1 := by omega
  have e3 : l + 1 - f = l - f + 1 := by omega
  rw [hr, e1, e2]
  unfold words6
  rw [e3]

theorem due_end {g h₁ : Heap} {s : Shared} {L' D : Addr} {m' : Str → Option Value} {tk' : Nat} {ns ns' : List Int} {ws : List Value} {c : Nat} {news : List (Addr × Obj)} (e : g = hideAll s.heap []) (F : Fr g L' h₁ m') (N : News g L' h₁ ((D, listOf ws.toArray c) :: news)) (hi : IntsAre ws ns') (hn : ns' = ns) :
    NewList ns s (.ref D) { s with heap := h₁, toks := tk' } := by
  subst hn
  refine ⟨D, ws, c, h₁, tk', rfl, rfl, fun b o q => F.keep b o (hide_nil e b o q), ?_, (N _ (.head _)).1, hi⟩
  have := (N _ (.head _)).2.2
  rw [e] at this
  exact this

set_option maxRecDepth 100000 in
set_option maxHeartbeats 8000000 in
theorem due_ask (w : World) (d : Addr) (es : List (Int × Int)) (f l : Int) (hf : f ∈ es.map (·.1) ∧ ∀ k ∈ es.map (·.1), f ≤ k) (hl : l ∈ es.map (·.1) ∧ ∀ k ∈ es.map (·.1), k ≤ l) (hz : es.length < 64) (hne : 0 < es.length) (h0 : 0 ≤ f) (hl1 : l ≤ 65535) (hl2 : l - f + 1 ≤ 64) : Ask w 95 [.ref d] 2 200 (fun s => CodesAt PySem.Challenge.rw_xm0707_01.row.prog w s.heap d es) (NewList (words6 es f l)) := by
  unfold Ask
  k_fill
  intro mean mg mb dp un gd cn cs a ccd cl outer A₀ base h₀ L m s Q E B F X T hk hd hu hp hret
  refine wpAny_call ?_
  k_dflt ktr_enter
  intro g' L' h' gE gS F' Le B' X' T'
  have N' := News.nil (h₀ := g') (L := L') (h := h')
  have C' := hp.keep (hide_nil gE)
  have hfl : f ≤ l := hf.2 _ hl.1
  dsimp only
  k_steps
  refine ⟨?_⟩
  rename Fr _ _ _ _ => fE
  rename News _ _ _ _ => nE
  rename IntsAre _ _ => iE
  refine' iter_row (es := es) (f := f) (l := l) ?hh C' fE nE (List.Mem.head _) ?hi (fun k hk => ⟨hf.2 k hk, hl.2 k hk⟩) ?turn ?done
  case hh => rfl
  case hi =>
    have e : (l - f + 1).toNat = (1 + l - f).toNat := by omega
    rw [e]
    simpa using iE
  case turn =>
    intro i k n t us r c h tk own hes hk1 hk2 hir hR hrl hoff fT nT
    k_steps
    refine ⟨?_⟩
    rename Fr _ _ _ _ => fE
    rename News _ _ _ _ => nE
    exact InvEndN.intro (J := RowJ es f l _ _ _ (i + 1)) fE nE ⟨_, _, _, rfl, ‹IntsAre (us.set _ _) _›, row_step C'.nodup hes ⟨hk1, hk2⟩ hR, by intro z h1; simp [h1]⟩ rfl (fun p hp => List.mem_append_left own hp) (fun p hp => List.mem_cons_of_mem _ hp)
  case done =>
    intro us r c u h tk hir hr fT nT
    dsimp only
    subst hr
    k_steps
    rename Fr _ _ _ _ => fE
    rename News _ _ _ _ => nE
    rename IntsAre _ _ => iE
    exact hret _ _ (due_end gE fE nE iE (words_due rfl))
end Mine
end

section
open PySem PySem.Spec PySem.Calls PySem.W PyProof.Rows
namespace Mine

local macro_rules | `(tactic| walk_at "part XE3") => `(tactic| fail)
local macro_rules | `(tactic| walk_at "call builtin:min") => `(tactic| (k_here; k_dflt (refine' d_minS ?hh ?C ?F ?N ?hne ?hf ?_; (case hh => exact rfl); (case C => k_asm); (case F => k_asm); (case N => k_asm); (case hne => assumption); (case hf => assumption)); intro h' tk' t' F' N'; (try k_sweep)))
local macro_rules | `(tactic| walk_at "call builtin:max") => `(tactic| (k_here; k_dflt (refine' d_maxS ?hh ?C ?F ?N ?hne ?hl ?_; (case hh => exact rfl); (case C => k_asm); (case F => k_asm); (case N => k_asm); (case hne => assumption); (case hl => assumption)); intro h' tk' t' F' N'; (try k_sweep)))
local macro_rules | `(tactic| walk_at "call builtin:len") => `(tactic| (k_here; (with_reducible show wpAny _ _ (call (Value.builtin "len") [Value.ref _]) _ _ _); k_dflt (refine' d_len ?C ?z ?_; (case C => exact CodesAt.keep (by assumption) (Fr.keep (by assumption))); (case z => assumption)); intro t' tk'))
local macro_rules | `(tactic| walk_at "subscriptTail") => `(tactic| (k_here; (with_reducible show wpAny _ _ (subscriptTail _ _ (Value.ref _) (Value.int _ _)) _ _ _); k_dflt (refine' d_itemS ?C ?e ?_ ?s ?g; (case C => exact CodesAt.keep (by assumption) (Fr.keep (by assumption))); (case e => assumption); (case s => with_unfolding_all rfl); (case g => intro _; with_unfolding_all rfl)); intro t'))
local macro_rules | `(tactic| ktr_enter) => `(tactic| (refine' enterG [] ?k1 ?k2 ?k3 ?k5 ?kA ?kF ?kK ?kh ?kh0 ?k6 ?k7 ?k8 ?k9 ?kB ?_ ?c2 ?c3 ?c4 ?c5; (case kA => exact rfl); (case kF => exact rfl); (case kK => assumption); (case kh => exact List.not_mem_nil); (case kh0 => exact fun _ h => absurd h List.not_mem_nil); (case k1 => k_asm); (case k2 => k_asm); (case k3 => k_asm); (case k5 => k_asm); (case k6 => k_is); (case k7 => k_is); (case k8 => ktr_room); (case k9 => exact BindsTo.of_eq rfl); (case c5 => decide); (case kB => exact locs rfl); (case c2 => exact rfl); (case c3 => exact rfl); (case c4 => exact rfl); k_whole))
local macro_rules | `(tactic| walk_at "exec For Name Name cons nil") => `(tactic| (k_here; (rename Fr _ _ _ _ => lF'); (with_unfolding_all refine' For_invVF lF' ?k1 ?k2 ?_; (case k1 => exact rfl); (case k2 => exact rfl); k_whole)))
local macro_rules | `(tactic| walk_at "pyIter ref") => `(tactic| (refine Hold.h ?_))
local macro_rules | `(tactic| walk_at "binaryOp Add ref ref") => `(tactic| (k_here; (with_reducible show wpAny _ _ (binaryOp _ (Value.ref _) (Value.ref _)) _ _ _); k_dflt (refine' kmk_add_ints ?F ?N ?a ?b ?i ?j ?_ ?z; (case F => k_asm); (case N => k_asm); (case a => kmk_list); (case b => kmk_list); (case i => exact .cons _ _ (.cons _ _ (.cons _ _ (.cons _ _ (.cons _ _ .nil))))); (case j => assumption); (case z => rw [sizeLine_eq]; (try subst_vars); simp only [List.length_cons, List.length_nil, List.length_map, rangeKs_length]; omega)); intro D' ws' h' F' N' l1 hI'; (try k_lt l1); (try k_sweep)))
local macro_rules | `(tactic| walk_at "InvPostN") => `(tactic| (refine Hold.h ?_))
local macro_rules | `(tactic| walk_at "Hold") => `(tactic| fail)


set_option maxRecDepth 100000 in
set_option maxHeartbeats 8000000 in
theorem due0_ask (w : World) (d : Addr) : Ask w 95 [.ref d] 2 200 (fun s => CodesAt PySem.Challenge.rw_xm0707_01.row.prog w s.heap d []) (NewList (words6 [] 0 (-1))) := by
  unfold Ask
  k_fill
  intro mean mg mb dp un gd cn cs a ccd cl outer A₀ base h₀ L m s Q E B F X T hk hd hu hp hret
  refine wpAny_call ?_
  k_dflt ktr_enter
  intro g' L' h' gE gS F' Le B' X' T'
  have N' := News.nil (h₀ := g') (L := L') (h := h')
  have C' := hp.keep (hide_nil gE)
  have hz : ([] : List (Int × Int)).length < 64 := by decide
  dsimp only
  k_steps
  refine ⟨?_⟩
  rename Fr _ _ _ _ => fE
  rename News _ _ _ _ => nE
  rename IntsAre _ _ => iE
  refine' iter_row (es := []) (f := 0) (l := -1) ?hh C' fE nE (List.Mem.head _) ?hi (fun k hk => nomatch hk) ?turn ?done
  case hh => rfl
  case hi => simpa using iE
  case turn =>
    intro i k n t us r c h tk own hes hk1 hk2 hir hR hrl hoff fT nT
    exact nomatch hes
  case done =>
    intro us r c u h tk hir hr fT nT
    dsimp only
    subst hr
    k_steps
    rename Fr _ _ _ _ => fE
    rename News _ _ _ _ => nE
    rename IntsAre _ _ => iE
    exact hret _ _ (due_end gE fE nE iE (by decide))
end Mine
end

section
open PySem PySem.Spec PySem.Calls PySem.W PyProof.Rows
namespace Mine
section
variable {prog : Program} {w : World} {A₀ A : Around} {s : Shared} {base h₀ : Heap} {outer : List Env} {L : Addr} {m : Str → Option Value} {env : Env} {K : Frag}
  {R : Result → Shared → Prop} {name qual : Str} {params : Arguments} {body : List Stmt} {scope : Scope} {dV kV doc pm cdv ct oc : Value} {an od : Option Addr} {osl : Array (Option Value)} {f : Addr} {args : Args} {binds : List (Str × Value)}
  {p : Program} {loose : List Str} {mean : ExcName → Option Value} {mg mb : Str → Option Value}

/-- the same for a def that keeps a name in a cell -/
theorem enterC (hid : List Addr) (B : Below A₀ base outer h₀) (F : Fr h₀ L s.heap m) (X₀ : K.In h₀) (T : Top p loose mean mg mb h₀) (hA : A.frames = some (env :: outer)) (hf : env.frame = some L) (hke : env.scope.kind = .function)
    (hidL : L ∉ hid) (hid0 : ∀ a ∈ hid, h₀.get? a = none)
    (ho : K.lookup f = some ⟨oc, od, .func (fnOf name qual params body scope dV kV doc pm an cdv ct), osl⟩) (hcd : codeIn K cdv qual = true) (hroom : A.depth < recursionLimit)
    (hbind : BindsTo s (fnOf name qual params body scope dV kV doc pm an cdv ct) args binds) (hkind : (binds.all fun y => scope.names.lookup y.1 == some .local || scope.names.lookup y.1 == some .cell) = true)
    (hnd : ((cellsFrom 0 scope.names []).map (·.1)).Nodup)
    (h : ∀ g L' h₁ tk cells, g = hideAll s.heap hid → s.heap.StaysIn h₁ → Fr g L' h₁ (bindL (envOfC qual scope L' f cdv).kindOf binds fun _ => none) → News g L' h₁ cells →
      CellsAre (bindC (envOfC qual scope L' f cdv).kindOf binds fun _ => none) (cellsFrom (L' + 1) scope.names []) cells → L' = s.heap.objs.size → Below A base (env :: outer) g → K.In g → Top p loose mean mg mb g →
      wpAny (model prog w) (A.deeper (envOfC qual scope L' f cdv)) (execs body (envOfC qual scope L' f cdv))
        (fun fl s' => R (.ok (.ret (match fl with | .ret v => v | _ => .none))) s')
        (fun e s' => wpAny (model prog w) (A.deeper (envOfC qual scope L' f cdv)) (leaving (envOfC qual scope L' f cdv) e) (fun _ s'' => R (.error e) s'') (fun e' s'' => R (.error e') s'') s')
        { s with heap := h₁, toks := tk })
    (hco : scope.isCoroutine = false) (hgen : scope.isGenerator = false) (hk : scope.kind = .function) : codeAny (model prog w) A (.call (.ref f) args) R s := by
  have X := X₀.keeps F.keep
  have st : h₀.StaysIn (hideAll s.heap hid) := fun b o e => hideAll_get _ (F.keep b o e) fun hb => by rw [hid0 b hb] at e; cases e
  have B₁ := pushX B F hf hke
  have BG : Below A base (env :: outer) (hideAll s.heap hid) := ⟨hA, fun b o e => st b o (B.stays b o e), funFrames_hideAll B₁.frames fun env' he b hb hf' => by
    cases he with
    | head => exact hidL ((Option.some.inj (hf.symm.trans hf') : L = b) ▸ hb)
    | tail _ he =>
      obtain ⟨L₁, o₁, hf₁, ho₁⟩ := funFrames_in B.frames env' he
      rw [hf₁] at hf'
      have hb' : L₁ = b := Option.some.inj hf'
      rw [hb', hid0 b hb] at ho₁; cases ho₁⟩
  refine codeAny_call_function hroom (X _ _ ho) rfl hco hgen rfl (codeRec_of X hcd) (hbind _ _ _ _ ?_)
  refine wpAny_newFunctionEnv_cells hk (kindsX hkind _) fun env' he s' x => ?_
  subst he
  refine ⟨(T.nolimit.keeps F.keep).keeps x.toInCall.keep, codeAny_func ?_⟩
  obtain ⟨h₁, tk, rfl, _⟩ := x.done
  have hk₁ := x.toInCall.keep
  obtain ⟨cells, NC, Y⟩ := Cl.news (h₀ := s.heap) (Nat.le_refl _) fun n c hm => ⟨x.cell n c (lookup_of_mem_nodup (cellsFrom_names scope.names 0 (s.heap.objs.size + 1) [] [] rfl ▸ hnd) hm), x.above n c hm⟩
  refine h _ s.heap.objs.size h₁ tk cells rfl hk₁ ⟨x.toInCall.ns, fun b o e => hk₁ b o (of_hideAll _ e), Nat.le_of_eq (hideAll_size _ _)⟩ (fun p hp => ⟨(NC p hp).1, (NC p hp).2.1, ?_⟩) Y rfl BG (X₀.keeps st) (T.keeps st)
  cases q : (hideAll s.heap hid).get? p.1 with
  | none => rfl
  | some o => have := of_hideAll _ q; rw [(NC p hp).2.2] at this; cases this
end
end Mine
end

section
open PySem PySem.Spec PySem.Calls PySem.W PyProof.Rows
namespace Mine

/-- the words of the answer, as a letter -/
structure WordsAre (es : List (Int × Int)) (f l : Int) (ns : List Int) : Prop where
  eq : ns = words6 es f l
structure OctetsAre (ns : List Int) (b : Array UInt8) : Prop where
  eq : b = wB ns

theorem hi_lo {n : Int} (h0 : 0 ≤ n) (h1 : n < 65536) : (((n.fdiv 256).fmod 256).toNat.toUInt8.toNat : Int) = n / 256 ∧ ((n.fmod 256).toNat.toUInt8.toNat : Int) = n % 256 := by
  rw [Int.fdiv_eq_ediv_of_nonneg _ (by decide), Int.fmod_eq_emod_of_nonneg _ (by decide), Int.fmod_eq_emod_of_nonneg _ (by decide)]
  constructor
  · have e : ((n / 256 % 256).toNat.toUInt8.toNat : Int) = ((n / 256 % 256).toNat % 256 : Nat) := by simp
    rw [e]; omega
  · have e : ((n % 256).toNat.toUInt8.toNat : Int) = ((n % 256).toNat % 256 : Nat) := by simp
    rw [e]; omega

theorem bints_cons (n : Int) (r : List Int) : KBw.bInts (wB (n :: r)) = (((n.fdiv 256).fmod 256).toNat.toUInt8.toNat : Int) :: ((n.fmod 256).toNat.toUInt8.toNat : Int) :: KBw.bInts (wB r) := by
  simp only [KBw.bInts, wB, List.flatMap_cons]
  rfl

theorem bints_at : ∀ {ns : List Int}, (∀ n ∈ ns, 0 ≤ n ∧ n < 65536) → ∀ {k : Nat} {n : Int}, ns[k]? = some n → (KBw.bInts (wB ns)).getD (2 * k) 0 = n / 256 ∧ (KBw.bInts (wB ns)).getD (2 * k + 1) 0 = n % 256
  | [], _, k, n, h => by simp at h
  | a :: r, hr, 0, n, h => by
    simp at h
    subst h
    rw [bints_cons]
    exact hi_lo (hr a (.head _)).1 (hr a (.head _)).2
  | a :: r, hr, k + 1, n, h => by
    have ih := bints_at (fun n hn => hr n (.tail _ hn)) (k := k) (n := n) (by simpa using h)
    rw [bints_cons]
    have e1 : 2 * (k + 1) = 2 * k + 1 + 1 := by omega
    have e2 : 2 * (k + 1) + 1 = 2 * k + 1 + 1 + 1 := by omega
    rw [e1]
    simpa using ih

theorem right_value {ns bs : List Int} {b : Array UInt8} (hb : OctetsAre ns b) (hbs : KBw.bInts b = bs) (hr : ∀ n ∈ ns, 0 ≤ n ∧ n < 65536) :
    decide ((rangeKs 0 ((ns.length : Int) - 0).toNat).map (fun k' => if 0 ≤ bs.getD (2 * k').toNat 0 ∧ bs.getD (2 * k').toNat 0 < 256 ∧ 0 ≤ bs.getD (2 * k' + 1).toNat 0 ∧ bs.getD (2 * k' + 1).toNat 0 < 256 then
      bs.getD (2 * k').toNat 0 * 256 + bs.getD (2 * k' + 1).toNat 0 else k') = ns) = true := by
  refine decide_eq_true ?_
  have hl : ((ns.length : Int) - 0).toNat = ns.length := by omega
  rw [hl]
  subst hbs
  rw [hb.eq]
  apply List.ext_getElem
  · rw [List.length_map, rangeKs_length]
  · intro j h1 h2
    have hk : ns[j]? = some ns[j] := List.getElem?_eq_getElem h2
    obtain ⟨e1, e2⟩ := bints_at hr hk
    have hn := hr _ (List.getElem_mem h2)
    have t1 : (2 * (0 + (j : Int))).toNat = 2 * j := by omega
    have t2 : (2 * (0 + (j : Int)) + 1).toNat = 2 * j + 1 := by omega
    rw [List.getElem_map]
    have e0 : (rangeKs 0 ns.length)[j]'(by rw [rangeKs_length]; exact h2) = 0 + (j : Int) := by simp [rangeKs]
    rw [e0, t1, t2, e1, e2, if_pos (by omega)]
    omega
end Mine
end

section
open PySem PySem.Spec PySem.Calls PySem.W PyProof.Rows
namespace Mine

/-- signs that format 6 can tell: none, or few and near each other; f the least one, l the greatest one -/
inductive Tell (es : List (Int × Int)) (f l : Int) : Prop
  | none : es = [] → f = 0 → l = -1 → Tell es f l
  | some : (f ∈ es.map (·.1) ∧ ∀ k ∈ es.map (·.1), f ≤ k) → (l ∈ es.map (·.1) ∧ ∀ k ∈ es.map (·.1), k ≤ l) → es.length < 64 → 0 < es.length → 0 ≤ f → l ≤ 65535 → l - f + 1 ≤ 64 → Tell es f l

theorem tell_wf6 {w : World} {d : Addr} {es : List (Int × Int)} {f l : Int} (ok : Tell es f l) : Ask w 60 [.ref d] 2 200 (fun s => CodesAt PySem.Challenge.rw_xm0707_01.row.prog w s.heap d es) (fun s v s' => (∃ t, v = .bytes (wB (words6 es f l)) t) ∧ Kept s s') := by
  cases ok with
  | none e1 e2 e3 => subst e1 e2 e3; exact wf60_ask w d
  | some h1 h2 h3 h4 h5 h6 h7 => exact wf6_ask w d es f l h1 h2 h3 h4 h5 h6 (by omega)

theorem tell_due {w : World} {d : Addr} {es : List (Int × Int)} {f l : Int} (ok : Tell es f l) : Ask w 95 [.ref d] 2 200 (fun s => CodesAt PySem.Challenge.rw_xm0707_01.row.prog w s.heap d es) (NewList (words6 es f l)) := by
  cases ok with
  | none e1 e2 e3 => subst e1 e2 e3; exact due0_ask w d
  | some h1 h2 h3 h4 h5 h6 h7 => exact due_ask w d es f l h1 h2 h3 h4 h5 h6 h7


section
variable {w : World} {d : Addr} {es : List (Int × Int)} {f l : Int} {mean : ExcName → Option Value} {mg mb : Str → Option Value} {dp un : Nat} {gd : Option (List Code)} {cn : Str} {cs : Scope} {ac : Addr} {ccd : Value} {cl : List (Str × Addr)} {outer : List Env} {A₀ : Around} {base h₀ : Heap} {L : Addr} {m : Str → Option Value} {s : Shared} {Q E : Value → Shared → Prop} {news : List (Addr × Obj)} {ns : List Int}

theorem wf6_rule (ok : Tell es f l) (hns : WordsAre es f l ns) (C : CodesAt PySem.Challenge.rw_xm0707_01.row.prog w h₀ d es) (B : Below A₀ base outer h₀) (F : Fr h₀ L s.heap m) (X : (Mine.hd.heap_39 w.params).In h₀) (T : Top Mine.hd.view_39 (looseW Mine.hd.view_39 []) mean mg mb h₀) (N : News h₀ L s.heap news) (hk : cs.kind = .function) (hd : dp + 2 < recursionLimit) (hu : un + 200 < cLine)
    (hret : ∀ b bs t h' tk', OctetsAre ns b → KBw.bInts b = bs → bs.length = 2 * ns.length → Fr h₀ L h' m → News h₀ L h' news → Q (.bytes b t) { s with heap := h', toks := tk' }) :
    wpAny (model PySem.Challenge.rw_xm0707_01.row.prog w) (ktrTop dp un gd cn cs L ac ccd cl outer) (call (.ref 60) [.ref d]) Q E s := by
  refine tell_wf6 ok mean mg mb dp un gd cn cs ac ccd cl outer A₀ base h₀ L m s Q E B F X T hk hd hu (C.keep F.keep) fun v s' h => ?_
  obtain ⟨⟨t, rfl⟩, h', tk', rfl, hk'⟩ := h
  refine hret _ _ t h' tk' ⟨?_⟩ rfl ?_ (fr_keep F hk') (news_keep N hk')
  · rw [hns.eq]
  · rw [KBw.ints_length, wB_size, hns.eq]

theorem due_rule (ok : Tell es f l) (hns : WordsAre es f l ns) (C : CodesAt PySem.Challenge.rw_xm0707_01.row.prog w h₀ d es) (B : Below A₀ base outer h₀) (F : Fr h₀ L s.heap m) (X : (Mine.hd.heap_39 w.params).In h₀) (T : Top Mine.hd.view_39 (looseW Mine.hd.view_39 []) mean mg mb h₀) (N : News h₀ L s.heap news) (hk : cs.kind = .function) (hd : dp + 2 < recursionLimit) (hu : un + 200 < cLine)
    (hret : ∀ lst ws c h' tk', Fr h₀ L h' m → News h₀ L h' ((lst, listOf ws.toArray c) :: news) → IntsAre ws ns → Q (.ref lst) { s with heap := h', toks := tk' }) :
    wpAny (model PySem.Challenge.rw_xm0707_01.row.prog w) (ktrTop dp un gd cn cs L ac ccd cl outer) (call (.ref 95) [.ref d]) Q E s := by
  refine tell_due ok mean mg mb dp un gd cn cs ac ccd cl outer A₀ base h₀ L m s Q E B F X T hk hd hu (C.keep F.keep) fun v s' h => ?_
  obtain ⟨lst, ws, c, h', tk', rfl, rfl, hk', hn, ho, hi⟩ := h
  exact hret lst ws c h' tk' (fr_keep F hk') (news_new F N hk' hn ho) (by rw [hns.eq]; exact hi)
end

local macro_rules | `(tactic| walk_at "call ref") => `(tactic| (k_here; (with_reducible show wpAny _ _ (call (Value.ref 60) [Value.ref _]) _ _ _); k_dflt (refine' wf6_rule ?ok ?hns ?C ?B ?F ?X ?T ?N ?hk ?hd ?hu ?_; (case ok => assumption); (case hns => assumption); (case C => assumption); (case B => k_asm); (case F => k_asm); (case X => k_asm); (case T => k_asm); (case N => k_asm); (case hk => first | exact rfl | assumption); (case hd => ktr_room); (case hu => ktr_units)); intro b' bs' t' h' tk' hb' hbI' hbl' F' N'; (try k_sweep)))
local macro_rules | `(tactic| walk_at "call ref") => `(tactic| (k_here; (with_reducible show wpAny _ _ (call (Value.ref 95) [Value.ref _]) _ _ _); k_dflt (refine' due_rule ?ok ?hns ?C ?B ?F ?X ?T ?N ?hk ?hd ?hu ?_; (case ok => assumption); (case hns => assumption); (case C => assumption); (case B => k_asm); (case F => k_asm); (case X => k_asm); (case T => k_asm); (case N => k_asm); (case hk => first | exact rfl | assumption); (case hd => ktr_room); (case hu => ktr_units)); intro lst' ws' c' h' tk' F' N' hi'; (try k_sweep)))
local macro_rules | `(tactic| ktr_enter) => `(tactic| (refine' enterC [] ?k1 ?k2 ?k3 ?k5 ?kA ?kF ?kK ?kh ?kh0 ?k6 ?k7 ?k8 ?k9 ?kB ?kD ?_ ?c2 ?c3 ?c4; (case kA => exact rfl); (case kF => exact rfl); (case kK => assumption); (case kh => exact List.not_mem_nil); (case kh0 => exact fun _ h => absurd h List.not_mem_nil); (case k1 => k_asm); (case k2 => k_asm); (case k3 => k_asm); (case k5 => k_asm); (case k6 => k_is); (case k7 => k_is); (case k8 => ktr_room); (case k9 => exact BindsTo.of_eq rfl); (case kB => exact rfl); (case kD => decide +kernel); (case c2 => exact rfl); (case c3 => exact rfl); (case c4 => exact rfl); k_whole))

set_option maxRecDepth 100000 in
set_option maxHeartbeats 8000000 in
theorem right_ask (w : World) (d : Addr) (es : List (Int × Int)) (f l : Int) (ok : Tell es f l) (ns : List Int) (hns : WordsAre es f l ns) (hnl : ns.length < 100) (hr : ∀ n ∈ ns, 0 ≤ n ∧ n < 65536) : Ask w 107 [.ref d] 4 300 (fun s => CodesAt PySem.Challenge.rw_xm0707_01.row.prog w s.heap d es) (fun s v s' => v = .bool true ∧ Kept s s') := by
  unfold Ask
  k_fill
  intro mean mg mb dp un gd cn cs a ccd cl outer A₀ base h₀ L m s Q E B F X T hk hd hu hp hret
  refine wpAny_call ?_
  k_dflt ktr_enter
  intro g' L' h' tk' cells' gE gS F' N' Y' Le B' X' T'
  k_cells Y'
  have C' := hp.keep (hide_nil gE)
  dsimp only
  k_steps
  · exfalso
    omega
  · skip
    rename OctetsAre _ _ => oE
    rename KBw.bInts _ = _ => bE
    rename Fr _ _ _ _ => fE
    rw [right_value oE bE hr]
    exact hret _ _ ⟨rfl, _, _, rfl, fun b o q => Fr.keep fE b o (hide_nil gE b o q)⟩
end Mine
end

section
open PySem PySem.Spec PySem.Calls PySem.W PyProof.Rows
open Sem (wp)
namespace Mine

theorem keys_name_ok : (["__module__", "__name__", "__qualname__", "__doc__", "__annotations__"] : List Str).contains (Str.ofString "keys") = false := by decide +kernel
theorem keys_miss_list : typeLookup (.type "list") (Str.ofString "keys") = pure none := am_miss_of_fast (by kernel_rfl)

set_option maxRecDepth 100000 in
theorem keys_of_list {prog : Program} {w : World} {A : Around} {E : Value → Shared → Prop} {s : Shared} {a : Addr} {xs : Array Value} {k : Nat} {Q : Option Value → Shared → Prop}
    (hx : s.heap.get? a = some (listOf xs k)) (hA : A.handled = none)
    (h : ∀ h' tk, (∀ b o, s.heap.get? b = some o → h'.get? b = some o) → Q none { s with heap := h', toks := tk }) :
    wpAny (model prog w) A (getAttr? (.ref a) (Str.ofString "keys")) Q E s := by
  obtain ⟨hp, g, d, tk, os⟩ := s
  have hT : ∀ tk', (⟨hp, g, d, tk', os⟩ : Shared).TypeIs (.ref a) "list" := fun _ => ⟨_, hx, rfl⟩
  have f1 := sub_AttributeError
  have f3 := F.slot_list_getattribute.lookup
  have f4 := F.slot_list_getattribute.bind (.ref a)
  have f5 := am_list_getattr_none
  unfold getAttr? getAttrBy? getAttrBy
  repeat (any_goals (first | assumption | exact hT _ | ((with_reducible show wpAny _ _ (call (Value.builtin "list.__getattribute__") _ _) _ _ _); refine call_meets F.slot_list_getattribute (hT _) am_entry_list_getattribute (F.args_list_getattribute_2 _ _) (meets_getattribute_miss_list a xs k #[] _ _ keys_miss_list keys_name_ok (by rw [sizeLine_eq]; decide)) ⟨hx, hA, fun h' tk' e hx' => ?_⟩) | wp_step))
  obtain ⟨t', u', he⟩ := hx'.there
  show wpAny _ _ (getattributeRaised _ _ _ _ _ _ _) _ _ _
  unfold getattributeRaised
  repeat (any_goals (first | assumption | wp_step))
  exact h _ _ hx'.keeps
end Mine
end

section
open PySem PySem.Spec PySem.Calls PySem.W PyProof.Rows
open Sem (wp)
namespace Mine

/-- a list's items are pairs of ints -/
inductive PairsAt (h : Heap) : List Value → List (Int × Int) → Prop
  | nil : PairsAt h [] []
  | cons {a : Addr} {k n : Int} {t u : Tok} {m : Nat} {vs : List Value} {es : List (Int × Int)} : h.get? a = some { cls := .type "tuple", data := .seq #[.int k t, .int n u] m } → PairsAt h vs es → PairsAt h (.ref a :: vs) ((k, n) :: es)

theorem PairsAt.at {h : Heap} {vs : List Value} {es : List (Int × Int)} (P : PairsAt h vs es) : ∀ {i : Nat} {k n : Int}, es[i]? = some (k, n) → ∃ a t u m, vs[i]? = some (.ref a) ∧ h.get? a = some { cls := .type "tuple", data := .seq #[.int k t, .int n u] m } := by
  induction P with
  | nil => intro i k n e; simp at e
  | cons ho _ ih =>
    intro i k n e
    cases i with
    | zero => simp at e; obtain ⟨rfl, rfl⟩ := e; exact ⟨_, _, _, _, rfl, ho⟩
    | succ i => exact ih (by simpa using e)
theorem PairsAt.length {h : Heap} {vs : List Value} {es : List (Int × Int)} (P : PairsAt h vs es) : vs.length = es.length := by
  induction P with
  | nil => rfl
  | cons _ _ ih => simp [ih]

theorem Vals.snoc {kvs : List (Int × Value)} {es : List (Int × Int)} (h : Vals kvs es) (k n : Int) (t : Tok) : Vals (kvs ++ [(k, .int n t)]) (es ++ [(k, n)]) := by
  induction h with
  | nil => exact .cons .nil
  | cons _ ih => exact .cons ih

theorem entry_upd_loop : entryFor table "dict.update.loop" = some Builtin.«dict.update.loop» := entryFor_of_tree (by kernel_rfl)
theorem plain_upd_loop : plainId "dict.update.loop" = true := by decide +kernel

theorem stored_new {kvs : List (Int × Value)} {k : Int} {v : Value} (h : k ∉ kvs.map (·.1)) : stored kvs k v = kvs ++ [(k, v)] := by
  unfold stored
  rw [if_neg]
  intro q
  obtain ⟨p, hp, hk⟩ := List.any_eq_true.mp q
  exact h (List.mem_map.mpr ⟨p, hp, by simpa using hk⟩)

set_option maxRecDepth 100000 in
theorem upd_loop {prog : Program} {w : World} {A : Around} {R : Result → Shared → Prop} {h0 : Heap} {D I ax : Addr} {vs : List Value} {es : List (Int × Int)} (hh : A.handled = none) (hn : (es.map (·.1)).Nodup) (hz : es.length < 64)
    (hD0 : h0.get? D = none) (hI0 : h0.get? I = none) (hDI : D ≠ I) (hl : h0.IsList ax vs.toArray) (P : PairsAt h0 vs es) :
    ∀ (k i : Nat) (ti : Tok) (s : Shared), es.length - i = k → i ≤ es.length → (∀ b o, h0.get? b = some o → s.heap.get? b = some o) → s.heap.IsListIter I ax i → (∃ kvs, s.heap.DictOf (PySem.intKind prog w) D kvs ∧ Vals kvs (es.take i)) →
      (∀ h' tk kvs, (∀ b o, h0.get? b = some o → h'.get? b = some o) → h'.DictOf (PySem.intKind prog w) D kvs → Vals kvs es → R (.ok (.ret .none)) { s with heap := h', toks := tk }) →
      codeAny (model prog w) A (.builtin "dict.update.loop" ⟨[.ref D, .ref I, .int (i : Int) ti, .none], []⟩) R s := by
  have hvl := P.length
  have hax : ∀ b : Addr, h0.get? b = none → ax ≠ b := by
    rintro b hb rfl
    obtain ⟨o, ho, _⟩ := hl
    rw [hb] at ho; cases ho
  intro k
  induction k with
  | zero =>
    intro i ti s hk hi hkeep hit hD hR
    have hin : i = es.length := by omega
    subst hin
    obtain ⟨kvs, hD, hv⟩ := hD
    rw [List.take_length] at hv
    refine codeAny_builtin entry_upd_loop ?_
    rw [Around.under_plainId plain_upd_loop _]
    show wpAny _ A.in1 (pyNext (.ref I) >>= _) _ _ s
    refine wpAny_bind (wpAny_pyNext_list_end (by exact hh) hit (hl.at fun o e => hkeep _ _ e) (by simp [hvl]) fun h' he => ?_)
    show wpAny _ A.in1 (Builtin.Dict.addKeywords D [] >>= _) _ _ _
    refine wpAny_bind (wpAny_pure (wpAny_pure ?_))
    refine hR h' _ kvs (fun b o e => he b o (fun q => by rw [q, hI0] at e; cases e) (hkeep b o e)) ?_ hv
    obtain ⟨o, es', ep, ho, r⟩ := hD
    exact ⟨o, es', ep, he D o hDI ho, r⟩
  | succ k ih =>
    intro i ti s hk hi hkeep hit hD hR
    have hlt : i < es.length := by omega
    obtain ⟨kvs, hD, hv⟩ := hD
    obtain ⟨⟨key, n⟩, he⟩ : ∃ p, es[i]? = some p := ⟨es[i], List.getElem?_eq_getElem hlt⟩
    obtain ⟨a, t, u, m, hvi, ha⟩ := P.at he
    refine codeAny_builtin entry_upd_loop ?_
    rw [Around.under_plainId plain_upd_loop _]
    show wpAny _ A.in1 (pyNext (.ref I) >>= _) _ _ s
    refine wpAny_bind (wpAny_pyNext_list_item hit (hl.at fun o e => hkeep _ _ e) (x := .ref a) (by simpa using hvi) fun h₁ hit₁ hs₁ => ?_)
    have hkeep₁ : ∀ b o, h0.get? b = some o → h₁.get? b = some o := fun b o e => (hs₁.2 b (fun q => by rw [q, hI0] at e; cases e)).trans (hkeep b o e)
    have hD₁ : h₁.DictOf (PySem.intKind prog w) D kvs := by
      obtain ⟨o, es', ep, ho, r⟩ := hD
      exact ⟨o, es', ep, (hs₁.2 D hDI).trans ho, r⟩
    have ha₁ := hkeep₁ _ _ ha
    dsimp only
    refine wpAny_bind (wpAny_holding (wpAny_bind (wpAny_tryCatch ?_)))
    unfold Builtin.Dict.pairItems
    refine wpAny_bind (wpAny_typeOf (T := "tuple") ⟨_, ha₁, rfl⟩ ?_)
    rw [if_pos (by decide)]
    refine wpAny_bind (PySem.wpAny_seqItems ha₁ rfl (wpAny_pure ?_))
    show wpAny _ _ (holding [Value.int key t, Value.int n u] (dictSet D (.int key t) (.int n u))) _ _ _
    have hkey : key ∉ kvs.map (·.1) := by
      rw [hv.keys]
      intro hm
      obtain ⟨j, hj, hje⟩ := List.getElem_of_mem hm
      have hj' : j < i := by
        rw [List.length_map, List.length_take] at hj; omega
      have e1 : (es.map (·.1))[j]'(by rw [List.length_map]; omega) = (es.map (·.1))[i]'(by rw [List.length_map]; exact hlt) := by
        rw [List.getElem_map, List.getElem_map]
        rw [List.getElem_map, List.getElem_take] at hje
        rw [hje, (List.getElem?_eq_some_iff.mp he).2]
      exact absurd e1 (List.pairwise_iff_getElem.mp hn j i _ _ hj')
    have hkl : kvs.length ≤ sizeLine := by
      rw [hv.length, List.length_take, sizeLine_eq]; omega
    refine wpAny_holding (wpAny_dictSet_pairs (knd := PySem.intKind prog w) (k := key) (intKind_is _ _ _ _) hD₁ (fun h₂ hD₂ hs₂ => ?_) hkl)
    rw [stored_new hkey] at hD₂
    have etake : es.take (i + 1) = es.take i ++ [(key, n)] := by simp [List.take_add_one, he]
    refine wpAny_pure ⟨plainId_quiet plain_upd_loop _, ih (i + 1) 0 _ (by omega) hlt (fun b o e => (hs₂.2 b (fun q => by rw [q, hD0] at e; cases e)).trans (hkeep₁ b o e)) (hit₁.extBut hs₂.extBut (Ne.symm hDI)) ⟨_, hD₂, by rw [etake]; exact hv.snoc key n u⟩ hR⟩
end Mine
end

section
open PySem PySem.Spec PySem.Calls PySem.W PyProof.Rows
open Sem (wp)
namespace Mine

set_option maxRecDepth 100000 in
theorem call_dict_pairs {prog : Program} {w : World} {A : Around} {E : Value → Shared → Prop} {s : Shared} {ax : Addr} {c : Nat} {vs : List Value} {es : List (Int × Int)} {Q : Value → Shared → Prop} (hh : A.handled = none) (hl : s.heap.get? ax = some (listOf vs.toArray c)) (P : PairsAt s.heap vs es)
    (hn : (es.map (·.1)).Nodup) (hz : es.length < 64)
    (h : ∀ h' tk kvs, (∀ b o, s.heap.get? b = some o → h'.get? b = some o) → h'.DictOf (PySem.intKind prog w) s.heap.objs.size kvs → Vals kvs es → Q (.ref s.heap.objs.size) { s with heap := h', toks := tk }) :
    wpAny (model prog w) A (call (.type "dict") [.ref ax]) Q E s := by
  refine callType_codes (Q₁ := fun obj s₁ => obj = .ref s.heap.objs.size ∧ s₁ = { s with heap := s.heap.push { cls := .type "dict", data := .dict #[] } }) PySem.F.kt_called_dict (PySem.F.kt_typeCall_dict_1 _) PySem.F.entry_dict_init (kt_code_dict_new _ ⟨rfl, rfl⟩) ?_
  rintro obj s₁ ⟨rfl, rfl⟩
  have hnew : (s.heap.push { cls := .type "dict", data := .dict #[] }).DictOf (PySem.intKind prog w) s.heap.objs.size [] := Heap.DictOf.new s.heap
  have hk0 : ∀ b o, s.heap.get? b = some o → (s.heap.push { cls := .type "dict", data := .dict #[] }).get? b = some o := fun b o e => Heap.get?_push_of_some _ e
  have hl' := hk0 _ _ hl
  refine ⟨hnew.typeIs, PySem.F.args_dict_init_2 _ _, ?_⟩
  unfold Builtin.«dict.__init__»
  refine wpAny_bind ?_
  unfold Builtin.Dict.selfAndRest
  refine wpAny_bind (wpAny_notOrdered_dict hnew.typeIs ?_)
  show wpAny _ _ (pure (s.heap.objs.size, [Value.ref ax])) _ _ _
  refine wpAny_pure ?_
  show wpAny _ _ (Builtin.Dict.updateFrom "dict.__init__" s.heap.objs.size (.ref ax) [] .none) _ _ _
  unfold Builtin.Dict.updateFrom
  refine wpAny_bind (wpAny_typeOf (T := "list") ⟨_, hl', rfl⟩ ?_)
  rw [if_pos (by decide)]
  refine wpAny_bind (keys_of_list hl' (by exact hh) fun h₁ tk₁ hk₁ => ?_)
  simp only [Option.isNone_none, if_true]
  refine wpAny_bind (wpAny_rule ?_)
  have hl₁ := hk₁ _ _ hl'
  have il : (⟨h₁, s.gens, s.drawn, tk₁, s.os⟩ : Shared).heap.IsList ax vs.toArray := ⟨_, hl₁, rfl, _, rfl⟩
  refine wpAny_bind (wpAny_pyIter_list il ?_)
  have hD0 : s.heap.get? s.heap.objs.size = none := Heap.get?_none_of_le (Nat.le_refl _)
  have hDlt : s.heap.objs.size < h₁.objs.size := by
    obtain ⟨o, _, _, ho, _⟩ := hnew
    exact Heap.lt_size (hk₁ _ _ ho)
  have hkk : ∀ b o, s.heap.get? b = some o → h₁.get? b = some o := fun b o e => hk₁ b o (hk0 b o e)
  have hI0 : s.heap.get? h₁.objs.size = none := by
    cases q : s.heap.get? h₁.objs.size with
    | none => rfl
    | some o => exact absurd (Heap.lt_size (hkk _ _ q)) (Nat.lt_irrefl _)
  refine wpAny_pure ⟨plainId_quiet plain_upd_loop _, ?_⟩
  refine upd_loop (by exact hh) hn hz hD0 hI0 (Nat.ne_of_lt hDlt) ⟨_, hl, rfl, _, rfl⟩ P es.length 0 0 _ (by omega) (Nat.zero_le _) (fun b o e => Heap.get?_push_of_some _ (hkk b o e)) ⟨_, Heap.get?_push_size _ rfl, rfl, rfl⟩ ⟨[], ?_, .nil⟩ (fun h' tk kvs hk hD hv => ?_)
  · obtain ⟨o, es', ep, ho, r⟩ := hnew
    exact ⟨o, es', ep, Heap.get?_push_of_some _ (hk₁ _ _ ho), r⟩
  · exact ⟨rfl, h h' tk kvs hk hD hv⟩

/-- in the words of the ledger -/
theorem d_make {prog : Program} {w : World} {A : Around} {E : Value → Shared → Prop} {s : Shared} {h₀ : Heap} {L ax : Addr} {m : Str → Option Value} {news : List (Addr × Obj)} {c : Nat} {vs : List Value} {es : List (Int × Int)} {Q : Value → Shared → Prop} (hh : A.handled = none)
    (F : Fr h₀ L s.heap m) (N : News h₀ L s.heap news) (hbig : h₀.NoLimit) (hl : (ax, listOf vs.toArray c) ∈ news) (P : PairsAt s.heap vs es) (hn : (es.map (·.1)).Nodup) (hz : es.length < 64)
    (h : ∀ D o h' tk, s.heap.get? D = none → Fr h₀ L h' m → News h₀ L h' ((D, o) :: news) → CodesAt prog w h' D es → Q (.ref D) { s with heap := h', toks := tk }) :
    wpAny (model prog w) A (call (.type "dict") [.ref ax]) Q E s := by
  refine call_dict_pairs hh (N _ hl).1 P hn hz fun h' tk kvs hk hD hv => ?_
  have lo := F.notModules (modules_low hbig)
  obtain ⟨o, es', ep, ho, r⟩ := hD
  exact h _ o h' tk (Heap.get?_none_of_le (Nat.le_refl _)) (fr_keep F hk) (news_new F N hk (Heap.get?_none_of_le (Nat.le_refl _)) ho) ⟨lo, kvs, ⟨o, es', ep, ho, r⟩, hv⟩
end Mine
end

section
open PySem PySem.Spec PySem.Calls PySem.W PyProof.Rows
namespace Mine

/-- codes made by the law, the last one first -/
inductive Down : List (Int × Int) → Prop
  | nil : Down []
  | one {k n : Int} : 0 ≤ k → (0 ≤ n ∧ n < 65536) → Down [(k, n)]
  | cons {r n k' n' : Int} {es : List (Int × Int)} : (0 ≤ n ∧ n < 65536) → (1 ≤ r ∧ r ≤ 7) → Down ((k', n') :: es) → Down ((k' + r, n) :: (k', n') :: es)

theorem news_tail {h₀ h : Heap} {L : Addr} {p : Addr × Obj} {r : List (Addr × Obj)} (N : News h₀ L h (p :: r)) : News h₀ L h r := fun q hq => N q (.tail _ hq)
theorem mem_step {r : Int} (h : r ∈ [1, 1, 2, 7]) : 1 ≤ r ∧ r ≤ 7 := by
  simp only [List.mem_cons, List.not_mem_nil, or_false] at h; omega
theorem mem_code {r : Int} (h : r ∈ [0, 33, 65500, 65530]) : 0 ≤ r := by
  simp only [List.mem_cons, List.not_mem_nil, or_false] at h; omega
theorem mem_sign {r x : Int} (h : r ∈ [0, 1, 255, 256, 65535, x]) (h0 : 0 ≤ x) (h1 : x < 65536) : 0 ≤ r ∧ r < 65536 := by
  simp only [List.mem_cons, List.not_mem_nil, or_false] at h; omega

theorem Down.facts {es : List (Int × Int)} (h : Down es) : ∀ k n r, es = (k, n) :: r → (∀ p ∈ es, 0 ≤ p.1 ∧ p.1 ≤ k ∧ k ≤ p.1 + 7 * (r.length : Int)) := by
  induction h with
  | nil => intro k n r e; cases e
  | one h1 h2 => rintro k n r e p hp; cases e; obtain rfl := List.mem_singleton.mp hp; simp; omega
  | cons h1 h2 h5 ih =>
    rintro k n r e p hp
    cases e
    rcases List.mem_cons.mp hp with rfl | hp
    · have := ih _ _ _ rfl _ (.head _); simp at this ⊢; omega
    · have := ih _ _ _ rfl _ hp; simp at this ⊢; omega
theorem Down.glyphs {es : List (Int × Int)} (h : Down es) : ∀ p ∈ es, 0 ≤ p.2 ∧ p.2 < 65536 := by
  induction h with
  | nil => intro p hp; cases hp
  | one h1 h2 => intro p hp; obtain rfl := List.mem_singleton.mp hp; exact h2
  | cons h1 h2 h5 ih =>
    intro p hp
    rcases List.mem_cons.mp hp with rfl | hp
    · exact h1
    · exact ih p hp
theorem Down.nodup {es : List (Int × Int)} (h : Down es) : (es.map (·.1)).Nodup := by
  induction h with
  | nil => exact List.nodup_nil
  | one => simp
  | cons h1 h2 h5 ih =>
    rw [List.map_cons, List.nodup_cons]
    refine ⟨fun hm => ?_, ih⟩
    obtain ⟨p, hp, e⟩ := List.mem_map.mp hm
    have := (h5.facts _ _ _ rfl p hp).2.1
    simp at e; omega

def MadeBy (w : World) (a : Addr) (s : Shared) (D : Addr) (s' : Shared) : Prop := ∃ h' tk' o' oD es, s' = { s with heap := h', toks := tk' } ∧ h'.get? a = some o' ∧ SrcOk o' ∧ s.heap.get? D = none ∧ h'.get? D = some oD ∧ CodesAt PySem.Challenge.rw_xm0707_01.row.prog w h' D es ∧ Down es ∧ es.length ≤ 5 ∧ ∀ b o, b ≠ a → s.heap.get? b = some o → h'.get? b = some o

theorem codes_end {w : World} {A : Around} {a ax L' : Addr} {g h₁ : Heap} {s : Shared} {m' : Str → Option Value} {tk₁ : Nat} {news : List (Addr × Obj)} {vs : List Value} {es : List (Int × Int)} {o : Obj} {c : Nat} {Q E : Value → Shared → Prop}
    (hret : ∀ D s', MadeBy w a s D s' → Q (.ref D) s') (gE : g = hideAll s.heap [a]) (F : Fr g L' h₁ m') (N : News g L' h₁ news) (hbig : g.NoLimit) (hh : A.handled = none) (hl : (ax, listOf vs.toArray c) ∈ news) (hs : (a, o) ∈ news) (ok : SrcOk o) (P : PairsAt h₁ vs es) (hd : Down es) (hz : es.length ≤ 5) :
    wpAny (model PySem.Challenge.rw_xm0707_01.row.prog w) A (call (.type "dict") [.ref ax]) (fun v s' => Q v s') E { heap := h₁, gens := s.gens, drawn := s.drawn, toks := tk₁, os := s.os } := by
  refine d_make (L := L') hh F N hbig hl P hd.nodup (by omega) fun D oD h' tk hD F' N' C => ?_
  have ha := (N' _ (.tail _ hs)).1
  have hda : D ≠ a := by
    rintro rfl
    have := (N _ hs).1
    rw [hD] at this; cases this
  refine hret D _ ⟨h', tk, o, oD, es, rfl, ha, ok, ?_, (N' _ (.head _)).1, C, hd, hz, fun b o n q => F'.keep b o (hide_one gE b o n q)⟩
  cases q : s.heap.get? D with
  | none => rfl
  | some x => have := hide_one gE D x hda q; rw [(N' _ (.head _)).2.2] at this; cases this




section
variable {prog : Program} {w : World} {A : Around} {E : Value → Shared → Prop} {s : Shared} {env : Env} {h₀ : Heap} {x : Str} {body : List Stmt} {Q : Flow → Shared → Prop}
theorem rest_split {I : Addr} {a : Int} {n i k j : Nat} {m : Str → Option Value} {news : List (Addr × Obj)} (hb : k ≤ j + 1) (hz : RangeRest prog w A E h₀ env x body Q s I a n 0 i m news) (hs : ∀ k', k' ≤ j → RangeRest prog w A E h₀ env x body Q s I a n (k' + 1) i m news) :
    RangeRest prog w A E h₀ env x body Q s I a n k i m news := by
  cases k with
  | zero => exact hz
  | succ k => exact hs k (Nat.le_of_succ_le_succ hb)
theorem rest_last {I : Addr} {a : Int} {n i k : Nat} {m : Str → Option Value} {news : List (Addr × Obj)} (hb : k ≤ 0) (hz : RangeRest prog w A E h₀ env x body Q s I a n 0 i m news) : RangeRest prog w A E h₀ env x body Q s I a n k i m news := by
  obtain rfl := Nat.le_zero.mp hb
  exact hz
theorem iter_few {r : Addr} {b : Int} {t₀ u₀ v₀ : Tok} {m₀ : Str → Option Value} {news : List (Addr × Obj)} (hr : IsRange s.heap r 0 b 1 t₀ u₀ v₀) (h0 : 0 ≤ b) (h6 : b < 6)
    (hh : A.handled = none) (F : Fr h₀ env.locals s.heap m₀) (N : News h₀ env.locals s.heap news)
    (rest : ∀ (I : Addr) (n : Nat), n ≤ 5 → (∀ p ∈ news, p.1 < I) → RangeRest prog w A E h₀ env x body Q s I 0 n n 0 m₀ news) :
    wpAny (model prog w) A (pyIter (.ref r)) (fun it s₂ => LoopAtV prog w A h₀ env x body Q E it s₂) E s := by
  have hc : b = 0 ∨ b = 1 ∨ b = 2 ∨ b = 3 ∨ b = 4 ∨ b = 5 := by omega
  refine iter_rangeUnr (n := b.toNat) hh hr ?_ ?_ F N (fun I l => rest I _ (by omega) l) <;> (rcases hc with rfl | rfl | rfl | rfl | rfl | rfl <;> decide)
end
local macro_rules | `(tactic| walk_at "call type:range") => `(tactic| (k_here; (rename Fr _ _ _ _ => lF'); (rename News _ _ _ _ => lN'); (with_unfolding_all refine range1_rows lF' lN' ?_); clear lF' lN'; intro _ _ _ _ _ _ _ _ _))
local macro_rules | `(tactic| walk_at "pyIter ref") => `(tactic| (k_here; (with_reducible show wpAny _ _ (pyIter (Value.ref _)) (fun it s₂ => LoopAtV _ _ _ _ _ _ _ _ _ it s₂) _ _); k_dflt (refine' iter_few ?r ?a ?b ?hh ?F ?N ?_; (case r => with_reducible assumption); (case a => with_reducible assumption); (case b => with_reducible assumption); (case hh => exact rfl); (case F => k_asm); (case N => k_asm)); intro i' n' hb' l1; (try k_lt l1)))
local macro_rules | `(tactic| walk_at "RangeRest") => `(tactic| (k_here; k_dflt (first | (refine rest_last (by with_reducible assumption) (fun h' tk' F' N' => ?_)) | (refine rest_split (by assumption) (fun h' tk' F' N' => ?_) (fun k' hb' => RangeRest.succ (fun t' h' tk' F' N' => ?_))))))
local macro_rules | `(tactic| walk_at "call ref") => `(tactic| (k_here; (with_reducible show wpAny _ _ (call (Value.ref 74) [Value.ref _, Value.int _ _]) _ _ _); k_dflt (refine' take_rule ?B ?F ?X ?T ?N ?U ?ok ?hk ?hd ?hu ?h1 ?h2 ?_; (case B => k_asm); (case F => k_asm); (case X => k_asm); (case T => k_asm); (case N => k_asm); (case U => k_updF); (case ok => k_asm); (case hk => first | exact rfl | assumption); (case hd => ktr_room); (case hu => ktr_units); (case h1 => first | decide | omega); (case h2 => first | decide | omega)); intro r' t' h' tk' o' r0' r1' ok' F' N'; (try dsimp only at N'); (try k_sweep)))
local macro_rules | `(tactic| walk_at "call ref") => `(tactic| (k_here; (with_reducible show wpAny _ _ (call (Value.ref 81) [Value.ref _, Value.ref _]) _ _ _); k_dflt (refine' one_rule ?B ?F ?X ?T ?N ?U ?ok ?hk ?hd ?hu ?hb ?hab ?hob ?hi ?n0 ?n1 ?_; (case B => k_asm); (case F => k_asm); (case X => k_asm); (case T => k_asm); (case N => k_asm); (case U => k_updF); (case ok => k_asm); (case hk => first | exact rfl | assumption); (case hd => ktr_room); (case hu => ktr_units); (case hb => k_mem); (case hab => k_ne); (case hob => exact ⟨_, rfl⟩); (case hi => (repeat' (first | exact IntsAre.nil | refine' IntsAre.cons _ _ ?_))); (case n0 => exact Nat.succ_pos _); (case n1 => exact Nat.le_of_ble_eq_true rfl)); intro r' t' h' tk' o' r0' ok' F' N'; (first | replace r0' := mem_step r0' | replace r0' := mem_code r0' | replace r0' := mem_sign r0' (by with_reducible assumption) (by with_reducible assumption)); (try dsimp only at N'); (replace N' := news_tail N'); (try k_sweep)))
local macro_rules | `(tactic| ktr_enter) => `(tactic| (refine' enterG [_] ?k1 ?k2 ?k3 ?k5 ?kA ?kF ?kK ?kh ?kh0 ?k6 ?k7 ?k8 ?k9 ?kB ?_ ?c2 ?c3 ?c4 ?c5; (case kA => exact rfl); (case kF => exact rfl); (case kK => assumption); (case kh => assumption); (case kh0 => assumption); (case k1 => k_asm); (case k2 => k_asm); (case k3 => k_asm); (case k5 => k_asm); (case k6 => k_is); (case k7 => k_is); (case k8 => ktr_room); (case k9 => exact BindsTo.of_eq rfl); (case c5 => decide); (case kB => exact locs rfl); (case c2 => exact rfl); (case c3 => exact rfl); (case c4 => exact rfl); k_whole))
local macro_rules | `(tactic| walk_at "call type:dict") => `(tactic| (k_here; k_dflt (refine' codes_end ?hret ?gE ?F ?N ?big ?hh ?hl ?hs ?ok ?P ?hd ?hz; (case hret => with_reducible assumption); (case gE => with_reducible assumption); (case F => with_reducible assumption); (case N => with_reducible assumption); (case big => exact Top.nolimit (by with_reducible assumption)); (case hh => exact rfl); (case hl => k_mem); (case hs => k_mem); (case ok => with_reducible assumption); (case P => (repeat' (first | exact PairsAt.nil | refine' PairsAt.cons (News.get (by with_reducible assumption) (by k_mem)) ?_))); (case hd => (repeat' (first | exact Down.nil | with_reducible assumption | refine' Down.cons ?_ ?_ ?_ | refine' Down.one ?_ ?_))); (case hz => exact Nat.le_of_ble_eq_true rfl))))

set_option maxRecDepth 100000 in
set_option maxHeartbeats 8000000 in
theorem codes_ask (w : World) (a : Addr) (mean : ExcName → Option Value) (mg mb : Str → Option Value) (dp un : Nat) (gd : Option (List Code)) (cn : Str) (cs : Scope) (ac : Addr) (ccd : Value) (cl : List (Str × Addr)) (outer : List Env) (A₀ : Around) (base h₀ : Heap) (L : Addr) (m : Str → Option Value) (s : Shared) (Q E : Value → Shared → Prop)
    (B : Below A₀ base outer h₀) (F : Fr h₀ L s.heap m) (X : (Mine.hd.heap_39 w.params).In h₀) (T : Top Mine.hd.view_39 (looseW Mine.hd.view_39 []) mean mg mb h₀) (hk : cs.kind = .function) (hd : dp + 4 < recursionLimit) (hu : un + 32 < cLine)
    (hp : ∃ o, s.heap.get? a = some o ∧ SrcOk o) (hL : a ≠ L) (ha : h₀.get? a = none) (hret : ∀ D s', MadeBy w a s D s' → Q (.ref D) s') :
    wpAny (model PySem.Challenge.rw_xm0707_01.row.prog w) (ktrTop dp un gd cn cs L ac ccd cl outer) (call (.ref 88) [.ref a]) Q E s := by
  revert X
  k_fill
  intro X
  obtain ⟨o, ho, hok⟩ := hp
  have hL' : L ∉ [a] := by simpa using Ne.symm hL
  have ha' : ∀ b ∈ [a], h₀.get? b = none := fun b hb => by rw [List.mem_singleton.mp hb]; exact ha
  refine wpAny_call ?_
  k_dflt ktr_enter
  intro g' L' h' gE gS F' Le B' X' T'
  have N' := news_one gE ho Le gS
  dsimp only
  k_steps
end Mine
end

section
open PySem PySem.Spec PySem.Calls PySem.W PyProof.Rows
namespace Mine

/-- signs that the law holds right -/
def Told (es : List (Int × Int)) : Prop := ∃ f l, Tell es f l ∧ ∀ n ∈ words6 es f l, 0 ≤ n ∧ n < 65536

theorem glyph_range {es : List (Int × Int)} (h : ∀ p ∈ es, 0 ≤ p.2 ∧ p.2 < 65536) (c : Int) : 0 ≤ glyph es c ∧ glyph es c < 65536 := by
  unfold glyph
  cases e : es.find? fun p => decide (p.1 = c) with
  | none => exact ⟨Int.le_refl _, by decide⟩
  | some p => exact h p (List.mem_of_find?_eq_some e)

theorem Told.intro {es : List (Int × Int)} {f l : Int} (ok : Tell es f l) (h : ∀ p ∈ es, 0 ≤ p.2 ∧ p.2 < 65536) : Told es := by
  refine ⟨f, l, ok, fun n hn => ?_⟩
  unfold words6 at hn
  have hb : (f = 0 ∧ l = -1) ∨ (0 ≤ f ∧ l ≤ 65535 ∧ l - f + 1 ≤ 64 ∧ f ≤ l) := by
    cases ok with
    | none _ a b => exact .inl ⟨a, b⟩
    | some a b _ _ c d e => exact .inr ⟨c, d, e, a.2 _ b.1⟩
  rcases List.mem_append.mp hn with hn | hn
  · simp only [List.mem_cons, List.not_mem_nil, or_false] at hn
    omega
  · obtain ⟨c, _, rfl⟩ := List.mem_map.mp hn
    exact glyph_range h c

/-- signs that the law holds refused -/
def Bad (es : List (Int × Int)) : Prop := ∃ f l : Int, (f ∈ es.map (·.1) ∧ ∀ k ∈ es.map (·.1), f ≤ k) ∧ (l ∈ es.map (·.1) ∧ ∀ k ∈ es.map (·.1), k ≤ l) ∧ es.length < 64 ∧ 0 < es.length ∧ (65535 < l ∨ 32762 < l - f + 1)

theorem bad_two {b f n m : Int} (h : 32762 ≤ f) : Bad [(b + f, n), (b, m)] := by
  refine ⟨b, b + f, ⟨by simp, ?_⟩, ⟨by simp, ?_⟩, by simp, by simp, by omega⟩
  · intro k hk; simp at hk; omega
  · intro k hk; simp at hk; omega
theorem two_nodup {b f : Int} (h : 32762 ≤ f) : [b + f, b].Nodup := by
  rw [List.nodup_cons]
  exact ⟨fun hm => by simp at hm; omega, by simp⟩
theorem mem_begin {r : Int} (h : r ∈ [0, 7, 32773]) : 0 ≤ r := by
  simp only [List.mem_cons, List.not_mem_nil, or_false] at h; omega
theorem mem_far {r : Int} (h : r ∈ [32762, 32763, 40000]) : 32762 ≤ r := by
  simp only [List.mem_cons, List.not_mem_nil, or_false] at h; omega
theorem bad_first : Bad [(65535, 1), (65536, 2)] := ⟨65535, 65536, by decide, by decide, by decide, by decide, .inl (by decide)⟩
theorem told_first : Told [(5, 9), (3, 7)] := Told.intro (f := 3) (l := 5) (.some (by decide) (by decide) (by decide) (by decide) (by decide) (by decide) (by decide)) (by decide)
theorem told_second : Told [(65533, 1), (65535, 2)] := Told.intro (f := 65533) (l := 65535) (.some (by decide) (by decide) (by decide) (by decide) (by decide) (by decide) (by decide)) (by decide)

/-- the least and the greatest key of codes made by the law -/
theorem Down.ends {es : List (Int × Int)} (h : Down es) (hz : es.length ≤ 5) : es = [] ∨ ∃ f l, (f ∈ es.map (·.1) ∧ ∀ k ∈ es.map (·.1), f ≤ k) ∧ (l ∈ es.map (·.1) ∧ ∀ k ∈ es.map (·.1), k ≤ l) ∧ 0 < es.length ∧ 0 ≤ f ∧ l - f + 1 ≤ 64 := by
  cases es with
  | nil => exact .inl rfl
  | cons p r =>
    obtain ⟨k, n⟩ := p
    have hf := h.facts k n r rfl
    refine .inr ?_
    have hlow : ∀ (es : List (Int × Int)), es ≠ [] → ∃ f, f ∈ es.map (·.1) ∧ ∀ k ∈ es.map (·.1), f ≤ k := by
      intro es
      induction es with
      | nil => intro q; exact absurd rfl q
      | cons p r ih =>
        intro _
        by_cases hr : r = []
        · subst hr; exact ⟨p.1, by simp, by simp⟩
        · obtain ⟨f, h1, h2⟩ := ih hr
          by_cases hp : p.1 ≤ f
          · refine ⟨p.1, by simp, fun k hk => ?_⟩
            rcases List.mem_cons.mp hk with rfl | hk
            · exact Int.le_refl _
            · exact Int.le_trans hp (h2 k hk)
          · refine ⟨f, List.mem_cons_of_mem _ h1, fun k hk => ?_⟩
            rcases List.mem_cons.mp hk with rfl | hk
            · exact Int.le_of_lt (Int.not_le.mp hp)
            · exact h2 k hk
    obtain ⟨f, h1, h2⟩ := hlow ((k, n) :: r) (List.cons_ne_nil _ _)
    obtain ⟨p, hp, rfl⟩ := List.mem_map.mp h1
    have := hf p hp
    simp only [List.length_cons] at hz
    refine ⟨p.1, k, ⟨h1, h2⟩, ⟨by simp, fun z hz' => ?_⟩, by simp, this.1, by omega⟩
    obtain ⟨q, hq, e⟩ := List.mem_map.mp hz'
    have := (hf q hq).2.1
    omega

theorem bad_down {es : List (Int × Int)} (h : Down es) (hz : es.length ≤ 5) (hb : 0 < ((es.map (·.1)).filter fun k => decide (65535 < k)).length) : Bad es := by
  rcases h.ends hz with rfl | ⟨f, l, hf, hl, h0, _, _⟩
  · simp at hb
  · obtain ⟨k, hk⟩ := List.exists_mem_of_length_pos hb
    obtain ⟨hk, hq⟩ := List.mem_filter.mp hk
    have hq : 65535 < k := of_decide_eq_true hq
    exact ⟨f, l, hf, hl, by omega, h0, .inl (Int.lt_of_lt_of_le hq (hl.2 k hk))⟩
theorem told_down {es : List (Int × Int)} (h : Down es) (hz : es.length ≤ 5) (hb : ¬ 0 < ((es.map (·.1)).filter fun k => decide (65535 < k)).length) : Told es := by
  rcases h.ends hz with rfl | ⟨f, l, hf, hl, h0, h1, h2⟩
  · exact Told.intro (f := 0) (l := -1) (.none rfl rfl rfl) h.glyphs
  · refine Told.intro (f := f) (l := l) (.some hf hl (by omega) h0 h1 ?_ h2) h.glyphs
    refine Int.not_lt.mp fun hq => hb ?_
    exact List.length_pos_of_mem (List.mem_filter.mpr ⟨hl.1, decide_eq_true hq⟩)

section
variable {w : World} {d a : Addr} {es : List (Int × Int)} {mean : ExcName → Option Value} {mg mb : Str → Option Value} {dp un : Nat} {gd : Option (List Code)} {cn : Str} {cs : Scope} {ac : Addr} {ccd : Value} {cl : List (Str × Addr)} {outer : List Env} {A₀ : Around} {base h₀ : Heap} {L : Addr} {m : Str → Option Value} {s : Shared} {Q E : Value → Shared → Prop} {news : List (Addr × Obj)}

theorem codes_here {prog : Program} {h : Heap} {o : Obj} {kvs : List (Int × Value)} (N : News h₀ L h news) (hm : (d, o) ∈ news) (lo : (d == sysModules) = false) (hd : o.IsDictOf (PySem.intKind prog w) kvs) (hv : Vals kvs es) : CodesAt prog w h d es :=
  ⟨lo, kvs, Heap.dictOf_iff.mpr ⟨o, N.get hm, hd⟩, hv⟩

theorem right_rule (ok : Told es) (C : CodesAt PySem.Challenge.rw_xm0707_01.row.prog w s.heap d es) (B : Below A₀ base outer h₀) (F : Fr h₀ L s.heap m) (X : (Mine.hd.heap_39 w.params).In h₀) (T : Top Mine.hd.view_39 (looseW Mine.hd.view_39 []) mean mg mb h₀) (N : News h₀ L s.heap news) (hk : cs.kind = .function) (hd : dp + 4 < recursionLimit) (hu : un + 300 < cLine)
    (hret : ∀ h' tk', Fr h₀ L h' m → News h₀ L h' news → Q (.bool true) { s with heap := h', toks := tk' }) :
    wpAny (model PySem.Challenge.rw_xm0707_01.row.prog w) (ktrTop dp un gd cn cs L ac ccd cl outer) (call (.ref 107) [.ref d]) Q E s := by
  obtain ⟨f, l, ok, hr⟩ := ok
  have hl : (words6 es f l).length < 100 := by
    have hb : (f = 0 ∧ l = -1) ∨ l - f + 1 ≤ 64 := by
      cases ok with
      | none _ a b => exact .inl ⟨a, b⟩
      | some _ _ _ _ _ _ e => exact .inr e
    simp only [words6, List.length_append, List.length_cons, List.length_nil, List.length_map, rangeKs_length]
    omega
  refine right_ask w d es f l ok (words6 es f l) ⟨rfl⟩ hl hr mean mg mb dp un gd cn cs ac ccd cl outer A₀ base h₀ L m s Q E B F X T hk hd hu C fun v s' hp => ?_
  obtain ⟨rfl, h', tk', rfl, hk'⟩ := hp
  exact hret h' tk' (fr_keep F hk') (news_keep N hk')

theorem refused_rule (ok : Bad es) (C : CodesAt PySem.Challenge.rw_xm0707_01.row.prog w s.heap d es) (B : Below A₀ base [] h₀) (F : Fr h₀ L s.heap m) (X : (Mine.hd.heap_39 w.params).In h₀) (T : Top Mine.hd.view_39 (looseW Mine.hd.view_39 []) mean mg mb h₀) (N : News h₀ L s.heap news) (hk : cs.kind = .function) (hd : dp + 8 < recursionLimit) (hu : un + 200 < cLine)
    (hret : ∀ h' tk', Fr h₀ L h' m → News h₀ L h' news → Q (.bool true) { s with heap := h', toks := tk' }) :
    wpAny (model PySem.Challenge.rw_xm0707_01.row.prog w) (ktrTop dp un gd cn cs L ac ccd cl []) (call (.ref 102) [.ref d]) Q E s := by
  obtain ⟨f, l, hf, hl, hz, h0, hb⟩ := ok
  exact refused_ask w d es f l hf hl hz h0 hb mean mg mb dp un gd cn cs ac ccd cl A₀ base h₀ L m s Q E B F X T hk hd hu C fun h' tk' F' hk' => hret h' tk' F' fun p hp => ⟨hk' _ _ (N p hp).2.1 (N p hp).1, (N p hp).2⟩

theorem codes_rule {g : Obj → List (Addr × Obj)} {o : Obj} (B : Below A₀ base outer h₀) (F : Fr h₀ L s.heap m) (X : (Mine.hd.heap_39 w.params).In h₀) (T : Top Mine.hd.view_39 (looseW Mine.hd.view_39 []) mean mg mb h₀) (N : News h₀ L s.heap news) (U : UpdF a o news g) (ok : SrcOk o) (hk : cs.kind = .function) (hd : dp + 4 < recursionLimit) (hu : un + 32 < cLine)
    (hret : ∀ D oD kvs h' tk' o' es, Down es → es.length ≤ 5 → (D == sysModules) = false → oD.IsDictOf (PySem.intKind PySem.Challenge.rw_xm0707_01.row.prog w) kvs → Vals kvs es → SrcOk o' → Fr h₀ L h' m → News h₀ L h' ((D, oD) :: g o') → Q (.ref D) { s with heap := h', toks := tk' }) :
    wpAny (model PySem.Challenge.rw_xm0707_01.row.prog w) (ktrTop dp un gd cn cs L ac ccd cl outer) (call (.ref 88) [.ref a]) Q E s := by
  obtain ⟨pre, post, rfl, hg, hpre, hpost⟩ := U.split
  have hm := N (a, o) (List.mem_append_right _ (.head _))
  refine codes_ask w a mean mg mb dp un gd cn cs ac ccd cl outer A₀ base h₀ L m s Q E B F X T hk hd hu ⟨o, hm.1, ok⟩ hm.2.1 hm.2.2 fun D s' h => ?_
  obtain ⟨h', tk', o', oD, es, rfl, ha', ok', hD, hoD, C, hdn, hz, hkeep⟩ := h
  obtain ⟨lo, kvs, hdo, hv⟩ := C
  obtain ⟨oD', hoD', hdo⟩ := Heap.dictOf_iff.mp hdo
  have hoD : h'.get? D = some oD := hoD
  rw [hoD] at hoD'
  cases hoD'
  refine hret D oD kvs h' tk' o' es hdn hz lo hdo hv ok' (fr_after (hid := [a]) F (by simpa using Ne.symm hm.2.1) (fun b hb => by rw [List.mem_singleton.mp hb]; exact hm.2.2) fun b o n e => hkeep b o (by simpa using n) e) ?_
  rw [hg]
  intro p hp
  rcases List.mem_cons.mp hp with rfl | hp
  · refine ⟨hoD, ?_, ?_⟩
    · rintro rfl
      obtain ⟨o, _, _, ho, _⟩ := F.ns
      rw [hD] at ho; cases ho
    · cases e : h₀.get? D with
      | none => rfl
      | some x => have := F.keep D x e; rw [hD] at this; cases this
  · rcases List.mem_append.mp hp with q | q
    · have P := N p (List.mem_append_left _ q); exact ⟨hkeep _ _ (hpre p q) P.1, P.2⟩
    · rcases List.mem_cons.mp q with rfl | q
      · exact ⟨ha', hm.2⟩
      · have P := N p (List.mem_append_right _ (.tail _ q)); exact ⟨hkeep _ _ (hpost p q) P.1, P.2⟩
end

/-- what a comprehension over a dict of signs wants -/
def CompOver (prog : Program) (w : World) (A : Around) (h₀ : Heap) (L : Addr) (m : Str → Option Value) (env : Env) (elt : PySem.Expr) (x : Str) (ifs : List PySem.Expr) (scope : Scope) (cl : List (Str × Addr)) (pz : Int → Bool) (Q : Value → Shared → Prop) (xv : Value) (s₁ : Shared) : Prop :=
  ∃ d es news, xv = .ref d ∧ CodesAt prog w s₁.heap d es ∧ es.length < 64 ∧ Fr h₀ L s₁.heap m ∧ News h₀ L s₁.heap news ∧
   (∀ C k t s₂ m₂ E', Fr s₁.heap C s₂.heap m₂ → m₂ x = some (.int k t) →
      wpAny (model prog w) A (forIn ifs true fun c r => if r = true then do let ok ← isTrue c (compEnvC scope cl C env) (eval c (compEnvC scope cl C env)); pure (ForInStep.yield ok) else pure (ForInStep.yield r))
        (fun ok s₃ => SeqLeaf (ok = pz k ∧ Keeps s₂ s₃)) E' s₂) ∧
   (∀ C k t s₂ m₂ E', Fr s₁.heap C s₂.heap m₂ → m₂ x = some (.int k t) →
      wpAny (model prog w) A (eval elt (compEnvC scope cl C env)) (fun y s₃ => SeqLeaf (y = y ∧ Keeps s₂ s₃)) E' s₂) ∧
   (∀ D (ys : List Value) c h' tk, Fr h₀ L h' m → News h₀ L h' ((D, listOf ys.toArray c) :: news) → ys.length = ((es.map (·.1)).filter pz).length → Q (.ref D) { s₁ with heap := h', toks := tk })

theorem CompOver.intro {prog : Program} {w : World} {A : Around} {h₀ : Heap} {L : Addr} {m : Str → Option Value} {env : Env} {elt : PySem.Expr} {x : Str} {ifs : List PySem.Expr} {scope : Scope} {cl : List (Str × Addr)} {pz : Int → Bool} {Q : Value → Shared → Prop} {s₁ : Shared} {d : Addr} {es : List (Int × Int)} {news : List (Addr × Obj)}
    (C : CodesAt prog w s₁.heap d es) (z : es.length < 64) (F : Fr h₀ L s₁.heap m) (N : News h₀ L s₁.heap news)
    (g1 : ∀ C k t s₂ m₂ E', Fr s₁.heap C s₂.heap m₂ → m₂ x = some (.int k t) →
      wpAny (model prog w) A (forIn ifs true fun c r => if r = true then do let ok ← isTrue c (compEnvC scope cl C env) (eval c (compEnvC scope cl C env)); pure (ForInStep.yield ok) else pure (ForInStep.yield r))
        (fun ok s₃ => SeqLeaf (ok = pz k ∧ Keeps s₂ s₃)) E' s₂)
    (g2 : ∀ C k t s₂ m₂ E', Fr s₁.heap C s₂.heap m₂ → m₂ x = some (.int k t) →
      wpAny (model prog w) A (eval elt (compEnvC scope cl C env)) (fun y s₃ => SeqLeaf (y = y ∧ Keeps s₂ s₃)) E' s₂)
    (g3 : ∀ D (ys : List Value) c h' tk, Fr h₀ L h' m → News h₀ L h' ((D, listOf ys.toArray c) :: news) → ys.length = ((es.map (·.1)).filter pz).length → Q (.ref D) { s₁ with heap := h', toks := tk }) :
    CompOver prog w A h₀ L m env elt x ifs scope cl pz Q (.ref d) s₁ := ⟨d, es, news, rfl, C, z, F, N, g1, g2, g3⟩

theorem keys_filter {prog : Program} {w : World} {kvs : List (Int × Value)} {es : List (Int × Int)} (hv : Vals kvs es) (pz : Int → Bool) (p : Value → Bool) (hp : ∀ k t, p (.int k t) = pz k) : ∀ {vs : List Value}, vs.length = kvs.length → (∀ (j : Nat) (v : Value), vs[j]? = some v → ∃ k x, kvs[j]? = some (k, x) ∧ (PySem.intKind prog w).is k v = true) →
    (vs.filter p).length = ((es.map (·.1)).filter pz).length := by
  induction hv with
  | nil => intro vs hl _; cases vs with
    | nil => rfl
    | cons _ _ => simp at hl
  | @cons k n t kvs es hv ih =>
    intro vs hl hP
    cases vs with
    | nil => simp at hl
    | cons v vs =>
      obtain ⟨t', rfl⟩ := key_val (prog := prog) (w := w) (.cons (k := k) (n := n) (t := t) hv) 0 v (by obtain ⟨k', x, h1, h2⟩ := hP 0 v rfl; exact ⟨k', x, h1, h2⟩)
      have := ih (vs := vs) (by simpa using hl) fun j v e => by
        have := hP (j + 1) v (by simpa using e)
        simpa using this
      simp only [List.map_cons, List.filter_cons, List.getD_cons_zero, hp]
      split
      · simp [this]
      · exact this

section
variable {prog : Program} {w : World} {A : Around} {E : Value → Shared → Prop} {s : Shared} {env : Env} {h₀ : Heap} {L : Addr} {m : Str → Option Value}
open Sem (wp)
theorem comp_over {elt iter : PySem.Expr} {x : Str} {px : Pos} {ifs : List PySem.Expr} {scope : Scope} {cl : List (Str × Addr)} {pos : Pos} {Q : Value → Shared → Prop} (pz : Int → Bool) (hF0 : Fr h₀ L s.heap m)
    (hh : A.handled = none) (hclos : closureFor scope env = pure cl) (hcell : ∀ y ∈ scope.names, y.2 ≠ .cell) (hkind : scope.kind = .function)
    (hnames : ∀ y ∈ scope.names, y.2 = .local → scope.names.lookup y.1 = some .local) (hx : scope.names.lookup x = some .local)
    (h : wpAny (model prog w) A (eval iter env) (fun xv s₁ => CompOver prog w A h₀ L m env elt x ifs scope cl pz Q xv s₁) E s)
    (hs : ∀ x, foldedSetIterable iter env x = pure x) :
    wpAny (model prog w) A (eval (.ListComp elt [⟨.Name x px, iter, ifs, 0⟩] scope pos) env) Q E s := by
  refine wpAny_ListComp_free (fun v => match v with | .int k _ => pz k | _ => false) (fun _ _ => True) hclos hcell hkind hnames hx (wpAny_mono h (fun xv s₁ h₁ => ?_) fun _ _ e => e) hs
  obtain ⟨d, es, news, rfl, C, hz, F, N, htests, helt, hQ⟩ := h₁
  obtain ⟨lo, kvs, hD, hv⟩ := C
  obtain ⟨ep, hat⟩ := hD.dictAt
  have hlt : d < s₁.heap.objs.size := hat.lt_size
  refine wpAny_pyIter_dict lo hat ?_
  have up : ∀ (s₃ : Shared), (∀ b o, b ∉ [s₁.heap.objs.size] → (s₁.heap.push { cls := .type "dict_keyiterator", data := .fields #[.ref d, .int 0 0, .int kvs.length 0, .int ep 0] }).get? b = some o → s₃.heap.get? b = some o) → ∀ b o, s₁.heap.get? b = some o → s₃.heap.get? b = some o :=
    fun s₃ hk b o e => hk b o (fun hm => by rcases List.mem_cons.mp hm with rfl | hm; exact Nat.lt_irrefl _ (Heap.lt_size e); cases hm) (Heap.get?_push_of_some _ e)
  refine ⟨s₁.heap.objs.size, [s₁.heap.objs.size, d], [s₁.heap.objs.size], kvs.length, _, _, rfl, Walks.dictKeys (prog := prog) (w := w) (knd := PySem.intKind prog w) hh _ d (Nat.ne_of_lt hlt) kvs ep, ?_, ⟨⟨_, Heap.get?_push_size _ rfl, rfl, rfl⟩, hat.push _⟩, ?_, ⟨?_, ?_⟩, ?_⟩
  · rw [hv.length, sizeLine_eq]; omega
  · intro b hb
    show b < (s₁.heap.push _).objs.size
    rw [Heap.size_push]
    rcases List.mem_cons.mp hb with rfl | hb
    · exact Nat.lt_succ_self _
    · rw [List.mem_singleton.mp hb]; exact Nat.lt_succ_of_lt hlt
  · intro C i v s₃ m₃ E' hC hP hn hm hk _
    obtain ⟨t, rfl⟩ := key_val (prog := prog) (w := w) hv i v hP
    exact htests C _ t s₃ m₃ E' (frInComp hn (up s₃ hk) (Nat.le_trans (by rw [Heap.size_push]; exact Nat.le_succ _) hC)) hm
  · intro C i v s₃ m₃ E' hC hP _ hn hm hk _
    obtain ⟨t, rfl⟩ := key_val (prog := prog) (w := w) hv i v hP
    exact wpAny_mono (helt C _ t s₃ m₃ E' (frInComp hn (up s₃ hk) (Nat.le_trans (by rw [Heap.size_push]; exact Nat.le_succ _) hC)) hm) (fun y s₄ h₄ => ⟨trivial, h₄.2⟩) fun _ _ e => e
  · intro D h' tk ys vs' hnew _ hpl hlen hP hF hk
    have keep : ∀ b o, s₁.heap.get? b = some o → h'.get? b = some o := up { s₁ with heap := h' } hk
    obtain ⟨c, hpl⟩ := hpl
    refine hQ D ys.toList c h' tk (fr_keep F keep) (news_new F N keep ?_ (by rw [Array.toArray_toList]; exact hpl)) ?_
    · cases e : s₁.heap.get? D with
      | none => rfl
      | some o' => rw [Heap.get?_push_of_some _ e] at hnew; cases hnew
    · rw [← keys_filter (prog := prog) (w := w) hv pz (fun v => match v with | .int k _ => pz k | _ => false) (fun _ _ => rfl) hlen hP]
      exact hF.length.symm
theorem comp_name {M : Model} {x : Str} {v : Value} {sc : Scope} {cl : List (Str × Addr)} {C : Addr} {pos : Pos} {Q : Value → Shared → Prop} (F : Fr h₀ C s.heap m) (hv : m x = some v) (hk : (compEnvC sc cl C env).scope.kind = .function) (hl : (compEnvC sc cl C env).kindOf x = some .local) (hd : (x == ("__debug__" : Str)) = false) (h : Q v s) :
    wpAny M A (eval (.Name x pos) (compEnvC sc cl C env)) Q E s := wpAny_Name (wpAny_loadName_local hk hl F.ns hv h) hd

/-- how many signs are too great -/
def Great (n : Int) (es : List (Int × Int)) : Prop := n = ((((es.map (·.1)).filter fun k => decide (65535 < k)).length : Nat) : Int)
theorem len_great {D : Addr} {ys : List Value} {c : Nat} {es : List (Int × Int)} {news : List (Addr × Obj)} {Q : Value → Shared → Prop} (N : News h₀ L s.heap news) (hm : (D, listOf ys.toArray c) ∈ news) (hy : ys.length = ((es.map (·.1)).filter fun k => decide (65535 < k)).length) (hz : es.length ≤ 5)
    (h : ∀ n t tk, Great n es → Q (.int n t) { s with toks := tk }) : wpAny (model prog w) A (call (.builtin "len") [.ref D]) Q E s := by
  have hl := List.length_filter_le (fun k => decide (65535 < k)) (es.map (·.1))
  rw [List.length_map] at hl
  refine len_list (items := ys.toArray) ⟨_, N.get hm, rfl, _, rfl⟩ (by rw [List.size_toArray]; omega) (h _ _ _ ?_)
  rw [List.size_toArray, hy]
  rfl
theorem bad_great {n : Int} {es : List (Int × Int)} (h : Down es) (hz : es.length ≤ 5) (g : Great n es) (hn : 0 < n) : Bad es := bad_down h hz (by unfold Great at g; omega)
theorem told_great {n : Int} {es : List (Int × Int)} (h : Down es) (hz : es.length ≤ 5) (g : Great n es) (hn : ¬ 0 < n) : Told es := told_down h hz (by unfold Great at g; omega)
end
end Mine
end

section
open PySem PySem.Spec PySem.Calls PySem.W PyProof.Rows
namespace Mine
theorem src_made {x y : Int} {t u : Tok} {c : Nat} (hx : 0 ≤ x) : SrcOk (listOf #[.int x t, .int (y.fmod 2147483647) u] c) :=
  have f := fm_pos y (k := 2147483647) (by decide)
  ⟨x, _, t, u, c, rfl, hx, f.1, by omega⟩
local macro_rules | `(tactic| walk_at "SeqLeaf") => `(tactic| exact SeqLeaf.intro ⟨rfl, _, _, rfl, fun _ _ e => e⟩)
local macro_rules | `(tactic| walk_at "eval Dict") => `(tactic| (k_here; k_dflt (refine' kdn_eval (knd := PySem.intKind _ _) ?F ?N ?b ?a ?l ?e ?n ?_; (case F => k_asm); (case N => first | k_asm | exact News.nil); (case b => exact Top.nolimit (by k_asm)); (case a => rfl); (case l => rfl); (case e => exact List.cons_ne_nil _ _); (case n => exact Nat.le_of_ble_eq_true rfl)); intro d' h' o' F' N' l1 lo' hd'; (try k_lt l1)))
local macro_rules | `(tactic| walk_at "KdnMade") => `(tactic| (k_here; k_dflt (refine' kdn_made_int ?F ?N ?U ?d ?k ?n ?_; (case F => k_asm); (case N => k_asm); (case U => k_updF); (case d => k_asm); (case k => rfl); (case n => first | exact of_decide_eq_true (by rfl) | exact two_nodup (by with_reducible assumption)); intro h' o' F' N' hd'); (try dsimp only at N')))
local macro_rules | `(tactic| walk_at "call ref") => `(tactic| (k_here; (with_reducible show wpAny _ _ (call (Value.ref 107) [Value.ref _]) _ _ _); k_dflt (refine' right_rule ?ok ?C ?B ?F ?X ?T ?N ?hk ?hd ?hu ?_; (case C => (refine' codes_here ?cn ?cm ?cl ?cd ?cv; (case cn => k_asm); (case cm => k_mem); (case cl => with_reducible assumption); (case cd => with_reducible assumption); (case cv => (first | with_reducible assumption | repeat' (first | exact Vals.nil | refine' Vals.cons ?_))))); (case B => k_asm); (case F => k_asm); (case X => k_asm); (case T => k_asm); (case N => k_asm); (case hk => first | exact rfl | assumption); (case hd => ktr_room); (case hu => ktr_units); (case ok => first | exact told_first | exact told_second | refine told_great (by with_reducible assumption) (by with_reducible assumption) (by with_reducible assumption) (by omega))); intro h' tk' F' N'; (try k_sweep)))
local macro_rules | `(tactic| walk_at "call ref") => `(tactic| (k_here; (with_reducible show wpAny _ _ (call (Value.ref 102) [Value.ref _]) _ _ _); k_dflt (refine' refused_rule ?ok ?C ?B ?F ?X ?T ?N ?hk ?hd ?hu ?_; (case C => (refine' codes_here ?cn ?cm ?cl ?cd ?cv; (case cn => k_asm); (case cm => k_mem); (case cl => with_reducible assumption); (case cd => with_reducible assumption); (case cv => (first | with_reducible assumption | repeat' (first | exact Vals.nil | refine' Vals.cons ?_))))); (case B => k_asm); (case F => k_asm); (case X => k_asm); (case T => k_asm); (case N => k_asm); (case hk => first | exact rfl | assumption); (case hd => ktr_room); (case hu => ktr_units); (case ok => first | exact bad_first | exact bad_two (by with_reducible assumption) | refine bad_great (by with_reducible assumption) (by with_reducible assumption) (by with_reducible assumption) (by omega))); intro h' tk' F' N'; (try k_sweep)))
local macro_rules | `(tactic| walk_at "call ref") => `(tactic| (k_here; (with_reducible show wpAny _ _ (call (Value.ref 74) [Value.ref _, Value.int _ _]) _ _ _); k_dflt (refine' take_rule ?B ?F ?X ?T ?N ?U ?ok ?hk ?hd ?hu ?h1 ?h2 ?_; (case B => k_asm); (case F => k_asm); (case X => k_asm); (case T => k_asm); (case N => k_asm); (case U => k_updF); (case ok => first | with_reducible assumption | exact src_made (Int.le_refl _) | exact src_made (by omega)); (case hk => first | exact rfl | assumption); (case hd => ktr_room); (case hu => ktr_units); (case h1 => first | decide | omega); (case h2 => first | decide | omega)); intro r' t' h' tk' o' r0' r1' ok' F' N'; (try dsimp only at N'); (try k_sweep)))
local macro_rules | `(tactic| walk_at "call ref") => `(tactic| (k_here; (with_reducible show wpAny _ _ (call (Value.ref 81) [Value.ref _, Value.ref _]) _ _ _); k_dflt (refine' one_rule ?B ?F ?X ?T ?N ?U ?ok ?hk ?hd ?hu ?hb ?hab ?hob ?hi ?n0 ?n1 ?_; (case B => k_asm); (case F => k_asm); (case X => k_asm); (case T => k_asm); (case N => k_asm); (case U => k_updF); (case ok => first | with_reducible assumption | exact src_made (Int.le_refl _) | exact src_made (by omega)); (case hk => first | exact rfl | assumption); (case hd => ktr_room); (case hu => ktr_units); (case hb => k_mem); (case hab => k_ne); (case hob => exact ⟨_, rfl⟩); (case hi => (repeat' (first | exact IntsAre.nil | refine' IntsAre.cons _ _ ?_))); (case n0 => exact Nat.succ_pos _); (case n1 => exact Nat.le_of_ble_eq_true rfl)); intro r' t' h' tk' o' r0' ok' F' N'; (first | replace r0' := mem_begin r0' | replace r0' := mem_far r0'); (try dsimp only at N'); (try k_sweep)))
local macro_rules | `(tactic| walk_at "call ref") => `(tactic| (k_here; (with_reducible show wpAny _ _ (call (Value.ref 88) [Value.ref _]) _ _ _); k_dflt (refine' codes_rule ?B ?F ?X ?T ?N ?U ?ok ?hk ?hd ?hu ?_; (case B => k_asm); (case F => k_asm); (case X => k_asm); (case T => k_asm); (case N => k_asm); (case U => k_updF); (case ok => first | with_reducible assumption | exact src_made (Int.le_refl _) | exact src_made (by omega)); (case hk => first | exact rfl | assumption); (case hd => ktr_room); (case hu => ktr_units)); intro D' oD' kvs' h' tk' o' es' dn' hz' lo' hd' hv' ok' F' N'; (try dsimp only at N'); (try k_sweep)))
local macro_rules | `(tactic| walk_at "eval ListComp") => `(tactic| (k_here; k_dflt (refine' comp_over (fun k => decide (65535 < k)) ?F ?hh ?hclos ?hcell ?hkind ?hnames ?hx ?_ ?hs; (case F => k_asm); (case hh => exact rfl); (case hclos => with_unfolding_all rfl); (case hcell => decide); (case hkind => rfl); (case hnames => decide); (case hx => rfl); (case hs => intro _; with_unfolding_all rfl))))
local macro_rules | `(tactic| walk_at "CompOver") => `(tactic| (k_here; k_dflt (refine' CompOver.intro ?C ?z ?F ?N ?g1 ?g2 ?g3; (case C => (refine' codes_here ?cn ?cm ?cl ?cd ?cv; (case cn => k_asm); (case cm => k_mem); (case cl => with_reducible assumption); (case cd => with_reducible assumption); (case cv => with_reducible assumption))); (case z => refine Nat.lt_of_le_of_lt ?zz (by decide : 5 < 64); (with_reducible assumption)); (case F => k_asm); (case N => k_asm)); (case' g1 => intro C' k' t' s' m' E' F' hm'); (case' g2 => intro C' k' t' s' m' E' F' hm'); (case' g3 => intro D' ys' c' h' tk' F' N' hy'; (try k_sweep))))
local macro_rules | `(tactic| walk_at "eval Name") => `(tactic| (k_here; (with_reducible show wpAny _ _ (eval (Expr.Name _ _) (compEnvC _ _ _ _)) _ _ _); k_dflt (refine' comp_name ?F ?v ?k ?l ?d ?_; (case F => with_reducible assumption); (case v => with_reducible assumption); (case k => rfl); (case l => rfl); (case d => decide))))
local macro_rules | `(tactic| walk_at "call builtin:len") => `(tactic| (k_here; (with_reducible show wpAny _ _ (call (Value.builtin "len") [Value.ref _]) _ _ _); k_dflt (refine' len_great ?N ?m ?y ?z ?_; (case N => k_asm); (case m => k_mem); (case y => with_reducible assumption); (case z => with_reducible assumption)); intro n' t' tk' gr'; (try k_sweep)))
set_option maxRecDepth 100000 in
set_option maxHeartbeats 8000000 in
theorem law_holds : PySem.Challenge.rw_xm0707_01.Holds := by
  refine Mine.hd ?_
  w_strict (k_go0; (all_goals try k_fold); k_steps; all_goals (walk_at "CompOver"); k_steps)
end Mine
end

theorem PySem.Challenge.cw_xm0707_01_holds : PySem.Challenge.rw_xm0707_01.Holds := by
  exact Mine.law_holds
