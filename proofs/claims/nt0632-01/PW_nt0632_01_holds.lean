import PyProof.Rows.All
import Wide.All
import OpenK.AllK
import Wide.FinOn
import PySem.Challenge.RW_nt0632_01
set_option Elab.async false
set_option compiler.extract_closed false
open PySem PySem.Spec PySem.W PySem.Calls PyProof.Rows
namespace Mine
section
-- the head: what the text's run leaves is shown in two kernel steps (its looks: seenV; the written heap: within hd)
theorem left_two {p q : Program} {loose : List Str} {Xt : Shared → Bool} {α : Type} {Yf : Shared → α} {Ya : World → α} {N : Nat} {g0 : Bool} (e : opening p = plainProg p.main.scope.names) (hN : Nat.ble 600 N = true) (f : ∀ s, fenceModules? p s = some s)
    (h1 : ∀ (w : World) (os : OsState), (topFrom treeTable p w N ⟨boot_heap w.params, Array.mk [], boot_drawn, boot_toks, os⟩).map (fun s => openSeen q loose (importedModules p.main.body) Xt g0 s) = some (openGood q loose))
    (h2 : ∀ (w : World) (os : OsState), (topFrom treeTable p w N ⟨boot_heap w.params, Array.mk [], boot_drawn, boot_toks, os⟩).map Yf = some (Ya w)) : LeftO p q loose Xt Yf Ya N g0 := by
  intro w
  obtain ⟨s, hs, hv⟩ := Option.map_eq_some_iff.mp (boot_open e hN f w)
  obtain ⟨hh, g, d, tk, os⟩ := s
  simp only [Prod.mk.injEq] at hv
  obtain ⟨rfl, rfl, rfl, rfl⟩ := hv
  obtain ⟨t, ht, g1⟩ := Option.map_eq_some_iff.mp (h1 w os)
  have g2 := h2 w os
  rw [ht] at g2
  unfold openEnds
  rw [hs]
  show (topFrom treeTable p w N _).map _ = _
  rw [ht]
  exact congrArg some (Prod.ext g1 (Option.some.inj g2))
def myView : Program := PySem.W.view Challenge.rw_nt0632_01.row.prog [0, 2, 3, 4, 5, 6, 7, 8, 9, 10, 11, 12, 14, 15, 16, 17, 18, 20, 21, 22, 23, 24, 25, 26, 27, 28, 29, 30]
theorem seenV : ∀ (w : World) (os : OsState), (topFrom treeTable Challenge.rw_nt0632_01.row.prog w 2384 ⟨boot_heap w.params, Array.mk [], boot_drawn, boot_toks, os⟩).map (fun s => openSeen myView [] (importedModules Challenge.rw_nt0632_01.row.prog.main.body) (fun s => xlAt myView [] s && recOk Challenge.rw_nt0632_01.row.records s) true s) = some (openGood myView []) := by
  intro w os; delta topFrom topStub
  rw [PySem.W.Fast.te14082659384304107361]; kernel_rfl
section
local macro_rules | `(tactic| refine $f:ident (q := $q) (loose := $l) $as*) => `(tactic| (refine' $f (q := $q) (loose := $l) $as*; (case hl => (refine left_two ?a ?b ?c ?d ?e; (case a => kernel_rfl); (case b => kernel_rfl); (case c => (intro s; kernel_rfl)); (case d => (refine Eq.mp ?d1 seenV; (case d1 => kernel_rfl))); (case e => (intro w os; delta topFrom topStub; rw [PySem.W.Fast.te14082659384304107361]; kernel_rfl))))))
set_option maxRecDepth 100000 in
set_option maxHeartbeats 8000000 in
open_top hd for PySem.Challenge.rw_nt0632_01
end
end
section
def LeaveR (g : Heap) (s : Shared) (Post : Value → List (Addr × Obj) → Prop) (v : Value) (s' : Shared) : Prop :=
  ∃ L' m' news', Fr g L' s'.heap m' ∧ News g L' s'.heap news' ∧ (∃ h' tk', s' = { s with heap := h', toks := tk' }) ∧ Post v news'
theorem LeaveR.mk {g : Heap} {s : Shared} {Post : Value → List (Addr × Obj) → Prop} {v : Value} {h' : Heap} {tk' : Nat} {L' : Addr} {m' : Str → Option Value} {news' : List (Addr × Obj)} (F : Fr g L' h' m') (N : News g L' h' news') (p : Post v news') :
    LeaveR g s Post v { s with heap := h', toks := tk' } := ⟨L', m', news', F, N, ⟨h', tk', rfl⟩, p⟩
def Spec (f : Addr) (dn un₁ : Nat) (news : List (Addr × Obj)) (args : List Value) (Post : Value → List (Addr × Obj) → Prop) : Prop :=
  ∀ (w : World) (mean : ExcName → Option Value) (mg mb : Str → Option Value) (dp un : Nat) (gd : Option (List Code)) (cn : Str) (cs : Scope) (a : Addr) (ccd : Value) (cl : List (Str × Addr)) (outer : List Env) (A₀ : Around) (base h₀ : Heap) (L : Addr) (m : Str → Option Value) (s : Shared) (rest : List (Addr × Obj)) (Q E : Value → Shared → Prop),
    Below A₀ base outer h₀ → Fr h₀ L s.heap m → (hd.heap_39 w.params).In h₀ → News h₀ L s.heap (news ++ rest) → (∀ p ∈ news, ∀ q ∈ rest, p.1 ≠ q.1) → Top hd.view_39 (looseW hd.view_39 []) mean mg mb h₀ → cs.kind = .function → dp + dn < recursionLimit → un + un₁ < cLine →
    (∀ r h' tk' news', Fr h₀ L h' m → News h₀ L h' (news' ++ rest) → (∀ p ∈ news', ∀ q ∈ rest, p.1 ≠ q.1) → Post r news' → Q r { s with heap := h', toks := tk' }) →
    wpAny (model Challenge.rw_nt0632_01.row.prog w) (ktrTop dp un gd cn cs L a ccd cl outer) (call (.ref f) args) Q E s
theorem enterR {prog : Program} {w : World} {A A₀ : Around} {E : Value → Shared → Prop} {s : Shared} {K : Frag} {L : Addr} {h₀ base : Heap} {m mg mb : Str → Option Value} {news rest : List (Addr × Obj)} {p : Program} {loose : List Str} {mean : ExcName → Option Value} {Q : Value → Shared → Prop} {Post : Value → List (Addr × Obj) → Prop}
    {env : Env} {outer : List Env} {name qual : Str} {params : Arguments} {body : List Stmt} {scope : Scope} {dV kV doc pm cdv ct oc : Value} {an od : Option Addr} {osl : Array (Option Value)} {f : Addr} {pos : List Value} {binds : List (Str × Value)}
    (B : Below A₀ base outer h₀) (F : Fr h₀ L s.heap m) (X₀ : K.In h₀) (N : News h₀ L s.heap (news ++ rest)) (D : ∀ p ∈ news, ∀ q ∈ rest, p.1 ≠ q.1) (T : Top p loose mean mg mb h₀) (hA : A.frames = some (env :: outer)) (hf : env.frame = some L) (hke : env.scope.kind = .function)
    (ho : K.lookup f = some ⟨oc, od, .func (fnOf name qual params body scope dV kV doc pm an cdv ct), osl⟩) (hcd : codeIn K cdv qual = true) (hroom : A.depth < recursionLimit)
    (hbind : BindsTo s (fnOf name qual params body scope dV kV doc pm an cdv ct) ⟨pos, []⟩ binds) (hloc : ∀ y ∈ binds, scope.names.lookup y.1 = some .local)
    (hret : ∀ r h' tk' news', Fr h₀ L h' m → News h₀ L h' (news' ++ rest) → (∀ p ∈ news', ∀ q ∈ rest, p.1 ≠ q.1) → Post r news' → Q r { s with heap := h', toks := tk' })
    (h : ∀ g L' h₁, Fr g L' h₁ (fun y => binds.reverse.lookup y) → News g L' h₁ news → Below A base (env :: outer) g → K.In g → Top p loose mean mg mb g → (∀ p ∈ news, p.1 < L') →
      wpAny (model prog w) (A.deeper (envOf qual scope L' f cdv)) (execs body (envOf qual scope L' f cdv))
        (fun fl s' => LeaveR g s Post (match fl with | .ret v => v | _ => .none) s') (fun _ _ => False)
        { s with heap := h₁, toks := s.toks + binds.length })
    (hco : scope.isCoroutine = false) (hgen : scope.isGenerator = false) (hk : scope.kind = .function)
    (hcell : ∀ x ∈ scope.names, x.2 ≠ .cell) : wpAny (model prog w) A (call (.ref f) pos) Q E s := by
  have N₁ : News h₀ L s.heap news := fun p hp => N p (List.mem_append_left _ hp)
  refine wpAny_call ?_
  obtain ⟨FG, BG, st, _⟩ := groundX (R := fun _ _ => True) B F N₁ hA hf hke
  refine codeAny_call_def (fd := fnOf name qual params body scope dV kV doc pm an cdv ct) (body := body) (binds := binds) hroom ((X₀.keeps F.keep) _ _ ho) rfl (T.nolimit.keeps F.keep) (codeRec_of (X₀.keeps F.keep) hcd) rfl hbind hcell hloc (fun h₁ hns hk₁ => ?_) hco hgen hk
  refine wpAny_mono (h _ s.heap.objs.size h₁ ⟨hns, fun b o e => hk₁ b o (of_hideAll _ e), Nat.le_of_eq (hideAll_size _ _)⟩
    (fun p hp => ⟨hk₁ _ _ (N₁ p hp).1, Nat.ne_of_lt (Heap.lt_size (N₁ p hp).1), hideAll_none _ (List.mem_map_of_mem hp)⟩) BG (X₀.keeps st) (T.keeps st) (fun p hp => Heap.lt_size (N₁ p hp).1)) (fun fl s' hl => ?_) fun _ _ y => y.elim
  obtain ⟨L', m', news', F', N', ⟨h', tk', rfl⟩, hp⟩ := hl
  have keepR : ∀ q ∈ rest, (hideAll s.heap (news.map (·.1))).get? q.1 = some q.2 := fun q hq => by
    refine hideAll_get _ (N q (List.mem_append_right _ hq)).1 fun hm => ?_
    obtain ⟨p, hp, e⟩ := List.mem_map.mp hm
    exact D p hp q hq e
  obtain ⟨_, _, _, lv⟩ := groundX (R := fun r s' => Fr h₀ L s'.heap m ∧ News h₀ L s'.heap news') B F N₁ hA hf hke
  obtain ⟨F₂, N₂⟩ := lv (Value.none) { s with heap := h', toks := tk' } ⟨L', m', news', F', N', fun a b => ⟨a, b⟩⟩
  refine hret _ h' tk' news' F₂ (fun p hp => ?_) (fun p hp q hq e => ?_) hp
  · rcases List.mem_append.mp hp with hp | hp
    · exact N₂ p hp
    · exact ⟨F'.keep _ _ (keepR p hp), (N p (List.mem_append_right _ hp)).2⟩
  · have h1 := (N' p hp).2.2
    rw [e, keepR q hq] at h1
    cases h1
end
section
abbrev RetI (z : Int) : Value → List (Addr × Obj) → Prop := fun r nn => nn = [] ∧ ∃ t, r = .int z t
abbrev RetV (v : Value) : Value → List (Addr × Obj) → Prop := fun r nn => nn = [] ∧ r = v
def AllNe (d : Addr) : List (Addr × Obj) → Prop
  | [] => True
  | p :: r => @Ne Nat p.1 d ∧ AllNe d r
theorem allNe_of {d : Addr} : ∀ {l : List (Addr × Obj)}, (∀ p ∈ l, d ≠ p.1) → AllNe d l
  | [], _ => trivial
  | p :: _, h => ⟨fun e => h p (.head _) e.symm, allNe_of fun q hq => h q (.tail _ hq)⟩
section
variable {f : Addr} {dn un₁ : Nat} {args : List Value} {Post : Value → List (Addr × Obj) → Prop}
  {w : World} {mean : ExcName → Option Value} {mg mb : Str → Option Value} {dp un : Nat} {gd : Option (List Code)} {cn : Str} {cs : Scope} {a : Addr} {ccd : Value} {cl : List (Str × Addr)} {outer : List Env} {A₀ : Around} {base h₀ : Heap} {L : Addr} {m : Str → Option Value} {s : Shared} {Q E : Value → Shared → Prop}
  {news rest all : List (Addr × Obj)}
theorem use0 (C : Spec f dn un₁ [] args Post) (B : Below A₀ base outer h₀) (F : Fr h₀ L s.heap m) (X : (hd.heap_39 w.params).In h₀) (N : News h₀ L s.heap all) (T : Top hd.view_39 (looseW hd.view_39 []) mean mg mb h₀) (hk : cs.kind = .function) (hd : dp + dn < recursionLimit) (hu : un + un₁ < cLine)
    (ret : ∀ r h' tk' news', Fr h₀ L h' m → News h₀ L h' (news' ++ all) → (∀ p ∈ news', AllNe p.1 all) → Post r news' → Q r { s with heap := h', toks := tk' }) :
    wpAny (model Challenge.rw_nt0632_01.row.prog w) (ktrTop dp un gd cn cs L a ccd cl outer) (call (.ref f) args) Q E s :=
  C w mean mg mb dp un gd cn cs a ccd cl outer A₀ base h₀ L m s all Q E B F X N (fun _ h => nomatch h) T hk hd hu fun r h' tk' nn F' N' D' p => ret r h' tk' nn F' N' (fun x hx => allNe_of (D' x hx)) p
theorem useV {v : Value} (C : Spec f dn un₁ [] args (RetV v)) (B : Below A₀ base outer h₀) (F : Fr h₀ L s.heap m) (X : (hd.heap_39 w.params).In h₀) (N : News h₀ L s.heap all) (T : Top hd.view_39 (looseW hd.view_39 []) mean mg mb h₀) (hk : cs.kind = .function) (hd : dp + dn < recursionLimit) (hu : un + un₁ < cLine)
    (ret : ∀ h' tk', Fr h₀ L h' m → News h₀ L h' all → Q v { s with heap := h', toks := tk' }) :
    wpAny (model Challenge.rw_nt0632_01.row.prog w) (ktrTop dp un gd cn cs L a ccd cl outer) (call (.ref f) args) Q E s :=
  use0 C B F X N T hk hd hu fun r h' tk' nn F' N' _ ⟨e, e'⟩ => by
    subst e; subst e'
    exact ret h' tk' F' N'
theorem useI {z : Int} (C : Spec f dn un₁ [] args (RetI z)) (B : Below A₀ base outer h₀) (F : Fr h₀ L s.heap m) (X : (hd.heap_39 w.params).In h₀) (N : News h₀ L s.heap all) (T : Top hd.view_39 (looseW hd.view_39 []) mean mg mb h₀) (hk : cs.kind = .function) (hd : dp + dn < recursionLimit) (hu : un + un₁ < cLine)
    (ret : ∀ t h' tk', Fr h₀ L h' m → News h₀ L h' all → Q (.int z t) { s with heap := h', toks := tk' }) :
    wpAny (model Challenge.rw_nt0632_01.row.prog w) (ktrTop dp un gd cn cs L a ccd cl outer) (call (.ref f) args) Q E s :=
  use0 C B F X N T hk hd hu fun r h' tk' nn F' N' _ ⟨e, t, e'⟩ => by
    subst e; subst e'
    exact ret t h' tk' F' N'
theorem useN (C : Spec f dn un₁ news args Post) (B : Below A₀ base outer h₀) (F : Fr h₀ L s.heap m) (X : (hd.heap_39 w.params).In h₀) (N : News h₀ L s.heap all) (hm : ∀ p ∈ news ++ rest, p ∈ all) (D : ∀ p ∈ news, ∀ q ∈ rest, p.1 ≠ q.1) (T : Top hd.view_39 (looseW hd.view_39 []) mean mg mb h₀) (hk : cs.kind = .function) (hd : dp + dn < recursionLimit) (hu : un + un₁ < cLine)
    (ret : ∀ r h' tk' news', Fr h₀ L h' m → News h₀ L h' (news' ++ rest) → (∀ p ∈ news', AllNe p.1 rest) → Post r news' → Q r { s with heap := h', toks := tk' }) :
    wpAny (model Challenge.rw_nt0632_01.row.prog w) (ktrTop dp un gd cn cs L a ccd cl outer) (call (.ref f) args) Q E s :=
  C w mean mg mb dp un gd cn cs a ccd cl outer A₀ base h₀ L m s rest Q E B F X (fun p hp => N p (hm p hp)) D T hk hd hu fun r h' tk' nn F' N' D' p => ret r h' tk' nn F' N' (fun x hx => allNe_of (D' x hx)) p
end
end
section
open Builtin
theorem gives_bytes_contains (b : Array UInt8) (t u : Tok) (i : Int) (h0 : 0 ≤ i) (h1 : i < 256) : Gives (Builtin.«bytes.__contains__» ⟨[.bytes b t, .int i u], []⟩) (.val (.bool (b.contains i.toNat.toUInt8))) := by
  refine .of_wp fun M A E s Q hq => ?_
  show wpAny M A (Bytes.containsIn "bytes.__contains__" (.bytes b t) (.int i u) >>= fun r => ret (.bool r)) _ E s
  unfold Bytes.containsIn
  rw [KBy.buffer_eq]
  refine wpAny_bind ?_
  show wpAny M A (if (decide (i < 0) || decide (i ≥ 256)) = true then _ else pure (b.contains i.toNat.toUInt8)) _ E s
  rw [if_neg (by simp; omega)]
  exact wpAny_pure (wpAny_pure ⟨_, rfl, hq⟩)
theorem in_bytes {prog : Program} {w : World} {A : Around} {E : Value → Shared → Prop} {s : Shared} {b : Array UInt8} {t u : Tok} {i : Int} {Q : Value → Shared → Prop} (h0 : 0 ≤ i) (h1 : i < 256) (h : Q (.bool (b.contains i.toNat.toUInt8)) s) :
    wpAny (model prog w) A (compareOp .In (.int i u) (.bytes b t)) Q E s :=
  in_gives (typeIs_bytes s b t) FB.slot_bytes_contains FB.entry_bytes_contains (FB.args_bytes_contains_2 _ _) (gives_bytes_contains b t u i h0 h1) h
end
local macro_rules | `(tactic| walk_at "ENTER0") => `(tactic| (
  unfold Spec
  k_fill
  intro w mean mg mb dp un gd cn cs a ccd cl outer A₀ base h₀ L m s rest Q E B F X N D T hk hd hu hret
  k_dflt (refine' enterR ?k1 ?k2 ?k3 ?k4 ?kD ?k5 ?kA ?kF ?kK ?k6 ?k7 ?k8 ?k9 ?kB hret ?_ ?c2 ?c3 ?c4 ?c5; (case kA => exact rfl); (case kF => exact rfl); (case kK => assumption); (case k1 => k_asm); (case k2 => k_asm); (case k3 => k_asm); (case k4 => k_asm); (case kD => k_asm); (case k5 => k_asm); (case k6 => k_is); (case k7 => k_is); (case k8 => ktr_room); (case k9 => exact BindsTo.of_eq rfl); (case c5 => decide); (case kB => exact locs rfl); (case c2 => exact rfl); (case c3 => exact rfl); (case c4 => exact rfl); k_whole; intro g' L' h' F' N' B' X' T' l1')
  clear hret F N D B X T
  (try dsimp only)
  k_fold
  (try (rename (∀ p ∈ (_ : List (Addr × Obj)), p.1 < _) => l1; k_lt l1))))
local macro_rules | `(tactic| walk_at "ENTER") => `(tactic| (walk_at "ENTER0"; k_steps))
local macro_rules | `(tactic| walk_at "END") => `(tactic| (refine' LeaveR.mk ?e2 ?e3 ?e1; (case e2 => k_asm); (case e3 => k_asm); (try dsimp only)))
section
theorem ret_int {x y : Int} {t : Tok} (e : x = y) : ∃ t', Value.int x t = Value.int y t' := ⟨t, by rw [e]⟩
local macro_rules | `(tactic| walk_at "INT") => `(tactic| refine' ⟨rfl, ret_int ?_⟩)
theorem pw_sub (wd : Int) (h1 : 2 ≤ wd) : (wd - 1).toNat = wd.toNat - 1 := by omega
def wrapZ (n wd : Int) : Int := if n % 2 ^ wd.toNat ≥ 2 ^ (wd.toNat - 1) then n % 2 ^ wd.toNat - 2 ^ wd.toNat else n % 2 ^ wd.toNat
theorem wrap_a {n wd : Int} (h1 : 2 ≤ wd) (h : 1 * 2 ^ (wd - 1).toNat ≤ Builtin.bitAnd n (1 * 2 ^ wd.toNat - 1)) : Builtin.bitAnd n (1 * 2 ^ wd.toNat - 1) - 1 * 2 ^ wd.toNat = wrapZ n wd := by
  simp only [Int.one_mul, kbt_mask, pw_sub wd h1] at *
  unfold wrapZ
  rw [if_pos h]
theorem wrap_b {n wd : Int} (h1 : 2 ≤ wd) (h : ¬ 1 * 2 ^ (wd - 1).toNat ≤ Builtin.bitAnd n (1 * 2 ^ wd.toNat - 1)) : Builtin.bitAnd n (1 * 2 ^ wd.toNat - 1) = wrapZ n wd := by
  simp only [Int.one_mul, kbt_mask, pw_sub wd h1] at *
  unfold wrapZ
  rw [if_neg h]
set_option maxRecDepth 100000 in
set_option maxHeartbeats 8000000 in
theorem wrap_spec (n wd : Int) (t1 t2 : Tok) (h1 : 2 ≤ wd) (h2 : wd ≤ 64) : Spec 71 1 8 [] [.int n t1, .int wd t2] (RetI (wrapZ n wd)) := by
  w_top off
  k_with_none
  walk_at "ENTER"
  all_goals walk_at "END"
  all_goals refine ⟨rfl, ret_int ?_⟩
  · exact wrap_a h1 (by assumption)
  · exact wrap_b h1 (by first | assumption | omega)
theorem fmod_pow (n : Int) (k : Nat) : n.fmod (2 ^ k) = n % 2 ^ k := Int.fmod_eq_emod_of_nonneg n (Int.le_of_lt (kbt_pos k))
theorem sign_a {n wd : Int} (h1 : 2 ≤ wd) (h : 2 ^ (wd - 1).toNat ≤ n.fmod (2 ^ wd.toNat)) : n.fmod (2 ^ wd.toNat) - 2 ^ wd.toNat = wrapZ n wd := by
  simp only [fmod_pow, pw_sub wd h1] at *
  unfold wrapZ
  rw [if_pos h]
theorem sign_b {n wd : Int} (h1 : 2 ≤ wd) (h : ¬ 2 ^ (wd - 1).toNat ≤ n.fmod (2 ^ wd.toNat)) : n.fmod (2 ^ wd.toNat) = wrapZ n wd := by
  simp only [fmod_pow, pw_sub wd h1] at *
  unfold wrapZ
  rw [if_neg h]
set_option maxRecDepth 100000 in
set_option maxHeartbeats 8000000 in
theorem signed_spec (n wd : Int) (t1 t2 : Tok) (h1 : 2 ≤ wd) (h2 : wd ≤ 64) : Spec 167 1 8 [] [.int n t1, .int wd t2] (RetI (wrapZ n wd)) := by
  w_top off
  k_with_none
  walk_at "ENTER"
  all_goals first | walk_at "END" | w_report
  all_goals walk_at "INT"
  · exact sign_a h1 (by assumption)
  · exact sign_b h1 (by first | assumption | omega)
def digitZ (c : Int) : Int := if 48 ≤ c ∧ c ≤ 57 then c - 48 else if 97 ≤ c ∧ c ≤ 122 then c - 87 else if 65 ≤ c ∧ c ≤ 90 then c - 55 else -1
set_option maxRecDepth 100000 in
set_option maxHeartbeats 8000000 in
theorem digit_spec (c : Int) (t1 : Tok) (h0 : 0 ≤ c) (h1 : c < 256) : Spec 85 1 8 [] [.int c t1] (RetI (digitZ c)) := by
  w_top off
  k_with_none
  walk_at "ENTER"
  all_goals first | walk_at "END" | w_report
  all_goals walk_at "INT"
  all_goals (unfold digitZ; (try simp only [decide_eq_true_eq, decide_eq_false_iff_not, Bool.not_eq_true, Bool.not_eq_false] at *))
  all_goals ((repeat' split) <;> omega)
def goesZ (n lim st : Int) : Bool := if st > 0 then decide (n ≤ lim) else decide (lim ≤ n)
set_option maxRecDepth 100000 in
set_option maxHeartbeats 8000000 in
theorem goes_spec (n lim st : Int) (t1 t2 t3 : Tok) : Spec 146 1 8 [] [.int n t1, .int lim t2, .int st t3] (RetV (.bool (goesZ n lim st))) := by
  w_top off
  k_with_none
  walk_at "ENTER"
  all_goals first | walk_at "END" | w_report
  all_goals (refine ⟨rfl, ?_⟩)
  all_goals ((try simp only [decide_eq_true_eq, decide_eq_false_iff_not, Bool.not_eq_true, Bool.not_eq_false] at *))
  all_goals (unfold goesZ; split <;> first | rfl | omega)
set_option maxRecDepth 100000 in
set_option maxHeartbeats 8000000 in
theorem isnum_int (n : Int) (t1 : Tok) : Spec 64 1 8 [] [.int n t1] (RetV (.bool true)) := by
  w_top off
  k_with_none
  walk_at "ENTER"
  all_goals first | walk_at "END" | w_report
  all_goals (refine ⟨rfl, ?_⟩)
  all_goals rfl
set_option maxRecDepth 100000 in
set_option maxHeartbeats 8000000 in
theorem isnum_bool (b : Bool) : Spec 64 1 8 [] [.bool b] (RetV (.bool false)) := by
  w_top off
  k_with_none
  walk_at "ENTER"
  all_goals first | walk_at "END" | w_report
  all_goals (refine ⟨rfl, ?_⟩)
  all_goals rfl
set_option maxRecDepth 100000 in
set_option maxHeartbeats 8000000 in
theorem isnum_none : Spec 64 1 8 [] [.none] (RetV (.bool false)) := by
  w_top off
  k_with_none
  walk_at "ENTER"
  all_goals first | walk_at "END" | w_report
  all_goals (refine ⟨rfl, ?_⟩)
  all_goals rfl
set_option maxRecDepth 100000 in
set_option maxHeartbeats 8000000 in
theorem isnum_bytes (b : Array UInt8) (t1 : Tok) : Spec 64 1 8 [] [.bytes b t1] (RetV (.bool false)) := by
  w_top off
  k_with_none
  walk_at "ENTER"
  all_goals first | walk_at "END" | w_report
  all_goals (refine ⟨rfl, ?_⟩)
  all_goals rfl
local macro_rules | `(tactic| walk_at "compareOp In int bytes") => `(tactic| (k_here; k_dflt (refine' in_bytes ?a ?b ?_; (case a => assumption); (case b => assumption); k_whole)))
def blankB (c : Int) : Bool := decide (c = 32 ∨ (9 ≤ c ∧ c ≤ 13))
theorem blank_in (c : Int) (h0 : 0 ≤ c) (h1 : c < 256) : (#[32, 9, 10, 11, 12, 13] : Array UInt8).contains c.toNat.toUInt8 = blankB c := by
  have : ∀ n : Fin 256, (#[32, 9, 10, 11, 12, 13] : Array UInt8).contains (n.val).toUInt8 = blankB (n.val : Nat) := by decide +kernel
  have h := this ⟨c.toNat, by omega⟩
  simp only at h
  rw [Int.toNat_of_nonneg h0] at h
  exact h
set_option maxRecDepth 100000 in
set_option maxHeartbeats 8000000 in
theorem blank_spec (c : Int) (t1 : Tok) (h0 : 0 ≤ c) (h1 : c < 256) : Spec 78 1 8 [] [.int c t1] (RetV (.bool (blankB c))) := by
  w_top off
  k_with_none
  walk_at "ENTER"
  all_goals first | walk_at "END" | w_report
  all_goals (refine ⟨rfl, ?_⟩)
  exact congrArg Value.bool (blank_in c h0 h1)
end
local macro_rules | `(tactic| walk_at "INT") => `(tactic| refine' ⟨rfl, ret_int ?_⟩)
local macro_rules | `(tactic| walk_at "LEDALL") => `(tactic| first | exact List.forall_mem_nil _ | (refine' List.forall_mem_cons.mpr ⟨?a, ?b⟩; (case a => k_memK); (case b => walk_at "LEDALL")))
local macro_rules | `(tactic| walk_at "PSALL") => `(tactic| first | exact List.forall_mem_nil _ | (refine' List.forall_mem_cons.mpr ⟨?a, ?b⟩; (case a => with_unfolding_all rfl); (case b => walk_at "PSALL")))
local macro_rules | `(tactic| walk_at "call ref") => `(tactic| k_extra "call ref")
section
set_option maxRecDepth 100000 in
set_option maxHeartbeats 8000000 in
theorem before_spec (f st wd : Int) (t1 t2 t3 : Tok) (h1 : 2 ≤ wd) (h2 : wd ≤ 64) : Spec 139 2 16 [] [.int f t1, .int st t2, .int wd t3] (RetI (wrapZ (f - st) wd)) := by
  w_top off
  k_with_none
  k_with "call ref" => (k_here; (with_reducible show wpAny _ _ (call (Value.ref 71) [Value.int _ _, Value.int _ _]) _ _ _); k_dflt (refine' useI (wrap_spec _ _ _ _ (by omega) (by omega)) (by k_asm) (by k_asm) (by k_asm) (by k_asm) (by k_asm) (by first | exact rfl | assumption) (by ktr_room) (by ktr_units) ?_; k_whole); intro t9 h9 tk9 F9 N9; (try dsimp only); (try k_fold))
  k_with "call ref" => (k_here; (with_reducible show wpAny _ _ (call (Value.ref 146) [Value.int _ _, Value.int _ _, Value.int _ _]) _ _ _); k_dflt (refine' useV (goes_spec _ _ _ _ _ _) (by k_asm) (by k_asm) (by k_asm) (by k_asm) (by k_asm) (by first | exact rfl | assumption) (by ktr_room) (by ktr_units) ?_; k_whole); intro h9 tk9 F9 N9; (try dsimp only); (try k_fold))
  k_with "call ref" => (k_here; (with_reducible show wpAny _ _ (call (Value.ref 78) [Value.int _ _]) _ _ _); k_dflt (refine' useV (blank_spec _ _ (by first | assumption | exact u8_lo _ | omega) (by first | assumption | exact u8_hi _ | omega)) (by k_asm) (by k_asm) (by k_asm) (by k_asm) (by k_asm) (by first | exact rfl | assumption) (by ktr_room) (by ktr_units) ?_; k_whole); intro h9 tk9 F9 N9; (try dsimp only); (try k_fold))
  k_with "call ref" => (k_here; (with_reducible show wpAny _ _ (call (Value.ref 85) [Value.int _ _]) _ _ _); k_dflt (refine' useI (digit_spec _ _ (by first | assumption | exact u8_lo _ | omega) (by first | assumption | exact u8_hi _ | omega)) (by k_asm) (by k_asm) (by k_asm) (by k_asm) (by k_asm) (by first | exact rfl | assumption) (by ktr_room) (by ktr_units) ?_; k_whole); intro t9 h9 tk9 F9 N9; (try dsimp only); (try k_fold))
  walk_at "ENTER"
  all_goals first | walk_at "END" | w_report
  all_goals (refine ⟨rfl, ?_⟩)
  exact ret_int rfl
set_option maxRecDepth 100000 in
set_option maxHeartbeats 8000000 in
theorem next_specA (n lim st wd : Int) (t1 t2 t3 t4 : Tok) (h1 : 2 ≤ wd) (h2 : wd ≤ 64) (hg : goesZ (wrapZ (n + st) wd) lim st = true) : Spec 153 2 16 [] [.int n t1, .int lim t2, .int st t3, .int wd t4] (RetI (wrapZ (n + st) wd)) := by
  w_top off
  k_with_none
  k_with "call ref" => (k_here; (with_reducible show wpAny _ _ (call (Value.ref 71) [Value.int _ _, Value.int _ _]) _ _ _); k_dflt (refine' useI (wrap_spec _ _ _ _ (by omega) (by omega)) (by k_asm) (by k_asm) (by k_asm) (by k_asm) (by k_asm) (by first | exact rfl | assumption) (by ktr_room) (by ktr_units) ?_; k_whole); intro t9 h9 tk9 F9 N9; (try dsimp only); (try k_fold))
  k_with "call ref" => (k_here; (with_reducible show wpAny _ _ (call (Value.ref 146) [Value.int _ _, Value.int _ _, Value.int _ _]) _ _ _); k_dflt (refine' useV (goes_spec _ _ _ _ _ _) (by k_asm) (by k_asm) (by k_asm) (by k_asm) (by k_asm) (by first | exact rfl | assumption) (by ktr_room) (by ktr_units) ?_; k_whole); intro h9 tk9 F9 N9; (try dsimp only); (try k_fold))
  k_with "call ref" => (k_here; (with_reducible show wpAny _ _ (call (Value.ref 78) [Value.int _ _]) _ _ _); k_dflt (refine' useV (blank_spec _ _ (by first | assumption | exact u8_lo _ | omega) (by first | assumption | exact u8_hi _ | omega)) (by k_asm) (by k_asm) (by k_asm) (by k_asm) (by k_asm) (by first | exact rfl | assumption) (by ktr_room) (by ktr_units) ?_; k_whole); intro h9 tk9 F9 N9; (try dsimp only); (try k_fold))
  k_with "call ref" => (k_here; (with_reducible show wpAny _ _ (call (Value.ref 85) [Value.int _ _]) _ _ _); k_dflt (refine' useI (digit_spec _ _ (by first | assumption | exact u8_lo _ | omega) (by first | assumption | exact u8_hi _ | omega)) (by k_asm) (by k_asm) (by k_asm) (by k_asm) (by k_asm) (by first | exact rfl | assumption) (by ktr_room) (by ktr_units) ?_; k_whole); intro t9 h9 tk9 F9 N9; (try dsimp only); (try k_fold))
  walk_at "ENTER"
  all_goals first | walk_at "END" | w_report
  all_goals (refine ⟨rfl, ?_⟩)
  all_goals first | exact ret_int rfl | (exfalso; simp_all; done)
set_option maxRecDepth 100000 in
set_option maxHeartbeats 8000000 in
theorem next_specB (n lim st wd : Int) (t1 t2 t3 t4 : Tok) (h1 : 2 ≤ wd) (h2 : wd ≤ 64) (hg : goesZ (wrapZ (n + st) wd) lim st = false) : Spec 153 2 16 [] [.int n t1, .int lim t2, .int st t3, .int wd t4] (RetV .none) := by
  w_top off
  k_with_none
  k_with "call ref" => (k_here; (with_reducible show wpAny _ _ (call (Value.ref 71) [Value.int _ _, Value.int _ _]) _ _ _); k_dflt (refine' useI (wrap_spec _ _ _ _ (by omega) (by omega)) (by k_asm) (by k_asm) (by k_asm) (by k_asm) (by k_asm) (by first | exact rfl | assumption) (by ktr_room) (by ktr_units) ?_; k_whole); intro t9 h9 tk9 F9 N9; (try dsimp only); (try k_fold))
  k_with "call ref" => (k_here; (with_reducible show wpAny _ _ (call (Value.ref 146) [Value.int _ _, Value.int _ _, Value.int _ _]) _ _ _); k_dflt (refine' useV (goes_spec _ _ _ _ _ _) (by k_asm) (by k_asm) (by k_asm) (by k_asm) (by k_asm) (by first | exact rfl | assumption) (by ktr_room) (by ktr_units) ?_; k_whole); intro h9 tk9 F9 N9; (try dsimp only); (try k_fold))
  k_with "call ref" => (k_here; (with_reducible show wpAny _ _ (call (Value.ref 78) [Value.int _ _]) _ _ _); k_dflt (refine' useV (blank_spec _ _ (by first | assumption | exact u8_lo _ | omega) (by first | assumption | exact u8_hi _ | omega)) (by k_asm) (by k_asm) (by k_asm) (by k_asm) (by k_asm) (by first | exact rfl | assumption) (by ktr_room) (by ktr_units) ?_; k_whole); intro h9 tk9 F9 N9; (try dsimp only); (try k_fold))
  k_with "call ref" => (k_here; (with_reducible show wpAny _ _ (call (Value.ref 85) [Value.int _ _]) _ _ _); k_dflt (refine' useI (digit_spec _ _ (by first | assumption | exact u8_lo _ | omega) (by first | assumption | exact u8_hi _ | omega)) (by k_asm) (by k_asm) (by k_asm) (by k_asm) (by k_asm) (by first | exact rfl | assumption) (by ktr_room) (by ktr_units) ?_; k_whole); intro t9 h9 tk9 F9 N9; (try dsimp only); (try k_fold))
  walk_at "ENTER"
  all_goals first | walk_at "END" | w_report
  all_goals (refine ⟨rfl, ?_⟩)
  all_goals first | rfl | (exfalso; simp_all; done)
end
section
local macro_rules | `(tactic| walk_at "PAD") => `(tactic| fail "pad")
theorem u8_lo (c : UInt8) : 0 ≤ ((c.toNat : Nat) : Int) := by omega
theorem u8_hi (c : UInt8) : ((c.toNat : Nat) : Int) < 256 := by have := c.toNat_lt; omega
def skipL : List UInt8 → Nat → Nat
  | [], n => n
  | c :: r, n => if blankB c.toNat = true then skipL r (n + 1) else n
theorem skip_next (l : List UInt8) (k : Nat) (h : k < l.length) (hb : blankB ((l.getD k 0).toNat : Nat) = true) : skipL (l.drop k) k = skipL (l.drop (k + 1)) (k + 1) := by
  rw [List.drop_eq_getElem_cons h]
  have e : l.getD k 0 = l[k] := by rw [List.getD_eq_getElem?_getD, List.getElem?_eq_getElem h]; rfl
  rw [e] at hb
  rw [skipL, if_pos hb]
theorem skip_stop (l : List UInt8) (k : Nat) (h : k < l.length) (hb : blankB ((l.getD k 0).toNat : Nat) = false) : skipL (l.drop k) k = k := by
  rw [List.drop_eq_getElem_cons h]
  have e : l.getD k 0 = l[k] := by rw [List.getD_eq_getElem?_getD, List.getElem?_eq_getElem h]; rfl
  rw [e] at hb
  rw [skipL, if_neg (by rw [hb]; decide)]
theorem skip_end (l : List UInt8) (k : Nat) (h : l.length ≤ k) : skipL (l.drop k) k = k := by
  rw [List.drop_eq_nil_of_le h, skipL]
theorem skip_word {l : List UInt8} {i k : Int} (h0 : 0 ≤ k) (hr : skipL (l.drop k.toNat) k.toNat = skipL (l.drop i.toNat) i.toNat) (hlt : k < (l.toArray.size : Nat)) (hb : blankB ((l.getD k.toNat 0).toNat : Nat) = true) :
    0 ≤ k + 1 ∧ k + 1 ≤ l.length ∧ skipL (l.drop (k + 1).toNat) (k + 1).toNat = skipL (l.drop i.toNat) i.toNat := by
  rw [List.size_toArray] at hlt
  have e : (k + 1).toNat = k.toNat + 1 := by omega
  refine ⟨by omega, by omega, ?_⟩
  rw [e, ← skip_next l k.toNat (by omega) hb, hr]
theorem skip_out1 {l : List UInt8} {i k : Int} (h0 : 0 ≤ k) (hr : skipL (l.drop k.toNat) k.toNat = skipL (l.drop i.toNat) i.toNat) (hlt : k < (l.toArray.size : Nat)) (hb : blankB ((l.getD k.toNat 0).toNat : Nat) = false) : k = ((skipL (l.drop i.toNat) i.toNat : Nat) : Int) := by
  rw [List.size_toArray] at hlt
  rw [← hr, skip_stop l k.toNat (by omega) hb]
  omega
theorem skip_out2 {l : List UInt8} {i k : Int} (h0 : 0 ≤ k) (hr : skipL (l.drop k.toNat) k.toNat = skipL (l.drop i.toNat) i.toNat) (hlt : ¬ k < (l.toArray.size : Nat)) : k = ((skipL (l.drop i.toNat) i.toNat : Nat) : Int) := by
  rw [List.size_toArray] at hlt
  rw [← hr, skip_end l k.toNat (by omega)]
  omega
set_option maxRecDepth 100000 in
set_option maxHeartbeats 8000000 in
theorem skip_spec (l : List UInt8) (i : Int) (t1 t2 : Tok) (hl : l.length ≤ 200) (h0 : 0 ≤ i) (h1 : i ≤ l.length) : Spec 99 2 16 [] [.bytes l.toArray t1, .int i t2] (RetI (skipL (l.drop i.toNat) i.toNat)) := by
  w_top off
  k_with_none
  k_with "call ref" => (k_here; (with_reducible show wpAny _ _ (call (Value.ref 71) [Value.int _ _, Value.int _ _]) _ _ _); k_dflt (refine' useI (wrap_spec _ _ _ _ (by omega) (by omega)) (by k_asm) (by k_asm) (by k_asm) (by k_asm) (by k_asm) (by first | exact rfl | assumption) (by ktr_room) (by ktr_units) ?_; k_whole); intro t9 h9 tk9 F9 N9; (try dsimp only); (try k_fold))
  k_with "call ref" => (k_here; (with_reducible show wpAny _ _ (call (Value.ref 146) [Value.int _ _, Value.int _ _, Value.int _ _]) _ _ _); k_dflt (refine' useV (goes_spec _ _ _ _ _ _) (by k_asm) (by k_asm) (by k_asm) (by k_asm) (by k_asm) (by first | exact rfl | assumption) (by ktr_room) (by ktr_units) ?_; k_whole); intro h9 tk9 F9 N9; (try dsimp only); (try k_fold))
  k_with "call ref" => (k_here; (with_reducible show wpAny _ _ (call (Value.ref 78) [Value.int _ _]) _ _ _); k_dflt (refine' useV (blank_spec _ _ (by first | assumption | exact u8_lo _ | omega) (by first | assumption | exact u8_hi _ | omega)) (by k_asm) (by k_asm) (by k_asm) (by k_asm) (by k_asm) (by first | exact rfl | assumption) (by ktr_room) (by ktr_units) ?_; k_whole); intro h9 tk9 F9 N9; (try dsimp only); (try k_fold))
  k_with "call ref" => (k_here; (with_reducible show wpAny _ _ (call (Value.ref 85) [Value.int _ _]) _ _ _); k_dflt (refine' useI (digit_spec _ _ (by first | assumption | exact u8_lo _ | omega) (by first | assumption | exact u8_hi _ | omega)) (by k_asm) (by k_asm) (by k_asm) (by k_asm) (by k_asm) (by first | exact rfl | assumption) (by ktr_room) (by ktr_units) ?_; k_whole); intro t9 h9 tk9 F9 N9; (try dsimp only); (try k_fold))
  walk_at "ENTER0"
  k_with "state" => exact skip_word (by assumption) (by assumption) (by assumption) (by assumption)
  k_with "exec While BoolOp cons nil" => k_while (fun _ at_ => 0 ≤ at_ ∧ at_ ≤ l.length ∧ skipL (l.drop at_.toNat) at_.toNat = skipL (l.drop i.toNat) i.toNat) (fun _ at_ => (l.length - at_).toNat) "at"
  k_steps
  all_goals first | walk_at "END" | w_report
  all_goals (refine ⟨rfl, ret_int ?_⟩)
  all_goals first | exact skip_out1 (by assumption) (by assumption) (by assumption) (by assumption) | exact skip_out2 (by assumption) (by assumption) (by assumption)
end
section
def readL (base : Int) : List UInt8 → Int → Nat → Int × Nat
  | [], f, n => (f, n)
  | c :: r, f, n => if digitZ c.toNat < 0 ∨ digitZ c.toNat ≥ base then (f, n) else readL base r (f * base + digitZ c.toNat) (n + 1)
theorem read_next (base : Int) (l : List UInt8) (k : Nat) (f : Int) (h : k < l.length) (h1 : ¬ digitZ ((l.getD k 0).toNat : Nat) < 0) (h2 : ¬ digitZ ((l.getD k 0).toNat : Nat) ≥ base) : readL base (l.drop k) f k = readL base (l.drop (k + 1)) (f * base + digitZ ((l.getD k 0).toNat : Nat)) (k + 1) := by
  rw [List.drop_eq_getElem_cons h]
  have e : l.getD k 0 = l[k] := by rw [List.getD_eq_getElem?_getD, List.getElem?_eq_getElem h]; rfl
  rw [e] at h1 h2 ⊢
  rw [readL, if_neg (by omega)]
theorem read_stop (base : Int) (l : List UInt8) (k : Nat) (f : Int) (h : k < l.length) (hb : digitZ ((l.getD k 0).toNat : Nat) < 0 ∨ digitZ ((l.getD k 0).toNat : Nat) ≥ base) : readL base (l.drop k) f k = (f, k) := by
  rw [List.drop_eq_getElem_cons h]
  have e : l.getD k 0 = l[k] := by rw [List.getD_eq_getElem?_getD, List.getElem?_eq_getElem h]; rfl
  rw [e] at hb
  rw [readL, if_pos hb]
theorem read_end (base : Int) (l : List UInt8) (k : Nat) (f : Int) (h : l.length ≤ k) : readL base (l.drop k) f k = (f, k) := by
  rw [List.drop_eq_nil_of_le h, readL]
def Pair2 (v1 v2 : Tok → Value) : Value → List (Addr × Obj) → Prop := fun r nn => ∃ a t1 t2 n, r = .ref a ∧ nn = [(a, ({ cls := .type "tuple", data := .seq #[v1 t1, v2 t2] n } : Obj))]
theorem pair_mk {a : Addr} {x1 x2 y1 y2 : Int} {t1 t2 : Tok} {n : Nat} (e1 : x1 = y1) (e2 : x2 = y2) : Pair2 (fun t => .int y1 t) (fun t => .int y2 t) (.ref a) [(a, ({ cls := .type "tuple", data := .seq #[.int x1 t1, .int x2 t2] n } : Obj))] := by
  subst e1; subst e2
  exact ⟨_, _, _, _, rfl, rfl⟩
theorem read_word {l : List UInt8} {b f k : Int} {Z : Int × Nat} (h0 : 0 ≤ k) (hr : readL b (l.drop k.toNat) f k.toNat = Z) (hlt : k < (l.toArray.size : Nat)) (hb : ¬ digitZ ((l.getD k.toNat 0).toNat : Nat) < 0) (hb2 : ¬ b ≤ digitZ ((l.getD k.toNat 0).toNat : Nat)) :
    0 ≤ k + 1 ∧ k + 1 ≤ l.length ∧ readL b (l.drop (k + 1).toNat) (f * b + digitZ ((l.getD k.toNat 0).toNat : Nat)) (k + 1).toNat = Z := by
  rw [List.size_toArray] at hlt
  have e : (k + 1).toNat = k.toNat + 1 := by omega
  refine ⟨by omega, by omega, ?_⟩
  rw [e, ← read_next b l k.toNat f (by omega) hb (by omega), hr]
theorem read_outA {l : List UInt8} {b f k : Int} {Z : Int × Nat} (h0 : 0 ≤ k) (hr : readL b (l.drop k.toNat) f k.toNat = Z) (e : readL b (l.drop k.toNat) f k.toNat = (f, k.toNat)) : f = Z.1 ∧ k = ((Z.2 : Nat) : Int) := by
  rw [e] at hr
  subst hr
  exact ⟨rfl, by simp only; omega⟩
theorem read_out1 {l : List UInt8} {b f k : Int} {Z : Int × Nat} (h0 : 0 ≤ k) (hr : readL b (l.drop k.toNat) f k.toNat = Z) (hlt : k < (l.toArray.size : Nat)) (hb : digitZ ((l.getD k.toNat 0).toNat : Nat) < 0) : f = Z.1 ∧ k = ((Z.2 : Nat) : Int) := by
  rw [List.size_toArray] at hlt
  exact read_outA h0 hr (read_stop b l k.toNat f (by omega) (.inl hb))
theorem read_out2 {l : List UInt8} {b f k : Int} {Z : Int × Nat} (h0 : 0 ≤ k) (hr : readL b (l.drop k.toNat) f k.toNat = Z) (hlt : k < (l.toArray.size : Nat)) (hb : b ≤ digitZ ((l.getD k.toNat 0).toNat : Nat)) : f = Z.1 ∧ k = ((Z.2 : Nat) : Int) := by
  rw [List.size_toArray] at hlt
  exact read_outA h0 hr (read_stop b l k.toNat f (by omega) (.inr hb))
theorem read_out3 {l : List UInt8} {b f k : Int} {Z : Int × Nat} (h0 : 0 ≤ k) (hr : readL b (l.drop k.toNat) f k.toNat = Z) (hlt : ¬ k < (l.toArray.size : Nat)) : f = Z.1 ∧ k = ((Z.2 : Nat) : Int) := by
  rw [List.size_toArray] at hlt
  exact read_outA h0 hr (read_end b l k.toNat f (by omega))
set_option maxRecDepth 100000 in
set_option maxHeartbeats 8000000 in
theorem read_spec (l : List UInt8) (i b : Int) (t1 t2 t3 : Tok) (hl : l.length ≤ 200) (h0 : 0 ≤ i) (h1 : i ≤ l.length) (hb1 : 2 ≤ b) (hb2 : b ≤ 16) : Spec 92 2 16 [] [.bytes l.toArray t1, .int i t2, .int b t3] (Pair2 (fun t => .int (readL b (l.drop i.toNat) 0 i.toNat).1 t) (fun t => .int ((readL b (l.drop i.toNat) 0 i.toNat).2 : Nat) t)) := by
  w_top off
  k_with_none
  k_with "call ref" => (k_here; (with_reducible show wpAny _ _ (call (Value.ref 85) [Value.int _ _]) _ _ _); k_dflt (refine' useI (digit_spec _ _ (by first | assumption | exact u8_lo _ | omega) (by first | assumption | exact u8_hi _ | omega)) (by k_asm) (by k_asm) (by k_asm) (by k_asm) (by k_asm) (by first | exact rfl | assumption) (by ktr_room) (by ktr_units) ?_; k_whole); intro t9 h9 tk9 F9 N9; (try dsimp only); (try k_fold))
  walk_at "ENTER0"
  k_with "state" => exact read_word (by assumption) (by assumption) (by assumption) (by assumption) (by assumption)
  k_with "exec While Compare cons nil" => k_while (fun _ f at_ => 0 ≤ at_ ∧ at_ ≤ l.length ∧ readL b (l.drop at_.toNat) f at_.toNat = readL b (l.drop i.toNat) 0 i.toNat) (fun _ f at_ => (l.length - at_).toNat) "found" "at"
  k_steps
  all_goals first | walk_at "END" | w_report
  all_goals first
    | exact pair_mk (read_out1 (by assumption) (by assumption) (by assumption) (by assumption)).1 (read_out1 (by assumption) (by assumption) (by assumption) (by assumption)).2
    | exact pair_mk (read_out2 (by assumption) (by assumption) (by assumption) (by assumption)).1 (read_out2 (by assumption) (by assumption) (by assumption) (by assumption)).2
    | exact pair_mk (read_out3 (by assumption) (by assumption) (by assumption)).1 (read_out3 (by assumption) (by assumption) (by assumption)).2
end
section
theorem wp_append {M : Model} {Γ : PySem.Ctx} {env : Env} (post : List Stmt) (E : Value → Pos → Shared → Prop) : ∀ (pre : List Stmt) (Q : Flow → Pos → Shared → Prop) (p : Pos) (s : Shared),
    Sem.wp M Γ (execs pre env) (fun f p' s' => match f with | .next => Sem.wp M Γ (execs post env) Q E p' s' | f => Q f p' s') E p s → Sem.wp M Γ (execs (pre ++ post) env) Q E p s
  | [], Q, p, s, h => h
  | st :: pre, Q, p, s, h => by
    rw [List.cons_append, execs_cons, Sem.wp_bind']
    rw [execs_cons, Sem.wp_bind'] at h
    refine Sem.wp_mono M Γ _ (fun f p' s' h' => ?_) (fun _ _ _ h' => h') _ _ h
    cases f with
    | next => exact wp_append post E pre Q p' s' h'
    | ret v => exact h'
    | brk => exact h'
    | cont => exact h'
theorem any_append {M : Model} {A : Around} {env : Env} {pre post : List Stmt} {Q : Flow → Shared → Prop} {E : Value → Shared → Prop} {s : Shared}
    (h : wpAny M A (execs pre env) (fun f s' => match f with | .next => wpAny M A (execs post env) Q E s' | f => Q f s') E s) : wpAny M A (execs (pre ++ post) env) Q E s := fun Γ p hΓ => by
  refine wp_append post _ pre _ p s (Sem.wp_mono M Γ _ (fun f p' s' h' => ?_) (fun _ _ _ h' => h') _ _ (h Γ p hΓ))
  cases f with
  | next => exact h' Γ p' hΓ
  | ret v => exact h'
  | brk => exact h'
  | cont => exact h'
def Mid {σ : Type} (g : Heap) (L : Addr) (s : Shared) (ps : σ → List (Str × Value)) (Led : σ → List (Addr × Obj)) (P : σ → Prop) (f : Flow) (s' : Shared) : Prop :=
  f = .next ∧ ∃ c h' tk' m' news', s' = { s with heap := h', toks := tk' } ∧ Fr g L h' m' ∧ News g L h' news' ∧ (∀ p ∈ ps c, m' p.1 = some p.2) ∧ (∀ e ∈ Led c, e ∈ news') ∧ P c
theorem Mid.mk {σ : Type} {g : Heap} {L : Addr} {s : Shared} {ps : σ → List (Str × Value)} {Led : σ → List (Addr × Obj)} {P : σ → Prop} {h' : Heap} {tk' : Nat} {m' : Str → Option Value} {news' : List (Addr × Obj)} (c : σ)
    (F : Fr g L h' m') (N : News g L h' news') (hp : ∀ p ∈ ps c, m' p.1 = some p.2) (hl : ∀ e ∈ Led c, e ∈ news') (p : P c) : Mid g L s ps Led P .next { s with heap := h', toks := tk' } :=
  ⟨rfl, c, h', tk', m', news', rfl, F, N, hp, hl, p⟩
theorem fr_kst {g h : Heap} {L : Addr} {m : Str → Option Value} {ps : List (Str × Value)} (F : Fr g L h m) (h1 : ∀ p ∈ ps, m p.1 = some p.2) : Fr g L h (kstB m ps) := by
  have e : kstB m ps = m := funext fun y => kstB_eq h1 fun _ => rfl
  rw [e]
  exact F
theorem midCut {σ : Type} {M : Model} {A : Around} {env : Env} {pre post : List Stmt} {Q : Flow → Shared → Prop} {E : Value → Shared → Prop} {s s₀ : Shared} {g : Heap} {L : Addr} (ps : σ → List (Str × Value)) (Led : σ → List (Addr × Obj)) (P : σ → Prop)
    (h : wpAny M A (execs pre env) (Mid g L s₀ ps Led P) (fun _ _ => False) s)
    (k : ∀ c u h' tk', P c → Fr g L h' (kstB u (ps c)) → News g L h' (Led c) → wpAny M A (execs post env) Q E { s₀ with heap := h', toks := tk' }) : wpAny M A (execs (pre ++ post) env) Q E s := by
  refine any_append (wpAny_mono h (fun f s' hm => ?_) fun _ _ x => x.elim)
  obtain ⟨rfl, c, h', tk', m', news', rfl, F, N, hp, hl, p⟩ := hm
  exact k c m' h' tk' p (fr_kst F hp) fun e he => N e (hl e he)
theorem midCut2 {σ : Type} {M : Model} {A : Around} {env : Env} {body post : List Stmt} {s1 s2 : Stmt} {Q : Flow → Shared → Prop} {E : Value → Shared → Prop} {s : Shared} {g : Heap} {L : Addr} {m₀ : Str → Option Value} (hb : body = s1 :: s2 :: post) (F₀ : Fr g L s.heap m₀) (ps : σ → List (Str × Value)) (Led : σ → List (Addr × Obj)) (P : σ → Prop)
    (h : wpAny M A (execs [s1, s2] env) (Mid g L s ps Led P) (fun _ _ => False) s)
    (k : ∀ c u h' tk', P c → Fr g L h' (kstB u (ps c)) → News g L h' (Led c) → wpAny M A (execs post env) Q E { s with heap := h', toks := tk' }) : wpAny M A (execs body env) Q E s := by
  subst hb
  exact midCut (pre := [s1, s2]) (post := post) ps Led P h k
theorem in_two {x y : UInt8} (i : Int) (h0 : 0 ≤ i) (h1 : i < 256) : (#[x, y] : Array UInt8).contains i.toNat.toUInt8 = decide (i = (x.toNat : Nat) ∨ i = (y.toNat : Nat)) := by
  have hx := x.toNat_lt
  have hy := y.toNat_lt
  have e : ∀ z : UInt8, (i.toNat.toUInt8 = z) ↔ i = (z.toNat : Nat) := fun z => by
    rw [← UInt8.toNat_inj]
    have : (i.toNat.toUInt8).toNat = i.toNat := by
      show i.toNat % 256 = i.toNat
      omega
    rw [this]
    omega
  rw [Bool.eq_iff_iff, Array.contains_iff_mem, decide_eq_true_iff]
  simp only [List.mem_toArray, List.mem_cons, List.not_mem_nil, or_false, e]
theorem in_bytes2 {prog : Program} {w : World} {A : Around} {E : Value → Shared → Prop} {s : Shared} {x y : UInt8} {t u : Tok} {i : Int} {Q : Value → Shared → Prop} (h0 : 0 ≤ i) (h1 : i < 256) (h : Q (.bool (decide (i = (x.toNat : Nat) ∨ i = (y.toNat : Nat)))) s) :
    wpAny (model prog w) A (compareOp .In (.int i u) (.bytes #[x, y] t)) Q E s := in_bytes h0 h1 (by rw [in_two i h0 h1]; exact h)
end
local macro_rules | `(tactic| walk_at "MID3") => `(tactic| (k_dflt (refine' Mid.mk (_, _, _) ?F ?N ?ps ?led ?P; (case F => k_asm); (case N => k_asm); (case ps => walk_at "PSALL"); (case led => walk_at "LEDALL"); (try dsimp only))))
local macro_rules | `(tactic| walk_at "MID4") => `(tactic| (k_dflt (refine' Mid.mk (_, _, _, _) ?F ?N ?ps ?led ?P; (case F => k_asm); (case N => k_asm); (case ps => walk_at "PSALL"); (case led => walk_at "LEDALL"); (try dsimp only))))
local macro_rules | `(tactic| walk_at "ENDD") => `(tactic| (refine' LeaveR.mk ?e2 ?e3 ?e1; (case e2 => k_asm); (case e1 => (refine' ⟨rfl, ?_⟩; (try dsimp only); k_extra "answer")); (case e3 => first | k_asm | (refine' cb_drop ?cbN ?cbS; (case cbN => assumption); (case cbS => walk_at "LEDALL")))))
local macro_rules | `(tactic| walk_at "SAME") => `(tactic| (intro z h1 h2 h3; first | rfl | ((have h4 := h3); (simp only [List.contains_cons, List.contains_nil, Bool.or_false, Bool.or_eq_false_iff, beq_eq_false_iff_ne, ne_eq] at h4); (try simp only [List.forall_mem_cons, List.not_mem_nil, false_implies, implies_true, and_true, ne_eq] at h2); (try simp only [kstB, h3, Bool.false_eq_true, if_false]); first | done | (simp [h1, h2, h4]; done) | (simp [h1, h2, h4, kstB]; done))))
section
local macro_rules | `(tactic| walk_at "compareOp In int bytes") => `(tactic| (k_here; k_dflt (first | (refine' in_bytes2 ?a ?b ?_; (case a => first | assumption | exact u8_lo _); (case b => first | assumption | exact u8_hi _)) | (refine' in_bytes ?a ?b ?_; (case a => first | assumption | exact u8_lo _); (case b => first | assumption | exact u8_hi _)); k_whole)))
local macro_rules | `(tactic| walk_at "getAttr ref") => `(tactic| (k_here; k_dflt (refine' get_own ?k1 ?k2 ?k3 ?k4 ?k5 ?k6 ?k7 ?k8 ?k9 ?_; (case k1 => k_asm); (case k2 => k_asm); (case k3 => k_inst); (case k4 => k_is); (case k5 => k_is); (case k6 => k_is); (case k7 => k_is); (case k8 => assumption); (case k9 => k_handed); k_whole)))
theorem skip_ge : ∀ (l : List UInt8) (n : Nat), n ≤ skipL l n ∧ skipL l n ≤ n + l.length
  | [], n => ⟨Nat.le_refl _, Nat.le_refl _⟩
  | c :: r, n => by
    rw [skipL]
    split
    · have := skip_ge r (n + 1)
      simp only [List.length_cons]
      omega
    · simp only [List.length_cons]; omega
def byteZ (l : List UInt8) (k : Nat) : Int := ((l.getD k 0).toNat : Nat)
def signAt (l : List UInt8) (a : Nat) : Int × Bool := if (a : Int) < l.length ∧ (byteZ l a = 43 ∨ byteZ l a = 45) then (a + 1, byteZ l a == 45) else (a, false)
theorem sign_1 {l : List UInt8} {a : Nat} (hlt : (a : Int) < (l.toArray.size : Nat)) (h : (((l.getD (a : Int).toNat 0).toNat : Nat) : Int) = (UInt8.toNat 43 : Nat) ∨ (((l.getD (a : Int).toNat 0).toNat : Nat) : Int) = (UInt8.toNat 45 : Nat)) :
    0 ≤ (a : Int) + 1 ∧ (a : Int) + 1 ≤ l.length ∧ ((a : Int) + 1, ((((l.getD (a : Int).toNat 0).toNat : Nat) : Int) == 45)) = signAt l a := by
  rw [List.size_toArray] at hlt
  refine ⟨by omega, by omega, ?_⟩
  unfold signAt byteZ
  rw [Int.toNat_natCast] at *
  rw [if_pos ⟨hlt, h⟩]
theorem sign_2 {l : List UInt8} {a : Nat} (hlt : (a : Int) < (l.toArray.size : Nat)) (h : ¬ ((((l.getD (a : Int).toNat 0).toNat : Nat) : Int) = (UInt8.toNat 43 : Nat) ∨ (((l.getD (a : Int).toNat 0).toNat : Nat) : Int) = (UInt8.toNat 45 : Nat))) :
    0 ≤ (a : Int) ∧ (a : Int) ≤ l.length ∧ ((a : Int), false) = signAt l a := by
  rw [List.size_toArray] at hlt
  refine ⟨by omega, by omega, ?_⟩
  unfold signAt byteZ
  rw [Int.toNat_natCast] at *
  rw [if_neg fun q => h q.2]
theorem sign_3 {l : List UInt8} {a : Nat} (hlt : ¬ (a : Int) < (l.toArray.size : Nat)) (h : a ≤ l.length) : 0 ≤ (a : Int) ∧ (a : Int) ≤ l.length ∧ ((a : Int), false) = signAt l a := by
  rw [List.size_toArray] at hlt
  refine ⟨by omega, by omega, ?_⟩
  unfold signAt
  rw [if_neg fun q => hlt q.1]
theorem skip0_le (l : List UInt8) : skipL (l.drop (0 : Int).toNat) (0 : Int).toNat ≤ l.length := by
  have := (skip_ge l 0).2
  simpa using this
def markAt (l : List UInt8) (a : Int) : Int × Int :=
  if a + 2 < l.length ∧ byteZ l a.toNat = 48 ∧ (byteZ l (a + 1).toNat = 120 ∨ byteZ l (a + 1).toNat = 88) ∧ 0 ≤ digitZ (byteZ l (a + 2).toNat) ∧ digitZ (byteZ l (a + 2).toNat) < 16 then (a + 2, 16) else (a, 0)
theorem mark_yes {l : List UInt8} {a : Int} (h0 : 0 ≤ a) (x1 : a + 2 < (l.toArray.size : Nat)) (x2 : (((l.getD a.toNat 0).toNat : Nat) : Int) = 48) (x3 : (((l.getD (a + 1).toNat 0).toNat : Nat) : Int) = (UInt8.toNat 120 : Nat) ∨ (((l.getD (a + 1).toNat 0).toNat : Nat) : Int) = (UInt8.toNat 88 : Nat))
    (x4 : 0 ≤ digitZ ((l.getD (a + 2).toNat 0).toNat : Nat)) (x5 : digitZ ((l.getD (a + 2).toNat 0).toNat : Nat) < 16) : 0 ≤ a + 2 ∧ a + 2 ≤ l.length ∧ (a + 2, 16) = markAt l a := by
  rw [List.size_toArray] at x1
  refine ⟨by omega, by omega, ?_⟩
  unfold markAt byteZ
  rw [if_pos ⟨x1, x2, x3, x4, x5⟩]
theorem mark_no {l : List UInt8} {a : Int} (h0 : 0 ≤ a) (h1 : a ≤ l.length) (x : ¬ (a + 2 < (l.toArray.size : Nat) ∧ (((l.getD a.toNat 0).toNat : Nat) : Int) = 48 ∧ ((((l.getD (a + 1).toNat 0).toNat : Nat) : Int) = (UInt8.toNat 120 : Nat) ∨ (((l.getD (a + 1).toNat 0).toNat : Nat) : Int) = (UInt8.toNat 88 : Nat)) ∧
    0 ≤ digitZ ((l.getD (a + 2).toNat 0).toNat : Nat) ∧ digitZ ((l.getD (a + 2).toNat 0).toNat : Nat) < 16)) : 0 ≤ a ∧ a ≤ l.length ∧ (a, 0) = markAt l a := by
  rw [List.size_toArray] at x
  refine ⟨h0, h1, ?_⟩
  unfold markAt byteZ
  exact (if_neg x).symm
theorem mark_base {l : List UInt8} {a a2 b2 : Int} (h : (a2, b2) = markAt l a) : b2 = 0 ∨ b2 = 16 := by
  unfold markAt at h
  split at h <;> (cases h; simp)
theorem read_bound (b : Int) : ∀ (l : List UInt8) (f : Int) (n : Nat), n ≤ (readL b l f n).2 ∧ (readL b l f n).2 ≤ n + l.length
  | [], f, n => ⟨Nat.le_refl _, Nat.le_refl _⟩
  | c :: r, f, n => by
    rw [readL]
    split
    · simp only [List.length_cons]; omega
    · have := read_bound b r (f * b + digitZ c.toNat) (n + 1)
      simp only [List.length_cons]
      omega
theorem read_leI {b f : Int} {l : List UInt8} {k : Nat} (h : k ≤ l.length) : (((readL b (l.drop k) f k).2 : Nat) : Int) ≤ l.length := by
  have := (read_bound b (l.drop k) f k).2
  rw [List.length_drop] at this
  omega
def optV : Option Int → Tok → Value
  | some z, t => .int z t
  | none, _ => .none
def parseB (l : List UInt8) (wd : Int) (a2 b : Int) (neg : Bool) : Option Int :=
  if ((readL b (l.drop a2.toNat) 0 a2.toNat).2 : Int) = a2 ∨ ((skipL (l.drop (readL b (l.drop a2.toNat) 0 a2.toNat).2) (readL b (l.drop a2.toNat) 0 a2.toNat).2 : Nat) : Int) ≠ l.length then none
  else some (wrapZ (if neg = true then -(readL b (l.drop a2.toNat) 0 a2.toNat).1 else (readL b (l.drop a2.toNat) 0 a2.toNat).1) wd)
def parseZ (l : List UInt8) (wd : Int) : Option Int :=
  parseB l wd (markAt l (signAt l (skipL (l.drop (0 : Int).toNat) (0 : Int).toNat)).1).1 (if (markAt l (signAt l (skipL (l.drop (0 : Int).toNat) (0 : Int).toNat)).1).2 = 0 then 10 else 16) (signAt l (skipL (l.drop (0 : Int).toNat) (0 : Int).toNat)).2
theorem parse_at0 {l : List UInt8} {wd a1 a2 : Int} {bl : Bool} (hs : (a1, bl) = signAt l (skipL (l.drop (0 : Int).toNat) (0 : Int).toNat)) (hm : (a2, 0) = markAt l a1) : parseZ l wd = parseB l wd a2 10 bl := by
  unfold parseZ
  rw [← hs]
  dsimp only
  rw [← hm]
  rfl
theorem parse_at16 {l : List UInt8} {wd a1 a2 : Int} {bl : Bool} (hs : (a1, bl) = signAt l (skipL (l.drop (0 : Int).toNat) (0 : Int).toNat)) (hm : (a2, 16) = markAt l a1) : parseZ l wd = parseB l wd a2 16 bl := by
  unfold parseZ
  rw [← hs]
  dsimp only
  rw [← hm]
  rfl
theorem parseB_n1 {l : List UInt8} {wd a2 b : Int} {neg : Bool} (h : ((readL b (l.drop a2.toNat) 0 a2.toNat).2 : Int) = a2) : parseB l wd a2 b neg = none := if_pos (.inl h)
theorem parseB_n2 {l : List UInt8} {wd a2 b : Int} {neg : Bool} (h : ((skipL (l.drop ((readL b (l.drop a2.toNat) 0 a2.toNat).2 : Int).toNat) ((readL b (l.drop a2.toNat) 0 a2.toNat).2 : Int).toNat : Nat) : Int) ≠ (l.toArray.size : Nat)) : parseB l wd a2 b neg = none := if_pos (.inr h)
theorem parseB_s {l : List UInt8} {wd a2 b : Int} {neg : Bool} (h : ((readL b (l.drop a2.toNat) 0 a2.toNat).2 : Int) ≠ a2) (h2 : ((skipL (l.drop ((readL b (l.drop a2.toNat) 0 a2.toNat).2 : Int).toNat) ((readL b (l.drop a2.toNat) 0 a2.toNat).2 : Int).toNat : Nat) : Int) = (l.toArray.size : Nat)) :
    parseB l wd a2 b neg = some (wrapZ (if neg = true then -(readL b (l.drop a2.toNat) 0 a2.toNat).1 else (readL b (l.drop a2.toNat) 0 a2.toNat).1) wd) := if_neg fun q => q.elim h fun q => q h2
theorem parse_r1 {l : List UInt8} {wd a2 b : Int} {neg : Bool} (e : parseZ l wd = parseB l wd a2 b neg) (h : parseB l wd a2 b neg = none) : ∃ t, Value.none = optV (parseZ l wd) t := ⟨0, by rw [e, h]; rfl⟩
theorem parse_r2 {l : List UInt8} {wd a2 b : Int} {neg : Bool} {t : Tok} (e : parseZ l wd = parseB l wd a2 b neg) (h1 : ((readL b (l.drop a2.toNat) 0 a2.toNat).2 : Int) ≠ a2) (h2 : ((skipL (l.drop ((readL b (l.drop a2.toNat) 0 a2.toNat).2 : Int).toNat) ((readL b (l.drop a2.toNat) 0 a2.toNat).2 : Int).toNat : Nat) : Int) = (l.toArray.size : Nat)) (h3 : neg = true) :
    ∃ t', Value.int (wrapZ (-(readL b (l.drop a2.toNat) 0 a2.toNat).1) wd) t = optV (parseZ l wd) t' := ⟨t, by rw [e, parseB_s h1 h2, if_pos h3]; rfl⟩
theorem parse_r3 {l : List UInt8} {wd a2 b : Int} {neg : Bool} {t : Tok} (e : parseZ l wd = parseB l wd a2 b neg) (h1 : ((readL b (l.drop a2.toNat) 0 a2.toNat).2 : Int) ≠ a2) (h2 : ((skipL (l.drop ((readL b (l.drop a2.toNat) 0 a2.toNat).2 : Int).toNat) ((readL b (l.drop a2.toNat) 0 a2.toNat).2 : Int).toNat : Nat) : Int) = (l.toArray.size : Nat)) (h3 : neg = false) :
    ∃ t', Value.int (wrapZ ((readL b (l.drop a2.toNat) 0 a2.toNat).1) wd) t = optV (parseZ l wd) t' := ⟨t, by rw [e, parseB_s h1 h2, if_neg (by rw [h3]; decide)]; rfl⟩
set_option maxRecDepth 100000 in
set_option maxHeartbeats 8000000 in
theorem text_spec (l : List UInt8) (wd : Int) (lx dx : Addr) (es : List DictEntry) (kn : Nat) (t1 t2 t3 : Tok) (hl : l.length ≤ 200) (h1 : 2 ≤ wd) (h2 : wd ≤ 64) (he : getL (Str.ofString "width") es = some (some (.int wd t3))) (hne : @Ne Nat lx dx) :
    Spec 113 3 24 [(lx, instObj 53 dx), (dx, dictOf es kn)] [.bytes l.toArray t1, .int 0 t2, .ref lx] (fun r nn => nn = [(lx, instObj 53 dx), (dx, dictOf es kn)] ∧ ∃ t, r = optV (parseZ l wd) t) := by
  w_top off
  k_with_none
  k_with "call ref" => (k_here; (with_reducible show wpAny _ _ (call (Value.ref 71) _) _ _ _); k_dflt (refine' useI (wrap_spec _ _ _ _ (by omega) (by omega)) (by k_asm) (by k_asm) (by k_asm) (by k_asm) (by k_asm) (by first | exact rfl | assumption) (by ktr_room) (by ktr_units) ?_; k_whole); intro t9 h9 tk9 F9 N9; (try dsimp only); (try k_fold))
  k_with "call ref" => (k_here; (with_reducible show wpAny _ _ (call (Value.ref 85) _) _ _ _); k_dflt (refine' useI (digit_spec _ _ (by first | assumption | exact u8_lo _ | omega) (by first | assumption | exact u8_hi _ | omega)) (by k_asm) (by k_asm) (by k_asm) (by k_asm) (by k_asm) (by first | exact rfl | assumption) (by ktr_room) (by ktr_units) ?_; k_whole); intro t9 h9 tk9 F9 N9; (try dsimp only); (try k_fold))
  k_with "call ref" => (k_here; (with_reducible show wpAny _ _ (call (Value.ref 99) _) _ _ _); k_dflt (refine' useI (skip_spec _ _ _ _ (by assumption) (by first | assumption | omega) (by first | assumption | omega | exact read_leI (by omega))) (by k_asm) (by k_asm) (by k_asm) (by k_asm) (by k_asm) (by first | exact rfl | assumption) (by ktr_room) (by ktr_units) ?_; k_whole); intro t9 h9 tk9 F9 N9; (try dsimp only); (try k_fold))
  k_with "call ref" => (k_here; (with_reducible show wpAny _ _ (call (Value.ref 92) _) _ _ _); k_dflt (refine' use0 (read_spec _ _ _ _ _ _ (by assumption) (by first | assumption | omega) (by first | assumption | omega) (by omega) (by omega)) (by k_asm) (by k_asm) (by k_asm) (by k_asm) (by k_asm) (by first | exact rfl | assumption) (by ktr_room) (by ktr_units) ?_; k_whole); intro r9 h9 tk9 nn9 F9 N9 D9 P9; (obtain ⟨a9, t9, u9, n9, e9, f9⟩ := P9); subst e9; subst f9; (have l9 := D9 _ (List.Mem.head _)); clear D9; (try simp only [AllNe, and_true] at l9); (try dsimp only [List.cons_append, List.nil_append] at N9); (try dsimp only); (try k_fold))
  walk_at "ENTER0"
  k_dflt (refine' midCut2 ?B ?F (σ := Int × Bool × Tok) (fun c => [(Str.ofString "at", .int c.1 c.2.2), (Str.ofString "is_below", .bool c.2.1), (Str.ofString "text", .bytes l.toArray t1), (Str.ofString "base", .int 0 t2), (Str.ofString "limits", .ref lx)]) (fun _ => [(lx, instObj 53 dx), (dx, dictOf es kn)]) (fun c => 0 ≤ c.1 ∧ c.1 ≤ l.length ∧ (c.1, c.2.1) = signAt l (skipL (l.drop (0 : Int).toNat) (0 : Int).toNat)) ?h ?k; (case B => with_unfolding_all rfl); (case F => k_asm))
  case h =>
    (try k_fold)
    k_steps
    all_goals walk_at "MID3"
    · exact sign_1 (by assumption) (by assumption)
    · exact sign_2 (by assumption) (by assumption)
    · exact sign_3 (by assumption) (skip0_le l)
  rintro ⟨a1, bl, ta⟩ u hh tk ⟨hp1, hp2, hp3⟩ F1 N1
  dsimp only at hp1 hp2 hp3
  dsimp only at F1 N1
  k_dflt (refine' midCut2 ?B2 ?F2 (σ := Int × Int × Tok × Tok) (fun c => [(Str.ofString "at", .int c.1 c.2.2.1), (Str.ofString "is_below", .bool bl), (Str.ofString "text", .bytes l.toArray t1), (Str.ofString "base", .int c.2.1 c.2.2.2), (Str.ofString "limits", .ref lx)]) (fun _ => [(lx, instObj 53 dx), (dx, dictOf es kn)]) (fun c => 0 ≤ c.1 ∧ c.1 ≤ l.length ∧ (c.1, c.2.1) = markAt l a1) ?h2 ?k2; (case B2 => with_unfolding_all rfl); (case F2 => k_asm))
  case h2 =>
    (try k_fold)
    k_steps
    all_goals walk_at "MID4"
    all_goals first
      | exact mark_yes (by assumption) (by assumption) (by assumption) (by assumption) (by assumption) (by assumption)
      | exact mark_no (by assumption) (by assumption) fun ⟨y1, y2, y3, y4, y5⟩ => by first | exact absurd y1 (by assumption) | exact absurd y2 (by assumption) | exact absurd y3 (by assumption) | exact absurd y4 (by assumption) | exact absurd y5 (by assumption)
      | exact absurd (by assumption) (show ¬ (((l.getD a1.toNat 0).toNat : Nat) : Int) = 48 by assumption)
  rintro ⟨a2, b2, ta2, tb2⟩ u2 hh2 tk2 ⟨hq1, hq2, hq3⟩ F2 N2
  dsimp only at hq1 hq2 hq3
  dsimp only at F2 N2
  clear F1 N1
  rcases mark_base hq3 with e | e
  · subst e
    have eP := parse_at0 (wd := wd) hp3 hq3
    k_with "answer" => first | exact parse_r1 eP (parseB_n1 (by assumption)) | exact parse_r1 eP (parseB_n2 (by assumption)) | exact parse_r2 eP (by assumption) (by assumption) (by assumption) | exact parse_r3 eP (by assumption) (by assumption) (by assumption)
    (try k_fold)
    k_steps
    all_goals first | walk_at "ENDD" | w_report
  · subst e
    have eP := parse_at16 (wd := wd) hp3 hq3
    (try k_fold)
    k_steps
    all_goals first | walk_at "ENDD" | w_report
end
section
local macro_rules | `(tactic| walk_at "PAD") => `(tactic| fail "pad")
local macro_rules | `(tactic| walk_at "compareOp In int bytes") => `(tactic| (k_here; k_dflt (first | (refine' in_bytes2 ?a ?b ?_; (case a => first | assumption | exact u8_lo _); (case b => first | assumption | exact u8_hi _)) | (refine' in_bytes ?a ?b ?_; (case a => first | assumption | exact u8_lo _); (case b => first | assumption | exact u8_hi _)); k_whole)))
local macro_rules | `(tactic| walk_at "getAttr ref") => `(tactic| (k_here; k_dflt (refine' get_own ?k1 ?k2 ?k3 ?k4 ?k5 ?k6 ?k7 ?k8 ?k9 ?_; (case k1 => k_asm); (case k2 => k_asm); (case k3 => k_inst); (case k4 => k_is); (case k5 => k_is); (case k6 => k_is); (case k7 => k_is); (case k8 => assumption); (case k9 => k_handed); k_whole)))
set_option maxRecDepth 100000 in
set_option maxHeartbeats 8000000 in
theorem tonum_int (n : Int) (lx : Addr) (t1 : Tok) : Spec 120 2 16 [] [.int n t1, .ref lx] (RetV (.int n t1)) := by
  w_top off
  k_with_none
  k_with "call ref" => (k_here; (with_reducible show wpAny _ _ (call (Value.ref 64) _) _ _ _); k_dflt (refine' useV (isnum_int _ _) (by k_asm) (by k_asm) (by k_asm) (by k_asm) (by k_asm) (by first | exact rfl | assumption) (by ktr_room) (by ktr_units) ?_; k_whole); intro h9 tk9 F9 N9; (try dsimp only); (try k_fold))
  k_with "call ref" => (k_here; (with_reducible show wpAny _ _ (call (Value.ref 64) _) _ _ _); k_dflt (refine' useV (isnum_bool _) (by k_asm) (by k_asm) (by k_asm) (by k_asm) (by k_asm) (by first | exact rfl | assumption) (by ktr_room) (by ktr_units) ?_; k_whole); intro h9 tk9 F9 N9; (try dsimp only); (try k_fold))
  k_with "call ref" => (k_here; (with_reducible show wpAny _ _ (call (Value.ref 64) _) _ _ _); k_dflt (refine' useV (isnum_none) (by k_asm) (by k_asm) (by k_asm) (by k_asm) (by k_asm) (by first | exact rfl | assumption) (by ktr_room) (by ktr_units) ?_; k_whole); intro h9 tk9 F9 N9; (try dsimp only); (try k_fold))
  k_with "call ref" => (k_here; (with_reducible show wpAny _ _ (call (Value.ref 64) _) _ _ _); k_dflt (refine' useV (isnum_bytes _ _) (by k_asm) (by k_asm) (by k_asm) (by k_asm) (by k_asm) (by first | exact rfl | assumption) (by ktr_room) (by ktr_units) ?_; k_whole); intro h9 tk9 F9 N9; (try dsimp only); (try k_fold))
  k_with "call ref" => (k_here; (with_reducible show wpAny _ _ (call (Value.ref 113) _) _ _ _); k_dflt (refine' useN (rest := []) (text_spec _ _ _ _ _ _ _ _ _ (by assumption) (by assumption) (by assumption) (by assumption) (by assumption)) (by k_asm) (by k_asm) (by k_asm) (by k_asm) (by walk_at "LEDALL") (by intro p hp q hq; cases hq) (by k_asm) (by first | exact rfl | assumption) (by ktr_room) (by ktr_units) ?_; k_whole); intro r9 h9 tk9 nn9 F9 N9 D9 P9; (obtain ⟨e9, t9, f9⟩ := P9); subst e9; clear D9; (try simp only [List.append_nil] at N9); (try dsimp only); (try k_fold))
  walk_at "ENTER"
  all_goals first | walk_at "END" | w_report
  all_goals exact ⟨rfl, rfl⟩
set_option maxRecDepth 100000 in
set_option maxHeartbeats 8000000 in
theorem tonum_bool (b : Bool) (lx : Addr) : Spec 120 2 16 [] [.bool b, .ref lx] (RetV .none) := by
  w_top off
  k_with_none
  k_with "call ref" => (k_here; (with_reducible show wpAny _ _ (call (Value.ref 64) _) _ _ _); k_dflt (refine' useV (isnum_int _ _) (by k_asm) (by k_asm) (by k_asm) (by k_asm) (by k_asm) (by first | exact rfl | assumption) (by ktr_room) (by ktr_units) ?_; k_whole); intro h9 tk9 F9 N9; (try dsimp only); (try k_fold))
  k_with "call ref" => (k_here; (with_reducible show wpAny _ _ (call (Value.ref 64) _) _ _ _); k_dflt (refine' useV (isnum_bool _) (by k_asm) (by k_asm) (by k_asm) (by k_asm) (by k_asm) (by first | exact rfl | assumption) (by ktr_room) (by ktr_units) ?_; k_whole); intro h9 tk9 F9 N9; (try dsimp only); (try k_fold))
  k_with "call ref" => (k_here; (with_reducible show wpAny _ _ (call (Value.ref 64) _) _ _ _); k_dflt (refine' useV (isnum_none) (by k_asm) (by k_asm) (by k_asm) (by k_asm) (by k_asm) (by first | exact rfl | assumption) (by ktr_room) (by ktr_units) ?_; k_whole); intro h9 tk9 F9 N9; (try dsimp only); (try k_fold))
  k_with "call ref" => (k_here; (with_reducible show wpAny _ _ (call (Value.ref 64) _) _ _ _); k_dflt (refine' useV (isnum_bytes _ _) (by k_asm) (by k_asm) (by k_asm) (by k_asm) (by k_asm) (by first | exact rfl | assumption) (by ktr_room) (by ktr_units) ?_; k_whole); intro h9 tk9 F9 N9; (try dsimp only); (try k_fold))
  k_with "call ref" => (k_here; (with_reducible show wpAny _ _ (call (Value.ref 113) _) _ _ _); k_dflt (refine' useN (rest := []) (text_spec _ _ _ _ _ _ _ _ _ (by assumption) (by assumption) (by assumption) (by assumption) (by assumption)) (by k_asm) (by k_asm) (by k_asm) (by k_asm) (by walk_at "LEDALL") (by intro p hp q hq; cases hq) (by k_asm) (by first | exact rfl | assumption) (by ktr_room) (by ktr_units) ?_; k_whole); intro r9 h9 tk9 nn9 F9 N9 D9 P9; (obtain ⟨e9, t9, f9⟩ := P9); subst e9; clear D9; (try simp only [List.append_nil] at N9); (try dsimp only); (try k_fold))
  walk_at "ENTER"
  all_goals first | walk_at "END" | w_report
  all_goals exact ⟨rfl, rfl⟩
set_option maxRecDepth 100000 in
set_option maxHeartbeats 8000000 in
theorem tonum_none (lx : Addr) : Spec 120 2 16 [] [.none, .ref lx] (RetV .none) := by
  w_top off
  k_with_none
  k_with "call ref" => (k_here; (with_reducible show wpAny _ _ (call (Value.ref 64) _) _ _ _); k_dflt (refine' useV (isnum_int _ _) (by k_asm) (by k_asm) (by k_asm) (by k_asm) (by k_asm) (by first | exact rfl | assumption) (by ktr_room) (by ktr_units) ?_; k_whole); intro h9 tk9 F9 N9; (try dsimp only); (try k_fold))
  k_with "call ref" => (k_here; (with_reducible show wpAny _ _ (call (Value.ref 64) _) _ _ _); k_dflt (refine' useV (isnum_bool _) (by k_asm) (by k_asm) (by k_asm) (by k_asm) (by k_asm) (by first | exact rfl | assumption) (by ktr_room) (by ktr_units) ?_; k_whole); intro h9 tk9 F9 N9; (try dsimp only); (try k_fold))
  k_with "call ref" => (k_here; (with_reducible show wpAny _ _ (call (Value.ref 64) _) _ _ _); k_dflt (refine' useV (isnum_none) (by k_asm) (by k_asm) (by k_asm) (by k_asm) (by k_asm) (by first | exact rfl | assumption) (by ktr_room) (by ktr_units) ?_; k_whole); intro h9 tk9 F9 N9; (try dsimp only); (try k_fold))
  k_with "call ref" => (k_here; (with_reducible show wpAny _ _ (call (Value.ref 64) _) _ _ _); k_dflt (refine' useV (isnum_bytes _ _) (by k_asm) (by k_asm) (by k_asm) (by k_asm) (by k_asm) (by first | exact rfl | assumption) (by ktr_room) (by ktr_units) ?_; k_whole); intro h9 tk9 F9 N9; (try dsimp only); (try k_fold))
  k_with "call ref" => (k_here; (with_reducible show wpAny _ _ (call (Value.ref 113) _) _ _ _); k_dflt (refine' useN (rest := []) (text_spec _ _ _ _ _ _ _ _ _ (by assumption) (by assumption) (by assumption) (by assumption) (by assumption)) (by k_asm) (by k_asm) (by k_asm) (by k_asm) (by walk_at "LEDALL") (by intro p hp q hq; cases hq) (by k_asm) (by first | exact rfl | assumption) (by ktr_room) (by ktr_units) ?_; k_whole); intro r9 h9 tk9 nn9 F9 N9 D9 P9; (obtain ⟨e9, t9, f9⟩ := P9); subst e9; clear D9; (try simp only [List.append_nil] at N9); (try dsimp only); (try k_fold))
  walk_at "ENTER"
  all_goals first | walk_at "END" | w_report
  all_goals exact ⟨rfl, rfl⟩
set_option maxRecDepth 100000 in
set_option maxHeartbeats 8000000 in
theorem str_spec (l : List UInt8) (wd : Int) (lx dx : Addr) (es : List DictEntry) (kn : Nat) (t1 t3 : Tok) (hl : l.length ≤ 200) (h1 : 2 ≤ wd) (h2 : wd ≤ 64) (he : getL (Str.ofString "width") es = some (some (.int wd t3))) (hne : @Ne Nat lx dx) :
    Spec 106 4 32 [(lx, instObj 53 dx), (dx, dictOf es kn)] [.bytes l.toArray t1, .ref lx] (fun r nn => nn = [(lx, instObj 53 dx), (dx, dictOf es kn)] ∧ ∃ t, r = optV (parseZ l wd) t) := by
  w_top off
  k_with_none
  k_with "call ref" => (k_here; (with_reducible show wpAny _ _ (call (Value.ref 64) _) _ _ _); k_dflt (refine' useV (isnum_int _ _) (by k_asm) (by k_asm) (by k_asm) (by k_asm) (by k_asm) (by first | exact rfl | assumption) (by ktr_room) (by ktr_units) ?_; k_whole); intro h9 tk9 F9 N9; (try dsimp only); (try k_fold))
  k_with "call ref" => (k_here; (with_reducible show wpAny _ _ (call (Value.ref 64) _) _ _ _); k_dflt (refine' useV (isnum_bool _) (by k_asm) (by k_asm) (by k_asm) (by k_asm) (by k_asm) (by first | exact rfl | assumption) (by ktr_room) (by ktr_units) ?_; k_whole); intro h9 tk9 F9 N9; (try dsimp only); (try k_fold))
  k_with "call ref" => (k_here; (with_reducible show wpAny _ _ (call (Value.ref 64) _) _ _ _); k_dflt (refine' useV (isnum_none) (by k_asm) (by k_asm) (by k_asm) (by k_asm) (by k_asm) (by first | exact rfl | assumption) (by ktr_room) (by ktr_units) ?_; k_whole); intro h9 tk9 F9 N9; (try dsimp only); (try k_fold))
  k_with "call ref" => (k_here; (with_reducible show wpAny _ _ (call (Value.ref 64) _) _ _ _); k_dflt (refine' useV (isnum_bytes _ _) (by k_asm) (by k_asm) (by k_asm) (by k_asm) (by k_asm) (by first | exact rfl | assumption) (by ktr_room) (by ktr_units) ?_; k_whole); intro h9 tk9 F9 N9; (try dsimp only); (try k_fold))
  k_with "call ref" => (k_here; (with_reducible show wpAny _ _ (call (Value.ref 113) _) _ _ _); k_dflt (refine' useN (rest := []) (text_spec _ _ _ _ _ _ _ _ _ (by assumption) (by assumption) (by assumption) (by assumption) (by assumption)) (by k_asm) (by k_asm) (by k_asm) (by k_asm) (by walk_at "LEDALL") (by intro p hp q hq; cases hq) (by k_asm) (by first | exact rfl | assumption) (by ktr_room) (by ktr_units) ?_; k_whole); intro r9 h9 tk9 nn9 F9 N9 D9 P9; (obtain ⟨e9, t9, f9⟩ := P9); subst e9; clear D9; (try simp only [List.append_nil] at N9); (try dsimp only); (try k_fold))
  walk_at "ENTER"
  k_with "answer" => exact ⟨_, by assumption⟩
  all_goals first | walk_at "ENDD" | w_report
set_option maxRecDepth 100000 in
set_option maxHeartbeats 8000000 in
theorem tonum_bytes (l : List UInt8) (wd : Int) (lx dx : Addr) (es : List DictEntry) (kn : Nat) (t1 t3 : Tok) (hl : l.length ≤ 200) (h1 : 2 ≤ wd) (h2 : wd ≤ 64) (he : getL (Str.ofString "width") es = some (some (.int wd t3))) (hne : @Ne Nat lx dx) :
    Spec 120 5 40 [(lx, instObj 53 dx), (dx, dictOf es kn)] [.bytes l.toArray t1, .ref lx] (fun r nn => nn = [(lx, instObj 53 dx), (dx, dictOf es kn)] ∧ ∃ t, r = optV (parseZ l wd) t) := by
  w_top off
  k_with_none
  k_with "call ref" => (k_here; (with_reducible show wpAny _ _ (call (Value.ref 64) _) _ _ _); k_dflt (refine' useV (isnum_int _ _) (by k_asm) (by k_asm) (by k_asm) (by k_asm) (by k_asm) (by first | exact rfl | assumption) (by ktr_room) (by ktr_units) ?_; k_whole); intro h9 tk9 F9 N9; (try dsimp only); (try k_fold))
  k_with "call ref" => (k_here; (with_reducible show wpAny _ _ (call (Value.ref 64) _) _ _ _); k_dflt (refine' useV (isnum_bool _) (by k_asm) (by k_asm) (by k_asm) (by k_asm) (by k_asm) (by first | exact rfl | assumption) (by ktr_room) (by ktr_units) ?_; k_whole); intro h9 tk9 F9 N9; (try dsimp only); (try k_fold))
  k_with "call ref" => (k_here; (with_reducible show wpAny _ _ (call (Value.ref 64) _) _ _ _); k_dflt (refine' useV (isnum_none) (by k_asm) (by k_asm) (by k_asm) (by k_asm) (by k_asm) (by first | exact rfl | assumption) (by ktr_room) (by ktr_units) ?_; k_whole); intro h9 tk9 F9 N9; (try dsimp only); (try k_fold))
  k_with "call ref" => (k_here; (with_reducible show wpAny _ _ (call (Value.ref 64) _) _ _ _); k_dflt (refine' useV (isnum_bytes _ _) (by k_asm) (by k_asm) (by k_asm) (by k_asm) (by k_asm) (by first | exact rfl | assumption) (by ktr_room) (by ktr_units) ?_; k_whole); intro h9 tk9 F9 N9; (try dsimp only); (try k_fold))
  k_with "call ref" => (k_here; (with_reducible show wpAny _ _ (call (Value.ref 113) _) _ _ _); k_dflt (refine' useN (rest := []) (text_spec _ _ _ _ _ _ _ _ _ (by assumption) (by assumption) (by assumption) (by assumption) (by assumption)) (by k_asm) (by k_asm) (by k_asm) (by k_asm) (by walk_at "LEDALL") (by intro p hp q hq; cases hq) (by k_asm) (by first | exact rfl | assumption) (by ktr_room) (by ktr_units) ?_; k_whole); intro r9 h9 tk9 nn9 F9 N9 D9 P9; (obtain ⟨e9, t9, f9⟩ := P9); subst e9; clear D9; (try simp only [List.append_nil] at N9); (try dsimp only); (try k_fold))
  k_with "call ref" => (k_here; (with_reducible show wpAny _ _ (call (Value.ref 106) _) _ _ _); k_dflt (refine' useN (rest := []) (str_spec _ _ _ _ _ _ _ _ (by assumption) (by assumption) (by assumption) (by assumption) (by assumption)) (by k_asm) (by k_asm) (by k_asm) (by k_asm) (by walk_at "LEDALL") (by intro p hp q hq; cases hq) (by k_asm) (by first | exact rfl | assumption) (by ktr_room) (by ktr_units) ?_; k_whole); intro r9 h9 tk9 nn9 F9 N9 D9 P9; (obtain ⟨e9, t9, f9⟩ := P9); subst e9; clear D9; (try simp only [List.append_nil] at N9); (try dsimp only); (try k_fold))
  walk_at "ENTER"
  k_with "answer" => exact ⟨_, by assumption⟩
  all_goals first | walk_at "ENDD" | w_report
end
section
theorem my_pop0 {prog : Program} {w : World} {A : Around} {E : Value → Shared → Prop} {s : Shared} {h₀ : Heap} {L D : Addr} {m : Str → Option Value} {news news' : List (Addr × Obj)} {us : List Value} {v : Value} {n : Nat} {u : Tok} {Q : Value → Shared → Prop}
    (F : Fr h₀ L s.heap m) (N : News h₀ L s.heap news) (U : Upd D (listOf (List.toArray (v :: us)) n) (listOf us.toArray (n + 1)) news news') (hz : (v :: us).length ≤ sizeLine)
    (h : ∀ h', Fr h₀ L h' m → News h₀ L h' news' → Q v { s with heap := h' }) : wpAny (model prog w) A (call (.builtin "list.pop") [.ref D, .int 0 u]) Q E s := by
  refine kl_popAt (k := 0) (p := []) (q := us) (y := v) F N rfl ?_ rfl U hz h
  rw [List.size_toArray, List.length_cons]
  unfold seqIndex?
  simp
theorem room24 {us : List Value} (h : us.length ≤ 24) : us.length ≤ sizeLine := by rw [sizeLine_eq]; omega
local macro_rules | `(tactic| walk_at "call builtin:list.pop") => `(tactic| (k_here; (with_reducible show wpAny _ _ (call (Value.builtin _) [Value.ref _, Value.int 0 _]) _ _ _); k_dflt (refine' my_pop0 ?F ?N ?U ?z ?_; (case F => k_asm); (case N => k_asm); (case U => k_upd); (case z => exact room24 (by assumption))); (intro h' F' N'; (try dsimp only [List.nil_append, List.cons_append] at N'))))
def TakePost (b l : Addr) (k1 : Nat) (wd : Int) (r : Value) (nn : List (Addr × Obj)) : Prop :=
  ∃ x' t' vs' ns' k2' z tz, 0 ≤ x' ∧ x' < 2 ^ 89 ∧ IntsAre vs' ns' ∧ vs'.length ≤ 24 ∧ nn = [(b, listOf (List.toArray [.ref l, .int x' t']) k1), (l, listOf (List.toArray vs') k2')] ∧ r = .int z tz ∧ 0 ≤ z ∧ z < wd
theorem fm {x : Int} {y : Int} (h : 0 < y) : 0 ≤ Int.fmod x y ∧ Int.fmod x y < y := ⟨Int.fmod_nonneg_of_pos x h, Int.fmod_lt_of_pos x h⟩
theorem fm89 (x : Int) : 0 ≤ Int.fmod x (2 ^ Int.toNat 89) ∧ Int.fmod x (2 ^ Int.toNat 89) < 2 ^ 89 := fm (by decide)
set_option maxRecDepth 100000 in
set_option maxHeartbeats 8000000 in
theorem take_spec0 (b l : Addr) (x wd : Int) (t t1 : Tok) (k1 k2 : Nat) (hb : @Ne Nat b l) (hx : 0 ≤ x) (hx1 : x < 2 ^ 89) (h1 : 0 < wd) (h2 : wd ≤ 2 ^ 64) :
    Spec 160 1 8 [(b, listOf (List.toArray [.ref l, .int x t]) k1), (l, listOf (List.toArray []) k2)] [.ref b, .int wd t1] (TakePost b l k1 wd) := by
  w_top off
  k_with_none
  walk_at "ENTER"
  all_goals walk_at "END"
  exact ⟨_, _, [], [], _, _, _, (fm89 _).1, (fm89 _).2, .nil, by decide, rfl, rfl, (fm h1).1, (fm h1).2⟩
set_option maxRecDepth 100000 in
set_option maxHeartbeats 8000000 in
theorem take_spec1 (b l : Addr) (x wd y : Int) (t t1 ty : Tok) (k1 k2 : Nat) (us : List Value) (ns : List Int) (hi : IntsAre (Value.int y ty :: us) (y :: ns)) (hn : ns.length ≤ 23) (hz : (Value.int y ty :: us).length ≤ 24) (hb : @Ne Nat b l) (hx : 0 ≤ x) (hx1 : x < 2 ^ 89) (h1 : 0 < wd) (h2 : wd ≤ 2 ^ 64) :
    Spec 160 1 8 [(b, listOf (List.toArray [.ref l, .int x t]) k1), (l, listOf (List.toArray (.int y ty :: us)) k2)] [.ref b, .int wd t1] (TakePost b l k1 wd) := by
  w_top off
  k_with_none
  walk_at "ENTER"
  all_goals walk_at "END"
  have hi' : IntsAre us ns := by cases hi; assumption
  exact ⟨_, _, us, ns, _, _, _, hx, hx1, hi', Nat.le_of_succ_le hz, rfl, rfl, (fm h1).1, (fm h1).2⟩
theorem take_spec (b l : Addr) (x wd : Int) (t t1 : Tok) (k1 k2 : Nat) (vs : List Value) (ns : List Int) (hi : IntsAre vs ns) (hz : vs.length ≤ 24) (hb : @Ne Nat b l) (hx : 0 ≤ x) (hx1 : x < 2 ^ 89) (h1 : 0 < wd) (h2 : wd ≤ 2 ^ 64) :
    Spec 160 1 8 [(b, listOf (List.toArray [.ref l, .int x t]) k1), (l, listOf (List.toArray vs) k2)] [.ref b, .int wd t1] (TakePost b l k1 wd) := by
  have hl := hi.length
  cases hi with
  | nil => exact take_spec0 b l x wd t t1 k1 k2 hb hx hx1 h1 h2
  | cons y ty r => exact take_spec1 b l x wd y t t1 ty k1 k2 _ _ (.cons y ty r) (by simp only [List.length_cons] at *; omega) hz hb hx hx1 h1 h2
theorem take_elim {b l : Addr} {k1 : Nat} {wd : Int} {G : Value → List (Addr × Obj) → Prop} {r : Value} {nn : List (Addr × Obj)} (h : TakePost b l k1 wd r nn)
    (k : ∀ x t vs ns k2 z tz, 0 ≤ x → x < 2 ^ 89 → IntsAre vs ns → vs.length ≤ 24 → 0 ≤ z → z < wd → G (.int z tz) [(b, listOf (List.toArray [.ref l, .int x t]) k1), (l, listOf (List.toArray vs) k2)]) : G r nn := by
  obtain ⟨x, t, vs, ns, k2, z, tz, h1, h2, h3, h4, e, f, h5, h6⟩ := h
  subst e; subst f
  exact k x t vs ns k2 z tz h1 h2 h3 h4 h5 h6
end
section
section
variable {f : Addr} {dn un₁ : Nat} {args : List Value} {Post : Value → List (Addr × Obj) → Prop}
  {w : World} {mean : ExcName → Option Value} {mg mb : Str → Option Value} {dp un : Nat} {gd : Option (List Code)} {cn : Str} {cs : Scope} {a : Addr} {ccd : Value} {cl : List (Str × Addr)} {outer : List Env} {A₀ : Around} {base h₀ : Heap} {L : Addr} {m : Str → Option Value} {s : Shared} {Q E : Value → Shared → Prop}
  {rest : List (Addr × Obj)} {eb el p0 : Addr × Obj}
theorem dis2 (D1 : ∀ q ∈ rest, eb.1 ≠ q.1) (D2 : ∀ q ∈ rest, el.1 ≠ q.1) : ∀ p ∈ [eb, el], ∀ q ∈ rest, p.1 ≠ q.1 := by
  intro p hp q hq
  rcases List.mem_cons.mp hp with rfl | hp
  · exact D1 q hq
  · rw [List.mem_singleton.mp hp]; exact D2 q hq
theorem useB0 (C : Spec f dn un₁ [eb, el] args Post) (B : Below A₀ base outer h₀) (F : Fr h₀ L s.heap m) (X : (hd.heap_39 w.params).In h₀) (N : News h₀ L s.heap (eb :: el :: rest)) (D1 : ∀ q ∈ rest, eb.1 ≠ q.1) (D2 : ∀ q ∈ rest, el.1 ≠ q.1) (T : Top hd.view_39 (looseW hd.view_39 []) mean mg mb h₀) (hk : cs.kind = .function) (hd : dp + dn < recursionLimit) (hu : un + un₁ < cLine)
    (ret : ∀ r h' tk' news', Fr h₀ L h' m → News h₀ L h' (news' ++ rest) → (∀ p ∈ news', AllNe p.1 rest) → Post r news' → Q r { s with heap := h', toks := tk' }) :
    wpAny (model Challenge.rw_nt0632_01.row.prog w) (ktrTop dp un gd cn cs L a ccd cl outer) (call (.ref f) args) Q E s :=
  useN C B F X N (fun _ h => h) (dis2 D1 D2) T hk hd hu ret
theorem useB1 (C : Spec f dn un₁ [eb, el] args Post) (B : Below A₀ base outer h₀) (F : Fr h₀ L s.heap m) (X : (hd.heap_39 w.params).In h₀) (N : News h₀ L s.heap (p0 :: eb :: el :: rest)) (D1 : ∀ q ∈ p0 :: rest, eb.1 ≠ q.1) (D2 : ∀ q ∈ p0 :: rest, el.1 ≠ q.1) (T : Top hd.view_39 (looseW hd.view_39 []) mean mg mb h₀) (hk : cs.kind = .function) (hd : dp + dn < recursionLimit) (hu : un + un₁ < cLine)
    (ret : ∀ r h' tk' news', Fr h₀ L h' m → News h₀ L h' (news' ++ (p0 :: rest)) → (∀ p ∈ news', AllNe p.1 (p0 :: rest)) → Post r news' → Q r { s with heap := h', toks := tk' }) :
    wpAny (model Challenge.rw_nt0632_01.row.prog w) (ktrTop dp un gd cn cs L a ccd cl outer) (call (.ref f) args) Q E s :=
  useN C B F X N (fun p hp => by
    simp only [List.mem_append, List.mem_cons, List.not_mem_nil, or_false] at hp ⊢
    rcases hp with (h | h) | (h | h)
    · exact .inr (.inl h)
    · exact .inr (.inr (.inl h))
    · exact .inl h
    · exact .inr (.inr (.inr h))) (dis2 D1 D2) T hk hd hu ret
theorem useB0r (B : Below A₀ base outer h₀) (F : Fr h₀ L s.heap m) (X : (hd.heap_39 w.params).In h₀) (N : News h₀ L s.heap (eb :: el :: rest)) (D1 : ∀ q ∈ rest, eb.1 ≠ q.1) (D2 : ∀ q ∈ rest, el.1 ≠ q.1) (T : Top hd.view_39 (looseW hd.view_39 []) mean mg mb h₀) (hk : cs.kind = .function) (hd : dp + dn < recursionLimit) (hu : un + un₁ < cLine) (C : Spec f dn un₁ [eb, el] args Post) (ret : ∀ r h' tk' news', Fr h₀ L h' m → News h₀ L h' (news' ++ rest) → (∀ p ∈ news', AllNe p.1 rest) → Post r news' → Q r { s with heap := h', toks := tk' }) : wpAny (model Challenge.rw_nt0632_01.row.prog w) (ktrTop dp un gd cn cs L a ccd cl outer) (call (.ref f) args) Q E s:= useB0 C B F X N D1 D2 T hk hd hu ret
theorem useB1r (B : Below A₀ base outer h₀) (F : Fr h₀ L s.heap m) (X : (hd.heap_39 w.params).In h₀) (N : News h₀ L s.heap (p0 :: eb :: el :: rest)) (D1 : ∀ q ∈ p0 :: rest, eb.1 ≠ q.1) (D2 : ∀ q ∈ p0 :: rest, el.1 ≠ q.1) (T : Top hd.view_39 (looseW hd.view_39 []) mean mg mb h₀) (hk : cs.kind = .function) (hd : dp + dn < recursionLimit) (hu : un + un₁ < cLine) (C : Spec f dn un₁ [eb, el] args Post) (ret : ∀ r h' tk' news', Fr h₀ L h' m → News h₀ L h' (news' ++ (p0 :: rest)) → (∀ p ∈ news', AllNe p.1 (p0 :: rest)) → Post r news' → Q r { s with heap := h', toks := tk' }) : wpAny (model Challenge.rw_nt0632_01.row.prog w) (ktrTop dp un gd cn cs L a ccd cl outer) (call (.ref f) args) Q E s:= useB1 C B F X N D1 D2 T hk hd hu ret
end
theorem pow_le64 {k : Nat} (h : k ≤ 64) : (2 : Int) ^ k ≤ 2 ^ 64 := by
  have := Nat.pow_le_pow_right (show 0 < 2 by decide) h
  have e := kbt_cast k
  have e2 := kbt_cast 64
  omega
def NumPost (b l : Addr) (k1 : Nat) (wd : Int) (r : Value) (nn : List (Addr × Obj)) : Prop :=
  ∃ x' t' vs' ns' k2' y tz, 0 ≤ x' ∧ x' < 2 ^ 89 ∧ IntsAre vs' ns' ∧ vs'.length ≤ 24 ∧ nn = [(b, listOf (List.toArray [.ref l, .int x' t']) k1), (l, listOf (List.toArray vs') k2')] ∧ r = .int (wrapZ y wd) tz
theorem num_elim {b l : Addr} {k1 : Nat} {wd : Int} {G : Value → List (Addr × Obj) → Prop} {r : Value} {nn : List (Addr × Obj)} (h : NumPost b l k1 wd r nn)
    (k : ∀ x t vs ns k2 y ty, 0 ≤ x → x < 2 ^ 89 → IntsAre vs ns → vs.length ≤ 24 → G (.int (wrapZ y wd) ty) [(b, listOf (List.toArray [.ref l, .int x t]) k1), (l, listOf (List.toArray vs) k2)]) : G r nn := by
  obtain ⟨x, t, vs, ns, k2, z, tz, h1, h2, h3, h4, e, f⟩ := h
  subst e; subst f
  exact k x t vs ns k2 z tz h1 h2 h3 h4
theorem num_end {b l : Addr} {k1 k2 : Nat} {wd x y : Int} {t ty : Tok} {vs : List Value} {ns : List Int} (h0 : 0 ≤ x) (h1 : x < 2 ^ 89) (hi : IntsAre vs ns) (hz : vs.length ≤ 24) :
    NumPost b l k1 wd (.int (wrapZ y wd) ty) [(b, listOf (List.toArray [.ref l, .int x t]) k1), (l, listOf (List.toArray vs) k2)] := ⟨x, t, vs, ns, k2, y, ty, h0, h1, hi, hz, rfl, rfl⟩
set_option maxRecDepth 100000 in
set_option maxHeartbeats 8000000 in
theorem number_spec (b l : Addr) (x wd : Int) (t t1 : Tok) (k1 k2 : Nat) (vs : List Value) (ns : List Int) (hi : IntsAre vs ns) (hz : vs.length ≤ 24) (hb : @Ne Nat b l) (hx : 0 ≤ x) (hx1 : x < 2 ^ 89) (h1 : 2 ≤ wd) (h2 : wd ≤ 64) :
    Spec 174 2 16 [(b, listOf (List.toArray [.ref l, .int x t]) k1), (l, listOf (List.toArray vs) k2)] [.ref b, .int wd t1] (NumPost b l k1 wd) := by
  w_top off
  k_with_none
  k_with "call ref" => (k_here; (with_reducible show wpAny _ _ (call (Value.ref 167) _) _ _ _); k_dflt (refine' useI (signed_spec _ _ _ _ (by omega) (by omega)) (by k_asm) (by k_asm) (by k_asm) (by k_asm) (by k_asm) (by first | exact rfl | assumption) (by ktr_room) (by ktr_units) ?_; k_whole); intro t9 h9 tk9 F9 N9; (try dsimp only); (try k_fold))
  k_with "call ref" => (k_here; (with_reducible show wpAny _ _ (call (Value.ref 160) _) _ _ _); k_dflt (refine' useB1r (by k_asm) (by k_asm) (by k_asm) (by k_asm) (by k_all) (by k_all) (by k_asm) (by first | exact rfl | assumption) (by ktr_room) (by ktr_units) (take_spec _ _ _ _ _ _ _ _ _ _ (by assumption) (by assumption) (by first | assumption | omega) (by assumption) (by assumption) (by first | omega | exact kbt_pos _) (by first | omega | exact pow_le64 (by omega))) ?_; k_whole); intro r9 h9 tk9 nn9 F9 N9 D9 P9; clear D9; revert N9; k_dflt (apply take_elim P9); clear P9; clear r9 nn9; intro x9 t9 vs9 ns9 k9 z9 tz9 x9a x9b i9 l9 z9a z9b N9; (try dsimp only [List.cons_append, List.nil_append] at N9); (try dsimp only); (try k_fold))
  k_with "call ref" => (k_here; (with_reducible show wpAny _ _ (call (Value.ref 160) _) _ _ _); k_dflt (refine' useB0r (by k_asm) (by k_asm) (by k_asm) (by k_asm) (by k_all) (by k_all) (by k_asm) (by first | exact rfl | assumption) (by ktr_room) (by ktr_units) (take_spec _ _ _ _ _ _ _ _ _ _ (by assumption) (by assumption) (by first | assumption | omega) (by assumption) (by assumption) (by first | omega | exact kbt_pos _) (by first | omega | exact pow_le64 (by omega))) ?_; k_whole); intro r9 h9 tk9 nn9 F9 N9 D9 P9; clear D9; revert N9; k_dflt (apply take_elim P9); clear P9; clear r9 nn9; intro x9 t9 vs9 ns9 k9 z9 tz9 x9a x9b i9 l9 z9a z9b N9; (try dsimp only [List.cons_append, List.nil_append] at N9); (try dsimp only); (try k_fold))
  walk_at "ENTER"
  all_goals first | walk_at "END" | w_report
  all_goals exact num_end (by assumption) (by assumption) (by assumption) (by assumption)
end
section
def hexC (n : Nat) : UInt8 := ([48, 49, 50, 51, 52, 53, 54, 55, 56, 57, 97, 98, 99, 100, 101, 102] : List UInt8).getD n 0
def hexD (n : Nat) : List UInt8 := if h : n < 16 then [hexC n] else hexD (n / 16) ++ [hexC (n % 16)]
theorem hex_pick (i : Int) (h0 : 0 ≤ i) (h1 : i < 16) : KBy.picked #[48, 49, 50, 51, 52, 53, 54, 55, 56, 57, 97, 98, 99, 100, 101, 102] (some i) (some (i + 1)) = #[hexC i.toNat] := by
  have : ∀ k : Fin 16, KBy.picked #[48, 49, 50, 51, 52, 53, 54, 55, 56, 57, 97, 98, 99, 100, 101, 102] (some ((k.val : Nat) : Int)) (some (((k.val : Nat) : Int) + 1)) = #[hexC k.val] := by decide +kernel
  have h := this ⟨i.toNat, by omega⟩
  simp only at h
  rw [Int.toNat_of_nonneg h0] at h
  exact h
theorem hex_slice {prog : Program} {w : World} {A : Around} {E : Value → Shared → Prop} {s : Shared} {value slice : PySem.Expr} {t u1 u2 : Tok} {h₀ : Heap} {L : Addr} {m : PySem.Str → Option Value} {news : List (Addr × Obj)} {Q : Value → Shared → Prop} {i : Int} (hF : Fr h₀ L s.heap m) (hN : News h₀ L s.heap news) (h0 : 0 ≤ i) (h1 : i < 16)
    (h : ∀ h' t' k, Fr h₀ L h' m → News h₀ L h' news → Q (.bytes #[hexC i.toNat] t') { s with heap := h', toks := k })
    (hs : subscripted slice false (.bytes #[48, 49, 50, 51, 52, 53, 54, 55, 56, 57, 97, 98, 99, 100, 101, 102] t) (.ref s.heap.objs.size) = operate [.ref s.heap.objs.size, .bytes #[48, 49, 50, 51, 52, 53, 54, 55, 56, 57, 97, 98, 99, 100, 101, 102] t] (getItem (.bytes #[48, 49, 50, 51, 52, 53, 54, 55, 56, 57, 97, 98, 99, 100, 101, 102] t) (.ref s.heap.objs.size)) := by with_unfolding_all rfl)
    (ht : ∀ r, letTemporaryGo value (.bytes #[48, 49, 50, 51, 52, 53, 54, 55, 56, 57, 97, 98, 99, 100, 101, 102] t) r = pure () := by intro _; with_unfolding_all rfl) :
    wpAny (model prog w) A (subscriptTail value slice (.bytes #[48, 49, 50, 51, 52, 53, 54, 55, 56, 57, 97, 98, 99, 100, 101, 102] t) (.ref s.heap.objs.size)) Q E { s with heap := s.heap.push { cls := .type "slice", data := .fields #[.int i u1, .int (i + 1) u2, .none] } } := by
  refine KBc.slice_K hF hN rfl (.int i u1) (.int (i + 1) u2) (by decide) (fun h' t' k F' N' _ => ?_) hs ht
  rw [hex_pick i h0 h1]
  exact h h' t' k F' N'
theorem fm16 (x : Int) : 0 ≤ Int.fmod x 16 ∧ Int.fmod x 16 < 16 := ⟨Int.fmod_nonneg_of_pos x (by decide), Int.fmod_lt_of_pos x (by decide)⟩
local macro_rules | `(tactic| walk_at "subscriptTail") => `(tactic| (k_here; (with_reducible show wpAny _ _ (subscriptTail _ (Expr.Slice _ _ none _) (Value.bytes _ _) (Value.ref _)) _ _ _); (with_reducible rename Fr _ _ _ _ => F'); (with_reducible rename News _ _ _ _ => N'); (refine hex_slice (s := ⟨_, _, _, _, _⟩) F' N' ?h0 ?h1 ?_; (case h0 => first | omega | exact (fm16 _).1); (case h1 => first | omega | exact (fm16 _).2)); intro _ _ _ _ _))
local macro_rules | `(tactic| walk_at "binaryOp Add bytes bytes") => `(tactic| (k_here; (refine KBy.add_bytes ?z ?_; (case z => first | omega | (simp only [Array.size_append, List.size_toArray, List.length_cons, List.length_nil]; omega))); intro _ _))
theorem hexD_lt {n : Nat} (h : n < 16) : hexD n = [hexC n] := by
  unfold hexD
  rw [dif_pos h]
theorem hexD_ge {n : Nat} (h : 16 ≤ n) : hexD n = hexD (n / 16) ++ [hexC (n % 16)] := by
  rw [hexD, dif_neg (by omega)]
theorem hex_bound {k j : Nat} (h1 : k < 16 ^ (16 - j)) (h2 : j ≤ 16) (h3 : 16 ≤ k) : j + 1 ≤ 16 ∧ k / 16 < 16 ^ (16 - (j + 1)) := by
  have hj : j ≠ 16 := fun e => by subst e; simp at h1; omega
  refine ⟨by omega, ?_⟩
  have e : 16 - j = (16 - (j + 1)) + 1 := by omega
  rw [e, Nat.pow_succ] at h1
  exact Nat.div_lt_of_lt_mul (by rw [Nat.mul_comm]; exact h1)
theorem hex_word {N : Nat} {f : Array UInt8} {k : Int} (h0 : 0 ≤ k) (h1 : k.toNat < 16 ^ (16 - f.size)) (h2 : f.size ≤ 16) (h3 : hexD N = hexD k.toNat ++ f.toList) (h4 : 15 < k) :
    0 ≤ k.fdiv 16 ∧ (k.fdiv 16).toNat < 16 ^ (16 - (#[hexC (k.fmod 16).toNat] ++ f).size) ∧ (#[hexC (k.fmod 16).toNat] ++ f).size ≤ 16 ∧ hexD N = hexD (k.fdiv 16).toNat ++ (#[hexC (k.fmod 16).toNat] ++ f).toList := by
  have e1 : (k.fdiv 16).toNat = k.toNat / 16 := by
    rw [Int.fdiv_eq_ediv_of_nonneg _ (by decide)]; omega
  have e2 : (k.fmod 16).toNat = k.toNat % 16 := by
    rw [Int.fmod_eq_emod_of_nonneg _ (by decide)]; omega
  have e3 : (#[hexC (k.fmod 16).toNat] ++ f).size = f.size + 1 := by
    rw [Array.size_append]; simp; omega
  have hb := hex_bound h1 h2 (by omega)
  refine ⟨?_, ?_, ?_, ?_⟩
  · rw [Int.fdiv_eq_ediv_of_nonneg _ (by decide)]; omega
  · rw [e1, e3]; exact hb.2
  · rw [e3]; exact hb.1
  · rw [h3, e1, e2, hexD_ge (n := k.toNat) (by omega)]
    simp
theorem hex_end {N : Nat} {f : Array UInt8} {k : Int} {t : Tok} (h0 : 0 ≤ k) (h3 : hexD N = hexD k.toNat ++ f.toList) (h4 : ¬ 15 < k) : ∃ t', Value.bytes (#[48, 120] ++ #[hexC k.toNat] ++ f) t = .bytes (48 :: 120 :: hexD N).toArray t' := by
  refine ⟨t, ?_⟩
  rw [h3, hexD_lt (by omega)]
  congr 1
  apply Array.toList_inj.mp
  simp
set_option maxRecDepth 100000 in
set_option maxHeartbeats 8000000 in
theorem hex_spec (n : Int) (t1 : Tok) (h0 : 0 ≤ n) (h1 : n < 2 ^ 64) : Spec 181 1 8 [] [.int n t1] (fun r nn => nn = [] ∧ ∃ t, r = .bytes (48 :: 120 :: hexD n.toNat).toArray t) := by
  w_top off
  k_with_none
  walk_at "ENTER0"
  k_with "state" => exact hex_word (by assumption) (by assumption) (by assumption) (by assumption) (by assumption)
  k_with "measure" => (rw [Int.fdiv_eq_ediv_of_nonneg _ (by decide)]; omega)
  k_with "exec While Compare cons nil" => k_while (fun _ f k => 0 ≤ k ∧ k.toNat < 16 ^ (16 - f.size) ∧ f.size ≤ 16 ∧ hexD n.toNat = hexD k.toNat ++ f.toList) (fun _ f k => k.toNat) "found" "number"
  k_steps
  all_goals first | walk_at "END" | w_report
  all_goals (refine ⟨rfl, ?_⟩)
  all_goals exact hex_end (by assumption) (by assumption) (by assumption)
end
section
open Builtin
theorem forIn_two {σ : Type} {f : Nat → σ → Sem (ForInStep σ)} {a b : σ} (h1 : ∀ x, f x a = pure (.yield b)) (h2 : ∀ x, f x b = pure (.done b)) : ∀ l : List Nat, l ≠ [] → forIn l a f = pure b
  | [], h => absurd rfl h
  | [x], _ => by rw [List.forIn_cons, h1, pure_bind]; simp only [List.forIn_nil]
  | x :: y :: r, _ => by rw [List.forIn_cons, h1, pure_bind]; simp only [List.forIn_cons, h2, pure_bind]
open Builtin._codecs in
theorem narrow_ascii (id : String) (self : Value) (s : Str) (h : s.cps.findIdx? (fun c => decide (c ≥ 128)) = none) (hz : s.cps.size ≤ sizeLine) : encodeNarrow id asciiCodec none self s = pure (s.cps.map (·.toUInt8)) := by
  have hb : asciiCodec.bad = fun c => decide (c ≥ 128) := rfl
  have hm : ∀ (l : List Nat) (acc : Array UInt8), l.foldl (fun acc y => acc ++ (asciiCodec.bytesOf y).toArray) acc = acc ++ (l.map (·.toUInt8)).toArray := by
    intro l
    induction l with
    | nil => intro acc; simp
    | cons x r ih =>
      intro acc
      rw [List.foldl_cons, ih]
      show acc ++ #[x.toUInt8] ++ _ = _
      simp
  have hf : Array.foldl (fun acc y => acc ++ (asciiCodec.bytesOf y).toArray) #[] s.cps = s.cps.map (·.toUInt8) := by
    rw [← Array.foldl_toList, hm]
    apply Array.toList_inj.mp
    simp
  unfold encodeNarrow
  simp only [Std.Legacy.Range.forIn_eq_forIn_range']
  by_cases h0 : s.cps.size = 0
  · have e : s.cps = #[] := Array.eq_empty_of_size_eq_zero h0
    have el : s.length = 0 := h0
    rw [el]
    have e0 : ([:0] : Std.Legacy.Range).size = 0 := rfl
    simp only [e0, List.range'_zero, List.forIn_nil, pure_bind, e]
    simp
  · rw [forIn_two (b := (s.cps.size, s.cps.map (·.toUInt8), { }))]
    · rfl
    · intro x
      have hx : s.cps[0]? = some (s.cps[0]'(by omega)) := Array.getElem?_eq_getElem (by omega)
      have hn : asciiCodec.bad (s.cps[0]'(by omega)) = false := by
        rw [hb]
        have := Array.findIdx?_eq_none_iff.mp h (s.cps[0]'(by omega)) (Array.getElem_mem _)
        exact this
      show (if (#[] : Array UInt8).size > sizeLine then _ else _) = _
      rw [if_neg (by decide)]
      simp only [hx, hn]
      have hr : s.cps.extract 0 = s.cps := by simp
      have hq : Array.findIdx? asciiCodec.bad s.cps = none := h
      simp only [hr, hq, Option.getD_none, Bool.not_false, if_true]
      rw [hf, Nat.zero_add]
    · intro x
      show (if (s.cps.map (·.toUInt8)).size > sizeLine then _ else _) = _
      rw [if_neg (by rw [Array.size_map]; omega)]
      have hx : s.cps[s.cps.size]? = none := Array.getElem?_eq_none (Nat.le_refl _)
      simp only [hx]
    · intro e
      have := congrArg List.length e
      simp only [List.length_range', List.length_nil] at this
      have el : s.length = s.cps.size := rfl
      rw [el] at this
      have e2 : ([:s.cps.size] : Std.Legacy.Range).size = s.cps.size := by simp [Std.Legacy.Range.size]
      omega
open Builtin._codecs in
theorem encodeRoad_ascii (id : String) (self : Value) (x : Str) (errors : Option Str) : encodeRoad id self x (Str.ofString "ascii") errors = (do mkBytes (← encodeNarrow id asciiCodec errors self x)) := by
  first | rfl | (unfold encodeRoad; rfl) | (unfold encodeRoad; simp only []; rfl) | decide
open Builtin._codecs in
theorem encode_tree2 (x : Str) (t u : Tok) : Builtin.«str.encode» ⟨[.str x t, .str (Str.ofString "ascii") u], []⟩ = (do ret (← encodeRoad "str.encode" (.str x t) x (Str.ofString "ascii") none)) := by kernel_rfl
theorem gives_encode_ascii (x : Str) (t u : Tok) (h : x.cps.findIdx? (fun c => decide (c ≥ 128)) = none) (hz : x.cps.size ≤ sizeLine) : Gives (Builtin.«str.encode» ⟨[.str x t, .str (Str.ofString "ascii") u], []⟩) (.bytes (x.cps.map (·.toUInt8))) := by
  refine .of_wp fun M A E s Q hq => ?_
  rw [encode_tree2, encodeRoad_ascii, narrow_ascii _ _ _ h hz]
  obtain ⟨_, hq⟩ := hq
  refine wpAny_bind ?_
  show wpAny M A (mkBytes (x.cps.map (·.toUInt8))) _ E s
  exact wpAny_mkBytes (wpAny_pure ⟨_, rfl, hq⟩) (by rw [Array.size_map]; exact hz)
end
section
def decB (x : Int) : List UInt8 := ((PySem.Str.ofString (toString x)).cps.map (·.toUInt8)).toList
def decN (n : Nat) : List UInt8 := if h : n < 10 then [(48 + n).toUInt8] else decN (n / 10) ++ [(48 + n % 10).toUInt8]
theorem decN_lt {n : Nat} (h : n < 10) : decN n = [(48 + n).toUInt8] := by unfold decN; rw [dif_pos h]
theorem decN_ge {n : Nat} (h : 10 ≤ n) : decN n = decN (n / 10) ++ [(48 + n % 10).toUInt8] := by rw [decN, dif_neg (by omega)]
theorem digitChar_dec : ∀ d : Nat, d < 10 → (Nat.digitChar d).toNat.toUInt8 = (48 + d).toUInt8 := by decide
theorem digits_decN (n : Nat) : ((Nat.toDigits 10 n).map Char.toNat).map (·.toUInt8) = decN n := by
  induction n using Nat.strongRecOn with
  | _ n ih =>
    by_cases h : n < 10
    · rw [Nat.toDigits_of_lt_base h, decN_lt h]
      simp only [List.map_cons, List.map_nil, digitChar_dec n h]
    · rw [Nat.toDigits_of_base_le (by decide) (by omega), decN_ge (by omega), List.map_append, List.map_append, ih (n / 10) (by omega)]
      simp only [List.map_cons, List.map_nil, digitChar_dec (n % 10) (Nat.mod_lt n (by decide))]
theorem decB_list (x : Int) : decB x = ((toString x).toList.map Char.toNat).map (·.toUInt8) := by
  unfold decB
  rw [Array.toList_map, signs_ofString]
theorem decB_nat (n : Nat) : decB (n : Int) = decN n := by
  rw [decB_list]
  show ((Nat.repr n).toList.map Char.toNat).map (·.toUInt8) = _
  rw [Nat.toList_repr, digits_decN]
theorem decB_neg (n : Nat) : decB (Int.negSucc n) = 45 :: decN (n + 1) := by
  rw [decB_list]
  show (("-" ++ Nat.repr (n + 1)).toList.map Char.toNat).map (·.toUInt8) = _
  rw [String.toList_append, List.map_append, List.map_append, Nat.toList_repr, digits_decN]
  rfl
theorem decN_pos (n : Nat) : decN n ≠ [] := by
  by_cases h : n < 10
  · rw [decN_lt h]; simp
  · rw [decN_ge (by omega)]; simp
theorem u8_val {n : Nat} (h : n < 256) : (n.toUInt8).toNat = n := by
  show n % 256 = n
  omega
theorem decN_mem (n : Nat) : ∀ c ∈ decN n, 48 ≤ c.toNat ∧ c.toNat ≤ 57 := by
  induction n using Nat.strongRecOn with
  | _ n ih =>
    intro c hc
    by_cases h : n < 10
    · rw [decN_lt h] at hc
      rw [List.mem_singleton.mp hc, u8_val (by omega)]
      omega
    · rw [decN_ge (by omega)] at hc
      rcases List.mem_append.mp hc with hc | hc
      · exact ih (n / 10) (by omega) c hc
      · rw [List.mem_singleton.mp hc, u8_val (by omega)]
        omega
def valD (b : Int) : List UInt8 → Int → Int
  | [], f => f
  | c :: r, f => valD b r (f * b + digitZ c.toNat)
theorem valD_append (b : Int) : ∀ (x y : List UInt8) (f : Int), valD b (x ++ y) f = valD b y (valD b x f)
  | [], y, f => rfl
  | c :: r, y, f => by rw [List.cons_append, valD, valD, valD_append b r y]
theorem read_all (b : Int) (r : List UInt8) : ∀ (ds : List UInt8) (f : Int) (k : Nat), (∀ c ∈ ds, 0 ≤ digitZ c.toNat ∧ digitZ c.toNat < b) → readL b (ds ++ r) f k = readL b r (valD b ds f) (k + ds.length)
  | [], f, k, _ => rfl
  | c :: ds, f, k, h => by
    have h1 := h c (.head _)
    rw [List.cons_append, readL, if_neg (by omega), read_all b r ds _ _ (fun d hd => h d (.tail _ hd)), valD, List.length_cons]
    congr 1
    omega
theorem digit_dec {c : Nat} (h : 48 ≤ c ∧ c ≤ 57) : digitZ (c : Nat) = c - 48 := by
  unfold digitZ
  rw [if_pos (by omega)]
theorem valD_dec (n : Nat) : valD 10 (decN n) 0 = n := by
  induction n using Nat.strongRecOn with
  | _ n ih =>
    by_cases h : n < 10
    · rw [decN_lt h]
      show (0 : Int) * 10 + digitZ _ = n
      rw [u8_val (by omega), digit_dec (by omega)]
      omega
    · rw [decN_ge (by omega), valD_append, ih (n / 10) (by omega)]
      show ((n / 10 : Nat) : Int) * 10 + digitZ _ = n
      rw [u8_val (by omega), digit_dec (by omega)]
      omega
theorem skip_all : ∀ (pre r : List UInt8) (k : Nat), (∀ c ∈ pre, blankB c.toNat = true) → skipL (pre ++ r) k = skipL r (k + pre.length)
  | [], r, k, _ => rfl
  | c :: pre, r, k, h => by
    rw [List.cons_append, skipL, if_pos (h c (.head _)), skip_all pre r _ (fun d hd => h d (.tail _ hd)), List.length_cons]
    congr 1
    omega
theorem getD_at (pre r : List UInt8) (j : Nat) : (pre ++ r).getD (pre.length + j) 0 = r.getD j 0 := by
  rw [List.getD_eq_getElem?_getD, List.getD_eq_getElem?_getD, List.getElem?_append_right (by omega)]
  congr 2
  omega
theorem byte_mem {l : List UInt8} {k : Nat} : l.getD k 0 ∈ l ∨ l.getD k 0 = 0 := by
  rw [List.getD_eq_getElem?_getD]
  cases h : l[k]? with
  | none => exact .inr rfl
  | some c => exact .inl (List.mem_of_getElem? h)
/-- a decimal text: blanks, a sign or none, digits, blanks -/
theorem parse_dec (pre sg post : List UInt8) (neg : Bool) (n : Nat) (wd : Int) (hpre : ∀ c ∈ pre, blankB c.toNat = true) (hpost : ∀ c ∈ post, blankB c.toNat = true)
    (hs : (sg = [] ∧ neg = false) ∨ (sg = [43] ∧ neg = false) ∨ (sg = [45] ∧ neg = true)) : parseZ (pre ++ (sg ++ (decN n ++ post))) wd = some (wrapZ (if neg = true then -(n : Int) else n) wd) := by
  obtain ⟨d0, dr, hd⟩ : ∃ d0 dr, decN n = d0 :: dr := by
    cases h : decN n with
    | nil => exact absurd h (decN_pos n)
    | cons a r => exact ⟨a, r, rfl⟩
  have hm := decN_mem n
  have h0 : 48 ≤ d0.toNat ∧ d0.toNat ≤ 57 := hm d0 (by rw [hd]; exact .head _)
  have nb0 : blankB (d0.toNat : Nat) = false := by unfold blankB; simp; omega
  -- the first sign that is no blank
  have hsk : skipL (pre ++ (sg ++ (decN n ++ post))) 0 = pre.length := by
    rw [skip_all _ _ _ hpre]
    rcases hs with ⟨rfl, _⟩ | ⟨rfl, _⟩ | ⟨rfl, _⟩
    · rw [List.nil_append, hd, List.cons_append, skipL, if_neg (by rw [nb0]; decide)]; omega
    · rw [List.cons_append, skipL, if_neg (by decide)]; omega
    · rw [List.cons_append, skipL, if_neg (by decide)]; omega
  have hat : ∀ j, (pre ++ (sg ++ (decN n ++ post))).getD (pre.length + j) 0 = (sg ++ (decN n ++ post)).getD j 0 := getD_at pre _
  have hlen : (pre ++ (sg ++ (decN n ++ post))).length = pre.length + sg.length + (decN n).length + post.length := by simp only [List.length_append]; omega
  have hdl : 0 < (decN n).length := by rw [hd]; simp
  have hsign : signAt (pre ++ (sg ++ (decN n ++ post))) pre.length = (((pre.length + sg.length : Nat) : Int), neg) := by
    have h1 := hat 0
    rw [Nat.add_zero] at h1
    unfold signAt byteZ
    rw [h1]
    rcases hs with ⟨rfl, rfl⟩ | ⟨rfl, rfl⟩ | ⟨rfl, rfl⟩
    · have e : ([] ++ (decN n ++ post)).getD 0 0 = d0 := by rw [hd]; rfl
      rw [e, if_neg (by omega)]
      simp
    · have e : ([43] ++ (decN n ++ post)).getD 0 0 = 43 := rfl
      rw [e, if_pos ⟨by rw [hlen]; simp only [List.length_cons, List.length_nil]; omega, .inl rfl⟩]
      rfl
    · have e : ([45] ++ (decN n ++ post)).getD 0 0 = 45 := rfl
      rw [e, if_pos ⟨by rw [hlen]; simp only [List.length_cons, List.length_nil]; omega, .inr rfl⟩]
      rfl
  have hmark : markAt (pre ++ (sg ++ (decN n ++ post))) ((pre.length + sg.length : Nat) : Int) = (((pre.length + sg.length : Nat) : Int), 0) := by
    unfold markAt
    refine if_neg fun q => ?_
    have q3 := q.2.2.1
    have e : ((((pre.length + sg.length : Nat) : Int)) + 1).toNat = pre.length + (sg.length + 1) := by omega
    unfold byteZ at q3
    rw [e, hat, getD_at sg _ 1] at q3
    rcases @byte_mem (decN n ++ post) 1 with hb | hb
    · rcases List.mem_append.mp hb with hb | hb
      · have := hm _ hb; omega
      · have := hpost _ hb
        unfold blankB at this
        simp only [decide_eq_true_eq] at this
        omega
    · rw [hb] at q3
      rcases q3 with q3 | q3 <;> exact absurd q3 (by decide)
  have hz : skipL ((pre ++ (sg ++ (decN n ++ post))).drop (0 : Int).toNat) (0 : Int).toNat = pre.length := hsk
  have hdrop : (pre ++ (sg ++ (decN n ++ post))).drop (pre.length + sg.length) = decN n ++ post := by
    rw [← List.append_assoc, ← List.length_append, List.drop_left]
  have hpe : ∀ f k, readL 10 post f k = (f, k) := by
    intro f k
    cases post with
    | nil => rfl
    | cons c r =>
      have := hpost c (.head _)
      unfold blankB at this
      simp only [decide_eq_true_eq] at this
      have e : digitZ (c.toNat : Nat) = -1 := by unfold digitZ; rw [if_neg (by omega), if_neg (by omega), if_neg (by omega)]
      rw [readL, if_pos (by omega)]
  have hread : readL 10 ((pre ++ (sg ++ (decN n ++ post))).drop (((pre.length + sg.length : Nat) : Int)).toNat) 0 (((pre.length + sg.length : Nat) : Int)).toNat = ((n : Int), pre.length + sg.length + (decN n).length) := by
    rw [Int.toNat_natCast, hdrop, read_all 10 post _ _ _ (fun c hc => by have := hm c hc; rw [digit_dec this]; omega), valD_dec, hpe]
  have hend : skipL ((pre ++ (sg ++ (decN n ++ post))).drop (pre.length + sg.length + (decN n).length)) (pre.length + sg.length + (decN n).length) = pre.length + sg.length + (decN n).length + post.length := by
    have e : (pre ++ (sg ++ (decN n ++ post))).drop (pre.length + sg.length + (decN n).length) = post := by
      rw [← List.append_assoc, ← List.append_assoc, ← List.length_append, ← List.length_append, List.drop_left]
    rw [e]
    have := skip_all post [] (pre.length + sg.length + (decN n).length) hpost
    rw [List.append_nil] at this
    rw [this]; rfl
  rw [parse_at0 (a1 := ((pre.length + sg.length : Nat) : Int)) (bl := neg) (by rw [hz, hsign]) hmark.symm]
  unfold parseB
  rw [hread]
  dsimp only
  rw [hend, if_neg (by rw [hlen]; omega)]
end
section
theorem digit_hexC : ∀ d : Nat, d < 16 → digitZ ((hexC d).toNat : Nat) = d ∧ digitZ ((Builtin.Bytes.toUpper (hexC d)).toNat : Nat) = d := by decide +kernel
theorem hexD_mem (n : Nat) : ∀ c ∈ hexD n, ∃ d, d < 16 ∧ c = hexC d := by
  induction n using Nat.strongRecOn with
  | _ n ih =>
    intro c hc
    by_cases h : n < 16
    · rw [hexD_lt h] at hc
      exact ⟨n, h, List.mem_singleton.mp hc⟩
    · rw [hexD_ge (by omega)] at hc
      rcases List.mem_append.mp hc with hc | hc
      · exact ih (n / 16) (by omega) c hc
      · exact ⟨n % 16, Nat.mod_lt n (by decide), List.mem_singleton.mp hc⟩
theorem valD_hex (n : Nat) : valD 16 (hexD n) 0 = n := by
  induction n using Nat.strongRecOn with
  | _ n ih =>
    by_cases h : n < 16
    · rw [hexD_lt h]
      show (0 : Int) * 16 + digitZ _ = n
      rw [(digit_hexC n h).1]
      omega
    · rw [hexD_ge (by omega), valD_append, ih (n / 16) (by omega)]
      show ((n / 16 : Nat) : Int) * 16 + digitZ _ = n
      rw [(digit_hexC (n % 16) (Nat.mod_lt n (by decide))).1]
      omega
theorem valD_hexU (n : Nat) : valD 16 ((hexD n).map Builtin.Bytes.toUpper) 0 = n := by
  induction n using Nat.strongRecOn with
  | _ n ih =>
    by_cases h : n < 16
    · rw [hexD_lt h]
      show (0 : Int) * 16 + digitZ _ = n
      rw [(digit_hexC n h).2]
      omega
    · rw [hexD_ge (by omega), List.map_append, valD_append, ih (n / 16) (by omega)]
      show ((n / 16 : Nat) : Int) * 16 + digitZ _ = n
      rw [(digit_hexC (n % 16) (Nat.mod_lt n (by decide))).2]
      omega
theorem parse_hex (x : UInt8) (hs : List UInt8) (wd : Int) (hx : x = 120 ∨ x = 88) (hne : hs ≠ []) (hd : ∀ c ∈ hs, 0 ≤ digitZ c.toNat ∧ digitZ c.toNat < 16) : parseZ (48 :: x :: hs) wd = some (wrapZ (valD 16 hs 0) wd) := by
  obtain ⟨d0, dr, rfl⟩ : ∃ d0 dr, hs = d0 :: dr := by
    cases hs with
    | nil => exact absurd rfl hne
    | cons a r => exact ⟨a, r, rfl⟩
  have h0 := hd d0 (.head _)
  have hz : skipL ((48 :: x :: d0 :: dr).drop (0 : Int).toNat) (0 : Int).toNat = 0 := by
    show skipL (48 :: x :: d0 :: dr) 0 = 0
    rw [skipL, if_neg (by decide)]
  have hsign : signAt (48 :: x :: d0 :: dr) 0 = ((0 : Int), false) := by
    unfold signAt byteZ
    refine if_neg fun q => ?_
    have : ((48 :: x :: d0 :: dr).getD 0 0) = 48 := rfl
    rw [this] at q
    rcases q.2 with q | q <;> exact absurd q (by decide)
  have hmark : markAt (48 :: x :: d0 :: dr) 0 = (2, 16) := by
    unfold markAt byteZ
    refine if_pos ⟨by simp only [List.length_cons]; omega, rfl, ?_, h0.1, h0.2⟩
    show ((x.toNat : Nat) : Int) = 120 ∨ ((x.toNat : Nat) : Int) = 88
    rcases hx with rfl | rfl
    · exact .inl rfl
    · exact .inr rfl
  have hread : readL 16 ((48 :: x :: d0 :: dr).drop (2 : Int).toNat) 0 (2 : Int).toNat = (valD 16 (d0 :: dr) 0, 2 + (d0 :: dr).length) := by
    show readL 16 (d0 :: dr) 0 2 = _
    have := read_all 16 [] (d0 :: dr) 0 2 hd
    rw [List.append_nil] at this
    rw [this, readL]
  have hend : skipL ((48 :: x :: d0 :: dr).drop (2 + (d0 :: dr).length)) (2 + (d0 :: dr).length) = 2 + (d0 :: dr).length := by
    rw [List.drop_eq_nil_of_le (by simp only [List.length_cons]; omega), skipL]
  rw [parse_at16 (a1 := 0) (bl := false) (by rw [hz, hsign]) hmark.symm]
  unfold parseB
  rw [hread]
  dsimp only
  rw [hend, if_neg (by simp only [List.length_cons]; omega), if_neg (by decide)]
theorem parse_hexL (n : Nat) (wd : Int) : parseZ (48 :: 120 :: hexD n) wd = some (wrapZ n wd) := by
  rw [parse_hex 120 (hexD n) wd (.inl rfl) ?_ ?_, valD_hex]
  · by_cases h : n < 16
    · rw [hexD_lt h]; simp
    · rw [hexD_ge (by omega)]; simp
  · intro c hc
    obtain ⟨d, hd, rfl⟩ := hexD_mem n c hc
    rw [(digit_hexC d hd).1]
    omega
theorem parse_hexU (n : Nat) (wd : Int) : parseZ ((48 :: 120 :: hexD n).map Builtin.Bytes.toUpper) wd = some (wrapZ n wd) := by
  have e : (48 :: 120 :: hexD n).map Builtin.Bytes.toUpper = 48 :: 88 :: (hexD n).map Builtin.Bytes.toUpper := rfl
  rw [e, parse_hex 88 _ wd (.inr rfl) ?_ ?_, valD_hexU]
  · by_cases h : n < 16
    · rw [hexD_lt h]; simp
    · rw [hexD_ge (by omega)]; simp
  · intro c hc
    obtain ⟨c', hc', rfl⟩ := List.mem_map.mp hc
    obtain ⟨d, hd, rfl⟩ := hexD_mem n c' hc'
    rw [(digit_hexC d hd).2]
    omega
theorem hexD_len (n : Nat) : ∀ k, n < 16 ^ k → (hexD n).length ≤ k + 1 := by
  induction n using Nat.strongRecOn with
  | _ n ih =>
    intro k hk
    by_cases h : n < 16
    · rw [hexD_lt h]; simp
    · rw [hexD_ge (by omega), List.length_append, List.length_singleton]
      cases k with
      | zero => simp at hk; omega
      | succ k =>
        have := ih (n / 16) (by omega) k (by rw [Nat.pow_succ] at hk; exact Nat.div_lt_of_lt_mul (by rw [Nat.mul_comm]; exact hk))
        omega
theorem parse_none0 {l : List UInt8} {wd a : Int} {bl : Bool} (hs : (a, bl) = signAt l (skipL (l.drop (0 : Int).toNat) (0 : Int).toNat)) (hm : (a, 0) = markAt l a)
    (hc : ((readL 10 (l.drop a.toNat) 0 a.toNat).2 : Int) = a ∨ ((skipL (l.drop (readL 10 (l.drop a.toNat) 0 a.toNat).2) (readL 10 (l.drop a.toNat) 0 a.toNat).2 : Nat) : Int) ≠ l.length) : parseZ l wd = none := by
  rw [parse_at0 hs hm]
  exact if_pos hc
theorem parse_bad (l : List UInt8) (wd : Int) (h : l ∈ ([[], [32], [120], [49, 32, 50], [48, 120], [45, 45, 49], [45], [48, 120, 103]] : List (List UInt8))) : parseZ l wd = none := by
  simp only [List.mem_cons, List.not_mem_nil, or_false] at h
  rcases h with rfl | rfl | rfl | rfl | rfl | rfl | rfl | rfl
  · exact parse_none0 (a := 0) (bl := false) (by decide +kernel) (by decide +kernel) (by decide +kernel)
  · exact parse_none0 (a := 1) (bl := false) (by decide +kernel) (by decide +kernel) (by decide +kernel)
  · exact parse_none0 (a := 0) (bl := false) (by decide +kernel) (by decide +kernel) (by decide +kernel)
  · exact parse_none0 (a := 0) (bl := false) (by decide +kernel) (by decide +kernel) (by decide +kernel)
  · exact parse_none0 (a := 0) (bl := false) (by decide +kernel) (by decide +kernel) (by decide +kernel)
  · exact parse_none0 (a := 1) (bl := true) (by decide +kernel) (by decide +kernel) (by decide +kernel)
  · exact parse_none0 (a := 1) (bl := true) (by decide +kernel) (by decide +kernel) (by decide +kernel)
  · exact parse_none0 (a := 0) (bl := false) (by decide +kernel) (by decide +kernel) (by decide +kernel)
-- the width's arithmetic
theorem wrap_range (n wd : Int) (h : 2 ≤ wd) : -(2 ^ (wd.toNat - 1)) ≤ wrapZ n wd ∧ wrapZ n wd < 2 ^ (wd.toNat - 1) := by
  have hp := kbt_pos (wd.toNat - 1)
  have e : (2 : Int) ^ wd.toNat = 2 * 2 ^ (wd.toNat - 1) := by
    have : wd.toNat = (wd.toNat - 1) + 1 := by omega
    conv => lhs; rw [this, Int.pow_succ]
    omega
  have h1 := Int.emod_nonneg n (show (2 : Int) ^ wd.toNat ≠ 0 by omega)
  have h2 := Int.emod_lt_of_pos n (show (0 : Int) < 2 ^ wd.toNat by omega)
  unfold wrapZ
  split <;> omega
theorem wrap_id (n wd : Int) (h : 2 ≤ wd) (h1 : -(2 ^ (wd.toNat - 1)) ≤ n) (h2 : n < 2 ^ (wd.toNat - 1)) : wrapZ n wd = n := by
  have hp := kbt_pos (wd.toNat - 1)
  have e : (2 : Int) ^ wd.toNat = 2 * 2 ^ (wd.toNat - 1) := by
    have : wd.toNat = (wd.toNat - 1) + 1 := by omega
    conv => lhs; rw [this, Int.pow_succ]
    omega
  unfold wrapZ
  by_cases hn : 0 ≤ n
  · rw [Int.emod_eq_of_lt hn (by omega), if_neg (by omega)]
  · have : n % 2 ^ wd.toNat = n + 2 ^ wd.toNat := by
      rw [← Int.add_emod_right, Int.emod_eq_of_lt (by omega) (by omega)]
    rw [this, if_pos (by omega)]
    omega
theorem wrap_add (n z wd : Int) : wrapZ (n + 2 ^ wd.toNat * z) wd = wrapZ n wd := by
  unfold wrapZ
  rw [Int.add_mul_emod_self_left]
theorem wrap_mod (n wd : Int) : wrapZ (n % 2 ^ wd.toNat) wd = wrapZ n wd := by
  unfold wrapZ
  rw [Int.emod_emod_of_dvd n (Int.dvd_refl _)]
theorem wrap_congr {a b wd : Int} (h : a % 2 ^ wd.toNat = b % 2 ^ wd.toNat) : wrapZ a wd = wrapZ b wd := by
  unfold wrapZ
  rw [h]
end
section
theorem log2_70 {x : Int} (h1 : -(2 ^ 70) < x) (h2 : x < 2 ^ 70) : x.natAbs.log2 < 70 := by
  have h : x.natAbs < 2 ^ 70 := by omega
  by_cases h0 : x.natAbs = 0
  · rw [h0]; decide
  · exact (Nat.log2_lt h0).mpr h
theorem dec_len {x : Int} (h1 : -(2 ^ 70) < x) (h2 : x < 2 ^ 70) : (PySem.Str.ofString (toString x)).cps.size ≤ 71 := by
  have e : (PySem.Str.ofString (toString x)).cps.size = (toString x).length := PySem.ofString_length (toString x)
  rw [e]
  exact int_text_length_le (by decide) (log2_70 h1 h2)
theorem dec_ascii (x : Int) : (PySem.Str.ofString (toString x)).cps.findIdx? (fun c => decide (c ≥ 128)) = none := by
  rw [Array.findIdx?_eq_none_iff]
  intro c hc
  have hc' : c ∈ (PySem.Str.ofString (toString x)).cps.toList := Array.mem_toList_iff.mpr hc
  rw [signs_ofString] at hc'
  have dig : ∀ n : Nat, ∀ d ∈ (Nat.repr n).toList.map Char.toNat, d < 128 := by
    intro n d hd
    rw [Nat.toList_repr] at hd
    obtain ⟨ch, hch, e⟩ := List.mem_map.mp hd
    have r := Nat.isDigit_of_mem_toDigits (by decide) (by decide) hch
    have := digit_range r
    omega
  have : c < 128 := by
    cases x with
    | ofNat n => exact dig n c hc'
    | negSucc n =>
      have e : (toString (Int.negSucc n)) = "-" ++ Nat.repr (n + 1) := rfl
      rw [e, String.toList_append, List.map_append] at hc'
      rcases List.mem_append.mp hc' with h | h
      · have : c = 45 := by simpa using h
        omega
      · exact dig (n + 1) c h
  simp only [decide_eq_false_iff_not]
  omega
theorem decB_len {x : Int} (h1 : -(2 ^ 70) < x) (h2 : x < 2 ^ 70) : (decB x).length ≤ 71 := by
  unfold decB
  rw [Array.length_toList, Array.size_map]
  exact dec_len h1 h2
section
variable {prog : Program} {w : World} {M : Model} {A : Around} {E : Value → Shared → Prop} {s : Shared} {t u : Tok}
theorem str_call {x : Int} {Q : Value → Shared → Prop} (h1 : -(2 ^ 70) < x) (h2 : x < 2 ^ 70) (h : Q (.str (PySem.Str.ofString (toString x)) s.toks) { s with toks := s.toks + 1 }) : wpAny (model prog w) A (call (.type "str") [.int x t]) Q E s :=
  P.str_of_int (Nat.lt_trans (log2_70 h1 h2) (by decide)) h
set_option maxRecDepth 100000 in
theorem enc_method {x : PySem.Str} {pl : Sem Bool} {Q : Value × List Value → Shared → Prop} (h : Q (.builtin "str.encode", [.str x t]) s) : wpAny M A (getMethod (.str x t) "encode" pl) Q E s :=
  getMethod_builtin (typeIs_str s x t) F.plainAttrs_str F.slot_str_encode F.type_str_encode (fun _ e => nomatch e) h
set_option maxRecDepth 100000 in
theorem enc_call {x : Int} {Q : Value → Shared → Prop} (h1 : -(2 ^ 70) < x) (h2 : x < 2 ^ 70) (h : ∀ t' k, Q (.bytes (decB x).toArray t') { s with toks := k }) :
    wpAny (model prog w) A (call (.builtin "str.encode") [.str (PySem.Str.ofString (toString x)) t, .str (PySem.Str.ofString "ascii") u]) Q E s := by
  have hl := dec_len h1 h2
  have hs : (PySem.Str.ofString (toString x)).cps.size ≤ sizeLine := by rw [sizeLine_eq]; omega
  refine call_gives F.slot_str_encode (typeIs_str s _ t) F.entry_str_encode (F.args_str_encode_2 _ _) (gives_encode_ascii _ t u (dec_ascii x) hs) ⟨by rw [Array.size_map]; exact hs, ?_⟩
  have e : (PySem.Str.ofString (toString x)).cps.map (·.toUInt8) = (decB x).toArray := by unfold decB; rw [Array.toArray_toList]
  rw [e]
  exact h _ _
theorem slot_bytes_upper : Slot "bytes" "upper" "bytes.upper" :=
  .of (owner := "bytes") (n := "upper") (by rw [typeLookup_type, builtinLookup_eq_fast]; kernel_rfl) (by decide +kernel) (by decide +kernel) (by decide +kernel)
    (by first | exact .inl (by decide +kernel) | exact .inr (by decide +kernel)) (by rw [isSubtype_type]; kernel_rfl)
theorem type_bytes_upper : typeOf (.builtin "bytes.upper") = pure (.type "method_descriptor") := by show builtinType _ = _; rw [builtinType_eq_fast]; kernel_rfl
theorem entry_bytes_upper : entryFor table "bytes.upper" = some Builtin.«bytes.upper» := entryFor_of_tree (by kernel_rfl)
theorem args_bytes_upper (a : Value) : argsOk "bytes.upper" ⟨[a], []⟩ := by
  unfold argsOk; rw [signature?_of (id := "bytes.upper") (n := ['r', 'e', 'p', 'p', 'u']) (o := ['s', 'e', 't', 'y', 'b']) (by kernel_rfl) FB.owner_bytes]; kernel_rfl
theorem up_method {b : Array UInt8} {pl : Sem Bool} {Q : Value × List Value → Shared → Prop} (h : Q (.builtin "bytes.upper", [.bytes b t]) s) : wpAny M A (getMethod (.bytes b t) "upper" pl) Q E s :=
  KBd.method_of (.bytes b t) (typeIs_bytes _ _ _) slot_bytes_upper type_bytes_upper KBd.noRef h
theorem gives_upper (b : Array UInt8) : Gives (Builtin.«bytes.upper» ⟨[.bytes b t], []⟩) (.bytes (b.toList.map Builtin.Bytes.toUpper).toArray) := .of_eq rfl
theorem up_call {l : List UInt8} {Q : Value → Shared → Prop} (hl : l.length ≤ 200) (h : ∀ t' k, Q (.bytes (l.map Builtin.Bytes.toUpper).toArray t') { s with toks := k }) : wpAny (model prog w) A (call (.builtin "bytes.upper") [.bytes l.toArray t]) Q E s :=
  call_gives slot_bytes_upper (typeIs_bytes _ _ _) entry_bytes_upper (args_bytes_upper _) (gives_upper l.toArray) ⟨by rw [List.size_toArray, List.length_map, sizeLine_eq]; simp only [List.toList_toArray] at *; omega, h _ _⟩
theorem list_item {h₀ : Heap} {L D : Addr} {news : List (Addr × Obj)} {its : Array Value} {n : Nat} {value slice : PySem.Expr} {i : Int} {Q : Value → Shared → Prop} (N : News h₀ L s.heap news) (hm : (D, listOf its n) ∈ news) (h0 : 0 ≤ i) (h1 : i < (its.size : Nat)) (hf : i < 2 ^ 63) (h : ∀ v, v ∈ its.toList → Q v s)
    (hs : subscripted slice false (.ref D) (.int i u) = operate [.ref D, .int i u] (getItem (.ref D) (.int i u)) := by with_unfolding_all rfl) :
    wpAny (model prog w) A (subscriptTail value slice (.ref D) (.int i u)) Q E s := by
  have hl : s.heap.IsList D its := News.isList N hm
  have hi : i.toNat < its.size := by omega
  exact tail_any hl.typeIs slot_list_getitem.lookup (wpAny_getItem_list hl h0 hf (Array.getElem?_eq_getElem hi) (h _ (Array.getElem_mem_toList hi))) hs
end
end
section
theorem fmp (x : Int) (k : Nat) : 0 ≤ Int.fmod x (2 ^ k) ∧ Int.fmod x (2 ^ k) < 2 ^ k := ⟨Int.fmod_nonneg_of_pos x (kbt_pos k), Int.fmod_lt_of_pos x (kbt_pos k)⟩
theorem fmp64 {x : Int} {k : Nat} (h : k ≤ 64) : Int.fmod x (2 ^ k) < 2 ^ 64 := Int.lt_of_lt_of_le (fmp x k).2 (pow_le64 h)
theorem str_rng {n z : Int} {k : Nat} (hk : k ≤ 64) (z0 : 0 ≤ z) (z1 : z < 3) (n0 : -(2 ^ 63) ≤ n) (n1 : n < 2 ^ 63) : -(2 ^ 70) < n + 2 ^ k * z ∧ n + 2 ^ k * z < 2 ^ 70 := by
  have h1 := pow_le64 hk
  have h2 := kbt_pos k
  have : z = 0 ∨ z = 1 ∨ z = 2 := by omega
  rcases this with rfl | rfl | rfl <;> omega
theorem hex_len200 {x : Int} {k : Nat} (h : k ≤ 64) : (48 :: 120 :: hexD (Int.fmod x (2 ^ k)).toNat).length ≤ 200 := by
  have h1 := fmp64 (x := x) h
  have h2 := (fmp x k).1
  have e : (16 : Nat) ^ 16 = 2 ^ 64 := by decide
  have := hexD_len (Int.fmod x (2 ^ k)).toNat 16 (by rw [e]; omega)
  simp only [List.length_cons]
  omega
theorem parse_decB0 (pre post : List UInt8) (x wd : Int) (hpre : ∀ c ∈ pre, blankB c.toNat = true) (hpost : ∀ c ∈ post, blankB c.toNat = true) : parseZ (pre ++ (decB x ++ post)) wd = some (wrapZ x wd) := by
  cases x with
  | ofNat n =>
    show parseZ (pre ++ (decB (n : Int) ++ post)) wd = some (wrapZ (n : Int) wd)
    rw [decB_nat]
    exact parse_dec pre [] post false n wd hpre hpost (.inl ⟨rfl, rfl⟩)
  | negSucc n =>
    rw [decB_neg]
    exact parse_dec pre [45] post true (n + 1) wd hpre hpost (.inr (.inr ⟨rfl, rfl⟩))
theorem parse_decB1 (pre post : List UInt8) (x wd : Int) (hpre : ∀ c ∈ pre, blankB c.toNat = true) (hpost : ∀ c ∈ post, blankB c.toNat = true) (h : 0 ≤ x) : parseZ (pre ++ ([43] ++ (decB x ++ post))) wd = some (wrapZ x wd) := by
  obtain ⟨n, rfl⟩ := Int.eq_ofNat_of_zero_le h
  rw [decB_nat]
  exact parse_dec pre [43] post false n wd hpre hpost (.inr (.inl ⟨rfl, rfl⟩))
inductive VRel (wd : Int) (v1 v2 : Value) : Prop
  | int (n : Int) (t t' : Tok) (e1 : v1 = .int n t) (e2 : v2 = .int n t')
  | bytes (l : List UInt8) (t t' : Tok) (hl : l.length ≤ 200) (e1 : v1 = .bytes l.toArray t) (e2 : v2 = optV (parseZ l wd) t')
  | none (e1 : v1 = .none) (e2 : v2 = .none)
  | bool (b : Bool) (e1 : v1 = .bool b) (e2 : v2 = .none)
theorem VRel.text {wd n x : Int} {l : List UInt8} {a : Array UInt8} {t t' : Tok} (ha : a = l.toArray) (hl : l.length ≤ 200) (hp : parseZ l wd = some (wrapZ x wd)) (hw : wrapZ x wd = n) : VRel wd (.bytes a t) (.int n t') :=
  .bytes l t t' hl (by rw [ha]) (by rw [hp, hw]; rfl)
theorem VRel.bad {wd : Int} {l : List UInt8} {a : Array UInt8} {t : Tok} (ha : a = l.toArray) (h : l ∈ ([[], [32], [120], [49, 32, 50], [48, 120], [45, 45, 49], [45], [48, 120, 103]] : List (List UInt8))) : VRel wd (.bytes a t) .none :=
  .bytes l t 0 (by
    simp only [List.mem_cons, List.not_mem_nil, or_false] at h
    rcases h with rfl | rfl | rfl | rfl | rfl | rfl | rfl | rfl <;> decide) (by rw [ha]) (by rw [parse_bad l wd h]; rfl)
theorem vrel2 {wd n z : Int} {t t' : Tok} (hw : wrapZ n wd = n) (hl : (decB (n + 2 ^ wd.toNat * z)).length ≤ 71) : VRel wd (.bytes (decB (n + 2 ^ wd.toNat * z)).toArray t) (.int n t') :=
  VRel.text (x := n + 2 ^ wd.toNat * z) rfl (by omega) (by
    have := parse_decB0 [] [] (n + 2 ^ wd.toNat * z) wd (fun _ h => nomatch h) (fun _ h => nomatch h)
    simpa using this) (by rw [wrap_add, hw])
theorem vrel3a {wd n : Int} {t t' : Tok} (hw : wrapZ n wd = n) (hl : (decB n).length ≤ 71) (h0 : 0 ≤ n) : VRel wd (.bytes (#[32, 9] ++ #[43] ++ (decB n).toArray ++ #[10]) t) (.int n t') :=
  VRel.text (l := [32, 9] ++ ([43] ++ (decB n ++ [10]))) (x := n) (by apply Array.toList_inj.mp; simp) (by simp only [List.length_append, List.length_cons, List.length_nil]; omega) (parse_decB1 [32, 9] [10] n wd (by decide) (by decide) h0) hw
theorem vrel3b {wd n : Int} {t t' : Tok} (hw : wrapZ n wd = n) (hl : (decB n).length ≤ 71) : VRel wd (.bytes (#[32, 9] ++ #[] ++ (decB n).toArray ++ #[10]) t) (.int n t') :=
  VRel.text (l := [32, 9] ++ (decB n ++ [10])) (x := n) (by apply Array.toList_inj.mp; simp) (by simp only [List.length_append, List.length_cons, List.length_nil]; omega) (parse_decB0 [32, 9] [10] n wd (by decide) (by decide)) hw
theorem hex_wrap {wd n : Int} (hw : wrapZ n wd = n) : wrapZ (((Int.fmod n (2 ^ wd.toNat)).toNat : Nat) : Int) wd = n := by
  rw [Int.toNat_of_nonneg (fmp n _).1, fmod_pow, wrap_mod, hw]
theorem vrel4a {wd n : Int} {t t' : Tok} (hw : wrapZ n wd = n) (h2 : wd ≤ 64) : VRel wd (.bytes (48 :: 120 :: hexD (Int.fmod n (2 ^ wd.toNat)).toNat).toArray t) (.int n t') :=
  VRel.text (x := ((Int.fmod n (2 ^ wd.toNat)).toNat : Nat)) rfl (hex_len200 (by omega)) (parse_hexL _ wd) (hex_wrap hw)
theorem vrel4b {wd n : Int} {t t' : Tok} (hw : wrapZ n wd = n) (h2 : wd ≤ 64) : VRel wd (.bytes ((48 :: 120 :: hexD (Int.fmod n (2 ^ wd.toNat)).toNat).map Builtin.Bytes.toUpper).toArray t) (.int n t') :=
  VRel.text (x := ((Int.fmod n (2 ^ wd.toNat)).toNat : Nat)) rfl (by rw [List.length_map]; exact hex_len200 (by omega)) (parse_hexU _ wd) (hex_wrap hw)
def ValPost (b l : Addr) (k1 : Nat) (wd : Int) (r : Value) (nn : List (Addr × Obj)) : Prop :=
  ∃ x' t' vs' ns' k2' a v1 v2 n, 0 ≤ x' ∧ x' < 2 ^ 89 ∧ IntsAre vs' ns' ∧ vs'.length ≤ 24 ∧ nn = [(a, ({ cls := .type "tuple", data := .seq #[v1, v2] n } : Obj)), (b, listOf (List.toArray [.ref l, .int x' t']) k1), (l, listOf (List.toArray vs') k2')] ∧ r = .ref a ∧ @Ne Nat a b ∧ @Ne Nat a l ∧ VRel wd v1 v2
local macro_rules | `(tactic| walk_at "getMethod str") => `(tactic| (k_here; with_reducible refine enc_method ?_))
local macro_rules | `(tactic| walk_at "getMethod bytes") => `(tactic| (k_here; with_reducible refine up_method ?_))
local macro_rules | `(tactic| walk_at "call type:str") => `(tactic| (k_here; (with_reducible show wpAny _ _ (call (Value.type "str") [Value.int _ _]) _ _ _); (refine str_call ?a ?b ?_; (case a => first | omega | exact (str_rng (by omega) (by omega) (by omega) (by omega) (by omega)).1); (case b => first | omega | exact (str_rng (by omega) (by omega) (by omega) (by omega) (by omega)).2))))
local macro_rules | `(tactic| walk_at "call builtin:str.encode") => `(tactic| (k_here; (refine enc_call ?a ?b ?_; (case a => first | omega | exact (str_rng (by omega) (by omega) (by omega) (by omega) (by omega)).1); (case b => first | omega | exact (str_rng (by omega) (by omega) (by omega) (by omega) (by omega)).2)); intro _ _))
local macro_rules | `(tactic| walk_at "call builtin:bytes.upper") => `(tactic| (k_here; (refine up_call ?a ?_; (case a => exact hex_len200 (by omega))); intro _ _))
local macro_rules | `(tactic| walk_at "subscriptTail Name Call ref int") => `(tactic| (k_here; k_dflt (refine' list_item ?k1 ?k2 ?k3 ?k4 ?k5 ?_ ?k6; (case k1 => k_asm); (case k2 => k_mem); (case k3 => first | assumption | omega); (case k4 => first | assumption | omega); (case k5 => omega); (case k6 => with_unfolding_all rfl); k_whole); intro v9 hv9))
local macro_rules | `(tactic| walk_at "binaryOp Add bytes bytes") => `(tactic| (k_here; (refine KBy.add_bytes ?z ?_; (case z => first | omega | (simp only [Array.size_append, List.size_toArray, List.length_cons, List.length_nil]; omega))); intro _ _))
theorem val_end {b l D : Addr} {k1 : Nat} {wd x' : Int} {t' : Tok} {vs' : List Value} {ns' : List Int} {k2' n : Nat} {v1 v2 : Value} (h0 : 0 ≤ x') (h1 : x' < 2 ^ 89) (hi : IntsAre vs' ns') (hz : vs'.length ≤ 24) (hb : @Ne Nat D b) (hl : @Ne Nat D l) (hr : VRel wd v1 v2) :
    ValPost b l k1 wd (.ref D) [(D, ({ cls := .type "tuple", data := .seq #[v1, v2] n } : Obj)), (b, listOf (List.toArray [.ref l, .int x' t']) k1), (l, listOf (List.toArray vs') k2')] :=
  ⟨x', t', vs', ns', k2', D, v1, v2, n, h0, h1, hi, hz, rfl, rfl, hb, hl, hr⟩
theorem vrel5 {wd : Int} {v : Value} {u1 u2 u3 u4 u5 u6 u7 u8 : Tok} (h : v ∈ ([.none, .bool true, .bool false, .bytes #[] u1, .bytes #[32] u2, .bytes #[120] u3, .bytes #[49, 32, 50] u4, .bytes #[48, 120] u5, .bytes #[45, 45, 49] u6, .bytes #[45] u7, .bytes #[48, 120, 103] u8] : List Value)) : VRel wd v .none := by
  simp only [List.mem_cons, List.not_mem_nil, or_false] at h
  rcases h with rfl | rfl | rfl | rfl | rfl | rfl | rfl | rfl | rfl | rfl | rfl
  · exact .none rfl rfl
  · exact .bool true rfl rfl
  · exact .bool false rfl rfl
  · exact .bad (l := []) rfl (by decide)
  · exact .bad (l := [32]) rfl (by decide)
  · exact .bad (l := [120]) rfl (by decide)
  · exact .bad (l := [49, 32, 50]) rfl (by decide)
  · exact .bad (l := [48, 120]) rfl (by decide)
  · exact .bad (l := [45, 45, 49]) rfl (by decide)
  · exact .bad (l := [45]) rfl (by decide)
  · exact .bad (l := [48, 120, 103]) rfl (by decide)
set_option maxRecDepth 100000 in
set_option maxHeartbeats 8000000 in
theorem value_spec (b l : Addr) (x wd n : Int) (t t1 t2 : Tok) (k1 k2 : Nat) (vs : List Value) (ns : List Int) (hi : IntsAre vs ns) (hz : vs.length ≤ 24) (hb : @Ne Nat b l) (hx : 0 ≤ x) (hx1 : x < 2 ^ 89) (h1 : 2 ≤ wd) (h2 : wd ≤ 64) (hn1 : -(2 ^ 63) ≤ n) (hn2 : n < 2 ^ 63) (hw : wrapZ n wd = n) (hdl : (decB n).length ≤ 71) :
    Spec 188 2 16 [(b, listOf (List.toArray [.ref l, .int x t]) k1), (l, listOf (List.toArray vs) k2)] [.ref b, .int n t1, .int wd t2] (ValPost b l k1 wd) := by
  w_top off
  k_with_none
  k_with "call ref" => (k_here; (with_reducible show wpAny _ _ (call (Value.ref 160) _) _ _ _); k_dflt (refine' useB1r (by k_asm) (by k_asm) (by k_asm) (by k_asm) (by k_all) (by k_all) (by k_asm) (by first | exact rfl | assumption) (by ktr_room) (by ktr_units) (take_spec _ _ _ _ _ _ _ _ _ _ (by assumption) (by assumption) (by first | assumption | omega) (by assumption) (by assumption) (by first | omega | exact kbt_pos _) (by first | omega | exact pow_le64 (by omega))) ?_; k_whole); intro r9 h9 tk9 nn9 F9 N9 D9 P9; clear D9; revert N9; k_dflt (apply take_elim P9); clear P9; clear r9 nn9; intro x9 t9 vs9 ns9 k9 z9 tz9 x9a x9b i9 l9 z9a z9b N9; (try dsimp only [List.cons_append, List.nil_append] at N9); (try dsimp only); (try k_fold))
  k_with "call ref" => (k_here; (with_reducible show wpAny _ _ (call (Value.ref 160) _) _ _ _); k_dflt (refine' useB0r (by k_asm) (by k_asm) (by k_asm) (by k_asm) (by k_all) (by k_all) (by k_asm) (by first | exact rfl | assumption) (by ktr_room) (by ktr_units) (take_spec _ _ _ _ _ _ _ _ _ _ (by assumption) (by assumption) (by first | assumption | omega) (by assumption) (by assumption) (by first | omega | exact kbt_pos _) (by first | omega | exact pow_le64 (by omega))) ?_; k_whole); intro r9 h9 tk9 nn9 F9 N9 D9 P9; clear D9; revert N9; k_dflt (apply take_elim P9); clear P9; clear r9 nn9; intro x9 t9 vs9 ns9 k9 z9 tz9 x9a x9b i9 l9 z9a z9b N9; (try dsimp only [List.cons_append, List.nil_append] at N9); (try dsimp only); (try k_fold))
  k_with "call ref" => (k_here; (with_reducible show wpAny _ _ (call (Value.ref 181) _) _ _ _); k_dflt (refine' use0 (hex_spec _ _ (by first | assumption | omega | exact (fmp _ _).1) (by first | assumption | omega | exact fmp64 (by omega))) (by k_asm) (by k_asm) (by k_asm) (by k_asm) (by k_asm) (by first | exact rfl | assumption) (by ktr_room) (by ktr_units) ?_; k_whole); intro r9 h9 tk9 nn9 F9 N9 D9 P9; clear D9; (obtain ⟨e9, t9, f9⟩ := P9); subst e9; subst f9; (try dsimp only [List.cons_append, List.nil_append] at N9); (try dsimp only); (try k_fold))
  walk_at "ENTER"
  all_goals (refine' LeaveR.mk ?e2 ?e3 (val_end ?q1 ?q2 ?q3 ?q4 ?q5 ?q6 ?_); (case e2 => k_asm); (case e3 => first | k_asm | (refine' cb_drop ?cbN ?cbS; (case cbN => assumption); (case cbS => walk_at "LEDALL"))); (case q1 => assumption); (case q2 => assumption); (case q3 => assumption); (case q4 => assumption); (case q5 => omega); (case q6 => omega))
  · exact .int n t1 t1 rfl rfl
  · exact vrel2 hw (decB_len (str_rng (by omega) (by omega) (by omega) (by omega) (by omega)).1 (str_rng (by omega) (by omega) (by omega) (by omega) (by omega)).2)
  · exact vrel3a hw hdl (by first | assumption | omega)
  · exact vrel3b hw hdl
  · exact vrel3b hw hdl
  · exact vrel4b hw h2
  · exact vrel4a hw h2
  · exact vrel5 (by assumption)
end
section
theorem enterRC {prog : Program} {w : World} {A A₀ : Around} {E : Value → Shared → Prop} {s : Shared} {K : Frag} {L : Addr} {h₀ base : Heap} {m mg mb : Str → Option Value} {news rest : List (Addr × Obj)} {p : Program} {loose : List Str} {mean : ExcName → Option Value} {Q : Value → Shared → Prop} {Post : Value → List (Addr × Obj) → Prop}
    {env : Env} {outer : List Env} {name qual : Str} {params : Arguments} {body : List Stmt} {scope : Scope} {dV kV doc pm cdv ct oc : Value} {an od : Option Addr} {osl : Array (Option Value)} {f : Addr} {pos : List Value} {binds : List (Str × Value)}
    (B : Below A₀ base outer h₀) (F : Fr h₀ L s.heap m) (X₀ : K.In h₀) (N : News h₀ L s.heap (news ++ rest)) (D : ∀ p ∈ news, ∀ q ∈ rest, p.1 ≠ q.1) (T : Top p loose mean mg mb h₀) (hA : A.frames = some (env :: outer)) (hf : env.frame = some L) (hke : env.scope.kind = .function)
    (ho : K.lookup f = some ⟨oc, od, .func (fnOf name qual params body scope dV kV doc pm an cdv ct), osl⟩) (hcd : codeIn K cdv qual = true) (hroom : A.depth < recursionLimit)
    (hbind : BindsTo s (fnOf name qual params body scope dV kV doc pm an cdv ct) ⟨pos, []⟩ binds) (hkind : (binds.all fun y => scope.names.lookup y.1 == some .local || scope.names.lookup y.1 == some .cell) = true)
    (hnd : ((cellsFrom 0 scope.names []).map (·.1)).Nodup)
    (hret : ∀ r h' tk' news', Fr h₀ L h' m → News h₀ L h' (news' ++ rest) → (∀ p ∈ news', ∀ q ∈ rest, p.1 ≠ q.1) → Post r news' → Q r { s with heap := h', toks := tk' })
    (h : ∀ g L' h₁ tk cells, Fr g L' h₁ (bindL (envOfC qual scope L' f cdv).kindOf binds fun _ => none) → News g L' h₁ (cells ++ news) → CellsAre (bindC (envOfC qual scope L' f cdv).kindOf binds fun _ => none) (cellsFrom (L' + 1) scope.names []) cells →
      Below A base (env :: outer) g → K.In g → Top p loose mean mg mb g → (∀ p ∈ news, p.1 < L') →
      wpAny (model prog w) (A.deeper (envOfC qual scope L' f cdv)) (execs body (envOfC qual scope L' f cdv))
        (fun fl s' => LeaveR g s Post (match fl with | .ret v => v | _ => .none) s') (fun _ _ => False)
        { s with heap := h₁, toks := tk })
    (hco : scope.isCoroutine = false) (hgen : scope.isGenerator = false) (hk : scope.kind = .function) : wpAny (model prog w) A (call (.ref f) pos) Q E s := by
  have N₁ : News h₀ L s.heap news := fun p hp => N p (List.mem_append_left _ hp)
  refine wpAny_call ?_
  obtain ⟨FG, BG, st, _⟩ := groundX (R := fun _ _ => True) B F N₁ hA hf hke
  refine codeAny_call_function hroom ((X₀.keeps F.keep) _ _ ho) rfl hco hgen rfl (codeRec_of (X₀.keeps F.keep) hcd) (hbind _ _ _ _ ?_)
  refine wpAny_newFunctionEnv_cells hk (kindsX hkind _) fun env' he s' x => ?_
  subst he
  refine ⟨(T.nolimit.keeps F.keep).keeps x.toInCall.keep, codeAny_func ?_⟩
  obtain ⟨h₁, tk, rfl, _⟩ := x.done
  have hk₁ := x.toInCall.keep
  obtain ⟨cells, NC, Y⟩ := Cl.news (h₀ := s.heap) (Nat.le_refl _) fun n c hm => ⟨x.cell n c (lookup_of_mem_nodup (cellsFrom_names scope.names 0 (s.heap.objs.size + 1) [] [] rfl ▸ hnd) hm), x.above n c hm⟩
  refine wpAny_mono (h _ s.heap.objs.size h₁ tk cells ⟨x.toInCall.ns, fun b o e => hk₁ b o (of_hideAll _ e), Nat.le_of_eq (hideAll_size _ _)⟩ (fun p hp => ?_) Y BG (X₀.keeps st) (T.keeps st) (fun p hp => Heap.lt_size (N₁ p hp).1)) (fun fl s' hl => ?_) fun _ _ y => y.elim
  · rcases List.mem_append.mp hp with hp | hp
    · refine ⟨(NC p hp).1, (NC p hp).2.1, ?_⟩
      cases q : (hideAll s.heap (news.map (·.1))).get? p.1 with
      | none => rfl
      | some o => have := of_hideAll _ q; rw [(NC p hp).2.2] at this; cases this
    · exact ⟨hk₁ _ _ (N₁ p hp).1, Nat.ne_of_lt (Heap.lt_size (N₁ p hp).1), hideAll_none _ (List.mem_map_of_mem hp)⟩
  obtain ⟨L', m', news', F', N', ⟨h', tk', rfl⟩, hp⟩ := hl
  have keepR : ∀ q ∈ rest, (hideAll s.heap (news.map (·.1))).get? q.1 = some q.2 := fun q hq => by
    refine hideAll_get _ (N q (List.mem_append_right _ hq)).1 fun hm => ?_
    obtain ⟨p, hp, e⟩ := List.mem_map.mp hm
    exact D p hp q hq e
  obtain ⟨_, _, _, lv⟩ := groundX (R := fun r s' => Fr h₀ L s'.heap m ∧ News h₀ L s'.heap news') B F N₁ hA hf hke
  obtain ⟨F₂, N₂⟩ := lv (Value.none) { s with heap := h', toks := tk' } ⟨L', m', news', F', N', fun a b => ⟨a, b⟩⟩
  refine hret _ h' tk' news' F₂ (fun p hp => ?_) (fun p hp q hq e => ?_) hp
  · rcases List.mem_append.mp hp with hp | hp
    · exact N₂ p hp
    · exact ⟨F'.keep _ _ (keepR p hp), (N p (List.mem_append_right _ hp)).2⟩
  · have h1 := (N' p hp).2.2
    rw [e, keepR q hq] at h1
    cases h1
theorem Spec.frame {f : Addr} {dn un₁ dn' un' : Nat} {news : List (Addr × Obj)} {args : List Value} {v : Value} (C : Spec f dn un₁ [] args (RetV v)) (h1 : dn ≤ dn') (h2 : un₁ ≤ un') : Spec f dn' un' news args (fun r nn => nn = news ∧ r = v) := by
  intro w mean mg mb dp un gd cn cs a ccd cl outer A₀ base h₀ L m s rest Q E B F X N D T hk hd hu hret
  refine C w mean mg mb dp un gd cn cs a ccd cl outer A₀ base h₀ L m s (news ++ rest) Q E B F X N (fun _ h => nomatch h) T hk (by omega) (by omega) fun r h' tk' nn F' N' D' p => ?_
  obtain ⟨e, e'⟩ := p
  subst e; subst e'
  exact hret _ h' tk' news F' N' D ⟨rfl, rfl⟩
def NumIs (v : Value) : Option Int → Prop
  | some n => ∃ t, v = .int n t
  | none => v = .none
inductive ToNum (wd : Int) (v : Value) (o : Option Int) : Prop
  | int (n : Int) (t : Tok) (e : v = .int n t) (e2 : o = some n)
  | bytes (l : List UInt8) (t : Tok) (hl : l.length ≤ 200) (e : v = .bytes l.toArray t) (e2 : o = parseZ l wd)
  | none (e : v = .none) (e2 : o = .none)
  | bool (b : Bool) (e : v = .bool b) (e2 : o = .none)
theorem numIs_opt {o : Option Int} {t : Tok} : NumIs (optV o t) o := by
  cases o with
  | none => rfl
  | some n => exact ⟨t, rfl⟩
theorem VRel.split {wd : Int} {v1 v2 : Value} (h : VRel wd v1 v2) : ∃ o, NumIs v2 o ∧ ToNum wd v1 o := by
  cases h with
  | int n t t' e1 e2 => exact ⟨some n, ⟨t', e2⟩, .int n t e1 rfl⟩
  | bytes l t t' hl e1 e2 => exact ⟨parseZ l wd, e2 ▸ numIs_opt, .bytes l t hl e1 rfl⟩
  | none e1 e2 => exact ⟨.none, e2, .none e1 rfl⟩
  | bool b e1 e2 => exact ⟨.none, e2, .bool b e1 rfl⟩
theorem val_elim {b l : Addr} {k1 : Nat} {wd : Int} {G : Value → List (Addr × Obj) → Prop} {r : Value} {nn : List (Addr × Obj)} (h : ValPost b l k1 wd r nn)
    (k : ∀ x t vs ns k2 a v1 v2 n o, 0 ≤ x → x < 2 ^ 89 → IntsAre vs ns → vs.length ≤ 24 → @Ne Nat a b → @Ne Nat a l → NumIs v2 o → ToNum wd v1 o → G (.ref a) [(a, ({ cls := .type "tuple", data := .seq #[v1, v2] n } : Obj)), (b, listOf (List.toArray [.ref l, .int x t]) k1), (l, listOf (List.toArray vs) k2)]) : G r nn := by
  obtain ⟨x, t, vs, ns, k2, a, v1, v2, n, h1, h2, h3, h4, e, f, h5, h6, h7⟩ := h
  subst e; subst f
  obtain ⟨o, g1, g2⟩ := VRel.split h7
  exact k x t vs ns k2 a v1 v2 n o h1 h2 h3 h4 h5 h6 g1 g2
theorem Spec.post {f : Addr} {dn un₁ : Nat} {news : List (Addr × Obj)} {args : List Value} {P P' : Value → List (Addr × Obj) → Prop} (C : Spec f dn un₁ news args P) (h : ∀ r nn, P r nn → P' r nn) : Spec f dn un₁ news args P' := by
  intro w mean mg mb dp un gd cn cs a ccd cl outer A₀ base h₀ L m s rest Q E B F X N D T hk hd hu hret
  exact C w mean mg mb dp un gd cn cs a ccd cl outer A₀ base h₀ L m s rest Q E B F X N D T hk hd hu fun r h' tk' nn F' N' D' p => hret r h' tk' nn F' N' D' (h r nn p)
theorem tonum_spec (v : Value) (o : Option Int) (wd : Int) (lx dx : Addr) (es : List DictEntry) (kn : Nat) (t3 : Tok) (hv : ToNum wd v o) (h1 : 2 ≤ wd) (h2 : wd ≤ 64) (he : getL (Str.ofString "width") es = some (some (.int wd t3))) (hne : @Ne Nat lx dx) :
    Spec 120 5 40 [(lx, instObj 53 dx), (dx, dictOf es kn)] [v, .ref lx] (fun r nn => nn = [(lx, instObj 53 dx), (dx, dictOf es kn)] ∧ NumIs r o) := by
  cases hv with
  | int n t e e2 =>
    subst e; subst e2
    exact ((tonum_int n lx t).frame (by decide) (by decide)).post fun r nn p => ⟨p.1, t, p.2⟩
  | bytes l t hl e e2 =>
    subst e; subst e2
    exact (tonum_bytes l wd lx dx es kn t t3 hl h1 h2 he hne).post fun r nn p => by
      obtain ⟨a, t', b⟩ := p
      exact ⟨a, b ▸ numIs_opt⟩
  | none e e2 =>
    subst e; subst e2
    exact ((tonum_none lx).frame (by decide) (by decide)).post fun r nn p => ⟨p.1, p.2⟩
  | bool b e e2 =>
    subst e; subst e2
    exact ((tonum_bool b lx).frame (by decide) (by decide)).post fun r nn p => ⟨p.1, p.2⟩
section
open Classical in
theorem keep_rest {h₀ h h' : Heap} {L : Addr} {news all : List (Addr × Obj)} (N : News h₀ L h all) (hm : ∀ p ∈ news, p ∈ all) (N' : News h₀ L h' (news ++ all.filter fun p => decide (∀ q ∈ news, q.1 ≠ p.1))) : News h₀ L h' all := by
  intro p hp
  by_cases hq : ∀ q ∈ news, q.1 ≠ p.1
  · exact N' p (List.mem_append_right _ (List.mem_filter.mpr ⟨hp, decide_eq_true hq⟩))
  · have : ∃ q, q ∈ news ∧ q.1 = p.1 := by
      false_or_by_contra
      rename_i hc
      exact hq fun q h1 h2 => hc ⟨q, h1, h2⟩
    obtain ⟨q, h1, h2⟩ := this
    have e1 := (N q (hm q h1)).1
    have e2 := (N p hp).1
    rw [h2, e2] at e1
    have : q = p := Prod.ext h2 (Option.some.inj e1).symm
    exact N' p (List.mem_append_left _ (this ▸ h1))
variable {f : Addr} {dn un₁ : Nat} {args : List Value} {P : Value → Prop} {P2 : Value → Addr × Obj → Prop}
  {w : World} {mean : ExcName → Option Value} {mg mb : Str → Option Value} {dp un : Nat} {gd : Option (List Code)} {cn : Str} {cs : Scope} {a : Addr} {ccd : Value} {cl : List (Str × Addr)} {outer : List Env} {A₀ : Around} {base h₀ : Heap} {L : Addr} {m : Str → Option Value} {s : Shared} {Q E : Value → Shared → Prop}
  {news all : List (Addr × Obj)}
open Classical in
theorem useKeep (C : Spec f dn un₁ news args (fun r nn => nn = news ∧ P r)) (B : Below A₀ base outer h₀) (F : Fr h₀ L s.heap m) (X : (hd.heap_39 w.params).In h₀) (N : News h₀ L s.heap all) (T : Top hd.view_39 (looseW hd.view_39 []) mean mg mb h₀) (hk : cs.kind = .function) (hd : dp + dn < recursionLimit) (hu : un + un₁ < cLine) (hm : ∀ p ∈ news, p ∈ all)
    (ret : ∀ r h' tk', Fr h₀ L h' m → News h₀ L h' all → P r → Q r { s with heap := h', toks := tk' }) :
    wpAny (model Challenge.rw_nt0632_01.row.prog w) (ktrTop dp un gd cn cs L a ccd cl outer) (call (.ref f) args) Q E s :=
  C w mean mg mb dp un gd cn cs a ccd cl outer A₀ base h₀ L m s (all.filter fun p => decide (∀ q ∈ news, q.1 ≠ p.1)) Q E B F X
    (fun p hp => (List.mem_append.mp hp).elim (fun h => N p (hm p h)) fun h => N p (List.mem_filter.mp h).1)
    (fun p hp q hq => of_decide_eq_true (List.mem_filter.mp hq).2 p hp) T hk hd hu fun r h' tk' nn F' N' D' p => by
      obtain ⟨e, p⟩ := p
      subst e
      exact ret r h' tk' F' (keep_rest N hm N') p
open Classical in
theorem useAdd (C : Spec f dn un₁ news args (fun r nn => ∃ x, nn = x :: news ∧ (∀ q ∈ news, x.1 ≠ q.1) ∧ P2 r x)) (B : Below A₀ base outer h₀) (F : Fr h₀ L s.heap m) (X : (hd.heap_39 w.params).In h₀) (N : News h₀ L s.heap all) (T : Top hd.view_39 (looseW hd.view_39 []) mean mg mb h₀) (hk : cs.kind = .function) (hd : dp + dn < recursionLimit) (hu : un + un₁ < cLine) (hm : ∀ p ∈ news, p ∈ all)
    (ret : ∀ r x h' tk', Fr h₀ L h' m → News h₀ L h' (x :: all) → AllNe x.1 all → P2 r x → Q r { s with heap := h', toks := tk' }) :
    wpAny (model Challenge.rw_nt0632_01.row.prog w) (ktrTop dp un gd cn cs L a ccd cl outer) (call (.ref f) args) Q E s :=
  C w mean mg mb dp un gd cn cs a ccd cl outer A₀ base h₀ L m s (all.filter fun p => decide (∀ q ∈ news, q.1 ≠ p.1)) Q E B F X
    (fun p hp => (List.mem_append.mp hp).elim (fun h => N p (hm p h)) fun h => N p (List.mem_filter.mp h).1)
    (fun p hp q hq => of_decide_eq_true (List.mem_filter.mp hq).2 p hp) T hk hd hu fun r h' tk' nn F' N' D' p => by
      obtain ⟨x, e, hx, p⟩ := p
      subst e
      have N2 : News h₀ L h' all := keep_rest N hm fun q hq => N' q (List.mem_append.mpr ((List.mem_append.mp hq).imp (fun h => .tail _ h) id))
      refine ret r x h' tk' F' (fun q hq => ?_) (allNe_of fun q hq => ?_) p
      · rcases List.mem_cons.mp hq with rfl | hq
        · exact N' _ (List.mem_append_left _ (.head _))
        · exact N2 q hq
      · by_cases hq2 : ∀ y ∈ news, y.1 ≠ q.1
        · exact D' x (.head _) q (List.mem_filter.mpr ⟨hq, decide_eq_true hq2⟩)
        · have : ∃ y, y ∈ news ∧ y.1 = q.1 := by
            false_or_by_contra
            rename_i hc
            exact hq2 fun y h1 h2 => hc ⟨y, h1, h2⟩
          obtain ⟨y, h1, h2⟩ := this
          rw [← h2]
          exact hx y h1
end
end
section
local macro_rules | `(tactic| walk_at "ENTERC") => `(tactic| (
  unfold Spec
  k_fill
  intro w mean mg mb dp un gd cn cs a ccd cl outer A₀ base h₀ L m s rest Q E B F X N D T hk hd hu hret
  k_dflt (refine' enterRC ?k1 ?k2 ?k3 ?k4 ?kD ?k5 ?kA ?kF ?kK ?k6 ?k7 ?k8 ?k9 ?kB ?kN hret ?_ ?c2 ?c3 ?c4; (case kA => exact rfl); (case kF => exact rfl); (case kK => assumption); (case k1 => k_asm); (case k2 => k_asm); (case k3 => k_asm); (case k4 => k_asm); (case kD => k_asm); (case k5 => k_asm); (case k6 => k_is); (case k7 => k_is); (case k8 => ktr_room); (case k9 => exact BindsTo.of_eq rfl); (case kB => exact rfl); (case kN => decide +kernel); (case c2 => exact rfl); (case c3 => exact rfl); (case c4 => exact rfl); k_whole; intro g' L' h' tk' cells' F' N' Y' B' X' T' l1')
  clear hret F N D B X T
  (try dsimp only)
  k_fold
  (rename CellsAre _ _ _ => Y9; k_cells Y9)
  (rename News _ _ _ _ => N9; (try simp only [List.cons_append, List.nil_append] at N9))
  (try (rename (∀ p ∈ (_ : List (Addr × Obj)), p.1 < _) => l1; k_lt l1))
  k_steps))
def Three (o1 o2 o3 : Option Int) (r : Value) (x : Addr × Obj) : Prop := ∃ r1 r2 r3 n, r = .ref x.1 ∧ x.2 = listOf (List.toArray [r1, r2, r3]) n ∧ NumIs r1 o1 ∧ NumIs r2 o2 ∧ NumIs r3 o3
theorem three_end {o1 o2 o3 : Option Int} {r1 r2 r3 : Value} {n : Nat} {D : Addr} {news : List (Addr × Obj)} (h : ∀ q ∈ news, D ≠ q.1) (h1 : NumIs r1 o1) (h2 : NumIs r2 o2) (h3 : NumIs r3 o3) :
    ∃ x : Addr × Obj, (D, listOf (List.toArray [r1, r2, r3]) n) :: news = x :: news ∧ (∀ q ∈ news, x.1 ≠ q.1) ∧ Three o1 o2 o3 (.ref D) x := ⟨_, rfl, h, r1, r2, r3, n, rfl, rfl, h1, h2, h3⟩
set_option maxRecDepth 100000 in
set_option maxHeartbeats 8000000 in
theorem loopn_spec (v1 v2 v3 : Value) (o1 o2 o3 : Option Int) (wd : Int) (vl lx dx : Addr) (es : List DictEntry) (kn n : Nat) (t3 : Tok) (hv1 : ToNum wd v1 o1) (hv2 : ToNum wd v2 o2) (hv3 : ToNum wd v3 o3) (h1 : 2 ≤ wd) (h2 : wd ≤ 64) (he : getL (Str.ofString "width") es = some (some (.int wd t3))) (hne : @Ne Nat lx dx) (hne1 : @Ne Nat vl lx) (hne2 : @Ne Nat vl dx) :
    Spec 125 6 48 [(vl, listOf (List.toArray [v1, v2, v3]) n), (lx, instObj 53 dx), (dx, dictOf es kn)] [.ref vl, .ref lx] (fun r nn => ∃ x, nn = x :: [(vl, listOf (List.toArray [v1, v2, v3]) n), (lx, instObj 53 dx), (dx, dictOf es kn)] ∧ (∀ q ∈ [(vl, listOf (List.toArray [v1, v2, v3]) n), (lx, instObj 53 dx), (dx, dictOf es kn)], x.1 ≠ q.1) ∧ Three o1 o2 o3 r x) := by
  w_top off
  k_with_none
  k_with "call ref" => (k_here; (with_reducible show wpAny _ _ (call (Value.ref 120) _) _ _ _); k_dflt (refine' useKeep (tonum_spec _ _ _ _ _ _ _ _ (by assumption) (by assumption) (by assumption) (by assumption) (by assumption)) (by k_asm) (by k_asm) (by k_asm) (by k_asm) (by k_asm) (by first | exact rfl | assumption) (by ktr_room) (by ktr_units) (by walk_at "LEDALL") ?_; k_whole); intro r9 h9 tk9 F9 N9 P9; (try dsimp only); (try k_fold))
  walk_at "ENTERC"
  all_goals (refine' LeaveR.mk ?e2 ?e3 (three_end ?q1 ?q2 ?q3 ?q4); (case e2 => k_asm); (case e3 => (refine' cb_drop ?cbN ?cbS; (case cbN => assumption); (case cbS => walk_at "LEDALL"))); (case q1 => k_all); (case q2 => assumption); (case q3 => assumption); (case q4 => assumption))
end
section
set_option maxRecDepth 100000 in
set_option maxHeartbeats 8000000 in
theorem wrong0 (tl : Addr) (n : Nat) (r2 r3 : Value) : Spec 132 1 16 [(tl, listOf (List.toArray [.none, r2, r3]) n)] [.ref tl] (fun r nn => nn = [(tl, listOf (List.toArray [.none, r2, r3]) n)] ∧ ∃ t, r = .int (0) t) := by
  w_top off
  k_with_none
  walk_at "ENTER"
  k_with "answer" => exact ⟨_, rfl⟩
  all_goals first | walk_at "ENDD" | w_report
set_option maxRecDepth 100000 in
set_option maxHeartbeats 8000000 in
theorem wrong1 (tl : Addr) (n : Nat) (x1 : Int) (t1 : Tok) (r3 : Value) : Spec 132 1 16 [(tl, listOf (List.toArray [.int x1 t1, .none, r3]) n)] [.ref tl] (fun r nn => nn = [(tl, listOf (List.toArray [.int x1 t1, .none, r3]) n)] ∧ ∃ t, r = .int (1) t) := by
  w_top off
  k_with_none
  walk_at "ENTER"
  k_with "answer" => exact ⟨_, rfl⟩
  all_goals first | walk_at "ENDD" | w_report
set_option maxRecDepth 100000 in
set_option maxHeartbeats 8000000 in
theorem wrong2 (tl : Addr) (n : Nat) (x1 x2 : Int) (t1 t2 : Tok) : Spec 132 1 16 [(tl, listOf (List.toArray [.int x1 t1, .int x2 t2, .none]) n)] [.ref tl] (fun r nn => nn = [(tl, listOf (List.toArray [.int x1 t1, .int x2 t2, .none]) n)] ∧ ∃ t, r = .int (2) t) := by
  w_top off
  k_with_none
  walk_at "ENTER"
  k_with "answer" => exact ⟨_, rfl⟩
  all_goals first | walk_at "ENDD" | w_report
set_option maxRecDepth 100000 in
set_option maxHeartbeats 8000000 in
theorem wrong3 (tl : Addr) (n : Nat) (x1 x2 x3 : Int) (t1 t2 t3 : Tok) : Spec 132 1 16 [(tl, listOf (List.toArray [.int x1 t1, .int x2 t2, .int x3 t3]) n)] [.ref tl] (fun r nn => nn = [(tl, listOf (List.toArray [.int x1 t1, .int x2 t2, .int x3 t3]) n)] ∧ ∃ t, r = .int (-1) t) := by
  w_top off
  k_with_none
  walk_at "ENTER"
  k_with "answer" => exact ⟨_, rfl⟩
  all_goals first | walk_at "ENDD" | w_report
def placeZ : Option Int → Option Int → Option Int → Int
  | none, _, _ => 0
  | some _, none, _ => 1
  | some _, some _, none => 2
  | some _, some _, some _ => -1
theorem wrong_spec (tl : Addr) (n : Nat) (r1 r2 r3 : Value) (o1 o2 o3 : Option Int) (h1 : NumIs r1 o1) (h2 : NumIs r2 o2) (h3 : NumIs r3 o3) : Spec 132 1 16 [(tl, listOf (List.toArray [r1, r2, r3]) n)] [.ref tl] (fun r nn => nn = [(tl, listOf (List.toArray [r1, r2, r3]) n)] ∧ ∃ t, r = .int (placeZ o1 o2 o3) t) := by
  cases o1 with
  | none => cases h1; exact wrong0 tl n r2 r3
  | some x1 =>
    obtain ⟨t1, rfl⟩ := h1
    cases o2 with
    | none => cases h2; exact wrong1 tl n x1 t1 r3
    | some x2 =>
      obtain ⟨t2, rfl⟩ := h2
      cases o3 with
      | none => cases h3; exact wrong2 tl n x1 x2 t1 t2
      | some x3 =>
        obtain ⟨t3, rfl⟩ := h3
        exact wrong3 tl n x1 x2 x3 t1 t2 t3
end
section
def roundsG (f lim st wd : Int) : Nat → Int → List Int
  | 0, _ => []
  | k + 1, t => if goesZ (wrapZ (f + t * st) wd) lim st = true then wrapZ (f + t * st) wd :: roundsG f lim st wd k (t + 1) else []
@[irreducible] def roundsF (f lim st wd : Int) (k : Nat) (t : Int) : List Int := roundsG f lim st wd k t
theorem roundsF_zero (f lim st wd t : Int) : roundsF f lim st wd 0 t = [] := by unfold roundsF; rfl
theorem roundsF_succ (f lim st wd t : Int) (k : Nat) : roundsF f lim st wd (k + 1) t = if goesZ (wrapZ (f + t * st) wd) lim st = true then wrapZ (f + t * st) wd :: roundsF f lim st wd k (t + 1) else [] := by unfold roundsF; rfl
@[irreducible] def RInv (R : List Int) (f lim st wd : Int) (pre : List Int) (found : List Int) : Prop := R = found ++ roundsF f lim st wd (12 - pre.length) (pre.length : Nat) ∧ pre.length ≤ 12 ∧ found.length = pre.length
theorem rinv_start {R : List Int} {f lim st wd : Int} (h : R = roundsF f lim st wd 12 0) : RInv R f lim st wd [] [] := by
  unfold RInv
  exact ⟨h, by decide, rfl⟩
theorem rinv_len {R pre ns : List Int} {vs : List Value} {f lim st wd : Int} (h : RInv R f lim st wd pre ns) (hi : IntsAre vs ns) : vs.length ≤ 12 := by
  unfold RInv at h
  have := hi.length
  omega
theorem room12 {vs : List Value} (h : vs.length ≤ 12) : vs.toArray.size ≤ sizeLine := by rw [List.size_toArray, sizeLine_eq]; omega
theorem ints_snoc {vs : List Value} {ns : List Int} (h : IntsAre vs ns) (z : Int) (t : Tok) : IntsAre (vs ++ [.int z t]) (ns ++ [z]) := by
  induction h with
  | nil => exact .cons z t .nil
  | cons a u r ih => exact .cons a u ih
theorem rinv_step {R pre ns : List Int} {f lim st wd k : Int} (h : RInv R f lim st wd pre ns) (hlt : pre.length < 12) (hk : k = (pre.length : Nat)) (hg : goesZ (wrapZ (f + k * st) wd) lim st = true) : RInv R f lim st wd (pre ++ [k]) (ns ++ [wrapZ (f + k * st) wd]) := by
  unfold RInv at h ⊢
  obtain ⟨h1, h2, h3⟩ := h
  have e : 12 - pre.length = (12 - (pre.length + 1)) + 1 := by omega
  rw [e, roundsF_succ, ← hk, if_pos hg] at h1
  rw [List.length_append, List.length_append, List.length_singleton, List.length_singleton]
  refine ⟨?_, by omega, by omega⟩
  rw [h1, List.append_assoc, hk]
  rfl
theorem rinv_stop {R pre ns : List Int} {f lim st wd k : Int} (h : RInv R f lim st wd pre ns) (hlt : pre.length < 12) (hk : k = (pre.length : Nat)) (hg : goesZ (wrapZ (f + k * st) wd) lim st = false) : ns = R := by
  unfold RInv at h
  obtain ⟨h1, h2, h3⟩ := h
  have e : 12 - pre.length = (12 - (pre.length + 1)) + 1 := by omega
  rw [e, roundsF_succ, ← hk, if_neg (by rw [hg]; decide), List.append_nil] at h1
  exact h1.symm
theorem rinv_done {R ns : List Int} {f lim st wd : Int} (h : RInv R f lim st wd (rangeKs 0 12) ns) : ns = R := by
  unfold RInv at h
  obtain ⟨h1, h2, h3⟩ := h
  have e : 12 - (rangeKs 0 12).length = 0 := by rw [rangeKs_length]
  rw [e, roundsF_zero, List.append_nil] at h1
  exact h1.symm
theorem goes_p1 {h lim st : Int} (h0 : 0 < st) (h1 : lim < h) : goesZ h lim st = false := by unfold goesZ; rw [if_pos h0]; simp; omega
theorem goes_p2 {h lim st : Int} (h0 : 0 < st) (h1 : ¬ lim < h) : goesZ h lim st = true := by unfold goesZ; rw [if_pos h0]; simp; omega
theorem goes_n1 {h lim st : Int} (h0 : ¬ 0 < st) (h1 : h < lim) : goesZ h lim st = false := by unfold goesZ; rw [if_neg h0]; simp; omega
theorem goes_n2 {h lim st : Int} (h0 : ¬ 0 < st) (h1 : ¬ h < lim) : goesZ h lim st = true := by unfold goesZ; rw [if_neg h0]; simp; omega
def ListPost (R : List Int) (r : Value) (nn : List (Addr × Obj)) : Prop := ∃ D vs n, r = .ref D ∧ nn = [(D, listOf (List.toArray vs) n)] ∧ IntsAre vs R
theorem list_end {R ns : List Int} {D : Addr} {vs : List Value} {n : Nat} (hi : IntsAre vs ns) (e : ns = R) : ListPost R (.ref D) [(D, listOf (List.toArray vs) n)] := ⟨D, vs, n, rfl, rfl, e ▸ hi⟩
local macro_rules | `(tactic| walk_at "exec For Name Call cons nil") => `(tactic| (k_here; (rename Fr _ _ _ _ => lF'); (with_unfolding_all refine' For_invVF lF' ?k1 ?k2 ?_; (case k1 => exact rfl); (case k2 => exact rfl); k_whole)))
local macro_rules | `(tactic| walk_at "pyIter ref") => `(tactic| k_extra "pyIter ref")
local macro_rules | `(tactic| walk_at "InvEndN") => `(tactic| k_extra "InvEndN")
local macro_rules | `(tactic| walk_at "call builtin:list.append") => `(tactic| (k_here; (with_reducible show wpAny _ _ (call (Value.builtin _) [Value.ref _, _]) _ _ _); k_dflt (refine' append_K ?k1 ?k2 ?k3 ?_ ?z; (case k1 => k_asm); (case k2 => k_asm); (case k3 => k_upd); (case z => exact room12 (by assumption)); k_whole); intro h' F' N'; (try k_sweep)))
set_option maxRecDepth 100000 in
set_option maxHeartbeats 8000000 in
theorem rounds_spec (f lim st wd : Int) (R : List Int) (t1 t2 t3 t4 : Tok) (h1 : 2 ≤ wd) (h2 : wd ≤ 64) (hf1 : -(2 ^ 63) ≤ f) (hf2 : f < 2 ^ 63) (hs1 : -(2 ^ 63) ≤ st) (hs2 : st < 2 ^ 63) (hR : R = roundsF f lim st wd 12 0) : Spec 195 2 16 [] [.int f t1, .int lim t2, .int st t3, .int wd t4] (ListPost R) := by
  w_top off
  k_with_none
  k_with "call ref" => (k_here; (with_reducible show wpAny _ _ (call (Value.ref 167) _) _ _ _); k_dflt (refine' useI (signed_spec _ _ _ _ (by omega) (by omega)) (by k_asm) (by k_asm) (by k_asm) (by k_asm) (by k_asm) (by first | exact rfl | assumption) (by ktr_room) (by ktr_units) ?_; k_whole); intro t9 h9 tk9 F9 N9; (try dsimp only); (try k_fold))
  walk_at "ENTER0"
  k_with "pyIter ref" => ((rename Fr _ _ _ _ => lF'); (rename News _ _ _ _ => lN'); (rename IsRange _ _ _ _ _ _ _ _ => rgX); (with_unfolding_all refine' kst_range (n := 12) (fun (c : List Value × List Int × Nat) => [(_, listOf c.1.toArray c.2.2)]) (fun _ => []) (fun c => IntsAre c.1 c.2.1) [Str.ofString "here"] (fun pre c => RInv R f lim st wd pre c.2.1) ([], [], 0) (by rfl) rgX (by decide) (by decide) lF' lN' IntsAre.nil (by intro p hp; cases hp) (rinv_start hR) ?_ ?_); (all_goals clear lF' lN' rgX); (all_goals first
    | (intro c pre k t u h tk own hk hlt hoff hf hp F' N'; (obtain ⟨vs, ns, n⟩ := c); (dsimp only [List.cons_append, List.nil_append] at hf hp F' N'); (have hk2 : k = (pre.length : Nat) := by omega); (have hvl : vs.length ≤ 12 := (rinv_len hp hf)))
    | (intro c u h tk hf hp F' N'; (obtain ⟨vs, ns, n⟩ := c); (dsimp only [List.cons_append, List.nil_append] at hf hp F' N'))); (all_goals try k_fold))
  k_with "InvEndN" => ((rename News _ _ _ _ => nE); (simp only [List.push_toArray] at nE); (refine' kst_end (_, _, _) ?F nE ?hn ?ho ?ha ?hf ?hk ?hr ?hp); (case F => assumption); (case hn => walk_at "LEDALL"); (case ho => (intro p hp; exact List.Mem.tail _ hp)); (case ha => rfl); (case hf => exact ints_snoc (by assumption) _ _); (case hk => (intro p hp; cases hp)); (case hr => walk_at "SAME"); (case hp => exact rinv_step hp hlt hk2 (by first | exact goes_p2 (by assumption) (by assumption) | exact goes_n2 (by assumption) (by assumption))))
  k_steps
  all_goals (refine' LeaveR.mk ?e2 ?e3 (list_end ?q1 ?_); (case e2 => k_asm); (case e3 => first | k_asm | (refine' cb_drop ?cbN ?cbS; (case cbN => assumption); (case cbS => walk_at "LEDALL"))); (case q1 => assumption))
  all_goals first | exact rinv_stop hp hlt hk2 (by first | exact goes_p1 (by assumption) (by assumption) | exact goes_n1 (by assumption) (by assumption)) | exact rinv_done (by assumption)
end
section
local macro_rules | `(tactic| walk_at "PAD") => `(tactic| fail "pad")
def runG (lim st wd : Int) : Nat → Int → List Int
  | 0, _ => []
  | k + 1, h => if goesZ (wrapZ (h + st) wd) lim st = true then wrapZ (h + st) wd :: runG lim st wd k (wrapZ (h + st) wd) else []
@[irreducible] def runF (lim st wd : Int) (k : Nat) (h : Int) : List Int := runG lim st wd k h
theorem runF_zero (lim st wd h : Int) : runF lim st wd 0 h = [] := by unfold runF; rfl
theorem runF_succ (lim st wd h : Int) (k : Nat) : runF lim st wd (k + 1) h = if goesZ (wrapZ (h + st) wd) lim st = true then wrapZ (h + st) wd :: runF lim st wd k (wrapZ (h + st) wd) else [] := by unfold runF; rfl
@[irreducible] def NInv (R : List Int) (lim st wd : Int) (pre ns : List Int) (h : Int) : Prop := R = ns ++ runF lim st wd (12 - pre.length) h ∧ pre.length ≤ 12 ∧ ns.length = pre.length
theorem ninv_start {R : List Int} {lim st wd h : Int} (e : R = runF lim st wd 12 h) : NInv R lim st wd [] [] h := by
  unfold NInv
  exact ⟨e, by decide, rfl⟩
theorem ninv_len {R pre ns : List Int} {vs : List Value} {lim st wd x : Int} (h : NInv R lim st wd pre ns x) (hi : IntsAre vs ns) : vs.length ≤ 12 := by
  unfold NInv at h
  have := hi.length
  omega
theorem ninv_step {R pre ns : List Int} {lim st wd k x : Int} (h : NInv R lim st wd pre ns x) (hlt : pre.length < 12) (hg : goesZ (wrapZ (x + st) wd) lim st = true) : NInv R lim st wd (pre ++ [k]) (ns ++ [wrapZ (x + st) wd]) (wrapZ (x + st) wd) := by
  unfold NInv at h ⊢
  obtain ⟨h1, h2, h3⟩ := h
  have e : 12 - pre.length = (12 - (pre.length + 1)) + 1 := by omega
  rw [e, runF_succ, if_pos hg] at h1
  rw [List.length_append, List.length_append, List.length_singleton, List.length_singleton]
  refine ⟨?_, by omega, by omega⟩
  rw [h1, List.append_assoc]
  rfl
theorem ninv_stop {R pre ns : List Int} {lim st wd x : Int} (h : NInv R lim st wd pre ns x) (hlt : pre.length < 12) (hg : goesZ (wrapZ (x + st) wd) lim st = false) : ns = R := by
  unfold NInv at h
  obtain ⟨h1, h2, h3⟩ := h
  have e : 12 - pre.length = (12 - (pre.length + 1)) + 1 := by omega
  rw [e, runF_succ, if_neg (by rw [hg]; decide), List.append_nil] at h1
  exact h1.symm
theorem ninv_done {R ns : List Int} {lim st wd x : Int} (h : NInv R lim st wd (rangeKs 0 12) ns x) : ns = R := by
  unfold NInv at h
  obtain ⟨h1, h2, h3⟩ := h
  have e : 12 - (rangeKs 0 12).length = 0 := by rw [rangeKs_length]
  rw [e, runF_zero, List.append_nil] at h1
  exact h1.symm
section
variable {w : World} {mean : ExcName → Option Value} {mg mb : Str → Option Value} {dp un : Nat} {gd : Option (List Code)} {cn : Str} {cs : Scope} {a : Addr} {ccd : Value} {cl : List (Str × Addr)} {outer : List Env} {A₀ : Around} {base h₀ : Heap} {L : Addr} {m : Str → Option Value} {s : Shared} {Q E : Value → Shared → Prop}
  {all : List (Addr × Obj)}
theorem useNext {n lim st wd : Int} {t1 t2 t3 t4 : Tok} (h1 : 2 ≤ wd) (h2 : wd ≤ 64) (B : Below A₀ base outer h₀) (F : Fr h₀ L s.heap m) (X : (hd.heap_39 w.params).In h₀) (N : News h₀ L s.heap all) (T : Top hd.view_39 (looseW hd.view_39 []) mean mg mb h₀) (hk : cs.kind = .function) (hd : dp + 2 < recursionLimit) (hu : un + 16 < cLine)
    (ra : goesZ (wrapZ (n + st) wd) lim st = true → ∀ t h' tk', Fr h₀ L h' m → News h₀ L h' all → Q (.int (wrapZ (n + st) wd) t) { s with heap := h', toks := tk' })
    (rb : goesZ (wrapZ (n + st) wd) lim st = false → ∀ h' tk', Fr h₀ L h' m → News h₀ L h' all → Q .none { s with heap := h', toks := tk' }) :
    wpAny (model Challenge.rw_nt0632_01.row.prog w) (ktrTop dp un gd cn cs L a ccd cl outer) (call (.ref 153) [.int n t1, .int lim t2, .int st t3, .int wd t4]) Q E s := by
  cases hg : goesZ (wrapZ (n + st) wd) lim st with
  | true => exact useI (next_specA n lim st wd t1 t2 t3 t4 h1 h2 hg) B F X N T hk hd hu (ra hg)
  | false => exact useV (next_specB n lim st wd t1 t2 t3 t4 h1 h2 hg) B F X N T hk hd hu (rb hg)
end
local macro_rules | `(tactic| walk_at "exec For Name Call cons nil") => `(tactic| (k_here; (rename Fr _ _ _ _ => lF'); (with_unfolding_all refine' For_invVF lF' ?k1 ?k2 ?_; (case k1 => exact rfl); (case k2 => exact rfl); k_whole)))
local macro_rules | `(tactic| walk_at "pyIter ref") => `(tactic| k_dflt (k_extra "pyIter ref"))
local macro_rules | `(tactic| walk_at "InvEndN") => `(tactic| k_dflt (k_extra "InvEndN"))
local macro_rules | `(tactic| walk_at "call builtin:list.append") => `(tactic| (k_here; (with_reducible show wpAny _ _ (call (Value.builtin _) [Value.ref _, _]) _ _ _); k_dflt (refine' append_K ?k1 ?k2 ?k3 ?_ ?z; (case k1 => k_asm); (case k2 => k_asm); (case k3 => k_upd); (case z => exact room12 (by assumption)); k_whole); intro h' F' N'; (try k_sweep)))
set_option maxRecDepth 100000 in
set_option maxHeartbeats 8000000 in
theorem run_spec (f lim st wd : Int) (R : List Int) (t1 t2 t3 t4 : Tok) (h1 : 2 ≤ wd) (h2 : wd ≤ 64) (hR : R = runF lim st wd 12 (wrapZ (f - st) wd)) : Spec 202 3 24 [] [.int f t1, .int lim t2, .int st t3, .int wd t4] (ListPost R) := by
  w_top off
  k_with_none
  k_with "call ref" => (k_here; (with_reducible show wpAny _ _ (call (Value.ref 139) _) _ _ _); k_dflt (refine' useI (before_spec _ _ _ _ _ _ (by assumption) (by assumption)) (by k_asm) (by k_asm) (by k_asm) (by k_asm) (by k_asm) (by first | exact rfl | assumption) (by ktr_room) (by ktr_units) ?_; k_whole); intro t9 h9 tk9 F9 N9; (try dsimp only); (try k_fold))
  k_with "call ref" => (k_here; (with_reducible show wpAny _ _ (call (Value.ref 153) _) _ _ _); k_dflt (refine' useNext (by assumption) (by assumption) (by k_asm) (by k_asm) (by k_asm) (by k_asm) (by k_asm) (by first | exact rfl | assumption) (by ktr_room) (by ktr_units) ?_ ?_); (all_goals first | intro hg9 t9 h9 tk9 F9 N9 | intro hg9 h9 tk9 F9 N9); (all_goals try dsimp only); (all_goals try k_fold))
  walk_at "ENTER0"
  k_with "pyIter ref" => ((rename Fr _ _ _ _ => lF'); (rename News _ _ _ _ => lN'); (rename IsRange _ _ _ _ _ _ _ _ => rgX); (with_unfolding_all refine' kst_range (n := 12) (fun (c : List Value × List Int × Nat × Int × Tok) => [(_, listOf c.1.toArray c.2.2.1)]) (fun c => [(Str.ofString "here", .int c.2.2.2.1 c.2.2.2.2)]) (fun c => IntsAre c.1 c.2.1) [] (fun pre c => NInv R lim st wd pre c.2.1 c.2.2.2.1) ([], [], 0, wrapZ (f - st) wd, _) (by rfl) rgX (by decide) (by decide) lF' ?N IntsAre.nil ?ps (ninv_start hR) ?_ ?_); (case ps => walk_at "PSALL"); (case N => first | exact lN' | exact cb_drop lN' (by walk_at "LEDALL")); (all_goals clear lF' lN' rgX); (all_goals first
    | (intro c pre k t u h tk own hk hlt hoff hf hp F' N'; (obtain ⟨vs, ns, n, x, tx⟩ := c); (dsimp only [List.cons_append, List.nil_append] at hf hp F' N'); (have hvl : vs.length ≤ 12 := (ninv_len hp hf)))
    | (intro c u h tk hf hp F' N'; (obtain ⟨vs, ns, n, x, tx⟩ := c); (dsimp only [List.cons_append, List.nil_append] at hf hp F' N'))); (all_goals try k_fold))
  k_with "InvEndN" => ((rename News _ _ _ _ => nE); (simp only [List.push_toArray] at nE); (refine' kst_end (_, _, _, _, _) ?F nE ?hn ?ho ?ha ?hf ?hk ?hr ?hp); (case F => assumption); (case hn => walk_at "LEDALL"); (case ho => (intro p hp; exact List.Mem.tail _ hp)); (case ha => rfl); (case hk => walk_at "PSALL"); (case hf => exact ints_snoc (by assumption) _ _); (case hr => walk_at "SAME"); (case hp => exact ninv_step hp hlt (by assumption)))
  k_steps
  all_goals (refine' LeaveR.mk ?e2 ?e3 (list_end ?q1 ?_); (case e2 => k_asm); (case e3 => first | k_asm | (refine' cb_drop ?cbN ?cbS; (case cbN => assumption); (case cbS => walk_at "LEDALL"))); (case q1 => assumption))
  all_goals first | exact ninv_stop hp hlt (by assumption) | exact ninv_done (by assumption)
theorem wrap_wrap (a b wd : Int) : wrapZ (wrapZ a wd + b) wd = wrapZ (a + b) wd := by
  have h : wrapZ a wd % 2 ^ wd.toNat = a % 2 ^ wd.toNat := by
    unfold wrapZ
    split
    · rw [Int.sub_emod, Int.emod_self, Int.sub_zero, Int.emod_emod_of_dvd _ (Int.dvd_refl _), Int.emod_emod_of_dvd _ (Int.dvd_refl _)]
    · rw [Int.emod_emod_of_dvd _ (Int.dvd_refl _)]
  have h2 : (wrapZ a wd + b) % 2 ^ wd.toNat = (a + b) % 2 ^ wd.toNat := by rw [Int.add_emod, h, ← Int.add_emod]
  unfold wrapZ at h2 ⊢
  rw [h2]
theorem run_rounds (f lim st wd : Int) : ∀ (k : Nat) (t : Int), runF lim st wd k (wrapZ (f + (t - 1) * st) wd) = roundsF f lim st wd k t
  | 0, t => by rw [runF_zero, roundsF_zero]
  | k + 1, t => by
    have e : wrapZ (wrapZ (f + (t - 1) * st) wd + st) wd = wrapZ (f + t * st) wd := by
      rw [wrap_wrap, Int.sub_mul, Int.one_mul]
      congr 1
      omega
    have ih := run_rounds f lim st wd k (t + 1)
    have e2 : t + 1 - 1 = t := by omega
    rw [e2] at ih
    rw [runF_succ, roundsF_succ, e, ih]
theorem run_start (f lim st wd : Int) : runF lim st wd 12 (wrapZ (f - st) wd) = roundsF f lim st wd 12 0 := by
  have h := run_rounds f lim st wd 12 0
  have e : f + (0 - 1) * st = f - st := by omega
  rw [e] at h
  exact h
end
section
theorem wrap_idI {n wd : Int} (h1 : 2 ≤ wd) (a : -(2 ^ (wd.toNat - 1)) ≤ n) (b : n < 2 ^ (wd.toNat - 1)) : wrapZ n wd = n := by
  have e : (2 : Int) ^ wd.toNat = 2 ^ (wd.toNat - 1) * 2 := by
    rw [← Int.pow_succ]
    congr 1
    omega
  have hp := kbt_pos (wd.toNat - 1)
  unfold wrapZ
  rw [e]
  generalize (2 : Int) ^ (wd.toNat - 1) = P at *
  by_cases h : 0 ≤ n
  · have hm : n % (P * 2) = n := Int.emod_eq_of_lt h (by omega)
    rw [hm, if_neg (by omega)]
  · have hm : n % (P * 2) = n + P * 2 := by
      have h3 : (n + P * 2) % (P * 2) = n % (P * 2) := Int.add_emod_right n (P * 2)
      rw [← h3]
      exact Int.emod_eq_of_lt (by omega) (by omega)
    rw [hm, if_pos (by omega)]
    omega
theorem wrap_rng (n : Int) {wd : Int} (h1 : 2 ≤ wd) : -(2 ^ (wd.toNat - 1)) ≤ wrapZ n wd ∧ wrapZ n wd < 2 ^ (wd.toNat - 1) := by
  have e : (2 : Int) ^ wd.toNat = 2 ^ (wd.toNat - 1) * 2 := by
    rw [← Int.pow_succ]
    congr 1
    omega
  have hp := kbt_pos (wd.toNat - 1)
  unfold wrapZ
  rw [e]
  generalize (2 : Int) ^ (wd.toNat - 1) = P at *
  have h2 := Int.emod_nonneg n (show P * 2 ≠ 0 by omega)
  have h3 := Int.emod_lt_of_pos n (show 0 < P * 2 by omega)
  split <;> omega
theorem rounds_cnt {f lim st wd q : Int} (H : ∀ j : Int, 0 ≤ j → j ≤ q → goesZ (wrapZ (f + j * st) wd) lim st = true) (H2 : goesZ (wrapZ (f + (q + 1) * st) wd) lim st = false) :
    ∀ (m k : Nat) (t : Int), 0 ≤ t → t + m = q + 1 → m < k → (roundsF f lim st wd k t).length = m ∧ (0 < m → (roundsF f lim st wd k t).getLast? = some (wrapZ (f + q * st) wd))
  | _, 0, _, _, _, h => absurd h (by omega)
  | 0, k + 1, t, _, e, _ => by
    have : t = q + 1 := by omega
    subst this
    rw [roundsF_succ, if_neg (by rw [H2]; decide)]
    exact ⟨rfl, fun h => absurd h (by decide)⟩
  | m + 1, k + 1, t, h0, e, h => by
    have ih := rounds_cnt H H2 m k (t + 1) (by omega) (by omega) (by omega)
    rw [roundsF_succ, if_pos (H t h0 (by omega))]
    refine ⟨by rw [List.length_cons, ih.1], fun _ => ?_⟩
    cases m with
    | zero =>
      have hl := List.eq_nil_of_length_eq_zero ih.1
      have : t = q := by omega
      rw [hl, this]
      rfl
    | succ m =>
      rw [List.getLast?_cons, ih.2 (by omega)]
      rfl
@[irreducible] def CountFits (R : List Int) (q : Int) (z : Value) : Prop := q < 12 → (R.length : Int) = q ∧ (0 < q → ∃ y t, z = .int y t ∧ R.getLast? = some y)
theorem fits_of {f lim st wd q y z : Int} {t : Tok} (hq : 0 ≤ q) (H : ∀ j : Int, 0 ≤ j → j ≤ q → goesZ (wrapZ (f + j * st) wd) lim st = true) (H2 : goesZ (wrapZ (f + (q + 1) * st) wd) lim st = false) (hy : wrapZ (f + q * st) wd = y) (hz : z = y) :
    CountFits (roundsF f lim st wd 12 0) (q + 1) (.int z t) := by
  unfold CountFits
  intro h
  have := rounds_cnt H H2 (q + 1).toNat 12 0 (by omega) (by omega) (by omega)
  exact ⟨by omega, fun _ => ⟨z, t, rfl, by rw [this.2 (by omega), hy, hz]⟩⟩
theorem fits_zero {f lim st wd : Int} {z : Value} (h1 : 2 ≤ wd) (hf1 : -(2 ^ (wd.toNat - 1)) ≤ f) (hf2 : f < 2 ^ (wd.toNat - 1)) (hg : goesZ f lim st = false) : CountFits (roundsF f lim st wd 12 0) 0 z := by
  unfold CountFits
  intro _
  have e : f + 0 * st = f := by omega
  rw [roundsF_succ, e, wrap_idI h1 hf1 hf2, if_neg (by rw [hg]; decide)]
  exact ⟨rfl, fun h => absurd h (by decide)⟩
theorem div_facts {w s : Int} (hs : 0 < s) (hw : 0 ≤ w) : 0 ≤ w.fdiv s ∧ w.fdiv s * s + w.fmod s = w ∧ 0 ≤ w.fmod s ∧ w.fmod s < s := by
  refine ⟨?_, ?_, Int.fmod_nonneg_of_pos w hs, Int.fmod_lt_of_pos w hs⟩
  · rw [Int.fdiv_eq_ediv_of_nonneg _ (Int.le_of_lt hs)]
    exact Int.ediv_nonneg hw (Int.le_of_lt hs)
  · have := Int.mul_fdiv_add_fmod w s
    rw [Int.mul_comm] at this
    exact this
theorem fits_pos {f lim st wd : Int} {t : Tok} (h1 : 2 ≤ wd) (hf1 : -(2 ^ (wd.toNat - 1)) ≤ f) (hl2 : lim < 2 ^ (wd.toNat - 1)) (hs : 0 < st) (hw : f ≤ lim) (hc : lim + st < 2 ^ (wd.toNat - 1)) :
    CountFits (roundsF f lim st wd 12 0) ((lim - f).fdiv st + 1) (.int (lim - (lim - f).fmod st) t) := by
  obtain ⟨d0, d1, d2, d3⟩ := div_facts hs (show 0 ≤ lim - f by omega)
  generalize (lim - f).fdiv st = q at *
  generalize (lim - f).fmod st = r at *
  have hb : ∀ j : Int, 0 ≤ j → j ≤ q → 0 ≤ j * st ∧ j * st ≤ q * st := fun j a b => ⟨Int.mul_nonneg a (Int.le_of_lt hs), Int.mul_le_mul_of_nonneg_right b (Int.le_of_lt hs)⟩
  have e : (q + 1) * st = q * st + st := by rw [Int.add_mul, Int.one_mul]
  refine fits_of (y := f + q * st) d0 (fun j a b => ?_) ?_ ?_ ?_
  · have := hb j a b
    rw [wrap_idI h1 (by omega) (by omega)]
    exact goes_p2 hs (by omega)
  · rw [e, wrap_idI h1 (by have := hb q d0 (Int.le_refl _); omega) (by omega)]
    exact goes_p1 hs (by omega)
  · have := hb q d0 (Int.le_refl _)
    exact wrap_idI h1 (by omega) (by omega)
  · omega
theorem fits_neg {f lim st wd : Int} {t : Tok} (h1 : 2 ≤ wd) (hf2 : f < 2 ^ (wd.toNat - 1)) (hl1 : -(2 ^ (wd.toNat - 1)) ≤ lim) (hs : st < 0) (hw : lim ≤ f) (hc : -(2 ^ (wd.toNat - 1)) ≤ lim + st) :
    CountFits (roundsF f lim st wd 12 0) ((f - lim).fdiv (-st) + 1) (.int (lim + (f - lim).fmod (-st)) t) := by
  obtain ⟨d0, d1, d2, d3⟩ := div_facts (show 0 < -st by omega) (show 0 ≤ f - lim by omega)
  generalize (f - lim).fdiv (-st) = q at *
  generalize (f - lim).fmod (-st) = r at *
  have hb : ∀ j : Int, 0 ≤ j → j ≤ q → 0 ≤ j * (-st) ∧ j * (-st) ≤ q * (-st) := fun j a b => ⟨Int.mul_nonneg a (by omega), Int.mul_le_mul_of_nonneg_right b (by omega)⟩
  have en : ∀ j : Int, j * (-st) = -(j * st) := fun j => Int.mul_neg j st
  have e : (q + 1) * st = q * st + st := by rw [Int.add_mul, Int.one_mul]
  have eq := en q
  refine fits_of (y := f + q * st) d0 (fun j a b => ?_) ?_ ?_ ?_
  · have := hb j a b
    have := en j
    rw [wrap_idI h1 (by omega) (by omega)]
    exact goes_n2 (by omega) (by omega)
  · rw [e, wrap_idI h1 (by omega) (by have := hb q d0 (Int.le_refl _); omega)]
    exact goes_n1 (by omega) (by omega)
  · have := hb q d0 (Int.le_refl _)
    exact wrap_idI h1 (by omega) (by omega)
  · omega
theorem rounds_ne {f lim st wd : Int} (h1 : 2 ≤ wd) (hf1 : -(2 ^ (wd.toNat - 1)) ≤ f) (hf2 : f < 2 ^ (wd.toNat - 1)) : (roundsF f lim st wd 12 0 = []) ↔ goesZ f lim st = false := by
  have e : f + 0 * st = f := by omega
  rw [roundsF_succ, e, wrap_idI h1 hf1 hf2]
  cases goesZ f lim st <;> simp
theorem rounds_le (f lim st wd : Int) : ∀ (k : Nat) (t : Int), (roundsF f lim st wd k t).length ≤ k
  | 0, t => by rw [roundsF_zero]; exact Nat.le_refl _
  | k + 1, t => by
    rw [roundsF_succ]
    split
    · rw [List.length_cons]
      have := rounds_le f lim st wd k (t + 1)
      omega
    · exact Nat.zero_le _
end
section
local macro_rules | `(tactic| walk_at "execs cons") => `(tactic| (dsimp only; walk_at "execs cons"))
local macro_rules | `(tactic| walk_at "eval BinOp") => `(tactic| (dsimp only; walk_at "eval BinOp"))
local macro_rules | `(tactic| walk_at "testChain") => `(tactic| (dsimp only; walk_at "testChain"))
local macro_rules | `(tactic| walk_at "isTrue UnaryOp") => `(tactic| (dsimp only; walk_at "isTrue UnaryOp"))
local macro_rules | `(tactic| walk_at "eval Name") => `(tactic| (dsimp only; walk_at "eval Name"))
local macro_rules | `(tactic| walk_at "isTrue Compare") => `(tactic| (dsimp only; walk_at "isTrue Compare"))
theorem abs_ne {z : Int} (h : z ≠ 0) : (if z < 0 then -z else z) ≠ 0 := by split <;> omega
theorem abs_py {z : Int} (h1 : -(2 ^ 63) ≤ z) (h2 : z < 2 ^ 63) : (if z < 0 then -z else z).natAbs.log2 < 9000 := by
  have h : (if z < 0 then -z else z).natAbs < 2 ^ 64 := by split <;> omega
  by_cases h0 : (if z < 0 then -z else z).natAbs = 0
  · rw [h0]; decide
  · exact Nat.lt_trans ((Nat.log2_lt h0).mpr h) (by decide)
local macro_rules | `(tactic| walk_at "binaryOp FloorDiv int int") => `(tactic| (k_here; (with_reducible refine floordiv_int ?kbe ?_ (Or.inl (PyProof.noPylong_of_log2 ?kbp))); (case kbe => exact abs_ne (by assumption)); (case kbp => exact abs_py (by assumption) (by assumption))))
local macro_rules | `(tactic| walk_at "binaryOp Mod int int") => `(tactic| (k_here; (with_reducible refine mod_int' ?kbe ?_); (case kbe => exact abs_ne (by assumption))))
def CountPost (R : List Int) (r : Value) (nn : List (Addr × Obj)) : Prop := (nn = [] ∧ r = .none) ∨ ∃ D q t z n, r = .ref D ∧ nn = [(D, ({ cls := .type "tuple", data := .seq #[.int q t, z] n } : Obj))] ∧ CountFits R q z
theorem count_none {R : List Int} : CountPost R .none [] := .inl ⟨rfl, rfl⟩
theorem count_some {R : List Int} {D : Addr} {q : Int} {t : Tok} {z : Value} {n : Nat} (h : CountFits R q z) : CountPost R (.ref D) [(D, ({ cls := .type "tuple", data := .seq #[.int q t, z] n } : Obj))] := .inr ⟨D, q, t, z, n, rfl, rfl, h⟩
set_option maxRecDepth 100000 in
set_option maxHeartbeats 8000000 in
theorem counted_spec (f lim st wd : Int) (t1 t2 t3 t4 : Tok) (h1 : 2 ≤ wd) (h2 : wd ≤ 64) (hs1 : -(2 ^ 63) ≤ st) (hs2 : st < 2 ^ 63) (hf1 : -(2 ^ (wd.toNat - 1)) ≤ f) (hf2 : f < 2 ^ (wd.toNat - 1)) (hl1 : -(2 ^ (wd.toNat - 1)) ≤ lim) (hl2 : lim < 2 ^ (wd.toNat - 1)) : Spec 209 1 16 [] [.int f t1, .int lim t2, .int st t3, .int wd t4] (CountPost (roundsF f lim st wd 12 0)) := by
  w_top off
  k_with_none
  walk_at "ENTER"
  all_goals (refine' LeaveR.mk ?e2 ?e3 ?_; (case e2 => k_asm); (case e3 => first | k_asm | (refine' cb_drop ?cbN ?cbS; (case cbN => assumption); (case cbS => walk_at "LEDALL"))); (try dsimp only))
  all_goals (try simp only [pw_sub wd h1] at *)
  · exact count_none
  · exact count_some (fits_zero h1 hf1 hf2 (goes_p1 (by assumption) (by omega)))
  · rw [if_neg (by omega)]
    exact count_some (fits_pos h1 hf1 hl2 (by assumption) (by omega) (by assumption))
  · exact count_some (fits_zero h1 hf1 hf2 (goes_n1 (by assumption) (by omega)))
  · rw [if_pos (by omega)]
    exact count_some (fits_neg h1 hf2 hl1 (by omega) (by omega) (by omega))
  · exact count_none
  · exact count_none
end
section
def ListP (R : List Int) (r : Value) (nn : List (Addr × Obj)) : Prop := ∃ D vs n, r = .ref D ∧ nn = [(D, listOf (List.toArray vs) n)] ∧ IntsAre vs R ∧ vs.length ≤ 12
theorem listP_of {f lim st wd : Int} {r : Value} {nn : List (Addr × Obj)} (h : ListPost (roundsF f lim st wd 12 0) r nn) : ListP (roundsF f lim st wd 12 0) r nn := by
  obtain ⟨D, vs, n, e1, e2, hi⟩ := h
  exact ⟨D, vs, n, e1, e2, hi, by rw [hi.length]; exact rounds_le f lim st wd 12 0⟩
theorem run_specR (f lim st wd : Int) (R : List Int) (t1 t2 t3 t4 : Tok) (hR : R = roundsF f lim st wd 12 0) (h1 : 2 ≤ wd) (h2 : wd ≤ 64) (_hf1 : -(2 ^ 63) ≤ f) (_hf2 : f < 2 ^ 63) : Spec 202 3 24 [] [.int f t1, .int lim t2, .int st t3, .int wd t4] (ListP R) := by
  subst hR
  exact Spec.post (run_spec f lim st wd _ t1 t2 t3 t4 h1 h2 (run_start f lim st wd).symm) fun _ _ p => listP_of p
theorem rounds_specR (f lim st wd : Int) (R : List Int) (t1 t2 t3 t4 : Tok) (hR : R = roundsF f lim st wd 12 0) (h1 : 2 ≤ wd) (h2 : wd ≤ 64) (hf1 : -(2 ^ 63) ≤ f) (hf2 : f < 2 ^ 63) (hs1 : -(2 ^ 63) ≤ st) (hs2 : st < 2 ^ 63) : Spec 195 2 16 [] [.int f t1, .int lim t2, .int st t3, .int wd t4] (ListP R) := by
  subst hR
  exact Spec.post (rounds_spec f lim st wd _ t1 t2 t3 t4 h1 h2 hf1 hf2 hs1 hs2 rfl) fun _ _ p => listP_of p
section
variable {w : World} {mean : ExcName → Option Value} {mg mb : Str → Option Value} {dp un : Nat} {gd : Option (List Code)} {cn : Str} {cs : Scope} {a : Addr} {ccd : Value} {cl : List (Str × Addr)} {outer : List Env} {A₀ : Around} {base h₀ : Heap} {L : Addr} {m : Str → Option Value} {s : Shared} {Q E : Value → Shared → Prop}
  {all : List (Addr × Obj)}
theorem useCount {f lim st wd : Int} {R : List Int} {t1 t2 t3 t4 : Tok} (hR : R = roundsF f lim st wd 12 0) (h1 : 2 ≤ wd) (h2 : wd ≤ 64) (hs1 : -(2 ^ 63) ≤ st) (hs2 : st < 2 ^ 63) (hf1 : -(2 ^ (wd.toNat - 1)) ≤ f) (hf2 : f < 2 ^ (wd.toNat - 1)) (hl1 : -(2 ^ (wd.toNat - 1)) ≤ lim) (hl2 : lim < 2 ^ (wd.toNat - 1)) (B : Below A₀ base outer h₀) (F : Fr h₀ L s.heap m) (X : (hd.heap_39 w.params).In h₀) (N : News h₀ L s.heap all) (T : Top hd.view_39 (looseW hd.view_39 []) mean mg mb h₀) (hk : cs.kind = .function) (hd : dp + 1 < recursionLimit) (hu : un + 16 < cLine)
    (ra : ∀ q z t D n h' tk', Fr h₀ L h' m → News h₀ L h' ((D, ({ cls := .type "tuple", data := .seq #[.int q t, z] n } : Obj)) :: all) → AllNe D all → CountFits R q z → Q (.ref D) { s with heap := h', toks := tk' })
    (rb : ∀ h' tk', Fr h₀ L h' m → News h₀ L h' all → Q .none { s with heap := h', toks := tk' }) :
    wpAny (model Challenge.rw_nt0632_01.row.prog w) (ktrTop dp un gd cn cs L a ccd cl outer) (call (.ref 209) [.int f t1, .int lim t2, .int st t3, .int wd t4]) Q E s := by
  subst hR
  exact use0 (counted_spec f lim st wd t1 t2 t3 t4 h1 h2 hs1 hs2 hf1 hf2 hl1 hl2) B F X N T hk hd hu fun r h' tk' nn F' N' D' p => by
    rcases p with ⟨e, e'⟩ | ⟨D, q, t, z, n, e, e', c⟩
    · subst e; subst e'
      exact rb h' tk' F' N'
    · subst e; subst e'
      exact ra q z t D n h' tk' F' N' (D' _ (.head _)) c
end
section
variable {prog : Program} {w : World} {A : Around} {E : Value → Shared → Prop} {s : Shared} {h₀ : Heap} {L D D' : Addr} {news : List (Addr × Obj)} {vs us : List Value} {R : List Int} {n n' : Nat} {Q : Value → Shared → Prop}
theorem ne_same (N : News h₀ L s.heap news) (a : (D, listOf (List.toArray vs) n) ∈ news) (b : (D', listOf (List.toArray us) n') ∈ news) (i : IntsAre vs R) (j : IntsAre us R) (hu : A.units + 64 < cLine) (h : Q (.bool false) s) : wpAny (model prog w) A (compareOp .NotEq (.ref D) (.ref D')) Q E s :=
  ne_intsK (News.isList N a) i (News.isList N b) j hu (by rw [decide_eq_true rfl]; exact h)
theorem ne_nilL (N : News h₀ L s.heap news) (a : (D, listOf (List.toArray vs) n) ∈ news) (b : (D', listOf (List.toArray []) n') ∈ news) (i : IntsAre vs R) (hu : A.units + 64 < cLine) (h : Q (.bool (!decide (R = []))) s) : wpAny (model prog w) A (compareOp .NotEq (.ref D) (.ref D')) Q E s :=
  ne_intsK (News.isList N a) i (News.isList N b) .nil hu h
end
local macro_rules | `(tactic| walk_at "compareOp NotEq ref ref") => `(tactic| (k_here; (with_reducible show wpAny _ _ (compareOp CmpOp.NotEq (Value.ref _) (Value.ref _)) _ _ _); k_dflt (first
  | (refine' ne_nilL ?N ?a ?b ?i ?u ?_; (case N => k_asm); (case b => k_mem); (case a => k_mem); (case i => with_reducible assumption); (case u => first | ktr_units | units_room); k_whole)
  | (refine' ne_same ?N ?a ?b ?i ?j ?u ?_; (case N => k_asm); (case a => k_mem); (case b => k_mem); (case i => with_reducible assumption); (case j => with_reducible assumption); (case u => first | ktr_units | units_room); k_whole))))
section
variable {prog : Program} {w : World} {A : Around} {h₀ : Heap} {L : Addr} {m : PySem.Str → Option Value} {env : Env} {ct elt : PySem.Expr} {x : PySem.Str} {scope : Scope} {cl : List (PySem.Str × Addr)} {s : Shared} {S : List (Addr × Obj) → Prop} {Fin : List Value → List (Addr × Obj) → Prop} {news : List (Addr × Obj)}
theorem comp_none {vs : List Value} {ns : List Int} (hi : IntsAre vs ns)
    (turn : ∀ k t I oI C oC D m₂ ys l h tk (E' : Value → Shared → Prop), k ∈ ns → IntsAre ys l → LCg.NsObj oC m₂ → m₂ x = some (.int k t) → Fr h₀ L h m → News h₀ L h ((I, oI) :: (C, oC) :: (D, LCg.lst ys) :: news) → LCg.Off3 I C D news → ((@Ne Nat I C) ∧ (@Ne Nat I D) ∧ (@Ne Nat C D)) → KPfMark →
      wpAny (model prog w) A (isTrue ct (compEnvC scope cl C env) (eval ct (compEnvC scope cl C env))) (fun b s' => if b = true then wpAny (model prog w) A (eval elt (compEnvC scope cl C env)) (LCg.CompEnd h₀ L m { s with heap := h, toks := tk } I oI C oC D (LCg.lst ys) S (fun y news' => KCiEl news l l y news')) E' s'
        else LCg.CompEnd h₀ L m { s with heap := h, toks := tk } I oI C oC D (LCg.lst ys) S (fun _ news' => KCiNo news l l news') Value.none s') E' { s with heap := h, toks := tk })
    (fin : Fin [] news) : LCt.CompRestT prog w A h₀ L m env ct elt x scope cl s S (fun i v => vs.toArray[i]? = some v) Fin vs.toArray.size 0 [] news :=
  kci_list (fun l _ => l) hi turn (fun ys hy _ => by
    have e : ∀ ns : List Int, ns.foldl (fun (l : List Int) (_ : Int) => l) [] = [] := fun ns => by induction ns with
      | nil => rfl
      | cons a r ih => exact ih
    rw [e] at hy
    cases hy
    exact fin) fun l _ => Nat.le_succ _
end
local macro_rules | `(tactic| walk_at "eval ListComp") => `(tactic| (k_here; k_dflt (refine LCt.ListComp_T (F₀ := by k_asm) (by with_unfolding_all rfl) (by decide) (by rfl) (by decide) (by rfl) ?_)))
local macro_rules | `(tactic| walk_at "CompSrcT") => `(tactic| (k_here; k_dflt (refine LCt.CompSrcT.ledger (by rfl) (by k_asm) (by k_asm) (by k_mem) (by exact room12 (by assumption)) ?_; intro g'; (refine' comp_none (by assumption) (fun k' t' I' oI' C' oC' D' m' ys' l' h' tk' E' hk' hI' hC' hx' F' N' off' ne' => ?_) ?_); (all_goals (try (simp only [LCg.Off3, and_true] at off'))); (all_goals (try ((show KPfMark → _); intro hMark'))); kcf_last)))
theorem fits_len {R : List Int} {q : Int} {z : Value} (c : CountFits R q z) (h : q < 12) : (R.length : Int) = q := by
  unfold CountFits at c
  exact (c h).1
theorem fits_last {R : List Int} {q : Int} {z : Value} (c : CountFits R q z) (h : q < 12) (h0 : 0 < q) : ∃ y t, z = .int y t ∧ R.getLast? = some y := by
  unfold CountFits at c
  exact (c h).2 h0
theorem ints_last {vs : List Value} {R : List Int} {y : Int} (i : IntsAre vs R) (h : R.getLast? = some y) : vs ≠ [] ∧ ∃ t, vs.toArray[(-1 + (vs.toArray.size : Int)).toNat]? = some (.int y t) := by
  have hn : R ≠ [] := fun e => by rw [e] at h; cases h
  have hl := i.length
  have hp : 0 < R.length := List.length_pos_iff.mpr hn
  refine ⟨fun e => by rw [e] at hl; simp at hl; omega, ?_⟩
  have e : (-1 + (vs.toArray.size : Int)).toNat = vs.length - 1 := by rw [List.size_toArray]; omega
  rw [e, List.getElem?_toArray]
  have hv : vs[vs.length - 1]? = some (vs[vs.length - 1]'(by omega)) := List.getElem?_eq_getElem (by omega)
  obtain ⟨k, t, ev, hk⟩ := IntsAre.at i (vs.length - 1) _ hv
  rw [List.getLast?_eq_getElem?, ← hl, hk] at h
  rw [hv, ev, Option.some.inj h]
  exact ⟨t, rfl⟩
section
variable {prog : Program} {w : World} {A : Around} {E : Value → Shared → Prop} {s : Shared} {h₀ : Heap} {L D : Addr} {news : List (Addr × Obj)} {vs : List Value} {R : List Int} {n : Nat} {q y : Int} {z : Value} {u : Tok} {Q : Value → Shared → Prop}
theorem len_fits (N : News h₀ L s.heap news) (a : (D, listOf (List.toArray vs) n) ∈ news) (i : IntsAre vs R) (c : CountFits R q z) (hq : q < 12) (h : Q (.int q (s.toks + 1)) { s with toks := s.toks + 1 + 1 }) : wpAny (model prog w) A (call (.builtin "len") [.ref D]) Q E s := by
  have e : ((List.toArray vs).size : Int) = q := by
    rw [← fits_len c hq, List.size_toArray, i.length]
  exact call_len_list (News.isList N a) (by omega) (by rw [e]; exact h)
theorem last_fits {value slice : PySem.Expr} (N : News h₀ L s.heap news) (a : (D, listOf (List.toArray vs) n) ∈ news) (i : IntsAre vs R) (hl : R.getLast? = some y) (h : ∀ t, Q (.int y t) s)
    (hs : subscripted slice false (.ref D) (.int (-1) u) = operate [.ref D, .int (-1) u] (getItem (.ref D) (.int (-1) u)) := by with_unfolding_all rfl) :
    wpAny (model prog w) A (subscriptTail value slice (.ref D) (.int (-1) u)) Q E s := by
  obtain ⟨hne, t, ht⟩ := ints_last i hl
  have hp : 0 < vs.length := List.length_pos_iff.mpr hne
  exact tail_any (News.isList N a).typeIs slot_list_getitem.lookup (wpAny_getItem_list_neg (News.isList N a) (by decide) (by rw [List.size_toArray]; omega) (by decide) ht (h t)) hs
end
local macro_rules | `(tactic| walk_at "call builtin:len") => `(tactic| (k_here; (with_reducible show wpAny _ _ (call (Value.builtin "len") [Value.ref _]) _ _ _); k_dflt (refine' len_fits ?N ?a ?i ?c ?q ?_; (case N => k_asm); (case a => k_mem); (case i => with_reducible assumption); (case c => with_reducible assumption); (case q => with_reducible assumption); k_whole)))
local macro_rules | `(tactic| walk_at "subscriptTail") => `(tactic| (k_here; (with_reducible show wpAny _ _ (subscriptTail _ _ (Value.ref _) (Value.int (-1) _)) _ _ _); (rename CountFits _ _ _ => cF9); (obtain ⟨y9, t9, e9, g9⟩ := fits_last cF9 (by assumption) (by assumption)); subst e9; k_dflt (refine' last_fits ?N ?a ?i ?c ?_ ?q; (case N => k_asm); (case a => k_mem); (case i => with_reducible assumption); (case c => with_reducible assumption); (case q => with_unfolding_all rfl); k_whole); intro t9))
theorem gd_pos {f lim st : Int} (h : 0 < st) : goesZ f lim st = decide (f ≤ lim) := by unfold goesZ; rw [if_pos h]
theorem gd_neg {f lim st : Int} (h : ¬ 0 < st) : goesZ f lim st = decide (lim ≤ f) := by unfold goesZ; rw [if_neg h]
theorem ab1 {f lim st : Int} (h : 0 < st) (e : (goesZ f lim st != decide (f ≤ lim)) = true) : False := by rw [gd_pos h] at e; simp at e
theorem ab2 {f lim st : Int} (h : ¬ 0 < st) (e : (goesZ f lim st != decide (lim ≤ f)) = true) : False := by rw [gd_neg h] at e; simp at e
theorem ab3 {R : List Int} {f lim st : Int} (h : 0 < st) (hR : R = [] ↔ goesZ f lim st = false) (e : (decide (f ≤ lim) != !decide (R = [])) = true) : False := by
  rw [← gd_pos h] at e
  cases hg : goesZ f lim st <;> rw [hg] at e hR <;> simp at hR <;> simp [hR] at e
theorem ab4 {R : List Int} {f lim st : Int} (h : ¬ 0 < st) (hR : R = [] ↔ goesZ f lim st = false) (e : (decide (lim ≤ f) != !decide (R = [])) = true) : False := by
  rw [← gd_neg h] at e
  cases hg : goesZ f lim st <;> rw [hg] at e hR <;> simp at hR <;> simp [hR] at e
set_option maxRecDepth 100000 in
set_option maxHeartbeats 8000000 in
theorem right_specR (f lim st wd : Int) (R : List Int) (hR : R = roundsF f lim st wd 12 0) (hRn : R = [] ↔ goesZ f lim st = false) (t1 t2 t3 t4 : Tok) (h1 : 2 ≤ wd) (h2 : wd ≤ 64) (hs1 : -(2 ^ 63) ≤ st) (hs2 : st < 2 ^ 63) (hg1 : -(2 ^ 63) ≤ f) (hg2 : f < 2 ^ 63) (hf1 : -(2 ^ (wd.toNat - 1)) ≤ f) (hf2 : f < 2 ^ (wd.toNat - 1)) (hl1 : -(2 ^ (wd.toNat - 1)) ≤ lim) (hl2 : lim < 2 ^ (wd.toNat - 1)) : Spec 214 4 128 [] [.int f t1, .int lim t2, .int st t3, .int wd t4] (RetV (.bool true)) := by
  w_top off
  k_with_none
  k_with "call ref" => (k_here; (with_reducible show wpAny _ _ (call (Value.ref 202) _) _ _ _); k_dflt (refine' use0 (run_specR _ _ _ _ _ _ _ _ _ (by assumption) (by assumption) (by assumption) (by assumption) (by assumption)) (by k_asm) (by k_asm) (by k_asm) (by k_asm) (by k_asm) (by first | exact rfl | assumption) (by ktr_room) (by ktr_units) ?_; k_whole); intro r9 h9 tk9 nn9 F9 N9 D9 P9; (obtain ⟨a9, vs9, k9, e9, f9, i9, b9⟩ := P9); subst e9; subst f9; (have l9 := D9 _ (List.Mem.head _)); clear D9; (try simp only [AllNe, and_true] at l9); (try dsimp only [List.cons_append, List.nil_append] at N9); (try dsimp only); (try k_fold))
  k_with "call ref" => (k_here; (with_reducible show wpAny _ _ (call (Value.ref 195) _) _ _ _); k_dflt (refine' use0 (rounds_specR _ _ _ _ _ _ _ _ _ (by assumption) (by assumption) (by assumption) (by assumption) (by assumption) (by assumption) (by assumption)) (by k_asm) (by k_asm) (by k_asm) (by k_asm) (by k_asm) (by first | exact rfl | assumption) (by ktr_room) (by ktr_units) ?_; k_whole); intro r9 h9 tk9 nn9 F9 N9 D9 P9; (obtain ⟨a9, vs9, k9, e9, f9, i9, b9⟩ := P9); subst e9; subst f9; (have l9 := D9 _ (List.Mem.head _)); clear D9; (try simp only [AllNe, and_true] at l9); (try dsimp only [List.cons_append, List.nil_append] at N9); (try dsimp only); (try k_fold))
  k_with "call ref" => (k_here; (with_reducible show wpAny _ _ (call (Value.ref 209) _) _ _ _); k_dflt (refine' useCount (by assumption) (by assumption) (by assumption) (by assumption) (by assumption) (by assumption) (by assumption) (by assumption) (by assumption) (by k_asm) (by k_asm) (by k_asm) (by k_asm) (by k_asm) (by first | exact rfl | assumption) (by ktr_room) (by ktr_units) ?_ ?_); (all_goals first | intro q9 z9 t9 a9 k9 h9 tk9 F9 N9 l9 C9 | intro h9 tk9 F9 N9); (try simp only [AllNe, and_true] at l9); (all_goals try dsimp only); (all_goals try k_fold))
  k_with "call ref" => (k_here; (with_reducible show wpAny _ _ (call (Value.ref 139) _) _ _ _); k_dflt (refine' useI (before_spec _ _ _ _ _ _ (by assumption) (by assumption)) (by k_asm) (by k_asm) (by k_asm) (by k_asm) (by k_asm) (by first | exact rfl | assumption) (by ktr_room) (by ktr_units) ?_; k_whole); intro t9 h9 tk9 F9 N9; (try dsimp only); (try k_fold))
  k_with "call ref" => (k_here; (with_reducible show wpAny _ _ (call (Value.ref 146) _) _ _ _); k_dflt (refine' useV (goes_spec _ _ _ _ _ _) (by k_asm) (by k_asm) (by k_asm) (by k_asm) (by k_asm) (by first | exact rfl | assumption) (by ktr_room) (by ktr_units) ?_; k_whole); intro h9 tk9 F9 N9; (try dsimp only); (try k_fold))
  k_with "call ref" => (k_here; (with_reducible show wpAny _ _ (call (Value.ref 167) _) _ _ _); k_dflt (refine' useI (signed_spec _ _ _ _ (by omega) (by omega)) (by k_asm) (by k_asm) (by k_asm) (by k_asm) (by k_asm) (by first | exact rfl | assumption) (by ktr_room) (by ktr_units) ?_; k_whole); intro t9 h9 tk9 F9 N9; (try dsimp only); (try k_fold))
  walk_at "ENTER"
  all_goals first
    | (exfalso; contradiction)
    | (exfalso; omega)
    | exact (ab1 (by assumption) (by assumption)).elim
    | exact (ab2 (by assumption) (by assumption)).elim
    | exact (ab3 (by assumption) hRn (by assumption)).elim
    | exact (ab4 (by assumption) hRn (by assumption)).elim
    | (refine' LeaveR.mk ?e2 ?e3 ⟨rfl, congrArg Value.bool (beq_self_eq_true _)⟩; (case e2 => k_asm); (case e3 => first | k_asm | (refine' cb_drop ?cbN ?cbS; (case cbN => assumption); (case cbS => walk_at "LEDALL"))))
theorem right_spec (f lim st wd : Int) (t1 t2 t3 t4 : Tok) (h1 : 2 ≤ wd) (h2 : wd ≤ 64) (hs1 : -(2 ^ 63) ≤ st) (hs2 : st < 2 ^ 63) (hg1 : -(2 ^ 63) ≤ f) (hg2 : f < 2 ^ 63) (hf1 : -(2 ^ (wd.toNat - 1)) ≤ f) (hf2 : f < 2 ^ (wd.toNat - 1)) (hl1 : -(2 ^ (wd.toNat - 1)) ≤ lim) (hl2 : lim < 2 ^ (wd.toNat - 1)) : Spec 214 4 128 [] [.int f t1, .int lim t2, .int st t3, .int wd t4] (RetV (.bool true)) :=
  right_specR f lim st wd _ rfl (rounds_ne h1 hf1 hf2) t1 t2 t3 t4 h1 h2 hs1 hs2 hg1 hg2 hf1 hf2 hl1 hl2
end
section
section
variable {f : Addr} {dn un₁ : Nat} {args : List Value} {Post : Value → List (Addr × Obj) → Prop}
  {w : World} {mean : ExcName → Option Value} {mg mb : Str → Option Value} {dp un : Nat} {gd : Option (List Code)} {cn : Str} {cs : Scope} {a : Addr} {ccd : Value} {cl : List (Str × Addr)} {outer : List Env} {A₀ : Around} {base h₀ : Heap} {L : Addr} {m : Str → Option Value} {s : Shared} {Q E : Value → Shared → Prop}
  {rest : List (Addr × Obj)} {eb el p0 p1 p2 p3 : Addr × Obj}
theorem flipNe {l : List (Addr × Obj)} {d : Addr} (h : ∀ q ∈ l, q.1 ≠ d) : ∀ q ∈ l, d ≠ q.1 := fun q hq e => h q hq e.symm
theorem useBx (pre : List (Addr × Obj)) (C : Spec f dn un₁ [eb, el] args Post) (B : Below A₀ base outer h₀) (F : Fr h₀ L s.heap m) (X : (hd.heap_39 w.params).In h₀) (N : News h₀ L s.heap (pre ++ eb :: el :: rest)) (D1 : ∀ q ∈ pre ++ rest, q.1 ≠ eb.1) (D2 : ∀ q ∈ pre ++ rest, q.1 ≠ el.1) (T : Top hd.view_39 (looseW hd.view_39 []) mean mg mb h₀) (hk : cs.kind = .function) (hd : dp + dn < recursionLimit) (hu : un + un₁ < cLine)
    (ret : ∀ r h' tk' news', Fr h₀ L h' m → News h₀ L h' (news' ++ (pre ++ rest)) → (∀ p ∈ news', AllNe p.1 (pre ++ rest)) → Post r news' → Q r { s with heap := h', toks := tk' }) :
    wpAny (model Challenge.rw_nt0632_01.row.prog w) (ktrTop dp un gd cn cs L a ccd cl outer) (call (.ref f) args) Q E s :=
  useN C B F X N (fun p hp => by
    simp only [List.mem_append, List.mem_cons, List.not_mem_nil, or_false] at hp ⊢
    rcases hp with (h | h) | (h | h)
    · exact .inr (.inl h)
    · exact .inr (.inr (.inl h))
    · exact .inl h
    · exact .inr (.inr (.inr h))) (dis2 (flipNe D1) (flipNe D2)) T hk hd hu ret
theorem useC0 (C : Spec f dn un₁ [eb, el] args Post) (B : Below A₀ base outer h₀) (F : Fr h₀ L s.heap m) (X : (hd.heap_39 w.params).In h₀) (N : News h₀ L s.heap (eb :: el :: rest)) (D1 : ∀ q ∈ rest, q.1 ≠ eb.1) (D2 : ∀ q ∈ rest, q.1 ≠ el.1) (T : Top hd.view_39 (looseW hd.view_39 []) mean mg mb h₀) (hk : cs.kind = .function) (hd : dp + dn < recursionLimit) (hu : un + un₁ < cLine)
    (ret : ∀ r h' tk' news', Fr h₀ L h' m → News h₀ L h' (news' ++ rest) → (∀ p ∈ news', AllNe p.1 rest) → Post r news' → Q r { s with heap := h', toks := tk' }) :
    wpAny (model Challenge.rw_nt0632_01.row.prog w) (ktrTop dp un gd cn cs L a ccd cl outer) (call (.ref f) args) Q E s := useBx [] C B F X N D1 D2 T hk hd hu ret
theorem useC3 (C : Spec f dn un₁ [eb, el] args Post) (B : Below A₀ base outer h₀) (F : Fr h₀ L s.heap m) (X : (hd.heap_39 w.params).In h₀) (N : News h₀ L s.heap (p0 :: p1 :: p2 :: eb :: el :: rest)) (D1 : ∀ q ∈ p0 :: p1 :: p2 :: rest, q.1 ≠ eb.1) (D2 : ∀ q ∈ p0 :: p1 :: p2 :: rest, q.1 ≠ el.1) (T : Top hd.view_39 (looseW hd.view_39 []) mean mg mb h₀) (hk : cs.kind = .function) (hd : dp + dn < recursionLimit) (hu : un + un₁ < cLine)
    (ret : ∀ r h' tk' news', Fr h₀ L h' m → News h₀ L h' (news' ++ (p0 :: p1 :: p2 :: rest)) → (∀ p ∈ news', AllNe p.1 (p0 :: p1 :: p2 :: rest)) → Post r news' → Q r { s with heap := h', toks := tk' }) :
    wpAny (model Challenge.rw_nt0632_01.row.prog w) (ktrTop dp un gd cn cs L a ccd cl outer) (call (.ref f) args) Q E s := useBx [p0, p1, p2] C B F X N D1 D2 T hk hd hu ret
theorem useC4 (C : Spec f dn un₁ [eb, el] args Post) (B : Below A₀ base outer h₀) (F : Fr h₀ L s.heap m) (X : (hd.heap_39 w.params).In h₀) (N : News h₀ L s.heap (p0 :: p1 :: p2 :: p3 :: eb :: el :: rest)) (D1 : ∀ q ∈ p0 :: p1 :: p2 :: p3 :: rest, q.1 ≠ eb.1) (D2 : ∀ q ∈ p0 :: p1 :: p2 :: p3 :: rest, q.1 ≠ el.1) (T : Top hd.view_39 (looseW hd.view_39 []) mean mg mb h₀) (hk : cs.kind = .function) (hd : dp + dn < recursionLimit) (hu : un + un₁ < cLine)
    (ret : ∀ r h' tk' news', Fr h₀ L h' m → News h₀ L h' (news' ++ (p0 :: p1 :: p2 :: p3 :: rest)) → (∀ p ∈ news', AllNe p.1 (p0 :: p1 :: p2 :: p3 :: rest)) → Post r news' → Q r { s with heap := h', toks := tk' }) :
    wpAny (model Challenge.rw_nt0632_01.row.prog w) (ktrTop dp un gd cn cs L a ccd cl outer) (call (.ref f) args) Q E s := useBx [p0, p1, p2, p3] C B F X N D1 D2 T hk hd hu ret
theorem useC0r (B : Below A₀ base outer h₀) (F : Fr h₀ L s.heap m) (X : (hd.heap_39 w.params).In h₀) (N : News h₀ L s.heap (eb :: el :: rest)) (D1 : ∀ q ∈ rest, q.1 ≠ eb.1) (D2 : ∀ q ∈ rest, q.1 ≠ el.1) (T : Top hd.view_39 (looseW hd.view_39 []) mean mg mb h₀) (hk : cs.kind = .function) (hd : dp + dn < recursionLimit) (hu : un + un₁ < cLine) (C : Spec f dn un₁ [eb, el] args Post) (ret : ∀ r h' tk' news', Fr h₀ L h' m → News h₀ L h' (news' ++ rest) → (∀ p ∈ news', AllNe p.1 rest) → Post r news' → Q r { s with heap := h', toks := tk' }) : wpAny (model Challenge.rw_nt0632_01.row.prog w) (ktrTop dp un gd cn cs L a ccd cl outer) (call (.ref f) args) Q E s:= useC0 C B F X N D1 D2 T hk hd hu ret
theorem useC3r (B : Below A₀ base outer h₀) (F : Fr h₀ L s.heap m) (X : (hd.heap_39 w.params).In h₀) (N : News h₀ L s.heap (p0 :: p1 :: p2 :: eb :: el :: rest)) (D1 : ∀ q ∈ p0 :: p1 :: p2 :: rest, q.1 ≠ eb.1) (D2 : ∀ q ∈ p0 :: p1 :: p2 :: rest, q.1 ≠ el.1) (T : Top hd.view_39 (looseW hd.view_39 []) mean mg mb h₀) (hk : cs.kind = .function) (hd : dp + dn < recursionLimit) (hu : un + un₁ < cLine) (C : Spec f dn un₁ [eb, el] args Post) (ret : ∀ r h' tk' news', Fr h₀ L h' m → News h₀ L h' (news' ++ (p0 :: p1 :: p2 :: rest)) → (∀ p ∈ news', AllNe p.1 (p0 :: p1 :: p2 :: rest)) → Post r news' → Q r { s with heap := h', toks := tk' }) : wpAny (model Challenge.rw_nt0632_01.row.prog w) (ktrTop dp un gd cn cs L a ccd cl outer) (call (.ref f) args) Q E s:= useC3 C B F X N D1 D2 T hk hd hu ret
theorem useC4r (B : Below A₀ base outer h₀) (F : Fr h₀ L s.heap m) (X : (hd.heap_39 w.params).In h₀) (N : News h₀ L s.heap (p0 :: p1 :: p2 :: p3 :: eb :: el :: rest)) (D1 : ∀ q ∈ p0 :: p1 :: p2 :: p3 :: rest, q.1 ≠ eb.1) (D2 : ∀ q ∈ p0 :: p1 :: p2 :: p3 :: rest, q.1 ≠ el.1) (T : Top hd.view_39 (looseW hd.view_39 []) mean mg mb h₀) (hk : cs.kind = .function) (hd : dp + dn < recursionLimit) (hu : un + un₁ < cLine) (C : Spec f dn un₁ [eb, el] args Post) (ret : ∀ r h' tk' news', Fr h₀ L h' m → News h₀ L h' (news' ++ (p0 :: p1 :: p2 :: p3 :: rest)) → (∀ p ∈ news', AllNe p.1 (p0 :: p1 :: p2 :: p3 :: rest)) → Post r news' → Q r { s with heap := h', toks := tk' }) : wpAny (model Challenge.rw_nt0632_01.row.prog w) (ktrTop dp un gd cn cs L a ccd cl outer) (call (.ref f) args) Q E s:= useC4 C B F X N D1 D2 T hk hd hu ret
end
def TurnEnd (h₀ : Heap) (L : Addr) (x : PySem.Str) (stored : List PySem.Str) (m₀ : PySem.Str → Option Value) (b l cw cb : Addr) (ob : Obj) (e : Addr × Obj) (s₁ s₂ : Shared) : Prop :=
  ∃ h' tk m' news X t vs ns k ow wv, s₂ = { s₁ with heap := h', toks := tk } ∧ Fr h₀ L h' m' ∧ News h₀ L h' news ∧ e ∈ news ∧ (b, listOf (List.toArray [.ref l, .int X t]) 0) ∈ news ∧ (l, listOf (List.toArray vs) k) ∈ news ∧ (cw, ow) ∈ news ∧ (cb, ob) ∈ news ∧
    IntsAre vs ns ∧ vs.length ≤ 24 ∧ 0 ≤ X ∧ X < 2 ^ 89 ∧ ow.data = Data.cell wv ∧ ∀ z, z ≠ x → stored.contains z = false → m' z = m₀ z
def TurnPost (h₀ : Heap) (L : Addr) (x : PySem.Str) (stored : List PySem.Str) (m₀ : PySem.Str → Option Value) (b l cw cb : Addr) (ob : Obj) (e : Addr × Obj) (s₁ : Shared) (Q : Flow → Shared → Prop) (f : Flow) (s₂ : Shared) : Prop :=
  match f with
  | .ret v => Q (.ret v) s₂
  | .brk => Q .next s₂
  | _ => TurnEnd h₀ L x stored m₀ b l cw cb ob e s₁ s₂
section
variable {prog : Program} {w : World} {A : Around} {E : Value → Shared → Prop} {s : Shared} {h₀ : Heap} {env : Env} {x : PySem.Str} {body : List Stmt} {Q : Flow → Shared → Prop}
theorem turn_rest {I b l cw cb : Addr} {ob : Obj} {m₀ : PySem.Str → Option Value} {stored : List PySem.Str} {n : Nat} (hn : (@LT.lt Nat _ b I ∧ @LT.lt Nat _ l I) ∧ @LT.lt Nat _ cw I ∧ @LT.lt Nat _ cb I)
    (turn : ∀ X t vs ns k ow wv oI i ti (u : PySem.Str → Option Value) h tk, IntsAre vs ns → vs.length ≤ 24 → 0 ≤ X → X < 2 ^ 89 → ow.data = Data.cell wv →
      Fr h₀ env.locals h (fun y => if y = x then some (.int i ti) else if stored.contains y then u y else m₀ y) → News h₀ env.locals h [(b, listOf (List.toArray [.ref l, .int X t]) 0), (l, listOf (List.toArray vs) k), (cw, ow), (cb, ob), (I, oI)] →
      wpAny (model prog w) A (execs body env) (TurnPost h₀ env.locals x stored m₀ b l cw cb ob (I, oI) { s with heap := h, toks := tk } Q) E { s with heap := h, toks := tk })
    (done : ∀ (u : PySem.Str → Option Value) h tk, Fr h₀ env.locals h (fun y => if y = x then u y else if stored.contains y then u y else m₀ y) → News h₀ env.locals h [] → Q .next { s with heap := h, toks := tk }) :
    ∀ (k i : Nat) (m : PySem.Str → Option Value) (X : Int) (t : Tok) (vs : List Value) (ns : List Int) (kk : Nat) (ow : Obj) (wv : Option Value), IntsAre vs ns → vs.length ≤ 24 → 0 ≤ X → X < 2 ^ 89 → ow.data = Data.cell wv → (∀ z, z ≠ x → stored.contains z = false → m z = m₀ z) →
      RangeRest prog w A E h₀ env x body Q s I 0 n k i m [(b, listOf (List.toArray [.ref l, .int X t]) 0), (l, listOf (List.toArray vs) kk), (cw, ow), (cb, ob)]
  | 0, i, m, X, t, vs, ns, kk, ow, wv, _, _, _, _, _, hm => RangeRest.zero fun h tk F N => done m h tk (by
      have e : (fun y => if y = x then m y else if stored.contains y then m y else m₀ y) = m := by
        funext y
        by_cases h1 : y = x
        · rw [if_pos h1]
        · rw [if_neg h1]
          cases h2 : stored.contains y with
          | true => rfl
          | false => exact (hm y h1 h2).symm
      rw [e]; exact F) (fun p hp => nomatch hp)
  | k + 1, i, m, X, t, vs, ns, kk, ow, wv, hi, hz, hx, hx1, hw, hm => RangeRest.succ fun ti h tk F N => by
    have e : (fun y => if y = x then some (.int (0 + (i : Int)) ti) else m y) = (fun y => if y = x then some (.int (0 + (i : Int)) ti) else if stored.contains y then m y else m₀ y) := by
      funext y
      by_cases h1 : y = x
      · rw [if_pos h1, if_pos h1]
      · rw [if_neg h1, if_neg h1]
        cases h2 : stored.contains y with
        | true => rfl
        | false => exact hm y h1 h2
    rw [e] at F
    refine wpAny_mono (turn X t vs ns kk ow wv (itR (0 + ((i + 1 : Nat) : Int)) ((n : Int) - ((i + 1 : Nat) : Int))) _ ti m h tk hi hz hx hx1 hw F (fun p hp => N p ?_)) (fun f s₂ p => ?_) fun _ _ y => y
    · simp only [List.mem_cons, List.not_mem_nil, or_false] at hp ⊢
      rcases hp with h | h | h | h | h
      · exact .inr (.inl h)
      · exact .inr (.inr (.inl h))
      · exact .inr (.inr (.inr (.inl h)))
      · exact .inr (.inr (.inr (.inr h)))
      · exact .inl h
    · have up : TurnEnd h₀ env.locals x stored m₀ b l cw cb ob (I, itR (0 + ((i + 1 : Nat) : Int)) ((n : Int) - ((i + 1 : Nat) : Int))) { s with heap := h, toks := tk } s₂ →
          UnrEnd h₀ env.locals { s with heap := h, toks := tk } I (itR (0 + ((i + 1 : Nat) : Int)) ((n : Int) - ((i + 1 : Nat) : Int))) (RangeRest prog w A E h₀ env x body Q s I 0 n k (i + 1)) s₂ := by
        rintro ⟨h', tk', m', news, X', t', vs', ns', k', ow', wv', rfl, F', N', m1, m2, m3, m4, m5, i1, i2, i3, i4, i5, i6⟩
        refine UnrEnd.intro F' N' [(b, listOf (List.toArray [.ref l, .int X' t']) 0), (l, listOf (List.toArray vs') k'), (cw, ow'), (cb, ob)] ?_ ?_ (turn_rest hn turn done k (i + 1) m' X' t' vs' ns' k' ow' wv' i1 i2 i3 i4 i5 i6)
        · intro p hp
          simp only [List.mem_cons, List.not_mem_nil, or_false] at hp
          rcases hp with rfl | rfl | rfl | rfl | rfl <;> assumption
        · intro p hp
          simp only [List.mem_cons, List.not_mem_nil, or_false] at hp
          rcases hp with rfl | rfl | rfl | rfl
          · exact Nat.ne_of_lt hn.1.1
          · exact Nat.ne_of_lt hn.1.2
          · exact Nat.ne_of_lt hn.2.1
          · exact Nat.ne_of_lt hn.2.2
      cases f with
      | ret v => exact p
      | brk => exact p
      | next => exact up p
      | cont => exact up p
theorem turn_loop {r b l cw cb : Addr} {ob ow : Obj} {t₀ u₀ v₀ t : Tok} {X : Int} {vs : List Value} {ns : List Int} {k : Nat} {wv : Option Value} {news : List (Addr × Obj)} {m₀ : PySem.Str → Option Value} (stored : List PySem.Str)
    (hh : A.handled = none) (hr : IsRange s.heap r 0 2 1 t₀ u₀ v₀) (F : Fr h₀ env.locals s.heap m₀) (N : News h₀ env.locals s.heap news)
    (nb : (b, listOf (List.toArray [.ref l, .int X t]) 0) ∈ news) (nl : (l, listOf (List.toArray vs) k) ∈ news) (nw : (cw, ow) ∈ news) (nc : (cb, ob) ∈ news)
    (hi : IntsAre vs ns) (hz : vs.length ≤ 24) (hx : 0 ≤ X) (hx1 : X < 2 ^ 89) (hw : ow.data = Data.cell wv)
    (turn : ∀ I, ((@LT.lt Nat _ b I ∧ @LT.lt Nat _ l I) ∧ @LT.lt Nat _ cw I ∧ @LT.lt Nat _ cb I) → ∀ X t vs ns k ow wv oI i ti (u : PySem.Str → Option Value) h tk, IntsAre vs ns → vs.length ≤ 24 → 0 ≤ X → X < 2 ^ 89 → ow.data = Data.cell wv →
      Fr h₀ env.locals h (fun y => if y = x then some (.int i ti) else if stored.contains y then u y else m₀ y) → News h₀ env.locals h [(b, listOf (List.toArray [.ref l, .int X t]) 0), (l, listOf (List.toArray vs) k), (cw, ow), (cb, ob), (I, oI)] →
      wpAny (model prog w) A (execs body env) (TurnPost h₀ env.locals x stored m₀ b l cw cb ob (I, oI) { s with heap := h, toks := tk } Q) E { s with heap := h, toks := tk })
    (done : ∀ (u : PySem.Str → Option Value) h tk, Fr h₀ env.locals h (fun y => if y = x then u y else if stored.contains y then u y else m₀ y) → News h₀ env.locals h [] → Q .next { s with heap := h, toks := tk }) :
    wpAny (model prog w) A (pyIter (.ref r)) (fun it s₂ => LoopAtV prog w A h₀ env x body Q E it s₂) E s := by
  have N4 : News h₀ env.locals s.heap [(b, listOf (List.toArray [.ref l, .int X t]) 0), (l, listOf (List.toArray vs) k), (cw, ow), (cb, ob)] := cb_drop N (by
    intro p hp
    simp only [List.mem_cons, List.not_mem_nil, or_false] at hp
    rcases hp with rfl | rfl | rfl | rfl <;> assumption)
  refine iter_rangeUnr (n := 2) hh hr (by decide) (by decide) F N4 fun I hI => ?_
  have hn : (@LT.lt Nat _ b I ∧ @LT.lt Nat _ l I) ∧ @LT.lt Nat _ cw I ∧ @LT.lt Nat _ cb I := ⟨⟨hI _ (.head _), hI _ (.tail _ (.head _))⟩, hI _ (.tail _ (.tail _ (.head _))), hI _ (.tail _ (.tail _ (.tail _ (.head _))))⟩
  exact turn_rest hn (turn I hn) done 2 0 m₀ X t vs ns k ow wv hi hz hx hx1 hw fun _ _ _ => rfl
end
theorem wr63 (n : Int) {wd : Int} (h1 : 2 ≤ wd) (h2 : wd ≤ 64) : -(2 ^ 63) ≤ wrapZ n wd ∧ wrapZ n wd < 2 ^ 63 := by
  have h := wrap_rng n h1
  have hp : (2 : Int) ^ (wd.toNat - 1) ≤ 2 ^ 63 := by
    have := Nat.pow_le_pow_right (show 0 < 2 by decide) (show wd.toNat - 1 ≤ 63 by omega)
    have e := kbt_cast (wd.toNat - 1)
    have e2 := kbt_cast 63
    omega
  generalize (2 : Int) ^ (wd.toNat - 1) = P at *
  omega
theorem right_specW (a b c wd : Int) (t1 t2 t3 t4 : Tok) (h1 : 2 ≤ wd) (h2 : wd ≤ 64) : Spec 214 4 128 [] [.int (wrapZ a wd) t1, .int (wrapZ b wd) t2, .int (wrapZ c wd) t3, .int wd t4] (RetV (.bool true)) :=
  right_spec _ _ _ wd t1 t2 t3 t4 h1 h2 (wr63 c h1 h2).1 (wr63 c h1 h2).2 (wr63 a h1 h2).1 (wr63 a h1 h2).2 (wrap_rng a h1).1 (wrap_rng a h1).2 (wrap_rng b h1).1 (wrap_rng b h1).2
theorem value_specW (b l : Addr) (x wd y : Int) (t t1 t2 : Tok) (k1 k2 : Nat) (vs : List Value) (ns : List Int) (hi : IntsAre vs ns) (hz : vs.length ≤ 24) (hb : @Ne Nat b l) (hx : 0 ≤ x) (hx1 : x < 2 ^ 89) (h1 : 2 ≤ wd) (h2 : wd ≤ 64) :
    Spec 188 2 16 [(b, listOf (List.toArray [.ref l, .int x t]) k1), (l, listOf (List.toArray vs) k2)] [.ref b, .int (wrapZ y wd) t1, .int wd t2] (ValPost b l k1 wd) :=
  value_spec b l x wd _ t t1 t2 k1 k2 vs ns hi hz hb hx hx1 h1 h2 (wr63 y h1 h2).1 (wr63 y h1 h2).2 (wrap_idI h1 (wrap_rng y h1).1 (wrap_rng y h1).2) (decB_len (by have := (wr63 y h1 h2).1; omega) (by have := (wr63 y h1 h2).2; omega))
@[irreducible] def Apart (a b : Nat) : Prop := a ≠ b
theorem Apart.of {a b : Nat} (h : a ≠ b) : Apart a b := by unfold Apart; exact h
theorem Apart.ne {a b : Nat} (h : Apart a b) : a ≠ b := by unfold Apart at h; exact h
end
section
theorem own_two {all : List (Addr × Obj)} {x d : Addr} (h : ∀ p ∈ all, p.1 < d) (l : d < x) : OwnOff all [x, d] := by
  intro p hp b hb
  have h1 := h p hp
  simp only [List.mem_cons, List.not_mem_nil, or_false] at hb
  rcases hb with rfl | rfl
  · exact Nat.ne_of_lt (Nat.lt_trans h1 l)
  · exact Nat.ne_of_lt h1
def LimSpec (wd : Int) (t : Tok) : Prop := ∀ (w : World) (mean : ExcName → Option Value) (mg mb : PySem.Str → Option Value) (cn : PySem.Str) (cs : Scope) (a : Addr) (ccd : Value) (cl : List (PySem.Str × Addr)) (h₀ : Heap) (L : Addr) (m : PySem.Str → Option Value) (s : Shared) (all : List (Addr × Obj)) (Q E : Value → Shared → Prop),
    Below callerA h₀ [] h₀ → Fr h₀ L s.heap m → (hd.heap_39 w.params).In h₀ → News h₀ L s.heap all → Top hd.view_39 (looseW hd.view_39 []) mean mg mb h₀ → cs.kind = .function →
    (∀ lx dx h' tk' es n t', Fr h₀ L h' m → News h₀ L h' ((lx, instObj 53 dx) :: (dx, dictOf es n) :: all) → (∀ p ∈ all, p.1 < dx) → dx < lx → getL (PySem.Str.ofString "width") es = some (some (.int wd t')) → Q (.ref lx) { s with heap := h', toks := tk' }) →
    wpAny (model Challenge.rw_nt0632_01.row.prog w) (callerA.deeper (envX cn cs L a ccd cl)) (call (.ref 53) [] [(PySem.Str.ofString "width", .int wd t)]) Q E s
set_option maxRecDepth 100000 in
set_option maxHeartbeats 4000000 in
theorem lim_spec (wd : Int) (t : Tok) : LimSpec wd t := by
  w_top off
  k_with_none
  unfold LimSpec
  k_fill
  intro w mean mg mb cn cs a ccd cl h₀ L m s all Q E B F X N T hk hret
  try k_fold
  k_dflt (refine' call_cls ?k1 ?k2 ?k3 ?k4 ?k5 ?k6 ?_; (case k1 => k_asm); (case k2 => k_asm); (case k3 => k_asm); (case k4 => k_is); (case k5 => k_is); (case k6 => k_is); k_whole; intro x' d' h' F' N' l1 l2; (have own := own_two l1 l2); (try k_lt2 l2); (refine' code_def (binds := [(Str.ofString "self", .ref x'), (Str.ofString "width", .int wd t), (Str.ofString "registers", .int 250 211), (Str.ofString "upvalues", .int 60 212), (Str.ofString "local_names", .int 200 213), (Str.ofString "ccalls", .int 40 214), (Str.ofString "frames", .int 200 215), (Str.ofString "stack", .int 2000 216), (Str.ofString "flush", .int 50 217), (Str.ofString "steps", .int 1000000000 218), (Str.ofString "text", .int 1000000 219)]) ?k1 ?k2 ?k3 ?k4 ?k5 ?kA ?kF ?kK ?k6 ?k7 ?k8 ?k9 ?kB ?_ ?c2 ?c3 ?c4 ?c5; (case kA => exact rfl); (case kF => exact rfl); (case kK => exact hk); (case k1 => k_asm); (case k2 => k_asm); (case k3 => k_asm); (case k4 => k_asm); (case k5 => k_asm); (case k6 => k_is); (case k7 => k_is); (case k8 => k_room); (case k9 => first | exact BindsTo.of_eq rfl | exact binds_K (by k_in) rfl (by k_is) rfl rfl rfl); (case c5 => decide); (case kB => exact locs rfl); (case c2 => exact rfl); (case c3 => exact rfl); (case c4 => exact rfl); k_whole; intro g' L' h' FG' F' N' B' X' T'; (try dsimp only); (try k_lift B'); (try k_fold)))
  k_steps
  rename Fr h₀ L (Shared.heap _) _ => kF
  rename News h₀ L (Shared.heap _) _ => kN
  exact hret _ _ _ _ _ _ _ kF kN l1 l2 rfl
end
section
def optP : Option Int → PyData
  | some n => .int n
  | none => .none
theorem numReads {h : Heap} {v : Value} {o : Option Int} (x : NumIs v o) : Reads h v (optP o) [] := by
  cases o with
  | none => cases x; exact Reads.none
  | some n => obtain ⟨t, rfl⟩ := x; exact Reads.int n t
theorem numReads3 {h : Heap} {v1 v2 v3 : Value} {o1 o2 o3 : Option Int} (x1 : NumIs v1 o1) (x2 : NumIs v2 o2) (x3 : NumIs v3 o3) : ReadsAll h [v1, v2, v3] [optP o1, optP o2, optP o3] [] := by
  have := ReadsAll.cons (numReads (h := h) x1) (ReadsAll.cons (numReads x2) (ReadsAll.cons (numReads x3) ReadsAll.nil))
  simpa using this
theorem opt_lay (o : Option Int) : (optP o).canLay0 = true := by cases o <;> rfl
theorem opt_dep (o : Option Int) : (optP o).depth = 0 := by cases o <;> rfl
theorem opt_shaped (o1 o2 o3 : Option Int) : SeqAt.shaped (.list [optP o1, optP o2, optP o3]) = true := by
  cases o1 <;> cases o2 <;> cases o3 <;> simp [SeqAt.shaped, PyData.canLay0, PyData.canLayAll0, PyData.depth, PyData.depthAll, optP]
theorem opt_eqv (o1 o2 o3 : Option Int) : PyData.eqv (.list [optP o1, optP o2, optP o3]) (.list [optP o1, optP o2, optP o3]) = true := by
  cases o1 <;> cases o2 <;> cases o3 <;> simp [PyData.eqv, PyData.eqvAll, optP]
theorem opt_layAll (o1 o2 o3 : Option Int) : PyData.canLayAll0 [optP o1, optP o2, optP o3] = true := by
  cases o1 <;> cases o2 <;> cases o3 <;> simp [PyData.canLay0, PyData.canLayAll0, optP]
def hasNone (o1 o2 o3 : Option Int) : Bool := o1.isNone || o2.isNone || o3.isNone
theorem opt_any (o1 o2 o3 : Option Int) : ([optP o1, optP o2, optP o3].any fun y => PyData.eqv y .none) = hasNone o1 o2 o3 := by
  cases o1 <;> cases o2 <;> cases o3 <;> simp [PyData.eqv, optP, hasNone]
def noneV : Value → Bool
  | .none => true
  | _ => false
theorem num_noneV {v : Value} {o : Option Int} (x : NumIs v o) : noneV v = o.isNone ∧ PyData.eqv (optP o) .none = o.isNone := by
  cases o with
  | none => cases x; exact ⟨rfl, by simp [optP, PyData.eqv]⟩
  | some n => obtain ⟨t, rfl⟩ := x; exact ⟨rfl, by simp [optP, PyData.eqv]⟩
section
variable {prog : Program} {w : World} {A : Around} {E : Value → Shared → Prop} {s : Shared} {h₀ : Heap} {L D D' : Addr} {news : List (Addr × Obj)} {r1 r2 r3 u1 u2 u3 : Value} {o1 o2 o3 : Option Int} {n n' : Nat} {Q : Value → Shared → Prop}
theorem rd3 (N : News h₀ L s.heap news) (a : (D, listOf (List.toArray [r1, r2, r3]) n) ∈ news) (x1 : NumIs r1 o1) (x2 : NumIs r2 o2) (x3 : NumIs r3 o3) : Reads s.heap (.ref D) (.list [optP o1, optP o2, optP o3]) [D] :=
  Reads.list (N _ a).1 rfl rfl (numReads3 x1 x2 x3)
theorem ne_opts (N : News h₀ L s.heap news) (a : (D, listOf (List.toArray [r1, r2, r3]) n) ∈ news) (b : (D', listOf (List.toArray [u1, u2, u3]) n') ∈ news) (x1 : NumIs r1 o1) (x2 : NumIs r2 o2) (x3 : NumIs r3 o3) (y1 : NumIs u1 o1) (y2 : NumIs u2 o2) (y3 : NumIs u3 o3) (hu : A.units + 64 < cLine) (h : Q (.bool false) s) :
    wpAny (model prog w) A (compareOp .NotEq (.ref D) (.ref D')) Q E s :=
  ne_dataH (rd3 N a x1 x2 x3) (rd3 N b y1 y2 y3) (opt_shaped o1 o2 o3) (opt_shaped o1 o2 o3) hu (by rw [opt_eqv]; exact h)
theorem in_opts (N : News h₀ L s.heap news) (a : (D, listOf (List.toArray [r1, r2, r3]) n) ∈ news) (x1 : NumIs r1 o1) (x2 : NumIs r2 o2) (x3 : NumIs r3 o3) (hu : A.units + 64 < cLine) (h : Q (.bool (hasNone o1 o2 o3)) s) :
    wpAny (model prog w) A (compareOp .In .none (.ref D)) Q E s :=
  SeqAt.in_list_reads (rd3 N a x1 x2 x3) Reads.none (opt_layAll o1 o2 o3) (by rfl) (by
    have e : (PyData.none).depth = 0 := rfl
    rw [e, Nat.min_zero]
    omega) (by rw [opt_any]; exact h)
theorem num_eqAt {v : Value} {o : Option Int} (x : NumIs v o) (hu : A.units + 64 < cLine) : SeqAt.EqAt A.in1 s v .none (noneV v) := by
  have e := num_noneV x
  rw [e.1, ← e.2]
  refine SeqAt.eqAt_reads _ _ _ _ _ _ _ _ (numReads x) Reads.none (opt_lay o) (by rfl) ?_
  have e2 : (PyData.none).depth = 0 := rfl
  rw [e2, Nat.min_zero]
  show A.units + 1 + 0 < cLine
  omega
theorem index_at (N : News h₀ L s.heap news) (a : (D, listOf (List.toArray [u1, u2, u3]) n) ∈ news) (x1 : NumIs u1 o1) (x2 : NumIs u2 o2) (x3 : NumIs u3 o3) (hu : A.units + 64 < cLine) (j : Nat) (hj : j < [u1, u2, u3].length) (hit : noneV ([u1, u2, u3][j]'hj) = true)
    (hno : ∀ m (hm : m < [u1, u2, u3].length), m < j → noneV ([u1, u2, u3][m]'hm) = false) (h : Q (.int (j : Nat) s.toks) { s with toks := s.toks + 1 }) : wpAny (model prog w) A (call (.builtin "list.index") [.ref D, .none]) Q E s := by
  simp only [List.length_cons, List.length_nil] at hj
  refine call_meets PySem.F.slot_list_index ⟨_, (N _ a).1, rfl⟩ PySem.F.entry_list_index (PySem.F.args_list_index_2 _ _)
    (SeqAt.list_indexAt D (List.toArray [u1, u2, u3]) n none #[] .none noneV j (by simpa using hj) (by omega) (by simpa using hit) (fun m hm hlt => by simpa using hno m (by simpa using hm) hlt)) ⟨(N _ a).1, fun y hy => ?_, h⟩
  have hy' : y = u1 ∨ y = u2 ∨ y = u3 := by simpa using hy
  rcases hy' with rfl | rfl | rfl
  · exact num_eqAt x1 hu
  · exact num_eqAt x2 hu
  · exact num_eqAt x3 hu
theorem index_opts (N : News h₀ L s.heap news) (a : (D, listOf (List.toArray [u1, u2, u3]) n) ∈ news) (x1 : NumIs u1 o1) (x2 : NumIs u2 o2) (x3 : NumIs u3 o3) (hu : A.units + 64 < cLine) (hn : hasNone o1 o2 o3 = true) (h : Q (.int (placeZ o1 o2 o3) s.toks) { s with toks := s.toks + 1 }) :
    wpAny (model prog w) A (call (.builtin "list.index") [.ref D, .none]) Q E s := by
  have e1 := (num_noneV x1).1
  have e2 := (num_noneV x2).1
  have e3 := (num_noneV x3).1
  cases o1 with
  | none => exact index_at N a x1 x2 x3 hu 0 (by show 0 < 3; decide) e1 (fun m _ hlt => absurd hlt (Nat.not_lt_zero _)) h
  | some a1 =>
    cases o2 with
    | none =>
      refine index_at N a x1 x2 x3 hu 1 (by show 1 < 3; decide) e2 (fun m _ hlt => ?_) h
      have : m = 0 := by omega
      subst this
      exact e1
    | some a2 =>
      cases o3 with
      | none =>
        refine index_at N a x1 x2 x3 hu 2 (by show 2 < 3; decide) e3 (fun m _ hlt => ?_) h
        have : m = 0 ∨ m = 1 := by omega
        rcases this with rfl | rfl
        · exact e1
        · exact e2
      | some a3 => exact absurd hn (by simp [hasNone])
theorem place_no {o1 o2 o3 : Option Int} (h : hasNone o1 o2 o3 = false) : placeZ o1 o2 o3 = -1 := by
  cases o1 <;> cases o2 <;> cases o3 <;> first | rfl | (simp [hasNone] at h)
end
section
variable {prog : Program} {w : World} {A : Around} {h₀ : Heap} {L : Addr} {m : PySem.Str → Option Value} {env : Env} {ct elt : PySem.Expr} {x : PySem.Str} {scope : Scope} {cl : List (PySem.Str × Addr)} {s : Shared} {S : List (Addr × Obj) → Prop} {Fin : List Value → List (Addr × Obj) → Prop} {news : List (Addr × Obj)}
theorem comp_numsG {its : Array Value}
    (turn : ∀ v I oI C oC D m₂ h tk (E' : Value → Shared → Prop), v ∈ its.toList → LCg.NsObj oC m₂ → m₂ x = some v → Fr h₀ L h m → News h₀ L h ((I, oI) :: (C, oC) :: (D, LCg.lst []) :: news) → LCg.Off3 I C D news → ((@Ne Nat I C) ∧ (@Ne Nat I D) ∧ (@Ne Nat C D)) →
      wpAny (model prog w) A (isTrue ct (compEnvC scope cl C env) (eval ct (compEnvC scope cl C env))) (fun b s' => if b = true then wpAny (model prog w) A (eval elt (compEnvC scope cl C env)) (LCg.CompEnd h₀ L m { s with heap := h, toks := tk } I oI C oC D (LCg.lst []) S (fun y news' => KCiEl news [] [] y news')) E' s'
        else LCg.CompEnd h₀ L m { s with heap := h, toks := tk } I oI C oC D (LCg.lst []) S (fun _ news' => KCiNo news [] [] news') Value.none s') E' { s with heap := h, toks := tk })
    (fin : Fin [] news) : ∀ k i, i + k = its.size → LCt.CompRestT prog w A h₀ L m env ct elt x scope cl s S (fun i v => its[i]? = some v) Fin k i [] news
  | 0, i, _ => LCt.CompRestT.zero fin
  | k + 1, i, e => LCt.CompRestT.succ (by
    intro v I oI C oC D m₂ h tk E' hv hC hx F N off ne
    refine wpAny_mono (turn v I oI C oC D m₂ h tk E' (Array.mem_toList_iff.mpr (Array.mem_of_getElem? hv)) hC hx F N off ne) (fun b s₂ hq => ?_) fun _ _ e => e
    cases b with
    | true =>
      simp only [if_true] at hq ⊢
      refine wpAny_mono hq (fun y s₃ hr => ?_) fun _ _ e => e
      obtain ⟨h', tk', nw, e, F', N', off', hS, hn, a, t', hy', hr'⟩ := hr
      simp at hr'
    | false =>
      simp only [Bool.false_eq_true, if_false] at hq ⊢
      obtain ⟨h', tk', nw, e', F', N', off', hS, hn, hr'⟩ := hq
      rw [hn] at N' off' hS
      exact ⟨h', tk', news, e', F', N', off', hS, comp_numsG turn fin k (i + 1) (by omega)⟩)
theorem comp_nums {r1 r2 r3 : Value} {o1 o2 o3 : Option Int} (x1 : NumIs r1 o1) (x2 : NumIs r2 o2) (x3 : NumIs r3 o3)
    (turnN : ∀ I oI C oC D m₂ h tk (E' : Value → Shared → Prop), LCg.NsObj oC m₂ → m₂ x = some .none → Fr h₀ L h m → News h₀ L h ((I, oI) :: (C, oC) :: (D, LCg.lst []) :: news) → LCg.Off3 I C D news → ((@Ne Nat I C) ∧ (@Ne Nat I D) ∧ (@Ne Nat C D)) →
      wpAny (model prog w) A (isTrue ct (compEnvC scope cl C env) (eval ct (compEnvC scope cl C env))) (fun b s' => if b = true then wpAny (model prog w) A (eval elt (compEnvC scope cl C env)) (LCg.CompEnd h₀ L m { s with heap := h, toks := tk } I oI C oC D (LCg.lst []) S (fun y news' => KCiEl news [] [] y news')) E' s'
        else LCg.CompEnd h₀ L m { s with heap := h, toks := tk } I oI C oC D (LCg.lst []) S (fun _ news' => KCiNo news [] [] news') Value.none s') E' { s with heap := h, toks := tk })
    (turnI : ∀ k t I oI C oC D m₂ h tk (E' : Value → Shared → Prop), LCg.NsObj oC m₂ → m₂ x = some (.int k t) → Fr h₀ L h m → News h₀ L h ((I, oI) :: (C, oC) :: (D, LCg.lst []) :: news) → LCg.Off3 I C D news → ((@Ne Nat I C) ∧ (@Ne Nat I D) ∧ (@Ne Nat C D)) →
      wpAny (model prog w) A (isTrue ct (compEnvC scope cl C env) (eval ct (compEnvC scope cl C env))) (fun b s' => if b = true then wpAny (model prog w) A (eval elt (compEnvC scope cl C env)) (LCg.CompEnd h₀ L m { s with heap := h, toks := tk } I oI C oC D (LCg.lst []) S (fun y news' => KCiEl news [] [] y news')) E' s'
        else LCg.CompEnd h₀ L m { s with heap := h, toks := tk } I oI C oC D (LCg.lst []) S (fun _ news' => KCiNo news [] [] news') Value.none s') E' { s with heap := h, toks := tk })
    (fin : Fin [] news) : LCt.CompRestT prog w A h₀ L m env ct elt x scope cl s S (fun i v => (List.toArray [r1, r2, r3])[i]? = some v) Fin (List.toArray [r1, r2, r3]).size 0 [] news := by
  refine comp_numsG (its := List.toArray [r1, r2, r3]) (fun v I oI C oC D m₂ h tk E' hv hC hx F N off ne => ?_) fin _ 0 (Nat.zero_add _)
  have num : ∃ o, NumIs v o := by
    have hv' : v = r1 ∨ v = r2 ∨ v = r3 := by simpa using hv
    rcases hv' with rfl | rfl | rfl
    · exact ⟨_, x1⟩
    · exact ⟨_, x2⟩
    · exact ⟨_, x3⟩
  obtain ⟨o, ho⟩ := num
  cases o with
  | none => cases ho; exact turnN I oI C oC D m₂ h tk E' hC hx F N off ne
  | some k => obtain ⟨t, rfl⟩ := ho; exact turnI k t I oI C oC D m₂ h tk E' hC hx F N off ne
end
theorem turn_end {h₀ : Heap} {L : Addr} {x : PySem.Str} {stored : List PySem.Str} {m₀ : PySem.Str → Option Value} {b l cw cb : Addr} {ob : Obj} {e : Addr × Obj} {s₁ : Shared} {Q : Flow → Shared → Prop} {h' : Heap} {tk' : Nat} {m' : PySem.Str → Option Value} {news : List (Addr × Obj)} {X : Int} {t : Tok} {vs : List Value} {ns : List Int} {k : Nat} {ow : Obj} {wv : Option Value}
    (F : Fr h₀ L h' m') (N : News h₀ L h' news) (m1 : (b, listOf (List.toArray [.ref l, .int X t]) 0) ∈ news) (m2 : (l, listOf (List.toArray vs) k) ∈ news) (m3 : (cw, ow) ∈ news) (m4 : (cb, ob) ∈ news) (m5 : e ∈ news)
    (hi : IntsAre vs ns) (hz : vs.length ≤ 24) (hx : 0 ≤ X) (hx1 : X < 2 ^ 89) (hw : ow.data = Data.cell wv) (hr : ∀ z, z ≠ x → stored.contains z = false → m' z = m₀ z) :
    TurnPost h₀ L x stored m₀ b l cw cb ob e s₁ Q .next { s₁ with heap := h', toks := tk' } :=
  ⟨h', tk', m', news, X, t, vs, ns, k, ow, wv, rfl, F, N, m5, m1, m2, m3, m4, hi, hz, hx, hx1, hw, hr⟩
theorem allNe_lt {d : Addr} {l : List (Addr × Obj)} (h : ∀ p ∈ l, p.1 < d) : AllNe d l := allNe_of fun p hp e => by
  have := h p hp
  rw [e] at this
  exact Nat.lt_irrefl _ this
theorem lim_use {wd : Int} {t : Tok} {w : World} {mean : ExcName → Option Value} {mg mb : PySem.Str → Option Value} {cn : PySem.Str} {cs : Scope} {a : Addr} {ccd : Value} {cl : List (PySem.Str × Addr)} {h₀ : Heap} {L : Addr} {m : PySem.Str → Option Value} {s : Shared} {all : List (Addr × Obj)} {Q E : Value → Shared → Prop} {kw : List (PySem.Str × Value)}
    (hkw : kw = [(PySem.Str.ofString "width", .int wd t)]) (B : Below callerA h₀ [] h₀) (F : Fr h₀ L s.heap m) (X : (hd.heap_39 w.params).In h₀) (N : News h₀ L s.heap all) (T : Top hd.view_39 (looseW hd.view_39 []) mean mg mb h₀) (hk : cs.kind = .function)
    (ret : ∀ lx dx h' tk' es n t', Fr h₀ L h' m → News h₀ L h' ((lx, instObj 53 dx) :: (dx, dictOf es n) :: all) → AllNe dx all → AllNe lx all → @Ne Nat lx dx → getL (PySem.Str.ofString "width") es = some (some (.int wd t')) → Q (.ref lx) { s with heap := h', toks := tk' }) :
    wpAny (model Challenge.rw_nt0632_01.row.prog w) (callerA.deeper (envX cn cs L a ccd cl)) (call (.ref 53) [] kw) Q E s := by
  subst hkw
  refine lim_spec wd t w mean mg mb cn cs a ccd cl h₀ L m s all Q E B F X N T hk fun lx dx h' tk' es n t' F' N' l1 l2 g => ret lx dx h' tk' es n t' F' N' (allNe_lt l1) (allNe_lt fun p hp => Nat.lt_trans (l1 p hp) l2) (Nat.ne_of_gt l2) g
theorem restP_own {prog : Program} {w : World} {A : Around} {s : Shared} {h₀ : Heap} {L : Addr} {m : PySem.Str → Option Value} {env : Env} {elt : PySem.Expr} {x x₂ : PySem.Str} {scope : Scope} {cl : List (PySem.Str × Addr)} {S : List (Addr × Obj) → Prop} {P : Nat → Value → Prop} {Fin : List Value → List (Addr × Obj) → Prop} {k i : Nat} {ys : List Value} {news : List (Addr × Obj)}
    {t : Addr} {ot : Obj} {v₁ v₂ : Value} {nt : Nat} (hv : ∀ v, P i v → v = .ref t) (hm : (t, ot) ∈ news) (hc : ot.cls = .type "tuple") (hd : ot.data = .seq #[v₁, v₂] nt)
    (h : ∀ I oI C oC D m₂ h tk (E' : Value → Shared → Prop), LCg.NsObj oC m₂ → m₂ x = some v₁ → m₂ x₂ = some v₂ → Fr h₀ L h m → News h₀ L h ((I, oI) :: (C, oC) :: (D, LCg.lst ys) :: news) → LCg.Off3 I C D news → ((@Ne Nat I C) ∧ (@Ne Nat I D) ∧ (@Ne Nat C D)) →
      wpAny (model prog w) A (eval elt (compEnvC scope cl C env)) (LCg.CompEnd h₀ L m { s with heap := h, toks := tk } I oI C oC D (LCg.lst ys) S (fun y news' => LCp.CompRestP prog w A h₀ L m env elt x x₂ scope cl s S P Fin k (i + 1) (ys ++ [y]) news')) E' { s with heap := h, toks := tk }) : LCp.CompRestP prog w A h₀ L m env elt x x₂ scope cl s S P Fin (k + 1) i ys news :=
  LCp.CompRestP.succ fun v hp => ⟨t, ot, v₁, v₂, nt, hv v hp, hm, hc, hd, h⟩
end
section
local macro_rules | `(tactic| walk_at "TIDY") => `(tactic| with_reducible ((repeat (rename (And _ _) => x9; have y9 := And.left x9; have z9 := And.right x9; clear x9)); (repeat (rename (@Ne Nat _ _) => x9; have y9 := Apart.of x9; clear x9))))
local macro_rules | `(tactic| k_ne) => `(tactic| (refine neN ?_; (try dsimp only); first | exact Apart.ne (by with_reducible assumption) | exact Ne.symm (Apart.ne (by with_reducible assumption)) | omega))
local macro_rules | `(tactic| walk_at "ALLN") => `(tactic| first | exact List.forall_mem_nil _ | (refine' List.forall_mem_cons.mpr ⟨?a, ?b⟩; (case a => k_ne); (case b => walk_at "ALLN")))
local macro_rules | `(tactic| walk_at "CompRest") => `(tactic| ((with_unfolding_all first | (refine LCg.CompRest.succ ?_; intro v' I' oI' C' oC' D' m' h' tk' E' hv' hC' hx' F' N' off' ne'; (first | lcg_open hv' | (obtain ⟨t9', hv9'⟩ := hv'; subst hv9')); (try simp only [LCg.Off3, and_true] at off')) | refine LCg.CompRest.zero ?_); walk_at "TIDY"))
local macro_rules | `(tactic| walk_at "CompRestP") => `(tactic| ((with_unfolding_all first | (refine' restP_own ?hv ?hm ?hc ?hd ?_; (case hv => (intro v' hv'; lcg_open hv'; exact rfl)); (case hm => k_mem); (case hc => rfl); (case hd => rfl); k_whole; intro I' oI' C' oC' D' m' h' tk' E' hC' hx' hy' F' N' off' ne'; (try simp only [LCg.Off3, and_true] at off')) | refine LCp.CompRestP.zero ?_); walk_at "TIDY"))
local macro_rules | `(tactic| walk_at "FinA") => `(tactic| ((unfold LCg.FinA); intro D' h' tk' F' N' o1'; (try simp only [LCg.Off1, and_true] at o1'); (try simp only [List.nil_append, List.cons_append] at N'); (try dsimp only); walk_at "TIDY"))
local macro_rules | `(tactic| walk_at "FinE") => `(tactic| ((unfold LCg.FinE); intro D' h' tk' F' N' o1'; (try simp only [LCg.Off1, and_true] at o1'); (try simp only [List.nil_append, List.cons_append] at N'); (try dsimp only); walk_at "TIDY"))
local macro_rules | `(tactic| walk_at "call ref") => `(tactic| (k_here; (with_reducible show wpAny _ _ (call (Value.ref 160) _) _ _ _); k_dflt (refine' useC0 (take_spec _ _ _ _ _ _ _ _ _ _ ?pi ?pz ?pb ?px ?px1 ?p1 ?p2) ?u1 ?u2 ?u3 ?u4 ?d1 ?d2 ?u5 ?u6 ?u7 ?u8 ?_; (case u1 => k_asm); (case u2 => k_asm); (case u3 => k_asm); (case u4 => k_asm); (case u5 => k_asm); (case u6 => first | exact rfl | assumption); (case u7 => ktr_room); (case u8 => ktr_units); (case pi => assumption); (case pz => assumption); (case pb => first | assumption | omega); (case px => assumption); (case px1 => assumption); (case p1 => first | omega | exact kbt_pos _); (case p2 => first | omega | exact pow_le64 (by omega)); (case d1 => walk_at "ALLN"); (case d2 => walk_at "ALLN"); k_whole); intro r9 h9 tk9 nn9 F9 N9 D9 P9; clear D9; revert N9; k_dflt (apply take_elim P9); clear P9; clear r9 nn9; intro x9 t9 vs9 ns9 k9 z9 tz9 x9a x9b i9 l9 z9a z9b N9; (try dsimp only [List.cons_append, List.nil_append] at N9); (try dsimp only); (try k_fold)))
local macro_rules | `(tactic| walk_at "call ref") => `(tactic| (k_here; (with_reducible show wpAny _ _ (call (Value.ref 174) _) _ _ _); k_dflt (refine' useC3 (number_spec _ _ _ _ _ _ _ _ _ _ ?pi ?pz ?pb ?px ?px1 ?p1 ?p2) ?u1 ?u2 ?u3 ?u4 ?d1 ?d2 ?u5 ?u6 ?u7 ?u8 ?_; (case u1 => k_asm); (case u2 => k_asm); (case u3 => k_asm); (case u4 => k_asm); (case u5 => k_asm); (case u6 => first | exact rfl | assumption); (case u7 => ktr_room); (case u8 => ktr_units); (case pi => assumption); (case pz => assumption); (case pb => first | assumption | omega); (case px => assumption); (case px1 => assumption); (case p1 => first | assumption | omega); (case p2 => first | assumption | omega); (case d1 => walk_at "ALLN"); (case d2 => walk_at "ALLN"); k_whole); intro r9 h9 tk9 nn9 F9 N9 D9 P9; clear D9; revert N9; k_dflt (apply num_elim P9); clear P9; clear r9 nn9; intro x9 t9 vs9 ns9 k9 y9 ty9 x9a x9b i9 l9 N9; (try dsimp only [List.cons_append, List.nil_append] at N9); (try dsimp only); (try k_fold)))
local macro_rules | `(tactic| walk_at "call ref") => `(tactic| (k_here; (with_reducible show wpAny _ _ (call (Value.ref 214) _) _ _ _); k_dflt (refine' useV (right_specW _ _ _ _ _ _ _ _ ?p1 ?p2) ?u1 ?u2 ?u3 ?u4 ?u5 ?u6 ?u7 ?u8 ?_; (case u1 => k_asm); (case u2 => k_asm); (case u3 => k_asm); (case u4 => k_asm); (case u5 => k_asm); (case u6 => first | exact rfl | assumption); (case u7 => ktr_room); (case u8 => ktr_units); (case p1 => first | assumption | omega); (case p2 => first | assumption | omega); k_whole); intro h9 tk9 F9 N9; (try dsimp only); (try k_fold)))
local macro_rules | `(tactic| walk_at "call ref") => `(tactic| (k_here; (with_reducible show wpAny _ _ (call (Value.ref 188) _) _ _ _); k_dflt (refine' useC4 (value_specW _ _ _ _ _ _ _ _ _ _ _ _ ?pi ?pz ?pb ?px ?px1 ?p1 ?p2) ?u1 ?u2 ?u3 ?u4 ?d1 ?d2 ?u5 ?u6 ?u7 ?u8 ?_; (case u1 => k_asm); (case u2 => k_asm); (case u3 => k_asm); (case u4 => k_asm); (case u5 => k_asm); (case u6 => first | exact rfl | assumption); (case u7 => ktr_room); (case u8 => ktr_units); (case pi => assumption); (case pz => assumption); (case pb => first | assumption | omega); (case px => assumption); (case px1 => assumption); (case p1 => first | assumption | omega); (case p2 => first | assumption | omega); (case d1 => walk_at "ALLN"); (case d2 => walk_at "ALLN"); k_whole); intro r9 h9 tk9 nn9 F9 N9 D9 P9; revert N9 D9; k_dflt (apply val_elim P9); clear P9; clear r9 nn9; intro x9 t9 vs9 ns9 k9 a9 v9 u9 n9 o9 x9a x9b i9 l9 ne9 nf9 nu9 tn9 N9 D9; (have l8 := D9 _ (List.Mem.head _)); clear D9; (try simp only [AllNe, and_true] at l8); walk_at "TIDY"; (try dsimp only [List.cons_append, List.nil_append] at N9); (try dsimp only); (try k_fold)))
local macro_rules | `(tactic| walk_at "call ref") => `(tactic| (k_here; (with_reducible show wpAny _ _ (call (Value.ref 53) _ _) _ _ _); k_dflt (refine' lim_use ?kw ?u1 ?u2 ?u3 ?u4 ?u5 ?u6 ?_; (case kw => exact rfl); (case u1 => k_asm); (case u2 => k_asm); (case u3 => k_asm); (case u4 => k_asm); (case u5 => k_asm); (case u6 => exact rfl); k_whole); intro lx9 dx9 h9 tk9 es9 n9 t9 F9 N9 l7 l8 l9 g9; (try simp only [AllNe, and_true] at l7 l8); walk_at "TIDY"; (try dsimp only); (try k_fold)))
local macro_rules | `(tactic| walk_at "call ref") => `(tactic| (k_here; (with_reducible show wpAny _ _ (call (Value.ref 125) _) _ _ _); k_dflt (refine' useAdd (loopn_spec _ _ _ _ _ _ _ _ _ _ _ _ _ _ ?v1 ?v2 ?v3 ?p1 ?p2 ?he ?n1 ?n2 ?n3) ?u1 ?u2 ?u3 ?u4 ?u5 ?u6 ?u7 ?u8 ?hm ?_; (case u1 => k_asm); (case u2 => k_asm); (case u3 => k_asm); (case u4 => k_asm); (case u5 => k_asm); (case u6 => first | exact rfl | assumption); (case u7 => ktr_room); (case u8 => ktr_units); (case hm => walk_at "LEDALL"); (case v1 => assumption); (case v2 => assumption); (case v3 => assumption); (case he => assumption); (case p1 => omega); (case p2 => omega); (case n1 => k_ne); (case n2 => k_ne); (case n3 => k_ne); k_whole); intro r9 x9 h9 tk9 F9 N9 l9 P9; k_dflt (obtain ⟨x9a, x9o⟩ := x9); k_dflt (obtain ⟨r1, r2, r3, n9, e9, f9, q1, q2, q3⟩ := P9); (try dsimp only at e9 f9 N9 l9); subst e9; subst f9; (try simp only [AllNe, and_true] at l9); walk_at "TIDY"; (try dsimp only); (try k_fold)))
local macro_rules | `(tactic| walk_at "call ref") => `(tactic| (k_here; (with_reducible show wpAny _ _ (call (Value.ref 132) _) _ _ _); k_dflt (refine' useKeep (wrong_spec _ _ _ _ _ _ _ _ ?v1 ?v2 ?v3) ?u1 ?u2 ?u3 ?u4 ?u5 ?u6 ?u7 ?u8 ?hm ?_; (case u1 => k_asm); (case u2 => k_asm); (case u3 => k_asm); (case u4 => k_asm); (case u5 => k_asm); (case u6 => first | exact rfl | assumption); (case u7 => ktr_room); (case u8 => ktr_units); (case hm => walk_at "LEDALL"); (case v1 => assumption); (case v2 => assumption); (case v3 => assumption); k_whole); intro r9 h9 tk9 F9 N9 P9; k_dflt (obtain ⟨t9, e9⟩ := P9); subst e9; (try dsimp only); (try k_fold)))
local macro_rules | `(tactic| walk_at "compareOp NotEq ref ref") => `(tactic| (k_here; (with_reducible show wpAny _ _ (compareOp CmpOp.NotEq (Value.ref _) (Value.ref _)) _ _ _); k_dflt (refine' ne_opts ?N ?a ?b ?v1 ?v2 ?v3 ?w1 ?w2 ?w3 ?u ?_; (case N => k_asm); (case a => k_memK); (case b => k_memK); (case v1 => with_reducible assumption); (case v2 => with_reducible assumption); (case v3 => with_reducible assumption); (case w1 => with_reducible assumption); (case w2 => with_reducible assumption); (case w3 => with_reducible assumption); (case u => first | ktr_units | units_room); k_whole)))
local macro_rules | `(tactic| walk_at "compareOp In none ref") => `(tactic| (k_here; k_dflt (refine' in_opts ?N ?a ?v1 ?v2 ?v3 ?u ?_; (case N => k_asm); (case a => k_memK); (case v1 => with_reducible assumption); (case v2 => with_reducible assumption); (case v3 => with_reducible assumption); (case u => first | ktr_units | units_room); k_whole)))
local macro_rules | `(tactic| walk_at "call builtin:list.index") => `(tactic| (k_here; k_dflt (refine' index_opts ?N ?a ?v1 ?v2 ?v3 ?u ?hn ?_; (case N => k_asm); (case a => k_memK); (case v1 => with_reducible assumption); (case v2 => with_reducible assumption); (case v3 => with_reducible assumption); (case u => first | ktr_units | units_room); (case hn => with_reducible assumption); k_whole)))
local macro_rules | `(tactic| walk_at "eval ListComp") => `(tactic| (k_here; lct_look; k_dflt (refine LCt.ListComp_T (F₀ := by k_asm) (by with_unfolding_all rfl) (by decide) (by rfl) (by decide) (by rfl) ?_)))
local macro_rules | `(tactic| walk_at "CompSrcT") => `(tactic| (k_here; k_dflt (refine LCt.CompSrcT.ledger (by rfl) (by k_asm) (by k_asm) (by k_mem) (by exact Nat.le_of_ble_eq_true rfl) ?_; intro g'; (refine' comp_nums ?v1 ?v2 ?v3 (fun I' oI' C' oC' D' m' h' tk' E' hC' hx' F' N' off' ne' => ?_) (fun k' t' I' oI' C' oC' D' m' h' tk' E' hC' hx' F' N' off' ne' => ?_) ?_; (case v1 => with_reducible assumption); (case v2 => with_reducible assumption); (case v3 => with_reducible assumption)); (all_goals (try (simp only [LCg.Off3, and_true] at off'))); (all_goals walk_at "TIDY"); kcf_last)))
theorem len24 {vs : List Value} {ns : List Int} (h : IntsAre vs (List.take 24 ns)) : vs.length ≤ 24 := by
  rw [h.length, List.length_take]
  omega
local macro_rules | `(tactic| walk_at "exec For Name Call cons nil") => `(tactic| (k_here; (rename Fr _ _ _ _ => lF'); (with_unfolding_all refine' For_invVF lF' ?k1 ?k2 ?_; (case k1 => exact rfl); (case k2 => exact rfl); k_whole)))
local macro_rules | `(tactic| walk_at "pyIter ref") => `(tactic| k_dflt (k_extra "pyIter ref"))
local macro_rules | `(tactic| walk_at "InvEndN") => `(tactic| k_dflt (k_extra "InvEndN"))
local macro_rules | `(tactic| walk_at "exec Assign cons ListComp") => `(tactic| (k_here; k_dflt (refine LCg.Assign_ListComp_U (F₀ := by k_asm) (by rfl) (by with_unfolding_all rfl) (by rfl) (by decide) (by rfl) (by decide) (by rfl) (by rfl) (by rfl) ?_)))
local macro_rules | `(tactic| walk_at "exec Assign cons ListComp") => `(tactic| (k_here; lcp_look; k_dflt (refine LCp.Assign_ListComp_P (F₀ := by k_asm) (by rfl) (by with_unfolding_all rfl) (by with_unfolding_all rfl) (by decide) (by rfl) (by decide) (by rfl) (by rfl) (by decide) (by rfl) (by rfl) ?_); k_dflt lcp_toSrc))
local macro_rules | `(tactic| walk_at "CompSrc") => `(tactic| (k_here; k_dflt (first
  | (refine LCg.CompSrc.range (by rfl) (by k_asm) (by k_asm) (by assumption) (by first | decide | rfl) (by first | rfl | decide) (by exact Nat.le_of_ble_eq_true rfl) ?_; intro g'; lcg_lit)
  | (refine LCg.CompSrc.ledger (by rfl) (by k_asm) (by k_asm) (by k_mem) (by exact Nat.le_of_ble_eq_true rfl) ?_; intro g'; lcg_lit))))
local macro_rules | `(tactic| walk_at "SAME") => `(tactic| (intro z h1 h3; first | rfl | ((have h4 := h3); (simp only [List.contains_cons, List.contains_nil, Bool.or_false, Bool.or_eq_false_iff, beq_eq_false_iff_ne, ne_eq] at h4); (try simp only [h3, Bool.false_eq_true, if_false]); first | done | (simp [h1, h4]; done))))
set_option maxRecDepth 100000 in
set_option maxHeartbeats 16000000 in
theorem top_law : PySem.Challenge.rw_nt0632_01.Holds := by
  w_top off
  k_with_none
  refine hd ?_
  k_go0
  all_goals try k_fold
  k_with "state" => first | exact fm89 _ | exact ⟨by decide, by decide⟩
  k_with "pyIter ref" => (k_of "one" => k_state (fun pre p => 0 ≤ p ∧ p < 2 ^ 89) "mixed")
  iterate 48 (all_goals (try (first | (k_unfold; (try dsimp only)) | walk1 | (dsimp only; walk1))))
  k_with "pyIter ref" => ((rename Fr _ _ _ _ => lF'); (rename News _ _ _ _ => lN'); (rename IsRange _ _ _ _ _ _ _ _ => rgX); (with_unfolding_all refine' turn_loop [Str.ofString "three", Str.ofString "some", Str.ofString "told", Str.ofString "due"] (by rfl) rgX lF' lN' ?nb ?nl ?nw ?nc ?hi ?hz ?hx ?hx1 ?hw ?_ ?_); (case nb => k_memK); (case nl => k_memK); (case nw => exact .tail _ (.tail _ (.tail _ (.tail _ (.head _))))); (case nc => exact .tail _ (.tail _ (.tail _ (.tail _ (.tail _ (.head _)))))); (case hi => assumption); (case hz => exact len24 (by assumption)); (case hx => assumption); (case hx1 => assumption); (case hw => assumption); (all_goals clear lF' lN' rgX); (all_goals first
      | (intro I hn X t vs ns k ow wv oI i ti u h tk hi hz hx hx1 hw F' N'; walk_at "TIDY")
      | (intro u h tk F' N')); (all_goals try k_fold))
  k_steps
  all_goals (try first
    | (exfalso; contradiction)
    | exact absurd (place_no (by assumption)) (by assumption)
    | exact kci_no rfl rfl
    | (refine' turn_end ?F ?N ?m1 ?m2 ?m3 ?m4 ?m5 ?hi ?hz ?hx ?hx1 ?hw ?hr; (case F => k_asm); (case N => k_asm); (case m1 => k_memK); (case m2 => k_memK); (case m3 => k_memK); (case m4 => k_memK); (case m5 => k_memK); (case hi => assumption); (case hz => assumption); (case hx => assumption); (case hx1 => assumption); (case hw => assumption); (case hr => walk_at "SAME")))
end
end Mine
theorem PySem.Challenge.cw_nt0632_01_holds : PySem.Challenge.rw_nt0632_01.Holds :=
  Mine.top_law
