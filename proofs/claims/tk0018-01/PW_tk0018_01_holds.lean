import PyProof.Rows.All
import Wide.All
import OpenK.AllK
import Wide.FinOn
import Lean
import PySem.Challenge.RW_tk0018_01
open PySem PySem.W PyProof.Rows
set_option Elab.async false
set_option maxRecDepth 100000
set_option maxHeartbeats 8000000
namespace Mine
open_top hd for PySem.Challenge.rw_tk0018_01
open PySem.Spec PySem.Calls

abbrev AR (dp un : Nat) (fr : Option (List Env)) (gd : Option (List Code)) : Around := { handled := none, depth := dp, frames := fr, guards := gd, units := un }

/-- the call of f upon vs from state s ends, keeps all that stands, and hands back v with P -/
def Spec (w : World) (f : Addr) (vs : List Value) (need : Nat) (s : Shared) (P : Heap → Value → Prop) : Prop :=
  ∀ (dp un : Nat) (fr : Option (List Env)) (gd : Option (List Code)) (Q E : Value → Shared → Prop), dp + need < recursionLimit → un + 8 * need + 100 < cLine →
    (∀ v h' tk', s.heap.StaysIn h' → P h' v → Q v { s with heap := h', toks := tk' }) →
    wpAny (model PySem.Challenge.rw_tk0018_01.prog w) (AR dp un fr gd) (call (.ref f) vs) Q E s

theorem enter {prog : Program} {w : World} {A : Around} {s : Shared} {K : Frag} {p : Program} {loose : List Str} {mean : ExcName → Option Value} {mg mb : Str → Option Value} {Q E : Value → Shared → Prop}
    {name qual : Str} {params : Arguments} {body : List Stmt} {scope : Scope} {dV kV doc pm cdv ct oc : Value} {an od : Option Addr} {osl : Array (Option Value)} {f : Addr} {vals : List Value} {binds : List (Str × Value)}
    (X : K.In s.heap) (T : Top p loose mean mg mb s.heap)
    (ho : K.lookup f = some ⟨oc, od, .func (fnOf name qual params body scope dV kV doc pm an cdv ct), osl⟩) (hcd : codeIn K cdv qual = true) (hroom : A.depth < recursionLimit)
    (hbind : BindsTo s (fnOf name qual params body scope dV kV doc pm an cdv ct) ⟨vals, []⟩ binds) (hloc : ∀ y ∈ binds, scope.names.lookup y.1 = some .local)
    (hco : scope.isCoroutine = false) (hgen : scope.isGenerator = false) (hk : scope.kind = .function)
    (hcell : ∀ x ∈ scope.names, x.2 ≠ .cell)
    (h : ∀ g L' h₁, g = s.heap → Fr g L' h₁ (fun y => binds.reverse.lookup y) → News g L' h₁ [] → K.In g → Top p loose mean mg mb g →
      wpAny (model prog w) (A.deeper (envOf qual scope L' f cdv)) (execs body (envOf qual scope L' f cdv))
        (fun fl s' => Q (match fl with | .ret v => v | _ => .none) s') (fun _ _ => False)
        { s with heap := h₁, toks := s.toks + binds.length }) :
    wpAny (model prog w) A (call (.ref f) vals) Q E s := by
  refine wpAny_call ?_
  refine codeAny_call_def (fd := fnOf name qual params body scope dV kV doc pm an cdv ct) (body := body) (binds := binds) hroom (X _ _ ho) rfl T.nolimit (codeRec_of X hcd) rfl hbind hcell hloc (fun h₁ hns hk₁ => ?_) hco hgen hk
  exact wpAny_mono (h s.heap s.heap.objs.size h₁ rfl ⟨hns, hk₁, Nat.le_refl _⟩ News.nil X T) (fun _ _ x => x) fun _ _ x => x.elim

theorem enterC {prog : Program} {w : World} {A : Around} {s : Shared} {K : Frag} {p : Program} {loose : List Str} {mean : ExcName → Option Value} {mg mb : Str → Option Value} {Q E : Value → Shared → Prop}
    {name qual : Str} {params : Arguments} {body : List Stmt} {scope : Scope} {dV kV doc pm cdv ct oc : Value} {an od : Option Addr} {osl : Array (Option Value)} {f : Addr} {vals : List Value} {binds : List (Str × Value)}
    (X : K.In s.heap) (T : Top p loose mean mg mb s.heap)
    (ho : K.lookup f = some ⟨oc, od, .func (fnOf name qual params body scope dV kV doc pm an cdv ct), osl⟩) (hcd : codeIn K cdv qual = true) (hroom : A.depth < recursionLimit)
    (hbind : BindsTo s (fnOf name qual params body scope dV kV doc pm an cdv ct) ⟨vals, []⟩ binds)
    (hkind : (binds.all fun y => scope.names.lookup y.1 == some .local || scope.names.lookup y.1 == some .cell) = true)
    (hnd : ((cellsFrom 0 scope.names []).map (·.1)).Nodup)
    (hco : scope.isCoroutine = false) (hgen : scope.isGenerator = false) (hk : scope.kind = .function)
    (h : ∀ g L' h₁ tk cells, g = s.heap → Fr g L' h₁ (bindL (envOfC qual scope L' f cdv).kindOf binds fun _ => none) → News g L' h₁ cells →
      CellsAre (bindC (envOfC qual scope L' f cdv).kindOf binds fun _ => none) (cellsFrom (L' + 1) scope.names []) cells → K.In g → Top p loose mean mg mb g →
      wpAny (model prog w) (A.deeper (envOfC qual scope L' f cdv)) (execs body (envOfC qual scope L' f cdv))
        (fun fl s' => Q (match fl with | .ret v => v | _ => .none) s') (fun _ _ => False)
        { s with heap := h₁, toks := tk }) :
    wpAny (model prog w) A (call (.ref f) vals) Q E s := by
  refine wpAny_call ?_
  refine codeAny_call_function hroom (X _ _ ho) rfl hco hgen rfl (codeRec_of X hcd) (hbind _ _ _ _ ?_)
  refine wpAny_newFunctionEnv_cells hk (kindsX hkind _) fun env' he s' x => ?_
  subst he
  refine ⟨T.nolimit.keeps x.toInCall.keep, codeAny_func ?_⟩
  obtain ⟨h₁, tk, rfl, _⟩ := x.done
  have hk₁ := x.toInCall.keep
  obtain ⟨cells, NC, Y⟩ := Cl.news (h₀ := s.heap) (Nat.le_refl _) fun n c hm => ⟨x.cell n c (lookup_of_mem_nodup (cellsFrom_names scope.names 0 (s.heap.objs.size + 1) [] [] rfl ▸ hnd) hm), x.above n c hm⟩
  exact wpAny_mono (h s.heap s.heap.objs.size h₁ tk cells rfl ⟨x.toInCall.ns, hk₁, Nat.le_refl _⟩ NC Y X T) (fun _ _ y => y) fun _ _ y => y.elim

/-- v is a fresh list that holds xs -/
def NewL (h h' : Heap) (v : Value) (xs : List Int) : Prop := ∃ b us n, v = .ref b ∧ h.get? b = none ∧ h'.get? b = some (W.listOf (List.toArray us) n) ∧ IntsAre us xs
theorem NewL.of {g h : Heap} {L b : Addr} {m : Str → Option Value} {news : List (Addr × Obj)} {us : List Value} {n : Nat} {xs ys : List Int} (_F : Fr g L h m) (N : News g L h news) (hm : (b, W.listOf (List.toArray us) n) ∈ news) (hi : IntsAre us xs) (e : xs = ys) : NewL g h (.ref b) ys :=
  ⟨b, us, n, rfl, (N _ hm).2.2, (N _ hm).1, e ▸ hi⟩

theorem use_list {w : World} {f : Addr} {vs : List Value} {need : Nat} {s : Shared} {xs : List Int} {dp un : Nat} {fr : Option (List Env)} {gd : Option (List Code)} {Q E : Value → Shared → Prop}
    {g : Heap} {L : Addr} {m : Str → Option Value} {news : List (Addr × Obj)}
    (F : Fr g L s.heap m) (N : News g L s.heap news)
    (sp : Spec w f vs need s (fun h' v => NewL s.heap h' v xs))
    (hd : dp + need < recursionLimit) (hu : un + 8 * need + 100 < cLine)
    (h : ∀ b us n h' tk', Fr g L h' m → News g L h' ((b, W.listOf (List.toArray us) n) :: news) → (∀ p ∈ news, @Ne Nat p.1 b) → IntsAre us xs → Q (.ref b) { s with heap := h', toks := tk' }) :
    wpAny (model PySem.Challenge.rw_tk0018_01.prog w) (AR dp un fr gd) (call (.ref f) vs) Q E s := by
  refine sp dp un fr gd Q E hd hu ?_
  rintro v h' tk' st ⟨b, us, n, rfl, hn, ho, hi⟩
  have hne : ∀ a o, s.heap.get? a = some o → a ≠ b := fun a o e q => by rw [q, hn] at e; cases e
  refine h b us n h' tk' ⟨F.ns.keeps st, fun b o e => st b o (F.keep b o e), F.above⟩ (fun p hp => ?_) (fun p hp => hne _ _ (N p hp).1) hi
  rcases List.mem_cons.mp hp with rfl | hp
  · refine ⟨ho, ?_, ?_⟩
    · obtain ⟨oL, _, _, hL, _⟩ := F.ns
      exact (hne _ _ hL).symm
    · cases q : g.get? b with
      | none => rfl
      | some o => rw [F.keep _ _ q] at hn; cases hn
  · exact ⟨st _ _ (N p hp).1, (N p hp).2⟩


local macro_rules | `(tactic| walk_at "Mine entered") => `(tactic| ((case kX | kT => assumption); (case k6 | k7 => k_is); (case k8 => ktr_room); (case k9 => exact BindsTo.of_eq rfl); (case kB => exact locs rfl); (case c2 | c3 | c4 => exact rfl); (case c5 => decide); intro g' L' h' e' F' N' X' T'; subst e'; (try dsimp only [List.reverse_cons, List.reverse_nil, List.nil_append, List.cons_append, List.length_cons, List.length_nil] at *); (try k_fold)))
local macro_rules | `(tactic| walk_at "Mine len") => `(tactic| first | assumption | omega | (split at * <;> omega) | ((try simp only [List.length_map, List.length_append, List.length_cons, List.length_nil, rangeKs_length, List.length_take, List.length_set, List.length_replicate] at *); first | omega | (split at * <;> omega)))
local macro_rules | `(tactic| walk_at "Mine enteredC") => `(tactic| ((case kX | kT => assumption); (case k6 | k7 => k_is); (case k8 => ktr_room); (case k9 => exact BindsTo.of_eq rfl); (case kB => exact rfl); (case kD => decide +kernel); (case c2 | c3 | c4 => exact rfl); intro g' L' h' tk' cells' e' F' N' Y' X' T'; subst e'; k_cells Y'; (try simp only [List.cons_append, List.nil_append] at N'); (try dsimp only); (try k_fold)))
local macro_rules | `(tactic| walk_at "Mine fld") => `(tactic| (intro z hz; (simp only [List.contains_cons, List.contains_nil, Bool.or_false, Bool.or_eq_false_iff, beq_eq_false_iff_ne, ne_eq] at hz); (simp [hz]; done)))
local macro_rules | `(tactic| walk_at "Mine steps") => `(tactic| repeat' (first | (k_unfold; (try dsimp only)) | (k_end; kc_close) | ((fail_if_success (with_reducible show wpAny _ _ (pyIter _) _ _ _)); (fail_if_success (with_reducible show wpAny _ _ (exec (Stmt.While _ _ _ _) _) _ _ _)); first | walk1 | (dsimp only; walk1) | (leave1; walk_say "STEP leave1"; (try dsimp only))) | fail "no step"))
local macro_rules | `(tactic| walk_at "Mine list") => `(tactic| first | (with_reducible assumption) | (refine' News.isList ?mlN ?mlh; (case mlN => k_asm); (case mlh => k_mem)) | assumption | exact Fr.lst (by assumption) (by assumption))
local macro_rules | `(tactic| walk_at "Mine call sides") => `(tactic| ((case mX => k_in); (case mT => (exact Top.keeps (by k_asm) (Fr.keep (by k_asm)))); (case mF => k_asm); (case mN => k_asm); (case md => ktr_room); (case mu => ktr_units)))
local macro_rules | `(tactic| walk_at "Mine all mem") => `(tactic| repeat (first | exact List.forall_mem_nil _ | (refine' List.forall_mem_cons.mpr ⟨?maM, ?_⟩; (case maM => k_mem))))
local macro_rules | `(tactic| walk_at "compareOp Eq ref ref") => `(tactic| (k_here; (with_reducible show wpAny _ _ (compareOp CmpOp.Eq (Value.ref _) (Value.ref _)) _ _ _); k_dflt (refine' ke_eq_ints ?mla ?mlb ?mia ?mib ?mul ?_); (case mla | mlb => walk_at "Mine list"); (case mia | mib => l_ints); (case mul => ktr_units)))
local macro_rules | `(tactic| walk_at "compareOp NotEq ref ref") => `(tactic| (k_here; (with_reducible show wpAny _ _ (compareOp CmpOp.NotEq (Value.ref _) (Value.ref _)) _ _ _); k_dflt (refine' ke_ne_ints ?mla ?mlb ?mia ?mib ?mul ?_); (case mla | mlb => walk_at "Mine list"); (case mia | mib => l_ints); (case mul => ktr_units)))
local macro_rules | `(tactic| walk_at "Mine ints") => `(tactic| first | (with_reducible assumption) | exact IntsAre.nil | (refine' IntsAre.cons _ _ ?mis; (case mis => walk_at "Mine ints")) | l_ints)

noncomputable def trimN (a : List Int) : Nat → Nat
  | 0 => 0
  | n + 1 => if a.getD n 0 = 0 then trimN a n else n + 1
noncomputable def trim (a : List Int) : List Int := a.take (trimN a a.length)

theorem trim_of {xs : List Int} {k : Int} (h1 : k ≤ xs.length) (h2 : min (xs.length : Int) 0 ≤ k)
    (h3 : ∀ j : Int, k < j → j ≤ xs.length → (if 0 < j then if (xs.getD (j - 1).toNat 0 == 0) = true then true else false else false) = true)
    (h4 : (if 0 < k then if (xs.getD (k - 1).toNat 0 == 0) = true then true else false else false) = false) : xs.take k.toNat = trim xs := by
  have h0 : 0 ≤ k := by omega
  have key : ∀ n : Nat, k.toNat ≤ n → n ≤ xs.length → trimN xs n = k.toNat := by
    intro n
    induction n with
    | zero => intro h _; show 0 = k.toNat; omega
    | succ n ih =>
      intro ha hb
      show (if xs.getD n 0 = 0 then trimN xs n else n + 1) = k.toNat
      rcases Nat.lt_or_ge k.toNat (n + 1) with hlt | hge
      · have h5 := h3 ((n : Int) + 1) (by omega) (by omega)
        rw [if_pos (by omega), show ((n : Int) + 1 - 1).toNat = n by omega] at h5
        have h6 : xs.getD n 0 = 0 := by
          by_cases q : xs.getD n 0 = 0
          · exact q
          · rw [if_neg (by simpa using q)] at h5; cases h5
        rw [if_pos h6]
        exact ih (by omega) (by omega)
      · have e : k = (n : Int) + 1 := by omega
        subst e
        rw [if_pos (by omega), show ((n : Int) + 1 - 1).toNat = n by omega] at h4
        have h6 : ¬ xs.getD n 0 = 0 := by
          intro q
          rw [if_pos (by simpa using q)] at h4; cases h4
        rw [if_neg h6]
        omega
  unfold trim
  rw [key xs.length (by omega) (Nat.le_refl _)]

theorem mtrim_spec (w : World) (loose : List Str) (mean : ExcName → Option Value) (mg mb : Str → Option Value) : ∀ (s : Shared) (a : Addr) (vs : List Value) (xs : List Int), (Mine.hd.heap_39 w.params).In s.heap → Top Mine.hd.view_39 loose mean mg mb s.heap →
    s.heap.IsList a vs.toArray → IntsAre vs xs → xs.length ≤ 1000 → Spec w 55 [.ref a] 1 s (fun h' v => NewL s.heap h' v (trim xs)) := by
  unfold Spec
  w_top off
  k_fill
  intro s a vs xs X T hl hi hf dp un fr gd Q E hd hu hret
  k_dflt (refine' enter (binds := [("a", .ref a)]) ?kX ?kT ?k6 ?k7 ?k8 ?k9 ?kB ?c2 ?c3 ?c4 ?c5 ?_)
  walk_at "Mine entered"
  k_steps
  refine hret _ _ _ (Fr.keep (by k_asm)) (NewL.of (by k_asm) (by k_asm) (by k_mem) (by k_asm) ?_)
  exact trim_of (by assumption) (by assumption) (by assumption) (by assumption)

local macro_rules | `(tactic| walk_at "Mine called") => `(tactic| (walk_at "Mine call sides"; intro b' us' n' h' tk' F' N' l1 hI'; (try simp only [List.forall_mem_cons, List.forall_mem_nil, and_true] at l1); (try k_sweep); (try k_fold)))
local macro_rules | `(tactic| walk_at "call ref") => `(tactic| (k_here; (with_reducible show wpAny _ _ (PySem.call (Value.ref 55) _) _ _ _); k_dflt (refine' use_list ?mF ?mN (mtrim_spec _ _ _ _ _ _ _ _ _ ?mX ?mT ?ml ?mi ?mf) ?md ?mu ?_); (case ml => walk_at "Mine list"); (case mi => l_ints); (case mf => walk_at "Mine len"); walk_at "Mine called"))

noncomputable def addL (xs ys : List Int) (p : Int) : List Int := trim ((List.range (max xs.length ys.length)).map fun i => Int.fmod (xs.getD i 0 + ys.getD i 0) p)

theorem addL_of {f xs ys : List Int} {p : Int} (h : f = List.map (fun i : Int => (xs.getD i.toNat 0 + ys.getD i.toNat 0).fmod p) (rangeKs 0 ((if (ys.length : Int) > xs.length then (ys.length : Int) else xs.length) - 0).toNat)) : trim f = addL xs ys p := by
  have e : ((if (ys.length : Int) > xs.length then (ys.length : Int) else xs.length) - 0).toNat = max xs.length ys.length := by split <;> omega
  rw [h, e]
  unfold addL rangeKs
  rw [List.map_map]
  congr 1
  apply List.map_congr_left
  intro i _
  simp

theorem madd_spec (w : World) (loose : List Str) (mean : ExcName → Option Value) (mg mb : Str → Option Value) : ∀ (s : Shared) (a b : Addr) (t : Tok) (vs ws : List Value) (xs ys : List Int) (p : Int), (Mine.hd.heap_39 w.params).In s.heap → Top Mine.hd.view_39 loose mean mg mb s.heap →
    s.heap.IsList a vs.toArray → IntsAre vs xs → s.heap.IsList b ws.toArray → IntsAre ws ys → xs.length ≤ 100 → ys.length ≤ 100 → 0 < p → Spec w 69 [.ref a, .ref b, .int p t] 2 s (fun h' v => NewL s.heap h' v (addL xs ys p)) := by
  unfold Spec
  w_top off
  k_fill
  intro s a b t vs ws xs ys p X T hl hi hl2 hi2 hf hf2 hp dp un fr gd Q E hd hu hret
  k_dflt (refine' enter (binds := [("a", .ref a), ("b", .ref b), ("p", .int p t)]) ?kX ?kT ?k6 ?k7 ?k8 ?k9 ?kB ?c2 ?c3 ?c4 ?c5 ?_)
  walk_at "Mine entered"
  k_with "pyIter ref" => k_state (fun pre found => found = pre.map (fun i : Int => Int.fmod (xs.getD i.toNat 0 + ys.getD i.toNat 0) p) ∧ found.length = pre.length) "found"
  k_steps
  k_with_none
  refine hret _ _ _ (Fr.keep (by k_asm)) (NewL.of (by k_asm) (by k_asm) (by k_mem) (by k_asm) ?_)
  exact addL_of (by assumption)

noncomputable def scaleL (xs : List Int) (n p : Int) : List Int := trim (xs.map fun x => Int.fmod (x * n) p)

theorem mscale_spec (w : World) (loose : List Str) (mean : ExcName → Option Value) (mg mb : Str → Option Value) : ∀ (s : Shared) (a : Addr) (t u : Tok) (vs : List Value) (xs : List Int) (n p : Int), (Mine.hd.heap_39 w.params).In s.heap → Top Mine.hd.view_39 loose mean mg mb s.heap →
    s.heap.IsList a vs.toArray → IntsAre vs xs → xs.length ≤ 100 → -1000 ≤ n → n ≤ 1000 → 0 < p → Spec w 86 [.ref a, .int n t, .int p u] 2 s (fun h' v => NewL s.heap h' v (scaleL xs n p)) := by
  unfold Spec
  w_top off
  k_fill
  intro s a t u vs xs n p X T hl hi hf hn hn2 hp dp un fr gd Q E hd hu hret
  k_dflt (refine' enterC (binds := [("a", .ref a), ("number", .int n t), ("p", .int p u)]) ?kX ?kT ?k6 ?k7 ?k8 ?k9 ?kB ?kD ?c2 ?c3 ?c4 ?_)
  walk_at "Mine enteredC"
  k_steps
  refine hret _ _ _ (Fr.keep (by k_asm)) (NewL.of (by k_asm) (by k_asm) (by k_mem) (by k_asm) ?_)
  rfl

/-- the end of a turn of a loop that keeps one list of ints: the ledger's addresses stand, the frame differs from m in the names ks alone -/
def TEnd (h₀ : Heap) (L : Addr) (m : Str → Option Value) (ks : List Str) (Led : List Value → Nat → List (Addr × Obj)) (own : List (Addr × Obj)) (I : List Int → Prop) (s : Shared) (fl : Flow) (s₂ : Shared) : Prop :=
  fl = .next ∧ ∃ h' tk' m' nw us n f, s₂ = { s with heap := h', toks := tk' } ∧ Fr h₀ L h' m' ∧ News h₀ L h' nw ∧ (∀ p ∈ Led us n, p ∈ nw) ∧ (∀ p ∈ own, p ∈ nw) ∧ IntsAre us f ∧ I f ∧ ∀ z, ks.contains z = false → m' z = m z

theorem TEnd.intro {h₀ : Heap} {L : Addr} {m m' : Str → Option Value} {ks : List Str} {Led : List Value → Nat → List (Addr × Obj)} {own nw : List (Addr × Obj)} {I : List Int → Prop} {s : Shared} {h' : Heap} {tk' : Nat} {us : List Value} {n : Nat} {f : List Int}
    (F : Fr h₀ L h' m') (N : News h₀ L h' nw) (hi : IntsAre us f) (hl : ∀ p ∈ Led us n, p ∈ nw) (ho : ∀ p ∈ own, p ∈ nw) (hI : I f) (hm : ∀ z, ks.contains z = false → m' z = m z) :
    TEnd h₀ L m ks Led own I s .next { s with heap := h', toks := tk' } := ⟨rfl, h', tk', m', nw, us, n, f, rfl, F, N, hl, ho, hi, hI, hm⟩

theorem fld_fr {m m₁ : Str → Option Value} {ks : List Str} (hm : ∀ z, ks.contains z = false → m₁ z = m z) : m₁ = fun y => if ks.contains y = true then m₁ y else m y := by
  funext y
  cases h : ks.contains y with
  | true => simp
  | false => simp [hm y h]

section
variable {prog : Program} {w : World} {A : Around} {E : Value → Shared → Prop} {s : Shared} {env : Env} {h₀ : Heap} {m : Str → Option Value} {xi xc : Str} {body : List Stmt} {Q : Flow → Shared → Prop} {xv : Value} {xs : List Int}

theorem enum_loop (Led : List Value → Nat → List (Addr × Obj)) (hadr : ∀ us n us' n', (Led us n).map (·.1) = (Led us' n').map (·.1)) (ks : List Str) (I : Nat → List Int → Prop) {us₀ : List Value} {n₀ : Nat} {f₀ : List Int}
    {L : Addr} (S : PairSrcL prog w A E h₀ L ItemKind.int xs xv s m (Led us₀ n₀)) (hL : env.locals = L) (hi₀ : IntsAre us₀ f₀) (h0 : I 0 f₀)
    (turn : ∀ (i : Nat) (x : Int) (t t' : Tok) us n f (u : Str → Option Value) h tk own, xs[i]? = some x → IntsAre us f → I i f → OwnOff own ((Led us₀ n₀).map (·.1)) → KstMark →
      Fr h₀ L h (fun y => if y = xc then some (.int x t') else if y = xi then some (.int (i : Int) t) else if ks.contains y = true then u y else m y) → News h₀ L h (Led us n ++ own) →
      wpAny (model prog w) A (execs body env) (TEnd h₀ L m ks Led own (I (i + 1)) { s with heap := h, toks := tk }) E { s with heap := h, toks := tk })
    (done : ∀ us n f (u : Str → Option Value) h tk, IntsAre us f → I xs.length f → Fr h₀ L h (fun y => if ks.contains y = true then u y else m y) → News h₀ L h (Led us n) → Q .next { s with heap := h, toks := tk }) :
    wpAny (model prog w) A (pyIter xv) (fun it s₂ => PairAt3 prog w A h₀ env xi xc body Q E it s₂) E s := by
  subst hL
  refine S.at env rfl xi xc body Q (fun i m₁ nx => ∃ us n f, nx = Led us n ∧ IntsAre us f ∧ I i f ∧ ∀ z, ks.contains z = false → m₁ z = m z) ⟨us₀, n₀, f₀, rfl, hi₀, h0, fun _ _ => rfl⟩ ?_ ?_
  · rintro i x t v m₁ nx s₁ own ⟨h, tk, rfl⟩ hx ⟨t', rfl⟩ ⟨us, n, f, rfl, hi, hI, hm⟩ hadr' hoff F N
    have hoff' : OwnOff own ((Led us₀ n₀).map (·.1)) := by
      intro p hp b hb e
      obtain ⟨q, hq, rfl⟩ := List.mem_map.mp hb
      exact hoff p hp q hq e
    rw [fld_fr hm] at F
    refine wpAny_mono (turn i x t t' us n f m₁ h tk own hx hi hI hoff' kstMark F (fun p hp => N p ((List.mem_append.mp hp).elim (fun q => List.mem_append.mpr (.inr q)) fun q => List.mem_append.mpr (.inl q)))) (fun fl s₂ hT => ?_) fun _ _ e => e
    obtain ⟨rfl, h', tk', m', nw, us', n', f', rfl, F', N', hl, ho, hi', hI', hm'⟩ := hT
    exact ⟨rfl, h', tk', m', Led us' n', rfl, F', fun p hp => N' p ((List.mem_append.mp hp).elim (ho p) (hl p)), hadr _ _ _ _, us', n', f', rfl, hi', hI', hm'⟩
  · rintro h' tk m' nx F' N' _ ⟨us, n, f, rfl, hi, hI, hm⟩
    rw [fld_fr hm] at F'
    exact done us n f m' h' tk hi hI F' N'
end

/-- the end of a turn of a range's loop: what was made lies on the ledger nx, the iterator stands -/
def GEnd (h₀ : Heap) (L : Addr) (own : List (Addr × Obj)) (J : (Str → Option Value) → List (Addr × Obj) → Prop) (s : Shared) (fl : Flow) (s₂ : Shared) : Prop :=
  fl = .next ∧ ∃ h' tk' m' nw nx, s₂ = { s with heap := h', toks := tk' } ∧ Fr h₀ L h' m' ∧ News h₀ L h' nw ∧ (∀ p ∈ nx, p ∈ nw) ∧ (∀ p ∈ own, p ∈ nw) ∧ J m' nx
theorem GEnd.intro {h₀ : Heap} {L : Addr} {own nw nx : List (Addr × Obj)} {J : (Str → Option Value) → List (Addr × Obj) → Prop} {s : Shared} {h' : Heap} {tk' : Nat} {m' : Str → Option Value}
    (F : Fr h₀ L h' m') (N : News h₀ L h' nw) (hn : ∀ p ∈ nx, p ∈ nw) (ho : ∀ p ∈ own, p ∈ nw) (hJ : J m' nx) : GEnd h₀ L own J s .next { s with heap := h', toks := tk' } := ⟨rfl, h', tk', m', nw, nx, rfl, F, N, hn, ho, hJ⟩

def NoIter (nx : List (Addr × Obj)) : Prop := ∀ p ∈ nx, p.2.cls ≠ .type "range_iterator"

section
variable {prog : Program} {w : World} {A : Around} {E : Value → Shared → Prop} {s : Shared} {env : Env} {h₀ : Heap} {m : Str → Option Value} {x : Str} {body : List Stmt} {Q : Flow → Shared → Prop}

theorem range_loop (J : Nat → (Str → Option Value) → List (Addr × Obj) → Prop) {L : Addr} {r : Addr} {a₀ b₀ c₀ : Int} {t₀ u₀ v₀ : Tok} {n : Nat} {nx₀ : List (Addr × Obj)}
    (hr : IsRange s.heap r a₀ b₀ c₀ t₀ u₀ v₀) (hL : env.locals = L) (F : Fr h₀ L s.heap m) (N : News h₀ L s.heap nx₀) (hh : A.handled = none) (hsmall : Builtin.Range.small a₀ b₀ c₀ = true) (hn : Builtin.Range.rangeSize a₀ b₀ c₀ = (n : Int))
    (hJ : J 0 m nx₀) (hc : ∀ i m nx, J i m nx → NoIter nx)
    (turn : ∀ (i : Nat) (t : Tok) (m₁ : Str → Option Value) nx h tk own, i < n → J i m₁ nx → OwnOff own (nx.map (·.1)) → KstMark →
      Fr h₀ L h (fun y => if y = x then some (.int (a₀ + (i : Int) * c₀) t) else m₁ y) → News h₀ L h (nx ++ own) →
      wpAny (model prog w) A (execs body env) (GEnd h₀ L own (J (i + 1)) { s with heap := h, toks := tk }) E { s with heap := h, toks := tk })
    (done : ∀ (m₁ : Str → Option Value) nx h tk, J n m₁ nx → Fr h₀ L h m₁ → News h₀ L h nx → Q .next { s with heap := h, toks := tk }) :
    wpAny (model prog w) A (pyIter (.ref r)) (fun it s₂ => LoopAtV prog w A h₀ env x body Q E it s₂) E s := by
  subst hL
  refine wpAny_pyIter_range hr hsmall ?_
  have W : Walks prog w A s.heap.objs.size [s.heap.objs.size] [s.heap.objs.size] n (fun i v => i < n ∧ ∃ t, v = .int (a₀ + i * c₀) t)
      (fun i h => IsRangeIter h s.heap.objs.size (a₀ + (i : Nat) * c₀) ((n : Int) - (i : Nat)) c₀) := (Walks.range hh _ a₀ c₀ n).bound
  refine ⟨s.heap.objs.size, _, _, n, _, _, m, nx₀, J, rfl, W, ?_, ?_, ?_, (by show IsRangeIter _ _ _ _ _; rw [hn]; simpa using Heap.get?_push_size _ rfl), F.push _, (fun p hp => ⟨Heap.get?_push_of_some _ (N p hp).1, (N p hp).2⟩), hJ, ?_, ?_⟩
  · intro hm
    exact absurd F.ns.lt ((List.mem_singleton.mp hm) ▸ Nat.lt_irrefl _)
  · intro b hb
    rw [List.mem_singleton.mp hb]
    exact next_is_new F
  · intro p hp hI
    exact absurd (Heap.lt_size (N p hp).1) ((List.mem_singleton.mp hI) ▸ Nat.lt_irrefl _)
  · rintro i v m₁ nx s₁ own ⟨h, tk, rfl⟩ hi ⟨_, t, rfl⟩ hJ' hoff hof hget hall hst F₁ N₁
    have hoff' : OwnOff own (nx.map (·.1)) := by
      intro p hp b hb e
      obtain ⟨q, hq, rfl⟩ := List.mem_map.mp hb
      exact hoff q hq (e ▸ hof p hp)
    refine wpAny_mono (turn i t m₁ nx h tk own hi hJ' hoff' kstMark F₁ (fun p hp => N₁ p ((List.mem_append.mp hp).elim (fun q => List.mem_append.mpr (.inr q)) fun q => List.mem_append.mpr (.inl q)))) (fun fl s₂ hT => ?_) fun _ _ e => e
    obtain ⟨rfl, h', tk', m', nw, nx', rfl, F', N', hnx, ho, hJ2⟩ := hT
    refine ⟨rfl, h', tk', m', nx', rfl, F', (fun p hp => N' p ((List.mem_append.mp hp).elim (ho p) (hnx p))), (fun p hp hw => ?_), hJ2⟩
    have hI : p.1 = s.heap.objs.size := List.mem_singleton.mp hw
    have hIn : h₀.get? s.heap.objs.size = none := hI ▸ (N' p (hnx p hp)).2.2
    have hmem := hall s.heap.objs.size (List.mem_singleton.mpr rfl) hIn _ hst
    have h1 := (N' _ (ho _ hmem)).1
    have h2 := (N' p (hnx p hp)).1
    rw [hI] at h2
    rw [h2] at h1
    exact hc _ _ _ hJ2 p hp (by rw [Option.some.inj h1])
  · rintro h' tk m' nx' F' N' _ hJ2
    exact done m' nx' h' tk hJ2 F' N'
end

/-- as TEnd, with two lists of ints -/
def TEnd2 (h₀ : Heap) (L : Addr) (m : Str → Option Value) (ks : List Str) (Led : List Value → Nat → List Value → Nat → List (Addr × Obj)) (own : List (Addr × Obj)) (I : List Int → List Int → Prop) (s : Shared) (fl : Flow) (s₂ : Shared) : Prop :=
  fl = .next ∧ ∃ h' tk' m' nw us n f ws k g, s₂ = { s with heap := h', toks := tk' } ∧ Fr h₀ L h' m' ∧ News h₀ L h' nw ∧ (∀ p ∈ Led us n ws k, p ∈ nw) ∧ (∀ p ∈ own, p ∈ nw) ∧ IntsAre us f ∧ IntsAre ws g ∧ I f g ∧ ∀ z, ks.contains z = false → m' z = m z
theorem TEnd2.intro {h₀ : Heap} {L : Addr} {m m' : Str → Option Value} {ks : List Str} {Led : List Value → Nat → List Value → Nat → List (Addr × Obj)} {own nw : List (Addr × Obj)} {I : List Int → List Int → Prop} {s : Shared} {h' : Heap} {tk' : Nat} {us : List Value} {n : Nat} {f : List Int} {ws : List Value} {k : Nat} {g : List Int}
    (F : Fr h₀ L h' m') (N : News h₀ L h' nw) (hi : IntsAre us f) (hw : IntsAre ws g) (hl : ∀ p ∈ Led us n ws k, p ∈ nw) (ho : ∀ p ∈ own, p ∈ nw) (hI : I f g) (hm : ∀ z, ks.contains z = false → m' z = m z) :
    TEnd2 h₀ L m ks Led own I s .next { s with heap := h', toks := tk' } := ⟨rfl, h', tk', m', nw, us, n, f, ws, k, g, rfl, F, N, hl, ho, hi, hw, hI, hm⟩

section
variable {prog : Program} {w : World} {A : Around} {E : Value → Shared → Prop} {s : Shared} {env : Env} {h₀ : Heap} {m : Str → Option Value} {x : Str} {body : List Stmt} {Q : Flow → Shared → Prop}

theorem range_loop2 (Led : List Value → Nat → List Value → Nat → List (Addr × Obj)) (hcls : ∀ us n ws k, NoIter (Led us n ws k)) (ks : List Str) (I : Nat → List Int → List Int → Prop) {L : Addr} {r : Addr} {a₀ b₀ c₀ : Int} {t₀ u₀ v₀ : Tok} {N' : Nat} {us₀ ws₀ : List Value} {n₀ k₀ : Nat} {f₀ g₀ : List Int}
    (hr : IsRange s.heap r a₀ b₀ c₀ t₀ u₀ v₀) (hL : env.locals = L) (F : Fr h₀ L s.heap m) (N : News h₀ L s.heap (Led us₀ n₀ ws₀ k₀)) (hh : A.handled = none) (hsmall : Builtin.Range.small a₀ b₀ c₀ = true) (hn : Builtin.Range.rangeSize a₀ b₀ c₀ = (N' : Int))
    (hi₀ : IntsAre us₀ f₀) (hw₀ : IntsAre ws₀ g₀) (h0 : I 0 f₀ g₀)
    (turn : ∀ (i : Nat) (t : Tok) us n f ws k g (u : Str → Option Value) h tk own, i < N' → IntsAre us f → IntsAre ws g → I i f g → OwnOff own ((Led us n ws k).map (·.1)) → KstMark →
      Fr h₀ L h (fun y => if y = x then some (.int (a₀ + (i : Int) * c₀) t) else if ks.contains y = true then u y else m y) → News h₀ L h (Led us n ws k ++ own) →
      wpAny (model prog w) A (execs body env) (TEnd2 h₀ L m ks Led own (I (i + 1)) { s with heap := h, toks := tk }) E { s with heap := h, toks := tk })
    (done : ∀ us n f ws k g (u : Str → Option Value) h tk, IntsAre us f → IntsAre ws g → I N' f g → Fr h₀ L h (fun y => if ks.contains y = true then u y else m y) → News h₀ L h (Led us n ws k) → Q .next { s with heap := h, toks := tk }) :
    wpAny (model prog w) A (pyIter (.ref r)) (fun it s₂ => LoopAtV prog w A h₀ env x body Q E it s₂) E s := by
  refine range_loop (fun i m₁ nx => ∃ us n f ws k g, nx = Led us n ws k ∧ IntsAre us f ∧ IntsAre ws g ∧ I i f g ∧ ∀ z, ks.contains z = false → m₁ z = m z) hr hL F N hh hsmall hn ⟨us₀, n₀, f₀, ws₀, k₀, g₀, rfl, hi₀, hw₀, h0, fun _ _ => rfl⟩ ?_ ?_ ?_
  · rintro i m₁ nx ⟨us, n, f, ws, k, g, rfl, _⟩
    exact hcls us n ws k
  · rintro i t m₁ nx h tk own hi ⟨us, n, f, ws, k, g, rfl, hu, hw, hI, hm⟩ hoff hmk F₁ N₁
    rw [fld_fr hm] at F₁
    refine wpAny_mono (turn i t us n f ws k g m₁ h tk own hi hu hw hI hoff hmk F₁ N₁) (fun fl s₂ hT => ?_) fun _ _ e => e
    obtain ⟨rfl, h', tk', m', nw, us', n', f', ws', k', g', rfl, F', N', hl, ho, hu', hw', hI', hm'⟩ := hT
    exact ⟨rfl, h', tk', m', nw, Led us' n' ws' k', rfl, F', N', hl, ho, us', n', f', ws', k', g', rfl, hu', hw', hI', hm'⟩
  · rintro m₁ nx h tk ⟨us, n, f, ws, k, g, rfl, hu, hw, hI, hm⟩ F₁ N₁
    rw [fld_fr hm] at F₁
    exact done us n f ws k g m₁ h tk hu hw hI F₁ N₁
end

local macro_rules | `(tactic| walk_at "Mine noiter") => `(tactic| (unfold NoIter; repeat (first | exact List.forall_mem_nil _ | (refine List.forall_mem_cons.mpr ⟨by simp, ?_⟩))))

/-- found, upon which x times the rest of b is laid from place k on -/
noncomputable def mulRow (x p : Int) : List Int → Nat → List Int → List Int
  | [], _, f => f
  | y :: r, k, f => mulRow x p r (k + 1) (f.set k (Int.fmod (f.getD k 0 + x * y) p))
noncomputable def mulRows (ys : List Int) (p : Int) : List Int → Nat → List Int → List Int
  | [], _, f => f
  | x :: r, k, f => mulRows ys p r (k + 1) (if x = 0 then f else mulRow x p ys k f)
noncomputable def mulL (xs ys : List Int) (p : Int) : List Int := if xs.length = 0 ∨ ys.length = 0 then [] else trim (mulRows ys p xs 0 (List.replicate (xs.length + ys.length - 1) 0))

theorem mulRow_length {x p : Int} : ∀ (r : List Int) (k : Nat) (f : List Int), (mulRow x p r k f).length = f.length
  | [], _, _ => rfl
  | y :: r, k, f => by rw [mulRow, mulRow_length r]; exact List.length_set ..
theorem mulRow_snoc {x p y : Int} : ∀ (r : List Int) (k : Nat) (f : List Int), mulRow x p (r ++ [y]) k f = (mulRow x p r k f).set (k + r.length) (Int.fmod ((mulRow x p r k f).getD (k + r.length) 0 + x * y) p)
  | [], _, _ => rfl
  | z :: r, k, f => by
    rw [List.cons_append, mulRow, mulRow_snoc r, mulRow, List.length_cons]
    rw [show k + 1 + r.length = k + (r.length + 1) by omega]
theorem mulRows_snoc {ys : List Int} {x p : Int} : ∀ (r : List Int) (k : Nat) (f : List Int), mulRows ys p (r ++ [x]) k f = if x = 0 then mulRows ys p r k f else mulRow x p ys (k + r.length) (mulRows ys p r k f)
  | [], _, _ => rfl
  | z :: r, k, f => by
    rw [List.cons_append, mulRows, mulRows_snoc r, mulRows, List.length_cons]
    rw [show k + 1 + r.length = k + (r.length + 1) by omega]
theorem take_snoc {l : List Int} {i : Nat} {x : Int} (h : l[i]? = some x) : l.take (i + 1) = l.take i ++ [x] ∧ (l.take i).length = i ∧ i < l.length := by
  have hi : i < l.length := by
    rcases Nat.lt_or_ge i l.length with q | q
    · exact q
    · rw [List.getElem?_eq_none q] at h; cases h
  refine ⟨by simp [List.take_add_one, h], ?_, hi⟩
  rw [List.length_take]; omega
theorem mulRow_turn {x p y : Int} {ys f g : List Int} {i j n : Nat} (hy : ys[j]? = some y) (h : g = mulRow x p (ys.take j) i f ∧ g.length = n) :
    g.set ((i : Int) + (j : Int)).toNat (Int.fmod (g.getD ((i : Int) + (j : Int)).toNat 0 + x * y) p) = mulRow x p (ys.take (j + 1)) i f ∧
      (g.set ((i : Int) + (j : Int)).toNat (Int.fmod (g.getD ((i : Int) + (j : Int)).toNat 0 + x * y) p)).length = n := by
  obtain ⟨e, l, _⟩ := take_snoc hy
  refine ⟨?_, by rw [List.length_set]; exact h.2⟩
  rw [e, mulRow_snoc, l, ← h.1, show ((i : Int) + (j : Int)).toNat = i + j by omega]
theorem mulRows_turn {x p : Int} {xs ys f g : List Int} {i n : Nat} (hx : xs[i]? = some x) (h : g = mulRows ys p (xs.take i) 0 f ∧ g.length = n) :
    (x = 0 → g = mulRows ys p (xs.take (i + 1)) 0 f ∧ g.length = n) ∧ (x ≠ 0 → ∀ g', g' = mulRow x p (ys.take ys.length) i g ∧ g'.length = n → g' = mulRows ys p (xs.take (i + 1)) 0 f ∧ g'.length = n) := by
  obtain ⟨e, l, _⟩ := take_snoc hx
  rw [e, mulRows_snoc, l, ← h.1, Nat.zero_add]
  refine ⟨fun q => ⟨by rw [if_pos q], h.2⟩, fun q g' hg => ⟨?_, hg.2⟩⟩
  rw [if_neg q, hg.1, List.take_length]
theorem flat_rep {a : Nat} {x : Int} : (List.replicate a [x]).flatten = List.replicate a x := by
  induction a with
  | zero => rfl
  | succ n ih => rw [List.replicate_succ, List.flatten_cons, ih]; rfl

theorem mmul_spec (w : World) (loose : List Str) (mean : ExcName → Option Value) (mg mb : Str → Option Value) : ∀ (s : Shared) (a b : Addr) (t : Tok) (vs ws : List Value) (xs ys : List Int) (p : Int), (Mine.hd.heap_39 w.params).In s.heap → Top Mine.hd.view_39 loose mean mg mb s.heap →
    s.heap.IsList a vs.toArray → IntsAre vs xs → s.heap.IsList b ws.toArray → IntsAre ws ys → xs.length ≤ 100 → ys.length ≤ 100 → (∀ x ∈ xs, 0 ≤ x ∧ x < 1000) → 0 < p → Spec w 93 [.ref a, .ref b, .int p t] 2 s (fun h' v => NewL s.heap h' v (mulL xs ys p)) := by
  unfold Spec
  w_top off
  k_fill
  intro s a b t vs ws xs ys p X T hl hi hl2 hi2 hf hf2 hb hp dp un fr gd Q E hd hu hret
  k_dflt (refine' enter (binds := [("a", .ref a), ("b", .ref b), ("p", .int p t)]) ?kX ?kT ?k6 ?k7 ?k8 ?k9 ?kB ?c2 ?c3 ?c4 ?c5 ?_)
  walk_at "Mine entered"
  k_steps
  · refine hret _ _ _ (Fr.keep (by k_asm)) (NewL.of (us := []) (by k_asm) (by k_asm) (by k_mem) .nil ?_)
    unfold mulL
    rw [if_pos (Or.inl (by omega))]
  · refine hret _ _ _ (Fr.keep (by k_asm)) (NewL.of (us := []) (by k_asm) (by k_asm) (by k_mem) .nil ?_)
    unfold mulL
    rw [if_pos (Or.inr (by omega))]
  have hxn : xs.length ≠ 0 := by omega
  have hyn : ys.length ≠ 0 := by omega
  rename PairSrcL _ _ _ _ _ _ _ _ _ _ _ _ => S
  refine' enum_loop (fun us n => [(_, W.listOf (List.toArray us) n), (_, _)]) ?g1 ["at", "one", "spot", "other"] (fun i f => f = mulRows ys p (xs.take i) 0 (List.replicate (xs.length + ys.length - 1) 0) ∧ f.length = xs.length + ys.length - 1) S rfl ?g2 ?g3 ?g4 ?g5
  (case g1 => intros; rfl)
  (case g2 => assumption)
  (case g3 =>
    rw [flat_rep, show ((xs.length : Int) + (ys.length : Int) - 1).toNat = xs.length + ys.length - 1 by omega]
    exact ⟨rfl, List.length_replicate⟩)
  (case g5 =>
    intro us n f u h1 tk1 hi3 hI F1 N1
    rw [List.take_length] at hI
    (try k_fold)
    k_steps
    refine hret _ _ _ (Fr.keep (by k_asm)) (NewL.of (by k_asm) (by k_asm) (by k_mem) (by k_asm) ?_)
    unfold mulL
    rw [if_neg (by omega), hI.1])
  (case g4 =>
    intro i x t1 t2 us n f u h1 tk1 own hx hi3 hI hoff hmk F1 N1
    (try dsimp only [List.cons_append, List.nil_append] at N1)
    have hxb := hb x (List.mem_of_getElem? hx)
    have hT := mulRows_turn hx hI
    have hil := (take_snoc hx).2.2
    have hfl := hI.2
    (try k_fold)
    clear S
    k_steps
    rotate_left
    · exact TEnd.intro (by k_asm) (by k_asm) hi3 (fun p hp => List.mem_append_left own hp) (fun p hp => List.mem_append_right [_, _] hp) (hT.1 (by assumption)) (by walk_at "Mine fld")
    rename PairSrcL _ _ _ _ _ _ _ _ _ _ _ _ => S
    refine' enum_loop (fun us n => (_, W.listOf (List.toArray us) n) :: (_, _) :: own) ?g1 ["spot", "other"] (fun j g => g = mulRow x p (ys.take j) i f ∧ g.length = xs.length + ys.length - 1) S rfl ?g2 ?g3 ?g4 ?g5
    (case g1 => intros; rfl)
    (case g2 => assumption)
    (case g3 => exact ⟨rfl, hfl⟩)
    (case g5 =>
      intro us n g u h1 tk1 hi4 hI2 F1 N1
      (try k_fold)
      k_steps
      exact TEnd.intro (by k_asm) (by k_asm) hi4 (fun p hp => List.mem_append_left own hp) (fun p hp => List.mem_append_right [_, _] hp) (hT.2 (by assumption) _ hI2) (by walk_at "Mine fld"))
    (case g4 =>
      intro j y t3 t4 us2 n2 g u2 h2 tk2 own2 hy hi4 hI2 hoff2 hmk2 F2 N2
      (try dsimp only [List.cons_append, List.nil_append] at N2)
      have hjl := (take_snoc hy).2.2
      have hgl := hI2.2
      have hT2 := mulRow_turn hy hI2
      (try k_fold)
      clear S
      k_steps
      exact TEnd.intro (by k_asm) (by k_asm) (by k_asm) (fun p hp => List.mem_append_left own2 hp) (fun p hp => List.mem_append_right (_ :: _ :: own) hp) hT2 (by walk_at "Mine fld")))

/-- v is a fresh tuple of the three ints -/
def NewT3 (h h' : Heap) (v : Value) (x y z : Int) : Prop := ∃ b t1 t2 t3 n, v = .ref b ∧ h.get? b = none ∧ h'.get? b = some ({ cls := .type "tuple", data := .seq #[.int x t1, .int y t2, .int z t3] n } : Obj)

theorem NewT3.of {g h : Heap} {L b : Addr} {m : Str → Option Value} {news : List (Addr × Obj)} {n : Nat} {x y z : Int} {t1 t2 t3 : Tok} (_F : Fr g L h m) (N : News g L h news) (hm : (b, ({ cls := .type "tuple", data := .seq #[.int x t1, .int y t2, .int z t3] n } : Obj)) ∈ news) : NewT3 g h (.ref b) x y z :=
  ⟨b, t1, t2, t3, n, rfl, (N _ hm).2.2, (N _ hm).1⟩
theorem use_T3 {w : World} {f : Addr} {vs : List Value} {need : Nat} {s : Shared} {x y z : Int} {dp un : Nat} {fr : Option (List Env)} {gd : Option (List Code)} {Q E : Value → Shared → Prop}
    {g : Heap} {L : Addr} {m : Str → Option Value} {news : List (Addr × Obj)}
    (F : Fr g L s.heap m) (N : News g L s.heap news)
    (sp : Spec w f vs need s (fun h' v => NewT3 s.heap h' v x y z))
    (hd : dp + need < recursionLimit) (hu : un + 8 * need + 100 < cLine)
    (h : ∀ b t1 t2 t3 n h' tk', Fr g L h' m → News g L h' ((b, ({ cls := .type "tuple", data := .seq #[.int x t1, .int y t2, .int z t3] n } : Obj)) :: news) → (∀ p ∈ news, p.1 ≠ b) → Q (.ref b) { s with heap := h', toks := tk' }) :
    wpAny (model PySem.Challenge.rw_tk0018_01.prog w) (AR dp un fr gd) (call (.ref f) vs) Q E s := by
  refine sp dp un fr gd Q E hd hu ?_
  rintro v h' tk' st ⟨b, t1, t2, t3, n, rfl, hn, ho⟩
  have hne : ∀ a o, s.heap.get? a = some o → a ≠ b := fun a o e q => by rw [q, hn] at e; cases e
  refine h b t1 t2 t3 n h' tk' ⟨F.ns.keeps st, fun b o e => st b o (F.keep b o e), F.above⟩ (fun p hp => ?_) (fun p hp => hne _ _ (N p hp).1)
  rcases List.mem_cons.mp hp with rfl | hp
  · refine ⟨ho, ?_, ?_⟩
    · obtain ⟨oL, _, _, hL, _⟩ := F.ns
      exact (hne _ _ hL).symm
    · cases q : g.get? b with
      | none => rfl
      | some o => rw [F.keep _ _ q] at hn; cases hn
  · exact ⟨st _ _ (N p hp).1, (N p hp).2⟩
/-- an int comes back -/
theorem use_int {w : World} {f : Addr} {vs : List Value} {need : Nat} {s : Shared} {x : Int} {dp un : Nat} {fr : Option (List Env)} {gd : Option (List Code)} {Q E : Value → Shared → Prop}
    {g : Heap} {L : Addr} {m : Str → Option Value} {news : List (Addr × Obj)}
    (F : Fr g L s.heap m) (N : News g L s.heap news)
    (sp : Spec w f vs need s (fun _ v => ∃ t, v = .int x t))
    (hd : dp + need < recursionLimit) (hu : un + 8 * need + 100 < cLine)
    (h : ∀ t h' tk', Fr g L h' m → News g L h' news → Q (.int x t) { s with heap := h', toks := tk' }) :
    wpAny (model PySem.Challenge.rw_tk0018_01.prog w) (AR dp un fr gd) (call (.ref f) vs) Q E s := by
  refine sp dp un fr gd Q E hd hu ?_
  rintro v h' tk' st ⟨t, rfl⟩
  exact h t h' tk' ⟨F.ns.keeps st, fun b o e => st b o (F.keep b o e), F.above⟩ (fun p hp => ⟨st _ _ (N p hp).1, (N p hp).2⟩)

theorem extended_spec (w : World) (loose : List Str) (mean : ExcName → Option Value) (mg mb : Str → Option Value) : ∀ (s : Shared) (t u : Tok) (p : Int), (Mine.hd.heap_39 w.params).In s.heap → Top Mine.hd.view_39 loose mean mg mb s.heap →
    2 ≤ p → p ≤ 1000 → Spec w 41 [.int 1 t, .int p u] 1 s (fun h' v => NewT3 s.heap h' v 1 1 0) := by
  unfold Spec
  w_top off
  k_fill
  intro s t u p X T hp hp2 dp un fr gd Q E hd hu hret
  have q1 : Int.fdiv 1 p = 0 := by rw [Int.fdiv_eq_ediv_of_nonneg _ (by omega)]; exact Int.ediv_eq_zero_of_lt (by omega) (by omega)
  have q2 : Int.fdiv p 1 = p := by simp
  k_dflt (refine' enter (binds := [("a", .int 1 t), ("b", .int p u)]) ?kX ?kT ?k6 ?k7 ?k8 ?k9 ?kB ?c2 ?c3 ?c4 ?c5 ?_)
  walk_at "Mine entered"
  k_steps
  refine WhlIf.yes (by simp; omega) ?_
  (try k_fold)
  k_steps
  rename News _ _ _ _ => N9
  simp only [q1, Int.zero_mul, Int.sub_zero] at N9 ⊢
  refine WhlIf.yes (by decide) ?_
  (try k_fold)
  k_steps
  rename News _ _ _ _ => N9
  simp only [q2, Int.mul_one, Int.mul_zero, Int.sub_zero, Int.sub_self, Int.zero_sub] at N9 ⊢
  refine WhlIf.no (by decide) ?_
  (try k_fold)
  k_steps
  exact hret _ _ _ (Fr.keep (by k_asm)) (NewT3.of (by k_asm) (by k_asm) (by k_mem))

theorem inv_spec (w : World) (loose : List Str) (mean : ExcName → Option Value) (mg mb : Str → Option Value) : ∀ (s : Shared) (t u : Tok) (p : Int), (Mine.hd.heap_39 w.params).In s.heap → Top Mine.hd.view_39 loose mean mg mb s.heap →
    2 ≤ p → p ≤ 1000 → Spec w 48 [.int 1 t, .int p u] 2 s (fun _ v => ∃ t', v = .int 1 t') := by
  unfold Spec
  w_top off
  k_fill
  intro s t u p X T hp hp2 dp un fr gd Q E hd hu hret
  have q1 : Int.fmod 1 p = 1 := by rw [Int.fmod_eq_emod_of_nonneg _ (by omega)]; exact Int.emod_eq_of_lt (by omega) (by omega)
  k_dflt (refine' enter (binds := [("a", .int 1 t), ("m", .int p u)]) ?kX ?kT ?k6 ?k7 ?k8 ?k9 ?kB ?c2 ?c3 ?c4 ?c5 ?_)
  walk_at "Mine entered"
  k_steps
  rw [q1]
  k_dflt (refine' use_T3 ?mF ?mN (extended_spec _ _ _ _ _ _ _ _ _ ?mX ?mT ?ml ?mi) ?md ?mu ?_)
  (case mX => k_in)
  (case mT => exact Top.keeps (by k_asm) (Fr.keep (by k_asm)))
  (case ml => omega)
  (case mi => omega)
  (case mF => k_asm)
  (case mN => k_asm)
  (case md => ktr_room)
  (case mu => ktr_units)
  intro b' t1' t2' t3' n' h' tk' F' N' l1
  k_steps
  exact hret _ _ _ (Fr.keep (by k_asm)) ⟨_, by rw [q1]⟩

local macro_rules | `(tactic| walk_at "call ref") => `(tactic| (k_here; (with_reducible show wpAny _ _ (PySem.call (Value.ref 48) _) _ _ _); k_dflt (refine' use_int ?mF ?mN (inv_spec _ _ _ _ _ _ _ _ _ ?mX ?mT ?ml ?mi) ?md ?mu ?_); (case ml | mi => assumption); walk_at "Mine call sides"; intro t' h' tk' F' N'; (try k_sweep); (try k_fold)))

/-- the rows of b taken off from the place k - 1 down (b's last is 1) -/
noncomputable def divRows (ys : List Int) (p : Int) : Nat → List Int → List Int
  | 0, f => f
  | k + 1, f => divRows ys p k (if Int.fmod (f.getD (k + ys.length - 1) 0 * 1) p = 0 then f else mulRow (-Int.fmod (f.getD (k + ys.length - 1) 0 * 1) p) p ys k f)
noncomputable def restL (xs ys : List Int) (p : Int) : List Int := trim ((divRows ys p (xs.length + 1 - ys.length) xs).take (ys.length - 1))

theorem divRow_turn {x p y : Int} {ys f g : List Int} {i j n : Nat} {a : Int} (ha : a = i) (hy : ys[j]? = some y) (h : g = mulRow (-x) p (ys.take j) i f ∧ g.length = n) :
    g.set (a + (j : Int)).toNat (Int.fmod (g.getD (a + (j : Int)).toNat 0 - x * y) p) = mulRow (-x) p (ys.take (j + 1)) i f ∧
      (g.set (a + (j : Int)).toNat (Int.fmod (g.getD (a + (j : Int)).toNat 0 - x * y) p)).length = n := by
  have e : ∀ z : Int, z - x * y = z + -x * y := fun z => by rw [Int.neg_mul]; rfl
  rw [e, ha]
  exact mulRow_turn hy h

theorem divRows_turn {p : Int} {xs ys f : List Int} {i N : Nat} {a : Int} (hi : i < N) (ha : a = (N : Int) - 1 - i) (hy : 1 ≤ ys.length) (h : divRows ys p (N - i) f = divRows ys p N xs ∧ f.length = xs.length) :
    (Int.fmod (f.getD (a + (ys.length : Int) - 1).toNat 0 * 1) p = 0 → divRows ys p (N - (i + 1)) f = divRows ys p N xs ∧ f.length = xs.length) ∧
    (Int.fmod (f.getD (a + (ys.length : Int) - 1).toNat 0 * 1) p ≠ 0 → ∀ f', f' = mulRow (-Int.fmod (f.getD (a + (ys.length : Int) - 1).toNat 0 * 1) p) p (ys.take ys.length) (N - (i + 1)) f ∧ f'.length = xs.length → divRows ys p (N - (i + 1)) f' = divRows ys p N xs ∧ f'.length = xs.length) := by
  have e1 : N - i = (N - (i + 1)) + 1 := by omega
  have e2 : (a + (ys.length : Int) - 1).toNat = (N - (i + 1)) + ys.length - 1 := by omega
  rw [e1, divRows] at h
  rw [e2]
  refine ⟨fun q => ?_, fun q f' hf => ⟨?_, hf.2⟩⟩
  · rw [if_pos q] at h; exact h
  · rw [if_neg q] at h
    rw [hf.1, List.take_length]; exact h.1

/-- v is a fresh pair; its second is a fresh list that holds xs -/
def NewP (h h' : Heap) (v : Value) (xs : List Int) : Prop := ∃ b q r us n k, v = .ref b ∧ h.get? b = none ∧ h'.get? b = some ({ cls := .type "tuple", data := .seq #[.ref q, .ref r] k } : Obj) ∧ h.get? r = none ∧ h'.get? r = some (W.listOf (List.toArray us) n) ∧ IntsAre us xs
theorem NewP.of {g h : Heap} {L b q r : Addr} {m : Str → Option Value} {news : List (Addr × Obj)} {n k : Nat} {us : List Value} {xs ys : List Int} (_F : Fr g L h m) (N : News g L h news) (hm : (b, ({ cls := .type "tuple", data := .seq #[.ref q, .ref r] k } : Obj)) ∈ news) (hr : (r, W.listOf (List.toArray us) n) ∈ news) (hi : IntsAre us xs) (e : xs = ys) : NewP g h (.ref b) ys :=
  ⟨b, q, r, us, n, k, rfl, (N _ hm).2.2, (N _ hm).1, (N _ hr).2.2, (N _ hr).1, e ▸ hi⟩

theorem mdivmod_spec (w : World) (loose : List Str) (mean : ExcName → Option Value) (mg mb : Str → Option Value) : ∀ (s : Shared) (a b : Addr) (t : Tok) (vs ws : List Value) (xs ys : List Int) (p : Int), (Mine.hd.heap_39 w.params).In s.heap → Top Mine.hd.view_39 loose mean mg mb s.heap →
    s.heap.IsList a vs.toArray → IntsAre vs xs → s.heap.IsList b ws.toArray → IntsAre ws ys → xs.length ≤ 100 → ys.length ≤ 100 → (∀ x ∈ ys, 0 ≤ x ∧ x < 1000) → 1 ≤ ys.length → ys.getD ((-1 : Int) + ys.length).toNat 0 = 1 → 2 ≤ p → p ≤ 1000 →
    Spec w 100 [.ref a, .ref b, .int p t] 3 s (fun h' v => NewP s.heap h' v (restL xs ys p)) := by
  unfold Spec
  w_top off
  k_fill
  intro s a b t vs ws xs ys p X T hl hi hl2 hi2 hf hf2 hb hy1 hyl hp hp2 dp un fr gd Q E hd hu hret
  k_dflt (refine' enter (binds := [("a", .ref a), ("b", .ref b), ("p", .int p t)]) ?kX ?kT ?k6 ?k7 ?k8 ?k9 ?kB ?c2 ?c3 ?c4 ?c5 ?_)
  walk_at "Mine entered"
  walk_at "Mine steps"
  rw [hyl]
  walk_at "Mine steps"
  rename IsRange _ _ _ _ _ _ _ _ => hr
  refine' range_loop2 (fun us n ws k => [(_, _), (_, W.listOf (List.toArray ws) k), (_, _), (_, W.listOf (List.toArray us) n)]) ?gc ["at", "number", "spot", "other"]
    (fun i f g => (divRows ys p ((xs.length + 1 - ys.length) - i) f = divRows ys p (xs.length + 1 - ys.length) xs ∧ f.length = xs.length) ∧ g.length = xs.length + 1 - ys.length) (N' := xs.length + 1 - ys.length) hr rfl ?gF ?gN rfl ?gs ?gn ?g2 ?g2b ?g3 ?g4 ?g5
  (case gF => assumption)
  (case gN => assumption)
  (case gs => exact small_down (by omega) (by omega) (by omega) (by omega))
  (case gn => rw [rangeSize_downNat]; congr 1; omega)
  (case g2 => assumption)
  (case g2b => assumption)
  (case gc => intro us n ws k; walk_at "Mine noiter")
  (case g3 => refine ⟨⟨rfl, rfl⟩, ?_⟩; rw [flat_rep, List.length_replicate]; split <;> omega)
  (case g5 =>
    intro us n f ws k g u h1 tk1 hu1 hw1 hI F1 N1
    obtain ⟨⟨hI1, hI2⟩, hI3⟩ := hI
    (try dsimp only at N1)
    (try k_fold)
    walk_at "Mine steps"
    refine hret _ _ _ (Fr.keep (by k_asm)) (NewP.of (by k_asm) (by k_asm) (by k_mem) (by k_mem) (by k_asm) ?_)
    rw [Nat.sub_self] at hI1
    have e : ((ys.length : Int) - 1).toNat = ys.length - 1 := by omega
    rw [e]
    show trim (f.take _) = _
    unfold restL
    rw [← hI1]
    rfl)
  (case g4 =>
    intro i t1 us n f ws k g u h1 tk1 own hi1 hu1 hw1 hI hoff hmk F1 N1
    obtain ⟨a1, ha1⟩ : ∃ a1 : Int, a1 = (xs.length : Int) - ys.length + (i : Int) * -1 := ⟨_, rfl⟩
    rw [← ha1] at F1
    have hT := divRows_turn (a := a1) hi1 (by omega) hy1 hI.1
    obtain ⟨⟨hI1, hI2⟩, hI3⟩ := hI
    have ha2 : 0 ≤ a1 := by omega
    have ha3 : a1 + ys.length ≤ xs.length := by omega
    have ha4 : a1 = ((xs.length + 1 - ys.length - (i + 1) : Nat) : Int) := by omega
    (try dsimp only [List.cons_append, List.nil_append] at N1)
    clear hr
    (try k_fold)
    walk_at "Mine steps"
    rotate_left
    · exact TEnd2.intro (by k_asm) (by k_asm) hu1 (by k_asm) (fun p hp => List.mem_append_left own hp) (fun p hp => List.mem_append_right [_, _, _, _] hp) ⟨hT.1 (by assumption), by rw [List.length_set]; exact hI3⟩ (by walk_at "Mine fld")
    rename PairSrcL _ _ _ _ _ _ _ _ _ _ _ _ => S
    refine' enum_loop (fun us n => (_, _) :: (_, _) :: (_, _) :: (_, W.listOf (List.toArray us) n) :: own) ?g1 ["spot", "other"] (fun j g => g = mulRow (-Int.fmod (f.getD (a1 + (ys.length : Int) - 1).toNat 0 * 1) p) p (ys.take j) (xs.length + 1 - ys.length - (i + 1)) f ∧ g.length = xs.length) S rfl ?g2 ?g3 ?g4 ?g5
    (case g1 => intros; rfl)
    (case g2 => assumption)
    (case g3 => exact ⟨rfl, hI2⟩)
    (case g5 =>
      intro us n g2 u h1 tk1 hi4 hI2 F1 N1
      (try k_fold)
      walk_at "Mine steps"
      exact TEnd2.intro (by k_asm) (by k_asm) hi4 (by k_asm) (fun p hp => List.mem_append_left own hp) (fun p hp => List.mem_append_right [_, _, _, _] hp) ⟨hT.2 (by assumption) _ hI2, by rw [List.length_set]; exact hI3⟩ (by walk_at "Mine fld"))
    (case g4 =>
      intro j y t3 t4 us2 n2 g2 u2 h2 tk2 own2 hy hi4 hJ hoff2 hmk2 F2 N2
      (try dsimp only [List.cons_append, List.nil_append] at N2)
      have hjl := (take_snoc hy).2.2
      have hgl := hJ.2
      have hyb := hb y (List.mem_of_getElem? hy)
      have hT2 := divRow_turn ha4 hy hJ
      (try k_fold)
      clear S
      walk_at "Mine steps"
      exact TEnd.intro (by k_asm) (by k_asm) (by k_asm) (fun p hp => List.mem_append_left own2 hp) (fun p hp => List.mem_append_right (_ :: _ :: _ :: _ :: own) hp) hT2 (by walk_at "Mine fld")))

def Bd (p : Int) (xs : List Int) : Prop := ∀ x ∈ xs, 0 ≤ x ∧ x < p
structure Mon (ys : List Int) : Prop where
  bd : ∀ x ∈ ys, 0 ≤ x ∧ x < 1000
  one : 1 ≤ ys.length
  len : ys.length ≤ 50
  lead : ys.getD ((-1 : Int) + ys.length).toNat 0 = 1

theorem fmod_bd (a : Int) {p : Int} (hp : 0 < p) : 0 ≤ Int.fmod a p ∧ Int.fmod a p < p := ⟨fmod_lo a hp, fmod_hi a hp⟩
theorem Bd.set {p : Int} {xs : List Int} (h : Bd p xs) (k : Nat) {x : Int} (hx : 0 ≤ x ∧ x < p) : Bd p (xs.set k x) := by
  intro y hy
  rcases List.mem_or_eq_of_mem_set hy with h1 | h1
  · exact h y h1
  · rw [h1]; exact hx
theorem Bd.take {p : Int} {xs : List Int} (h : Bd p xs) (k : Nat) : Bd p (xs.take k) := fun y hy => h y (List.mem_of_mem_take hy)
theorem Bd.trim {p : Int} {xs : List Int} (h : Bd p xs) : Bd p (trim xs) := h.take _
theorem trim_length (xs : List Int) : (trim xs).length ≤ xs.length := by unfold Mine.trim; rw [List.length_take]; omega
theorem Bd.mulRow {x p : Int} (hp : 0 < p) : ∀ (r : List Int) (k : Nat) (f : List Int), Bd p f → Bd p (mulRow x p r k f)
  | [], _, _, h => h
  | y :: r, k, f, h => Bd.mulRow hp r (k + 1) _ (h.set k (fmod_bd _ hp))
theorem Bd.mulRows {p : Int} (hp : 0 < p) (ys : List Int) : ∀ (r : List Int) (k : Nat) (f : List Int), Bd p f → Bd p (mulRows ys p r k f)
  | [], _, _, h => h
  | x :: r, k, f, h => by
    rw [Mine.mulRows]
    refine Bd.mulRows hp ys r (k + 1) _ ?_
    split
    · exact h
    · exact Bd.mulRow hp ys k f h
theorem mulRows_length {p : Int} (ys : List Int) : ∀ (r : List Int) (k : Nat) (f : List Int), (mulRows ys p r k f).length = f.length
  | [], _, _ => rfl
  | x :: r, k, f => by
    rw [mulRows, mulRows_length ys r]
    split
    · rfl
    · exact mulRow_length ..
theorem Bd.divRows {p : Int} (hp : 0 < p) (ys : List Int) : ∀ (k : Nat) (f : List Int), Bd p f → Bd p (divRows ys p k f)
  | 0, _, h => h
  | k + 1, f, h => by
    rw [Mine.divRows]
    refine Bd.divRows hp ys k _ ?_
    split
    · exact h
    · exact Bd.mulRow hp ys k f h
theorem mulL_bd {xs ys : List Int} {p : Int} (hp : 0 < p) : Bd p (mulL xs ys p) := by
  unfold mulL
  split
  · intro x hx; cases hx
  · refine (Bd.mulRows hp ys xs 0 _ fun x hx => ?_).trim
    rw [(List.mem_replicate.mp hx).2]; exact ⟨Int.le_refl _, hp⟩
theorem mulL_length {xs ys : List Int} {p : Int} : (mulL xs ys p).length ≤ xs.length + ys.length := by
  unfold mulL
  split
  · simp
  · refine Nat.le_trans (trim_length _) ?_
    rw [mulRows_length, List.length_replicate]; omega
theorem restL_bd {xs ys : List Int} {p : Int} (hp : 0 < p) (h : Bd p xs) : Bd p (restL xs ys p) := ((Bd.divRows hp ys _ _ h).take _).trim
theorem restL_length {xs ys : List Int} {p : Int} : (restL xs ys p).length ≤ ys.length - 1 := by
  unfold restL
  refine Nat.le_trans (trim_length _) ?_
  rw [List.length_take]; omega

noncomputable def gfMul (xs ys m : List Int) (p : Int) : List Int := restL (mulL xs ys p) m p
theorem gfMul_bd {xs ys m : List Int} {p : Int} (hp : 0 < p) : Bd p (gfMul xs ys m p) := restL_bd hp (mulL_bd hp)
theorem gfMul_length {xs ys m : List Int} {p : Int} (hm : m.length ≤ 50) : (gfMul xs ys m p).length ≤ 50 := Nat.le_trans restL_length (by omega)

theorem use_pair {w : World} {f : Addr} {vs : List Value} {need : Nat} {s : Shared} {xs : List Int} {dp un : Nat} {fr : Option (List Env)} {gd : Option (List Code)} {Q E : Value → Shared → Prop}
    {g : Heap} {L : Addr} {m : Str → Option Value} {news : List (Addr × Obj)}
    (F : Fr g L s.heap m) (N : News g L s.heap news)
    (sp : Spec w f vs need s (fun h' v => NewP s.heap h' v xs))
    (hd : dp + need < recursionLimit) (hu : un + 8 * need + 100 < cLine)
    (h : ∀ b q r us n k h' tk', Fr g L h' m → News g L h' ((b, ({ cls := .type "tuple", data := .seq #[.ref q, .ref r] k } : Obj)) :: (r, W.listOf (List.toArray us) n) :: news) → IntsAre us xs → Q (.ref b) { s with heap := h', toks := tk' }) :
    wpAny (model PySem.Challenge.rw_tk0018_01.prog w) (AR dp un fr gd) (call (.ref f) vs) Q E s := by
  refine sp dp un fr gd Q E hd hu ?_
  rintro v h' tk' st ⟨b, q, r, us, n, k, rfl, hn, ho, hnr, hor, hi⟩
  have hne : ∀ b', s.heap.get? b' = none → ∀ a o, s.heap.get? a = some o → a ≠ b' := fun b' hn a o e q => by rw [q, hn] at e; cases e
  have new : ∀ b' o, s.heap.get? b' = none → h'.get? b' = some o → h'.get? b' = some o ∧ b' ≠ L ∧ g.get? b' = none := fun b' o hn ho => by
    refine ⟨ho, ?_, ?_⟩
    · obtain ⟨oL, _, _, hL, _⟩ := F.ns
      exact (hne _ hn _ _ hL).symm
    · cases q : g.get? b' with
      | none => rfl
      | some o => rw [F.keep _ _ q] at hn; cases hn
  refine h b q r us n k h' tk' ⟨F.ns.keeps st, fun b o e => st b o (F.keep b o e), F.above⟩ (fun p hp => ?_) hi
  rcases List.mem_cons.mp hp with rfl | hp
  · exact new _ _ hn ho
  rcases List.mem_cons.mp hp with rfl | hp
  · exact new _ _ hnr hor
  · exact ⟨st _ _ (N p hp).1, (N p hp).2⟩

theorem mrest_spec (w : World) (loose : List Str) (mean : ExcName → Option Value) (mg mb : Str → Option Value) : ∀ (s : Shared) (a b : Addr) (t : Tok) (vs ws : List Value) (xs ys : List Int) (p : Int), (Mine.hd.heap_39 w.params).In s.heap → Top Mine.hd.view_39 loose mean mg mb s.heap →
    s.heap.IsList a vs.toArray → IntsAre vs xs → s.heap.IsList b ws.toArray → IntsAre ws ys → xs.length ≤ 100 → Mon ys → 2 ≤ p → p ≤ 1000 →
    Spec w 107 [.ref a, .ref b, .int p t] 4 s (fun h' v => NewL s.heap h' v (restL xs ys p)) := by
  unfold Spec
  w_top off
  k_fill
  intro s a b t vs ws xs ys p X T hl hi hl2 hi2 hf hm hp hp2 dp un fr gd Q E hd hu hret
  k_dflt (refine' enter (binds := [("a", .ref a), ("b", .ref b), ("p", .int p t)]) ?kX ?kT ?k6 ?k7 ?k8 ?k9 ?kB ?c2 ?c3 ?c4 ?c5 ?_)
  walk_at "Mine entered"
  walk_at "Mine steps"
  k_dflt (refine' use_pair ?mF ?mN (mdivmod_spec _ _ _ _ _ _ _ _ _ _ _ _ _ _ ?mX ?mT ?ml ?mi ?ml2 ?mi2 hf (Nat.le_trans hm.len (by decide)) hm.bd hm.one hm.lead hp hp2) ?md ?mu ?_)
  (case mX => k_in)
  (case mT => exact Top.keeps (by k_asm) (Fr.keep (by k_asm)))
  (case ml => walk_at "Mine list")
  (case mi => l_ints)
  (case ml2 => walk_at "Mine list")
  (case mi2 => l_ints)
  (case mF => k_asm)
  (case mN => k_asm)
  (case md => ktr_room)
  (case mu => ktr_units)
  intro b' q' r' us' n' k' h' tk' F' N' hI'
  (try k_fold)
  walk_at "Mine steps"

  exact hret _ _ _ (Fr.keep (by k_asm)) (NewL.of (by k_asm) (by k_asm) (by k_mem) (by k_asm) rfl)

theorem gfmul_spec (w : World) (loose : List Str) (mean : ExcName → Option Value) (mg mb : Str → Option Value) : ∀ (s : Shared) (a b c : Addr) (t : Tok) (vs ws cs : List Value) (xs ys ms : List Int) (p : Int), (Mine.hd.heap_39 w.params).In s.heap → Top Mine.hd.view_39 loose mean mg mb s.heap →
    s.heap.IsList a vs.toArray → IntsAre vs xs → s.heap.IsList b ws.toArray → IntsAre ws ys → s.heap.IsList c cs.toArray → IntsAre cs ms → xs.length ≤ 50 → ys.length ≤ 50 → (∀ x ∈ xs, 0 ≤ x ∧ x < 1000) → Mon ms → 2 ≤ p → p ≤ 1000 →
    Spec w 135 [.ref a, .ref b, .ref c, .int p t] 5 s (fun h' v => NewL s.heap h' v (gfMul xs ys ms p)) := by
  unfold Spec
  w_top off
  k_fill
  intro s a b c t vs ws cs xs ys ms p X T hl hi hl2 hi2 hl3 hi3 hf hf2 hb hm hp hp2 dp un fr gd Q E hd hu hret
  k_dflt (refine' enter (binds := [("a", .ref a), ("b", .ref b), ("m", .ref c), ("p", .int p t)]) ?kX ?kT ?k6 ?k7 ?k8 ?k9 ?kB ?c2 ?c3 ?c4 ?c5 ?_)
  walk_at "Mine entered"
  walk_at "Mine steps"
  k_dflt (refine' use_list ?mF ?mN (mmul_spec _ _ _ _ _ _ _ _ _ _ _ _ _ _ ?mX ?mT ?ml ?mi ?ml2 ?mi2 (Nat.le_trans hf (by decide)) (Nat.le_trans hf2 (by decide)) hb (by omega)) ?md ?mu ?_)
  (case ml => walk_at "Mine list")
  (case mi => l_ints)
  (case ml2 => walk_at "Mine list")
  (case mi2 => l_ints)
  walk_at "Mine call sides"
  intro b' us' n' h' tk' F' N' _ hI'
  (try k_fold)
  walk_at "Mine steps"
  k_dflt (refine' use_list ?mF ?mN (mrest_spec _ _ _ _ _ _ _ _ _ _ _ _ _ _ ?mX ?mT ?ml hI' ?ml2 hi3 (Nat.le_trans mulL_length (by omega)) hm hp hp2) ?md ?mu ?_)
  (case ml => walk_at "Mine list")
  (case ml2 => walk_at "Mine list")
  walk_at "Mine call sides"
  intro b' us' n' h' tk' F' N' _ hI'
  (try k_fold)
  walk_at "Mine steps"
  exact hret _ _ _ (Fr.keep (by k_asm)) (NewL.of (by k_asm) (by k_asm) (by k_mem) (by k_asm) rfl)

local macro_rules | `(tactic| walk_at "Mine side") => `(tactic| first | assumption | (unfold Sm at *; assumption) | omega)
local macro_rules | `(tactic| walk_at "call ref") => `(tactic| (k_here; (with_reducible show wpAny _ _ (PySem.call (Value.ref 135) _) _ _ _); k_dflt (refine' use_list ?mF ?mN (gfmul_spec _ _ _ _ _ _ _ _ _ _ _ _ _ _ _ _ _ ?mX ?mT ?ml ?mi ?ml2 ?mi2 ?ml3 ?mi3 ?m4 ?m5 ?m6 ?m7 ?m8 ?m9) ?md ?mu ?_); (case ml | ml2 | ml3 => walk_at "Mine list"); (case mi | mi2 | mi3 => l_ints); (case m4 | m5 | m6 | m7 | m8 | m9 => walk_at "Mine side"); walk_at "Mine called"))

noncomputable def powL (ms : List Int) (p : Int) : Nat → Nat → List Int → List Int → List Int
  | 0, _, F, _ => F
  | k + 1, n, F, S => if n = 0 then F else powL ms p k (n / 2) (if n % 2 = 1 then gfMul F S ms p else F) (if 0 < n / 2 then gfMul S S ms p else S)
/-- n below 2 ^ 20 -/
noncomputable def gfPow (xs : List Int) (n : Nat) (ms : List Int) (p : Int) : List Int := powL ms p 20 n [1] xs

theorem powL_zero {ms : List Int} {p : Int} {F S : List Int} : ∀ k, powL ms p k 0 F S = F
  | 0 => rfl
  | _ + 1 => rfl
theorem powL_turn {ms : List Int} {p : Int} {F S R : List Int} {n : Nat} (hn : 0 < n) (h : ∃ k, powL ms p k n F S = R ∧ n < 2 ^ k) :
    ∃ k, powL ms p k (n / 2) (if n % 2 = 1 then gfMul F S ms p else F) (if 0 < n / 2 then gfMul S S ms p else S) = R ∧ n / 2 < 2 ^ k := by
  obtain ⟨k, e, hk⟩ := h
  cases k with
  | zero => exact absurd hk (by simp; omega)
  | succ k =>
    rw [powL, if_neg (by omega)] at e
    exact ⟨k, e, by rw [Nat.pow_succ] at hk; omega⟩

def Sm (xs : List Int) : Prop := ∀ x ∈ xs, 0 ≤ x ∧ x < 1000
theorem gfMul_sm {xs ys m : List Int} {p : Int} (hp : 2 ≤ p) (hp2 : p ≤ 1000) : Sm (gfMul xs ys m p) := fun x hx => by
  have := gfMul_bd (xs := xs) (ys := ys) (m := m) (p := p) (by omega) x hx
  omega

structure PSt where
  n : Nat
  tn : Tok
  bf : Addr
  uf : List Value
  nf : Nat
  F : List Int
  bs : Addr
  us : List Value
  ns : Nat
  S : List Int

theorem all3 {m : Str → Option Value} {a b c : Str} {x y z : Value} (h1 : m a = some x) (h2 : m b = some y) (h3 : m c = some z) : ∀ p ∈ [(a, x), (b, y), (c, z)], m p.1 = some p.2 :=
  List.forall_mem_cons.mpr ⟨h1, List.forall_mem_cons.mpr ⟨h2, List.forall_mem_cons.mpr ⟨h3, List.forall_mem_nil _⟩⟩⟩

section
variable {prog : Program} {w : World} {A : Around} {E : Value → Shared → Prop} {Q : Flow → Shared → Prop} {s : Shared} {env : Env} {h₀ : Heap} {L : Addr}
theorem ksw3_end {σ : Type} {Led : σ → List (Addr × Obj)} {a b d : Str} {va vb vd : σ → Value} {Facts : σ → Prop} {stored : List Str} {m₀ m' : Str → Option Value} {P : σ → Prop} {μ : σ → Nat} {c : σ} {h' : Heap} {tk : Nat} {news' : List (Addr × Obj)} (c' : σ)
    (F : Fr h₀ L h' m') (N : News h₀ L h' news') (h1 : m' a = some (va c')) (h2 : m' b = some (vb c')) (h3 : m' d = some (vd c')) (hn : ∀ p ∈ Led c', p ∈ news') (hf : Facts c')
    (hr : ∀ z, (∀ p ∈ [(a, va c'), (b, vb c'), (d, vd c')], z ≠ p.1) → stored.contains z = false → m' z = m₀ z) (hp : P c') (hm : μ c' < μ c) :
    KswEnd h₀ L s Led (fun c => [(a, va c), (b, vb c), (d, vd c)]) Facts stored m₀ P μ c { s with heap := h', toks := tk } := ksw_end c' F N hn hf (all3 h1 h2 h3) hr hp hm
theorem ksw3_while {σ : Type} {test : Expr} {body : List Stmt} {pos : Pos} {m₀ : Str → Option Value} {news : List (Addr × Obj)} (Led : σ → List (Addr × Obj)) (a b d : Str) (va vb vd : σ → Value) (Facts : σ → Prop) (stored : List Str) (P : σ → Prop) (μ : σ → Nat) (c₀ : σ)
    (F : Fr h₀ L s.heap m₀) (N : News h₀ L s.heap news) (h1 : m₀ a = some (va c₀)) (h2 : m₀ b = some (vb c₀)) (h3 : m₀ d = some (vd c₀)) (hn : ∀ p ∈ Led c₀, p ∈ news) (hf : Facts c₀) (hp : P c₀)
    (turn : ∀ (c : σ) (u : Str → Option Value) h tk, Facts c → P c → Fr h₀ L h (kstB (fun z => if stored.contains z then u z else m₀ z) [(a, va c), (b, vb c), (d, vd c)]) → News h₀ L h (Led c) →
      wpAny (model prog w) A (isTrue test env (eval test env)) (fun b' s₂ =>
        if b' = true then wpAny (model prog w) A (execs body env) (KswPost h₀ L s Led (fun c => [(a, va c), (b, vb c), (d, vd c)]) Facts stored m₀ P μ Q c) E s₂ else Q .next s₂) E { s with heap := h, toks := tk })
    (hE : PassesOwn (model prog w) A env E) :
    wpAny (model prog w) A (exec (.While test body [] pos) env) Q E s := ksw_while Led (fun c => [(a, va c), (b, vb c), (d, vd c)]) Facts stored P μ c₀ F (kst_newsOf N hn) hf (all3 h1 h2 h3) hp turn hE
end

theorem gfpow_spec (w : World) (loose : List Str) (mean : ExcName → Option Value) (mg mb : Str → Option Value) : ∀ (s : Shared) (a c : Addr) (t tn : Tok) (vs cs : List Value) (xs ms : List Int) (n : Nat) (p : Int), (Mine.hd.heap_39 w.params).In s.heap → Top Mine.hd.view_39 loose mean mg mb s.heap →
    s.heap.IsList a vs.toArray → IntsAre vs xs → s.heap.IsList c cs.toArray → IntsAre cs ms → xs.length ≤ 50 → Sm xs → Mon ms → n < 2 ^ 20 → 2 ≤ p → p ≤ 1000 →
    Spec w 149 [.ref a, .int (n : Int) tn, .ref c, .int p t] 6 s (fun h' v => NewL s.heap h' v (gfPow xs n ms p)) := by
  unfold Spec
  w_top off
  k_fill
  intro s a c t tn vs cs xs ms n p X T hl hi hl2 hi2 hf hb hm hn hp hp2 dp un fr gd Q E hd hu hret
  k_dflt (refine' enter (binds := [("a", .ref a), ("n", .int (n : Int) tn), ("m", .ref c), ("p", .int p t)]) ?kX ?kT ?k6 ?k7 ?k8 ?k9 ?kB ?c2 ?c3 ?c4 ?c5 ?_)
  walk_at "Mine entered"
  have hn0 : ¬ ((n : Int) < 0) := by omega
  walk_at "Mine steps"
  rename News _ _ _ _ => N0
  rename Fr _ _ _ _ => F0
  refine' ksw3_while (fun c : PSt => [(c.bf, W.listOf (List.toArray c.uf) c.nf), (c.bs, W.listOf (List.toArray c.us) c.ns)]) "found" "square" "n" (fun c => .ref c.bf) (fun c => .ref c.bs) (fun c => .int (c.n : Int) c.tn) (fun c => IntsAre c.uf c.F ∧ IntsAre c.us c.S) []
    (fun c => (∃ k, powL ms p k c.n c.F c.S = gfPow xs n ms p ∧ c.n < 2 ^ k) ∧ c.F.length ≤ 50 ∧ c.S.length ≤ 50 ∧ Sm c.F ∧ Sm c.S) (fun c => c.n) ⟨n, tn, _, _, _, [1], _, _, _, xs⟩ F0 N0 rfl rfl rfl ?gN ?gf ?gp ?gt ?gE
  (case gE => passes_own)
  (case gN => walk_at "Mine all mem")
  (case gf => exact ⟨.cons _ _ .nil, by assumption⟩)
  (case gp => exact ⟨⟨20, rfl, hn⟩, (by decide : (1 : Nat) ≤ 50), hf, by intro x hx; rw [List.mem_singleton.mp hx]; decide, hb⟩)
  (case gt =>
    rintro ⟨n1, tn1, bf, uf, nf, F1, bs, us, ns, S1⟩ u h1 tk1 ⟨hiF, hiS⟩ ⟨hR, hlF, hlS, hbF, hbS⟩ Fx Nx
    dsimp only [kstB] at hiF hiS hR hlF hlS hbF hbS Fx Nx
    clear F0 N0
    have hfm : Int.fmod (n1 : Int) 2 = ((n1 % 2 : Nat) : Int) := by rw [Int.fmod_eq_emod_of_nonneg _ (by decide)]; omega
    have hfd : Int.fdiv (n1 : Int) 2 = ((n1 / 2 : Nat) : Int) := by rw [Int.fdiv_eq_ediv_of_nonneg _ (by decide)]; omega
    have hml := hm.len
    (try k_fold)
    walk_at "Mine steps"
    · have hR2 := powL_turn (by omega) hR
      rw [if_pos (by omega), if_pos (by omega)] at hR2
      rename News _ _ _ _ => N9
      rename Fr _ _ _ _ => F9
      simp only [hfd] at F9
      refine' ksw3_end ⟨n1 / 2, _, _, _, _, gfMul F1 S1 ms p, _, _, _, gfMul S1 S1 ms p⟩ F9 N9 rfl rfl rfl ?qn ?qf ?qr ?qp ?qm
      (case qn => walk_at "Mine all mem")
      (case qf => exact ⟨by assumption, by assumption⟩)
      (case qr => ksw_same)
      (case qp => exact ⟨hR2, gfMul_length hml, gfMul_length hml, gfMul_sm hp hp2, gfMul_sm hp hp2⟩)
      (case qm => show n1 / 2 < n1; omega)
    · have hR2 := powL_turn (by omega) hR
      rw [if_pos (by omega), if_neg (by omega)] at hR2
      rename News _ _ _ _ => N9
      rename Fr _ _ _ _ => F9
      simp only [hfd] at F9
      refine' ksw3_end ⟨n1 / 2, _, _, _, _, gfMul F1 S1 ms p, _, _, _, S1⟩ F9 N9 rfl rfl rfl ?qn ?qf ?qr ?qp ?qm
      (case qn => walk_at "Mine all mem")
      (case qf => exact ⟨by assumption, by assumption⟩)
      (case qr => ksw_same)
      (case qp => exact ⟨hR2, gfMul_length hml, hlS, gfMul_sm hp hp2, hbS⟩)
      (case qm => show n1 / 2 < n1; omega)
    · have hR2 := powL_turn (by omega) hR
      rw [if_neg (by omega), if_pos (by omega)] at hR2
      rename News _ _ _ _ => N9
      rename Fr _ _ _ _ => F9
      simp only [hfd] at F9
      refine' ksw3_end ⟨n1 / 2, _, _, _, _, F1, _, _, _, gfMul S1 S1 ms p⟩ F9 N9 rfl rfl rfl ?qn ?qf ?qr ?qp ?qm
      (case qn => walk_at "Mine all mem")
      (case qf => exact ⟨by assumption, by assumption⟩)
      (case qr => ksw_same)
      (case qp => exact ⟨hR2, hlF, gfMul_length hml, hbF, gfMul_sm hp hp2⟩)
      (case qm => show n1 / 2 < n1; omega)
    · obtain ⟨k, hk, _⟩ := hR
      have e : n1 = 0 := by omega
      subst e
      rw [powL_zero] at hk
      exact hret _ _ _ (Fr.keep (by k_asm)) (NewL.of (by k_asm) (by k_asm) (by k_mem) (by k_asm) hk))

/-- 1 if n is a square by p (of one of 1 .. p - 1), else -1 -/
noncomputable def signL (n p : Int) : Int := if (List.range (p - 1).toNat).any (fun i => Int.fmod ((1 + (i : Int)) * (1 + (i : Int)) - n) p == 0) = true then 1 else -1

theorem foldl_pick (q : Int → Prop) [DecidablePred q] : ∀ (l acc : List Int), l.foldl (fun l' k' => if q k' then l' ++ [k'] else l') acc = acc ++ l.filter (fun k => decide (q k))
  | [], acc => by simp
  | k :: r, acc => by
    rw [List.foldl_cons, foldl_pick q r, List.filter_cons]
    by_cases h : q k <;> simp [h]
theorem sign_of {n p : Int} : ((decide ((rangeKs 1 (p - 1).toNat).foldl (fun l' k' => if Int.fmod (k' * k' - n) p = 0 then l' ++ [k'] else l') [] = [])) = false → (1 : Int) = signL n p) ∧
    ((decide ((rangeKs 1 (p - 1).toNat).foldl (fun l' k' => if Int.fmod (k' * k' - n) p = 0 then l' ++ [k'] else l') [] = [])) = true → (-1 : Int) = signL n p) := by
  have e : ((rangeKs 1 (p - 1).toNat).foldl (fun l' k' => if Int.fmod (k' * k' - n) p = 0 then l' ++ [k'] else l') [] = []) ↔ ¬ (List.range (p - 1).toNat).any (fun i => Int.fmod ((1 + (i : Int)) * (1 + (i : Int)) - n) p == 0) = true := by
    rw [foldl_pick (fun k => Int.fmod (k * k - n) p = 0), List.nil_append, List.filter_eq_nil_iff]
    simp only [rangeKs, List.mem_map, List.any_eq_true, beq_iff_eq, not_exists, not_and, decide_eq_true_eq]
    constructor
    · intro h i hi; exact h _ ⟨i, hi, rfl⟩
    · rintro h _ ⟨i, hi, rfl⟩; exact h i hi
  unfold signL
  constructor
  · intro h
    rw [if_pos]
    simp only [decide_eq_false_iff_not] at h
    exact Decidable.not_not.mp fun q => h (e.mpr q)
  · intro h
    rw [if_neg]
    simp only [decide_eq_true_eq] at h
    exact e.mp h

theorem sign_spec (w : World) (loose : List Str) (mean : ExcName → Option Value) (mg mb : Str → Option Value) : ∀ (s : Shared) (t u : Tok) (n p : Int), (Mine.hd.heap_39 w.params).In s.heap → Top Mine.hd.view_39 loose mean mg mb s.heap →
    0 ≤ n → n ≤ 1000 → 2 ≤ p → p ≤ 1000 → Spec w 168 [.int n t, .int p u] 1 s (fun _ v => ∃ t', v = .int (signL n p) t') := by
  unfold Spec
  w_top off
  k_fill
  intro s t u n p X T hn hn2 hp hp2 dp un fr gd Q E hd hu hret
  k_dflt (refine' enterC (binds := [("number", .int n t), ("p", .int p u)]) ?kX ?kT ?k6 ?k7 ?k8 ?k9 ?kB ?kD ?c2 ?c3 ?c4 ?_)
  walk_at "Mine enteredC"
  walk_at "Mine steps"
  · exact hret _ _ _ (Fr.keep (by k_asm)) ⟨_, congrArg (fun z => Value.int z _) (sign_of.2 (by assumption))⟩
  · exact hret _ _ _ (Fr.keep (by k_asm)) ⟨_, congrArg (fun z => Value.int z _) (sign_of.1 (by assumption))⟩

theorem mdeg_spec (w : World) (loose : List Str) (mean : ExcName → Option Value) (mg mb : Str → Option Value) : ∀ (s : Shared) (a : Addr) (vs : List Value) (xs : List Int), (Mine.hd.heap_39 w.params).In s.heap → Top Mine.hd.view_39 loose mean mg mb s.heap →
    s.heap.IsList a vs.toArray → IntsAre vs xs → xs.length ≤ 1000 → Spec w 62 [.ref a] 1 s (fun _ v => ∃ t', v = .int ((xs.length : Int) - 1) t') := by
  unfold Spec
  w_top off
  k_fill
  intro s a vs xs X T hl hi hf dp un fr gd Q E hd hu hret
  k_dflt (refine' enter (binds := [("a", .ref a)]) ?kX ?kT ?k6 ?k7 ?k8 ?k9 ?kB ?c2 ?c3 ?c4 ?c5 ?_)
  walk_at "Mine entered"
  walk_at "Mine steps"
  exact hret _ _ _ (Fr.keep (by k_asm)) ⟨_, rfl⟩

theorem size_spec (w : World) (loose : List Str) (mean : ExcName → Option Value) (mg mb : Str → Option Value) : ∀ (s : Shared) (a : Addr) (t : Tok) (vs : List Value) (xs : List Int) (p : Int), (Mine.hd.heap_39 w.params).In s.heap → Top Mine.hd.view_39 loose mean mg mb s.heap →
    s.heap.IsList a vs.toArray → IntsAre vs xs → xs.length = 2 → 2 ≤ p → p ≤ 1000 → Spec w 128 [.ref a, .int p t] 2 s (fun _ v => ∃ t', v = .int p t') := by
  unfold Spec
  w_top off
  k_fill
  intro s a t vs xs p X T hl hi hf hp hp2 dp un fr gd Q E hd hu hret
  k_dflt (refine' enter (binds := [("m", .ref a), ("p", .int p t)]) ?kX ?kT ?k6 ?k7 ?k8 ?k9 ?kB ?c2 ?c3 ?c4 ?c5 ?_)
  walk_at "Mine entered"
  walk_at "Mine steps"
  k_dflt (refine' use_int ?mF ?mN (mdeg_spec _ _ _ _ _ _ _ _ _ ?mX ?mT ?ml ?mi ?mf) ?md ?mu ?_)
  (case ml => walk_at "Mine list")
  (case mi => l_ints)
  (case mf => omega)
  walk_at "Mine call sides"
  intro t' h' tk' F' N'
  rw [show ((xs.length : Int) - 1) = 1 by omega]
  (try k_fold)
  walk_at "Mine steps"
  exact hret _ _ _ (Fr.keep (by k_asm)) ⟨_, congrArg (fun z => Value.int z _) (by show p ^ 1 = p; exact Int.pow_one p)⟩

theorem mon01 : Mon [0, 1] := ⟨by decide, by decide, by decide, by decide⟩

theorem issq_spec (w : World) (loose : List Str) (mean : ExcName → Option Value) (mg mb : Str → Option Value) : ∀ (s : Shared) (a c : Addr) (t : Tok) (vs cs : List Value) (xs : List Int) (p : Int), (Mine.hd.heap_39 w.params).In s.heap → Top Mine.hd.view_39 loose mean mg mb s.heap →
    s.heap.IsList a vs.toArray → IntsAre vs xs → s.heap.IsList c cs.toArray → IntsAre cs [0, 1] → xs.length = 1 → Sm xs → 3 ≤ p → p ≤ 1000 → Spec w 156 [.ref a, .ref c, .int p t] 8 s (fun _ v => v = .bool (decide (gfPow xs ((p - 1) / 2).toNat [0, 1] p = [1]))) := by
  unfold Spec
  w_top off
  k_fill
  intro s a c t vs cs xs p X T hl hi hl2 hi2 hf hb hp hp2 dp un fr gd Q E hd hu hret
  have hfd : Int.fdiv (p - 1) 2 = (((p - 1) / 2).toNat : Int) := by rw [Int.fdiv_eq_ediv_of_nonneg _ (by decide)]; omega
  have hn2 : ((p - 1) / 2).toNat < 2 ^ 20 := by omega
  k_dflt (refine' enter (binds := [("a", .ref a), ("m", .ref c), ("p", .int p t)]) ?kX ?kT ?k6 ?k7 ?k8 ?k9 ?kB ?c2 ?c3 ?c4 ?c5 ?_)
  walk_at "Mine entered"
  walk_at "Mine steps"
  · exfalso; omega
  · exfalso; omega
  k_dflt (refine' use_int ?mF ?mN (size_spec _ _ _ _ _ _ _ _ _ _ _ ?mX ?mT ?ml hi2 rfl (by omega) hp2) ?md ?mu ?_)
  (case ml => walk_at "Mine list")
  walk_at "Mine call sides"
  intro t' h' tk' F' N'
  (try k_fold)
  walk_at "Mine steps"
  rw [hfd]
  k_dflt (refine' use_list ?mF ?mN (gfpow_spec _ _ _ _ _ _ _ _ _ _ _ _ _ _ _ _ ?mX ?mT ?ml ?mi ?ml2 hi2 (by omega) hb mon01 hn2 (by omega) hp2) ?md ?mu ?_)
  (case ml => walk_at "Mine list")
  (case mi => l_ints)
  (case ml2 => walk_at "Mine list")
  walk_at "Mine call sides"
  intro b' us' n' h' tk' F' N' l1 hI'
  (try simp only [List.forall_mem_cons, List.forall_mem_nil, and_true] at l1)
  (try k_fold)
  walk_at "Mine steps"
  exact hret _ _ _ (Fr.keep (by k_asm)) rfl

noncomputable def tabPQ : List (Int × Int) := [(3, 5), (3, 7), (5, 3), (5, 11), (5, 19), (7, 13), (7, 29), (13, 5), (3, 11), (5, 13)]
noncomputable def tabM : List (List Int) := [[3, 0, 1], [0, 1], [2, 1, 0, 0, 1], [0, 1], [17, 0, 1], [11, 0, 1], [0, 1], [3, 0, 0, 0, 1], [9, 0, 1], [11, 0, 0, 0, 1]]
noncomputable def powOf (p q : Int) (ms : List Int) : Nat := (Int.fdiv (q ^ ((ms.length : Int) - 1).toNat - 1) p).toNat

/-- the thing tried at a turn -/
noncomputable def tryL (ms : List Int) (number : Int) : List Int := if ms.length = 2 then [number] else [number, 1]
noncomputable def zStep (ms : List Int) (q : Int) (power : Nat) (first : Int) (Z : List Int) (turn : Nat) : List Int :=
  if Z = [1] ∧ (0 < Int.fmod (first + 1 + (turn : Int)) q ∨ 2 < ms.length) then gfPow (tryL ms (Int.fmod (first + 1 + (turn : Int)) q)) power ms q else Z
noncomputable def zL (ms : List Int) (q : Int) (power : Nat) (first : Int) : Nat → List Int
  | 0 => [1]
  | k + 1 => zStep ms q power first (zL ms q power first k) k

/-- after k turns: the last power of z, the powers' sum, the signed sum -/
noncomputable def sumL (ms z : List Int) (p q : Int) : Nat → List Int × List Int × List Int
  | 0 => ([1], [1], [])
  | k + 1 =>
    let r := sumL ms z p q k
    let l := gfMul r.1 z ms q
    (l, addL r.2.1 l q, addL r.2.2 (scaleL l (signL (1 + (k : Int)) p) q) q)

noncomputable def numOf (p : Int) : Int := if Int.fmod p 4 = 1 then p else 0 - p
noncomputable def endOk (ms z : List Int) (p q : Int) (l total g : List Int) : Bool :=
  !decide (z = [1]) && decide (gfMul l z ms q = [1]) && decide (total = []) && decide (gfMul g g ms q = [Int.fmod (numOf p) q]) &&
    decide (gfPow g q.toNat ms q = scaleL g (signL q p) q) && (decide (gfPow [Int.fmod (numOf p) q] ((q - 1) / 2).toNat [0, 1] q = [1]) == (signL q p == 1))
noncomputable def zOk (ms z : List Int) (p q : Int) : Bool := let r := sumL ms z p q (p - 1).toNat; endOk ms z p q r.1 r.2.1 r.2.2

def Cut (P : Shared → Prop) (f : Flow) (s' : Shared) : Prop := f = .next ∧ P s'
theorem Cut.mk {P : Shared → Prop} {s' : Shared} (h : P s') : Cut P .next s' := ⟨rfl, h⟩
theorem seq_cut {M : Model} {A : Around} {E : Value → Shared → Prop} {s : Shared} {env : Env} {st : Stmt} {rest : List Stmt} {Q : Flow → Shared → Prop} (P : Shared → Prop)
    (h1 : wpAny M A (exec st env) (Cut P) E s) (h2 : ∀ s', P s' → wpAny M A (execs rest env) Q E s') : wpAny M A (execs (st :: rest) env) Q E s := by
  refine wpAny_execs_cons (wpAny_mono h1 (fun f s' h => ?_) fun _ _ x => x)
  obtain ⟨rfl, hp⟩ := h
  exact h2 s' hp

theorem enterA {prog : Program} {w : World} {A : Around} {s : Shared} {K : Frag} {p : Program} {loose : List Str} {mean : ExcName → Option Value} {mg mb : Str → Option Value} {R : Result → Shared → Prop}
    {name qual : Str} {params : Arguments} {body : List Stmt} {scope : Scope} {dV kV doc pm cdv ct oc : Value} {an od : Option Addr} {osl : Array (Option Value)} {f : Addr} {vals : List Value} {binds : List (Str × Value)}
    (X : K.In s.heap) (T : Top p loose mean mg mb s.heap)
    (ho : K.lookup f = some ⟨oc, od, .func (fnOf name qual params body scope dV kV doc pm an cdv ct), osl⟩) (hcd : codeIn K cdv qual = true) (hroom : A.depth < recursionLimit)
    (hbind : BindsTo s (fnOf name qual params body scope dV kV doc pm an cdv ct) ⟨vals, []⟩ binds) (hloc : ∀ y ∈ binds, scope.names.lookup y.1 = some .local)
    (hco : scope.isCoroutine = false) (hgen : scope.isGenerator = false) (hk : scope.kind = .function)
    (hcell : ∀ x ∈ scope.names, x.2 ≠ .cell)
    (h : ∀ g L' h₁, g = s.heap → Fr g L' h₁ (fun y => binds.reverse.lookup y) → News g L' h₁ [] → K.In g → Top p loose mean mg mb g →
      wpAny (model prog w) (A.deeper (envOf qual scope L' f cdv)) (execs body (envOf qual scope L' f cdv))
        (fun fl s' => R (.ok (.ret (match fl with | .ret v => v | _ => .none))) s') (fun _ _ => False)
        { s with heap := h₁, toks := s.toks + binds.length }) :
    codeAny (model prog w) A (.call (.ref f) ⟨vals, []⟩) R s := by
  refine codeAny_call_def (fd := fnOf name qual params body scope dV kV doc pm an cdv ct) (body := body) (binds := binds) hroom (X _ _ ho) rfl T.nolimit (codeRec_of X hcd) rfl hbind hcell hloc (fun h₁ hns hk₁ => ?_) hco hgen hk
  exact wpAny_mono (h s.heap s.heap.objs.size h₁ rfl ⟨hns, hk₁, Nat.le_refl _⟩ News.nil X T) (fun _ _ x => x) fun _ _ x => x.elim

theorem fld1 {m m₁ : Str → Option Value} {ks : List Str} {k : Str} {v : Value} (hk : m₁ k = some v) (hm : ∀ z, ks.contains z = false → m₁ z = m z) :
    m₁ = fun y => if y = k then some v else if ks.contains y = true then m₁ y else m y := by
  funext y
  by_cases e : y = k
  · rw [if_pos e, e, hk]
  · rw [if_neg e]
    cases h : ks.contains y with
    | true => simp
    | false => simp [hm y h]

theorem Sm.one : Sm [1] := by intro x hx; rw [List.mem_singleton.mp hx]; decide
theorem powL_ok {ms : List Int} {p : Int} (hp : 2 ≤ p) (hp2 : p ≤ 1000) (hm : ms.length ≤ 50) : ∀ (k n : Nat) (F S : List Int), Sm F → F.length ≤ 50 → Sm S → S.length ≤ 50 → Sm (powL ms p k n F S) ∧ (powL ms p k n F S).length ≤ 50
  | 0, _, F, _, h1, h2, _, _ => ⟨h1, h2⟩
  | k + 1, n, F, S, h1, h2, h3, h4 => by
    rw [powL]
    split
    · exact ⟨h1, h2⟩
    · have a1 : Sm (gfMul F S ms p) := gfMul_sm hp hp2
      have a2 : Sm (gfMul S S ms p) := gfMul_sm hp hp2
      have b1 : (gfMul F S ms p).length ≤ 50 := gfMul_length hm
      have b2 : (gfMul S S ms p).length ≤ 50 := gfMul_length hm
      refine powL_ok hp hp2 hm k _ _ _ ?_ ?_ ?_ ?_ <;> split <;> assumption
theorem gfPow_ok {xs ms : List Int} {n : Nat} {p : Int} (hp : 2 ≤ p) (hp2 : p ≤ 1000) (hm : ms.length ≤ 50) (h : Sm xs) (hl : xs.length ≤ 50) : Sm (gfPow xs n ms p) ∧ (gfPow xs n ms p).length ≤ 50 :=
  powL_ok hp hp2 hm _ _ _ _ Sm.one (by decide) h hl
theorem tryL_ok {ms : List Int} {k : Int} (h0 : 0 ≤ k) (h1 : k < 1000) : Sm (tryL ms k) ∧ (tryL ms k).length ≤ 50 := by
  unfold tryL
  split
  · exact ⟨fun x hx => by rw [List.mem_singleton.mp hx]; exact ⟨h0, h1⟩, by simp⟩
  · refine ⟨fun x hx => ?_, by simp⟩
    rcases List.mem_cons.mp hx with rfl | hx
    · exact ⟨h0, h1⟩
    · rw [List.mem_singleton.mp hx]; decide
theorem zL_ok {ms : List Int} {q : Int} {power : Nat} {first : Int} (hq : 2 ≤ q) (hq2 : q ≤ 1000) (hm : ms.length ≤ 50) : ∀ k, Sm (zL ms q power first k) ∧ (zL ms q power first k).length ≤ 50
  | 0 => ⟨Sm.one, by rw [zL]; decide⟩
  | k + 1 => by
    rw [zL, zStep]
    have := fmod_bd (first + 1 + (k : Int)) (p := q) (by omega)
    split
    · exact gfPow_ok hq hq2 hm (tryL_ok this.1 (by omega)).1 (tryL_ok this.1 (by omega)).2
    · exact zL_ok hq hq2 hm k
theorem sm1 {k : Int} (h0 : 0 ≤ k) (h1 : k < 1000) : Sm [k] := fun x hx => by rw [List.mem_singleton.mp hx]; exact ⟨h0, h1⟩
theorem sm2 {k : Int} (h0 : 0 ≤ k) (h1 : k < 1000) : Sm [k, 1] := fun x hx => by
  rcases List.mem_cons.mp hx with rfl | hx
  · exact ⟨h0, h1⟩
  · rw [List.mem_singleton.mp hx]; decide

section
variable {ms : List Int} {q : Int} {pw : Nat} {x : Int} {i : Nat}
theorem zL_no (h : zL ms q pw x i ≠ [1] ∨ (¬ 0 < Int.fmod (x + 1 + (i : Int)) q ∧ ¬ 2 < (ms.length : Int))) : zL ms q pw x (i + 1) = zL ms q pw x i := by
  rw [zL, zStep, if_neg]
  rintro ⟨h1, h2⟩
  rcases h with h | ⟨h3, h4⟩
  · exact h h1
  · rcases h2 with h2 | h2
    · exact h3 h2
    · exact h4 (by omega)
theorem zL_one (h1 : zL ms q pw x i = [1]) (h2 : 0 < Int.fmod (x + 1 + (i : Int)) q ∨ 2 < (ms.length : Int)) (h3 : (ms.length : Int) = 2) : zL ms q pw x (i + 1) = gfPow [Int.fmod (x + 1 + (i : Int)) q] pw ms q := by
  rw [zL, zStep, if_pos ⟨h1, h2.imp id fun h => by omega⟩, tryL, if_pos (by omega)]
theorem zL_two (h1 : zL ms q pw x i = [1]) (h2 : 0 < Int.fmod (x + 1 + (i : Int)) q ∨ 2 < (ms.length : Int)) (h3 : (ms.length : Int) ≠ 2) : zL ms q pw x (i + 1) = gfPow [Int.fmod (x + 1 + (i : Int)) q, 1] pw ms q := by
  rw [zL, zStep, if_pos ⟨h1, h2.imp id fun h => by omega⟩, tryL, if_neg (by omega)]
end

section
variable {prog : Program} {w : World} {A : Around} {E : Value → Shared → Prop} {s : Shared}
theorem last_item {value slice : PySem.Expr} {l : Addr} {ps : List Value} {v : Value} {u : Tok} {Q : Value → Shared → Prop} (hl : s.heap.IsList l (List.toArray (ps ++ [v]))) (hn : ps.length ≤ 1000) (h : Q v s)
    (hs : subscripted slice false (.ref l) (.int (-1) u) = operate [.ref l, .int (-1) u] (getItem (.ref l) (.int (-1) u))) :
    wpAny (model prog w) A (subscriptTail value slice (.ref l) (.int (-1) u)) Q E s := by
  have hz : (List.toArray (ps ++ [v])).size = ps.length + 1 := by simp
  refine tail_any hl.typeIs slot_list_getitem.lookup (wpAny_getItem_list_neg hl (by decide) (by rw [hz]; omega) (by decide) ?_ h) hs
  rw [hz, show ((-1 : Int) + ((ps.length + 1 : Nat) : Int)).toNat = ps.length by omega]
  simp
end

theorem addL_bd {xs ys : List Int} {p : Int} (hp : 0 < p) : Bd p (addL xs ys p) := by
  unfold addL
  refine Bd.trim fun x hx => ?_
  obtain ⟨i, _, rfl⟩ := List.mem_map.mp hx
  exact fmod_bd _ hp
theorem addL_length {xs ys : List Int} {p : Int} {n : Nat} (h1 : xs.length ≤ n) (h2 : ys.length ≤ n) : (addL xs ys p).length ≤ n := by
  unfold addL
  refine Nat.le_trans (trim_length _) ?_
  rw [List.length_map, List.length_range]; omega
theorem scaleL_length {xs : List Int} {k p : Int} : (scaleL xs k p).length ≤ xs.length := by
  unfold scaleL
  refine Nat.le_trans (trim_length _) ?_
  rw [List.length_map]; exact Nat.le_refl _
theorem signL_bd (n p : Int) : -1 ≤ signL n p ∧ signL n p ≤ 1 := by unfold signL; split <;> decide
theorem addL_sm {xs ys : List Int} {p : Int} (hp : 2 ≤ p) (hp2 : p ≤ 1000) : Sm (addL xs ys p) := fun x hx => by
  have := addL_bd (xs := xs) (ys := ys) (p := p) (by omega) x hx
  omega
theorem sumL_ok {ms z : List Int} {p q : Int} (hq : 2 ≤ q) (hq2 : q ≤ 1000) (hm : ms.length ≤ 50) : ∀ k, Sm (sumL ms z p q k).1 ∧ (sumL ms z p q k).1.length ≤ 50 ∧ (sumL ms z p q k).2.1.length ≤ 50 ∧ (sumL ms z p q k).2.2.length ≤ 50 ∧ Sm (sumL ms z p q k).2.2
  | 0 => ⟨Sm.one, by simp [sumL], by simp [sumL], by simp [sumL], fun _ h => nomatch h⟩
  | k + 1 => by
    have ih := sumL_ok (p := p) (z := z) hq hq2 hm k
    exact ⟨gfMul_sm hq hq2, gfMul_length hm, addL_length ih.2.2.1 (gfMul_length hm), addL_length ih.2.2.2.1 (Nat.le_trans scaleL_length (gfMul_length hm)), addL_sm hq hq2⟩

theorem fld2 {m m₁ : Str → Option Value} {ks : List Str} {k k' : Str} {v v' : Value} (hk : m₁ k = some v) (hk' : m₁ k' = some v') (hm : ∀ z, ks.contains z = false → m₁ z = m z) :
    m₁ = fun y => if y = k then some v else if y = k' then some v' else if ks.contains y = true then m₁ y else m y := by
  funext y
  by_cases e : y = k
  · rw [if_pos e, e, hk]
  · rw [if_neg e]
    by_cases e' : y = k'
    · rw [if_pos e', e', hk']
    · rw [if_neg e']
      cases h : ks.contains y with
      | true => simp
      | false => simp [hm y h]
section
variable {ms z : List Int} {p q : Int} {k : Nat}
theorem sumL1 : (sumL ms z p q (k + 1)).1 = gfMul (sumL ms z p q k).1 z ms q := rfl
theorem sumL2 : (sumL ms z p q (k + 1)).2.1 = addL (sumL ms z p q k).2.1 (gfMul (sumL ms z p q k).1 z ms q) q := rfl
theorem sumL3 : (sumL ms z p q (k + 1)).2.2 = addL (sumL ms z p q k).2.2 (scaleL (gfMul (sumL ms z p q k).1 z ms q) (signL (1 + (k : Int)) p) q) q := rfl
end

/-- a fact that the arithmetic is not to see -/
structure HidP (p : Prop) : Prop where
  out : p

theorem endOk_facts {ms z : List Int} {p q : Int} {l total g : List Int} (h : endOk ms z p q l total g = true) : z ≠ [1] ∧ gfMul l z ms q = [1] ∧ total = [] ∧ gfMul g g ms q = [Int.fmod (numOf p) q] ∧
    gfPow g q.toNat ms q = scaleL g (signL q p) q ∧ (decide (gfPow [Int.fmod (numOf p) q] ((q - 1) / 2).toNat [0, 1] q = [1]) == (signL q p == 1)) = true := by
  unfold endOk at h
  simp only [Bool.and_eq_true, Bool.not_eq_true', decide_eq_false_iff_not, decide_eq_true_eq] at h
  obtain ⟨⟨⟨⟨⟨h1, h2⟩, h3⟩, h4⟩, h5⟩, h6⟩ := h
  exact ⟨h1, h2, h3, h4, h5, h6⟩

theorem gfpow_specI (w : World) (loose : List Str) (mean : ExcName → Option Value) (mg mb : Str → Option Value) (s : Shared) (a c : Addr) (t tn : Tok) (vs cs : List Value) (xs ms : List Int) (n p : Int) (X : (Mine.hd.heap_39 w.params).In s.heap) (T : Top Mine.hd.view_39 loose mean mg mb s.heap)
    (hl : s.heap.IsList a vs.toArray) (hi : IntsAre vs xs) (hl2 : s.heap.IsList c cs.toArray) (hi2 : IntsAre cs ms) (hf : xs.length ≤ 50) (hb : Sm xs) (hm : Mon ms) (h0 : 0 ≤ n) (hn : n < 1000) (hp : 2 ≤ p) (hp2 : p ≤ 1000) :
    Spec w 149 [.ref a, .int n tn, .ref c, .int p t] 6 s (fun h' v => NewL s.heap h' v (gfPow xs n.toNat ms p)) := by
  obtain ⟨k, rfl⟩ := Int.eq_ofNat_of_zero_le h0
  exact gfpow_spec w loose mean mg mb s a c t tn vs cs xs ms k p X T hl hi hl2 hi2 hf hb hm (by omega) hp hp2
theorem use_val {w : World} {f : Addr} {vs : List Value} {need : Nat} {s : Shared} {v : Value} {dp un : Nat} {fr : Option (List Env)} {gd : Option (List Code)} {Q E : Value → Shared → Prop}
    {g : Heap} {L : Addr} {m : Str → Option Value} {news : List (Addr × Obj)}
    (F : Fr g L s.heap m) (N : News g L s.heap news)
    (sp : Spec w f vs need s (fun _ v' => v' = v))
    (hd : dp + need < recursionLimit) (hu : un + 8 * need + 100 < cLine)
    (h : ∀ h' tk', Fr g L h' m → News g L h' news → Q v { s with heap := h', toks := tk' }) :
    wpAny (model PySem.Challenge.rw_tk0018_01.prog w) (AR dp un fr gd) (call (.ref f) vs) Q E s := by
  refine sp dp un fr gd Q E hd hu ?_
  rintro v' h' tk' st rfl
  exact h h' tk' ⟨F.ns.keeps st, fun b o e => st b o (F.keep b o e), F.above⟩ (fun p hp => ⟨st _ _ (N p hp).1, (N p hp).2⟩)

local macro_rules | `(tactic| walk_at "Mine stepsT") => `(tactic| repeat' (first | (k_unfold; (try dsimp only)) | (k_end; kc_close) | ((fail_if_success (with_reducible show wpAny _ _ (pyIter _) _ _ _)); (fail_if_success (with_reducible show wpAny _ _ (subscriptTail (Expr.Tuple _ _ _) _ _ _) _ _ _)); first | walk1 | (dsimp only; walk1) | (leave1; walk_say "STEP leave1"; (try dsimp only))) | fail "no step"))
local macro_rules | `(tactic| walk_at "Mine side") => `(tactic| first | assumption | (simp only [List.length_cons, List.length_nil]; omega) | omega | exact sm1 (by omega) (by omega) | exact sm2 (by omega) (by omega) | (unfold Sm at *; assumption) | fail "Mine side")
local macro_rules | `(tactic| walk_at "Mine called2") => `(tactic| (walk_at "Mine call sides"; intro b' us' n' h' tk' F' N' l1 hI'; (try simp only [List.forall_mem_cons, List.forall_mem_nil, and_true] at l1); replace l1 := HidP.mk l1; (try k_sweep); (try k_fold)))
local macro_rules | `(tactic| walk_at "call ref") => `(tactic| (k_here; (with_reducible show wpAny _ _ (PySem.call (Value.ref 149) _) _ _ _); k_dflt (refine' use_list ?mF ?mN (gfpow_spec _ _ _ _ _ _ _ _ _ _ _ _ _ _ _ _ ?mX ?mT ?ml ?mi ?ml2 ?mi2 ?m4 ?m5 ?m6 ?m7 ?m8 ?m9) ?md ?mu ?_); (case ml | ml2 => walk_at "Mine list"); (case mi | mi2 => walk_at "Mine ints"); (case m4 | m5 | m6 | m7 | m8 | m9 => walk_at "Mine side"); walk_at "Mine called"))
local macro_rules | `(tactic| walk_at "Mine own") => `(tactic| (intro p hp; (repeat (first | exact hp | refine List.mem_cons_of_mem _ ?_))))
local macro_rules | `(tactic| walk_at "subscriptTail Name UnaryOp ref int") => `(tactic| (k_here; (with_reducible show wpAny _ _ (subscriptTail _ _ (Value.ref _) (Value.int _ _)) _ _ _); k_dflt (refine' last_item ?ml ?mn ?_ ?ms; (case ml => walk_at "Mine list"); (case mn => ((try simp only [List.length_append, List.length_cons, List.length_nil]); omega)); (case ms => with_unfolding_all rfl))))
local macro_rules | `(tactic| walk_at "call builtin:list.append") => `(tactic| (k_here; (with_reducible show wpAny _ _ (call (Value.builtin _) [Value.ref _, _]) _ _ _); k_dflt (refine' append_K ?k1 ?k2 ?k3 ?_ ?z; (case k1 | k2 => k_asm); (case k3 => k_upd); (case z => ((simp only [List.size_toArray, List.length_append, List.length_cons, List.length_nil, PySem.sizeLine_eq]); omega)); k_whole); intro h' F' N'; (simp only [List.push_toArray] at N'); (try k_sweep)))
local macro_rules | `(tactic| walk_at "call ref") => `(tactic| (k_here; (with_reducible show wpAny _ _ (PySem.call (Value.ref 69) _) _ _ _); k_dflt (refine' use_list ?mF ?mN (madd_spec _ _ _ _ _ _ _ _ _ _ _ _ _ _ ?mX ?mT ?ml ?mi ?ml2 ?mi2 ?m4 ?m5 ?m6) ?md ?mu ?_); (case ml | ml2 => walk_at "Mine list"); (case mi | mi2 => walk_at "Mine ints"); (case m4 | m5 | m6 => walk_at "Mine side"); walk_at "Mine called2"))
local macro_rules | `(tactic| walk_at "call ref") => `(tactic| (k_here; (with_reducible show wpAny _ _ (PySem.call (Value.ref 86) _) _ _ _); k_dflt (refine' use_list ?mF ?mN (mscale_spec _ _ _ _ _ _ _ _ _ _ _ _ _ ?mX ?mT ?ml ?mi ?m4 ?m5 ?m6 ?m7) ?md ?mu ?_); (case ml => walk_at "Mine list"); (case mi => walk_at "Mine ints"); (case m4 | m5 | m6 | m7 => walk_at "Mine side"); walk_at "Mine called2"))
local macro_rules | `(tactic| walk_at "call ref") => `(tactic| (k_here; (with_reducible show wpAny _ _ (PySem.call (Value.ref 168) _) _ _ _); k_dflt (refine' use_int ?mF ?mN (sign_spec _ _ _ _ _ _ _ _ _ _ ?mX ?mT ?m4 ?m5 ?m6 ?m7) ?md ?mu ?_); (case m4 | m5 | m6 | m7 => walk_at "Mine side"); walk_at "Mine call sides"; intro t' h' tk' F' N'; (try k_sweep); (try k_fold)))

/-- the same sums in a shape that the kernel works out sooner: the row is laid on by walking down the list once -/
noncomputable def row0F (x p : Int) : List Int → List Int → List Int
  | [], f => f
  | _ :: _, [] => []
  | y :: r, a :: f => Int.fmod (a + x * y) p :: row0F x p r f
noncomputable def rowF (x p : Int) (r : List Int) : Nat → List Int → List Int
  | 0, f => row0F x p r f
  | _ + 1, [] => []
  | k + 1, a :: f => a :: rowF x p r k f
theorem mulRow_nil {x p : Int} : ∀ (r : List Int) (k : Nat), mulRow x p r k [] = []
  | [], _ => rfl
  | y :: r, k => by rw [mulRow, List.set_nil, mulRow_nil r]
theorem mulRow_succ {x p : Int} : ∀ (r : List Int) (k : Nat) (a : Int) (f : List Int), mulRow x p r (k + 1) (a :: f) = a :: mulRow x p r k f
  | [], _, _, _ => rfl
  | y :: r, k, a, f => by rw [mulRow, mulRow, List.set_cons_succ, List.getD_cons_succ, mulRow_succ r]
theorem mulRow_zero {x p : Int} : ∀ (r f : List Int), mulRow x p r 0 f = row0F x p r f
  | [], f => by rw [mulRow, row0F]
  | y :: r, [] => by rw [mulRow_nil, row0F]
  | y :: r, a :: f => by rw [mulRow, List.set_cons_zero, List.getD_cons_zero, mulRow_succ, mulRow_zero r, row0F]
theorem mulRow_fast {x p : Int} (r : List Int) : ∀ (k : Nat) (f : List Int), mulRow x p r k f = rowF x p r k f
  | 0, f => by rw [mulRow_zero, rowF]
  | k + 1, [] => by rw [mulRow_nil, rowF]
  | k + 1, a :: f => by rw [mulRow_succ, mulRow_fast r k, rowF]
noncomputable def rowsF (ys : List Int) (p : Int) : List Int → Nat → List Int → List Int
  | [], _, f => f
  | x :: r, k, f => rowsF ys p r (k + 1) (if x = 0 then f else rowF x p ys k f)
theorem mulRows_fast {ys : List Int} {p : Int} : ∀ (r : List Int) (k : Nat) (f : List Int), mulRows ys p r k f = rowsF ys p r k f
  | [], _, _ => rfl
  | x :: r, k, f => by rw [mulRows, rowsF, mulRow_fast, mulRows_fast r]
noncomputable def divF (ys : List Int) (p : Int) : Nat → List Int → List Int
  | 0, f => f
  | k + 1, f => divF ys p k (if Int.fmod (f.getD (k + ys.length - 1) 0 * 1) p = 0 then f else rowF (-Int.fmod (f.getD (k + ys.length - 1) 0 * 1) p) p ys k f)
theorem divRows_fast {ys : List Int} {p : Int} : ∀ (k : Nat) (f : List Int), divRows ys p k f = divF ys p k f
  | 0, _ => rfl
  | k + 1, f => by rw [divRows, divF, mulRow_fast, divRows_fast k]
noncomputable def mulF (xs ys : List Int) (p : Int) : List Int := if xs.length = 0 ∨ ys.length = 0 then [] else trim (rowsF ys p xs 0 (List.replicate (xs.length + ys.length - 1) 0))
noncomputable def restF (xs ys : List Int) (p : Int) : List Int := trim ((divF ys p (xs.length + 1 - ys.length) xs).take (ys.length - 1))
noncomputable def gfMulF (xs ys m : List Int) (p : Int) : List Int := restF (mulF xs ys p) m p
theorem gfMul_fast (xs ys m : List Int) (p : Int) : gfMul xs ys m p = gfMulF xs ys m p := by
  rw [gfMul, gfMulF, restL, restF, mulL, mulF, divRows_fast, mulRows_fast]
noncomputable def powF (ms : List Int) (p : Int) : Nat → Nat → List Int → List Int → List Int
  | 0, _, F, _ => F
  | k + 1, n, F, S => if n = 0 then F else powF ms p k (n / 2) (if n % 2 = 1 then gfMulF F S ms p else F) (if 0 < n / 2 then gfMulF S S ms p else S)
theorem powL_fast {ms : List Int} {p : Int} : ∀ (k n : Nat) (F S : List Int), powL ms p k n F S = powF ms p k n F S
  | 0, _, _, _ => rfl
  | k + 1, n, F, S => by rw [powL, powF, gfMul_fast, gfMul_fast, powL_fast k]
noncomputable def gfPowF (xs : List Int) (n : Nat) (ms : List Int) (p : Int) : List Int := powF ms p 20 n [1] xs
theorem gfPow_fast (xs : List Int) (n : Nat) (ms : List Int) (p : Int) : gfPow xs n ms p = gfPowF xs n ms p := powL_fast ..
theorem zL_stay {ms : List Int} {q : Int} {power : Nat} {first : Int} {i : Nat} (h : zL ms q power first i ≠ [1]) : ∀ n : Nat, zL ms q power first (i + n) = zL ms q power first i
  | 0 => rfl
  | n + 1 => by rw [← Nat.add_assoc, zL, zL_stay h n, zStep, if_neg fun c => h c.1]
/-- the first tried thing's power that is not 1, from turn i on, k turns -/
noncomputable def zF (ms : List Int) (q : Int) (power : Nat) (first : Int) : Nat → Nat → List Int
  | 0, _ => [1]
  | k + 1, i =>
    if 0 < Int.fmod (first + 1 + (i : Int)) q ∨ 2 < ms.length then
      (if gfPowF (tryL ms (Int.fmod (first + 1 + (i : Int)) q)) power ms q = [1] then zF ms q power first k (i + 1) else gfPowF (tryL ms (Int.fmod (first + 1 + (i : Int)) q)) power ms q)
    else zF ms q power first k (i + 1)
theorem zL_from {ms : List Int} {q : Int} {power : Nat} {first : Int} : ∀ k i : Nat, zL ms q power first i = [1] → zL ms q power first (i + k) = zF ms q power first k i
  | 0, _, h => h
  | k + 1, i, h => by
    have e : i + (k + 1) = (i + 1) + k := by omega
    have s : zL ms q power first (i + 1) = if 0 < Int.fmod (first + 1 + (i : Int)) q ∨ 2 < ms.length then gfPowF (tryL ms (Int.fmod (first + 1 + (i : Int)) q)) power ms q else [1] := by
      rw [zL, zStep, h, gfPow_fast]
      by_cases c : 0 < Int.fmod (first + 1 + (i : Int)) q ∨ 2 < ms.length
      · rw [if_pos ⟨rfl, c⟩, if_pos c]
      · rw [if_neg fun d => c d.2, if_neg c]
    rw [e, zF]
    by_cases c : 0 < Int.fmod (first + 1 + (i : Int)) q ∨ 2 < ms.length
    · rw [if_pos c] at s ⊢
      by_cases d : gfPowF (tryL ms (Int.fmod (first + 1 + (i : Int)) q)) power ms q = [1]
      · rw [if_pos d]
        exact zL_from k (i + 1) (s.trans d)
      · rw [if_neg d, zL_stay (by rw [s]; exact d) k, s]
    · rw [if_neg c] at s ⊢
      exact zL_from k (i + 1) s
theorem zL_fast {ms : List Int} {q : Int} {power : Nat} {first : Int} (k : Nat) : zL ms q power first k = zF ms q power first k 0 := by
  have := zL_from (ms := ms) (q := q) (power := power) (first := first) k 0 rfl
  rwa [Nat.zero_add] at this
noncomputable def sumF (ms z : List Int) (p q : Int) : Nat → List Int × List Int × List Int
  | 0 => ([1], [1], [])
  | k + 1 =>
    let r := sumF ms z p q k
    let l := gfMulF r.1 z ms q
    (l, addL r.2.1 l q, addL r.2.2 (scaleL l (signL (1 + (k : Int)) p) q) q)
theorem sumL_fast {ms z : List Int} {p q : Int} : ∀ k : Nat, sumL ms z p q k = sumF ms z p q k
  | 0 => rfl
  | k + 1 => by rw [sumL, sumF, sumL_fast k, gfMul_fast]
noncomputable def endF (ms z : List Int) (p q : Int) (l total g : List Int) : Bool :=
  !decide (z = [1]) && decide (gfMulF l z ms q = [1]) && decide (total = []) && decide (gfMulF g g ms q = [Int.fmod (numOf p) q]) &&
    decide (gfPowF g q.toNat ms q = scaleL g (signL q p) q) && (decide (gfPowF [Int.fmod (numOf p) q] ((q - 1) / 2).toNat [0, 1] q = [1]) == (signL q p == 1))
theorem endOk_fast (ms z : List Int) (p q : Int) (l total g : List Int) : endOk ms z p q l total g = endF ms z p q l total g := by
  unfold endOk endF
  simp only [gfMul_fast, gfPow_fast]
noncomputable def zOkF (ms z : List Int) (p q : Int) : Bool := let r := sumF ms z p q (p - 1).toNat; endF ms z p q r.1 r.2.1 r.2.2
theorem zOk_fast (ms z : List Int) (p q : Int) : zOk ms z p q = zOkF ms z p q := by
  unfold zOk zOkF
  rw [endOk_fast, sumL_fast]

/-- what the first tried thing's power comes to is one of these -/
noncomputable def among (ms : List Int) (p q : Int) (roots : List (List Int)) (x : Nat) : Bool := decide (zF ms q (powOf p q ms) (x : Int) q.toNat 0 ∈ roots)
def rowOk (ms : List Int) (p q : Int) (roots : List (List Int)) : Prop := (∀ x, x < q.toNat → among ms p q roots x = true) ∧ roots.all (fun z => zOkF ms z p q) = true
theorem among_all {ms : List Int} {p q : Int} {roots : List (List Int)} (h : (List.range q.toNat).all (fun x => among ms p q roots x) = true) : ∀ x, x < q.toNat → among ms p q roots x = true :=
  fun x hx => List.all_eq_true.mp h x (List.mem_range.mpr hx)
theorem row0 : rowOk [3, 0, 1] 3 5 [[2, 3], [2, 2]] := ⟨among_all (by decide +kernel), by decide +kernel⟩
theorem row1 : rowOk [0, 1] 3 7 [[4], [2]] := ⟨among_all (by decide +kernel), by decide +kernel⟩
theorem row2 : rowOk [2, 1, 0, 0, 1] 5 3 [[2, 2, 2], [2, 0, 2], [2, 1, 0, 2]] := ⟨among_all (by decide +kernel), by decide +kernel⟩
theorem row3 : rowOk [0, 1] 5 11 [[4], [9], [5], [3]] := ⟨among_all (by decide +kernel), by decide +kernel⟩
theorem row4 : rowOk [17, 0, 1] 5 19 [[7, 10], [7, 9], [2, 7], [2, 12]] := ⟨among_all (by decide +kernel), by decide +kernel⟩
theorem row5 : rowOk [11, 0, 1] 7 13 [[4, 1], [5, 5], [10, 11], [10, 2], [5, 8], [4, 12]] := ⟨among_all (by decide +kernel), by decide +kernel⟩
theorem row6 : rowOk [0, 1] 7 29 [[16], [23], [24], [20], [7], [25]] := ⟨among_all (by decide +kernel), by decide +kernel⟩
theorem row7 : rowOk [3, 0, 0, 0, 1] 13 5 [[3, 2, 4], [3, 1, 1], [3, 4, 1], [3, 3, 4]] := ⟨among_all (by decide +kernel), by decide +kernel⟩
theorem row8 : rowOk [9, 0, 1] 3 11 [[5, 10], [5, 1]] := ⟨among_all (by decide +kernel), by decide +kernel⟩
noncomputable def roots9 : List (List Int) := [[3, 11, 9, 8], [3, 10, 4, 1], [3, 3, 4, 12], [3, 2, 9, 5]]
theorem r9at0 : among [11, 0, 0, 0, 1] 5 13 roots9 0 = true := by decide +kernel
theorem r9at1 : among [11, 0, 0, 0, 1] 5 13 roots9 1 = true := by decide +kernel
theorem r9at2 : among [11, 0, 0, 0, 1] 5 13 roots9 2 = true := by decide +kernel
theorem r9at3 : among [11, 0, 0, 0, 1] 5 13 roots9 3 = true := by decide +kernel
theorem r9at4 : among [11, 0, 0, 0, 1] 5 13 roots9 4 = true := by decide +kernel
theorem r9at5 : among [11, 0, 0, 0, 1] 5 13 roots9 5 = true := by decide +kernel
theorem r9at6 : among [11, 0, 0, 0, 1] 5 13 roots9 6 = true := by decide +kernel
theorem r9at7 : among [11, 0, 0, 0, 1] 5 13 roots9 7 = true := by decide +kernel
theorem r9at8 : among [11, 0, 0, 0, 1] 5 13 roots9 8 = true := by decide +kernel
theorem r9at9 : among [11, 0, 0, 0, 1] 5 13 roots9 9 = true := by decide +kernel
theorem r9at10 : among [11, 0, 0, 0, 1] 5 13 roots9 10 = true := by decide +kernel
theorem r9at11 : among [11, 0, 0, 0, 1] 5 13 roots9 11 = true := by decide +kernel
theorem r9at12 : among [11, 0, 0, 0, 1] 5 13 roots9 12 = true := by decide +kernel
theorem r9all : roots9.all (fun z => zOkF [11, 0, 0, 0, 1] z 5 13) = true := by decide +kernel
theorem row9 : rowOk [11, 0, 0, 0, 1] 5 13 roots9 := by
  refine ⟨fun n hn => ?_, r9all⟩
  have hn' : n < 13 := hn
  have h13 : n = 0 ∨ n = 1 ∨ n = 2 ∨ n = 3 ∨ n = 4 ∨ n = 5 ∨ n = 6 ∨ n = 7 ∨ n = 8 ∨ n = 9 ∨ n = 10 ∨ n = 11 ∨ n = 12 := by omega
  rcases h13 with rfl | rfl | rfl | rfl | rfl | rfl | rfl | rfl | rfl | rfl | rfl | rfl | rfl
  · exact r9at0
  · exact r9at1
  · exact r9at2
  · exact r9at3
  · exact r9at4
  · exact r9at5
  · exact r9at6
  · exact r9at7
  · exact r9at8
  · exact r9at9
  · exact r9at10
  · exact r9at11
  · exact r9at12
theorem row_at {ms : List Int} {p q x : Int} {roots : List (List Int)} (h : rowOk ms p q roots) (h0 : 0 ≤ x) (h1 : x < q) : zOkF ms (zF ms q (powOf p q ms) x q.toNat 0) p q = true := by
  have hm := of_decide_eq_true (h.1 x.toNat (by omega))
  rw [Int.toNat_of_nonneg h0] at hm
  exact List.all_eq_true.mp h.2 _ hm
theorem row_ok {f p q : Int} {ms : List Int} (h0 : 0 ≤ f) (h1 : f < 10) (hpq : tabPQ[f.toNat]? = some (p, q)) (hm : tabM[f.toNat]? = some ms) : ∃ roots, rowOk ms p q roots := by
  have h10 : f = 0 ∨ f = 1 ∨ f = 2 ∨ f = 3 ∨ f = 4 ∨ f = 5 ∨ f = 6 ∨ f = 7 ∨ f = 8 ∨ f = 9 := by omega
  rcases h10 with rfl | rfl | rfl | rfl | rfl | rfl | rfl | rfl | rfl | rfl
  · obtain ⟨rfl, rfl⟩ := Prod.mk.inj (Option.some.inj hpq); obtain rfl := Option.some.inj hm; exact ⟨_, row0⟩
  · obtain ⟨rfl, rfl⟩ := Prod.mk.inj (Option.some.inj hpq); obtain rfl := Option.some.inj hm; exact ⟨_, row1⟩
  · obtain ⟨rfl, rfl⟩ := Prod.mk.inj (Option.some.inj hpq); obtain rfl := Option.some.inj hm; exact ⟨_, row2⟩
  · obtain ⟨rfl, rfl⟩ := Prod.mk.inj (Option.some.inj hpq); obtain rfl := Option.some.inj hm; exact ⟨_, row3⟩
  · obtain ⟨rfl, rfl⟩ := Prod.mk.inj (Option.some.inj hpq); obtain rfl := Option.some.inj hm; exact ⟨_, row4⟩
  · obtain ⟨rfl, rfl⟩ := Prod.mk.inj (Option.some.inj hpq); obtain rfl := Option.some.inj hm; exact ⟨_, row5⟩
  · obtain ⟨rfl, rfl⟩ := Prod.mk.inj (Option.some.inj hpq); obtain rfl := Option.some.inj hm; exact ⟨_, row6⟩
  · obtain ⟨rfl, rfl⟩ := Prod.mk.inj (Option.some.inj hpq); obtain rfl := Option.some.inj hm; exact ⟨_, row7⟩
  · obtain ⟨rfl, rfl⟩ := Prod.mk.inj (Option.some.inj hpq); obtain rfl := Option.some.inj hm; exact ⟨_, row8⟩
  · obtain ⟨rfl, rfl⟩ := Prod.mk.inj (Option.some.inj hpq); obtain rfl := Option.some.inj hm; exact ⟨_, row9⟩
theorem law_ok {f p q x : Int} {ms : List Int} (h0 : 0 ≤ f) (h1 : f < 10) (hpq : tabPQ[f.toNat]? = some (p, q)) (hm : tabM[f.toNat]? = some ms) (hx0 : 0 ≤ x) (hx1 : x < q) :
    zOk ms (zL ms q (powOf p q ms) x q.toNat) p q = true := by
  rw [zOk_fast, zL_fast]
  obtain ⟨_, h⟩ := row_ok h0 h1 hpq hm
  exact row_at h hx0 hx1

theorem zOk_facts {ms z : List Int} {p q : Int} (h : zOk ms z p q = true) : z ≠ [1] ∧ gfMul (sumL ms z p q (p - 1).toNat).1 z ms q = [1] ∧ (sumL ms z p q (p - 1).toNat).2.1 = [] ∧ gfMul (sumL ms z p q (p - 1).toNat).2.2 (sumL ms z p q (p - 1).toNat).2.2 ms q = [Int.fmod (numOf p) q] ∧
    gfPow (sumL ms z p q (p - 1).toNat).2.2 q.toNat ms q = scaleL (sumL ms z p q (p - 1).toNat).2.2 (signL q p) q ∧ (decide (gfPow [Int.fmod (numOf p) q] ((q - 1) / 2).toNat [0, 1] q = [1]) == (signL q p == 1)) = true := by
  unfold zOk at h
  exact endOk_facts h
theorem tab_facts {f p q : Int} {ms : List Int} (h0 : 0 ≤ f) (h1 : f < 10) (hpq : tabPQ[f.toNat]? = some (p, q)) (hm : tabM[f.toNat]? = some ms) :
    3 ≤ p ∧ p ≤ 13 ∧ 3 ≤ q ∧ q ≤ 29 ∧ Mon ms ∧ 2 ≤ ms.length ∧ ms.length ≤ 5 ∧ Int.fdiv (q ^ ((ms.length : Int) - 1).toNat - 1) p = (powOf p q ms : Int) ∧ powOf p q ms < 2 ^ 20 := by
  have h10 : f = 0 ∨ f = 1 ∨ f = 2 ∨ f = 3 ∨ f = 4 ∨ f = 5 ∨ f = 6 ∨ f = 7 ∨ f = 8 ∨ f = 9 := by omega
  rcases h10 with rfl | rfl | rfl | rfl | rfl | rfl | rfl | rfl | rfl | rfl <;>
    (obtain ⟨rfl, rfl⟩ := Prod.mk.inj (Option.some.inj hpq); obtain rfl := Option.some.inj hm
     exact ⟨by decide, by decide, by decide, by decide, ⟨by decide, by decide, by decide, by decide⟩, by decide, by decide, by decide +kernel, by decide +kernel⟩)

theorem law_run (w : World) (loose : List Str) (mean : ExcName → Option Value) (mg mb : Str → Option Value) : ∀ (s : Shared) (l : Addr) (vs : List Value) (ns : List Int) (R : Result → Shared → Prop), (Mine.hd.heap_39 w.params).In s.heap → Top Mine.hd.view_39 loose mean mg mb s.heap →
    s.heap.IsList l vs.toArray → IntsAre vs ns → ns.length ≤ 63 → (∀ h' tk', s.heap.StaysIn h' → R (.ok (.ret (.bool true))) { s with heap := h', toks := tk' }) →
    codeAny (model PySem.Challenge.rw_tk0018_01.prog w) callerA (.call (.ref 173) ⟨[.ref l], []⟩) R s := by
  w_top off
  k_fill
  intro s l vs ns R X T hl hi hf hret
  have B0 := below_caller s.heap
  k_dflt (refine' enterA (binds := [("script", .ref l)]) ?kX ?kT ?k6 ?k7 ?k8 ?k9 ?kB ?c2 ?c3 ?c4 ?c5 ?_)
  (case kX => assumption)
  (case kT => assumption)
  (case k6 => k_is)
  (case k7 => k_is)
  (case k8 => decide)
  (case k9 => exact BindsTo.of_eq rfl)
  (case kB => exact locs rfl)
  (case c2 => exact rfl)
  (case c3 => exact rfl)
  (case c4 => exact rfl)
  (case c5 => decide)
  intro g L h1 e F1 N1 X1 T1
  subst e
  (try dsimp only)
  with_reducible refine seq_cut (fun s' => ∃ h' tk' a b us cs n1 n2 t0, s' = { s with heap := h', toks := tk' } ∧ Fr s.heap L h' (fun y => if y = ("pool" : Str) then some (.ref a) else List.lookup y [(("script" : Str), Value.ref l)].reverse) ∧
    News s.heap L h' [(a, W.listOf #[.ref b, .int 0 t0] n1), (b, W.listOf (List.toArray us) n2)] ∧ IntsAre us cs ∧ cs.length ≤ 2 ∧ @LT.lt Nat _ b a) ?_ ?_
  -- <<
  · (try k_fold)
    walk_at "Mine steps"
    rename IntsAre _ (List.map _ _) => hI8
    rename News _ _ _ _ => N9
    exact Cut.mk ⟨_, _, _, _, _, _, _, _, _, rfl, by k_asm, kst_newsOf N9 (by walk_at "Mine all mem"), hI8, by simp only [List.length_map, List.length_take]; omega, by omega⟩
  -- >>
  clear F1 N1
  rintro s' ⟨h2, tk2, a, b, us, cs, n1, n2, t0, rfl, F2, N2, hi2, hcs, hab⟩
  with_reducible refine seq_cut (fun s' => ∃ h' tk' f tf t1, s' = { s with heap := h', toks := tk' } ∧ Fr s.heap L h' (fun y => if y = ("form" : Str) then some (.int f tf) else if y = ("pool" : Str) then some (.ref a) else List.lookup y [(("script" : Str), Value.ref l)].reverse) ∧
    News s.heap L h' [(a, W.listOf #[.ref b, .int 1 t1] n1), (b, W.listOf (List.toArray us) n2)] ∧ 0 ≤ f ∧ f < 10) ?_ ?_
  -- <<
  · (try k_fold)
    walk_at "Mine steps"
    · rename News s.heap L _ _ => N9
      rename Fr s.heap L _ _ => F9
      exact Cut.mk ⟨_, _, _, _, _, rfl, F9, kst_newsOf N9 (by walk_at "Mine all mem"), fmod_lo _ (by decide), fmod_hi _ (by decide)⟩
    · rename News s.heap L _ _ => N9
      rename Fr s.heap L _ _ => F9
      exact Cut.mk ⟨_, _, _, _, _, rfl, F9, kst_newsOf N9 (by walk_at "Mine all mem"), fmod_lo _ (by decide), fmod_hi _ (by decide)⟩
  -- >>
  clear F2 N2
  rintro s' ⟨h3, tk3, f, tf, t1, rfl, F3, N3, hf0, hf10⟩
  with_reducible refine seq_cut (fun s' => ∃ h' tk' p q tp tq, s' = { s with heap := h', toks := tk' } ∧ Fr s.heap L h' (fun y => if y = ("q" : Str) then some (.int q tq) else if y = ("p" : Str) then some (.int p tp) else if y = ("form" : Str) then some (.int f tf) else if y = ("pool" : Str) then some (.ref a) else List.lookup y [(("script" : Str), Value.ref l)].reverse) ∧
    News s.heap L h' [(a, W.listOf #[.ref b, .int 1 t1] n1), (b, W.listOf (List.toArray us) n2)] ∧ tabPQ[f.toNat]? = some (p, q)) ?_ ?_
  -- <<
  · refine Assign_Tuple (hs := by kernel_rfl) (hw := by kernel_rfl) ?_
    (try k_fold)
    walk_at "Mine stepsT"
    have h10 : f = 0 ∨ f = 1 ∨ f = 2 ∨ f = 3 ∨ f = 4 ∨ f = 5 ∨ f = 6 ∨ f = 7 ∨ f = 8 ∨ f = 9 := by omega
    rcases h10 with rfl | rfl | rfl | rfl | rfl | rfl | rfl | rfl | rfl | rfl
    all_goals (
      walk_at "Mine steps"
      rename News s.heap L _ _ => N9
      rename Fr s.heap L _ _ => F9
      exact Cut.mk ⟨_, _, _, _, _, _, rfl, F9, kst_newsOf N9 (by walk_at "Mine all mem"), rfl⟩)
  -- >>
  clear F3 N3
  rintro s' ⟨h4, tk4, p, q, tp, tq, rfl, F4, N4, hpq⟩
  with_reducible refine seq_cut (fun s' => ∃ h' tk' c cs ms n3, s' = { s with heap := h', toks := tk' } ∧ Fr s.heap L h' (fun y => if y = ("m" : Str) then some (.ref c) else if y = ("q" : Str) then some (.int q tq) else if y = ("p" : Str) then some (.int p tp) else if y = ("form" : Str) then some (.int f tf) else if y = ("pool" : Str) then some (.ref a) else List.lookup y [(("script" : Str), Value.ref l)].reverse) ∧
    News s.heap L h' [(c, W.listOf (List.toArray cs) n3), (a, W.listOf #[.ref b, .int 1 t1] n1), (b, W.listOf (List.toArray us) n2)] ∧ IntsAre cs ms ∧ tabM[f.toNat]? = some ms ∧ @LT.lt Nat _ a c) ?_ ?_
  -- <<
  · (try k_fold)
    walk_at "Mine stepsT"
    have h10 : f = 0 ∨ f = 1 ∨ f = 2 ∨ f = 3 ∨ f = 4 ∨ f = 5 ∨ f = 6 ∨ f = 7 ∨ f = 8 ∨ f = 9 := by omega
    rcases h10 with rfl | rfl | rfl | rfl | rfl | rfl | rfl | rfl | rfl | rfl
    all_goals (
      walk_at "Mine steps"
      rename News s.heap L _ _ => N9
      rename Fr s.heap L _ _ => F9
      exact Cut.mk ⟨_, _, _, _, _, _, rfl, F9, kst_newsOf N9 (by walk_at "Mine all mem"), by l_ints, rfl, by omega⟩)
  -- >>
  clear F4 N4
  rintro s' ⟨h5, tk5, c, cs, ms, n3, rfl, F5, N5, hics, hms, hac⟩
  obtain ⟨hp3, hp13, hq3, hq29, hmon, hml2, hml5, hpw, hpw2⟩ := tab_facts hf0 hf10 hpq hms
  have hmb := hmon.bd
  have hmlen := hmon.len
  with_reducible refine seq_cut (fun s' => ∃ h' tk' x tx tw z uz nz, s' = { s with heap := h', toks := tk' } ∧ Fr s.heap L h' (fun y => if y = ("power" : Str) then some (.int (powOf p q ms : Int) tw) else if y = ("first" : Str) then some (.int x tx) else if y = ("z" : Str) then some (.ref z) else if y = ("m" : Str) then some (.ref c) else if y = ("q" : Str) then some (.int q tq) else if y = ("p" : Str) then some (.int p tp) else if y = ("form" : Str) then some (.int f tf) else if y = ("pool" : Str) then some (.ref a) else List.lookup y [(("script" : Str), Value.ref l)].reverse) ∧
    News s.heap L h' [(z, W.listOf (List.toArray uz) nz), (c, W.listOf (List.toArray cs) n3)] ∧ IntsAre uz [1] ∧ 0 ≤ x ∧ x < q) ?_ ?_
  -- <<
  · (try k_fold)
    walk_at "Mine steps"
    all_goals (
      rename News s.heap L _ _ => N9
      rename Fr s.heap L _ _ => F9
      simp only [hpw] at F9
      exact Cut.mk ⟨_, _, _, _, _, _, _, _, rfl, F9, kst_newsOf N9 (by walk_at "Mine all mem"), by l_ints, fmod_lo _ (by omega), fmod_hi _ (by omega)⟩)
  -- >>
  clear F5 N5 B0
  rintro s' ⟨h6, tk6, x, tx, tw, z, uz, nz, rfl, F6, N6, hiz, hx0, hxq⟩
  with_reducible refine seq_cut (fun s' => ∃ h' tk' z1 uz1 nz1, ∃ u1 : Str → Option Value, s' = { s with heap := h', toks := tk' } ∧ Fr s.heap L h' (fun y => if y = ("z" : Str) then some (.ref z1) else if (["z", "turn", "number"] : List Str).contains y = true then u1 y else if y = ("power" : Str) then some (.int (powOf p q ms : Int) tw) else if y = ("first" : Str) then some (.int x tx) else if y = ("z" : Str) then some (.ref z) else if y = ("m" : Str) then some (.ref c) else if y = ("q" : Str) then some (.int q tq) else if y = ("p" : Str) then some (.int p tp) else if y = ("form" : Str) then some (.int f tf) else if y = ("pool" : Str) then some (.ref a) else List.lookup y [(("script" : Str), Value.ref l)].reverse) ∧
    News s.heap L h' [(z1, W.listOf (List.toArray uz1) nz1), (c, W.listOf (List.toArray cs) n3)] ∧ IntsAre uz1 (zL ms q (powOf p q ms) x q.toNat)) ?_ ?_
  -- <<
  · (try k_fold)
    walk_at "Mine steps"
    rename IsRange _ _ _ _ _ _ _ _ => hr
    rename News s.heap L _ _ => N9
    rename Fr s.heap L _ _ => F9
    refine' range_loop (fun i m₁ nx => ∃ z1 uz1 nz1, nx = [(z1, W.listOf (List.toArray uz1) nz1), (c, W.listOf (List.toArray cs) n3)] ∧ IntsAre uz1 (zL ms q (powOf p q ms) x i) ∧ m₁ "z" = some (.ref z1) ∧ ∀ y, (["z", "turn", "number"] : List Str).contains y = false → m₁ y = (if y = ("power" : Str) then some (.int (powOf p q ms : Int) tw) else if y = ("first" : Str) then some (.int x tx) else if y = ("z" : Str) then some (.ref z) else if y = ("m" : Str) then some (.ref c) else if y = ("q" : Str) then some (.int q tq) else if y = ("p" : Str) then some (.int p tp) else if y = ("form" : Str) then some (.int f tf) else if y = ("pool" : Str) then some (.ref a) else List.lookup y [(("script" : Str), Value.ref l)].reverse)) (n := q.toNat)
      hr rfl F9 N9 rfl ?gs ?gn ?gj ?gc ?gt ?gd
    (case gs => exact small_one (by omega) (by omega) (by omega) (by omega))
    (case gn => rw [rangeSize_nat]; congr 1; omega)
    (case gj => exact ⟨z, uz, nz, rfl, hiz, rfl, fun _ _ => rfl⟩)
    (case gc => rintro i m nx ⟨z1, uz1, nz1, rfl, _⟩; walk_at "Mine noiter")
    (case gd =>
      rintro m₁ nx h tk ⟨z1, uz1, nz1, rfl, hi1, hz1, hm1⟩ F1 N1
      rw [fld1 hz1 hm1] at F1
      exact Cut.mk ⟨_, _, z1, uz1, nz1, m₁, rfl, F1, N1, hi1⟩)
    (case gt =>
      rintro i t m₁ nx h tk own hi1 ⟨z1, uz1, nz1, rfl, hiz1, hz1, hm1⟩ hoff hmk F1 N1
      rw [fld1 hz1 hm1, show (0 : Int) + (i : Int) * 1 = i by omega] at F1
      (try dsimp only [List.cons_append, List.nil_append] at N1)
      clear F9 N9 hr
      have hnum := fmod_bd (x + 1 + (i : Int)) (p := q) (by omega)
      (try k_fold)
      walk_at "Mine steps"
      all_goals (
        rename News s.heap _ _ _ => N9
        rename Fr s.heap _ _ _ => F9
        refine' GEnd.intro F9 N9 ?h1 ?h2 ⟨_, _, _, rfl, ?h3, rfl, ?h4⟩
        (case h1 => walk_at "Mine all mem")
        (case h2 => walk_at "Mine own")
        (case h4 => walk_at "Mine fld")
        (case h3 => first
          | (rw [zL_one (by assumption) (by first | exact Or.inl (by assumption) | exact Or.inr (by assumption)) (by assumption)]; assumption)
          | (rw [zL_two (by assumption) (by first | exact Or.inl (by assumption) | exact Or.inr (by assumption)) (by assumption)]; assumption)
          | (rw [zL_no (by first | exact Or.inl (by assumption) | exact Or.inr ⟨by assumption, by assumption⟩)]; assumption))))
  -- >>
  clear F6 N6
  rintro s' ⟨h7, tk7, z1, uz1, nz1, u1, rfl, F7, N7, hiz1⟩
  obtain ⟨Z, hZ⟩ : ∃ Z, Z = zL ms q (powOf p q ms) x q.toNat := ⟨_, rfl⟩
  have hZok := zL_ok (ms := ms) (power := powOf p q ms) (first := x) (by omega : 2 ≤ q) (by omega) hmlen q.toNat
  rw [← hZ] at hiz1 hZok
  obtain ⟨hZs, hZl⟩ := hZok
  with_reducible refine seq_cut (fun s' => ∃ h' tk' P i0 ui ni nP T0 ut nt G ug ng, s' = { s with heap := h', toks := tk' } ∧ Fr s.heap L h' (fun y => if y = ("powers" : Str) then some (.ref P) else if y = ("total" : Str) then some (.ref T0) else if y = ("g" : Str) then some (.ref G) else if y = ("z" : Str) then some (.ref z1) else if (["z", "turn", "number"] : List Str).contains y = true then u1 y else if y = ("power" : Str) then some (.int (powOf p q ms : Int) tw) else if y = ("first" : Str) then some (.int x tx) else if y = ("z" : Str) then some (.ref z) else if y = ("m" : Str) then some (.ref c) else if y = ("q" : Str) then some (.int q tq) else if y = ("p" : Str) then some (.int p tp) else if y = ("form" : Str) then some (.int f tf) else if y = ("pool" : Str) then some (.ref a) else List.lookup y [(("script" : Str), Value.ref l)].reverse) ∧
    News s.heap L h' [(P, W.listOf (List.toArray ([] ++ [.ref i0])) nP), (i0, W.listOf (List.toArray ui) ni), (T0, W.listOf (List.toArray ut) nt), (G, W.listOf (List.toArray ug) ng), (z1, W.listOf (List.toArray uz1) nz1), (c, W.listOf (List.toArray cs) n3)] ∧
    IntsAre ui [1] ∧ IntsAre ut [1] ∧ IntsAre ug [] ∧ @Ne Nat i0 P ∧ @Ne Nat T0 P ∧ @Ne Nat G P ∧ @Ne Nat z1 P ∧ @Ne Nat c P) ?_ ?_
  -- <<
  · (try k_fold)
    walk_at "Mine steps"
    rename News s.heap L _ _ => N9
    rename Fr s.heap L _ _ => F9
    exact Cut.mk ⟨_, _, _, _, _, _, _, _, _, _, _, _, _, rfl, F9, kst_newsOf N9 (by walk_at "Mine all mem"), by walk_at "Mine ints", by walk_at "Mine ints", by walk_at "Mine ints", by omega, by omega, by omega, by omega, by omega⟩
  -- >>
  clear F7 N7
  rintro s' ⟨h8, tk8, P, i0, ui, ni, nP, T0, ut, nt, G, ug, ng, rfl, F8, N8, hui, hut, hug, hP1, hP2, hP3, hP4, hP5⟩
  with_reducible refine seq_cut (fun s' => ∃ h' tk' ps bl ul nl nP1 T ut nt G1 ug ng, ∃ u2 : Str → Option Value, s' = { s with heap := h', toks := tk' } ∧ Fr s.heap L h' (fun y => if y = ("total" : Str) then some (.ref T) else if y = ("g" : Str) then some (.ref G1) else if (["total", "g", "turn"] : List Str).contains y = true then u2 y else if y = ("powers" : Str) then some (.ref P) else if y = ("total" : Str) then some (.ref T0) else if y = ("g" : Str) then some (.ref G) else if y = ("z" : Str) then some (.ref z1) else if (["z", "turn", "number"] : List Str).contains y = true then u1 y else if y = ("power" : Str) then some (.int (powOf p q ms : Int) tw) else if y = ("first" : Str) then some (.int x tx) else if y = ("z" : Str) then some (.ref z) else if y = ("m" : Str) then some (.ref c) else if y = ("q" : Str) then some (.int q tq) else if y = ("p" : Str) then some (.int p tp) else if y = ("form" : Str) then some (.int f tf) else if y = ("pool" : Str) then some (.ref a) else List.lookup y [(("script" : Str), Value.ref l)].reverse) ∧
    News s.heap L h' [(P, W.listOf (List.toArray (ps ++ [.ref bl])) nP1), (bl, W.listOf (List.toArray ul) nl), (T, W.listOf (List.toArray ut) nt), (G1, W.listOf (List.toArray ug) ng), (z1, W.listOf (List.toArray uz1) nz1), (c, W.listOf (List.toArray cs) n3)] ∧ ps.length = (p - 1).toNat ∧ IntsAre ul (sumL ms Z p q (p - 1).toNat).1 ∧ IntsAre ut (sumL ms Z p q (p - 1).toNat).2.1 ∧ IntsAre ug (sumL ms Z p q (p - 1).toNat).2.2) ?_ ?_
  -- <<
  · (try k_fold)
    walk_at "Mine steps"
    rename IsRange _ _ _ _ _ _ _ _ => hr
    rename News s.heap L _ _ => N9
    rename Fr s.heap L _ _ => F9
    refine' range_loop (fun i m₁ nx => ∃ ps bl ul nl nP1 T ut nt G1 ug ng, nx = [(P, W.listOf (List.toArray (ps ++ [.ref bl])) nP1), (bl, W.listOf (List.toArray ul) nl), (T, W.listOf (List.toArray ut) nt), (G1, W.listOf (List.toArray ug) ng), (z1, W.listOf (List.toArray uz1) nz1), (c, W.listOf (List.toArray cs) n3)] ∧ ps.length = i ∧ IntsAre ul (sumL ms Z p q i).1 ∧ IntsAre ut (sumL ms Z p q i).2.1 ∧ IntsAre ug (sumL ms Z p q i).2.2 ∧ @Ne Nat bl P ∧ @Ne Nat T P ∧ @Ne Nat G1 P ∧
      m₁ "total" = some (.ref T) ∧ m₁ "g" = some (.ref G1) ∧ ∀ y, (["total", "g", "turn"] : List Str).contains y = false → m₁ y = (if y = ("powers" : Str) then some (.ref P) else if y = ("total" : Str) then some (.ref T0) else if y = ("g" : Str) then some (.ref G) else if y = ("z" : Str) then some (.ref z1) else if (["z", "turn", "number"] : List Str).contains y = true then u1 y else if y = ("power" : Str) then some (.int (powOf p q ms : Int) tw) else if y = ("first" : Str) then some (.int x tx) else if y = ("z" : Str) then some (.ref z) else if y = ("m" : Str) then some (.ref c) else if y = ("q" : Str) then some (.int q tq) else if y = ("p" : Str) then some (.int p tp) else if y = ("form" : Str) then some (.int f tf) else if y = ("pool" : Str) then some (.ref a) else List.lookup y [(("script" : Str), Value.ref l)].reverse)) (n := (p - 1).toNat)
      hr rfl F9 N9 rfl ?gs ?gn ?gj ?gc ?gt ?gd
    (case gs => exact small_one (by omega) (by omega) (by omega) (by omega))
    (case gn => rw [rangeSize_nat])
    (case gj => exact ⟨[], i0, ui, ni, nP, T0, ut, nt, G, ug, ng, rfl, rfl, hui, hut, hug, hP1, hP2, hP3, rfl, rfl, fun _ _ => rfl⟩)
    (case gc => rintro i m nx ⟨ps, bl, ul, nl, nP1, T, ut, nt, G1, ug, ng, rfl, _⟩; walk_at "Mine noiter")
    (case gd =>
      rintro m₁ nx h tk ⟨ps, bl, ul, nl, nP1, T, ut, nt, G1, ug, ng, rfl, hps, hl1, hl2, hl3, _, _, _, hm1, hm2, hm3⟩ F1 N1
      rw [fld2 hm1 hm2 hm3] at F1
      exact Cut.mk ⟨_, _, ps, bl, ul, nl, nP1, T, ut, nt, G1, ug, ng, m₁, rfl, F1, N1, hps, hl1, hl2, hl3⟩)
    (case gt =>
      rintro i t m₁ nx h tk own hi1 ⟨ps, bl, ul, nl, nP1, T, ut, nt, G1, ug, ng, rfl, hps, hl1, hl2, hl3, hn1, hn2, hn3, hm1, hm2, hm3⟩ hoff hmk F1 N1
      rw [fld2 hm1 hm2 hm3, show (1 : Int) + (i : Int) * 1 = 1 + i by omega] at F1
      (try dsimp only [List.cons_append, List.nil_append] at N1)
      clear F9 N9 hr
      obtain ⟨ho1, ho2, ho3, ho4, _⟩ := sumL_ok (z := Z) (p := p) (by omega : 2 ≤ q) (by omega) hmlen i
      have hg1 := gfMul_length (xs := (sumL ms Z p q i).1) (ys := Z) (p := q) hmlen
      have hg2 : (gfMul (sumL ms Z p q i).1 Z ms q).length ≤ 100 := by omega
      have hg3 : (scaleL (gfMul (sumL ms Z p q i).1 Z ms q) (signL (1 + (i : Int)) p) q).length ≤ 100 := Nat.le_trans scaleL_length hg2
      have ho5 : (sumL ms Z p q i).2.1.length ≤ 100 := by omega
      have ho6 : (sumL ms Z p q i).2.2.length ≤ 100 := by omega
      have hsg := signL_bd (1 + (i : Int)) p
      (try k_fold)
      walk_at "Mine steps"
      rename News s.heap _ _ _ => N9
      rename Fr s.heap _ _ _ => F9
      refine' GEnd.intro F9 N9 ?h1 ?h2 ⟨ps ++ [.ref bl], _, _, _, _, _, _, _, _, _, _, rfl, ?h3, ?h4, ?h5, ?h6, ?h7, ?h8, ?h9, rfl, rfl, ?h10⟩
      (case h1 => walk_at "Mine all mem")
      (case h2 => walk_at "Mine own")
      (case h3 => simp only [List.length_append, List.length_cons, List.length_nil, hps])
      (case h4 => rw [sumL1]; assumption)
      (case h5 => rw [sumL2]; assumption)
      (case h6 => rw [sumL3]; assumption)
      (case h10 => walk_at "Mine fld")
      all_goals (
        rename HidP _ => q1
        replace q1 := q1.out
        rename HidP _ => q2
        replace q2 := q2.out
        rename HidP _ => q3
        replace q3 := q3.out)
      (case h7 => clear q1 q2 q3; omega)
      (case h8 => exact q3.2.1.symm)
      (case h9 => exact q1.2.2.2.1.symm))
  -- >>
  clear F8 N8 hP1 hP2 hP3 hui hut hug
  rintro s' ⟨h9, tk9, ps, bl, ul, nl, nP1, T, ut, nt, G1, ug, ng, u2, rfl, F9, N9, hps, hl1, hl2, hl3⟩
  obtain ⟨he1, he2, he3, he4, he5, he6⟩ : Z ≠ [1] ∧ gfMul (sumL ms Z p q (p - 1).toNat).1 Z ms q = [1] ∧ (sumL ms Z p q (p - 1).toNat).2.1 = [] ∧ gfMul (sumL ms Z p q (p - 1).toNat).2.2 (sumL ms Z p q (p - 1).toNat).2.2 ms q = [Int.fmod (numOf p) q] ∧
    gfPow (sumL ms Z p q (p - 1).toNat).2.2 q.toNat ms q = scaleL (sumL ms Z p q (p - 1).toNat).2.2 (signL q p) q ∧ (decide (gfPow [Int.fmod (numOf p) q] ((q - 1) / 2).toNat [0, 1] q = [1]) == (signL q p == 1)) = true := by
    have h := law_ok hf0 hf10 hpq hms hx0 hxq
    rw [← hZ] at h
    exact zOk_facts h
  obtain ⟨ho1, ho2, ho3, ho4, ho5⟩ := sumL_ok (z := Z) (p := p) (by omega : 2 ≤ q) (by omega) hmlen (p - 1).toNat
  obtain ⟨M9, hM9⟩ : ∃ M9, M9 = (fun y : Str => if y = ("total" : Str) then some (.ref T) else if y = ("g" : Str) then some (.ref G1) else if (["total", "g", "turn"] : List Str).contains y = true then u2 y else if y = ("powers" : Str) then some (.ref P) else if y = ("total" : Str) then some (.ref T0) else if y = ("g" : Str) then some (.ref G) else if y = ("z" : Str) then some (.ref z1) else if (["z", "turn", "number"] : List Str).contains y = true then u1 y else if y = ("power" : Str) then some (.int (powOf p q ms : Int) tw) else if y = ("first" : Str) then some (.int x tx) else if y = ("z" : Str) then some (.ref z) else if y = ("m" : Str) then some (.ref c) else if y = ("q" : Str) then some (.int q tq) else if y = ("p" : Str) then some (.int p tp) else if y = ("form" : Str) then some (.int f tf) else if y = ("pool" : Str) then some (.ref a) else List.lookup y [(("script" : Str), Value.ref l)].reverse) := ⟨_, rfl⟩
  with_reducible refine seq_cut (fun s' => ∃ h' tk', s' = { s with heap := h', toks := tk' } ∧ Fr s.heap L h' M9 ∧
    News s.heap L h' [(G1, W.listOf (List.toArray ug) ng), (c, W.listOf (List.toArray cs) n3)]) ?_ ?_
  -- <<
  · (try k_fold)
    walk_at "Mine steps"
    all_goals first
      | (exfalso; exact he1 (by assumption))
      | (exfalso; exact absurd he2 (by assumption))
      | (exfalso; exact of_decide_eq_false (by assumption) he3)
      | (rename News s.heap L _ _ => Nz
         rename Fr s.heap L _ _ => Fz
         rw [← hM9] at Fz
         exact Cut.mk ⟨_, _, rfl, Fz, kst_newsOf Nz (by walk_at "Mine all mem")⟩)
  -- >>
  clear F9 N9 he1 he2 he3 ho1 ho2 ho3 hl1 hl2
  rintro s' ⟨h10, tk10, rfl, F10, N10⟩
  obtain ⟨W9, hW9⟩ : ∃ W9, W9 = (sumL ms Z p q (p - 1).toNat).2.2 := ⟨_, rfl⟩
  rw [← hW9] at he4 he5 ho4 ho5 hl3
  clear hW9
  with_reducible refine seq_cut (fun s' => ∃ h' tk' tn, s' = { s with heap := h', toks := tk' } ∧ Fr s.heap L h' (fun y => if y = ("number" : Str) then some (.int (numOf p) tn) else M9 y) ∧
    News s.heap L h' [(G1, W.listOf (List.toArray ug) ng), (c, W.listOf (List.toArray cs) n3)]) ?_ ?_
  -- <<
  · subst hM9
    (try k_fold)
    walk_at "Mine steps"
    all_goals (
      rename News s.heap L _ _ => Nz
      rename Fr s.heap L _ _ => Fz)
    · exact Cut.mk ⟨_, _, _, rfl, (by rw [numOf, if_pos (by assumption)]; exact Fz), Nz⟩
    · exact Cut.mk ⟨_, _, _, rfl, (by rw [numOf, if_neg (by assumption)]; exact Fz), Nz⟩
  -- >>
  clear F10 N10
  rintro s' ⟨h11, tk11, tn, rfl, F11, N11⟩
  obtain ⟨K9, hK9⟩ : ∃ K9, K9 = numOf p := ⟨_, rfl⟩
  rw [← hK9] at F11 he4 he6
  clear hK9
  have hsg := signL_bd q p
  have hmb := fmod_bd K9 (p := q) (by omega)
  with_reducible refine seq_cut (fun s' => ∃ h' tk', s' = { s with heap := h', toks := tk' } ∧ Fr s.heap L h' (fun y => if y = ("number" : Str) then some (.int K9 tn) else M9 y) ∧
    News s.heap L h' [(G1, W.listOf (List.toArray ug) ng), (c, W.listOf (List.toArray cs) n3)]) ?_ ?_
  -- <<
  · subst hM9
    (try k_fold)
    walk_at "Mine steps"
    all_goals first
      | (exfalso; exact absurd he4 (by assumption))
      | (rename News s.heap L _ _ => Nz
         rename Fr s.heap L _ _ => Fz
         exact Cut.mk ⟨_, _, rfl, Fz, kst_newsOf Nz (by walk_at "Mine all mem")⟩)
  -- >>
  clear F11 N11
  rintro s' ⟨h12, tk12, rfl, F12, N12⟩
  with_reducible refine seq_cut (fun s' => ∃ h' tk', s' = { s with heap := h', toks := tk' } ∧ Fr s.heap L h' (fun y => if y = ("number" : Str) then some (.int K9 tn) else M9 y) ∧
    News s.heap L h' [(G1, W.listOf (List.toArray ug) ng), (c, W.listOf (List.toArray cs) n3)]) ?_ ?_
  -- <<
  · subst hM9
    (try k_fold)
    walk_at "Mine steps"
    k_dflt (refine' use_list ?mF ?mN (gfpow_specI _ _ _ _ _ _ _ _ _ _ _ _ _ _ _ _ ?mX ?mT ?ml ?mi ?ml2 ?mi2 ho4 ho5 hmon (by omega) (by omega) (by omega) (by omega)) ?md ?mu ?_)
    (case ml => walk_at "Mine list")
    (case ml2 => walk_at "Mine list")
    (case mi => walk_at "Mine ints")
    (case mi2 => walk_at "Mine ints")
    walk_at "Mine call sides"
    intro b' us' n' h' tk' F' N' l1 hI'
    clear l1
    (try k_fold)
    walk_at "Mine steps"
    all_goals first
      | (exfalso; exact absurd he5 (by assumption))
      | (rename News s.heap L _ _ => Nz
         rename Fr s.heap L _ _ => Fz
         exact Cut.mk ⟨_, _, rfl, Fz, kst_newsOf Nz (by walk_at "Mine all mem")⟩)
  -- >>
  clear F12 N12
  rintro s' ⟨h13, tk13, rfl, F13, N13⟩
  -- <<
  · subst hM9
    (try k_fold)
    walk_at "Mine steps"
    k_dflt (refine' use_val ?mF ?mN (issq_spec _ _ _ _ _ _ _ _ _ _ _ _ _ ?mX ?mT ?ml ?mi ?ml2 ?mi2 ?mlen ?msm (by omega) (by omega)) ?md ?mu ?_)
    (case ml => walk_at "Mine list")
    (case ml2 => walk_at "Mine list")
    (case mi => walk_at "Mine ints")
    (case mi2 => walk_at "Mine ints")
    (case mlen => rfl)
    (case msm => exact sm1 (by omega) (by omega))
    walk_at "Mine call sides"
    intro h' tk' F' N'
    (try k_fold)
    walk_at "Mine steps"
    rename Fr s.heap L _ _ => Fz
    rw [he6]
    exact hret _ _ (Fr.keep Fz)
  -- >>

theorem cw : PySem.Challenge.rw_tk0018_01.Holds := by
  refine Mine.hd ?_
  w_top off
  k_fill
  intro w s₀ s₁ mg mb G Y fa o pm cd doc dV kV ho hd hcd hD hmg hg args vals as hpre hlay hrd hwl hlo
  have KX := kIn_of Y
  have X := (Ground.X G).1
  have V := (Ground.X G).2
  refine Ground.open G ?_
  intro T B D TE TW
  wrow_args hpre hlay hrd hwl hlo
  refine enter_call ?_
  clear B D TE TW X V G Y
  refine codeAny_mono ?_ (fun _ _ g => GoodW.toG g)
  rename Heap.IsList _ _ _ => hL
  rename IntsAre _ _ => hI
  rename (¬ _ < _) => hc
  have e173 := mg_of (n := "law") (v := .ref 173) KX T.g (by k_is)
  have e2 : some (Value.ref fa) = some (.ref 173) := hmg.symm.trans e173
  obtain rfl : fa = 173 := by injection e2 with e2; injection e2
  refine law_run w _ _ mg mb s₁ _ _ _ _ KX T hL hI (by omega) ?_
  intro h' tk' st
  refine ⟨.inl ⟨_, .bool true, [], rfl, raisesW_false ?_, .bool true, ?_, ?_⟩, st, rfl, hg⟩
  · wrow_none_raised
  · wrow_post
  · exact unshared_nil

end Mine

theorem PySem.Challenge.cw_tk0018_01_holds : PySem.Challenge.rw_tk0018_01.Holds :=
  Mine.cw
