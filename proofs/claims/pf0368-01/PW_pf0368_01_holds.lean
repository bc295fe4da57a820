import PyProof.Rows.All
import Wide.All
import OpenK.AllK
import Wide.FinOn
import Lean
import PySem.Challenge.RW_pf0368_01
open PySem PySem.W PyProof.Rows PySem.Calls
set_option Elab.async false
set_option linter.unusedVariables false
set_option maxRecDepth 100000
namespace Mine
/-- the text without its four settings of __name__ -/
def viewOf (p : Program) : Program := { p with main := { p.main with body := p.main.body.filter fun s => match s with
  | .Assign [.Name x _] _ _ => !(x == Str.ofString "__name__")
  | _ => true } }
def view : Program := viewOf PySem.Challenge.pw_pf0368_01
abbrev RunT := (String → Option Builtin) → Program → World → Nat → Option Value → Nat → Shared → Thread → Option Shared
/-- the head from a known opening on: the run by a function that is the top's run, the looks behind it -/
theorem left_quick {p q p' q' : Program} {loose : List Str} {Xt : Shared → Bool} {α : Type} {Yf : Shared → α} {Ya : World → α} {N : Nat} {g0 : Bool} {H₀ : Params → Heap} {gs₀ : Array GenState} {d₀ : Drawn} {k₀ : Nat}
    {R : RunT} {tb : String → Option Builtin}
    (o : ∀ w : World, (fencedOpening treeTable p w N).map (fun s => (s.heap, s.gens, s.drawn, s.toks)) = some (H₀ w.params, gs₀, d₀, k₀))
    (hR : topRun = R) (hT : treeTable = tb) (hp : p = p') (hq : q = q')
    (hg : ∀ w : World, ((H₀ w.params).isNs mainGlobals && gs₀.size == 0) = true)
    (r : ∀ (w : World) (os : OsState), (R tb p' w (H₀ w.params).objs.size ((H₀ w.params).nsMap mainGlobals "__annotations__") N ⟨H₀ w.params, gs₀, d₀, k₀, os⟩ (topStub p')).map
      (fun s => (staticsOk (importedModules p'.main.body) (H₀ w.params) s.heap && namesBound p' s.heap && gensDone s && laidKept (H₀ w.params) s.heap, openSeen q' loose (importedModules p'.main.body) Xt g0 s, Yf s)) = some (true, openGood q' loose, Ya w)) :
    LeftO p q loose Xt Yf Ya N g0 := fun w => by
  subst hR hT hp hq
  obtain ⟨⟨h, gs, d, k, os⟩, e, e'⟩ := Option.map_eq_some_iff.mp (o w)
  obtain ⟨rfl, rfl, rfl, rfl⟩ : h = H₀ w.params ∧ gs = gs₀ ∧ d = d₀ ∧ k = k₀ := by simpa using e'
  obtain ⟨s, e1, e2⟩ := Option.map_eq_some_iff.mp (r w os)
  obtain ⟨l1, l2, l3⟩ : _ ∧ _ ∧ _ := by simpa only [Prod.mk.injEq] using e2
  have t : topFrom treeTable p w N ⟨H₀ w.params, gs, d, k, os⟩ = some s := by
    unfold topFrom
    simp only [hg w, e1, Option.bind_some, l1]
  unfold openEnds
  rw [e]
  show (topFrom treeTable p w N _).map _ = _
  rw [t]
  exact congrArg some (Prod.ext l2 l3)
set_option hygiene false in
local macro_rules | `(tactic| o_head $H) => `(tactic| (
  refine holds_open (q := Mine.view) (loose := [PySem.Str.ofString "SnobolError", PySem.Str.ofString "_law_rows"]) (Xt := fun s => xlAt Mine.view [] s && recOk (RowW.records (OpenRow.toRowW PySem.Challenge.rw_pf0368_01.row)) s) (XP := XL Mine.view []) (Yf := Hook.obs $H) (Ya := Hook.val $H) (YP := Hook.says $H) (N := 2546) ?hl (Hook.of $H) (Hook.keeps $H) (fun s e => xl_of s (Bool.and_eq_true_iff.mp e).1) XL.keeps (by rfl) (by rfl) (by rfl) (fun s e => recFacts_of (Bool.and_eq_true_iff.mp e).2) (by rfl) (by first | assumption | decide +kernel) (by decide +kernel) ⟨rfl, rfl, rfl, rfl, rfl, by decide +kernel⟩ ?hw ?hc
  (case hl => exact left_quick (q' := Mine.viewOf PySem.W.Fast.tw10211361934153536815) (boot_open (by rfl) (by rfl) (fun _ => rfl)) PySem.W.Fast.te14082659384304107361 PySem.W.Fast.te14364793385576792824 PySem.W.Fast.te10211361934153536815 (congrArg Mine.viewOf PySem.W.Fast.te10211361934153536815) (by intro w; kernel_rfl!) (by intro w os; kernel_rfl!))))
set_option maxHeartbeats 8000000 in
open_top hd for PySem.Challenge.rw_pf0368_01
end Mine
namespace Mine
/-- a walk stands still where a line of ours puts this around its goal -/
structure Hold (P : Prop) : Prop where
  out : P
theorem stopHere {P : Prop} (h : Hold P) : P := h.out
end Mine
namespace Mine
/-- addresses that fall from the head on -/
def Srt : List Nat → Prop
  | [] => True
  | [_] => True
  | a :: b :: l => b < a ∧ Srt (b :: l)
theorem Srt.tail {a : Nat} : ∀ {srtL : List Nat}, Srt (a :: srtL) → Srt srtL
  | [], _ => trivial
  | _ :: _, h => h.2
theorem Srt.lt {a : Nat} : ∀ {srtL : List Nat}, Srt (a :: srtL) → ∀ b ∈ srtL, b < a
  | [], _, _, h => nomatch h
  | c :: l, h, b, hb => by
    rcases List.mem_cons.mp hb with rfl | hb
    · exact h.1
    · exact Nat.lt_trans (Srt.lt h.2 b hb) h.1
/-- a stands ahead of b -/
inductive Two (a b : Nat) : List Nat → Prop
  | head {srtL : List Nat} : b ∈ srtL → Two a b (a :: srtL)
  | tail {srtX : Nat} {srtL : List Nat} : Two a b srtL → Two a b (srtX :: srtL)
theorem Two.lt {a b : Nat} {srtL : List Nat} (t : Two a b srtL) (s : Srt srtL) : b < a := by
  induction t with
  | head h => exact s.lt _ h
  | tail _ ih => exact ih s.tail
theorem Srt.ne {a b : Nat} {srtL : List Nat} (srtS : Srt srtL) (srtT : Two a b srtL) : a ≠ b := Nat.ne_of_gt (srtT.lt srtS)
theorem Srt.ne' {a b : Nat} {srtL : List Nat} (srtS : Srt srtL) (srtT : Two a b srtL) : b ≠ a := Nat.ne_of_lt (srtT.lt srtS)
/-- an address of the ledger -/
inductive InA (a : Addr) : List (Addr × Obj) → Prop
  | head {srtO : Obj} {srtL : List (Addr × Obj)} : InA a ((a, srtO) :: srtL)
  | tail {srtP : Addr × Obj} {srtL : List (Addr × Obj)} : InA a srtL → InA a (srtP :: srtL)
theorem InA.all {a d : Addr} {srtL : List (Addr × Obj)} (m : InA a srtL) : (∀ p ∈ srtL, p.1 < d) → @LT.lt Nat _ a d := by
  induction m with
  | head => exact fun h => h _ (.head _)
  | tail _ ih => exact fun h => ih fun p hp => h p (.tail _ hp)
theorem newLt {srtL : List (Addr × Obj)} {d a : Addr} (srtH : ∀ p ∈ srtL, p.1 < d) (srtM : InA a srtL) : @LT.lt Nat _ a d := srtM.all srtH
theorem newNe {srtL : List (Addr × Obj)} {d a : Addr} (srtH : ∀ p ∈ srtL, p.1 < d) (srtM : InA a srtL) : @Ne Nat a d := Nat.ne_of_lt (srtM.all srtH)
theorem newNe' {srtL : List (Addr × Obj)} {d a : Addr} (srtH : ∀ p ∈ srtL, p.1 < d) (srtM : InA a srtL) : @Ne Nat d a := Nat.ne_of_gt (srtM.all srtH)
theorem newNeT {srtL : List (Addr × Obj)} {d a x : Addr} (srtX : @LT.lt Nat _ d x) (srtH : ∀ p ∈ srtL, p.1 < d) (srtM : InA a srtL) : @Ne Nat a x := Nat.ne_of_lt (Nat.lt_trans (srtM.all srtH) srtX)
theorem newNeT' {srtL : List (Addr × Obj)} {d a x : Addr} (srtX : @LT.lt Nat _ d x) (srtH : ∀ p ∈ srtL, p.1 < d) (srtM : InA a srtL) : @Ne Nat x a := Nat.ne_of_gt (Nat.lt_trans (srtM.all srtH) srtX)
end Mine
namespace Mine
section
variable {prog : Program} {w : World} {A A₀ : Around} {s : Shared} {base h₀ : Heap} {outer : List Env} {L : Addr} {m mg mb : Str → Option Value} {env : Env} {news sub rest : List (Addr × Obj)} {K : Frag} {p : Program} {loose : List Str} {mean : ExcName → Option Value}
  {R : Result → Shared → Prop} {name qual : Str} {params : Arguments} {body : List Stmt} {scope : Scope} {dV kV doc pm cdv ct oc : Value} {an od : Option Addr} {osl : Array (Option Value)} {f : Addr} {args : Args} {binds : List (Str × Value)}

/-- a call of a def that sees only `sub` of the ledger; what else the ledger bears (`rest`) stands behind it as it stood -/
theorem callS (sub rest : List (Addr × Obj)) (B : Below A₀ base outer h₀) (F : Fr h₀ L s.heap m) (X₀ : K.In h₀) (N : News h₀ L s.heap news) (T : Top p loose mean mg mb h₀) (hA : A.frames = some (env :: outer)) (hf : env.frame = some L) (hke : env.scope.kind = .function)
    (hsub : ∀ q ∈ sub, q ∈ news) (hrest : ∀ q ∈ rest, q ∈ news) (hap : ∀ q ∈ rest, ∀ r ∈ sub, q.1 ≠ r.1)
    (ho : K.lookup f = some ⟨oc, od, .func (fnOf name qual params body scope dV kV doc pm an cdv ct), osl⟩) (hcd : codeIn K cdv qual = true) (hroom : A.depth < recursionLimit)
    (hbind : BindsTo s (fnOf name qual params body scope dV kV doc pm an cdv ct) args binds) (hloc : ∀ y ∈ binds, scope.names.lookup y.1 = some .local)
    (h : ∀ g L' h₁, Fr h₀ L g m → Fr g L' h₁ (fun y => binds.reverse.lookup y) → News g L' h₁ sub → Below A base (env :: outer) g → K.In g → Top p loose mean mg mb g → (∀ q ∈ sub, q.1 < L') →
      (∀ q ∈ rest, g.get? q.1 = some q.2) →
      (∀ h' L'' m'' n'', Fr g L'' h' m'' → News h₀ L h' n'' → News h₀ L h' (n'' ++ rest)) →
      wpAny (model prog w) (A.deeper (envOf qual scope L' f cdv)) (execs body (envOf qual scope L' f cdv))
        (fun fl s' => LeaveK h₀ L m g R (match fl with | .ret v => v | _ => .none) s')
        (fun e s' => wpAny (model prog w) (A.deeper (envOf qual scope L' f cdv)) (leaving (envOf qual scope L' f cdv) e) (fun _ s'' => R (.error e) s'') (fun e' s'' => R (.error e') s'') s')
        { s with heap := h₁, toks := s.toks + binds.length })
    (hcell : ∀ x ∈ scope.names, x.2 ≠ .cell) (hco : scope.isCoroutine = false) (hgen : scope.isGenerator = false) (hk : scope.kind = .function) : codeAny (model prog w) A (.call (.ref f) args) R s := by
  have N1 : News h₀ L s.heap sub := fun q hq => N q (hsub q hq)
  obtain ⟨FG, BG, st, lv⟩ := groundX (R := R) B F N1 hA hf hke
  refine codeAny_call_def (fd := fnOf name qual params body scope dV kV doc pm an cdv ct) (body := body) (binds := binds) hroom ((X₀.keeps F.keep) _ _ ho) rfl (T.nolimit.keeps F.keep) (codeRec_of (X₀.keeps F.keep) hcd) rfl hbind hcell hloc (fun h₁ hns hk₁ => ?_) hco hgen hk
  have hg : ∀ q ∈ rest, (hideAll s.heap (sub.map (·.1))).get? q.1 = some q.2 := fun q hq =>
    hideAll_get _ (N q (hrest q hq)).1 fun hm => by
      obtain ⟨r, hr, e⟩ := List.mem_map.mp hm
      exact hap q hq r hr e.symm
  refine wpAny_mono (h _ s.heap.objs.size h₁ FG ⟨hns, fun b o e => hk₁ b o (of_hideAll _ e), Nat.le_of_eq (hideAll_size _ _)⟩
    (fun q hq => ⟨hk₁ _ _ (N1 q hq).1, Nat.ne_of_lt (Heap.lt_size (N1 q hq).1), hideAll_none _ (List.mem_map_of_mem hq)⟩) BG (X₀.keeps st) (T.keeps st) (fun q hq => Heap.lt_size (N1 q hq).1) hg
    (fun h' L'' m'' n'' F'' N'' q hq => ?_)) (fun fl s' hl => lv _ _ hl) fun _ _ y => y
  rcases List.mem_append.mp hq with hq | hq
  · exact N'' q hq
  · exact ⟨F''.keep _ _ (hg q hq), (N q (hrest q hq)).2.1, (N q (hrest q hq)).2.2⟩
end
end Mine
namespace Mine
set_option maxHeartbeats 8000000 in
theorem next_call {prog : Program} {w : World} {s : Shared} {base h₀ : Heap} {outer : List Env} {L : Addr} {m mg mb : Str → Option Value} {env : Env} {news : List (Addr × Obj)} {p : Program} {loose : List Str} {mean : ExcName → Option Value}
    {Q : Value → Shared → Prop} {E : Value → Shared → Prop} {feed cells : Addr} {vs : List Value} {ns : List Int} {tn many : Int} {tk tm : Tok} {n nc : Nat} (rest : List (Addr × Obj))
    (B : Below callerA base outer h₀) (F : Fr h₀ L s.heap m) (X : (hd.heap_39 w.params).In h₀) (N : News h₀ L s.heap news) (T : Top p loose mean mg mb h₀) (hf : env.frame = some L) (hke : env.scope.kind = .function)
    (hfeed : (feed, listOf [Value.ref cells, Value.int tn tk].toArray n) ∈ news) (hcells : (cells, listOf vs.toArray nc) ∈ rest) (hi : IntsAre vs ns) (hlen : ns.length ≤ 30)
    (hrest : ∀ q ∈ rest, q ∈ news) (hap : ∀ q ∈ rest, q.1 ≠ feed) (h0 : 0 ≤ tn) (h1 : tn ≤ 1000) (hm : 1 ≤ many) (hm2 : many ≤ 7)
    (h : ∀ h' r tr tk' tk2 n', 0 ≤ r → r < many → Fr h₀ L h' m → News h₀ L h' ((feed, listOf [Value.ref cells, Value.int (tn + 1) tk2].toArray n') :: rest) → Q (.int r tr) { s with heap := h', toks := tk' }) :
    wpAny (model prog w) (callerA.deeper env) (call (.ref 193) [.ref feed, .int many tm]) Q E s := by
  w_top off
  refine wpAny_call ?_
  refine' callS (binds := [(PySem.Str.ofString "feed", Value.ref feed), (PySem.Str.ofString "many", Value.int many tm)]) [(feed, listOf [Value.ref cells, Value.int tn tk].toArray n)] rest B F X N T (Around.frames_deeper B.stack) hf hke ?k0 hrest ?k1 ?k6 ?k7 ?k8 ?k9 ?kB ?_ ?c5 ?c2 ?c3 ?c4
  case k0 => intro q hq; rw [List.mem_singleton.mp hq]; exact hfeed
  case k1 => intro q hq r hr; rw [List.mem_singleton.mp hr]; exact hap q hq
  case k6 => k_is
  case k7 => k_is
  case k8 => k_room
  case k9 => exact BindsTo.of_eq rfl
  case c5 => decide
  case kB => exact locs rfl
  case c2 => exact rfl
  case c3 => exact rfl
  case c4 => exact rfl
  intro g' L' h' FG' F' N' B' X' T' l1 hg back
  (try dsimp only)
  have hL : g'.IsList cells vs.toArray := ⟨_, hg _ hcells, rfl, _, rfl⟩
  clear hcells
  try k_lift B'
  try k_fold
  k_steps
  all_goals (refine h _ _ _ _ _ _ ?_ ?_ (by assumption) (back _ _ _ _ (by assumption) (by assumption)))
  all_goals first | exact Int.fmod_nonneg_of_pos _ (by omega) | exact Int.fmod_lt_of_pos _ (by omega)
end Mine
namespace Mine

def isRow (x : Str) : Prop := x = Str.ofString "one  " ∨ x = Str.ofString " two" ∨ x = Str.ofString "t\t \t" ∨ x = Str.ofString "  "
def cutT (x : Str) : Str := if x = Str.ofString "one  " then Str.ofString "one" else if x = Str.ofString " two" then Str.ofString " two" else if x = Str.ofString "t\t \t" then Str.ofString "t" else Str.ofString ""

set_option maxHeartbeats 8000000 in
theorem cut_call {prog : Program} {w : World} {s : Shared} {base h₀ : Heap} {outer : List Env} {L : Addr} {m mg mb : Str → Option Value} {env env₁ : Env} {news : List (Addr × Obj)} {p : Program} {loose : List Str} {mean : ExcName → Option Value}
    {Q : Value → Shared → Prop} {E : Value → Shared → Prop} {x : Str} {t : Tok}
    (B : Below (callerA.deeper env₁) base outer h₀) (F : Fr h₀ L s.heap m) (X : (hd.heap_39 w.params).In h₀) (N : News h₀ L s.heap news) (T : Top p loose mean mg mb h₀) (hf : env.frame = some L) (hke : env.scope.kind = .function)
    (hx : isRow x)
    (h : ∀ h' tr tk', Fr h₀ L h' m → News h₀ L h' news → Q (.str (cutT x) tr) { s with heap := h', toks := tk' }) :
    wpAny (model prog w) ((callerA.deeper env₁).deeper env) (call (.ref 200) [.str x t]) Q E s := by
  w_top off
  refine wpAny_call ?_
  refine' callS (binds := [(PySem.Str.ofString "row", Value.str x t)]) [] news B F X N T (Around.frames_deeper B.stack) hf hke ?k0 ?ka ?k1 ?k6 ?k7 ?k8 ?k9 ?kB ?_ ?c5 ?c2 ?c3 ?c4
  case k0 => intro q hq; cases hq
  case ka => exact fun q hq => hq
  case k1 => intro q hq r hr; cases hr
  case k6 => k_is
  case k7 => k_is
  case k8 => k_room
  case k9 => exact BindsTo.of_eq rfl
  case c5 => decide
  case kB => exact locs rfl
  case c2 => exact rfl
  case c3 => exact rfl
  case c4 => exact rfl
  intro g' L' h' FG' F' N' B' X' T' l1 hg back
  clear l1 hg
  (try dsimp only)
  try k_lift B'
  unfold isRow at hx
  rcases hx with e | e | e | e <;> subst e
  · rw [show cutT (Str.ofString "one  ") = Str.ofString "one" from by decide +kernel] at h
    try k_fold
    k_steps
    exact h _ _ _ (by assumption) (fun q hq => back _ _ _ _ (by assumption) (by assumption) q (List.mem_append_right _ hq))
  · rw [show cutT (Str.ofString " two") = Str.ofString " two" from by decide +kernel] at h
    try k_fold
    k_steps
    exact h _ _ _ (by assumption) (fun q hq => back _ _ _ _ (by assumption) (by assumption) q (List.mem_append_right _ hq))
  · rw [show cutT (Str.ofString "t\t \t") = Str.ofString "t" from by decide +kernel] at h
    try k_fold
    k_steps
    exact h _ _ _ (by assumption) (fun q hq => back _ _ _ _ (by assumption) (by assumption) q (List.mem_append_right _ hq))
  · rw [show cutT (Str.ofString "  ") = Str.ofString "" from by decide +kernel] at h
    try k_fold
    k_steps
    exact h _ _ _ (by assumption) (fun q hq => back _ _ _ _ (by assumption) (by assumption) q (List.mem_append_right _ hq))
end Mine
namespace Mine

theorem valueAt_map_self {k k' : Str} {v : Value} : ∀ {kvs : List (Str × Value)}, valueAt (kvs.map fun kv => if kv.1 = k then (kv.1, v) else kv) k' = if k' = k ∧ (kvs.any fun kv => kv.1 = k) = true then some v else valueAt kvs k'
  | [] => by simp [valueAt]
  | kv :: r => by
    have ih := valueAt_map_self (k := k) (k' := k') (v := v) (kvs := r)
    unfold valueAt at ih ⊢
    simp only [List.map_cons, List.find?_cons, List.any_cons]
    by_cases h1 : kv.1 = k
    · by_cases h2 : k' = k
      · subst h2; simp [h1]
      · have h3 : ¬ k = k' := fun e => h2 e.symm
        simp only [h1, if_true, h3, decide_false, h2, false_and, if_false] at ih ⊢
        exact ih
    · by_cases h2 : kv.1 = k'
      · have h3 : ¬ k' = k := fun e => h1 (h2.trans e)
        simp [h1, h2, h3]
      · simp only [h1, if_false, h2, decide_false, Bool.false_or] at ih ⊢
        exact ih
theorem valueAt_append {k : Str} {kvs us : List (Str × Value)} : valueAt (kvs ++ us) k = (valueAt kvs k).or (valueAt us k) := by
  unfold valueAt
  rw [List.find?_append]
  cases List.find? (fun kv => decide (kv.1 = k)) kvs <;> simp
theorem valueAt_any {k : Str} : ∀ {kvs : List (Str × Value)}, (kvs.any fun kv => kv.1 = k) = (valueAt kvs k).isSome
  | [] => rfl
  | kv :: r => by
    have ih := valueAt_any (k := k) (kvs := r)
    unfold valueAt at ih ⊢
    simp only [List.any_cons, List.find?_cons]
    by_cases h : kv.1 = k
    · simp [h]
    · simp only [h, decide_false, Bool.false_or]; exact ih
theorem valueAt_stored {k k' : Str} {v : Value} {kvs : List (Str × Value)} : valueAt (stored kvs k v) k' = if k' = k then some v else valueAt kvs k' := by
  unfold stored
  by_cases ha : (kvs.any fun kv => kv.1 = k) = true
  · rw [if_pos ha, valueAt_map_self, ha]; simp
  · rw [if_neg ha, valueAt_append]
    have hn : valueAt kvs k = none := by
      rw [valueAt_any] at ha
      cases h : valueAt kvs k with
      | none => rfl
      | some x => rw [h] at ha; simp at ha
    by_cases h2 : k' = k
    · subst h2; rw [hn]; simp [valueAt]
    · rw [if_neg h2]
      have h3 : ¬ k = k' := fun e => h2 e.symm
      simp [valueAt, h3]
theorem stored_len_same {k : Str} {v x : Value} {kvs : List (Str × Value)} (h : valueAt kvs k = some x) : (stored kvs k v).length = kvs.length := by
  unfold stored
  rw [valueAt_any, h]; simp

/-- a value that is a text or an int, as a datum -/
inductive Cell where
  | str (x : Str)
  | int (k : Int)
inductive IsC : Value → Cell → Prop
  | str (x : Str) (t : Tok) : IsC (.str x t) (.str x)
  | int (k : Int) (t : Tok) : IsC (.int k t) (.int k)
def Cell.dat : Cell → Dat
  | .str x => .str x
  | .int k => .int k
def Cell.ok : Cell → Prop
  | .str x => PyData.strOk x = true
  | .int _ => True
theorem IsC.datIn {v : Value} {c : Cell} (h : IsC v c) (n : List (Addr × Obj)) : DatIn n v c.dat := by
  cases h with
  | str x t => exact .str x t
  | int k t => exact .int k t
theorem strsAre_dat {vs : List Value} {xs : List Str} (h : StrsAre vs xs) : DatAll [] vs (xs.map Dat.str) := by
  induction h with
  | nil => exact .nil
  | cons y t _ ih => exact .cons (.str y t) ih
def okStrs (xs : List Str) : Prop := ∀ x ∈ xs, PyData.strOk x = true
theorem okStrs.dat {xs : List Str} (h : okStrs xs) : ∀ d ∈ xs.map Dat.str, kqdOk 8 d = true := by
  intro d hd
  obtain ⟨x, hx, rfl⟩ := List.mem_map.mp hd
  exact h x hx
section
variable {prog : Program} {w : World} {A : Around} {E : Value → Shared → Prop} {s : Shared} {h₀ : Heap} {L a b D : Addr} {m : Str → Option Value} {news news' : List (Addr × Obj)} {vs us : List Value} {xs ys : List Str} {ka kb n : Nat} {Q : Value → Shared → Prop} {u : Tok} {v : Value}
theorem inj_str : ∀ {xs ys : List Str}, (xs.map Dat.str = ys.map Dat.str) ↔ xs = ys
  | [], [] => by simp
  | [], _ :: _ => by simp
  | _ :: _, [] => by simp
  | x :: xs, y :: ys => by simp [inj_str (xs := xs) (ys := ys)]
theorem eq_strs (bb : Bool) (N : News h₀ L s.heap news) (ma : (a, listOf vs.toArray ka) ∈ news) (mb : (b, listOf us.toArray kb) ∈ news) (ha : StrsAre vs xs) (hb : StrsAre us ys) (oa : okStrs xs) (ob : okStrs ys)
    (hu : A.units + 64 < cLine) (hbb : decide (xs = ys) = bb) (h : Q (.bool bb) s) : wpAny (model prog w) A (compareOp .Eq (.ref a) (.ref b)) Q E s := by
  refine kqd_eq N ma rfl rfl (strsAre_dat ha) (fun p hp => nomatch hp) mb rfl rfl (strsAre_dat hb) (fun p hp => nomatch hp) oa.dat ob.dat hu ?_
  have e : (xs.map Dat.str = ys.map Dat.str) ↔ xs = ys := inj_str
  have e2 : ∀ i : Decidable (xs.map Dat.str = ys.map Dat.str), @decide _ i = bb := fun i => by
    rw [← hbb]
    by_cases q : xs = ys
    · rw [decide_eq_true q]; exact decide_eq_true (e.mpr q)
    · rw [decide_eq_false q]; exact decide_eq_false fun z => q (e.mp z)
  rw [e2]; exact h
theorem ne_strs (bb : Bool) (N : News h₀ L s.heap news) (ma : (a, listOf vs.toArray ka) ∈ news) (mb : (b, listOf us.toArray kb) ∈ news) (ha : StrsAre vs xs) (hb : StrsAre us ys) (oa : okStrs xs) (ob : okStrs ys)
    (hu : A.units + 64 < cLine) (hbb : (!decide (xs = ys)) = bb) (h : Q (.bool bb) s) : wpAny (model prog w) A (compareOp .NotEq (.ref a) (.ref b)) Q E s := by
  refine kqd_ne N ma rfl rfl (strsAre_dat ha) (fun p hp => nomatch hp) mb rfl rfl (strsAre_dat hb) (fun p hp => nomatch hp) oa.dat ob.dat hu ?_
  have e : (xs.map Dat.str = ys.map Dat.str) ↔ xs = ys := inj_str
  have e2 : ∀ i : Decidable (xs.map Dat.str = ys.map Dat.str), (!@decide _ i) = bb := fun i => by
    rw [← hbb]
    by_cases q : xs = ys
    · rw [decide_eq_true q, @decide_eq_true _ i (e.mpr q)]
    · rw [decide_eq_false q, @decide_eq_false _ i fun z => q (e.mp z)]
  rw [e2]; exact h
theorem pop0 (F : Fr h₀ L s.heap m) (N : News h₀ L s.heap news) (U : Upd D (listOf (v :: vs).toArray n) (listOf vs.toArray (n + 1)) news news') (hz : (v :: vs).length ≤ sizeLine)
    (h : ∀ h', Fr h₀ L h' m → News h₀ L h' news' → Q v { s with heap := h' }) : wpAny (model prog w) A (call (.builtin "list.pop") [.ref D, .int 0 u]) Q E s :=
  kl_popAt (k := 0) (p := []) (q := vs) F N rfl (by unfold seqIndex?; simp) rfl U hz h
end

/-- the five names -/
def isName (n : Str) : Prop := n = Str.ofString "INPUT" ∨ n = Str.ofString "R" ∨ n = Str.ofString "OUTPUT" ∨ n = Str.ofString "W" ∨ n = Str.ofString "X"
def upd (c : Str → Cell) (n : Str) (d : Cell) : Str → Cell := fun y => if y = n then d else c y
structure Bk (kvs : List (Str × Value)) (rows out : Addr) (I O T : Int) (c : Str → Cell) : Prop where
  rows : valueAt kvs (Str.ofString "rows") = some (.ref rows)
  out : valueAt kvs (Str.ofString "out") = some (.ref out)
  inp : ∃ t, valueAt kvs (Str.ofString "&INPUT") = some (.int I t)
  outp : ∃ t, valueAt kvs (Str.ofString "&OUTPUT") = some (.int O t)
  trim : ∃ t, valueAt kvs (Str.ofString "&TRIM") = some (.int T t)
  cell : ∀ n, isName n → ∃ v, valueAt kvs n = some v ∧ IsC v (c n)
  len : kvs.length ≤ 20
theorem isName.ne {n : Str} (h : isName n) : Str.ofString "rows" ≠ n ∧ Str.ofString "out" ≠ n ∧ Str.ofString "&INPUT" ≠ n ∧ Str.ofString "&OUTPUT" ≠ n ∧ Str.ofString "&TRIM" ≠ n := by
  rcases h with e | e | e | e | e <;> subst e <;> decide +kernel
theorem Bk.set {kvs : List (Str × Value)} {rows out : Addr} {I O T : Int} {c : Str → Cell} (B : Bk kvs rows out I O T c) {n : Str} {v : Value} {d : Cell} (hn : isName n) (hv : IsC v d) : Bk (stored kvs n v) rows out I O T (upd c n d) := by
  obtain ⟨h1, h2, h3, h4, h5⟩ := hn.ne
  refine ⟨?_, ?_, ?_, ?_, ?_, fun k hk => ?_, ?_⟩
  · rw [valueAt_stored, if_neg h1]; exact B.rows
  · rw [valueAt_stored, if_neg h2]; exact B.out
  · rw [valueAt_stored, if_neg h3]; exact B.inp
  · rw [valueAt_stored, if_neg h4]; exact B.outp
  · rw [valueAt_stored, if_neg h5]; exact B.trim
  · rw [valueAt_stored]; unfold upd
    by_cases e : k = n
    · rw [if_pos e, if_pos e]; exact ⟨v, rfl, hv⟩
    · rw [if_neg e, if_neg e]; exact B.cell k hk
  · obtain ⟨x, hx, _⟩ := B.cell n hn
    rw [stored_len_same hx]; exact B.len
theorem names_off : ∀ n, isName n → n ≠ Str.ofString "&INPUT" ∧ n ≠ Str.ofString "&OUTPUT" ∧ n ≠ Str.ofString "&TRIM" := fun n h => ⟨h.ne.2.2.1.symm, h.ne.2.2.2.1.symm, h.ne.2.2.2.2.symm⟩
theorem Bk.setI {kvs : List (Str × Value)} {rows out : Addr} {I O T J : Int} {c : Str → Cell} (B : Bk kvs rows out I O T c) {t : Tok} : Bk (stored kvs (Str.ofString "&INPUT") (.int J t)) rows out J O T c := by
  refine ⟨?_, ?_, ⟨t, ?_⟩, ?_, ?_, fun k hk => ?_, ?_⟩
  · rw [valueAt_stored, if_neg (by decide +kernel)]; exact B.rows
  · rw [valueAt_stored, if_neg (by decide +kernel)]; exact B.out
  · rw [valueAt_stored, if_pos rfl]
  · rw [valueAt_stored, if_neg (by decide +kernel)]; exact B.outp
  · rw [valueAt_stored, if_neg (by decide +kernel)]; exact B.trim
  · rw [valueAt_stored, if_neg (names_off k hk).1]; exact B.cell k hk
  · obtain ⟨x, hx⟩ := B.inp
    rw [stored_len_same hx]; exact B.len
theorem Bk.setO {kvs : List (Str × Value)} {rows out : Addr} {I O T J : Int} {c : Str → Cell} (B : Bk kvs rows out I O T c) {t : Tok} : Bk (stored kvs (Str.ofString "&OUTPUT") (.int J t)) rows out I J T c := by
  refine ⟨?_, ?_, ?_, ⟨t, ?_⟩, ?_, fun k hk => ?_, ?_⟩
  · rw [valueAt_stored, if_neg (by decide +kernel)]; exact B.rows
  · rw [valueAt_stored, if_neg (by decide +kernel)]; exact B.out
  · rw [valueAt_stored, if_neg (by decide +kernel)]; exact B.inp
  · rw [valueAt_stored, if_pos rfl]
  · rw [valueAt_stored, if_neg (by decide +kernel)]; exact B.trim
  · rw [valueAt_stored, if_neg (names_off k hk).2.1]; exact B.cell k hk
  · obtain ⟨x, hx⟩ := B.outp
    rw [stored_len_same hx]; exact B.len
theorem Bk.setT {kvs : List (Str × Value)} {rows out : Addr} {I O T J : Int} {c : Str → Cell} (B : Bk kvs rows out I O T c) {t : Tok} : Bk (stored kvs (Str.ofString "&TRIM") (.int J t)) rows out I O J c := by
  refine ⟨?_, ?_, ?_, ?_, ⟨t, ?_⟩, fun k hk => ?_, ?_⟩
  · rw [valueAt_stored, if_neg (by decide +kernel)]; exact B.rows
  · rw [valueAt_stored, if_neg (by decide +kernel)]; exact B.out
  · rw [valueAt_stored, if_neg (by decide +kernel)]; exact B.inp
  · rw [valueAt_stored, if_neg (by decide +kernel)]; exact B.outp
  · rw [valueAt_stored, if_pos rfl]
  · rw [valueAt_stored, if_neg (names_off k hk).2.2]; exact B.cell k hk
  · obtain ⟨x, hx⟩ := B.trim
    rw [stored_len_same hx]; exact B.len
end Mine
namespace Mine
theorem rowsOk {xs : List Str} (h : ∀ x ∈ xs, isRow x) : okStrs xs := fun x hx => by
  rcases h x hx with e | e | e | e <;> subst e <;> decide +kernel
theorem okNil : okStrs [] := fun _ h => nomatch h
def isRead (n : Str) : Prop := n = Str.ofString "INPUT" ∨ n = Str.ofString "R"
theorem va_self {k : Str} {v : Value} {kvs : List (Str × Value)} : valueAt (stored kvs k v) k = some v := by rw [valueAt_stored, if_pos rfl]

theorem sub2 {a b : Addr × Obj} {big rest : List (Addr × Obj)} (ha : a ∈ big) (hb : b ∈ big) : ∀ q ∈ a :: b :: rest, q ∈ big ++ rest := fun q hq => by
  rcases List.mem_cons.mp hq with rfl | hq
  · exact List.mem_append_left _ ha
  · rcases List.mem_cons.mp hq with rfl | hq
    · exact List.mem_append_left _ hb
    · exact List.mem_append_right _ hq
theorem notRead_W : ¬ isRead (Str.ofString "W") := fun h => by rcases h with e | e <;> exact absurd e (by decide +kernel)
theorem notRead_X : ¬ isRead (Str.ofString "X") := fun h => by rcases h with e | e <;> exact absurd e (by decide +kernel)
theorem notRead_OUTPUT : ¬ isRead (Str.ofString "OUTPUT") := fun h => by rcases h with e | e <;> exact absurd e (by decide +kernel)
theorem in_read {prog : Program} {w : World} {A : Around} {E : Value → Shared → Prop} {s : Shared} {h₀ : Heap} {L l : Addr} {news : List (Addr × Obj)} {n : Nat} {Q : Value → Shared → Prop} {x : Str} {t t1 t2 : Tok} (b : Bool) (N : News h₀ L s.heap news) (hm : (l, ({ cls := .type "tuple", data := .seq [Value.str (Str.ofString "INPUT") t1, Value.str (Str.ofString "R") t2].toArray n } : Obj)) ∈ news)
    (hb : b = true ↔ isRead x) (h : Q (.bool b) s) : wpAny (model prog w) A (compareOp .In (.str x t) (.ref l)) Q E s := by
  refine in_tuple_strs (News.isTup N hm) (StrsAre.cons _ _ (StrsAre.cons _ _ StrsAre.nil)) ?_
  have e : ([Str.ofString "INPUT", Str.ofString "R"].any (· == x)) = b := by
    rw [Bool.eq_iff_iff, hb]
    simp only [List.any_cons, List.any_nil, Bool.or_false, Bool.or_eq_true, beq_iff_eq]
    constructor
    · rintro (e | e)
      · exact .inl e.symm
      · exact .inr e.symm
    · rintro (e | e)
      · exact .inl e.symm
      · exact .inr e.symm
  rw [e]; exact h
set_option maxHeartbeats 8000000 in
theorem due_call {prog : Program} {w : World} {s : Shared} {base h₀ : Heap} {outer : List Env} {L : Addr} {m mg mb : Str → Option Value} {env : Env} {news : List (Addr × Obj)} {p : Program} {loose : List Str} {mean : ExcName → Option Value}
    {Q : Value → Shared → Prop} {E : Value → Shared → Prop} {books rows out : Addr} {kvs : List (Str × Value)} {ob : Obj} {vs : List Value} {xs : List Str} {nr : Nat} {I O T : Int} {c : Str → Cell} {name : Str} {t : Tok} (rest : List (Addr × Obj))
    (B : Below callerA base outer h₀) (F : Fr h₀ L s.heap m) (X : (hd.heap_39 w.params).In h₀) (N : News h₀ L s.heap news) (TT : Top p loose mean mg mb h₀) (hf : env.frame = some L) (hke : env.scope.kind = .function)
    (hb : (books, ob) ∈ news) (hr : (rows, listOf vs.toArray nr) ∈ news) (hrest : ∀ q ∈ rest, q ∈ news) (hap : ∀ q ∈ rest, q.1 ≠ books ∧ q.1 ≠ rows) (hne : @Ne Nat books rows)
    (hd : ob.IsDictOf (PySem.strKind prog w) kvs) (K : Bk kvs rows out I O T c) (hs : StrsAre vs xs) (hrow : ∀ x ∈ xs, isRow x) (hlen : xs.length ≤ 4) (hn : isName name)
    (h1 : ∀ h' tk', Fr h₀ L h' m → News h₀ L h' ((books, ob) :: (rows, listOf vs.toArray nr) :: rest) → isRead name → I ≠ 0 → xs = [] → Q .none { s with heap := h', toks := tk' })
    (h2 : ∀ h' tk' ob' kvs' vs' nr' x xs' y ty, Fr h₀ L h' m → News h₀ L h' ((books, ob') :: (rows, listOf (List.toArray vs') nr') :: rest) → isRead name → I ≠ 0 → xs = x :: xs' → StrsAre vs' xs' → ob'.IsDictOf (PySem.strKind prog w) kvs' →
      Bk kvs' rows out I O T (upd c name (.str y)) → y = (if T = 0 then x else cutT x) → Q (.str y ty) { s with heap := h', toks := tk' })
    (h3 : ∀ h' tk' v, Fr h₀ L h' m → News h₀ L h' ((books, ob) :: (rows, listOf vs.toArray nr) :: rest) → (¬ isRead name ∨ I = 0) → IsC v (c name) → Q v { s with heap := h', toks := tk' }) :
    wpAny (model prog w) (callerA.deeper env) (call (.ref 207) [.ref books, .str name t]) Q E s := by
  w_top off
  refine wpAny_call ?_
  refine' callS (binds := [(PySem.Str.ofString "books", Value.ref books), (PySem.Str.ofString "name", Value.str name t)]) [(books, ob), (rows, listOf vs.toArray nr)] rest B F X N TT (Around.frames_deeper B.stack) hf hke ?k0 hrest ?k1 ?k6 ?k7 ?k8 ?k9 ?kB ?_ ?c5 ?c2 ?c3 ?c4
  case k0 => exact List.forall_mem_cons.mpr ⟨hb, List.forall_mem_cons.mpr ⟨hr, List.forall_mem_nil _⟩⟩
  case k1 => exact fun q hq => List.forall_mem_cons.mpr ⟨(hap q hq).1, List.forall_mem_cons.mpr ⟨(hap q hq).2, List.forall_mem_nil _⟩⟩
  case k6 => k_is
  case k7 => k_is
  case k8 => k_room
  case k9 => exact BindsTo.of_eq rfl
  case c5 => decide
  case kB => exact locs rfl
  case c2 => exact rfl
  case c3 => exact rfl
  case c4 => exact rfl
  intro g' L' h' FG' F' N' B' X' T' l1 hg back
  clear l1 hg
  (try dsimp only)
  try k_lift B'
  obtain ⟨tI, hI⟩ := K.inp
  obtain ⟨tT, hT⟩ := K.trim
  have hR := K.rows
  obtain ⟨cv, hcv, hcc⟩ := K.cell name hn
  have hok := rowsOk hrow
  by_cases hrd : isRead name
  · cases hs with
    | nil =>
      have hs0 := StrsAre.nil
      try k_fold
      (repeat' (first | ((with_reducible show wpAny _ _ (compareOp CmpOp.In (Value.str _ _) (Value.ref _)) _ _ _); (k_here; k_dflt (first   | (refine' in_read true ?zqN ?zqm ?zqb ?_; (case zqN => k_asm); (case zqm => k_mem); (case zqb => exact ⟨fun _ => by assumption, fun _ => rfl⟩))   | (refine' in_read false ?zqN ?zqm ?zqb ?_; (case zqN => k_asm); (case zqm => k_mem); (case zqb => exact ⟨fun z => absurd z Bool.false_ne_true, fun z => absurd z (by assumption)⟩))))) | ((with_reducible show wpAny _ _ (call (Value.ref _) _) _ _ _); (k_here; (with_reducible show wpAny _ _ (call (Value.ref 200) [Value.str _ _]) _ _ _); k_dflt (refine' cut_call ?zqB ?zqF ?zqX ?zqN ?zqT ?zqf ?zqk ?zqx ?_; (case zqB => k_asm); (case zqF => k_asm); (case zqX => k_asm); (case zqN => k_asm); (case zqT => k_asm); (case zqf => exact rfl); (case zqk => exact rfl); (case zqx => assumption)); with_reducible intro h' t' k' F' N')) | ((with_reducible show wpAny _ _ (setItem (Value.ref _) (Value.str _ _) _) _ _ _); (k_here; k_dflt (refine' kda_set (knd := PySem.strKind _ _) ?zqF ?zqN ?zqU ?zqd (strKind_is _ _ _ _) ?zqz ?_; (case zqF => k_asm); (case zqN => k_asm); (case zqU => k_updF); (case zqd => k_asm); (case zqz => rw [sizeLine_eq]; exact Nat.le_trans (Bk.len (by assumption)) (by decide))); with_reducible intro h' o' F' N' hd'; (try dsimp only at N'))) | ((with_reducible show wpAny _ _ (call (Value.builtin "list.pop") _) _ _ _); (k_here; (with_reducible show wpAny _ _ (call (Value.builtin _) [Value.ref _, Value.int _ _]) _ _ _); k_dflt (refine' pop0 ?zqF ?zqN ?zqU ?zqz ?_; (case zqF => k_asm); (case zqN => k_asm); (case zqU => k_upd); (case zqz => assumption)); with_reducible intro h' F' N')) | ((with_reducible show wpAny _ _ (compareOp CmpOp.Eq (Value.ref _) (Value.ref _)) _ _ _); (k_here; (with_reducible show wpAny _ _ (compareOp CmpOp.Eq (Value.ref _) (Value.ref _)) _ _ _); first   | refine eq_strs true (by k_asm) (by k_mem) (by k_mem) (by assumption) StrsAre.nil (by assumption) okNil (by k_units) (by rfl) ?_   | refine eq_strs false (by k_asm) (by k_mem) (by k_mem) (by assumption) StrsAre.nil (by assumption) okNil (by k_units) (by rfl) ?_)) | ((with_reducible show wpAny _ _ (subscriptTail _ _ (Value.ref _) _) _ _ _); (k_here; (with_reducible show wpAny _ _ (subscriptTail _ _ (Value.ref _) (Value.str _ _)) _ _ _); k_dflt (refine kda_item (knd := PySem.strKind _ _) (by k_asm) (by k_mem) (by k_asm) (strKind_is _ _ _ _) (by first | assumption | exact va_self) ?_))) | (k_unfold; (try dsimp only)) | (k_end; wrow_close) | walk1 | (dsimp only; walk1) | (leave1; walk_say "STEP leave1"; try dsimp only) | fail "no step"))
      all_goals (first   | exact h1 _ _ (by assumption) (fun q hq => back _ _ _ _ (by assumption) (by assumption) q (sub2 (by k_mem) (by k_mem) q hq)) hrd (by assumption) rfl   | exact h2 _ _ _ _ _ _ _ _ _ _ (by assumption) (fun q hq => back _ _ _ _ (by assumption) (by assumption) q (sub2 (by k_mem) (by k_mem) q hq)) hrd (by assumption) rfl hs' (by assumption) (Bk.set K hn (.str _ _)) (by first | rw [if_pos (by assumption)] | rw [if_neg (by assumption)])   | exact h3 _ _ _ (by assumption) (fun q hq => back _ _ _ _ (by assumption) (by assumption) q (sub2 (by k_mem) (by k_mem) q hq)) (by first | exact .inl (by assumption) | exact .inr (by assumption)) hcc)
    | @cons y ty vs₁ xs₁ hs' =>
      have hs0 := StrsAre.cons y ty hs'
      have hz : (Value.str y ty :: vs₁).length ≤ sizeLine := by rw [sizeLine_eq, hs0.length]; omega
      have hy := hrow y (List.mem_cons_self ..)
      try k_fold
      (repeat' (first | ((with_reducible show wpAny _ _ (compareOp CmpOp.In (Value.str _ _) (Value.ref _)) _ _ _); (k_here; k_dflt (first   | (refine' in_read true ?zqN ?zqm ?zqb ?_; (case zqN => k_asm); (case zqm => k_mem); (case zqb => exact ⟨fun _ => by assumption, fun _ => rfl⟩))   | (refine' in_read false ?zqN ?zqm ?zqb ?_; (case zqN => k_asm); (case zqm => k_mem); (case zqb => exact ⟨fun z => absurd z Bool.false_ne_true, fun z => absurd z (by assumption)⟩))))) | ((with_reducible show wpAny _ _ (call (Value.ref _) _) _ _ _); (k_here; (with_reducible show wpAny _ _ (call (Value.ref 200) [Value.str _ _]) _ _ _); k_dflt (refine' cut_call ?zqB ?zqF ?zqX ?zqN ?zqT ?zqf ?zqk ?zqx ?_; (case zqB => k_asm); (case zqF => k_asm); (case zqX => k_asm); (case zqN => k_asm); (case zqT => k_asm); (case zqf => exact rfl); (case zqk => exact rfl); (case zqx => assumption)); with_reducible intro h' t' k' F' N')) | ((with_reducible show wpAny _ _ (setItem (Value.ref _) (Value.str _ _) _) _ _ _); (k_here; k_dflt (refine' kda_set (knd := PySem.strKind _ _) ?zqF ?zqN ?zqU ?zqd (strKind_is _ _ _ _) ?zqz ?_; (case zqF => k_asm); (case zqN => k_asm); (case zqU => k_updF); (case zqd => k_asm); (case zqz => rw [sizeLine_eq]; exact Nat.le_trans (Bk.len (by assumption)) (by decide))); with_reducible intro h' o' F' N' hd'; (try dsimp only at N'))) | ((with_reducible show wpAny _ _ (call (Value.builtin "list.pop") _) _ _ _); (k_here; (with_reducible show wpAny _ _ (call (Value.builtin _) [Value.ref _, Value.int _ _]) _ _ _); k_dflt (refine' pop0 ?zqF ?zqN ?zqU ?zqz ?_; (case zqF => k_asm); (case zqN => k_asm); (case zqU => k_upd); (case zqz => assumption)); with_reducible intro h' F' N')) | ((with_reducible show wpAny _ _ (compareOp CmpOp.Eq (Value.ref _) (Value.ref _)) _ _ _); (k_here; (with_reducible show wpAny _ _ (compareOp CmpOp.Eq (Value.ref _) (Value.ref _)) _ _ _); first   | refine eq_strs true (by k_asm) (by k_mem) (by k_mem) (by assumption) StrsAre.nil (by assumption) okNil (by k_units) (by rfl) ?_   | refine eq_strs false (by k_asm) (by k_mem) (by k_mem) (by assumption) StrsAre.nil (by assumption) okNil (by k_units) (by rfl) ?_)) | ((with_reducible show wpAny _ _ (subscriptTail _ _ (Value.ref _) _) _ _ _); (k_here; (with_reducible show wpAny _ _ (subscriptTail _ _ (Value.ref _) (Value.str _ _)) _ _ _); k_dflt (refine kda_item (knd := PySem.strKind _ _) (by k_asm) (by k_mem) (by k_asm) (strKind_is _ _ _ _) (by first | assumption | exact va_self) ?_))) | (k_unfold; (try dsimp only)) | (k_end; wrow_close) | walk1 | (dsimp only; walk1) | (leave1; walk_say "STEP leave1"; try dsimp only) | fail "no step"))
      all_goals (first   | exact h1 _ _ (by assumption) (fun q hq => back _ _ _ _ (by assumption) (by assumption) q (sub2 (by k_mem) (by k_mem) q hq)) hrd (by assumption) rfl   | exact h2 _ _ _ _ _ _ _ _ _ _ (by assumption) (fun q hq => back _ _ _ _ (by assumption) (by assumption) q (sub2 (by k_mem) (by k_mem) q hq)) hrd (by assumption) rfl hs' (by assumption) (Bk.set K hn (.str _ _)) (by first | rw [if_pos (by assumption)] | rw [if_neg (by assumption)])   | exact h3 _ _ _ (by assumption) (fun q hq => back _ _ _ _ (by assumption) (by assumption) q (sub2 (by k_mem) (by k_mem) q hq)) (by first | exact .inl (by assumption) | exact .inr (by assumption)) hcc)
  · try k_fold
    (repeat' (first | ((with_reducible show wpAny _ _ (compareOp CmpOp.In (Value.str _ _) (Value.ref _)) _ _ _); (k_here; k_dflt (first   | (refine' in_read true ?zqN ?zqm ?zqb ?_; (case zqN => k_asm); (case zqm => k_mem); (case zqb => exact ⟨fun _ => by assumption, fun _ => rfl⟩))   | (refine' in_read false ?zqN ?zqm ?zqb ?_; (case zqN => k_asm); (case zqm => k_mem); (case zqb => exact ⟨fun z => absurd z Bool.false_ne_true, fun z => absurd z (by assumption)⟩))))) | ((with_reducible show wpAny _ _ (call (Value.ref _) _) _ _ _); (k_here; (with_reducible show wpAny _ _ (call (Value.ref 200) [Value.str _ _]) _ _ _); k_dflt (refine' cut_call ?zqB ?zqF ?zqX ?zqN ?zqT ?zqf ?zqk ?zqx ?_; (case zqB => k_asm); (case zqF => k_asm); (case zqX => k_asm); (case zqN => k_asm); (case zqT => k_asm); (case zqf => exact rfl); (case zqk => exact rfl); (case zqx => assumption)); with_reducible intro h' t' k' F' N')) | ((with_reducible show wpAny _ _ (setItem (Value.ref _) (Value.str _ _) _) _ _ _); (k_here; k_dflt (refine' kda_set (knd := PySem.strKind _ _) ?zqF ?zqN ?zqU ?zqd (strKind_is _ _ _ _) ?zqz ?_; (case zqF => k_asm); (case zqN => k_asm); (case zqU => k_updF); (case zqd => k_asm); (case zqz => rw [sizeLine_eq]; exact Nat.le_trans (Bk.len (by assumption)) (by decide))); with_reducible intro h' o' F' N' hd'; (try dsimp only at N'))) | ((with_reducible show wpAny _ _ (call (Value.builtin "list.pop") _) _ _ _); (k_here; (with_reducible show wpAny _ _ (call (Value.builtin _) [Value.ref _, Value.int _ _]) _ _ _); k_dflt (refine' pop0 ?zqF ?zqN ?zqU ?zqz ?_; (case zqF => k_asm); (case zqN => k_asm); (case zqU => k_upd); (case zqz => assumption)); with_reducible intro h' F' N')) | ((with_reducible show wpAny _ _ (compareOp CmpOp.Eq (Value.ref _) (Value.ref _)) _ _ _); (k_here; (with_reducible show wpAny _ _ (compareOp CmpOp.Eq (Value.ref _) (Value.ref _)) _ _ _); first   | refine eq_strs true (by k_asm) (by k_mem) (by k_mem) (by assumption) StrsAre.nil (by assumption) okNil (by k_units) (by rfl) ?_   | refine eq_strs false (by k_asm) (by k_mem) (by k_mem) (by assumption) StrsAre.nil (by assumption) okNil (by k_units) (by rfl) ?_)) | ((with_reducible show wpAny _ _ (subscriptTail _ _ (Value.ref _) _) _ _ _); (k_here; (with_reducible show wpAny _ _ (subscriptTail _ _ (Value.ref _) (Value.str _ _)) _ _ _); k_dflt (refine kda_item (knd := PySem.strKind _ _) (by k_asm) (by k_mem) (by k_asm) (strKind_is _ _ _ _) (by first | assumption | exact va_self) ?_))) | (k_unfold; (try dsimp only)) | (k_end; wrow_close) | walk1 | (dsimp only; walk1) | (leave1; walk_say "STEP leave1"; try dsimp only) | fail "no step"))
    all_goals (first   | exact h1 _ _ (by assumption) (fun q hq => back _ _ _ _ (by assumption) (by assumption) q (sub2 (by k_mem) (by k_mem) q hq)) hrd (by assumption) rfl   | exact h2 _ _ _ _ _ _ _ _ _ _ (by assumption) (fun q hq => back _ _ _ _ (by assumption) (by assumption) q (sub2 (by k_mem) (by k_mem) q hq)) hrd (by assumption) rfl hs' (by assumption) (Bk.set K hn (.str _ _)) (by first | rw [if_pos (by assumption)] | rw [if_neg (by assumption)])   | exact h3 _ _ _ (by assumption) (fun q hq => back _ _ _ _ (by assumption) (by assumption) q (sub2 (by k_mem) (by k_mem) q hq)) (by first | exact .inl (by assumption) | exact .inr (by assumption)) hcc)
end Mine
namespace Mine
theorem rstrip_cut {x : Str} (h : isRow x) : Txt.rstripChars x (Str.ofString " \t") = cutT x := by
  rcases h with e | e | e | e <;> subst e <;> decide +kernel
structure Wd (es : List DictEntry) (rn wn kw st inp outp trc : Addr) : Prop where
  rn : getL (Str.ofString "read_names") es = some (some (.ref rn))
  wn : getL (Str.ofString "write_names") es = some (some (.ref wn))
  kw : getL (Str.ofString "keywords") es = some (some (.ref kw))
  st : getL (Str.ofString "store") es = some (some (.ref st))
  inp : getL (Str.ofString "inputs") es = some (some (.ref inp))
  outp : getL (Str.ofString "outputs") es = some (some (.ref outp))
  trc : getL (Str.ofString "traced") es = some (some (.ref trc))
  width : ∃ t, getL (Str.ofString "width") es = some (some (.int 32 t))
structure Kw (kvs : List (Str × Value)) (I O T : Int) : Prop where
  inp : ∃ t, valueAt kvs (Str.ofString "INPUT") = some (.int I t)
  outp : ∃ t, valueAt kvs (Str.ofString "OUTPUT") = some (.int O t)
  trim : ∃ t, valueAt kvs (Str.ofString "TRIM") = some (.int T t)
  len : kvs.length ≤ 30
structure Stt (kvs : List (Str × Value)) (c : Str → Cell) (k : Nat) : Prop where
  cell : ∀ n, isName n → (∃ v, valueAt kvs n = some v ∧ IsC v (c n)) ∨ (valueAt kvs n = none ∧ c n = .str (Str.ofString ""))
  len : kvs.length ≤ k
theorem Stt.set {kvs : List (Str × Value)} {c : Str → Cell} {k : Nat} (S : Stt kvs c k) {n : Str} {v : Value} {d : Cell} (hv : IsC v d) : Stt (stored kvs n v) (upd c n d) (k + 1) := by
  refine ⟨fun y hy => ?_, ?_⟩
  · rw [valueAt_stored]; unfold upd
    by_cases e : y = n
    · rw [if_pos e, if_pos e]; exact .inl ⟨v, rfl, hv⟩
    · rw [if_neg e, if_neg e]; exact S.cell y hy
  · have := stored_length_le kvs n v; have := S.len; omega
theorem Stt.getD {kvs : List (Str × Value)} {c : Str → Cell} {k : Nat} (S : Stt kvs c k) {n : Str} (hn : isName n) (t : Tok) : IsC ((valueAt kvs n).getD (.str (Str.ofString "") t)) (c n) := by
  rcases S.cell n hn with ⟨v, h, hc⟩ | ⟨h, hc⟩
  · rw [h]; exact hc
  · rw [h, hc]; exact .str _ _
theorem isRow.len {x : Str} (h : isRow x) : x.length ≤ sizeLine := by
  rw [sizeLine_eq]
  rcases h with e | e | e | e <;> subst e <;> decide +kernel
theorem sub6 {a b c d e f : Addr × Obj} {big rest : List (Addr × Obj)} (ha : a ∈ big) (hb : b ∈ big) (hc : c ∈ big) (hd : d ∈ big) (he : e ∈ big) (hf : f ∈ big) : ∀ q ∈ a :: b :: c :: d :: e :: f :: rest, q ∈ big ++ rest := fun q hq => by
  simp only [List.mem_cons] at hq
  rcases hq with rfl | rfl | rfl | rfl | rfl | rfl | hq
  all_goals first | exact List.mem_append_left _ (by assumption) | exact List.mem_append_right _ hq
set_option maxHeartbeats 8000000 in
theorem get_call {prog : Program} {w : World} {s : Shared} {base h₀ : Heap} {outer : List Env} {L : Addr} {m mg mb : Str → Option Value} {env : Env} {news : List (Addr × Obj)} {p : Program} {loose : List Str} {mean : ExcName → Option Value}
    {Q : Value → Shared → Prop} {E : Value → Shared → Prop} {wa da rn wn kw st inp outp trc : Addr} {es : List DictEntry} {nn : Nat} {kvsR kvsK kvsS : List (Str × Value)} {orn okw ost : Obj} {vs : List Value} {xs : List Str} {ni k : Nat} {I O T : Int} {c : Str → Cell} {name : Str} {t : Tok} (rest : List (Addr × Obj))
    (B : Below callerA base outer h₀) (F : Fr h₀ L s.heap m) (X : (hd.heap_39 w.params).In h₀) (N : News h₀ L s.heap news) (TT : Top p loose mean mg mb h₀) (hf : env.frame = some L) (hke : env.scope.kind = .function)
    (hsub : ∀ q ∈ [(wa, instObj 111 da), (da, dictOf es nn), (rn, orn), (kw, okw), (st, ost), (inp, listOf vs.toArray ni)], q ∈ news) (hrest : ∀ q ∈ rest, q ∈ news)
    (hap : ∀ q ∈ rest, ∀ r ∈ [(wa, instObj 111 da), (da, dictOf es nn), (rn, orn), (kw, okw), (st, ost), (inp, listOf vs.toArray ni)], q.1 ≠ r.1)
    (n1 : @Ne Nat wa st) (n2 : @Ne Nat da st) (n3 : @Ne Nat rn st) (n4 : @Ne Nat kw st) (n5 : @Ne Nat inp st) (n6 : @Ne Nat wa inp) (n7 : @Ne Nat da inp) (n8 : @Ne Nat rn inp) (n9 : @Ne Nat kw inp)
    (lo1 : (rn == sysModules) = false) (lo2 : (kw == sysModules) = false) (lo3 : (st == sysModules) = false)
    (W : Wd es rn wn kw st inp outp trc) (hdR : orn.IsDictOf (PySem.strKind prog w) kvsR) (hR : ∀ n, isName n → isRead n → (valueAt kvsR n).isSome = true) (hR' : ∀ n, isName n → ¬ isRead n → (valueAt kvsR n).isSome = false)
    (hdK : okw.IsDictOf (PySem.strKind prog w) kvsK) (K : Kw kvsK I O T) (hdS : ost.IsDictOf (PySem.strKind prog w) kvsS) (S : Stt kvsS c k) (hk : k ≤ 50) (hs : StrsAre vs xs) (hrow : ∀ x ∈ xs, isRow x) (hlen : xs.length ≤ 4) (hn : isName name)
    (h1 : ∀ h' tk', Fr h₀ L h' m → News h₀ L h' ((wa, instObj 111 da) :: (da, dictOf es nn) :: (rn, orn) :: (kw, okw) :: (st, ost) :: (inp, listOf vs.toArray ni) :: rest) → isRead name → I ≠ 0 → xs = [] → Q .none { s with heap := h', toks := tk' })
    (h2 : ∀ h' tk' ost' kvs' vs' ni' x xs' y ty, Fr h₀ L h' m → News h₀ L h' ((wa, instObj 111 da) :: (da, dictOf es nn) :: (rn, orn) :: (kw, okw) :: (st, ost') :: (inp, listOf (List.toArray vs') ni') :: rest) → isRead name → I ≠ 0 → xs = x :: xs' → StrsAre vs' xs' → ost'.IsDictOf (PySem.strKind prog w) kvs' →
      Stt kvs' (upd c name (.str y)) (k + 1) → y = (if T = 0 then x else cutT x) → Q (.str y ty) { s with heap := h', toks := tk' })
    (h3 : ∀ h' tk' v, Fr h₀ L h' m → News h₀ L h' ((wa, instObj 111 da) :: (da, dictOf es nn) :: (rn, orn) :: (kw, okw) :: (st, ost) :: (inp, listOf vs.toArray ni) :: rest) → (¬ isRead name ∨ I = 0) → IsC v (c name) → Q v { s with heap := h', toks := tk' }) :
    wpAny (model prog w) (callerA.deeper env) (call (.ref 122) [.ref wa, .str name t]) Q E s := by
  w_top off
  refine wpAny_call ?_
  refine' callS (binds := [(PySem.Str.ofString "world", Value.ref wa), (PySem.Str.ofString "name", Value.str name t)]) [(wa, instObj 111 da), (da, dictOf es nn), (rn, orn), (kw, okw), (st, ost), (inp, listOf vs.toArray ni)] rest B F X N TT (Around.frames_deeper B.stack) hf hke hsub hrest hap ?k6 ?k7 ?k8 ?k9 ?kB ?_ ?c5 ?c2 ?c3 ?c4
  case k6 => k_is
  case k7 => k_is
  case k8 => k_room
  case k9 => exact BindsTo.of_eq rfl
  case c5 => decide
  case kB => exact locs rfl
  case c2 => exact rfl
  case c3 => exact rfl
  case c4 => exact rfl
  intro g' L' h' FG' F' N' B' X' T' l1 hg back
  clear l1 hg hsub hap
  (try dsimp only)
  try k_lift B'
  obtain ⟨tI, hI⟩ := K.inp
  obtain ⟨tT, hT⟩ := K.trim
  have w1 := W.rn
  have w2 := W.kw
  have w3 := W.st
  have w4 := W.inp
  have hn' := hn
  rcases hn' with e | e | e | e | e
  all_goals subst e
  · have hRd := hR _ hn (.inl rfl)
    cases hs with
    | nil =>
      try k_fold
      (repeat' (first | ((with_reducible show wpAny _ _ (call (Value.builtin "str.rstrip") _) _ _ _); (k_here; (refine SCL.rstripChars (hsz := ?zqhsz) ?_); (case zqhsz => exact isRow.len (by assumption)); with_reducible intro _ _ _)) | ((with_reducible show wpAny _ _ (call (Value.builtin "len") _) _ _ _); (k_here; (with_reducible show wpAny _ _ (call (Value.builtin "len") [Value.ref _]) _ _ _); k_dflt (first   | refine kun_lenL (k := 0) (News.isList (by k_asm) (by k_mem)) (by rfl) (by decide) ?_   | refine kun_lenL (News.isList (by k_asm) (by k_mem)) (by assumption) (by assumption) ?_))) | ((with_reducible show wpAny _ _ (setItem (Value.ref _) (Value.str _ _) _) _ _ _); (k_here; k_dflt (refine' kda_set (knd := PySem.strKind _ _) ?zqF ?zqN ?zqU ?zqd (strKind_is _ _ _ _) ?zqz ?_; (case zqF => k_asm); (case zqN => k_asm); (case zqU => k_updF); (case zqd => k_asm); (case zqz => rw [sizeLine_eq]; exact Nat.le_trans (Stt.len (by assumption)) (by omega))); with_reducible intro h' o' F' N' hd'; (try dsimp only at N'))) | ((with_reducible show wpAny _ _ (call (Value.builtin "list.pop") _) _ _ _); (k_here; (with_reducible show wpAny _ _ (call (Value.builtin _) [Value.ref _, Value.int _ _]) _ _ _); k_dflt (refine' pop0 ?zqF ?zqN ?zqU ?zqz ?_; (case zqF => k_asm); (case zqN => k_asm); (case zqU => k_upd); (case zqz => assumption)); with_reducible intro h' F' N')) | ((with_reducible show wpAny _ _ (call (Value.builtin "dict.get") _) _ _ _); (k_here; k_dflt (first   | (refine kdg_get2 (knd := PySem.strKind _ _) (by k_asm) (by k_mem) (by k_asm) (by k_asm) (strKind_is _ _ _ _) (some _) (by assumption) ?_; (try dsimp only [Option.getD]))   | refine kdg_get2 (knd := PySem.strKind _ _) (by k_asm) (by k_mem) (by k_asm) (by k_asm) (strKind_is _ _ _ _) _ (by rfl) ?_))) | ((with_reducible show wpAny _ _ (compareOp CmpOp.In (Value.str _ _) (Value.ref _)) _ _ _); (k_here; k_dflt (first   | refine kda_in (knd := PySem.strKind _ _) (by k_asm) (by k_mem) (by k_asm) (by k_asm) (strKind_is _ _ _ _) true (by assumption) ?_   | refine kda_in (knd := PySem.strKind _ _) (by k_asm) (by k_mem) (by k_asm) (by k_asm) (strKind_is _ _ _ _) false (by assumption) ?_))) | ((with_reducible show wpAny _ _ (getAttr (Value.ref _) _ _) _ _ _); (k_here; k_dflt (refine' get_own ?zqk1 ?zqk2 ?zqk3 ?zqk4 ?zqk5 ?zqk6 ?zqk7 ?zqk8 ?zqk9 ?_; (case zqk1 => k_asm); (case zqk2 => k_asm); (case zqk3 => k_inst); (case zqk4 => k_is); (case zqk5 => k_is); (case zqk6 => k_is); (case zqk7 => k_is); (case zqk8 => assumption); (case zqk9 => k_handed); k_whole))) | (k_unfold; (try dsimp only)) | (k_end; wrow_close) | walk1 | (dsimp only; walk1) | (leave1; walk_say "STEP leave1"; try dsimp only) | fail "no step"))
      all_goals (first   | (exfalso; omega)   | exact h1 _ _ (by assumption) (fun q hq => back _ _ _ _ (by assumption) (by assumption) q (sub6 (by k_mem) (by k_mem) (by k_mem) (by k_mem) (by k_mem) (by k_mem) q hq)) (by first | exact .inl rfl | exact .inr rfl) (by assumption) rfl   | exact h2 _ _ _ _ _ _ _ _ _ _ (by assumption) (fun q hq => back _ _ _ _ (by assumption) (by assumption) q (sub6 (by k_mem) (by k_mem) (by k_mem) (by k_mem) (by k_mem) (by k_mem) q hq)) (by first | exact .inl rfl | exact .inr rfl) (by assumption) rfl hs' (by assumption) (Stt.set S (.str _ _)) (by first | rw [if_pos (by assumption)] | rw [if_neg (by assumption), rstrip_cut hy])   | exact h3 _ _ _ (by assumption) (fun q hq => back _ _ _ _ (by assumption) (by assumption) q (sub6 (by k_mem) (by k_mem) (by k_mem) (by k_mem) (by k_mem) (by k_mem) q hq)) (by first | exact .inl notRead_W | exact .inl notRead_X | exact .inl notRead_OUTPUT | exact .inr (by assumption)) (Stt.getD S hn _))
    | @cons y ty vs₁ xs₁ hs' =>
      have hz : (Value.str y ty :: vs₁).length ≤ sizeLine := by rw [sizeLine_eq, (StrsAre.cons y ty hs').length]; omega
      have hz1 : (((Value.str y ty :: vs₁).toArray.size : Nat) : Int) = (xs₁.length : Int) + 1 := by rw [List.size_toArray, (StrsAre.cons y ty hs').length]; simp
      have hz2 : (xs₁.length : Int) + 1 ≤ 16384 := by simp only [List.length_cons] at hlen; omega
      have hy := hrow y (List.mem_cons_self ..)
      try k_fold
      (repeat' (first | ((with_reducible show wpAny _ _ (call (Value.builtin "str.rstrip") _) _ _ _); (k_here; (refine SCL.rstripChars (hsz := ?zqhsz) ?_); (case zqhsz => exact isRow.len (by assumption)); with_reducible intro _ _ _)) | ((with_reducible show wpAny _ _ (call (Value.builtin "len") _) _ _ _); (k_here; (with_reducible show wpAny _ _ (call (Value.builtin "len") [Value.ref _]) _ _ _); k_dflt (first   | refine kun_lenL (k := 0) (News.isList (by k_asm) (by k_mem)) (by rfl) (by decide) ?_   | refine kun_lenL (News.isList (by k_asm) (by k_mem)) (by assumption) (by assumption) ?_))) | ((with_reducible show wpAny _ _ (setItem (Value.ref _) (Value.str _ _) _) _ _ _); (k_here; k_dflt (refine' kda_set (knd := PySem.strKind _ _) ?zqF ?zqN ?zqU ?zqd (strKind_is _ _ _ _) ?zqz ?_; (case zqF => k_asm); (case zqN => k_asm); (case zqU => k_updF); (case zqd => k_asm); (case zqz => rw [sizeLine_eq]; exact Nat.le_trans (Stt.len (by assumption)) (by omega))); with_reducible intro h' o' F' N' hd'; (try dsimp only at N'))) | ((with_reducible show wpAny _ _ (call (Value.builtin "list.pop") _) _ _ _); (k_here; (with_reducible show wpAny _ _ (call (Value.builtin _) [Value.ref _, Value.int _ _]) _ _ _); k_dflt (refine' pop0 ?zqF ?zqN ?zqU ?zqz ?_; (case zqF => k_asm); (case zqN => k_asm); (case zqU => k_upd); (case zqz => assumption)); with_reducible intro h' F' N')) | ((with_reducible show wpAny _ _ (call (Value.builtin "dict.get") _) _ _ _); (k_here; k_dflt (first   | (refine kdg_get2 (knd := PySem.strKind _ _) (by k_asm) (by k_mem) (by k_asm) (by k_asm) (strKind_is _ _ _ _) (some _) (by assumption) ?_; (try dsimp only [Option.getD]))   | refine kdg_get2 (knd := PySem.strKind _ _) (by k_asm) (by k_mem) (by k_asm) (by k_asm) (strKind_is _ _ _ _) _ (by rfl) ?_))) | ((with_reducible show wpAny _ _ (compareOp CmpOp.In (Value.str _ _) (Value.ref _)) _ _ _); (k_here; k_dflt (first   | refine kda_in (knd := PySem.strKind _ _) (by k_asm) (by k_mem) (by k_asm) (by k_asm) (strKind_is _ _ _ _) true (by assumption) ?_   | refine kda_in (knd := PySem.strKind _ _) (by k_asm) (by k_mem) (by k_asm) (by k_asm) (strKind_is _ _ _ _) false (by assumption) ?_))) | ((with_reducible show wpAny _ _ (getAttr (Value.ref _) _ _) _ _ _); (k_here; k_dflt (refine' get_own ?zqk1 ?zqk2 ?zqk3 ?zqk4 ?zqk5 ?zqk6 ?zqk7 ?zqk8 ?zqk9 ?_; (case zqk1 => k_asm); (case zqk2 => k_asm); (case zqk3 => k_inst); (case zqk4 => k_is); (case zqk5 => k_is); (case zqk6 => k_is); (case zqk7 => k_is); (case zqk8 => assumption); (case zqk9 => k_handed); k_whole))) | (k_unfold; (try dsimp only)) | (k_end; wrow_close) | walk1 | (dsimp only; walk1) | (leave1; walk_say "STEP leave1"; try dsimp only) | fail "no step"))
      all_goals (first   | (exfalso; omega)   | exact h1 _ _ (by assumption) (fun q hq => back _ _ _ _ (by assumption) (by assumption) q (sub6 (by k_mem) (by k_mem) (by k_mem) (by k_mem) (by k_mem) (by k_mem) q hq)) (by first | exact .inl rfl | exact .inr rfl) (by assumption) rfl   | exact h2 _ _ _ _ _ _ _ _ _ _ (by assumption) (fun q hq => back _ _ _ _ (by assumption) (by assumption) q (sub6 (by k_mem) (by k_mem) (by k_mem) (by k_mem) (by k_mem) (by k_mem) q hq)) (by first | exact .inl rfl | exact .inr rfl) (by assumption) rfl hs' (by assumption) (Stt.set S (.str _ _)) (by first | rw [if_pos (by assumption)] | rw [if_neg (by assumption), rstrip_cut hy])   | exact h3 _ _ _ (by assumption) (fun q hq => back _ _ _ _ (by assumption) (by assumption) q (sub6 (by k_mem) (by k_mem) (by k_mem) (by k_mem) (by k_mem) (by k_mem) q hq)) (by first | exact .inl notRead_W | exact .inl notRead_X | exact .inl notRead_OUTPUT | exact .inr (by assumption)) (Stt.getD S hn _))
  · have hRd := hR _ hn (.inr rfl)
    cases hs with
    | nil =>
      try k_fold
      (repeat' (first | ((with_reducible show wpAny _ _ (call (Value.builtin "str.rstrip") _) _ _ _); (k_here; (refine SCL.rstripChars (hsz := ?zqhsz) ?_); (case zqhsz => exact isRow.len (by assumption)); with_reducible intro _ _ _)) | ((with_reducible show wpAny _ _ (call (Value.builtin "len") _) _ _ _); (k_here; (with_reducible show wpAny _ _ (call (Value.builtin "len") [Value.ref _]) _ _ _); k_dflt (first   | refine kun_lenL (k := 0) (News.isList (by k_asm) (by k_mem)) (by rfl) (by decide) ?_   | refine kun_lenL (News.isList (by k_asm) (by k_mem)) (by assumption) (by assumption) ?_))) | ((with_reducible show wpAny _ _ (setItem (Value.ref _) (Value.str _ _) _) _ _ _); (k_here; k_dflt (refine' kda_set (knd := PySem.strKind _ _) ?zqF ?zqN ?zqU ?zqd (strKind_is _ _ _ _) ?zqz ?_; (case zqF => k_asm); (case zqN => k_asm); (case zqU => k_updF); (case zqd => k_asm); (case zqz => rw [sizeLine_eq]; exact Nat.le_trans (Stt.len (by assumption)) (by omega))); with_reducible intro h' o' F' N' hd'; (try dsimp only at N'))) | ((with_reducible show wpAny _ _ (call (Value.builtin "list.pop") _) _ _ _); (k_here; (with_reducible show wpAny _ _ (call (Value.builtin _) [Value.ref _, Value.int _ _]) _ _ _); k_dflt (refine' pop0 ?zqF ?zqN ?zqU ?zqz ?_; (case zqF => k_asm); (case zqN => k_asm); (case zqU => k_upd); (case zqz => assumption)); with_reducible intro h' F' N')) | ((with_reducible show wpAny _ _ (call (Value.builtin "dict.get") _) _ _ _); (k_here; k_dflt (first   | (refine kdg_get2 (knd := PySem.strKind _ _) (by k_asm) (by k_mem) (by k_asm) (by k_asm) (strKind_is _ _ _ _) (some _) (by assumption) ?_; (try dsimp only [Option.getD]))   | refine kdg_get2 (knd := PySem.strKind _ _) (by k_asm) (by k_mem) (by k_asm) (by k_asm) (strKind_is _ _ _ _) _ (by rfl) ?_))) | ((with_reducible show wpAny _ _ (compareOp CmpOp.In (Value.str _ _) (Value.ref _)) _ _ _); (k_here; k_dflt (first   | refine kda_in (knd := PySem.strKind _ _) (by k_asm) (by k_mem) (by k_asm) (by k_asm) (strKind_is _ _ _ _) true (by assumption) ?_   | refine kda_in (knd := PySem.strKind _ _) (by k_asm) (by k_mem) (by k_asm) (by k_asm) (strKind_is _ _ _ _) false (by assumption) ?_))) | ((with_reducible show wpAny _ _ (getAttr (Value.ref _) _ _) _ _ _); (k_here; k_dflt (refine' get_own ?zqk1 ?zqk2 ?zqk3 ?zqk4 ?zqk5 ?zqk6 ?zqk7 ?zqk8 ?zqk9 ?_; (case zqk1 => k_asm); (case zqk2 => k_asm); (case zqk3 => k_inst); (case zqk4 => k_is); (case zqk5 => k_is); (case zqk6 => k_is); (case zqk7 => k_is); (case zqk8 => assumption); (case zqk9 => k_handed); k_whole))) | (k_unfold; (try dsimp only)) | (k_end; wrow_close) | walk1 | (dsimp only; walk1) | (leave1; walk_say "STEP leave1"; try dsimp only) | fail "no step"))
      all_goals (first   | (exfalso; omega)   | exact h1 _ _ (by assumption) (fun q hq => back _ _ _ _ (by assumption) (by assumption) q (sub6 (by k_mem) (by k_mem) (by k_mem) (by k_mem) (by k_mem) (by k_mem) q hq)) (by first | exact .inl rfl | exact .inr rfl) (by assumption) rfl   | exact h2 _ _ _ _ _ _ _ _ _ _ (by assumption) (fun q hq => back _ _ _ _ (by assumption) (by assumption) q (sub6 (by k_mem) (by k_mem) (by k_mem) (by k_mem) (by k_mem) (by k_mem) q hq)) (by first | exact .inl rfl | exact .inr rfl) (by assumption) rfl hs' (by assumption) (Stt.set S (.str _ _)) (by first | rw [if_pos (by assumption)] | rw [if_neg (by assumption), rstrip_cut hy])   | exact h3 _ _ _ (by assumption) (fun q hq => back _ _ _ _ (by assumption) (by assumption) q (sub6 (by k_mem) (by k_mem) (by k_mem) (by k_mem) (by k_mem) (by k_mem) q hq)) (by first | exact .inl notRead_W | exact .inl notRead_X | exact .inl notRead_OUTPUT | exact .inr (by assumption)) (Stt.getD S hn _))
    | @cons y ty vs₁ xs₁ hs' =>
      have hz : (Value.str y ty :: vs₁).length ≤ sizeLine := by rw [sizeLine_eq, (StrsAre.cons y ty hs').length]; omega
      have hz1 : (((Value.str y ty :: vs₁).toArray.size : Nat) : Int) = (xs₁.length : Int) + 1 := by rw [List.size_toArray, (StrsAre.cons y ty hs').length]; simp
      have hz2 : (xs₁.length : Int) + 1 ≤ 16384 := by simp only [List.length_cons] at hlen; omega
      have hy := hrow y (List.mem_cons_self ..)
      try k_fold
      (repeat' (first | ((with_reducible show wpAny _ _ (call (Value.builtin "str.rstrip") _) _ _ _); (k_here; (refine SCL.rstripChars (hsz := ?zqhsz) ?_); (case zqhsz => exact isRow.len (by assumption)); with_reducible intro _ _ _)) | ((with_reducible show wpAny _ _ (call (Value.builtin "len") _) _ _ _); (k_here; (with_reducible show wpAny _ _ (call (Value.builtin "len") [Value.ref _]) _ _ _); k_dflt (first   | refine kun_lenL (k := 0) (News.isList (by k_asm) (by k_mem)) (by rfl) (by decide) ?_   | refine kun_lenL (News.isList (by k_asm) (by k_mem)) (by assumption) (by assumption) ?_))) | ((with_reducible show wpAny _ _ (setItem (Value.ref _) (Value.str _ _) _) _ _ _); (k_here; k_dflt (refine' kda_set (knd := PySem.strKind _ _) ?zqF ?zqN ?zqU ?zqd (strKind_is _ _ _ _) ?zqz ?_; (case zqF => k_asm); (case zqN => k_asm); (case zqU => k_updF); (case zqd => k_asm); (case zqz => rw [sizeLine_eq]; exact Nat.le_trans (Stt.len (by assumption)) (by omega))); with_reducible intro h' o' F' N' hd'; (try dsimp only at N'))) | ((with_reducible show wpAny _ _ (call (Value.builtin "list.pop") _) _ _ _); (k_here; (with_reducible show wpAny _ _ (call (Value.builtin _) [Value.ref _, Value.int _ _]) _ _ _); k_dflt (refine' pop0 ?zqF ?zqN ?zqU ?zqz ?_; (case zqF => k_asm); (case zqN => k_asm); (case zqU => k_upd); (case zqz => assumption)); with_reducible intro h' F' N')) | ((with_reducible show wpAny _ _ (call (Value.builtin "dict.get") _) _ _ _); (k_here; k_dflt (first   | (refine kdg_get2 (knd := PySem.strKind _ _) (by k_asm) (by k_mem) (by k_asm) (by k_asm) (strKind_is _ _ _ _) (some _) (by assumption) ?_; (try dsimp only [Option.getD]))   | refine kdg_get2 (knd := PySem.strKind _ _) (by k_asm) (by k_mem) (by k_asm) (by k_asm) (strKind_is _ _ _ _) _ (by rfl) ?_))) | ((with_reducible show wpAny _ _ (compareOp CmpOp.In (Value.str _ _) (Value.ref _)) _ _ _); (k_here; k_dflt (first   | refine kda_in (knd := PySem.strKind _ _) (by k_asm) (by k_mem) (by k_asm) (by k_asm) (strKind_is _ _ _ _) true (by assumption) ?_   | refine kda_in (knd := PySem.strKind _ _) (by k_asm) (by k_mem) (by k_asm) (by k_asm) (strKind_is _ _ _ _) false (by assumption) ?_))) | ((with_reducible show wpAny _ _ (getAttr (Value.ref _) _ _) _ _ _); (k_here; k_dflt (refine' get_own ?zqk1 ?zqk2 ?zqk3 ?zqk4 ?zqk5 ?zqk6 ?zqk7 ?zqk8 ?zqk9 ?_; (case zqk1 => k_asm); (case zqk2 => k_asm); (case zqk3 => k_inst); (case zqk4 => k_is); (case zqk5 => k_is); (case zqk6 => k_is); (case zqk7 => k_is); (case zqk8 => assumption); (case zqk9 => k_handed); k_whole))) | (k_unfold; (try dsimp only)) | (k_end; wrow_close) | walk1 | (dsimp only; walk1) | (leave1; walk_say "STEP leave1"; try dsimp only) | fail "no step"))
      all_goals (first   | (exfalso; omega)   | exact h1 _ _ (by assumption) (fun q hq => back _ _ _ _ (by assumption) (by assumption) q (sub6 (by k_mem) (by k_mem) (by k_mem) (by k_mem) (by k_mem) (by k_mem) q hq)) (by first | exact .inl rfl | exact .inr rfl) (by assumption) rfl   | exact h2 _ _ _ _ _ _ _ _ _ _ (by assumption) (fun q hq => back _ _ _ _ (by assumption) (by assumption) q (sub6 (by k_mem) (by k_mem) (by k_mem) (by k_mem) (by k_mem) (by k_mem) q hq)) (by first | exact .inl rfl | exact .inr rfl) (by assumption) rfl hs' (by assumption) (Stt.set S (.str _ _)) (by first | rw [if_pos (by assumption)] | rw [if_neg (by assumption), rstrip_cut hy])   | exact h3 _ _ _ (by assumption) (fun q hq => back _ _ _ _ (by assumption) (by assumption) q (sub6 (by k_mem) (by k_mem) (by k_mem) (by k_mem) (by k_mem) (by k_mem) q hq)) (by first | exact .inl notRead_W | exact .inl notRead_X | exact .inl notRead_OUTPUT | exact .inr (by assumption)) (Stt.getD S hn _))
  · have hRd := hR' _ hn notRead_OUTPUT
    try k_fold
    (repeat' (first | ((with_reducible show wpAny _ _ (call (Value.builtin "str.rstrip") _) _ _ _); (k_here; (refine SCL.rstripChars (hsz := ?zqhsz) ?_); (case zqhsz => exact isRow.len (by assumption)); with_reducible intro _ _ _)) | ((with_reducible show wpAny _ _ (call (Value.builtin "len") _) _ _ _); (k_here; (with_reducible show wpAny _ _ (call (Value.builtin "len") [Value.ref _]) _ _ _); k_dflt (first   | refine kun_lenL (k := 0) (News.isList (by k_asm) (by k_mem)) (by rfl) (by decide) ?_   | refine kun_lenL (News.isList (by k_asm) (by k_mem)) (by assumption) (by assumption) ?_))) | ((with_reducible show wpAny _ _ (setItem (Value.ref _) (Value.str _ _) _) _ _ _); (k_here; k_dflt (refine' kda_set (knd := PySem.strKind _ _) ?zqF ?zqN ?zqU ?zqd (strKind_is _ _ _ _) ?zqz ?_; (case zqF => k_asm); (case zqN => k_asm); (case zqU => k_updF); (case zqd => k_asm); (case zqz => rw [sizeLine_eq]; exact Nat.le_trans (Stt.len (by assumption)) (by omega))); with_reducible intro h' o' F' N' hd'; (try dsimp only at N'))) | ((with_reducible show wpAny _ _ (call (Value.builtin "list.pop") _) _ _ _); (k_here; (with_reducible show wpAny _ _ (call (Value.builtin _) [Value.ref _, Value.int _ _]) _ _ _); k_dflt (refine' pop0 ?zqF ?zqN ?zqU ?zqz ?_; (case zqF => k_asm); (case zqN => k_asm); (case zqU => k_upd); (case zqz => assumption)); with_reducible intro h' F' N')) | ((with_reducible show wpAny _ _ (call (Value.builtin "dict.get") _) _ _ _); (k_here; k_dflt (first   | (refine kdg_get2 (knd := PySem.strKind _ _) (by k_asm) (by k_mem) (by k_asm) (by k_asm) (strKind_is _ _ _ _) (some _) (by assumption) ?_; (try dsimp only [Option.getD]))   | refine kdg_get2 (knd := PySem.strKind _ _) (by k_asm) (by k_mem) (by k_asm) (by k_asm) (strKind_is _ _ _ _) _ (by rfl) ?_))) | ((with_reducible show wpAny _ _ (compareOp CmpOp.In (Value.str _ _) (Value.ref _)) _ _ _); (k_here; k_dflt (first   | refine kda_in (knd := PySem.strKind _ _) (by k_asm) (by k_mem) (by k_asm) (by k_asm) (strKind_is _ _ _ _) true (by assumption) ?_   | refine kda_in (knd := PySem.strKind _ _) (by k_asm) (by k_mem) (by k_asm) (by k_asm) (strKind_is _ _ _ _) false (by assumption) ?_))) | ((with_reducible show wpAny _ _ (getAttr (Value.ref _) _ _) _ _ _); (k_here; k_dflt (refine' get_own ?zqk1 ?zqk2 ?zqk3 ?zqk4 ?zqk5 ?zqk6 ?zqk7 ?zqk8 ?zqk9 ?_; (case zqk1 => k_asm); (case zqk2 => k_asm); (case zqk3 => k_inst); (case zqk4 => k_is); (case zqk5 => k_is); (case zqk6 => k_is); (case zqk7 => k_is); (case zqk8 => assumption); (case zqk9 => k_handed); k_whole))) | (k_unfold; (try dsimp only)) | (k_end; wrow_close) | walk1 | (dsimp only; walk1) | (leave1; walk_say "STEP leave1"; try dsimp only) | fail "no step"))
    all_goals (first   | (exfalso; omega)   | exact h1 _ _ (by assumption) (fun q hq => back _ _ _ _ (by assumption) (by assumption) q (sub6 (by k_mem) (by k_mem) (by k_mem) (by k_mem) (by k_mem) (by k_mem) q hq)) (by first | exact .inl rfl | exact .inr rfl) (by assumption) rfl   | exact h2 _ _ _ _ _ _ _ _ _ _ (by assumption) (fun q hq => back _ _ _ _ (by assumption) (by assumption) q (sub6 (by k_mem) (by k_mem) (by k_mem) (by k_mem) (by k_mem) (by k_mem) q hq)) (by first | exact .inl rfl | exact .inr rfl) (by assumption) rfl hs' (by assumption) (Stt.set S (.str _ _)) (by first | rw [if_pos (by assumption)] | rw [if_neg (by assumption), rstrip_cut hy])   | exact h3 _ _ _ (by assumption) (fun q hq => back _ _ _ _ (by assumption) (by assumption) q (sub6 (by k_mem) (by k_mem) (by k_mem) (by k_mem) (by k_mem) (by k_mem) q hq)) (by first | exact .inl notRead_W | exact .inl notRead_X | exact .inl notRead_OUTPUT | exact .inr (by assumption)) (Stt.getD S hn _))
  · have hRd := hR' _ hn notRead_W
    try k_fold
    (repeat' (first | ((with_reducible show wpAny _ _ (call (Value.builtin "str.rstrip") _) _ _ _); (k_here; (refine SCL.rstripChars (hsz := ?zqhsz) ?_); (case zqhsz => exact isRow.len (by assumption)); with_reducible intro _ _ _)) | ((with_reducible show wpAny _ _ (call (Value.builtin "len") _) _ _ _); (k_here; (with_reducible show wpAny _ _ (call (Value.builtin "len") [Value.ref _]) _ _ _); k_dflt (first   | refine kun_lenL (k := 0) (News.isList (by k_asm) (by k_mem)) (by rfl) (by decide) ?_   | refine kun_lenL (News.isList (by k_asm) (by k_mem)) (by assumption) (by assumption) ?_))) | ((with_reducible show wpAny _ _ (setItem (Value.ref _) (Value.str _ _) _) _ _ _); (k_here; k_dflt (refine' kda_set (knd := PySem.strKind _ _) ?zqF ?zqN ?zqU ?zqd (strKind_is _ _ _ _) ?zqz ?_; (case zqF => k_asm); (case zqN => k_asm); (case zqU => k_updF); (case zqd => k_asm); (case zqz => rw [sizeLine_eq]; exact Nat.le_trans (Stt.len (by assumption)) (by omega))); with_reducible intro h' o' F' N' hd'; (try dsimp only at N'))) | ((with_reducible show wpAny _ _ (call (Value.builtin "list.pop") _) _ _ _); (k_here; (with_reducible show wpAny _ _ (call (Value.builtin _) [Value.ref _, Value.int _ _]) _ _ _); k_dflt (refine' pop0 ?zqF ?zqN ?zqU ?zqz ?_; (case zqF => k_asm); (case zqN => k_asm); (case zqU => k_upd); (case zqz => assumption)); with_reducible intro h' F' N')) | ((with_reducible show wpAny _ _ (call (Value.builtin "dict.get") _) _ _ _); (k_here; k_dflt (first   | (refine kdg_get2 (knd := PySem.strKind _ _) (by k_asm) (by k_mem) (by k_asm) (by k_asm) (strKind_is _ _ _ _) (some _) (by assumption) ?_; (try dsimp only [Option.getD]))   | refine kdg_get2 (knd := PySem.strKind _ _) (by k_asm) (by k_mem) (by k_asm) (by k_asm) (strKind_is _ _ _ _) _ (by rfl) ?_))) | ((with_reducible show wpAny _ _ (compareOp CmpOp.In (Value.str _ _) (Value.ref _)) _ _ _); (k_here; k_dflt (first   | refine kda_in (knd := PySem.strKind _ _) (by k_asm) (by k_mem) (by k_asm) (by k_asm) (strKind_is _ _ _ _) true (by assumption) ?_   | refine kda_in (knd := PySem.strKind _ _) (by k_asm) (by k_mem) (by k_asm) (by k_asm) (strKind_is _ _ _ _) false (by assumption) ?_))) | ((with_reducible show wpAny _ _ (getAttr (Value.ref _) _ _) _ _ _); (k_here; k_dflt (refine' get_own ?zqk1 ?zqk2 ?zqk3 ?zqk4 ?zqk5 ?zqk6 ?zqk7 ?zqk8 ?zqk9 ?_; (case zqk1 => k_asm); (case zqk2 => k_asm); (case zqk3 => k_inst); (case zqk4 => k_is); (case zqk5 => k_is); (case zqk6 => k_is); (case zqk7 => k_is); (case zqk8 => assumption); (case zqk9 => k_handed); k_whole))) | (k_unfold; (try dsimp only)) | (k_end; wrow_close) | walk1 | (dsimp only; walk1) | (leave1; walk_say "STEP leave1"; try dsimp only) | fail "no step"))
    all_goals (first   | (exfalso; omega)   | exact h1 _ _ (by assumption) (fun q hq => back _ _ _ _ (by assumption) (by assumption) q (sub6 (by k_mem) (by k_mem) (by k_mem) (by k_mem) (by k_mem) (by k_mem) q hq)) (by first | exact .inl rfl | exact .inr rfl) (by assumption) rfl   | exact h2 _ _ _ _ _ _ _ _ _ _ (by assumption) (fun q hq => back _ _ _ _ (by assumption) (by assumption) q (sub6 (by k_mem) (by k_mem) (by k_mem) (by k_mem) (by k_mem) (by k_mem) q hq)) (by first | exact .inl rfl | exact .inr rfl) (by assumption) rfl hs' (by assumption) (Stt.set S (.str _ _)) (by first | rw [if_pos (by assumption)] | rw [if_neg (by assumption), rstrip_cut hy])   | exact h3 _ _ _ (by assumption) (fun q hq => back _ _ _ _ (by assumption) (by assumption) q (sub6 (by k_mem) (by k_mem) (by k_mem) (by k_mem) (by k_mem) (by k_mem) q hq)) (by first | exact .inl notRead_W | exact .inl notRead_X | exact .inl notRead_OUTPUT | exact .inr (by assumption)) (Stt.getD S hn _))
  · have hRd := hR' _ hn notRead_X
    try k_fold
    (repeat' (first | ((with_reducible show wpAny _ _ (call (Value.builtin "str.rstrip") _) _ _ _); (k_here; (refine SCL.rstripChars (hsz := ?zqhsz) ?_); (case zqhsz => exact isRow.len (by assumption)); with_reducible intro _ _ _)) | ((with_reducible show wpAny _ _ (call (Value.builtin "len") _) _ _ _); (k_here; (with_reducible show wpAny _ _ (call (Value.builtin "len") [Value.ref _]) _ _ _); k_dflt (first   | refine kun_lenL (k := 0) (News.isList (by k_asm) (by k_mem)) (by rfl) (by decide) ?_   | refine kun_lenL (News.isList (by k_asm) (by k_mem)) (by assumption) (by assumption) ?_))) | ((with_reducible show wpAny _ _ (setItem (Value.ref _) (Value.str _ _) _) _ _ _); (k_here; k_dflt (refine' kda_set (knd := PySem.strKind _ _) ?zqF ?zqN ?zqU ?zqd (strKind_is _ _ _ _) ?zqz ?_; (case zqF => k_asm); (case zqN => k_asm); (case zqU => k_updF); (case zqd => k_asm); (case zqz => rw [sizeLine_eq]; exact Nat.le_trans (Stt.len (by assumption)) (by omega))); with_reducible intro h' o' F' N' hd'; (try dsimp only at N'))) | ((with_reducible show wpAny _ _ (call (Value.builtin "list.pop") _) _ _ _); (k_here; (with_reducible show wpAny _ _ (call (Value.builtin _) [Value.ref _, Value.int _ _]) _ _ _); k_dflt (refine' pop0 ?zqF ?zqN ?zqU ?zqz ?_; (case zqF => k_asm); (case zqN => k_asm); (case zqU => k_upd); (case zqz => assumption)); with_reducible intro h' F' N')) | ((with_reducible show wpAny _ _ (call (Value.builtin "dict.get") _) _ _ _); (k_here; k_dflt (first   | (refine kdg_get2 (knd := PySem.strKind _ _) (by k_asm) (by k_mem) (by k_asm) (by k_asm) (strKind_is _ _ _ _) (some _) (by assumption) ?_; (try dsimp only [Option.getD]))   | refine kdg_get2 (knd := PySem.strKind _ _) (by k_asm) (by k_mem) (by k_asm) (by k_asm) (strKind_is _ _ _ _) _ (by rfl) ?_))) | ((with_reducible show wpAny _ _ (compareOp CmpOp.In (Value.str _ _) (Value.ref _)) _ _ _); (k_here; k_dflt (first   | refine kda_in (knd := PySem.strKind _ _) (by k_asm) (by k_mem) (by k_asm) (by k_asm) (strKind_is _ _ _ _) true (by assumption) ?_   | refine kda_in (knd := PySem.strKind _ _) (by k_asm) (by k_mem) (by k_asm) (by k_asm) (strKind_is _ _ _ _) false (by assumption) ?_))) | ((with_reducible show wpAny _ _ (getAttr (Value.ref _) _ _) _ _ _); (k_here; k_dflt (refine' get_own ?zqk1 ?zqk2 ?zqk3 ?zqk4 ?zqk5 ?zqk6 ?zqk7 ?zqk8 ?zqk9 ?_; (case zqk1 => k_asm); (case zqk2 => k_asm); (case zqk3 => k_inst); (case zqk4 => k_is); (case zqk5 => k_is); (case zqk6 => k_is); (case zqk7 => k_is); (case zqk8 => assumption); (case zqk9 => k_handed); k_whole))) | (k_unfold; (try dsimp only)) | (k_end; wrow_close) | walk1 | (dsimp only; walk1) | (leave1; walk_say "STEP leave1"; try dsimp only) | fail "no step"))
    all_goals (first   | (exfalso; omega)   | exact h1 _ _ (by assumption) (fun q hq => back _ _ _ _ (by assumption) (by assumption) q (sub6 (by k_mem) (by k_mem) (by k_mem) (by k_mem) (by k_mem) (by k_mem) q hq)) (by first | exact .inl rfl | exact .inr rfl) (by assumption) rfl   | exact h2 _ _ _ _ _ _ _ _ _ _ (by assumption) (fun q hq => back _ _ _ _ (by assumption) (by assumption) q (sub6 (by k_mem) (by k_mem) (by k_mem) (by k_mem) (by k_mem) (by k_mem) q hq)) (by first | exact .inl rfl | exact .inr rfl) (by assumption) rfl hs' (by assumption) (Stt.set S (.str _ _)) (by first | rw [if_pos (by assumption)] | rw [if_neg (by assumption), rstrip_cut hy])   | exact h3 _ _ _ (by assumption) (fun q hq => back _ _ _ _ (by assumption) (by assumption) q (sub6 (by k_mem) (by k_mem) (by k_mem) (by k_mem) (by k_mem) (by k_mem) q hq)) (by first | exact .inl notRead_W | exact .inl notRead_X | exact .inl notRead_OUTPUT | exact .inr (by assumption)) (Stt.getD S hn _))
end Mine
namespace Mine
def Cell.text : Cell → Str
  | .str x => x
  | .int k => Str.ofString (toString k)
/-- what the law sets: 'a ', '' or a turn's number -/
inductive IsSet : Cell → Prop
  | a : IsSet (.str (Str.ofString "a "))
  | e : IsSet (.str (Str.ofString ""))
  | n (k : Int) : 0 ≤ k → k ≤ 9 → IsSet (.int k)
set_option maxHeartbeats 8000000 in
theorem tow_call {prog : Program} {w : World} {s : Shared} {base h₀ : Heap} {outer : List Env} {L : Addr} {m mg mb : Str → Option Value} {env env₁ env₂ env₃ : Env} {news : List (Addr × Obj)} {p : Program} {loose : List Str} {mean : ExcName → Option Value}
    {Q : Value → Shared → Prop} {E : Value → Shared → Prop} {k : Int} {t : Tok}
    (B : Below (((callerA.deeper env₁).deeper env₂).deeper env₃) base outer h₀) (F : Fr h₀ L s.heap m) (X : (hd.heap_39 w.params).In h₀) (N : News h₀ L s.heap news) (T : Top p loose mean mg mb h₀) (hf : env.frame = some L) (hke : env.scope.kind = .function)
    (h0 : 0 ≤ k) (h9 : k ≤ 9) (h : ∀ h' tr tk', Fr h₀ L h' m → News h₀ L h' news → Q (.str (Cell.int k).text tr) { s with heap := h', toks := tk' }) :
    wpAny (model prog w) ((((callerA.deeper env₁).deeper env₂).deeper env₃).deeper env) (call (.ref 58) [.int k t]) Q E s := by
  w_top off
  refine wpAny_call ?_
  refine' callS (binds := [(PySem.Str.ofString "number", Value.int k t)]) [] news B F X N T (Around.frames_deeper B.stack) hf hke ?k0 ?ka ?k1 ?k6 ?k7 ?k8 ?k9 ?kB ?_ ?c5 ?c2 ?c3 ?c4
  case k0 => intro q hq; cases hq
  case ka => exact fun q hq => hq
  case k1 => intro q hq r hr; cases hr
  case k6 => k_is
  case k7 => k_is
  case k8 => k_room
  case k9 => exact BindsTo.of_eq rfl
  case c5 => decide
  case kB => exact locs rfl
  case c2 => exact rfl
  case c3 => exact rfl
  case c4 => exact rfl
  intro g' L' h' FG' F' N' B' X' T' l1 hg back
  clear l1 hg
  (try dsimp only)
  try k_lift B'
  have hk : k = 0 ∨ k = 1 ∨ k = 2 ∨ k = 3 ∨ k = 4 ∨ k = 5 ∨ k = 6 ∨ k = 7 ∨ k = 8 ∨ k = 9 := by omega
  clear h0 h9
  rcases hk with e | e | e | e | e | e | e | e | e | e <;> subst e
  · rw [show (Cell.int 0).text = Str.ofString "0" from by decide +kernel] at h
    try k_fold
    k_steps
    exact h _ _ _ (by assumption) (fun q hq => back _ _ _ _ (by assumption) (by assumption) q (List.mem_append_right _ hq))
  · rw [show (Cell.int 1).text = Str.ofString "1" from by decide +kernel] at h
    try k_fold
    k_steps
    exact h _ _ _ (by assumption) (fun q hq => back _ _ _ _ (by assumption) (by assumption) q (List.mem_append_right _ hq))
  · rw [show (Cell.int 2).text = Str.ofString "2" from by decide +kernel] at h
    try k_fold
    k_steps
    exact h _ _ _ (by assumption) (fun q hq => back _ _ _ _ (by assumption) (by assumption) q (List.mem_append_right _ hq))
  · rw [show (Cell.int 3).text = Str.ofString "3" from by decide +kernel] at h
    try k_fold
    k_steps
    exact h _ _ _ (by assumption) (fun q hq => back _ _ _ _ (by assumption) (by assumption) q (List.mem_append_right _ hq))
  · rw [show (Cell.int 4).text = Str.ofString "4" from by decide +kernel] at h
    try k_fold
    k_steps
    exact h _ _ _ (by assumption) (fun q hq => back _ _ _ _ (by assumption) (by assumption) q (List.mem_append_right _ hq))
  · rw [show (Cell.int 5).text = Str.ofString "5" from by decide +kernel] at h
    try k_fold
    k_steps
    exact h _ _ _ (by assumption) (fun q hq => back _ _ _ _ (by assumption) (by assumption) q (List.mem_append_right _ hq))
  · rw [show (Cell.int 6).text = Str.ofString "6" from by decide +kernel] at h
    try k_fold
    k_steps
    exact h _ _ _ (by assumption) (fun q hq => back _ _ _ _ (by assumption) (by assumption) q (List.mem_append_right _ hq))
  · rw [show (Cell.int 7).text = Str.ofString "7" from by decide +kernel] at h
    try k_fold
    k_steps
    exact h _ _ _ (by assumption) (fun q hq => back _ _ _ _ (by assumption) (by assumption) q (List.mem_append_right _ hq))
  · rw [show (Cell.int 8).text = Str.ofString "8" from by decide +kernel] at h
    try k_fold
    k_steps
    exact h _ _ _ (by assumption) (fun q hq => back _ _ _ _ (by assumption) (by assumption) q (List.mem_append_right _ hq))
  · rw [show (Cell.int 9).text = Str.ofString "9" from by decide +kernel] at h
    try k_fold
    k_steps
    exact h _ _ _ (by assumption) (fun q hq => back _ _ _ _ (by assumption) (by assumption) q (List.mem_append_right _ hq))
set_option maxHeartbeats 8000000 in
theorem need_call {prog : Program} {w : World} {s : Shared} {base h₀ : Heap} {L : Addr} {m mg mb : Str → Option Value} {env env₁ : Env} {news : List (Addr × Obj)} {p : Program} {loose : List Str} {mean : ExcName → Option Value}
    {Q : Value → Shared → Prop} {E : Value → Shared → Prop} {v : Value} {d : Cell}
    (B : Below (callerA.deeper env₁) base [env₁] h₀) (F : Fr h₀ L s.heap m) (X : (hd.heap_39 w.params).In h₀) (N : News h₀ L s.heap news) (T : Top p loose mean mg mb h₀) (hf : env.frame = some L) (hke : env.scope.kind = .function)
    (hv : IsC v d) (hd : IsSet d)
    (h : ∀ h' tr tk', Fr h₀ L h' m → News h₀ L h' news → Q (.str d.text tr) { s with heap := h', toks := tk' }) :
    wpAny (model prog w) ((callerA.deeper env₁).deeper env) (call (.ref 86) [v]) Q E s := by
  w_top off
  refine wpAny_call ?_
  refine' callS (binds := [(PySem.Str.ofString "value", v)]) [] news B F X N T (Around.frames_deeper B.stack) hf hke ?k0 ?ka ?k1 ?k6 ?k7 ?k8 ?k9 ?kB ?_ ?c5 ?c2 ?c3 ?c4
  case k0 => intro q hq; cases hq
  case ka => exact fun q hq => hq
  case k1 => intro q hq r hr; cases hr
  case k6 => k_is
  case k7 => k_is
  case k8 => k_room
  case k9 => exact BindsTo.of_eq rfl
  case c5 => decide
  case kB => exact locs rfl
  case c2 => exact rfl
  case c3 => exact rfl
  case c4 => exact rfl
  intro g' L' h' FG' F' N' B' X' T' l1 hg back
  clear l1 hg
  (try dsimp only)
  try k_lift B'
  cases hv with
  | str x t =>
    try k_fold
    (repeat' (first | ((with_reducible show wpAny _ _ (call (Value.ref _) _) _ _ _); (k_here; (with_reducible show wpAny _ _ (call (Value.ref 58) _) _ _ _); k_dflt (refine' tow_call ?zqB ?zqF ?zqX ?zqN ?zqT ?zqf ?zqk ?zqa ?zqb ?_; (case zqB => k_asm); (case zqF => k_asm); (case zqX => k_asm); (case zqN => k_asm); (case zqT => k_asm); (case zqf => exact rfl); (case zqk => exact rfl); (case zqa => assumption); (case zqb => assumption)); with_reducible intro h' t' tk' F' N')) | (k_unfold; (try dsimp only)) | (k_end; wrow_close) | walk1 | (dsimp only; walk1) | (leave1; walk_say "STEP leave1"; try dsimp only) | fail "no step"))
    exact h _ _ _ (by assumption) (fun q hq => back _ _ _ _ (by assumption) (by assumption) q (List.mem_append_right _ hq))
  | int k t =>
    cases hd with
    | n _ h0 h9 =>
      try k_fold
      (repeat' (first | ((with_reducible show wpAny _ _ (call (Value.ref _) _) _ _ _); (k_here; (with_reducible show wpAny _ _ (call (Value.ref 58) _) _ _ _); k_dflt (refine' tow_call ?zqB ?zqF ?zqX ?zqN ?zqT ?zqf ?zqk ?zqa ?zqb ?_; (case zqB => k_asm); (case zqF => k_asm); (case zqX => k_asm); (case zqN => k_asm); (case zqT => k_asm); (case zqf => exact rfl); (case zqk => exact rfl); (case zqa => assumption); (case zqb => assumption)); with_reducible intro h' t' tk' F' N')) | (k_unfold; (try dsimp only)) | (k_end; wrow_close) | walk1 | (dsimp only; walk1) | (leave1; walk_say "STEP leave1"; try dsimp only) | fail "no step"))
      exact h _ _ _ (by assumption) (fun q hq => back _ _ _ _ (by assumption) (by assumption) q (List.mem_append_right _ hq))
end Mine
namespace Mine
theorem Kw.setI {kvs : List (Str × Value)} {I O T J : Int} (K : Kw kvs I O T) {t : Tok} : Kw (stored kvs (Str.ofString "INPUT") (.int J t)) J O T := by
  refine ⟨⟨t, ?_⟩, ?_, ?_, ?_⟩
  · rw [valueAt_stored, if_pos rfl]
  · rw [valueAt_stored, if_neg (by decide +kernel)]; exact K.outp
  · rw [valueAt_stored, if_neg (by decide +kernel)]; exact K.trim
  · obtain ⟨x, hx⟩ := K.inp
    rw [stored_len_same hx]; exact K.len
theorem Kw.setO {kvs : List (Str × Value)} {I O T J : Int} (K : Kw kvs I O T) {t : Tok} : Kw (stored kvs (Str.ofString "OUTPUT") (.int J t)) I J T := by
  refine ⟨?_, ⟨t, ?_⟩, ?_, ?_⟩
  · rw [valueAt_stored, if_neg (by decide +kernel)]; exact K.inp
  · rw [valueAt_stored, if_pos rfl]
  · rw [valueAt_stored, if_neg (by decide +kernel)]; exact K.trim
  · obtain ⟨x, hx⟩ := K.outp
    rw [stored_len_same hx]; exact K.len
theorem Kw.setT {kvs : List (Str × Value)} {I O T J : Int} (K : Kw kvs I O T) {t : Tok} : Kw (stored kvs (Str.ofString "TRIM") (.int J t)) I O J := by
  refine ⟨?_, ?_, ⟨t, ?_⟩, ?_⟩
  · rw [valueAt_stored, if_neg (by decide +kernel)]; exact K.inp
  · rw [valueAt_stored, if_neg (by decide +kernel)]; exact K.outp
  · rw [valueAt_stored, if_pos rfl]
  · obtain ⟨x, hx⟩ := K.trim
    rw [stored_len_same hx]; exact K.len
def isKey (n : Str) : Prop := n = Str.ofString "TRIM" ∨ n = Str.ofString "INPUT" ∨ n = Str.ofString "OUTPUT"
local macro_rules | `(tactic| walk_at "evalPairs") => `(tactic| (k_here; dsimp only))
set_option maxHeartbeats 8000000 in
theorem okw_call {prog : Program} {w : World} {s : Shared} {base h₀ : Heap} {outer : List Env} {A₀ : Around} {L : Addr} {m mg mb : Str → Option Value} {env : Env} {news : List (Addr × Obj)} {p : Program} {loose : List Str} {mean : ExcName → Option Value}
    {Q : Value → Shared → Prop} {E : Value → Shared → Prop}
    (hroom : (A₀.deeper env).depth < recursionLimit) (B : Below A₀ base outer h₀) (F : Fr h₀ L s.heap m) (X : (hd.heap_39 w.params).In h₀) (N : News h₀ L s.heap news) (T : Top p loose mean mg mb h₀) (hf : env.frame = some L) (hke : env.scope.kind = .function)
    (h : ∀ h' tk' d o kvs, Fr h₀ L h' m → News h₀ L h' ((d, o) :: news) → (d == sysModules) = false → o.IsDictOf (PySem.strKind prog w) kvs → (∀ n, isKey n → (valueAt kvs n).isSome = true) → Q (.ref d) { s with heap := h', toks := tk' }) :
    wpAny (model prog w) (A₀.deeper env) (call (.ref 136) []) Q E s := by
  w_top off
  refine wpAny_call ?_
  refine' callS (binds := []) [] news B F X N T (Around.frames_deeper B.stack) hf hke ?k0 ?ka ?k1 ?k6 ?k7 ?k8 ?k9 ?kB ?_ ?c5 ?c2 ?c3 ?c4
  case k0 => intro q hq; cases hq
  case ka => exact fun q hq => hq
  case k1 => intro q hq r hr; cases hr
  case k6 => k_is
  case k7 => k_is
  case k8 => exact hroom
  case k9 => exact BindsTo.of_eq rfl
  case c5 => decide
  case kB => exact locs rfl
  case c2 => exact rfl
  case c3 => exact rfl
  case c4 => exact rfl
  intro g' L' h' FG' F' N' B' X' T' l1 hg back
  clear l1 hg
  (try dsimp only)
  try k_lift B'
  try k_fold
  k_steps
  exact h _ _ _ _ _ (by assumption) (back _ _ _ _ (by assumption) (by assumption)) (by assumption) (by assumption) (fun n hn => by rcases hn with rfl | rfl | rfl <;> rfl)
local macro_rules | `(tactic| walk_at "call ref") => `(tactic| (k_here; (with_reducible show wpAny _ _ (call (Value.ref 136) _) _ _ _); k_dflt (refine' okw_call ?r ?B ?F ?X ?N ?T ?f ?k ?_; (case r => first | assumption | k_room); (case B => k_asm); (case F => k_asm); (case X => k_asm); (case N => k_asm); (case T => k_asm); (case f => exact rfl); (case k => exact rfl)); intro h' tk' d' o' kvs' F' N' lo' hd' hk'))
local macro_rules | `(tactic| walk_at "compareOp In str ref") => `(tactic| (k_here; k_dflt (refine kda_in (knd := PySem.strKind _ _) (by k_asm) (by k_mem) (by k_asm) (by k_asm) (strKind_is _ _ _ _) true (by first | (apply_assumption; first | exact .inl rfl | exact .inr (.inl rfl) | exact .inr (.inr rfl)) | rfl) ?_)))
local macro_rules | `(tactic| walk_at "compareOp NotIn str ref") => `(tactic| (k_here; k_dflt (refine kdg_notin (knd := PySem.strKind _ _) (by k_asm) (by k_mem) (by k_asm) (by k_asm) (strKind_is _ _ _ _) true (by first | (apply_assumption; first | exact .inl rfl | exact .inr (.inl rfl) | exact .inr (.inr rfl)) | rfl) ?_); (try dsimp only [Bool.not_true, Bool.not_false])))
set_option maxHeartbeats 8000000 in
theorem isk_call {prog : Program} {w : World} {s : Shared} {base h₀ : Heap} {outer : List Env} {A₀ : Around} {L : Addr} {m mg mb : Str → Option Value} {env : Env} {news : List (Addr × Obj)} {p : Program} {loose : List Str} {mean : ExcName → Option Value}
    {Q : Value → Shared → Prop} {E : Value → Shared → Prop} {name : Str} {t : Tok}
    (hroom : (A₀.deeper env).depth + 1 < recursionLimit) (B : Below A₀ base outer h₀) (F : Fr h₀ L s.heap m) (X : (hd.heap_39 w.params).In h₀) (N : News h₀ L s.heap news) (T : Top p loose mean mg mb h₀) (hf : env.frame = some L) (hke : env.scope.kind = .function)
    (hn : isKey name) (h : ∀ h' tk', Fr h₀ L h' m → News h₀ L h' news → Q (.bool true) { s with heap := h', toks := tk' }) :
    wpAny (model prog w) (A₀.deeper env) (call (.ref 164) [.str name t]) Q E s := by
  w_top off
  refine wpAny_call ?_
  refine' callS (binds := [(PySem.Str.ofString "name", Value.str name t)]) [] news B F X N T (Around.frames_deeper B.stack) hf hke ?k0 ?ka ?k1 ?k6 ?k7 ?k8 ?k9 ?kB ?_ ?c5 ?c2 ?c3 ?c4
  case k0 => intro q hq; cases hq
  case ka => exact fun q hq => hq
  case k1 => intro q hq r hr; cases hr
  case k6 => k_is
  case k7 => k_is
  case k8 => exact Nat.lt_of_le_of_lt (Nat.le_add_right _ _) hroom
  case k9 => exact BindsTo.of_eq rfl
  case c5 => decide
  case kB => exact locs rfl
  case c2 => exact rfl
  case c3 => exact rfl
  case c4 => exact rfl
  intro g' L' h' FG' F' N' B' X' T' l1 hg back
  clear l1 hg
  (try dsimp only)
  try k_lift B'
  have hr : ((A₀.deeper env).deeper env).depth < recursionLimit := hroom
  rcases hn with e | e | e
  all_goals subst e
  all_goals
    try k_fold
    k_steps
    exact h _ _ (by assumption) (fun q hq => back _ _ _ _ (by assumption) (by assumption) q (List.mem_append_right _ hq))
local macro_rules | `(tactic| walk_at "call ref") => `(tactic| (k_here; (with_reducible show wpAny _ _ (call (Value.ref 164) _) _ _ _); k_dflt (refine' isk_call ?r ?B ?F ?X ?N ?T ?f ?k ?n ?_; (case r => first | assumption | k_room); (case B => k_asm); (case F => k_asm); (case X => k_asm); (case N => k_asm); (case T => k_asm); (case f => exact rfl); (case k => exact rfl); (case n => assumption)); intro h' tk' F' N'))
set_option maxHeartbeats 8000000 in
theorem isp_call {prog : Program} {w : World} {s : Shared} {base h₀ : Heap} {outer : List Env} {A₀ : Around} {L : Addr} {m mg mb : Str → Option Value} {env : Env} {news : List (Addr × Obj)} {p : Program} {loose : List Str} {mean : ExcName → Option Value}
    {Q : Value → Shared → Prop} {E : Value → Shared → Prop} {name : Str} {t : Tok}
    (hroom : (A₀.deeper env).depth + 2 < recursionLimit) (B : Below A₀ base outer h₀) (F : Fr h₀ L s.heap m) (X : (hd.heap_39 w.params).In h₀) (N : News h₀ L s.heap news) (T : Top p loose mean mg mb h₀) (hf : env.frame = some L) (hke : env.scope.kind = .function)
    (hn : isKey name) (h : ∀ h' tk', Fr h₀ L h' m → News h₀ L h' news → Q (.bool false) { s with heap := h', toks := tk' }) :
    wpAny (model prog w) (A₀.deeper env) (call (.ref 171) [.str name t]) Q E s := by
  w_top off
  refine wpAny_call ?_
  refine' callS (binds := [(PySem.Str.ofString "name", Value.str name t)]) [] news B F X N T (Around.frames_deeper B.stack) hf hke ?k0 ?ka ?k1 ?k6 ?k7 ?k8 ?k9 ?kB ?_ ?c5 ?c2 ?c3 ?c4
  case k0 => intro q hq; cases hq
  case ka => exact fun q hq => hq
  case k1 => intro q hq r hr; cases hr
  case k6 => k_is
  case k7 => k_is
  case k8 => exact Nat.lt_of_le_of_lt (Nat.le_add_right _ _) hroom
  case k9 => exact BindsTo.of_eq rfl
  case c5 => decide
  case kB => exact locs rfl
  case c2 => exact rfl
  case c3 => exact rfl
  case c4 => exact rfl
  intro g' L' h' FG' F' N' B' X' T' l1 hg back
  clear l1 hg
  (try dsimp only)
  try k_lift B'
  have hr1 : ((A₀.deeper env).deeper env).depth + 1 < recursionLimit := hroom
  have hr : ((A₀.deeper env).deeper env).depth < recursionLimit := Nat.lt_of_le_of_lt (Nat.le_add_right _ _) hr1
  have hn0 := hn
  rcases hn with e | e | e
  all_goals subst e
  all_goals
    try k_fold
    k_steps
    exact h _ _ (by assumption) (fun q hq => back _ _ _ _ (by assumption) (by assumption) q (List.mem_append_right _ hq))
local macro_rules | `(tactic| walk_at "call ref") => `(tactic| (k_here; (with_reducible show wpAny _ _ (call (Value.ref 171) _) _ _ _); k_dflt (refine' isp_call ?r ?B ?F ?X ?N ?T ?f ?k ?n ?_; (case r => first | assumption | k_room); (case B => k_asm); (case F => k_asm); (case X => k_asm); (case N => k_asm); (case T => k_asm); (case f => exact rfl); (case k => exact rfl); (case n => assumption)); intro h' tk' F' N'))
local macro_rules | `(tactic| walk_at "getAttr ref") => `(tactic| (k_here; k_dflt (refine' get_own ?k1 ?k2 ?k3 ?k4 ?k5 ?k6 ?k7 ?k8 ?k9 ?_; (case k1 => k_asm); (case k2 => k_asm); (case k3 => k_inst); (case k4 => k_is); (case k5 => k_is); (case k6 => k_is); (case k7 => k_is); (case k8 => assumption); (case k9 => k_handed); k_whole)))
local macro_rules | `(tactic| walk_at "setItem ref str") => `(tactic| (k_here; k_dflt (refine' kda_set (knd := PySem.strKind _ _) ?F ?N ?U ?d (strKind_is _ _ _ _) ?z ?_; (case F => k_asm); (case N => k_asm); (case U => k_updF); (case d => k_asm); (case z => rw [sizeLine_eq]; exact Nat.le_trans (Kw.len (by assumption)) (by omega))); intro h' o' F' N' hd'; (try dsimp only at N')))
theorem sub3 {a b c : Addr × Obj} {big rest : List (Addr × Obj)} (ha : a ∈ big) (hb : b ∈ big) (hc : c ∈ big) : ∀ q ∈ a :: b :: c :: rest, q ∈ big ++ rest := fun q hq => by
  simp only [List.mem_cons] at hq
  rcases hq with rfl | rfl | rfl | hq
  all_goals first | exact List.mem_append_left _ (by assumption) | exact List.mem_append_right _ hq
set_option maxHeartbeats 8000000 in
theorem kw_call {prog : Program} {w : World} {s : Shared} {base h₀ : Heap} {L : Addr} {m mg mb : Str → Option Value} {env : Env} {news : List (Addr × Obj)} {p : Program} {loose : List Str} {mean : ExcName → Option Value}
    {Q : Value → Shared → Prop} {E : Value → Shared → Prop} {wa da rn wn kw st inp outp trc : Addr} {es : List DictEntry} {nn : Nat} {kvsK : List (Str × Value)} {okw : Obj} {I O T J : Int} {name : Str} {t tj : Tok} (rest : List (Addr × Obj))
    (B : Below callerA base [] h₀) (F : Fr h₀ L s.heap m) (X : (hd.heap_39 w.params).In h₀) (N : News h₀ L s.heap news) (TT : Top p loose mean mg mb h₀) (hf : env.frame = some L) (hke : env.scope.kind = .function)
    (hsub : ∀ q ∈ [(wa, instObj 111 da), (da, dictOf es nn), (kw, okw)], q ∈ news) (hrest : ∀ q ∈ rest, q ∈ news)
    (hap : ∀ q ∈ rest, ∀ r ∈ [(wa, instObj 111 da), (da, dictOf es nn), (kw, okw)], q.1 ≠ r.1)
    (n1 : @Ne Nat wa kw) (n2 : @Ne Nat da kw)
    (lo2 : (kw == sysModules) = false)
    (W : Wd es rn wn kw st inp outp trc) 
    (hdK : okw.IsDictOf (PySem.strKind prog w) kvsK) (K : Kw kvsK I O T) (hn : isKey name)
    (h : ∀ h' tk' okw' kvs', Fr h₀ L h' m → News h₀ L h' ((wa, instObj 111 da) :: (da, dictOf es nn) :: (kw, okw') :: rest) → okw'.IsDictOf (PySem.strKind prog w) kvs' →
      (name = Str.ofString "INPUT" → Kw kvs' J O T) → (name = Str.ofString "OUTPUT" → Kw kvs' I J T) → (name = Str.ofString "TRIM" → Kw kvs' I O J) → Q .none { s with heap := h', toks := tk' }) :
    wpAny (model prog w) (callerA.deeper env) (call (.ref 178) [.ref wa, .str name t, .int J tj]) Q E s := by
  w_top off
  refine wpAny_call ?_
  refine' callS (binds := [(PySem.Str.ofString "world", Value.ref wa), (PySem.Str.ofString "name", Value.str name t), (PySem.Str.ofString "value", Value.int J tj)]) [(wa, instObj 111 da), (da, dictOf es nn), (kw, okw)] rest B F X N TT (Around.frames_deeper B.stack) hf hke hsub hrest hap ?k6 ?k7 ?k8 ?k9 ?kB ?_ ?c5 ?c2 ?c3 ?c4
  case k6 => k_is
  case k7 => k_is
  case k8 => k_room
  case k9 => exact BindsTo.of_eq rfl
  case c5 => decide
  case kB => exact locs rfl
  case c2 => exact rfl
  case c3 => exact rfl
  case c4 => exact rfl
  intro g' L' h' FG' F' N' B' X' T' l1 hg back
  clear hg hsub hap
  k_lt l1
  (try dsimp only)
  try k_lift B'
  have w2 := W.kw
  obtain ⟨tw, w8⟩ := W.width
  have hn' := hn
  rcases hn' with e | e | e
  all_goals subst e
  · try k_fold
    k_steps
    exact h _ _ _ _ (by assumption) (fun q hq => back _ _ _ _ (by assumption) (by assumption) q (sub3 (by k_mem) (by k_mem) (by k_mem) q hq)) (by assumption) (fun e => absurd e (by decide +kernel)) (fun e => absurd e (by decide +kernel)) (fun _ => K.setT)
  · try k_fold
    k_steps
    exact h _ _ _ _ (by assumption) (fun q hq => back _ _ _ _ (by assumption) (by assumption) q (sub3 (by k_mem) (by k_mem) (by k_mem) q hq)) (by assumption) (fun _ => K.setI) (fun e => absurd e (by decide +kernel)) (fun e => absurd e (by decide +kernel))
  · try k_fold
    k_steps
    exact h _ _ _ _ (by assumption) (fun q hq => back _ _ _ _ (by assumption) (by assumption) q (sub3 (by k_mem) (by k_mem) (by k_mem) q hq)) (by assumption) (fun e => absurd e (by decide +kernel)) (fun _ => K.setO) (fun e => absurd e (by decide +kernel))
end Mine
namespace Mine
def isWrite (n : Str) : Prop := n = Str.ofString "OUTPUT" ∨ n = Str.ofString "W"
theorem notWrite_I : ¬ isWrite (Str.ofString "INPUT") := fun h => by rcases h with e | e <;> exact absurd e (by decide +kernel)
theorem notWrite_R : ¬ isWrite (Str.ofString "R") := fun h => by rcases h with e | e <;> exact absurd e (by decide +kernel)
theorem notWrite_X : ¬ isWrite (Str.ofString "X") := fun h => by rcases h with e | e <;> exact absurd e (by decide +kernel)
section
variable {prog : Program} {w : World} {A : Around} {E : Value → Shared → Prop} {s : Shared} {h₀ : Heap} {L D : Addr} {m : Str → Option Value} {news news' : List (Addr × Obj)} {us : List Value} {n : Nat} {Q : Value → Shared → Prop} {v : Value}
theorem appendL (F : Fr h₀ L s.heap m) (N : News h₀ L s.heap news) (U : Upd D (listOf us.toArray n) (listOf (us ++ [v]).toArray (n + 1)) news news') (hz : us.length ≤ sizeLine)
    (h : ∀ h', Fr h₀ L h' m → News h₀ L h' news' → Q .none { s with heap := h' }) : wpAny (model prog w) A (call (.builtin "list.append") [.ref D, v]) Q E s := by
  have e : us.toArray.push v = (us ++ [v]).toArray := by simp
  exact append_K F N (e ▸ U) h (by rw [List.size_toArray]; exact hz)
end
theorem StrsAre.snoc {us : List Value} {ys : List Str} (h : StrsAre us ys) (x : Str) (t : Tok) : StrsAre (us ++ [.str x t]) (ys ++ [x]) := by
  induction h with
  | nil => exact .cons x t .nil
  | cons y t' _ ih => exact .cons y t' ih
theorem sub7 {a b c d e f g : Addr × Obj} {big rest : List (Addr × Obj)} (ha : a ∈ big) (hb : b ∈ big) (hc : c ∈ big) (hd : d ∈ big) (he : e ∈ big) (hf : f ∈ big) (hg : g ∈ big) : ∀ q ∈ a :: b :: c :: d :: e :: f :: g :: rest, q ∈ big ++ rest := fun q hq => by
  simp only [List.mem_cons] at hq
  rcases hq with rfl | rfl | rfl | rfl | rfl | rfl | rfl | hq
  all_goals first | exact List.mem_append_left _ (by assumption) | exact List.mem_append_right _ hq
set_option maxHeartbeats 8000000 in
theorem set_call {prog : Program} {w : World} {s : Shared} {base h₀ : Heap} {L : Addr} {m mg mb : Str → Option Value} {env : Env} {news : List (Addr × Obj)} {p : Program} {loose : List Str} {mean : ExcName → Option Value}
    {Q : Value → Shared → Prop} {E : Value → Shared → Prop} {wa da rn wn kw st inp outp trc : Addr} {es : List DictEntry} {nn : Nat} {kvsW kvsK kvsS : List (Str × Value)} {own okw ost otr : Obj} {us : List Value} {ys : List Str} {no k : Nat} {I O T : Int} {c : Str → Cell} {name : Str} {t : Tok} {v : Value} {d : Cell} (rest : List (Addr × Obj))
    (B : Below callerA base [] h₀) (F : Fr h₀ L s.heap m) (X : (hd.heap_39 w.params).In h₀) (N : News h₀ L s.heap news) (TT : Top p loose mean mg mb h₀) (hf : env.frame = some L) (hke : env.scope.kind = .function)
    (hsub : ∀ q ∈ [(wa, instObj 111 da), (da, dictOf es nn), (wn, own), (kw, okw), (trc, otr), (st, ost), (outp, listOf us.toArray no)], q ∈ news) (hrest : ∀ q ∈ rest, q ∈ news)
    (hap : ∀ q ∈ rest, ∀ r ∈ [(wa, instObj 111 da), (da, dictOf es nn), (wn, own), (kw, okw), (trc, otr), (st, ost), (outp, listOf us.toArray no)], q.1 ≠ r.1)
    (n1 : @Ne Nat wa st) (n2 : @Ne Nat da st) (n3 : @Ne Nat wn st) (n4 : @Ne Nat kw st) (n5 : @Ne Nat trc st) (n5 : @Ne Nat outp st) (n6 : @Ne Nat wa outp) (n7 : @Ne Nat da outp) (n8 : @Ne Nat wn outp) (n9 : @Ne Nat kw outp) (n10 : @Ne Nat trc outp)
    (lo1 : (wn == sysModules) = false) (lo2 : (kw == sysModules) = false) (lo3 : (st == sysModules) = false) (lo4 : (trc == sysModules) = false)
    (W : Wd es rn wn kw st inp outp trc) (hdW : own.IsDictOf (PySem.strKind prog w) kvsW) (hW : ∀ n, isName n → isWrite n → (valueAt kvsW n).isSome = true) (hW' : ∀ n, isName n → ¬ isWrite n → (valueAt kvsW n).isSome = false) (hdT : otr.IsDictOf (PySem.strKind prog w) [])
    (hdK : okw.IsDictOf (PySem.strKind prog w) kvsK) (K : Kw kvsK I O T) (hdS : ost.IsDictOf (PySem.strKind prog w) kvsS) (S : Stt kvsS c k) (hk : k ≤ 50) (hs : StrsAre us ys) (hlen : ys.length ≤ 50) (hn : isName name) (hv : IsC v d) (hd : IsSet d)
    (hA : ∀ h' tk' ost' kvs' us' no', Fr h₀ L h' m → News h₀ L h' ((wa, instObj 111 da) :: (da, dictOf es nn) :: (wn, own) :: (kw, okw) :: (trc, otr) :: (st, ost') :: (outp, listOf (List.toArray us') no') :: rest) → isWrite name → O ≠ 0 → ost'.IsDictOf (PySem.strKind prog w) kvs' →
      Stt kvs' (upd c name d) (k + 1) → StrsAre us' (ys ++ [d.text]) → Q .none { s with heap := h', toks := tk' })
    (hB : ∀ h' tk' ost' kvs', Fr h₀ L h' m → News h₀ L h' ((wa, instObj 111 da) :: (da, dictOf es nn) :: (wn, own) :: (kw, okw) :: (trc, otr) :: (st, ost') :: (outp, listOf us.toArray no) :: rest) → (¬ isWrite name ∨ O = 0) → ost'.IsDictOf (PySem.strKind prog w) kvs' →
      Stt kvs' (upd c name d) (k + 1) → Q .none { s with heap := h', toks := tk' }) :
    wpAny (model prog w) (callerA.deeper env) (call (.ref 129) [.ref wa, .str name t, v]) Q E s := by
  w_top off
  refine wpAny_call ?_
  refine' callS (binds := [(PySem.Str.ofString "world", Value.ref wa), (PySem.Str.ofString "name", Value.str name t), (PySem.Str.ofString "value", v)]) [(wa, instObj 111 da), (da, dictOf es nn), (wn, own), (kw, okw), (trc, otr), (st, ost), (outp, listOf us.toArray no)] rest B F X N TT (Around.frames_deeper B.stack) hf hke hsub hrest hap ?k6 ?k7 ?k8 ?k9 ?kB ?_ ?c5 ?c2 ?c3 ?c4
  case k6 => k_is
  case k7 => k_is
  case k8 => k_room
  case k9 => exact BindsTo.of_eq rfl
  case c5 => decide
  case kB => exact locs rfl
  case c2 => exact rfl
  case c3 => exact rfl
  case c4 => exact rfl
  intro g' L' h' FG' F' N' B' X' T' l1 hg back
  clear l1 hg hsub hap
  (try dsimp only)
  try k_lift B'
  obtain ⟨tI, hO⟩ := K.outp
  have w1 := W.wn
  have w2 := W.kw
  have w3 := W.st
  have w4 := W.outp
  have w5 := W.trc
  have hz : us.length ≤ sizeLine := by rw [sizeLine_eq, hs.length]; omega
  have hn' := hn
  rcases hn' with e | e | e | e | e
  all_goals subst e
  · have hRd := hW' _ hn notWrite_I
    try k_fold
    (repeat' (first | ((with_reducible show wpAny _ _ (call (Value.ref _) _) _ _ _); (k_here; (with_reducible show wpAny _ _ (call (Value.ref 86) [_]) _ _ _); k_dflt (refine' need_call ?zqB ?zqF ?zqX ?zqN ?zqT ?zqf ?zqk ?zqx ?zqy ?_; (case zqB => k_asm); (case zqF => k_asm); (case zqX => k_asm); (case zqN => k_asm); (case zqT => k_asm); (case zqf => exact rfl); (case zqk => exact rfl); (case zqx => assumption); (case zqy => assumption)); with_reducible intro h' t' k' F' N')) | ((with_reducible show wpAny _ _ (call (Value.builtin "list.append") _) _ _ _); (k_here; (with_reducible show wpAny _ _ (call (Value.builtin _) [Value.ref _, _]) _ _ _); k_dflt (refine' appendL ?zqF ?zqN ?zqU ?zqz ?_; (case zqF => k_asm); (case zqN => k_asm); (case zqU => k_upd); (case zqz => assumption)); with_reducible intro h' F' N')) | ((with_reducible show wpAny _ _ (setItem (Value.ref _) (Value.str _ _) _) _ _ _); (k_here; k_dflt (refine' kda_set (knd := PySem.strKind _ _) ?zqF ?zqN ?zqU ?zqd (strKind_is _ _ _ _) ?zqz ?_; (case zqF => k_asm); (case zqN => k_asm); (case zqU => k_updF); (case zqd => k_asm); (case zqz => rw [sizeLine_eq]; exact Nat.le_trans (Stt.len (by assumption)) (by omega))); with_reducible intro h' o' F' N' hd'; (try dsimp only at N'))) | ((with_reducible show wpAny _ _ (call (Value.builtin "dict.get") _) _ _ _); (k_here; k_dflt (refine kdg_get2 (knd := PySem.strKind _ _) (by k_asm) (by k_mem) (by k_asm) (by k_asm) (strKind_is _ _ _ _) (some _) (by assumption) ?_; (try dsimp only [Option.getD])))) | ((with_reducible show wpAny _ _ (compareOp CmpOp.In (Value.str _ _) (Value.ref _)) _ _ _); (k_here; k_dflt (first   | refine kda_in (knd := PySem.strKind _ _) (by k_asm) (by k_mem) (by k_asm) (by k_asm) (strKind_is _ _ _ _) true (by assumption) ?_   | refine kda_in (knd := PySem.strKind _ _) (by k_asm) (by k_mem) (by k_asm) (by k_asm) (strKind_is _ _ _ _) false (by first | assumption | rfl) ?_))) | ((with_reducible show wpAny _ _ (getAttr (Value.ref _) _ _) _ _ _); (k_here; k_dflt (refine' get_own ?zqk1 ?zqk2 ?zqk3 ?zqk4 ?zqk5 ?zqk6 ?zqk7 ?zqk8 ?zqk9 ?_; (case zqk1 => k_asm); (case zqk2 => k_asm); (case zqk3 => k_inst); (case zqk4 => k_is); (case zqk5 => k_is); (case zqk6 => k_is); (case zqk7 => k_is); (case zqk8 => assumption); (case zqk9 => k_handed); k_whole))) | (k_unfold; (try dsimp only)) | (k_end; wrow_close) | walk1 | (dsimp only; walk1) | (leave1; walk_say "STEP leave1"; try dsimp only) | fail "no step"))
    all_goals (first   | exact hA _ _ _ _ _ _ (by assumption) (fun q hq => back _ _ _ _ (by assumption) (by assumption) q (sub7 (by k_mem) (by k_mem) (by k_mem) (by k_mem) (by k_mem) (by k_mem) (by k_mem) q hq)) (by first | exact .inl rfl | exact .inr rfl) (by assumption) (by assumption) (Stt.set S hv) (StrsAre.snoc hs _ _)   | exact hB _ _ _ _ (by assumption) (fun q hq => back _ _ _ _ (by assumption) (by assumption) q (sub7 (by k_mem) (by k_mem) (by k_mem) (by k_mem) (by k_mem) (by k_mem) (by k_mem) q hq)) (by first | exact .inl notWrite_I | exact .inl notWrite_R | exact .inl notWrite_X | exact .inr (by assumption)) (by assumption) (Stt.set S hv))
  · have hRd := hW' _ hn notWrite_R
    try k_fold
    (repeat' (first | ((with_reducible show wpAny _ _ (call (Value.ref _) _) _ _ _); (k_here; (with_reducible show wpAny _ _ (call (Value.ref 86) [_]) _ _ _); k_dflt (refine' need_call ?zqB ?zqF ?zqX ?zqN ?zqT ?zqf ?zqk ?zqx ?zqy ?_; (case zqB => k_asm); (case zqF => k_asm); (case zqX => k_asm); (case zqN => k_asm); (case zqT => k_asm); (case zqf => exact rfl); (case zqk => exact rfl); (case zqx => assumption); (case zqy => assumption)); with_reducible intro h' t' k' F' N')) | ((with_reducible show wpAny _ _ (call (Value.builtin "list.append") _) _ _ _); (k_here; (with_reducible show wpAny _ _ (call (Value.builtin _) [Value.ref _, _]) _ _ _); k_dflt (refine' appendL ?zqF ?zqN ?zqU ?zqz ?_; (case zqF => k_asm); (case zqN => k_asm); (case zqU => k_upd); (case zqz => assumption)); with_reducible intro h' F' N')) | ((with_reducible show wpAny _ _ (setItem (Value.ref _) (Value.str _ _) _) _ _ _); (k_here; k_dflt (refine' kda_set (knd := PySem.strKind _ _) ?zqF ?zqN ?zqU ?zqd (strKind_is _ _ _ _) ?zqz ?_; (case zqF => k_asm); (case zqN => k_asm); (case zqU => k_updF); (case zqd => k_asm); (case zqz => rw [sizeLine_eq]; exact Nat.le_trans (Stt.len (by assumption)) (by omega))); with_reducible intro h' o' F' N' hd'; (try dsimp only at N'))) | ((with_reducible show wpAny _ _ (call (Value.builtin "dict.get") _) _ _ _); (k_here; k_dflt (refine kdg_get2 (knd := PySem.strKind _ _) (by k_asm) (by k_mem) (by k_asm) (by k_asm) (strKind_is _ _ _ _) (some _) (by assumption) ?_; (try dsimp only [Option.getD])))) | ((with_reducible show wpAny _ _ (compareOp CmpOp.In (Value.str _ _) (Value.ref _)) _ _ _); (k_here; k_dflt (first   | refine kda_in (knd := PySem.strKind _ _) (by k_asm) (by k_mem) (by k_asm) (by k_asm) (strKind_is _ _ _ _) true (by assumption) ?_   | refine kda_in (knd := PySem.strKind _ _) (by k_asm) (by k_mem) (by k_asm) (by k_asm) (strKind_is _ _ _ _) false (by first | assumption | rfl) ?_))) | ((with_reducible show wpAny _ _ (getAttr (Value.ref _) _ _) _ _ _); (k_here; k_dflt (refine' get_own ?zqk1 ?zqk2 ?zqk3 ?zqk4 ?zqk5 ?zqk6 ?zqk7 ?zqk8 ?zqk9 ?_; (case zqk1 => k_asm); (case zqk2 => k_asm); (case zqk3 => k_inst); (case zqk4 => k_is); (case zqk5 => k_is); (case zqk6 => k_is); (case zqk7 => k_is); (case zqk8 => assumption); (case zqk9 => k_handed); k_whole))) | (k_unfold; (try dsimp only)) | (k_end; wrow_close) | walk1 | (dsimp only; walk1) | (leave1; walk_say "STEP leave1"; try dsimp only) | fail "no step"))
    all_goals (first   | exact hA _ _ _ _ _ _ (by assumption) (fun q hq => back _ _ _ _ (by assumption) (by assumption) q (sub7 (by k_mem) (by k_mem) (by k_mem) (by k_mem) (by k_mem) (by k_mem) (by k_mem) q hq)) (by first | exact .inl rfl | exact .inr rfl) (by assumption) (by assumption) (Stt.set S hv) (StrsAre.snoc hs _ _)   | exact hB _ _ _ _ (by assumption) (fun q hq => back _ _ _ _ (by assumption) (by assumption) q (sub7 (by k_mem) (by k_mem) (by k_mem) (by k_mem) (by k_mem) (by k_mem) (by k_mem) q hq)) (by first | exact .inl notWrite_I | exact .inl notWrite_R | exact .inl notWrite_X | exact .inr (by assumption)) (by assumption) (Stt.set S hv))
  · have hRd := hW _ hn (.inl rfl)
    try k_fold
    (repeat' (first | ((with_reducible show wpAny _ _ (call (Value.ref _) _) _ _ _); (k_here; (with_reducible show wpAny _ _ (call (Value.ref 86) [_]) _ _ _); k_dflt (refine' need_call ?zqB ?zqF ?zqX ?zqN ?zqT ?zqf ?zqk ?zqx ?zqy ?_; (case zqB => k_asm); (case zqF => k_asm); (case zqX => k_asm); (case zqN => k_asm); (case zqT => k_asm); (case zqf => exact rfl); (case zqk => exact rfl); (case zqx => assumption); (case zqy => assumption)); with_reducible intro h' t' k' F' N')) | ((with_reducible show wpAny _ _ (call (Value.builtin "list.append") _) _ _ _); (k_here; (with_reducible show wpAny _ _ (call (Value.builtin _) [Value.ref _, _]) _ _ _); k_dflt (refine' appendL ?zqF ?zqN ?zqU ?zqz ?_; (case zqF => k_asm); (case zqN => k_asm); (case zqU => k_upd); (case zqz => assumption)); with_reducible intro h' F' N')) | ((with_reducible show wpAny _ _ (setItem (Value.ref _) (Value.str _ _) _) _ _ _); (k_here; k_dflt (refine' kda_set (knd := PySem.strKind _ _) ?zqF ?zqN ?zqU ?zqd (strKind_is _ _ _ _) ?zqz ?_; (case zqF => k_asm); (case zqN => k_asm); (case zqU => k_updF); (case zqd => k_asm); (case zqz => rw [sizeLine_eq]; exact Nat.le_trans (Stt.len (by assumption)) (by omega))); with_reducible intro h' o' F' N' hd'; (try dsimp only at N'))) | ((with_reducible show wpAny _ _ (call (Value.builtin "dict.get") _) _ _ _); (k_here; k_dflt (refine kdg_get2 (knd := PySem.strKind _ _) (by k_asm) (by k_mem) (by k_asm) (by k_asm) (strKind_is _ _ _ _) (some _) (by assumption) ?_; (try dsimp only [Option.getD])))) | ((with_reducible show wpAny _ _ (compareOp CmpOp.In (Value.str _ _) (Value.ref _)) _ _ _); (k_here; k_dflt (first   | refine kda_in (knd := PySem.strKind _ _) (by k_asm) (by k_mem) (by k_asm) (by k_asm) (strKind_is _ _ _ _) true (by assumption) ?_   | refine kda_in (knd := PySem.strKind _ _) (by k_asm) (by k_mem) (by k_asm) (by k_asm) (strKind_is _ _ _ _) false (by first | assumption | rfl) ?_))) | ((with_reducible show wpAny _ _ (getAttr (Value.ref _) _ _) _ _ _); (k_here; k_dflt (refine' get_own ?zqk1 ?zqk2 ?zqk3 ?zqk4 ?zqk5 ?zqk6 ?zqk7 ?zqk8 ?zqk9 ?_; (case zqk1 => k_asm); (case zqk2 => k_asm); (case zqk3 => k_inst); (case zqk4 => k_is); (case zqk5 => k_is); (case zqk6 => k_is); (case zqk7 => k_is); (case zqk8 => assumption); (case zqk9 => k_handed); k_whole))) | (k_unfold; (try dsimp only)) | (k_end; wrow_close) | walk1 | (dsimp only; walk1) | (leave1; walk_say "STEP leave1"; try dsimp only) | fail "no step"))
    all_goals (first   | exact hA _ _ _ _ _ _ (by assumption) (fun q hq => back _ _ _ _ (by assumption) (by assumption) q (sub7 (by k_mem) (by k_mem) (by k_mem) (by k_mem) (by k_mem) (by k_mem) (by k_mem) q hq)) (by first | exact .inl rfl | exact .inr rfl) (by assumption) (by assumption) (Stt.set S hv) (StrsAre.snoc hs _ _)   | exact hB _ _ _ _ (by assumption) (fun q hq => back _ _ _ _ (by assumption) (by assumption) q (sub7 (by k_mem) (by k_mem) (by k_mem) (by k_mem) (by k_mem) (by k_mem) (by k_mem) q hq)) (by first | exact .inl notWrite_I | exact .inl notWrite_R | exact .inl notWrite_X | exact .inr (by assumption)) (by assumption) (Stt.set S hv))
  · have hRd := hW _ hn (.inr rfl)
    try k_fold
    (repeat' (first | ((with_reducible show wpAny _ _ (call (Value.ref _) _) _ _ _); (k_here; (with_reducible show wpAny _ _ (call (Value.ref 86) [_]) _ _ _); k_dflt (refine' need_call ?zqB ?zqF ?zqX ?zqN ?zqT ?zqf ?zqk ?zqx ?zqy ?_; (case zqB => k_asm); (case zqF => k_asm); (case zqX => k_asm); (case zqN => k_asm); (case zqT => k_asm); (case zqf => exact rfl); (case zqk => exact rfl); (case zqx => assumption); (case zqy => assumption)); with_reducible intro h' t' k' F' N')) | ((with_reducible show wpAny _ _ (call (Value.builtin "list.append") _) _ _ _); (k_here; (with_reducible show wpAny _ _ (call (Value.builtin _) [Value.ref _, _]) _ _ _); k_dflt (refine' appendL ?zqF ?zqN ?zqU ?zqz ?_; (case zqF => k_asm); (case zqN => k_asm); (case zqU => k_upd); (case zqz => assumption)); with_reducible intro h' F' N')) | ((with_reducible show wpAny _ _ (setItem (Value.ref _) (Value.str _ _) _) _ _ _); (k_here; k_dflt (refine' kda_set (knd := PySem.strKind _ _) ?zqF ?zqN ?zqU ?zqd (strKind_is _ _ _ _) ?zqz ?_; (case zqF => k_asm); (case zqN => k_asm); (case zqU => k_updF); (case zqd => k_asm); (case zqz => rw [sizeLine_eq]; exact Nat.le_trans (Stt.len (by assumption)) (by omega))); with_reducible intro h' o' F' N' hd'; (try dsimp only at N'))) | ((with_reducible show wpAny _ _ (call (Value.builtin "dict.get") _) _ _ _); (k_here; k_dflt (refine kdg_get2 (knd := PySem.strKind _ _) (by k_asm) (by k_mem) (by k_asm) (by k_asm) (strKind_is _ _ _ _) (some _) (by assumption) ?_; (try dsimp only [Option.getD])))) | ((with_reducible show wpAny _ _ (compareOp CmpOp.In (Value.str _ _) (Value.ref _)) _ _ _); (k_here; k_dflt (first   | refine kda_in (knd := PySem.strKind _ _) (by k_asm) (by k_mem) (by k_asm) (by k_asm) (strKind_is _ _ _ _) true (by assumption) ?_   | refine kda_in (knd := PySem.strKind _ _) (by k_asm) (by k_mem) (by k_asm) (by k_asm) (strKind_is _ _ _ _) false (by first | assumption | rfl) ?_))) | ((with_reducible show wpAny _ _ (getAttr (Value.ref _) _ _) _ _ _); (k_here; k_dflt (refine' get_own ?zqk1 ?zqk2 ?zqk3 ?zqk4 ?zqk5 ?zqk6 ?zqk7 ?zqk8 ?zqk9 ?_; (case zqk1 => k_asm); (case zqk2 => k_asm); (case zqk3 => k_inst); (case zqk4 => k_is); (case zqk5 => k_is); (case zqk6 => k_is); (case zqk7 => k_is); (case zqk8 => assumption); (case zqk9 => k_handed); k_whole))) | (k_unfold; (try dsimp only)) | (k_end; wrow_close) | walk1 | (dsimp only; walk1) | (leave1; walk_say "STEP leave1"; try dsimp only) | fail "no step"))
    all_goals (first   | exact hA _ _ _ _ _ _ (by assumption) (fun q hq => back _ _ _ _ (by assumption) (by assumption) q (sub7 (by k_mem) (by k_mem) (by k_mem) (by k_mem) (by k_mem) (by k_mem) (by k_mem) q hq)) (by first | exact .inl rfl | exact .inr rfl) (by assumption) (by assumption) (Stt.set S hv) (StrsAre.snoc hs _ _)   | exact hB _ _ _ _ (by assumption) (fun q hq => back _ _ _ _ (by assumption) (by assumption) q (sub7 (by k_mem) (by k_mem) (by k_mem) (by k_mem) (by k_mem) (by k_mem) (by k_mem) q hq)) (by first | exact .inl notWrite_I | exact .inl notWrite_R | exact .inl notWrite_X | exact .inr (by assumption)) (by assumption) (Stt.set S hv))
  · have hRd := hW' _ hn notWrite_X
    try k_fold
    (repeat' (first | ((with_reducible show wpAny _ _ (call (Value.ref _) _) _ _ _); (k_here; (with_reducible show wpAny _ _ (call (Value.ref 86) [_]) _ _ _); k_dflt (refine' need_call ?zqB ?zqF ?zqX ?zqN ?zqT ?zqf ?zqk ?zqx ?zqy ?_; (case zqB => k_asm); (case zqF => k_asm); (case zqX => k_asm); (case zqN => k_asm); (case zqT => k_asm); (case zqf => exact rfl); (case zqk => exact rfl); (case zqx => assumption); (case zqy => assumption)); with_reducible intro h' t' k' F' N')) | ((with_reducible show wpAny _ _ (call (Value.builtin "list.append") _) _ _ _); (k_here; (with_reducible show wpAny _ _ (call (Value.builtin _) [Value.ref _, _]) _ _ _); k_dflt (refine' appendL ?zqF ?zqN ?zqU ?zqz ?_; (case zqF => k_asm); (case zqN => k_asm); (case zqU => k_upd); (case zqz => assumption)); with_reducible intro h' F' N')) | ((with_reducible show wpAny _ _ (setItem (Value.ref _) (Value.str _ _) _) _ _ _); (k_here; k_dflt (refine' kda_set (knd := PySem.strKind _ _) ?zqF ?zqN ?zqU ?zqd (strKind_is _ _ _ _) ?zqz ?_; (case zqF => k_asm); (case zqN => k_asm); (case zqU => k_updF); (case zqd => k_asm); (case zqz => rw [sizeLine_eq]; exact Nat.le_trans (Stt.len (by assumption)) (by omega))); with_reducible intro h' o' F' N' hd'; (try dsimp only at N'))) | ((with_reducible show wpAny _ _ (call (Value.builtin "dict.get") _) _ _ _); (k_here; k_dflt (refine kdg_get2 (knd := PySem.strKind _ _) (by k_asm) (by k_mem) (by k_asm) (by k_asm) (strKind_is _ _ _ _) (some _) (by assumption) ?_; (try dsimp only [Option.getD])))) | ((with_reducible show wpAny _ _ (compareOp CmpOp.In (Value.str _ _) (Value.ref _)) _ _ _); (k_here; k_dflt (first   | refine kda_in (knd := PySem.strKind _ _) (by k_asm) (by k_mem) (by k_asm) (by k_asm) (strKind_is _ _ _ _) true (by assumption) ?_   | refine kda_in (knd := PySem.strKind _ _) (by k_asm) (by k_mem) (by k_asm) (by k_asm) (strKind_is _ _ _ _) false (by first | assumption | rfl) ?_))) | ((with_reducible show wpAny _ _ (getAttr (Value.ref _) _ _) _ _ _); (k_here; k_dflt (refine' get_own ?zqk1 ?zqk2 ?zqk3 ?zqk4 ?zqk5 ?zqk6 ?zqk7 ?zqk8 ?zqk9 ?_; (case zqk1 => k_asm); (case zqk2 => k_asm); (case zqk3 => k_inst); (case zqk4 => k_is); (case zqk5 => k_is); (case zqk6 => k_is); (case zqk7 => k_is); (case zqk8 => assumption); (case zqk9 => k_handed); k_whole))) | (k_unfold; (try dsimp only)) | (k_end; wrow_close) | walk1 | (dsimp only; walk1) | (leave1; walk_say "STEP leave1"; try dsimp only) | fail "no step"))
    all_goals (first   | exact hA _ _ _ _ _ _ (by assumption) (fun q hq => back _ _ _ _ (by assumption) (by assumption) q (sub7 (by k_mem) (by k_mem) (by k_mem) (by k_mem) (by k_mem) (by k_mem) (by k_mem) q hq)) (by first | exact .inl rfl | exact .inr rfl) (by assumption) (by assumption) (Stt.set S hv) (StrsAre.snoc hs _ _)   | exact hB _ _ _ _ (by assumption) (fun q hq => back _ _ _ _ (by assumption) (by assumption) q (sub7 (by k_mem) (by k_mem) (by k_mem) (by k_mem) (by k_mem) (by k_mem) (by k_mem) q hq)) (by first | exact .inl notWrite_I | exact .inl notWrite_R | exact .inl notWrite_X | exact .inr (by assumption)) (by assumption) (Stt.set S hv))
end Mine
namespace Mine
theorem getL_iff {k : Str} {es : List DictEntry} {v : Value} : getL k es = some (some v) ↔ (es.find? (·.key.isStr k)).map (·.val) = some v := by
  unfold getL
  cases h : es.find? (·.key.isStr k) with
  | some e => simp
  | none =>
    simp only [Option.map_none, reduceCtorEq, iff_false]
    split <;> simp
theorem find_putL {n k : Str} {h : Int} {t : Tok} {v : Value} : ∀ {es : List DictEntry}, ((putL n h (.str n t) v es).find? (·.key.isStr k)).map (·.val) = if k = n then some v else (es.find? (·.key.isStr k)).map (·.val)
  | [] => by
    by_cases e : k = n
    · subst e; simp [putL, Value.isStr]
    · have e' : ¬ n = k := fun q => e q.symm
      simp [putL, Value.isStr, e, e']
  | d :: r => by
    have ih := find_putL (n := n) (k := k) (h := h) (t := t) (v := v) (es := r)
    unfold putL
    by_cases q : d.key.isStr n = true
    · rw [if_pos q]
      obtain ⟨x, tk, hk⟩ : ∃ x tk, d.key = .str x tk := by
        unfold Value.isStr at q
        split at q
        · exact ⟨_, _, by assumption⟩
        · cases q
      have hx : x = n := by rw [hk] at q; simpa [Value.isStr] using q
      by_cases e : k = n
      · subst e; simp [List.find?_cons, hk, Value.isStr, hx]
      · have e' : ¬ x = k := fun z => e (z ▸ hx)
        simp [List.find?_cons, hk, Value.isStr, e, e']
    · rw [if_neg q]
      by_cases q2 : d.key.isStr k = true
      · have e : ¬ k = n := fun z => q (z ▸ q2)
        simp [List.find?_cons, q2, e]
      · simp only [List.find?_cons, q2]
        exact ih
theorem getL_put_self {n : Str} {h : Int} {t : Tok} {v : Value} {es : List DictEntry} : getL n (putL n h (.str n t) v es) = some (some v) := by
  rw [getL_iff, find_putL, if_pos rfl]
theorem getL_put_ne {n k : Str} {h : Int} {t : Tok} {v x : Value} {es : List DictEntry} (e : k ≠ n) (q : getL k es = some (some x)) : getL k (putL n h (.str n t) v es) = some (some x) := by
  rw [getL_iff] at q ⊢
  rw [find_putL, if_neg e]; exact q
theorem putL_len {n : Str} {h : Int} {t : Tok} {v : Value} : ∀ {es : List DictEntry}, (putL n h (.str n t) v es).length ≤ es.length + 1
  | [] => by simp [putL]
  | d :: r => by
    have ih := putL_len (n := n) (h := h) (t := t) (v := v) (es := r)
    unfold putL
    split
    · simp
    · simp only [List.length_cons]; omega
theorem Wd.setKw {es : List DictEntry} {rn wn kw st inp outp trc a : Addr} {h : Int} {t : Tok} (W : Wd es rn wn kw st inp outp trc) : Wd (putL (Str.ofString "keywords") h (.str (Str.ofString "keywords") t) (.ref a) es) rn wn a st inp outp trc :=
  ⟨getL_put_ne (by decide +kernel) W.rn, getL_put_ne (by decide +kernel) W.wn, getL_put_self, getL_put_ne (by decide +kernel) W.st, getL_put_ne (by decide +kernel) W.inp, getL_put_ne (by decide +kernel) W.outp, getL_put_ne (by decide +kernel) W.trc, let ⟨t, q⟩ := W.width; ⟨t, getL_put_ne (by decide +kernel) q⟩⟩
theorem Wd.setInp {es : List DictEntry} {rn wn kw st inp outp trc a : Addr} {h : Int} {t : Tok} (W : Wd es rn wn kw st inp outp trc) : Wd (putL (Str.ofString "inputs") h (.str (Str.ofString "inputs") t) (.ref a) es) rn wn kw st a outp trc :=
  ⟨getL_put_ne (by decide +kernel) W.rn, getL_put_ne (by decide +kernel) W.wn, getL_put_ne (by decide +kernel) W.kw, getL_put_ne (by decide +kernel) W.st, getL_put_self, getL_put_ne (by decide +kernel) W.outp, getL_put_ne (by decide +kernel) W.trc, let ⟨t, q⟩ := W.width; ⟨t, getL_put_ne (by decide +kernel) q⟩⟩
theorem Wd.setRn {es : List DictEntry} {rn wn kw st inp outp trc a : Addr} {h : Int} {t : Tok} (W : Wd es rn wn kw st inp outp trc) : Wd (putL (Str.ofString "read_names") h (.str (Str.ofString "read_names") t) (.ref a) es) a wn kw st inp outp trc :=
  ⟨getL_put_self, getL_put_ne (by decide +kernel) W.wn, getL_put_ne (by decide +kernel) W.kw, getL_put_ne (by decide +kernel) W.st, getL_put_ne (by decide +kernel) W.inp, getL_put_ne (by decide +kernel) W.outp, getL_put_ne (by decide +kernel) W.trc, let ⟨t, q⟩ := W.width; ⟨t, getL_put_ne (by decide +kernel) q⟩⟩
theorem Wd.setWn {es : List DictEntry} {rn wn kw st inp outp trc a : Addr} {h : Int} {t : Tok} (W : Wd es rn wn kw st inp outp trc) : Wd (putL (Str.ofString "write_names") h (.str (Str.ofString "write_names") t) (.ref a) es) rn a kw st inp outp trc :=
  ⟨getL_put_ne (by decide +kernel) W.rn, getL_put_self, getL_put_ne (by decide +kernel) W.kw, getL_put_ne (by decide +kernel) W.st, getL_put_ne (by decide +kernel) W.inp, getL_put_ne (by decide +kernel) W.outp, getL_put_ne (by decide +kernel) W.trc, let ⟨t, q⟩ := W.width; ⟨t, getL_put_ne (by decide +kernel) q⟩⟩
theorem lenNil {K : Type} {α : Type} : ([] : List (K × α)).length ≤ 0 := Nat.le_refl 0
theorem lenB {kvs : List (Str × Value)} {k : Str} {v : Value} {n : Nat} (h : kvs.length ≤ n) : (stored kvs k v).length ≤ n + 1 := Nat.le_trans (stored_length_le kvs k v) (Nat.succ_le_succ h)
local macro_rules | `(tactic| walk_at "getAttr ref") => `(tactic| (k_here; k_dflt (refine' get_own ?k1 ?k2 ?k3 ?k4 ?k5 ?k6 ?k7 ?k8 ?k9 ?_; (case k1 => k_asm); (case k2 => k_asm); (case k3 => k_inst); (case k4 => k_is); (case k5 => k_is); (case k6 => k_is); (case k7 => k_is); (case k8 => first | assumption | exact getL_put_self | exact getL_put_ne (by decide +kernel) (by assumption)); (case k9 => k_handed); k_whole)))
local macro_rules | `(tactic| walk_at "setAttr ref") => `(tactic| (k_here; k_dflt (refine' set_dict ?k1 ?k2 ?k3 ?k4 ?kd ?k5 ?k6 ?k7 ?k8 ?k9 (by rfl) ?U ?z ?_; (case k1 => k_asm); (case k2 => k_asm); (case k3 => k_asm); (case k4 => k_inst); (case kd => exact rfl); (case k5 => k_is); (case k6 => k_is); (case k7 => k_is); (case k8 => k_is); (case k9 => exact Option.isSome_iff_exists.mpr ⟨_, by assumption⟩); (case U => k_upd); (case z => exact Nat.le_trans putL_len (by omega))); intro h' F' N'))
local macro_rules | `(tactic| walk_at "setItem ref str") => `(tactic| (k_here; k_dflt (refine' kda_set (knd := PySem.strKind _ _) ?F ?N ?U ?d (strKind_is _ _ _ _) ?z ?_; (case F => k_asm); (case N => k_asm); (case U => k_updF); (case d => k_asm); (case z => rw [sizeLine_eq]; omega)); intro h' o' F' N' hd'; (try dsimp only at N')))
local macro_rules | `(tactic| walk_at "exec For Tuple Call cons nil") => `(tactic| (k_here; (rename Fr _ _ _ _ => lF'); with_unfolding_all ((refine' For_turns lF' ?_); k_whole; (refine MethodCall_ ?_))))
local macro_rules | `(tactic| walk_at "getMethod ref") => `(tactic| (k_here; (with_reducible show wpAny _ _ (getMethod (Value.ref _) (PySem.Str.ofString "items") _) _ _ _); k_dflt (refine kdl_method (knd := PySem.strKind _ _) PySem.F.slot_dict_items PySem.F.type_dict_items (by k_asm) (by k_mem) (by k_asm) ?_); refine callWith_method0 ?_))
local macro_rules | `(tactic| walk_at "call builtin:dict.items") => `(tactic| (k_here; k_dflt (refine kta_callItems (knd := PySem.strKind _ _) (by k_asm) (by k_asm) (by k_mem) (by k_asm) (by k_asm) ?_); intro h' hv' F' N'))
local macro_rules | `(tactic| walk_at "eval Name") => `(tactic| (k_here; k_dflt (refine' ld ?k1 ?k2 ?_; (case k1 => k_asm); (case k2 => first | exact rfl | assumption); k_whole)))
theorem valueAt_foldl {k : Str} : ∀ {ps kvs : List (Str × Value)}, valueAt (ps.foldl (fun a p => stored a p.1 p.2) kvs) k = (valueAt ps.reverse k).or (valueAt kvs k)
  | [], _ => by simp [valueAt]
  | p :: ps, kvs => by
    rw [List.foldl_cons, valueAt_foldl (ps := ps), valueAt_stored, List.reverse_cons, valueAt_append]
    cases valueAt ps.reverse k with
    | some v => simp
    | none =>
      by_cases e : k = p.1
      · subst e; simp [valueAt]
      · have e' : ¬ p.1 = k := fun z => e z.symm
        simp [valueAt, e, e']
section
variable {prog : Program} {w : World} {A : Around} {E : Value → Shared → Prop} {s : Shared} {h₀ : Heap} {L : Addr} {m : Str → Option Value} {news : List (Addr × Obj)}
theorem newDict_L {env : Env} {pos : Pos} {Q : Value → Shared → Prop} (F : Fr h₀ L s.heap m) (N : News h₀ L s.heap news) (hbig : h₀.NoLimit)
    (k : ∀ d h' o, Fr h₀ L h' m → News h₀ L h' ((d, o) :: news) → (∀ p ∈ news, p.1 < d) → @LT.lt Nat _ L d → (d == sysModules) = false → o.IsDictOf (PySem.strKind prog w) [] → Q (.ref d) { s with heap := h' }) : wpAny (model prog w) A (eval (.Dict [] [] pos) env) Q E s :=
  Dict_empty_made2 F N (modules_low hbig) fun h' o F' N' lo a _ _ _ _ => k _ h' o F' N' (fun p hp => Heap.lt_size (N p hp).1) F.ns.lt lo a
end
local macro_rules | `(tactic| walk_at "eval Dict nil nil") => `(tactic| (k_here; k_dflt (refine' newDict_L ?k1 ?k2 (TopRead.nolimit (by k_asm)) ?_; (case k1 => k_asm); (case k2 => k_asm); k_whole); intro d' h' o' F' N' l1 lL lo' hs'; (try k_lt l1); (try k_sweep)))
section
variable {prog : Program} {w : World} {A : Around} {E : Value → Shared → Prop} {s : Shared} {env : Env} {h₀ : Heap} {target : Expr} {body : List Stmt} {Q : Flow → Shared → Prop} {ws : List (Addr × String)} {keep : List (Addr × Obj)}
theorem allObj_mono {k k' : List (Addr × Obj) → Prop} (hk : ∀ its, k its → k' its) : ∀ {ws : List (Addr × String)} {f f' : List (Addr × Obj) → List (Addr × Obj)}, f = f' → AllObj ws (fun its => k (f its)) → AllObj ws (fun its => k' (f' its))
  | [], _, _, e, h => e ▸ hk _ h
  | _ :: r, f, _, e, h => e ▸ fun o ho => allObj_mono hk (ws := r) (f := fun its => f ((_, o) :: its)) rfl (h o ho)
theorem itemsRest_inv (J : List Itm → (Str → Option Value) → List (Addr × Obj) → Prop)
    (step : ∀ a r m news, J (a :: r) m news → ∀ v h tk, a.Is v h → Fr h₀ env.locals h m → AllObj ws (fun its => News h₀ env.locals h (its ++ news) →
      wpAny (model prog w) A (assign target env v) (fun _ s₂ => wpAny (model prog w) A (execs body env) (UnrPostW h₀ env.locals { s with heap := h, toks := tk } its (fun m' n' => SubL keep n' ∧ J r m' n') Q) E s₂) E { s with heap := h, toks := tk }))
    (done : ∀ m news, J [] m news → ∀ h tk, Fr h₀ env.locals h m → News h₀ env.locals h news → Q .next { s with heap := h, toks := tk }) :
    ∀ xs m news, J xs m news → ItemsRest prog w A E h₀ env target body Q s ws keep xs m news
  | [], m, news, hj => ItemsRest.zero (done m news hj)
  | a :: r, m, news, hj => by
    intro v h tk hv F
    refine allObj_mono (f := fun its => its) (fun its z N => ?_) rfl (step a r m news hj v h tk hv F)
    refine wpAny_mono (z N) (fun _ s₂ z2 => wpAny_mono z2 (fun f s₃ z3 => ?_) fun _ _ e => e) fun _ _ e => e
    have up : UnrEndW h₀ env.locals { s with heap := h, toks := tk } its (fun m' n' => SubL keep n' ∧ J r m' n') s₃ → UnrEndW h₀ env.locals { s with heap := h, toks := tk } its (fun m' n' => SubL keep n' ∧ ItemsRest prog w A E h₀ env target body Q s ws keep r m' n') s₃ := by
      rintro ⟨h', tk', m', news', e, F', N', ho, hk, hj'⟩
      exact ⟨h', tk', m', news', e, F', N', ho, hk, itemsRest_inv J step done r m' news' hj'⟩
    cases f with
    | ret v => exact z3
    | brk => exact z3
    | next => exact up z3
    | cont => exact up z3
end
theorem lenStep {kvs : List (Str × Value)} {k : Str} {v : Value} {n b : Nat} (h : kvs.length + (n + 1) ≤ b) : (stored kvs k v).length + n ≤ b := by have := stored_length_le kvs k v; omega
def intIs (o : Option Value) (k : Int) : Bool := match o with
  | some (.int j _) => decide (j = k)
  | _ => false
theorem intIs_ex {o : Option Value} {k : Int} (h : intIs o k = true) : ∃ t, o = some (.int k t) := by
  unfold intIs at h
  split at h
  · rename_i j t
    exact ⟨t, by rw [of_decide_eq_true h]⟩
  · cases h
def JB (n : Nat) (prog : Program) (w : World) (wa : Addr) (led : Obj → List (Addr × Obj)) (fin : List (Str × Value)) (xs : List Itm) (m : Str → Option Value) (news : List (Addr × Obj)) : Prop :=
  m (Str.ofString "world") = some (.ref wa) ∧ ∃ okw kvs, news = led okw ∧ okw.IsDictOf (PySem.strKind prog w) kvs ∧ ∃ ps : List (Str × Value), xs = ps.map (fun p => Itm.pair (kyVal (PyData.str p.1)) p.2) ∧ kvs.length + ps.length ≤ n ∧ ps.foldl (fun a p => stored a p.1 p.2) kvs = fin
set_option maxHeartbeats 8000000 in
theorem begin_call {prog : Program} {w : World} {s : Shared} {base h₀ : Heap} {L : Addr} {m mg mb : Str → Option Value} {env : Env} {news : List (Addr × Obj)} {p : Program} {loose : List Str} {mean : ExcName → Option Value}
    {Q : Value → Shared → Prop} {E : Value → Shared → Prop} {wa da rn wn kw st inp outp trc : Addr} {es : List DictEntry} {nn : Nat} {tm : Tok} (rest : List (Addr × Obj))
    (B : Below callerA base [] h₀) (F : Fr h₀ L s.heap m) (X : (hd.heap_39 w.params).In h₀) (N : News h₀ L s.heap news) (TT : Top p loose mean mg mb h₀) (hf : env.frame = some L) (hke : env.scope.kind = .function)
    (hsub : ∀ q ∈ [(wa, instObj 111 da), (da, dictOf es nn)], q ∈ news) (hrest : ∀ q ∈ rest, q ∈ news)
    (hap : ∀ q ∈ rest, ∀ r ∈ [(wa, instObj 111 da), (da, dictOf es nn)], q.1 ≠ r.1)
    (n1 : @Ne Nat wa da)
    (W : Wd es rn wn kw st inp outp trc) (hm : getL (Str.ofString "most_length") es = some (some (.int 5000 tm))) (hle : es.length ≤ 50)
    (h : ∀ h' tk' hh t nn' kw' okw' kvs', Fr h₀ L h' m → News h₀ L h' ((wa, instObj 111 da) :: (da, dictOf (putL (Str.ofString "keywords") hh (.str (Str.ofString "keywords") t) (.ref kw') es) nn') :: (kw', okw') :: rest) → okw'.IsDictOf (PySem.strKind prog w) kvs' → Kw kvs' 1 1 0 → (kw' == sysModules) = false →
      (∀ q ∈ (wa, instObj 111 da) :: (da, dictOf es nn) :: rest, q.1 < kw') → Q .none { s with heap := h', toks := tk' }) :
    wpAny (model prog w) (callerA.deeper env) (call (.ref 157) [.ref wa]) Q E s := by
  w_top off
  refine wpAny_call ?_
  refine' callS (binds := [(PySem.Str.ofString "world", Value.ref wa)]) [(wa, instObj 111 da), (da, dictOf es nn)] rest B F X N TT (Around.frames_deeper B.stack) hf hke hsub hrest hap ?k6 ?k7 ?k8 ?k9 ?kB ?_ ?c5 ?c2 ?c3 ?c4
  case k6 => k_is
  case k7 => k_is
  case k8 => k_room
  case k9 => exact BindsTo.of_eq rfl
  case c5 => decide
  case kB => exact locs rfl
  case c2 => exact rfl
  case c3 => exact rfl
  case c4 => exact rfl
  intro g' L' h' FG' F' N' B' X' T' l1 hg back
  clear hsub hap
  have hbe : ∀ q ∈ rest, @LT.lt Nat _ q.1 L' := fun q hq => Nat.lt_of_lt_of_le (Heap.lt_size (hg q hq)) F'.above
  clear hg
  k_lt l1
  (try dsimp only)
  try k_lift B'
  have w2 := W.kw
  try k_fold
  k_steps
  rename_i hvw _ _
  refine kta_items (knd := PySem.strKind _ _) (enc := PyData.str) rfl (by k_asm) (by k_asm) hvw (by k_mem) (by k_asm) (fun _ _ h => Value.isStrOf_shape h) rfl ?_
  clear hvw
  intro I lI
  k_lt lI
  refine itemsRest_inv (JB 12 prog w wa (fun o => [(_, _), (_, o), (wa, instObj 111 da), (da, _)]) _) ?step ?done _ _ _ ⟨rfl, _, _, rfl, by k_asm, _, rfl, Nat.le_of_ble_eq_true rfl, rfl⟩
  case step =>
    rintro a r m news ⟨hw, okw, kvs, rfl, hdk, ps, hx, hlen, hfin⟩ v h1 tk1 hIs F1
    cases ps with
    | nil => cases hx
    | cons q ps =>
      simp only [List.map_cons, List.cons.injEq] at hx
      obtain ⟨rfl, rfl⟩ := hx
      simp only [List.length_cons] at hlen
      obtain ⟨T1, t1, rfl, hT1⟩ := hIs
      ktu_objs
      try dsimp only [kyVal] at hT1
      try k_fold
      k_steps
      exact ⟨hw, _, stored kvs q.1 q.2, rfl, by assumption, ps, rfl, lenStep hlen, hfin⟩
  rintro m news ⟨hw, okw, kvs, rfl, hdk, ps, hx, hlen, hfin⟩ h1 tk1 F1 N1
  cases ps with
  | cons q ps => cases hx
  | nil => ?_
  clear hx
  simp only [List.foldl_nil] at hfin
  simp only [List.length_nil, Nat.add_zero] at hlen
  k_steps
  rename_i hvw _ _
  refine kta_items (knd := PySem.strKind _ _) (enc := PyData.str) rfl (by k_asm) (by k_asm) hvw (by k_mem) (by k_asm) (fun _ _ h => Value.isStrOf_shape h) rfl ?_
  clear hvw
  intro I lI
  k_lt lI
  refine itemsRest_inv (JB 19 prog w wa (fun o => [(_, _), (_, _), (_, o), (wa, instObj 111 da), (da, _)]) _) ?step2 ?done2 _ _ _ ⟨by assumption, _, kvs, rfl, by k_asm, _, rfl, Nat.add_le_add_right hlen 7, rfl⟩
  case step2 =>
    rintro a r m news ⟨hw, okw, kvs, rfl, hdk, ps, hx, hlen, hfin⟩ v h1 tk1 hIs F1
    cases ps with
    | nil => cases hx
    | cons q ps =>
      simp only [List.map_cons, List.cons.injEq] at hx
      obtain ⟨rfl, rfl⟩ := hx
      simp only [List.length_cons] at hlen
      obtain ⟨T1, t1, rfl, hT1⟩ := hIs
      ktu_objs
      try dsimp only [kyVal] at hT1
      try k_fold
      k_steps
      exact ⟨hw, _, stored kvs q.1 q.2, rfl, by assumption, ps, rfl, lenStep hlen, hfin⟩
  rintro m news ⟨hw, okw, kvs2, rfl, hdk, ps, hx, hlen2, hfin2⟩ h1 tk1 F1 N1
  cases ps with
  | cons q ps => cases hx
  | nil => ?_
  clear hx
  simp only [List.foldl_nil] at hfin2
  simp only [List.length_nil, Nat.add_zero] at hlen2
  k_steps
  refine h _ _ _ _ _ _ _ _ (by assumption) (fun q hq => back _ _ _ _ (by assumption) (by assumption) q (sub3 (by k_mem) (by k_mem) (by k_mem) q hq)) (by assumption) ⟨intIs_ex ?_, intIs_ex ?_, intIs_ex ?_, ?_⟩ (by assumption) ?_
  · rw [valueAt_stored, if_neg (by decide +kernel), hfin2, valueAt_foldl, hfin, valueAt_foldl]; rfl
  · rw [valueAt_stored, if_neg (by decide +kernel), hfin2, valueAt_foldl, hfin, valueAt_foldl]; rfl
  · rw [valueAt_stored, if_neg (by decide +kernel), hfin2, valueAt_foldl, hfin, valueAt_foldl]; rfl
  · exact Nat.le_trans (stored_length_le _ _ _) (Nat.le_trans (Nat.succ_le_succ hlen2) (by decide))
  · intro q hq
    simp only [List.mem_cons] at hq
    rcases hq with rfl | rfl | hq
    · exact ltN (by omega)
    · exact ltN (by omega)
    · exact Nat.lt_trans (hbe q hq) (by assumption)
end Mine
namespace Mine
/-- one entry taken out of a ledger -/
inductive Pick (d : Addr) (o : Obj) : List (Addr × Obj) → List (Addr × Obj) → Prop
  | head {r} : Pick d o ((d, o) :: r) r
  | tail {p r r'} : Pick d o r r' → Pick d o (p :: r) (p :: r')
theorem Pick.mem {d : Addr} {o : Obj} {l r : List (Addr × Obj)} (h : Pick d o l r) : (d, o) ∈ l := by
  induction h with
  | head => exact .head _
  | tail _ ih => exact .tail _ ih
theorem Pick.sub {d : Addr} {o : Obj} {l r : List (Addr × Obj)} (h : Pick d o l r) : ∀ q ∈ r, q ∈ l := by
  induction h with
  | head => exact fun q hq => .tail _ hq
  | tail _ ih =>
    intro q hq
    rcases List.mem_cons.mp hq with rfl | hq
    · exact .head _
    · exact .tail _ (ih q hq)
/-- no entry of l stands at one of the addresses ds -/
def Apart (ds : List Addr) (l : List (Addr × Obj)) : Prop := ∀ q ∈ l, ∀ d ∈ ds, q.1 ≠ d
theorem Apart.nil {ds : List Addr} : Apart ds [] := fun _ h => nomatch h
theorem Apart.cons {ds : List Addr} {p : Addr × Obj} {l : List (Addr × Obj)} (h : ∀ d ∈ ds, p.1 ≠ d) (r : Apart ds l) : Apart ds (p :: l) := fun q hq => by
  rcases List.mem_cons.mp hq with rfl | hq
  · exact h
  · exact r q hq
theorem Apart.of {ds : List Addr} {l sub : List (Addr × Obj)} (h : Apart ds l) (e : sub.map (·.1) = ds) : ∀ q ∈ l, ∀ r ∈ sub, q.1 ≠ r.1 := fun q hq r hr => h q hq r.1 (e ▸ List.mem_map_of_mem hr)
section
variable {prog : Program} {w : World} {s : Shared} {base h₀ : Heap} {outer : List Env} {L : Addr} {m mg mb : Str → Option Value} {env : Env} {news r1 r2 r3 r4 r5 r6 rest : List (Addr × Obj)} {p : Program} {loose : List Str} {mean : ExcName → Option Value}
    {Q : Value → Shared → Prop} {E : Value → Shared → Prop}
theorem next_c {feed cells : Addr} {vs : List Value} {ns : List Int} {tn many : Int} {tk tm : Tok} {n nc : Nat}
    (B : Below callerA base outer h₀) (F : Fr h₀ L s.heap m) (X : (hd.heap_39 w.params).In h₀) (N : News h₀ L s.heap news) (T : Top p loose mean mg mb h₀) (hf : env.frame = some L) (hke : env.scope.kind = .function)
    (P : Pick feed (listOf [Value.ref cells, Value.int tn tk].toArray n) news rest) (hcells : (cells, listOf vs.toArray nc) ∈ rest) (hi : IntsAre vs ns) (hlen : ns.length ≤ 30)
    (hap : Apart [feed] rest) (h0 : 0 ≤ tn) (h1 : tn ≤ 1000) (hm : 1 ≤ many) (hm2 : many ≤ 7)
    (h : ∀ h' r tr tk' tk2 n', 0 ≤ r → r < many → Fr h₀ L h' m → News h₀ L h' ((feed, listOf [Value.ref cells, Value.int (tn + 1) tk2].toArray n') :: rest) → Q (.int r tr) { s with heap := h', toks := tk' }) :
    wpAny (model prog w) (callerA.deeper env) (call (.ref 193) [.ref feed, .int many tm]) Q E s :=
  next_call rest B F X N T hf hke P.mem hcells hi hlen P.sub (fun q hq => hap q hq feed (.head _)) h0 h1 hm hm2 h
theorem begin_c {wa da rn wn kw st inp outp trc : Addr} {es : List DictEntry} {nn : Nat} {tm : Tok}
    (B : Below callerA base [] h₀) (F : Fr h₀ L s.heap m) (X : (hd.heap_39 w.params).In h₀) (N : News h₀ L s.heap news) (TT : Top p loose mean mg mb h₀) (hf : env.frame = some L) (hke : env.scope.kind = .function)
    (P1 : Pick wa (instObj 111 da) news r1) (P2 : Pick da (dictOf es nn) r1 rest) (hap : Apart [wa, da] rest) (n1 : @Ne Nat wa da)
    (W : Wd es rn wn kw st inp outp trc) (hm : getL (Str.ofString "most_length") es = some (some (.int 5000 tm))) (hle : es.length ≤ 50)
    (h : ∀ h' tk' hh t nn' kw' okw' kvs', Fr h₀ L h' m → News h₀ L h' ((wa, instObj 111 da) :: (da, dictOf (putL (Str.ofString "keywords") hh (.str (Str.ofString "keywords") t) (.ref kw') es) nn') :: (kw', okw') :: rest) → okw'.IsDictOf (PySem.strKind prog w) kvs' → Kw kvs' 1 1 0 → (kw' == sysModules) = false →
      (∀ q ∈ (wa, instObj 111 da) :: (da, dictOf es nn) :: rest, q.1 < kw') → Q .none { s with heap := h', toks := tk' }) :
    wpAny (model prog w) (callerA.deeper env) (call (.ref 157) [.ref wa]) Q E s :=
  begin_call rest B F X N TT hf hke (List.forall_mem_cons.mpr ⟨P1.mem, List.forall_mem_cons.mpr ⟨P1.sub _ P2.mem, List.forall_mem_nil _⟩⟩) (fun q hq => P1.sub _ (P2.sub _ hq)) (hap.of rfl) n1 W hm hle h
theorem due_c {books rows out : Addr} {kvs : List (Str × Value)} {ob : Obj} {vs : List Value} {xs : List Str} {nr : Nat} {I O T : Int} {c : Str → Cell} {name : Str} {t : Tok}
    (B : Below callerA base outer h₀) (F : Fr h₀ L s.heap m) (X : (hd.heap_39 w.params).In h₀) (N : News h₀ L s.heap news) (TT : Top p loose mean mg mb h₀) (hf : env.frame = some L) (hke : env.scope.kind = .function)
    (P1 : Pick books ob news r1) (P2 : Pick rows (listOf vs.toArray nr) r1 rest) (hap : Apart [books, rows] rest) (hne : @Ne Nat books rows)
    (hd : ob.IsDictOf (PySem.strKind prog w) kvs) (K : Bk kvs rows out I O T c) (hs : StrsAre vs xs) (hrow : ∀ x ∈ xs, isRow x) (hlen : xs.length ≤ 4) (hn : isName name)
    (h1 : ∀ h' tk', Fr h₀ L h' m → News h₀ L h' ((books, ob) :: (rows, listOf vs.toArray nr) :: rest) → isRead name → I ≠ 0 → xs = [] → Q .none { s with heap := h', toks := tk' })
    (h2 : ∀ h' tk' ob' kvs' vs' nr' x xs' y ty, Fr h₀ L h' m → News h₀ L h' ((books, ob') :: (rows, listOf (List.toArray vs') nr') :: rest) → isRead name → I ≠ 0 → xs = x :: xs' → StrsAre vs' xs' → ob'.IsDictOf (PySem.strKind prog w) kvs' →
      Bk kvs' rows out I O T (upd c name (.str y)) → y = (if T = 0 then x else cutT x) → Q (.str y ty) { s with heap := h', toks := tk' })
    (h3 : ∀ h' tk' v, Fr h₀ L h' m → News h₀ L h' ((books, ob) :: (rows, listOf vs.toArray nr) :: rest) → (¬ isRead name ∨ I = 0) → IsC v (c name) → Q v { s with heap := h', toks := tk' }) :
    wpAny (model prog w) (callerA.deeper env) (call (.ref 207) [.ref books, .str name t]) Q E s :=
  due_call rest B F X N TT hf hke P1.mem (P1.sub _ P2.mem) (fun q hq => P1.sub _ (P2.sub _ hq)) (fun q hq => ⟨hap q hq _ (.head _), hap q hq _ (.tail _ (.head _))⟩) hne hd K hs hrow hlen hn h1 h2 h3
theorem get_c {wa da rn wn kw st inp outp trc : Addr} {es : List DictEntry} {nn : Nat} {kvsR kvsK kvsS : List (Str × Value)} {orn okw ost : Obj} {vs : List Value} {xs : List Str} {ni k : Nat} {I O T : Int} {c : Str → Cell} {name : Str} {t : Tok}
    (B : Below callerA base outer h₀) (F : Fr h₀ L s.heap m) (X : (hd.heap_39 w.params).In h₀) (N : News h₀ L s.heap news) (TT : Top p loose mean mg mb h₀) (hf : env.frame = some L) (hke : env.scope.kind = .function)
    (P1 : Pick wa (instObj 111 da) news r1) (P2 : Pick da (dictOf es nn) r1 r2) (P3 : Pick rn orn r2 r3) (P4 : Pick kw okw r3 r4) (P5 : Pick st ost r4 r5) (P6 : Pick inp (listOf vs.toArray ni) r5 rest)
    (hap : Apart [wa, da, rn, kw, st, inp] rest)
    (n1 : @Ne Nat wa st) (n2 : @Ne Nat da st) (n3 : @Ne Nat rn st) (n4 : @Ne Nat kw st) (n5 : @Ne Nat inp st) (n6 : @Ne Nat wa inp) (n7 : @Ne Nat da inp) (n8 : @Ne Nat rn inp) (n9 : @Ne Nat kw inp)
    (lo1 : (rn == sysModules) = false) (lo2 : (kw == sysModules) = false) (lo3 : (st == sysModules) = false)
    (W : Wd es rn wn kw st inp outp trc) (hdR : orn.IsDictOf (PySem.strKind prog w) kvsR) (hR : ∀ n, isName n → isRead n → (valueAt kvsR n).isSome = true) (hR' : ∀ n, isName n → ¬ isRead n → (valueAt kvsR n).isSome = false)
    (hdK : okw.IsDictOf (PySem.strKind prog w) kvsK) (K : Kw kvsK I O T) (hdS : ost.IsDictOf (PySem.strKind prog w) kvsS) (S : Stt kvsS c k) (hk : k ≤ 50) (hs : StrsAre vs xs) (hrow : ∀ x ∈ xs, isRow x) (hlen : xs.length ≤ 4) (hn : isName name)
    (h1 : ∀ h' tk', Fr h₀ L h' m → News h₀ L h' ((wa, instObj 111 da) :: (da, dictOf es nn) :: (rn, orn) :: (kw, okw) :: (st, ost) :: (inp, listOf vs.toArray ni) :: rest) → isRead name → I ≠ 0 → xs = [] → Q .none { s with heap := h', toks := tk' })
    (h2 : ∀ h' tk' ost' kvs' vs' ni' x xs' y ty, Fr h₀ L h' m → News h₀ L h' ((wa, instObj 111 da) :: (da, dictOf es nn) :: (rn, orn) :: (kw, okw) :: (st, ost') :: (inp, listOf (List.toArray vs') ni') :: rest) → isRead name → I ≠ 0 → xs = x :: xs' → StrsAre vs' xs' → ost'.IsDictOf (PySem.strKind prog w) kvs' →
      Stt kvs' (upd c name (.str y)) (k + 1) → y = (if T = 0 then x else cutT x) → Q (.str y ty) { s with heap := h', toks := tk' })
    (h3 : ∀ h' tk' v, Fr h₀ L h' m → News h₀ L h' ((wa, instObj 111 da) :: (da, dictOf es nn) :: (rn, orn) :: (kw, okw) :: (st, ost) :: (inp, listOf vs.toArray ni) :: rest) → (¬ isRead name ∨ I = 0) → IsC v (c name) → Q v { s with heap := h', toks := tk' }) :
    wpAny (model prog w) (callerA.deeper env) (call (.ref 122) [.ref wa, .str name t]) Q E s :=
  get_call rest B F X N TT hf hke (by
    have a1 := P1.mem
    have a2 := P1.sub _ P2.mem
    have a3 := P1.sub _ (P2.sub _ P3.mem)
    have a4 := P1.sub _ (P2.sub _ (P3.sub _ P4.mem))
    have a5 := P1.sub _ (P2.sub _ (P3.sub _ (P4.sub _ P5.mem)))
    have a6 := P1.sub _ (P2.sub _ (P3.sub _ (P4.sub _ (P5.sub _ P6.mem))))
    intro q hq
    simp only [List.mem_cons, List.not_mem_nil, or_false] at hq
    rcases hq with rfl | rfl | rfl | rfl | rfl | rfl <;> assumption) (fun q hq => P1.sub _ (P2.sub _ (P3.sub _ (P4.sub _ (P5.sub _ (P6.sub _ hq)))))) (hap.of rfl) n1 n2 n3 n4 n5 n6 n7 n8 n9 lo1 lo2 lo3 W hdR hR hR' hdK K hdS S hk hs hrow hlen hn h1 h2 h3
theorem kw_c {wa da rn wn kw st inp outp trc : Addr} {es : List DictEntry} {nn : Nat} {kvsK : List (Str × Value)} {okw : Obj} {I O T J : Int} {name : Str} {t tj : Tok}
    (B : Below callerA base [] h₀) (F : Fr h₀ L s.heap m) (X : (hd.heap_39 w.params).In h₀) (N : News h₀ L s.heap news) (TT : Top p loose mean mg mb h₀) (hf : env.frame = some L) (hke : env.scope.kind = .function)
    (P1 : Pick wa (instObj 111 da) news r1) (P2 : Pick da (dictOf es nn) r1 r2) (P3 : Pick kw okw r2 rest)
    (hap : Apart [wa, da, kw] rest) (n1 : @Ne Nat wa kw) (n2 : @Ne Nat da kw) (lo2 : (kw == sysModules) = false) (W : Wd es rn wn kw st inp outp trc) 
    (hdK : okw.IsDictOf (PySem.strKind prog w) kvsK) (K : Kw kvsK I O T) (hn : isKey name)
    (h : ∀ h' tk' okw' kvs', Fr h₀ L h' m → News h₀ L h' ((wa, instObj 111 da) :: (da, dictOf es nn) :: (kw, okw') :: rest) → okw'.IsDictOf (PySem.strKind prog w) kvs' →
      (name = Str.ofString "INPUT" → Kw kvs' J O T) → (name = Str.ofString "OUTPUT" → Kw kvs' I J T) → (name = Str.ofString "TRIM" → Kw kvs' I O J) → Q .none { s with heap := h', toks := tk' }) :
    wpAny (model prog w) (callerA.deeper env) (call (.ref 178) [.ref wa, .str name t, .int J tj]) Q E s :=
  kw_call rest B F X N TT hf hke (by
    have a1 := P1.mem
    have a2 := P1.sub _ P2.mem
    have a3 := P1.sub _ (P2.sub _ P3.mem)
    intro q hq
    simp only [List.mem_cons, List.not_mem_nil, or_false] at hq
    rcases hq with rfl | rfl | rfl <;> assumption) (fun q hq => P1.sub _ (P2.sub _ (P3.sub _ hq))) (hap.of rfl) n1 n2 lo2 W hdK K hn h
theorem set_c {wa da rn wn kw st inp outp trc : Addr} {es : List DictEntry} {nn : Nat} {kvsW kvsK kvsS : List (Str × Value)} {own okw ost otr : Obj} {us : List Value} {ys : List Str} {no k : Nat} {I O T : Int} {c : Str → Cell} {name : Str} {t : Tok} {v : Value} {d : Cell}
    (B : Below callerA base [] h₀) (F : Fr h₀ L s.heap m) (X : (hd.heap_39 w.params).In h₀) (N : News h₀ L s.heap news) (TT : Top p loose mean mg mb h₀) (hf : env.frame = some L) (hke : env.scope.kind = .function)
    (P1 : Pick wa (instObj 111 da) news r1) (P2 : Pick da (dictOf es nn) r1 r2) (P3 : Pick wn own r2 r3) (P4 : Pick kw okw r3 r4) (P5 : Pick trc otr r4 r5) (P6 : Pick st ost r5 r6) (P7 : Pick outp (listOf us.toArray no) r6 rest)
    (hap : Apart [wa, da, wn, kw, trc, st, outp] rest)
    (n1 : @Ne Nat wa st) (n2 : @Ne Nat da st) (n3 : @Ne Nat wn st) (n4 : @Ne Nat kw st) (n5 : @Ne Nat trc st) (n5' : @Ne Nat outp st) (n6 : @Ne Nat wa outp) (n7 : @Ne Nat da outp) (n8 : @Ne Nat wn outp) (n9 : @Ne Nat kw outp) (n10 : @Ne Nat trc outp)
    (lo1 : (wn == sysModules) = false) (lo2 : (kw == sysModules) = false) (lo3 : (st == sysModules) = false) (lo4 : (trc == sysModules) = false)
    (W : Wd es rn wn kw st inp outp trc) (hdW : own.IsDictOf (PySem.strKind prog w) kvsW) (hW : ∀ n, isName n → isWrite n → (valueAt kvsW n).isSome = true) (hW' : ∀ n, isName n → ¬ isWrite n → (valueAt kvsW n).isSome = false) (hdT : otr.IsDictOf (PySem.strKind prog w) [])
    (hdK : okw.IsDictOf (PySem.strKind prog w) kvsK) (K : Kw kvsK I O T) (hdS : ost.IsDictOf (PySem.strKind prog w) kvsS) (S : Stt kvsS c k) (hk : k ≤ 50) (hs : StrsAre us ys) (hlen : ys.length ≤ 50) (hn : isName name) (hv : IsC v d) (hd : IsSet d)
    (hA : ∀ h' tk' ost' kvs' us' no', Fr h₀ L h' m → News h₀ L h' ((wa, instObj 111 da) :: (da, dictOf es nn) :: (wn, own) :: (kw, okw) :: (trc, otr) :: (st, ost') :: (outp, listOf (List.toArray us') no') :: rest) → isWrite name → O ≠ 0 → ost'.IsDictOf (PySem.strKind prog w) kvs' →
      Stt kvs' (upd c name d) (k + 1) → StrsAre us' (ys ++ [d.text]) → Q .none { s with heap := h', toks := tk' })
    (hB : ∀ h' tk' ost' kvs', Fr h₀ L h' m → News h₀ L h' ((wa, instObj 111 da) :: (da, dictOf es nn) :: (wn, own) :: (kw, okw) :: (trc, otr) :: (st, ost') :: (outp, listOf us.toArray no) :: rest) → (¬ isWrite name ∨ O = 0) → ost'.IsDictOf (PySem.strKind prog w) kvs' →
      Stt kvs' (upd c name d) (k + 1) → Q .none { s with heap := h', toks := tk' }) :
    wpAny (model prog w) (callerA.deeper env) (call (.ref 129) [.ref wa, .str name t, v]) Q E s :=
  set_call rest B F X N TT hf hke (by
    have a1 := P1.mem
    have a2 := P1.sub _ P2.mem
    have a3 := P1.sub _ (P2.sub _ P3.mem)
    have a4 := P1.sub _ (P2.sub _ (P3.sub _ P4.mem))
    have a5 := P1.sub _ (P2.sub _ (P3.sub _ (P4.sub _ P5.mem)))
    have a6 := P1.sub _ (P2.sub _ (P3.sub _ (P4.sub _ (P5.sub _ P6.mem))))
    have a7 := P1.sub _ (P2.sub _ (P3.sub _ (P4.sub _ (P5.sub _ (P6.sub _ P7.mem)))))
    intro q hq
    simp only [List.mem_cons, List.not_mem_nil, or_false] at hq
    rcases hq with rfl | rfl | rfl | rfl | rfl | rfl | rfl <;> assumption) (fun q hq => P1.sub _ (P2.sub _ (P3.sub _ (P4.sub _ (P5.sub _ (P6.sub _ (P7.sub _ hq))))))) (hap.of rfl) n1 n2 n3 n4 n5 n5' n6 n7 n8 n9 n10 lo1 lo2 lo3 lo4 W hdW hW hW' hdT hdK K hdS S hk hs hlen hn hv hd hA hB
end
end Mine
namespace Mine
theorem updF_upd {d : Addr} {o o' : Obj} {l : List (Addr × Obj)} {g : Obj → List (Addr × Obj)} (U : UpdF d o l g) : Upd d o o' l (g o') := by
  induction U with
  | head h => exact .head h
  | tail h _ ih => exact .tail h ih
theorem updF_mem {d : Addr} {o : Obj} {l : List (Addr × Obj)} {g : Obj → List (Addr × Obj)} (U : UpdF d o l g) : (d, o) ∈ l := by
  induction U with
  | head _ => exact .head _
  | tail _ _ ih => exact .tail _ ih
section
variable {prog : Program} {w : World} {A : Around} {s : Shared} {base h₀ : Heap} {L : Addr} {m mg mb : Str → Option Value} {env : Env} {news r1 rest : List (Addr × Obj)} {p : Program} {loose : List Str} {mean : ExcName → Option Value} {g : Obj → List (Addr × Obj)}
    {E : Value → Shared → Prop} {wa da rn wn kw st inp outp trc a : Addr} {es : List DictEntry} {nn : Nat} {tm : Tok}
theorem begin_d {Q : Value → Shared → Prop}
    (B : Below callerA base [] h₀) (F : Fr h₀ L s.heap m) (X : (hd.heap_39 w.params).In h₀) (N : News h₀ L s.heap news) (TT : Top p loose mean mg mb h₀) (hf : env.frame = some L) (hke : env.scope.kind = .function)
    (P1 : Pick wa (instObj 111 da) news r1) (P2 : Pick da (dictOf es nn) r1 rest) (hap : Apart [wa, da] rest) (n1 : @Ne Nat wa da)
    (W : Wd es rn wn kw st inp outp trc) (hm : getL (Str.ofString "most_length") es = some (some (.int 5000 tm))) (hle : es.length ≤ 50)
    (h : ∀ h' tk' es' nn' kw' okw' kvs', Fr h₀ L h' m → News h₀ L h' ((wa, instObj 111 da) :: (da, dictOf es' nn') :: (kw', okw') :: rest) → Wd es' rn wn kw' st inp outp trc → es'.length ≤ 51 → okw'.IsDictOf (PySem.strKind prog w) kvs' → Kw kvs' 1 1 0 → (kw' == sysModules) = false →
      (∀ q ∈ (wa, instObj 111 da) :: (da, dictOf es nn) :: rest, q.1 < kw') → Q .none { s with heap := h', toks := tk' }) :
    wpAny (model prog w) (callerA.deeper env) (call (.ref 157) [.ref wa]) Q E s :=
  begin_c B F X N TT hf hke P1 P2 hap n1 W hm hle fun h' tk' hh t nn' kw' okw' kvs' F' N' hd' K' lo' l' => h h' tk' _ nn' kw' okw' kvs' F' N' (Wd.setKw W) (Nat.le_trans putL_len (by omega)) hd' K' lo' l'
variable {Q : Unit → Shared → Prop}
theorem setInp_c (F : Fr h₀ L s.heap m) (X : (hd.heap_39 w.params).In h₀) (N : News h₀ L s.heap news) (h1 : (wa, instObj 111 da) ∈ news) (U : UpdF da (dictOf es nn) news g) (W : Wd es rn wn kw st inp outp trc) (hle : es.length ≤ 90)
    (h : ∀ h' es' n', Fr h₀ L h' m → News h₀ L h' (g (dictOf es' n')) → Wd es' rn wn kw st a outp trc → es'.length ≤ es.length + 1 → Q () { s with heap := h', toks := s.toks + 2 }) :
    wpAny (model prog w) A (setAttr (.ref wa) (Str.ofString "inputs") (.ref a)) Q E s := by
  refine' set_dict F X N (InstAt.of_news N h1 (updF_mem U)) rfl ?k5 ?k6 ?k7 ?k8 ?k9 rfl (updF_upd U) (Nat.le_trans putL_len (by omega)) fun h' F' N' => h h' _ _ F' N' (Wd.setInp W) putL_len
  case k5 => k_is
  case k6 => k_is
  case k7 => k_is
  case k8 => k_is
  case k9 => rw [W.inp]; rfl
theorem setRn_c (F : Fr h₀ L s.heap m) (X : (hd.heap_39 w.params).In h₀) (N : News h₀ L s.heap news) (h1 : (wa, instObj 111 da) ∈ news) (U : UpdF da (dictOf es nn) news g) (W : Wd es rn wn kw st inp outp trc) (hle : es.length ≤ 90)
    (h : ∀ h' es' n', Fr h₀ L h' m → News h₀ L h' (g (dictOf es' n')) → Wd es' a wn kw st inp outp trc → es'.length ≤ es.length + 1 → Q () { s with heap := h', toks := s.toks + 2 }) :
    wpAny (model prog w) A (setAttr (.ref wa) (Str.ofString "read_names") (.ref a)) Q E s := by
  refine' set_dict F X N (InstAt.of_news N h1 (updF_mem U)) rfl ?k5 ?k6 ?k7 ?k8 ?k9 rfl (updF_upd U) (Nat.le_trans putL_len (by omega)) fun h' F' N' => h h' _ _ F' N' (Wd.setRn W) putL_len
  case k5 => k_is
  case k6 => k_is
  case k7 => k_is
  case k8 => k_is
  case k9 => rw [W.rn]; rfl
theorem setWn_c (F : Fr h₀ L s.heap m) (X : (hd.heap_39 w.params).In h₀) (N : News h₀ L s.heap news) (h1 : (wa, instObj 111 da) ∈ news) (U : UpdF da (dictOf es nn) news g) (W : Wd es rn wn kw st inp outp trc) (hle : es.length ≤ 90)
    (h : ∀ h' es' n', Fr h₀ L h' m → News h₀ L h' (g (dictOf es' n')) → Wd es' rn a kw st inp outp trc → es'.length ≤ es.length + 1 → Q () { s with heap := h', toks := s.toks + 2 }) :
    wpAny (model prog w) A (setAttr (.ref wa) (Str.ofString "write_names") (.ref a)) Q E s := by
  refine' set_dict F X N (InstAt.of_news N h1 (updF_mem U)) rfl ?k5 ?k6 ?k7 ?k8 ?k9 rfl (updF_upd U) (Nat.le_trans putL_len (by omega)) fun h' F' N' => h h' _ _ F' N' (Wd.setWn W) putL_len
  case k5 => k_is
  case k6 => k_is
  case k7 => k_is
  case k8 => k_is
  case k9 => rw [W.wn]; rfl
end
end Mine
namespace Mine
def lawStmt : Stmt := match PySem.Challenge.pw_pf0368_01.main.body.getLast? with
  | some s => s
  | none => .Pass ⟨0, 0, 0, 0⟩
def lawBody : List Stmt := match lawStmt with
  | .FunctionDef _ _ b _ _ _ _ _ _ _ => b
  | _ => []
def lawScope : Scope := match lawStmt with
  | .FunctionDef _ _ _ _ _ _ s _ _ _ => s
  | _ => { kind := .function, names := [], isGenerator := false, isCoroutine := false, more := [] }
def turnBody : List Stmt := match lawBody.drop 7 with
  | .For _ _ b _ _ :: _ => b
  | _ => []
end Mine
namespace Mine
/-- two addresses that differ, out of omega's sight -/
structure Neq (a b : Nat) : Prop where
  out : a ≠ b
theorem Apart.c1 {d1 : Addr} {p : Addr × Obj} {l : List (Addr × Obj)} (h1 : @Ne Nat p.1 d1) (r : Apart [d1] l) : Apart [d1] (p :: l) := Apart.cons (fun d hd => by
  simp only [List.mem_cons, List.not_mem_nil, or_false] at hd
  subst hd; exact h1) r
theorem Apart.c2 {d1 d2 : Addr} {p : Addr × Obj} {l : List (Addr × Obj)} (h1 : @Ne Nat p.1 d1) (h2 : @Ne Nat p.1 d2) (r : Apart [d1, d2] l) : Apart [d1, d2] (p :: l) := Apart.cons (fun d hd => by
  simp only [List.mem_cons, List.not_mem_nil, or_false] at hd
  rcases hd with rfl | rfl
  · exact h1
  · exact h2) r
theorem Apart.c3 {d1 d2 d3 : Addr} {p : Addr × Obj} {l : List (Addr × Obj)} (h1 : @Ne Nat p.1 d1) (h2 : @Ne Nat p.1 d2) (h3 : @Ne Nat p.1 d3) (r : Apart [d1, d2, d3] l) : Apart [d1, d2, d3] (p :: l) := Apart.cons (fun d hd => by
  simp only [List.mem_cons, List.not_mem_nil, or_false] at hd
  rcases hd with rfl | rfl | rfl
  · exact h1
  · exact h2
  · exact h3) r
theorem Apart.c6 {d1 d2 d3 d4 d5 d6 : Addr} {p : Addr × Obj} {l : List (Addr × Obj)} (h1 : @Ne Nat p.1 d1) (h2 : @Ne Nat p.1 d2) (h3 : @Ne Nat p.1 d3) (h4 : @Ne Nat p.1 d4) (h5 : @Ne Nat p.1 d5) (h6 : @Ne Nat p.1 d6) (r : Apart [d1, d2, d3, d4, d5, d6] l) : Apart [d1, d2, d3, d4, d5, d6] (p :: l) := Apart.cons (fun d hd => by
  simp only [List.mem_cons, List.not_mem_nil, or_false] at hd
  rcases hd with rfl | rfl | rfl | rfl | rfl | rfl
  · exact h1
  · exact h2
  · exact h3
  · exact h4
  · exact h5
  · exact h6) r
theorem Apart.c7 {d1 d2 d3 d4 d5 d6 d7 : Addr} {p : Addr × Obj} {l : List (Addr × Obj)} (h1 : @Ne Nat p.1 d1) (h2 : @Ne Nat p.1 d2) (h3 : @Ne Nat p.1 d3) (h4 : @Ne Nat p.1 d4) (h5 : @Ne Nat p.1 d5) (h6 : @Ne Nat p.1 d6) (h7 : @Ne Nat p.1 d7) (r : Apart [d1, d2, d3, d4, d5, d6, d7] l) : Apart [d1, d2, d3, d4, d5, d6, d7] (p :: l) := Apart.cons (fun d hd => by
  simp only [List.mem_cons, List.not_mem_nil, or_false] at hd
  rcases hd with rfl | rfl | rfl | rfl | rfl | rfl | rfl
  · exact h1
  · exact h2
  · exact h3
  · exact h4
  · exact h5
  · exact h6
  · exact h7) r
/-- what holds between two turns of the law's loop -/
def TI (prog : Program) (w : World) (cells rows out : Addr) (k : Nat) (ofeed ost ooutp okw oinp orows obk oout : Obj) : Prop :=
  ∃ (I O T tn : Int) (c : Str → Cell) (xs zs : List Str) (kvsS kvsK kvsB : List (Str × Value)) (vs1 vs2 us us' : List Value) (t : Tok) (nf ni nr no no' : Nat),
    (ofeed = listOf [Value.ref cells, Value.int tn t].toArray nf ∧ 0 ≤ tn ∧ tn ≤ 20 + 3 * (k : Int)) ∧
    (ost.IsDictOf (PySem.strKind prog w) kvsS ∧ Stt kvsS c k) ∧ (okw.IsDictOf (PySem.strKind prog w) kvsK ∧ Kw kvsK I O T) ∧ (obk.IsDictOf (PySem.strKind prog w) kvsB ∧ Bk kvsB rows out I O T c) ∧
    (oinp = listOf vs1.toArray ni ∧ StrsAre vs1 xs) ∧ (orows = listOf vs2.toArray nr ∧ StrsAre vs2 xs) ∧ (∀ x ∈ xs, isRow x) ∧ xs.length ≤ 4 ∧
    (ooutp = listOf us.toArray no ∧ StrsAre us zs) ∧ (oout = listOf us'.toArray no' ∧ StrsAre us' zs) ∧ okStrs zs ∧ zs.length ≤ k ∧ (∀ n, isName n → (c n).ok)
theorem isName_at {r : Int} (h0 : 0 ≤ r) (h1 : r < 5) : isName ([Str.ofString "INPUT", Str.ofString "R", Str.ofString "OUTPUT", Str.ofString "W", Str.ofString "X"].getD r.toNat PySem.Str.empty) := by
  have h : r = 0 ∨ r = 1 ∨ r = 2 ∨ r = 3 ∨ r = 4 := by omega
  rcases h with e | e | e | e | e <;> subst e
  · exact .inl rfl
  · exact .inr (.inl rfl)
  · exact .inr (.inr (.inl rfl))
  · exact .inr (.inr (.inr (.inl rfl)))
  · exact .inr (.inr (.inr (.inr rfl)))
end Mine
namespace Mine
section
variable {prog : Program} {w : World} {A : Around} {E : Value → Shared → Prop} {s : Shared} {h₀ : Heap} {L l : Addr} {news : List (Addr × Obj)} {value slice : Expr} {n : Nat} {r : Int} {u : Tok} {Q : Value → Shared → Prop}
theorem name_item {t1 t2 t3 t4 t5 : Tok} (N : News h₀ L s.heap news) (hm : (l, listOf [Value.str (Str.ofString "INPUT") t1, Value.str (Str.ofString "R") t2, Value.str (Str.ofString "OUTPUT") t3, Value.str (Str.ofString "W") t4, Value.str (Str.ofString "X") t5].toArray n) ∈ news)
    (h0 : 0 ≤ r) (h1 : r < 5) (h : ∀ x t, isName x → Q (.str x t) s)
    (hs : subscripted slice false (.ref l) (.int r u) = operate [.ref l, .int r u] (getItem (.ref l) (.int r u))) :
    wpAny (model prog w) A (subscriptTail value slice (.ref l) (.int r u)) Q E s :=
  KTb.item_list (News.isList N hm) (ws := [Str.ofString "INPUT", Str.ofString "R", Str.ofString "OUTPUT", Str.ofString "W", Str.ofString "X"]) (StrsAre.cons _ _ (StrsAre.cons _ _ (StrsAre.cons _ _ (StrsAre.cons _ _ (StrsAre.cons _ _ StrsAre.nil))))) h0 h1 (by omega) (fun t' _ => h _ t' (isName_at h0 h1)) hs
theorem item_l {vs : List Value} {x : Value} (hl : s.heap.IsList l vs.toArray) (h0 : 0 ≤ r) (hfit : r < 2 ^ 63) (hx : vs[r.toNat]? = some x) (h : Q x s)
    (hs : subscripted slice false (.ref l) (.int r u) = operate [.ref l, .int r u] (getItem (.ref l) (.int r u))) :
    wpAny (model prog w) A (subscriptTail value slice (.ref l) (.int r u)) Q E s :=
  tail_any hl.typeIs slot_list_getitem.lookup (wpAny_getItem_list hl h0 hfit (by simpa using hx) h) hs
theorem key_item {t1 t2 t3 : Tok} (N : News h₀ L s.heap news) (hm : (l, listOf [Value.str (Str.ofString "&TRIM") t1, Value.str (Str.ofString "&INPUT") t2, Value.str (Str.ofString "&OUTPUT") t3].toArray n) ∈ news)
    (h0 : 0 ≤ r) (h1 : r < 3) (hT : ∀ t, Q (.str (Str.ofString "&TRIM") t) s) (hI : ∀ t, Q (.str (Str.ofString "&INPUT") t) s) (hO : ∀ t, Q (.str (Str.ofString "&OUTPUT") t) s)
    (hs : subscripted slice false (.ref l) (.int r u) = operate [.ref l, .int r u] (getItem (.ref l) (.int r u))) :
    wpAny (model prog w) A (subscriptTail value slice (.ref l) (.int r u)) Q E s := by
  have hl := News.isList N hm
  have h : r = 0 ∨ r = 1 ∨ r = 2 := by omega
  rcases h with e | e | e <;> subst e
  · exact item_l hl (by decide) (by decide) rfl (hT _) hs
  · exact item_l hl (by decide) (by decide) rfl (hI _) hs
  · exact item_l hl (by decide) (by decide) rfl (hO _) hs
theorem int3_item {a b c : Int} {t1 t2 t3 : Tok} (N : News h₀ L s.heap news) (hm : (l, listOf [Value.int a t1, Value.int b t2, Value.int c t3].toArray n) ∈ news)
    (h0 : 0 ≤ r) (h1 : r < 3) (h : ∀ J t, Q (.int J t) s)
    (hs : subscripted slice false (.ref l) (.int r u) = operate [.ref l, .int r u] (getItem (.ref l) (.int r u))) :
    wpAny (model prog w) A (subscriptTail value slice (.ref l) (.int r u)) Q E s := by
  have hl := News.isList N hm
  have h' : r = 0 ∨ r = 1 ∨ r = 2 := by omega
  rcases h' with e | e | e <;> subst e
  · exact item_l hl (by decide) (by decide) rfl (h _ _) hs
  · exact item_l hl (by decide) (by decide) rfl (h _ _) hs
  · exact item_l hl (by decide) (by decide) rfl (h _ _) hs
theorem val_item {k : Int} {t1 t2 t3 : Tok} (N : News h₀ L s.heap news) (hm : (l, listOf [Value.str (Str.ofString "a ") t1, Value.int k t2, Value.str (Str.ofString "") t3].toArray n) ∈ news)
    (hk0 : 0 ≤ k) (hk9 : k ≤ 9) (h0 : 0 ≤ r) (h1 : r < 3) (h : ∀ v d, IsC v d → IsSet d → Q v s)
    (hs : subscripted slice false (.ref l) (.int r u) = operate [.ref l, .int r u] (getItem (.ref l) (.int r u))) :
    wpAny (model prog w) A (subscriptTail value slice (.ref l) (.int r u)) Q E s := by
  have hl := News.isList N hm
  have h' : r = 0 ∨ r = 1 ∨ r = 2 := by omega
  rcases h' with e | e | e <;> subst e
  · exact item_l hl (by decide) (by decide) rfl (h _ _ (.str _ _) .a) hs
  · exact item_l hl (by decide) (by decide) rfl (h _ _ (.int _ _) (.n k hk0 hk9)) hs
  · exact item_l hl (by decide) (by decide) rfl (h _ _ (.str _ _) .e) hs
theorem ne_cell {v v' : Value} {d : Cell} (h1 : IsC v d) (h2 : IsC v' d) (h : Q (.bool false) s) : wpAny (model prog w) A (compareOp .NotEq v v') Q E s := by
  cases h1 with
  | str x t =>
    cases h2 with
    | str _ t' => exact PyProof.Rows.ne_str (by rw [bne_self_eq_false]; exact h)
  | int k t =>
    cases h2 with
    | int _ t' => exact PyProof.Rows.ne_int (by rw [bne_self_eq_false]; exact h)
theorem str_set {v : Value} {d : Cell} (h1 : IsC v d) (h2 : IsSet d) (h : ∀ t k, Q (.str d.text t) { s with toks := k }) : wpAny (model prog w) A (call (.type "str") [v]) Q E s := by
  cases h1 with
  | str x t => exact P.str_of_str (h t s.toks)
  | int k t =>
    cases h2 with
    | n _ h0 h9 =>
      refine str_of_int_fit (N := 10) ?_ (by decide) fun _ => h _ _
      rw [if_neg (by omega)]; omega
theorem in_write {x : Str} {t t1 t2 : Tok} (b : Bool) (N : News h₀ L s.heap news) (hm : (l, ({ cls := .type "tuple", data := .seq [Value.str (Str.ofString "OUTPUT") t1, Value.str (Str.ofString "W") t2].toArray n } : Obj)) ∈ news)
    (hb : b = true ↔ isWrite x) (h : Q (.bool b) s) : wpAny (model prog w) A (compareOp .In (.str x t) (.ref l)) Q E s := by
  refine in_tuple_strs (News.isTup N hm) (StrsAre.cons _ _ (StrsAre.cons _ _ StrsAre.nil)) ?_
  have e : ([Str.ofString "OUTPUT", Str.ofString "W"].any (· == x)) = b := by
    rw [Bool.eq_iff_iff, hb]
    simp only [List.any_cons, List.any_nil, Bool.or_false, Bool.or_eq_true, beq_iff_eq]
    constructor
    · rintro (e | e)
      · exact .inl e.symm
      · exact .inr e.symm
    · rintro (e | e)
      · exact .inl e.symm
      · exact .inr e.symm
  rw [e]; exact h
end
theorem okSet {d : Cell} (h : IsSet d) : d.ok := by
  cases h with
  | a => show PyData.strOk _ = true; decide +kernel
  | e => show PyData.strOk _ = true; decide +kernel
  | n k _ _ => trivial
theorem okText {d : Cell} (h : IsSet d) : PyData.strOk d.text = true := by
  cases h with
  | a => decide +kernel
  | e => decide +kernel
  | n k h0 h9 =>
    have h' : k = 0 ∨ k = 1 ∨ k = 2 ∨ k = 3 ∨ k = 4 ∨ k = 5 ∨ k = 6 ∨ k = 7 ∨ k = 8 ∨ k = 9 := by omega
    rcases h' with e | e | e | e | e | e | e | e | e | e <;> subst e <;> decide +kernel
theorem okCut {x y : Str} {T : Int} (h : isRow x) (e : y = if T = 0 then x else cutT x) : PyData.strOk y = true := by
  subst e
  rcases h with e | e | e | e <;> subst e <;> split <;> decide +kernel
theorem okUpd {c : Str → Cell} {n : Str} {d : Cell} (h : ∀ y, isName y → (c y).ok) (hd : d.ok) : ∀ y, isName y → (upd c n d y).ok := by
  intro y hy
  unfold upd
  split
  · exact hd
  · exact h y hy
theorem okSnoc {xs : List Str} {x : Str} (h : okStrs xs) (hx : PyData.strOk x = true) : okStrs (xs ++ [x]) := by
  intro y hy
  rcases List.mem_append.mp hy with hy | hy
  · exact h y hy
  · rw [List.mem_singleton.mp hy]; exact hx
section
variable {prog : Program} {w : World} {A : Around} {E : Value → Shared → Prop} {s : Shared} {h₀ : Heap} {L books rows out : Addr} {m : Str → Option Value} {news : List (Addr × Obj)} {g : Obj → List (Addr × Obj)} {value slice : Expr} {o : Obj} {kvs : List (Str × Value)} {I O T : Int} {c : Str → Cell} {t : Tok} {Q : Value → Shared → Prop}
theorem bk_rows (N : News h₀ L s.heap news) (hp : (books, o) ∈ news) (hd : o.IsDictOf (PySem.strKind prog w) kvs) (K : Bk kvs rows out I O T c) (h : ∀ k, Q (.ref rows) { s with toks := k })
    (hs : subscripted slice false (.ref books) (.str (Str.ofString "rows") t) = operate [.ref books, .str (Str.ofString "rows") t] (getItem (.ref books) (.str (Str.ofString "rows") t))) (hg : ∀ r, letTemporaryGo value (.ref books) r = pure ()) :
    wpAny (model prog w) A (subscriptTail value slice (.ref books) (.str (Str.ofString "rows") t)) Q E s := kda_item (knd := PySem.strKind _ _) N hp hd (strKind_is _ _ _ _) K.rows (h _) hs hg
theorem bk_out (N : News h₀ L s.heap news) (hp : (books, o) ∈ news) (hd : o.IsDictOf (PySem.strKind prog w) kvs) (K : Bk kvs rows out I O T c) (h : ∀ k, Q (.ref out) { s with toks := k })
    (hs : subscripted slice false (.ref books) (.str (Str.ofString "out") t) = operate [.ref books, .str (Str.ofString "out") t] (getItem (.ref books) (.str (Str.ofString "out") t))) (hg : ∀ r, letTemporaryGo value (.ref books) r = pure ()) :
    wpAny (model prog w) A (subscriptTail value slice (.ref books) (.str (Str.ofString "out") t)) Q E s := kda_item (knd := PySem.strKind _ _) N hp hd (strKind_is _ _ _ _) K.out (h _) hs hg
theorem bk_I (N : News h₀ L s.heap news) (hp : (books, o) ∈ news) (hd : o.IsDictOf (PySem.strKind prog w) kvs) (K : Bk kvs rows out I O T c) (h : ∀ k u, Q (.int I u) { s with toks := k })
    (hs : subscripted slice false (.ref books) (.str (Str.ofString "&INPUT") t) = operate [.ref books, .str (Str.ofString "&INPUT") t] (getItem (.ref books) (.str (Str.ofString "&INPUT") t))) (hg : ∀ r, letTemporaryGo value (.ref books) r = pure ()) :
    wpAny (model prog w) A (subscriptTail value slice (.ref books) (.str (Str.ofString "&INPUT") t)) Q E s := let ⟨u, q⟩ := K.inp; kda_item (knd := PySem.strKind _ _) N hp hd (strKind_is _ _ _ _) q (h _ u) hs hg
theorem bk_O (N : News h₀ L s.heap news) (hp : (books, o) ∈ news) (hd : o.IsDictOf (PySem.strKind prog w) kvs) (K : Bk kvs rows out I O T c) (h : ∀ k u, Q (.int O u) { s with toks := k })
    (hs : subscripted slice false (.ref books) (.str (Str.ofString "&OUTPUT") t) = operate [.ref books, .str (Str.ofString "&OUTPUT") t] (getItem (.ref books) (.str (Str.ofString "&OUTPUT") t))) (hg : ∀ r, letTemporaryGo value (.ref books) r = pure ()) :
    wpAny (model prog w) A (subscriptTail value slice (.ref books) (.str (Str.ofString "&OUTPUT") t)) Q E s := let ⟨u, q⟩ := K.outp; kda_item (knd := PySem.strKind _ _) N hp hd (strKind_is _ _ _ _) q (h _ u) hs hg
theorem bk_T (N : News h₀ L s.heap news) (hp : (books, o) ∈ news) (hd : o.IsDictOf (PySem.strKind prog w) kvs) (K : Bk kvs rows out I O T c) (h : ∀ k u, Q (.int T u) { s with toks := k })
    (hs : subscripted slice false (.ref books) (.str (Str.ofString "&TRIM") t) = operate [.ref books, .str (Str.ofString "&TRIM") t] (getItem (.ref books) (.str (Str.ofString "&TRIM") t))) (hg : ∀ r, letTemporaryGo value (.ref books) r = pure ()) :
    wpAny (model prog w) A (subscriptTail value slice (.ref books) (.str (Str.ofString "&TRIM") t)) Q E s := let ⟨u, q⟩ := K.trim; kda_item (knd := PySem.strKind _ _) N hp hd (strKind_is _ _ _ _) q (h _ u) hs hg
variable {QU : Unit → Shared → Prop} {J : Int} {tj : Tok} {v : Value} {d : Cell} {n : Str}
theorem bk_setI (F : Fr h₀ L s.heap m) (N : News h₀ L s.heap news) (U : UpdF books o news g) (hd : o.IsDictOf (PySem.strKind prog w) kvs) (K : Bk kvs rows out I O T c)
    (h : ∀ h' o' kvs' k, Fr h₀ L h' m → News h₀ L h' (g o') → o'.IsDictOf (PySem.strKind prog w) kvs' → Bk kvs' rows out J O T c → QU () { s with heap := h', toks := k }) : wpAny (model prog w) A (setItem (.ref books) (.str (Str.ofString "&INPUT") t) (.int J tj)) QU E s :=
  kda_set (knd := PySem.strKind _ _) F N U hd (strKind_is _ _ _ _) (by rw [sizeLine_eq]; exact Nat.le_trans K.len (by decide)) fun h' o' F' N' hd' => h h' o' _ _ F' N' hd' K.setI
theorem bk_setO (F : Fr h₀ L s.heap m) (N : News h₀ L s.heap news) (U : UpdF books o news g) (hd : o.IsDictOf (PySem.strKind prog w) kvs) (K : Bk kvs rows out I O T c)
    (h : ∀ h' o' kvs' k, Fr h₀ L h' m → News h₀ L h' (g o') → o'.IsDictOf (PySem.strKind prog w) kvs' → Bk kvs' rows out I J T c → QU () { s with heap := h', toks := k }) : wpAny (model prog w) A (setItem (.ref books) (.str (Str.ofString "&OUTPUT") t) (.int J tj)) QU E s :=
  kda_set (knd := PySem.strKind _ _) F N U hd (strKind_is _ _ _ _) (by rw [sizeLine_eq]; exact Nat.le_trans K.len (by decide)) fun h' o' F' N' hd' => h h' o' _ _ F' N' hd' K.setO
theorem bk_setT (F : Fr h₀ L s.heap m) (N : News h₀ L s.heap news) (U : UpdF books o news g) (hd : o.IsDictOf (PySem.strKind prog w) kvs) (K : Bk kvs rows out I O T c)
    (h : ∀ h' o' kvs' k, Fr h₀ L h' m → News h₀ L h' (g o') → o'.IsDictOf (PySem.strKind prog w) kvs' → Bk kvs' rows out I O J c → QU () { s with heap := h', toks := k }) : wpAny (model prog w) A (setItem (.ref books) (.str (Str.ofString "&TRIM") t) (.int J tj)) QU E s :=
  kda_set (knd := PySem.strKind _ _) F N U hd (strKind_is _ _ _ _) (by rw [sizeLine_eq]; exact Nat.le_trans K.len (by decide)) fun h' o' F' N' hd' => h h' o' _ _ F' N' hd' K.setT
theorem bk_set (F : Fr h₀ L s.heap m) (N : News h₀ L s.heap news) (U : UpdF books o news g) (hd : o.IsDictOf (PySem.strKind prog w) kvs) (K : Bk kvs rows out I O T c) (hn : isName n) (hv : IsC v d)
    (h : ∀ h' o' kvs' k, Fr h₀ L h' m → News h₀ L h' (g o') → o'.IsDictOf (PySem.strKind prog w) kvs' → Bk kvs' rows out I O T (upd c n d) → QU () { s with heap := h', toks := k }) : wpAny (model prog w) A (setItem (.ref books) (.str n t) v) QU E s :=
  kda_set (knd := PySem.strKind _ _) F N U hd (strKind_is _ _ _ _) (by rw [sizeLine_eq]; exact Nat.le_trans K.len (by decide)) fun h' o' F' N' hd' => h h' o' _ _ F' N' hd' (K.set hn hv)
end
theorem Stt.mono {kvs : List (Str × Value)} {c : Str → Cell} {k k' : Nat} (h : Stt kvs c k) (e : k ≤ k') : Stt kvs c k' := ⟨h.cell, Nat.le_trans h.len e⟩
theorem newsSub {h₀ h : Heap} {L : Addr} {l big : List (Addr × Obj)} (N : News h₀ L h big) (hs : ∀ q ∈ l, q ∈ big) : News h₀ L h l := fun q hq => N q (hs q hq)
theorem okTail {x : Str} {xs : List Str} (h : okStrs (x :: xs)) : okStrs xs := fun y hy => h y (.tail _ hy)
theorem TI.mk' {prog : Program} {w : World} {cells rows out : Addr} {k : Nat} {ost okw obk : Obj} {I O T tn : Int} {c : Str → Cell} {xs zs : List Str} {kvsS kvsK kvsB : List (Str × Value)} {vs1 vs2 us us' : List Value} {t : Tok} {nf ni nr no no' : Nat}
    (h1 : 0 ≤ tn) (h2 : tn ≤ 20 + 3 * (k : Int) + 3) (hdS : ost.IsDictOf (PySem.strKind prog w) kvsS) (S : Stt kvsS c (k + 1)) (hdK : okw.IsDictOf (PySem.strKind prog w) kvsK) (K : Kw kvsK I O T) (hdB : obk.IsDictOf (PySem.strKind prog w) kvsB) (KB : Bk kvsB rows out I O T c)
    (hs1 : StrsAre vs1 xs) (hs2 : StrsAre vs2 xs) (hrow : ∀ x ∈ xs, isRow x) (hxl : xs.length ≤ 4) (hu : StrsAre us zs) (hu' : StrsAre us' zs) (hz : okStrs zs) (hzl : zs.length ≤ k + 1) (hok : ∀ n, isName n → (c n).ok) :
    TI prog w cells rows out (k + 1) (listOf [Value.ref cells, Value.int tn t].toArray nf) ost (listOf us.toArray no) okw (listOf vs1.toArray ni) (listOf vs2.toArray nr) obk (listOf us'.toArray no') :=
  ⟨I, O, T, tn, c, xs, zs, kvsS, kvsK, kvsB, vs1, vs2, us, us', t, nf, ni, nr, no, no', ⟨rfl, h1, by push_cast; omega⟩, ⟨hdS, S⟩, ⟨hdK, K⟩, ⟨hdB, KB⟩, ⟨rfl, hs1⟩, ⟨rfl, hs2⟩, hrow, hxl, ⟨rfl, hu⟩, ⟨rfl, hu'⟩, hz, hzl, hok⟩
end Mine
namespace Mine
section
variable {prog : Program} {w : World} {s : Shared} {base h₀ : Heap} {outer : List Env} {L : Addr} {m mg mb : Str → Option Value} {env : Env} {news r1 r2 r3 r4 r5 r6 rest : List (Addr × Obj)} {p : Program} {loose : List Str} {mean : ExcName → Option Value}
    {Q : Value → Shared → Prop} {E : Value → Shared → Prop}
theorem get_1 {wa da rn wn kw st inp outp trc : Addr} {es : List DictEntry} {nn : Nat} {kvsR kvsK kvsS : List (Str × Value)} {orn okw ost : Obj} {vs : List Value} {ni k : Nat} {I O T : Int} {c : Str → Cell} {name : Str} {t : Tok}
    (B : Below callerA base outer h₀) (F : Fr h₀ L s.heap m) (X : (hd.heap_39 w.params).In h₀) (N : News h₀ L s.heap news) (TT : Top p loose mean mg mb h₀) (hf : env.frame = some L) (hke : env.scope.kind = .function)
    (P1 : Pick wa (instObj 111 da) news r1) (P2 : Pick da (dictOf es nn) r1 r2) (P3 : Pick rn orn r2 r3) (P4 : Pick kw okw r3 r4) (P5 : Pick st ost r4 r5) (P6 : Pick inp (listOf vs.toArray ni) r5 rest)
    (hap : Apart [wa, da, rn, kw, st, inp] rest)
    (n1 : @Ne Nat wa st) (n2 : @Ne Nat da st) (n3 : @Ne Nat rn st) (n4 : @Ne Nat kw st) (n5 : @Ne Nat inp st) (n6 : @Ne Nat wa inp) (n7 : @Ne Nat da inp) (n8 : @Ne Nat rn inp) (n9 : @Ne Nat kw inp)
    (lo1 : (rn == sysModules) = false) (lo2 : (kw == sysModules) = false) (lo3 : (st == sysModules) = false)
    (W : Wd es rn wn kw st inp outp trc) (hdR : orn.IsDictOf (PySem.strKind prog w) kvsR) (hR : ∀ n, isName n → isRead n → (valueAt kvsR n).isSome = true) (hR' : ∀ n, isName n → ¬ isRead n → (valueAt kvsR n).isSome = false)
    (hdK : okw.IsDictOf (PySem.strKind prog w) kvsK) (K : Kw kvsK I O T) (hdS : ost.IsDictOf (PySem.strKind prog w) kvsS) (S : Stt kvsS c k) (hk : k ≤ 50) (hs : StrsAre vs []) (hn : isName name)
    (hr : isRead name) (hI : I ≠ 0)
    (h : ∀ h' tk', Fr h₀ L h' m → News h₀ L h' ((wa, instObj 111 da) :: (da, dictOf es nn) :: (rn, orn) :: (kw, okw) :: (st, ost) :: (inp, listOf vs.toArray ni) :: rest) → Q .none { s with heap := h', toks := tk' }) :
    wpAny (model prog w) (callerA.deeper env) (call (.ref 122) [.ref wa, .str name t]) Q E s := by
  have hrow : ∀ x ∈ ([] : List Str), isRow x := fun _ hq => nomatch hq
  have hlen : ([] : List Str).length ≤ 4 := by decide
  exact get_c B F X N TT hf hke P1 P2 P3 P4 P5 P6 hap n1 n2 n3 n4 n5 n6 n7 n8 n9 lo1 lo2 lo3 W hdR hR hR' hdK K hdS S hk hs hrow hlen hn (fun h' tk' F' N' _ _ _ => h h' tk' F' N') (fun _ _ _ _ _ _ _ _ _ _ _ _ _ _ e => nomatch e) (fun _ _ _ _ _ q => q.elim (fun z => absurd hr z) (fun z => absurd z hI))
theorem get_2 {wa da rn wn kw st inp outp trc : Addr} {es : List DictEntry} {nn : Nat} {kvsR kvsK kvsS : List (Str × Value)} {orn okw ost : Obj} {vs : List Value} {x : Str} {xs : List Str} {ni k : Nat} {I O T : Int} {c : Str → Cell} {name : Str} {t : Tok}
    (B : Below callerA base outer h₀) (F : Fr h₀ L s.heap m) (X : (hd.heap_39 w.params).In h₀) (N : News h₀ L s.heap news) (TT : Top p loose mean mg mb h₀) (hf : env.frame = some L) (hke : env.scope.kind = .function)
    (P1 : Pick wa (instObj 111 da) news r1) (P2 : Pick da (dictOf es nn) r1 r2) (P3 : Pick rn orn r2 r3) (P4 : Pick kw okw r3 r4) (P5 : Pick st ost r4 r5) (P6 : Pick inp (listOf vs.toArray ni) r5 rest)
    (hap : Apart [wa, da, rn, kw, st, inp] rest)
    (n1 : @Ne Nat wa st) (n2 : @Ne Nat da st) (n3 : @Ne Nat rn st) (n4 : @Ne Nat kw st) (n5 : @Ne Nat inp st) (n6 : @Ne Nat wa inp) (n7 : @Ne Nat da inp) (n8 : @Ne Nat rn inp) (n9 : @Ne Nat kw inp)
    (lo1 : (rn == sysModules) = false) (lo2 : (kw == sysModules) = false) (lo3 : (st == sysModules) = false)
    (W : Wd es rn wn kw st inp outp trc) (hdR : orn.IsDictOf (PySem.strKind prog w) kvsR) (hR : ∀ n, isName n → isRead n → (valueAt kvsR n).isSome = true) (hR' : ∀ n, isName n → ¬ isRead n → (valueAt kvsR n).isSome = false)
    (hdK : okw.IsDictOf (PySem.strKind prog w) kvsK) (K : Kw kvsK I O T) (hdS : ost.IsDictOf (PySem.strKind prog w) kvsS) (S : Stt kvsS c k) (hk : k ≤ 50) (hs : StrsAre vs (x :: xs)) (hrow : ∀ y ∈ x :: xs, isRow y) (hlen : (x :: xs).length ≤ 4) (hn : isName name)
    (hr : isRead name) (hI : I ≠ 0)
    (h : ∀ h' tk' ost' kvs' vs' ni' y ty, Fr h₀ L h' m → News h₀ L h' ((wa, instObj 111 da) :: (da, dictOf es nn) :: (rn, orn) :: (kw, okw) :: (st, ost') :: (inp, listOf (List.toArray vs') ni') :: rest) → StrsAre vs' xs → ost'.IsDictOf (PySem.strKind prog w) kvs' →
      Stt kvs' (upd c name (.str y)) (k + 1) → y = (if T = 0 then x else cutT x) → Q (.str y ty) { s with heap := h', toks := tk' }) :
    wpAny (model prog w) (callerA.deeper env) (call (.ref 122) [.ref wa, .str name t]) Q E s := by
  exact get_c B F X N TT hf hke P1 P2 P3 P4 P5 P6 hap n1 n2 n3 n4 n5 n6 n7 n8 n9 lo1 lo2 lo3 W hdR hR hR' hdK K hdS S hk hs hrow hlen hn (fun _ _ _ _ _ _ e => nomatch e) (fun h' tk' ost' kvs' vs' ni' x xs' y ty F' N' _ _ e hs' hd' S' hy => by
    cases e
    exact h h' tk' ost' kvs' vs' ni' y ty F' N' hs' hd' S' hy) (fun _ _ _ _ _ q => q.elim (fun z => absurd hr z) (fun z => absurd z hI))
theorem get_3 {wa da rn wn kw st inp outp trc : Addr} {es : List DictEntry} {nn : Nat} {kvsR kvsK kvsS : List (Str × Value)} {orn okw ost : Obj} {vs : List Value} {xs : List Str} {ni k : Nat} {I O T : Int} {c : Str → Cell} {name : Str} {t : Tok}
    (B : Below callerA base outer h₀) (F : Fr h₀ L s.heap m) (X : (hd.heap_39 w.params).In h₀) (N : News h₀ L s.heap news) (TT : Top p loose mean mg mb h₀) (hf : env.frame = some L) (hke : env.scope.kind = .function)
    (P1 : Pick wa (instObj 111 da) news r1) (P2 : Pick da (dictOf es nn) r1 r2) (P3 : Pick rn orn r2 r3) (P4 : Pick kw okw r3 r4) (P5 : Pick st ost r4 r5) (P6 : Pick inp (listOf vs.toArray ni) r5 rest)
    (hap : Apart [wa, da, rn, kw, st, inp] rest)
    (n1 : @Ne Nat wa st) (n2 : @Ne Nat da st) (n3 : @Ne Nat rn st) (n4 : @Ne Nat kw st) (n5 : @Ne Nat inp st) (n6 : @Ne Nat wa inp) (n7 : @Ne Nat da inp) (n8 : @Ne Nat rn inp) (n9 : @Ne Nat kw inp)
    (lo1 : (rn == sysModules) = false) (lo2 : (kw == sysModules) = false) (lo3 : (st == sysModules) = false)
    (W : Wd es rn wn kw st inp outp trc) (hdR : orn.IsDictOf (PySem.strKind prog w) kvsR) (hR : ∀ n, isName n → isRead n → (valueAt kvsR n).isSome = true) (hR' : ∀ n, isName n → ¬ isRead n → (valueAt kvsR n).isSome = false)
    (hdK : okw.IsDictOf (PySem.strKind prog w) kvsK) (K : Kw kvsK I O T) (hdS : ost.IsDictOf (PySem.strKind prog w) kvsS) (S : Stt kvsS c k) (hk : k ≤ 50) (hs : StrsAre vs xs) (hrow : ∀ x ∈ xs, isRow x) (hlen : xs.length ≤ 4) (hn : isName name)
    (hr : ¬ isRead name ∨ I = 0)
    (h : ∀ h' tk' v, Fr h₀ L h' m → News h₀ L h' ((wa, instObj 111 da) :: (da, dictOf es nn) :: (rn, orn) :: (kw, okw) :: (st, ost) :: (inp, listOf vs.toArray ni) :: rest) → IsC v (c name) → Q v { s with heap := h', toks := tk' }) :
    wpAny (model prog w) (callerA.deeper env) (call (.ref 122) [.ref wa, .str name t]) Q E s := by
  exact get_c B F X N TT hf hke P1 P2 P3 P4 P5 P6 hap n1 n2 n3 n4 n5 n6 n7 n8 n9 lo1 lo2 lo3 W hdR hR hR' hdK K hdS S hk hs hrow hlen hn (fun _ _ _ _ r1 r2 _ => hr.elim (fun z => absurd r1 z) (fun z => absurd z r2)) (fun _ _ _ _ _ _ _ _ _ _ _ _ r1 r2 => hr.elim (fun z => absurd r1 z) (fun z => absurd z r2)) (fun h' tk' v F' N' _ hv => h h' tk' v F' N' hv)
theorem set_3 {wa da rn wn kw st inp outp trc : Addr} {es : List DictEntry} {nn : Nat} {kvsW kvsK kvsS : List (Str × Value)} {own okw ost otr : Obj} {us : List Value} {ys : List Str} {no k : Nat} {I O T : Int} {c : Str → Cell} {name : Str} {t : Tok} {v : Value} {d : Cell}
    (B : Below callerA base [] h₀) (F : Fr h₀ L s.heap m) (X : (hd.heap_39 w.params).In h₀) (N : News h₀ L s.heap news) (TT : Top p loose mean mg mb h₀) (hf : env.frame = some L) (hke : env.scope.kind = .function)
    (P1 : Pick wa (instObj 111 da) news r1) (P2 : Pick da (dictOf es nn) r1 r2) (P3 : Pick wn own r2 r3) (P4 : Pick kw okw r3 r4) (P5 : Pick trc otr r4 r5) (P6 : Pick st ost r5 r6) (P7 : Pick outp (listOf us.toArray no) r6 rest)
    (hap : Apart [wa, da, wn, kw, trc, st, outp] rest)
    (n1 : @Ne Nat wa st) (n2 : @Ne Nat da st) (n3 : @Ne Nat wn st) (n4 : @Ne Nat kw st) (n5 : @Ne Nat trc st) (n5' : @Ne Nat outp st) (n6 : @Ne Nat wa outp) (n7 : @Ne Nat da outp) (n8 : @Ne Nat wn outp) (n9 : @Ne Nat kw outp) (n10 : @Ne Nat trc outp)
    (lo1 : (wn == sysModules) = false) (lo2 : (kw == sysModules) = false) (lo3 : (st == sysModules) = false) (lo4 : (trc == sysModules) = false)
    (W : Wd es rn wn kw st inp outp trc) (hdW : own.IsDictOf (PySem.strKind prog w) kvsW) (hW : ∀ n, isName n → isWrite n → (valueAt kvsW n).isSome = true) (hW' : ∀ n, isName n → ¬ isWrite n → (valueAt kvsW n).isSome = false) (hdT : otr.IsDictOf (PySem.strKind prog w) [])
    (hdK : okw.IsDictOf (PySem.strKind prog w) kvsK) (K : Kw kvsK I O T) (hdS : ost.IsDictOf (PySem.strKind prog w) kvsS) (S : Stt kvsS c k) (hk : k ≤ 50) (hs : StrsAre us ys) (hlen : ys.length ≤ 50) (hn : isName name) (hv : IsC v d) (hd : IsSet d)
    (hA : ∀ h' tk' ost' kvs' us' no', Fr h₀ L h' m → News h₀ L h' ((wa, instObj 111 da) :: (da, dictOf es nn) :: (wn, own) :: (kw, okw) :: (trc, otr) :: (st, ost') :: (outp, listOf (List.toArray us') no') :: rest) → isWrite name → O ≠ 0 → ost'.IsDictOf (PySem.strKind prog w) kvs' →
      Stt kvs' (upd c name d) (k + 1) → StrsAre us' (ys ++ [d.text]) → Q .none { s with heap := h', toks := tk' })
    (hB : ∀ h' tk' ost' kvs', Fr h₀ L h' m → News h₀ L h' ((wa, instObj 111 da) :: (da, dictOf es nn) :: (wn, own) :: (kw, okw) :: (trc, otr) :: (st, ost') :: (outp, listOf us.toArray no) :: rest) → ¬ isWrite name → ost'.IsDictOf (PySem.strKind prog w) kvs' →
      Stt kvs' (upd c name d) (k + 1) → Q .none { s with heap := h', toks := tk' })
    (hC : ∀ h' tk' ost' kvs', Fr h₀ L h' m → News h₀ L h' ((wa, instObj 111 da) :: (da, dictOf es nn) :: (wn, own) :: (kw, okw) :: (trc, otr) :: (st, ost') :: (outp, listOf us.toArray no) :: rest) → isWrite name → O = 0 → ost'.IsDictOf (PySem.strKind prog w) kvs' →
      Stt kvs' (upd c name d) (k + 1) → Q .none { s with heap := h', toks := tk' }) :
    wpAny (model prog w) (callerA.deeper env) (call (.ref 129) [.ref wa, .str name t, v]) Q E s := by
  exact set_c B F X N TT hf hke P1 P2 P3 P4 P5 P6 P7 hap n1 n2 n3 n4 n5 n5' n6 n7 n8 n9 n10 lo1 lo2 lo3 lo4 W hdW hW hW' hdT hdK K hdS S hk hs hlen hn hv hd hA (fun h' tk' ost' kvs' F' N' q hd' S' => by
    by_cases e : isWrite name
    · exact hC h' tk' ost' kvs' F' N' e (q.elim (fun z => absurd e z) id) hd' S'
    · exact hB h' tk' ost' kvs' F' N' e hd' S')
end
end Mine
namespace Mine
local macro_rules | `(tactic| k_ne) => `(tactic| (refine neN ?_; (try dsimp only); first | (with_reducible exact Neq.out (by assumption)) | (with_reducible exact Ne.symm (Neq.out (by assumption))) | omega))
set_option maxHeartbeats 8000000 in
theorem turnTail {prog : Program} {w : World} {s : Shared} {base h₀ : Heap} {L fa : Addr} {cd : Value} {m mg mb : Str → Option Value} {p : Program} {loose : List Str} {mean : ExcName → Option Value}
    {Q : Flow → Shared → Prop} {da wa st outp trc rn wn kw inp rows books out : Addr} {es : List DictEntry} {nn k : Nat} {ob ow obk : Obj} {I O TT : Int} {c : Str → Cell} {xs zs : List Str} {kvsB : List (Str × Value)} {vs1 vs2 us us' : List Value} {ni nr no no' : Nat}
    (B : Below callerA base [] h₀) (F : Fr h₀ L s.heap m) (X : (hd.heap_39 w.params).In h₀) (T : Top p loose mean mg mb h₀)
    (N : News h₀ L s.heap [(wa, instObj 111 da), (da, dictOf es nn), (outp, listOf us.toArray no), (inp, listOf vs1.toArray ni), (rows, listOf vs2.toArray nr), (books, obk), (out, listOf us'.toArray no'), (L + 1 + 1 + 1, ob), (L + 1 + 1, ow)])
    (hob : ob.data = .cell (some (.ref books))) (how : ow.data = .cell (some (.ref wa)))
    (W : Wd es rn wn kw st inp outp trc) (hk : k ≤ 10)
    (hdB : obk.IsDictOf (PySem.strKind prog w) kvsB) (KB : Bk kvsB rows out I O TT c) (hs1 : StrsAre vs1 xs) (hs2 : StrsAre vs2 xs) (okx : okStrs xs) (hu : StrsAre us zs) (hu' : StrsAre us' zs) (hz : okStrs zs) (hxl : xs.length ≤ 4) (hzl : zs.length ≤ k)
    (hQ : ∀ tk, Q .next { s with toks := tk }) :
    wpAny (model prog w) (callerA.deeper (envOfC (Str.ofString "law") lawScope L fa cd)) (execs (turnBody.drop 2) (envOfC (Str.ofString "law") lawScope L fa cd)) Q (fun _ _ => False) s := by
  w_top off
  have eb : turnBody.drop 2 = turnBody.drop 2 := rfl
  conv at eb => rhs; whnf
  have es' : lawScope = lawScope := rfl
  conv at es' => rhs; whnf
  rw [eb, es']
  clear eb es'
  have wI := W.inp
  have wO := W.outp
  have hul : us.length ≤ sizeLine := by rw [sizeLine_eq, hu.length]; omega
  have hul' : us'.length ≤ sizeLine := by rw [sizeLine_eq, hu'.length]; omega
  try k_fold
  (repeat' (first | ((with_reducible show wpAny _ _ (call (Value.builtin "list.append") _) _ _ _); (k_here; (with_reducible show wpAny _ _ (call (Value.builtin _) [Value.ref _, _]) _ _ _); k_dflt (refine' appendL ?zqF ?zqN ?zqU ?zqz ?_; (case zqF => k_asm); (case zqN => k_asm); (case zqU => k_upd); (case zqz => assumption)); with_reducible intro h' F' N')) | ((with_reducible show wpAny _ _ (call (Value.type "str") _) _ _ _); (k_here; k_dflt (refine' str_set ?zqa ?zqb ?_; (case zqa => assumption); (case zqb => assumption)); with_reducible intro t' k')) | ((with_reducible show wpAny _ _ (getAttr (Value.ref _) _ _) _ _ _); (k_here; k_dflt (refine' get_own ?zqk1 ?zqk2 ?zqk3 ?zqk4 ?zqk5 ?zqk6 ?zqk7 ?zqk8 ?zqk9 ?_; (case zqk1 => k_asm); (case zqk2 => k_asm); (case zqk3 => k_inst); (case zqk4 => k_is); (case zqk5 => k_is); (case zqk6 => k_is); (case zqk7 => k_is); (case zqk8 => with_reducible assumption); (case zqk9 => k_handed); k_whole))) | ((with_reducible show wpAny _ _ (compareOp CmpOp.NotEq (Value.ref _) (Value.ref _)) _ _ _); (k_here; (with_reducible show wpAny _ _ (compareOp CmpOp.NotEq (Value.ref _) (Value.ref _)) _ _ _); k_dflt (refine' ne_strs false ?zqN ?zqa ?zqb ?zqc ?zqd ?zqe ?zqf ?zqu ?zqh ?_; (case zqN => k_asm); (case zqa => k_mem); (case zqb => k_mem); (case zqc => first | assumption | exact StrsAre.snoc (by assumption) _ _); (case zqd => first | assumption | exact StrsAre.snoc (by assumption) _ _); (case zqe => first | assumption | exact okTail (by assumption) | exact okSnoc (by assumption) (okText (by assumption))); (case zqf => first | assumption | exact okTail (by assumption) | exact okSnoc (by assumption) (okText (by assumption))); (case zqu => k_units); (case zqh => simp)))) | ((with_reducible show wpAny _ _ (compareOp CmpOp.NotEq (Value.str _ _) (Value.str _ _)) _ _ _); (k_here; refine ne_cell (by first | assumption | exact IsC.str _ _) (by first | assumption | exact IsC.str _ _) ?_)) | ((with_reducible show wpAny _ _ (compareOp CmpOp.NotEq _ _) _ _ _); (k_here; refine ne_cell (by first | assumption | exact IsC.str _ _) (by first | assumption | exact IsC.str _ _) ?_)) | ((with_reducible show wpAny _ _ (setItem (Value.ref _) (Value.str _ _) _) _ _ _); (k_here; (with_reducible show wpAny _ _ (setItem (Value.ref _) (Value.str (PySem.Str.ofString "&TRIM") _) _) _ _ _); k_dflt (refine' bk_setT ?zqF ?zqN ?zqU ?zqd ?zqK ?_; (case zqF => k_asm); (case zqN => k_asm); (case zqU => k_updF); (case zqd => k_asm); (case zqK => assumption)); with_reducible intro h' o' kvs' k' F' N' hd' K'; (try dsimp only at N'))) | ((with_reducible show wpAny _ _ (setItem (Value.ref _) (Value.str _ _) _) _ _ _); (k_here; (with_reducible show wpAny _ _ (setItem (Value.ref _) (Value.str (PySem.Str.ofString "&OUTPUT") _) _) _ _ _); k_dflt (refine' bk_setO ?zqF ?zqN ?zqU ?zqd ?zqK ?_; (case zqF => k_asm); (case zqN => k_asm); (case zqU => k_updF); (case zqd => k_asm); (case zqK => assumption)); with_reducible intro h' o' kvs' k' F' N' hd' K'; (try dsimp only at N'))) | ((with_reducible show wpAny _ _ (setItem (Value.ref _) (Value.str _ _) _) _ _ _); (k_here; (with_reducible show wpAny _ _ (setItem (Value.ref _) (Value.str (PySem.Str.ofString "&INPUT") _) _) _ _ _); k_dflt (refine' bk_setI ?zqF ?zqN ?zqU ?zqd ?zqK ?_; (case zqF => k_asm); (case zqN => k_asm); (case zqU => k_updF); (case zqd => k_asm); (case zqK => assumption)); with_reducible intro h' o' kvs' k' F' N' hd' K'; (try dsimp only at N'))) | ((with_reducible show wpAny _ _ (setItem (Value.ref _) (Value.str _ _) _) _ _ _); (k_here; k_dflt (refine' bk_set ?zqF ?zqN ?zqU ?zqd ?zqK ?zqn ?zqv ?_; (case zqF => k_asm); (case zqN => k_asm); (case zqU => k_updF); (case zqd => k_asm); (case zqK => assumption); (case zqn => assumption); (case zqv => assumption)); with_reducible intro h' o' kvs' k' F' N' hd' K'; (try dsimp only at N'))) | ((with_reducible show wpAny _ _ (subscriptTail _ _ (Value.ref _) _) _ _ _); (k_here; (with_reducible show wpAny _ _ (subscriptTail _ _ (Value.ref _) (Value.str (PySem.Str.ofString "&TRIM") _)) _ _ _); k_dflt (refine' bk_T ?zqN ?zqm ?zqd ?zqK ?_ ?zqhs ?zqhg; (case zqN => k_asm); (case zqm => k_mem); (case zqd => k_asm); (case zqK => assumption); (case zqhs => with_unfolding_all rfl); (case zqhg => with_reducible intro _; with_unfolding_all rfl)); with_reducible intro k' u')) | ((with_reducible show wpAny _ _ (subscriptTail _ _ (Value.ref _) _) _ _ _); (k_here; (with_reducible show wpAny _ _ (subscriptTail _ _ (Value.ref _) (Value.str (PySem.Str.ofString "&OUTPUT") _)) _ _ _); k_dflt (refine' bk_O ?zqN ?zqm ?zqd ?zqK ?_ ?zqhs ?zqhg; (case zqN => k_asm); (case zqm => k_mem); (case zqd => k_asm); (case zqK => assumption); (case zqhs => with_unfolding_all rfl); (case zqhg => with_reducible intro _; with_unfolding_all rfl)); with_reducible intro k' u')) | ((with_reducible show wpAny _ _ (subscriptTail _ _ (Value.ref _) _) _ _ _); (k_here; (with_reducible show wpAny _ _ (subscriptTail _ _ (Value.ref _) (Value.str (PySem.Str.ofString "&INPUT") _)) _ _ _); k_dflt (refine' bk_I ?zqN ?zqm ?zqd ?zqK ?_ ?zqhs ?zqhg; (case zqN => k_asm); (case zqm => k_mem); (case zqd => k_asm); (case zqK => assumption); (case zqhs => with_unfolding_all rfl); (case zqhg => with_reducible intro _; with_unfolding_all rfl)); with_reducible intro k' u')) | ((with_reducible show wpAny _ _ (subscriptTail _ _ (Value.ref _) _) _ _ _); (k_here; (with_reducible show wpAny _ _ (subscriptTail _ _ (Value.ref _) (Value.str (PySem.Str.ofString "out") _)) _ _ _); k_dflt (refine' bk_out ?zqN ?zqm ?zqd ?zqK ?_ ?zqhs ?zqhg; (case zqN => k_asm); (case zqm => k_mem); (case zqd => k_asm); (case zqK => assumption); (case zqhs => with_unfolding_all rfl); (case zqhg => with_reducible intro _; with_unfolding_all rfl)); with_reducible intro k')) | ((with_reducible show wpAny _ _ (subscriptTail _ _ (Value.ref _) _) _ _ _); (k_here; (with_reducible show wpAny _ _ (subscriptTail _ _ (Value.ref _) (Value.str (PySem.Str.ofString "rows") _)) _ _ _); k_dflt (refine' bk_rows ?zqN ?zqm ?zqd ?zqK ?_ ?zqhs ?zqhg; (case zqN => k_asm); (case zqm => k_mem); (case zqd => k_asm); (case zqK => assumption); (case zqhs => with_unfolding_all rfl); (case zqhg => with_reducible intro _; with_unfolding_all rfl)); with_reducible intro k')) | (k_unfold; (try dsimp only)) | (k_end; wrow_close) | walk1 | (dsimp only; walk1) | (leave1; walk_say "STEP leave1"; try dsimp only) | fail "no step"))
  all_goals exact hQ _
end Mine
namespace Mine
theorem turnEnd {prog : Program} {w : World} {s : Shared} {base h₀ hb : Heap} {kb : Nat} {L fa : Addr} {cd : Value} {m mg mb : Str → Option Value} {p : Program} {loose : List Str} {mean : ExcName → Option Value}
    {Q : Flow → Shared → Prop} {feed cells da wa st outp trc rn wn kw inp rows books out It : Addr} {es : List DictEntry} {nn nc k : Nat} {otr ob ow ofd own orn oI : Obj} {vs : List Value}
    {ost okw obk : Obj} {I O TT tn : Int} {c : Str → Cell} {xs zs : List Str} {kvsS kvsK kvsB : List (Str × Value)} {vs1 vs2 us us' : List Value} {t : Tok} {nf ni nr no no' : Nat}
    (hQ : ∀ h' tk m' ofeed ost ooutp okw oinp orows obk oout, Fr h₀ L h' m' → News h₀ L h' [(It, oI), (wa, instObj 111 da), (da, dictOf es nn), (feed, ofeed), (cells, listOf vs.toArray nc), (st, ost), (outp, ooutp), (trc, otr), (kw, okw), (rn, orn), (wn, own), (inp, oinp), (rows, orows), (books, obk), (out, oout), (L + 1 + 1 + 1, ob), (L + 1 + 1, ow), (L + 1, ofd)] →
      TI prog w cells rows out (k + 1) ofeed ost ooutp okw oinp orows obk oout → Q .next { s with heap := h', toks := tk })
    (B : Below callerA base [] h₀) (F : Fr h₀ L hb m) (X : (hd.heap_39 w.params).In h₀) (T : Top p loose mean mg mb h₀)
    (N : News h₀ L hb [(It, oI), (wa, instObj 111 da), (da, dictOf es nn), (feed, listOf [Value.ref cells, Value.int tn t].toArray nf), (cells, listOf vs.toArray nc), (st, ost), (outp, listOf us.toArray no), (trc, otr), (kw, okw), (rn, orn), (wn, own), (inp, listOf vs1.toArray ni), (rows, listOf vs2.toArray nr), (books, obk), (out, listOf us'.toArray no'), (L + 1 + 1 + 1, ob), (L + 1 + 1, ow), (L + 1, ofd)])
    (hob : ob.data = .cell (some (.ref books))) (how : ow.data = .cell (some (.ref wa))) (W : Wd es rn wn kw st inp outp trc) (hk : k ≤ 9)
    (h1 : 0 ≤ tn) (h2 : tn ≤ 20 + 3 * (k : Int) + 3) (hdS : ost.IsDictOf (PySem.strKind prog w) kvsS) (S : Stt kvsS c (k + 1)) (hdB : obk.IsDictOf (PySem.strKind prog w) kvsB) (KB : Bk kvsB rows out I O TT c) (hdK : okw.IsDictOf (PySem.strKind prog w) kvsK) (K : Kw kvsK I O TT)
    (hs1 : StrsAre vs1 xs) (hs2 : StrsAre vs2 xs) (hrow : ∀ x ∈ xs, isRow x) (hxl : xs.length ≤ 4) (hu : StrsAre us zs) (hu' : StrsAre us' zs) (hz : okStrs zs) (hzl : zs.length ≤ k + 1) (hok : ∀ n, isName n → (c n).ok) :
    wpAny (model prog w) (callerA.deeper (envOfC (Str.ofString "law") lawScope L fa cd)) (execs (turnBody.drop 2) (envOfC (Str.ofString "law") lawScope L fa cd)) Q (fun _ _ => False) { s with heap := hb, toks := kb } := by
  refine turnTail (k := k + 1) (da := da) (nn := nn) (ni := ni) (nr := nr) (no := no) (no' := no') B F X T (newsSub N ?_) hob how W (Nat.succ_le_succ hk) hdB KB hs1 hs2 (rowsOk hrow) hu hu' hz hxl hzl ?_
  · intro q hq
    simp only [List.mem_cons, List.not_mem_nil, or_false] at hq ⊢
    rcases hq with rfl | rfl | rfl | rfl | rfl | rfl | rfl | rfl | rfl <;> simp
  · intro tk
    exact hQ hb tk m _ _ _ _ _ _ _ _ F N (TI.mk' h1 h2 hdS S hdK K hdB KB hs1 hs2 hrow hxl hu hu' hz hzl hok)
end Mine
namespace Mine
local macro_rules | `(tactic| k_ne) => `(tactic| (refine neN ?_; (try dsimp only); first
  | (with_reducible exact Neq.out (by assumption)) | (with_reducible exact Ne.symm (Neq.out (by assumption)))
  | (refine Srt.ne (srtL := [_, _, _, _, _, _, _, _, _, _, _, _, _, _, _, _, _]) (by assumption) ?_; (repeat (first | (with_reducible refine Two.head ?_; (repeat (first | with_reducible exact List.mem_cons_self | with_reducible apply List.mem_cons_of_mem)); done) | with_reducible apply Two.tail)); done) | (refine Srt.ne' (srtL := [_, _, _, _, _, _, _, _, _, _, _, _, _, _, _, _, _]) (by assumption) ?_; (repeat (first | (with_reducible refine Two.head ?_; (repeat (first | with_reducible exact List.mem_cons_self | with_reducible apply List.mem_cons_of_mem)); done) | with_reducible apply Two.tail)); done)
  | (refine newNe (by assumption) ?_; (repeat (first | with_reducible exact InA.head | with_reducible apply InA.tail)); done) | (refine newNe' (by assumption) ?_; (repeat (first | with_reducible exact InA.head | with_reducible apply InA.tail)); done) | omega))
set_option maxHeartbeats 8000000 in
theorem turn1 {prog : Program} {w : World} {s : Shared} {base h₀ : Heap} {L fa : Addr} {cd : Value} {m mg mb : Str → Option Value} {p : Program} {loose : List Str} {mean : ExcName → Option Value}
    {Q : Flow → Shared → Prop} {feed cells da wa st outp trc rn wn kw inp rows books out It : Addr} {es : List DictEntry} {nn nc k : Nat} {tj : Tok} {otr ob ow ofd own orn oI ofeed ost ooutp okw oinp orows obk oout : Obj} {vs : List Value} {ns : List Int} {kvsW kvsR : List (Str × Value)}
    (B : Below callerA base [] h₀) (F : Fr h₀ L s.heap (fun y => if y = Str.ofString "turn" then some (.int (0 + (k : Int)) tj) else m y)) (X : (hd.heap_39 w.params).In h₀) (T : Top p loose mean mg mb h₀)
    (N : News h₀ L s.heap [(It, oI), (wa, instObj 111 da), (da, dictOf es nn), (feed, ofeed), (cells, listOf vs.toArray nc), (st, ost), (outp, ooutp), (trc, otr), (kw, okw), (rn, orn), (wn, own), (inp, oinp), (rows, orows), (books, obk), (out, oout), (L + 1 + 1 + 1, ob), (L + 1 + 1, ow), (L + 1, ofd)])
    (hi : IntsAre vs ns) (hlen : ns.length ≤ 30) (hob : ob.data = .cell (some (.ref books))) (how : ow.data = .cell (some (.ref wa))) (hof : ofd.data = .cell (some (.ref feed)))
    (hdT : otr.IsDictOf (PySem.strKind prog w) []) (loS : (st == sysModules) = false) (loT : (trc == sysModules) = false)
    (hdW : own.IsDictOf (PySem.strKind prog w) kvsW) (hW : ∀ n, isName n → isWrite n → (valueAt kvsW n).isSome = true) (hW' : ∀ n, isName n → ¬ isWrite n → (valueAt kvsW n).isSome = false) (loW : (wn == sysModules) = false)
    (hdR : orn.IsDictOf (PySem.strKind prog w) kvsR) (hR : ∀ n, isName n → isRead n → (valueAt kvsR n).isSome = true) (hR' : ∀ n, isName n → ¬ isRead n → (valueAt kvsR n).isSome = false) (loR : (rn == sysModules) = false)
    (loK : (kw == sysModules) = false) (loB : (books == sysModules) = false) (W : Wd es rn wn kw st inp outp trc) (hk : k ≤ 9)
    (o1 : @LT.lt Nat _ (L + 1 + 1 + 1) cells) (o2 : @LT.lt Nat _ cells feed) (o3 : @LT.lt Nat _ feed da) (o4 : @LT.lt Nat _ da wa) (o5 : @LT.lt Nat _ wa st) (o6 : @LT.lt Nat _ st outp) (o7 : @LT.lt Nat _ outp trc) (o8 : @LT.lt Nat _ trc kw) (o9 : @LT.lt Nat _ kw inp) (o10 : @LT.lt Nat _ inp rn) (o11 : @LT.lt Nat _ rn wn) (o12 : @LT.lt Nat _ rows inp) (o13 : @LT.lt Nat _ wn books) (o14 : @LT.lt Nat _ books out) (o15 : @LT.lt Nat _ out It)
    (r1 : Neq rows (L + 1)) (r2 : Neq rows (L + 1 + 1)) (r3 : Neq rows (L + 1 + 1 + 1)) (r4 : Neq rows cells) (r5 : Neq rows feed) (r6 : Neq rows da) (r7 : Neq rows wa) (r8 : Neq rows st) (r9 : Neq rows outp) (r10 : Neq rows trc) (r11 : Neq rows kw)
    (inv : TI prog w cells rows out k ofeed ost ooutp okw oinp orows obk oout)
    (hQ : ∀ h' tk m' ofeed ost ooutp okw oinp orows obk oout, Fr h₀ L h' m' → News h₀ L h' [(It, oI), (wa, instObj 111 da), (da, dictOf es nn), (feed, ofeed), (cells, listOf vs.toArray nc), (st, ost), (outp, ooutp), (trc, otr), (kw, okw), (rn, orn), (wn, own), (inp, oinp), (rows, orows), (books, obk), (out, oout), (L + 1 + 1 + 1, ob), (L + 1 + 1, ow), (L + 1, ofd)] →
      TI prog w cells rows out (k + 1) ofeed ost ooutp okw oinp orows obk oout → Q .next { s with heap := h', toks := tk }) :
    wpAny (model prog w) (callerA.deeper (envOfC (Str.ofString "law") lawScope L fa cd)) (execs turnBody (envOfC (Str.ofString "law") lawScope L fa cd)) Q (fun _ _ => False) s := by
  w_top off
  have eb : turnBody = turnBody := rfl
  conv at eb => rhs; whnf
  have es' : lawScope = lawScope := rfl
  conv at es' => rhs; whnf
  rw [eb, es']
  clear eb es'
  have srt : Srt [It, out, books, wn, rn, inp, kw, trc, outp, st, wa, da, feed, cells, L + 1 + 1 + 1, L + 1 + 1, L + 1] := ⟨o15, o14, o13, o11, o10, o9, o8, o7, o6, o5, o4, o3, o2, o1, Nat.lt_succ_self _, Nat.lt_succ_self _, trivial⟩
  have r12 : Neq rows inp := ⟨Nat.ne_of_lt o12⟩
  have r13 : Neq rows rn := ⟨Nat.ne_of_lt (Nat.lt_trans o12 o10)⟩
  have r14 : Neq rows wn := ⟨Nat.ne_of_lt (Nat.lt_trans (Nat.lt_trans o12 o10) o11)⟩
  have r15 : Neq rows books := ⟨Nat.ne_of_lt (Nat.lt_trans (Nat.lt_trans (Nat.lt_trans o12 o10) o11) o13)⟩
  have r16 : Neq rows out := ⟨Nat.ne_of_lt (Nat.lt_trans (Nat.lt_trans (Nat.lt_trans (Nat.lt_trans o12 o10) o11) o13) o14)⟩
  have r17 : Neq rows It := ⟨Nat.ne_of_lt (Nat.lt_trans (Nat.lt_trans (Nat.lt_trans (Nat.lt_trans (Nat.lt_trans o12 o10) o11) o13) o14) o15)⟩
  clear o1 o2 o3 o4 o5 o6 o7 o8 o9 o10 o11 o12 o13 o14 o15
  obtain ⟨I, O, TT, tn, c, xs, zs, kvsS, kvsK, kvsB, vs1, vs2, us, us', t, nf, ni, nr, no, no', ⟨rfl, ht0, ht1⟩, ⟨hdS, S⟩, ⟨hdK, K⟩, ⟨hdB, KB⟩, ⟨rfl, hs1⟩, ⟨rfl, hs2⟩, hrow, hxl, ⟨rfl, hu⟩, ⟨rfl, hu'⟩, hz, hzl, hok⟩ := inv
  have wI := W.inp
  have wO := W.outp
  have okx := rowsOk hrow
  have hul : us.length ≤ sizeLine := by rw [sizeLine_eq, hu.length]; omega
  have hul' : us'.length ≤ sizeLine := by rw [sizeLine_eq, hu'.length]; omega
  try k_fold
  (repeat' (first | ((with_reducible show wpAny _ _ (execs (_ :: _) _) _ _ _); (k_here; (with_reducible show wpAny _ _ (execs (Stmt.If (Expr.BoolOp BoolOp.Or _ _) _ _ _ :: _) _) _ _ _); refine stopHere ?_)) | ((with_reducible show wpAny _ _ (call (Value.builtin "list.append") _) _ _ _); (k_here; (with_reducible show wpAny _ _ (call (Value.builtin _) [Value.ref _, _]) _ _ _); k_dflt (refine' appendL ?zqF ?zqN ?zqU ?zqz ?_; (case zqF => k_asm); (case zqN => k_asm); (case zqU => k_upd); (case zqz => assumption)); with_reducible intro h' F' N')) | ((with_reducible show wpAny _ _ (compareOp CmpOp.In (Value.str _ _) (Value.ref _)) _ _ _); (k_here; k_dflt (first   | (refine' in_write true ?zqN ?zqm ?zqb ?_; (case zqN => k_asm); (case zqm => k_mem); (case zqb => exact ⟨fun _ => by assumption, fun _ => rfl⟩))   | (refine' in_write false ?zqN ?zqm ?zqb ?_; (case zqN => k_asm); (case zqm => k_mem); (case zqb => exact ⟨fun z => absurd z Bool.false_ne_true, fun z => absurd z (by assumption)⟩))))) | ((with_reducible show wpAny _ _ (call (Value.type "str") _) _ _ _); (k_here; k_dflt (refine' str_set ?zqa ?zqb ?_; (case zqa => assumption); (case zqb => assumption)); with_reducible intro t' k')) | ((with_reducible show wpAny _ _ (getAttr (Value.ref _) _ _) _ _ _); (k_here; k_dflt (refine' get_own ?zqk1 ?zqk2 ?zqk3 ?zqk4 ?zqk5 ?zqk6 ?zqk7 ?zqk8 ?zqk9 ?_; (case zqk1 => k_asm); (case zqk2 => k_asm); (case zqk3 => k_inst); (case zqk4 => k_is); (case zqk5 => k_is); (case zqk6 => k_is); (case zqk7 => k_is); (case zqk8 => with_reducible assumption); (case zqk9 => k_handed); k_whole))) | ((with_reducible show wpAny _ _ (compareOp CmpOp.NotEq (Value.str _ _) (Value.str _ _)) _ _ _); (k_here; refine ne_cell (by first | assumption | exact IsC.str _ _) (by first | assumption | exact IsC.str _ _) ?_)) | ((with_reducible show wpAny _ _ (compareOp CmpOp.NotEq _ _) _ _ _); (k_here; refine ne_cell (by first | assumption | exact IsC.str _ _) (by first | assumption | exact IsC.str _ _) ?_)) | ((with_reducible show wpAny _ _ (setItem (Value.ref _) (Value.str _ _) _) _ _ _); (k_here; (with_reducible show wpAny _ _ (setItem (Value.ref _) (Value.str (PySem.Str.ofString "&TRIM") _) _) _ _ _); k_dflt (refine' bk_setT ?zqF ?zqN ?zqU ?zqd ?zqK ?_; (case zqF => k_asm); (case zqN => k_asm); (case zqU => k_updF); (case zqd => k_asm); (case zqK => assumption)); with_reducible intro h' o' kvs' k' F' N' hd' K'; (try dsimp only at N'))) | ((with_reducible show wpAny _ _ (setItem (Value.ref _) (Value.str _ _) _) _ _ _); (k_here; (with_reducible show wpAny _ _ (setItem (Value.ref _) (Value.str (PySem.Str.ofString "&OUTPUT") _) _) _ _ _); k_dflt (refine' bk_setO ?zqF ?zqN ?zqU ?zqd ?zqK ?_; (case zqF => k_asm); (case zqN => k_asm); (case zqU => k_updF); (case zqd => k_asm); (case zqK => assumption)); with_reducible intro h' o' kvs' k' F' N' hd' K'; (try dsimp only at N'))) | ((with_reducible show wpAny _ _ (setItem (Value.ref _) (Value.str _ _) _) _ _ _); (k_here; (with_reducible show wpAny _ _ (setItem (Value.ref _) (Value.str (PySem.Str.ofString "&INPUT") _) _) _ _ _); k_dflt (refine' bk_setI ?zqF ?zqN ?zqU ?zqd ?zqK ?_; (case zqF => k_asm); (case zqN => k_asm); (case zqU => k_updF); (case zqd => k_asm); (case zqK => assumption)); with_reducible intro h' o' kvs' k' F' N' hd' K'; (try dsimp only at N'))) | ((with_reducible show wpAny _ _ (setItem (Value.ref _) (Value.str _ _) _) _ _ _); (k_here; k_dflt (refine' bk_set ?zqF ?zqN ?zqU ?zqd ?zqK ?zqn ?zqv ?_; (case zqF => k_asm); (case zqN => k_asm); (case zqU => k_updF); (case zqd => k_asm); (case zqK => assumption); (case zqn => assumption); (case zqv => assumption)); with_reducible intro h' o' kvs' k' F' N' hd' K'; (try dsimp only at N'))) | ((with_reducible show wpAny _ _ (subscriptTail _ _ (Value.ref _) _) _ _ _); (k_here; (with_reducible show wpAny _ _ (subscriptTail _ _ (Value.ref _) (Value.str (PySem.Str.ofString "&TRIM") _)) _ _ _); k_dflt (refine' bk_T ?zqN ?zqm ?zqd ?zqK ?_ ?zqhs ?zqhg; (case zqN => k_asm); (case zqm => k_mem); (case zqd => k_asm); (case zqK => assumption); (case zqhs => with_unfolding_all rfl); (case zqhg => with_reducible intro _; with_unfolding_all rfl)); with_reducible intro k' u')) | ((with_reducible show wpAny _ _ (subscriptTail _ _ (Value.ref _) _) _ _ _); (k_here; (with_reducible show wpAny _ _ (subscriptTail _ _ (Value.ref _) (Value.str (PySem.Str.ofString "&OUTPUT") _)) _ _ _); k_dflt (refine' bk_O ?zqN ?zqm ?zqd ?zqK ?_ ?zqhs ?zqhg; (case zqN => k_asm); (case zqm => k_mem); (case zqd => k_asm); (case zqK => assumption); (case zqhs => with_unfolding_all rfl); (case zqhg => with_reducible intro _; with_unfolding_all rfl)); with_reducible intro k' u')) | ((with_reducible show wpAny _ _ (subscriptTail _ _ (Value.ref _) _) _ _ _); (k_here; (with_reducible show wpAny _ _ (subscriptTail _ _ (Value.ref _) (Value.str (PySem.Str.ofString "&INPUT") _)) _ _ _); k_dflt (refine' bk_I ?zqN ?zqm ?zqd ?zqK ?_ ?zqhs ?zqhg; (case zqN => k_asm); (case zqm => k_mem); (case zqd => k_asm); (case zqK => assumption); (case zqhs => with_unfolding_all rfl); (case zqhg => with_reducible intro _; with_unfolding_all rfl)); with_reducible intro k' u')) | ((with_reducible show wpAny _ _ (subscriptTail _ _ (Value.ref _) _) _ _ _); (k_here; (with_reducible show wpAny _ _ (subscriptTail _ _ (Value.ref _) (Value.str (PySem.Str.ofString "out") _)) _ _ _); k_dflt (refine' bk_out ?zqN ?zqm ?zqd ?zqK ?_ ?zqhs ?zqhg; (case zqN => k_asm); (case zqm => k_mem); (case zqd => k_asm); (case zqK => assumption); (case zqhs => with_unfolding_all rfl); (case zqhg => with_reducible intro _; with_unfolding_all rfl)); with_reducible intro k')) | ((with_reducible show wpAny _ _ (subscriptTail _ _ (Value.ref _) _) _ _ _); (k_here; (with_reducible show wpAny _ _ (subscriptTail _ _ (Value.ref _) (Value.str (PySem.Str.ofString "rows") _)) _ _ _); k_dflt (refine' bk_rows ?zqN ?zqm ?zqd ?zqK ?_ ?zqhs ?zqhg; (case zqN => k_asm); (case zqm => k_mem); (case zqd => k_asm); (case zqK => assumption); (case zqhs => with_unfolding_all rfl); (case zqhg => with_reducible intro _; with_unfolding_all rfl)); with_reducible intro k')) | ((with_reducible show wpAny _ _ (subscriptTail _ _ (Value.ref _) _) _ _ _); (k_here; (with_reducible show wpAny _ _ (subscriptTail _ _ (Value.ref _) (Value.int _ _)) _ _ _); k_dflt (first   | (refine' name_item ?zqN ?zqm ?zqh0 ?zqh1 ?_ ?zqhs; (case zqN => k_asm); (case zqm => k_mem); (case zqh0 => assumption); (case zqh1 => omega); (case zqhs => with_unfolding_all rfl); with_reducible intro x' t' hn')   | (refine' key_item ?zqN ?zqm ?zqh0 ?zqh1 ?_ ?_ ?_ ?zqhs; (case zqN => k_asm); (case zqm => k_mem); (case zqh0 => assumption); (case zqh1 => omega); (case zqhs => with_unfolding_all rfl); (all_goals with_reducible intro t'))   | (refine' int3_item ?zqN ?zqm ?zqh0 ?zqh1 ?_ ?zqhs; (case zqN => k_asm); (case zqm => k_mem); (case zqh0 => assumption); (case zqh1 => omega); (case zqhs => with_unfolding_all rfl); with_reducible intro J' t')   | (refine' val_item ?zqN ?zqm ?zqk0 ?zqk9 ?zqh0 ?zqh1 ?_ ?zqhs; (case zqN => k_asm); (case zqm => k_mem); (case zqk0 => omega); (case zqk9 => omega); (case zqh0 => assumption); (case zqh1 => omega); (case zqhs => with_unfolding_all rfl); with_reducible intro v' d' hv' hs')))) | ((with_reducible show wpAny _ _ (call (Value.ref _) _) _ _ _); (k_here; (with_reducible show wpAny _ _ (call (Value.ref 178) _) _ _ _); k_dflt (refine' kw_c ?zqB ?zqF ?zqX ?zqN ?zqTT ?zqf ?zqk ?zqP1 ?zqP2 ?zqP3 ?zqap ?zqn1 ?zqn2 ?zql2 ?zqW ?zqdK ?zqK ?zqn ?_; (case zqB => k_asm); (case zqF => k_asm); (case zqX => k_asm); (case zqN => k_asm); (case zqTT => k_asm); (case zqf => exact rfl); (case zqk => exact rfl); (case zqP1 => repeat (first | with_reducible exact Pick.head | with_reducible apply Pick.tail)); (case zqP2 => repeat (first | with_reducible exact Pick.head | with_reducible apply Pick.tail)); (case zqW => assumption); (case zqP3 => repeat (first | with_reducible exact Pick.head | with_reducible apply Pick.tail)); (case zqap => repeat' (first | ((with_reducible show @Ne Nat _ _); k_ne) | ((with_reducible show Apart _ []); exact Apart.nil) | refine Apart.c3 ?_ ?_ ?_ ?_ )); (case zqn1 => k_ne); (case zqn2 => k_ne); (case zql2 => assumption); (case zqdK => k_asm); (case zqK => assumption); (case zqn => first | exact .inl rfl | exact .inr (.inl rfl) | exact .inr (.inr rfl))); ((with_reducible intro hb kb okw2 kvs2 F2 N2 hd2 kI2 kO2 kT2)))) | ((with_reducible show wpAny _ _ (call (Value.ref _) _) _ _ _); (k_here; (with_reducible show wpAny _ _ (call (Value.ref 129) _) _ _ _); k_dflt (refine' set_3 ?zqB ?zqF ?zqX ?zqN ?zqTT ?zqf ?zqk ?zqP1 ?zqP2 ?zqP3 ?zqP4 ?zqP5 ?zqP6 ?zqP7 ?zqap ?zqn1 ?zqn2 ?zqn3 ?zqn4 ?zqn5 ?zqn6 ?zqn7 ?zqn8 ?zqn9 ?zqn10 ?zqn11 ?zql1 ?zql2 ?zql3 ?zql4 ?zqW ?zqdW ?zqhW ?zqhW' ?zqdT ?zqdK ?zqK ?zqdS ?zqS ?zqhk ?zqs ?zqlen ?zqn ?zqv ?zqsd ?_ ?_ ?_; (case zqB => k_asm); (case zqF => k_asm); (case zqX => k_asm); (case zqN => k_asm); (case zqTT => k_asm); (case zqf => exact rfl); (case zqk => exact rfl); (case zqP1 => repeat (first | with_reducible exact Pick.head | with_reducible apply Pick.tail)); (case zqP2 => repeat (first | with_reducible exact Pick.head | with_reducible apply Pick.tail)); (case zqW => assumption); (case zqP3 => repeat (first | with_reducible exact Pick.head | with_reducible apply Pick.tail)); (case zqP4 => repeat (first | with_reducible exact Pick.head | with_reducible apply Pick.tail)); (case zqP5 => repeat (first | with_reducible exact Pick.head | with_reducible apply Pick.tail)); (case zqP6 => repeat (first | with_reducible exact Pick.head | with_reducible apply Pick.tail)); (case zqP7 => repeat (first | with_reducible exact Pick.head | with_reducible apply Pick.tail)); (case zqap => repeat' (first | ((with_reducible show @Ne Nat _ _); k_ne) | ((with_reducible show Apart _ []); exact Apart.nil) | refine Apart.c7 ?_ ?_ ?_ ?_ ?_ ?_ ?_ ?_ )); (case zqn1 => k_ne); (case zqn2 => k_ne); (case zqn3 => k_ne); (case zqn4 => k_ne); (case zqn5 => k_ne); (case zqn6 => k_ne); (case zqn7 => k_ne); (case zqn8 => k_ne); (case zqn9 => k_ne); (case zqn10 => k_ne); (case zqn11 => k_ne); (case zql1 => assumption); (case zql2 => assumption); (case zql3 => assumption); (case zql4 => assumption); (case zqdW => k_asm); (case zqhW => assumption); (case zqhW' => assumption); (case zqdT => k_asm); (case zqdK => k_asm); (case zqK => assumption); (case zqdS => k_asm); (case zqS => assumption); (case zqhk => omega); (case zqs => assumption); (case zqlen => omega); (case zqn => assumption); (case zqv => assumption); (case zqsd => assumption)); ((all_goals first   | (with_reducible intro hb kb ost2 kvs2 us2' no2 F2 N2 hw2 hO2 hd2 S2 hu2)   | (with_reducible intro hb kb ost2 kvs2 F2 N2 hw2 hO2 hd2 S2)   | (with_reducible intro hb kb ost2 kvs2 F2 N2 hw2 hd2 S2))))) | ((with_reducible show wpAny _ _ (call (Value.ref _) _) _ _ _); (k_here; (with_reducible show wpAny _ _ (call (Value.ref 122) _) _ _ _); k_dflt (first | (refine' get_3 ?zqB ?zqF ?zqX ?zqN ?zqTT ?zqf ?zqk ?zqP1 ?zqP2 ?zqP3 ?zqP4 ?zqP5 ?zqP6 ?zqap ?zqn1 ?zqn2 ?zqn3 ?zqn4 ?zqn5 ?zqn6 ?zqn7 ?zqn8 ?zqn9 ?zql1 ?zql2 ?zql3 ?zqW ?zqdR ?zqhR ?zqhR' ?zqdK ?zqK ?zqdS ?zqS ?zqhk ?zqs ?zqrow ?zqlen ?zqn ?zqhr ?_; (case zqhr => assumption); (case zqB => k_asm); (case zqF => k_asm); (case zqX => k_asm); (case zqN => k_asm); (case zqTT => k_asm); (case zqf => exact rfl); (case zqk => exact rfl); (case zqP1 => repeat (first | with_reducible exact Pick.head | with_reducible apply Pick.tail)); (case zqP2 => repeat (first | with_reducible exact Pick.head | with_reducible apply Pick.tail)); (case zqW => assumption); (case zqP3 => repeat (first | with_reducible exact Pick.head | with_reducible apply Pick.tail)); (case zqP4 => repeat (first | with_reducible exact Pick.head | with_reducible apply Pick.tail)); (case zqP5 => repeat (first | with_reducible exact Pick.head | with_reducible apply Pick.tail)); (case zqP6 => repeat (first | with_reducible exact Pick.head | with_reducible apply Pick.tail)); (case zqap => repeat' (first | ((with_reducible show @Ne Nat _ _); k_ne) | ((with_reducible show Apart _ []); exact Apart.nil) | refine Apart.c6 ?_ ?_ ?_ ?_ ?_ ?_ ?_ )); (case zqn1 => k_ne); (case zqn2 => k_ne); (case zqn3 => k_ne); (case zqn4 => k_ne); (case zqn5 => k_ne); (case zqn6 => k_ne); (case zqn7 => k_ne); (case zqn8 => k_ne); (case zqn9 => k_ne); (case zql1 => assumption); (case zql2 => assumption); (case zql3 => assumption); (case zqdR => k_asm); (case zqhR => assumption); (case zqhR' => assumption); (case zqdK => k_asm); (case zqK => assumption); (case zqdS => k_asm); (case zqS => assumption); (case zqhk => omega); (case zqs => assumption); (case zqrow => assumption); (case zqlen => assumption); (case zqn => assumption)) | (refine' get_2 ?zqB ?zqF ?zqX ?zqN ?zqTT ?zqf ?zqk ?zqP1 ?zqP2 ?zqP3 ?zqP4 ?zqP5 ?zqP6 ?zqap ?zqn1 ?zqn2 ?zqn3 ?zqn4 ?zqn5 ?zqn6 ?zqn7 ?zqn8 ?zqn9 ?zql1 ?zql2 ?zql3 ?zqW ?zqdR ?zqhR ?zqhR' ?zqdK ?zqK ?zqdS ?zqS ?zqhk ?zqs ?zqrow ?zqlen ?zqn ?zqhr ?zqhI ?_; (case zqrow => assumption); (case zqhr => assumption); (case zqhI => assumption); (case zqB => k_asm); (case zqF => k_asm); (case zqX => k_asm); (case zqN => k_asm); (case zqTT => k_asm); (case zqf => exact rfl); (case zqk => exact rfl); (case zqP1 => repeat (first | with_reducible exact Pick.head | with_reducible apply Pick.tail)); (case zqP2 => repeat (first | with_reducible exact Pick.head | with_reducible apply Pick.tail)); (case zqW => assumption); (case zqP3 => repeat (first | with_reducible exact Pick.head | with_reducible apply Pick.tail)); (case zqP4 => repeat (first | with_reducible exact Pick.head | with_reducible apply Pick.tail)); (case zqP5 => repeat (first | with_reducible exact Pick.head | with_reducible apply Pick.tail)); (case zqP6 => repeat (first | with_reducible exact Pick.head | with_reducible apply Pick.tail)); (case zqap => repeat' (first | ((with_reducible show @Ne Nat _ _); k_ne) | ((with_reducible show Apart _ []); exact Apart.nil) | refine Apart.c6 ?_ ?_ ?_ ?_ ?_ ?_ ?_ )); (case zqn1 => k_ne); (case zqn2 => k_ne); (case zqn3 => k_ne); (case zqn4 => k_ne); (case zqn5 => k_ne); (case zqn6 => k_ne); (case zqn7 => k_ne); (case zqn8 => k_ne); (case zqn9 => k_ne); (case zql1 => assumption); (case zql2 => assumption); (case zql3 => assumption); (case zqdR => k_asm); (case zqhR => assumption); (case zqhR' => assumption); (case zqdK => k_asm); (case zqK => assumption); (case zqdS => k_asm); (case zqS => assumption); (case zqhk => omega); (case zqs => assumption); (case zqlen => assumption); (case zqn => assumption)) | (refine' get_1 ?zqB ?zqF ?zqX ?zqN ?zqTT ?zqf ?zqk ?zqP1 ?zqP2 ?zqP3 ?zqP4 ?zqP5 ?zqP6 ?zqap ?zqn1 ?zqn2 ?zqn3 ?zqn4 ?zqn5 ?zqn6 ?zqn7 ?zqn8 ?zqn9 ?zql1 ?zql2 ?zql3 ?zqW ?zqdR ?zqhR ?zqhR' ?zqdK ?zqK ?zqdS ?zqS ?zqhk ?zqs ?zqn ?zqhr ?zqhI ?_; (case zqhr => assumption); (case zqhI => assumption); (case zqB => k_asm); (case zqF => k_asm); (case zqX => k_asm); (case zqN => k_asm); (case zqTT => k_asm); (case zqf => exact rfl); (case zqk => exact rfl); (case zqP1 => repeat (first | with_reducible exact Pick.head | with_reducible apply Pick.tail)); (case zqP2 => repeat (first | with_reducible exact Pick.head | with_reducible apply Pick.tail)); (case zqW => assumption); (case zqP3 => repeat (first | with_reducible exact Pick.head | with_reducible apply Pick.tail)); (case zqP4 => repeat (first | with_reducible exact Pick.head | with_reducible apply Pick.tail)); (case zqP5 => repeat (first | with_reducible exact Pick.head | with_reducible apply Pick.tail)); (case zqP6 => repeat (first | with_reducible exact Pick.head | with_reducible apply Pick.tail)); (case zqap => repeat' (first | ((with_reducible show @Ne Nat _ _); k_ne) | ((with_reducible show Apart _ []); exact Apart.nil) | refine Apart.c6 ?_ ?_ ?_ ?_ ?_ ?_ ?_ )); (case zqn1 => k_ne); (case zqn2 => k_ne); (case zqn3 => k_ne); (case zqn4 => k_ne); (case zqn5 => k_ne); (case zqn6 => k_ne); (case zqn7 => k_ne); (case zqn8 => k_ne); (case zqn9 => k_ne); (case zql1 => assumption); (case zql2 => assumption); (case zql3 => assumption); (case zqdR => k_asm); (case zqhR => assumption); (case zqhR' => assumption); (case zqdK => k_asm); (case zqK => assumption); (case zqdS => k_asm); (case zqS => assumption); (case zqhk => omega); (case zqs => assumption); (case zqn => assumption))); ((first   | (with_reducible intro hb kb ost2 kvs2 vs2' ni2 y2 ty2 F2 N2 hs2' hd2 S2 hy2; cases (Eq.trans hy2 (Eq.symm hy1)); clear hy2)   | (with_reducible intro hb kb v2 F2 N2 hv2)   | (with_reducible intro hb kb F2 N2))))) | ((with_reducible show wpAny _ _ (call (Value.ref _) _) _ _ _); (k_here; (with_reducible show wpAny _ _ (call (Value.ref 207) _) _ _ _); k_dflt (refine' due_c ?zqB ?zqF ?zqX ?zqN ?zqTT ?zqf ?zqk ?zqP1 ?zqP2 ?zqap ?zqne ?zqd ?zqK ?zqs ?zqrow ?zqlen ?zqn ?_ ?_ ?_; (case zqB => k_asm); (case zqF => k_asm); (case zqX => k_asm); (case zqN => k_asm); (case zqTT => k_asm); (case zqf => exact rfl); (case zqk => exact rfl); (case zqP1 => repeat (first | with_reducible exact Pick.head | with_reducible apply Pick.tail)); (case zqd => k_asm); (case zqK => assumption); (case zqP2 => repeat (first | with_reducible exact Pick.head | with_reducible apply Pick.tail)); (case zqap => repeat' (first | ((with_reducible show @Ne Nat _ _); k_ne) | ((with_reducible show Apart _ []); exact Apart.nil) | refine Apart.c2 ?_ ?_ ?_ )); (case zqne => k_ne); (case zqs => assumption); (case zqrow => assumption); (case zqlen => assumption); (case zqn => assumption)); ((all_goals first   | (with_reducible intro ha ka ob1 kvs1 vs1' nr1 x1 xs1 y1 ty1 F1 N1 hrd1 hI1 hx1 hs1' hd1 K1 hy1; subst hx1)   | (with_reducible intro ha ka F1 N1 hrd1 hI1 hx1; subst hx1)   | (with_reducible intro ha ka v1 F1 N1 hrd1 hv1))))) | ((with_reducible show wpAny _ _ (call (Value.ref _) _) _ _ _); (k_here; (with_reducible show wpAny _ _ (call (Value.ref 193) [Value.ref _, Value.int _ _]) _ _ _); k_dflt (refine' next_c ?zqB ?zqF ?zqX ?zqN ?zqT ?zqf ?zqk ?zqP ?zqc ?zqi ?zql ?zqap ?zqh0 ?zqh1 ?zqm ?zqm2 ?_; (case zqB => k_asm); (case zqF => k_asm); (case zqX => k_asm); (case zqN => k_asm); (case zqT => k_asm); (case zqf => exact rfl); (case zqk => exact rfl); (case zqP => repeat (first | with_reducible exact Pick.head | with_reducible apply Pick.tail)); (case zqc => k_mem); (case zqi => assumption); (case zql => assumption); (case zqap => repeat' (first | ((with_reducible show @Ne Nat _ _); k_ne) | ((with_reducible show Apart _ []); exact Apart.nil) | refine Apart.c1 ?_ ?_ )); (case zqh0 => omega); (case zqh1 => omega); (case zqm => omega); (case zqm2 => omega)); with_reducible intro h' r' tr' tk' tk2' n' h0' h1' F' N')) | ((with_reducible show wpAny _ _ (call (Value.ref _) _) _ _ _); (k_here; (with_reducible show wpAny _ _ (call (Value.ref 178) _) _ _ _); refine stopHere ?_)) | ((with_reducible show wpAny _ _ (call (Value.ref _) _) _ _ _); (k_here; (with_reducible show wpAny _ _ (call (Value.ref 129) _) _ _ _); refine stopHere ?_)) | ((with_reducible show wpAny _ _ (call (Value.ref _) _) _ _ _); (k_here; (with_reducible show wpAny _ _ (call (Value.ref 122) _) _ _ _); refine stopHere ?_)) | ((with_reducible show wpAny _ _ (call (Value.ref _) _) _ _ _); (k_here; (with_reducible show wpAny _ _ (call (Value.ref 207) _) _ _ _); refine stopHere ?_)) | ((with_reducible show wpAny _ _ (call (Value.ref _) _) _ _ _); (k_here; (with_reducible show wpAny _ _ (call (Value.ref 193) _) _ _ _); refine stopHere ?_)) | (k_unfold; (try dsimp only)) | (k_end; wrow_close) | walk1 | (dsimp only; walk1) | (leave1; walk_say "STEP leave1"; try dsimp only) | fail "no step"))
  all_goals try (refine Hold.mk ?_; (with_reducible show wpAny _ _ (execs (Stmt.If (Expr.BoolOp BoolOp.Or _ _) _ _ _ :: _) _) _ _ _))
  all_goals try exact absurd (show O = 0 by with_reducible assumption) (by with_reducible assumption)
  all_goals try (refine' turnEnd hQ B ?F X T (newsSub ?N ?sub) hob how W hk ?h1 ?h2 ?dS ?S ?dB ?KB ?dK ?K ?s1 ?s2 ?row ?xl ?u ?u' ?z ?zl ?ok; (case F => k_asm); (case N => k_asm); (case sub => (repeat (refine List.forall_mem_cons.mpr ⟨by repeat (first | with_reducible exact List.mem_cons_self | with_reducible apply List.mem_cons_of_mem), ?_⟩)); exact List.forall_mem_nil _); (case h1 => omega); (case h2 => omega); (case dS => assumption); (case S => first | assumption | exact Stt.mono (by assumption) (Nat.le_succ _)); (case dB => assumption); (case KB => assumption); (case dK => assumption); (case K => first | assumption | exact kI2 (by rfl) | exact kO2 (by rfl) | exact kT2 (by rfl)); (case s1 => assumption); (case s2 => assumption); (case row => first | assumption | exact fun y hy => hrow y (.tail _ hy)); (case xl => first | assumption | exact Nat.le_of_succ_le hxl); (case u => assumption); (case u' => first | assumption | exact StrsAre.snoc (by assumption) _ _); (case z => first | assumption | exact okSnoc hz (okText (by assumption))); (case zl => first | exact Nat.le_succ_of_le hzl | (rw [List.length_append]; exact Nat.succ_le_succ hzl)); (case ok => first | assumption | exact okUpd hok (okSet (by assumption)) | exact okUpd hok (okCut (hrow _ (.head _)) (by assumption))))

end Mine
namespace Mine
theorem offOf {I : Addr} {l : List (Addr × Obj)} (h : ∀ p ∈ l, p.1 < I) {l' : List (Addr × Obj)} (e : l'.map (·.1) = l.map (·.1)) : ∀ p ∈ l', p.1 ≠ I := fun p hp => by
  have hm : p.1 ∈ l.map (·.1) := e ▸ List.mem_map_of_mem hp
  obtain ⟨q, hq, hqe⟩ := List.mem_map.mp hm
  exact hqe ▸ Nat.ne_of_lt (h q hq)
section
variable {prog : Program} {w : World} {A : Around} {E : Value → Shared → Prop} {s : Shared} {env : Env} {h₀ : Heap} {x : Str} {body : List Stmt} {Q : Flow → Shared → Prop} {I : Addr}
theorem rangeRest_inv {a : Int} {n : Nat} (J : Nat → (Str → Option Value) → List (Addr × Obj) → Prop)
    (step : ∀ i m news, i < n → J i m news → ∀ t h tk, Fr h₀ env.locals h (fun y => if y = x then some (.int (a + (i : Int)) t) else m y) →
      News h₀ env.locals h ((I, itR (a + ((i + 1 : Nat) : Int)) ((n : Int) - ((i + 1 : Nat) : Int))) :: news) →
      wpAny (model prog w) A (execs body env) (UnrPost h₀ env.locals { s with heap := h, toks := tk } I (itR (a + ((i + 1 : Nat) : Int)) ((n : Int) - ((i + 1 : Nat) : Int))) (J (i + 1)) Q) E { s with heap := h, toks := tk })
    (done : ∀ m news, J n m news → ∀ h tk, Fr h₀ env.locals h m → News h₀ env.locals h news → Q .next { s with heap := h, toks := tk }) :
    ∀ k i m news, i + k = n → J i m news → RangeRest prog w A E h₀ env x body Q s I a n k i m news
  | 0, i, m, news, e, hj => RangeRest.zero (done m news (by rw [← e]; exact hj))
  | k + 1, i, m, news, e, hj => RangeRest.succ fun t h tk F N => by
    refine wpAny_mono (step i m news (by omega) hj t h tk F N) (fun f s₂ z => ?_) fun _ _ e => e
    have up : UnrEnd h₀ env.locals { s with heap := h, toks := tk } I (itR (a + ((i + 1 : Nat) : Int)) ((n : Int) - ((i + 1 : Nat) : Int))) (J (i + 1)) s₂ →
        UnrEnd h₀ env.locals { s with heap := h, toks := tk } I (itR (a + ((i + 1 : Nat) : Int)) ((n : Int) - ((i + 1 : Nat) : Int))) (RangeRest prog w A E h₀ env x body Q s I a n k (i + 1)) s₂ := by
      rintro ⟨h', tk', m', news', e', F', N', ho, hj'⟩
      exact ⟨h', tk', m', news', e', F', N', ho, rangeRest_inv J step done k (i + 1) m' news' (by omega) hj'⟩
    cases f with
    | ret v => exact z
    | brk => exact z
    | next => exact up z
    | cont => exact up z
theorem range_turns {r : Addr} {k : Int} {t₀ u₀ v₀ : Tok} {m₀ : Str → Option Value} {news : List (Addr × Obj)} (hh : A.handled = none) (h0 : 0 ≤ k) (h1 : k < 7) (hr : IsRange s.heap r 0 (4 + k) 1 t₀ u₀ v₀) (F : Fr h₀ env.locals s.heap m₀) (N : News h₀ env.locals s.heap news)
    (rest : ∀ n : Nat, n ≤ 10 → ∀ I : Addr, (∀ p ∈ news, p.1 < I) → RangeRest prog w A E h₀ env x body Q s I 0 n n 0 m₀ news) :
    wpAny (model prog w) A (pyIter (.ref r)) (fun it s₂ => LoopAtV prog w A h₀ env x body Q E it s₂) E s := by
  obtain ⟨n, hn⟩ : ∃ n : Nat, 4 + k = (n : Int) := ⟨(4 + k).toNat, by omega⟩
  refine iter_rangeUnr (n := n) hh hr (small_one (by decide) (by decide) (by omega) (by omega)) ?_ F N (rest n (by omega))
  rw [rangeSize_one, if_pos (by omega)]; omega
theorem listRest_inv {lp : Addr × Obj} (J : List Value → (Str → Option Value) → List (Addr × Obj) → Prop)
    (step : ∀ v r m news, J (v :: r) m news → ∀ (it : Obj) h tk, it.cls = .type "list_iterator" → Fr h₀ env.locals h (fun y => if y = x then some v else m y) → News h₀ env.locals h ((I, it) :: news) →
      wpAny (model prog w) A (execs body env) (UnrPost h₀ env.locals { s with heap := h, toks := tk } I it (fun m' n' => lp ∈ n' ∧ J r m' n') Q) E { s with heap := h, toks := tk })
    (done : ∀ m news, J [] m news → ∀ h tk, Fr h₀ env.locals h m → News h₀ env.locals h news → Q .next { s with heap := h, toks := tk }) :
    ∀ vs m news, J vs m news → ListRest prog w A E h₀ env x body Q s I lp vs m news
  | [], m, news, hj => ListRest.zero (done m news hj)
  | v :: r, m, news, hj => ListRest.succ fun it h tk hc F N => by
    refine wpAny_mono (step v r m news hj it h tk hc F N) (fun f s₂ z => ?_) fun _ _ e => e
    have up : UnrEnd h₀ env.locals { s with heap := h, toks := tk } I it (fun m' n' => lp ∈ n' ∧ J r m' n') s₂ →
        UnrEnd h₀ env.locals { s with heap := h, toks := tk } I it (fun m' n' => lp ∈ n' ∧ ListRest prog w A E h₀ env x body Q s I lp r m' n') s₂ := by
      rintro ⟨h', tk', m', news', e', F', N', ho, hl, hj'⟩
      exact ⟨h', tk', m', news', e', F', N', ho, hl, listRest_inv J step done r m' news' hj'⟩
    cases f with
    | ret v => exact z
    | brk => exact z
    | next => exact up z
    | cont => exact up z
end
end Mine
namespace Mine
def nmAt (i : Nat) : Str := [Str.ofString "INPUT", Str.ofString "R", Str.ofString "OUTPUT", Str.ofString "W", Str.ofString "X"].getD i PySem.Str.empty
theorem nmAt_is {i : Nat} (h : i < 5) : isName (nmAt i) := isName_at (r := (i : Int)) (by omega) (by omega)
inductive CellVals : List Value → List Cell → Prop
  | nil : CellVals [] []
  | cons {v : Value} {d : Cell} {vs : List Value} {ds : List Cell} : IsC v d → CellVals vs ds → CellVals (v :: vs) (d :: ds)
theorem CellVals.snoc {vs : List Value} {ds : List Cell} (h : CellVals vs ds) {v : Value} {d : Cell} (hv : IsC v d) : CellVals (vs ++ [v]) (ds ++ [d]) := by
  induction h with
  | nil => exact .cons hv .nil
  | cons a _ ih => exact .cons a ih
theorem CellVals.dat {vs : List Value} {ds : List Cell} (h : CellVals vs ds) : DatAll [] vs (ds.map Cell.dat) := by
  induction h with
  | nil => exact .nil
  | cons a _ ih => exact .cons (a.datIn _) ih
structure CellPost (h₀ : Heap) (L : Addr) (m : Str → Option Value) (s : Shared) (news : List (Addr × Obj)) (d : Cell) (v : Value) (s' : Shared) : Prop where
  is : IsC v d
  ex : ∃ h' tk', s' = { s with heap := h', toks := tk' } ∧ Fr h₀ L h' m ∧ News h₀ L h' news
def cellsTo (c : Str → Cell) (i : Nat) : List Cell := (List.range i).map fun j => c (nmAt j)
theorem cellsTo_succ (c : Str → Cell) (i : Nat) : cellsTo c (i + 1) = cellsTo c i ++ [c (nmAt i)] := by
  unfold cellsTo
  rw [List.range_succ, List.map_append]; rfl
theorem cellsTo_ok {c : Str → Cell} (h : ∀ n, isName n → (c n).ok) : ∀ d ∈ (cellsTo c 5).map Cell.dat, kqdOk 8 d = true := by
  intro d hd
  obtain ⟨y, hy, rfl⟩ := List.mem_map.mp hd
  unfold cellsTo at hy
  obtain ⟨j, hj, rfl⟩ := List.mem_map.mp hy
  have hk := h _ (nmAt_is (List.mem_range.mp hj))
  revert hk
  cases c (nmAt j) with
  | str x => exact fun hk => hk
  | int k => exact fun _ => rfl
section
variable {prog : Program} {w : World} {A : Around} {E : Value → Shared → Prop} {s : Shared} {h₀ : Heap} {L a b : Addr} {m : Str → Option Value} {news : List (Addr × Obj)} {vs us : List Value} {ds : List Cell} {ka kb : Nat} {Q : Value → Shared → Prop}
theorem eq_cells (N : News h₀ L s.heap news) (ma : (a, listOf vs.toArray ka) ∈ news) (mb : (b, listOf us.toArray kb) ∈ news) (ha : CellVals vs ds) (hb : CellVals us ds) (ok : ∀ d ∈ ds.map Cell.dat, kqdOk 8 d = true)
    (hu : A.units + 64 < cLine) (h : Q (.bool true) s) : wpAny (model prog w) A (compareOp .Eq (.ref a) (.ref b)) Q E s := by
  refine kqd_eq N ma rfl rfl ha.dat (fun p hp => nomatch hp) mb rfl rfl hb.dat (fun p hp => nomatch hp) ok ok hu ?_
  have e2 : ∀ i : Decidable (ds.map Cell.dat = ds.map Cell.dat), @decide _ i = true := fun i => @decide_eq_true _ i rfl
  rw [e2]; exact h
variable {env : Env} {elt : Expr} {scope : Scope} {cl : List (Str × Addr)} {S : List (Addr × Obj) → Prop} {P : Nat → Value → Prop} {Fin : List Value → List (Addr × Obj) → Prop}
theorem compRest_inv' {x : Str} {n : Nat} (J : Nat → List Value → List (Addr × Obj) → Prop)
    (step : ∀ i ys news, i < n → J i ys news → ∀ v I oI C oC D m₂ h tk (E' : Value → Shared → Prop), P i v → LCg.NsObj oC m₂ → m₂ x = some v → Fr h₀ L h m → News h₀ L h ((I, oI) :: (C, oC) :: (D, LCg.lst ys) :: news) → LCg.Off3 I C D news → ((@Ne Nat I C) ∧ (@Ne Nat I D) ∧ (@Ne Nat C D)) →
      wpAny (model prog w) A (eval elt (compEnvC scope cl C env)) (LCg.CompEnd h₀ L m { s with heap := h, toks := tk } I oI C oC D (LCg.lst ys) S (fun y news' => J (i + 1) (ys ++ [y]) news')) E' { s with heap := h, toks := tk })
    (fin : ∀ ys news, J n ys news → Fin ys news) : ∀ k i ys news, i + k = n → J i ys news → LCg.CompRest prog w A h₀ L m env elt x scope cl s S P Fin k i ys news
  | 0, i, ys, news, e, hj => LCg.CompRest.zero (fin ys news (by rw [← e]; exact hj))
  | k + 1, i, ys, news, e, hj => LCg.CompRest.succ fun v I oI C oC D m₂ h tk E' hP hC hx F N off ne => by
    refine wpAny_mono (step i ys news (by omega) hj v I oI C oC D m₂ h tk E' hP hC hx F N off ne) (fun y s₂ z => ?_) fun _ _ e => e
    obtain ⟨h', tk', news', e', F', N', off', hS, hj'⟩ := z
    exact ⟨h', tk', news', e', F', N', off', hS, compRest_inv' J step fin k (i + 1) _ news' (by omega) hj'⟩
theorem names_src {FinS : Shared → List Value → List (Addr × Obj) → Prop} {k : Nat} {t1 t2 t3 t4 t5 : Tok} (led : List (Addr × Obj)) (c : Str → Cell) (hh : A.handled = none) (F : Fr h₀ L s.heap m)
    (N : News h₀ L s.heap ((a, listOf [Value.str (Str.ofString "INPUT") t1, Value.str (Str.ofString "R") t2, Value.str (Str.ofString "OUTPUT") t3, Value.str (Str.ofString "W") t4, Value.str (Str.ofString "X") t5].toArray k) :: led))
    (step : ∀ ys y' t I oI C oC D m₂ h tk (E' : Value → Shared → Prop), isName y' → LCg.NsObj oC m₂ → m₂ (Str.ofString "name") = some (.str y' t) → Fr h₀ L h m →
      News h₀ L h ((I, oI) :: (C, oC) :: (D, LCg.lst ys) :: (a, listOf [Value.str (Str.ofString "INPUT") t1, Value.str (Str.ofString "R") t2, Value.str (Str.ofString "OUTPUT") t3, Value.str (Str.ofString "W") t4, Value.str (Str.ofString "X") t5].toArray k) :: led) →
      wpAny (model prog w) A (eval elt (compEnvC scope cl C env)) (CellPost h₀ L m s ((I, oI) :: (C, oC) :: (D, LCg.lst ys) :: (a, listOf [Value.str (Str.ofString "INPUT") t1, Value.str (Str.ofString "R") t2, Value.str (Str.ofString "OUTPUT") t3, Value.str (Str.ofString "W") t4, Value.str (Str.ofString "X") t5].toArray k) :: led) (c y')) E' { s with heap := h, toks := tk })
    (fin : ∀ g ys, CellVals ys (cellsTo c 5) → FinS { s with heap := g } ys ((a, listOf [Value.str (Str.ofString "INPUT") t1, Value.str (Str.ofString "R") t2, Value.str (Str.ofString "OUTPUT") t3, Value.str (Str.ofString "W") t4, Value.str (Str.ofString "X") t5].toArray k) :: led)) :
    LCg.CompSrc prog w A h₀ L m env elt (Str.ofString "name") scope cl FinS (.ref a) s := by
  refine LCg.CompSrc.ledger (k := k) hh F N (List.mem_cons_self ..) (Nat.le_of_ble_eq_true rfl) fun g => ?_
  refine compRest_inv' (s := { s with heap := g }) (fun i ys news => news = _ :: led ∧ CellVals ys (cellsTo c i)) ?_ (fun ys news hj => ?_) 5 0 _ _ rfl ⟨rfl, .nil⟩
  · rintro i ys news hi ⟨rfl, hc⟩ v I oI C oC D m₂ h tk E' hP hC hx F1 N1 off ne
    obtain ⟨t, rfl⟩ : ∃ t, v = .str (nmAt i) t := by
      have h5 : i = 0 ∨ i = 1 ∨ i = 2 ∨ i = 3 ∨ i = 4 := by omega
      rcases h5 with e | e | e | e | e <;> subst e <;> exact ⟨_, (Option.some.inj hP).symm⟩
    refine wpAny_mono (step ys (nmAt i) t I oI C oC D m₂ h tk E' (nmAt_is hi) hC hx F1 N1) (fun y s₂ z => ?_) fun _ _ e => e
    obtain ⟨hv, h', tk', rfl, F', N'⟩ := z
    exact ⟨h', tk', _, rfl, F', N', off, .inr ⟨_, List.mem_cons_self .., rfl, _, rfl⟩, rfl, cellsTo_succ c i ▸ hc.snoc hv⟩
  · obtain ⟨rfl, hc⟩ := hj
    exact fin g ys hc
end
end Mine
namespace Mine
local macro_rules | `(tactic| k_ne) => `(tactic| (refine neN ?_; (try dsimp only); first | (with_reducible exact Neq.out (by assumption)) | (with_reducible exact Ne.symm (Neq.out (by assumption))) | omega))
local macro_rules | `(tactic| walk_at "CompSrc") => `(tactic| (k_here; refine stopHere ?_))
local macro_rules | `(tactic| walk_at "getAttr ref") => `(tactic| (k_here; k_dflt (refine' get_own ?k1 ?k2 ?k3 ?k4 ?k5 ?k6 ?k7 ?k8 ?k9 ?_; (case k1 => k_asm); (case k2 => k_asm); (case k3 => k_inst); (case k4 => k_is); (case k5 => k_is); (case k6 => k_is); (case k7 => k_is); (case k8 => with_reducible assumption); (case k9 => k_handed); k_whole)))
local macro_rules | `(tactic| walk_at "call builtin:dict.get") => `(tactic| (k_here; k_dflt (refine kdg_get2 (knd := PySem.strKind _ _) (by k_asm) (by k_mem) (by k_asm) (by k_asm) (strKind_is _ _ _ _) _ (by rfl) ?_)))
local macro_rules | `(tactic| walk_at "subscriptTail") => `(tactic| (k_here; (with_reducible show wpAny _ _ (subscriptTail _ _ (Value.ref _) (Value.str _ _)) _ _ _); k_dflt (refine kda_item (knd := PySem.strKind _ _) (by k_asm) (by k_mem) (by k_asm) (strKind_is _ _ _ _) (by assumption) ?_)))
local macro_rules | `(tactic| walk_at "compareOp Eq ref ref") => `(tactic| (k_here; refine stopHere ?_))
set_option maxHeartbeats 8000000 in
theorem stageR {prog : Program} {w : World} {s : Shared} {base h₀ : Heap} {L fa : Addr} {cd : Value} {m mg mb : Str → Option Value} {p : Program} {loose : List Str} {mean : ExcName → Option Value}
    {Q : Flow → Shared → Prop} {da wa st outp trc rn wn kw inp rows books out : Addr} {es : List DictEntry} {nn k : Nat} {ob ow ost obk : Obj} {I O TT : Int} {c : Str → Cell} {kvsS kvsB : List (Str × Value)}
    (B : Below callerA base [] h₀) (F : Fr h₀ L s.heap m) (X : (hd.heap_39 w.params).In h₀) (T : Top p loose mean mg mb h₀)
    (N : News h₀ L s.heap [(wa, instObj 111 da), (da, dictOf es nn), (st, ost), (books, obk), (L + 1 + 1 + 1, ob), (L + 1 + 1, ow)])
    (hob : ob.data = .cell (some (.ref books))) (how : ow.data = .cell (some (.ref wa)))
    (loS : (st == sysModules) = false) (loB : (books == sysModules) = false) (W : Wd es rn wn kw st inp outp trc)
    (hdS : ost.IsDictOf (PySem.strKind prog w) kvsS) (S : Stt kvsS c k) (hdB : obk.IsDictOf (PySem.strKind prog w) kvsB) (KB : Bk kvsB rows out I O TT c) (hok : ∀ n, isName n → (c n).ok)
    (hQ : ∀ h' tk, Fr h₀ L h' m → Q (.ret (.bool true)) { s with heap := h', toks := tk }) :
    wpAny (model prog w) (callerA.deeper (envOfC (Str.ofString "law") lawScope L fa cd)) (execs (lawBody.drop 8) (envOfC (Str.ofString "law") lawScope L fa cd)) Q (fun _ _ => False) s := by
  w_top off
  have eb : lawBody.drop 8 = lawBody.drop 8 := rfl
  conv at eb => rhs; whnf
  have es' : lawScope = lawScope := rfl
  conv at es' => rhs; whnf
  rw [eb, es']
  clear eb es'
  have wS := W.st
  try k_fold
  k_steps
  refine Hold.mk ?_
  refine' names_src _ c ?hh ?F ?N ?step ?fin
  case hh => rfl
  case F => k_asm
  case N => k_asm
  case step =>
    intro ys y' t I oI C oC D m₂ h tk E' hy hC hx F1 N1
    try k_fold
    k_steps
    exact ⟨Stt.getD S hy _, _, _, rfl, by k_asm, by k_asm⟩
  case fin =>
    intro g ys hc
    unfold LCg.FinE
    intro D1 h tk F1 N1 off1
    simp only [LCg.Off1, and_true] at off1
    try dsimp only
    try k_fold
    k_steps
    refine Hold.mk ?_
    refine' names_src _ c ?hh ?F ?N ?step ?fin
    case hh => rfl
    case F => k_asm
    case N => k_asm
    case step =>
      intro ys2 y' t I oI C oC D m₂ h tk E' hy hC hx F1 N1
      obtain ⟨cv, hcv, hcc⟩ := KB.cell y' hy
      try k_fold
      k_steps
      exact ⟨hcc, _, _, rfl, by k_asm, by k_asm⟩
    case fin =>
      intro g2 ys2 hc2
      unfold LCg.FinE
      intro D2 h2 tk2 F2 N2 off2
      simp only [LCg.Off1, and_true] at off2
      try dsimp only
      try k_fold
      k_steps
      refine Hold.mk ?_
      refine eq_cells N2 (ka := ys.length) (kb := ys2.length) (.tail _ (.tail _ (.head _))) (.head _) hc hc2 (cellsTo_ok hok) (by k_units) ?_
      k_steps
      exact hQ _ _ (by k_asm)
end Mine

namespace Mine
local macro_rules | `(tactic| k_ne) => `(tactic| (refine neN ?_; (try dsimp only); first | (with_reducible exact Neq.out (by assumption)) | (with_reducible exact Ne.symm (Neq.out (by assumption))) | omega))
local macro_rules | `(tactic| walk_at "exec For Name Call cons nil") => `(tactic| (k_here; (with_reducible show wpAny _ _ (exec (Stmt.For (Expr.Name (Str.ofString "turn") _) _ _ _ _) _) _ _ _); (rename Fr _ _ _ _ => lF'); (with_unfolding_all refine' For_invVF lF' ?k1 ?k2 ?_ ?hs ?hE); (case k1 => exact rfl); (case k2 => exact rfl); (case hE => exact PassesOwn.never); (case hs => intro _; with_unfolding_all rfl); k_whole))
local macro_rules | `(tactic| walk_at "pyIter ref") => `(tactic| (k_here; refine stopHere ?_))
local macro_rules | `(tactic| walk_at "execs cons") => `(tactic| (k_here; (with_reducible show wpAny _ _ (execs (Stmt.Return _ _ :: _) _) _ _ _); refine stopHere ?_))
local macro_rules | `(tactic| walk_at "call ref") => `(tactic| (k_here; (with_reducible show wpAny _ _ (call (Value.ref 193) [Value.ref _, Value.int _ _]) _ _ _); k_dflt (refine' next_c ?B ?F ?X ?N ?T ?f ?k ?P ?c ?i ?l ?ap ?h0 ?h1 ?m ?m2 ?_; (case B => k_asm); (case F => k_asm); (case X => k_asm); (case N => k_asm); (case T => k_asm); (case f => exact rfl); (case k => exact rfl); (case P => repeat (first | exact Pick.head | apply Pick.tail)); (case c => k_mem); (case i => assumption); (case l => assumption); (case ap => repeat' (first | ((with_reducible show @Ne Nat _ _); k_ne) | ((with_reducible show Apart _ []); exact Apart.nil) | refine Apart.c1 ?_ ?_ )); (case h0 => omega); (case h1 => omega); (case m => omega); (case m2 => omega)); intro h' r' tr' tk' tk2' n' h0' h1' F' N'))

def JT (prog : Program) (w : World) (cells rows out : Addr) (led : Obj → Obj → Obj → Obj → Obj → Obj → Obj → Obj → List (Addr × Obj)) (i : Nat) (_m : Str → Option Value) (news : List (Addr × Obj)) : Prop :=
  ∃ ofeed ost ooutp okw oinp orows obk oout, news = led ofeed ost ooutp okw oinp orows obk oout ∧ TI prog w cells rows out i ofeed ost ooutp okw oinp orows obk oout
set_option maxHeartbeats 8000000 in
theorem stage5 {prog : Program} {w : World} {s : Shared} {base h₀ : Heap} {L fa : Addr} {cd : Value} {m mg mb : Str → Option Value} {p : Program} {loose : List Str} {mean : ExcName → Option Value}
    {Q : Flow → Shared → Prop} {feed cells da wa st outp trc rn wn kw inp rows books out : Addr} {es : List DictEntry} {vs : List Value} {ns : List Int} {kvsW kvsR : List (Str × Value)} {otr ob ow ofd own orn : Obj} {nn nc : Nat} {ost okw obk : Obj} {c0 : Str → Cell} {xs0 : List Str} {kvsS kvsK kvsB : List (Str × Value)} {vs1 vs2 : List Value} {tn : Int} {t0 : Tok} {nf ni nr no no' : Nat}
    (B : Below callerA base [] h₀) (F : Fr h₀ L s.heap m) (X : (hd.heap_39 w.params).In h₀) (T : Top p loose mean mg mb h₀)
    (N : News h₀ L s.heap [(wa, instObj 111 da), (da, dictOf es nn), (feed, listOf [Value.ref cells, Value.int tn t0].toArray nf), (cells, listOf vs.toArray nc), (st, ost), (outp, listOf [].toArray no), (trc, otr), (kw, okw), (rn, orn), (wn, own), (inp, listOf vs1.toArray ni), (rows, listOf vs2.toArray nr), (books, obk), (out, listOf [].toArray no'), (L + 1 + 1 + 1, ob), (L + 1 + 1, ow), (L + 1, ofd)])
    (hi : IntsAre vs ns) (hlen : ns.length ≤ 30) (hob : ob.data = .cell (some (.ref books))) (how : ow.data = .cell (some (.ref wa))) (hof : ofd.data = .cell (some (.ref feed)))
    (hdT : otr.IsDictOf (PySem.strKind prog w) []) (loS : (st == sysModules) = false) (loT : (trc == sysModules) = false)
    (hdW : own.IsDictOf (PySem.strKind prog w) kvsW) (hW : ∀ n, isName n → isWrite n → (valueAt kvsW n).isSome = true) (hW' : ∀ n, isName n → ¬ isWrite n → (valueAt kvsW n).isSome = false) (loW : (wn == sysModules) = false)
    (hdR : orn.IsDictOf (PySem.strKind prog w) kvsR) (hR : ∀ n, isName n → isRead n → (valueAt kvsR n).isSome = true) (hR' : ∀ n, isName n → ¬ isRead n → (valueAt kvsR n).isSome = false) (loR : (rn == sysModules) = false)
    (loK : (kw == sysModules) = false) (loB : (books == sysModules) = false) (W : Wd es rn wn kw st inp outp trc)
    (o1 : @LT.lt Nat _ (L + 1 + 1 + 1) cells) (o2 : @LT.lt Nat _ cells feed) (o3 : @LT.lt Nat _ feed da) (o4 : @LT.lt Nat _ da wa) (o5 : @LT.lt Nat _ wa st) (o6 : @LT.lt Nat _ st outp) (o7 : @LT.lt Nat _ outp trc) (o8 : @LT.lt Nat _ trc kw) (o9 : @LT.lt Nat _ kw inp) (o10 : @LT.lt Nat _ inp rn) (o11 : @LT.lt Nat _ rn wn) (o12 : @LT.lt Nat _ rows inp) (o13 : @LT.lt Nat _ wn books) (o14 : @LT.lt Nat _ books out)
    (r1 : Neq rows (L + 1)) (r2 : Neq rows (L + 1 + 1)) (r3 : Neq rows (L + 1 + 1 + 1)) (r4 : Neq rows cells) (r5 : Neq rows feed) (r6 : Neq rows da) (r7 : Neq rows wa) (r8 : Neq rows st) (r9 : Neq rows outp) (r10 : Neq rows trc) (r11 : Neq rows kw)
    (htn : 0 ≤ tn) (htn' : tn ≤ 15) (hdS : ost.IsDictOf (PySem.strKind prog w) kvsS) (S : Stt kvsS c0 0) (hdK : okw.IsDictOf (PySem.strKind prog w) kvsK) (K : Kw kvsK 1 1 0) (hdB : obk.IsDictOf (PySem.strKind prog w) kvsB) (KB : Bk kvsB rows out 1 1 0 c0)
    (hs1 : StrsAre vs1 xs0) (hs2 : StrsAre vs2 xs0) (hrow : ∀ x ∈ xs0, isRow x) (hxl : xs0.length ≤ 4) (hok : ∀ n, isName n → (c0 n).ok)
    (hQ : ∀ h' tk m', Fr h₀ L h' m' → Q (.ret (.bool true)) { s with heap := h', toks := tk }) :
    wpAny (model prog w) (callerA.deeper (envOfC (Str.ofString "law") lawScope L fa cd)) (execs (lawBody.drop 7) (envOfC (Str.ofString "law") lawScope L fa cd)) Q (fun _ _ => False) s := by
  w_top off
  have eb : lawBody.drop 7 = lawBody.drop 7 := rfl
  conv at eb => rhs; whnf
  have es' : lawScope = lawScope := rfl
  conv at es' => rhs; whnf
  rw [eb, es']
  clear eb es'
  try k_fold
  k_steps
  refine Hold.mk ?_
  rename IsRange _ _ _ _ _ _ _ _ => hr
  rename News _ _ _ _ => lN
  rename Fr _ _ _ _ => lF
  have lN2 := newsSub (l := [(wa, instObj 111 da), (da, dictOf es nn), (feed, listOf [Value.ref cells, Value.int (tn + 1) _].toArray _), (cells, listOf vs.toArray nc), (st, ost), (outp, listOf [].toArray no), (trc, otr), (kw, okw), (rn, orn), (wn, own), (inp, listOf vs1.toArray ni), (rows, listOf vs2.toArray nr), (books, obk), (out, listOf [].toArray no'), (L + 1 + 1 + 1, ob), (L + 1 + 1, ow), (L + 1, ofd)]) lN (by (repeat (refine List.forall_mem_cons.mpr ⟨by repeat (first | exact List.Mem.head _ | apply List.Mem.tail), ?_⟩)); exact List.forall_mem_nil _)
  refine range_turns rfl (by assumption) (by assumption) hr lF lN2 ?_
  clear lN lN2 lF hr
  intro n hn It lI
  have lA := lI
  k_lt lI
  refine rangeRest_inv (JT prog w cells rows out (fun ofeed ost ooutp okw oinp orows obk oout => [(wa, instObj 111 da), (da, dictOf es nn), (feed, ofeed), (cells, listOf vs.toArray nc), (st, ost), (outp, ooutp), (trc, otr), (kw, okw), (rn, orn), (wn, own), (inp, oinp), (rows, orows), (books, obk), (out, oout), (L + 1 + 1 + 1, ob), (L + 1 + 1, ow), (L + 1, ofd)])) ?step ?done n 0 _ _ (Nat.zero_add n) ⟨_, _, _, _, _, _, _, _, rfl, ?ti⟩
  case ti => exact ⟨1, 1, 0, tn + 1, c0, xs0, [], kvsS, kvsK, kvsB, vs1, vs2, [], [], _, _, ni, nr, no, no', ⟨rfl, by omega, by omega⟩, ⟨hdS, S⟩, ⟨hdK, K⟩, ⟨hdB, KB⟩, ⟨rfl, hs1⟩, ⟨rfl, hs2⟩, hrow, hxl, ⟨rfl, .nil⟩, ⟨rfl, .nil⟩, okNil, Nat.le_refl 0, hok⟩
  case step =>
    rintro i m2 news hi2 ⟨ofeed, ost2, ooutp, okw2, oinp, orows, obk2, oout, rfl, inv⟩ t h tk F1 N1
    refine turn1 (k := i) (It := It) B F1 X T N1 hi hlen hob how hof hdT loS loT hdW hW hW' loW hdR hR hR' loR loK loB W (by omega) o1 o2 o3 o4 o5 o6 o7 o8 o9 o10 o11 o12 o13 o14 (by omega) r1 r2 r3 r4 r5 r6 r7 r8 r9 r10 r11 inv ?_
    intro h' tk' m' ofeed' ost' ooutp' okw' oinp' orows' obk' oout' F' N' inv'
    dsimp only [UnrPost]
    exact UnrEnd.intro F' N' _ (fun p hp => hp) (offOf lA rfl) ⟨_, _, _, _, _, _, _, _, rfl, inv'⟩
  case done =>
    rintro m2 news ⟨ofeed, ost2, ooutp, okw2, oinp, orows, obk2, oout, rfl, inv⟩ h tk F1 N1
    obtain ⟨I, O, TT, tn2, c, xs, zs, kvsS2, kvsK2, kvsB2, vs12, vs22, us, us', t, nf, ni, nr, no, no', ⟨rfl, ht0, ht1⟩, ⟨hdS2, S2⟩, ⟨hdK2, K2⟩, ⟨hdB2, KB2⟩, ⟨rfl, hs12⟩, ⟨rfl, hs22⟩, hrow2, hxl2, ⟨rfl, hu⟩, ⟨rfl, hu'⟩, hz, hzl, hok2⟩ := inv
    try k_fold
    k_steps
    refine Hold.mk ?_
    refine stageR (da := da) (nn := nn) B F1 X T (newsSub N1 ?sub) hob how loS loB W hdS2 S2 hdB2 KB2 hok2 ?_
    case sub => (repeat (refine List.forall_mem_cons.mpr ⟨by repeat (first | exact List.Mem.head _ | apply List.Mem.tail), ?_⟩)); exact List.forall_mem_nil _
    exact fun h' tk' F' => hQ h' tk' _ F'
end Mine
namespace Mine
local macro_rules | `(tactic| k_ne) => `(tactic| (refine neN ?_; (try dsimp only); first | (with_reducible exact Neq.out (by assumption)) | (with_reducible exact Ne.symm (Neq.out (by assumption))) | omega))
local macro_rules | `(tactic| walk_at "execs cons") => `(tactic| (k_here; (with_reducible show wpAny _ _ (execs (Stmt.For (Expr.Name (Str.ofString "turn") _) _ _ _ _ :: _) _) _ _ _); refine stopHere ?_))
local macro_rules | `(tactic| walk_at "exec For Name Call cons nil") => `(tactic| (k_here; (with_reducible show wpAny _ _ (exec (Stmt.For (Expr.Name (Str.ofString "name") _) _ _ _ _) _) _ _ _); (rename Fr _ _ _ _ => lF'); (with_unfolding_all refine' For_invVF lF' ?k1 ?k2 ?_ ?hs ?hE); (case k1 => exact rfl); (case k2 => exact rfl); (case hE => exact PassesOwn.never); (case hs => intro _; with_unfolding_all rfl); k_whole))
local macro_rules | `(tactic| walk_at "pyIter ref") => `(tactic| (k_here; refine stopHere ?_))
local macro_rules | `(tactic| walk_at "UnrPost") => `(tactic| (refine stopHere ?_))
local macro_rules | `(tactic| walk_at "setItem ref str") => `(tactic| (k_here; k_dflt (refine' kda_set (knd := PySem.strKind _ _) ?F ?N ?U ?d (strKind_is _ _ _ _) ?z ?_; (case F => k_asm); (case N => k_asm); (case U => k_updF); (case d => k_asm); (case z => rw [sizeLine_eq]; omega)); intro h' o' F' N' hd'; (try dsimp only at N')))
structure Bk0 (kvs : List (Str × Value)) (rows out : Addr) : Prop where
  rows : valueAt kvs (Str.ofString "rows") = some (.ref rows)
  out : valueAt kvs (Str.ofString "out") = some (.ref out)
  inp : ∃ t, valueAt kvs (Str.ofString "&INPUT") = some (.int 1 t)
  outp : ∃ t, valueAt kvs (Str.ofString "&OUTPUT") = some (.int 1 t)
  trim : ∃ t, valueAt kvs (Str.ofString "&TRIM") = some (.int 0 t)
theorem Bk0.set {kvs : List (Str × Value)} {rows out : Addr} (B : Bk0 kvs rows out) {n : Str} {v : Value} (hn : isName n) : Bk0 (stored kvs n v) rows out := by
  obtain ⟨h1, h2, h3, h4, h5⟩ := hn.ne
  refine ⟨?_, ?_, ?_, ?_, ?_⟩
  · rw [valueAt_stored, if_neg h1]; exact B.rows
  · rw [valueAt_stored, if_neg h2]; exact B.out
  · rw [valueAt_stored, if_neg h3]; exact B.inp
  · rw [valueAt_stored, if_neg h4]; exact B.outp
  · rw [valueAt_stored, if_neg h5]; exact B.trim
theorem Bk0.full {kvs : List (Str × Value)} {rows out : Addr} (B : Bk0 kvs rows out) (hl : kvs.length + ([] : List Str).length ≤ 10) (hall : ∀ n, isName n → n ∈ ([] : List Str) ∨ ∃ t, valueAt kvs n = some (.str (Str.ofString "") t)) :
    Bk kvs rows out 1 1 0 (fun _ => .str (Str.ofString "")) where
  rows := B.rows
  out := B.out
  inp := B.inp
  outp := B.outp
  trim := B.trim
  cell := fun n hn => by
    rcases hall n hn with h | ⟨t, h⟩
    · cases h
    · exact ⟨_, h, .str _ _⟩
  len := by simp only [List.length_nil] at hl; omega
def JN (prog : Program) (w : World) (rows out : Addr) (led : Obj → List (Addr × Obj)) (vs : List Value) (_m : Str → Option Value) (news : List (Addr × Obj)) : Prop :=
  ∃ okb kvs xs, news = led okb ∧ StrsAre vs xs ∧ (∀ x ∈ xs, isName x) ∧ okb.IsDictOf (PySem.strKind prog w) kvs ∧ Bk0 kvs rows out ∧ kvs.length + xs.length ≤ 10 ∧
    ∀ n, isName n → n ∈ xs ∨ ∃ t, valueAt kvs n = some (.str (Str.ofString "") t)
set_option maxHeartbeats 8000000 in
theorem stage4 {prog : Program} {w : World} {s : Shared} {base h₀ : Heap} {L fa : Addr} {cd : Value} {m mg mb : Str → Option Value} {p : Program} {loose : List Str} {mean : ExcName → Option Value}
    {Q : Flow → Shared → Prop} {feed cells da wa st outp trc rn wn kw inp rows books out : Addr} {es : List DictEntry} {vs : List Value} {ns : List Int} {kvsW kvsR : List (Str × Value)} {otr ob ow ofd own orn : Obj} {nn nc : Nat} {ost okw obk : Obj} {ys ys' : List Value} {xs : List Str} {kvsK kvsB : List (Str × Value)} {tn : Int} {t0 : Tok} {nf ni nr : Nat}
    (B : Below callerA base [] h₀) (F : Fr h₀ L s.heap m) (X : (hd.heap_39 w.params).In h₀) (T : Top p loose mean mg mb h₀)
    (N : News h₀ L s.heap [(wa, instObj 111 da), (da, dictOf es nn), (feed, listOf [Value.ref cells, Value.int tn t0].toArray nf), (cells, listOf vs.toArray nc), (st, ost), (outp, listOf [].toArray 0), (trc, otr), (kw, okw), (rn, orn), (wn, own), (inp, listOf ys.toArray ni), (rows, listOf ys'.toArray nr), (books, obk), (out, listOf [].toArray 0), (L + 1 + 1 + 1, ob), (L + 1 + 1, ow), (L + 1, ofd)])
    (hi : IntsAre vs ns) (hlen : ns.length ≤ 30) (hob : ob.data = .cell (some (.ref books))) (how : ow.data = .cell (some (.ref wa))) (hof : ofd.data = .cell (some (.ref feed)))
    (hdT : otr.IsDictOf (PySem.strKind prog w) []) (loS : (st == sysModules) = false) (loT : (trc == sysModules) = false)
    (hdW : own.IsDictOf (PySem.strKind prog w) kvsW) (hW : ∀ n, isName n → isWrite n → (valueAt kvsW n).isSome = true) (hW' : ∀ n, isName n → ¬ isWrite n → (valueAt kvsW n).isSome = false) (loW : (wn == sysModules) = false)
    (hdR : orn.IsDictOf (PySem.strKind prog w) kvsR) (hR : ∀ n, isName n → isRead n → (valueAt kvsR n).isSome = true) (hR' : ∀ n, isName n → ¬ isRead n → (valueAt kvsR n).isSome = false) (loR : (rn == sysModules) = false)
    (loK : (kw == sysModules) = false) (loB : (books == sysModules) = false) (W : Wd es rn wn kw st inp outp trc)
    (o1 : @LT.lt Nat _ (L + 1 + 1 + 1) cells) (o2 : @LT.lt Nat _ cells feed) (o3 : @LT.lt Nat _ feed da) (o4 : @LT.lt Nat _ da wa) (o5 : @LT.lt Nat _ wa st) (o6 : @LT.lt Nat _ st outp) (o7 : @LT.lt Nat _ outp trc) (o8 : @LT.lt Nat _ trc kw) (o9 : @LT.lt Nat _ kw inp) (o10 : @LT.lt Nat _ inp rn) (o11 : @LT.lt Nat _ rn wn) (o12 : @LT.lt Nat _ rows inp) (o13 : @LT.lt Nat _ wn books) (o14 : @LT.lt Nat _ books out)
    (r1 : Neq rows (L + 1)) (r2 : Neq rows (L + 1 + 1)) (r3 : Neq rows (L + 1 + 1 + 1)) (r4 : Neq rows cells) (r5 : Neq rows feed) (r6 : Neq rows da) (r7 : Neq rows wa) (r8 : Neq rows st) (r9 : Neq rows outp) (r10 : Neq rows trc) (r11 : Neq rows kw)
    (hdS : ost.IsDictOf (PySem.strKind prog w) []) (hdK : okw.IsDictOf (PySem.strKind prog w) kvsK) (K : Kw kvsK 1 1 0) (hys : StrsAre ys xs) (hys' : StrsAre ys' xs) (hrow : ∀ x ∈ xs, isRow x) (hxl : xs.length ≤ 4) (htn : 0 ≤ tn) (htn' : tn ≤ 10)
    (hdB : obk.IsDictOf (PySem.strKind prog w) kvsB) (KB : Bk0 kvsB rows out) (hbl : kvsB.length ≤ 5)
    (hQ : ∀ h' tk m', Fr h₀ L h' m' → Q (.ret (.bool true)) { s with heap := h', toks := tk }) :
    wpAny (model prog w) (callerA.deeper (envOfC (Str.ofString "law") lawScope L fa cd)) (execs (lawBody.drop 6) (envOfC (Str.ofString "law") lawScope L fa cd)) Q (fun _ _ => False) s := by
  w_top off
  have eb : lawBody.drop 6 = lawBody.drop 6 := rfl
  conv at eb => rhs; whnf
  have es' : lawScope = lawScope := rfl
  conv at es' => rhs; whnf
  rw [eb, es']
  clear eb es'
  try k_fold
  k_steps
  refine Hold.mk ?_
  rename News _ _ _ _ => lN
  rename Fr _ _ _ _ => lF
  refine iter_listUnr rfl lF lN (List.mem_cons_self ..) rfl rfl ?_
  clear lF lN
  intro It lI
  have lA := lI
  k_lt lI
  refine listRest_inv (JN prog w rows out (fun o => [(_, _), (wa, instObj 111 da), (da, dictOf es nn), (feed, listOf [Value.ref cells, Value.int tn t0].toArray nf), (cells, listOf vs.toArray nc), (st, ost), (outp, listOf [].toArray 0), (trc, otr), (kw, okw), (rn, orn), (wn, own), (inp, listOf ys.toArray ni), (rows, listOf ys'.toArray nr), (books, o), (out, listOf [].toArray 0), (L + 1 + 1 + 1, ob), (L + 1 + 1, ow), (L + 1, ofd)])) ?step ?done _ _ _ ⟨obk, kvsB, [Str.ofString "INPUT", Str.ofString "R", Str.ofString "OUTPUT", Str.ofString "W", Str.ofString "X"], rfl, StrsAre.cons _ _ (StrsAre.cons _ _ (StrsAre.cons _ _ (StrsAre.cons _ _ (StrsAre.cons _ _ StrsAre.nil)))), ?xs, hdB, KB, ?len, ?all⟩
  case xs => intro x hx; simp only [List.mem_cons, List.not_mem_nil, or_false] at hx; exact hx
  case len => simp only [List.length_cons, List.length_nil]; omega
  case all => exact fun n hn => .inl (by simp only [List.mem_cons, List.not_mem_nil, or_false]; exact hn)
  case step =>
    rintro v r m2 news ⟨okb, kvs, xs2, rfl, hvs, hxs, hdB2, KB2, hl, hall⟩ it h tk hc F1 N1
    cases hvs with
    | @cons x2 t2 vs2 xs3 hvs2 =>
      have hx2 : isName x2 := hxs x2 (.head _)
      simp only [List.length_cons] at hl
      try k_fold
      k_steps
      refine Hold.mk ?_
      dsimp only [UnrPost]
      rename News _ _ _ _ => lN2
      rename Fr _ _ _ _ => lF2
      refine UnrEnd.intro lF2 lN2 _ (fun p hp => hp) (offOf lA rfl) ⟨.head _, _, _, _, rfl, hvs2, fun x hx => hxs x (.tail _ hx), by assumption, KB2.set hx2, lenStep (by omega), ?all⟩
      case all =>
        intro n hn
        rw [valueAt_stored]
        by_cases e : n = x2
        · exact .inr ⟨_, if_pos e⟩
        · rw [if_neg e]
          rcases hall n hn with hm | hm
          · rcases List.mem_cons.mp hm with q | q
            · exact absurd q e
            · exact .inl q
          · exact .inr hm
  case done =>
    rintro m2 news ⟨okb, kvs, xs2, rfl, hvs, hxs, hdB2, KB2, hl, hall⟩ h tk F1 N1
    cases hvs
    try k_fold
    k_steps
    refine Hold.mk ?_
    refine stage5 B F1 X T (newsSub N1 fun q hq => .tail _ hq) hi hlen hob how hof hdT loS loT hdW hW hW' loW hdR hR hR' loR loK loB W o1 o2 o3 o4 o5 o6 o7 o8 o9 o10 o11 o12 o13 o14 r1 r2 r3 r4 r5 r6 r7 r8 r9 r10 r11 htn (by omega) hdS (c0 := fun _ => .str (Str.ofString "")) ⟨fun n _ => .inr ⟨rfl, rfl⟩, Nat.le_refl 0⟩ hdK K hdB2 (Bk0.full KB2 hl hall) hys hys' hrow hxl (fun n _ => (show PyData.strOk (Str.ofString "") = true by decide +kernel)) hQ
end Mine
namespace Mine
local macro_rules | `(tactic| k_ne) => `(tactic| (refine neN ?_; (try dsimp only); first | (with_reducible exact Neq.out (by assumption)) | (with_reducible exact Ne.symm (Neq.out (by assumption))) | omega))
theorem reord3 {h₀ h : Heap} {L : Addr} {p1 p2 p3 p4 p5 p6 p7 p8 p9 p10 p11 p12 p13 p14 p15 p16 p17 : Addr × Obj} (N : News h₀ L h [p14, p13, p1, p2, p3, p4, p5, p6, p7, p8, p9, p10, p11, p12, p15, p16, p17]) :
    News h₀ L h [p1, p2, p3, p4, p5, p6, p7, p8, p9, p10, p11, p12, p13, p14, p15, p16, p17] := newsSub N (by
  (repeat (refine List.forall_mem_cons.mpr ⟨by repeat (first | exact List.Mem.head _ | apply List.Mem.tail), ?_⟩)); exact List.forall_mem_nil _)
local macro_rules | `(tactic| walk_at "execs cons") => `(tactic| (k_here; (with_reducible show wpAny _ _ (execs (Stmt.For _ _ _ _ _ :: _) _) _ _ _); refine stopHere ?_))
local macro_rules | `(tactic| walk_at "storeName") => `(tactic| (k_here; refine stopHere ?_))
local macro_rules | `(tactic| walk_at "eval Name") => `(tactic| (k_here; (with_reducible show wpAny _ _ (eval (Expr.Name (Str.ofString "rows") _) _) _ _ _); k_dflt (refine' nameX_L ?k1 ?k2 ?_; (case k1 => k_asm); (case k2 => assumption); k_whole)))
set_option maxHeartbeats 8000000 in
theorem stage3 {prog : Program} {w : World} {s : Shared} {base h₀ : Heap} {L fa : Addr} {cd : Value} {m mg mb : Str → Option Value} {p : Program} {loose : List Str} {mean : ExcName → Option Value}
    {Q : Flow → Shared → Prop} {feed cells da wa st outp trc rn wn kw inp rows : Addr} {es : List DictEntry} {vs : List Value} {ns : List Int} {kvsW kvsR : List (Str × Value)} {otr ob ow ofd own orn : Obj} {nn nc : Nat} {ost okw : Obj} {ys ys' : List Value} {xs : List Str} {kvsK : List (Str × Value)} {tn : Int} {t0 : Tok} {nf ni nr : Nat}
    (B : Below callerA base [] h₀) (F : Fr h₀ L s.heap m) (X : (hd.heap_39 w.params).In h₀) (T : Top p loose mean mg mb h₀)
    (N : News h₀ L s.heap [(wa, instObj 111 da), (da, dictOf es nn), (feed, listOf [Value.ref cells, Value.int tn t0].toArray nf), (cells, listOf vs.toArray nc), (st, ost), (outp, listOf [].toArray 0), (trc, otr), (kw, okw), (rn, orn), (wn, own), (inp, listOf ys.toArray ni), (rows, listOf ys'.toArray nr), (L + 1 + 1 + 1, ob), (L + 1 + 1, ow), (L + 1, ofd)])
    (hi : IntsAre vs ns) (hlen : ns.length ≤ 30) (hob : ob.data = .cell none) (how : ow.data = .cell (some (.ref wa))) (hof : ofd.data = .cell (some (.ref feed)))
    (hdT : otr.IsDictOf (PySem.strKind prog w) []) (loS : (st == sysModules) = false) (loT : (trc == sysModules) = false)
    (hdW : own.IsDictOf (PySem.strKind prog w) kvsW) (hW : ∀ n, isName n → isWrite n → (valueAt kvsW n).isSome = true) (hW' : ∀ n, isName n → ¬ isWrite n → (valueAt kvsW n).isSome = false) (loW : (wn == sysModules) = false)
    (hdR : orn.IsDictOf (PySem.strKind prog w) kvsR) (hR : ∀ n, isName n → isRead n → (valueAt kvsR n).isSome = true) (hR' : ∀ n, isName n → ¬ isRead n → (valueAt kvsR n).isSome = false) (loR : (rn == sysModules) = false)
    (loK : (kw == sysModules) = false) (W : Wd es rn wn kw st inp outp trc)
    (o1 : @LT.lt Nat _ (L + 1 + 1 + 1) cells) (o2 : @LT.lt Nat _ cells feed) (o3 : @LT.lt Nat _ feed da) (o4 : @LT.lt Nat _ da wa) (o5 : @LT.lt Nat _ wa st) (o6 : @LT.lt Nat _ st outp) (o7 : @LT.lt Nat _ outp trc) (o8 : @LT.lt Nat _ trc kw) (o9 : @LT.lt Nat _ kw inp) (o10 : @LT.lt Nat _ inp rn) (o11 : @LT.lt Nat _ rn wn) (o12 : @LT.lt Nat _ rows inp)
    (r1 : Neq rows (L + 1)) (r2 : Neq rows (L + 1 + 1)) (r3 : Neq rows (L + 1 + 1 + 1)) (r4 : Neq rows cells) (r5 : Neq rows feed) (r6 : Neq rows da) (r7 : Neq rows wa) (r8 : Neq rows st) (r9 : Neq rows outp) (r10 : Neq rows trc) (r11 : Neq rows kw)
    (hmr : m (Str.ofString "rows") = some (.ref rows)) (hdS : ost.IsDictOf (PySem.strKind prog w) []) (hdK : okw.IsDictOf (PySem.strKind prog w) kvsK) (K : Kw kvsK 1 1 0) (hys : StrsAre ys xs) (hys' : StrsAre ys' xs) (hrow : ∀ x ∈ xs, isRow x) (hxl : xs.length ≤ 4) (htn : 0 ≤ tn) (htn' : tn ≤ 10)
    (hQ : ∀ h' tk m', Fr h₀ L h' m' → Q (.ret (.bool true)) { s with heap := h', toks := tk }) :
    wpAny (model prog w) (callerA.deeper (envOfC (Str.ofString "law") lawScope L fa cd)) (execs (lawBody.drop 5) (envOfC (Str.ofString "law") lawScope L fa cd)) Q (fun _ _ => False) s := by
  w_top off
  have eb : lawBody.drop 5 = lawBody.drop 5 := rfl
  conv at eb => rhs; whnf
  have es' : lawScope = lawScope := rfl
  conv at es' => rhs; whnf
  rw [eb, es']
  clear eb es'
  have hmr2 := hmr
  try k_fold
  k_steps
  refine Hold.mk ?_
  k_dflt (refine' storeX_C ?F ?N ?c ?U ?d ?_; (case F => k_asm); (case N => k_asm); (case c => exact rfl))
  (k_dflt (case U => k_updF))
  (case d => exact hob)
  intro h' o' F' N' d'
  try dsimp only at N'
  k_steps
  refine Hold.mk ?_
  refine stage4 B F' X T (reord3 N') hi hlen d' how hof hdT loS loT hdW hW hW' loW hdR hR hR' loR loK (by assumption) W o1 o2 o3 o4 o5 o6 o7 o8 o9 o10 o11 o12 (by omega) (by omega) r1 r2 r3 r4 r5 r6 r7 r8 r9 r10 r11 hdS hdK K hys hys' hrow hxl htn htn' (by assumption) ⟨rfl, rfl, ⟨_, rfl⟩, ⟨_, rfl⟩, ⟨_, rfl⟩⟩ (Nat.le_of_ble_eq_true rfl) ?_
  exact fun h' tk' m' F' => hQ h' tk' m' F'
end Mine
namespace Mine
local macro_rules | `(tactic| k_lt $h) => `(tactic| skip)
local macro_rules | `(tactic| k_ne) => `(tactic| (refine neN ?_; (try dsimp only); first
  | with_reducible assumption | (with_reducible exact Ne.symm (by assumption)) | (with_reducible exact Neq.out (by assumption)) | (with_reducible exact Ne.symm (Neq.out (by assumption)))
  | (refine Srt.ne (srtL := [_, _, _, _, _, _, _, _, _, _]) (by assumption) ?_; (repeat (first | (with_reducible refine Two.head ?_; (repeat (first | with_reducible exact List.mem_cons_self | with_reducible apply List.mem_cons_of_mem)); done) | with_reducible apply Two.tail)); done) | (refine Srt.ne' (srtL := [_, _, _, _, _, _, _, _, _, _]) (by assumption) ?_; (repeat (first | (with_reducible refine Two.head ?_; (repeat (first | with_reducible exact List.mem_cons_self | with_reducible apply List.mem_cons_of_mem)); done) | with_reducible apply Two.tail)); done)
  | (refine newNe (by assumption) ?_; (repeat (first | with_reducible exact InA.head | with_reducible apply InA.tail)); done) | (refine newNe' (by assumption) ?_; (repeat (first | with_reducible exact InA.head | with_reducible apply InA.tail)); done) | omega))
local macro_rules | `(tactic| ktr_room) => `(tactic| (refine newLt (by assumption) ?_; (repeat (first | with_reducible exact InA.head | with_reducible apply InA.tail)); done))
local macro_rules | `(tactic| walk_at "call ref") => `(tactic| (k_here; (with_reducible show wpAny _ _ (call (Value.ref 157) [Value.ref _]) _ _ _); k_dflt (refine' begin_d ?B ?F ?X ?N ?T ?f ?k ?P1 ?P2 ?ap ?n1 ?W ?hm ?hle ?_; (case B => k_asm); (case F => k_asm); (case X => k_asm); (case N => k_asm); (case T => k_asm); (case f => exact rfl); (case k => exact rfl); (case P1 => repeat (first | exact Pick.head | apply Pick.tail)); (case P2 => repeat (first | exact Pick.head | apply Pick.tail)); (case ap => repeat' (first | exact Apart.nil | refine Apart.cons ?_ ?_ | k_all)); (case n1 => k_ne); (case W => assumption); (case hm => assumption); (case hle => assumption)); intro h' tk' es1' nn' kw' okw' kvs' F' N' W' hle' hdK' K' loK' lK'; k_lt lK'))
local macro_rules | `(tactic| walk_at "call ref") => `(tactic| (k_here; (with_reducible show wpAny _ _ (call (Value.ref 193) [Value.ref _, Value.int _ _]) _ _ _); k_dflt (refine' next_c ?B ?F ?X ?N ?T ?f ?k ?P ?c ?i ?l ?ap ?h0 ?h1 ?m ?m2 ?_; (case B => k_asm); (case F => k_asm); (case X => k_asm); (case N => k_asm); (case T => k_asm); (case f => exact rfl); (case k => exact rfl); (case P => repeat (first | exact Pick.head | apply Pick.tail)); (case c => k_mem); (case i => assumption); (case l => assumption); (case ap => repeat' (first | exact Apart.nil | refine Apart.cons ?_ ?_ | k_all)); (case h0 => omega); (case h1 => omega); (case m => decide); (case m2 => decide)); intro h' r' tr' tk' tk2' n' h0' h1' F' N'))
local macro_rules | `(tactic| walk_at "exec Assign cons ListComp") => `(tactic| (k_here; k_dflt (refine LCg.Assign_ListComp_U (F₀ := by k_asm) (by rfl) (by with_unfolding_all rfl) (by rfl) (by decide) (by rfl) (by decide) (by rfl) (by rfl) (by rfl) ?_)))
local macro_rules | `(tactic| walk_at "CompSrc") => `(tactic| (k_here; refine stopHere ?_))
section
variable {prog : Program} {w : World} {A : Around} {h₀ : Heap} {L : Addr} {m : Str → Option Value} {env : Env} {elt : Expr} {x : Str} {scope : Scope} {cl : List (Str × Addr)} {s : Shared} {S : List (Addr × Obj) → Prop} {P : Nat → Value → Prop} {Fin : List Value → List (Addr × Obj) → Prop}
theorem compRest_inv {n : Nat} (J : Nat → List Value → List (Addr × Obj) → Prop)
    (step : ∀ i ys news, i < n → J i ys news → ∀ v I oI C oC D m₂ h tk (E' : Value → Shared → Prop), P i v → LCg.NsObj oC m₂ → m₂ x = some v → Fr h₀ L h m → News h₀ L h ((I, oI) :: (C, oC) :: (D, LCg.lst ys) :: news) → LCg.Off3 I C D news → ((@Ne Nat I C) ∧ (@Ne Nat I D) ∧ (@Ne Nat C D)) →
      wpAny (model prog w) A (eval elt (compEnvC scope cl C env)) (LCg.CompEnd h₀ L m { s with heap := h, toks := tk } I oI C oC D (LCg.lst ys) S (fun y news' => J (i + 1) (ys ++ [y]) news')) E' { s with heap := h, toks := tk })
    (fin : ∀ ys news, J n ys news → Fin ys news) : ∀ k i ys news, i + k = n → J i ys news → LCg.CompRest prog w A h₀ L m env elt x scope cl s S P Fin k i ys news
  | 0, i, ys, news, e, hj => LCg.CompRest.zero (fin ys news (by rw [← e]; exact hj))
  | k + 1, i, ys, news, e, hj => LCg.CompRest.succ fun v I oI C oC D m₂ h tk E' hP hC hx F N off ne => by
    refine wpAny_mono (step i ys news (by omega) hj v I oI C oC D m₂ h tk E' hP hC hx F N off ne) (fun y s₂ z => ?_) fun _ _ e => e
    obtain ⟨h', tk', news', e', F', N', off', hS, hj'⟩ := z
    exact ⟨h', tk', news', e', F', N', off', hS, compRest_inv J step fin k (i + 1) _ news' (by omega) hj'⟩
theorem compSrc_n {Fin : Shared → List Value → List (Addr × Obj) → Prop} {r : Addr} {k : Int} {t u v : Tok} {news : List (Addr × Obj)} {s₁ : Shared} (h0 : 0 ≤ k) (h1 : k < 4) (hh : A.handled = none) (F : Fr h₀ L s₁.heap m) (N : News h₀ L s₁.heap news) (hr : IsRange s₁.heap r 0 (1 + k) 1 t u v)
    (h : ∀ (n : Nat) g, 1 ≤ n → n ≤ 4 → LCg.CompRest prog w A h₀ L m env elt x scope cl { s₁ with heap := g } (fun _ => True) (fun i v => ∃ t, v = .int (0 + (i : Int)) t) (Fin { s₁ with heap := g }) n 0 [] news) :
    LCg.CompSrc prog w A h₀ L m env elt x scope cl Fin (.ref r) s₁ := by
  obtain ⟨n, hn⟩ : ∃ n : Nat, 1 + k = (n : Int) := ⟨(1 + k).toNat, by omega⟩
  refine LCg.CompSrc.range (n := n) hh F N hr (small_one (by decide) (by decide) (by omega) (by omega)) ?_ (by rw [sizeLine_eq]; omega) fun g => h n g (by omega) (by omega)
  rw [rangeSize_one, if_pos (by omega)]; omega
end
theorem isRow_at {r : Int} (h0 : 0 ≤ r) (h1 : r < 4) : isRow ([Str.ofString "one  ", Str.ofString " two", Str.ofString "t\t \t", Str.ofString "  "].getD r.toNat PySem.Str.empty) := by
  have h : r = 0 ∨ r = 1 ∨ r = 2 ∨ r = 3 := by omega
  rcases h with e | e | e | e <;> subst e
  · exact .inl rfl
  · exact .inr (.inl rfl)
  · exact .inr (.inr (.inl rfl))
  · exact .inr (.inr (.inr rfl))
local macro_rules | `(tactic| walk_at "subscriptTail") => `(tactic| (k_here; (with_reducible show wpAny _ _ (subscriptTail _ _ (Value.ref 179) (Value.int _ _)) _ _ _); k_dflt (refine' KTb.item_list (ws := [PySem.Str.ofString "one  ", PySem.Str.ofString " two", PySem.Str.ofString "t\t \t", PySem.Str.ofString "  "]) ?l ?w ?h0 ?h1 ?hf ?_ ?hs; (case l => exact lstK (Frag.In.keeps (by k_asm) (Fr.keep (by k_asm))) (by k_is)); (case w => exact StrsAre.cons _ _ (StrsAre.cons _ _ (StrsAre.cons _ _ (StrsAre.cons _ _ StrsAre.nil)))); (case h0 => assumption); (case h1 => assumption); (case hf => omega); (case hs => with_unfolding_all rfl)); intro t' hlt'))
theorem off3_congr {I C D : Addr} : ∀ {l l' : List (Addr × Obj)}, l.map (·.1) = l'.map (·.1) → LCg.Off3 I C D l → LCg.Off3 I C D l'
  | [], [], _, _ => trivial
  | [], _ :: _, e, _ => nomatch e
  | _ :: _, [], e, _ => nomatch e
  | p :: l, q :: l', e, h => by
    simp only [List.map_cons, List.cons.injEq] at e
    exact ⟨e.1 ▸ h.1, off3_congr e.2 h.2⟩
local macro_rules | `(tactic| walk_at "CompEnd") => `(tactic| (k_here; refine stopHere ?_))
local macro_rules | `(tactic| walk_at "setAttr ref") => `(tactic| (k_here; k_dflt (first
  | ((with_reducible show wpAny _ _ (setAttr _ (PySem.Str.ofString "inputs") _) _ _ _); refine' setInp_c ?F ?X ?N ?m ?U ?W ?l ?_; (case F => k_asm); (case X => k_asm); (case N => k_asm); (case m => k_mem); (case U => k_updF); (case W => assumption); (case l => omega))
  | ((with_reducible show wpAny _ _ (setAttr _ (PySem.Str.ofString "read_names") _) _ _ _); refine' setRn_c ?F ?X ?N ?m ?U ?W ?l ?_; (case F => k_asm); (case X => k_asm); (case N => k_asm); (case m => k_mem); (case U => k_updF); (case W => assumption); (case l => omega))
  | ((with_reducible show wpAny _ _ (setAttr _ (PySem.Str.ofString "write_names") _) _ _ _); refine' setWn_c ?F ?X ?N ?m ?U ?W ?l ?_; (case F => k_asm); (case X => k_asm); (case N => k_asm); (case m => k_mem); (case U => k_updF); (case W => assumption); (case l => omega))); intro h' es' n' F' N' W' l'; (try dsimp only at N')))
local macro_rules | `(tactic| walk_at "exec For Name Call cons nil") => `(tactic| (k_here; (with_reducible show wpAny _ _ (exec (Stmt.For (Expr.Name (Str.ofString "turn") _) _ _ _ _) _) _ _ _); refine stopHere ?_))
local macro_rules | `(tactic| walk_at "execs cons") => `(tactic| (k_here; (with_reducible show wpAny _ _ (execs (Stmt.Assign [Expr.Name (Str.ofString "books") _] _ _ :: _) _) _ _ _); refine stopHere ?_))
theorem reord2 {h₀ h : Heap} {L : Addr} {p0 p1 p2 p3 p4 p5 p6 p7 p8 p9 p10 p11 p12 p13 p14 p15 : Addr × Obj} (N : News h₀ L h [p0, p10, p9, p11, p12, p3, p1, p2, p8, p4, p5, p6, p7, p13, p14, p15]) :
    News h₀ L h [p1, p2, p3, p4, p5, p6, p7, p8, p9, p10, p11, p12, p13, p14, p15] := newsSub N (by
  (repeat (refine List.forall_mem_cons.mpr ⟨by repeat (first | exact List.Mem.head _ | apply List.Mem.tail), ?_⟩)); exact List.forall_mem_nil _)
section
variable {t1 t2 : Tok} {v1 v2 : Value}
theorem hW_is : ∀ n, isName n → isWrite n → (valueAt (strPairs [(.str (Str.ofString "OUTPUT") t1, v1), (.str (Str.ofString "W") t2, v2)]) n).isSome = true := by
  rintro n _ (rfl | rfl) <;> rfl
theorem hW_not : ∀ n, isName n → ¬ isWrite n → (valueAt (strPairs [(.str (Str.ofString "OUTPUT") t1, v1), (.str (Str.ofString "W") t2, v2)]) n).isSome = false := by
  rintro n (rfl | rfl | rfl | rfl | rfl) h
  · rfl
  · rfl
  · exact absurd (.inl rfl) h
  · exact absurd (.inr rfl) h
  · rfl
theorem hR_is : ∀ n, isName n → isRead n → (valueAt (strPairs [(.str (Str.ofString "INPUT") t1, v1), (.str (Str.ofString "R") t2, v2)]) n).isSome = true := by
  rintro n _ (rfl | rfl) <;> rfl
theorem hR_not : ∀ n, isName n → ¬ isRead n → (valueAt (strPairs [(.str (Str.ofString "INPUT") t1, v1), (.str (Str.ofString "R") t2, v2)]) n).isSome = false := by
  rintro n (rfl | rfl | rfl | rfl | rfl) h
  · exact absurd (.inl rfl) h
  · exact absurd (.inr rfl) h
  · rfl
  · rfl
  · rfl
end
def JR (feed cells : Addr) (rest : List (Addr × Obj)) (i : Nat) (ys : List Value) (news : List (Addr × Obj)) : Prop :=
  ∃ (tn : Int) (tk2 : Tok) (n' : Nat) (xs : List Str), news = (feed, listOf [Value.ref cells, Value.int tn tk2].toArray n') :: rest ∧ tn = 1 + (i : Int) ∧ StrsAre ys xs ∧ (∀ x ∈ xs, isRow x) ∧ xs.length = i
set_option maxHeartbeats 8000000 in
theorem stage2 {prog : Program} {w : World} {s : Shared} {base h₀ : Heap} {L fa : Addr} {cd : Value} {m mg mb : Str → Option Value} {p : Program} {loose : List Str} {mean : ExcName → Option Value}
    {Q : Flow → Shared → Prop} {feed cells da wa st outp trc rn wn kw inp : Addr} {es : List DictEntry} {nn nf nc : Nat} {t0 tm : Tok} {ost otr ob ow ofd : Obj} {vs : List Value} {ns : List Int}
    (B : Below callerA base [] h₀) (F : Fr h₀ L s.heap m) (X : (hd.heap_39 w.params).In h₀) (T : Top p loose mean mg mb h₀)
    (N : News h₀ L s.heap [(wa, instObj 111 da), (da, dictOf es nn), (feed, listOf [Value.ref cells, Value.int 0 t0].toArray nf), (cells, listOf vs.toArray nc), (st, ost), (outp, listOf [].toArray 0), (trc, otr), (L + 1 + 1 + 1, ob), (L + 1 + 1, ow), (L + 1, ofd)])
    (hi : IntsAre vs ns) (hlen : ns.length ≤ 30) (hob : ob.data = .cell none) (how : ow.data = .cell (some (.ref wa))) (hof : ofd.data = .cell (some (.ref feed)))
    (hdS : ost.IsDictOf (PySem.strKind prog w) []) (hdT : otr.IsDictOf (PySem.strKind prog w) []) (loS : (st == sysModules) = false) (loT : (trc == sysModules) = false)
    (W : Wd es rn wn kw st inp outp trc) (hm : getL (Str.ofString "most_length") es = some (some (.int 5000 tm))) (hle : es.length ≤ 50)
    (o1 : @LT.lt Nat _ (L + 1 + 1 + 1) cells) (o2 : @LT.lt Nat _ cells feed) (o3 : @LT.lt Nat _ feed da) (o4 : @LT.lt Nat _ da wa) (o5 : @LT.lt Nat _ wa st) (o6 : @LT.lt Nat _ st outp) (o7 : @LT.lt Nat _ outp trc)
    (hQ : ∀ h' tk m', Fr h₀ L h' m' → Q (.ret (.bool true)) { s with heap := h', toks := tk }) :
    wpAny (model prog w) (callerA.deeper (envOfC (Str.ofString "law") lawScope L fa cd)) (execs (lawBody.drop 1) (envOfC (Str.ofString "law") lawScope L fa cd)) Q (fun _ _ => False) s := by
  w_top off
  have eb : lawBody.drop 1 = lawBody.drop 1 := rfl
  conv at eb => rhs; whnf
  have es' : lawScope = lawScope := rfl
  conv at es' => rhs; whnf
  rw [eb, es']
  clear eb es'
  have srt : Srt [trc, outp, st, wa, da, feed, cells, L + 1 + 1 + 1, L + 1 + 1, L + 1] := ⟨o7, o6, o5, o4, o3, o2, o1, Nat.lt_succ_self _, Nat.lt_succ_self _, trivial⟩
  try k_fold
  k_steps
  refine Hold.mk ?_
  rename IsRange _ _ _ _ _ _ _ _ => hr
  refine compSrc_n (by assumption) (by assumption) rfl (by k_asm) (by k_asm) hr ?_
  clear hr
  intro n g hn1 hn4
  refine compRest_inv (JR feed cells _) ?step ?fin n 0 _ _ (Nat.zero_add n) ⟨_, _, _, [], rfl, by decide, StrsAre.nil, (fun _ h => nomatch h), rfl⟩
  case step =>
    rintro i ys news hin ⟨tn, tk2, n', xs, rfl, htn, hys, hxs, hxl⟩ v I oI C oC D m₂ h tk E' ⟨tv, rfl⟩ hC hx F1 N1 off ne
    obtain ⟨⟨f1, f2, f3⟩, _⟩ := id off
    dsimp only at f1 f2 f3
    try k_fold
    k_steps
    refine Hold.mk ?_
    refine' LCg.CompEnd.intro (by k_asm) (by k_asm) ((feed, _) :: _) ?sub ?off trivial ⟨tn + 1, _, _, xs ++ [_], rfl, ?e, StrsAre.snoc hys _ _, ?row, ?len⟩
    case e => rw [htn]; push_cast; omega
    case row =>
      intro x hx
      rcases List.mem_append.mp hx with hx | hx
      · exact hxs x hx
      · rw [List.mem_singleton.mp hx]; exact isRow_at (by assumption) (by assumption)
    case len => rw [List.length_append, hxl]; rfl
    case sub => lcg_sub
    case off => exact off3_congr rfl off
  case fin =>
    rintro ys news ⟨tn, tk2, n', xs, rfl, htn, hys, hxs, hxl⟩
    unfold LCg.FinA
    intro rows h1 tk1 F1 N1 off1
    simp only [LCg.Off1, and_true] at off1
    obtain ⟨g1, g2, g3, g4, g5, g6, g7, g8, g9, g10, g11⟩ := off1
    dsimp only
    try k_fold
    k_steps
    refine Hold.mk ?_
    rename News _ _ _ _ => lN
    rename Fr _ _ _ _ => lF
    refine stage3 B lF X T (reord2 lN) hi hlen hob how hof hdT loS loT (by assumption) hW_is hW_not (by assumption) (by assumption) hR_is hR_not (by assumption) (by assumption) (by assumption) o1 o2 o3 o4 o5 o6 o7 (by ktr_room) (by ktr_room) (by ktr_room) (by ktr_room) (by ktr_room) ⟨by k_ne⟩ ⟨by k_ne⟩ ⟨by k_ne⟩ ⟨by k_ne⟩ ⟨by k_ne⟩ ⟨by k_ne⟩ ⟨by k_ne⟩ ⟨by k_ne⟩ ⟨by k_ne⟩ ⟨by k_ne⟩ ⟨by k_ne⟩ rfl hdS (by assumption) (by assumption) hys hys hxs (by omega) (by omega) (by omega) ?_
    exact fun h' tk' m' F' => hQ h' tk' m' F'
end Mine
namespace Mine
theorem reord1 {h₀ h : Heap} {L : Addr} {p1 p2 p3 p4 p5 p6 p7 p8 p9 p10 q0 q1 q2 q3 q4 q5 q6 q7 q8 q9 q10 q11 : Addr × Obj} (N : News h₀ L h [q0, q1, q2, q3, p7, q4, q5, q6, p6, q7, q8, q9, q10, q11, p5, p1, p2, p3, p4, p8, p9, p10]) :
    News h₀ L h [p1, p2, p3, p4, p5, p6, p7, p8, p9, p10] := newsSub N (by
  (repeat (refine List.forall_mem_cons.mpr ⟨by repeat (first | exact List.Mem.head _ | apply List.Mem.tail), ?_⟩)); exact List.forall_mem_nil _)
local macro_rules | `(tactic| k_lt $h) => `(tactic| skip)
local macro_rules | `(tactic| k_ne) => `(tactic| (refine neN ?_; (try dsimp only); first
  | with_reducible assumption | (with_reducible exact Ne.symm (by assumption)) | (with_reducible exact Neq.out (by assumption)) | (with_reducible exact Ne.symm (Neq.out (by assumption)))
  | (refine newNe (by assumption) ?_; (repeat (first | with_reducible exact InA.head | with_reducible apply InA.tail)); done) | (refine newNe' (by assumption) ?_; (repeat (first | with_reducible exact InA.head | with_reducible apply InA.tail)); done) | (with_reducible exact Nat.ne_of_lt (by assumption)) | (with_reducible exact Nat.ne_of_gt (by assumption)) | (refine newNeT (by assumption) (by assumption) ?_; (repeat (first | with_reducible exact InA.head | with_reducible apply InA.tail)); done) | (refine newNeT' (by assumption) (by assumption) ?_; (repeat (first | with_reducible exact InA.head | with_reducible apply InA.tail)); done) | omega))
set_option maxHeartbeats 8000000 in
theorem holds : PySem.Challenge.rw_pf0368_01.Holds := hd (by
  w_top off
  w_strict (k_go0; (all_goals try k_fold); (repeat' (first | ((with_reducible show wpAny _ _ (execs (_ :: _) _) _ _ _); (k_here; (with_reducible show wpAny _ _ (execs (Stmt.Expr _ _ :: _) _) _ _ _); refine stopHere ?_)) | (k_unfold; (try dsimp only)) | (k_end; wrow_close) | walk1 | (dsimp only; walk1) | (leave1; walk_say "STEP leave1"; try dsimp only) | fail "no step")); refine Hold.mk ?_; (rename News _ _ _ _ => lN); (rename Fr _ _ _ _ => lF)
            refine wpAny_mono (stage2 (tm := _) (below_caller _) lF (by k_asm) (by k_asm) (reord1 lN) (by assumption) (by rw [List.length_take]; exact Nat.min_le_left _ _) (by assumption) (by assumption) (by assumption) (by assumption) (by assumption) (by assumption) (by assumption) ⟨by rfl, by rfl, by rfl, by rfl, by rfl, by rfl, by rfl, ⟨_, by rfl⟩⟩ (by rfl) (Nat.le_of_ble_eq_true rfl) (by (first | ((refine newLt (by assumption) ?_; (repeat (first | with_reducible exact InA.head | with_reducible apply InA.tail)); done)) | ktr_room)) (by (first | ((refine newLt (by assumption) ?_; (repeat (first | with_reducible exact InA.head | with_reducible apply InA.tail)); done)) | ktr_room)) (by (first | ((refine newLt (by assumption) ?_; (repeat (first | with_reducible exact InA.head | with_reducible apply InA.tail)); done)) | ktr_room)) (by (first | ((refine newLt (by assumption) ?_; (repeat (first | with_reducible exact InA.head | with_reducible apply InA.tail)); done)) | ktr_room)) (by (first | ((refine newLt (by assumption) ?_; (repeat (first | with_reducible exact InA.head | with_reducible apply InA.tail)); done)) | ktr_room)) (by (first | ((refine newLt (by assumption) ?_; (repeat (first | with_reducible exact InA.head | with_reducible apply InA.tail)); done)) | ktr_room)) (by (first | ((refine newLt (by assumption) ?_; (repeat (first | with_reducible exact InA.head | with_reducible apply InA.tail)); done)) | ktr_room)) ?_) (fun _ _ h => h) (fun _ _ h => h.elim)
            intro h9 tk9 m9 F9
            (repeat' (first | ((with_reducible show wpAny _ _ (execs (_ :: _) _) _ _ _); (k_here; (with_reducible show wpAny _ _ (execs (Stmt.Expr _ _ :: _) _) _ _ _); refine stopHere ?_)) | (k_unfold; (try dsimp only)) | (k_end; wrow_close) | walk1 | (dsimp only; walk1) | (leave1; walk_say "STEP leave1"; try dsimp only) | fail "no step"))))
end Mine
theorem PySem.Challenge.cw_pf0368_01_holds : PySem.Challenge.rw_pf0368_01.Holds := by
  exact Mine.holds
