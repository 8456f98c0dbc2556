import PyProof.Rows.All
import Wide.All
import OpenK.AllK
import Wide.FinOn
import Lean
import PySem.Challenge.RW_up0070_01
open PySem PySem.W PySem.Spec PySem.Calls PyProof.Rows
set_option Elab.async false
set_option compiler.extract_closed false
set_option rowWalk.seconds 0
set_option maxRecDepth 100000
namespace Mine
-- a fact is taken apart behind a goal that is hidden: the goal is not written anew at each part
local macro_rules | `(tactic| obtain $p:rcasesPatMed := $e:term) => `(tactic| (refine Classical.byContradiction fun k => ?_; rcases $e:term with $p:rcasesPatMed; (all_goals (refine k ?_; clear k))))
/-- the one stack that the claim runs on -/
abbrev Γ₀ : PySem.Ctx := ⟨.builtin "claim.caller" {}, none, none, [], none⟩

/-- what the walk must show: the run at the claim's own stack -/
abbrev WalkC (q : Program) (loose : List Str) (XP : (Str → Option Value) → Heap → Prop) (YP : World → Heap → Prop) (r : RowW) (d : DefRec) (kwd : List (Str × Expr)) : Prop :=
  ∀ (w : World) (s₀ s₁ : Shared) (mg mb : Str → Option Value), Ground q loose r.records XP w s₀ mg mb s₁.heap → YP w s₁.heap → ∀ (a : Addr) (o : Obj) (pm cd doc dV kV : Value), s₁.heap.get? a = some o →
    o.data = .func { docDef d.name d.params d.body d.scope pm cd doc with defaults := dV, kwdefaults := kV } → s₁.heap.CodeRec cd d.name → Dflts mg s₁.heap d.params kwd dV kV → mg d.name = some (.ref a) → s₁.gens = #[] →
    ∀ (args : List WData) (vals : List Value) (as : List Addr), r.claim.pre args = true → WData.layableAll args = true → ReadsAllW r.records (classAt s₀.heap) s₁.heap vals args as → WellAll w.params s₁.heap vals args → (∀ a ∈ as, (a == sysModules) = false) →
      ∀ p, Sem.wp (model r.prog w) Γ₀ (PySem.call (.ref a) vals) (fun v _ s' => GoodWG r.claim (classAt s₀.heap) (ExcName.means s₀.heap) args s₁ (.ok (.ret v)) s')
        (fun e _ s' => GoodWG r.claim (classAt s₀.heap) (ExcName.means s₀.heap) args s₁ (.error e) s') p s₁

/-- the tree that asks the global and calls it, at one stack -/
theorem wp_asked {M : Model} {name : Str} {vs : List Value} {mg : Str → Option Value} {f : Value} {s : Shared} {Q : Fin → Pos → Shared → Prop} {E : Value → Pos → Shared → Prop} {p : Pos}
    (hg : s.heap.Ns mainGlobals mg) (hf : mg name = some f) (h : ∀ p, Sem.wp M Γ₀ (PySem.call f vs) (fun v p' s' => Q (.done (.ret v)) p' s') E p s) :
    Sem.wp M Γ₀ (do match ← nsGet mainNs name with
      | some f => do ret (← PySem.call f vs)
      | none => unsupported "claim.caller:no-such-global") Q E p s := by
  rw [Sem.wp_bind']
  refine (Sem.wp_nsGet M Γ₀ _ p s hg name _).mpr ?_
  rw [hf]
  show Sem.wp M Γ₀ (PySem.call f vs >>= fun v => ret v) Q E p s
  rw [Sem.wp_bind']
  exact Sem.wp_mono _ _ _ (fun v p' s' x => x) (fun _ _ _ x => x) _ _ (h p)

theorem callFrom_of_one {c : ClaimW} {tree : List Value → Sem Fin} {w : World} {s : Shared} {free : Addr → Prop} {gens : Prop} {kept : Heap → Prop} (hz : s.asleep) (hgens : s.gens = #[])
    (hspec : ∀ args, c.pre args = true → WData.layableAll args = true → ∀ ord : List DictEntry → List DictEntry, (∀ l, (ord l).Perm l) →
      ∃ vs s₁, layAllW c.records (classAt s.heap) w.params ord args s = some (vs, s₁) ∧
        Sem.wp (model c.prog w) Γ₀ (tree vs) (fun fin _ s' => ∃ f, fin = .done f ∧ (c.Ends s args vs s₁ (.ok f) s' ∧ s'.os = s.os ∧ AllBare s'.gens ∧ kept s'.heap))
          (fun e _ s' => c.Ends s args vs s₁ (.error e) s' ∧ s'.os = s.os ∧ AllBare s'.gens ∧ kept s'.heap) default s₁) :
    c.CallFrom (fun vs => ⟨tree vs, .builtin "claim.caller" {}, default, []⟩) w free gens kept s := by
  intro args hpre hlay ord hord
  refine Classical.byContradiction fun no => ?_
  rcases hspec args hpre hlay ord hord with ⟨vs, s₁, hlaid, hcode⟩
  have hal := layAllW_rest _ _ _ hlaid
  let R : Result → Shared → Prop := fun r s' => c.Ends s args vs s₁ r s' ∧ s'.os = s.os ∧ kept s'.heap
  have hcode' : Sem.wp (model c.prog w) Γ₀ (tree vs) (Sem.finPost (model c.prog w) Γ₀ fun r s' => R r s' ∧ leftWithCleanup s'.gens = false) (fun e _ s' => R (.error e) s' ∧ leftWithCleanup s'.gens = false) default s₁ := by
    refine Sem.wp_mono _ _ _ ?_ ?_ _ _ hcode
    · intro fin p' s' hx
      rcases hx with ⟨f, rfl, hx⟩
      exact ⟨⟨hx.1, hx.2.1, hx.2.2.2⟩, leftWithCleanup_false_of_bare hx.2.2.1⟩
    · exact fun e p' s' hx => ⟨⟨hx.1, hx.2.1, hx.2.2.2⟩, leftWithCleanup_false_of_bare hx.2.2.1⟩
  rcases wp_halts_full (M := model c.prog w) (R := R) (Shared.asleep_of_life hal.2.2.2 hz) hcode' with ⟨k, r, s', s'', hsched, hrun, hfo, hcase, hos, hkp⟩
  rcases Shared.forget_eq hfo with ⟨eh, _, _, eo, _⟩
  have hlife : s''.heap.life = s.heap.life := (runN_life _ _ _ hrun).trans hal.2.2.2
  have hcase' := hcase.congr (s' := s'') eh
  rw [← eh] at hkp
  rw [← eo] at hos
  refine no ⟨vs, s₁, hlaid, k, _, s'', hsched, ?_, (fun _ i x hx => by rw [hgens] at hx; simp at hx), hkp, by rw [hlife], Shared.rest_eq hos⟩
  rcases hcase' with ⟨v, rfl, d1, d2, d3, d4, d5⟩ | ⟨e, ob, cls, rfl, d1, d2, d3, d4, d5⟩
  · exact .inl ⟨v, rfl, d1, d2, d3, fun b o y _ => d4 b o y, d5⟩
  · exact .inr ⟨e, ob, cls, rfl, d1, d2, d3, d4, fun b o y _ => d5 b o y⟩

/-- the head, its walk asked at the one stack -/
theorem PySem.W.holds_open {r : OpenRow} {q : Program} {loose : List Str} {Xt : Shared → Bool} {XP : (Str → Option Value) → Heap → Prop} {α : Type} {Yf : Shared → α} {Ya : World → α} {YP : World → Heap → Prop} {d : DefRec} {kwd : List (Str × Expr)} {N : Nat}
    (left : LeftO r.prog q loose Xt Yf Ya N) (hY : ∀ w s, Yf s = Ya w → YP w s.heap) (hYk : ∀ w h h', YP w h → (∀ b o, h.get? b = some o → h'.get? b = some o) → YP w h')
    (hX : ∀ s, Xt s = true → XP (s.heap.nsMap mainGlobals) s.heap) (hXk : ∀ mg h h', XP mg h → (∀ b o, h.get? b = some o → h'.get? b = some o) → XP mg h')
    (hdef : defOf q r.name = some (d, kwd)) (hp : r.prog.theDef r.name = some (d.params, d.body, d.scope)) (hk : kwWritten? d.params.kwonlyargs d.params.kw_defaults = some kwd) (hRf : ∀ s, Xt s = true → RecFacts r.records s.heap) (hwr : (!r.writes || r.records.isEmpty) = true)
    (k1 : r.wellSaid = true) (ok : (chainsOk q && opensWell r.prog && (frees r.toRowW && r.within.isEmpty)) = true) (hb : r.prog.bare) (hw : r.toRowW.promised)
    (walk : WalkC q loose XP YP r.toRowW d kwd) : r.Holds := by
  obtain ⟨ok1, k5⟩ := Bool.and_eq_true_iff.mp ok
  obtain ⟨hch, o1⟩ := Bool.and_eq_true_iff.mp ok1
  obtain ⟨k5, k6⟩ := Bool.and_eq_true_iff.mp k5
  obtain ⟨hsame, hu, ha, hap, hm⟩ := frees_parts k5
  refine ⟨k1, hw, ⟨hb, o1, by show r.makers.map _ = []; rw [hm]; rfl⟩, hw.witness, fun w => ?_⟩
  have behind := left.behind (XP := fun mg h => XP mg h ∧ RecFacts r.records h) (fun s hs => ⟨hX s hs, hRf s hs⟩) hch w
  refine ⟨behind.1, fun s' hs' => ?_⟩
  obtain ⟨s₀, hf, _, s, hT, hz, hgens, hg, G00, y⟩ := behind.2 s' hs'
  have G0 : Ground q loose [] XP w s (s.heap.nsMap mainGlobals) (s.heap.nsMap builtinsNs) s.heap := ⟨G00.T, G00.B, G00.D, G00.TE, G00.TD, G00.W, G00.X.1, G00.cls, G00.has, G00.apart, G00.once, G00.K⟩
  have RF := G00.X.2
  have hgens : s.gens = #[] := Array.eq_empty_of_size_eq_zero (beq_iff_eq.mp hgens)
  refine ⟨s₀, hf, by assumption, s, hT, fun n hn => ?_, RF.1, RF.2.1, ?_⟩
  · obtain rfl : n = r.name := by
      split at hn <;> simp_all
    exact pinned_of_view hg G0 hdef hp hk
  · have G : Ground q loose r.records XP w s _ _ s.heap := RF.ground G0
    refine callFrom_of_one (c := r.toRowW.claim) hz hgens fun args hpre hlay ord hord => ?_
    obtain ⟨⟨vs, s₁⟩, hlaid⟩ := Option.isSome_iff_exists.mp (layAllW_isSome (P := w.params) (ord := ord) G.has args r.args s (pre_splitW hpre).1)
    have keeps := layAllW_keeps _ _ _ hlaid
    have hal := layAllW_rest _ _ _ hlaid
    obtain ⟨as, hrd, hin, hold⟩ := reads_layAllW hord _ _ _ hlaid hlay s₁.heap (fun _ _ e => e)
    have L : Laid r.records w s s₁ args vs as := ⟨⟨ord, hord, hlaid⟩, hrd, hin, hold, keeps, hal.1.trans hgens, hal.2.2.1⟩
    have G₁ := G.keeps hXk keeps
    obtain ⟨a, o, pm, cd, doc, dV, kV, h1, h2, h3, h4, h5⟩ := G₁.fn hdef
    have h := walk w s s₁ _ _ G₁ (hYk _ _ _ (hY w s y) keeps) a o pm cd doc dV kV h2 h3 h4 h5 (defOf_name hdef ▸ h1) L.gens args vs as hpre hlay L.reads L.well (L.low G.low)
    have hi := ident_freeW hu ha hap
    have hwi : r.toRowW.claim.within = [] := List.isEmpty_iff.mp k6
    have done : ∀ res s', GoodWG r.toRowW.claim (classAt s.heap) (ExcName.means s.heap) args s₁ res s' → r.toRowW.claim.Ends s args vs s₁ res s' ∧ s'.os = s.os ∧ AllBare s'.gens ∧
        (r.writes = true → namesKept r.prog r.keeps s.heap s'.heap ∧ ∀ x ∈ r.records, ∀ a, classAt s.heap x.1 = some a → recordClass s'.heap a x.1 (x.2.map (·.1)) = true) := fun res s' g =>
      have z := g.laid (c := r.toRowW.claim) hsame hwi hi L
      ⟨z.1, z.2.1, z.2.2, fun q => ⟨namesKept_of hT hg r.keeps keeps g.2.1.old, noTable hwr q⟩⟩
    refine ⟨vs, s₁, hlaid, wp_asked G₁.T.g h1 fun p => Sem.wp_mono _ _ _ (fun v p' s' g => ⟨_, rfl, done _ _ g⟩) (fun e p' s' g => done _ _ g) _ _ (h p)⟩

/-- a mark: the head's own line is at work -/
def Marked : Prop := True
theorem keepAll {G A B C : Prop} (g : G) (_ : A ∧ B ∧ C) : G := g
theorem keep {G : Prop} {p q : Program} {loose : List Str} {Xt : Shared → Bool} {α : Type} {Yf : Shared → α} {Ya : World → α} {N : Nat} (g : G) (_ : LeftO p q loose Xt Yf Ya N) : G := g

/-- the top's run, the two ways of the world's one choice looked at apart -/
theorem of_two {p q : Program} {loose : List Str} {Xt : Shared → Bool} {α : Type} {Yf : Shared → α} {Ya : World → α} {N : Nat} {g0 : Bool} (row : String)
    (h1 : ∀ w : World, (fencedOpening treeTable p w N).map (fun s₀ => (topFrom treeTable p (w.withFollow row false) N s₀).map (fun s => (openSeen q loose (importedModules p.main.body) Xt g0 s, Yf s))) = some (some (openGood q loose, Ya (w.withFollow row false))))
    (h2 : ∀ w : World, (fencedOpening treeTable p w N).map (fun s₀ => (topFrom treeTable p (w.withFollow row true) N s₀).map (fun s => (openSeen q loose (importedModules p.main.body) Xt g0 s, Yf s))) = some (some (openGood q loose, Ya (w.withFollow row true)))) : LeftO p q loose Xt Yf Ya N g0 := fun w => by
  have e := World.withFollow_self w row
  unfold openEnds
  cases hb : w.params.followText row <;> rw [hb] at e
  · have h := h1 w
    rw [e] at h
    rcases Option.map_eq_some_iff.mp h with ⟨s₀, a, b⟩
    rw [a]; exact b
  · have h := h2 w
    rw [e] at h
    rcases Option.map_eq_some_iff.mp h with ⟨s₀, a, b⟩
    rw [a]; exact b
set_option maxHeartbeats 0 in
theorem law_ok : OpenLaw.wellSaid PySem.Challenge.rw_up0070_01 = true := by
  delta OpenLaw.wellSaid
  repeat' (first | (with_reducible refine look_both ?_ ?_) | delta OpenRow.wellSaid | delta OpenRow.partSaid | delta looksOpen)
  all_goals (as_aux_lemma => kernel_rfl)

set_option hygiene false in
local macro_rules | `(tactic| o_law) => `(tactic| (refine' keepAll ?mm0 ?all; case' mm0 => refine holds_law law_ok fun said => ?_))
set_option hygiene false in
local macro_rules | `(tactic| k_head) => `(tactic| (
  fail_if_success (have : Marked := by with_reducible assumption)
  have mark : Marked := trivial
  refine' keep ?mm ?hl
  case' hl => refine' of_two "special-get-raises" ?z1 ?z2
  case' mm => k_head
  case' z1 => refine' And.left (And.right ?all)
  case' z2 => refine' And.right (And.right ?all)
  case' hc => refine' And.left ?all))

set_option maxHeartbeats 8000000 in
open_top hd for PySem.Challenge.rw_up0070_01
/-- the two looks at the top's run, each by itself -/
abbrev Look1 {A B C G : Prop} (_ : A ∧ B ∧ C → G) : Prop := B
abbrev Look2 {A B C G : Prop} (_ : A ∧ B ∧ C → G) : Prop := C
set_option maxHeartbeats 0 in
theorem look1 : Look1 hd := by
  intro w
  kernel_rfl
set_option maxHeartbeats 0 in
theorem look2 : Look2 hd := by
  intro w
  kernel_rfl
theorem fresh_Base : True := by
  w_top off
  exact trivial

/-- room for a call: what is left is enough -/
theorem om_r0 {a c k : Nat} (h : a + c < k) : a < k := Nat.lt_of_le_of_lt (Nat.le_add_right a c) h
theorem om_r1 {a b c k : Nat} (h : a + c < k) (e : Nat.ble b c = true) : a + b < k := Nat.lt_of_le_of_lt (Nat.add_le_add_left (Nat.le_of_ble_eq_true e) a) h
theorem om_r2 {a b d c k : Nat} (h : a + c < k) (e : Nat.ble (b + d) c = true) : a + b + d < k := by rw [Nat.add_assoc]; exact om_r1 h e
theorem om_gt {a b : Nat} (h : b < a) : a ≠ b := Nat.ne_of_gt h
theorem om_lt {a b : Nat} (h : a < b) : a ≠ b := Nat.ne_of_lt h
theorem om_sy {a b : Nat} (h : b ≠ a) : a ≠ b := Ne.symm h
theorem list2 {α : Type} : ∀ {l : List α}, l.length = 2 → ∃ a b, l = [a, b]
  | [a, b], _ => ⟨a, b, rfl⟩
theorem list13 {α : Type} : ∀ {l : List α}, 1 ≤ l.length ∧ l.length ≤ 3 → ∃ p q r, l = [p] ∨ l = [p, q] ∨ l = [p, q, r]
  | [p], _ => ⟨p, p, p, .inl rfl⟩
  | [p, q], _ => ⟨p, q, p, .inr (.inl rfl)⟩
  | [p, q, r], _ => ⟨p, q, r, .inr (.inr rfl)⟩
/-- the addresses that lie below one, as they are read -/
def LtAll (d : Nat) : List (Addr × Obj) → Prop
  | [] => True
  | [p] => @LT.lt Nat _ p.1 d
  | p :: q :: r => @LT.lt Nat _ p.1 d ∧ LtAll d (q :: r)
def closedL : List (Addr × Obj) → Bool
  | [] => true
  | _ :: r => closedL r
theorem ltAll_of {d : Nat} : ∀ {l : List (Addr × Obj)}, AllLt d l → closedL l = true → LtAll d l
  | [], _, _ => trivial
  | [_], h, _ => h.1
  | _ :: q :: r, h, c => ⟨h.1, ltAll_of (l := q :: r) h.2 c⟩
theorem news_one {h₀ h : Heap} {L : Addr} {news : List (Addr × Obj)} {q : Addr × Obj} (N : News h₀ L h news) (hm : q ∈ news) : News h₀ L h [q] := fun p hp => by rw [List.mem_singleton.mp hp]; exact N q hm
theorem news_cons {h₀ h : Heap} {L : Addr} {news : List (Addr × Obj)} {q : Addr × Obj} (N : News h₀ L h news) (n : News h₀ L h [q]) : News h₀ L h (q :: news) := fun p hp => (List.mem_cons.mp hp).elim (fun e => e ▸ n q (.head _)) (N p)
theorem news_le {h₀ h : Heap} {L : Addr} {l l' : List (Addr × Obj)} (N : News h₀ L h l) (e : ∀ q ∈ l', q ∈ l) : News h₀ L h l' := fun q hq => N q (e q hq)
-- a ledger within a ledger
local macro_rules | `(tactic| walk_at "mine mem") => `(tactic| first | with_reducible assumption | exact List.Mem.head _ | (refine List.mem_cons_of_mem _ ?_; walk_at "mine mem") | (refine List.mem_append_left _ ?_; walk_at "mine mem") | (refine List.mem_append_right _ ?_; walk_at "mine mem"))
local macro_rules | `(tactic| walk_at "mine sub") => `(tactic| repeat' (first | exact List.forall_mem_nil _ | refine List.forall_mem_cons.mpr ⟨by walk_at "mine mem", ?_⟩ | refine List.forall_mem_append.mpr ⟨?_, ?_⟩ | (intro q' hq'; walk_at "mine mem")))
local macro_rules | `(tactic| walk_at "mine subq") => `(tactic| (refine (?_ : ∀ q ∈ _, q ∈ _) _ (by assumption); walk_at "mine sub"))
local macro_rules | `(tactic| walk_at "mine ne") => `(tactic| repeat (first | exact List.forall_mem_nil _ | refine List.forall_mem_cons.mpr ⟨by ((try dsimp only); omega), ?_⟩))
-- small proofs first where a big procedure would stand: a fact of the context, a part of one, the room for a call, closed numbers
local macro_rules | `(tactic| walk_at "om rt") => `(tactic| ((iterate 17 (first | done | with_reducible assumption | apply And.right)); done))
local macro_rules | `(tactic| walk_at "om part") => `(tactic| first | walk_at "om rt" | (apply And.left; walk_at "om rt"))
local macro_rules | `(tactic| walk_at "om room") => `(tactic| first
  | (refine' om_r2 ?h ?e; (case h => with_reducible assumption); (case e => exact rfl))
  | (refine' om_r1 ?h ?e; (case h => with_reducible assumption); (case e => exact rfl))
  | (refine' om_r0 ?h; (case h => with_reducible assumption)))
local macro_rules | `(tactic| omega) => `(tactic| first
  | (with_reducible show @Ne Nat _ _); (first | walk_at "om part" | (refine om_gt ?_; walk_at "om part") | (refine om_lt ?_; walk_at "om part") | (refine om_sy ?_; walk_at "om part"))
  | (with_reducible show @LT.lt Nat _ _ _); (first | walk_at "om room" | (exact Nat.le_of_ble_eq_true rfl))
  | (with_reducible show @LE.le Nat _ _ _); (exact Nat.le_of_ble_eq_true rfl)
  | decide
  | lia)
-- the order of the addresses
local macro_rules | `(tactic| k_lt $h) => `(tactic| (replace $h := allLt_of $h; (first | (replace $h := ltAll_of $h rfl; dsimp only [LtAll] at $h:ident) | dsimp only [AllLt] at $h:ident)))
local macro_rules | `(tactic| walk_at "mine lt") => `(tactic| try ((rename ∀ p ∈ _, _ < _ => l9); k_lt l9))
abbrev topA (dp un : Nat) (gd : Option (List Code)) (outer : List Env) : Around :=
  { handled := none, depth := dp, frames := some outer, guards := gd, units := un }

/-- a call that changes nothing that stood before it -/
def Spec (prog : Program) (w : World) (f : Addr) (args : List Value) (d u : Nat) (pre : Heap → Prop) (Post : Heap → Value → Heap → Prop) : Prop :=
  ∀ (p : Program) (loose : List Str) (mean : ExcName → Option Value) (mg mb : Str → Option Value)
    (dp un : Nat) (gd : Option (List Code)) (outer : List Env) (base : Heap) (s : Shared) (Q E : Value → Shared → Prop),
    Below (topA dp un gd outer) base outer s.heap → (hd.heap_1 w.params).In s.heap → Top p loose mean mg mb s.heap →
    dp + d < recursionLimit → un + u < cLine → pre s.heap →
    (∀ v h' tk', s.heap.StaysIn h' → s.heap.objs.size ≤ h'.objs.size → Post s.heap v h' → Q v { s with heap := h', toks := tk' }) →
    wpAny (model prog w) (topA dp un gd outer) (call (.ref f) args) Q E s

section
variable {prog : Program} {w : World} {p : Program} {loose : List Str} {mean : ExcName → Option Value} {mg mb : Str → Option Value}
  {dp un : Nat} {gd : Option (List Code)} {outer : List Env} {base : Heap} {s : Shared} {Q E : Value → Shared → Prop} {K : Frag}

theorem enter {name qual : Str} {params : Arguments} {body : List Stmt} {scope : Scope} {dV kV doc pm cdv ct oc : Value} {an od : Option Addr} {osl : Array (Option Value)} {f : Addr} {vals : List Value} {binds : List (Str × Value)}
    (X : K.In s.heap) (T : Top p loose mean mg mb s.heap)
    (ho : K.lookup f = some ⟨oc, od, .func (fnOf name qual params body scope dV kV doc pm an cdv ct), osl⟩) (hcd : codeIn K cdv qual = true) (hroom : dp < recursionLimit)
    (hbind : BindsTo s (fnOf name qual params body scope dV kV doc pm an cdv ct) ⟨vals, []⟩ binds) (hloc : ∀ y ∈ binds, scope.names.lookup y.1 = some .local)
    (h : ∀ L' h₁, Fr s.heap L' h₁ (fun y => binds.reverse.lookup y) → News s.heap L' h₁ [] →
      wpAny (model prog w) ((topA dp un gd outer).deeper (envOf qual scope L' f cdv)) (execs body (envOf qual scope L' f cdv))
        (fun fl s' => Q (match fl with | .ret v => v | _ => .none) s')
        (fun e s' => wpAny (model prog w) ((topA dp un gd outer).deeper (envOf qual scope L' f cdv)) (leaving (envOf qual scope L' f cdv) e) (fun _ s'' => E e s'') (fun e' s'' => E e' s'') s')
        { s with heap := h₁, toks := s.toks + binds.length })
    (hco : scope.isCoroutine = false := by rfl) (hgen : scope.isGenerator = false := by rfl) (hk : scope.kind = .function := by rfl)
    (hcell : ∀ x ∈ scope.names, x.2 ≠ .cell := by decide) :
    wpAny (model prog w) (topA dp un gd outer) (call (.ref f) vals) Q E s := by
  refine wpAny_call (codeAny_call_def (fd := fnOf name qual params body scope dV kV doc pm an cdv ct) (body := body) (binds := binds) hroom (X _ _ ho) rfl T.nolimit (codeRec_of X hcd) rfl hbind hcell hloc (fun h₁ hns hk₁ => ?_) hco hgen hk)
  exact h _ h₁ ⟨hns, hk₁, Nat.le_refl _⟩ News.nil

theorem enterN {name qual : Str} {params : Arguments} {body : List Stmt} {scope : Scope} {dV kV doc pm cdv ct oc : Value} {an od : Option Addr} {osl : Array (Option Value)} {f : Addr} {vals : List Value}
    (X : K.In s.heap) (T : Top p loose mean mg mb s.heap)
    (ho : K.lookup f = some ⟨oc, od, .func (fnOf name qual params body scope dV kV doc pm an cdv ct), osl⟩) (hcd : codeIn K cdv qual = true) (hroom : dp < recursionLimit)
    (hbind : bindArgs (fnOf name qual params body scope dV kV doc pm an cdv ct) ⟨vals, []⟩ = pure ((params.args.map (·.arg)).zip vals)) (hloc : ∀ y ∈ (params.args.map (·.arg)).zip vals, scope.names.lookup y.1 = some .local)
    (h : ∀ L' h₁, Fr s.heap L' h₁ (fun y => ((params.args.map (·.arg)).zip vals).reverse.lookup y) → News s.heap L' h₁ [] →
      wpAny (model prog w) ((topA dp un gd outer).deeper (envOf qual scope L' f cdv)) (execs body (envOf qual scope L' f cdv))
        (fun fl s' => Q (match fl with | .ret v => v | _ => .none) s') (fun _ _ => False)
        { s with heap := h₁, toks := s.toks + ((params.args.map (·.arg)).zip vals).length })
    (hco : scope.isCoroutine = false := by rfl) (hgen : scope.isGenerator = false := by rfl) (hk : scope.kind = .function := by rfl)
    (hcell : ∀ x ∈ scope.names, x.2 ≠ .cell := by decide) :
    wpAny (model prog w) (topA dp un gd outer) (call (.ref f) vals) Q E s :=
  enter X T ho hcd hroom (BindsTo.of_eq hbind) hloc (fun L' h₁ F N => wpAny_noRaise (h L' h₁ F N)) hco hgen hk hcell

theorem enterB {name qual : Str} {params : Arguments} {body : List Stmt} {scope : Scope} {dV kV doc pm cdv ct oc : Value} {an od : Option Addr} {osl : Array (Option Value)} {f : Addr} {vals : List Value} (binds : List (Str × Value))
    (X : K.In s.heap) (T : Top p loose mean mg mb s.heap)
    (ho : K.lookup f = some ⟨oc, od, .func (fnOf name qual params body scope dV kV doc pm an cdv ct), osl⟩) (hcd : codeIn K cdv qual = true) (hroom : dp < recursionLimit)
    (hbind : BindsTo s (fnOf name qual params body scope dV kV doc pm an cdv ct) ⟨vals, []⟩ binds) (hloc : ∀ y ∈ binds, scope.names.lookup y.1 = some .local)
    (h : ∀ L' h₁, Fr s.heap L' h₁ (fun y => binds.reverse.lookup y) → News s.heap L' h₁ [] →
      wpAny (model prog w) ((topA dp un gd outer).deeper (envOf qual scope L' f cdv)) (execs body (envOf qual scope L' f cdv))
        (fun fl s' => Q (match fl with | .ret v => v | _ => .none) s') (fun _ _ => False)
        { s with heap := h₁, toks := s.toks + binds.length })
    (hco : scope.isCoroutine = false := by rfl) (hgen : scope.isGenerator = false := by rfl) (hk : scope.kind = .function := by rfl)
    (hcell : ∀ x ∈ scope.names, x.2 ≠ .cell := by decide) :
    wpAny (model prog w) (topA dp un gd outer) (call (.ref f) vals) Q E s :=
  enter X T ho hcd hroom hbind hloc (fun L' h₁ F N => wpAny_noRaise (h L' h₁ F N)) hco hgen hk hcell

theorem Spec.use {f : Addr} {args : List Value} {d u : Nat} {pre : Heap → Prop} {Post : Heap → Value → Heap → Prop}
    {h₀ : Heap} {L : Addr} {m : Str → Option Value} {news : List (Addr × Obj)} {A A₀ : Around} {env : Env}
    (S : Spec prog w f args d u pre Post)
    (B : Below A₀ base outer h₀) (F : Fr h₀ L s.heap m) (X : (hd.heap_1 w.params).In h₀) (N : News h₀ L s.heap news) (T : Top p loose mean mg mb h₀)
    (hA : A = topA dp un gd (env :: outer)) (hf : env.frame = some L) (hk : env.scope.kind = .function)
    (hd : dp + d < recursionLimit) (hu : un + u < cLine) (hp : pre s.heap)
    (h : ∀ v h' tk', Fr h₀ L h' m → News h₀ L h' news → s.heap.StaysIn h' → s.heap.objs.size ≤ h'.objs.size → Post s.heap v h' → Q v { s with heap := h', toks := tk' }) :
    wpAny (model prog w) A (call (.ref f) args) Q E s := by
  subst hA
  have B' := pushX B F hf hk
  refine S p loose mean mg mb dp un gd (env :: outer) base s Q E ⟨rfl, B'.stays, B'.frames⟩ (X.keeps F.keep) (T.keeps F.keep) hd hu hp fun v h' tk' st sz po => ?_
  obtain ⟨oL, es, ep, hL, r⟩ := F.ns
  exact h v h' tk' ⟨⟨oL, es, ep, st _ _ hL, r⟩, fun b o e => st _ _ (F.keep b o e), F.above⟩ (fun q hq => ⟨st _ _ (N q hq).1, (N q hq).2⟩) st sz po

end

/-- a new list of ints -/
def NewInts (ns : List Int) (h : Heap) (v : Value) (h' : Heap) : Prop :=
  ∃ l vs c, v = .ref l ∧ h'.get? l = some (listOf vs.toArray c) ∧ h.objs.size ≤ l ∧ IntsAre vs ns

def RetInt (x : Int) (_h : Heap) (v : Value) (_h' : Heap) : Prop := ∃ t, v = .int x t

theorem fr_size {h₀ h : Heap} {L : Addr} {m : Str → Option Value} (F : Fr h₀ L h m) : h₀.objs.size ≤ h.objs.size := Nat.le_of_lt (Nat.lt_of_le_of_lt F.above F.ns.lt)

section
variable {s : Shared} {Q : Value → Shared → Prop} {L : Addr} {m : Str → Option Value} {h' : Heap} {tk' : Nat} {news : List (Addr × Obj)}
theorem ret_int {x y : Int} {t : Tok} (hret : ∀ v h' tk', s.heap.StaysIn h' → s.heap.objs.size ≤ h'.objs.size → RetInt x s.heap v h' → Q v { s with heap := h', toks := tk' })
    (F : Fr s.heap L h' m) (e : y = x) : Q (.int y t) { s with heap := h', toks := tk' } := by
  subst e
  exact hret _ _ _ F.keep (fr_size F) ⟨t, rfl⟩
theorem ret_ints {ns : List Int} {l : Addr} {vs : List Value} {c : Nat} (hret : ∀ v h' tk', s.heap.StaysIn h' → s.heap.objs.size ≤ h'.objs.size → NewInts ns s.heap v h' → Q v { s with heap := h', toks := tk' })
    (F : Fr s.heap L h' m) (N : News s.heap L h' news) (hm : (l, listOf vs.toArray c) ∈ news) (hl : s.heap.objs.size ≤ l) (e : IntsAre vs ns) : Q (.ref l) { s with heap := h', toks := tk' } :=
  hret _ _ _ F.keep (fr_size F) ⟨l, vs, c, rfl, (N _ hm).1, hl, e⟩
end

section
variable {M : Model} {A : Around} {E : Value → Shared → Prop} {s : Shared} {h₀ : Heap} {L : Addr} {m : Str → Option Value} {news : List (Addr × Obj)}
theorem newList_M {vs : List Value} {Q : Value → Shared → Prop} (F : Fr h₀ L s.heap m) (N : News h₀ L s.heap news)
    (h : ∀ l h', Fr h₀ L h' m → News h₀ L h' ((l, listOf vs.toArray 0) :: news) → (∀ p ∈ news, p.1 < l) → h₀.objs.size ≤ l → Q (.ref l) { s with heap := h' }) (hsz : vs.length ≤ sizeLine := by size_fits) : wpAny M A (newList vs) Q E s :=
  newList_N F N (fun h' F' N' => h _ h' F' N' (fun p hp => Heap.lt_size (N p hp).1) (fr_size F)) hsz
theorem newTuple_M {vs : List Value} {Q : Value → Shared → Prop} (F : Fr h₀ L s.heap m) (N : News h₀ L s.heap news)
    (h : ∀ l h', Fr h₀ L h' m → News h₀ L h' ((l, { cls := .type "tuple", data := .seq vs.toArray }) :: news) → (∀ p ∈ news, p.1 < l) → h₀.objs.size ≤ l → Q (.ref l) { s with heap := h' }) (hsz : vs.length ≤ sizeLine := by size_fits) : wpAny M A (newTuple vs) Q E s :=
  newTuple_N F N (fun h' F' N' => h _ h' F' N' (fun p hp => Heap.lt_size (N p hp).1) (fr_size F)) hsz
end

section
variable {prog : Program} {w : World} {p : Program} {loose : List Str} {mean : ExcName → Option Value} {mg mb : Str → Option Value}
  {dp un : Nat} {gd : Option (List Code)} {outer : List Env} {base : Heap} {s : Shared} {Q E : Value → Shared → Prop}
  {f : Addr} {args : List Value} {d u : Nat} {pre : Heap → Prop} {h₀ : Heap} {L : Addr} {m : Str → Option Value} {news : List (Addr × Obj)} {A A₀ : Around} {env : Env}

/-- a call that gives back an int -/
theorem Spec.useInt {x : Int}
    (S : Spec prog w f args d u pre (RetInt x))
    (B : Below A₀ base outer h₀ := by k_asm) (F : Fr h₀ L s.heap m := by k_asm) (X : (hd.heap_1 w.params).In h₀ := by k_asm) (N : News h₀ L s.heap news := by k_asm) (T : Top p loose mean mg mb h₀ := by k_asm)
    (hA : A = topA dp un gd (env :: outer) := by exact rfl) (hf : env.frame = some L := by exact rfl) (hk : env.scope.kind = .function := by exact rfl)
    (hd : dp + d < recursionLimit := by walk_at "mine room") (hu : un + u < cLine := by walk_at "mine room") (hp : pre s.heap := by first | exact True.intro | assumption)
    (h : ∀ t h' tk', Fr h₀ L h' m → News h₀ L h' news → Q (.int x t) { s with heap := h', toks := tk' }) :
    wpAny (model prog w) A (call (.ref f) args) Q E s :=
  S.use B F X N T hA hf hk hd hu hp fun v h' tk' F' N' _ _ po => by
    obtain ⟨t, rfl⟩ := po
    exact h t h' tk' F' N'

/-- a call that gives back a new list of ints -/
theorem Spec.useInts {ns : List Int}
    (S : Spec prog w f args d u pre (NewInts ns))
    (B : Below A₀ base outer h₀ := by k_asm) (F : Fr h₀ L s.heap m := by k_asm) (X : (hd.heap_1 w.params).In h₀ := by k_asm) (N : News h₀ L s.heap news := by k_asm) (T : Top p loose mean mg mb h₀ := by k_asm)
    (hA : A = topA dp un gd (env :: outer) := by exact rfl) (hf : env.frame = some L := by exact rfl) (hk : env.scope.kind = .function := by exact rfl)
    (hd : dp + d < recursionLimit := by walk_at "mine room") (hu : un + u < cLine := by walk_at "mine room") (hp : pre s.heap := by first | exact True.intro | assumption)
    (h : ∀ l vs c h' tk', Fr h₀ L h' m → News h₀ L h' ((l, listOf vs.toArray c) :: news) → (∀ p ∈ news, p.1 < l) → h₀.objs.size ≤ l → IntsAre vs ns → Q (.ref l) { s with heap := h', toks := tk' }) :
    wpAny (model prog w) A (call (.ref f) args) Q E s :=
  S.use B F X N T hA hf hk hd hu hp fun v h' tk' F' N' _ _ po => by
    obtain ⟨l, vs, c, rfl, hg, hl, hi⟩ := po
    have hL : L < l := Nat.lt_of_lt_of_le F.ns.lt hl
    refine h l vs c h' tk' F' (fun q hq => ?_) (fun q hq => Nat.lt_of_lt_of_le (Heap.lt_size (N q hq).1) hl) (Nat.le_trans (fr_size F) hl) hi
    rcases List.mem_cons.mp hq with rfl | hq
    · refine ⟨hg, Nat.ne_of_gt hL, ?_⟩
      cases e : h₀.get? l with
      | none => rfl
      | some o => exact absurd (Heap.lt_size (F.keep _ _ e)) (Nat.not_lt.mpr hl)
    · exact N' q hq
end
section
variable {prog : Program} {w : World} {A : Around} {E : Value → Shared → Prop} {s : Shared}
/-- an item of a list at a place in it -/
theorem item_at {value slice : Expr} {l : Addr} {vs : List Value} {k : Int} {u : Tok} {v : Value} {Q : Value → Shared → Prop}
    (hl : s.heap.IsList l vs.toArray) (h0 : 0 ≤ k) (h1 : k < 2 ^ 63) (hx : vs[k.toNat]? = some v) (h : Q v s)
    (hs : subscripted slice false (.ref l) (.int k u) = operate [.ref l, .int k u] (getItem (.ref l) (.int k u)) := by with_unfolding_all rfl) :
    wpAny (model prog w) A (subscriptTail value slice (.ref l) (.int k u)) Q E s :=
  tail_any hl.typeIs slot_list_getitem.lookup (wpAny_getItem_list hl h0 h1 (by simpa using hx) h) hs
theorem item_ints {value slice : Expr} {l : Addr} {vs : List Value} {ns : List Int} {k : Int} {u : Tok} {Q : Value → Shared → Prop}
    (hl : s.heap.IsList l vs.toArray) (hi : IntsAre vs ns) (h0 : 0 ≤ k) (h1 : k < ns.length) (hz : ns.length < 2 ^ 62) (h : ∀ t, Q (.int (ns.getD k.toNat 0) t) s)
    (hs : subscripted slice false (.ref l) (.int k u) = operate [.ref l, .int k u] (getItem (.ref l) (.int k u)) := by with_unfolding_all rfl) :
    wpAny (model prog w) A (subscriptTail value slice (.ref l) (.int k u)) Q E s := by
  have hlt : k.toNat < ns.length := by omega
  obtain ⟨t, hx⟩ := hi.get k.toNat (ns.getD k.toNat 0) (by simp [List.getD_eq_getElem?_getD, hlt])
  exact item_at hl h0 (by omega) hx (h t) hs
theorem and_lit {a b r : Int} {t u : Tok} {Q : Value → Shared → Prop} (e : Builtin.bitAnd a b = r) (h : Q (.int r s.toks) { s with toks := s.toks + 1 }) : wpAny (model prog w) A (binaryOp .BitAnd (.int a t) (.int b u)) Q E s :=
  and_int (e ▸ h)
end
theorem fresh_Clean : True := by
  w_top off
  exact trivial
/-- the codes that a bytearray's resize looks for -/
def hotIds : List String := ["bytearray.__contains__", "bytearray.__mod__", "bytearray.__rmod__", "_struct.pack_into.held", "bytearray.find.held"] ++ Builtin.Bytes.decodersThatHold
def okCode : Code → Bool
  | .builtin id _ => !hotIds.contains id
  | _ => true
def ClS (l : List (Code × Pos)) : Prop := ∀ x ∈ l, okCode x.1 = true

/-- the run at every stack that fits the Around and bears no such code -/
def wpC {α : Type} (M : Model) (A : Around) (t : Sem α) (Q : α → Shared → Prop) (E : Value → Shared → Prop) (s : Shared) : Prop :=
  ∀ Γ p, Γ.In A → okCode Γ.code = true → ClS Γ.below → Sem.wp M Γ t (fun a _ s' => Q a s') (fun e _ s' => E e s') p s
def codeC (M : Model) (A : Around) (c : Code) (R : Result → Shared → Prop) (s : Shared) : Prop :=
  ∀ Γ p, Γ.code = c → Γ.Below A → ClS Γ.below → wpCode M Γ R p s

section
variable {α β : Type} {M : Model} {A : Around} {E : Value → Shared → Prop} {s : Shared}

theorem wpC_any {t : Sem α} {Q : α → Shared → Prop} (h : wpAny M A t Q E s) : wpC M A t Q E s := fun Γ p hΓ _ _ => h Γ p hΓ
theorem codeC_any {c : Code} {R : Result → Shared → Prop} (h : codeAny M A c R s) : codeC M A c R s := fun Γ p hc hΓ _ => h Γ p hc hΓ
theorem wpC_pure {a : α} {Q : α → Shared → Prop} (h : Q a s) : wpC M A (pure a) Q E s := wpC_any (wpAny_pure h)
theorem wpC_mono {t : Sem α} {Q Q' : α → Shared → Prop} {E' : Value → Shared → Prop} (h : wpC M A t Q E s) (hQ : ∀ a s, Q a s → Q' a s) (hE : ∀ e s, E e s → E' e s) : wpC M A t Q' E' s :=
  fun Γ p hΓ o b => Sem.wp_mono M Γ t (fun a _ s => hQ a s) (fun e _ s => hE e s) p s (h Γ p hΓ o b)
theorem wpC_bind {m : Sem α} {f : α → Sem β} {Q : β → Shared → Prop} (h : wpC M A m (fun a s' => wpC M A (f a) Q E s') E s) : wpC M A (m >>= f) Q E s :=
  fun Γ p hΓ o b => by
    rw [Sem.wp_bind']
    exact Sem.wp_mono M Γ m (fun a p' s' h' => h' Γ p' hΓ o b) (fun _ _ _ h' => h') p s (h Γ p hΓ o b)
theorem wpC_bindA {m : Sem α} {f : α → Sem β} {Q : β → Shared → Prop} (h : wpAny M A m (fun a s' => wpC M A (f a) Q E s') E s) : wpC M A (m >>= f) Q E s := wpC_bind (wpC_any h)
theorem wpC_holding {vs : List Value} {m : Sem α} {Q : α → Shared → Prop} (h : wpC M A m Q E s) : wpC M A (holding vs m) Q E s :=
  fun Γ p hΓ o b => by rw [Sem.wp_holding]; exact h Γ p hΓ o b
theorem wpC_keep {vs : List Value} {m : Sem α} {Q : α → Shared → Prop} (h : wpC M A m Q E s) : wpC M A (m.keep vs) Q E s :=
  fun Γ p hΓ o b => by rw [Sem.wp_keep]; exact h Γ p hΓ o b
theorem wpC_onRaise {m : Sem α} {k : Value → Sem Unit} {Q : α → Shared → Prop} (h : wpC M A m Q (fun e s' => wpAny M A (k e) (fun _ s'' => E e s'') E s') s) : wpC M A (m.onRaise k) Q E s :=
  fun Γ p hΓ o b => by
    rw [Sem.wp_onRaise]
    exact Sem.wp_mono M Γ m (fun _ _ _ h' => h') (fun e p' s' h' => h' Γ p' hΓ) p s (h Γ p hΓ o b)
theorem wpC_tryCatch {m : Sem α} {k : Value → Sem α} {Q : α → Shared → Prop} (h : wpC M A m Q (fun e s' => wpC M A (k e) Q E s') s) : wpC M A (tryCatch m k) Q E s :=
  fun Γ p hΓ o b => by
    rw [Sem.wp_tryCatch']
    exact Sem.wp_mono M Γ m (fun _ _ _ h' => h') (fun e p' s' h' => h' Γ p' hΓ o b) p s (h Γ p hΓ o b)
theorem wpC_of_eq {t u : Sem α} {Q : α → Shared → Prop} (e : t = u) (h : wpC M A u Q E s) : wpC M A t Q E s := e ▸ h
theorem wpC_in1 {t : Sem α} {Q : α → Shared → Prop} (h : wpC M A.in1 t Q E s) : wpC M A t Q E s :=
  fun Γ p hΓ o b => h Γ p ⟨hΓ.1, hΓ.2.1, hΓ.2.2.1, hΓ.2.2.2.1, Nat.le_succ_of_le hΓ.2.2.2.2⟩ o b
theorem codeC_mono {c : Code} {R R' : Result → Shared → Prop} (h : codeC M A c R s) (hR : ∀ r s, R r s → R' r s) : codeC M A c R' s :=
  fun Γ p hc hΓ b => wpCode_mono hR (h Γ p hc hΓ b)

theorem wpC_run {c : Code} {h : Option Value} {Q : Flow → Shared → Prop}
    (hc : codeC M (A.mark h) c (fun r s' => match r with | .ok f => Q f s' | .error e => E e s') s) (hnb : h ≠ some byPass := by intro x; cases x) : wpC M A (run c h) Q E s :=
  fun Γ p hΓ o b => by
    rw [Sem.wp_run]
    refine hc _ p rfl (hΓ.enter c h p hnb) fun x hx => ?_
    rcases List.mem_cons.mp hx with rfl | hx
    · exact o
    · exact b x hx
theorem wpC_call {f : Value} {pos : List Value} {kw : List (Str × Value)} {Q : Value → Shared → Prop}
    (hc : codeC M A (.call f ⟨pos, kw⟩) (fun r s' => match r with | .ok (.ret v) => Q v s' | .ok _ => False | .error e => E e s') s) : wpC M A (call f pos kw) Q E s :=
  fun Γ p hΓ o b => by
    unfold PySem.call
    rw [Sem.wp_runValue]
    refine hc _ p rfl (hΓ.enter _ none p (by intro x; cases x)) fun x hx => ?_
    rcases List.mem_cons.mp hx with rfl | hx
    · exact o
    · exact b x hx
theorem codeC_of_tree {c : Code} {R : Result → Shared → Prop} (ok : okCode c = true)
    (h : wpC M (A.under c) (M.den c) (fun fin s' => match fin with | .done f => R (.ok f) s' | .again c' => c'.quiet = true ∧ codeC M A c' R s') (fun e s' => R (.error e) s') s) : codeC M A c R s :=
  fun Γ p hc hΓ b => by
    rw [wpCode_iff_wp, hc]
    refine Sem.wp_mono M Γ _ (fun fin p' s' h' => ?_) (fun _ _ _ h' => h') p s (h Γ p (hc ▸ hΓ.in) (by rw [hc]; exact ok) b)
    cases fin with
    | done f => exact h'
    | again c' => exact ⟨h'.1, h'.2 (Γ.goto c') p' rfl (hΓ.goto c') b⟩
theorem codeC_loop {c : Code} {R : Result → Shared → Prop} (hq : c.quiet = true) (ok : okCode c = true) (I : Nat → Shared → Prop)
    (turn : ∀ n s, I n s → wpC M (A.under c) (M.den c)
      (fun fin s' => match fin with
        | .done f => R (.ok f) s'
        | .again c' => (c' = c ∧ ∃ m, m < n ∧ I m s') ∨ (c'.quiet = true ∧ codeC M A c' R s')) (fun e s' => R (.error e) s') s)
    (n : Nat) (h : I n s) : codeC M A c R s := by
  induction n using Nat.strongRecOn generalizing s with
  | ind n ih =>
    refine codeC_of_tree ok (wpC_mono (turn n s h) (fun fin s' hf => ?_) fun _ _ h' => h')
    cases fin with
    | done f => exact hf
    | again c' =>
      rcases hf with ⟨rfl, m, hm, hI⟩ | hf
      · exact ⟨hq, ih m hm hI⟩
      · exact hf

theorem any_none {α : Type} {f : α → Bool} {l : List α} (h : ∀ x ∈ l, f x = false) : l.any f = false := List.any_eq_false.mpr fun x hx => by rw [h x hx]; decide
/-- the look of a bytearray's resize, at such a stack: none holds it -/
theorem not_held {self : Value} {Q : Bool → Shared → Prop} (h : Q false s) : wpC M A (Builtin.Bytes.exported self) Q E s := by
  intro Γ p _ o b
  unfold Builtin.Bytes.exported
  rw [Sem.wp_bind']
  show Sem.wp M Γ (.stack .pure) _ _ p s
  rw [Sem.wp_stack, Sem.wp_pure, Sem.wp_pure']
  refine (congrArg (fun b => Q b s) (any_none ?_)).mpr h
  intro x hx
  have hc : okCode x.1 = true := by
    rcases List.mem_cons.mp hx with rfl | hx
    · exact o
    · exact b x hx
  clear hx
  obtain ⟨c, q⟩ := x
  cases c with
  | builtin id args =>
    obtain ⟨pos, kw⟩ := args
    have hn : ∀ x ∈ hotIds, id ≠ x := fun x hx e => by
      subst e
      have : okCode (.builtin id ⟨pos, kw⟩) = !hotIds.contains id := rfl
      rw [this, List.contains_iff_mem.mpr hx] at hc
      cases hc
    have h1 := hn "bytearray.__contains__" (by decide)
    have h2 := hn "bytearray.__mod__" (by decide)
    have h3 := hn "bytearray.__rmod__" (by decide)
    have h4 := hn "_struct.pack_into.held" (by decide)
    have h5 := hn "bytearray.find.held" (by decide)
    have h6 : Builtin.Bytes.decodersThatHold.contains id = false := by
      cases q : Builtin.Bytes.decodersThatHold.contains id
      · rfl
      · exact absurd rfl (hn id (List.mem_append_right ["bytearray.__contains__", "bytearray.__mod__", "bytearray.__rmod__", "_struct.pack_into.held", "bytearray.find.held"] (List.contains_iff_mem.mp q)))
    clear hn hc
    delta Builtin.Bytes.exported.match_1 Builtin.Bytes.exported._sparseCasesOn_1
    dsimp only
    refine (dif_neg h1).trans ?_
    refine (dif_neg h2).trans ?_
    refine (dif_neg h3).trans ?_
    refine (dif_neg h4).trans ?_
    refine (dif_neg h5).trans ?_
    cases pos with
    | nil => rfl
    | cons v r => exact (congrArg (Builtin.Bytes.sameRef v self && ·) h6).trans (Bool.and_false _)
  | _ => rfl
end
theorem fresh_CleanS : True := by
  w_top off
  exact trivial
section
variable {M : Model} {A : Around} {E : Value → Shared → Prop} {s : Shared} {env : Env} {Q : Flow → Shared → Prop}

theorem wpC_execs_nil (h : Q .next s) : wpC M A (execs [] env) Q E s := wpC_any (wpAny_execs_nil h)
theorem wpC_execs_cons {st : Stmt} {rest : List Stmt} (h : wpC M A (exec st env) (fun f s₁ => match f with | .next => wpC M A (execs rest env) Q E s₁ | f => Q f s₁) E s) : wpC M A (execs (st :: rest) env) Q E s := by
  rw [execs_cons]
  refine wpC_bind (wpC_mono h (fun f s₁ h₁ => ?_) fun _ _ x => x)
  cases f <;> first | exact h₁ | exact wpC_pure h₁
/-- a cold statement: the plain walk, what comes behind it kept -/
theorem wpC_execs_consA {st : Stmt} {rest : List Stmt} (h : wpAny M A (exec st env) (fun f s₁ => match f with | .next => wpC M A (execs rest env) Q E s₁ | f => Q f s₁) E s) : wpC M A (execs (st :: rest) env) Q E s :=
  wpC_execs_cons (wpC_any h)
theorem wpC_Assign_Name {x : Str} {pos' pos : Pos} {value : Expr} (h : wpC M A (eval value env) (fun v s₁ => wpAny M A (storeName env x v) (fun _ => Q .next) E s₁) E s)
    (hs : swapsWith value (some (.Name x pos')) pos.line env = pure false := by rfl) : wpC M A (exec (.Assign [.Name x pos'] value pos) env) Q E s := by
  rw [exec_Assign_Name env x pos' value pos hs]
  refine wpC_bindA (wpAny_standAt (wpC_bind (wpC_mono h (fun v s₁ h₁ => ?_) fun _ _ x => x)))
  exact wpC_bindA (wpAny_standAt (wpC_bindA (wpAny_mono (wpAny_bindName h₁) (fun _ _ q => wpC_pure q) fun _ _ x => x)))
theorem wpC_Return_some {e : Expr} {pos : Pos} (h : wpC M A (eval e env) (fun v => Q (.ret v)) E s) : wpC M A (exec (.Return (some e) pos) env) Q E s := by
  rw [exec_Return_some]
  exact wpC_bindA (wpAny_standAt (wpC_bind (wpC_mono h (fun v s₁ h₁ => wpC_pure h₁) fun _ _ x => x)))
theorem wpC_runOwn {c : Code} {h : Option Value}
    (hc : codeC M (A.mark h) c (fun r s' => match r with | .ok f => Q f s' | .error e => cameBackBy M A env E e s') s) (hnb : h ≠ some byPass := by intro x; cases x) : wpC M A (runOwn c env h) Q E s := by
  unfold runOwn
  exact wpC_onRaise (wpC_run hc hnb)
theorem wpC_For {target : Expr} {iter : Expr} {body orelse : List Stmt} {pos : Pos}
    (h : wpAny M A (eval iter env) (fun x s₁ => wpAny M A (pyIter x) (fun it s₂ =>
      codeC M A (.forLoop target it body orelse env) (fun r s' => match r with | .ok f => Q f s' | .error e => cameBackBy M A env E e s') s₂) E s₁) E s)
    (hs : ∀ x, foldedSetIterable iter env x = pure x := by intro _; rfl) : wpC M A (exec (.For target iter body orelse pos) env) Q E s := by
  rw [exec_For]
  refine wpC_bindA (wpAny_standAt (wpC_bindA (wpAny_mono h (fun x s₁ h₁ => ?_) fun _ _ x => x)))
  refine wpC_bind (wpC_of_eq (hs x) (wpC_pure (wpC_bindA (wpAny_standAt (wpC_bindA (wpAny_holding (wpAny_mono h₁ (fun it s₂ h₂ => ?_) fun _ _ x => x)))))))
  exact wpC_runOwn h₂
theorem wpC_While {test : Expr} {body orelse : List Stmt} {pos : Pos}
    (h : codeC M A (.whileLoop test body orelse env) (fun r s' => match r with | .ok f => Q f s' | .error e => cameBackBy M A env E e s') s) : wpC M A (exec (.While test body orelse pos) env) Q E s := by
  rw [exec_While]
  exact wpC_bindA (wpAny_standAt (wpC_runOwn h))
end

section
variable {prog : Program} {w : World} {A : Around} {E : Value → Shared → Prop} {s : Shared} {env : Env}

theorem wpC_Expr {e : Expr} {pos : Pos} {Q : Flow → Shared → Prop} (h : wpC (model prog w) A (eval e env) (fun _ => Q .next) E s)
    (hi : interactive env = false := by rfl) (hs : swapsWith e none pos.line env = pure false := by rfl) : wpC (model prog w) A (exec (.Expr e pos) env) Q E s := by
  rw [exec_Expr env e pos hi hs]
  exact wpC_bindA (wpAny_standAt (wpC_bind (wpC_mono h (fun v s' h' => wpC_any (wpAny_dropValue h')) fun _ _ x => x)))

theorem wpC_noted {α : Type} {M : Model} {m : Sem α} {Q : α → Shared → Prop} (h : wpC M A m Q (notedBy M A env E) s) : wpC M A (m.onRaise fun x => do noteFrame x env; theTreesLotGoes x) Q E s :=
  wpC_onRaise (wpC_mono h (fun _ _ q => q) fun _ _ hx => wpAny_bind (wpAny_mono hx (fun _ _ e => wpAny_theTreesLotGoes e) fun _ _ e => e))

theorem codeC_func {body : List Stmt} {R : Result → Shared → Prop}
    (h : wpC (model prog w) (A.deeper env) (execs body env) (fun f s' => R (.ok (.ret (match f with | .ret v => v | _ => .none))) s')
      (fun e s' => wpAny (model prog w) (A.deeper env) (leaving env e) (fun _ s'' => R (.error e) s'') (fun e' s'' => R (.error e') s'') s') s) :
    codeC (model prog w) A (.func body env) R s := by
  refine codeC_of_tree rfl ?_
  show wpC _ (A.deeper env) (do point; match ← (execs body env).onRaise (leaving env) with | .ret v => ret v | _ => ret .none) _ _ s
  refine wpC_bindA (wpAny_point (wpC_bind (wpC_onRaise (wpC_mono h (fun f s' h' => ?_) fun _ _ h' => h'))))
  cases f <;> exact wpC_pure h'

theorem codeC_forLoop {R : Result → Shared → Prop} {target it body orelse} (I : Nat → Shared → Prop)
    (turn : ∀ n s, I n s → wpAny (model prog w) A (pyNext it) (fun r s₁ => match r with
      | none => wpAny (model prog w) A (execs orelse env) (fun f s₃ => R (.ok f) s₃) (notedBy (model prog w) A env fun e s' => R (.error e) s') s₁
      | some v => wpAny (model prog w) A (letOwnedTupleGo target it v) (fun _ s₁' => wpAny (model prog w) A (assign target env v) (fun _ s₂ => wpC (model prog w) A (execs body env) (fun f s₃ => match f with
          | .next | .cont => ∃ m, m < n ∧ I m s₃
          | .brk => R (.ok .next) s₃
          | .ret v => R (.ok (.ret v)) s₃) (notedBy (model prog w) A env fun e s' => R (.error e) s') s₂) (notedBy (model prog w) A env fun e s' => R (.error e) s') s₁') (notedBy (model prog w) A env fun e s' => R (.error e) s') s₁)
      (notedBy (model prog w) A env fun e s' => R (.error e) s') s)
    (n : Nat) (h : I n s) : codeC (model prog w) A (.forLoop target it body orelse env) R s := by
  refine codeC_loop rfl rfl I (fun n s hI => ?_) n h
  show wpC _ A ((forTurn target it body orelse env).onRaise (fun x => do noteFrame x env; theTreesLotGoes x)) _ _ s
  refine wpC_noted ?_
  simp only [forTurn]
  refine wpC_bindA (wpAny_standAt (wpC_bind (wpC_onRaise (wpC_any (wpAny_mono (turn n s hI) (fun r s₁ h₁ => ?_) fun _ _ h' => wpAny_standAt h')))))
  cases r with
  | none => exact wpC_pure (.inr ⟨rfl, codeC_any (codeAny_block h₁)⟩)
  | some v =>
    refine wpC_bindA (wpAny_mono h₁ (fun _ s₁' h₁' => wpC_bindA (wpAny_mono h₁' (fun _ s₂ h₂ => wpC_bind (wpC_mono h₂ (fun f s₃ h₃ => ?_) fun _ _ h' => h')) fun _ _ h' => h')) fun _ _ h' => h')
    cases f with
    | next => exact wpC_pure (.inl ⟨rfl, h₃⟩)
    | cont => exact wpC_pure (.inl ⟨rfl, h₃⟩)
    | brk => exact wpC_pure h₃
    | ret v => exact wpC_pure h₃

theorem codeC_whileLoop {R : Result → Shared → Prop} {test body orelse} (I : Nat → Shared → Prop)
    (turn : ∀ n s, I n s → wpAny (model prog w) A (isTrue test env (eval test env)) (fun b s₂ =>
        if b then wpC (model prog w) A (execs body env) (fun f s₃ => match f with
            | .next | .cont => ∃ m, m < n ∧ I m s₃
            | .brk => R (.ok .next) s₃
            | .ret v => R (.ok (.ret v)) s₃) (notedBy (model prog w) A env fun e s' => R (.error e) s') s₂
        else wpAny (model prog w) A (execs orelse env) (fun f s₃ => R (.ok f) s₃) (notedBy (model prog w) A env fun e s' => R (.error e) s') s₂)
        (notedBy (model prog w) A env fun e s' => R (.error e) s') s)
    (n : Nat) (h : I n s) : codeC (model prog w) A (.whileLoop test body orelse env) R s := by
  refine codeC_loop rfl rfl I (fun n s hI => ?_) n h
  show wpC _ A ((whileTurn test body orelse env).onRaise (fun x => do noteFrame x env; theTreesLotGoes x)) _ _ s
  refine wpC_noted ?_
  simp only [whileTurn]
  refine wpC_bindA (wpAny_mono (turn n s hI) (fun b s₂ h₂ => ?_) fun _ _ h' => h')
  cases b with
  | false =>
    simp only [Bool.false_eq_true, if_false] at h₂ ⊢
    exact wpC_bindA (wpAny_mono h₂ (fun f s₃ h₃ => wpC_pure h₃) fun _ _ h' => h')
  | true =>
    simp only [if_true] at h₂ ⊢
    refine wpC_bind (wpC_mono h₂ (fun f s₃ h₃ => ?_) fun _ _ h' => h')
    cases f with
    | next => exact wpC_pure (.inl ⟨rfl, h₃⟩)
    | cont => exact wpC_pure (.inl ⟨rfl, h₃⟩)
    | brk => exact wpC_pure h₃
    | ret v => exact wpC_pure h₃
end

section
variable {prog : Program} {w : World} {p : Program} {loose : List Str} {mean : ExcName → Option Value} {mg mb : Str → Option Value}
  {dp un : Nat} {gd : Option (List Code)} {outer : List Env} {base : Heap} {s : Shared} {Q E : Value → Shared → Prop} {K : Frag}

theorem enterC {name qual : Str} {params : Arguments} {body : List Stmt} {scope : Scope} {dV kV doc pm cdv ct oc : Value} {an od : Option Addr} {osl : Array (Option Value)} {f : Addr} {vals : List Value}
    (X : K.In s.heap) (T : Top p loose mean mg mb s.heap)
    (ho : K.lookup f = some ⟨oc, od, .func (fnOf name qual params body scope dV kV doc pm an cdv ct), osl⟩) (hcd : codeIn K cdv qual = true) (hroom : dp < recursionLimit)
    (hbind : bindArgs (fnOf name qual params body scope dV kV doc pm an cdv ct) ⟨vals, []⟩ = pure ((params.args.map (·.arg)).zip vals)) (hloc : ∀ y ∈ (params.args.map (·.arg)).zip vals, scope.names.lookup y.1 = some .local)
    (h : ∀ L' h₁, Fr s.heap L' h₁ (fun y => ((params.args.map (·.arg)).zip vals).reverse.lookup y) → News s.heap L' h₁ [] →
      wpC (model prog w) ((topA dp un gd outer).deeper (envOf qual scope L' f cdv)) (execs body (envOf qual scope L' f cdv))
        (fun fl s' => Q (match fl with | .ret v => v | _ => .none) s')
        (fun e s' => wpAny (model prog w) ((topA dp un gd outer).deeper (envOf qual scope L' f cdv)) (leaving (envOf qual scope L' f cdv) e) (fun _ s'' => E e s'') (fun e' s'' => E e' s'') s')
        { s with heap := h₁, toks := s.toks + ((params.args.map (·.arg)).zip vals).length })
    (hco : scope.isCoroutine = false := by rfl) (hgen : scope.isGenerator = false := by rfl) (hk : scope.kind = .function := by rfl)
    (hcell : ∀ x ∈ scope.names, x.2 ≠ .cell := by decide) :
    wpC (model prog w) (topA dp un gd outer) (call (.ref f) vals) Q E s := by
  refine wpC_call (codeC_of_tree rfl ?_)
  show wpC _ (topA dp un gd outer).in1 (callAny (.ref f) ⟨vals, []⟩) _ _ s
  simp only [callAny]
  refine wpC_bindA (wpAny_load (X _ _ ho) ?_)
  obtain ⟨c, oc, vs, tq, hc, hoc, hdc, hq⟩ := codeRec_of X hcd
  subst hc
  simp only [callFunction, hco, hgen]
  refine wpC_bindA (m := field (.ref c) 1) (wpAny_field hoc hdc hq ?_)
  refine wpC_bind (wpC_pure ?_)
  rw [hbind]
  refine wpC_bind (wpC_pure ?_)
  refine wpC_bindA (wpAny_newFunctionEnv hcell hloc (fun h₁ hns hsb => ?_) hk)
  refine wpC_bindA (wpAny_enterFrame (T.nolimit.fresh _ hsb) hroom ?_)
  refine wpC_pure ⟨rfl, codeC_func ?_⟩
  exact h _ h₁ ⟨hns, fun b o e => hsb.extBut b o (Nat.ne_of_lt (Heap.lt_size e)) (Heap.get?_push_of_some _ e), Nat.le_refl _⟩ News.nil
end
theorem fresh_Loops : True := by
  w_top off
  exact trivial

inductive TurnEnd {σ : Type} (h₀ : Heap) (L : Addr) (s : Shared) (Led : σ → List (Addr × Obj)) (ps : σ → List (Str × Value)) (Ok : σ → Prop) : Shared → Prop
  | mk (c' : σ) (m' : Str → Option Value) (h' : Heap) (tk' : Nat) (F : Fr h₀ L h' m') (N : News h₀ L h' (Led c')) (hk : ∀ p ∈ ps c', m' p.1 = some p.2) (ok : Ok c') : TurnEnd h₀ L s Led ps Ok { s with heap := h', toks := tk' }

theorem TurnEnd.intro {σ : Type} {h₀ : Heap} {L : Addr} {s : Shared} {Led : σ → List (Addr × Obj)} {ps : σ → List (Str × Value)} {Ok : σ → Prop} {m' : Str → Option Value} {h' : Heap} {tk' : Nat} {led : List (Addr × Obj)} (c' : σ)
    (F : Fr h₀ L h' m') (N : News h₀ L h' led) (hs : ∀ p ∈ Led c', p ∈ led) (hk : ∀ p ∈ ps c', m' p.1 = some p.2) (ok : Ok c') : TurnEnd h₀ L s Led ps Ok { s with heap := h', toks := tk' } :=
  .mk c' m' h' tk' F (fun p hp => N p (hs p hp)) hk ok

/-- where a for loop stands: the state ahead of a turn, its measure -/
inductive LoopSt {σ : Type} (h₀ : Heap) (L : Addr) (s₀ : Shared) (Led : σ → List (Addr × Obj)) (ps : σ → List (Str × Value)) (Inv : Nat → σ → Prop) (wr : List Addr) (n : Nat) (St : Nat → Heap → Prop) : Nat → Shared → Prop
  | mk (h' : Heap) (tk : Nat) (m' : Str → Option Value) (c : σ) (i : Nat) (st : St i h') (F : Fr h₀ L h' m') (N : News h₀ L h' (Led c)) (off : ∀ p ∈ Led c, p.1 ∉ wr) (hk : ∀ p ∈ ps c, m' p.1 = some p.2) (hJ : Inv i c) (hi : i ≤ n) :
      LoopSt h₀ L s₀ Led ps Inv wr n St (n + 1 - i) { s₀ with heap := h', toks := tk }
/-- where a while loop stands -/
inductive WhileSt {σ : Type} (h₀ : Heap) (L : Addr) (s : Shared) (Led : σ → List (Addr × Obj)) (ps : σ → List (Str × Value)) (Inv : σ → Prop) (mes : σ → Nat) : Nat → Shared → Prop
  | mk (h' : Heap) (tk : Nat) (m' : Str → Option Value) (c : σ) (F : Fr h₀ L h' m') (N : News h₀ L h' (Led c)) (hk : ∀ p ∈ ps c, m' p.1 = some p.2) (hJ : Inv c) : WhileSt h₀ L s Led ps Inv mes (mes c) { s with heap := h', toks := tk }
theorem less {n i : Nat} (h : i < n) : n + 1 - (i + 1) < n + 1 - i := by omega

theorem kst_self {m : Str → Option Value} {ps : List (Str × Value)} (h : ∀ p ∈ ps, m p.1 = some p.2) : kstB m ps = m :=
  funext fun z => kstB_eq h fun _ => rfl

section
variable {prog : Program} {w : World} {A : Around} {E : Value → Shared → Prop} {s : Shared} {env : Env} {h₀ : Heap} {x : Str} {body : List Stmt} {Q : Flow → Shared → Prop} {m₀ : Str → Option Value}

def ForEnd (prog : Program) (w : World) (A : Around) (h₀ : Heap) (L : Addr) (s : Shared) {σ : Type} (Led : σ → List (Addr × Obj)) (ps : σ → List (Str × Value)) (Ok : σ → Prop) (Q : Flow → Shared → Prop) (f : Flow) (s' : Shared) : Prop :=
  match f with
  | .ret v => Q (.ret v) s'
  | .brk => Q .next s'
  | _ => TurnEnd h₀ L s Led ps Ok s'

theorem whileR {σ : Type} (Led : σ → List (Addr × Obj)) (ps : σ → List (Str × Value)) (Inv : σ → Prop) (mes : σ → Nat) (c₀ : σ) {test : Expr} {pos : Pos}
    (F : Fr h₀ env.locals s.heap m₀) (N : News h₀ env.locals s.heap (Led c₀)) (hk : ∀ p ∈ ps c₀, m₀ p.1 = some p.2) (h0 : Inv c₀)
    (turn : ∀ c (u : Str → Option Value) h tk, Inv c → Fr h₀ env.locals h (kstB u (ps c)) → News h₀ env.locals h (Led c) →
      wpAny (model prog w) A (isTrue test env (eval test env)) (fun b s₂ => if b then
          wpAny (model prog w) A (execs body env) (ForEnd prog w A h₀ env.locals s Led ps (fun c' => Inv c' ∧ mes c' < mes c) Q) (fun _ _ => False) s₂
        else Q .next s₂) (fun _ _ => False) { s with heap := h, toks := tk }) :
    wpAny (model prog w) A (exec (.While test body [] pos) env) Q E s := by
  refine wpAny_While (codeAny_whileLoop (WhileSt h₀ env.locals s Led ps Inv mes) ?_ (mes c₀) (.mk s.heap s.toks m₀ c₀ F N hk h0))
  intro k s' hx
  cases hx with | mk h' tk m' c F' N' hk' hJ =>
  refine wpAny_mono (turn c m' h' tk hJ (by rw [kst_self hk']; exact F') N') (fun b s₂ h₂ => ?_) fun _ _ e => e.elim
  cases b with
  | false => exact wpAny_execs_nil h₂
  | true =>
    refine wpAny_mono h₂ (fun f s₃ h₃ => ?_) fun _ _ e => e.elim
    have go : TurnEnd h₀ env.locals s Led ps (fun c' => Inv c' ∧ mes c' < mes c) s₃ → ∃ m, m < mes c ∧ WhileSt h₀ env.locals s Led ps Inv mes m s₃ := fun hx => by
      cases hx with | mk c' m'' h₃' tk₃ F₃ N₃ hk₃ ok => exact ⟨mes c', ok.2, .mk h₃' tk₃ m'' c' F₃ N₃ hk₃ ok.1⟩
    cases f with
    | ret v => exact h₃
    | brk => exact h₃
    | cont => exact go h₃
    | next => exact go h₃
end
theorem fresh_Turns : True := by
  w_top off
  exact trivial
/-- an iterator and the target it is laid into, turn by turn -/
structure Turns (prog : Program) (w : World) (A : Around) (env : Env) (target : Expr) (I : Addr) (fp wr : List Addr) (n : Nat) (Pm : Nat → (Str → Option Value) → (Str → Option Value) → Prop) (St : Nat → Heap → Prop) : Prop where
  sub : ∀ b ∈ wr, b ∈ fp
  frame : ∀ i h h', St i h → (∀ b ∈ fp, ∀ o, h.get? b = some o → h'.get? b = some o) → St i h'
  off : env.locals ∉ fp
  live : ∀ i h, St i h → ∀ b ∈ wr, ∃ o, h.get? b = some o
  item : ∀ i (s : Shared) (m : Str → Option Value) (Q : Unit → Shared → Prop) (E : Value → Shared → Prop), i < n → St i s.heap → s.heap.Ns env.locals m →
    (∀ m' h' tk, Pm i m m' → St (i + 1) h' → h'.Ns env.locals m' → (∀ b o, b ∉ wr → b ≠ env.locals → s.heap.get? b = some o → h'.get? b = some o) → Q () { s with heap := h', toks := tk }) →
    wpAny (model prog w) A (pyNext (.ref I)) (fun r s₁ => match r with
      | none => False
      | some v => wpAny (model prog w) A (letOwnedTupleGo target (.ref I) v) (fun _ s₂ => wpAny (model prog w) A (assign target env v) Q E s₂) E s₁) E s
  done : ∀ (s : Shared) (Q : Option Value → Shared → Prop) (E : Value → Shared → Prop), St n s.heap →
    (∀ h' tk, (∀ b o, b ∉ wr → s.heap.get? b = some o → h'.get? b = some o) → Q none { s with heap := h', toks := tk }) → wpAny (model prog w) A (pyNext (.ref I)) Q E s

theorem Turns.ofWalks {prog : Program} {w : World} {A : Around} {env : Env} {x : Str} {px : Pos} {I : Addr} {fp wr : List Addr} {n : Nat} {P : Nat → Value → Prop} {St : Nat → Heap → Prop}
    (W : Walks prog w A I fp wr n P St) (hx : env.kindOf x = some .local) (hp : (env.scope.kind == .class || (env.scope.kind == .module && env.locals != env.globals)) = false)
    (hLf : env.locals ∉ fp) (hlive : ∀ i h, St i h → ∀ b ∈ wr, ∃ o, h.get? b = some o) :
    Turns prog w A env (.Name x px) I fp wr n (fun i m m' => ∃ v, P i v ∧ m' = fun y => if y = x then some v else m y) St where
  sub := W.sub
  frame := W.frame
  off := hLf
  live := hlive
  item := fun i s m Q E hi st hn hQ => W.item i s _ _ hi st fun v h' tk hP st' hk => by
    have hLw : env.locals ∉ wr := fun h => hLf (W.sub _ h)
    refine wpAny_of_eq (a := ()) rfl ?_
    refine wpAny_assign_Name (wpAny_storeName_local hx (hn.at' fun o e => hk _ o hLw e) (fun h₂ hn₂ hs₂ => ?_) hp)
    exact hQ _ h₂ _ ⟨v, hP, rfl⟩ (W.frame _ _ _ st' fun b hb o e => (hs₂.2 b fun q => hLf (q ▸ hb)).trans e) hn₂ fun b o hb hL e => hs₂.extBut b o hL (hk b o hb e)
  done := fun s Q E st hQ => W.done s Q E st hQ

theorem Turns.ofPairs {prog : Program} {w : World} {A : Around} {env : Env} {x y : Str} {px py pos : Pos} {k : Nat} {I : Addr} {fp wr : List Addr} {n : Nat} {Pt : Nat → Array Value → Prop} {St : Nat → Heap → Prop} {Mid : Nat → Addr → Heap → Prop}
    (W : WalksT prog w A I fp wr n Pt St Mid) (hh : A.handled = none) (hx : env.kindOf x = some .local) (hy : env.kindOf y = some .local) (hp : (env.scope.kind == .class || (env.scope.kind == .module && env.locals != env.globals)) = false)
    (hLf : env.locals ∉ fp) (hlive : ∀ i h, St i h → ∀ b ∈ fp, ∃ o, h.get? b = some o) (h2 : ∀ i vals, Pt i vals → vals.size = 2) :
    Turns prog w A env (.Tuple [.Name x px, .Name y py] k pos) I fp wr n (fun i m m' => ∃ a b, Pt i #[a, b] ∧ m' = fun z => if z = y then some b else if z = x then some a else m z) St where
  sub := W.sub
  frame := W.frame
  off := hLf
  live := fun i h st b hb => hlive i h st b (W.sub b hb)
  item := fun i s m Q E hi st hn hQ => W.item i s _ _ hi st fun T vals h₁ tk₁ hPt hTs hT hmid hk => by
    have hLw : env.locals ∉ wr := fun h => hLf (W.sub _ h)
    have hTw : T ∉ wr := W.apart _ _ _ hmid
    refine W.go _ _ _ i T _ _ _ hmid fun h₂ st₂ hk₂ => ?_
    have hT₂ : h₂.IsTuple T vals := hT.at fun o e => hk₂ T o hTw e
    have hn₂ : h₂.Ns env.locals m := (hn.at' fun o e => hk _ o hLw e).at' fun o e => hk₂ _ o hLw e
    obtain ⟨a, b, rfl⟩ : ∃ a b, vals = #[a, b] := by
      obtain ⟨l⟩ := vals
      obtain ⟨a, b, e⟩ := list2 (l := l) (h2 i _ hPt)
      exact ⟨a, b, congrArg Array.mk e⟩
    refine wpAny_assign_Tuple hh hT₂ rfl rfl fun h₃ hs₃ => ?_
    have hfp : ∀ b ∈ fp, b < h₂.objs.size := fun b hb => by
      obtain ⟨o, ho⟩ := hlive _ _ st₂ b hb
      exact Heap.lt_size ho
    have hL₂ : env.locals < h₂.objs.size := hn₂.lt
    have st₃ : St (i + 1) h₃ := W.frame _ _ _ st₂ fun b hb o e => hs₃ b o (Nat.ne_of_lt (hfp b hb)) e
    have hn₃ : h₃.Ns env.locals m := hn₂.at' fun o e => hs₃ _ o (Nat.ne_of_lt hL₂) e
    show wpAny _ _ (assignInOrder [assign (.Name x px) env, assign (.Name y py) env] [a, b]) _ _ _
    simp only [assignInOrder]
    refine wpAny_bind (wpAny_holding (wpAny_assign_Name (wpAny_storeName_local hx hn₃ (fun h₄ hn₄ hs₄ => ?_) hp)))
    refine wpAny_bind (wpAny_holding (wpAny_assign_Name (wpAny_storeName_local hy hn₄ (fun h₅ hn₅ hs₅ => ?_) hp)))
    refine wpAny_pure ?_
    refine hQ _ h₅ _ ⟨a, b, hPt, rfl⟩ (W.frame _ _ _ st₃ fun b hb o e => (hs₅.2 b fun q => hLf (q ▸ hb)).trans ((hs₄.2 b fun q => hLf (q ▸ hb)).trans e)) hn₅ fun b o hb hL e => ?_
    have e₂ := hk₂ b o hb (hk b o hb e)
    exact hs₅.extBut b o hL (hs₄.extBut b o hL (hs₃ b o (Nat.ne_of_lt (Heap.lt_size e₂)) e₂))
  done := fun s Q E st hQ => W.done s Q E st hQ

section
variable {prog : Program} {w : World} {A : Around} {E : Value → Shared → Prop} {s s₀ : Shared} {env : Env} {h₀ : Heap} {body : List Stmt} {Q : Flow → Shared → Prop} {m₀ : Str → Option Value}

theorem own_of {h : Heap} : ∀ l : List Addr, (∀ b ∈ l, ∃ o, h.get? b = some o) → ∃ own : List (Addr × Obj), own.map (·.1) = l ∧ ∀ p ∈ own, h.get? p.1 = some p.2
  | [], _ => ⟨[], rfl, fun _ h => nomatch h⟩
  | b :: r, hb => by
    obtain ⟨own, e1, e2⟩ := own_of r fun b' hb' => hb b' (.tail _ hb')
    obtain ⟨o, ho⟩ := hb b (.head _)
    refine ⟨(b, o) :: own, by simp [e1], fun p hp => ?_⟩
    rcases List.mem_cons.mp hp with rfl | hp
    · exact ho
    · exact e2 p hp

/-- one turn of either rule: what the body is given, what it must leave -/
theorem turn_frame {σ : Type} {Led : σ → List (Addr × Obj)} {target : Expr} {I : Addr} {fp wr : List Addr} {n : Nat} {Pm : Nat → (Str → Option Value) → (Str → Option Value) → Prop} {St : Nat → Heap → Prop}
    (W : Turns prog w A env target I fp wr n Pm St) (hwr : ∀ b ∈ wr, h₀.get? b = none) {i : Nat} {c : σ} {h' h₂ : Heap} {m' m₂ : Str → Option Value}
    (F' : Fr h₀ env.locals h' m') (N' : News h₀ env.locals h' (Led c)) (hnw' : ∀ p ∈ Led c, p.1 ∉ wr)
    (st₂ : St (i + 1) h₂) (hn₂ : h₂.Ns env.locals m₂) (hk : ∀ b o, b ∉ wr → b ≠ env.locals → h'.get? b = some o → h₂.get? b = some o) :
    ∃ own : List (Addr × Obj), own.map (·.1) = wr ∧ OwnOff own ((Led c).map (·.1)) ∧ Fr h₀ env.locals h₂ m₂ ∧ News h₀ env.locals h₂ (Led c ++ own) := by
  have hLw : env.locals ∉ wr := fun h => W.off (W.sub _ h)
  obtain ⟨own, hmap, hget⟩ := own_of wr (W.live _ _ st₂)
  refine ⟨own, hmap, fun p hp b hb e => ?_, ⟨hn₂, fun b o e => hk b o (fun hb => by rw [hwr b hb] at e; cases e) (Nat.ne_of_lt (Nat.lt_of_lt_of_le (Heap.lt_size e) F'.above)) (F'.keep b o e), F'.above⟩, fun p hp => ?_⟩
  · obtain ⟨q, hq, rfl⟩ := List.mem_map.mp hb
    exact hnw' q hq (e ▸ (hmap ▸ List.mem_map.mpr ⟨p, hp, rfl⟩ : p.1 ∈ wr))
  · rcases List.mem_append.mp hp with hp | hp
    · exact ⟨hk _ _ (hnw' p hp) (N' p hp).2.1 (N' p hp).1, (N' p hp).2⟩
    · have hw : p.1 ∈ wr := hmap ▸ List.mem_map.mpr ⟨p, hp, rfl⟩
      exact ⟨hget p hp, fun q => hLw (q ▸ hw), hwr _ hw⟩

theorem turn_after {σ : Type} {Led : σ → List (Addr × Obj)} {target : Expr} {I : Addr} {fp wr : List Addr} {n : Nat} {Pm : Nat → (Str → Option Value) → (Str → Option Value) → Prop} {St : Nat → Heap → Prop}
    (W : Turns prog w A env target I fp wr n Pm St)
    (hfp : ∀ b ∈ fp, b ∈ wr ∨ (∃ o, h₀.get? b = some o) ∨ (∃ o, ∀ c, (b, o) ∈ Led c)) {i : Nat} {c c' : σ} {h₂ h₃ : Heap} {m₂ m₃ : Str → Option Value} {own : List (Addr × Obj)}
    (hmap : own.map (·.1) = wr) (F₂ : Fr h₀ env.locals h₂ m₂) (N₂ : News h₀ env.locals h₂ (Led c ++ own)) (st₂ : St (i + 1) h₂) (F₃ : Fr h₀ env.locals h₃ m₃) (N₃ : News h₀ env.locals h₃ (Led c' ++ own)) : St (i + 1) h₃ := by
  refine W.frame _ _ _ st₂ fun b hb o e => ?_
  rcases hfp b hb with hb | ⟨o', ho'⟩ | ⟨o', ho'⟩
  · obtain ⟨q, hq, rfl⟩ := List.mem_map.mp (hmap ▸ hb : b ∈ own.map (·.1))
    have e3 := (N₂ q (List.mem_append_right _ hq)).1
    rw [e] at e3
    cases e3
    exact (N₃ q (List.mem_append_right _ hq)).1
  · have e3 := F₂.keep b o' ho'
    rw [e] at e3
    cases e3
    exact F₃.keep b o ho'
  · have e3 := (N₂ _ (List.mem_append_left _ (ho' c))).1
    rw [e] at e3
    cases e3
    exact (N₃ _ (List.mem_append_left _ (ho' c'))).1

/-- a for loop at the clean stacks: any target, any raise -/
theorem forTC {σ : Type} (Led : σ → List (Addr × Obj)) (ps : σ → List (Str × Value)) (Inv : Nat → σ → Prop) (c₀ : σ) {hh : Heap} {tk0 : Nat} {target : Expr} {I : Addr} {fp wr : List Addr} {n : Nat} {Pm : Nat → (Str → Option Value) → (Str → Option Value) → Prop} {St : Nat → Heap → Prop}
    (W : Turns prog w A env target I fp wr n Pm St) (hwr : ∀ b ∈ wr, h₀.get? b = none)
    (hfp : ∀ b ∈ fp, b ∈ wr ∨ (∃ o, h₀.get? b = some o) ∨ (∃ o, ∀ c, (b, o) ∈ Led c))
    (hst : St 0 hh) (F : Fr h₀ env.locals hh m₀) (N : News h₀ env.locals hh (Led c₀)) (hnw : ∀ p ∈ Led c₀, p.1 ∉ wr) (hk : ∀ p ∈ ps c₀, m₀ p.1 = some p.2) (h0 : Inv 0 c₀)
    (turn : ∀ i c (u m' : Str → Option Value) h tk own, i < n → Pm i (kstB u (ps c)) m' → Inv i c → OwnOff own ((Led c).map (·.1)) →
      Fr h₀ env.locals h m' → News h₀ env.locals h (Led c ++ own) →
      wpC (model prog w) A (execs body env) (ForEnd prog w A h₀ env.locals s₀ (fun c' => Led c' ++ own) ps (fun c' => OwnOff own ((Led c').map (·.1)) ∧ Inv (i + 1) c') Q) (notedBy (model prog w) A env (cameBackBy (model prog w) A env E)) { s₀ with heap := h, toks := tk })
    (done : ∀ c (u : Str → Option Value) h tk, Inv n c → Fr h₀ env.locals h (kstB u (ps c)) → News h₀ env.locals h (Led c) → Q .next { s₀ with heap := h, toks := tk }) :
    codeC (model prog w) A (.forLoop target (.ref I) body [] env) (fun r s' => match r with | .ok f => Q f s' | .error e => cameBackBy (model prog w) A env E e s') { s₀ with heap := hh, toks := tk0 } := by
  have hLw : env.locals ∉ wr := fun h => W.off (W.sub _ h)
  have old : ∀ b o, h₀.get? b = some o → b ∉ wr := fun b o e hb => by rw [hwr b hb] at e; cases e
  refine codeC_forLoop (LoopSt h₀ env.locals s₀ Led ps Inv wr n St) ?_ (n + 1) (.mk hh tk0 m₀ c₀ 0 hst F N hnw hk h0 (Nat.zero_le _))
  intro k s' hx
  cases hx with | mk h' tk m' c i hst' F' N' hnw' hk' hJ hi =>
  by_cases hlt : i < n
  · refine wpAny_mono (W.item i _ m' (fun _ s₂ => wpC (model prog w) A (execs body env) (fun f s₃ => match f with
          | .next | .cont => ∃ m, m < n + 1 - i ∧ LoopSt h₀ env.locals s₀ Led ps Inv wr n St m s₃
          | .brk => Q .next s₃
          | .ret v => Q (.ret v) s₃) (notedBy (model prog w) A env (cameBackBy (model prog w) A env E)) s₂)
        (notedBy (model prog w) A env (cameBackBy (model prog w) A env E)) hlt hst' F'.ns fun m₂ h₂ tk₂ hPm st₂ hn₂ hk₂ => ?_) (fun r s₁ h₁ => ?_) fun _ _ e => e
    · obtain ⟨own, hmap, hoo, F₂, N₂⟩ := turn_frame W hwr F' N' hnw' st₂ hn₂ hk₂
      refine wpC_mono (turn i c m' m₂ h₂ tk₂ own hlt (by rw [kst_self hk']; exact hPm) hJ hoo F₂ N₂) (fun f s₃ h₃ => ?_) fun _ _ e => e
      have go : TurnEnd h₀ env.locals s₀ (fun c' => Led c' ++ own) ps (fun c' => OwnOff own ((Led c').map (·.1)) ∧ Inv (i + 1) c') s₃ → ∃ m, m < n + 1 - i ∧ LoopSt h₀ env.locals s₀ Led ps Inv wr n St m s₃ := fun hx => by
        cases hx with | mk c' m'' h₃' tk₃ F₃ N₃ hk₃ ok =>
        refine ⟨n + 1 - (i + 1), less hlt, .mk h₃' tk₃ m'' c' (i + 1) (turn_after W hfp hmap F₂ N₂ st₂ F₃ N₃) F₃ (fun p hp => N₃ p (List.mem_append_left _ hp)) (fun q hq hw => ?_) hk₃ ok.2 hlt⟩
        obtain ⟨p, hp, e⟩ := List.mem_map.mp (hmap ▸ hw : q.1 ∈ own.map (·.1))
        exact ok.1 p hp q.1 (List.mem_map.mpr ⟨q, hq, rfl⟩) e
      cases f with
      | ret v => exact h₃
      | brk => exact h₃
      | cont => exact go h₃
      | next => exact go h₃
    · cases r with
      | none => exact h₁.elim
      | some v => exact h₁
  · obtain rfl : i = n := Nat.le_antisymm hi (Nat.le_of_not_lt hlt)
    refine W.done _ _ _ hst' fun h₁ tk₁ hk₁ => wpAny_execs_nil ?_
    exact done c m' h₁ tk₁ hJ (by rw [kst_self hk']; exact ⟨F'.ns.at' fun o e => hk₁ _ o hLw e, fun b o e => hk₁ b o (old b o e) (F'.keep b o e), F'.above⟩) (fun p hp => ⟨hk₁ _ _ (hnw' p hp) (N' p hp).1, (N' p hp).2⟩)

/-- a for loop, any target, no raise -/
theorem forTA {σ : Type} (Led : σ → List (Addr × Obj)) (ps : σ → List (Str × Value)) (Inv : Nat → σ → Prop) (c₀ : σ) {hh : Heap} {tk0 : Nat} {target : Expr} {I : Addr} {fp wr : List Addr} {n : Nat} {Pm : Nat → (Str → Option Value) → (Str → Option Value) → Prop} {St : Nat → Heap → Prop}
    (W : Turns prog w A env target I fp wr n Pm St) (hwr : ∀ b ∈ wr, h₀.get? b = none)
    (hfp : ∀ b ∈ fp, b ∈ wr ∨ (∃ o, h₀.get? b = some o) ∨ (∃ o, ∀ c, (b, o) ∈ Led c))
    (hst : St 0 hh) (F : Fr h₀ env.locals hh m₀) (N : News h₀ env.locals hh (Led c₀)) (hnw : ∀ p ∈ Led c₀, p.1 ∉ wr) (hk : ∀ p ∈ ps c₀, m₀ p.1 = some p.2) (h0 : Inv 0 c₀)
    (turn : ∀ i c (u m' : Str → Option Value) h tk own, i < n → Pm i (kstB u (ps c)) m' → Inv i c → OwnOff own ((Led c).map (·.1)) →
      Fr h₀ env.locals h m' → News h₀ env.locals h (Led c ++ own) →
      wpAny (model prog w) A (execs body env) (ForEnd prog w A h₀ env.locals s₀ (fun c' => Led c' ++ own) ps (fun c' => OwnOff own ((Led c').map (·.1)) ∧ Inv (i + 1) c') Q) (fun _ _ => False) { s₀ with heap := h, toks := tk })
    (done : ∀ c (u : Str → Option Value) h tk, Inv n c → Fr h₀ env.locals h (kstB u (ps c)) → News h₀ env.locals h (Led c) → Q .next { s₀ with heap := h, toks := tk }) :
    codeAny (model prog w) A (.forLoop target (.ref I) body [] env) (fun r s' => match r with | .ok f => Q f s' | .error e => cameBackBy (model prog w) A env E e s') { s₀ with heap := hh, toks := tk0 } := by
  have hLw : env.locals ∉ wr := fun h => W.off (W.sub _ h)
  have old : ∀ b o, h₀.get? b = some o → b ∉ wr := fun b o e hb => by rw [hwr b hb] at e; cases e
  refine codeAny_forLoop_any (LoopSt h₀ env.locals s₀ Led ps Inv wr n St) ?_ (n + 1) (.mk hh tk0 m₀ c₀ 0 hst F N hnw hk h0 (Nat.zero_le _))
  intro k s' hx
  cases hx with | mk h' tk m' c i hst' F' N' hnw' hk' hJ hi =>
  by_cases hlt : i < n
  · refine wpAny_mono (W.item i _ m' (fun _ s₂ => wpAny (model prog w) A (execs body env) (fun f s₃ => match f with
          | .next | .cont => ∃ m, m < n + 1 - i ∧ LoopSt h₀ env.locals s₀ Led ps Inv wr n St m s₃
          | .brk => Q .next s₃
          | .ret v => Q (.ret v) s₃) (notedBy (model prog w) A env (cameBackBy (model prog w) A env E)) s₂)
        (notedBy (model prog w) A env (cameBackBy (model prog w) A env E)) hlt hst' F'.ns fun m₂ h₂ tk₂ hPm st₂ hn₂ hk₂ => ?_) (fun r s₁ h₁ => ?_) fun _ _ e => e
    · obtain ⟨own, hmap, hoo, F₂, N₂⟩ := turn_frame W hwr F' N' hnw' st₂ hn₂ hk₂
      refine wpAny_mono (turn i c m' m₂ h₂ tk₂ own hlt (by rw [kst_self hk']; exact hPm) hJ hoo F₂ N₂) (fun f s₃ h₃ => ?_) fun _ _ e => e.elim
      have go : TurnEnd h₀ env.locals s₀ (fun c' => Led c' ++ own) ps (fun c' => OwnOff own ((Led c').map (·.1)) ∧ Inv (i + 1) c') s₃ → ∃ m, m < n + 1 - i ∧ LoopSt h₀ env.locals s₀ Led ps Inv wr n St m s₃ := fun hx => by
        cases hx with | mk c' m'' h₃' tk₃ F₃ N₃ hk₃ ok =>
        refine ⟨n + 1 - (i + 1), less hlt, .mk h₃' tk₃ m'' c' (i + 1) (turn_after W hfp hmap F₂ N₂ st₂ F₃ N₃) F₃ (fun p hp => N₃ p (List.mem_append_left _ hp)) (fun q hq hw => ?_) hk₃ ok.2 hlt⟩
        obtain ⟨p, hp, e⟩ := List.mem_map.mp (hmap ▸ hw : q.1 ∈ own.map (·.1))
        exact ok.1 p hp q.1 (List.mem_map.mpr ⟨q, hq, rfl⟩) e
      cases f with
      | ret v => exact h₃
      | brk => exact h₃
      | cont => exact go h₃
      | next => exact go h₃
    · cases r with
      | none => exact h₁.elim
      | some v => exact h₁
  · obtain rfl : i = n := Nat.le_antisymm hi (Nat.le_of_not_lt hlt)
    refine W.done _ _ _ hst' fun h₁ tk₁ hk₁ => wpAny_execs_nil ?_
    exact done c m' h₁ tk₁ hJ (by rw [kst_self hk']; exact ⟨F'.ns.at' fun o e => hk₁ _ o hLw e, fun b o e => hk₁ b o (old b o e) (F'.keep b o e), F'.above⟩) (fun p hp => ⟨hk₁ _ _ (hnw' p hp) (N' p hp).1, (N' p hp).2⟩)

theorem forR {σ : Type} (Led : σ → List (Addr × Obj)) (ps : σ → List (Str × Value)) (Inv : Nat → σ → Prop) (c₀ : σ) {hh : Heap} {tk0 : Nat} {x : Str} {px : Pos} {I : Addr} {fp wr : List Addr} {n : Nat} {P : Nat → Value → Prop} {St : Nat → Heap → Prop}
    (W : Walks prog w A I fp wr n P St) (hx : env.kindOf x = some .local)
    (hp : (env.scope.kind == .class || (env.scope.kind == .module && env.locals != env.globals)) = false)
    (hLf : env.locals ∉ fp) (hwr : ∀ b ∈ wr, h₀.get? b = none)
    (hfp : ∀ b ∈ fp, b ∈ wr ∨ (∃ o, h₀.get? b = some o) ∨ (∃ o, ∀ c, (b, o) ∈ Led c))
    (hlive : ∀ i h, St i h → ∀ b ∈ wr, ∃ o, h.get? b = some o)
    (hst : St 0 hh) (F : Fr h₀ env.locals hh m₀) (N : News h₀ env.locals hh (Led c₀)) (hnw : ∀ p ∈ Led c₀, p.1 ∉ wr) (hk : ∀ p ∈ ps c₀, m₀ p.1 = some p.2) (h0 : Inv 0 c₀)
    (turn : ∀ i v c (u : Str → Option Value) h tk own, i < n → P i v → Inv i c → OwnOff own ((Led c).map (·.1)) →
      Fr h₀ env.locals h (fun y => if y = x then some v else kstB u (ps c) y) → News h₀ env.locals h (Led c ++ own) →
      wpAny (model prog w) A (execs body env) (ForEnd prog w A h₀ env.locals s₀ (fun c' => Led c' ++ own) ps (fun c' => OwnOff own ((Led c').map (·.1)) ∧ Inv (i + 1) c') Q) (fun _ _ => False) { s₀ with heap := h, toks := tk })
    (done : ∀ c (u : Str → Option Value) h tk, Inv n c → Fr h₀ env.locals h (kstB u (ps c)) → News h₀ env.locals h (Led c) → Q .next { s₀ with heap := h, toks := tk }) :
    codeAny (model prog w) A (.forLoop (.Name x px) (.ref I) body [] env) (fun r s' => match r with | .ok f => Q f s' | .error e => cameBackBy (model prog w) A env E e s') { s₀ with heap := hh, toks := tk0 } :=
  forTA (s₀ := s₀) Led ps Inv c₀ (Turns.ofWalks W hx hp hLf hlive) hwr hfp hst F N hnw hk h0 (fun i c u m' h tk own hi hP hJ hoff F' N' => let ⟨v, hv, e⟩ := hP; turn i v c u h tk own hi hv hJ hoff (e ▸ F') N') done
end
theorem fresh_Iter : True := by
  w_top off
  exact trivial

theorem OwnOff.cons {own : List (Addr × Obj)} {r : List Addr} {l : Addr} (h : AllLt l own) (hr : OwnOff own r) : OwnOff own (l :: r) := fun p hp b hb => by
  rcases List.mem_cons.mp hb with rfl | hb
  · exact Nat.ne_of_lt (kst_ltOf h p hp)
  · exact hr p hp b hb
theorem OwnOff.nil {own : List (Addr × Obj)} : OwnOff own [] := fun _ _ _ hb => nomatch hb
theorem OwnOff.append {o₁ o₂ : List (Addr × Obj)} {r : List Addr} (h₁ : OwnOff o₁ r) (h₂ : OwnOff o₂ r) : OwnOff (o₁ ++ o₂) r := fun p hp => (List.mem_append.mp hp).elim (h₁ p) (h₂ p)

section
variable {prog : Program} {w : World} {A : Around} {E : Value → Shared → Prop} {s : Shared} {env : Env} {h₀ : Heap} {x : Str} {px : Pos} {body : List Stmt} {Q : Flow → Shared → Prop} {m₀ : Str → Option Value}

/-- the loop behind an iterator -/
abbrev LoopGoes (prog : Program) (w : World) (A : Around) (x : Str) (px : Pos) (body : List Stmt) (env : Env) (Q : Flow → Shared → Prop) (E : Value → Shared → Prop) (it : Value) (s₂ : Shared) : Prop :=
  codeAny (model prog w) A (.forLoop (.Name x px) it body [] env) (fun r s' => match r with | .ok f => Q f s' | .error e => cameBackBy (model prog w) A env E e s') s₂

theorem for_name {iter : Expr} {pos : Pos} (h : wpAny (model prog w) A (eval iter env) (fun xv s₁ => wpAny (model prog w) A (pyIter xv) (fun it s₂ => LoopGoes prog w A x px body env Q E it s₂) E s₁) E s)
    (hs : ∀ x, foldedSetIterable iter env x = pure x := by intro _; rfl) : wpAny (model prog w) A (exec (.For (.Name x px) iter body [] pos) env) Q E s := wpAny_For h hs

theorem for_list {σ : Type} (Led : σ → List (Addr × Obj)) (ps : σ → List (Str × Value)) (Inv : Nat → σ → Prop) (c₀ : σ) {l : Addr} {vs : List Value}
    (hh : A.handled = none) (hx : env.kindOf x = some .local) (hp : (env.scope.kind == .class || (env.scope.kind == .module && env.locals != env.globals)) = false)
    (hl : s.heap.IsList l vs.toArray) (hin : (∃ o, h₀.get? l = some o) ∨ (∃ o, ∀ c, (l, o) ∈ Led c))
    (F : Fr h₀ env.locals s.heap m₀) (N : News h₀ env.locals s.heap (Led c₀)) (hk : ∀ p ∈ ps c₀, m₀ p.1 = some p.2) (h0 : Inv 0 c₀)
    (turn : ∀ i v c (u : Str → Option Value) h tk own, vs[i]? = some v → Inv i c → OwnOff own ((Led c).map (·.1)) →
      Fr h₀ env.locals h (fun y => if y = x then some v else kstB u (ps c) y) → News h₀ env.locals h (Led c ++ own) →
      wpAny (model prog w) A (execs body env) (ForEnd prog w A h₀ env.locals s (fun c' => Led c' ++ own) ps (fun c' => OwnOff own ((Led c').map (·.1)) ∧ Inv (i + 1) c') Q) (fun _ _ => False) { s with heap := h, toks := tk })
    (done : ∀ c (u : Str → Option Value) h tk, Inv vs.length c → Fr h₀ env.locals h (kstB u (ps c)) → News h₀ env.locals h (Led c) → Q .next { s with heap := h, toks := tk }) :
    wpAny (model prog w) A (pyIter (.ref l)) (fun it s₂ => LoopGoes prog w A x px body env Q E it s₂) E s := by
  obtain ⟨ol, hol, hlc⟩ := id hl
  have hlt : l < s.heap.objs.size := Heap.lt_size hol
  have hLlt : env.locals < s.heap.objs.size := F.ns.lt
  have hlL : env.locals ≠ l := by
    rcases hin with ⟨o, ho⟩ | ⟨o, ho⟩
    · exact Nat.ne_of_gt (Nat.lt_of_lt_of_le (Heap.lt_size ho) F.above)
    · exact ((N _ (ho c₀)).2.1).symm
  refine wpAny_pyIter_list hl ?_
  have W := Walks.list (prog := prog) (w := w) hh s.heap.objs.size l (Nat.ne_of_lt hlt) vs.toArray
  refine forR (s₀ := s) (h₀ := h₀) Led ps Inv c₀ W hx hp ?_ ?_ ?_ ?_ ⟨⟨_, Heap.get?_push_size _ rfl, rfl, rfl⟩, hl.at fun o e => Heap.get?_push_of_some _ e⟩ (F.push _) (fun p hp => ⟨Heap.get?_push_of_some _ (N p hp).1, (N p hp).2⟩) ?_ hk h0 ?_ ?_
  · intro hm
    rcases List.mem_cons.mp hm with e | hm
    · exact absurd hLlt (e ▸ Nat.lt_irrefl _)
    · exact hlL (List.mem_singleton.mp hm)
  · intro b hb
    rw [List.mem_singleton.mp hb]
    exact next_is_new F
  · intro b hb
    rcases List.mem_cons.mp hb with rfl | hb
    · exact .inl (.head _)
    · rw [List.mem_singleton.mp hb]; exact .inr hin
  · intro i h hrx2 b hb
    obtain ⟨⟨o, ho, _⟩, _⟩ := hrx2
    rw [List.mem_singleton.mp hb]; exact ⟨o, ho⟩
  · intro p hp hI
    exact absurd (Heap.lt_size (N p hp).1) ((List.mem_singleton.mp hI) ▸ Nat.lt_irrefl _)
  · intro i v c u h tk own hi hP hJ hoff F' N'
    exact turn i v c u h tk own (by simpa using hP) hJ hoff F' N'
  · intro c u h tk hJ F' N'
    exact done c u h tk (by simpa using hJ) F' N'

theorem for_ints {σ : Type} (Led : σ → List (Addr × Obj)) (ps : σ → List (Str × Value)) (Inv : Nat → σ → Prop) (c₀ : σ) {l : Addr} {vs : List Value} {ns : List Int}
    (hh : A.handled = none) (hx : env.kindOf x = some .local) (hp : (env.scope.kind == .class || (env.scope.kind == .module && env.locals != env.globals)) = false)
    (hl : s.heap.IsList l vs.toArray) (hi : IntsAre vs ns) (hin : (∃ o, h₀.get? l = some o) ∨ (∃ o, ∀ c, (l, o) ∈ Led c))
    (F : Fr h₀ env.locals s.heap m₀) (N : News h₀ env.locals s.heap (Led c₀)) (hk : ∀ p ∈ ps c₀, m₀ p.1 = some p.2) (h0 : Inv 0 c₀)
    (turn : ∀ i n t c (u : Str → Option Value) h tk own, ns[i]? = some n → Inv i c → OwnOff own ((Led c).map (·.1)) →
      Fr h₀ env.locals h (fun y => if y = x then some (.int n t) else kstB u (ps c) y) → News h₀ env.locals h (Led c ++ own) →
      wpAny (model prog w) A (execs body env) (ForEnd prog w A h₀ env.locals s (fun c' => Led c' ++ own) ps (fun c' => OwnOff own ((Led c').map (·.1)) ∧ Inv (i + 1) c') Q) (fun _ _ => False) { s with heap := h, toks := tk })
    (done : ∀ c (u : Str → Option Value) h tk, Inv ns.length c → Fr h₀ env.locals h (kstB u (ps c)) → News h₀ env.locals h (Led c) → Q .next { s with heap := h, toks := tk }) :
    wpAny (model prog w) A (pyIter (.ref l)) (fun it s₂ => LoopGoes prog w A x px body env Q E it s₂) E s := by
  refine for_list Led ps Inv c₀ hh hx hp hl hin F N hk h0 ?_ ?_
  · intro i v c u h tk own hv hJ hoff F' N'
    obtain ⟨n, t, rfl, hn⟩ := hi.at i v hv
    exact turn i n t c u h tk own hn hJ hoff F' N'
  · intro c u h tk hJ F' N'
    exact done c u h tk (by rw [← hi.length]; exact hJ) F' N'

theorem for_bytes {σ : Type} (Led : σ → List (Addr × Obj)) (ps : σ → List (Str × Value)) (Inv : Nat → σ → Prop) (c₀ : σ) {b : Array UInt8} {tb : Tok} {ns : List Int}
    (hh : A.handled = none) (hx : env.kindOf x = some .local) (hp : (env.scope.kind == .class || (env.scope.kind == .module && env.locals != env.globals)) = false)
    (hb : KBw.bInts b = ns)
    (F : Fr h₀ env.locals s.heap m₀) (N : News h₀ env.locals s.heap (Led c₀)) (hk : ∀ p ∈ ps c₀, m₀ p.1 = some p.2) (h0 : Inv 0 c₀)
    (turn : ∀ i n t c (u : Str → Option Value) h tk own, ns[i]? = some n → Inv i c → OwnOff own ((Led c).map (·.1)) →
      Fr h₀ env.locals h (fun y => if y = x then some (.int n t) else kstB u (ps c) y) → News h₀ env.locals h (Led c ++ own) →
      wpAny (model prog w) A (execs body env) (ForEnd prog w A h₀ env.locals s (fun c' => Led c' ++ own) ps (fun c' => OwnOff own ((Led c').map (·.1)) ∧ Inv (i + 1) c') Q) (fun _ _ => False) { s with heap := h, toks := tk })
    (done : ∀ c (u : Str → Option Value) h tk, Inv ns.length c → Fr h₀ env.locals h (kstB u (ps c)) → News h₀ env.locals h (Led c) → Q .next { s with heap := h, toks := tk }) :
    wpAny (model prog w) A (pyIter (.bytes b tb)) (fun it s₂ => LoopGoes prog w A x px body env Q E it s₂) E s := by
  subst hb
  have hLlt : env.locals < s.heap.objs.size := F.ns.lt
  refine KBw.pyIter_bytes ?_
  have W := KBw.walks (prog := prog) (w := w) hh s.heap.objs.size b tb
  refine forR (s₀ := s) (h₀ := h₀) Led ps Inv c₀ W hx hp ?_ ?_ ?_ ?_ ⟨_, Heap.get?_push_size _ rfl, rfl, rfl⟩ (F.push _) (fun p hp => ⟨Heap.get?_push_of_some _ (N p hp).1, (N p hp).2⟩) ?_ hk h0 ?_ ?_
  · intro hm
    exact absurd hLlt ((List.mem_singleton.mp hm) ▸ Nat.lt_irrefl _)
  · intro b hb
    rw [List.mem_singleton.mp hb]
    exact next_is_new F
  · intro b hb
    exact .inl hb
  · intro i h hrx2 b hb
    obtain ⟨o, ho, _⟩ := hrx2
    rw [List.mem_singleton.mp hb]; exact ⟨o, ho⟩
  · intro p hp hI
    exact absurd (Heap.lt_size (N p hp).1) ((List.mem_singleton.mp hI) ▸ Nat.lt_irrefl _)
  · intro i v c u h tk own hi hrx8 hJ hoff F' N'
    obtain ⟨k, t, hk, rfl⟩ := hrx8
    exact turn i k.toNat t c u h tk own (KBw.ints_get hk) hJ hoff F' N'
  · intro c u h tk hJ F' N'
    exact done c u h tk (by rw [KBw.ints_length]; exact hJ) F' N'

theorem for_range {σ : Type} (Led : σ → List (Addr × Obj)) (ps : σ → List (Str × Value)) (Inv : Nat → σ → Prop) (c₀ : σ) {r : Addr} {a₀ b₀ : Int} {t₀ u₀ v₀ : Tok} {n : Nat}
    (hh : A.handled = none) (hx : env.kindOf x = some .local) (hp : (env.scope.kind == .class || (env.scope.kind == .module && env.locals != env.globals)) = false)
    (hr : IsRange s.heap r a₀ b₀ 1 t₀ u₀ v₀) (hsmall : Builtin.Range.small a₀ b₀ 1 = true) (hn : Builtin.Range.rangeSize a₀ b₀ 1 = (n : Int))
    (F : Fr h₀ env.locals s.heap m₀) (N : News h₀ env.locals s.heap (Led c₀)) (hk : ∀ p ∈ ps c₀, m₀ p.1 = some p.2) (h0 : Inv 0 c₀)
    (turn : ∀ (i : Nat) t c (u : Str → Option Value) h tk own, i < n → Inv i c → OwnOff own ((Led c).map (·.1)) →
      Fr h₀ env.locals h (fun y => if y = x then some (.int (a₀ + i) t) else kstB u (ps c) y) → News h₀ env.locals h (Led c ++ own) →
      wpAny (model prog w) A (execs body env) (ForEnd prog w A h₀ env.locals s (fun c' => Led c' ++ own) ps (fun c' => OwnOff own ((Led c').map (·.1)) ∧ Inv (i + 1) c') Q) (fun _ _ => False) { s with heap := h, toks := tk })
    (done : ∀ c (u : Str → Option Value) h tk, Inv n c → Fr h₀ env.locals h (kstB u (ps c)) → News h₀ env.locals h (Led c) → Q .next { s with heap := h, toks := tk }) :
    wpAny (model prog w) A (pyIter (.ref r)) (fun it s₂ => LoopGoes prog w A x px body env Q E it s₂) E s := by
  have hLlt : env.locals < s.heap.objs.size := F.ns.lt
  refine wpAny_pyIter_range hr hsmall ?_
  have W := Walks.range (prog := prog) (w := w) hh s.heap.objs.size a₀ 1 n
  rw [hn]
  refine forR (s₀ := s) (h₀ := h₀) Led ps Inv c₀ W hx hp ?_ ?_ ?_ ?_ (by show IsRangeIter _ _ _ _ _; simpa using Heap.get?_push_size _ rfl) (F.push _) (fun p hp => ⟨Heap.get?_push_of_some _ (N p hp).1, (N p hp).2⟩) ?_ hk h0 ?_ ?_
  · intro hm
    exact absurd hLlt ((List.mem_singleton.mp hm) ▸ Nat.lt_irrefl _)
  · intro b hb
    rw [List.mem_singleton.mp hb]
    exact next_is_new F
  · intro b hb
    exact .inl hb
  · intro i h ho b hb
    rw [List.mem_singleton.mp hb]; exact ⟨_, ho⟩
  · intro p hp hI
    exact absurd (Heap.lt_size (N p hp).1) ((List.mem_singleton.mp hI) ▸ Nat.lt_irrefl _)
  · intro i v c u h tk own hi hrx8 hJ hoff F' N'
    obtain ⟨t, rfl⟩ := hrx8
    exact turn i t c u h tk own hi hJ hoff (by rw [Int.mul_one] at F'; exact F') N'
  · exact done
end
theorem fresh_Pure1 : True := by
  w_top off
  exact trivial

theorem par (x y : Nat) : (x ||| y) % 2 = (x ^^^ y) % 2 + (x &&& y) % 2 := by
  have e1 := Nat.or_mod_two_pow (a := x) (b := y) (n := 1)
  have e2 := Nat.xor_mod_two_pow (a := x) (b := y) (n := 1)
  have e3 := Nat.and_mod_two_pow (a := x) (b := y) (n := 1)
  rw [Nat.pow_one] at e1 e2 e3
  rw [e1, e2, e3]
  rcases Nat.mod_two_eq_zero_or_one x with h | h <;> rcases Nat.mod_two_eq_zero_or_one y with k | k <;> rw [h, k] <;> rfl
theorem or_step {o x a : Nat} (h' : o / 2 = x / 2 + a / 2) (hp : o % 2 = x % 2 + a % 2) : o = x + a := by
  rw [← Nat.div_add_mod o 2, ← Nat.div_add_mod x 2, ← Nat.div_add_mod a 2, h', hp, Nat.mul_add]
  exact Nat.add_add_add_comm ..
theorem or_sum (x : Nat) : ∀ y : Nat, x ||| y = (x ^^^ y) + (x &&& y) := by
  induction x using Nat.strongRecOn with
  | ind x ih =>
    intro y
    by_cases hx : x = 0
    · subst hx; simp
    · have h := ih (x / 2) (Nat.div_lt_self (Nat.pos_of_ne_zero hx) (by decide)) (y / 2)
      rw [← Nat.or_div_two, ← Nat.xor_div_two, ← Nat.and_div_two] at h
      exact or_step h (par x y)
def absI (g : Int) : Int := if g < 0 then -g else g
theorem absI_eq (g : Int) : absI g = (g.natAbs : Int) := by unfold absI; split <;> omega
theorem clamp {z : Int} {n : Nat} (h : 0 ≤ z) : (max 0 (min z n)).toNat = min z.toNat n := by
  obtain ⟨k, rfl⟩ := Int.eq_ofNat_of_zero_le h
  rcases Nat.le_total k n with q | q
  · rw [Int.min_eq_left (Int.ofNat_le.mpr q), Int.max_eq_right (Int.natCast_nonneg k), Int.toNat_natCast, Nat.min_eq_left q]
  · rw [Int.min_eq_right (Int.ofNat_le.mpr q), Int.max_eq_right (Int.natCast_nonneg n), Int.toNat_natCast, Int.toNat_natCast, Nat.min_eq_right q]

theorem bitAnd_nat (x y : Nat) : Builtin.bitAnd (x : Int) (y : Int) = ((x &&& y : Nat) : Int) := by
  unfold Builtin.bitAnd
  simp
theorem bitOr_nat (x y : Nat) : Builtin.bitOr (x : Int) (y : Int) = ((x ||| y : Nat) : Int) := by
  have hx : ¬ (0 ≤ -(x : Int) - 1) := by omega
  have hy : ¬ (0 ≤ -(y : Int) - 1) := by omega
  have ex : -(-(x : Int) - 1) - 1 = (x : Int) := by omega
  have ey : -(-(y : Int) - 1) - 1 = (y : Int) := by omega
  unfold Builtin.bitOr Builtin.bitAnd Builtin.bitNot
  simp only [hx, hy, decide_false, ex, ey, Int.toNat_natCast]
  omega
theorem bitXor_nat (x y : Nat) : Builtin.bitXor (x : Int) (y : Int) = ((x ^^^ y : Nat) : Int) := by
  unfold Builtin.bitXor
  rw [bitOr_nat, bitAnd_nat, or_sum]
  omega

/-- two numbers whose bits lie apart -/
theorem bitOr_apart {x y : Int} (k : Nat) (hx : 0 ≤ x) (hy : 0 ≤ y) (hlt : y < 2 ^ k) : Builtin.bitOr (x * 2 ^ k) y = x * 2 ^ k + y := by
  obtain ⟨x, rfl⟩ := Int.eq_ofNat_of_zero_le hx
  obtain ⟨y, rfl⟩ := Int.eq_ofNat_of_zero_le hy
  have hlt' : y < 2 ^ k := by exact_mod_cast hlt
  have e : ((x : Int) * 2 ^ k) = ((2 ^ k * x : Nat) : Int) := by push_cast; rw [Int.mul_comm]
  rw [e, bitOr_nat, ← Nat.two_pow_add_eq_or_of_lt hlt' x]
  push_cast
  rfl
theorem bitOr_apart' {x y : Int} (k : Nat) (hx : 0 ≤ x) (hy : 0 ≤ y) (hlt : y < 2 ^ k) : Builtin.bitOr y (x * 2 ^ k) = x * 2 ^ k + y := by
  obtain ⟨x, rfl⟩ := Int.eq_ofNat_of_zero_le hx
  obtain ⟨y, rfl⟩ := Int.eq_ofNat_of_zero_le hy
  have hlt' : y < 2 ^ k := by exact_mod_cast hlt
  have e : ((x : Int) * 2 ^ k) = ((2 ^ k * x : Nat) : Int) := by push_cast; rw [Int.mul_comm]
  rw [e, bitOr_nat, Nat.or_comm, ← Nat.two_pow_add_eq_or_of_lt hlt' x]
  push_cast
  rfl

-- the check: bit by bit on the one side, four bits at once on the other
def poly : Nat := 3988292384
def cbit (c : Nat) : Nat := if c % 2 = 1 then c / 2 ^^^ poly else c / 2
def cbits : Nat → Nat → Nat
  | 0, c => c
  | k + 1, c => cbits k (cbit c)
theorem cbit_xor {x : Nat} (y : Nat) (h : x % 2 = 0) : cbit (x ^^^ y) = x / 2 ^^^ cbit y := by
  have m := Nat.xor_mod_two_eq_one (a := x) (b := y)
  unfold cbit
  rw [Nat.xor_div_two]
  by_cases hy : y % 2 = 1
  · rw [if_pos (m.mpr (by omega)), if_pos hy, Nat.xor_assoc]
  · rw [if_neg (fun q => (m.mp q) (by omega)), if_neg hy]
theorem cbits_xor : ∀ (k d y : Nat), cbits k (2 ^ k * d ^^^ y) = d ^^^ cbits k y
  | 0, d, y => by simp [cbits]
  | k + 1, d, y => by
    show cbits k (cbit (2 ^ (k + 1) * d ^^^ y)) = _
    have e : 2 ^ (k + 1) * d = 2 * (2 ^ k * d) := by rw [Nat.pow_succ, Nat.mul_comm (2 ^ k) 2, Nat.mul_assoc]
    rw [cbit_xor _ (by omega), e, Nat.mul_div_cancel_left _ (by decide), cbits_xor k d (cbit y)]
    rfl
theorem nibble (c : Nat) : cbits 4 (c % 16) ^^^ c / 16 = cbits 4 c := by
  have e : c = 2 ^ 4 * (c / 16) ^^^ c % 16 := by
    have h := Nat.two_pow_add_eq_or_of_lt (i := 4) (b := c % 16) (by omega) (c / 16)
    have o := or_sum (2 ^ 4 * (c / 16)) (c % 16)
    have z : 2 ^ 4 * (c / 16) &&& c % 16 = 0 := by
      have := or_sum (2 ^ 4 * (c / 16)) (c % 16)
      apply Nat.eq_of_testBit_eq
      intro i
      simp only [Nat.testBit_and, Nat.zero_testBit, Nat.testBit_two_pow_mul, Bool.and_eq_false_iff]
      by_cases hi : 4 ≤ i
      · right
        exact Nat.testBit_lt_two_pow (Nat.lt_of_lt_of_le (show c % 16 < 2 ^ 4 by omega) (Nat.pow_le_pow_right (by decide) hi))
      · left
        simp [hi]
    omega
  have h := cbits_xor 4 (c / 16) (c % 16)
  rw [← e] at h
  rw [h, Nat.xor_comm]
theorem cbit_lt {c : Nat} (h : c < 2 ^ 32) : cbit c < 2 ^ 32 := by
  unfold cbit
  split
  · exact Nat.xor_lt_two_pow (by omega) (by decide)
  · omega
theorem cbits_lt : ∀ (k : Nat) {c : Nat}, c < 2 ^ 32 → cbits k c < 2 ^ 32
  | 0, _, h => h
  | k + 1, _, h => cbits_lt k (cbit_lt h)
theorem cbits_add : ∀ (j k c : Nat), cbits (j + k) c = cbits k (cbits j c)
  | 0, k, c => by rw [Nat.zero_add]; rfl
  | j + 1, k, c => by rw [Nat.add_right_comm]; exact cbits_add j k (cbit c)
/-- the check's run over octets, from a state on -/
def crun (c : Nat) (bs : List Nat) : Nat := bs.foldl (fun c b => cbits 8 (c ^^^ b)) c
theorem crun_lt {c : Nat} {bs : List Nat} (h : c < 2 ^ 32) (hb : ∀ b ∈ bs, b < 256) : crun c bs < 2 ^ 32 := by
  induction bs generalizing c with
  | nil => exact h
  | cons b r ih => exact ih (cbits_lt 8 (Nat.xor_lt_two_pow h (Nat.lt_of_lt_of_le (hb b (.head _)) (by decide)))) fun x hx => hb x (.tail _ hx)
theorem all_ones {c : Nat} (h : c < 2 ^ 32) : c ^^^ 4294967295 = 4294967295 - c := by
  have e := congrArg BitVec.toNat (BitVec.xor_allOnes (x := BitVec.ofNat 32 c))
  rw [BitVec.toNat_xor, BitVec.toNat_not, BitVec.toNat_allOnes, BitVec.toNat_ofNat, Nat.mod_eq_of_lt h] at e
  exact e

theorem or4 {a b c d : Int} (ha : 0 ≤ a) (hb : 0 ≤ b ∧ b < 256) (hc : 0 ≤ c ∧ c < 256) (hd : 0 ≤ d ∧ d < 256) :
    Builtin.bitOr (Builtin.bitOr (Builtin.bitOr (a * 2 ^ Int.toNat 24) (b * 2 ^ Int.toNat 16)) (c * 2 ^ Int.toNat 8)) d = a * 16777216 + b * 65536 + c * 256 + d := by
  show Builtin.bitOr (Builtin.bitOr (Builtin.bitOr (a * 2 ^ 24) (b * 2 ^ 16)) (c * 2 ^ 8)) d = _
  rw [bitOr_apart 24 ha (by omega) (by omega)]
  have e1 : a * 2 ^ 24 + b * 2 ^ 16 = (a * 256 + b) * 2 ^ 16 := by omega
  rw [e1, bitOr_apart 16 (by omega) (by omega) (by omega)]
  have e2 : (a * 256 + b) * 2 ^ 16 + c * 2 ^ 8 = (a * 65536 + b * 256 + c) * 2 ^ 8 := by omega
  rw [e2, bitOr_apart 8 (by omega) (by omega) (by omega)]
  omega
theorem or2 {a b : Int} (ha : 0 ≤ a ∧ a < 256) (hb : 0 ≤ b) : Builtin.bitOr a (b * 2 ^ Int.toNat 8) = b * 256 + a := by
  show Builtin.bitOr a (b * 2 ^ 8) = _
  rw [bitOr_apart' 8 hb ha.1 (by omega)]
  omega
theorem cbits_succ (j c : Nat) : cbits (j + 1) c = cbit (cbits j c) := cbits_add j 1 c
theorem and1 (c : Nat) : Builtin.bitAnd (c : Int) 1 = (c % 2 : Nat) := by
  have h := bitAnd_nat c 1
  rw [Nat.and_one_is_mod] at h
  exact h
theorem shr1 (c : Nat) : Int.fdiv (c : Int) (2 ^ Int.toNat 1) = (c / 2 : Nat) := by
  show Int.fdiv (c : Int) 2 = _
  rw [Int.fdiv_eq_ediv_of_nonneg _ (by decide)]
  rfl
theorem cbit_odd {c : Nat} (h : c % 2 = 1) : Builtin.bitXor (Int.fdiv (c : Int) (2 ^ Int.toNat 1)) 3988292384 = (cbit c : Int) := by
  rw [shr1]
  have e := bitXor_nat (c / 2) 3988292384
  rw [cbit, if_pos h]
  exact e
theorem cbit_even {c : Nat} (h : ¬ c % 2 = 1) : Int.fdiv (c : Int) (2 ^ Int.toNat 1) = (cbit c : Int) := by
  rw [shr1, cbit, if_neg h]
def nibbles : List Int := (List.range 16).map fun b => (cbits 4 b : Int)
theorem nibble_step (x : Nat) : Builtin.bitXor (((List.range 16).map fun b => (cbits 4 b : Int)).getD ((x : Int) % 16).toNat 0) (Int.fdiv (x : Int) (2 ^ Int.toNat 4)) = (cbits 4 x : Int) := by
  have e1 : ((x : Int) % 16).toNat = x % 16 := by omega
  have e2 : Int.fdiv (x : Int) (2 ^ Int.toNat 4) = ((x / 16 : Nat) : Int) := by
    show Int.fdiv (x : Int) 16 = _
    rw [Int.fdiv_eq_ediv_of_nonneg _ (by decide)]
    rfl
  have e3 : ((List.range 16).map fun b => (cbits 4 b : Int)).getD (x % 16) 0 = (cbits 4 (x % 16) : Int) := by
    have h : x % 16 < 16 := Nat.mod_lt _ (by decide)
    rw [List.getD_eq_getElem?_getD, List.getElem?_map, List.getElem?_range h]
    rfl
  rw [e1, e2, e3, bitXor_nat, nibble]
theorem fresh_Mac : True := by
  w_top off
  exact trivial
theorem fold_env {M : Model} {A : Around} {env : Env} {body : List Stmt} {Q : Flow → Shared → Prop} {E : Value → Shared → Prop} {hp : Heap} {gn : _} {dr : _} {tk : Nat} {os : _}
    (h : let M' := M; let A' := A; let env' := env; let g' := gn; let d' := dr; let o' := os; wpAny M' A' (execs body env') Q E ⟨hp, g', d', tk, o'⟩) : wpAny M A (execs body env) Q E ⟨hp, gn, dr, tk, os⟩ := h
theorem fold_envC {M : Model} {A : Around} {env : Env} {body : List Stmt} {Q : Flow → Shared → Prop} {E : Value → Shared → Prop} {hp : Heap} {gn : _} {dr : _} {tk : Nat} {os : _}
    (h : let M' := M; let A' := A; let env' := env; let g' := gn; let d' := dr; let o' := os; wpC M' A' (execs body env') Q E ⟨hp, g', d', tk, o'⟩) : wpC M A (execs body env) Q E ⟨hp, gn, dr, tk, os⟩ := h
def four (n : Int) : List Int := [n / 16777216, n / 65536 % 256, n / 256 % 256, n % 256]
theorem four_length (n : Int) : (four n).length = 4 := rfl
local macro_rules | `(tactic| walk_at "newList") => `(tactic| (k_here; k_dflt (refine' newList_M ?k1 ?k2 ?_; (case k1 => k_asm); (case k2 => k_asm); k_whole); intro l' h' F' N' l1 l2; (try k_lt l1); (try k_sweep)))


local macro_rules | `(tactic| walk_at "mine room") => `(tactic| ((try dsimp only [topA, Around.deeper]); omega))

-- the start of a loop's turn: the frame and the ledger made plain, the end folded
local macro_rules | `(tactic| walk_at "mine in") => `(tactic| ((rename Fr _ _ _ _ => fr9); (rename News _ _ _ _ => nw9); (try dsimp only [envOf, List.cons_append, List.nil_append] at fr9 nw9); (try simp only [List.map_cons, List.map_nil, List.map_append] at *); (try k_fold)))
local macro_rules | `(tactic| walk_at "mine list") => `(tactic| first | exact News.isList (by k_asm) (by k_mem) | (refine Heap.IsList.at ?_ (fun o e => Fr.keep (by k_asm) _ o e); assumption))
local macro_rules | `(tactic| walk_at "mine len") => `(tactic| ((try simp only [List.size_toArray, List.length_map, List.length_range, List.length_append, List.length_cons, List.length_nil, PySem.sizeLine_eq, four_length]); omega))
theorem fresh_Ev : True := by
  w_top off
  exact trivial
-- simple expressions at once: names of the frame, written ints, sums: what they give, and the tokens that they take
def nameLoc (cs : Scope) (x : Str) : Bool := decide (cs.kind = .function) && decide (cs.names.lookup x = some .local) && !(x == ("__debug__" : Str))
structure Sev (M : Model) (A : Around) (env : Env) (h : Heap) (e : PySem.Expr) (tk : Nat) (v : Value) (tk' : Nat) : Prop where
  run : ∀ gn dr os (Q E : Value → Shared → Prop), Q v ⟨h, gn, dr, tk', os⟩ → wpAny M A (eval e env) Q E ⟨h, gn, dr, tk, os⟩
structure SevL (M : Model) (A : Around) (env : Env) (h : Heap) (es : List PySem.Expr) (tk : Nat) (vs : List Value) (tk' : Nat) : Prop where
  run : ∀ gn dr os pos (Q : List Value → Shared → Prop) (E : Value → Shared → Prop), Q vs ⟨h, gn, dr, tk', os⟩ → wpAny M A (spliced (backTo pos (starEach es env))) Q E ⟨h, gn, dr, tk, os⟩
section
variable {M : Model} {prog : Program} {w : World} {A : Around} {env : Env} {h h₀ : Heap} {m : Str → Option Value} {gn : _} {dr : _} {os : _} {tk tk1 tk2 tk' : Nat} {v u : Value} {pos : Pos} {e l r : PySem.Expr} {es : List PySem.Expr} {vs : List Value} {Q E : Value → Shared → Prop}
theorem Sev.use (S : Sev M A env h e tk v tk') (q : Q v ⟨h, gn, dr, tk', os⟩) : wpAny M A (eval e env) Q E ⟨h, gn, dr, tk, os⟩ := S.run _ _ _ _ _ q
theorem SevL.use {Q : List Value → Shared → Prop} (S : SevL M A env h es tk vs tk') (q : Q vs ⟨h, gn, dr, tk', os⟩) : wpAny M A (spliced (backTo pos (starEach es env))) Q E ⟨h, gn, dr, tk, os⟩ := S.run _ _ _ _ _ _ q
theorem SevL.nil : SevL M A env h [] tk [] tk := ⟨fun _ _ _ _ _ _ q => args_nil q⟩
theorem SevL.cons (a : Sev M A env h e tk v tk1) (b : SevL M A env h es tk1 vs tk2) (he : starEach (e :: es) env = (false, eval e env) :: starEach es env := by rfl) : SevL M A env h (e :: es) tk (v :: vs) tk2 :=
  ⟨fun _ _ _ _ _ _ q => args_cons (a.run _ _ _ _ _ (b.run _ _ _ _ _ _ q)) he⟩
theorem Sev.loc {L a : Addr} {cn : Str} {cs : Scope} {ccd : Value} {cl : List (Str × Addr)} {x : Str} (F : Fr h₀ L h m) (hv : m x = some v) (hc : nameLoc cs x = true) : Sev M A (envX cn cs L a ccd cl) h (.Name x pos) tk v tk := ⟨fun gn dr os Q E q => by
  simp only [nameLoc, Bool.and_eq_true, decide_eq_true_eq, Bool.not_eq_true'] at hc
  exact nameX_L (s := ⟨h, gn, dr, tk, os⟩) F hv q hc.1.1 hc.1.2 hc.2⟩
theorem Sev.const {n : Int} {k : _} : Sev M A env h (.Constant (.int n) k pos) tk (.int n tk) (tk + 1) := ⟨fun _ _ _ _ _ q => wpAny_Constant_int q⟩
theorem Sev.add {x y : Int} {t t' : Tok} (a : Sev (model prog w) A env h l tk (.int x t) tk1) (b : Sev (model prog w) A env h r tk1 (.int y t') tk2) : Sev (model prog w) A env h (.BinOp l .Add r pos) tk (.int (x + y) tk2) (tk2 + 1) :=
  ⟨fun _ _ _ _ _ q => wpAny_BinOp (a.run _ _ _ _ _ (b.run _ _ _ _ _ (add_int q)))⟩
theorem Sev.sub {x y : Int} {t t' : Tok} (a : Sev (model prog w) A env h l tk (.int x t) tk1) (b : Sev (model prog w) A env h r tk1 (.int y t') tk2) : Sev (model prog w) A env h (.BinOp l .Sub r pos) tk (.int (x - y) tk2) (tk2 + 1) :=
  ⟨fun _ _ _ _ _ q => wpAny_BinOp (a.run _ _ _ _ _ (b.run _ _ _ _ _ (sub_int q)))⟩
theorem Sev.mul {x y : Int} {t t' : Tok} (a : Sev (model prog w) A env h l tk (.int x t) tk1) (b : Sev (model prog w) A env h r tk1 (.int y t') tk2) (hm : IntMulOk x y) : Sev (model prog w) A env h (.BinOp l .Mult r pos) tk (.int (x * y) tk2) (tk2 + 1) :=
  ⟨fun _ _ _ _ _ q => wpAny_BinOp (a.run _ _ _ _ _ (b.run _ _ _ _ _ (mul_int q hm)))⟩
theorem Sev.test {op : CmpOp} {whole : _} {Q : Bool → Shared → Prop} (a : Sev M A env h l tk v tk1) (b : Sev M A env h r tk1 u tk2) (q : wpAny M A (compareOp op v u) (fun c s₃ => wpAny M A (truthy c) Q E s₃) E ⟨h, gn, dr, tk2, os⟩)
    (hm : behindInMarks op r = false := by with_unfolding_all rfl) : wpAny M A (isTrue (.Compare l [op] [r] pos) env whole) Q E ⟨h, gn, dr, tk, os⟩ := wpAny_isTrue_Compare1 (a.run _ _ _ _ _ (b.run _ _ _ _ _ q)) hm
end
local macro_rules | `(tactic| walk_at "sev") => `(tactic| first
  | (refine' Sev.loc ?F ?v ?c; (case c => exact Eq.refl true); (case F => k_asm); (case v => rfl))
  | exact Sev.const
  | (first | refine' Sev.add ?a ?b | refine' Sev.sub ?a ?b | refine' Sev.mul ?a ?b ?m); (case a => walk_at "sev"); (case b => walk_at "sev"); (try (case m => mul_fits)))
local macro_rules | `(tactic| walk_at "sevl") => `(tactic| first | exact SevL.nil | (refine' SevL.cons ?a ?b; (case a => walk_at "sev"); (case b => walk_at "sevl")))
local macro_rules | `(tactic| walk_at "eval BinOp") => `(tactic| (k_dflt (refine' Sev.use ?e ?_; (case e => walk_at "sev"); k_whole)))
local macro_rules | `(tactic| walk_at "spliced") => `(tactic| (k_dflt (refine' SevL.use ?e ?_; (case e => walk_at "sevl"); k_whole); (try dsimp only [List.cons_append, List.nil_append])))
local macro_rules | `(tactic| walk_at "isTrue Compare") => `(tactic| (k_dflt (refine' Sev.test ?a ?b ?_ ?h; (case h => with_unfolding_all rfl); (case a => walk_at "sev"); (case b => walk_at "sev"); k_whole)))
theorem fresh_Funs1 : True := by
  w_top off
  exact trivial

section
variable {prog : Program} {w : World}

theorem four_is (n : Int) (a b c d : Tok) : IntsAre [.int (Int.fdiv n 16777216) a, .int (Int.fmod (Int.fdiv n 65536) 256) b, .int (Int.fmod (Int.fdiv n 256) 256) c, .int (Int.fmod n 256) d] (four n) := by
  have e1 := Int.fdiv_eq_ediv_of_nonneg n (b := 16777216) (by decide)
  have e2 := Int.fdiv_eq_ediv_of_nonneg n (b := 65536) (by decide)
  have e3 := Int.fdiv_eq_ediv_of_nonneg n (b := 256) (by decide)
  rw [e1, e2, e3, Int.fmod_eq_emod_of_nonneg _ (by decide), Int.fmod_eq_emod_of_nonneg _ (by decide), Int.fmod_eq_emod_of_nonneg _ (by decide)]
  exact .cons _ _ (.cons _ _ (.cons _ _ (.cons _ _ .nil)))

set_option maxHeartbeats 8000000 in
theorem four_spec (n : Int) (t : Tok) : Spec prog w 177 [.int n t] 2 10 (fun _ => True) (NewInts (four n)) := by
  intro p loose mean mg mb dp un gd outer base s Q E B X T hd hu hp hret
  (with_unfolding_all refine' enterN ?k1 ?k2 ?k3 ?k4 ?k5 ?k6 ?k7 ?_ ?c1 ?c2 ?c3 ?c4; (((case k1 => assumption); (case k2 => assumption); (try ((case k2b => assumption); (case k2c => assumption); (case k2d => first | exact List.forall_mem_nil _ | (intro q hq; cases List.mem_singleton.mp hq; exact And.intro (by assumption) (by assumption))))); (case k3 => k_is); (case k4 => k_is); (case k5 => omega); (case k6 => first | exact rfl | exact binds_K (by assumption) rfl (by k_is) rfl rfl rfl); (case k7 => first | exact locs rfl | exact rfl); (case c1 => exact rfl); (case c2 => exact rfl); (case c3 => exact rfl); (try (case c4 => decide))); intro _ _ F9; (dsimp only [List.map, List.zip, List.zipWith, List.reverse, List.reverseAux] at F9); revert F9; intro _ _; (try dsimp only); (try ((first | refine fold_env ?_ | refine fold_envC ?_); intro M₉ A₉ e₉ g₉ d₉ o₉)); (try k_fold)))
  ((try k_fold); repeat' (first | (k_unfold; (try dsimp only)) | ((fail_if_success (with_reducible (first | show wpAny _ _ (exec (.For _ _ _ _ _) _) _ _ _ | show wpAny _ _ (exec (.While _ _ _ _) _) _ _ _ | show wpAny _ _ (pyIter _) _ _ _ | show wpAny _ _ (call (.type "zip") _) _ _ _ | show wpAny _ _ (call (.type "enumerate") _) _ _ _ | show wpAny _ _ (eval (.ListComp _ _ _ _) _) _ _ _ | show wpAny _ _ (exec (.Assign _ (.ListComp _ _ _ _) _) _) _ _ _))); walk1; (try dsimp only))))
  exact ret_ints (s := s) hret (by assumption) (by assumption) (by k_mem) (by assumption) (four_is _ _ _ _ _)

def nAt (ns : List Int) (i : Int) : Int := ns.getD i.toNat 0
def get32 (ns : List Int) (a : Int) : Int := nAt ns a * 16777216 + nAt ns (a + 1) * 65536 + nAt ns (a + 2) * 256 + nAt ns (a + 3)

theorem quad' {q3 r2 q2 r1 q1 r0 n : Int} (e3 : 256 * q3 + r2 = q2) (e2 : 256 * q2 + r1 = q1) (e1 : 256 * q1 + r0 = n) : q3 * 16777216 + r2 * 65536 + r1 * 256 + r0 = n := by omega
theorem quad (n : Int) : n / 16777216 * 16777216 + n / 65536 % 256 * 65536 + n / 256 % 256 * 256 + n % 256 = n := by
  have e1 := Int.mul_ediv_add_emod n 256
  have e2 := Int.mul_ediv_add_emod (n / 256) 256
  have e3 := Int.mul_ediv_add_emod (n / 65536) 256
  rw [Int.ediv_ediv_of_nonneg (by decide)] at e2 e3
  exact quad' e3 e2 e1
theorem nAt_range {b : Array UInt8} {ns : List Int} (hb : KBw.bInts b = ns) (i : Int) : 0 ≤ nAt ns i ∧ nAt ns i < 256 := by
  subst hb
  exact KBw.getD_in fun k hk => KBw.ints_in hk

set_option maxHeartbeats 8000000 in
theorem get32_spec (b : Array UInt8) (ns : List Int) (a : Int) (t u : Tok) (hb : KBw.bInts b = ns) (h0 : 0 ≤ a) (h1 : a + 4 ≤ ns.length) (h2 : ns.length ≤ 16777216) : Spec prog w 78 [.bytes b t, .int a u] 2 10 (fun _ => True) (RetInt (get32 ns a)) := by
  intro p loose mean mg mb dp un gd outer base s Q E B X T hd hu hp hret
  (with_unfolding_all refine' enterN ?k1 ?k2 ?k3 ?k4 ?k5 ?k6 ?k7 ?_ ?c1 ?c2 ?c3 ?c4; (((case k1 => assumption); (case k2 => assumption); (try ((case k2b => assumption); (case k2c => assumption); (case k2d => first | exact List.forall_mem_nil _ | (intro q hq; cases List.mem_singleton.mp hq; exact And.intro (by assumption) (by assumption))))); (case k3 => k_is); (case k4 => k_is); (case k5 => omega); (case k6 => first | exact rfl | exact binds_K (by assumption) rfl (by k_is) rfl rfl rfl); (case k7 => first | exact locs rfl | exact rfl); (case c1 => exact rfl); (case c2 => exact rfl); (case c3 => exact rfl); (try (case c4 => decide))); intro _ _ F9; (dsimp only [List.map, List.zip, List.zipWith, List.reverse, List.reverseAux] at F9); revert F9; intro _ _; (try dsimp only); (try ((first | refine fold_env ?_ | refine fold_envC ?_); intro M₉ A₉ e₉ g₉ d₉ o₉)); (try k_fold)))
  ((try k_fold); repeat' (first | (k_unfold; (try dsimp only)) | ((with_reducible show wpAny _ _ (subscriptTail _ _ (.bytes _ _) (.int _ _)) _ _ _); refine KBw.item_K (by assumption) (by omega) (by omega) (by omega) ?_; intro _ _ _ _; (try dsimp only)) | ((fail_if_success (with_reducible (first | show wpAny _ _ (exec (.For _ _ _ _ _) _) _ _ _ | show wpAny _ _ (exec (.While _ _ _ _) _) _ _ _ | show wpAny _ _ (pyIter _) _ _ _ | show wpAny _ _ (call (.type "zip") _) _ _ _ | show wpAny _ _ (call (.type "enumerate") _) _ _ _ | show wpAny _ _ (eval (.ListComp _ _ _ _) _) _ _ _ | show wpAny _ _ (exec (.Assign _ (.ListComp _ _ _ _) _) _) _ _ _))); walk1; (try dsimp only))))
  exact ret_int (s := s) hret (by assumption) (or4 (nAt_range hb _).1 (nAt_range hb _) (nAt_range hb _) (nAt_range hb _))

def nearestI (l a c : Int) : Int :=
  let g := l + a - c
  let b := if (g - a).natAbs < (g - l).natAbs then a else l
  if (g - c).natAbs < (g - b).natAbs then c else b

theorem nearest_abs (l a c : Int) : nearestI l a c = (if absI (l + a - c - a) < absI (l + a - c - l) then (if absI (l + a - c - c) < absI (l + a - c - a) then c else a) else (if absI (l + a - c - c) < absI (l + a - c - l) then c else l)) := by
  simp only [absI_eq, Int.ofNat_lt, nearestI]
  split <;> rfl
theorem near3 {l a c A B C : Int} (hA : A = absI (a - c)) (hB : B = absI (l - c)) (hC : C = absI (l + a - 2 * c)) : nearestI l a c = if B < A then (if C < B then c else a) else (if C < A then c else l) := by
  rw [nearest_abs, show l + a - c - a = l - c by omega, show l + a - c - l = a - c by omega, show l + a - c - c = l + a - 2 * c by omega, ← hA, ← hB, ← hC]
theorem near_l {M A B C l a c : Int} (h : M ≤ A ∧ M ≤ B ∧ M ≤ C) (e : M = A) : (if B < A then (if C < B then c else a) else (if C < A then c else l)) = l := by
  subst e; rw [if_neg (Int.not_lt.mpr h.2.1), if_neg (Int.not_lt.mpr h.2.2)]
theorem near_a {M A B C l a c : Int} (h : M ≤ A ∧ M ≤ B ∧ M ≤ C) (n : M ≠ A) (e : M = B) : (if B < A then (if C < B then c else a) else (if C < A then c else l)) = a := by
  subst e; rw [if_pos (Int.lt_iff_le_and_ne.mpr ⟨h.1, n⟩), if_neg (Int.not_lt.mpr h.2.2)]
theorem near_c {M A B C l a c : Int} (h : M ≤ A ∧ M ≤ B ∧ M ≤ C) (n : M ≠ A) (k : M ≠ B) (e : M = C) : (if B < A then (if C < B then c else a) else (if C < A then c else l)) = c := by
  subst e; rw [if_pos (Int.lt_iff_le_and_ne.mpr ⟨h.2.1, k⟩), if_pos (Int.lt_iff_le_and_ne.mpr ⟨h.1, n⟩), ite_self]

set_option maxHeartbeats 8000000 in
theorem nearest_spec (l a c : Int) (t u v : Tok) : Spec prog w 57 [.int l t, .int a u, .int c v] 2 10 (fun _ => True) (RetInt (nearestI l a c)) := by
  intro p loose mean mg mb dp un gd outer base s Q E B X T hd hu hp hret
  (with_unfolding_all refine' enterN ?k1 ?k2 ?k3 ?k4 ?k5 ?k6 ?k7 ?_ ?c1 ?c2 ?c3 ?c4; (((case k1 => assumption); (case k2 => assumption); (try ((case k2b => assumption); (case k2c => assumption); (case k2d => first | exact List.forall_mem_nil _ | (intro q hq; cases List.mem_singleton.mp hq; exact And.intro (by assumption) (by assumption))))); (case k3 => k_is); (case k4 => k_is); (case k5 => omega); (case k6 => first | exact rfl | exact binds_K (by assumption) rfl (by k_is) rfl rfl rfl); (case k7 => first | exact locs rfl | exact rfl); (case c1 => exact rfl); (case c2 => exact rfl); (case c3 => exact rfl); (try (case c4 => decide))); intro _ _ F9; (dsimp only [List.map, List.zip, List.zipWith, List.reverse, List.reverseAux] at F9); revert F9; intro _ _; (try dsimp only); (try ((first | refine fold_env ?_ | refine fold_envC ?_); intro M₉ A₉ e₉ g₉ d₉ o₉)); (try k_fold)))
  ((try k_fold); repeat' (first | (k_unfold; (try dsimp only)) | ((fail_if_success (with_reducible (first | show wpAny _ _ (exec (.For _ _ _ _ _) _) _ _ _ | show wpAny _ _ (exec (.While _ _ _ _) _) _ _ _ | show wpAny _ _ (pyIter _) _ _ _ | show wpAny _ _ (call (.type "zip") _) _ _ _ | show wpAny _ _ (call (.type "enumerate") _) _ _ _ | show wpAny _ _ (eval (.ListComp _ _ _ _) _) _ _ _ | show wpAny _ _ (exec (.Assign _ (.ListComp _ _ _ _) _) _) _ _ _))); walk1; (try dsimp only))))
  all_goals (refine ret_int (s := s) hret (by assumption) ?_; rw [nearest_abs]; (repeat' split) <;> first | rfl | contradiction | omega)

end
section
variable {prog : Program} {w : World}

def guessI (k l a c : Int) : Int := if k = 0 then 0 else if k = 1 then l else if k = 2 then a else if k = 3 then (l + a) / 2 else nearestI l a c

set_option maxHeartbeats 8000000 in
theorem guess_spec (k l a c : Int) (t u v z : Tok) (h0 : 0 ≤ k) (h4 : k ≤ 4) : Spec prog w 64 [.int k t, .int l u, .int a v, .int c z] 3 20 (fun _ => True) (RetInt (guessI k l a c)) := by
  intro p loose mean mg mb dp un gd outer base s Q E B X T hd hu hp hret
  (with_unfolding_all refine' enterN ?k1 ?k2 ?k3 ?k4 ?k5 ?k6 ?k7 ?_ ?c1 ?c2 ?c3 ?c4; (((case k1 => assumption); (case k2 => assumption); (try ((case k2b => assumption); (case k2c => assumption); (case k2d => first | exact List.forall_mem_nil _ | (intro q hq; cases List.mem_singleton.mp hq; exact And.intro (by assumption) (by assumption))))); (case k3 => k_is); (case k4 => k_is); (case k5 => omega); (case k6 => first | exact rfl | exact binds_K (by assumption) rfl (by k_is) rfl rfl rfl); (case k7 => first | exact locs rfl | exact rfl); (case c1 => exact rfl); (case c2 => exact rfl); (case c3 => exact rfl); (try (case c4 => decide))); intro _ _ F9; (dsimp only [List.map, List.zip, List.zipWith, List.reverse, List.reverseAux] at F9); revert F9; intro _ _; (try dsimp only); (try ((first | refine fold_env ?_ | refine fold_envC ?_); intro M₉ A₉ e₉ g₉ d₉ o₉)); (try k_fold)))
  ((try k_fold); repeat' (first | (k_unfold; (try dsimp only)) | ((with_reducible show wpAny _ _ (call (.ref _) _) _ _ _); refine' Spec.useInt (nearest_spec _ _ _ _ _ _) (h := ?_); intro _ _ _ _ _; (try dsimp only)) | ((fail_if_success (with_reducible (first | show wpAny _ _ (exec (.For _ _ _ _ _) _) _ _ _ | show wpAny _ _ (exec (.While _ _ _ _) _) _ _ _ | show wpAny _ _ (pyIter _) _ _ _ | show wpAny _ _ (call (.type "zip") _) _ _ _ | show wpAny _ _ (call (.type "enumerate") _) _ _ _ | show wpAny _ _ (eval (.ListComp _ _ _ _) _) _ _ _ | show wpAny _ _ (exec (.Assign _ (.ListComp _ _ _ _) _) _) _ _ _))); walk1; (try dsimp only))))
  all_goals (refine ret_int (s := s) hret (by assumption) ?_; simp only [guessI, Int.fdiv_eq_ediv_of_nonneg _ (show (0 : Int) ≤ 2 by decide)]; (repeat' split) <;> omega)
end
theorem fresh_Funs2 : True := by
  w_top off
  exact trivial
section
variable {prog : Program} {w : World}

set_option maxHeartbeats 8000000 in
theorem crc_steps_spec : Spec prog w 85 [] 2 20 (fun _ => True) (NewInts ((List.range 16).map fun b => (cbits 4 b : Int))) := by
  intro p loose mean mg mb dp un gd outer base s Q E B X T hd hu hp hret
  (with_unfolding_all refine' enterN ?k1 ?k2 ?k3 ?k4 ?k5 ?k6 ?k7 ?_ ?c1 ?c2 ?c3 ?c4; (((case k1 => assumption); (case k2 => assumption); (try ((case k2b => assumption); (case k2c => assumption); (case k2d => first | exact List.forall_mem_nil _ | (intro q hq; cases List.mem_singleton.mp hq; exact And.intro (by assumption) (by assumption))))); (case k3 => k_is); (case k4 => k_is); (case k5 => omega); (case k6 => first | exact rfl | exact binds_K (by assumption) rfl (by k_is) rfl rfl rfl); (case k7 => first | exact locs rfl | exact rfl); (case c1 => exact rfl); (case c2 => exact rfl); (case c3 => exact rfl); (try (case c4 => decide))); intro _ _ F9; (dsimp only [List.map, List.zip, List.zipWith, List.reverse, List.reverseAux] at F9); revert F9; intro _ _; (try dsimp only); (try ((first | refine fold_env ?_ | refine fold_envC ?_); intro M₉ A₉ e₉ g₉ d₉ o₉)); (try k_fold)))
  ((try k_fold); repeat' (first | (k_unfold; (try dsimp only)) | ((fail_if_success (with_reducible (first | show wpAny _ _ (exec (.For _ _ _ _ _) _) _ _ _ | show wpAny _ _ (exec (.While _ _ _ _) _) _ _ _ | show wpAny _ _ (pyIter _) _ _ _ | show wpAny _ _ (call (.type "zip") _) _ _ _ | show wpAny _ _ (call (.type "enumerate") _) _ _ _ | show wpAny _ _ (eval (.ListComp _ _ _ _) _) _ _ _ | show wpAny _ _ (exec (.Assign _ (.ListComp _ _ _ _) _) _) _ _ _))); walk1; (try dsimp only))))
  refine for_name ?_
  ((try k_fold); repeat' (first | (k_unfold; (try dsimp only)) | ((fail_if_success (with_reducible (first | show wpAny _ _ (exec (.For _ _ _ _ _) _) _ _ _ | show wpAny _ _ (exec (.While _ _ _ _) _) _ _ _ | show wpAny _ _ (pyIter _) _ _ _ | show wpAny _ _ (call (.type "zip") _) _ _ _ | show wpAny _ _ (call (.type "enumerate") _) _ _ _ | show wpAny _ _ (eval (.ListComp _ _ _ _) _) _ _ _ | show wpAny _ _ (exec (.Assign _ (.ListComp _ _ _ _) _) _) _ _ _))); walk1; (try dsimp only))))
  rename_i l h2 l2 l1 h3 F1 N1 h4 tk2 t1 u1 v1 R F N K
  refine for_range (σ := List Value × Nat) (n := 16) (fun c => [(l, listOf c.1.toArray c.2)]) (fun _ => [(Str.ofString "found", .ref l)]) (fun i c => i ≤ 16 ∧ IntsAre c.1 ((List.range i).map fun b => (cbits 4 b : Int))) ([], 0)
    rfl rfl rfl R (by decide) (by decide) F N (by (repeat (first | exact List.forall_mem_nil _ | refine List.forall_mem_cons.mpr ⟨by first | rfl | assumption, ?_⟩))) ⟨by decide, .nil⟩ ?_ ?_
  · intro i t c u h tk own hi hI hoff F' N'
    obtain ⟨vs, n⟩ := c
    simp only [List.cons_append, List.nil_append] at N' hI hoff
    obtain ⟨_, hI⟩ := hI
    clear F1 N1 R F N K
    walk_at "mine in"
    ((try k_fold); repeat' (first | (k_unfold; (try dsimp only)) | ((fail_if_success (with_reducible (first | show wpAny _ _ (exec (.For _ _ _ _ _) _) _ _ _ | show wpAny _ _ (exec (.While _ _ _ _) _) _ _ _ | show wpAny _ _ (pyIter _) _ _ _ | show wpAny _ _ (call (.type "zip") _) _ _ _ | show wpAny _ _ (call (.type "enumerate") _) _ _ _ | show wpAny _ _ (eval (.ListComp _ _ _ _) _) _ _ _ | show wpAny _ _ (exec (.Assign _ (.ListComp _ _ _ _) _) _) _ _ _))); walk1; (try dsimp only))))
    refine for_name ?_
    ((try k_fold); repeat' (first | (k_unfold; (try dsimp only)) | ((fail_if_success (with_reducible (first | show wpAny _ _ (exec (.For _ _ _ _ _) _) _ _ _ | show wpAny _ _ (exec (.While _ _ _ _) _) _ _ _ | show wpAny _ _ (pyIter _) _ _ _ | show wpAny _ _ (call (.type "zip") _) _ _ _ | show wpAny _ _ (call (.type "enumerate") _) _ _ _ | show wpAny _ _ (eval (.ListComp _ _ _ _) _) _ _ _ | show wpAny _ _ (exec (.Assign _ (.ListComp _ _ _ _) _) _) _ _ _))); walk1; (try dsimp only))))
    rename_i h5 F2 N2 h6 tk3 t2 u2 v2 R F N K
    refine for_range (σ := Nat × Tok) (n := 4) (fun _ => (l, listOf vs.toArray n) :: own) (fun c => [(Str.ofString "crc", .int (c.1 : Nat) c.2), (Str.ofString "found", .ref l)]) (fun j c => c.1 = cbits j i) (i, t)
      rfl rfl rfl R (by decide) (by decide) F N (by rw [show (0 : Int) + (i : Int) = i by omega]; (repeat (first | exact List.forall_mem_nil _ | refine List.forall_mem_cons.mpr ⟨by first | rfl | assumption, ?_⟩))) rfl ?_ ?_
    · intro j t' c u' h' tk' own' hj hJ hoff' F'' N''
      obtain ⟨c, tc⟩ := c
      simp only [List.cons_append, List.nil_append] at N'' hJ
      clear F2 N2 R F N K
      walk_at "mine in"
      ((try k_fold); repeat' (first | (k_unfold; (try dsimp only)) | ((fail_if_success (with_reducible (first | show wpAny _ _ (exec (.For _ _ _ _ _) _) _ _ _ | show wpAny _ _ (exec (.While _ _ _ _) _) _ _ _ | show wpAny _ _ (pyIter _) _ _ _ | show wpAny _ _ (call (.type "zip") _) _ _ _ | show wpAny _ _ (call (.type "enumerate") _) _ _ _ | show wpAny _ _ (eval (.ListComp _ _ _ _) _) _ _ _ | show wpAny _ _ (exec (.Assign _ (.ListComp _ _ _ _) _) _) _ _ _))); walk1; (try dsimp only))))
      · rename Fr _ _ _ _ => FF
        rename Builtin.bitAnd _ _ ≠ 0 => hne
        rw [and1] at hne
        rw [cbit_odd (by omega)] at FF
        show TurnEnd _ _ _ _ _ _ _
        refine' TurnEnd.intro (cbit c, _) (by assumption) (by assumption) ?ts ?tk ⟨hoff', by rw [cbits_succ, ← hJ]⟩
        ((case ts => first | (intro p hp; exact hp) | skip); (case tk => (repeat (first | exact List.forall_mem_nil _ | refine List.forall_mem_cons.mpr ⟨by first | rfl | assumption, ?_⟩))))
      · rename Fr _ _ _ _ => FF
        rename Builtin.bitAnd _ _ = 0 => hne
        rw [and1] at hne
        rw [cbit_even (by omega)] at FF
        show TurnEnd _ _ _ _ _ _ _
        refine' TurnEnd.intro (cbit c, _) (by assumption) (by assumption) ?ts ?tk ⟨hoff', by rw [cbits_succ, ← hJ]⟩
        ((case ts => first | (intro p hp; exact hp) | skip); (case tk => (repeat (first | exact List.forall_mem_nil _ | refine List.forall_mem_cons.mpr ⟨by first | rfl | assumption, ?_⟩))))
    · intro c u' h' tk' hJ F'' N''
      obtain ⟨c, tc⟩ := c
      simp only at hJ N''
      clear F2 N2 R F N K
      walk_at "mine in"
      have hlen := hI.length
      simp only [List.length_map, List.length_range] at hlen
      ((try k_fold); repeat' (first | (k_unfold; (try dsimp only)) | ((with_reducible show wpAny _ _ (call (.builtin "list.append") [_, _]) _ _ _); refine' append_K (by k_asm) (by k_asm) (by k_upd) ?_ (by walk_at "mine len"); intro _ _ N9; (try simp only [List.push_toArray] at N9); revert N9; intro _; (try k_sweep); (try dsimp only)) | ((fail_if_success (with_reducible (first | show wpAny _ _ (exec (.For _ _ _ _ _) _) _ _ _ | show wpAny _ _ (exec (.While _ _ _ _) _) _ _ _ | show wpAny _ _ (pyIter _) _ _ _ | show wpAny _ _ (call (.type "zip") _) _ _ _ | show wpAny _ _ (call (.type "enumerate") _) _ _ _ | show wpAny _ _ (eval (.ListComp _ _ _ _) _) _ _ _ | show wpAny _ _ (exec (.Assign _ (.ListComp _ _ _ _) _) _) _ _ _))); walk1; (try dsimp only))))
      show TurnEnd _ _ _ _ _ _ _
      refine' TurnEnd.intro (_, _) (by assumption) (by assumption) ?ts ?tk ⟨hoff, by omega, ?_⟩
      ((case ts => first | (intro p hp; exact hp) | skip); (case tk => (repeat (first | exact List.forall_mem_nil _ | refine List.forall_mem_cons.mpr ⟨by first | rfl | assumption, ?_⟩))))
      rw [List.range_succ, List.map_append, List.map_cons, List.map_nil, ← hJ]
      exact hI.append (.cons _ _ .nil)
  · intro c u h tk hI F' N'
    obtain ⟨vs, n⟩ := c
    simp only at N' hI
    clear F1 N1 R F N K
    walk_at "mine in"
    ((try k_fold); repeat' (first | (k_unfold; (try dsimp only)) | ((fail_if_success (with_reducible (first | show wpAny _ _ (exec (.For _ _ _ _ _) _) _ _ _ | show wpAny _ _ (exec (.While _ _ _ _) _) _ _ _ | show wpAny _ _ (pyIter _) _ _ _ | show wpAny _ _ (call (.type "zip") _) _ _ _ | show wpAny _ _ (call (.type "enumerate") _) _ _ _ | show wpAny _ _ (eval (.ListComp _ _ _ _) _) _ _ _ | show wpAny _ _ (exec (.Assign _ (.ListComp _ _ _ _) _) _) _ _ _))); walk1; (try dsimp only))))
    exact ret_ints (s := s) hret (by assumption) (by assumption) (by k_mem) (by assumption) hI.2

end
section
variable {prog : Program} {w : World}
/-- the check of octets -/
def crcOf (ns : List Int) : Int := ((crun 4294967295 (ns.map Int.toNat) ^^^ 4294967295 : Nat) : Int)

set_option maxHeartbeats 8000000 in
theorem crc32_spec (b : Array UInt8) (ns : List Int) (t : Tok) (hb : KBw.bInts b = ns) : Spec prog w 93 [.bytes b t] 4 40 (fun _ => True) (RetInt (crcOf ns)) := by
  intro p loose mean mg mb dp un gd outer base s Q E B X T hd hu hp hret
  with_unfolding_all refine' enterB [(Str.ofString "octets", .bytes b t), (Str.ofString "crc", .int 0 304)] ?k1 ?k2 ?k3 ?k4 ?k5 ?k6 ?k7 ?_ ?c1 ?c2 ?c3 ?c4
  (((case k1 => assumption); (case k2 => assumption); (try ((case k2b => assumption); (case k2c => assumption); (case k2d => first | exact List.forall_mem_nil _ | (intro q hq; cases List.mem_singleton.mp hq; exact And.intro (by assumption) (by assumption))))); (case k3 => k_is); (case k4 => k_is); (case k5 => omega); (case k6 => first | exact rfl | exact binds_K (by assumption) rfl (by k_is) rfl rfl rfl); (case k7 => first | exact locs rfl | exact rfl); (case c1 => exact rfl); (case c2 => exact rfl); (case c3 => exact rfl); (try (case c4 => decide))); intro _ _ F9; (dsimp only [List.map, List.zip, List.zipWith, List.reverse, List.reverseAux] at F9); revert F9; intro _ _; (try dsimp only); (try ((first | refine fold_env ?_ | refine fold_envC ?_); intro M₉ A₉ e₉ g₉ d₉ o₉)); (try k_fold))
  ((try k_fold); repeat' (first | (k_unfold; (try dsimp only)) | ((with_reducible show wpAny _ _ (call (.ref _) _) _ _ _); refine' Spec.useInts crc_steps_spec (h := ?_); intro _ _ _ _ _ _ _ _ _ _; walk_at "mine lt"; (try dsimp only)) | ((fail_if_success (with_reducible (first | show wpAny _ _ (exec (.For _ _ _ _ _) _) _ _ _ | show wpAny _ _ (exec (.While _ _ _ _) _) _ _ _ | show wpAny _ _ (pyIter _) _ _ _ | show wpAny _ _ (call (.type "zip") _) _ _ _ | show wpAny _ _ (call (.type "enumerate") _) _ _ _ | show wpAny _ _ (eval (.ListComp _ _ _ _) _) _ _ _ | show wpAny _ _ (exec (.Assign _ (.ListComp _ _ _ _) _) _) _ _ _))); walk1; (try dsimp only))))
  refine for_name ?_
  ((try k_fold); repeat' (first | (k_unfold; (try dsimp only)) | ((fail_if_success (with_reducible (first | show wpAny _ _ (exec (.For _ _ _ _ _) _) _ _ _ | show wpAny _ _ (exec (.While _ _ _ _) _) _ _ _ | show wpAny _ _ (pyIter _) _ _ _ | show wpAny _ _ (call (.type "zip") _) _ _ _ | show wpAny _ _ (call (.type "enumerate") _) _ _ _ | show wpAny _ _ (eval (.ListComp _ _ _ _) _) _ _ _ | show wpAny _ _ (exec (.Assign _ (.ListComp _ _ _ _) _) _) _ _ _))); walk1; (try dsimp only))))
  rename_i l vs c h2 tk1 l2 hI l1 h3 tk2 h4 F N
  refine for_bytes (σ := Nat × Tok) (ns := ns) (fun _ => [(l, listOf vs.toArray c)]) (fun c => [(Str.ofString "crc", .int (c.1 : Nat) c.2), (Str.ofString "steps", .ref l)]) (fun i c => c.1 = crun 4294967295 ((ns.take i).map Int.toNat)) (4294967295, _)
    rfl rfl rfl hb F N (by (repeat (first | exact List.forall_mem_nil _ | refine List.forall_mem_cons.mpr ⟨by first | rfl | assumption, ?_⟩))) rfl ?_ ?_
  · intro i n t' c' u h tk own hn hJ hoff F' N'
    obtain ⟨k, tk'⟩ := c'
    have hr := KBw.ints_in (b := b) (k := n) (by rw [hb]; exact List.mem_of_getElem? hn)
    obtain ⟨x, rfl⟩ := Int.eq_ofNat_of_zero_le hr.1
    clear F N
    walk_at "mine in"
    ((try k_fold); repeat' (first | (k_unfold; (try dsimp only)) | ((with_reducible show wpAny _ _ (subscriptTail _ _ (.ref _) (.int _ _)) _ _ _); refine' item_ints (by walk_at "mine list") (by assumption) (by walk_at "mine len") (by walk_at "mine len") (by walk_at "mine len") ?_; intro _; (try dsimp only)) | ((with_reducible show wpAny _ _ (binaryOp .BitAnd (.int _ _) (.int _ _)) _ _ _); first | refine and_lit (bitAnd_m4 _) ?_ | refine and_lit (bitAnd_m8 _) ?_ | refine and_lit (bitAnd_m16 _) ?_; (try dsimp only)) | ((fail_if_success (with_reducible (first | show wpAny _ _ (exec (.For _ _ _ _ _) _) _ _ _ | show wpAny _ _ (exec (.While _ _ _ _) _) _ _ _ | show wpAny _ _ (pyIter _) _ _ _ | show wpAny _ _ (call (.type "zip") _) _ _ _ | show wpAny _ _ (call (.type "enumerate") _) _ _ _ | show wpAny _ _ (eval (.ListComp _ _ _ _) _) _ _ _ | show wpAny _ _ (exec (.Assign _ (.ListComp _ _ _ _) _) _) _ _ _))); walk1; (try dsimp only))))
    rename Fr _ _ _ _ => FF
    rw [bitXor_nat, nibble_step, nibble_step] at FF
    show TurnEnd _ _ _ _ _ _ _
    refine' TurnEnd.intro (cbits 4 (cbits 4 (k ^^^ x)), _) (by assumption) (by assumption) ?ts ?tk ⟨hoff, ?_⟩
    ((case ts => first | (intro p hp; exact hp) | skip); (case tk => (repeat (first | exact List.forall_mem_nil _ | refine List.forall_mem_cons.mpr ⟨by first | rfl | assumption, ?_⟩))))
    simp only at hJ ⊢
    rw [List.take_add_one, hn, hJ]
    simp only [Option.toList_some, List.map_append, List.map_cons, List.map_nil, crun, List.foldl_append, List.foldl_cons, List.foldl_nil, Int.toNat_natCast]
    exact (cbits_add 4 4 _).symm
  · intro c' u h tk hJ F' N'
    obtain ⟨k, tk'⟩ := c'
    clear F N
    walk_at "mine in"
    ((try k_fold); repeat' (first | (k_unfold; (try dsimp only)) | ((fail_if_success (with_reducible (first | show wpAny _ _ (exec (.For _ _ _ _ _) _) _ _ _ | show wpAny _ _ (exec (.While _ _ _ _) _) _ _ _ | show wpAny _ _ (pyIter _) _ _ _ | show wpAny _ _ (call (.type "zip") _) _ _ _ | show wpAny _ _ (call (.type "enumerate") _) _ _ _ | show wpAny _ _ (eval (.ListComp _ _ _ _) _) _ _ _ | show wpAny _ _ (exec (.Assign _ (.ListComp _ _ _ _) _) _) _ _ _))); walk1; (try dsimp only))))
    refine ret_int (s := s) hret (by assumption) ?_
    simp only [List.take_length] at hJ
    rw [crcOf, ← hJ]
    exact bitXor_nat k 4294967295
end

theorem fresh_Mut : True := by
  w_top off
  exact trivial
section
variable {prog : Program} {w : World} {p : Program} {loose : List Str} {mean : ExcName → Option Value} {mg mb : Str → Option Value}
  {dp un : Nat} {gd : Option (List Code)} {outer : List Env} {base h₀ : Heap} {s : Shared} {Q E : Value → Shared → Prop} {K : Frag}

/-- the entry into a def, over a ground that leaves some objects out -/
theorem enterG {name qual : Str} {params : Arguments} {body : List Stmt} {scope : Scope} {dV kV doc pm cdv ct oc : Value} {an od : Option Addr} {osl : Array (Option Value)} {f : Addr} {vals : List Value} (led : List (Addr × Obj))
    (X : K.In h₀) (T : Top p loose mean mg mb h₀) (hst : h₀.StaysIn s.heap) (hsz : h₀.objs.size = s.heap.objs.size) (hled : ∀ q ∈ led, s.heap.get? q.1 = some q.2 ∧ h₀.get? q.1 = none)
    (ho : K.lookup f = some ⟨oc, od, .func (fnOf name qual params body scope dV kV doc pm an cdv ct), osl⟩) (hcd : codeIn K cdv qual = true) (hroom : dp < recursionLimit)
    (hbind : bindArgs (fnOf name qual params body scope dV kV doc pm an cdv ct) ⟨vals, []⟩ = pure ((params.args.map (·.arg)).zip vals)) (hloc : ∀ y ∈ (params.args.map (·.arg)).zip vals, scope.names.lookup y.1 = some .local)
    (h : ∀ L' h₁, Fr h₀ L' h₁ (fun y => ((params.args.map (·.arg)).zip vals).reverse.lookup y) → News h₀ L' h₁ led →
      wpAny (model prog w) ((topA dp un gd outer).deeper (envOf qual scope L' f cdv)) (execs body (envOf qual scope L' f cdv))
        (fun fl s' => Q (match fl with | .ret v => v | _ => .none) s') (fun _ _ => False)
        { s with heap := h₁, toks := s.toks + ((params.args.map (·.arg)).zip vals).length })
    (hco : scope.isCoroutine = false := by rfl) (hgen : scope.isGenerator = false := by rfl) (hk : scope.kind = .function := by rfl)
    (hcell : ∀ x ∈ scope.names, x.2 ≠ .cell := by decide) :
    wpAny (model prog w) (topA dp un gd outer) (call (.ref f) vals) Q E s := by
  refine wpAny_call (codeAny_call_def (fd := fnOf name qual params body scope dV kV doc pm an cdv ct) (body := body) (binds := (params.args.map (·.arg)).zip vals) hroom ((X.keeps hst) _ _ ho) rfl (T.keeps hst).nolimit (codeRec_of (X.keeps hst) hcd) rfl (BindsTo.of_eq hbind) hcell hloc (fun h₁ hns hk₁ => ?_) hco hgen hk)
  refine wpAny_noRaise (h _ h₁ ⟨hns, fun b o e => hk₁ b o (hst b o e), Nat.le_of_eq hsz⟩ fun q hq => ⟨hk₁ _ _ (hled q hq).1, ?_, (hled q hq).2⟩)
  exact Nat.ne_of_lt (Heap.lt_size (hled q hq).1)

/-- a call that changes the object at l alone -/
def SpecM (prog : Program) (w : World) (f : Addr) (args : List Value) (d u : Nat) (l : Addr) (o : Obj) (pre : Heap → Prop) (Post : Heap → Value → Obj → Heap → Prop) : Prop :=
  ∀ (p : Program) (loose : List Str) (mean : ExcName → Option Value) (mg mb : Str → Option Value)
    (dp un : Nat) (gd : Option (List Code)) (outer : List Env) (base h₀ : Heap) (s : Shared) (Q E : Value → Shared → Prop),
    Below (topA dp un gd outer) base outer h₀ → (hd.heap_1 w.params).In h₀ → Top p loose mean mg mb h₀ → h₀.StaysIn s.heap → h₀.objs.size = s.heap.objs.size →
    s.heap.get? l = some o → h₀.get? l = none →
    dp + d < recursionLimit → un + u < cLine → pre h₀ →
    (∀ v h' tk' o', h₀.StaysIn h' → s.heap.objs.size ≤ h'.objs.size → h'.get? l = some o' → Post h₀ v o' h' → Q v { s with heap := h', toks := tk' }) →
    wpAny (model prog w) (topA dp un gd outer) (call (.ref f) args) Q E s

theorem SpecM.use {f : Addr} {args : List Value} {d u : Nat} {l : Addr} {o : Obj} {pre : Heap → Prop} {Post : Heap → Value → Obj → Heap → Prop}
    {L : Addr} {m : Str → Option Value} {news : List (Addr × Obj)} {g : Obj → List (Addr × Obj)} {A A₀ : Around} {env : Env}
    (S : SpecM prog w f args d u l o pre Post)
    (B : Below A₀ base outer h₀) (F : Fr h₀ L s.heap m) (X : (hd.heap_1 w.params).In h₀) (N : News h₀ L s.heap news) (U : UpdF l o news g) (T : Top p loose mean mg mb h₀)
    (hA : A = topA dp un gd (env :: outer)) (hf : env.frame = some L) (hk : env.scope.kind = .function)
    (hd : dp + d < recursionLimit) (hu : un + u < cLine) (hp : ∀ h, h₀.StaysIn h → News h₀ L h (news.filter fun q => q.1 != l) → pre h)
    (h : ∀ g₀ v h' tk' o', Fr h₀ L h' m → News h₀ L h' (g o') → s.heap.objs.size ≤ h'.objs.size → g₀.objs.size = s.heap.objs.size → Post g₀ v o' h' → Q v { s with heap := h', toks := tk' }) :
    wpAny (model prog w) A (call (.ref f) args) Q E s := by
  subst hA
  obtain ⟨pre', post, rfl, hg, a, b⟩ := U.split
  have hl := N (l, o) (List.mem_append.mpr (.inr (.head _)))
  have nm : ∀ b o, h₀.get? b = some o → b ∉ [l] := fun b o e q => by
    rw [List.mem_singleton.mp q, hl.2.2] at e; cases e
  have st : h₀.StaysIn (hideAll s.heap [l]) := fun b o e => hideAll_get _ (F.keep b o e) (nm b o e)
  have nL : L ∉ [l] := fun q => hl.2.1 (List.mem_singleton.mp q).symm
  obtain ⟨oL, es, ep, hL, hLd, hLk, hLf⟩ := id F.ns
  have hLg := hideAll_get [l] hL nL
  have B₁ := pushX B F hf hk
  have hfil : ∀ q ∈ pre' ++ (l, o) :: post, q.1 ≠ l → (hideAll s.heap [l]).get? q.1 = some q.2 := fun q hq hne => hideAll_get _ (N q hq).1 fun hm => hne (List.mem_singleton.mp hm)
  have offs : ∀ q ∈ pre' ++ post, q.1 ≠ l := fun q hq => (List.mem_append.mp hq).elim (a q) (b q)
  have hmem : ∀ q ∈ pre' ++ post, q ∈ pre' ++ (l, o) :: post := fun q hq => by
    rcases List.mem_append.mp hq with h | h
    · exact List.mem_append_left _ h
    · exact List.mem_append_right _ (.tail _ h)
  refine S p loose mean mg mb dp un gd (env :: outer) base (hideAll s.heap [l]) s Q E ⟨rfl, fun b o e => st b o (B.stays b o e), funFrames_hideAll B₁.frames fun env' he b hb hf' => ?_⟩ (X.keeps st) (T.keeps st) (fun b o e => of_hideAll _ e) (hideAll_size _ _) hl.1 (hideAll_none _ (.head _)) hd hu (hp _ st fun q hq => ?_) fun v h' tk' o' st' sz ho' po => ?_
  · cases he with
    | head => exact nL ((Option.some.inj (hf.symm.trans hf') : L = b) ▸ hb)
    | tail _ he =>
      obtain ⟨L₁, o₁, hf₁, ho₁⟩ := funFrames_in B.frames env' he
      rw [hf₁] at hf'
      exact nm L₁ o₁ ho₁ ((Option.some.inj hf' : L₁ = b) ▸ hb)
  · have hq' := List.mem_filter.mp hq
    exact ⟨hfil q hq'.1 (by simpa using hq'.2), (N q hq'.1).2⟩
  · refine h (hideAll s.heap [l]) v h' tk' o' ⟨⟨oL, es, ep, st' _ _ hLg, hLd, hLk, hLf⟩, fun b o e => st' _ _ (st b o e), F.above⟩ ?_ sz (hideAll_size _ _) po
    rw [hg]
    intro q hq
    rcases List.mem_append.mp hq with hq | hq
    · have hm := List.mem_append_left ((l, o) :: post) hq
      exact ⟨st' _ _ (hfil q hm (a q hq)), (N q hm).2⟩
    · rcases List.mem_cons.mp hq with rfl | hq
      · exact ⟨ho', hl.2⟩
      · have hm := List.mem_append_right pre' (List.mem_cons_of_mem (l, o) hq)
        exact ⟨st' _ _ (hfil q hm (b q hq)), (N q hm).2⟩
end

/-- the source of drawn figures -/
def Src (o : Obj) : Prop := ∃ a b ta tb c, o = listOf #[.int a ta, .int b tb] c ∧ 0 ≤ a ∧ 0 ≤ b
theorem fresh_Draw : True := by
  w_top off
  exact trivial
theorem bits_fmod (y : Int) : Builtin.Int.intBits (y.fmod 2147483647) ≤ 64 := by
  have h1 := Int.fmod_nonneg_of_pos y (show (0 : Int) < 2147483647 by decide)
  have h2 := Int.fmod_lt_of_pos y (show (0 : Int) < 2147483647 by decide)
  exact intBits_le_64 (by omega) (by omega)
theorem great_nonneg (x : Int) : 0 ≤ x * if decide (10 ^ Int.toNat 18 ≤ x) = true then 1 else 0 := by
  split
  · rename_i hg
    rw [Int.mul_one]
    exact Int.le_trans (Int.le_of_lt (Int.pow_pos (by decide))) (of_decide_eq_true hg)
  · rw [Int.mul_zero]; exact Int.le_refl _
theorem src_mk {a b : Int} {ta tb : Tok} {c : Nat} (ha : 0 ≤ a) (hb : 0 ≤ b) : Src (listOf #[.int a ta, .int b tb] c) := ⟨a, b, ta, tb, c, rfl, ha, hb⟩
section
variable {prog : Program} {w : World}

set_option maxHeartbeats 8000000 in
theorem pool_spec (l : Addr) (vs : List Value) (ns : List Int) (t : Tok) (hi : IntsAre vs ns) (hz : ns.length ≤ 63) : Spec prog w 142 [.ref l, .int 0 t] 2 10 (fun h => h.IsList l vs.toArray) (fun h v h' => ∃ l' o, v = .ref l' ∧ h'.get? l' = some o ∧ h.objs.size ≤ l' ∧ Src o) := by
  intro p loose mean mg mb dp un gd outer base s Q E B X T hd hu hp hret
  (with_unfolding_all refine' enterN ?k1 ?k2 ?k3 ?k4 ?k5 ?k6 ?k7 ?_ ?c1 ?c2 ?c3 ?c4; (((case k1 => assumption); (case k2 => assumption); (try ((case k2b => assumption); (case k2c => assumption); (case k2d => first | exact List.forall_mem_nil _ | (intro q hq; cases List.mem_singleton.mp hq; exact And.intro (by assumption) (by assumption))))); (case k3 => k_is); (case k4 => k_is); (case k5 => omega); (case k6 => first | exact rfl | exact binds_K (by assumption) rfl (by k_is) rfl rfl rfl); (case k7 => first | exact locs rfl | exact rfl); (case c1 => exact rfl); (case c2 => exact rfl); (case c3 => exact rfl); (try (case c4 => decide))); intro _ _ F9; (dsimp only [List.map, List.zip, List.zipWith, List.reverse, List.reverseAux] at F9); revert F9; intro _ _; (try dsimp only); (try ((first | refine fold_env ?_ | refine fold_envC ?_); intro M₉ A₉ e₉ g₉ d₉ o₉)); (try k_fold)))
  ((try k_fold); repeat' (first | (k_unfold; (try dsimp only)) | ((with_reducible show wpAny _ _ (subscriptTail _ _ (.ref _) (.int _ _)) _ _ _); refine' item_ints (by walk_at "mine list") (by assumption) (by walk_at "mine len") (by walk_at "mine len") (by walk_at "mine len") ?_; intro _; (try dsimp only)) | ((fail_if_success (with_reducible (first | show wpAny _ _ (exec (.For _ _ _ _ _) _) _ _ _ | show wpAny _ _ (exec (.While _ _ _ _) _) _ _ _ | show wpAny _ _ (pyIter _) _ _ _ | show wpAny _ _ (call (.type "zip") _) _ _ _ | show wpAny _ _ (call (.type "enumerate") _) _ _ _ | show wpAny _ _ (eval (.ListComp _ _ _ _) _) _ _ _ | show wpAny _ _ (exec (.Assign _ (.ListComp _ _ _ _) _) _) _ _ _))); walk1; (try dsimp only))))
  all_goals
    rename News _ _ _ _ => NN
    refine hret _ _ _ (Fr.keep (by assumption)) (fr_size (by assumption)) ⟨_, _, rfl, (NN _ (.head _)).1, by assumption, src_mk ?_ (Int.fmod_nonneg_of_pos _ (by decide))⟩
    exact great_nonneg _

set_option maxHeartbeats 8000000 in
theorem take_spec (l : Addr) (o : Obj) (n : Int) (t : Tok) (ho : Src o) (hn : 0 < n) (hn2 : n < 1000000) : SpecM prog w 149 [.ref l, .int n t] 2 10 l o (fun _ => True) (fun _ v o' _ => ∃ x t, v = .int x t ∧ 0 ≤ x ∧ x < n ∧ Src o') := by
  intro p loose mean mg mb dp un gd outer base h₀ s Q E B X T hst hsz hl hln hd hu hp hret
  obtain ⟨a, b, ta, tb, c, rfl, ha, hb⟩ := ho
  with_unfolding_all refine' enterG [(l, _)] ?k1 ?k2 ?k2b ?k2c ?k2d ?k3 ?k4 ?k5 ?k6 ?k7 ?_ ?c1 ?c2 ?c3 ?c4
  (((case k1 => assumption); (case k2 => assumption); (try ((case k2b => assumption); (case k2c => assumption); (case k2d => first | exact List.forall_mem_nil _ | (intro q hq; cases List.mem_singleton.mp hq; exact And.intro (by assumption) (by assumption))))); (case k3 => k_is); (case k4 => k_is); (case k5 => omega); (case k6 => first | exact rfl | exact binds_K (by assumption) rfl (by k_is) rfl rfl rfl); (case k7 => first | exact locs rfl | exact rfl); (case c1 => exact rfl); (case c2 => exact rfl); (case c3 => exact rfl); (try (case c4 => decide))); intro _ _ F9; (dsimp only [List.map, List.zip, List.zipWith, List.reverse, List.reverseAux] at F9); revert F9; intro _ _; (try dsimp only); (try ((first | refine fold_env ?_ | refine fold_envC ?_); intro M₉ A₉ e₉ g₉ d₉ o₉)); (try k_fold))
  ((try k_fold); repeat' (first | (k_unfold; (try dsimp only)) | ((with_reducible show wpAny _ _ (binaryOp .Mult (.int _ _) (.int _ _)) _ _ _); refine mul_int ?_ (IntMulOk.of_left (bits_fmod _)); (try dsimp only)) | ((fail_if_success (with_reducible (first | show wpAny _ _ (exec (.For _ _ _ _ _) _) _ _ _ | show wpAny _ _ (exec (.While _ _ _ _) _) _ _ _ | show wpAny _ _ (pyIter _) _ _ _ | show wpAny _ _ (call (.type "zip") _) _ _ _ | show wpAny _ _ (call (.type "enumerate") _) _ _ _ | show wpAny _ _ (eval (.ListComp _ _ _ _) _) _ _ _ | show wpAny _ _ (exec (.Assign _ (.ListComp _ _ _ _) _) _) _ _ _))); walk1; (try dsimp only))))
  all_goals
    rename News _ _ _ _ => NN
    refine hret _ _ _ _ (Fr.keep (by assumption)) (Nat.le_trans (Nat.le_of_eq hsz.symm) (fr_size (by assumption))) (NN _ (.head _)).1 ⟨_, _, rfl, Int.fmod_nonneg_of_pos _ hn, Int.fmod_lt_of_pos _ hn, src_mk ?_ ?_⟩
  · exact Int.fdiv_nonneg ha (Int.le_of_lt hn)
  · exact hb
  · exact ha
  · exact Int.fmod_nonneg_of_pos _ (by decide)
end
section
variable {prog : Program} {w : World} {p : Program} {loose : List Str} {mean : ExcName → Option Value} {mg mb : Str → Option Value}
  {dp un : Nat} {gd : Option (List Code)} {outer : List Env} {base h₀ : Heap} {s : Shared} {Q E : Value → Shared → Prop}
theorem use_take {l : Addr} {o : Obj} {n : Int} {t : Tok} {L : Addr} {m : Str → Option Value} {news : List (Addr × Obj)} {g : Obj → List (Addr × Obj)} {A A₀ : Around} {env : Env}
    (B : Below A₀ base outer h₀ := by k_asm) (F : Fr h₀ L s.heap m := by k_asm) (X : (hd.heap_1 w.params).In h₀ := by k_asm) (N : News h₀ L s.heap news := by k_asm) (U : UpdF l o news g := by k_updF) (T : Top p loose mean mg mb h₀ := by k_asm)
    (ho : Src o := by assumption) (hn : 0 < n := by walk_at "mine len") (hn2 : n < 1000000 := by walk_at "mine len")
    (hA : A = topA dp un gd (env :: outer) := by exact rfl) (hf : env.frame = some L := by exact rfl) (hk : env.scope.kind = .function := by exact rfl)
    (hd : dp + 2 < recursionLimit := by walk_at "mine room") (hu : un + 10 < cLine := by walk_at "mine room")
    (h : ∀ g₀ h' tk' o', Fr h₀ L h' m → News h₀ L h' (g o') → ∀ x t, 0 ≤ x → x < n → Src o' → g₀ = base → Q (.int x t) { s with heap := h', toks := tk' }) :
    wpAny (model prog w) A (call (.ref 149) [.ref l, .int n t]) Q E s :=
  SpecM.use (take_spec _ _ _ _ ho hn hn2) B F X N U T hA hf hk hd hu (fun _ _ _ => True.intro) fun g₀ v h' tk' o' F' N' _ _ po => by
    obtain ⟨x, t, rfl, x0, x1, so⟩ := po
    exact h base h' tk' o' F' N' x t x0 x1 so rfl
end
section
variable {prog : Program} {w : World} {A : Around} {E : Value → Shared → Prop} {s : Shared}
theorem len_at {l : Addr} {vs : List Value} {Q : Value → Shared → Prop} (hl : s.heap.IsList l vs.toArray) (hz : vs.length < 2 ^ 62) (h : ∀ t k, Q (.int vs.length t) { s with toks := k }) : wpAny (model prog w) A (call (.builtin "len") [.ref l]) Q E s :=
  call_len_list hl (by rw [List.size_toArray]; omega) (by rw [List.size_toArray]; exact h _ _)
theorem len_ints {l : Addr} {vs : List Value} {ns : List Int} {Q : Value → Shared → Prop} (hl : s.heap.IsList l vs.toArray) (hi : IntsAre vs ns) (hz : ns.length < 2 ^ 62) (h : ∀ t k, Q (.int ns.length t) { s with toks := k }) : wpAny (model prog w) A (call (.builtin "len") [.ref l]) Q E s :=
  len_at hl (by rw [hi.length]; exact hz) fun t k => by rw [hi.length]; exact h t k
/-- an item of a list at a place in it, not told which -/
theorem item_some {value slice : Expr} {l : Addr} {vs : List Value} {k : Int} {u : Tok} {Q : Value → Shared → Prop}
    (hl : s.heap.IsList l vs.toArray) (h0 : 0 ≤ k) (h1 : k < vs.length) (hz : vs.length < 2 ^ 62) (h : ∀ v, vs[k.toNat]? = some v → Q v s)
    (hs : subscripted slice false (.ref l) (.int k u) = operate [.ref l, .int k u] (getItem (.ref l) (.int k u)) := by with_unfolding_all rfl) :
    wpAny (model prog w) A (subscriptTail value slice (.ref l) (.int k u)) Q E s := by
  have hlt : k.toNat < vs.length := by omega
  exact item_at hl h0 (by omega) (List.getElem?_eq_getElem hlt) (h _ (List.getElem?_eq_getElem hlt)) hs
end
section
variable {prog : Program} {w : World}
set_option maxHeartbeats 8000000 in
theorem one_spec (l : Addr) (o : Obj) (lt : Addr) (vs : List Value) (ho : Src o) (hn : 0 < vs.length) (hn2 : vs.length < 1000) : SpecM prog w 156 [.ref l, .ref lt] 4 20 l o (fun h => h.IsList lt vs.toArray) (fun _ v o' _ => (∃ k : Nat, vs[k]? = some v) ∧ Src o') := by
  intro p loose mean mg mb dp un gd outer base h₀ s Q E B X T hst hsz hl hln hd hu hp hret
  with_unfolding_all refine' enterG [(l, _)] ?k1 ?k2 ?k2b ?k2c ?k2d ?k3 ?k4 ?k5 ?k6 ?k7 ?_ ?c1 ?c2 ?c3 ?c4
  (((case k1 => assumption); (case k2 => assumption); (try ((case k2b => assumption); (case k2c => assumption); (case k2d => first | exact List.forall_mem_nil _ | (intro q hq; cases List.mem_singleton.mp hq; exact And.intro (by assumption) (by assumption))))); (case k3 => k_is); (case k4 => k_is); (case k5 => omega); (case k6 => first | exact rfl | exact binds_K (by assumption) rfl (by k_is) rfl rfl rfl); (case k7 => first | exact locs rfl | exact rfl); (case c1 => exact rfl); (case c2 => exact rfl); (case c3 => exact rfl); (try (case c4 => decide))); intro _ _ F9; (dsimp only [List.map, List.zip, List.zipWith, List.reverse, List.reverseAux] at F9); revert F9; intro _ _; (try dsimp only); (try ((first | refine fold_env ?_ | refine fold_envC ?_); intro M₉ A₉ e₉ g₉ d₉ o₉)); (try k_fold))
  ((try k_fold); repeat' (first | (k_unfold; (try dsimp only)) | ((with_reducible show wpAny _ _ (subscriptTail _ (.Call _ _ _ _) (.ref _) (.int _ _)) _ _ _); refine' item_some (by walk_at "mine list") (by walk_at "mine len") (by walk_at "mine len") (by walk_at "mine len") ?_; intro _ _; (try dsimp only)) | ((with_reducible show wpAny _ _ (call (.builtin "len") [.ref _]) _ _ _); (first | refine' len_ints (by walk_at "mine list") (by assumption) (by walk_at "mine len") ?_ | refine' len_at (by walk_at "mine list") (by walk_at "mine len") ?_); intro _ _; (try dsimp only)) | ((with_reducible show wpAny _ _ (call (.ref _) _) _ _ _); refine' use_take (h := ?_); intro _ _ _ _ _ _ _ _ _ _ _ e9; clear e9; (try dsimp only)) | ((fail_if_success (with_reducible (first | show wpAny _ _ (exec (.For _ _ _ _ _) _) _ _ _ | show wpAny _ _ (exec (.While _ _ _ _) _) _ _ _ | show wpAny _ _ (pyIter _) _ _ _ | show wpAny _ _ (call (.type "zip") _) _ _ _ | show wpAny _ _ (call (.type "enumerate") _) _ _ _ | show wpAny _ _ (eval (.ListComp _ _ _ _) _) _ _ _ | show wpAny _ _ (exec (.Assign _ (.ListComp _ _ _ _) _) _) _ _ _))); walk1; (try dsimp only))))
  rename News _ _ _ _ => NN
  exact hret _ _ _ _ (Fr.keep (by assumption)) (Nat.le_trans (Nat.le_of_eq hsz.symm) (fr_size (by assumption))) (NN _ (.head _)).1 ⟨⟨_, by assumption⟩, by assumption⟩
end
theorem fresh_Filt : True := by
  w_top off
  exact trivial
section
variable {prog : Program} {w : World} {A : Around} {E : Value → Shared → Prop} {s : Shared} {h₀ : Heap} {L D : Addr} {m : Str → Option Value} {news : List (Addr × Obj)} {n : Nat}
theorem index3 {x y z M : Int} {a b c t : Tok} {Q : Value → Shared → Prop} (N : News h₀ L s.heap news) (hm : (D, listOf #[.int x a, .int y b, .int z c] n) ∈ news) (hM : M = x ∨ M = y ∨ M = z)
    (h0 : M = x → ∀ t k, Q (.int 0 t) { s with toks := k }) (h1 : M ≠ x → M = y → ∀ t k, Q (.int 1 t) { s with toks := k }) (h2 : M ≠ x → M ≠ y → M = z → ∀ t k, Q (.int 2 t) { s with toks := k }) :
    wpAny (model prog w) A (call (.builtin "list.index") [.ref D, .int M t]) Q E s := by
  by_cases e0 : M = x
  · exact kf_index N hm rfl (by simp [kf_at, isInt, e0]) rfl (by simp [PySem.sizeLine_eq]) (h0 e0 _ _)
  · by_cases e1 : M = y
    · exact kf_index N hm rfl (by simp [kf_at, isInt, e1, beq_eq_false_iff_ne.mpr (show x ≠ y from fun h => e0 (e1.trans h.symm))]) rfl (by simp [PySem.sizeLine_eq]) (h1 e0 e1 _ _)
    · have e2 : M = z := (hM.resolve_left e0).resolve_left e1
      exact kf_index N hm rfl (by simp [kf_at, isInt, e2, beq_eq_false_iff_ne.mpr (show x ≠ z from fun h => e0 (e2.trans h.symm)), beq_eq_false_iff_ne.mpr (show y ≠ z from fun h => e1 (e2.trans h.symm))]) rfl (by simp [PySem.sizeLine_eq]) (h2 e0 e1 e2 _ _)
end
section
variable {prog : Program} {w : World}
set_option maxHeartbeats 8000000 in
theorem lguess_spec (k l a c : Int) (t u v z : Tok) (h0 : 0 ≤ k) (h4 : k ≤ 4) : Spec prog w 163 [.int k t, .int l u, .int a v, .int c z] 3 20 (fun _ => True) (RetInt (guessI k l a c)) := by
  intro p loose mean mg mb dp un gd outer base s Q E B X T hd hu hp hret
  rcases (by omega : k = 0 ∨ k = 1 ∨ k = 2 ∨ k = 3 ∨ k = 4) with rfl | rfl | rfl | rfl | rfl
  all_goals (with_unfolding_all refine' enterN ?k1 ?k2 ?k3 ?k4 ?k5 ?k6 ?k7 ?_ ?c1 ?c2 ?c3 ?c4; (((case k1 => assumption); (case k2 => assumption); (try ((case k2b => assumption); (case k2c => assumption); (case k2d => first | exact List.forall_mem_nil _ | (intro q hq; cases List.mem_singleton.mp hq; exact And.intro (by assumption) (by assumption))))); (case k3 => k_is); (case k4 => k_is); (case k5 => omega); (case k6 => first | exact rfl | exact binds_K (by assumption) rfl (by k_is) rfl rfl rfl); (case k7 => first | exact locs rfl | exact rfl); (case c1 => exact rfl); (case c2 => exact rfl); (case c3 => exact rfl); (try (case c4 => decide))); intro _ _ F9; (dsimp only [List.map, List.zip, List.zipWith, List.reverse, List.reverseAux] at F9); revert F9; intro _ _; (try dsimp only); (try ((first | refine fold_env ?_ | refine fold_envC ?_); intro M₉ A₉ e₉ g₉ d₉ o₉)); (try k_fold)))
  all_goals ((try k_fold); repeat' (first | (k_unfold; (try dsimp only)) | ((with_reducible show wpAny _ _ (call (.builtin "list.index") _) _ _ _); refine' index3 (by k_asm) (by k_mem) (by assumption) ?_ ?_ ?_; all_goals intros; (try dsimp only)) | ((fail_if_success (with_reducible (first | show wpAny _ _ (exec (.For _ _ _ _ _) _) _ _ _ | show wpAny _ _ (exec (.While _ _ _ _) _) _ _ _ | show wpAny _ _ (pyIter _) _ _ _ | show wpAny _ _ (call (.type "zip") _) _ _ _ | show wpAny _ _ (call (.type "enumerate") _) _ _ _ | show wpAny _ _ (eval (.ListComp _ _ _ _) _) _ _ _ | show wpAny _ _ (exec (.Assign _ (.ListComp _ _ _ _) _) _) _ _ _))); walk1; (try dsimp only))))
  all_goals (refine ret_int (s := s) hret (by assumption) ?_)
  · rfl
  · rfl
  · rfl
  · simp [guessI, Int.fdiv_eq_ediv_of_nonneg _ (show (0 : Int) ≤ 2 by decide)]
  all_goals (show _ = nearestI l a c; rw [near3 rfl rfl rfl]; first | exact (near_l (by assumption) (by assumption)).symm | exact (near_a (by assumption) (by assumption) (by assumption)).symm | exact (near_c (by assumption) (by assumption) (by assumption) (by assumption)).symm)
end
theorem ints_snoc {vs : List Value} {ns : List Int} {x y : Int} {t : Tok} (h : IntsAre vs ns) (e : x = y) : IntsAre (vs ++ [.int x t]) (ns ++ [y]) := e ▸ h.append (.cons _ _ .nil)
theorem small0 {n : Nat} (h : n < 2 ^ 60) : Builtin.Range.small 0 n 1 = true := small_one (by decide) (by decide) (by omega) (by omega)
theorem size0 {n : Nat} : Builtin.Range.rangeSize 0 n 1 = n := by
  simp only [Builtin.Range.rangeSize]
  split
  · split <;> omega
  · omega
-- the end of a loop's turn, its state a pair
/-- the octet at a place, filtered -/
def filtAt (k : Int) (r a : List Int) (i : Nat) : Int := (r.getD i 0 - guessI k (if 4 ≤ i then r.getD (i - 4) 0 else 0) (a.getD i 0) (if 4 ≤ i then a.getD (i - 4) 0 else 0)) % 256
def filtI (k : Int) (r a : List Int) : List Int := k :: (List.range r.length).map (filtAt k r a)
section
variable {prog : Program} {w : World}
set_option maxHeartbeats 8000000 in
theorem filtered_spec (k : Int) (t₀ : Tok) (lr la : Addr) (vr va : List Value) (r a : List Int) (hr : IntsAre vr r) (ha : IntsAre va a) (hl : a.length = r.length) (h0 : 0 ≤ k) (h4 : k ≤ 4) (hz : r.length ≤ 1000) :
    Spec prog w 170 [.int k t₀, .ref lr, .ref la] 5 40 (fun h => h.IsList lr vr.toArray ∧ h.IsList la va.toArray) (NewInts (filtI k r a)) := by
  intro p loose mean mg mb dp un gd outer base s Q E B X T hd hu hp hret
  obtain ⟨hp1, hp2⟩ := hp
  (with_unfolding_all refine' enterN ?k1 ?k2 ?k3 ?k4 ?k5 ?k6 ?k7 ?_ ?c1 ?c2 ?c3 ?c4; (((case k1 => assumption); (case k2 => assumption); (try ((case k2b => assumption); (case k2c => assumption); (case k2d => first | exact List.forall_mem_nil _ | (intro q hq; cases List.mem_singleton.mp hq; exact And.intro (by assumption) (by assumption))))); (case k3 => k_is); (case k4 => k_is); (case k5 => omega); (case k6 => first | exact rfl | exact binds_K (by assumption) rfl (by k_is) rfl rfl rfl); (case k7 => first | exact locs rfl | exact rfl); (case c1 => exact rfl); (case c2 => exact rfl); (case c3 => exact rfl); (try (case c4 => decide))); intro _ _ F9; (dsimp only [List.map, List.zip, List.zipWith, List.reverse, List.reverseAux] at F9); revert F9; intro _ _; (try dsimp only); (try ((first | refine fold_env ?_ | refine fold_envC ?_); intro M₉ A₉ e₉ g₉ d₉ o₉)); (try k_fold)))
  ((try k_fold); repeat' (first | (k_unfold; (try dsimp only)) | ((fail_if_success (with_reducible (first | show wpAny _ _ (exec (.For _ _ _ _ _) _) _ _ _ | show wpAny _ _ (exec (.While _ _ _ _) _) _ _ _ | show wpAny _ _ (pyIter _) _ _ _ | show wpAny _ _ (call (.type "zip") _) _ _ _ | show wpAny _ _ (call (.type "enumerate") _) _ _ _ | show wpAny _ _ (eval (.ListComp _ _ _ _) _) _ _ _ | show wpAny _ _ (exec (.Assign _ (.ListComp _ _ _ _) _) _) _ _ _))); walk1; (try dsimp only))))
  refine for_name ?_
  ((try k_fold); repeat' (first | (k_unfold; (try dsimp only)) | ((with_reducible show wpAny _ _ (call (.builtin "len") [.ref _]) _ _ _); (first | refine' len_ints (by walk_at "mine list") (by assumption) (by walk_at "mine len") ?_ | refine' len_at (by walk_at "mine list") (by walk_at "mine len") ?_); intro _ _; (try dsimp only)) | ((fail_if_success (with_reducible (first | show wpAny _ _ (exec (.For _ _ _ _ _) _) _ _ _ | show wpAny _ _ (exec (.While _ _ _ _) _) _ _ _ | show wpAny _ _ (pyIter _) _ _ _ | show wpAny _ _ (call (.type "zip") _) _ _ _ | show wpAny _ _ (call (.type "enumerate") _) _ _ _ | show wpAny _ _ (eval (.ListComp _ _ _ _) _) _ _ _ | show wpAny _ _ (exec (.Assign _ (.ListComp _ _ _ _) _) _) _ _ _))); walk1; (try dsimp only))))
  rename_i l h2 l2 l1 h3 F1 N1 tt kk h4 tk2 t1 u1 v1 R F N K
  refine for_range (σ := List Value × Nat) (n := r.length) (fun c => [(l, listOf c.1.toArray c.2)]) (fun _ => [(Str.ofString "found", .ref l), (Str.ofString "above", .ref la), (Str.ofString "row", .ref lr), (Str.ofString "kind", .int k t₀)])
    (fun i c => i ≤ r.length ∧ IntsAre c.1 (k :: (List.range i).map (filtAt k r a))) ([.int k t₀], 0)
    rfl rfl rfl R (small0 (by omega)) size0 F N (by (repeat (first | exact List.forall_mem_nil _ | refine List.forall_mem_cons.mpr ⟨by first | rfl | assumption, ?_⟩))) ⟨by omega, .cons _ _ .nil⟩ ?_ ?_
  · intro i t c u h tk own hi hI hoff F' N'
    obtain ⟨vs, n⟩ := c
    simp only [List.cons_append, List.nil_append] at N' hI hoff
    obtain ⟨_, hI⟩ := hI
    clear F1 N1 R F N K
    have hlen := hI.length
    simp only [List.length_cons, List.length_map, List.length_range] at hlen
    walk_at "mine in"
    ((try k_fold); repeat' (first | (k_unfold; (try dsimp only)) | ((with_reducible show wpAny _ _ (call (.ref _) _) _ _ _); refine' Spec.useInt (lguess_spec _ _ _ _ _ _ _ _ (by walk_at "mine len") (by walk_at "mine len")) (h := ?_); intro _ _ _ _ _; (try dsimp only)) | ((with_reducible show wpAny _ _ (call (.builtin "list.append") [_, _]) _ _ _); refine' append_K (by k_asm) (by k_asm) (by k_upd) ?_ (by walk_at "mine len"); intro _ _ N9; (try simp only [List.push_toArray] at N9); revert N9; intro _; (try k_sweep); (try dsimp only)) | ((with_reducible show wpAny _ _ (subscriptTail _ _ (.ref _) (.int _ _)) _ _ _); refine' item_ints (by walk_at "mine list") (by assumption) (by walk_at "mine len") (by walk_at "mine len") (by walk_at "mine len") ?_; intro _; (try dsimp only)) | ((fail_if_success (with_reducible (first | show wpAny _ _ (exec (.For _ _ _ _ _) _) _ _ _ | show wpAny _ _ (exec (.While _ _ _ _) _) _ _ _ | show wpAny _ _ (pyIter _) _ _ _ | show wpAny _ _ (call (.type "zip") _) _ _ _ | show wpAny _ _ (call (.type "enumerate") _) _ _ _ | show wpAny _ _ (eval (.ListComp _ _ _ _) _) _ _ _ | show wpAny _ _ (exec (.Assign _ (.ListComp _ _ _ _) _) _) _ _ _))); walk1; (try dsimp only))))
    all_goals
      show TurnEnd _ _ _ _ _ _ _
      first
      | refine TurnEnd.intro (_, _) (by assumption) (by assumption) (fun _ hp => hp) (by (repeat (first | exact List.forall_mem_nil _ | refine List.forall_mem_cons.mpr ⟨by first | rfl | assumption, ?_⟩))) ?_
      | refine TurnEnd.intro (_, _) (by assumption) (by assumption) (fun _ hp => List.mem_cons_of_mem _ hp) (by (repeat (first | exact List.forall_mem_nil _ | refine List.forall_mem_cons.mpr ⟨by first | rfl | assumption, ?_⟩))) ?_
      | refine TurnEnd.intro (_, _) (by assumption) (by assumption) (fun _ hp => List.mem_cons_of_mem _ (List.mem_cons_of_mem _ hp)) (by (repeat (first | exact List.forall_mem_nil _ | refine List.forall_mem_cons.mpr ⟨by first | rfl | assumption, ?_⟩))) ?_
      refine ⟨hoff, by omega, ?_⟩
      rw [List.range_succ, List.map_append, List.map_cons, List.map_nil]
      refine ints_snoc hI ?_
      rw [Int.fmod_eq_emod_of_nonneg _ (by decide)]
      unfold filtAt
    · rw [if_pos (by omega), if_pos (by omega), show (0 + (i : Int) - 4).toNat = i - 4 by omega, show (0 + (i : Int)).toNat = i by omega]
    · rw [if_neg (by omega), if_neg (by omega), show (0 + (i : Int)).toNat = i by omega]
  · intro c u h tk hI F' N'
    obtain ⟨vs, n⟩ := c
    simp only at N' hI
    clear F1 N1 R F N K
    walk_at "mine in"
    ((try k_fold); repeat' (first | (k_unfold; (try dsimp only)) | ((fail_if_success (with_reducible (first | show wpAny _ _ (exec (.For _ _ _ _ _) _) _ _ _ | show wpAny _ _ (exec (.While _ _ _ _) _) _ _ _ | show wpAny _ _ (pyIter _) _ _ _ | show wpAny _ _ (call (.type "zip") _) _ _ _ | show wpAny _ _ (call (.type "enumerate") _) _ _ _ | show wpAny _ _ (eval (.ListComp _ _ _ _) _) _ _ _ | show wpAny _ _ (exec (.Assign _ (.ListComp _ _ _ _) _) _) _ _ _))); walk1; (try dsimp only))))
    exact ret_ints (s := s) hret (by assumption) (by assumption) (by k_mem) (by assumption) hI.2
end
theorem fresh_Comp : True := by
  w_top off
  exact trivial
section
variable {prog : Program} {w : World} {A : Around} {E : Value → Shared → Prop} {env : Env} {h₀ : Heap} {L : Addr} {m : Str → Option Value}

abbrev testsOf (ifs : List Expr) (env : Env) : Sem Bool :=
  forIn ifs true fun c r => if r = true then do let ok ← isTrue c env (eval c env); pure (ForInStep.yield ok) else pure (ForInStep.yield r)

/-- a comprehension's loop, any target -/
theorem compLoopG {elt target iter : Expr} {ifs : List Expr} {scope : Scope} {pos : Pos} {it acc : Value} {env : Env} {R : Result → Shared → Prop} (I : Nat → Shared → Prop)
    (turn : ∀ n s, I n s → wpAny (model prog w) A (pyNext it) (fun r s₁ => match r with
      | none => R (.ok .next) s₁
      | some v => wpAny (model prog w) A (letOwnedTupleGo target it v) (fun _ s₂ => wpAny (model prog w) A (assign target env v) (fun _ s₃ =>
          wpAny (model prog w) A (testsOf ifs env) (fun ok s₄ =>
            if ok = true then wpAny (model prog w) A (eval elt env) (fun x s₅ =>
              wpAny (model prog w) A (call (.builtin "list.append") [acc, x]) (fun _ s₆ => ∃ m, m < n ∧ I m s₆) (fun _ _ => False) s₅) (fun _ _ => False) s₄
            else ∃ m, m < n ∧ I m s₄) (fun _ _ => False) s₃) (fun _ _ => False) s₂) (fun _ _ => False) s₁) (fun _ _ => False) s)
    (n : Nat) (s : Shared) (h : I n s) :
    codeAny (model prog w) A (.compLoop (.ListComp elt [⟨target, iter, ifs, 0⟩] scope pos) 0 it acc env) R s := by
  refine codeAny_loop rfl I (fun n s hI => ?_) n h
  show wpAny _ A ((compTurn (.ListComp elt [⟨target, iter, ifs, 0⟩] scope pos) 0 it acc env).onRaise (fun x => do noteFrame x env; theTreesLotGoes x)) _ _ s
  refine wpAny_noted (wpAny_mono (E := fun _ _ => False) ?_ (fun _ _ q => q) fun _ _ e => e.elim)
  rw [compTurn_list]
  refine wpAny_bind (wpAny_standAt (wpAny_bind (wpAny_mono (turn n s hI) (fun r s₁ h₁ => ?_) fun _ _ h' => h')))
  cases r with
  | none => exact wpAny_pure h₁
  | some v =>
    refine wpAny_bind (wpAny_mono h₁ (fun _ s₂ h₂ => ?_) fun _ _ h' => h')
    refine wpAny_bind (wpAny_mono h₂ (fun _ s₃ h₃ => wpAny_bind (wpAny_mono h₃ (fun ok s₄ h₄ => ?_) fun _ _ h' => h')) fun _ _ h' => h')
    cases ok with
    | false => exact wpAny_pure ⟨rfl, h₄⟩
    | true =>
      exact wpAny_bind (wpAny_bind (wpAny_mono h₄ (fun x s₅ h₅ => wpAny_bind (wpAny_mono h₅ (fun _ s₆ h₆ => wpAny_pure (wpAny_pure ⟨rfl, h₆⟩)) fun _ _ h' => h')) fun _ _ h' => h'))

/-- what a turn of a comprehension must leave -/
inductive CompTurnI {σ : Type} (h₀ : Heap) (L : Addr) (m : Str → Option Value) (gn : Array GenState) (dr : Drawn) (os : OsState) (Led : σ → List (Addr × Obj)) (own : List (Addr × Obj)) (Ok : σ → Value → Prop) (y : Value) : Shared → Prop
  | mk (c' : σ) (h' : Heap) (tk' : Nat) (F : Fr h₀ L h' m) (N : News h₀ L h' (Led c' ++ own)) (off : OwnOff own ((Led c').map (·.1))) (ok : Ok c' y) : CompTurnI h₀ L m gn dr os Led own Ok y ⟨h', gn, dr, tk', os⟩
abbrev CompTurn {σ : Type} (h₀ : Heap) (L : Addr) (m : Str → Option Value) (s : Shared) (Led : σ → List (Addr × Obj)) (own : List (Addr × Obj)) (Ok : σ → Value → Prop) (y : Value) (s' : Shared) : Prop := CompTurnI h₀ L m s.gens s.drawn s.os Led own Ok y s'

theorem CompTurn.intro {σ : Type} {s : Shared} {Led : σ → List (Addr × Obj)} {own : List (Addr × Obj)} {Ok : σ → Value → Prop} {y : Value} {h' : Heap} {tk' : Nat} {led : List (Addr × Obj)} (c' : σ)
    (F : Fr h₀ L h' m) (N : News h₀ L h' led) (hs : ∀ p ∈ Led c' ++ own, p ∈ led) (off : OwnOff own ((Led c').map (·.1))) (ok : Ok c' y) : CompTurn h₀ L m s Led own Ok y { s with heap := h', toks := tk' } :=
  .mk c' h' tk' F (fun p hp => N p (hs p hp)) off ok
/-- where a comprehension stands ahead of a turn, its measure -/
inductive CompSt {σ : Type} (h₀ : Heap) (L : Addr) (m : Str → Option Value) (s₂ : Shared) (Led : σ → List (Addr × Obj)) (Inv : Nat → σ → List Value → Prop) (wr : List Addr) (n : Nat) (St : Nat → Heap → Prop) (C D : Addr) : Nat → Shared → Prop
  | mk (h' : Heap) (tk i : Nat) (ys : List Value) (m' : Str → Option Value) (c : σ) (hi : i ≤ n) (st : St i h') (F : Fr h₀ L h' m) (hn : h'.Ns C m') (N : News h₀ L h' ((D, LCg.lst ys) :: Led c))
      (off : ∀ p ∈ Led c, p.1 ∉ wr ∧ p.1 ≠ C ∧ p.1 ≠ D) (hJ : Inv i c ys) : CompSt h₀ L m s₂ Led Inv wr n St C D (n + 1 - i) { s₂ with heap := h', toks := tk }

/-- the block of a comprehension behind its iterator -/
abbrev CompGoes (prog : Program) (w : World) (A : Around) (elt target iter : Expr) (ifs : List Expr) (scope : Scope) (pos : Pos) (cl : List (Str × Addr)) (env : Env) (RR : Value → Addr → Result → Shared → Prop) (E : Value → Shared → Prop) (it : Value) (s₂ : Shared) : Prop :=
  wpAny (model prog w) A (newList []) (fun acc s₃ => wpAny (model prog w) A (newFunctionEnv scope env.globals cl [] env.qual none .none (some env)) (fun cenv s₄ =>
    codeAny (model prog w) A (.compStart (.ListComp elt [⟨target, iter, ifs, 0⟩] scope pos) 0 it acc { cenv with scope := relabel scope env }) (RR acc cenv.locals) s₄) E s₃) E s₂

theorem compR {σ : Type} (Led : σ → List (Addr × Obj)) (Inv : Nat → σ → List Value → Prop) (c₀ : σ) {elt target iter : Expr} {ifs : List Expr} {scope : Scope} {pos : Pos} {cl : List (Str × Addr)} {RR : Value → Addr → Result → Shared → Prop} {s₂ : Shared}
    {I : Addr} {fp wr : List Addr} {n : Nat} {Pm : Nat → (Str → Option Value) → (Str → Option Value) → Prop} {St : Nat → Heap → Prop}
    (W : ∀ C, s₂.heap.objs.size ≤ C → Turns prog w A (compEnvC scope cl C env) target I fp wr n Pm St)
    (hself : ∀ i (s : Shared) (Q : Value → Shared → Prop) (E : Value → Shared → Prop), St i s.heap → Q (.ref I) s → wpAny (model prog w) A (pyIter (.ref I)) Q E s)
    (hsz : n ≤ sizeLine) (hcell : ∀ y ∈ scope.names, y.2 ≠ .cell) (hkind : scope.kind = .function)
    (hst : St 0 s₂.heap) (hlt : ∀ b ∈ fp, b < s₂.heap.objs.size) (hwr : ∀ b ∈ wr, h₀.get? b = none) (hLf : L ∉ fp)
    (hfp : ∀ b ∈ fp, b ∈ wr ∨ (∃ o, h₀.get? b = some o) ∨ (∃ o, ∀ c, (b, o) ∈ Led c))
    (F : Fr h₀ L s₂.heap m) (N : News h₀ L s₂.heap (Led c₀)) (hnw : ∀ p ∈ Led c₀, p.1 ∉ wr) (h0 : Inv 0 c₀ [])
    (turn : ∀ i c ys C D oC mC mC' h tk own, i < n → Pm i mC mC' → Inv i c ys → LCg.NsObj oC mC' → OwnOff ((C, oC) :: (D, LCg.lst ys) :: own) ((Led c).map (·.1)) →
      Fr h₀ L h m → News h₀ L h (Led c ++ (C, oC) :: (D, LCg.lst ys) :: own) →
      wpAny (model prog w) A (testsOf ifs (compEnvC scope cl C env)) (fun ok s₄ => if ok = true
          then wpAny (model prog w) A (eval elt (compEnvC scope cl C env)) (CompTurn h₀ L m s₂ Led ((C, oC) :: (D, LCg.lst ys) :: own) fun c' y => Inv (i + 1) c' (ys ++ [y])) (fun _ _ => False) s₄
          else CompTurn h₀ L m s₂ Led ((C, oC) :: (D, LCg.lst ys) :: own) (fun c' _ => Inv (i + 1) c' ys) .none s₄) (fun _ _ => False) { s₂ with heap := h, toks := tk })
    (hlen : ∀ i c ys, Inv i c ys → ys.length ≤ i)
    (done : ∀ D C h tk m' ys c, Inv n c ys → Fr h₀ L h m → News h₀ L h ((D, LCg.lst ys) :: Led c) → (∀ p ∈ Led c, p.1 ≠ D ∧ p.1 ≠ C) → h.Ns C m' → h₀.get? C = none → h₀.get? D = none → C ≠ L → D ≠ L → C ≠ D → h₀.objs.size ≤ D →
      RR (.ref D) C (.ok .next) { s₂ with heap := h, toks := tk }) :
    CompGoes prog w A elt target iter ifs scope pos cl env RR E (.ref I) s₂ := by
  refine wpAny_newObj_type (wpAny_newFunctionEnv hcell (by intro y hy; simp at hy) (fun h₁ hns₁ hsb₁ => ?_) hkind)
  dsimp only at hns₁ hsb₁ ⊢
  generalize hH2 : s₂.heap.push { cls := .type "list", dict := none, data := .seq ([] : List Value).toArray } = H2 at hns₁ hsb₁ ⊢
  have hC : H2.objs.size = s₂.heap.objs.size + 1 := by rw [← hH2, Heap.size_push]
  have hDC : s₂.heap.objs.size ≠ H2.objs.size := by rw [hC]; exact Nat.ne_of_lt (Nat.lt_succ_self _)
  have below : ∀ b, b < s₂.heap.objs.size → b ≠ H2.objs.size ∧ b ≠ s₂.heap.objs.size := fun b hb => ⟨by rw [hC]; exact Nat.ne_of_lt (Nat.lt_succ_of_lt hb), Nat.ne_of_lt hb⟩
  have hDf : s₂.heap.objs.size ∉ fp := fun hm => Nat.lt_irrefl _ (hlt _ hm)
  have old : ∀ b o, s₂.heap.get? b = some o → h₁.get? b = some o := fun b o e => hsb₁.extBut b o (below b (Heap.lt_size e)).1 (Heap.get?_push_of_some _ (hH2 ▸ Heap.get?_push_of_some _ e))
  have hacc : h₁.get? s₂.heap.objs.size = some (LCg.lst []) := hsb₁.extBut _ _ hDC (Heap.get?_push_of_some _ (hH2 ▸ Heap.get?_push_size _ rfl))
  replace W := W H2.objs.size (by rw [hC]; exact Nat.le_succ _)
  have hst₁ : St 0 h₁ := W.frame _ _ _ hst fun b _ o e => old b o e
  have fresh₀ : ∀ a, s₂.heap.objs.size ≤ a → h₀.get? a = none := fun a ha => by
    cases e : h₀.get? a with
    | none => rfl
    | some o' => exact absurd (Heap.lt_size (F.keep a o' e)) (Nat.not_lt.mpr ha)
  have hD₀ : h₀.get? s₂.heap.objs.size = none := fresh₀ _ (Nat.le_refl _)
  have hC₀ : h₀.get? H2.objs.size = none := fresh₀ _ (by rw [hC]; exact Nat.le_succ _)
  have hLlt : L < s₂.heap.objs.size := F.ns.lt
  have hDL : s₂.heap.objs.size ≠ L := Ne.symm (below L hLlt).2
  have hCL : H2.objs.size ≠ L := Ne.symm (below L hLlt).1
  have hwlt : ∀ b ∈ wr, b < s₂.heap.objs.size := fun b hb => hlt b (W.sub b hb)
  have hLw : L ∉ wr := fun h => hLf (W.sub _ h)
  have old₀ : ∀ b o, h₀.get? b = some o → b ∉ wr := fun b o e hb => by rw [hwr b hb] at e; cases e
  have off₀ : ∀ p ∈ Led c₀, p.1 ∉ wr ∧ p.1 ≠ H2.objs.size ∧ p.1 ≠ s₂.heap.objs.size := fun p hp => ⟨hnw p hp, below _ (Heap.lt_size (N p hp).1)⟩
  have hDle : h₀.objs.size ≤ s₂.heap.objs.size := fr_size F
  generalize hCC : H2.objs.size = C at *
  generalize hDD : s₂.heap.objs.size = D at *
  have loop : ∀ s₃ : Shared, s₃ = { s₂ with heap := h₁, toks := s₂.toks + ([] : List (Str × Value)).length } →
      codeAny (model prog w) A (.compLoop (.ListComp elt [⟨target, iter, ifs, 0⟩] scope pos) 0 (.ref I) (.ref D) (compEnvC scope cl C env)) (RR (.ref D) C) s₃ := by
    rintro s₃ rfl
    refine compLoopG
      (CompSt h₀ L m s₂ Led Inv wr n St C D) ?_ (n + 1) _
      (.mk h₁ _ 0 [] _ c₀ (Nat.zero_le _) hst₁ (F.keeps old) hns₁ (fun p hp => ?_) off₀ h0)
    · intro k s' hx
      cases hx with | mk h' tk i ys m' c hi hst' F' hn' N' off' hJ =>
      by_cases hlt' : i < n
      · refine wpAny_mono (W.item i _ m' (fun _ s₃ => wpAny (model prog w) A (testsOf ifs (compEnvC scope cl C env)) (fun ok s₄ =>
            if ok = true then wpAny (model prog w) A (eval elt (compEnvC scope cl C env)) (fun x s₅ =>
              wpAny (model prog w) A (call (.builtin "list.append") [.ref D, x]) (fun _ s₆ => ∃ mm, mm < n + 1 - i ∧ CompSt h₀ L m s₂ Led Inv wr n St C D mm s₆) (fun _ _ => False) s₅) (fun _ _ => False) s₄
            else ∃ mm, mm < n + 1 - i ∧ CompSt h₀ L m s₂ Led Inv wr n St C D mm s₄) (fun _ _ => False) s₃)
          (fun _ _ => False) hlt' hst' hn' fun m₂ h₂ tk₂ hPm st₂ hn₂ hk₂ => ?_) (fun r s₁ h₁ => ?_) fun _ _ e => e
        · obtain ⟨own, hmap, hget⟩ := own_of wr (W.live _ _ st₂)
          obtain ⟨oC, heC, hoC⟩ := LCg.ns_obj hn₂
          have hLC : L ≠ (compEnvC scope cl C env).locals := Ne.symm hCL
          have hk₂' : ∀ b o, b ∉ wr → b ≠ C → h'.get? b = some o → h₂.get? b = some o := hk₂
          have F₂ : Fr h₀ L h₂ m := ⟨F'.ns.at' fun o e => hk₂' L o hLw (Ne.symm hCL) e, fun b o e => hk₂' b o (old₀ b o e) (fun q => by rw [q, hC₀] at e; cases e) (F'.keep b o e), F'.above⟩
          have hDw : D ∉ wr := fun h => by have := hwlt D h; rw [← hDD] at this; exact Nat.lt_irrefl _ this
          have hCw : C ∉ wr := fun h => W.off (W.sub _ h)
          have hoff : OwnOff ((C, oC) :: (D, LCg.lst ys) :: own) ((Led c).map (·.1)) := fun p hp b hb e => by
            obtain ⟨q, hq, rfl⟩ := List.mem_map.mp hb
            have o3 := off' q hq
            rcases List.mem_cons.mp hp with rfl | hp
            · exact o3.2.1 e.symm
            · rcases List.mem_cons.mp hp with rfl | hp
              · exact o3.2.2 e.symm
              · exact o3.1 (e ▸ (hmap ▸ List.mem_map.mpr ⟨p, hp, rfl⟩ : p.1 ∈ wr))
          have N₂ : News h₀ L h₂ (Led c ++ (C, oC) :: (D, LCg.lst ys) :: own) := fun p hp => by
            rcases List.mem_append.mp hp with hp | hp
            · have o3 := off' p hp
              have z := N' p (.tail _ hp)
              exact ⟨hk₂' _ _ o3.1 o3.2.1 z.1, z.2⟩
            · rcases List.mem_cons.mp hp with rfl | hp
              · exact ⟨heC, hCL, hC₀⟩
              · rcases List.mem_cons.mp hp with rfl | hp
                · exact ⟨hk₂' _ _ hDw hDC (N' _ (.head _)).1, hDL, hD₀⟩
                · have hw : p.1 ∈ wr := hmap ▸ List.mem_map.mpr ⟨p, hp, rfl⟩
                  exact ⟨hget p hp, fun q => hLw (q ▸ hw), hwr _ hw⟩
          have hDfp : ∀ b ∈ fp, b ≠ D := fun b hb q => hDf (q ▸ hb)
          -- behind a turn
          have after : ∀ (c' : σ) (h₄ : Heap), Fr h₀ L h₄ m → News h₀ L h₄ (Led c' ++ (C, oC) :: (D, LCg.lst ys) :: own) → St (i + 1) h₄ := fun c' h₄ F₄ N₄ => by
            refine W.frame _ _ _ st₂ fun b hb o e => ?_
            rcases hfp b hb with hb | ⟨o', ho'⟩ | ⟨o', ho'⟩
            · have : b ∈ own.map (·.1) := hmap ▸ hb
              obtain ⟨q, hq, rfl⟩ := List.mem_map.mp this
              have e3 := hget q hq
              rw [e] at e3
              cases e3
              exact (N₄ q (List.mem_append_right _ (.tail _ (.tail _ hq)))).1
            · have e3 := F₂.keep b o' ho'
              rw [e] at e3
              cases e3
              exact F₄.keep b o ho'
            · have e3 := (N₂ _ (List.mem_append_left _ (ho' c))).1
              rw [e] at e3
              cases e3
              exact (N₄ _ (List.mem_append_left _ (ho' c'))).1
          have offs : ∀ c' : σ, OwnOff ((C, oC) :: (D, LCg.lst ys) :: own) ((Led c').map (·.1)) → ∀ p ∈ Led c', p.1 ∉ wr ∧ p.1 ≠ C ∧ p.1 ≠ D := fun c' ho p hp => by
            have hb : p.1 ∈ (Led c').map (·.1) := List.mem_map.mpr ⟨p, hp, rfl⟩
            refine ⟨fun hw => ?_, fun q => ho _ (.head _) _ hb q.symm, fun q => ho _ (.tail _ (.head _)) _ hb q.symm⟩
            obtain ⟨q, hq, e⟩ := List.mem_map.mp (hmap ▸ hw : p.1 ∈ own.map (·.1))
            exact ho q (.tail _ (.tail _ hq)) _ hb e
          refine wpAny_mono (turn i c ys C D oC m' m₂ h₂ tk₂ own hlt' hPm hJ hoC hoff F₂ N₂) (fun ok s₄ h₄ => ?_) fun _ _ e => e
          cases ok with
          | false =>
            replace h₄ : CompTurn h₀ L m s₂ Led _ (fun c' _ => Inv (i + 1) c' ys) .none s₄ := h₄
            cases h₄ with | mk c' h₄' tk₄ F₄ N₄ off₄ hJ₄ =>
            refine ⟨n + 1 - (i + 1), less hlt', .mk h₄' tk₄ (i + 1) ys m₂ c' hlt' (after c' _ F₄ N₄) F₄ (hoC.ns (N₄ (C, oC) (List.mem_append_right _ (.head _))).1) (fun p hp => ?_) (offs c' off₄) hJ₄⟩
            rcases List.mem_cons.mp hp with rfl | hp
            · exact N₄ _ (List.mem_append_right _ (.tail _ (.head _)))
            · exact N₄ _ (List.mem_append_left _ hp)
          | true =>
            refine wpAny_mono h₄ (fun y s₅ h₅ => ?_) fun _ _ e => e
            cases h₅ with | mk c' h₄' tk₄ F₄ N₄ off₄ hJ₄ =>
            have zD := N₄ (D, LCg.lst ys) (List.mem_append_right _ (.tail _ (.head _)))
            have zC := N₄ (C, oC) (List.mem_append_right _ (.head _))
            have o4 := offs c' off₄
            refine append_at (hsz := by show ys.toArray.size ≤ sizeLine; rw [List.size_toArray]; exact Nat.le_trans (hlen _ _ _ hJ) (Nat.le_trans hi hsz)) zD.1 fun h₅ hs₅ hD₅ => ?_
            refine ⟨n + 1 - (i + 1), less hlt', .mk h₅ tk₄ (i + 1) (ys ++ [y]) m₂ c' hlt' (W.frame _ _ _ (after c' _ F₄ N₄) fun b hb o e => hs₅.extBut b o (hDfp b hb) e) (F₄.change hs₅ hDL hD₀)
              ((hoC.ns zC.1).sameBut hs₅ (Ne.symm hDC)) (fun p hp => ?_) o4 hJ₄⟩
            rcases List.mem_cons.mp hp with rfl | hp
            · exact ⟨hD₅.trans (congrArg some (LCg.lst_snoc ys y)), hDL, hD₀⟩
            · have z := N₄ p (List.mem_append_left _ hp)
              exact ⟨hs₅.extBut _ _ (o4 p hp).2.2 z.1, z.2⟩
        · cases r with
          | none => exact h₁.elim
          | some v => exact h₁
      · obtain rfl : i = n := Nat.le_antisymm hi (Nat.not_lt.mp hlt')
        refine W.done _ _ _ hst' fun h₂ tk₂ hk₂ => ?_
        have hDw : D ∉ wr := fun h => by have := hwlt D h; rw [← hDD] at this; exact Nat.lt_irrefl _ this
        have hCw : C ∉ wr := fun h => W.off (W.sub _ h)
        refine done D C h₂ tk₂ m' ys c hJ ⟨F'.ns.at' fun o e => hk₂ L o hLw e, fun b o e => hk₂ b o (old₀ b o e) (F'.keep b o e), F'.above⟩ (fun p hp => ?_) (fun p hp => ⟨(off' p hp).2.2, (off' p hp).2.1⟩) (hn'.at' fun o e => hk₂ _ o hCw e) hC₀ hD₀ hCL hDL (Ne.symm hDC) hDle
        have z := N' p hp
        refine ⟨hk₂ _ _ ?_ z.1, z.2⟩
        rcases List.mem_cons.mp hp with rfl | hp
        · exact hDw
        · exact (off' p hp).1
    · rcases List.mem_cons.mp hp with rfl | hp
      · exact ⟨hacc, hDL, hD₀⟩
      · exact ⟨old _ _ (N p hp).1, (N p hp).2⟩
  exact codeAny_compStart_list (loop _ rfl) (hself 0 _ _ _ hst₁ (loop _ rfl))
end
theorem fresh_Src : True := by
  w_top off
  exact trivial
/-- what an iterator's making leaves: its own objects are new, what it walks was there before -/
structure Laid (h h₁ : Heap) (fp wr rest : List Addr) : Prop where
  keep : ∀ b o, h.get? b = some o → h₁.get? b = some o
  new : ∀ b ∈ wr, h.objs.size ≤ b
  live : ∀ b ∈ fp, b < h₁.objs.size
  part : ∀ b ∈ fp, b ∈ wr ∨ b ∈ rest
  old : ∀ b ∈ rest, ∃ o, h.get? b = some o

section
variable {prog : Program} {w : World} {A : Around} {E : Value → Shared → Prop} {s : Shared} {Q : Value → Shared → Prop}

/-- an iterator, its target a name -/
structure SrcW (prog : Program) (w : World) (A : Around) (h h₁ : Heap) (I : Addr) (rest : List Addr) (n : Nat) (P : Nat → Value → Prop) (fp wr : List Addr) (St : Nat → Heap → Prop) : Prop where
  walks : Walks prog w A I fp wr n P St
  laid : Laid h h₁ fp wr rest
  live : ∀ i h, St i h → ∀ b ∈ wr, ∃ o, h.get? b = some o
  st : St 0 h₁

theorem src_one {o : Obj} {rest : List Addr} {n : Nat} {P : Nat → Value → Prop} {St : Nat → Heap → Prop} {h : Heap}
    (W : Walks prog w A h.objs.size (h.objs.size :: rest) [h.objs.size] n P St) (hl : ∀ i h', St i h' → ∃ o, h'.get? h.objs.size = some o) (hst : St 0 (h.push o)) (hr : ∀ b ∈ rest, ∃ o, h.get? b = some o) :
    SrcW prog w A h (h.push o) h.objs.size rest n P (h.objs.size :: rest) [h.objs.size] St where
  walks := W
  laid := {
    keep := fun b o e => Heap.get?_push_of_some _ e
    new := fun b hb => Nat.le_of_eq (List.mem_singleton.mp hb).symm
    live := fun b hb => by
      rw [Heap.size_push]
      rcases List.mem_cons.mp hb with rfl | hb
      · exact Nat.lt_succ_self _
      · obtain ⟨o, e⟩ := hr b hb
        exact Nat.lt_succ_of_lt (Heap.lt_size e)
    part := fun b hb => by
      rcases List.mem_cons.mp hb with rfl | hb
      · exact .inl (.head _)
      · exact .inr hb
    old := hr }
  live := fun i h' st b hb => by rw [List.mem_singleton.mp hb]; exact hl i h' st
  st := hst

theorem src_list {l : Addr} {vs : List Value} (hh : A.handled = none) (hl : s.heap.IsList l vs.toArray)
    (h : ∀ h₁ I fp wr St, SrcW prog w A s.heap h₁ I [l] vs.length (fun i v => vs[i]? = some v) fp wr St → Q (.ref I) { s with heap := h₁ }) : wpAny (model prog w) A (pyIter (.ref l)) Q E s := by
  obtain ⟨ol, hol, hlc⟩ := id hl
  have hlt : l < s.heap.objs.size := Heap.lt_size hol
  refine wpAny_pyIter_list hl ?_
  have W := Walks.list (prog := prog) (w := w) hh s.heap.objs.size l (Nat.ne_of_lt hlt) vs.toArray
  rw [List.size_toArray] at W
  have W' : Walks prog w A s.heap.objs.size (s.heap.objs.size :: [l]) [s.heap.objs.size] vs.length (fun i v => vs[i]? = some v) _ :=
    { W with item := fun i s Q E hi st hQ => W.item i s Q E hi st fun v h' tk hP => hQ v h' tk (by simpa using hP) }
  refine h _ _ _ _ _ (src_one (h := s.heap) (o := { cls := .type "list_iterator", data := .fields #[.ref l, .int 0 0] }) W'
    (fun i h st => let ⟨o, e, _⟩ := st.1; ⟨o, e⟩) ⟨⟨_, Heap.get?_push_size _ rfl, rfl, rfl⟩, hl.at fun o e => Heap.get?_push_of_some _ e⟩ fun b hb => ?_)
  rw [List.mem_singleton.mp hb]; exact ⟨ol, hol⟩
theorem src_bytes {b : Array UInt8} {tb : Tok} {ns : List Int} (hh : A.handled = none) (hb : KBw.bInts b = ns)
    (h : ∀ h₁ I fp wr St, SrcW prog w A s.heap h₁ I [] ns.length (fun i v => ∃ n t, ns[i]? = some n ∧ v = .int n t) fp wr St → Q (.ref I) { s with heap := h₁ }) : wpAny (model prog w) A (pyIter (.bytes b tb)) Q E s := by
  subst hb
  refine KBw.pyIter_bytes ?_
  have W := KBw.walks (prog := prog) (w := w) hh s.heap.objs.size b tb
  have W' : Walks prog w A s.heap.objs.size (s.heap.objs.size :: []) [s.heap.objs.size] b.size (fun i v => ∃ n t, (KBw.bInts b)[i]? = some n ∧ v = .int n t) _ :=
    { W with item := fun i s Q E hi st hQ => W.item i s Q E hi st fun v h' tk hP => hQ v h' tk (by obtain ⟨k, t, hk, rfl⟩ := hP; exact ⟨_, t, KBw.ints_get hk, rfl⟩) }
  rw [← KBw.ints_length] at W'
  exact h _ _ _ _ _ (src_one (h := s.heap) (o := { cls := .type "bytes_iterator", data := .fields #[.bytes b tb, .int 0 0] }) W' (fun i h st => let ⟨o, e, _⟩ := st; ⟨o, e⟩) ⟨_, Heap.get?_push_size _ rfl, rfl, rfl⟩ fun b hb => nomatch hb)
theorem src_range {r : Addr} {a₀ b₀ : Int} {t₀ u₀ v₀ : Tok} {n : Nat} (hh : A.handled = none) (hr : IsRange s.heap r a₀ b₀ 1 t₀ u₀ v₀) (hsmall : Builtin.Range.small a₀ b₀ 1 = true) (hn : Builtin.Range.rangeSize a₀ b₀ 1 = (n : Int))
    (h : ∀ h₁ I fp wr St, SrcW prog w A s.heap h₁ I [] n (fun i v => ∃ t, v = .int (a₀ + i) t) fp wr St → Q (.ref I) { s with heap := h₁ }) : wpAny (model prog w) A (pyIter (.ref r)) Q E s := by
  refine wpAny_pyIter_range hr hsmall ?_
  have W := LCg.range_walks (prog := prog) (w := w) (I := s.heap.objs.size) hh a₀ n
  rw [hn]
  exact h _ _ _ _ _ (src_one (h := s.heap) (rest := []) W (fun i h st => ⟨_, st⟩) (by show IsRangeIter _ _ _ _ _; simpa using Heap.get?_push_size _ rfl) fun b hb => nomatch hb)
theorem src_str {x : Str} {t : Tok} (hh : A.handled = none)
    (h : ∀ h₁ I fp wr St, SrcW prog w A s.heap h₁ I [] x.cps.size (SignAt x) fp wr St → Q (.ref I) { s with heap := h₁ }) : wpAny (model prog w) A (pyIter (.str x t)) Q E s := by
  cases ha : x.cps.all (· < 128)
  · exact wpAny_pyIter_wide ha (h _ _ _ _ _ (src_one (h := s.heap) (rest := []) (Walks.strWide hh _ x t) (fun i h st => let ⟨o, e, _⟩ := st; ⟨o, e⟩) ⟨_, Heap.get?_push_size _ rfl, rfl, rfl⟩ fun b hb => nomatch hb))
  · exact wpAny_pyIter_ascii ha (h _ _ _ _ _ (src_one (h := s.heap) (rest := []) (Walks.strAscii hh _ x t) (fun i h st => let ⟨o, e, _⟩ := st; ⟨o, e⟩) ⟨_, Heap.get?_push_size _ rfl, rfl, rfl⟩ fun b hb => nomatch hb))

end
theorem Turns.widen {prog : Program} {w : World} {A : Around} {env : Env} {target : Expr} {I : Addr} {fp wr wr' : List Addr} {n : Nat} {Pm : Nat → (Str → Option Value) → (Str → Option Value) → Prop} {St : Nat → Heap → Prop}
    (W : Turns prog w A env target I fp wr n Pm St) (h1 : ∀ b ∈ wr, b ∈ wr') (h2 : ∀ b ∈ wr', b ∈ fp) (h3 : ∀ i h, St i h → ∀ b ∈ wr', ∃ o, h.get? b = some o) : Turns prog w A env target I fp wr' n Pm St where
  sub := h2
  frame := W.frame
  off := W.off
  live := h3
  item := fun i s m Q E hi st hn hQ => W.item i s m Q E hi st hn fun m' h' tk hP st' hn' hk => hQ m' h' tk hP st' hn' fun b o hb hL e => hk b o (fun hb' => hb (h1 b hb')) hL e
  done := fun s Q E st hQ => W.done s Q E st fun h' tk hk => hQ h' tk fun b o hb e => hk b o (fun hb' => hb (h1 b hb')) e

theorem two_of_pair {prog : Program} {w : World} {A : Around} {env : Env} {E : Value → Shared → Prop} {s : Shared} {x y : Str} {px py pos : Pos} {k : Nat} {T : Addr} {a b : Value} {m : Str → Option Value} {Q : Unit → Shared → Prop}
    (hh : A.handled = none) (hT : s.heap.IsTuple T #[a, b]) (hx : env.kindOf x = some .local) (hy : env.kindOf y = some .local) (hp : (env.scope.kind == .class || (env.scope.kind == .module && env.locals != env.globals)) = false) (hn : s.heap.Ns env.locals m)
    (h : ∀ h' tk, h'.Ns env.locals (fun z => if z = y then some b else if z = x then some a else m z) → (∀ c o, c ≠ env.locals → s.heap.get? c = some o → h'.get? c = some o) → Q () { s with heap := h', toks := tk }) :
    wpAny (model prog w) A (assign (.Tuple [.Name x px, .Name y py] k pos) env (.ref T)) Q E s := kcp_assign hh hT hx hy hp hn h

/-- an iterator over pairs, its target two names -/
structure SrcP (prog : Program) (w : World) (A : Around) (h h₁ : Heap) (I : Addr) (rest : List Addr) (n : Nat) (Pt : Nat → Value → Value → Prop) (fp wr : List Addr) (St : Nat → Heap → Prop) : Prop where
  turns : ∀ (env : Env) (x y : Str) (px py pos : Pos) (k : Nat), env.kindOf x = some .local → env.kindOf y = some .local → (env.scope.kind == .class || (env.scope.kind == .module && env.locals != env.globals)) = false → env.locals ∉ fp →
    Turns prog w A env (.Tuple [.Name x px, .Name y py] k pos) I fp wr n (fun i m m' => ∃ a b, Pt i a b ∧ m' = fun z => if z = y then some b else if z = x then some a else m z) St
  self : ∀ i (s : Shared) (Q : Value → Shared → Prop) (E : Value → Shared → Prop), St i s.heap → Q (.ref I) s → wpAny (model prog w) A (pyIter (.ref I)) Q E s
  laid : Laid h h₁ fp wr rest
  st : St 0 h₁

section
variable {prog : Program} {w : World} {A : Around} {E : Value → Shared → Prop} {s : Shared} {Q : Value → Shared → Prop}

/-- a list of pairs -/
theorem src_pairs {l : Addr} {ts : List (Addr × Value × Value)} (hh : A.handled = none) (hl : s.heap.IsList l (ts.map fun t => Value.ref t.1).toArray) (ht : ∀ t ∈ ts, s.heap.IsTuple t.1 #[t.2.1, t.2.2])
    (h : ∀ h₁ I fp wr St, SrcP prog w A s.heap h₁ I (l :: ts.map (·.1)) ts.length (fun i a b => ∃ t, ts[i]? = some (t, a, b)) fp wr St → Q (.ref I) { s with heap := h₁ }) : wpAny (model prog w) A (pyIter (.ref l)) Q E s := by
  obtain ⟨ol, hol, hlc⟩ := id hl
  have hlt : l < s.heap.objs.size := Heap.lt_size hol
  have htl : ∀ t ∈ ts, t.1 < s.heap.objs.size := fun t hm => let ⟨o, e, _⟩ := ht t hm; Heap.lt_size e
  refine wpAny_pyIter_list hl ?_
  have W := Walks.list (prog := prog) (w := w) hh s.heap.objs.size l (Nat.ne_of_lt hlt) (ts.map fun t => Value.ref t.1).toArray
  generalize hI : s.heap.objs.size = I at *
  have hnt : ∀ t ∈ ts, t.1 ≠ I := fun t hm => Nat.ne_of_lt (htl t hm)
  refine h (s.heap.push { cls := .type "list_iterator", data := .fields #[.ref l, .int 0 0] }) I (I :: l :: ts.map (·.1)) [I] (fun i h => (h.IsListIter I l i ∧ h.IsList l (ts.map fun t => Value.ref t.1).toArray) ∧ ∀ t ∈ ts, h.IsTuple t.1 #[t.2.1, t.2.2])
    { turns := fun env x y px py pos k hx hy hp hLf => ?_, self := fun i s Q E st hQ => W.self i s Q E st.1 hQ, laid := ?_, st := ?_ }
  · refine { sub := fun b hb => by rw [List.mem_singleton.mp hb]; exact .head _, frame := fun i h h' st hk => ⟨W.frame i h h' st.1 fun b hb => hk b (by rcases List.mem_cons.mp hb with rfl | hb; exact .head _; rw [List.mem_singleton.mp hb]; exact .tail _ (.head _)), fun t hm => (st.2 t hm).at fun o e => hk t.1 (.tail _ (.tail _ (List.mem_map_of_mem hm))) o e⟩, off := hLf, live := fun i h st b hb => ?_, item := fun i s m Q E hi st hn hQ => ?_, done := fun s Q E st hQ => ?_ }
    · rw [List.mem_singleton.mp hb]
      exact let ⟨o, e, _⟩ := st.1.1; ⟨o, e⟩
    · refine W.item i s _ _ (by simpa using hi) st.1 fun v h' tk hP st' hk => ?_
      have hv : ts[i]? = some ts[i] := List.getElem?_eq_getElem hi
      have hPv : v = .ref ts[i].1 := by
        have := hP
        simp only [List.getElem?_toArray, List.getElem?_map, hv, Option.map_some, Option.some.injEq] at this
        exact this.symm
      subst hPv
      have hLI : env.locals ≠ I := fun q => hLf (q ▸ .head _)
      have ht' : ∀ t ∈ ts, h'.IsTuple t.1 #[t.2.1, t.2.2] := fun t hm => (st.2 t hm).at fun o e => hk t.1 o (by simpa using hnt t hm) e
      dsimp only
      have hit : ∃ o : Obj, h'.get? I = some o ∧ o.cls = .type "list_iterator" := let ⟨o, e, hc, _⟩ := st'.1; ⟨o, e, hc⟩
      obtain ⟨oi, hoi, hci⟩ := hit
      refine wpAny_mono (Q := fun _ s' => s' = { s with heap := h', toks := tk }) ?_ (fun _ s' hs' => ?_) fun _ _ e => e
      · show wpAny _ A (load I >>= _) _ _ _
        refine wpAny_bind (wpAny_load hoi ?_)
        rw [hci]
        cases oi.data <;> first | exact wpAny_pure rfl | (dsimp only; rw [if_neg (by simp)]; exact wpAny_pure rfl)
      · subst hs'
        refine two_of_pair hh (ht' _ (List.getElem_mem hi)) hx hy hp (hn.at' fun o e => hk _ o (by simpa using hLI) e) fun h₂ tk₂ hn₂ hk₂ => ?_
        have off : ∀ b ∈ I :: l :: ts.map (·.1), b ≠ env.locals := fun b hb q => hLf (q ▸ hb)
        refine hQ _ h₂ tk₂ ⟨ts[i].2.1, ts[i].2.2, ⟨ts[i].1, hv⟩, rfl⟩ ⟨W.frame _ _ _ st' fun b hb o e => hk₂ b o (off b (by rcases List.mem_cons.mp hb with rfl | hb; exact .head _; rw [List.mem_singleton.mp hb]; exact .tail _ (.head _))) e, fun t hm => (ht' t hm).at fun o e => hk₂ _ o (off _ (.tail _ (.tail _ (List.mem_map_of_mem hm)))) e⟩ hn₂ fun b o hb hL e => hk₂ b o hL (hk b o hb e)
    · exact W.done s Q E (by simpa using st.1) hQ
  · refine { keep := fun b o e => Heap.get?_push_of_some _ e, new := fun b hb => by rw [List.mem_singleton.mp hb, hI]; exact Nat.le_refl _, live := fun b hb => ?_, part := fun b hb => ?_, old := fun b hb => ?_ }
    · rw [Heap.size_push, hI]
      rcases List.mem_cons.mp hb with rfl | hb
      · exact Nat.lt_succ_self _
      · rcases List.mem_cons.mp hb with rfl | hb
        · exact Nat.lt_succ_of_lt hlt
        · obtain ⟨t, hm, rfl⟩ := List.mem_map.mp hb
          exact Nat.lt_succ_of_lt (htl t hm)
    · rcases List.mem_cons.mp hb with rfl | hb
      · exact .inl (.head _)
      · exact .inr hb
    · rcases List.mem_cons.mp hb with rfl | hb
      · exact ⟨ol, hol⟩
      · obtain ⟨t, hm, rfl⟩ := List.mem_map.mp hb
        exact let ⟨o, e, _⟩ := ht t hm; ⟨o, e⟩
  · exact ⟨⟨⟨_, by rw [← hI]; exact Heap.get?_push_size _ rfl, rfl, rfl⟩, hl.at fun o e => Heap.get?_push_of_some _ e⟩, fun t hm => (ht t hm).at fun o e => Heap.get?_push_of_some _ e⟩
end
theorem fresh_Src2 : True := by
  w_top off
  exact trivial
section
variable {prog : Program} {w : World} {A : Around} {E : Value → Shared → Prop} {s : Shared} {b : Array UInt8} {t : Tok}

theorem nextOf_bytes_item {it : Addr} {i : Nat} {c : UInt8} {Q : Value → Shared → Prop} (hit : KBw.IsBytesIter s.heap it b t i) (hx : b[i]? = some c)
    (hQ : ∀ h', KBw.IsBytesIter h' it b t (i + 1) → Heap.SameBut it s.heap h' → Q (.int (c.toNat : Int) s.toks) { s with heap := h', toks := s.toks + 1 }) :
    wpAny (model prog w) A (Builtin.SmallTypes.nextOf (.ref it)) Q E s := by
  obtain ⟨o, ho, hc, hd⟩ := id hit
  unfold Builtin.SmallTypes.nextOf
  refine wpAny_bind (wpAny_callSpecial?_slot (name := PySem.Str.ofString "__next__") (KBw.iter_typeIs hit) KBw.slot_next
    (wpAny_call_entry KBw.slot_next (KBw.iter_typeIs hit) KBw.entry_next ?_ (KBw.args_next _)))
  show wpAny _ _ (field (.ref it) 0 >>= _) _ _ s
  refine wpAny_bind (wpAny_field ho hd (x := .bytes b t) rfl ?_)
  show wpAny _ _ (if (Value.bytes b t == Value.none) = true then _ else _) _ _ s
  rw [if_neg (show ¬ ((Value.bytes b t == Value.none) = true) from Bool.false_ne_true)]
  show wpAny _ _ (field (.ref it) 1 >>= _) _ _ s
  refine wpAny_bind (wpAny_field ho hd (x := .int i 0) rfl ?_)
  refine wpAny_bind (wpAny_of_eq (a := b) rfl ?_)
  simp only [Int.toNat_natCast, hx]
  refine wpAny_bind (wpAny_setField ho hd (by simp) (wpAny_bind (wpAny_mkInt (wpAny_pure ⟨_, rfl, wpAny_pure (hQ _ ?_ (Heap.SameBut.update ..))⟩))))
  exact ⟨_, Heap.get?_update_self _ ho (Obj.isFreed_of_fields (Obj.data_mapFields hd _)), (Obj.cls_mapFields ..).trans hc, by
    rw [Obj.data_mapFields hd]; simp [rawInt]⟩

theorem nextOf_bytes_end {it : Addr} {i : Nat} {Q : Value → Shared → Prop} (hh : A.handled = none) (hit : KBw.IsBytesIter s.heap it b t i) (hx : b[i]? = none)
    (hE : ∀ h' e, Heap.ExtBut it s.heap h' → (∃ o, h'.get? e = some o ∧ o.cls = .type "StopIteration") → E (.ref e) { s with heap := h' }) :
    wpAny (model prog w) A (Builtin.SmallTypes.nextOf (.ref it)) Q E s := by
  obtain ⟨o, ho, hc, hd⟩ := id hit
  unfold Builtin.SmallTypes.nextOf
  refine wpAny_bind (wpAny_callSpecial?_slot (name := PySem.Str.ofString "__next__") (KBw.iter_typeIs hit) KBw.slot_next
    (wpAny_call_entry KBw.slot_next (KBw.iter_typeIs hit) KBw.entry_next ?_ (KBw.args_next _)))
  show wpAny _ _ (field (.ref it) 0 >>= _) _ _ s
  refine wpAny_bind (wpAny_field ho hd (x := .bytes b t) rfl ?_)
  show wpAny _ _ (if (Value.bytes b t == Value.none) = true then _ else _) _ _ s
  rw [if_neg (show ¬ ((Value.bytes b t == Value.none) = true) from Bool.false_ne_true)]
  show wpAny _ _ (field (.ref it) 1 >>= _) _ _ s
  refine wpAny_bind (wpAny_field ho hd (x := .int i 0) rfl ?_)
  refine wpAny_bind (wpAny_of_eq (a := b) rfl ?_)
  simp only [Int.toNat_natCast, hx]
  refine wpAny_bind (wpAny_rule (wpAny_bind (wpAny_setField ho hd (by simp) ?_)))
  show wpAny _ _ (newExc (.type "StopIteration") [] >>= _) _ _ _
  refine wpAny_bind ?_
  simp only [newExc, newTuple]
  refine wpAny_bind (wpAny_newObj_type ?_ (by size_fits))
  refine wpAny_bind (m := firstArgMember _ _) (wpAny_of_eq (a := Value.none) (by first | rfl | (simp only [firstArgMember]; rfl)) ?_)
  refine wpAny_newObj_type ?_ (by size_fits)
  simp only [raiseNew]
  refine wpAny_bind (wpAny_handled ?_)
  rw [show A.in1.handled = none from hh]
  refine wpAny_bind (wpAny_pure (wpAny_throw ?_))
  exact hE _ _ (((Heap.SameBut.update ..).extBut.push _).push _) ⟨_, Heap.get?_push_size _ rfl, rfl⟩

theorem draws_bytes (hh : A.handled = none) (it : Addr) (b : Array UInt8) (t : Tok) :
    Draws prog w A it [it] b.size (fun i v => ∃ c u, b[i]? = some c ∧ v = .int (c.toNat : Int) u) (fun i h => KBw.IsBytesIter h it b t i) where
  live := fun _ _ st => let ⟨o, ho, _⟩ := st; ⟨o, ho⟩
  frame := fun _ _ _ st hk => let ⟨o, ho, r⟩ := st; ⟨o, hk it (by simp) o ho, r⟩
  item := fun i s Q E hi st hQ => by
    refine nextOf_bytes_item st (c := b[i]) (by simp [hi]) fun h' hit' hs' => ?_
    exact hQ _ h' (s.toks + 1) ⟨_, _, by simp [hi], rfl⟩ hit' hs'
  done := fun s Q E st hE => nextOf_bytes_end hh st (by simp) hE

set_option maxHeartbeats 8000000 in
theorem meets_enumerate_bytes (b : Array UInt8) (t : Tok) :
    Meets (Builtin.«enumerate.__new__» ⟨[.type "enumerate", .bytes b t], []⟩) (fun _ R s =>
      R (.ok (.ret (.ref (s.heap.push { cls := .type "bytes_iterator", data := .fields #[.bytes b t, .int 0 0] }).objs.size)))
        { s with heap := (s.heap.push { cls := .type "bytes_iterator", data := .fields #[.bytes b t, .int 0 0] }).push { cls := .type "enumerate", data := .fields #[.none, .bool false, .ref s.heap.objs.size, rawInt 0, .none, .none] } }) :=
  .of_wp fun prog w A R s h => by
    obtain ⟨hp, g, d, tk, os⟩ := s
    have hsub := sub_enumerate
    wp_walk
    refine wpAny_stack_any fun st => wpAny_pure ?_
    split
    · rename_i c _ _ _ _ _
      cases (c == Value.type "enumerate")
      · wp_walk using KBw.pyIter_bytes
        exact ⟨_, rfl, h⟩
      · wp_walk using KBw.pyIter_bytes
        exact ⟨_, rfl, h⟩
    · wp_walk using KBw.pyIter_bytes
      exact ⟨_, rfl, h⟩

theorem call_enumerate_bytes {Q : Value → Shared → Prop}
    (h : ∀ h', IsEnum h' (s.heap.objs.size + 1) s.heap.objs.size 0 .none → KBw.IsBytesIter h' s.heap.objs.size b t 0 → h'.objs.size = s.heap.objs.size + 2 →
      (∀ b o, s.heap.get? b = some o → h'.get? b = some o) → Q (.ref (s.heap.objs.size + 1)) { s with heap := h' }) :
    wpAny (model prog w) A (call (.type "enumerate") [.bytes b t]) Q E s := by
  refine callType_new F.called_enumerate (by decide) (F.typeCall_enumerate_1 _) (F.newCall_enumerate_1 _) (fun obj => F.args_object_init_2 obj _) F.entry_enumerate_new
    (meets_enumerate_bytes b t) ?_
  have hz : (s.heap.push { cls := .type "bytes_iterator", data := .fields #[.bytes b t, .int 0 0] }).objs.size = s.heap.objs.size + 1 := Heap.size_push ..
  show _ ∧ _
  rw [hz]
  have he : IsEnum ((s.heap.push { cls := .type "bytes_iterator", data := .fields #[.bytes b t, .int 0 0] }).push
      { cls := .type "enumerate", data := .fields #[.none, .bool false, .ref s.heap.objs.size, rawInt 0, .none, .none] }) (s.heap.objs.size + 1) s.heap.objs.size 0 .none := by
    have := Heap.get?_push_size (s.heap.push { cls := .type "bytes_iterator", data := .fields #[.bytes b t, .int 0 0] })
      (o := { cls := .type "enumerate", data := .fields #[.none, .bool false, .ref s.heap.objs.size, rawInt 0, .none, .none] }) rfl
    rw [hz] at this; exact this
  refine ⟨⟨_, he, rfl⟩, h _ he ⟨_, Heap.get?_push_of_some _ (Heap.get?_push_size _ rfl), rfl, rfl⟩ (by rw [Heap.size_push, hz]) fun b o y => Heap.get?_push_of_some _ (Heap.get?_push_of_some _ y)⟩

/-- enumerate over octets -/
theorem src_enum_bytes {ns : List Int} {Q : Value → Shared → Prop} (hh : A.handled = none) (hb : KBw.bInts b = ns)
    (h : ∀ h₁ I fp wr St, SrcP prog w A s.heap h₁ I [] ns.length (fun i x y => ∃ n t u, ns[i]? = some n ∧ x = .int i t ∧ y = .int n u) fp wr St → Q (.ref I) { s with heap := h₁ }) :
    wpAny (model prog w) A (call (.type "enumerate") [.bytes b t]) (fun xv s₁ => wpAny (model prog w) A (pyIter xv) Q E s₁) E s := by
  subst hb
  refine call_enumerate_bytes fun h' hE hI hsz hk => ?_
  refine wpAny_pyIter_enum hE ?_
  have W := WalksT.enumerateD (prog := prog) (w := w) (A := A) (draws_bytes (A := A.in1) hh s.heap.objs.size b t) (s.heap.objs.size + 1) (Nat.succ_ne_self _) (by simp) (by simp)
  have live : ∀ (i : Nat) h, ((∃ old, IsEnum h (s.heap.objs.size + 1) s.heap.objs.size (i : Int) old) ∧ KBw.IsBytesIter h s.heap.objs.size b t i) → ∀ c ∈ [s.heap.objs.size + 1, s.heap.objs.size], ∃ o, h.get? c = some o := by
    intro i h hrx2 c hc
    obtain ⟨⟨old, he⟩, ⟨o, ho, _⟩⟩ := hrx2
    rcases List.mem_cons.mp hc with rfl | hc
    · exact ⟨_, he⟩
    · rw [List.mem_singleton.mp hc]; exact ⟨o, ho⟩
  refine h h' _ [s.heap.objs.size + 1, s.heap.objs.size] [s.heap.objs.size + 1, s.heap.objs.size] (fun i h => (∃ old, IsEnum h (s.heap.objs.size + 1) s.heap.objs.size (i : Int) old) ∧ KBw.IsBytesIter h s.heap.objs.size b t i) { turns := fun env x y px py pos k hx hy hp hLf => ?_, self := W.self, laid := ?_, st := ⟨⟨_, hE⟩, hI⟩ }
  · have T := Turns.ofPairs (env := env) (x := x) (y := y) (px := px) (py := py) (pos := pos) (k := k) W hh hx hy hp hLf live (by rintro i vals ⟨t, x, _, rfl⟩; rfl)
    rw [KBw.ints_length]
    refine { T with item := fun i s m Q E hi st hn hQ => T.item i s m Q E hi st hn fun m' h' tk hP => hQ m' h' tk ?_ }
    obtain ⟨a, c, ⟨t, x, ⟨d, u, hd, rfl⟩, e⟩, rfl⟩ := hP
    have e1 : a = .int i t := by have := congrArg (fun l => l[0]?) e; simpa using this
    have e2 : c = .int (d.toNat : Int) u := by have := congrArg (fun l => l[1]?) e; simpa using this
    exact ⟨a, c, ⟨_, t, u, KBw.ints_get hd, e1, e2⟩, rfl⟩
  · refine { keep := hk, new := fun c hc => ?_, live := fun c hc => ?_, part := fun c hc => .inl hc, old := fun c hc => nomatch hc }
    · rcases List.mem_cons.mp hc with rfl | hc
      · exact Nat.le_succ _
      · rw [List.mem_singleton.mp hc]; exact Nat.le_refl _
    · rw [hsz]
      rcases List.mem_cons.mp hc with rfl | hc
      · exact Nat.lt_succ_self _
      · rw [List.mem_singleton.mp hc]; exact Nat.lt_succ_of_lt (Nat.lt_succ_self _)

/-- enumerate over a list -/
theorem src_enum_list {l : Addr} {vs : List Value} {Q : Value → Shared → Prop} (hh : A.handled = none) (hl : s.heap.IsList l vs.toArray)
    (h : ∀ h₁ I fp wr St, SrcP prog w A s.heap h₁ I [l] vs.length (fun i x y => ∃ t, x = .int i t ∧ vs[i]? = some y) fp wr St → Q (.ref I) { s with heap := h₁ }) :
    wpAny (model prog w) A (call (.type "enumerate") [.ref l]) (fun xv s₁ => wpAny (model prog w) A (pyIter xv) Q E s₁) E s := by
  obtain ⟨ol, hol, hlc⟩ := id hl
  have hlt : l < s.heap.objs.size := Heap.lt_size hol
  refine call_enumerate_list hl fun h' hE hI hsz hk => ?_
  refine wpAny_pyIter_enum hE ?_
  have W := WalksT.enumerate (prog := prog) (w := w) (A := A) hh (s.heap.objs.size + 1) s.heap.objs.size l (Nat.succ_ne_self _) (Nat.ne_of_lt (Nat.lt_succ_of_lt hlt)) (Nat.ne_of_lt hlt) vs.toArray
  have live : ∀ (i : Nat) h, ((∃ old, IsEnum h (s.heap.objs.size + 1) s.heap.objs.size (i : Int) old) ∧ h.IsListIter s.heap.objs.size l i ∧ h.IsList l vs.toArray) → ∀ c ∈ [s.heap.objs.size + 1, s.heap.objs.size, l], ∃ o, h.get? c = some o := by
    intro i h hrx2 c hc
    obtain ⟨⟨old, he⟩, ⟨o, ho, _⟩, ⟨o', ho', _⟩⟩ := hrx2
    rcases List.mem_cons.mp hc with rfl | hc
    · exact ⟨_, he⟩
    · rcases List.mem_cons.mp hc with rfl | hc
      · exact ⟨o, ho⟩
      · rw [List.mem_singleton.mp hc]; exact ⟨o', ho'⟩
  refine h h' _ [s.heap.objs.size + 1, s.heap.objs.size, l] [s.heap.objs.size + 1, s.heap.objs.size] (fun i h => (∃ old, IsEnum h (s.heap.objs.size + 1) s.heap.objs.size (i : Int) old) ∧ h.IsListIter s.heap.objs.size l i ∧ h.IsList l vs.toArray) { turns := fun env x y px py pos k hx hy hp hLf => ?_, self := W.self, laid := ?_, st := ⟨⟨_, hE⟩, hI, hl.at fun o e => hk l o e⟩ }
  · have T := Turns.ofPairs (env := env) (x := x) (y := y) (px := px) (py := py) (pos := pos) (k := k) W hh hx hy hp hLf live (by rintro i vals ⟨t, x, _, rfl⟩; rfl)
    rw [List.size_toArray] at T
    refine { T with item := fun i s m Q E hi st hn hQ => T.item i s m Q E hi st hn fun m' h' tk hP => hQ m' h' tk ?_ }
    obtain ⟨a, c, ⟨t, x, hx, e⟩, rfl⟩ := hP
    have e1 : a = .int i t := by have := congrArg (fun l => l[0]?) e; simpa using this
    have e2 : c = x := by have := congrArg (fun l => l[1]?) e; simpa using this
    exact ⟨a, c, ⟨t, e1, by rw [e2]; simpa using hx⟩, rfl⟩
  · refine { keep := hk, new := fun c hc => ?_, live := fun c hc => ?_, part := fun c hc => ?_, old := fun c hc => ?_ }
    · rcases List.mem_cons.mp hc with rfl | hc
      · exact Nat.le_succ _
      · rw [List.mem_singleton.mp hc]; exact Nat.le_refl _
    · rw [hsz]
      rcases List.mem_cons.mp hc with rfl | hc
      · exact Nat.lt_succ_self _
      · rcases List.mem_cons.mp hc with rfl | hc
        · exact Nat.lt_succ_of_lt (Nat.lt_succ_self _)
        · rw [List.mem_singleton.mp hc]; exact Nat.lt_succ_of_lt (Nat.lt_succ_of_lt hlt)
    · rcases List.mem_cons.mp hc with rfl | hc
      · exact .inl (by simp)
      · rcases List.mem_cons.mp hc with rfl | hc
        · exact .inl (by simp)
        · exact .inr hc
    · rw [List.mem_singleton.mp hc]; exact ⟨ol, hol⟩

/-- zip of two lists -/
theorem src_zip {l1 l2 : Addr} {xs ys : List Value} {Q : Value → Shared → Prop} (hh : A.handled = none) (hl1 : s.heap.IsList l1 xs.toArray) (hl2 : s.heap.IsList l2 ys.toArray)
    (h : ∀ h₁ I fp wr St, SrcP prog w A s.heap h₁ I [l1, l2] (min xs.length ys.length) (fun i x y => xs[i]? = some x ∧ ys[i]? = some y) fp wr St → Q (.ref I) { s with heap := h₁ }) :
    wpAny (model prog w) A (call (.type "zip") [.ref l1, .ref l2]) (fun xv s₁ => wpAny (model prog w) A (pyIter xv) Q E s₁) E s := by
  obtain ⟨o1, ho1, _⟩ := id hl1
  obtain ⟨o2, ho2, _⟩ := id hl2
  have hlt1 : l1 < s.heap.objs.size := Heap.lt_size ho1
  have hlt2 : l2 < s.heap.objs.size := Heap.lt_size ho2
  refine call_zip_2 hl1 hl2 fun h' hz hTI hTO hi1 hi2 hsz hk => ?_
  refine wpAny_pyIter_zip hz ?_
  have D : ZipApart (s.heap.objs.size + 4) (s.heap.objs.size + 2) (s.heap.objs.size + 3) s.heap.objs.size (s.heap.objs.size + 1) l1 l2 := ktu_apart _ _ _ hlt1 hlt2
  have W := WalksT.zip2 (prog := prog) (w := w) hh _ _ _ _ _ _ _ D xs.toArray ys.toArray
  generalize hI : s.heap.objs.size = I at *
  have live : ∀ i h, (IsZip h (I + 4) (I + 2) (I + 3) .none ∧ IsPair h (I + 2) (.ref I) (.ref (I + 1)) ∧ (∃ a b, IsPair h (I + 3) a b) ∧ h.IsListIter I l1 i ∧ h.IsListIter (I + 1) l2 i ∧ h.IsList l1 xs.toArray ∧ h.IsList l2 ys.toArray) → ∀ c ∈ [I + 4, I + 2, I + 3, I, I + 1, l1, l2], ∃ o, h.get? c = some o := by
    intro i h hrx2
    obtain ⟨hz, hTI, ⟨a, b, hTO⟩, ⟨o1, ho1, _⟩, ⟨o2, ho2, _⟩, ⟨o3, ho3, _⟩, ⟨o4, ho4, _⟩⟩ := hrx2
    exact List.forall_mem_cons.mpr ⟨⟨_, hz⟩, List.forall_mem_cons.mpr ⟨⟨_, hTI⟩, List.forall_mem_cons.mpr ⟨⟨_, hTO⟩, List.forall_mem_cons.mpr ⟨⟨_, ho1⟩, List.forall_mem_cons.mpr ⟨⟨_, ho2⟩, List.forall_mem_cons.mpr ⟨⟨_, ho3⟩, List.forall_mem_cons.mpr ⟨⟨_, ho4⟩, List.forall_mem_nil _⟩⟩⟩⟩⟩⟩⟩
  refine h h' _ [I + 4, I + 2, I + 3, I, I + 1, l1, l2] [I + 4, I + 2, I + 3, I, I + 1] (fun i h => IsZip h (I + 4) (I + 2) (I + 3) .none ∧ IsPair h (I + 2) (.ref I) (.ref (I + 1)) ∧ (∃ a b, IsPair h (I + 3) a b) ∧ h.IsListIter I l1 i ∧ h.IsListIter (I + 1) l2 i ∧ h.IsList l1 xs.toArray ∧ h.IsList l2 ys.toArray) { turns := fun env x y px py pos k hx hy hp hLf => ?_, self := W.self, laid := ?_, st := ⟨hz, hTI, ⟨_, _, hTO⟩, hi1, hi2, hl1.at fun o e => hk l1 o e, hl2.at fun o e => hk l2 o e⟩ }
  · have T := Turns.ofPairs (env := env) (x := x) (y := y) (px := px) (py := py) (pos := pos) (k := k) W hh hx hy hp hLf live (by rintro i vals ⟨x, y, _, _, rfl⟩; rfl)
    rw [List.size_toArray, List.size_toArray] at T
    have T' := T.widen (wr' := [I + 4, I + 2, I + 3, I, I + 1]) (by walk_at "mine sub") (by walk_at "mine sub") (fun i h st c hc => live i h st c ((show ∀ c ∈ [I + 4, I + 2, I + 3, I, I + 1], c ∈ [I + 4, I + 2, I + 3, I, I + 1, l1, l2] by walk_at "mine sub") c hc))
    refine { T' with item := fun i s m Q E hi st hn hQ => T'.item i s m Q E hi st hn fun m' h' tk hP => hQ m' h' tk ?_ }
    obtain ⟨a, c, ⟨x, y, hx, hy, e⟩, rfl⟩ := hP
    have e1 : a = x := by have := congrArg (fun l => l[0]?) e; simpa using this
    have e2 : c = y := by have := congrArg (fun l => l[1]?) e; simpa using this
    exact ⟨a, c, ⟨by rw [e1]; simpa using hx, by rw [e2]; simpa using hy⟩, rfl⟩
  · refine { keep := hk, new := ?_, live := ?_, part := ?_, old := ?_ }
    · repeat (first | exact List.forall_mem_nil _ | refine List.forall_mem_cons.mpr ⟨by rw [hI]; first | exact Nat.le_refl _ | exact Nat.le_add_right _ _, ?_⟩)
    · rw [hsz]
      exact List.forall_mem_cons.mpr ⟨Nat.add_lt_add_left (by decide) _, List.forall_mem_cons.mpr ⟨Nat.add_lt_add_left (by decide) _, List.forall_mem_cons.mpr ⟨Nat.add_lt_add_left (by decide) _, List.forall_mem_cons.mpr ⟨Nat.lt_add_of_pos_right (by decide), List.forall_mem_cons.mpr ⟨Nat.add_lt_add_left (by decide) _, List.forall_mem_cons.mpr ⟨Nat.lt_of_lt_of_le hlt1 (Nat.le_add_right _ _), List.forall_mem_cons.mpr ⟨Nat.lt_of_lt_of_le hlt2 (Nat.le_add_right _ _), List.forall_mem_nil _⟩⟩⟩⟩⟩⟩⟩
    · repeat (first | exact List.forall_mem_nil _ | refine List.forall_mem_cons.mpr ⟨by first | exact .inl (by k_mem) | exact .inr (by k_mem), ?_⟩)
    · exact List.forall_mem_cons.mpr ⟨⟨o1, ho1⟩, List.forall_mem_cons.mpr ⟨⟨o2, ho2⟩, List.forall_mem_nil _⟩⟩
end
theorem fresh_Comp2 : True := by
  w_top off
  exact trivial
section
variable {prog : Program} {w : World} {A : Around} {E : Value → Shared → Prop} {s : Shared} {env : Env} {h₀ : Heap} {L : Addr} {m : Str → Option Value}

/-- the walk's way into a comprehension -/
theorem comp_eval {elt target iter : Expr} {ifs : List Expr} {scope : Scope} {pos : Pos} {cl : List (Str × Addr)} {Q : Value → Shared → Prop}
    (hclos : closureFor scope env = pure cl) (hkind : scope.kind = .function) (hnames : ∀ x ∈ scope.names, x.2 = .local → scope.names.lookup x.1 = some .local)
    (h : wpAny (model prog w) A (eval iter env) (fun xv s₁ => wpAny (model prog w) A (pyIter xv) (fun it s₂ => CompGoes prog w A elt target iter ifs scope pos cl env (fun acc C => compPost (model prog w) A E none Q acc C) E it s₂) E s₁) E s)
    (hs : ∀ x, foldedSetIterable iter env x = pure x := by intro _; rfl) : wpAny (model prog w) A (eval (.ListComp elt [⟨target, iter, ifs, 0⟩] scope pos) env) Q E s := by
  rw [eval_ListComp]
  exact wpAny_comprehension_free (use := none) rfl hs hclos hkind hnames h

theorem comp_assign {elt target iter : Expr} {ifs : List Expr} {scope : Scope} {pos spos : Pos} {cl : List (Str × Addr)} {y : Str} {py : Pos} {Q : Flow → Shared → Prop}
    (hsw : swapsWith (.ListComp elt [⟨target, iter, ifs, 0⟩] scope pos) (some (.Name y py)) spos.line env = pure true)
    (hclos : closureFor scope env = pure cl) (hkind : scope.kind = .function) (hnames : ∀ x ∈ scope.names, x.2 = .local → scope.names.lookup x.1 = some .local)
    (h : wpAny (model prog w) A (eval iter env) (fun xv s₁ => wpAny (model prog w) A (pyIter xv) (fun it s₂ => CompGoes prog w A elt target iter ifs scope pos cl env (fun acc C => compPost (model prog w) A E (some (assign (.Name y py) env)) (fun _ s' => Q .next s') acc C) E it s₂) E s₁) E s)
    (hs : ∀ x, foldedSetIterable iter env x = pure x := by intro _; rfl) : wpAny (model prog w) A (exec (.Assign [.Name y py] (.ListComp elt [⟨target, iter, ifs, 0⟩] scope pos) spos) env) Q E s := by
  rw [exec_Assign_Name_used _ _ _ _ hsw]
  refine wpAny_bind (wpAny_standAt (wpAny_bind ?_))
  show wpAny _ A (do let _ ← comprehension (.ListComp elt [⟨target, iter, ifs, 0⟩] scope pos) scope env _ (newList []) false (eval iter env) (some (assign (.Name y py) env))) _ _ s
  refine wpAny_bind (wpAny_mono (wpAny_comprehension_free (use := some (assign (.Name y py) env)) (Q := fun _ s' => Q .next s') rfl hs hclos hkind hnames h) (fun _ s' hq => wpAny_pure (wpAny_pure hq)) fun _ _ e => e)

/-- behind the block: the value -/
def CompDone (h₀ : Heap) (L : Addr) (m : Str → Option Value) (s : Shared) {σ : Type} (Led : σ → List (Addr × Obj)) (Inv : σ → List Value → Prop) (Q : Value → Shared → Prop) : Prop :=
  ∀ D h tk ys c, Inv c ys → Fr h₀ L h m → News h₀ L h ((D, LCg.lst ys) :: Led c) → (∀ p ∈ Led c, p.1 ≠ D) → h₀.objs.size ≤ D → Q (.ref D) { s with heap := h, toks := tk }
def CompDoneA (h₀ : Heap) (L : Addr) (m : Str → Option Value) (s : Shared) (y : Str) {σ : Type} (Led : σ → List (Addr × Obj)) (Inv : σ → List Value → Prop) (Q : Flow → Shared → Prop) : Prop :=
  ∀ D h tk ys c, Inv c ys → Fr h₀ L h (fun z => if z = y then some (.ref D) else m z) → News h₀ L h ((D, LCg.lst ys) :: Led c) → (∀ p ∈ Led c, p.1 ≠ D) → h₀.objs.size ≤ D → Q .next { s with heap := h, toks := tk }

/-- what the rest of the text must show of a block: either form -/
def CompOut (M : Model) (A : Around) (E : Value → Shared → Prop) (h₀ : Heap) (L : Addr) (m : Str → Option Value) (s : Shared) {σ : Type} (Led : σ → List (Addr × Obj)) (Inv : σ → List Value → Prop) (RR : Value → Addr → Result → Shared → Prop) : Prop :=
  ∀ D C h tk m' ys c, Inv c ys → Fr h₀ L h m → News h₀ L h ((D, LCg.lst ys) :: Led c) → (∀ p ∈ Led c, p.1 ≠ D ∧ p.1 ≠ C) → h.Ns C m' → h₀.get? C = none → h₀.get? D = none → C ≠ L → D ≠ L → C ≠ D → h₀.objs.size ≤ D → RR (.ref D) C (.ok .next) { s with heap := h, toks := tk }

theorem CompOut.eval {σ : Type} {Led : σ → List (Addr × Obj)} {Inv : σ → List Value → Prop} {Q : Value → Shared → Prop} {M : Model} (done : CompDone h₀ L m s Led Inv Q) : CompOut M A E h₀ L m s Led Inv (fun acc C => compPost M A E none Q acc C) :=
  fun D C h tk m' ys c hI F N off hn hC₀ hD₀ hCL hDL hCD hDle => ⟨m', hn, fun h'' hs'' => done D h'' tk ys c hI (F.change hs'' hCL hC₀) (fun p hp => by
    refine ⟨hs''.extBut _ _ ?_ (N p hp).1, (N p hp).2⟩
    rcases List.mem_cons.mp hp with rfl | hp
    · exact Ne.symm hCD
    · exact (off p hp).2) (fun p hp => (off p hp).1) hDle⟩

theorem CompOut.assign {σ : Type} {Led : σ → List (Addr × Obj)} {Inv : σ → List Value → Prop} {Q : Flow → Shared → Prop} {y : Str} {py : Pos} (hLe : env.locals = L) (hy : env.kindOf y = some .local) (hp : (env.scope.kind == .class || (env.scope.kind == .module && env.locals != env.globals)) = false)
    (done : CompDoneA h₀ L m s y Led Inv Q) : CompOut (model prog w) A E h₀ L m s Led Inv (fun acc C => compPost (model prog w) A E (some (PySem.assign (.Name y py) env)) (fun _ s' => Q .next s') acc C) := by
  subst hLe
  intro D C h' tk m' ys c hI F' N' off hn hC₀ hD₀ hCL hDL hCD hDle
  show wpAny _ A (PySem.assign (.Name y py) env (.ref D)) _ _ _
  refine wpAny_assign_Name (wpAny_storeName_local hy F'.ns (fun h₂ hn₂ hs₂ => ?_) hp)
  have hL₀ : h₀.get? env.locals = none := Heap.get?_none_of_le F'.above
  have F₂ : Fr h₀ env.locals h₂ (fun z => if z = y then some (.ref D) else m z) := ⟨hn₂, fun b o e => hs₂.extBut b o (fun q => by rw [q, hL₀] at e; cases e) (F'.keep b o e), F'.above⟩
  refine ⟨m', hn.sameBut hs₂ hCL, fun h'' hs'' => done D h'' _ ys c hI (F₂.change hs'' hCL hC₀) (fun p hp => ?_) (fun p hp => (off p hp).1) hDle⟩
  have z : h₂.get? p.1 = some p.2 := hs₂.extBut _ _ (N' p hp).2.1 (N' p hp).1
  refine ⟨hs''.extBut _ _ ?_ z, (N' p hp).2⟩
  rcases List.mem_cons.mp hp with rfl | hp
  · exact Ne.symm hCD
  · exact (off p hp).2

theorem compL {σ : Type} (Led : σ → List (Addr × Obj)) (Inv : Nat → σ → List Value → Prop) (c₀ : σ) {elt target iter : Expr} {ifs : List Expr} {scope : Scope} {pos : Pos} {cl : List (Str × Addr)} {RR : Value → Addr → Result → Shared → Prop} {h₁ : Heap}
    {I : Addr} {fp wr rest : List Addr} {n : Nat} {Pm : Nat → (Str → Option Value) → (Str → Option Value) → Prop} {St : Nat → Heap → Prop}
    (S : Laid s.heap h₁ fp wr rest) (W : ∀ C, C ∉ fp → Turns prog w A (compEnvC scope cl C env) target I fp wr n Pm St)
    (hself : ∀ i (s : Shared) (Q : Value → Shared → Prop) (E : Value → Shared → Prop), St i s.heap → Q (.ref I) s → wpAny (model prog w) A (pyIter (.ref I)) Q E s)
    (hst : St 0 h₁) (hsz : n ≤ sizeLine) (hcell : ∀ y ∈ scope.names, y.2 ≠ .cell) (hkind : scope.kind = .function)
    (hrest : ∀ b ∈ rest, (∃ o, h₀.get? b = some o) ∨ (∃ o, ∀ c, (b, o) ∈ Led c))
    (F : Fr h₀ L s.heap m) (N : News h₀ L s.heap (Led c₀)) (h0 : Inv 0 c₀ [])
    (turn : ∀ i c ys C D oC mC mC' h tk own, i < n → Pm i mC mC' → Inv i c ys → LCg.NsObj oC mC' → OwnOff ((C, oC) :: (D, LCg.lst ys) :: own) ((Led c).map (·.1)) →
      Fr h₀ L h m → News h₀ L h (Led c ++ (C, oC) :: (D, LCg.lst ys) :: own) →
      wpAny (model prog w) A (testsOf ifs (compEnvC scope cl C env)) (fun ok s₄ => if ok = true
          then wpAny (model prog w) A (eval elt (compEnvC scope cl C env)) (CompTurn h₀ L m s Led ((C, oC) :: (D, LCg.lst ys) :: own) fun c' y => Inv (i + 1) c' (ys ++ [y])) (fun _ _ => False) s₄
          else CompTurn h₀ L m s Led ((C, oC) :: (D, LCg.lst ys) :: own) (fun c' _ => Inv (i + 1) c' ys) .none s₄) (fun _ _ => False) { s with heap := h, toks := tk })
    (hlen : ∀ i c ys, Inv i c ys → ys.length ≤ i)
    (done : CompOut (model prog w) A E h₀ L m s Led (Inv n) RR) :
    CompGoes prog w A elt target iter ifs scope pos cl env RR E (.ref I) { s with heap := h₁ } := by
  have hnw : ∀ p ∈ Led c₀, p.1 ∉ wr := fun p hp hb => absurd (S.new _ hb) (Nat.not_le.mpr (Heap.lt_size (N p hp).1))
  have hwr : ∀ b ∈ wr, h₀.get? b = none := fun b hb => by
    cases e : h₀.get? b with
    | none => rfl
    | some o => exact absurd (S.new _ hb) (Nat.not_le.mpr (Heap.lt_size (F.keep _ _ e)))
  have hLf : L ∉ fp := fun hL => by
    rcases S.part _ hL with h | h
    · exact absurd (S.new _ h) (Nat.not_le.mpr F.ns.lt)
    · rcases hrest _ h with ⟨o, e⟩ | ⟨o, hm⟩
      · exact absurd (Nat.lt_of_lt_of_le (Heap.lt_size e) F.above) (Nat.lt_irrefl _)
      · exact (N _ (hm c₀)).2.1 rfl
  refine compR (s₂ := { s with heap := h₁ }) (h₀ := h₀) (L := L) (m := m) Led Inv c₀ (fun C hC => W C fun hm => absurd (S.live _ hm) (Nat.not_lt.mpr hC)) hself hsz hcell hkind hst S.live hwr hLf (fun b hb => ?_)
    (F.keeps S.keep) (N.grown S.keep) hnw h0 turn hlen fun D C h tk m' ys c hI F' N' off hn a b d e f g => done D C h tk m' ys c hI F' N' off hn a b d e f g
  rcases S.part _ hb with h | h
  · exact .inl h
  · exact .inr (hrest _ h)

/-- a comprehension, its target a name, no test -/
theorem compN {σ : Type} (Led : σ → List (Addr × Obj)) (Inv : Nat → σ → List Value → Prop) (c₀ : σ) {elt iter : Expr} {x : Str} {px : Pos} {scope : Scope} {pos : Pos} {cl : List (Str × Addr)} {RR : Value → Addr → Result → Shared → Prop} {h₁ : Heap}
    {I : Addr} {fp wr rest : List Addr} {n : Nat} {P : Nat → Value → Prop} {St : Nat → Heap → Prop}
    (S : SrcW prog w A s.heap h₁ I rest n P fp wr St) (hsz : n ≤ sizeLine) (hcell : ∀ y ∈ scope.names, y.2 ≠ .cell) (hkind : scope.kind = .function) (hx : scope.names.lookup x = some .local)
    (hrest : ∀ b ∈ rest, (∃ o, h₀.get? b = some o) ∨ (∃ o, ∀ c, (b, o) ∈ Led c))
    (F : Fr h₀ L s.heap m) (N : News h₀ L s.heap (Led c₀)) (h0 : Inv 0 c₀ [])
    (turn : ∀ i v c ys C D oC mC h tk own, i < n → P i v → Inv i c ys → LCg.NsObj oC mC → mC x = some v → OwnOff ((C, oC) :: (D, LCg.lst ys) :: own) ((Led c).map (·.1)) →
      Fr h₀ L h m → News h₀ L h (Led c ++ (C, oC) :: (D, LCg.lst ys) :: own) →
      wpAny (model prog w) A (eval elt (compEnvC scope cl C env)) (CompTurn h₀ L m s Led ((C, oC) :: (D, LCg.lst ys) :: own) fun c' y => Inv (i + 1) c' (ys ++ [y])) (fun _ _ => False) { s with heap := h, toks := tk })
    (hlen : ∀ i c ys, Inv i c ys → ys.length ≤ i)
    (done : CompOut (model prog w) A E h₀ L m s Led (Inv n) RR) :
    CompGoes prog w A elt (.Name x px) iter [] scope pos cl env RR E (.ref I) { s with heap := h₁ } := by
  refine compL (Pm := fun i m m' => ∃ v, P i v ∧ m' = fun y => if y = x then some v else m y) Led Inv c₀ S.laid (fun C hC => Turns.ofWalks S.walks (lookup_relabel_local hx) (by simp [compEnvC, relabel, hkind]) hC S.live) S.walks.self S.st hsz hcell hkind hrest F N h0 ?_ hlen done
  intro i c ys C D oC mC mC' h tk own hi hrx12 hI hoC off F' N'
  obtain ⟨v, hP, rfl⟩ := hrx12
  refine wpAny_tests_nil ?_
  simp only [if_true]
  exact turn i v c ys C D oC _ h tk own hi hP hI hoC (by simp) off F' N'

/-- a comprehension over pairs, no test -/
theorem compP {σ : Type} (Led : σ → List (Addr × Obj)) (Inv : Nat → σ → List Value → Prop) (c₀ : σ) {elt iter : Expr} {x y : Str} {px py tp : Pos} {k : Nat} {scope : Scope} {pos : Pos} {cl : List (Str × Addr)} {RR : Value → Addr → Result → Shared → Prop} {h₁ : Heap}
    {I : Addr} {fp wr rest : List Addr} {n : Nat} {Pt : Nat → Value → Value → Prop} {St : Nat → Heap → Prop}
    (S : SrcP prog w A s.heap h₁ I rest n Pt fp wr St) (hsz : n ≤ sizeLine) (hcell : ∀ y ∈ scope.names, y.2 ≠ .cell) (hkind : scope.kind = .function) (hx : scope.names.lookup x = some .local) (hy : scope.names.lookup y = some .local) (hxy : x ≠ y)
    (hrest : ∀ b ∈ rest, (∃ o, h₀.get? b = some o) ∨ (∃ o, ∀ c, (b, o) ∈ Led c))
    (F : Fr h₀ L s.heap m) (N : News h₀ L s.heap (Led c₀)) (h0 : Inv 0 c₀ [])
    (turn : ∀ i a b c ys C D oC mC h tk own, i < n → Pt i a b → Inv i c ys → LCg.NsObj oC mC → mC x = some a → mC y = some b → OwnOff ((C, oC) :: (D, LCg.lst ys) :: own) ((Led c).map (·.1)) →
      Fr h₀ L h m → News h₀ L h (Led c ++ (C, oC) :: (D, LCg.lst ys) :: own) →
      wpAny (model prog w) A (eval elt (compEnvC scope cl C env)) (CompTurn h₀ L m s Led ((C, oC) :: (D, LCg.lst ys) :: own) fun c' y => Inv (i + 1) c' (ys ++ [y])) (fun _ _ => False) { s with heap := h, toks := tk })
    (hlen : ∀ i c ys, Inv i c ys → ys.length ≤ i)
    (done : CompOut (model prog w) A E h₀ L m s Led (Inv n) RR) :
    CompGoes prog w A elt (.Tuple [.Name x px, .Name y py] k tp) iter [] scope pos cl env RR E (.ref I) { s with heap := h₁ } := by
  refine compL (Pm := fun i m m' => ∃ a b, Pt i a b ∧ m' = fun z => if z = y then some b else if z = x then some a else m z) Led Inv c₀ S.laid (fun C hC => S.turns _ x y px py tp k (lookup_relabel_local hx) (lookup_relabel_local hy) (by simp [compEnvC, relabel, hkind]) hC) S.self S.st hsz hcell hkind hrest F N h0 ?_ hlen done
  intro i c ys C D oC mC mC' h tk own hi hrx12 hI hoC off F' N'
  obtain ⟨a, b, hP, rfl⟩ := hrx12
  refine wpAny_tests_nil ?_
  simp only [if_true]
  exact turn i a b c ys C D oC _ h tk own hi hP hI hoC (by simp [hxy]) (by simp) off F' N'

/-- a comprehension over pairs, one test -/
theorem compPT {σ : Type} (Led : σ → List (Addr × Obj)) (Inv : Nat → σ → List Value → Prop) (c₀ : σ) {elt iter test : Expr} {x y : Str} {px py tp : Pos} {k : Nat} {scope : Scope} {pos : Pos} {cl : List (Str × Addr)} {RR : Value → Addr → Result → Shared → Prop} {h₁ : Heap}
    {I : Addr} {fp wr rest : List Addr} {n : Nat} {Pt : Nat → Value → Value → Prop} {St : Nat → Heap → Prop}
    (S : SrcP prog w A s.heap h₁ I rest n Pt fp wr St) (hsz : n ≤ sizeLine) (hcell : ∀ y ∈ scope.names, y.2 ≠ .cell) (hkind : scope.kind = .function) (hx : scope.names.lookup x = some .local) (hy : scope.names.lookup y = some .local) (hxy : x ≠ y)
    (hrest : ∀ b ∈ rest, (∃ o, h₀.get? b = some o) ∨ (∃ o, ∀ c, (b, o) ∈ Led c))
    (F : Fr h₀ L s.heap m) (N : News h₀ L s.heap (Led c₀)) (h0 : Inv 0 c₀ [])
    (turn : ∀ i a b c ys C D oC mC h tk own, i < n → Pt i a b → Inv i c ys → LCg.NsObj oC mC → mC x = some a → mC y = some b → OwnOff ((C, oC) :: (D, LCg.lst ys) :: own) ((Led c).map (·.1)) →
      Fr h₀ L h m → News h₀ L h (Led c ++ (C, oC) :: (D, LCg.lst ys) :: own) →
      wpAny (model prog w) A (isTrue test (compEnvC scope cl C env) (eval test (compEnvC scope cl C env))) (fun ok s₄ => if ok = true
          then wpAny (model prog w) A (eval elt (compEnvC scope cl C env)) (CompTurn h₀ L m s Led ((C, oC) :: (D, LCg.lst ys) :: own) fun c' y => Inv (i + 1) c' (ys ++ [y])) (fun _ _ => False) s₄
          else CompTurn h₀ L m s Led ((C, oC) :: (D, LCg.lst ys) :: own) (fun c' _ => Inv (i + 1) c' ys) .none s₄) (fun _ _ => False) { s with heap := h, toks := tk })
    (hlen : ∀ i c ys, Inv i c ys → ys.length ≤ i)
    (done : CompOut (model prog w) A E h₀ L m s Led (Inv n) RR) :
    CompGoes prog w A elt (.Tuple [.Name x px, .Name y py] k tp) iter [test] scope pos cl env RR E (.ref I) { s with heap := h₁ } := by
  refine compL (Pm := fun i m m' => ∃ a b, Pt i a b ∧ m' = fun z => if z = y then some b else if z = x then some a else m z) Led Inv c₀ S.laid (fun C hC => S.turns _ x y px py tp k (lookup_relabel_local hx) (lookup_relabel_local hy) (by simp [compEnvC, relabel, hkind]) hC) S.self S.st hsz hcell hkind hrest F N h0 ?_ hlen done
  intro i c ys C D oC mC mC' h tk own hi hrx12 hI hoC off F' N'
  obtain ⟨a, b, hP, rfl⟩ := hrx12
  refine wpAny_tests_one ?_
  exact turn i a b c ys C D oC _ h tk own hi hP hI hoC (by simp [hxy]) (by simp) off F' N'
end
theorem fresh_Chunk : True := by
  w_top off
  exact trivial
section
variable {prog : Program} {w : World} {A : Around} {E : Value → Shared → Prop} {s : Shared} {h₀ : Heap} {L : Addr} {m : Str → Option Value} {news : List (Addr × Obj)}
theorem add_M {a b : Addr} {vs ws : List Value} {ns ms : List Int} {Q : Value → Shared → Prop} (F : Fr h₀ L s.heap m) (N : News h₀ L s.heap news) (ha : s.heap.IsList a vs.toArray) (hb : s.heap.IsList b ws.toArray) (hi : IntsAre vs ns) (hj : IntsAre ws ms)
    (h : ∀ D us h', Fr h₀ L h' m → News h₀ L h' ((D, listOf (List.toArray us) 0) :: news) → (∀ p ∈ news, p.1 < D) → h₀.objs.size ≤ D → IntsAre us (ns ++ ms) → Q (.ref D) { s with heap := h' })
    (hz : ns.length + ms.length ≤ sizeLine) : wpAny (model prog w) A (binaryOp .Add (.ref a) (.ref b)) Q E s :=
  add_lists_ints (hsz := hz) F N ha hb hi hj fun h' F' N' hk => h _ _ h' F' N' (fun p hp => Heap.lt_size (N p hp).1) (fr_size F) hk
end
def signs (x : Str) : List Int := x.cps.toList.map fun c : Nat => (c : Int)
theorem signs_length {x : Str} : (signs x).length = x.cps.size := by simp [signs]
theorem signs_get {x : Str} {i c : Nat} (h : x.cps[i]? = some c) : (signs x)[i]? = some (c : Int) := by simp [signs, h]
theorem ints_take {vs : List Value} {ns : List Int} {i : Nat} {n : Int} {t : Tok} (h : IntsAre vs (ns.take i)) (hn : ns[i]? = some n) : IntsAre (vs ++ [.int n t]) (ns.take (i + 1)) := by
  rw [List.take_add_one, hn]
  exact h.append (.cons _ _ .nil)
theorem fdiv2 (c : Nat) : Int.fdiv (c : Int) 2 = (c / 2 : Nat) := by
  rw [Int.fdiv_eq_ediv_of_nonneg _ (by decide)]; omega
theorem cbit_odd2 {c : Nat} (h : Int.fmod (c : Int) 2 = 1) : Builtin.bitXor (Int.fdiv (c : Int) 2) 3988292384 = (cbit c : Int) := by
  rw [Int.fmod_eq_emod_of_nonneg _ (by decide)] at h
  rw [fdiv2, show (3988292384 : Int) = ((3988292384 : Nat) : Int) from rfl, bitXor_nat, cbit, if_pos (by omega)]
  rfl
theorem cbit_even2 {c : Nat} (h : Int.fmod (c : Int) 2 ≠ 1) : Int.fdiv (c : Int) 2 = (cbit c : Int) := by
  rw [Int.fmod_eq_emod_of_nonneg _ (by decide)] at h
  rw [fdiv2, cbit, if_neg (by omega)]
def chunkI (x : Str) (ns : List Int) : List Int := four ns.length ++ (signs x ++ ns) ++ four (crcOf (signs x ++ ns))
section
variable {prog : Program} {w : World}
set_option maxHeartbeats 8000000 in
theorem chunk_spec (x : Str) (t₀ : Tok) (l : Addr) (vs : List Value) (ns : List Int) (hx : x.cps.size = 4) (hx8 : ∀ n ∈ signs x, n < 256) (hi : IntsAre vs ns) (hz : ns.length ≤ 2000) (hb : ∀ n ∈ ns, 0 ≤ n ∧ n < 256) :
    Spec prog w 182 [.str x t₀, .ref l] 5 40 (fun h => h.IsList l vs.toArray) (NewInts (chunkI x ns)) := by
  intro p loose mean mg mb dp un gd outer base s Q E B X T hd hu hp hret
  have hb8 : ∀ b ∈ (signs x ++ ns).map Int.toNat, b < 256 := by
    intro b hb'
    obtain ⟨n, hn, rfl⟩ := List.mem_map.mp hb'
    rcases List.mem_append.mp hn with hn | hn
    · have := hx8 n hn; omega
    · have := hb n hn; omega
  (with_unfolding_all refine' enterN ?k1 ?k2 ?k3 ?k4 ?k5 ?k6 ?k7 ?_ ?c1 ?c2 ?c3 ?c4; (((case k1 => assumption); (case k2 => assumption); (try ((case k2b => assumption); (case k2c => assumption); (case k2d => first | exact List.forall_mem_nil _ | (intro q hq; cases List.mem_singleton.mp hq; exact And.intro (by assumption) (by assumption))))); (case k3 => k_is); (case k4 => k_is); (case k5 => omega); (case k6 => first | exact rfl | exact binds_K (by assumption) rfl (by k_is) rfl rfl rfl); (case k7 => first | exact locs rfl | exact rfl); (case c1 => exact rfl); (case c2 => exact rfl); (case c3 => exact rfl); (try (case c4 => decide))); intro _ _ F9; (dsimp only [List.map, List.zip, List.zipWith, List.reverse, List.reverseAux] at F9); revert F9; intro _ _; (try dsimp only); (try ((first | refine fold_env ?_ | refine fold_envC ?_); intro M₉ A₉ e₉ g₉ d₉ o₉)); (try k_fold)))
  ((try k_fold); repeat' (first | (k_unfold; (try dsimp only)) | ((fail_if_success (with_reducible (first | show wpAny _ _ (exec (.For _ _ _ _ _) _) _ _ _ | show wpAny _ _ (exec (.While _ _ _ _) _) _ _ _ | show wpAny _ _ (pyIter _) _ _ _ | show wpAny _ _ (call (.type "zip") _) _ _ _ | show wpAny _ _ (call (.type "enumerate") _) _ _ _ | show wpAny _ _ (eval (.ListComp _ _ _ _) _) _ _ _ | show wpAny _ _ (exec (.Assign _ (.ListComp _ _ _ _) _) _) _ _ _))); walk1; (try dsimp only))))
  (with_unfolding_all refine comp_eval (by rfl) (by rfl) (by decide) ?_)
  ((try k_fold); repeat' (first | (k_unfold; (try dsimp only)) | ((fail_if_success (with_reducible (first | show wpAny _ _ (exec (.For _ _ _ _ _) _) _ _ _ | show wpAny _ _ (exec (.While _ _ _ _) _) _ _ _ | show wpAny _ _ (pyIter _) _ _ _ | show wpAny _ _ (call (.type "zip") _) _ _ _ | show wpAny _ _ (call (.type "enumerate") _) _ _ _ | show wpAny _ _ (eval (.ListComp _ _ _ _) _) _ _ _ | show wpAny _ _ (exec (.Assign _ (.ListComp _ _ _ _) _) _) _ _ _))); walk1; (try dsimp only))))
  refine src_str rfl ?_
  intro h₁ I fp wr St S
  refine compN (σ := Unit) (fun _ => []) (fun i _ ys => i ≤ 4 ∧ IntsAre ys ((signs x).take i)) () S (by rw [hx]; decide) (by decide) rfl rfl (fun b hb => nomatch hb) (by assumption) (by assumption) ⟨by decide, .nil⟩ ?_ ?_ (CompOut.eval ?_)
  · intro i v c ys C D oC mC h tk own hi hrx12 hrx13 hoC hmC hoff F' N'
    obtain ⟨cp, u, hcp, rfl⟩ := hrx12
    obtain ⟨hi4, hI⟩ := hrx13
    clear S
    walk_at "mine in"
    ((try k_fold); repeat' (first | (k_unfold; (try dsimp only)) | ((fail_if_success (with_reducible (first | show wpAny _ _ (exec (.For _ _ _ _ _) _) _ _ _ | show wpAny _ _ (exec (.While _ _ _ _) _) _ _ _ | show wpAny _ _ (pyIter _) _ _ _ | show wpAny _ _ (call (.type "zip") _) _ _ _ | show wpAny _ _ (call (.type "enumerate") _) _ _ _ | show wpAny _ _ (eval (.ListComp _ _ _ _) _) _ _ _ | show wpAny _ _ (exec (.Assign _ (.ListComp _ _ _ _) _) _) _ _ _))); walk1; (try dsimp only))))
    (first | refine CompTurn.intro (_, _) (by assumption) (by assumption) (fun _ hp => hp) (by assumption) ?ok | refine CompTurn.intro () (by assumption) (by assumption) (fun _ hp => hp) (by assumption) ?ok | refine CompTurn.intro () (by assumption) (by assumption) (fun _ hp => List.mem_cons_of_mem _ hp) (by assumption) ?ok)
    exact ⟨by omega, ints_take hI (signs_get hcp)⟩
  · intro i c ys hrx3
    obtain ⟨_, hI⟩ := hrx3
    rw [hI.length, List.length_take]
    exact Nat.min_le_left _ _
  · intro D h tk ys c hI F' N' hoff hDle
    clear S
    rw [show x.cps.size = (signs x).length from signs_length.symm, List.take_length] at hI
    have hI := hI.2
    have hsl := signs_length (x := x)
    dsimp only at N'
    ((try k_fold); repeat' (first | (k_unfold; (try dsimp only)) | ((with_reducible show wpAny _ _ (binaryOp .Add (.ref _) (.ref _)) _ _ _); refine' add_M (by k_asm) (by k_asm) (by walk_at "mine list") (by walk_at "mine list") (by (first | assumption | (repeat (first | exact IntsAre.nil | refine IntsAre.cons _ _ ?_)))) (by (first | assumption | (repeat (first | exact IntsAre.nil | refine IntsAre.cons _ _ ?_)))) ?_ (by walk_at "mine len"); intro _ _ _ _ _ _ _ _; walk_at "mine lt"; (try dsimp only)) | ((fail_if_success (with_reducible (first | show wpAny _ _ (exec (.For _ _ _ _ _) _) _ _ _ | show wpAny _ _ (exec (.While _ _ _ _) _) _ _ _ | show wpAny _ _ (pyIter _) _ _ _ | show wpAny _ _ (call (.type "zip") _) _ _ _ | show wpAny _ _ (call (.type "enumerate") _) _ _ _ | show wpAny _ _ (eval (.ListComp _ _ _ _) _) _ _ _ | show wpAny _ _ (exec (.Assign _ (.ListComp _ _ _ _) _) _) _ _ _))); walk1; (try dsimp only))))
    rename Fr _ _ _ _ => FF
    rw [show (2 : Int) ^ Int.toNat 32 - 1 = ((4294967295 : Nat) : Int) from rfl] at FF
    refine for_name ?_
    ((try k_fold); repeat' (first | (k_unfold; (try dsimp only)) | ((fail_if_success (with_reducible (first | show wpAny _ _ (exec (.For _ _ _ _ _) _) _ _ _ | show wpAny _ _ (exec (.While _ _ _ _) _) _ _ _ | show wpAny _ _ (pyIter _) _ _ _ | show wpAny _ _ (call (.type "zip") _) _ _ _ | show wpAny _ _ (call (.type "enumerate") _) _ _ _ | show wpAny _ _ (eval (.ListComp _ _ _ _) _) _ _ _ | show wpAny _ _ (exec (.Assign _ (.ListComp _ _ _ _) _) _) _ _ _))); walk1; (try dsimp only))))
    rename_i D1 us h4 l2 hI1 l1 D2 h3 l3 h5 h6 h7 N
    refine for_ints (σ := Nat × Tok) (fun _ => [(D1, listOf us.toArray 0)]) (fun c => [(Str.ofString "check", .int (c.1 : Nat) c.2), (Str.ofString "told", .ref D1), (Str.ofString "octets", .ref l)]) (fun i c => c.1 = crun 4294967295 (((signs x ++ ns).take i).map Int.toNat)) (4294967295, _)
      rfl rfl rfl (by walk_at "mine list") hI1 (.inr ⟨_, fun _ => .head _⟩) (by assumption) (fun p hp => N p (by rcases List.mem_singleton.mp hp with rfl; k_mem)) (by (repeat (first | exact List.forall_mem_nil _ | refine List.forall_mem_cons.mpr ⟨by first | rfl | assumption, ?_⟩))) rfl ?_ ?_
    · intro i n t c u h tk own hn hJ hoff F' N'
      obtain ⟨k, tc⟩ := c
      simp only [List.cons_append, List.nil_append] at N' hoff
      clear FF N
      have hr : 0 ≤ n := by
        rcases List.mem_append.mp (List.mem_of_getElem? hn) with hm | hm
        · obtain ⟨_, _, rfl⟩ := List.mem_map.mp hm
          exact Int.natCast_nonneg _
        · exact (hb n hm).1
      obtain ⟨y, rfl⟩ := Int.eq_ofNat_of_zero_le hr
      walk_at "mine in"
      ((try k_fold); repeat' (first | (k_unfold; (try dsimp only)) | ((fail_if_success (with_reducible (first | show wpAny _ _ (exec (.For _ _ _ _ _) _) _ _ _ | show wpAny _ _ (exec (.While _ _ _ _) _) _ _ _ | show wpAny _ _ (pyIter _) _ _ _ | show wpAny _ _ (call (.type "zip") _) _ _ _ | show wpAny _ _ (call (.type "enumerate") _) _ _ _ | show wpAny _ _ (eval (.ListComp _ _ _ _) _) _ _ _ | show wpAny _ _ (exec (.Assign _ (.ListComp _ _ _ _) _) _) _ _ _))); walk1; (try dsimp only))))
      rename Fr _ _ _ _ => FF
      rw [bitXor_nat] at FF
      refine for_name ?_
      ((try k_fold); repeat' (first | (k_unfold; (try dsimp only)) | ((fail_if_success (with_reducible (first | show wpAny _ _ (exec (.For _ _ _ _ _) _) _ _ _ | show wpAny _ _ (exec (.While _ _ _ _) _) _ _ _ | show wpAny _ _ (pyIter _) _ _ _ | show wpAny _ _ (call (.type "zip") _) _ _ _ | show wpAny _ _ (call (.type "enumerate") _) _ _ _ | show wpAny _ _ (eval (.ListComp _ _ _ _) _) _ _ _ | show wpAny _ _ (exec (.Assign _ (.ListComp _ _ _ _) _) _) _ _ _))); walk1; (try dsimp only))))
      rename_i tk3 h8 tk4 t1 u1 v1 R F N K
      refine for_range (σ := Nat × Tok) (n := 8) (fun _ => (D1, listOf us.toArray 0) :: own) (fun c => [(Str.ofString "check", .int (c.1 : Nat) c.2), (Str.ofString "told", .ref D1), (Str.ofString "octets", .ref l)]) (fun j c => c.1 = cbits j (k ^^^ y)) (k ^^^ y, _)
        rfl rfl rfl R (by decide) (by decide) F N (by (repeat (first | exact List.forall_mem_nil _ | refine List.forall_mem_cons.mpr ⟨by first | rfl | assumption, ?_⟩))) rfl ?_ ?_
      · intro j t' c u' h' tk' own' hj hJ' hoff' F'' N''
        obtain ⟨c, tc'⟩ := c
        simp only [List.cons_append, List.nil_append] at N'' hJ'
        clear R F N K
        walk_at "mine in"
        ((try k_fold); repeat' (first | (k_unfold; (try dsimp only)) | ((fail_if_success (with_reducible (first | show wpAny _ _ (exec (.For _ _ _ _ _) _) _ _ _ | show wpAny _ _ (exec (.While _ _ _ _) _) _ _ _ | show wpAny _ _ (pyIter _) _ _ _ | show wpAny _ _ (call (.type "zip") _) _ _ _ | show wpAny _ _ (call (.type "enumerate") _) _ _ _ | show wpAny _ _ (eval (.ListComp _ _ _ _) _) _ _ _ | show wpAny _ _ (exec (.Assign _ (.ListComp _ _ _ _) _) _) _ _ _))); walk1; (try dsimp only))))
        · rename Fr _ _ _ _ => FF
          rename Int.fmod _ _ = 1 => hne
          rw [cbit_odd2 hne] at FF
          refine TurnEnd.intro (cbit c, _) FF (by assumption) (fun _ hp => hp) (by (repeat (first | exact List.forall_mem_nil _ | refine List.forall_mem_cons.mpr ⟨by first | rfl | assumption, ?_⟩))) ?_
          exact ⟨hoff', by rw [cbits_succ, ← hJ']⟩
        · rename Fr _ _ _ _ => FF
          rename Int.fmod _ _ ≠ 1 => hne
          rw [cbit_even2 hne] at FF
          refine TurnEnd.intro (cbit c, _) FF (by assumption) (fun _ hp => hp) (by (repeat (first | exact List.forall_mem_nil _ | refine List.forall_mem_cons.mpr ⟨by first | rfl | assumption, ?_⟩))) ?_
          exact ⟨hoff', by rw [cbits_succ, ← hJ']⟩
      · intro c u' h' tk' hJ' F'' N''
        obtain ⟨c, tc'⟩ := c
        simp only at hJ' N''
        clear R F N K
        walk_at "mine in"
        ((try k_fold); repeat' (first | (k_unfold; (try dsimp only)) | ((fail_if_success (with_reducible (first | show wpAny _ _ (exec (.For _ _ _ _ _) _) _ _ _ | show wpAny _ _ (exec (.While _ _ _ _) _) _ _ _ | show wpAny _ _ (pyIter _) _ _ _ | show wpAny _ _ (call (.type "zip") _) _ _ _ | show wpAny _ _ (call (.type "enumerate") _) _ _ _ | show wpAny _ _ (eval (.ListComp _ _ _ _) _) _ _ _ | show wpAny _ _ (exec (.Assign _ (.ListComp _ _ _ _) _) _) _ _ _))); walk1; (try dsimp only))))
        refine TurnEnd.intro (c, _) (by assumption) (by assumption) (fun _ hp => hp) (by (repeat (first | exact List.forall_mem_nil _ | refine List.forall_mem_cons.mpr ⟨by first | rfl | assumption, ?_⟩))) ?_
        refine ⟨hoff, ?_⟩
        simp only at hJ ⊢
        rw [List.take_add_one, hn, hJ', hJ]
        simp only [Option.toList_some, List.map_append, List.map_cons, List.map_nil, crun, List.foldl_append, List.foldl_cons, List.foldl_nil, Int.toNat_natCast]
    · intro c u h tk hJ F' N'
      obtain ⟨k, tc⟩ := c
      clear FF N
      simp only [List.take_length] at hJ
      have hlen := hI1.length
      have hk : 4294967295 - (k : Int) = crcOf (signs x ++ ns) := by
        have hlt : k < 2 ^ 32 := by
          rw [hJ]
          exact crun_lt (by decide) hb8
        rw [crcOf, ← hJ, all_ones hlt]
        omega
      walk_at "mine in"
      ((try k_fold); repeat' (first | (k_unfold; (try dsimp only)) | ((with_reducible show wpAny _ _ (binaryOp .Add (.ref _) (.ref _)) _ _ _); refine' add_M (by k_asm) (by k_asm) (by walk_at "mine list") (by walk_at "mine list") (by (first | assumption | (repeat (first | exact IntsAre.nil | refine IntsAre.cons _ _ ?_)))) (by (first | assumption | (repeat (first | exact IntsAre.nil | refine IntsAre.cons _ _ ?_)))) ?_ (by walk_at "mine len"); intro _ _ _ _ _ _ _ _; walk_at "mine lt"; (try dsimp only)) | ((with_reducible show wpAny _ _ (call (.ref _) _) _ _ _); refine' Spec.useInts (four_spec _ _) (h := ?_); intro _ _ _ _ _ _ _ _ _ _; walk_at "mine lt"; (try dsimp only)) | ((with_reducible show wpAny _ _ (call (.builtin "len") [.ref _]) _ _ _); (first | refine' len_ints (by walk_at "mine list") (by assumption) (by walk_at "mine len") ?_ | refine' len_at (by walk_at "mine list") (by walk_at "mine len") ?_); intro _ _; (try dsimp only)) | ((fail_if_success (with_reducible (first | show wpAny _ _ (exec (.For _ _ _ _ _) _) _ _ _ | show wpAny _ _ (exec (.While _ _ _ _) _) _ _ _ | show wpAny _ _ (pyIter _) _ _ _ | show wpAny _ _ (call (.type "zip") _) _ _ _ | show wpAny _ _ (call (.type "enumerate") _) _ _ _ | show wpAny _ _ (eval (.ListComp _ _ _ _) _) _ _ _ | show wpAny _ _ (exec (.Assign _ (.ListComp _ _ _ _) _) _) _ _ _))); walk1; (try dsimp only))))
      refine ret_ints (s := s) hret (by assumption) (by assumption) (by k_mem) (by assumption) ?_
      rename IntsAre _ (four _ ++ _ ++ four _) => hlast
      rw [show (2 : Int) ^ Int.toNat 32 - 1 = 4294967295 from rfl, hk] at hlast
      exact hlast
end
theorem fresh_For2 : True := by
  w_top off
  exact trivial
section
variable {prog : Program} {w : World} {A : Around} {E : Value → Shared → Prop} {s s₀ : Shared} {env : Env} {h₀ : Heap} {body : List Stmt} {Q : Flow → Shared → Prop} {m₀ : Str → Option Value}

theorem laid_off {σ : Type} {Led : σ → List (Addr × Obj)} {c₀ : σ} {h₁ : Heap} {fp wr rest : List Addr} (S : Laid s.heap h₁ fp wr rest) (hrest : ∀ b ∈ rest, (∃ o, h₀.get? b = some o) ∨ (∃ o, ∀ c, (b, o) ∈ Led c))
    (F : Fr h₀ env.locals s.heap m₀) (N : News h₀ env.locals s.heap (Led c₀)) :
    (∀ b ∈ wr, h₀.get? b = none) ∧ env.locals ∉ fp ∧ (∀ b ∈ fp, b ∈ wr ∨ (∃ o, h₀.get? b = some o) ∨ (∃ o, ∀ c, (b, o) ∈ Led c)) ∧ ∀ p ∈ Led c₀, p.1 ∉ wr := by
  refine ⟨fun b hb => ?_, fun hL => ?_, fun b hb => ?_, fun p hp hb => absurd (S.new _ hb) (Nat.not_le.mpr (Heap.lt_size (N p hp).1))⟩
  · cases e : h₀.get? b with
    | none => rfl
    | some o => exact absurd (S.new _ hb) (Nat.not_le.mpr (Heap.lt_size (F.keep _ _ e)))
  · rcases S.part _ hL with h | h
    · exact absurd (S.new _ h) (Nat.not_le.mpr F.ns.lt)
    · rcases hrest _ h with ⟨o, e⟩ | ⟨o, hm⟩
      · exact absurd (Nat.lt_of_lt_of_le (Heap.lt_size e) F.above) (Nat.lt_irrefl _)
      · exact (N _ (hm c₀)).2.1 rfl
  · rcases S.part _ hb with h | h
    · exact .inl h
    · exact .inr (hrest _ h)

/-- a for loop over pairs, no raise -/
theorem forP {σ : Type} (Led : σ → List (Addr × Obj)) (ps : σ → List (Str × Value)) (Inv : Nat → σ → Prop) (c₀ : σ) {x y : Str} {px py tp : Pos} {k : Nat} {h₁ : Heap} {I : Addr} {fp wr rest : List Addr} {n : Nat} {Pt : Nat → Value → Value → Prop} {St : Nat → Heap → Prop}
    (S : SrcP prog w A s.heap h₁ I rest n Pt fp wr St) (hx : env.kindOf x = some .local) (hy : env.kindOf y = some .local) (hp : (env.scope.kind == .class || (env.scope.kind == .module && env.locals != env.globals)) = false)
    (hrest : ∀ b ∈ rest, (∃ o, h₀.get? b = some o) ∨ (∃ o, ∀ c, (b, o) ∈ Led c))
    (F : Fr h₀ env.locals s.heap m₀) (N : News h₀ env.locals s.heap (Led c₀)) (hk : ∀ p ∈ ps c₀, m₀ p.1 = some p.2) (h0 : Inv 0 c₀)
    (turn : ∀ i a b c (u : Str → Option Value) h tk own, i < n → Pt i a b → Inv i c → OwnOff own ((Led c).map (·.1)) →
      Fr h₀ env.locals h (fun z => if z = y then some b else if z = x then some a else kstB u (ps c) z) → News h₀ env.locals h (Led c ++ own) →
      wpAny (model prog w) A (execs body env) (ForEnd prog w A h₀ env.locals s (fun c' => Led c' ++ own) ps (fun c' => OwnOff own ((Led c').map (·.1)) ∧ Inv (i + 1) c') Q) (fun _ _ => False) { s with heap := h, toks := tk })
    (done : ∀ c (u : Str → Option Value) h tk, Inv n c → Fr h₀ env.locals h (kstB u (ps c)) → News h₀ env.locals h (Led c) → Q .next { s with heap := h, toks := tk }) :
    codeAny (model prog w) A (.forLoop (.Tuple [.Name x px, .Name y py] k tp) (.ref I) body [] env) (fun r s' => match r with | .ok f => Q f s' | .error e => cameBackBy (model prog w) A env E e s') { s with heap := h₁ } := by
  obtain ⟨a1, a2, a3, a4⟩ := laid_off S.laid hrest F N
  refine forTA (s₀ := s) Led ps Inv c₀ (S.turns env x y px py tp k hx hy hp a2) a1 a3 S.st (F.keeps S.laid.keep) (N.grown S.laid.keep) a4 hk h0 ?_ done
  intro i c u m' h tk own hi hrx8 hJ hoff F' N'
  obtain ⟨a, b, hP, rfl⟩ := hrx8
  exact turn i a b c u h tk own hi hP hJ hoff F' N'

/-- a for loop over pairs, at the clean stacks -/
theorem forPC {σ : Type} (Led : σ → List (Addr × Obj)) (ps : σ → List (Str × Value)) (Inv : Nat → σ → Prop) (c₀ : σ) {x y : Str} {px py tp : Pos} {k : Nat} {h₁ : Heap} {I : Addr} {fp wr rest : List Addr} {n : Nat} {Pt : Nat → Value → Value → Prop} {St : Nat → Heap → Prop}
    (S : SrcP prog w A s.heap h₁ I rest n Pt fp wr St) (hx : env.kindOf x = some .local) (hy : env.kindOf y = some .local) (hp : (env.scope.kind == .class || (env.scope.kind == .module && env.locals != env.globals)) = false)
    (hrest : ∀ b ∈ rest, (∃ o, h₀.get? b = some o) ∨ (∃ o, ∀ c, (b, o) ∈ Led c))
    (F : Fr h₀ env.locals s.heap m₀) (N : News h₀ env.locals s.heap (Led c₀)) (hk : ∀ p ∈ ps c₀, m₀ p.1 = some p.2) (h0 : Inv 0 c₀)
    (turn : ∀ i a b c (u : Str → Option Value) h tk own, i < n → Pt i a b → Inv i c → OwnOff own ((Led c).map (·.1)) →
      Fr h₀ env.locals h (fun z => if z = y then some b else if z = x then some a else kstB u (ps c) z) → News h₀ env.locals h (Led c ++ own) →
      wpC (model prog w) A (execs body env) (ForEnd prog w A h₀ env.locals s (fun c' => Led c' ++ own) ps (fun c' => OwnOff own ((Led c').map (·.1)) ∧ Inv (i + 1) c') Q) (notedBy (model prog w) A env (cameBackBy (model prog w) A env E)) { s with heap := h, toks := tk })
    (done : ∀ c (u : Str → Option Value) h tk, Inv n c → Fr h₀ env.locals h (kstB u (ps c)) → News h₀ env.locals h (Led c) → Q .next { s with heap := h, toks := tk }) :
    codeC (model prog w) A (.forLoop (.Tuple [.Name x px, .Name y py] k tp) (.ref I) body [] env) (fun r s' => match r with | .ok f => Q f s' | .error e => cameBackBy (model prog w) A env E e s') { s with heap := h₁ } := by
  obtain ⟨a1, a2, a3, a4⟩ := laid_off S.laid hrest F N
  refine forTC (s₀ := s) Led ps Inv c₀ (S.turns env x y px py tp k hx hy hp a2) a1 a3 S.st (F.keeps S.laid.keep) (N.grown S.laid.keep) a4 hk h0 ?_ done
  intro i c u m' h tk own hi hrx8 hJ hoff F' N'
  obtain ⟨a, b, hP, rfl⟩ := hrx8
  exact turn i a b c u h tk own hi hP hJ hoff F' N'

/-- a for loop, its target a name, at the clean stacks -/
theorem forNC {σ : Type} (Led : σ → List (Addr × Obj)) (ps : σ → List (Str × Value)) (Inv : Nat → σ → Prop) (c₀ : σ) {x : Str} {px : Pos} {h₁ : Heap} {I : Addr} {fp wr rest : List Addr} {n : Nat} {P : Nat → Value → Prop} {St : Nat → Heap → Prop}
    (S : SrcW prog w A s.heap h₁ I rest n P fp wr St) (hx : env.kindOf x = some .local) (hp : (env.scope.kind == .class || (env.scope.kind == .module && env.locals != env.globals)) = false)
    (hrest : ∀ b ∈ rest, (∃ o, h₀.get? b = some o) ∨ (∃ o, ∀ c, (b, o) ∈ Led c))
    (F : Fr h₀ env.locals s.heap m₀) (N : News h₀ env.locals s.heap (Led c₀)) (hk : ∀ p ∈ ps c₀, m₀ p.1 = some p.2) (h0 : Inv 0 c₀)
    (turn : ∀ i v c (u : Str → Option Value) h tk own, i < n → P i v → Inv i c → OwnOff own ((Led c).map (·.1)) →
      Fr h₀ env.locals h (fun z => if z = x then some v else kstB u (ps c) z) → News h₀ env.locals h (Led c ++ own) →
      wpC (model prog w) A (execs body env) (ForEnd prog w A h₀ env.locals s (fun c' => Led c' ++ own) ps (fun c' => OwnOff own ((Led c').map (·.1)) ∧ Inv (i + 1) c') Q) (notedBy (model prog w) A env (cameBackBy (model prog w) A env E)) { s with heap := h, toks := tk })
    (done : ∀ c (u : Str → Option Value) h tk, Inv n c → Fr h₀ env.locals h (kstB u (ps c)) → News h₀ env.locals h (Led c) → Q .next { s with heap := h, toks := tk }) :
    codeC (model prog w) A (.forLoop (.Name x px) (.ref I) body [] env) (fun r s' => match r with | .ok f => Q f s' | .error e => cameBackBy (model prog w) A env E e s') { s with heap := h₁ } := by
  obtain ⟨a1, a2, a3, a4⟩ := laid_off S.laid hrest F N
  refine forTC (s₀ := s) Led ps Inv c₀ (Turns.ofWalks S.walks hx hp a2 S.live) a1 a3 S.st (F.keeps S.laid.keep) (N.grown S.laid.keep) a4 hk h0 ?_ done
  intro i c u m' h tk own hi hrx8 hJ hoff F' N'
  obtain ⟨v, hP, rfl⟩ := hrx8
  exact turn i v c u h tk own hi hP hJ hoff F' N'
/-- a for loop, its target a name, no raise -/
theorem forN {σ : Type} (Led : σ → List (Addr × Obj)) (ps : σ → List (Str × Value)) (Inv : Nat → σ → Prop) (c₀ : σ) {x : Str} {px : Pos} {h₁ : Heap} {I : Addr} {fp wr rest : List Addr} {n : Nat} {P : Nat → Value → Prop} {St : Nat → Heap → Prop}
    (S : SrcW prog w A s.heap h₁ I rest n P fp wr St) (hx : env.kindOf x = some .local) (hp : (env.scope.kind == .class || (env.scope.kind == .module && env.locals != env.globals)) = false)
    (hrest : ∀ b ∈ rest, (∃ o, h₀.get? b = some o) ∨ (∃ o, ∀ c, (b, o) ∈ Led c))
    (F : Fr h₀ env.locals s.heap m₀) (N : News h₀ env.locals s.heap (Led c₀)) (hk : ∀ p ∈ ps c₀, m₀ p.1 = some p.2) (h0 : Inv 0 c₀)
    (turn : ∀ i v c (u : Str → Option Value) h tk own, i < n → P i v → Inv i c → OwnOff own ((Led c).map (·.1)) →
      Fr h₀ env.locals h (fun z => if z = x then some v else kstB u (ps c) z) → News h₀ env.locals h (Led c ++ own) →
      wpAny (model prog w) A (execs body env) (ForEnd prog w A h₀ env.locals s (fun c' => Led c' ++ own) ps (fun c' => OwnOff own ((Led c').map (·.1)) ∧ Inv (i + 1) c') Q) (fun _ _ => False) { s with heap := h, toks := tk })
    (done : ∀ c (u : Str → Option Value) h tk, Inv n c → Fr h₀ env.locals h (kstB u (ps c)) → News h₀ env.locals h (Led c) → Q .next { s with heap := h, toks := tk }) :
    codeAny (model prog w) A (.forLoop (.Name x px) (.ref I) body [] env) (fun r s' => match r with | .ok f => Q f s' | .error e => cameBackBy (model prog w) A env E e s') { s with heap := h₁ } := by
  obtain ⟨a1, a2, a3, a4⟩ := laid_off S.laid hrest F N
  refine forTA (s₀ := s) Led ps Inv c₀ (Turns.ofWalks S.walks hx hp a2 S.live) a1 a3 S.st (F.keeps S.laid.keep) (N.grown S.laid.keep) a4 hk h0 ?_ done
  intro i c u m' h tk own hi hrx8 hJ hoff F' N'
  obtain ⟨v, hP, rfl⟩ := hrx8
  exact turn i v c u h tk own hi hP hJ hoff F' N'

abbrev LoopGoesT (prog : Program) (w : World) (A : Around) (target : Expr) (body : List Stmt) (env : Env) (Q : Flow → Shared → Prop) (E : Value → Shared → Prop) (it : Value) (s₂ : Shared) : Prop :=
  codeAny (model prog w) A (.forLoop target it body [] env) (fun r s' => match r with | .ok f => Q f s' | .error e => cameBackBy (model prog w) A env E e s') s₂
theorem for_any {target iter : Expr} {pos : Pos} (h : wpAny (model prog w) A (eval iter env) (fun xv s₁ => wpAny (model prog w) A (pyIter xv) (fun it s₂ => LoopGoesT prog w A target body env Q E it s₂) E s₁) E s)
    (hs : ∀ x, foldedSetIterable iter env x = pure x := by intro _; rfl) : wpAny (model prog w) A (exec (.For target iter body [] pos) env) Q E s := wpAny_For h hs
end
theorem fresh_Stream : True := by
  w_top off
  exact trivial
def lowHigh (c : Int × Int) (ns : List Int) : Int × Int := ns.foldl (fun c n => (c.1 + n, c.2 + c.1 + n)) c
theorem lowHigh_append (c : Int × Int) (a b : List Int) : lowHigh c (a ++ b) = lowHigh (lowHigh c a) b := List.foldl_append ..
theorem lowHigh_snoc (c : Int × Int) (a : List Int) (n : Int) : lowHigh c (a ++ [n]) = ((lowHigh c a).1 + n, (lowHigh c a).2 + (lowHigh c a).1 + n) := by rw [lowHigh_append]; rfl
def blockI (last : Bool) (ns : List Int) : List Int := [if last then 1 else 0, (ns.length : Int) % 256, (ns.length : Int) / 256, 255 - (ns.length : Int) % 256, 255 - (ns.length : Int) / 256] ++ ns
def blocksI (pss : List (List Int)) (i : Nat) : List Int := (List.range i).flatMap fun j => blockI (decide (j = pss.length - 1)) (pss.getD j [])
def streamI (a b : Int) (pss : List (List Int)) : List Int :=
  [a, b] ++ blocksI pss pss.length ++ four ((lowHigh (1, 0) pss.flatten).2 % 65521 * 65536 + (lowHigh (1, 0) pss.flatten).1 % 65521)
theorem blocks_succ (pss : List (List Int)) (i : Nat) : blocksI pss (i + 1) = blocksI pss i ++ blockI (decide (i = pss.length - 1)) (pss.getD i []) := by
  simp [blocksI, List.range_succ]
theorem take_flat {pss : List (List Int)} {i : Nat} {ns : List Int} (h : pss[i]? = some ns) : (pss.take (i + 1)).flatten = (pss.take i).flatten ++ ns := by
  rw [List.take_add_one, h]; simp
theorem block_length (l : Bool) (ns : List Int) : (blockI l ns).length = 5 + ns.length := by simp [blockI]; omega
theorem blocks_length (pss : List (List Int)) : ∀ i : Nat, i ≤ pss.length → (blocksI pss i).length = 5 * i + (pss.take i).flatten.length
  | 0, _ => by simp [blocksI]
  | i + 1, h => by
    have hi : pss[i]? = some pss[i] := List.getElem?_eq_getElem (by omega)
    rw [blocks_succ, List.length_append, blocks_length pss i (by omega), take_flat hi, List.length_append, block_length, List.getD_eq_getElem?_getD, hi, Option.getD_some]
    omega
theorem take_flat_le (pss : List (List Int)) (i : Nat) : (pss.take i).flatten.length ≤ pss.flatten.length := by
  have e := congrArg List.length (congrArg List.flatten (List.take_append_drop i pss))
  rw [List.flatten_append, List.length_append] at e
  omega
theorem flat_le {pss : List (List Int)} {ns : List Int} (h : ns ∈ pss) : ns.length ≤ pss.flatten.length := by
  induction pss with
  | nil => cases h
  | cons a r ih =>
    rw [List.flatten_cons, List.length_append]
    rcases List.mem_cons.mp h with rfl | h
    · omega
    · have := ih h; omega
section
variable {prog : Program} {w : World}
set_option maxHeartbeats 8000000 in
theorem stream_spec (lp lps : Addr) (a b : Int) (ta tb : Tok) (ts : List (Addr × List Value × List Int)) (hts : ∀ t ∈ ts, IntsAre t.2.1 t.2.2) (hz : ((ts.map (·.2.2)).flatten).length ≤ 2000) (hn : 1 ≤ ts.length ∧ ts.length ≤ 3)
    (hb : ∀ t ∈ ts, ∀ n ∈ t.2.2, 0 ≤ n ∧ n < 256) :
    Spec prog w 189 [.ref lp, .ref lps] 5 40 (fun h => h.IsTuple lp #[.int a ta, .int b tb] ∧ h.IsList lps (ts.map fun t => Value.ref t.1).toArray ∧ ∀ t ∈ ts, h.IsList t.1 t.2.1.toArray) (NewInts (streamI a b (ts.map (·.2.2)))) := by
  intro p loose mean mg mb dp un gd outer base s Q E B X T hd hu hp hret
  obtain ⟨hp1, hp2, hp3⟩ := hp
  (with_unfolding_all refine' enterN ?k1 ?k2 ?k3 ?k4 ?k5 ?k6 ?k7 ?_ ?c1 ?c2 ?c3 ?c4; (((case k1 => assumption); (case k2 => assumption); (try ((case k2b => assumption); (case k2c => assumption); (case k2d => first | exact List.forall_mem_nil _ | (intro q hq; cases List.mem_singleton.mp hq; exact And.intro (by assumption) (by assumption))))); (case k3 => k_is); (case k4 => k_is); (case k5 => omega); (case k6 => first | exact rfl | exact binds_K (by assumption) rfl (by k_is) rfl rfl rfl); (case k7 => first | exact locs rfl | exact rfl); (case c1 => exact rfl); (case c2 => exact rfl); (case c3 => exact rfl); (try (case c4 => decide))); intro _ _ F9; (dsimp only [List.map, List.zip, List.zipWith, List.reverse, List.reverseAux] at F9); revert F9; intro _ _; (try dsimp only); (try ((first | refine fold_env ?_ | refine fold_envC ?_); intro M₉ A₉ e₉ g₉ d₉ o₉)); (try k_fold)))
  ((try k_fold); repeat' (first | (k_unfold; (try dsimp only)) | ((fail_if_success (with_reducible (first | show wpAny _ _ (exec (.For _ _ _ _ _) _) _ _ _ | show wpAny _ _ (exec (.While _ _ _ _) _) _ _ _ | show wpAny _ _ (pyIter _) _ _ _ | show wpAny _ _ (call (.type "zip") _) _ _ _ | show wpAny _ _ (call (.type "enumerate") _) _ _ _ | show wpAny _ _ (eval (.ListComp _ _ _ _) _) _ _ _ | show wpAny _ _ (exec (.Assign _ (.ListComp _ _ _ _) _) _) _ _ _))); walk1; (try dsimp only))))
  refine for_any ?_
  ((try k_fold); repeat' (first | (k_unfold; (try dsimp only)) | ((fail_if_success (with_reducible (first | show wpAny _ _ (exec (.For _ _ _ _ _) _) _ _ _ | show wpAny _ _ (exec (.While _ _ _ _) _) _ _ _ | show wpAny _ _ (pyIter _) _ _ _ | show wpAny _ _ (call (.type "zip") _) _ _ _ | show wpAny _ _ (call (.type "enumerate") _) _ _ _ | show wpAny _ _ (eval (.ListComp _ _ _ _) _) _ _ _ | show wpAny _ _ (exec (.Assign _ (.ListComp _ _ _ _) _) _) _ _ _))); walk1; (try dsimp only))))
  rename_i tkx D1 c1 h1 l1 D2 h2 l2 h3 h4 h5 h6 F N
  refine src_enum_list rfl (hp2.at fun o e => F.keep _ o e) ?_
  intro h₁ I fp wr St S
  refine forP (σ := (Addr × List Value × Nat) × (Int × Int) × Tok × Tok) (fun c => [(c.1.1, listOf c.1.2.1.toArray c.1.2.2)]) (fun c => [(Str.ofString "found", .ref c.1.1), (Str.ofString "low", .int c.2.1.1 c.2.2.1), (Str.ofString "high", .int c.2.1.2 c.2.2.2), (Str.ofString "pieces", .ref lps)])
    (fun i c => i ≤ ts.length ∧ IntsAre c.1.2.1 ([a, b] ++ blocksI (ts.map (·.2.2)) i) ∧ c.2.1 = lowHigh (1, 0) ((ts.map (·.2.2)).take i).flatten) ((D1, _, c1), (1, 0), _, _) S rfl rfl rfl
    (fun b hb => .inl (by rw [List.mem_singleton.mp hb]; exact let ⟨o, e, _⟩ := hp2; ⟨o, e⟩)) F (fun p hp => N p (by rcases List.mem_singleton.mp hp with rfl; k_mem)) (by (repeat (first | exact List.forall_mem_nil _ | refine List.forall_mem_cons.mpr ⟨by first | rfl | assumption, ?_⟩))) ⟨by omega, .cons _ _ (.cons _ _ .nil), rfl⟩ ?_ ?_
  · intro i pv qv hrx3 u h tk own hlt hrx9 hrx10 hoff F' N'
    obtain ⟨⟨D3, us, c3⟩, ⟨lo, hi'⟩, tlo, thi⟩ := hrx3
    obtain ⟨tp, rfl, hq⟩ := hrx9
    obtain ⟨hi, hI, hJ⟩ := hrx10
    rw [List.length_map] at hlt
    obtain ⟨⟨pl, vs, ns⟩, ht⟩ : ∃ t, ts[i]? = some t := ⟨_, List.getElem?_eq_getElem hlt⟩
    obtain rfl : qv = .ref pl := by simpa [ht] using hq.symm
    have hm := List.mem_of_getElem? ht
    have hpl : s.heap.IsList pl vs.toArray := hp3 _ hm
    have hni : IntsAre vs ns := hts _ hm
    have hn0 := hb _ hm
    have hpi : (ts.map (·.2.2))[i]? = some ns := by simp [ht]
    have hnl : ns.length ≤ 2000 := Nat.le_trans (flat_le (List.mem_of_getElem? hpi)) hz
    have hbl := blocks_length (ts.map (·.2.2)) i (by rw [List.length_map]; exact hi)
    have htl := take_flat_le (ts.map (·.2.2)) i
    clear F N S
    dsimp only at hI hJ N' hoff hn0
    simp only [List.cons_append, List.nil_append] at N' hoff
    walk_at "mine in"
    ((try k_fold); repeat' (first | (k_unfold; (try dsimp only)) | ((with_reducible show wpAny _ _ (binaryOp .Add (.ref _) (.ref _)) _ _ _); refine' add_M (by k_asm) (by k_asm) (by walk_at "mine list") (by walk_at "mine list") (by (first | assumption | (repeat (first | exact IntsAre.nil | refine IntsAre.cons _ _ ?_)))) (by (first | assumption | (repeat (first | exact IntsAre.nil | refine IntsAre.cons _ _ ?_)))) ?_ (by walk_at "mine len"); intro _ _ _ _ _ _ _ _; walk_at "mine lt"; (try dsimp only)) | ((with_reducible show wpAny _ _ (call (.builtin "len") [.ref _]) _ _ _); (first | refine' len_ints (by walk_at "mine list") (by assumption) (by walk_at "mine len") ?_ | refine' len_at (by walk_at "mine list") (by walk_at "mine len") ?_); intro _ _; (try dsimp only)) | ((fail_if_success (with_reducible (first | show wpAny _ _ (exec (.For _ _ _ _ _) _) _ _ _ | show wpAny _ _ (exec (.While _ _ _ _) _) _ _ _ | show wpAny _ _ (pyIter _) _ _ _ | show wpAny _ _ (call (.type "zip") _) _ _ _ | show wpAny _ _ (call (.type "enumerate") _) _ _ _ | show wpAny _ _ (eval (.ListComp _ _ _ _) _) _ _ _ | show wpAny _ _ (exec (.Assign _ (.ListComp _ _ _ _) _) _) _ _ _))); walk1; (try dsimp only))))
    refine for_name ?_
    ((try k_fold); repeat' (first | (k_unfold; (try dsimp only)) | ((fail_if_success (with_reducible (first | show wpAny _ _ (exec (.For _ _ _ _ _) _) _ _ _ | show wpAny _ _ (exec (.While _ _ _ _) _) _ _ _ | show wpAny _ _ (pyIter _) _ _ _ | show wpAny _ _ (call (.type "zip") _) _ _ _ | show wpAny _ _ (call (.type "enumerate") _) _ _ _ | show wpAny _ _ (eval (.ListComp _ _ _ _) _) _ _ _ | show wpAny _ _ (exec (.Assign _ (.ListComp _ _ _ _) _) _) _ _ _))); walk1; (try dsimp only))))
    rename_i t1 k1 t2 k2 D4 h7 l3 h8 h9 h10 tk2 l4 h11 l5 l6 D5 us5 h12 hI5 l7 D6 us6 h13 l8 hI6 l9 h14 F N
    refine for_ints (σ := (Int × Int) × Tok × Tok) (fun _ => (D6, listOf us6.toArray 0) :: own) (fun c => [(Str.ofString "low", .int c.1.1 c.2.1), (Str.ofString "high", .int c.1.2 c.2.2), (Str.ofString "found", .ref D6), (Str.ofString "pieces", .ref lps)]) (fun j c => c.1 = lowHigh (lo, hi') (ns.take j)) ((lo, hi'), tlo, thi)
      rfl rfl rfl (by walk_at "mine list") hni (.inl (let ⟨o, e, _⟩ := hpl; ⟨o, e⟩)) F (fun p hp => N p (by rcases List.mem_cons.mp hp with rfl | hp; exact .head _; (repeat (first | exact hp | apply List.mem_cons_of_mem)))) (by (repeat (first | exact List.forall_mem_nil _ | refine List.forall_mem_cons.mpr ⟨by first | rfl | assumption, ?_⟩))) rfl ?_ ?_
    · intro j n t' hrx3 u' h' tk' own' hn' hJ' hoff' F'' N''
      obtain ⟨⟨lo2, hi2⟩, tlo2, thi2⟩ := hrx3
      dsimp only at hJ' N'' hoff'
      simp only [List.cons_append, List.nil_append] at N''
      clear F N
      walk_at "mine in"
      ((try k_fold); repeat' (first | (k_unfold; (try dsimp only)) | ((fail_if_success (with_reducible (first | show wpAny _ _ (exec (.For _ _ _ _ _) _) _ _ _ | show wpAny _ _ (exec (.While _ _ _ _) _) _ _ _ | show wpAny _ _ (pyIter _) _ _ _ | show wpAny _ _ (call (.type "zip") _) _ _ _ | show wpAny _ _ (call (.type "enumerate") _) _ _ _ | show wpAny _ _ (eval (.ListComp _ _ _ _) _) _ _ _ | show wpAny _ _ (exec (.Assign _ (.ListComp _ _ _ _) _) _) _ _ _))); walk1; (try dsimp only))))
      refine TurnEnd.intro ((_, _), _, _) (by assumption) (by assumption) (fun _ hp => List.mem_cons_of_mem _ hp) (by (repeat (first | exact List.forall_mem_nil _ | refine List.forall_mem_cons.mpr ⟨by first | rfl | assumption, ?_⟩))) ?_
      refine ⟨hoff', ?_⟩
      show (_, _) = _
      rw [List.take_add_one, hn', Option.toList_some, lowHigh_snoc, ← hJ']
    · intro hrx0 u' h' tk' hJ' F'' N''
      obtain ⟨⟨lo2, hi2⟩, tlo2, thi2⟩ := hrx0
      dsimp only at hJ' N''
      clear F N
      walk_at "mine in"
      ((try k_fold); repeat' (first | (k_unfold; (try dsimp only)) | ((fail_if_success (with_reducible (first | show wpAny _ _ (exec (.For _ _ _ _ _) _) _ _ _ | show wpAny _ _ (exec (.While _ _ _ _) _) _ _ _ | show wpAny _ _ (pyIter _) _ _ _ | show wpAny _ _ (call (.type "zip") _) _ _ _ | show wpAny _ _ (call (.type "enumerate") _) _ _ _ | show wpAny _ _ (eval (.ListComp _ _ _ _) _) _ _ _ | show wpAny _ _ (exec (.Assign _ (.ListComp _ _ _ _) _) _) _ _ _))); walk1; (try dsimp only))))
      refine TurnEnd.intro ((D6, us6, 0), (lo2, hi2), tlo2, thi2) (by assumption) (by assumption) (fun _ hp => hp) (by (repeat (first | exact List.forall_mem_nil _ | refine List.forall_mem_cons.mpr ⟨by first | rfl | assumption, ?_⟩))) ?_
      refine ⟨?_, by omega, ?_, ?_⟩
      · exact OwnOff.cons l9.2.2.2.2 OwnOff.nil
      · rw [blocks_succ, List.getD_eq_getElem?_getD, hpi, Option.getD_some]
        have e : [if ((i : Int) == ((ts.map fun t => Value.ref t.1).length : Int) - 1) = true then (1 : Int) else 0, Int.fmod (ns.length : Int) 256, Int.fdiv (ns.length : Int) 256, 255 - Int.fmod (ns.length : Int) 256, 255 - Int.fdiv (ns.length : Int) 256] ++ ns = blockI (decide (i = (ts.map (·.2.2)).length - 1)) ns := by
          unfold blockI
          rw [Int.fmod_eq_emod_of_nonneg _ (by decide), Int.fdiv_eq_ediv_of_nonneg _ (by decide), List.length_map, List.length_map]
          congr 2
          by_cases hc : i = ts.length - 1
          · rw [if_pos (by simp; omega), decide_eq_true hc]; rfl
          · rw [if_neg (by simp; omega), decide_eq_false hc]; rfl
        rw [List.append_assoc, e] at hI6
        exact hI6
      · rw [take_flat hpi, lowHigh_append, ← hJ, hJ', List.take_length]
  · intro hrx0 u h tk hrx4 F' N'
    obtain ⟨⟨D3, us, c3⟩, ⟨lo, hi'⟩, tlo, thi⟩ := hrx0
    obtain ⟨hi, hI, hJ⟩ := hrx4
    clear F N S
    dsimp only at hI hJ N'
    rw [show (ts.map fun t => Value.ref t.1).length = (ts.map (·.2.2)).length by simp] at hI hJ
    rw [List.take_length] at hJ
    have hbl := blocks_length (ts.map (·.2.2)) _ (Nat.le_refl _)
    rw [List.take_length, List.length_map] at hbl
    walk_at "mine in"
    rw [List.length_map] at hI
    ((try k_fold); repeat' (first | (k_unfold; (try dsimp only)) | ((with_reducible show wpAny _ _ (binaryOp .Add (.ref _) (.ref _)) _ _ _); refine' add_M (by k_asm) (by k_asm) (by walk_at "mine list") (by walk_at "mine list") (by (first | assumption | (repeat (first | exact IntsAre.nil | refine IntsAre.cons _ _ ?_)))) (by (first | assumption | (repeat (first | exact IntsAre.nil | refine IntsAre.cons _ _ ?_)))) ?_ (by walk_at "mine len"); intro _ _ _ _ _ _ _ _; walk_at "mine lt"; (try dsimp only)) | ((with_reducible show wpAny _ _ (call (.ref _) _) _ _ _); refine' Spec.useInts (four_spec _ _) (h := ?_); intro _ _ _ _ _ _ _ _ _ _; walk_at "mine lt"; (try dsimp only)) | ((fail_if_success (with_reducible (first | show wpAny _ _ (exec (.For _ _ _ _ _) _) _ _ _ | show wpAny _ _ (exec (.While _ _ _ _) _) _ _ _ | show wpAny _ _ (pyIter _) _ _ _ | show wpAny _ _ (call (.type "zip") _) _ _ _ | show wpAny _ _ (call (.type "enumerate") _) _ _ _ | show wpAny _ _ (eval (.ListComp _ _ _ _) _) _ _ _ | show wpAny _ _ (exec (.Assign _ (.ListComp _ _ _ _) _) _) _ _ _))); walk1; (try dsimp only))))
    refine ret_ints (s := s) hret (by assumption) (by assumption) (by k_mem) (by assumption) ?_
    rename IntsAre _ (_ ++ _ ++ four _) => hlast
    rw [Int.fmod_eq_emod_of_nonneg _ (by decide), Int.fmod_eq_emod_of_nonneg _ (by decide)] at hlast
    unfold streamI
    rw [← hJ, List.length_map]
    exact hlast
end
theorem fresh_Cells : True := by
  w_top off
  exact trivial
section
variable {prog : Program} {w : World} {p : Program} {loose : List Str} {mean : ExcName → Option Value} {mg mb : Str → Option Value}
  {dp un : Nat} {gd : Option (List Code)} {outer : List Env} {base h₀ : Heap} {s : Shared} {Q E : Value → Shared → Prop} {K : Frag}

theorem cells_made {scope : Scope} {env : Env} {s' : Shared} {binds : List (Str × Value)} {led : List (Addr × Obj)}
    (hst : h₀.StaysIn s.heap) (hsz : h₀.objs.size = s.heap.objs.size) (hled : ∀ q ∈ led, s.heap.get? q.1 = some q.2 ∧ h₀.get? q.1 = none)
    (hnd : ((cellsFrom 0 scope.names []).map (·.1)).Nodup) (hL : env.locals = s.heap.objs.size) (hc : env.cells = cellsFrom (s.heap.objs.size + 1) scope.names [])
    (x : InCallC s env.locals (bindL env.kindOf binds fun _ => none) env.cells (bindC env.kindOf binds fun _ => none) s') :
    ∃ h₁ tk cells, s' = { s with heap := h₁, toks := tk } ∧ (∀ b o, s.heap.get? b = some o → h₁.get? b = some o) ∧ Fr h₀ s.heap.objs.size h₁ (bindL env.kindOf binds fun _ => none) ∧ News h₀ s.heap.objs.size h₁ (cells ++ led) ∧
      CellsAre (bindC env.kindOf binds fun _ => none) (cellsFrom (s.heap.objs.size + 1) scope.names []) cells := by
  obtain ⟨h₁, tk, rfl, _⟩ := x.done
  have hk₁ := x.toInCall.keep
  rw [hc, hL] at x
  obtain ⟨cells, NC, Y⟩ := Cl.news (h₀ := s.heap) (Nat.le_refl _) fun n c hm => ⟨x.cell n c (lookup_of_mem_nodup (cellsFrom_names scope.names 0 (s.heap.objs.size + 1) [] [] rfl ▸ hnd) hm), x.above n c hm⟩
  refine ⟨h₁, tk, cells, rfl, hk₁, ⟨x.toInCall.ns, fun b o e => hk₁ b o (hst b o e), Nat.le_of_eq hsz⟩, fun q hq => ?_, Y⟩
  rcases List.mem_append.mp hq with hq | hq
  · refine ⟨(NC q hq).1, (NC q hq).2.1, ?_⟩
    cases e : h₀.get? q.1 with
    | none => rfl
    | some o => have := hst _ _ e; rw [(NC q hq).2.2] at this; cases this
  · exact ⟨hk₁ _ _ (hled q hq).1, Nat.ne_of_lt (Heap.lt_size (hled q hq).1), (hled q hq).2⟩

/-- the entry into a def whose names are closed over, over a ground that leaves some objects out -/
theorem enterX {name qual : Str} {params : Arguments} {body : List Stmt} {scope : Scope} {dV kV doc pm cdv ct oc : Value} {an od : Option Addr} {osl : Array (Option Value)} {f : Addr} {vals : List Value} (led : List (Addr × Obj))
    (X : K.In h₀) (T : Top p loose mean mg mb h₀) (hst : h₀.StaysIn s.heap) (hsz : h₀.objs.size = s.heap.objs.size) (hled : ∀ q ∈ led, s.heap.get? q.1 = some q.2 ∧ h₀.get? q.1 = none)
    (ho : K.lookup f = some ⟨oc, od, .func (fnOf name qual params body scope dV kV doc pm an cdv ct), osl⟩) (hcd : codeIn K cdv qual = true) (hroom : dp < recursionLimit)
    (hbind : bindArgs (fnOf name qual params body scope dV kV doc pm an cdv ct) ⟨vals, []⟩ = pure ((params.args.map (·.arg)).zip vals))
    (hkind : (((params.args.map (·.arg)).zip vals).all fun y => scope.names.lookup y.1 == some .local || scope.names.lookup y.1 == some .cell) = true) (hnd : ((cellsFrom 0 scope.names []).map (·.1)).Nodup)
    (h : ∀ L' h₁ tk cells, Fr h₀ L' h₁ (bindL (envOfC qual scope L' f cdv).kindOf ((params.args.map (·.arg)).zip vals) fun _ => none) → News h₀ L' h₁ (cells ++ led) →
      CellsAre (bindC (envOfC qual scope L' f cdv).kindOf ((params.args.map (·.arg)).zip vals) fun _ => none) (cellsFrom (L' + 1) scope.names []) cells → (∀ q ∈ led, q.1 < L') →
      wpAny (model prog w) ((topA dp un gd outer).deeper (envOfC qual scope L' f cdv)) (execs body (envOfC qual scope L' f cdv))
        (fun fl s' => Q (match fl with | .ret v => v | _ => .none) s') (fun _ _ => False) { s with heap := h₁, toks := tk })
    (hco : scope.isCoroutine = false := by rfl) (hgen : scope.isGenerator = false := by rfl) (hk : scope.kind = .function := by rfl) :
    wpAny (model prog w) (topA dp un gd outer) (call (.ref f) vals) Q E s := by
  refine wpAny_call (codeAny_call_function (fd := fnOf name qual params body scope dV kV doc pm an cdv ct) (body := body) hroom ((X.keeps hst) _ _ ho) rfl hco hgen rfl (codeRec_of (X.keeps hst) hcd) (BindsTo.of_eq hbind _ _ _ _ ?_))
  refine wpAny_newFunctionEnv_cells hk (kindsX hkind _) fun env' he s' x => ?_
  subst he
  refine ⟨(T.keeps hst).nolimit.keeps x.toInCall.keep, codeAny_func ?_⟩
  obtain ⟨h₁, tk, cells, rfl, _, F, N, Y⟩ := cells_made hst hsz hled hnd rfl rfl x
  exact wpAny_noRaise (h _ h₁ tk cells F N Y fun q hq => Heap.lt_size (hled q hq).1)

/-- the same, at the clean stacks -/
theorem enterXC {name qual : Str} {params : Arguments} {body : List Stmt} {scope : Scope} {dV kV doc pm cdv ct oc : Value} {an od : Option Addr} {osl : Array (Option Value)} {f : Addr} {vals : List Value} (led : List (Addr × Obj))
    (X : K.In h₀) (T : Top p loose mean mg mb h₀) (hst : h₀.StaysIn s.heap) (hsz : h₀.objs.size = s.heap.objs.size) (hled : ∀ q ∈ led, s.heap.get? q.1 = some q.2 ∧ h₀.get? q.1 = none)
    (ho : K.lookup f = some ⟨oc, od, .func (fnOf name qual params body scope dV kV doc pm an cdv ct), osl⟩) (hcd : codeIn K cdv qual = true) (hroom : dp < recursionLimit)
    (hbind : bindArgs (fnOf name qual params body scope dV kV doc pm an cdv ct) ⟨vals, []⟩ = pure ((params.args.map (·.arg)).zip vals))
    (hkind : (((params.args.map (·.arg)).zip vals).all fun y => scope.names.lookup y.1 == some .local || scope.names.lookup y.1 == some .cell) = true) (hnd : ((cellsFrom 0 scope.names []).map (·.1)).Nodup)
    (h : ∀ L' h₁ tk cells, Fr h₀ L' h₁ (bindL (envOfC qual scope L' f cdv).kindOf ((params.args.map (·.arg)).zip vals) fun _ => none) → News h₀ L' h₁ (cells ++ led) →
      CellsAre (bindC (envOfC qual scope L' f cdv).kindOf ((params.args.map (·.arg)).zip vals) fun _ => none) (cellsFrom (L' + 1) scope.names []) cells → (∀ q ∈ led, q.1 < L') →
      wpC (model prog w) ((topA dp un gd outer).deeper (envOfC qual scope L' f cdv)) (execs body (envOfC qual scope L' f cdv))
        (fun fl s' => Q (match fl with | .ret v => v | _ => .none) s')
        (fun e s' => wpAny (model prog w) ((topA dp un gd outer).deeper (envOfC qual scope L' f cdv)) (leaving (envOfC qual scope L' f cdv) e) (fun _ s'' => E e s'') (fun e' s'' => E e' s'') s') { s with heap := h₁, toks := tk })
    (hco : scope.isCoroutine = false := by rfl) (hgen : scope.isGenerator = false := by rfl) (hk : scope.kind = .function := by rfl) :
    wpC (model prog w) (topA dp un gd outer) (call (.ref f) vals) Q E s := by
  refine wpC_call (codeC_of_tree rfl ?_)
  show wpC _ (topA dp un gd outer).in1 (callAny (.ref f) ⟨vals, []⟩) _ _ s
  simp only [callAny]
  refine wpC_bindA (wpAny_load ((X.keeps hst) _ _ ho) ?_)
  obtain ⟨c, oc, vs, tq, hc, hoc, hdc, hq⟩ := codeRec_of (X.keeps hst) hcd
  subst hc
  simp only [callFunction, hco, hgen]
  refine wpC_bindA (m := field (.ref c) 1) (wpAny_field hoc hdc hq ?_)
  refine wpC_bind (wpC_pure ?_)
  rw [hbind]
  refine wpC_bind (wpC_pure ?_)
  refine wpC_bindA (wpAny_newFunctionEnv_cells hk (kindsX hkind _) fun env' he s' x => ?_)
  subst he
  refine wpC_bindA (wpAny_enterFrame ((T.keeps hst).nolimit.keeps x.toInCall.keep) hroom ?_)
  refine wpC_pure ⟨rfl, codeC_func ?_⟩
  obtain ⟨h₁, tk, cells, rfl, _, F, N, Y⟩ := cells_made hst hsz hled hnd rfl rfl x
  exact h _ h₁ tk cells F N Y fun q hq => Heap.lt_size (hled q hq).1
end
local macro_rules | `(tactic| walk_at "mine cells") => `(tactic| (intro L' h' tk' cells' F' N' Y' l1; (try k_lt l1); k_cells Y'; (try simp only [List.cons_append, List.nil_append] at N')))
theorem fresh_Cut : True := by
  w_top off
  exact trivial
section
variable {prog : Program} {w : World} {A : Around} {E : Value → Shared → Prop} {s : Shared} {h₀ : Heap} {L l : Addr} {m : Str → Option Value} {news : List (Addr × Obj)} {vs : List Value} {ns : List Int} {Q : Value → Shared → Prop}
theorem sorted_M (F : Fr h₀ L s.heap m) (N : News h₀ L s.heap news) (hl : s.heap.IsList l vs.toArray) (hi : IntsAre vs ns) (h64 : ns.length < 64)
    (h : ∀ D vs' ns' c h', Fr h₀ L h' m → News h₀ L h' ((D, listOf (List.toArray vs') c) :: news) → (∀ q ∈ news, q.1 < D) → IntsAre vs' ns' → ns'.length = ns.length → ns'.Perm ns → ns'.Pairwise (· ≤ ·) → Q (.ref D) { s with heap := h' }) :
    wpAny (model prog w) A (call (.builtin "sorted") [.ref l]) Q E s :=
  kso_sorted F N hl hi h64 fun D vs' ns' c h' F' N' l1 a b c' d _ => h D vs' ns' c h' F' N' l1 a b c' d
theorem slice_M {hp : Heap} {gn : _} {dr : _} {tk : Nat} {os : _} {value slice : Expr} {x y : Int} {tx ty : Tok} (F : Fr h₀ L hp m) (N : News h₀ L hp news) (hl : hp.IsList l vs.toArray) (hi : IntsAre vs ns) (hx : 0 ≤ x) (hy : 0 ≤ y) (hz : ns.length ≤ sizeLine)
    (h : ∀ D ws h', Fr h₀ L h' m → News h₀ L h' ((D, listOf (List.toArray ws) 0) :: news) → (∀ p ∈ news, p.1 < D) → h₀.objs.size ≤ D → IntsAre ws ((ns.drop x.toNat).take (min y.toNat ns.length - x.toNat)) → Q (.ref D) (Shared.mk h' gn dr tk os))
    (hs : subscripted slice false (.ref l) (.ref hp.objs.size) = operate [.ref hp.objs.size, .ref l] (getItem (.ref l) (.ref hp.objs.size))) (ht : ∀ r, letTemporaryGo value (.ref l) r = pure ()) :
    wpAny (model prog w) A (subscriptTail value slice (.ref l) (.ref hp.objs.size)) Q E (Shared.mk (hp.push { cls := .type "slice", data := .fields #[.int x tx, .int y ty, .none] }) gn dr tk os) := by
  refine slice_list (s := Shared.mk hp gn dr tk os) F N hl (.int _ _) (.int _ _) (fun h' F' N' => ?_) hs ht (by rw [List.size_toArray, hi.length]; exact hz)
  refine h _ (slicePick vs.toArray (some x) (some y) none).toList h' F' ?_ (fun p hp => Nat.lt_succ_of_lt (Heap.lt_size (N p hp).1)) (Nat.le_succ_of_le (fr_size F)) (kmk_run hi hx hy)
  rw [Array.toArray_toList]
  exact N'
end
theorem news_mid {h₀ h : Heap} {L : Addr} {a b own : List (Addr × Obj)} {x y : Addr × Obj} (N : News h₀ L h ((a ++ b) ++ (x :: y :: own))) : News h₀ L h (a ++ x :: y :: (b ++ own)) := fun q hq => N q (by
  walk_at "mine subq")
/-- a piece of a list between two cuts -/
def pieceI (ns : List Int) (a b : Int) : List Int := (ns.drop a.toNat).take (min b.toNat ns.length - a.toNat)
theorem cut_law (ns cs : List Int) (h2 : cs.length ≤ 2) (ho : cs.Pairwise (· ≤ ·)) (hc : ∀ k ∈ cs, 0 ≤ k ∧ k ≤ (ns.length : Int)) :
    ((List.range (cs.length + 1)).map fun i => pieceI ns (([0] ++ cs).getD i 0) ((cs ++ [(ns.length : Int)]).getD i 0)).flatten = ns := by
  match cs, h2, ho, hc with
  | [], _, _, _ => simp [pieceI, List.range_succ]
  | [a], _, _, hc =>
    have ha := hc a (by simp)
    have e : min a.toNat ns.length = a.toNat := by omega
    simp [pieceI, List.range_succ, e]
    rw [List.take_of_length_le (l := ns.drop a.toNat) (by simp), List.take_append_drop]
  | [a, b], _, ho, hc =>
    have ha := hc a (by simp)
    have hb := hc b (by simp)
    have hab : a ≤ b := by simpa using ho
    have e : min a.toNat ns.length = a.toNat := by omega
    have e' : min b.toNat ns.length = b.toNat := by omega
    simp [pieceI, List.range_succ, e, e']
    rw [List.take_of_length_le (l := ns.drop b.toNat) (by simp), ← List.append_assoc]
    have e2 : ns.take a.toNat ++ (ns.drop a.toNat).take (b.toNat - a.toNat) = ns.take b.toNat := by
      rw [← List.take_add, show a.toNat + (b.toNat - a.toNat) = b.toNat by omega]
    rw [e2, List.take_append_drop]
inductive CutPost (ns : List Int) : Heap → Value → Obj → Heap → Prop
  | mk {h h' : Heap} {o' : Obj} (so : Src o') (pss : List (List Int)) (lr : Addr) (c : Nat) (ts : List (Addr × List Value × List Int)) (hl : h'.get? lr = some (listOf (ts.map fun t => Value.ref t.1).toArray c)) (hl0 : h.objs.size ≤ lr)
    (ht : ∀ t ∈ ts, h'.get? t.1 = some (listOf t.2.1.toArray 0) ∧ h.objs.size ≤ t.1 ∧ IntsAre t.2.1 t.2.2) (hp : ts.map (·.2.2) = pss) (hf : pss.flatten = ns) (hn : 1 ≤ pss.length ∧ pss.length ≤ 3) : CutPost ns h (.ref lr) o' h'
theorem sizeX {x : Int} (h : 0 ≤ x) : Builtin.Range.rangeSize 0 x 1 = (x.toNat : Int) := by
  simp only [Builtin.Range.rangeSize]
  split
  · split <;> omega
  · omega
section
variable {prog : Program} {w : World}
set_option maxHeartbeats 8000000 in
theorem cut_spec (l : Addr) (o : Obj) (lo : Addr) (vs : List Value) (ns : List Int) (ho : Src o) (hi : IntsAre vs ns) (hz : ns.length ≤ 2000) :
    SpecM prog w 194 [.ref l, .ref lo] 6 40 l o (fun h => h.IsList lo vs.toArray) (CutPost ns) := by
  intro p loose mean mg mb dp un gd outer base h₀ s Q E B X T hst hsz hl hln hd hu hp hret
  with_unfolding_all refine' enterX [(l, _)] ?k1 ?k2 ?k2b ?k2c ?k2d ?k3 ?k4 ?k5 ?k6 ?k7 ?k8 ?_ ?c1 ?c2 ?c3
  (((case k1 => assumption); (case k2 => assumption); (try ((case k2b => assumption); (case k2c => assumption); (case k2d => first | exact List.forall_mem_nil _ | (intro q hq; cases List.mem_singleton.mp hq; exact And.intro (by assumption) (by assumption))))); (case k3 => k_is); (case k4 => k_is); (case k5 => omega); (case k6 => first | exact rfl | exact binds_K (by assumption) rfl (by k_is) rfl rfl rfl); (case k7 => first | exact locs rfl | exact rfl); (case c1 => exact rfl); (case c2 => exact rfl); (case c3 => exact rfl); (try (case c4 => decide))); (case k8 => decide +kernel); walk_at "mine cells"; (try dsimp only); (try ((first | refine fold_env ?_ | refine fold_envC ?_); intro M₉ A₉ e₉ g₉ d₉ o₉)); (try k_fold))
  rename_i L h1 tk1 F0 l1 oc os d1 d2 N0
  replace d1 : oc.data = .cell (some (.ref lo)) := d1
  replace d2 : os.data = .cell (some (.ref l)) := d2
  replace F0 : Fr h₀ L h1 fun _ => none := F0
  ((try k_fold); repeat' (first | (k_unfold; (try dsimp only)) | ((fail_if_success (with_reducible (first | show wpAny _ _ (exec (.For _ _ _ _ _) _) _ _ _ | show wpAny _ _ (exec (.While _ _ _ _) _) _ _ _ | show wpAny _ _ (pyIter _) _ _ _ | show wpAny _ _ (call (.type "zip") _) _ _ _ | show wpAny _ _ (call (.type "enumerate") _) _ _ _ | show wpAny _ _ (eval (.ListComp _ _ _ _) _) _ _ _ | show wpAny _ _ (exec (.Assign _ (.ListComp _ _ _ _) _) _) _ _ _))); walk1; (try dsimp only))))
  (with_unfolding_all refine comp_eval (by rfl) (by rfl) (by decide) ?_)
  ((try k_fold); repeat' (first | (k_unfold; (try dsimp only)) | ((with_reducible show wpAny _ _ (call (.ref _) _) _ _ _); refine' use_take (h := ?_); intro _ _ _ _ _ _ _ _ _ _ _ e9; clear e9; (try dsimp only)) | ((fail_if_success (with_reducible (first | show wpAny _ _ (exec (.For _ _ _ _ _) _) _ _ _ | show wpAny _ _ (exec (.While _ _ _ _) _) _ _ _ | show wpAny _ _ (pyIter _) _ _ _ | show wpAny _ _ (call (.type "zip") _) _ _ _ | show wpAny _ _ (call (.type "enumerate") _) _ _ _ | show wpAny _ _ (eval (.ListComp _ _ _ _) _) _ _ _ | show wpAny _ _ (exec (.Assign _ (.ListComp _ _ _ _) _) _) _ _ _))); walk1; (try dsimp only))))
  rename_i g2 h2 tk2 o2 F1 N1 x1 t1 x10 x11 so1 h3 tk3 t2 u2 v2 R F N K
  refine src_range rfl R (small_one (by decide) (by decide) (by omega) (by omega)) (sizeX x10) ?_
  intro h₁ I fp wr St S
  refine compN (σ := Obj × List Int) (fun c => [(L + 1 + 1, oc), (L + 1, os), (l, c.1)]) (fun i c ys => Src c.1 ∧ IntsAre ys c.2 ∧ c.2.length = i ∧ ∀ k ∈ c.2, 0 ≤ k ∧ k ≤ (ns.length : Int)) (o2, []) S
    (by rw [sizeLine_eq]; omega) (by decide) rfl rfl (fun b hb => nomatch hb) F N ⟨so1, .nil, rfl, fun _ h => nomatch h⟩ ?_ ?_ (CompOut.eval ?_)
  · intro i v hrx2 ys C D oC mC h tk own hlt hrx12 hrx13 hoC hmC hoff F' N'
    obtain ⟨oc', cs⟩ := hrx2
    obtain ⟨t, rfl⟩ := hrx12
    obtain ⟨hs, hI, hl, hc⟩ := hrx13
    clear F N S R K F1 N1
    walk_at "mine in"
    ((try k_fold); repeat' (first | (k_unfold; (try dsimp only)) | ((with_reducible show wpAny _ _ (call (.builtin "len") [.ref _]) _ _ _); (first | refine' len_ints (by walk_at "mine list") (by assumption) (by walk_at "mine len") ?_ | refine' len_at (by walk_at "mine list") (by walk_at "mine len") ?_); intro _ _; (try dsimp only)) | ((with_reducible show wpAny _ _ (call (.ref _) _) _ _ _); refine' use_take (h := ?_); intro _ _ _ _ _ _ _ _ _ _ _ e9; clear e9; (try dsimp only)) | ((fail_if_success (with_reducible (first | show wpAny _ _ (exec (.For _ _ _ _ _) _) _ _ _ | show wpAny _ _ (exec (.While _ _ _ _) _) _ _ _ | show wpAny _ _ (pyIter _) _ _ _ | show wpAny _ _ (call (.type "zip") _) _ _ _ | show wpAny _ _ (call (.type "enumerate") _) _ _ _ | show wpAny _ _ (eval (.ListComp _ _ _ _) _) _ _ _ | show wpAny _ _ (exec (.Assign _ (.ListComp _ _ _ _) _) _) _ _ _))); walk1; (try dsimp only))))
    rename_i t3 k3 g3 h4 tk4 o4 F4 N4 x4 t4 x40 x41 so4
    refine CompTurn.intro (o4, cs ++ [x4]) (by assumption) N4 (fun _ hp => hp) hoff ⟨so4, ints_snoc hI rfl, by simp [hl], fun k hk => ?_⟩
    rcases List.mem_append.mp hk with hk | hk
    · exact hc k hk
    · rw [List.mem_singleton.mp hk]; omega
  · intro i c ys hrx3
    obtain ⟨_, hI, hl, _⟩ := hrx3
    rw [hI.length, hl]
    exact Nat.le_refl _
  · intro D h tk ys hrx4 hrx5 F' N' hoff hDle
    obtain ⟨oc', cs⟩ := hrx4
    obtain ⟨hs, hI, hl, hc⟩ := hrx5
    clear F N S R K F1 N1
    dsimp only at hs hI hl hc N' hoff
    ((try k_fold); repeat' (first | (k_unfold; (try dsimp only)) | ((with_reducible show wpAny _ _ (call (.builtin "sorted") _) _ _ _); refine' sorted_M (by k_asm) (by k_asm) (by walk_at "mine list") (by (first | assumption | (repeat (first | exact IntsAre.nil | refine IntsAre.cons _ _ ?_)))) (by walk_at "mine len") ?_; intro _ _ _ _ _ _ _ _ _ _ _ _; walk_at "mine lt"; (try dsimp only)) | ((fail_if_success (with_reducible (first | show wpAny _ _ (exec (.For _ _ _ _ _) _) _ _ _ | show wpAny _ _ (exec (.While _ _ _ _) _) _ _ _ | show wpAny _ _ (pyIter _) _ _ _ | show wpAny _ _ (call (.type "zip") _) _ _ _ | show wpAny _ _ (call (.type "enumerate") _) _ _ _ | show wpAny _ _ (eval (.ListComp _ _ _ _) _) _ _ _ | show wpAny _ _ (exec (.Assign _ (.ListComp _ _ _ _) _) _) _ _ _))); walk1; (try dsimp only))))
    (with_unfolding_all refine comp_eval (by rfl) (by rfl) (by decide) ?_)
    ((try k_fold); repeat' (first | (k_unfold; (try dsimp only)) | ((with_reducible show wpAny _ _ (call (.builtin "len") [.ref _]) _ _ _); (first | refine' len_ints (by walk_at "mine list") (by assumption) (by walk_at "mine len") ?_ | refine' len_at (by walk_at "mine list") (by walk_at "mine len") ?_); intro _ _; (try dsimp only)) | ((fail_if_success (with_reducible (first | show wpAny _ _ (exec (.For _ _ _ _ _) _) _ _ _ | show wpAny _ _ (exec (.While _ _ _ _) _) _ _ _ | show wpAny _ _ (pyIter _) _ _ _ | show wpAny _ _ (call (.type "zip") _) _ _ _ | show wpAny _ _ (call (.type "enumerate") _) _ _ _ | show wpAny _ _ (eval (.ListComp _ _ _ _) _) _ _ _ | show wpAny _ _ (exec (.Assign _ (.ListComp _ _ _ _) _) _) _ _ _))); walk1; (try dsimp only))))
    rename_i D2 vs2 cs2 c2 h5 hI2 e2 p2 o3 l3 h6 l4 h7 l5 l6 D3 ws3 h8 hI3 l7 t3 k3 l8 h9 l9 l10 D4 ws4 h10 F4 N4 hI4 l11
    have hc2 : ∀ k ∈ cs2, 0 ≤ k ∧ k ≤ (ns.length : Int) := fun k hk => hc k (p2.mem_iff.mp hk)
    have hn3 := hI3.length
    have hn4 := hI4.length
    simp only [List.length_append, List.length_cons, List.length_nil] at hn3 hn4
    have hmin : min ws3.length ws4.length = cs2.length + 1 := by omega
    refine src_zip rfl (News.isList N4 (by k_mem)) (News.isList N4 (by k_mem)) ?_
    intro h₁' I' fp' wr' St' S'
    refine compP (σ := List (Addr × List Value × List Int)) (fun c => [(D3, listOf ws3.toArray 0), (D4, listOf ws4.toArray 0), (L + 1 + 1, oc), (L + 1, os), (l, oc')] ++ c.map fun t => (t.1, listOf t.2.1.toArray 0))
      (fun i c ys => ys = c.map (fun t => Value.ref t.1) ∧ (∀ t ∈ c, h₀.objs.size ≤ t.1 ∧ IntsAre t.2.1 t.2.2) ∧ c.map (·.2.2) = (List.range i).map fun i => pieceI ns (([0] ++ cs2).getD i 0) ((cs2 ++ [(ns.length : Int)]).getD i 0)) [] S'
      (by rw [hmin, sizeLine_eq]; omega) (by decide) rfl rfl rfl (by decide) ?_ F4 (fun q hq => N4 q ?_) ⟨rfl, fun _ h => (List.not_mem_nil h).elim, rfl⟩ ?_ ?_ (CompOut.eval ?_)
    · intro b hb
      rcases List.mem_cons.mp hb with rfl | hb
      · exact .inr ⟨_, fun c => .head _⟩
      · rw [List.mem_singleton.mp hb]; exact .inr ⟨_, fun c => .tail _ (.head _)⟩
    · simp only [List.map_nil, List.append_nil, List.mem_cons, List.not_mem_nil, or_false] at hq ⊢
      rcases hq with rfl | rfl | rfl | rfl | rfl <;> simp
    · intro i a b c ys C D5 oC mC h tk own hlt hrx13 hrx14 hoC hma hmb hoff F' N'
      obtain ⟨ha, hb⟩ := hrx13
      obtain ⟨hys, hall, hmap⟩ := hrx14
      clear F4 N4 S'
      rw [hmin] at hlt
      obtain ⟨x, tx, rfl, hx⟩ := hI3.at _ _ ha
      obtain ⟨y, ty, rfl, hy⟩ := hI4.at _ _ hb
      have hx0 : 0 ≤ x := by
        rcases List.mem_append.mp (List.mem_of_getElem? hx) with hm | hm
        · rw [List.mem_singleton.mp hm]; exact Int.le_refl _
        · exact (hc2 _ hm).1
      have hy0 : 0 ≤ y := by
        rcases List.mem_append.mp (List.mem_of_getElem? hy) with hm | hm
        · exact (hc2 _ hm).1
        · rw [List.mem_singleton.mp hm]; exact Int.natCast_nonneg _
      replace N' := news_mid N'
      walk_at "mine in"
      ((try k_fold); repeat' (first | (k_unfold; (try dsimp only)) | ((with_reducible show wpAny _ _ (subscriptTail _ (.Slice _ _ _ _) (.ref _) (.ref _)) _ _ _); refine' slice_M (by k_asm) (by k_asm) (by walk_at "mine list") (by (first | assumption | (repeat (first | exact IntsAre.nil | refine IntsAre.cons _ _ ?_)))) (by walk_at "mine len") (by walk_at "mine len") (by walk_at "mine len") ?_ (by with_unfolding_all rfl) (by intro r'; with_unfolding_all rfl); intro _ _ _ _ _ _ _ _; walk_at "mine lt"; (try dsimp only)) | ((fail_if_success (with_reducible (first | show wpAny _ _ (exec (.For _ _ _ _ _) _) _ _ _ | show wpAny _ _ (exec (.While _ _ _ _) _) _ _ _ | show wpAny _ _ (pyIter _) _ _ _ | show wpAny _ _ (call (.type "zip") _) _ _ _ | show wpAny _ _ (call (.type "enumerate") _) _ _ _ | show wpAny _ _ (eval (.ListComp _ _ _ _) _) _ _ _ | show wpAny _ _ (exec (.Assign _ (.ListComp _ _ _ _) _) _) _ _ _))); walk1; (try dsimp only))))
      rename_i D7 ws7 h11 F7 N7 l12 hI7 l13
      have hci : c.length = i := by
        have := congrArg List.length hmap
        simpa only [List.length_map, List.length_range] using this
      refine CompTurn.intro (c ++ [(D7, ws7, pieceI ns x y)]) (by assumption) N7 (fun q hq => ?_) (fun q hq b hb => ?_) ⟨by rw [hys]; simp, fun t ht => ?_, ?_⟩
      · (try simp only [List.map_append, List.map_cons, List.map_nil] at hq ⊢)
        walk_at "mine subq"
      · simp only [List.map_append, List.map_cons, List.map_nil] at hb
        rw [← List.append_assoc] at hb
        rcases List.mem_append.mp hb with hb | hb
        · exact hoff q hq b hb
        · rw [List.mem_singleton.mp hb]
          obtain ⟨_, _, _, _, _, a6, a7, a8⟩ := l13
          rcases List.mem_cons.mp hq with rfl | hq
          · exact Nat.ne_of_lt a6
          · rcases List.mem_cons.mp hq with rfl | hq
            · exact Nat.ne_of_lt a7
            · exact Nat.ne_of_lt (kst_ltOf a8 q (List.mem_append_right _ hq))
      · rcases List.mem_append.mp ht with ht | ht
        · exact hall t ht
        · rw [List.mem_singleton.mp ht]; exact ⟨l12, hI7⟩
      · rw [List.map_append, hmap, List.range_succ, List.map_append, List.map_cons, List.map_nil, List.map_cons, List.map_nil, List.getD_eq_getElem?_getD, List.getD_eq_getElem?_getD, hx, hy]
        rfl
    · intro i c ys hrx3
      obtain ⟨rfl, _, hm⟩ := hrx3
      have := congrArg List.length hm
      simp only [List.length_map, List.length_range] at this
      simp [this]
    · intro D6 h tk ys c hrx5 F' N' hoff hDle'
      obtain ⟨rfl, hall, hmap⟩ := hrx5
      clear F4 N4 S'
      dsimp only at N'
      ((try k_fold); repeat' (first | (k_unfold; (try dsimp only)) | ((fail_if_success (with_reducible (first | show wpAny _ _ (exec (.For _ _ _ _ _) _) _ _ _ | show wpAny _ _ (exec (.While _ _ _ _) _) _ _ _ | show wpAny _ _ (pyIter _) _ _ _ | show wpAny _ _ (call (.type "zip") _) _ _ _ | show wpAny _ _ (call (.type "enumerate") _) _ _ _ | show wpAny _ _ (eval (.ListComp _ _ _ _) _) _ _ _ | show wpAny _ _ (exec (.Assign _ (.ListComp _ _ _ _) _) _) _ _ _))); walk1; (try dsimp only))))
      rw [hmin] at hmap
      have hlen := congrArg List.length hmap
      simp only [List.length_map, List.length_range] at hlen
      refine hret _ _ _ oc' (Fr.keep F') (Nat.le_trans (Nat.le_of_eq hsz.symm) (fr_size F')) (N' (l, oc') (by simp)).1 (.mk hs (c.map (·.2.2)) D6 (c.map fun t => Value.ref t.1).length c (N' _ (.head _)).1 hDle' (fun t ht => ⟨(N' (t.1, listOf t.2.1.toArray 0) ?_).1, hall t ht⟩) rfl ?_ ⟨?_, ?_⟩)
      · exact List.mem_cons_of_mem _ (List.mem_append_right _ (List.mem_map.mpr ⟨t, ht, rfl⟩))
      · rw [hmap]
        exact cut_law ns cs2 (by omega) o3 hc2
      · rw [List.length_map]; omega
      · rw [List.length_map]; omega
end
theorem fresh_Pict : True := by
  w_top off
  exact trivial
def pictureI (w h : Int) (m0 m1 : List Int) (pss : List (List Int)) : List Int :=
  [137, 80, 78, 71, 13, 10, 26, 10] ++ chunkI (Str.ofString "IHDR") (four w ++ four h ++ [8, 6, 0, 0, 0]) ++ m0 ++ pss.flatMap (chunkI (Str.ofString "IDAT")) ++ m1 ++ chunkI (Str.ofString "IEND") []
def RetBytes (ns : List Int) (_ : Heap) (v : Value) (_ : Heap) : Prop := ∃ b t, v = .bytes b t ∧ KBw.bInts b = ns
abbrev OkB (ns : List Int) : Prop := ∀ n ∈ ns, 0 ≤ n ∧ n < 256
theorem OkB.append {a b : List Int} (h : OkB a) (h' : OkB b) : OkB (a ++ b) := fun n hn => (List.mem_append.mp hn).elim (h n) (h' n)
theorem four_ok {n : Int} (h0 : 0 ≤ n) (h1 : n < 4294967296) : OkB (four n) := by
  have m : ∀ k : Int, 0 ≤ k % 256 ∧ k % 256 < 256 := fun k => ⟨Int.emod_nonneg _ (by decide), Int.emod_lt_of_pos _ (by decide)⟩
  exact List.forall_mem_cons.mpr ⟨by omega, List.forall_mem_cons.mpr ⟨m _, List.forall_mem_cons.mpr ⟨m _, List.forall_mem_cons.mpr ⟨m _, List.forall_mem_nil _⟩⟩⟩⟩
theorem crcOf_range {ns : List Int} (h : OkB ns) : 0 ≤ crcOf ns ∧ crcOf ns < 4294967296 := by
  have hb8 : ∀ b ∈ ns.map Int.toNat, b < 256 := by
    intro b hb
    obtain ⟨n, hn, rfl⟩ := List.mem_map.mp hb
    have := h n hn; omega
  have hlt := crun_lt (c := 4294967295) (bs := ns.map Int.toNat) (by decide) hb8
  rw [crcOf, all_ones hlt]
  omega
theorem chunk_ok {x : Str} {ns : List Int} (hx : OkB (signs x)) (h : OkB ns) (hz : ns.length < 4294967296) : OkB (chunkI x ns) := by
  have hc := crcOf_range (hx.append h)
  exact ((four_ok (by omega) (by omega)).append (hx.append h)).append (four_ok hc.1 hc.2)
theorem chunk_length (x : Str) (ns : List Int) (hx : x.cps.size = 4) : (chunkI x ns).length = 12 + ns.length := by
  simp only [chunkI, List.length_append, four_length, signs_length, hx]; omega
theorem flat_chunks (x : Str) (hx : x.cps.size = 4) : ∀ (pss : List (List Int)), (∀ p ∈ pss, p.length ≤ 1000) → (pss.flatMap (chunkI x)).length ≤ 1012 * pss.length
  | [], _ => by simp
  | a :: r, h => by
    have h1 := flat_chunks x hx r fun p hp => h p (.tail _ hp)
    have h2 := h a (.head _)
    have h3 := chunk_length x a hx
    rw [List.flatMap_cons, List.length_append, List.length_cons]
    omega
theorem flat_ok (x : Str) (hx : OkB (signs x)) : ∀ (pss : List (List Int)), (∀ p ∈ pss, OkB p ∧ p.length ≤ 1000) → OkB (pss.flatMap (chunkI x))
  | [], _ => by intro n hn; simp at hn
  | a :: r, h => by
    rw [List.flatMap_cons]
    have h2 := h a (.head _)
    exact (chunk_ok hx h2.1 (by omega)).append (flat_ok x hx r fun p hp => h p (.tail _ hp))
theorem four_in {n : Int} (h0 : 0 ≤ n) : ∀ k ∈ four n, 0 ≤ k := by
  have m : ∀ k : Int, 0 ≤ k % 256 := fun k => Int.emod_nonneg _ (by decide)
  exact List.forall_mem_cons.mpr ⟨by omega, List.forall_mem_cons.mpr ⟨m _, List.forall_mem_cons.mpr ⟨m _, List.forall_mem_cons.mpr ⟨m _, List.forall_mem_nil _⟩⟩⟩⟩
theorem signs_ihdr : signs (Str.ofString "IHDR") = [73, 72, 68, 82] := by decide +kernel
theorem signs_idat : signs (Str.ofString "IDAT") = [73, 68, 65, 84] := by decide +kernel
theorem signs_iend : signs (Str.ofString "IEND") = [73, 69, 78, 68] := by decide +kernel
theorem signs_text : signs (Str.ofString "tEXt") = [116, 69, 88, 116] := by decide +kernel
theorem name_ihdr : (Str.ofString "IHDR").cps.size = 4 := by decide +kernel
theorem name_idat : (Str.ofString "IDAT").cps.size = 4 := by decide +kernel
theorem name_iend : (Str.ofString "IEND").cps.size = 4 := by decide +kernel
theorem name_text : (Str.ofString "tEXt").cps.size = 4 := by decide +kernel
section
variable {prog : Program} {w : World} {A : Around} {E : Value → Shared → Prop} {s : Shared} {h₀ : Heap} {L l : Addr} {m : Str → Option Value} {news : List (Addr × Obj)} {vs : List Value} {ns : List Int} {Q : Value → Shared → Prop}
theorem bytes_M (F : Fr h₀ L s.heap m) (N : News h₀ L s.heap news) (hh : A.handled = none) (hl : s.heap.IsList l vs.toArray) (hi : IntsAre vs ns) (hr : OkB ns) (hn : ns.length ≤ 16777216)
    (h : ∀ h' b t k, Fr h₀ L h' m → News h₀ L h' news → KBw.bInts b = ns → Q (.bytes b t) { s with heap := h', toks := k }) : wpAny (model prog w) A (call (.type "bytes") [.ref l]) Q E s :=
  KBa.make_K F N hh hl hi hr hn fun h' t k F' N' hr' => h h' _ t k F' N' (KBa.ints_make hr')
theorem tup_at {value slice : Expr} {a : Addr} {k : Int} {u : Tok} {v : Value} (ht : s.heap.IsTuple a vs.toArray) (h0 : 0 ≤ k) (h1 : k < 2 ^ 63) (hx : vs[k.toNat]? = some v) (h : Q v s)
    (hs : subscripted slice false (.ref a) (.int k u) = operate [.ref a, .int k u] (getItem (.ref a) (.int k u)) := by with_unfolding_all rfl) :
    wpAny (model prog w) A (subscriptTail value slice (.ref a) (.int k u)) Q E s := by
  have hlt : k.toNat < vs.length := (List.getElem?_eq_some_iff.mp hx).1
  refine item_tupleT (j := k.toNat) (let ⟨o, e, c, n, d⟩ := ht; ⟨o, e, c, n, d⟩) (by omega) h1 ?_ hx h hs
  unfold seqIndex?
  simp only [show ¬ k < 0 by omega, if_false]
  rw [if_pos]
  · simp; omega
end
section
variable {prog : Program} {w : World} {p : Program} {loose : List Str} {mean : ExcName → Option Value} {mg mb : Str → Option Value}
  {dp un : Nat} {gd : Option (List Code)} {outer : List Env} {base : Heap} {s : Shared} {Q E : Value → Shared → Prop} {h₀ : Heap} {L : Addr} {m : Str → Option Value} {news : List (Addr × Obj)} {A A₀ : Around} {env : Env}
theorem use_chunk {x : Str} {t : Tok} {l : Addr} {vs : List Value} {ns ks : List Int}
    (hl : s.heap.IsList l vs.toArray) (hi : IntsAre vs ns) (hz : ns.length ≤ 2000) (hb : OkB ns) (hx : x.cps.size = 4) (hx8 : signs x = ks) (hk8 : ∀ n ∈ ks, n < 256)
    (B : Below A₀ base outer h₀ := by k_asm) (F : Fr h₀ L s.heap m := by k_asm) (X : (hd.heap_1 w.params).In h₀ := by k_asm) (N : News h₀ L s.heap news := by k_asm) (T : Top p loose mean mg mb h₀ := by k_asm)
    (hA : A = topA dp un gd (env :: outer) := by exact rfl) (hf : env.frame = some L := by exact rfl) (hk : env.scope.kind = .function := by exact rfl)
    (hd : dp + 5 < recursionLimit := by walk_at "mine room") (hu : un + 40 < cLine := by walk_at "mine room")
    (h : ∀ D us c h' tk', Fr h₀ L h' m → News h₀ L h' ((D, listOf us.toArray c) :: news) → (∀ p ∈ news, p.1 < D) → h₀.objs.size ≤ D → IntsAre us (chunkI x ns) → Q (.ref D) { s with heap := h', toks := tk' }) :
    wpAny (model prog w) A (call (.ref 182) [.str x t, .ref l]) Q E s :=
  Spec.useInts (chunk_spec x t l vs ns hx (hx8 ▸ hk8) hi hz hb) B F X N T hA hf hk hd hu hl h
end
section
variable {prog : Program} {w : World}
set_option maxHeartbeats 8000000 in
theorem picture_spec (wi he : Int) (tw th : Tok) (lm lps a0 a1 : Addr) (v0 v1 : List Value) (m0 m1 : List Int) (ts : List (Addr × List Value × List Int)) (hw : 0 ≤ wi ∧ wi < 4294967296) (hh : 0 ≤ he ∧ he < 4294967296)
    (h0 : IntsAre v0 m0) (h1 : IntsAre v1 m1) (hts : ∀ t ∈ ts, IntsAre t.2.1 t.2.2) (ho0 : OkB m0) (ho1 : OkB m1) (hot : ∀ t ∈ ts, OkB t.2.2) (hz0 : m0.length ≤ 100) (hz1 : m1.length ≤ 100) (hzt : ∀ t ∈ ts, t.2.2.length ≤ 1000) (hn : ts.length ≤ 3) :
    Spec prog w 201 [.int wi tw, .int he th, .ref lm, .ref lps] 7 60 (fun h => h.IsTuple lm #[.ref a0, .ref a1] ∧ h.IsList a0 v0.toArray ∧ h.IsList a1 v1.toArray ∧ h.IsList lps (ts.map fun t => Value.ref t.1).toArray ∧ ∀ t ∈ ts, h.IsList t.1 t.2.1.toArray) (RetBytes (pictureI wi he m0 m1 (ts.map (·.2.2)))) := by
  intro p loose mean mg mb dp un gd outer base s Q E B X T hd hu hp hret
  obtain ⟨hp1, hp2, hp3, hp4, hp5⟩ := hp
  have hok1 : OkB (four wi ++ four he ++ [8, 6, 0, 0, 0]) := ((four_ok hw.1 hw.2).append (four_ok hh.1 hh.2)).append (by decide)
  have hl1 := chunk_length (Str.ofString "IHDR") (four wi ++ four he ++ [8, 6, 0, 0, 0]) name_ihdr
  simp only [List.length_append, four_length, List.length_cons, List.length_nil] at hl1
  (with_unfolding_all refine' enterN ?k1 ?k2 ?k3 ?k4 ?k5 ?k6 ?k7 ?_ ?c1 ?c2 ?c3 ?c4; (((case k1 => assumption); (case k2 => assumption); (try ((case k2b => assumption); (case k2c => assumption); (case k2d => first | exact List.forall_mem_nil _ | (intro q hq; cases List.mem_singleton.mp hq; exact And.intro (by assumption) (by assumption))))); (case k3 => k_is); (case k4 => k_is); (case k5 => omega); (case k6 => first | exact rfl | exact binds_K (by assumption) rfl (by k_is) rfl rfl rfl); (case k7 => first | exact locs rfl | exact rfl); (case c1 => exact rfl); (case c2 => exact rfl); (case c3 => exact rfl); (try (case c4 => decide))); intro _ _ F9; (dsimp only [List.map, List.zip, List.zipWith, List.reverse, List.reverseAux] at F9); revert F9; intro _ _; (try dsimp only); (try ((first | refine fold_env ?_ | refine fold_envC ?_); intro M₉ A₉ e₉ g₉ d₉ o₉)); (try k_fold)))
  ((try k_fold); repeat' (first | (k_unfold; (try dsimp only)) | ((with_reducible show wpAny _ _ (call (.ref _) _) _ _ _); refine' use_chunk (by walk_at "mine list") (by (first | assumption | (repeat (first | exact IntsAre.nil | refine IntsAre.cons _ _ ?_)))) (by walk_at "mine len") (by (first | assumption | exact fun _ h => (List.not_mem_nil h).elim)) (by first | exact name_ihdr | exact name_idat | exact name_iend | exact name_text) (by first | exact signs_ihdr | exact signs_idat | exact signs_iend | exact signs_text) (by decide) (h := ?_); intro _ _ _ _ _ _ _ _ _ _; walk_at "mine lt"; (try dsimp only)) | ((with_reducible show wpAny _ _ (subscriptTail _ _ (.ref _) (.int _ _)) _ _ _); refine' tup_at (by (first | assumption | exact News.isTup (by k_asm) (by k_mem) | (refine Heap.IsTuple.at ?_ (fun o e => Fr.keep (by k_asm) _ o e); assumption))) (by decide) (by decide) (by exact rfl) ?_; (try dsimp only)) | ((with_reducible show wpAny _ _ (binaryOp .Add (.ref _) (.ref _)) _ _ _); refine' add_M (by k_asm) (by k_asm) (by walk_at "mine list") (by walk_at "mine list") (by (first | assumption | (repeat (first | exact IntsAre.nil | refine IntsAre.cons _ _ ?_)))) (by (first | assumption | (repeat (first | exact IntsAre.nil | refine IntsAre.cons _ _ ?_)))) ?_ (by walk_at "mine len"); intro _ _ _ _ _ _ _ _; walk_at "mine lt"; (try dsimp only)) | ((with_reducible show wpAny _ _ (call (.ref _) _) _ _ _); refine' Spec.useInts (four_spec _ _) (h := ?_); intro _ _ _ _ _ _ _ _ _ _; walk_at "mine lt"; (try dsimp only)) | ((fail_if_success (with_reducible (first | show wpAny _ _ (exec (.For _ _ _ _ _) _) _ _ _ | show wpAny _ _ (exec (.While _ _ _ _) _) _ _ _ | show wpAny _ _ (pyIter _) _ _ _ | show wpAny _ _ (call (.type "zip") _) _ _ _ | show wpAny _ _ (call (.type "enumerate") _) _ _ _ | show wpAny _ _ (eval (.ListComp _ _ _ _) _) _ _ _ | show wpAny _ _ (exec (.Assign _ (.ListComp _ _ _ _) _) _) _ _ _))); walk1; (try dsimp only))))
  refine for_any ?_
  ((try k_fold); repeat' (first | (k_unfold; (try dsimp only)) | ((fail_if_success (with_reducible (first | show wpAny _ _ (exec (.For _ _ _ _ _) _) _ _ _ | show wpAny _ _ (exec (.While _ _ _ _) _) _ _ _ | show wpAny _ _ (pyIter _) _ _ _ | show wpAny _ _ (call (.type "zip") _) _ _ _ | show wpAny _ _ (call (.type "enumerate") _) _ _ _ | show wpAny _ _ (eval (.ListComp _ _ _ _) _) _ _ _ | show wpAny _ _ (exec (.Assign _ (.ListComp _ _ _ _) _) _) _ _ _))); walk1; (try dsimp only))))
  rename IntsAre _ (_ ++ chunkI _ _ ++ m0) => hI1
  rename News _ _ _ _ => N
  rename Fr _ _ _ _ => F
  refine src_list rfl (hp4.at fun o e => F.keep _ o e) ?_
  intro h₁ I fp wr St S
  refine forN (σ := Addr × List Value × Nat) (fun c => [(c.1, listOf c.2.1.toArray c.2.2)]) (fun c => [(Str.ofString "found", .ref c.1), (Str.ofString "more", .ref lm)])
    (fun i c => i ≤ ts.length ∧ IntsAre c.2.1 ([137, 80, 78, 71, 13, 10, 26, 10] ++ chunkI (Str.ofString "IHDR") (four wi ++ four he ++ [8, 6, 0, 0, 0]) ++ m0 ++ ((ts.map (·.2.2)).take i).flatMap (chunkI (Str.ofString "IDAT")))) (_, _, 0) S rfl rfl
    (fun b hb => .inl (by rw [List.mem_singleton.mp hb]; exact let ⟨o, e, _⟩ := hp4; ⟨o, e⟩)) F (fun p hp => N p (by rcases List.mem_singleton.mp hp with rfl; exact .head _)) (by (repeat (first | exact List.forall_mem_nil _ | refine List.forall_mem_cons.mpr ⟨by first | rfl | assumption, ?_⟩))) ⟨by omega, by simpa using hI1⟩ ?_ ?_
  · intro i v hrx2 u h tk own hlt hq hrx9 hoff F' N'
    obtain ⟨D3, us, c3⟩ := hrx2
    obtain ⟨hi, hI⟩ := hrx9
    rw [List.length_map] at hlt
    obtain ⟨⟨pl, vs, ns⟩, ht⟩ : ∃ t, ts[i]? = some t := ⟨_, List.getElem?_eq_getElem hlt⟩
    obtain rfl : v = .ref pl := by simpa [ht] using hq.symm
    have hm := List.mem_of_getElem? ht
    have hpl : s.heap.IsList pl vs.toArray := hp5 _ hm
    have hni : IntsAre vs ns := hts _ hm
    have hno : OkB ns := hot _ hm
    have hnz := hzt _ hm
    have hpi : (ts.map (·.2.2))[i]? = some ns := by simp [ht]
    have hcl := chunk_length (Str.ofString "IDAT") ns name_idat
    have hfl := flat_chunks (Str.ofString "IDAT") name_idat ((ts.map (·.2.2)).take i) (fun p hp => by obtain ⟨t, ht, rfl⟩ := List.mem_map.mp (List.mem_of_mem_take hp); exact hzt t ht)
    rw [List.length_take, List.length_map] at hfl
    clear F N S
    dsimp only at hI N' hoff hnz hno
    simp only [List.cons_append, List.nil_append] at N' hoff
    walk_at "mine in"
    ((try k_fold); repeat' (first | (k_unfold; (try dsimp only)) | ((with_reducible show wpAny _ _ (call (.ref _) _) _ _ _); refine' use_chunk (by walk_at "mine list") (by (first | assumption | (repeat (first | exact IntsAre.nil | refine IntsAre.cons _ _ ?_)))) (by walk_at "mine len") (by (first | assumption | exact fun _ h => (List.not_mem_nil h).elim)) (by first | exact name_ihdr | exact name_idat | exact name_iend | exact name_text) (by first | exact signs_ihdr | exact signs_idat | exact signs_iend | exact signs_text) (by decide) (h := ?_); intro _ _ _ _ _ _ _ _ _ _; walk_at "mine lt"; (try dsimp only)) | ((with_reducible show wpAny _ _ (binaryOp .Add (.ref _) (.ref _)) _ _ _); refine' add_M (by k_asm) (by k_asm) (by walk_at "mine list") (by walk_at "mine list") (by (first | assumption | (repeat (first | exact IntsAre.nil | refine IntsAre.cons _ _ ?_)))) (by (first | assumption | (repeat (first | exact IntsAre.nil | refine IntsAre.cons _ _ ?_)))) ?_ (by walk_at "mine len"); intro _ _ _ _ _ _ _ _; walk_at "mine lt"; (try dsimp only)) | ((fail_if_success (with_reducible (first | show wpAny _ _ (exec (.For _ _ _ _ _) _) _ _ _ | show wpAny _ _ (exec (.While _ _ _ _) _) _ _ _ | show wpAny _ _ (pyIter _) _ _ _ | show wpAny _ _ (call (.type "zip") _) _ _ _ | show wpAny _ _ (call (.type "enumerate") _) _ _ _ | show wpAny _ _ (eval (.ListComp _ _ _ _) _) _ _ _ | show wpAny _ _ (exec (.Assign _ (.ListComp _ _ _ _) _) _) _ _ _))); walk1; (try dsimp only))))
    refine TurnEnd.intro (_, _, _) (by assumption) (by assumption) (fun _ hp => by
      rcases List.mem_cons.mp hp with rfl | hp
      · exact .head _
      · exact List.mem_cons_of_mem _ (List.mem_cons_of_mem _ (List.mem_cons_of_mem _ hp))) (by (repeat (first | exact List.forall_mem_nil _ | refine List.forall_mem_cons.mpr ⟨by first | rfl | assumption, ?_⟩))) ?_
    rename (_ < _ ∧ _ < _ ∧ AllLt _ _) => hlt9
    refine ⟨OwnOff.cons hlt9.2.2 OwnOff.nil, by omega, ?_⟩
    have e : ((ts.map (·.2.2)).take (i + 1)).flatMap (chunkI (Str.ofString "IDAT")) = ((ts.map (·.2.2)).take i).flatMap (chunkI (Str.ofString "IDAT")) ++ chunkI (Str.ofString "IDAT") ns := by
      rw [List.take_add_one, hpi]; simp
    rw [e, ← List.append_assoc]
    assumption
  · intro hrx0 u h tk hrx4 F' N'
    obtain ⟨D3, us, c3⟩ := hrx0
    obtain ⟨hi, hI⟩ := hrx4
    clear F N S
    dsimp only at hI N'
    have hfl := flat_chunks (Str.ofString "IDAT") name_idat (ts.map (·.2.2)) (fun p hp => by obtain ⟨t, ht, rfl⟩ := List.mem_map.mp hp; exact hzt t ht)
    have hfo := flat_ok (Str.ofString "IDAT") (by rw [signs_idat]; decide) (ts.map (·.2.2)) (fun p hp => by obtain ⟨t, ht, rfl⟩ := List.mem_map.mp hp; exact ⟨hot t ht, hzt t ht⟩)
    have hcl : (chunkI (Str.ofString "IEND") []).length = 12 := chunk_length (Str.ofString "IEND") [] name_iend
    have hall : OkB (pictureI wi he m0 m1 (ts.map (·.2.2))) := ((((OkB.append (a := [137, 80, 78, 71, 13, 10, 26, 10]) (by decide) (chunk_ok (by rw [signs_ihdr]; decide) hok1 (by simp [four_length]))).append ho0).append hfo).append ho1).append (chunk_ok (by rw [signs_iend]; decide) (fun _ h => (List.not_mem_nil h).elim) (by simp))
    rw [show (ts.map fun t => Value.ref t.1).length = (ts.map (·.2.2)).length by simp, List.take_length] at hI
    rw [List.length_map] at hfl
    unfold pictureI at hall
    walk_at "mine in"
    ((try k_fold); repeat' (first | (k_unfold; (try dsimp only)) | ((with_reducible show wpAny _ _ (call (.type "bytes") [.ref _]) _ _ _); refine' bytes_M (by k_asm) (by k_asm) rfl (by walk_at "mine list") (by (first | assumption | (repeat (first | exact IntsAre.nil | refine IntsAre.cons _ _ ?_)))) (by (first | assumption | exact fun _ h => (List.not_mem_nil h).elim)) (by walk_at "mine len") ?_; intro _ _ _ _ _ _ _; (try dsimp only)) | ((with_reducible show wpAny _ _ (call (.ref _) _) _ _ _); refine' use_chunk (by walk_at "mine list") (by (first | assumption | (repeat (first | exact IntsAre.nil | refine IntsAre.cons _ _ ?_)))) (by walk_at "mine len") (by (first | assumption | exact fun _ h => (List.not_mem_nil h).elim)) (by first | exact name_ihdr | exact name_idat | exact name_iend | exact name_text) (by first | exact signs_ihdr | exact signs_idat | exact signs_iend | exact signs_text) (by decide) (h := ?_); intro _ _ _ _ _ _ _ _ _ _; walk_at "mine lt"; (try dsimp only)) | ((with_reducible show wpAny _ _ (subscriptTail _ _ (.ref _) (.int _ _)) _ _ _); refine' tup_at (by (first | assumption | exact News.isTup (by k_asm) (by k_mem) | (refine Heap.IsTuple.at ?_ (fun o e => Fr.keep (by k_asm) _ o e); assumption))) (by decide) (by decide) (by exact rfl) ?_; (try dsimp only)) | ((with_reducible show wpAny _ _ (binaryOp .Add (.ref _) (.ref _)) _ _ _); refine' add_M (by k_asm) (by k_asm) (by walk_at "mine list") (by walk_at "mine list") (by (first | assumption | (repeat (first | exact IntsAre.nil | refine IntsAre.cons _ _ ?_)))) (by (first | assumption | (repeat (first | exact IntsAre.nil | refine IntsAre.cons _ _ ?_)))) ?_ (by walk_at "mine len"); intro _ _ _ _ _ _ _ _; walk_at "mine lt"; (try dsimp only)) | ((fail_if_success (with_reducible (first | show wpAny _ _ (exec (.For _ _ _ _ _) _) _ _ _ | show wpAny _ _ (exec (.While _ _ _ _) _) _ _ _ | show wpAny _ _ (pyIter _) _ _ _ | show wpAny _ _ (call (.type "zip") _) _ _ _ | show wpAny _ _ (call (.type "enumerate") _) _ _ _ | show wpAny _ _ (eval (.ListComp _ _ _ _) _) _ _ _ | show wpAny _ _ (exec (.Assign _ (.ListComp _ _ _ _) _) _) _ _ _))); walk1; (try dsimp only))))
    refine hret _ _ _ (Fr.keep (by assumption)) (fr_size (by assumption)) ⟨_, _, rfl, ?_⟩
    unfold pictureI
    assumption
end
theorem fresh_Blk : True := by
  w_top off
  exact trivial
section
variable {prog : Program} {w : World}
set_option maxHeartbeats 8000000 in
theorem block_spec (b : Array UInt8) (ns : List Int) (a n : Int) (t u : Tok) (hb : KBw.bInts b = ns) (h0 : 0 ≤ a) (h2 : ns.length ≤ 16777216) (hl : nAt ns a = 0 ∨ nAt ns a = 1)
    (hn : nAt ns (a + 1) + 256 * nAt ns (a + 2) = n) (hc : nAt ns (a + 3) + 256 * nAt ns (a + 4) = 65535 - n) (hf : a + 5 + n ≤ ns.length) :
    Spec prog w 108 [.bytes b t, .int a u] 2 10 (fun _ => True) (RetInt n) := by
  intro p loose mean mg mb dp un gd outer base s Q E B X T hd hu hp hret
  have r0 := nAt_range hb a
  have r1 := nAt_range hb (a + 1)
  have r2 := nAt_range hb (a + 2)
  have r3 := nAt_range hb (a + 3)
  have r4 := nAt_range hb (a + 4)
  have e1 : Builtin.bitOr (ns.getD (a + 1).toNat 0) (ns.getD (a + 2).toNat 0 * 2 ^ Int.toNat 8) = n := (or2 r1 r2.1).trans (by omega)
  have e2 : Builtin.bitOr (ns.getD (a + 3).toNat 0) (ns.getD (a + 4).toNat 0 * 2 ^ Int.toNat 8) = 65535 - n := (or2 r3 r4.1).trans (by omega)
  have e0 : Int.fdiv (ns.getD a.toNat 0) (2 ^ Int.toNat 1) = 0 := by
    rw [Int.fdiv_eq_ediv_of_nonneg _ (by decide)]
    show nAt ns a / 2 = 0
    omega
  (with_unfolding_all refine' enterN ?k1 ?k2 ?k3 ?k4 ?k5 ?k6 ?k7 ?_ ?c1 ?c2 ?c3 ?c4; (((case k1 => assumption); (case k2 => assumption); (try ((case k2b => assumption); (case k2c => assumption); (case k2d => first | exact List.forall_mem_nil _ | (intro q hq; cases List.mem_singleton.mp hq; exact And.intro (by assumption) (by assumption))))); (case k3 => k_is); (case k4 => k_is); (case k5 => omega); (case k6 => first | exact rfl | exact binds_K (by assumption) rfl (by k_is) rfl rfl rfl); (case k7 => first | exact locs rfl | exact rfl); (case c1 => exact rfl); (case c2 => exact rfl); (case c3 => exact rfl); (try (case c4 => decide))); intro _ _ F9; (dsimp only [List.map, List.zip, List.zipWith, List.reverse, List.reverseAux] at F9); revert F9; intro _ _; (try dsimp only); (try ((first | refine fold_env ?_ | refine fold_envC ?_); intro M₉ A₉ e₉ g₉ d₉ o₉)); (try k_fold)))
  ((try k_fold); repeat' (first | (k_unfold; (try dsimp only)) | ((with_reducible show wpAny _ _ (subscriptTail _ _ (.bytes _ _) (.int _ _)) _ _ _); refine KBw.item_K (by assumption) (by omega) (by omega) (by omega) ?_; intro _ _ _ _; (try dsimp only)) | ((fail_if_success (with_reducible (first | show wpAny _ _ (exec (.For _ _ _ _ _) _) _ _ _ | show wpAny _ _ (exec (.While _ _ _ _) _) _ _ _ | show wpAny _ _ (pyIter _) _ _ _ | show wpAny _ _ (call (.type "zip") _) _ _ _ | show wpAny _ _ (call (.type "enumerate") _) _ _ _ | show wpAny _ _ (eval (.ListComp _ _ _ _) _) _ _ _ | show wpAny _ _ (exec (.Assign _ (.ListComp _ _ _ _) _) _) _ _ _))); walk1; (try dsimp only))))
  exact ret_int (s := s) hret (by assumption) e1
end
theorem fresh_Byt : True := by
  w_top off
  exact trivial
namespace BF
theorem own_bytes : typeLookup (.type "bytes") "__bytes__" = pure (some (.builtin "bytes.__bytes__")) := by rw [typeLookup_type, builtinLookup_eq_fast]; kernel_rfl
theorem no_bytes_int : typeLookup (.type "int") "__bytes__" = pure none := by rw [typeLookup_type, builtinLookup_eq_fast]; kernel_rfl
theorem index_int : typeLookup (.type "int") "__index__" = pure (some (.builtin "int.__index__")) := by rw [typeLookup_type, builtinLookup_eq_fast]; kernel_rfl
theorem no_bytes_ba : typeLookup (.type "bytearray") "__bytes__" = pure none := by rw [typeLookup_type, builtinLookup_eq_fast]; kernel_rfl
theorem no_index_ba : typeLookup (.type "bytearray") "__index__" = pure none := by rw [typeLookup_type, builtinLookup_eq_fast]; kernel_rfl
theorem buffer_ba : typeLookup (.type "bytearray") "__buffer__" = pure (some (.builtin "bytearray.__buffer__")) := by rw [typeLookup_type, builtinLookup_eq_fast]; kernel_rfl
theorem release_ba : typeLookup (.type "bytearray") "__release_buffer__" = pure (some (.builtin "bytearray.__release_buffer__")) := by rw [typeLookup_type, builtinLookup_eq_fast]; kernel_rfl
theorem sub_ba : isSubtype (.type "bytearray") (.type "bytearray") = pure true := by rw [isSubtype_type]; kernel_rfl
end BF
/-- a bytearray that holds these octets -/
def IsBa (h : Heap) (a : Addr) (b : Array UInt8) : Prop := h.get? a = some { cls := .type "bytearray", data := .bytearray b }
section
variable {prog : Program} {w : World} {A : Around} {E : Value → Shared → Prop} {s : Shared}

theorem bytes_via {v : Value} {Q : Value → Shared → Prop}
    (h : wpAny (model prog w) A.in1.in1 (Builtin.«bytes.__new__» ⟨[.type "bytes", v], []⟩) (fun fin s' => match fin with | .done (.ret x) => (∃ b t, x = .bytes b t) ∧ Q x s' | _ => False) (fun _ _ => False) s) :
    wpAny (model prog w) A (call (.type "bytes") [v]) Q E s := by
  refine callType_codes (Q₁ := fun obj s₁ => s₁.TypeIs obj "bytes" ∧ Q obj s₁) F.bm_called (F.bm_typeCall _) F.entry_object_init ?_ fun obj s₁ h₁ => ?_
  · refine codeAny_of_tree ?_
    show wpAny _ A.in1.in1 (do checkBuiltinCall "bytes.__new__" ⟨[.type "bytes", v], []⟩; again (.builtin "bytes.__new__" ⟨[.type "bytes", v], []⟩)) _ _ s
    refine wpAny_bind (wpAny_of_eq (F.bm_newCall _) (wpAny_pure ⟨plainId_quiet F.bm_plain _, codeAny_builtin F.bm_entry ?_⟩))
    rw [Around.under_plainId F.bm_plain _]
    refine wpAny_mono h (fun fin s' hq => ?_) fun _ _ e => e.elim
    cases fin with
    | again c => exact hq.elim
    | done f =>
      cases f with
      | ret x =>
        obtain ⟨⟨b, t, rfl⟩, hq⟩ := hq
        exact ⟨PySem.W.typeIs_bytes _ _ _, hq⟩
      | _ => exact hq.elim
  · exact ⟨h₁.1, F.args_object_init_2 obj _, object_init_meets F.bm_called.init.lookup F.bm_called.made (by decide) prog w A.in1 _ s₁ ⟨h₁.1, rfl, h₁.2⟩⟩

theorem bytes_start {v : Value} {M : Model} {Q : Fin → Shared → Prop} {E : Value → Shared → Prop} {A : Around} {k : Sem Fin}
    (e : Builtin.«bytes.__new__» ⟨[.type "bytes", v], []⟩ = k) (h : wpAny M A k Q E s) : wpAny M A (Builtin.«bytes.__new__» ⟨[.type "bytes", v], []⟩) Q E s := e ▸ h

theorem bytes_of_bytes {b : Array UInt8} {t : Tok} {Q : Value → Shared → Prop} (h : Q (.bytes b t) s) : wpAny (model prog w) A (call (.type "bytes") [.bytes b t]) Q E s := by
  refine bytes_via ?_
  unfold Builtin.«bytes.__new__»
  refine wpAny_bind (wpAny_of_eq (a := true) rfl ?_)
  refine bm_if_false rfl ?_
  refine wpAny_bind (wpAny_of_eq F.bm_sub ?_)
  refine bm_if_false rfl ?_
  refine wpAny_bind (wpAny_of_eq (F.bm_bind _) ?_)
  refine wpAny_bind (wpAny_of_eq (a := ()) rfl ?_)
  refine wpAny_bind (wpAny_of_eq (a := ()) rfl ?_)
  refine bm_if_false rfl ?_
  refine wpAny_bind (wpAny_specialOf (PySem.W.typeIs_bytes s b t) BF.own_bytes ?_)
  refine wpAny_bind (wpAny_rule ?_)
  refine wpAny_bind (wpAny_typeOf (PySem.W.typeIs_bytes s b t) ?_)
  refine bm_if_true (by decide) ?_
  show wpAny _ _ (if (Value.type "bytes" == Value.type "bytes") = true then _ else _) _ _ _
  refine bm_if_true (by decide) ?_
  first
    | exact wpAny_pure ⟨⟨_, _, rfl⟩, h⟩
    | exact wpAny_bind (wpAny_pure (wpAny_pure ⟨⟨_, _, rfl⟩, h⟩))

theorem bytes_of_int {n : Int} {t : Tok} {Q : Value → Shared → Prop} (h0 : 0 ≤ n) (h1 : n ≤ 16777216) (h : ∀ t' k, Q (.bytes (Array.replicate n.toNat 0) t') { s with toks := k }) : wpAny (model prog w) A (call (.type "bytes") [.int n t]) Q E s := by
  refine bytes_via ?_
  unfold Builtin.«bytes.__new__»
  refine wpAny_bind (wpAny_of_eq (a := true) rfl ?_)
  refine bm_if_false rfl ?_
  refine wpAny_bind (wpAny_of_eq F.bm_sub ?_)
  refine bm_if_false rfl ?_
  refine wpAny_bind (wpAny_of_eq (F.bm_bind _) ?_)
  refine wpAny_bind (wpAny_of_eq (a := ()) rfl ?_)
  refine wpAny_bind (wpAny_of_eq (a := ()) rfl ?_)
  refine bm_if_false rfl ?_
  refine wpAny_bind (wpAny_specialOf (typeIs_int s n t) BF.no_bytes_int ?_)
  refine wpAny_bind (wpAny_of_eq (a := false) rfl ?_)
  refine bm_if_false rfl ?_
  refine wpAny_bind (wpAny_specialOf (typeIs_int s n t) BF.index_int ?_)
  refine bm_if_false rfl ?_
  refine wpAny_bind (wpAny_attempt (wpAny_of_eq (rfl : asIndex (.int n t) = pure n) ?_))
  refine bm_if_false (by unfold Builtin.Bytes.fitsIndex; simp; omega) ?_
  (try dsimp only)
  rw [if_neg (show ¬ n < 0 by omega)]
  (try dsimp only)
  rw [if_neg (show ¬ n > 2 ^ 63 - 34 by omega)]
  (try dsimp only)
  refine bm_if_false (by unfold Builtin.Bytes.tooLong; rw [PySem.sizeLine_eq]; simp; omega) ?_
  (try dsimp only)
  refine wpAny_bind (wpAny_rule ?_)
  refine wpAny_bind (wpAny_mkBytes ?_ (by simp [PySem.sizeLine_eq]; omega))
  show wpAny _ _ (if (Value.type "bytes" == Value.type "bytes") = true then _ else _) _ _ _
  refine bm_if_true (by decide) ?_
  first
    | exact wpAny_pure ⟨⟨_, _, rfl⟩, h _ _⟩
    | exact wpAny_bind (wpAny_pure (wpAny_pure ⟨⟨_, _, rfl⟩, h _ _⟩))

theorem IsBa.typeIs {a : Addr} {b : Array UInt8} (h : IsBa s.heap a b) : s.TypeIs (.ref a) "bytearray" := ⟨_, h, rfl⟩

theorem ba_own {a : Addr} {b : Array UInt8} {name : String} {id : String} {M : Model} {A : Around} {Q : Bool → Shared → Prop} (hb : IsBa s.heap a b) (hl : typeLookup (.type "bytearray") name = pure (some (.builtin id))) (he : id.endsWith ("." ++ name) = true)
    (hd : isSubtype (.type "bytearray") (.type (id.dropRight (name.length + 1))) = pure true) (h : Q true s) : wpAny M A (Builtin.Bytes.slotIsOwn (.ref a) name) Q E s := by
  unfold Builtin.Bytes.slotIsOwn
  refine wpAny_bind (wpAny_specialOf hb.typeIs hl ?_)
  (try dsimp only)
  refine bm_if_false (by rw [he]; rfl) ?_
  refine wpAny_isInstance hb.typeIs hd h

theorem bytes_of_ba {a : Addr} {b : Array UInt8} {Q : Value → Shared → Prop} (hb : IsBa s.heap a b) (hz : b.size ≤ sizeLine) (h : ∀ t' k, Q (.bytes b t') { s with toks := k }) : wpAny (model prog w) A (call (.type "bytes") [.ref a]) Q E s := by
  refine bytes_via ?_
  unfold Builtin.«bytes.__new__»
  refine wpAny_bind (wpAny_of_eq (a := true) rfl ?_)
  refine bm_if_false rfl ?_
  refine wpAny_bind (wpAny_of_eq F.bm_sub ?_)
  refine bm_if_false rfl ?_
  refine wpAny_bind (wpAny_of_eq (F.bm_bind _) ?_)
  refine wpAny_bind (wpAny_of_eq (a := ()) rfl ?_)
  refine wpAny_bind (wpAny_of_eq (a := ()) rfl ?_)
  refine bm_if_false rfl ?_
  refine wpAny_bind (wpAny_specialOf hb.typeIs BF.no_bytes_ba ?_)
  refine wpAny_bind (wpAny_bind ?_)
  show wpAny _ _ (load a >>= _) _ _ _
  refine wpAny_bind (wpAny_load hb ?_)
  refine wpAny_pure (wpAny_pure ?_)
  refine bm_if_false rfl ?_
  refine wpAny_bind (wpAny_specialOf hb.typeIs BF.no_index_ba ?_)
  refine bm_if_true rfl ?_
  first
    | show wpAny _ _ (Builtin.Bytes.buffer? "bytes.__new__" (.ref a) true >>= _) _ _ _
    | (refine wpAny_bind ?_; show wpAny _ _ (Builtin.Bytes.buffer? "bytes.__new__" (.ref a) true >>= _) _ _ _)
  refine wpAny_bind ?_
  unfold Builtin.Bytes.buffer?
  refine wpAny_bind (wpAny_specialOf hb.typeIs BF.buffer_ba ?_)
  (try dsimp only)
  refine wpAny_bind (ba_own hb BF.buffer_ba (by decide +kernel) (by rw [show ("bytearray.__buffer__".dropRight ("__buffer__".length + 1)) = "bytearray" by decide +kernel]; exact BF.sub_ba) ?_)
  refine bm_if_false rfl ?_
  refine wpAny_bind (wpAny_specialOf hb.typeIs BF.buffer_ba ?_)
  (try dsimp only)
  refine wpAny_bind ?_
  unfold Builtin.Bytes.ownRelease
  refine wpAny_bind (ba_own hb BF.release_ba (by decide +kernel) (by rw [show ("bytearray.__release_buffer__".dropRight ("__release_buffer__".length + 1)) = "bytearray" by decide +kernel]; exact BF.sub_ba) ?_)
  refine wpAny_pure ?_
  refine bm_if_false rfl ?_
  refine wpAny_bind ?_
  unfold Builtin.Bytes.payload Builtin.Bytes.payload?
  refine wpAny_bind (wpAny_bind (wpAny_load hb ?_))
  refine wpAny_pure (wpAny_pure ?_)
  refine wpAny_pure ?_
  (try dsimp only)
  refine wpAny_bind (wpAny_rule ?_)
  refine wpAny_bind (wpAny_mkBytes ?_ hz)
  show wpAny _ _ (if (Value.type "bytes" == Value.type "bytes") = true then _ else _) _ _ _
  refine bm_if_true (by decide) ?_
  first
    | exact wpAny_pure ⟨⟨_, _, rfl⟩, h _ _⟩
    | exact wpAny_bind (wpAny_pure (wpAny_pure ⟨⟨_, _, rfl⟩, h _ _⟩))
end
theorem fresh_Ba : True := by
  w_top off
  exact trivial
namespace BF
theorem owner_ba : Manifest.owners.lookup (String.ofList ['y', 'a', 'r', 'r', 'a', 'e', 't', 'y', 'b'].reverse) = some Manifest.sig_bytearray := by kernel_rfl
theorem slot_iter : Slot "bytearray" "__iter__" "bytearray.__iter__" :=
  .of (owner := "bytearray") (n := "__iter__") (by rw [typeLookup_type, builtinLookup_eq_fast]; kernel_rfl) (by decide +kernel) (by decide +kernel) (by decide +kernel)
    (by first | exact .inl (by decide +kernel) | exact .inr (by decide +kernel)) (by rw [isSubtype_type]; kernel_rfl)
theorem entry_iter : entryFor table "bytearray.__iter__" = some Builtin.«bytearray.__iter__» := entryFor_of_tree (by kernel_rfl)
theorem args_iter (a : Value) : argsOk "bytearray.__iter__" ⟨[a], []⟩ := by
  unfold argsOk; rw [signature?_of (id := "bytearray.__iter__") (n := ['_', '_', 'r', 'e', 't', 'i', '_', '_']) (o := ['y', 'a', 'r', 'r', 'a', 'e', 't', 'y', 'b']) (by kernel_rfl) owner_ba]; kernel_rfl
theorem slot_next : Slot "bytearray_iterator" "__next__" "bytearray_iterator.__next__" :=
  .of (owner := "bytearray_iterator") (n := "__next__") (by rw [typeLookup_type, builtinLookup_eq_fast]; kernel_rfl) (by decide +kernel) (by decide +kernel) (by decide +kernel)
    (by first | exact .inl (by decide +kernel) | exact .inr (by decide +kernel)) (by rw [isSubtype_type]; kernel_rfl)
theorem slot_self : Slot "bytearray_iterator" "__iter__" "bytearray_iterator.__iter__" :=
  .of (owner := "bytearray_iterator") (n := "__iter__") (by rw [typeLookup_type, builtinLookup_eq_fast]; kernel_rfl) (by decide +kernel) (by decide +kernel) (by decide +kernel)
    (by first | exact .inl (by decide +kernel) | exact .inr (by decide +kernel)) (by rw [isSubtype_type]; kernel_rfl)
theorem entry_next : entryFor table "bytearray_iterator.__next__" = some Builtin.«bytearray_iterator.__next__» := entryFor_of_tree (by kernel_rfl)
theorem entry_self : entryFor table "bytearray_iterator.__iter__" = some Builtin.«dict_keyiterator.__iter__» := entryFor_alias (id' := "dict_keyiterator.__iter__") (by kernel_rfl) rfl (by decide +kernel) (by kernel_rfl)
theorem args_next (a : Value) : argsOk "bytearray_iterator.__next__" ⟨[a], []⟩ := by unfold argsOk; kernel_rfl
theorem args_self (a : Value) : argsOk "bytearray_iterator.__iter__" ⟨[a], []⟩ := by unfold argsOk; kernel_rfl
theorem slot_getitem : Slot "bytearray" "__getitem__" "bytearray.__getitem__" :=
  .of (owner := "bytearray") (n := "__getitem__") (by rw [typeLookup_type, builtinLookup_eq_fast]; kernel_rfl) (by decide +kernel) (by decide +kernel) (by decide +kernel)
    (by first | exact .inl (by decide +kernel) | exact .inr (by decide +kernel)) (by rw [isSubtype_type]; kernel_rfl)
theorem entry_getitem : entryFor table "bytearray.__getitem__" = some Builtin.«bytearray.__getitem__» := entryFor_of_tree (by kernel_rfl)
theorem args_getitem (a b : Value) : argsOk "bytearray.__getitem__" ⟨[a, b], []⟩ := by
  unfold argsOk; rw [signature?_of (id := "bytearray.__getitem__") (n := ['_', '_', 'm', 'e', 't', 'i', 't', 'e', 'g', '_', '_']) (o := ['y', 'a', 'r', 'r', 'a', 'e', 't', 'y', 'b']) (by kernel_rfl) owner_ba]; kernel_rfl
end BF
def IsBaIter (h : Heap) (a r : Addr) (i : Nat) : Prop := ∃ o, h.get? a = some o ∧ o.cls = .type "bytearray_iterator" ∧ o.data = .fields #[.ref r, .int i 0]
theorem IsBaIter.typeIs {s : Shared} {a r : Addr} {i : Nat} (y : IsBaIter s.heap a r i) : s.TypeIs (.ref a) "bytearray_iterator" :=
  let ⟨o, ho, hc, _⟩ := y; ⟨o, ho, hc⟩
section
variable {prog : Program} {w : World} {A : Around} {E : Value → Shared → Prop} {s : Shared} {b : Array UInt8} {r : Addr}
theorem pyIter_ba {Q : Value → Shared → Prop} (hb : IsBa s.heap r b) (hQ : Q (.ref s.heap.objs.size) { s with heap := s.heap.push { cls := .type "bytearray_iterator", data := .fields #[.ref r, .int 0 0] } }) : wpAny (model prog w) A (pyIter (.ref r)) Q E s := by
  refine wpAny_pyIter_slot hb.typeIs BF.slot_iter (wpAny_call_entry BF.slot_iter hb.typeIs BF.entry_iter ?_ (BF.args_iter _))
  show wpAny _ _ (do ret (← newFields "bytearray_iterator" [.ref r, rawInt 0])) _ _ s
  exact wpAny_bind (wpAny_newObj_type (wpAny_pure ⟨_, rfl, "bytearray_iterator", _, ⟨_, Heap.get?_push_size _ rfl, rfl⟩, BF.slot_next.lookup, hQ⟩))
theorem pyIter_baSelf {it : Addr} {i : Nat} {Q : Value → Shared → Prop} (hit : IsBaIter s.heap it r i) (h : Q (.ref it) s) : wpAny (model prog w) A (pyIter (.ref it)) Q E s := by
  refine wpAny_pyIter_slot hit.typeIs BF.slot_self (wpAny_call_entry BF.slot_self hit.typeIs BF.entry_self ?_ (BF.args_self _))
  show wpAny _ _ (ret (.ref it)) _ _ s
  exact wpAny_pure ⟨_, rfl, "bytearray_iterator", _, hit.typeIs, BF.slot_next.lookup, h⟩

theorem next_ba {it : Addr} {i : Nat} {c : UInt8} {Q : Option Value → Shared → Prop} (hit : IsBaIter s.heap it r i) (hb : IsBa s.heap r b) (hx : b[i]? = some c)
    (hQ : ∀ h', IsBaIter h' it r (i + 1) → Heap.SameBut it s.heap h' → Q (some (.int (c.toNat : Int) s.toks)) { s with heap := h', toks := s.toks + 1 }) : wpAny (model prog w) A (pyNext (.ref it)) Q E s := by
  obtain ⟨o, ho, hc, hd⟩ := id hit
  unfold pyNext
  refine wpAny_bind (wpAny_attempt (wpAny_callSpecial?_slot (name := PySem.Str.ofString "__next__") hit.typeIs BF.slot_next
    (wpAny_call_entry BF.slot_next hit.typeIs BF.entry_next ?_ (BF.args_next _))))
  show wpAny _ _ (field (.ref it) 0 >>= _) _ _ s
  refine wpAny_bind (wpAny_field ho hd (x := .ref r) rfl ?_)
  show wpAny _ _ (load r >>= _) _ _ s
  refine wpAny_bind (wpAny_load hb ?_)
  show wpAny _ _ (field (.ref it) 1 >>= _) _ _ s
  refine wpAny_bind (wpAny_field ho hd (x := .int i 0) rfl ?_)
  simp only [Int.toNat_natCast, hx]
  refine wpAny_bind (wpAny_setField ho hd (by simp) (wpAny_bind (wpAny_mkInt (wpAny_pure ⟨_, rfl, wpAny_pure (hQ _ ?_ (Heap.SameBut.update ..))⟩))))
  exact ⟨_, Heap.get?_update_self _ ho (Obj.isFreed_of_fields (Obj.data_mapFields hd _)), (Obj.cls_mapFields ..).trans hc, by
    rw [Obj.data_mapFields hd]; simp [rawInt]⟩

theorem next_baEnd {it : Addr} {i : Nat} {Q : Option Value → Shared → Prop} (hh : A.handled = none) (hit : IsBaIter s.heap it r i) (hb : IsBa s.heap r b) (hx : b[i]? = none)
    (hQ : ∀ h', Heap.ExtBut it s.heap h' → Q none { s with heap := h' }) : wpAny (model prog w) A (pyNext (.ref it)) Q E s := by
  obtain ⟨o, ho, hc, hd⟩ := id hit
  unfold pyNext
  refine wpAny_bind (wpAny_attempt (wpAny_callSpecial?_slot (name := PySem.Str.ofString "__next__") hit.typeIs BF.slot_next
    (wpAny_call_entry BF.slot_next hit.typeIs BF.entry_next ?_ (BF.args_next _))))
  show wpAny _ _ (field (.ref it) 0 >>= _) _ _ s
  refine wpAny_bind (wpAny_field ho hd (x := .ref r) rfl ?_)
  show wpAny _ _ (load r >>= _) _ _ s
  refine wpAny_bind (wpAny_load hb ?_)
  show wpAny _ _ (field (.ref it) 1 >>= _) _ _ s
  refine wpAny_bind (wpAny_field ho hd (x := .int i 0) rfl ?_)
  simp only [Int.toNat_natCast, hx]
  refine wpAny_bind (wpAny_rule (wpAny_bind (wpAny_setField ho hd (by simp) (wpAny_bind (wpAny_letGo ?_)))))
  show wpAny _ _ (newExc (.type "StopIteration") [] >>= _) _ _ _
  refine wpAny_bind ?_
  simp only [newExc, newTuple]
  refine wpAny_bind (wpAny_newObj_type ?_ (by size_fits))
  refine wpAny_bind (m := firstArgMember _ _) (wpAny_of_eq (a := Value.none) (by first | rfl | (simp only [firstArgMember]; rfl)) ?_)
  refine wpAny_newObj_type ?_ (by size_fits)
  simp only [raiseNew]
  refine wpAny_bind (wpAny_handled ?_)
  rw [show A.in1.handled = none from hh]
  refine wpAny_bind (wpAny_pure (wpAny_throw ?_))
  refine wpAny_bind (wpAny_isInstance (T := "StopIteration") (b := true) ⟨_, Heap.get?_push_size _ rfl, rfl⟩ isSubtype_stop ?_)
  exact wpAny_pure (hQ _ (((Heap.SameBut.update ..).extBut.push _).push _))

theorem walks_ba (hh : A.handled = none) (I r : Addr) (hne : r ≠ I) (b : Array UInt8) :
    Walks prog w A I [I, r] [I] b.size (fun i v => ∃ c u, b[i]? = some c ∧ v = .int (c.toNat : Int) u) (fun i h => IsBaIter h I r i ∧ IsBa h r b) where
  sub := fun _ hb => by rw [List.mem_singleton.mp hb]; exact .head _
  frame := fun _ _ _ st hk => ⟨let ⟨o, ho, q⟩ := st.1; ⟨o, hk I (by simp) o ho, q⟩, hk r (by simp) _ st.2⟩
  item := fun i s Q E hi st hQ => by
    refine next_ba st.1 st.2 (c := b[i]) (by simp [hi]) fun h' hit' hs' => ?_
    exact hQ _ h' (s.toks + 1) ⟨_, _, by simp [hi], rfl⟩ ⟨hit', (hs'.2 r hne).trans st.2⟩ fun b o hb e => hs'.extBut b o (fun h => hb (by simp [h])) e
  done := fun s Q E st hQ => next_baEnd hh st.1 st.2 (by simp) fun h' he' => hQ h' s.toks fun b o hb e => he' b o (fun h => hb (by simp [h])) e
  self := fun _ _ _ _ st hQ => pyIter_baSelf st.1 hQ

theorem src_ba {ns : List Int} {Q : Value → Shared → Prop} (hh : A.handled = none) (hb : IsBa s.heap r b) (hn : KBw.bInts b = ns)
    (h : ∀ h₁ I fp wr St, SrcW prog w A s.heap h₁ I [r] ns.length (fun i v => ∃ n t, ns[i]? = some n ∧ v = .int n t) fp wr St → Q (.ref I) { s with heap := h₁ }) : wpAny (model prog w) A (pyIter (.ref r)) Q E s := by
  subst hn
  have hlt : r < s.heap.objs.size := Heap.lt_size hb
  refine pyIter_ba hb ?_
  have W := walks_ba (prog := prog) (w := w) hh s.heap.objs.size r (Nat.ne_of_lt hlt) b
  have W' : Walks prog w A s.heap.objs.size (s.heap.objs.size :: [r]) [s.heap.objs.size] b.size (fun i v => ∃ n t, (KBw.bInts b)[i]? = some n ∧ v = .int n t) _ :=
    { W with item := fun i s Q E hi st hQ => W.item i s Q E hi st fun v h' tk hP => hQ v h' tk (by obtain ⟨k, t, hk, rfl⟩ := hP; exact ⟨_, t, KBw.ints_get hk, rfl⟩) }
  rw [← KBw.ints_length] at W'
  refine h _ _ _ _ _ (src_one (h := s.heap) (o := { cls := .type "bytearray_iterator", data := .fields #[.ref r, .int 0 0] }) W' (fun i h st => let ⟨o, e, _⟩ := st.1; ⟨o, e⟩) ⟨⟨_, Heap.get?_push_size _ rfl, rfl, rfl⟩, Heap.get?_push_of_some _ hb⟩ fun b hb => ?_)
  rw [List.mem_singleton.mp hb]; exact ⟨_, by assumption⟩
end
theorem fresh_Adler : True := by
  w_top off
  exact trivial
def adlerStep (c : Int × Int) (n : Int) : Int × Int := ((c.1 + n) % 65521, (c.2 + (c.1 + n) % 65521) % 65521)
def adlerI (ns : List Int) : Int := (ns.foldl adlerStep (1, 0)).2 * 65536 + (ns.foldl adlerStep (1, 0)).1
theorem adler_range : ∀ (ns : List Int) (c : Int × Int), ((0 ≤ c.1 ∧ c.1 < 65521) ∧ 0 ≤ c.2 ∧ c.2 < 65521) → ((0 ≤ (ns.foldl adlerStep c).1 ∧ (ns.foldl adlerStep c).1 < 65521) ∧ 0 ≤ (ns.foldl adlerStep c).2 ∧ (ns.foldl adlerStep c).2 < 65521)
  | [], _, h => h
  | n :: r, c, _ => adler_range r (adlerStep c n) ⟨⟨Int.emod_nonneg _ (by decide), Int.emod_lt_of_pos _ (by decide)⟩, Int.emod_nonneg _ (by decide), Int.emod_lt_of_pos _ (by decide)⟩
section
variable {prog : Program} {w : World}
set_option maxHeartbeats 8000000 in
theorem adler_spec (r : Addr) (b : Array UInt8) (ns : List Int) (hb : KBw.bInts b = ns) : Spec prog w 101 [.ref r] 4 40 (fun h => IsBa h r b) (RetInt (adlerI ns)) := by
  intro p loose mean mg mb dp un gd outer base s Q E B X T hd hu hp hret
  with_unfolding_all refine' enterB [(Str.ofString "octets", .ref r), (Str.ofString "begin", .int 1 315)] ?k1 ?k2 ?k3 ?k4 ?k5 ?k6 ?k7 ?_ ?c1 ?c2 ?c3 ?c4
  (((case k1 => assumption); (case k2 => assumption); (try ((case k2b => assumption); (case k2c => assumption); (case k2d => first | exact List.forall_mem_nil _ | (intro q hq; cases List.mem_singleton.mp hq; exact And.intro (by assumption) (by assumption))))); (case k3 => k_is); (case k4 => k_is); (case k5 => omega); (case k6 => first | exact rfl | exact binds_K (by assumption) rfl (by k_is) rfl rfl rfl); (case k7 => first | exact locs rfl | exact rfl); (case c1 => exact rfl); (case c2 => exact rfl); (case c3 => exact rfl); (try (case c4 => decide))); intro _ _ F9; (dsimp only [List.map, List.zip, List.zipWith, List.reverse, List.reverseAux] at F9); revert F9; intro _ _; (try dsimp only); (try ((first | refine fold_env ?_ | refine fold_envC ?_); intro M₉ A₉ e₉ g₉ d₉ o₉)); (try k_fold))
  ((try k_fold); repeat' (first | (k_unfold; (try dsimp only)) | ((with_reducible show wpAny _ _ (binaryOp .BitAnd (.int _ _) (.int _ _)) _ _ _); first | refine and_lit (bitAnd_m4 _) ?_ | refine and_lit (bitAnd_m8 _) ?_ | refine and_lit (bitAnd_m16 _) ?_; (try dsimp only)) | ((fail_if_success (with_reducible (first | show wpAny _ _ (exec (.For _ _ _ _ _) _) _ _ _ | show wpAny _ _ (exec (.While _ _ _ _) _) _ _ _ | show wpAny _ _ (pyIter _) _ _ _ | show wpAny _ _ (call (.type "zip") _) _ _ _ | show wpAny _ _ (call (.type "enumerate") _) _ _ _ | show wpAny _ _ (eval (.ListComp _ _ _ _) _) _ _ _ | show wpAny _ _ (exec (.Assign _ (.ListComp _ _ _ _) _) _) _ _ _))); walk1; (try dsimp only))))
  refine for_any ?_
  ((try k_fold); repeat' (first | (k_unfold; (try dsimp only)) | ((fail_if_success (with_reducible (first | show wpAny _ _ (exec (.For _ _ _ _ _) _) _ _ _ | show wpAny _ _ (exec (.While _ _ _ _) _) _ _ _ | show wpAny _ _ (pyIter _) _ _ _ | show wpAny _ _ (call (.type "zip") _) _ _ _ | show wpAny _ _ (call (.type "enumerate") _) _ _ _ | show wpAny _ _ (eval (.ListComp _ _ _ _) _) _ _ _ | show wpAny _ _ (exec (.Assign _ (.ListComp _ _ _ _) _) _) _ _ _))); walk1; (try dsimp only))))
  rename News _ _ _ _ => N
  rename Fr _ _ _ _ => F
  rw [show (1 : Int) % 65536 = 1 from rfl, show Int.fdiv 1 (2 ^ Int.toNat 16) = 0 from rfl] at F
  refine src_ba rfl (F.keep _ _ hp) hb ?_
  intro h₁ I fp wr St S
  refine forN (σ := (Int × Int) × Tok × Tok) (fun _ => []) (fun c => [(Str.ofString "low", .int c.1.1 c.2.1), (Str.ofString "high", .int c.1.2 c.2.2)])
    (fun i c => c.1 = (ns.take i).foldl adlerStep (1, 0)) ((1, 0), _, _) S rfl rfl
    (fun b hb => .inl (by rw [List.mem_singleton.mp hb]; exact ⟨_, hp⟩)) F (fun _ h => (List.not_mem_nil h).elim) (by (repeat (first | exact List.forall_mem_nil _ | refine List.forall_mem_cons.mpr ⟨by first | rfl | assumption, ?_⟩))) rfl ?_ ?_
  · intro i v hrx2 u h tk own hlt hrx8 hJ hoff F' N'
    obtain ⟨⟨lo, hi⟩, tl, th⟩ := hrx2
    obtain ⟨n, t, hn, rfl⟩ := hrx8
    clear F N S
    dsimp only at hJ N' hoff
    walk_at "mine in"
    ((try k_fold); repeat' (first | (k_unfold; (try dsimp only)) | ((fail_if_success (with_reducible (first | show wpAny _ _ (exec (.For _ _ _ _ _) _) _ _ _ | show wpAny _ _ (exec (.While _ _ _ _) _) _ _ _ | show wpAny _ _ (pyIter _) _ _ _ | show wpAny _ _ (call (.type "zip") _) _ _ _ | show wpAny _ _ (call (.type "enumerate") _) _ _ _ | show wpAny _ _ (eval (.ListComp _ _ _ _) _) _ _ _ | show wpAny _ _ (exec (.Assign _ (.ListComp _ _ _ _) _) _) _ _ _))); walk1; (try dsimp only))))
    refine TurnEnd.intro ((Int.fmod (lo + n) 65521, Int.fmod (hi + Int.fmod (lo + n) 65521) 65521), _, _) (by assumption) (by assumption) (fun _ hp => hp) (by (repeat (first | exact List.forall_mem_nil _ | refine List.forall_mem_cons.mpr ⟨by first | rfl | assumption, ?_⟩))) ?_
    refine ⟨hoff, ?_⟩
    dsimp only
    rw [List.take_add_one, hn, Option.toList_some, List.foldl_append, ← hJ]
    have e1 := Int.fmod_eq_emod_of_nonneg (lo + n) (show (0 : Int) ≤ 65521 by decide)
    have e2 := Int.fmod_eq_emod_of_nonneg (hi + Int.fmod (lo + n) 65521) (show (0 : Int) ≤ 65521 by decide)
    rw [e2, e1]
    simp only [List.foldl_cons, List.foldl_nil, adlerStep]
  · intro hrx0 u h tk hJ F' N'
    obtain ⟨⟨lo, hi⟩, tl, th⟩ := hrx0
    clear F N S
    dsimp only at hJ N'
    rw [List.take_length] at hJ
    obtain ⟨⟨lo0, lo1⟩, hi0, hi1⟩ := adler_range ns (1, 0) (by decide)
    rw [← hJ] at lo0 lo1 hi0 hi1
    dsimp only at lo0 lo1 hi0 hi1
    walk_at "mine in"
    ((try k_fold); repeat' (first | (k_unfold; (try dsimp only)) | ((fail_if_success (with_reducible (first | show wpAny _ _ (exec (.For _ _ _ _ _) _) _ _ _ | show wpAny _ _ (exec (.While _ _ _ _) _) _ _ _ | show wpAny _ _ (pyIter _) _ _ _ | show wpAny _ _ (call (.type "zip") _) _ _ _ | show wpAny _ _ (call (.type "enumerate") _) _ _ _ | show wpAny _ _ (eval (.ListComp _ _ _ _) _) _ _ _ | show wpAny _ _ (exec (.Assign _ (.ListComp _ _ _ _) _) _) _ _ _))); walk1; (try dsimp only))))
    refine ret_int (s := s) hret (by assumption) ?_
    show Builtin.bitOr (hi * 2 ^ 16) lo = _
    rw [bitOr_apart 16 hi0 lo0 (by omega), adlerI, ← hJ]
    rfl
end
theorem fresh_Hot : True := by
  w_top off
  exact trivial
section
variable {prog : Program} {w : World} {A : Around} {E : Value → Shared → Prop} {s : Shared}

theorem codeC_builtin {id : String} {args : Args} {b : Builtin} {R : Result → Shared → Prop} (hb : entryFor table id = some b) (ok : okCode (.builtin id args) = true)
    (h : wpC (model prog w) (A.under (.builtin id args)) (b args)
      (fun fin s' => match fin with | .done f => R (.ok f) s' | .again c' => c'.quiet = true ∧ codeC (model prog w) A c' R s') (fun e s' => R (.error e) s') s) : codeC (model prog w) A (.builtin id args) R s := by
  refine codeC_of_tree ok ?_
  show wpC _ _ (match entryFor table id with | some b => b args | none => unsupported ((withoutEnding? id "#data").getD id)) _ _ s
  rw [hb]; exact h

/-- the call of a built-in, at the clean stacks -/
theorem callC_entry {T : String} {name : Str} {id : String} {b : Builtin} {self : Value} {rest : List Value} {Q : Value → Shared → Prop} (h : Slot T name id) (hT : s.TypeIs self T) (hb : entryFor table id = some b)
    (ok : ∀ a, okCode (.builtin id a) = true)
    (hc : wpC (model prog w) A.in1 (b ⟨self :: rest, []⟩) (fun fin s' => ∃ v, fin = .done (.ret v) ∧ Q v s') E s)
    (ha : argsOk id ⟨self :: rest, []⟩) : wpC (model prog w) A (call (.builtin id) (self :: rest)) Q E s := by
  refine wpC_call (codeC_of_tree rfl ?_)
  show wpC _ A.in1 (do checkBuiltinCall id ⟨self :: rest, []⟩; again (.builtin id ⟨self :: rest, []⟩)) _ _ s
  refine wpC_bindA (h.check _ _ _ _ _ _ _ _ hT ha (wpC_pure ⟨plainId_quiet h.plain _, codeC_builtin hb (ok _) ?_⟩))
  rw [Around.under_plainId h.plain _]
  refine wpC_mono hc (fun fin s' h' => ?_) fun _ _ e => e
  obtain ⟨v, rfl, hv⟩ := h'; exact hv

theorem wpC_if_true {α : Type} {M : Model} {c : Bool} {a b : Sem α} {Q : α → Shared → Prop} (hc : c = true) (h : wpC M A a Q E s) : wpC M A (if c = true then a else b) Q E s := by
  subst hc
  exact h
theorem wpC_if_false {α : Type} {M : Model} {c : Bool} {a b : Sem α} {Q : α → Shared → Prop} (hc : c = false) (h : wpC M A b Q E s) : wpC M A (if c = true then a else b) Q E s := by
  subst hc
  exact h
/-- a bytearray may grow: none holds it -/
theorem resizeC {M : Model} {r : Addr} {b : Array UInt8} {Q : Unit → Shared → Prop} (hb : IsBa s.heap r b) (h : Q () s) : wpC M A (Builtin.Bytes.checkResize (.ref r)) Q E s := by
  unfold Builtin.Bytes.checkResize
  refine wpC_bind (wpC_bind (not_held ?_))
  show wpC M A (Builtin.Bytes.exportsOf (.ref r) >>= fun n => pure (decide (n > 0))) _ _ _
  refine wpC_bindA ?_
  unfold Builtin.Bytes.exportsOf
  refine wpAny_bind (wpAny_load hb (wpAny_pure ?_))
  refine wpC_pure ?_
  exact wpC_pure h

namespace BF
theorem slot_append : Slot "bytearray" "append" "bytearray.append" :=
  .of (owner := "bytearray") (n := "append") (by rw [typeLookup_type, builtinLookup_eq_fast]; kernel_rfl) (by decide +kernel) (by decide +kernel) (by decide +kernel)
    (by first | exact .inl (by decide +kernel) | exact .inr (by decide +kernel)) (by rw [isSubtype_type]; kernel_rfl)
theorem type_append : typeOf (.builtin "bytearray.append") = pure (.type "method_descriptor") := by show builtinType _ = _; rw [builtinType_eq_fast]; kernel_rfl
theorem entry_append : entryFor table "bytearray.append" = some Builtin.«bytearray.append» := entryFor_of_tree (by kernel_rfl)
theorem args_append (a b : Value) : argsOk "bytearray.append" ⟨[a, b], []⟩ := by
  unfold argsOk; rw [signature?_of (id := "bytearray.append") (n := ['d', 'n', 'e', 'p', 'p', 'a']) (o := ['y', 'a', 'r', 'r', 'a', 'e', 't', 'y', 'b']) (by kernel_rfl) owner_ba]; kernel_rfl
theorem slot_extend : Slot "bytearray" "extend" "bytearray.extend" :=
  .of (owner := "bytearray") (n := "extend") (by rw [typeLookup_type, builtinLookup_eq_fast]; kernel_rfl) (by decide +kernel) (by decide +kernel) (by decide +kernel)
    (by first | exact .inl (by decide +kernel) | exact .inr (by decide +kernel)) (by rw [isSubtype_type]; kernel_rfl)
theorem type_extend : typeOf (.builtin "bytearray.extend") = pure (.type "method_descriptor") := by show builtinType _ = _; rw [builtinType_eq_fast]; kernel_rfl
theorem entry_extend : entryFor table "bytearray.extend" = some Builtin.«bytearray.extend» := entryFor_of_tree (by kernel_rfl)
theorem args_extend (a b : Value) : argsOk "bytearray.extend" ⟨[a, b], []⟩ := by
  unfold argsOk; rw [signature?_of (id := "bytearray.extend") (n := ['d', 'n', 'e', 't', 'x', 'e']) (o := ['y', 'a', 'r', 'r', 'a', 'e', 't', 'y', 'b']) (by kernel_rfl) owner_ba]; kernel_rfl
end BF

theorem write_ba {M : Model} {r : Addr} {b : Array UInt8} {f : Array UInt8 → Array UInt8} {Q : Unit → Shared → Prop} (hb : IsBa s.heap r b) (hz : (f b).size ≤ sizeLine)
    (h : ∀ h', Heap.SameBut r s.heap h' → IsBa h' r (f b) → Q () { s with heap := h' }) : wpAny M A (Builtin.Bytes.write (.ref r) f) Q E s := by
  unfold Builtin.Bytes.write updateBytearray
  refine wpAny_bind (wpAny_load hb ?_)
  show wpAny _ _ (update r (Obj.mapBytearray f) >>= fun _ => lookBehind r) _ _ _
  refine wpAny_bind (wpAny_update hb ?_)
  have hS₂ : (s.heap.update r (Obj.mapBytearray f)).get? r = some { cls := .type "bytearray", data := .bytearray (f b) } := Heap.get?_update_self (Obj.mapBytearray f) hb rfl
  refine wpAny_lookBehind hS₂ ?_ (h _ (Heap.SameBut.update ..) hS₂)
  show (if (f b).size > sizeLine then some "bytearray:memory" else none) = none
  rw [if_neg (by omega)]

/-- row.append(x) -/
theorem append_baC {r : Addr} {b : Array UInt8} {n : Int} {t : Tok} {Q : Value → Shared → Prop} (hb : IsBa s.heap r b) (h0 : 0 ≤ n) (h1 : n < 256) (hz : b.size + 1 ≤ sizeLine)
    (h : ∀ h', Heap.SameBut r s.heap h' → IsBa h' r (b.push n.toNat.toUInt8) → Q .none { s with heap := h' }) : wpC (model prog w) A (call (.builtin "bytearray.append") [.ref r, .int n t]) Q E s := by
  refine callC_entry BF.slot_append hb.typeIs BF.entry_append (fun _ => rfl) ?_ (BF.args_append _ _)
  unfold Builtin.«bytearray.append»
  refine wpC_bindA (wpAny_of_eq (a := (Value.ref r, Value.int n t)) rfl ?_)
  refine wpC_bindA ?_
  unfold Builtin.Bytes.byteValue
  refine wpAny_bind (wpAny_of_eq (rfl : asIndex (.int n t) = pure n) ?_)
  refine bm_if_false (by simp only [Bool.or_eq_false_iff, decide_eq_false_iff_not]; omega) ?_
  refine wpAny_pure ?_
  refine wpC_bind (resizeC hb ?_)
  refine wpC_bindA (write_ba hb (by rw [Array.size_push]; exact hz) fun h' hs hb' => ?_)
  exact wpC_pure ⟨_, rfl, h h' hs hb'⟩
end
namespace BF
theorem buffer_bytes : typeLookup (.type "bytes") "__buffer__" = pure (some (.builtin "bytes.__buffer__")) := by rw [typeLookup_type, builtinLookup_eq_fast]; kernel_rfl
theorem release_bytes : typeLookup (.type "bytes") "__release_buffer__" = pure none := by rw [typeLookup_type, builtinLookup_eq_fast]; kernel_rfl
end BF
section
variable {prog : Program} {w : World} {A : Around} {E : Value → Shared → Prop} {s : Shared}
theorem own_buffer {M : Model} {b : Array UInt8} {t : Tok} {Q : Bool → Shared → Prop} (h : Q true s) : wpAny M A (Builtin.Bytes.slotIsOwn (.bytes b t) "__buffer__") Q E s := by
  unfold Builtin.Bytes.slotIsOwn
  refine wpAny_bind (wpAny_specialOf (PySem.W.typeIs_bytes s b t) BF.buffer_bytes ?_)
  dsimp only
  refine bm_if_false (by decide +kernel) ?_
  exact wpAny_isInstance (PySem.W.typeIs_bytes s b t) (by rw [show ("bytes.__buffer__".dropRight ("__buffer__".length + 1)) = "bytes" by decide +kernel]; exact F.bm_sub) h
theorem buffer_of_bytes {M : Model} {b : Array UInt8} {t : Tok} {id : String} {full : Bool} {Q : Option (Array UInt8) → Shared → Prop} (h : Q (some b) s) : wpAny M A (Builtin.Bytes.buffer? id (.bytes b t) full) Q E s := by
  unfold Builtin.Bytes.buffer?
  refine wpAny_bind (wpAny_specialOf (PySem.W.typeIs_bytes s b t) BF.buffer_bytes ?_)
  (try dsimp only)
  refine wpAny_bind (own_buffer ?_)
  refine bm_if_false rfl ?_
  refine wpAny_bind (wpAny_specialOf (PySem.W.typeIs_bytes s b t) BF.buffer_bytes ?_)
  (try dsimp only)
  refine wpAny_bind ?_
  unfold Builtin.Bytes.ownRelease
  refine wpAny_bind ?_
  unfold Builtin.Bytes.slotIsOwn
  refine wpAny_bind (wpAny_specialOf (PySem.W.typeIs_bytes s b t) BF.release_bytes ?_)
  refine wpAny_pure ?_
  refine wpAny_pure ?_
  refine bm_if_false rfl ?_
  refine wpAny_bind (wpAny_of_eq (a := b) rfl ?_)
  exact wpAny_pure h

/-- found.extend(octets) -/
theorem extend_baC {r : Addr} {b c : Array UInt8} {t : Tok} {Q : Value → Shared → Prop} (hb : IsBa s.heap r b) (hz : b.size + c.size ≤ sizeLine)
    (h : ∀ h', Heap.SameBut r s.heap h' → IsBa h' r (b ++ c) → Q .none { s with heap := h' }) : wpC (model prog w) A (call (.builtin "bytearray.extend") [.ref r, .bytes c t]) Q E s := by
  refine callC_entry BF.slot_extend hb.typeIs BF.entry_extend (fun _ => rfl) ?_ (BF.args_extend _ _)
  unfold Builtin.«bytearray.extend»
  refine wpC_bindA (wpAny_of_eq (a := (Value.ref r, Value.bytes c t)) rfl ?_)
  (try dsimp only)
  refine wpC_bindA (wpAny_specialOf (PySem.W.typeIs_bytes s c t) BF.buffer_bytes ?_)
  refine wpC_if_true rfl ?_
  refine wpC_bindA (wpAny_rule ?_)
  refine wpC_bindA ?_
  unfold Builtin.Bytes.payload Builtin.Bytes.payload?
  refine wpAny_bind (wpAny_bind (wpAny_load hb ?_))
  refine wpAny_pure (wpAny_pure ?_)
  refine wpC_bindA ?_
  unfold Builtin.Bytes.takeBufferQuiet?
  refine wpAny_bind (wpAny_attempt ?_)
  unfold Builtin.Bytes.takeBuffer?
  refine wpAny_bind (wpAny_specialOf (PySem.W.typeIs_bytes s c t) BF.buffer_bytes ?_)
  (try dsimp only)
  refine wpAny_bind (own_buffer ?_)
  refine bm_if_false rfl ?_
  refine wpAny_bind (wpAny_specialOf (PySem.W.typeIs_bytes s c t) BF.buffer_bytes ?_)
  (try dsimp only)
  refine wpAny_bind (buffer_of_bytes ?_)
  refine wpAny_pure ?_
  refine wpAny_pure ?_
  (try dsimp only)
  refine wpC_if_true rfl ?_
  show wpC _ _ (if (!c.isEmpty) = true then Builtin.Bytes.checkResize (.ref r) >>= fun _ => (Builtin.Bytes.write (.ref r) (· ++ c) >>= fun _ => ret .none) else (Builtin.Bytes.write (.ref r) (· ++ c) >>= fun _ => ret .none)) _ _ _
  have rest : wpC (model prog w) A.in1 (Builtin.Bytes.write (.ref r) (· ++ c) >>= fun _ => ret .none) (fun fin s' => ∃ v, fin = .done (.ret v) ∧ Q v s') E s :=
    wpC_bindA (write_ba hb (by rw [Array.size_append]; exact hz) fun h' hs hb' => wpC_pure ⟨_, rfl, h h' hs hb'⟩)
  split
  · exact wpC_bind (resizeC hb rest)
  · exact rest
end
theorem fresh_BaNew : True := by
  w_top off
  exact trivial
namespace BF
theorem mro_ba : mroOf (.type "bytearray") = pure [.type "bytearray", .type "object"] := by rw [mroOf_type]; kernel_rfl
theorem lookup_new : typeLookup (.type "bytearray") "__new__" = pure (some (.builtin "bytearray.__new__")) := by rw [typeLookup_type, builtinLookup_eq_fast]; kernel_rfl
theorem slot_init : Slot "bytearray" "__init__" "bytearray.__init__" :=
  .of (owner := "bytearray") (n := "__init__") (by rw [typeLookup_type, builtinLookup_eq_fast]; kernel_rfl) (by decide +kernel) (by decide +kernel) (by decide +kernel)
    (by first | exact .inl (by decide +kernel) | exact .inr (by decide +kernel)) (by rw [isSubtype_type]; kernel_rfl)
theorem called_ba : TypeCalled "bytearray" "bytearray.__new__" "bytearray.__init__" :=
  ⟨by decide +kernel, by decide +kernel, ⟨_, _, mro_ba⟩, madeBy_type mro_ba lookup_new (by decide +kernel), by decide +kernel, by rw [isSubtype_type]; kernel_rfl, slot_init⟩
theorem typeCall_ba : checkTypeCall "bytearray" ⟨[], []⟩ = pure () := by kernel_rfl
theorem newCall_ba : checkBuiltinCall "bytearray.__new__" ⟨[.type "bytearray"], []⟩ = pure () := by kernel_rfl
theorem entry_new : entryFor table "bytearray.__new__" = some Builtin.«list.__new__» := entryFor_alias (id' := "list.__new__") (by kernel_rfl) (by first | rfl | decide +kernel | (unfold String.splitOn; simp +decide [String.splitOnAux])) (by decide +kernel) (by kernel_rfl)
theorem plain_new : plainId "bytearray.__new__" = true := by decide +kernel
theorem entry_init : entryFor table "bytearray.__init__" = some Builtin.«bytearray.__init__» := entryFor_of_tree (by kernel_rfl)
theorem args_init (a : Value) : argsOk "bytearray.__init__" ⟨[a], []⟩ := by
  unfold argsOk; rw [signature?_of (id := "bytearray.__init__") (n := ['_', '_', 't', 'i', 'n', 'i', '_', '_']) (o := ['y', 'a', 'r', 'r', 'a', 'e', 't', 'y', 'b']) (by kernel_rfl) owner_ba]; kernel_rfl
theorem bind_init : Builtin.Bytes.bindOptional "bytearray.__init__" "bytearray" ["source", "encoding", "errors"] [] [] = pure [none, none, none] := by kernel_rfl
end BF
set_option maxRecDepth 1000000 in
set_option maxHeartbeats 8000000 in
theorem owner_ba_new : ("bytearray.__new__".splitOn ".__new__").headD "" = "bytearray" := by simp +decide [String.splitOn, String.splitOnAux]
section
variable {prog : Program} {w : World} {A : Around} {E : Value → Shared → Prop} {s : Shared}
theorem code_ba_new {Q₁ : Value → Shared → Prop} (h : Q₁ (.ref s.heap.objs.size) { s with heap := s.heap.push { cls := .type "bytearray", data := .bytearray #[] } }) :
    codeAny (model prog w) A (.call (.builtin "bytearray.__new__") ⟨[.type "bytearray"], []⟩) (wants Q₁ E) s := by
  refine codeAny_of_tree ?_
  show wpAny _ A.in1 (do checkBuiltinCall "bytearray.__new__" ⟨[.type "bytearray"], []⟩; again (.builtin "bytearray.__new__" ⟨[.type "bytearray"], []⟩)) _ _ s
  refine wpAny_bind (wpAny_of_eq BF.newCall_ba (wpAny_pure ⟨plainId_quiet BF.plain_new _, codeAny_builtin_stack BF.entry_new rfl fun p st => ?_⟩))
  rw [Around.under_plainId BF.plain_new _]
  have hsub := BF.sub_ba
  have hown := owner_ba_new
  obtain ⟨hp, g, d, tk, os⟩ := s
  simp only [hown]
  wp_walk
  exact h
end
section
variable {prog : Program} {w : World} {A : Around} {E : Value → Shared → Prop} {s : Shared}
theorem ba_initC {r : Addr} {Q : Value → Shared → Prop} (hb : IsBa s.heap r #[]) (h : ∀ h', Heap.SameBut r s.heap h' → IsBa h' r #[] → Q .none { s with heap := h' }) :
    wpC (model prog w) A (call (.builtin "bytearray.__init__") [.ref r]) Q E s := by
  refine callC_entry BF.slot_init hb.typeIs BF.entry_init (fun _ => rfl) ?_ (BF.args_init _)
  unfold Builtin.«bytearray.__init__»
  refine wpC_bindA ?_
  unfold Builtin.Bytes.ownRelease
  refine wpAny_bind (ba_own hb BF.release_ba (by decide +kernel) (by rw [show ("bytearray.__release_buffer__".dropRight ("__release_buffer__".length + 1)) = "bytearray" by decide +kernel]; exact BF.sub_ba) ?_)
  refine wpAny_pure ?_
  refine wpC_if_false rfl ?_
  refine wpC_bindA (wpAny_of_eq BF.bind_init ?_)
  (try dsimp only)
  refine wpC_bindA (wpAny_of_eq (a := ()) rfl ?_)
  refine wpC_bindA (wpAny_of_eq (a := ()) rfl ?_)
  refine wpC_bind (wpC_bind (not_held ?_))
  show wpC _ _ (Builtin.Bytes.exportsOf (.ref r) >>= fun n => pure (decide (n > 0))) _ _ _
  refine wpC_bindA ?_
  unfold Builtin.Bytes.exportsOf
  refine wpAny_bind (wpAny_load hb (wpAny_pure ?_))
  refine wpC_pure ?_
  refine wpC_if_false rfl ?_
  refine wpC_bindA (write_ba hb (by simp [PySem.sizeLine_eq]) fun h' hs hb' => ?_)
  (try dsimp only)
  refine wpC_bindA (m := _) ?_
  refine bm_if_false rfl (bm_if_false rfl (wpAny_pure ?_))
  exact wpC_pure ⟨_, rfl, h h' hs hb'⟩

/-- bytearray() -/
theorem newBaC {Q : Value → Shared → Prop} (h : ∀ r h', s.heap.get? r = none → s.heap.objs.size ≤ r → (∀ b o, s.heap.get? b = some o → h'.get? b = some o) → IsBa h' r #[] → Q (.ref r) { s with heap := h' }) :
    wpC (model prog w) A (call (.type "bytearray") []) Q E s := by
  obtain ⟨c, tl, hmro⟩ := BF.called_ba.mro
  refine wpC_call (codeC_of_tree rfl ?_)
  show wpC _ A.in1 (callAny (.type "bytearray") ⟨[], []⟩) _ _ s
  refine wpC_pure ⟨Code.quiet_builtin _ (by decide +kernel), codeC_builtin F.entry_type_call rfl ?_⟩
  rw [Around.under_plain (weight_type_call_type "bytearray" [] []) rfl]
  unfold Builtin.«type.__call__»
  (try dsimp only)
  refine wpC_if_false (by decide) ?_
  refine wpC_if_false BF.called_ba.canCreate ?_
  refine wpC_bindA (wpAny_of_eq BF.typeCall_ba ?_)
  refine wpC_bindA (wpAny_of_eq hmro ?_)
  refine wpC_if_false rfl ?_
  refine wpC_bindA (wpAny_of_eq BF.called_ba.made ?_)
  (try dsimp only)
  refine wpC_bind (wpC_pure ?_)
  refine wpC_bindA (wpAny_holding (wpAny_call (codeAny_mono (code_ba_new (E := E) (Q₁ := fun v s' => v = .ref s.heap.objs.size ∧ s' = { s with heap := s.heap.push { cls := .type "bytearray", data := .bytearray #[] } }) ⟨rfl, rfl⟩) fun r s' hr => ?_)))
  cases r with
  | error e => exact hr
  | ok fl =>
    cases fl with
    | ret obj =>
      obtain ⟨rfl, rfl⟩ := hr
      have hb : IsBa (s.heap.push { cls := .type "bytearray", data := .bytearray #[] }) s.heap.objs.size #[] := Heap.get?_push_size _ rfl
      refine wpC_bindA (wpAny_isInstance (T := "bytearray") ⟨_, hb, rfl⟩ BF.sub_ba ?_)
      refine wpC_if_false rfl ?_
      refine wpC_bind (wpC_holding ?_)
      unfold callSpecial?
      refine wpC_bindA (wpAny_specialOf (T := "bytearray") ⟨_, hb, rfl⟩ BF.slot_init.lookup ?_)
      (try dsimp only)
      refine wpC_holding ?_
      refine wpC_bindA (wpAny_of_eq (BF.slot_init.bind _) ?_)
      (try dsimp only)
      refine wpC_bind (wpC_mono (ba_initC (E := E) (s := { s with heap := s.heap.push { cls := .type "bytearray", data := .bytearray #[] } }) (Q := fun v s' => v = .none ∧ Q (.ref s.heap.objs.size) s') hb fun h' hs hb' => ⟨rfl, ?_⟩) (fun v s' hv => ?_) fun _ _ e => e)
      · refine h _ h' ?_ (Nat.le_refl _) (fun b o e => hs.extBut b o (Nat.ne_of_lt (Heap.lt_size e)) (Heap.get?_push_of_some _ e)) hb'
        cases e : s.heap.get? s.heap.objs.size with
        | none => rfl
        | some o => exact absurd (Heap.lt_size e) (Nat.lt_irrefl _)
      · obtain ⟨rfl, hq⟩ := hv
        refine wpC_pure ?_
        (try dsimp only)
        refine wpC_if_false rfl ?_
        exact wpC_pure hq
    | _ => exact hr.elim
end
theorem fresh_HotE : True := by
  w_top off
  exact trivial
section
variable {M : Model} {A : Around} {E : Value → Shared → Prop} {s : Shared} {K : Frag} {env : Env} {pos : Pos} {f : Value} {first : List Value} {Q : Value → Shared → Prop}
theorem callWithC {P : Heap → Prop} {args : List (Bool × Sem Value)} {keywords : List (Option Str × Sem Value)} (hplain : (args.any (·.1) || keywords.any (·.1.isNone)) = false)
    (hk : ∀ h, P h → ∃ k, (k = Keeper.frame ∨ k = Keeper.machine ∨ k = Keeper.boundFrame) ∧ Looks M h (keeperOf f) k)
    (h : wpAny M A (evalArgs f true args keywords) (fun a s₁ => P s₁.heap ∧ wpC M A (call f (first ++ a.pos) a.kw) Q E s₁) E s) : wpC M A (callWith pos f first args keywords) Q E s := by
  unfold callWith
  refine wpC_bindA (wpAny_holding (wpAny_mono h (fun a s₁ h₁ => wpC_bindA (wpAny_standAt ?_)) fun _ _ x => x))
  obtain ⟨k, hk', L⟩ := hk _ h₁.1
  simp only [hplain]
  refine wpC_bindA (L.here ?_)
  have tail : ∀ {t : Sem Value}, wpC M A t Q E s₁ → wpC M A (t >>= fun r => holding [r] point >>= fun _ => pure r) Q E s₁ :=
    fun ht => wpC_bind (wpC_mono ht (fun r s₂ hr => wpC_bindA (wpAny_holding (wpAny_point (wpC_pure hr)))) fun _ _ x => x)
  have marked (mk : Value) : wpC M A (callMarked mk f (first ++ a.pos) a.kw) Q E s₁ := by unfold callMarked; exact wpC_keep h₁.2
  rcases hk' with rfl | rfl | rfl <;> dsimp only <;> first | exact tail h₁.2 | (split <;> first | exact tail h₁.2 | exact tail (marked _))
end
section
variable {prog : Program} {w : World} {A : Around} {E : Value → Shared → Prop} {s : Shared} {env : Env}
theorem wpC_Call_Name {id : Str} {p pos : Pos} {args : List Expr} {keywords : List Keyword} {Q : Value → Shared → Prop}
    (h : wpAny (model prog w) A (eval (.Name id p) env) (fun f s₁ => wpC (model prog w) A (callWith pos f [] (backTo pos (starEach args env)) (backToKw pos (keywordEach keywords env))) Q E s₁) E s) : wpC (model prog w) A (eval (.Call (.Name id p) args keywords pos) env) Q E s := by
  show wpC _ A (eval (.Name id p) env >>= fun f => callWith pos f [] (backTo pos (starEach args env)) (backToKw pos (keywordEach keywords env))) Q E s
  exact wpC_bindA h
theorem wpC_Call_method {o : Expr} {name : Str} {apos pos : Pos} {args : List Expr} {keywords : List Keyword} {Q : Value → Shared → Prop}
    (h : wpAny (model prog w) A (attributeBase o name env (eval o env)) (fun ov s₁ => wpC (model prog w) A (methodCall o name apos pos env ov (args.length + keywords.length) (backTo pos (starEach args env)) (backToKw pos (keywordEach keywords env))) Q E s₁) E s) :
    wpC (model prog w) A (eval (.Call (.Attribute o name apos) args keywords pos) env) Q E s := by
  show wpC _ A (attributeBase o name env (eval o env) >>= fun ov => (standAt apos.atName >>= fun _ => methodCall o name apos pos env ov (args.length + keywords.length) (backTo pos (starEach args env)) (backToKw pos (keywordEach keywords env)))) Q E s
  exact wpC_bindA (wpAny_mono h (fun ov s₁ h₁ => wpC_bindA (wpAny_standAt h₁)) fun _ _ x => x)
end
section
variable {prog : Program} {w : World} {A : Around} {E : Value → Shared → Prop} {s : Shared} {env : Env}
theorem wpC_methodCall {o : Expr} {name : Str} {apos pos : Pos} {ov : Value} {n : Nat} {args : List (Bool × Sem Value)} {keywords : List (Option Str × Sem Value)} {Q : Value → Shared → Prop}
    (h : wpAny (model prog w) A (calleeOf (methodCallForm n args keywords) o env ov name) (fun fr s₁ => wpAny (model prog w) A (methodCallPos (methodCallForm n args keywords) o env apos pos) (fun cp s₂ =>
      wpC (model prog w) A (callWith cp fr.1 fr.2 args keywords) Q E s₂) E s₁) E s) : wpC (model prog w) A (methodCall o name apos pos env ov n args keywords) Q E s := by
  unfold methodCall
  refine wpC_bindA (wpAny_holding (wpAny_mono h (fun fr s₁ h₁ => ?_) fun _ _ x => x))
  exact wpC_bindA h₁
end
theorem fresh_HotF : True := by
  w_top off
  exact trivial
section
variable {M : Model} {A : Around} {E : Value → Shared → Prop} {s : Shared} {K : Frag} {env : Env} {pos : Pos} {f : Value} {first : List Value} {Q : Value → Shared → Prop}
theorem callWith_KC {h₀ : Heap} {e : Expr} {rest : List Expr} (_X : K.In h₀) (hk : keepIn K f = true) (h : wpAny M A (spliced (backTo pos (starEach (e :: rest) env))) (fun vs s₁ => K.In s₁.heap ∧ wpC M A (call f (first ++ vs)) Q E s₁) E s)
    (he : starEach (e :: rest) env = (false, eval e env) :: starEach rest env := by rfl) (hplain : (backTo pos (starEach rest env)).any (·.1) = false := by rfl) :
    wpC M A (callWith pos f first (backTo pos (starEach (e :: rest) env)) []) Q E s := by
  rw [he] at h ⊢
  exact callWithC (by show ((false || (backTo pos (starEach rest env)).any (·.1)) || false) = false; rw [hplain]; rfl) (keeps_K hk) (Calls.evalArgs_plain h)
theorem callWith_B {args : List (Bool × Sem Value)} (hf : keeperOf f = pure .machine) (hplain : args.any (·.1) = false) (h : wpAny M A (evalArgs f true args []) (fun a s₁ => wpC M A (call f (first ++ a.pos) a.kw) Q E s₁) E s) :
    wpC M A (callWith pos f first args []) Q E s :=
  callWithC (P := fun _ => True) (by rw [hplain]; rfl) (fun h _ => ⟨.machine, .inr (.inl rfl), Looks.of_pure hf⟩) (wpAny_mono h (fun _ _ x => ⟨trivial, x⟩) fun _ _ x => x)
theorem callWith_B1 {e : Expr} {rest : List Expr} (hf : keeperOf f = pure .machine) (h : wpAny M A (spliced (backTo pos (starEach (e :: rest) env))) (fun vs s₁ => wpC M A (call f (first ++ vs)) Q E s₁) E s)
    (he : starEach (e :: rest) env = (false, eval e env) :: starEach rest env := by rfl) (hplain : (backTo pos (starEach rest env)).any (·.1) = false := by rfl) :
    wpC M A (callWith pos f first (backTo pos (starEach (e :: rest) env)) []) Q E s := by
  rw [he] at h ⊢
  exact callWith_B hf (by show (false || (backTo pos (starEach rest env)).any (·.1)) = false; rw [hplain]; rfl) (Calls.evalArgs_plain h)
theorem callWith_B0 (hf : keeperOf f = pure .machine) (h : wpC M A (call f (first ++ [])) Q E s) : wpC M A (callWith pos f first (backTo pos (starEach [] env)) []) Q E s :=
  callWith_B hf rfl (evalArgs_nil3 h)
theorem spliced_consC {x : Sem Value} {rest : List (Bool × Sem Value)} {Q : List Value → Shared → Prop}
    (h : wpC M A x (fun v s₁ => wpC M A (spliced rest) (fun vs s₂ => Q (v :: vs) s₂) E s₁) E s) : wpC M A (spliced ((false, x) :: rest)) Q E s := by
  rw [spliced]
  refine wpC_bind (wpC_mono h (fun v s₁ h₁ => ?_) fun _ _ x => x)
  simp only [Bool.false_eq_true, if_false]
  exact wpC_bind (wpC_pure (wpC_bind (wpC_holding (wpC_mono h₁ (fun vs s₂ h₂ => wpC_pure h₂) fun _ _ x => x))))
theorem Tuple_C {elts : List Expr} {k : Nat}
    (h : wpC M A (spliced (backTo pos (starEach elts env))) (fun vs s₁ => wpAny M A (newTuple vs) Q E s₁) E s) : wpC M A (eval (.Tuple elts k pos) env) Q E s := by
  show wpC M A (do standAt pos; newTuple (← spliced (backTo pos (starEach elts env)))) Q E s
  exact wpC_bindA (wpAny_standAt (wpC_bind (wpC_mono h (fun _ _ x => wpC_any x) fun _ _ x => x)))
theorem Assign_swappedC {elts k tpos value} {names : List Str} {Q : Flow → Shared → Prop}
    (h : wpC M A (eval value env) (fun v s₁ => wpAny M A (unpackItems v names.length none) (fun items s₂ =>
      wpAny M A (assignInOrder (names.reverse.map fun n => bindName env n) items.reverse) (fun _ => Q .next) E s₂) E s₁) E s)
    (hs : swapsWithSole [.Tuple elts k tpos] value pos.line env = pure false := by rfl)
    (hw : swappedStores [.Tuple elts k tpos] value env = pure (some names) := by rfl) :
    wpC M A (exec (.Assign [.Tuple elts k tpos] value pos) env) Q E s := by
  rw [PyProof.Rows.exec_Assign]
  refine wpC_bindA (wpAny_standAt ?_)
  rw [hs]
  refine wpC_bind (wpC_pure ?_)
  rw [if_neg (by decide)]
  refine wpC_bind (wpC_mono h (fun v s₁ h₁ => ?_) fun _ _ x => x)
  rw [hw]
  refine wpC_bind (wpC_pure ?_)
  show wpC M A (do rule "assign.swapped-stores"; let items ← unpackItems v names.length none; assignInOrder (names.reverse.map fun n => bindName env n) items.reverse; pure .next) Q E s₁
  exact wpC_any (wpAny_bind (wpAny_rule (wpAny_bind (wpAny_mono h₁ (fun items s₂ h₂ => wpAny_bind (wpAny_mono h₂ (fun _ _ x => wpAny_pure x) fun _ _ x => x)) fun _ _ x => x))))
end
section
variable {prog : Program} {w : World} {A : Around} {E : Value → Shared → Prop} {s : Shared} {env : Env}
structure BuiltOn (T : String) (R : Value → Shared → Prop) (ov : Value) (s : Shared) : Prop where
  typeIs : s.TypeIs ov T
  noDict : ∀ a, ov = .ref a → ∃ ob, s.heap.get? a = some ob ∧ ob.dict = none
  go : R ov s
/-- a built-in's method, called at the clean stacks -/
theorem wpC_Call_built {o : Expr} {name : Str} {apos pos : Pos} {args : List Expr} {T id : String} {Q : Value → Shared → Prop}
    (hbase : attributeBase o name env (eval o env) = eval o env)
    (hfew : methodCallForm (args.length + ([] : List Keyword).length) (backTo pos (starEach args env)) (backToKw pos (keywordEach [] env)) = true)
    (hpos : methodCallPos true o env apos pos = pure pos)
    (pa : PlainAttrs T) (slot : Slot T name id) (hty : typeOf (.builtin id) = pure (.type "method_descriptor"))
    (h : wpAny (model prog w) A (eval o env) (BuiltOn T fun ov s₁ => wpC (model prog w) A (callWith pos (.builtin id) [ov] (backTo pos (starEach args env)) []) Q E s₁) E s) :
    wpC (model prog w) A (eval (.Call (.Attribute o name apos) args [] pos) env) Q E s := by
  refine wpC_Call_method ?_
  rw [hbase]
  refine wpAny_mono h (fun ov s₁ h₁ => ?_) fun _ _ e => e
  obtain ⟨hT, hd, hc⟩ := h₁
  refine wpC_methodCall ?_
  rw [hfew]
  refine getMethod_builtin hT pa slot hty hd ?_
  exact wpAny_of_eq hpos hc
end
namespace BF
theorem plainAttrs_ba : PlainAttrs "bytearray" :=
  ⟨⟨"bytearray.__getattribute__", by rw [typeLookup_type, builtinLookup_eq_fast]; kernel_rfl, by decide +kernel⟩, by rw [typeLookup_type, builtinLookup_eq_fast]; kernel_rfl⟩
end BF
theorem BuiltOn.ba {R : Value → Shared → Prop} {r : Addr} {b : Array UInt8} {s : Shared} (hb : IsBa s.heap r b) (h : R (.ref r) s) : BuiltOn "bytearray" R (.ref r) s :=
  ⟨hb.typeIs, fun a e => by cases e; exact ⟨_, hb, rfl⟩, h⟩
def baOf (b : Array UInt8) : Obj := { cls := .type "bytearray", data := .bytearray b }
section
variable {prog : Program} {w : World} {A : Around} {E : Value → Shared → Prop} {s : Shared} {h₀ : Heap} {L : Addr} {m : Str → Option Value} {news : List (Addr × Obj)} {r : Addr} {b : Array UInt8}
theorem item_ba {value slice : Expr} {ns : List Int} {k : Int} {u : Tok} {Q : Value → Shared → Prop}
    (hb : IsBa s.heap r b) (hn : KBw.bInts b = ns) (h0 : 0 ≤ k) (h1 : k < (ns.length : Int)) (hz : ns.length ≤ 16777216) (h : ∀ t j, Q (.int (ns.getD k.toNat 0) t) { s with toks := j })
    (hs : subscripted slice false (.ref r) (.int k u) = operate [.ref r, .int k u] (getItem (.ref r) (.int k u)) := by with_unfolding_all rfl) :
    wpAny (model prog w) A (subscriptTail value slice (.ref r) (.int k u)) Q E s := by
  subst hn
  rw [KBw.ints_length] at h1 hz
  refine tail_any hb.typeIs BF.slot_getitem.lookup ?_ hs
  unfold getItem
  refine wpAny_holding ?_
  refine wpAny_bind (wpAny_sequenceKey hb.typeIs (by decide) ?_)
  refine wpAny_bind (wpAny_callSpecial?_slot (name := Str.ofString "__getitem__") hb.typeIs BF.slot_getitem
    (wpAny_call_entry BF.slot_getitem hb.typeIs BF.entry_getitem ?_ (BF.args_getitem _ _)))
  unfold Builtin.«bytearray.__getitem__»
  refine wpAny_bind (wpAny_of_eq (a := (Value.ref r, [Value.int k u])) rfl ?_)
  (try dsimp only)
  refine wpAny_bind ?_
  unfold Builtin.Bytes.subscript?
  refine wpAny_bind (wpAny_specialOf (typeIs_int s k u) BF.index_int ?_)
  refine bm_if_false rfl ?_
  refine wpAny_bind (wpAny_of_eq (rfl : asIndex (.int k u) = pure k) ?_)
  refine bm_if_false (by simp only [Builtin.Bytes.fitsIndex, Bool.not_eq_false', Bool.and_eq_true, decide_eq_true_eq]; omega) ?_
  refine wpAny_pure ?_
  (try dsimp only)
  refine wpAny_bind ?_
  unfold Builtin.Bytes.payload Builtin.Bytes.payload?
  refine wpAny_bind (wpAny_bind (wpAny_load hb ?_))
  refine wpAny_pure (wpAny_pure ?_)
  (try dsimp only)
  have hl : k.toNat < b.size := by omega
  have e1 : seqIndex? k b.size = some k.toNat := by
    have hn : ¬ k < 0 := by omega
    have h1' : k < (b.size : Int) := h1
    simp [seqIndex?, hn, h0, h1']
  have e2 : (seqIndex? k b.size).bind (b[·]?) = some b[k.toNat] := by rw [e1]; simp [hl]
  rw [e2]
  (try dsimp only)
  unfold retInt
  refine wpAny_bind (wpAny_mkInt ?_)
  refine wpAny_pure ⟨_, rfl, wpAny_pure ?_⟩
  have e3 : (KBw.bInts b).getD k.toNat 0 = (b[k.toNat].toNat : Int) := by
    rw [List.getD_eq_getElem?_getD, KBw.ints_get (c := b[k.toNat]) (by simp [hl])]
    rfl
  rw [← e3]
  exact h _ _
theorem isBa_of (N : News h₀ L s.heap news) (hm : (r, baOf b) ∈ news) : IsBa s.heap r b := (N _ hm).1
theorem push_ints {n : Int} (h0 : 0 ≤ n) (h1 : n < 256) : KBw.bInts (b.push n.toNat.toUInt8) = KBw.bInts b ++ [n] := by
  simp only [KBw.bInts, Array.toList_push, List.map_append, List.map_cons, List.map_nil]
  congr 2
  have : (n.toNat.toUInt8).toNat = n.toNat := by
    show n.toNat % 256 = n.toNat
    omega
  rw [this]
  omega
/-- row.append(x), the ledger kept -/
theorem append_baM {n : Int} {t : Tok} {ns : List Int} {g : Obj → List (Addr × Obj)} {Q : Value → Shared → Prop} (F : Fr h₀ L s.heap m) (N : News h₀ L s.heap news) (U : UpdF r (baOf b) news g) (hn : KBw.bInts b = ns) (h0 : 0 ≤ n) (h1 : n < 256) (hz : ns.length ≤ 1000000)
    (h : ∀ h' b', Fr h₀ L h' m → News h₀ L h' (g (baOf b')) → KBw.bInts b' = ns ++ [n] → Q .none { s with heap := h' }) : wpC (model prog w) A (call (.builtin "bytearray.append") [.ref r, .int n t]) Q E s := by
  subst hn
  rw [KBw.ints_length] at hz
  obtain ⟨pre, post, rfl, hg, a, c⟩ := U.split
  have z := N (r, baOf b) (List.mem_append.mpr (.inr (.head _)))
  refine append_baC z.1 h0 h1 (Nat.le_trans (Nat.succ_le_succ hz) (by rw [PySem.sizeLine_eq]; decide)) fun h' hs hb' => ?_
  exact h h' _ (F.change hs z.2.1 z.2.2) (hg _ ▸ news_set N a c hs hb') (push_ints h0 h1)
/-- found.extend(octets), the ledger kept -/
theorem extend_baM {c : Array UInt8} {t : Tok} {ns ms : List Int} {g : Obj → List (Addr × Obj)} {Q : Value → Shared → Prop} (F : Fr h₀ L s.heap m) (N : News h₀ L s.heap news) (U : UpdF r (baOf b) news g) (hn : KBw.bInts b = ns) (hm : KBw.bInts c = ms) (hz : ns.length + ms.length ≤ 16777216)
    (h : ∀ h' b', Fr h₀ L h' m → News h₀ L h' (g (baOf b')) → KBw.bInts b' = ns ++ ms → Q .none { s with heap := h' }) : wpC (model prog w) A (call (.builtin "bytearray.extend") [.ref r, .bytes c t]) Q E s := by
  subst hn hm
  rw [KBw.ints_length, KBw.ints_length] at hz
  obtain ⟨pre, post, rfl, hg, a, d⟩ := U.split
  have z := N (r, baOf b) (List.mem_append.mpr (.inr (.head _)))
  refine extend_baC z.1 (Nat.le_trans hz (by rw [PySem.sizeLine_eq]; decide)) fun h' hs hb' => ?_
  exact h h' _ (F.change hs z.2.1 z.2.2) (hg _ ▸ news_set N a d hs hb') (by simp [KBw.bInts])
/-- bytearray(), the ledger kept -/
theorem newBaM {Q : Value → Shared → Prop} (F : Fr h₀ L s.heap m) (N : News h₀ L s.heap news) (h : ∀ l h', Fr h₀ L h' m → News h₀ L h' ((l, baOf #[]) :: news) → (∀ p ∈ news, p.1 < l) → h₀.objs.size ≤ l → Q (.ref l) { s with heap := h' }) :
    wpC (model prog w) A (call (.type "bytearray") []) Q E s := by
  refine newBaC fun l h' hn hl hk hb => ?_
  have hL : L < l := Nat.lt_of_lt_of_le F.ns.lt hl
  refine h l h' (F.keeps hk) (fun q hq => ?_) (fun q hq => Nat.lt_of_lt_of_le (Heap.lt_size (N q hq).1) hl) (Nat.le_trans (fr_size F) hl)
  rcases List.mem_cons.mp hq with rfl | hq
  · refine ⟨hb, Nat.ne_of_gt hL, ?_⟩
    cases e : h₀.get? l with
    | none => rfl
    | some o => have := F.keep _ _ e; rw [hn] at this; cases this
  · exact ⟨hk _ _ (N q hq).1, (N q hq).2⟩
end
theorem fresh_HotG : True := by
  w_top off
  exact trivial
section
variable {prog : Program} {w : World} {p : Program} {loose : List Str} {mean : ExcName → Option Value} {mg mb : Str → Option Value}
  {dp un : Nat} {gd : Option (List Code)} {outer : List Env} {base : Heap} {s : Shared} {Q E : Value → Shared → Prop} {K : Frag}
/-- a call at the clean stacks that changes nothing that stood before it -/
def SpecC (prog : Program) (w : World) (f : Addr) (args : List Value) (d u : Nat) (pre : Heap → Prop) (Post : Heap → Value → Heap → Prop) : Prop :=
  ∀ (p : Program) (loose : List Str) (mean : ExcName → Option Value) (mg mb : Str → Option Value)
    (dp un : Nat) (gd : Option (List Code)) (outer : List Env) (base : Heap) (s : Shared) (Q E : Value → Shared → Prop),
    Below (topA dp un gd outer) base outer s.heap → (hd.heap_1 w.params).In s.heap → Top p loose mean mg mb s.heap →
    dp + d < recursionLimit → un + u < cLine → pre s.heap →
    (∀ v h' tk', s.heap.StaysIn h' → s.heap.objs.size ≤ h'.objs.size → Post s.heap v h' → Q v { s with heap := h', toks := tk' }) →
    wpC (model prog w) (topA dp un gd outer) (call (.ref f) args) Q E s
theorem SpecC.use {f : Addr} {args : List Value} {d u : Nat} {pre : Heap → Prop} {Post : Heap → Value → Heap → Prop}
    {h₀ : Heap} {L : Addr} {m : Str → Option Value} {news : List (Addr × Obj)} {A A₀ : Around} {env : Env}
    (S : SpecC prog w f args d u pre Post)
    (B : Below A₀ base outer h₀) (F : Fr h₀ L s.heap m) (X : (hd.heap_1 w.params).In h₀) (N : News h₀ L s.heap news) (T : Top p loose mean mg mb h₀)
    (hA : A = topA dp un gd (env :: outer)) (hf : env.frame = some L) (hk : env.scope.kind = .function)
    (hd : dp + d < recursionLimit) (hu : un + u < cLine) (hp : pre s.heap)
    (h : ∀ v h' tk', Fr h₀ L h' m → News h₀ L h' news → s.heap.StaysIn h' → s.heap.objs.size ≤ h'.objs.size → Post s.heap v h' → Q v { s with heap := h', toks := tk' }) :
    wpC (model prog w) A (call (.ref f) args) Q E s := by
  subst hA
  have B' := pushX B F hf hk
  refine S p loose mean mg mb dp un gd (env :: outer) base s Q E ⟨rfl, B'.stays, B'.frames⟩ (X.keeps F.keep) (T.keeps F.keep) hd hu hp fun v h' tk' st sz po => ?_
  obtain ⟨oL, es, ep, hL, r⟩ := F.ns
  exact h v h' tk' ⟨⟨oL, es, ep, st _ _ hL, r⟩, fun b o e => st _ _ (F.keep b o e), F.above⟩ (fun q hq => ⟨st _ _ (N q hq).1, (N q hq).2⟩) st sz po
theorem enterCN {name qual : Str} {params : Arguments} {body : List Stmt} {scope : Scope} {dV kV doc pm cdv ct oc : Value} {an od : Option Addr} {osl : Array (Option Value)} {f : Addr} {vals : List Value}
    (X : K.In s.heap) (T : Top p loose mean mg mb s.heap)
    (ho : K.lookup f = some ⟨oc, od, .func (fnOf name qual params body scope dV kV doc pm an cdv ct), osl⟩) (hcd : codeIn K cdv qual = true) (hroom : dp < recursionLimit)
    (hbind : bindArgs (fnOf name qual params body scope dV kV doc pm an cdv ct) ⟨vals, []⟩ = pure ((params.args.map (·.arg)).zip vals)) (hloc : ∀ y ∈ (params.args.map (·.arg)).zip vals, scope.names.lookup y.1 = some .local)
    (h : ∀ L' h₁, Fr s.heap L' h₁ (fun y => ((params.args.map (·.arg)).zip vals).reverse.lookup y) → News s.heap L' h₁ [] →
      wpC (model prog w) ((topA dp un gd outer).deeper (envOf qual scope L' f cdv)) (execs body (envOf qual scope L' f cdv))
        (fun fl s' => Q (match fl with | .ret v => v | _ => .none) s') (fun _ _ => False)
        { s with heap := h₁, toks := s.toks + ((params.args.map (·.arg)).zip vals).length })
    (hco : scope.isCoroutine = false := by rfl) (hgen : scope.isGenerator = false := by rfl) (hk : scope.kind = .function := by rfl)
    (hcell : ∀ x ∈ scope.names, x.2 ≠ .cell := by decide) :
    wpC (model prog w) (topA dp un gd outer) (call (.ref f) vals) Q E s :=
  enterC X T ho hcd hroom hbind hloc (fun L' h₁ F N => wpC_mono (h L' h₁ F N) (fun _ _ q => q) fun _ _ e => e.elim) hco hgen hk hcell
end
section
variable {prog : Program} {w : World} {A : Around} {E : Value → Shared → Prop} {s s₀ : Shared} {env : Env} {h₀ : Heap} {body : List Stmt} {Q : Flow → Shared → Prop} {m₀ : Str → Option Value}
/-- a for loop over pairs, at the clean stacks, no raise -/
theorem forPCN {σ : Type} (Led : σ → List (Addr × Obj)) (ps : σ → List (Str × Value)) (Inv : Nat → σ → Prop) (c₀ : σ) {x y : Str} {px py tp : Pos} {k : Nat} {h₁ : Heap} {I : Addr} {fp wr rest : List Addr} {n : Nat} {Pt : Nat → Value → Value → Prop} {St : Nat → Heap → Prop}
    (S : SrcP prog w A s.heap h₁ I rest n Pt fp wr St) (hx : env.kindOf x = some .local) (hy : env.kindOf y = some .local) (hp : (env.scope.kind == .class || (env.scope.kind == .module && env.locals != env.globals)) = false)
    (hrest : ∀ b ∈ rest, (∃ o, h₀.get? b = some o) ∨ (∃ o, ∀ c, (b, o) ∈ Led c))
    (F : Fr h₀ env.locals s.heap m₀) (N : News h₀ env.locals s.heap (Led c₀)) (hk : ∀ p ∈ ps c₀, m₀ p.1 = some p.2) (h0 : Inv 0 c₀)
    (turn : ∀ i a b c (u : Str → Option Value) h tk own, i < n → Pt i a b → Inv i c → OwnOff own ((Led c).map (·.1)) →
      Fr h₀ env.locals h (fun z => if z = y then some b else if z = x then some a else kstB u (ps c) z) → News h₀ env.locals h (Led c ++ own) →
      wpC (model prog w) A (execs body env) (ForEnd prog w A h₀ env.locals s (fun c' => Led c' ++ own) ps (fun c' => OwnOff own ((Led c').map (·.1)) ∧ Inv (i + 1) c') Q) (fun _ _ => False) { s with heap := h, toks := tk })
    (done : ∀ c (u : Str → Option Value) h tk, Inv n c → Fr h₀ env.locals h (kstB u (ps c)) → News h₀ env.locals h (Led c) → Q .next { s with heap := h, toks := tk }) :
    codeC (model prog w) A (.forLoop (.Tuple [.Name x px, .Name y py] k tp) (.ref I) body [] env) (fun r s' => match r with | .ok f => Q f s' | .error e => cameBackBy (model prog w) A env E e s') { s with heap := h₁ } :=
  forPC Led ps Inv c₀ S hx hy hp hrest F N hk h0 (fun i a b c u h tk own h1 h2 h3 h4 h5 h6 => wpC_mono (turn i a b c u h tk own h1 h2 h3 h4 h5 h6) (fun _ _ q => q) fun _ _ e => e.elim) done
end
-- a cold statement within a hot block
/-- a row, its filter undone, from its left end on -/
def unfI (k : Int) (t a : List Int) : Nat → List Int
  | 0 => []
  | n + 1 => unfI k t a n ++ [(t.getD n 0 + guessI k (if 4 ≤ n then (unfI k t a n).getD (n - 4) 0 else 0) (a.getD n 0) (if 4 ≤ n then a.getD (n - 4) 0 else 0)) % 256]
theorem unfI_length (k : Int) (t a : List Int) : ∀ n, (unfI k t a n).length = n
  | 0 => rfl
  | n + 1 => by rw [unfI, List.length_append, unfI_length k t a n]; rfl
section
variable {prog : Program} {w : World}
set_option maxHeartbeats 8000000 in
theorem unfiltered_spec (k : Int) (t₀ t₁ t₂ t₃ : Tok) (bt ba : Array UInt8) (t a : List Int) (ht : KBw.bInts bt = t) (ha : KBw.bInts ba = a) (hl : a.length = t.length) (h0 : 0 ≤ k) (h4 : k ≤ 4) (hz : t.length ≤ 1000) :
    SpecC prog w 71 [.int k t₀, .bytes bt t₁, .bytes ba t₂, .int 4 t₃] 6 60 (fun _ => True) (RetBytes (unfI k t a t.length)) := by
  intro p loose mean mg mb dp un gd outer base s Q E B X T hd hu hp hret
  with_unfolding_all refine' enterCN ?k1 ?k2 ?k3 ?k4 ?k5 ?k6 ?k7 ?_ ?c1 ?c2 ?c3 ?c4
  (((case k1 => assumption); (case k2 => assumption); (try ((case k2b => assumption); (case k2c => assumption); (case k2d => first | exact List.forall_mem_nil _ | (intro q hq; cases List.mem_singleton.mp hq; exact And.intro (by assumption) (by assumption))))); (case k3 => k_is); (case k4 => k_is); (case k5 => omega); (case k6 => first | exact rfl | exact binds_K (by assumption) rfl (by k_is) rfl rfl rfl); (case k7 => first | exact locs rfl | exact rfl); (case c1 => exact rfl); (case c2 => exact rfl); (case c3 => exact rfl); (try (case c4 => decide))); intro _ _ F9; (dsimp only [List.map, List.zip, List.zipWith, List.reverse, List.reverseAux] at F9); revert F9; intro _ _; (try dsimp only); (try ((first | refine fold_env ?_ | refine fold_envC ?_); intro M₉ A₉ e₉ g₉ d₉ o₉)); (try k_fold))
  refine wpC_execs_cons (wpC_Assign_Name (wpC_Call_Name ?_))
  ((try k_fold); repeat' (first | (k_unfold; (try dsimp only)) | ((fail_if_success (with_reducible (first | show wpAny _ _ (exec (.For _ _ _ _ _) _) _ _ _ | show wpAny _ _ (exec (.While _ _ _ _) _) _ _ _ | show wpAny _ _ (pyIter _) _ _ _ | show wpAny _ _ (call (.type "zip") _) _ _ _ | show wpAny _ _ (call (.type "enumerate") _) _ _ _ | show wpAny _ _ (eval (.ListComp _ _ _ _) _) _ _ _ | show wpAny _ _ (exec (.Assign _ (.ListComp _ _ _ _) _) _) _ _ _))); walk1; (try dsimp only))))
  refine callWith_B0 rfl (newBaM (by assumption) (by assumption) ?_)
  intro r h2 F2 N2 l1 l2
  ((try k_fold); repeat' (first | (k_unfold; (try dsimp only)) | ((fail_if_success (with_reducible (first | show wpAny _ _ (exec (.For _ _ _ _ _) _) _ _ _ | show wpAny _ _ (exec (.While _ _ _ _) _) _ _ _ | show wpAny _ _ (pyIter _) _ _ _ | show wpAny _ _ (call (.type "zip") _) _ _ _ | show wpAny _ _ (call (.type "enumerate") _) _ _ _ | show wpAny _ _ (eval (.ListComp _ _ _ _) _) _ _ _ | show wpAny _ _ (exec (.Assign _ (.ListComp _ _ _ _) _) _) _ _ _))); walk1; (try dsimp only))))
  refine wpC_execs_cons (wpC_For ?_)
  ((try k_fold); repeat' (first | (k_unfold; (try dsimp only)) | ((fail_if_success (with_reducible (first | show wpAny _ _ (exec (.For _ _ _ _ _) _) _ _ _ | show wpAny _ _ (exec (.While _ _ _ _) _) _ _ _ | show wpAny _ _ (pyIter _) _ _ _ | show wpAny _ _ (call (.type "zip") _) _ _ _ | show wpAny _ _ (call (.type "enumerate") _) _ _ _ | show wpAny _ _ (eval (.ListComp _ _ _ _) _) _ _ _ | show wpAny _ _ (exec (.Assign _ (.ListComp _ _ _ _) _) _) _ _ _))); walk1; (try dsimp only))))
  rename News _ _ _ _ => N
  rename Fr _ _ _ _ => F
  refine src_enum_bytes rfl ht ?_
  intro h₁ I fp wr St S
  refine forPCN (σ := Array UInt8) (fun c => [(r, baOf c)]) (fun _ => [(Str.ofString "row", .ref r), (Str.ofString "step", .int 4 t₃), (Str.ofString "above", .bytes ba t₂), (Str.ofString "kind", .int k t₀)])
    (fun i c => i ≤ t.length ∧ KBw.bInts c = unfI k t a i) #[] S rfl rfl rfl (fun b hb => nomatch hb) F N (by (repeat (first | exact List.forall_mem_nil _ | refine List.forall_mem_cons.mpr ⟨by first | rfl | assumption, ?_⟩))) ⟨by omega, rfl⟩ ?_ ?_
  · intro i x y c u h tk own hi hrx9 hrx10 hoff F' N'
    obtain ⟨n, t1, t2, hn, rfl, rfl⟩ := hrx9
    obtain ⟨hI, hJ⟩ := hrx10
    clear F N S
    (try dsimp only at hJ N' hoff)
    simp only [List.cons_append, List.nil_append] at N' hoff
    have hlen := unfI_length k t a i
    walk_at "mine in"
    (refine wpC_execs_consA ?_; ((try k_fold); repeat' (first | (k_unfold; (try dsimp only)) | ((with_reducible show wpAny _ _ (subscriptTail _ _ (.ref _) (.int _ _)) _ _ _); refine' item_ba (by (exact isBa_of (by k_asm) (by k_mem))) (by assumption) (by walk_at "mine len") (by walk_at "mine len") (by walk_at "mine len") ?_; intro _ _; (try dsimp only)) | ((fail_if_success (with_reducible (first | show wpAny _ _ (exec (.For _ _ _ _ _) _) _ _ _ | show wpAny _ _ (exec (.While _ _ _ _) _) _ _ _ | show wpAny _ _ (pyIter _) _ _ _ | show wpAny _ _ (call (.type "zip") _) _ _ _ | show wpAny _ _ (call (.type "enumerate") _) _ _ _ | show wpAny _ _ (eval (.ListComp _ _ _ _) _) _ _ _ | show wpAny _ _ (exec (.Assign _ (.ListComp _ _ _ _) _) _) _ _ _))); walk1; (try dsimp only)))); all_goals (try dsimp only))
    all_goals (refine wpC_execs_consA ?_; ((try k_fold); repeat' (first | (k_unfold; (try dsimp only)) | ((with_reducible show wpAny _ _ (subscriptTail _ _ (.bytes _ _) (.int _ _)) _ _ _); refine KBw.item_K (by assumption) (by omega) (by omega) (by omega) ?_; intro _ _ _ _; (try dsimp only)) | ((fail_if_success (with_reducible (first | show wpAny _ _ (exec (.For _ _ _ _ _) _) _ _ _ | show wpAny _ _ (exec (.While _ _ _ _) _) _ _ _ | show wpAny _ _ (pyIter _) _ _ _ | show wpAny _ _ (call (.type "zip") _) _ _ _ | show wpAny _ _ (call (.type "enumerate") _) _ _ _ | show wpAny _ _ (eval (.ListComp _ _ _ _) _) _ _ _ | show wpAny _ _ (exec (.Assign _ (.ListComp _ _ _ _) _) _) _ _ _))); walk1; (try dsimp only)))); all_goals (try dsimp only))
    all_goals
      refine wpC_execs_cons (wpC_Expr (wpC_Call_built rfl rfl rfl BF.plainAttrs_ba BF.slot_append BF.type_append ?_))
      ((try k_fold); repeat' (first | (k_unfold; (try dsimp only)) | ((fail_if_success (with_reducible (first | show wpAny _ _ (exec (.For _ _ _ _ _) _) _ _ _ | show wpAny _ _ (exec (.While _ _ _ _) _) _ _ _ | show wpAny _ _ (pyIter _) _ _ _ | show wpAny _ _ (call (.type "zip") _) _ _ _ | show wpAny _ _ (call (.type "enumerate") _) _ _ _ | show wpAny _ _ (eval (.ListComp _ _ _ _) _) _ _ _ | show wpAny _ _ (exec (.Assign _ (.ListComp _ _ _ _) _) _) _ _ _))); walk1; (try dsimp only))))
      refine' BuiltOn.ba ?hb ?_
      (case hb => (exact isBa_of (by k_asm) (by k_mem)))
      refine callWith_B1 rfl ?_
      ((try k_fold); repeat' (first | (k_unfold; (try dsimp only)) | ((with_reducible show wpAny _ _ (call (.ref _) _) _ _ _); refine' Spec.useInt (guess_spec _ _ _ _ _ _ _ _ (by walk_at "mine len") (by walk_at "mine len")) (h := ?_); intro _ _ _ _ _; (try dsimp only)) | ((with_reducible show wpAny _ _ (binaryOp .BitAnd (.int _ _) (.int _ _)) _ _ _); first | refine and_lit (bitAnd_m4 _) ?_ | refine and_lit (bitAnd_m8 _) ?_ | refine and_lit (bitAnd_m16 _) ?_; (try dsimp only)) | ((with_reducible show wpAny _ _ (subscriptTail _ _ (.bytes _ _) (.int _ _)) _ _ _); refine KBw.item_K (by assumption) (by omega) (by omega) (by omega) ?_; intro _ _ _ _; (try dsimp only)) | ((fail_if_success (with_reducible (first | show wpAny _ _ (exec (.For _ _ _ _ _) _) _ _ _ | show wpAny _ _ (exec (.While _ _ _ _) _) _ _ _ | show wpAny _ _ (pyIter _) _ _ _ | show wpAny _ _ (call (.type "zip") _) _ _ _ | show wpAny _ _ (call (.type "enumerate") _) _ _ _ | show wpAny _ _ (eval (.ListComp _ _ _ _) _) _ _ _ | show wpAny _ _ (exec (.Assign _ (.ListComp _ _ _ _) _) _) _ _ _))); walk1; (try dsimp only))))
      refine' append_baM ?F ?N ?U ?hn ?p0 ?p1 ?z ?_
      (case F => k_asm)
      (case N => k_asm)
      (case U => k_updF)
      (case hn => assumption)
      (case p0 => first | exact Int.emod_nonneg _ (by decide) | omega)
      (case p1 => first | exact Int.emod_lt_of_pos _ (by decide) | omega)
      (case z => walk_at "mine len")
      intro h' b' F' N' hb'
      (try dsimp only)
      rename_i b' hF hN hb'
      refine wpC_execs_nil ?_
      show TurnEnd _ _ _ _ _ _ _
      refine TurnEnd.intro b' (by assumption) (by assumption) (fun _ hp => hp) (by (repeat (first | exact List.forall_mem_nil _ | refine List.forall_mem_cons.mpr ⟨by first | rfl | assumption, ?_⟩))) ⟨hoff, by omega, ?_⟩
      rw [hb', unfI, show t.getD i 0 = n by simp [List.getD_eq_getElem?_getD, hn]]
    · rw [if_pos (by omega), if_pos (by omega), show ((i : Int) - 4).toNat = i - 4 by omega, show ((i : Int)).toNat = i by omega]
    · rw [if_neg (by omega), if_neg (by omega), show ((i : Int)).toNat = i by omega]
  · intro c u h tk ⟨hI, hJ⟩ F' N'
    clear F N S
    (try dsimp only at N')
    have hlen := unfI_length k t a t.length
    walk_at "mine in"
    (refine wpC_execs_consA ?_; ((try k_fold); repeat' (first | (k_unfold; (try dsimp only)) | ((with_reducible show wpAny _ _ (call (.type "bytes") [.ref _]) _ _ _); refine' bytes_of_ba (by (exact isBa_of (by k_asm) (by k_mem))) (by rw [PySem.sizeLine_eq, ← KBw.ints_length]; simp only [*]; omega) ?_; intro _ _; (try dsimp only)) | ((fail_if_success (with_reducible (first | show wpAny _ _ (exec (.For _ _ _ _ _) _) _ _ _ | show wpAny _ _ (exec (.While _ _ _ _) _) _ _ _ | show wpAny _ _ (pyIter _) _ _ _ | show wpAny _ _ (call (.type "zip") _) _ _ _ | show wpAny _ _ (call (.type "enumerate") _) _ _ _ | show wpAny _ _ (eval (.ListComp _ _ _ _) _) _ _ _ | show wpAny _ _ (exec (.Assign _ (.ListComp _ _ _ _) _) _) _ _ _))); walk1; (try dsimp only)))); all_goals (try dsimp only))
    exact hret _ _ _ (Fr.keep (by assumption)) (fr_size (by assumption)) ⟨_, _, rfl, hJ⟩
end
theorem fresh_Unst : True := by
  w_top off
  exact trivial
section
variable {prog : Program} {w : World} {A : Around} {E : Value → Shared → Prop} {s : Shared} {env : Env} {h₀ : Heap} {body : List Stmt} {Q : Flow → Shared → Prop} {m₀ : Str → Option Value}
/-- a while loop at the clean stacks, no raise -/
theorem whileC {σ : Type} (Led : σ → List (Addr × Obj)) (ps : σ → List (Str × Value)) (Inv : σ → Prop) (mes : σ → Nat) (c₀ : σ) {test : Expr} {pos : Pos}
    (F : Fr h₀ env.locals s.heap m₀) (N : News h₀ env.locals s.heap (Led c₀)) (hk : ∀ p ∈ ps c₀, m₀ p.1 = some p.2) (h0 : Inv c₀)
    (turn : ∀ c (u : Str → Option Value) h tk, Inv c → Fr h₀ env.locals h (kstB u (ps c)) → News h₀ env.locals h (Led c) →
      wpAny (model prog w) A (isTrue test env (eval test env)) (fun b s₂ => if b then
          wpC (model prog w) A (execs body env) (ForEnd prog w A h₀ env.locals s Led ps (fun c' => Inv c' ∧ mes c' < mes c) Q) (fun _ _ => False) s₂
        else Q .next s₂) (fun _ _ => False) { s with heap := h, toks := tk }) :
    wpC (model prog w) A (exec (.While test body [] pos) env) Q E s := by
  refine wpC_While (codeC_whileLoop (WhileSt h₀ env.locals s Led ps Inv mes) ?_ (mes c₀) (.mk s.heap s.toks m₀ c₀ F N hk h0))
  intro k s' hx
  cases hx with | mk h' tk m' c F' N' hk' hJ =>
  refine wpAny_mono (turn c m' h' tk hJ (by rw [kst_self hk']; exact F') N') (fun b s₂ h₂ => ?_) fun _ _ e => e.elim
  cases b with
  | false => exact wpAny_execs_nil h₂
  | true =>
    refine wpC_mono h₂ (fun f s₃ h₃ => ?_) fun _ _ e => e.elim
    have go : TurnEnd h₀ env.locals s Led ps (fun c' => Inv c' ∧ mes c' < mes c) s₃ → ∃ m, m < mes c ∧ WhileSt h₀ env.locals s Led ps Inv mes m s₃ := fun hx => by
      cases hx with | mk c' m'' h₃' tk₃ F₃ N₃ hk₃ ok => exact ⟨mes c', ok.2, .mk h₃' tk₃ m'' c' F₃ N₃ hk₃ ok.1⟩
    cases f with
    | ret v => exact h₃
    | brk => exact h₃
    | cont => exact go h₃
    | next => exact go h₃
end
section
variable {prog : Program} {w : World} {A : Around} {E : Value → Shared → Prop} {h₀ : Heap} {L : Addr} {m : Str → Option Value} {news : List (Addr × Obj)} {b : Array UInt8} {ns : List Int} {Q : Value → Shared → Prop}
theorem cut_bytes {hp : Heap} {gn : _} {dr : _} {tk : Nat} {os : _} {value slice : Expr} {x y : Int} {t tx ty : Tok} (F : Fr h₀ L hp m) (N : News h₀ L hp news) (hk : KBw.bInts b = ns) (hx : 0 ≤ x) (hy : 0 ≤ y) (hz : ns.length ≤ 16777216)
    (h : ∀ h' b' t' k, Fr h₀ L h' m → News h₀ L h' news → KBw.bInts b' = (ns.drop x.toNat).take (y.toNat - x.toNat) → Q (.bytes b' t') (Shared.mk h' gn dr k os))
    (hs : subscripted slice false (.bytes b t) (.ref hp.objs.size) = operate [.ref hp.objs.size, .bytes b t] (getItem (.bytes b t) (.ref hp.objs.size))) (ht : ∀ r, letTemporaryGo value (.bytes b t) r = pure ()) :
    wpAny (model prog w) A (subscriptTail value slice (.bytes b t) (.ref hp.objs.size)) Q E (Shared.mk (hp.push { cls := .type "slice", data := .fields #[.int x tx, .int y ty, .none] }) gn dr tk os) := by
  refine KBc.slice_K (s := ⟨hp, gn, dr, tk, os⟩) F N hk (.int _ _) (.int _ _) hz (fun h' t' k F' N' e => h h' _ t' k F' N' ?_) hs ht
  rw [e]
  have cx : ∀ z : Int, 0 ≤ z → PySem.clipAt ns.length z = min z.toNat ns.length := fun z hz => by unfold PySem.clipAt; (try simp only [show ¬ z < 0 by omega, if_false]); (try split) <;> first | exact clamp hz | omega
  simp only [Option.elim, cx x hx, cx y hy]
  by_cases hxl : x.toNat ≤ ns.length
  · rw [Nat.min_eq_left hxl]
    by_cases hyl : y.toNat ≤ ns.length
    · rw [Nat.min_eq_left hyl]
    · rw [Nat.min_eq_right (by omega), List.take_of_length_le (by simp), List.take_of_length_le (by rw [List.length_drop]; omega)]
  · rw [List.drop_eq_nil_of_le (show ns.length ≤ x.toNat by omega), Nat.min_eq_right (show ns.length ≤ x.toNat by omega), List.drop_length]
    simp
end
section
variable {M : Model} {A : Around} {E : Value → Shared → Prop} {s : Shared} {env : Env} {pos : Pos} {Q : Value → Shared → Prop}
theorem Tuple_C1 {e : Expr} {rest : List Expr} {k : Nat}
    (h : wpC M A (eval e env) (fun v s₁ => wpAny M A (spliced (backTo pos (starEach rest env))) (fun vs s₂ => wpAny M A (newTuple (v :: vs)) Q E s₂) E s₁) E s)
    (he : starEach (e :: rest) env = (false, eval e env) :: starEach rest env := by rfl) : wpC M A (eval (.Tuple (e :: rest) k pos) env) Q E s := by
  refine Tuple_C ?_
  rw [he]
  exact spliced_consC (wpC_mono h (fun v s₁ h₁ => wpC_any h₁) fun _ _ x => x)
end
theorem nAt_app {pre post : List Int} {i : Int} (k : Nat) (h : i = (pre.length + k : Nat)) : nAt (pre ++ post) i = post.getD k 0 := by
  subst h
  unfold nAt
  rw [Int.toNat_natCast, List.getD_eq_getElem?_getD, List.getElem?_append_right (by omega), Nat.add_sub_cancel_left, List.getD_eq_getElem?_getD]
theorem blocks_split (pss : List (List Int)) (j : Nat) : ∀ n, j < n → ∃ tl, blocksI pss n = blocksI pss j ++ (blockI (decide (j = pss.length - 1)) (pss.getD j []) ++ tl)
  | 0, h => absurd h (Nat.not_lt_zero _)
  | n + 1, h => by
    by_cases e : j = n
    · subst e
      exact ⟨[], by rw [blocks_succ, List.append_nil]⟩
    · obtain ⟨tl, h'⟩ := blocks_split pss j n (by omega)
      exact ⟨tl ++ blockI (decide (n = pss.length - 1)) (pss.getD n []), by rw [blocks_succ, h', List.append_assoc, List.append_assoc]⟩
theorem four_length' (n : Int) : (four n).length = 4 := rfl
def sumI (pss : List (List Int)) : Int := (lowHigh (1, 0) pss.flatten).2 % 65521 * 65536 + (lowHigh (1, 0) pss.flatten).1 % 65521
theorem stream_at {a b : Int} {pss : List (List Int)} {j : Nat} {p : List Int} (hj : pss[j]? = some p) {z : Int} (hz : z = ((2 + (blocksI pss j).length : Nat) : Int)) :
    nAt (streamI a b pss) z = (if decide (j = pss.length - 1) = true then 1 else 0) ∧ nAt (streamI a b pss) (z + 1) = (p.length : Int) % 256 ∧ nAt (streamI a b pss) (z + 2) = (p.length : Int) / 256 ∧
    nAt (streamI a b pss) (z + 3) = 255 - (p.length : Int) % 256 ∧ nAt (streamI a b pss) (z + 4) = 255 - (p.length : Int) / 256 ∧
    ((streamI a b pss).drop (z + 5).toNat).take ((z + 5 + p.length).toNat - (z + 5).toNat) = p ∧ z + 5 + p.length = ((2 + (blocksI pss (j + 1)).length : Nat) : Int) ∧ z + 5 + p.length ≤ ((streamI a b pss).length : Int) := by
  have hlt : j < pss.length := (List.getElem?_eq_some_iff.mp hj).1
  obtain ⟨tl, h⟩ := blocks_split pss j pss.length hlt
  have hp : pss.getD j [] = p := by rw [List.getD_eq_getElem?_getD, hj]; rfl
  rw [hp] at h
  have e : streamI a b pss = ([a, b] ++ blocksI pss j) ++ (blockI (decide (j = pss.length - 1)) p ++ (tl ++ four (sumI pss))) := by
    unfold streamI sumI
    rw [h]
    simp only [List.append_assoc]
  have hl : ([a, b] ++ blocksI pss j).length = 2 + (blocksI pss j).length := by simp; omega
  have hs : (blocksI pss (j + 1)).length = (blocksI pss j).length + (5 + p.length) := by rw [blocks_succ, hp, List.length_append, block_length]
  rw [e]
  refine ⟨?_, ?_, ?_, ?_, ?_, ?_, ?_, ?_⟩
  · rw [nAt_app 0 (by rw [hl]; omega)]; rfl
  · rw [nAt_app 1 (by rw [hl]; omega)]; rfl
  · rw [nAt_app 2 (by rw [hl]; omega)]; rfl
  · rw [nAt_app 3 (by rw [hl]; omega)]; rfl
  · rw [nAt_app 4 (by rw [hl]; omega)]; rfl
  · have e1 : (z + 5).toNat = ([a, b] ++ blocksI pss j).length + 5 := by rw [hl]; omega
    have e2 : (z + 5 + p.length).toNat - (z + 5).toNat = p.length := by omega
    rw [e2, e1, List.drop_append, List.drop_eq_nil_of_le (by omega), Nat.add_sub_cancel_left]
    simp [blockI]
  · rw [hs]; omega
  · simp only [List.length_append, hl, block_length]; omega
theorem stream_length (a b : Int) (pss : List (List Int)) : (streamI a b pss).length = 2 + (blocksI pss pss.length).length + 4 := by
  simp only [streamI, List.length_append, four_length', List.length_cons, List.length_nil]
theorem get32_four {pre post : List Int} {n z : Int} (h0 : 0 ≤ n) (h1 : n < 4294967296) (hz : z = (pre.length : Int)) : get32 (pre ++ (four n ++ post)) z = n := by
  unfold get32
  rw [nAt_app 0 (by omega), nAt_app 1 (by omega), nAt_app 2 (by omega), nAt_app 3 (by omega)]
  exact quad n
theorem low_pos : ∀ (ns : List Int) (c : Int × Int), OkB ns → 0 ≤ c.1 → 0 ≤ c.2 → 0 ≤ (lowHigh c ns).1 ∧ 0 ≤ (lowHigh c ns).2
  | [], _, _, h, h' => ⟨h, h'⟩
  | n :: r, c, ho, h, h' => low_pos r _ (fun k hk => ho k (.tail _ hk)) (by have := ho n (.head _); show 0 ≤ c.1 + n; omega) (by have := ho n (.head _); show 0 ≤ c.2 + c.1 + n; omega)
theorem adler_law : ∀ (ns : List Int) (c d : Int × Int), c.1 % 65521 = d.1 % 65521 → c.2 % 65521 = d.2 % 65521 →
    (lowHigh c ns).1 % 65521 = (ns.foldl adlerStep d).1 % 65521 ∧ (lowHigh c ns).2 % 65521 = (ns.foldl adlerStep d).2 % 65521
  | [], _, _, h, h' => ⟨h, h'⟩
  | n :: r, c, d, h, h' => adler_law r (c.1 + n, c.2 + c.1 + n) (adlerStep d n) (by show (c.1 + n) % 65521 = ((d.1 + n) % 65521) % 65521; rw [Int.emod_emod, Int.add_emod, h, ← Int.add_emod]) (by show (c.2 + c.1 + n) % 65521 = ((d.2 + (d.1 + n) % 65521) % 65521) % 65521; rw [Int.emod_emod, Int.add_emod_emod, ← Int.add_assoc, Int.add_emod (c.2 + c.1), Int.add_emod c.2, h, h', ← Int.add_emod d.2, ← Int.add_emod])
theorem sum_law (pss : List (List Int)) : sumI pss = adlerI pss.flatten := by
  obtain ⟨⟨a1, a2⟩, a3, a4⟩ := adler_range pss.flatten (1, 0) (by decide)
  obtain ⟨h1, h2⟩ := adler_law pss.flatten (1, 0) (1, 0) rfl rfl
  unfold sumI adlerI
  omega
theorem sum_range (pss : List (List Int)) : 0 ≤ sumI pss ∧ sumI pss < 4294967296 := by
  unfold sumI
  omega
theorem stream_end (a b : Int) (pss : List (List Int)) {z : Int} (hz : z = ((2 + (blocksI pss pss.length).length : Nat) : Int)) : get32 (streamI a b pss) z = adlerI pss.flatten ∧ z + 4 = ((streamI a b pss).length : Int) := by
  refine ⟨?_, by rw [stream_length]; omega⟩
  have e : streamI a b pss = ([a, b] ++ blocksI pss pss.length) ++ (four (sumI pss) ++ []) := by
    unfold streamI sumI
    simp
  rw [e, get32_four (sum_range pss).1 (sum_range pss).2 (by simp; omega), sum_law]
section
variable {prog : Program} {w : World}
set_option maxHeartbeats 8000000 in
theorem unstored_spec (bs : Array UInt8) (t : Tok) (a b : Int) (pss : List (List Int)) (hbs : KBw.bInts bs = streamI a b pss) (ha : a % 16 = 8) (hab : (256 * a + b) % 31 = 0) (hb32 : Builtin.bitAnd b 32 = 0)
    (hz : pss.flatten.length ≤ 2000) (hn : 1 ≤ pss.length ∧ pss.length ≤ 3) :
    SpecC prog w 115 [.bytes bs t] 6 60 (fun _ => True) (RetBytes pss.flatten) := by
  intro p loose mean mg mb dp un gd outer base s Q E B X T hd hu hp hret
  have hlen : (streamI a b pss).length ≤ 2021 := by
    have := blocks_length pss pss.length (Nat.le_refl _)
    rw [List.take_length] at this
    rw [stream_length]; omega
  have hlen2 := stream_length a b pss
  have hab' : Int.fmod (256 * (streamI a b pss).getD (Int.toNat 0) 0 + (streamI a b pss).getD (Int.toNat 1) 0) 31 = 0 := (Int.fmod_eq_emod_of_nonneg _ (by decide)).trans hab
  have hb32' : Builtin.bitAnd ((streamI a b pss).getD (Int.toNat 1) 0) 32 = 0 := hb32
  have ha' : (streamI a b pss).getD (Int.toNat 0) 0 % 16 = 8 := ha
  with_unfolding_all refine' enterCN ?k1 ?k2 ?k3 ?k4 ?k5 ?k6 ?k7 ?_ ?c1 ?c2 ?c3 ?c4
  (((case k1 => assumption); (case k2 => assumption); (try ((case k2b => assumption); (case k2c => assumption); (case k2d => first | exact List.forall_mem_nil _ | (intro q hq; cases List.mem_singleton.mp hq; exact And.intro (by assumption) (by assumption))))); (case k3 => k_is); (case k4 => k_is); (case k5 => omega); (case k6 => first | exact rfl | exact binds_K (by assumption) rfl (by k_is) rfl rfl rfl); (case k7 => first | exact locs rfl | exact rfl); (case c1 => exact rfl); (case c2 => exact rfl); (case c3 => exact rfl); (try (case c4 => decide))); intro _ _ F9; (dsimp only [List.map, List.zip, List.zipWith, List.reverse, List.reverseAux] at F9); revert F9; intro _ _; (try dsimp only); (try ((first | refine fold_env ?_ | refine fold_envC ?_); intro M₉ A₉ e₉ g₉ d₉ o₉)); (try k_fold))
  (refine wpC_execs_consA ?_; ((try k_fold); repeat' (first | (k_unfold; (try dsimp only)) | ((with_reducible show wpAny _ _ (binaryOp .BitAnd (.int _ _) (.int _ _)) _ _ _); first | refine and_lit (bitAnd_m4 _) ?_ | refine and_lit (bitAnd_m8 _) ?_ | refine and_lit (bitAnd_m16 _) ?_; (try dsimp only)) | ((with_reducible show wpAny _ _ (subscriptTail _ _ (.bytes _ _) (.int _ _)) _ _ _); refine KBw.item_K (by assumption) (by omega) (by omega) (by omega) ?_; intro _ _ _ _; (try dsimp only)) | ((fail_if_success (with_reducible (first | show wpAny _ _ (exec (.For _ _ _ _ _) _) _ _ _ | show wpAny _ _ (exec (.While _ _ _ _) _) _ _ _ | show wpAny _ _ (pyIter _) _ _ _ | show wpAny _ _ (call (.type "zip") _) _ _ _ | show wpAny _ _ (call (.type "enumerate") _) _ _ _ | show wpAny _ _ (eval (.ListComp _ _ _ _) _) _ _ _ | show wpAny _ _ (exec (.Assign _ (.ListComp _ _ _ _) _) _) _ _ _))); walk1; (try dsimp only)))); all_goals (try dsimp only))
  refine wpC_execs_cons (Assign_swappedC (Tuple_C1 (wpC_Call_Name ?_)))
  ((try k_fold); repeat' (first | (k_unfold; (try dsimp only)) | ((fail_if_success (with_reducible (first | show wpAny _ _ (exec (.For _ _ _ _ _) _) _ _ _ | show wpAny _ _ (exec (.While _ _ _ _) _) _ _ _ | show wpAny _ _ (pyIter _) _ _ _ | show wpAny _ _ (call (.type "zip") _) _ _ _ | show wpAny _ _ (call (.type "enumerate") _) _ _ _ | show wpAny _ _ (eval (.ListComp _ _ _ _) _) _ _ _ | show wpAny _ _ (exec (.Assign _ (.ListComp _ _ _ _) _) _) _ _ _))); walk1; (try dsimp only))))
  refine callWith_B0 rfl (newBaM (by assumption) (by assumption) ?_)
  intro r h2 F2 N2 l1 l2
  ((try k_fold); repeat' (first | (k_unfold; (try dsimp only)) | ((fail_if_success (with_reducible (first | show wpAny _ _ (exec (.For _ _ _ _ _) _) _ _ _ | show wpAny _ _ (exec (.While _ _ _ _) _) _ _ _ | show wpAny _ _ (pyIter _) _ _ _ | show wpAny _ _ (call (.type "zip") _) _ _ _ | show wpAny _ _ (call (.type "enumerate") _) _ _ _ | show wpAny _ _ (eval (.ListComp _ _ _ _) _) _ _ _ | show wpAny _ _ (exec (.Assign _ (.ListComp _ _ _ _) _) _) _ _ _))); walk1; (try dsimp only))))
  (try dsimp only)
  rename News _ _ _ _ => N
  rename Fr _ _ _ _ => F
  have e0 : decide (0 = pss.length) = false := decide_eq_false (by omega)
  refine wpC_execs_cons (whileC (σ := Array UInt8 × Nat × Int × Tok) (fun c => [(r, baOf c.1)]) (fun c => [(Str.ofString "found", .ref r), (Str.ofString "at", .int c.2.2.1 c.2.2.2), (Str.ofString "is_last", .bool (decide (c.2.1 = pss.length))), (Str.ofString "octets", .bytes bs t)])
    (fun c => c.2.1 ≤ pss.length ∧ c.2.2.1 = ((2 + (blocksI pss c.2.1).length : Nat) : Int) ∧ KBw.bInts c.1 = (pss.take c.2.1).flatten) (fun c => pss.length - c.2.1) (#[], 0, 2, _) F (fun p hp => N p (by rcases List.mem_singleton.mp hp with rfl; k_mem)) (by dsimp only; rw [e0]; (repeat (first | exact List.forall_mem_nil _ | refine List.forall_mem_cons.mpr ⟨by first | rfl | assumption, ?_⟩))) ⟨Nat.zero_le _, rfl, rfl⟩ ?_)
  intro hrx0 u h tk hrx4 F' N'
  obtain ⟨c, j, z, tz⟩ := hrx0
  obtain ⟨hj, hz', hc⟩ := hrx4
  clear F N
  dsimp only at hj hz' hc F' N'
  by_cases hlast : j = pss.length
  · subst hlast
    rw [decide_eq_true rfl] at F'
    obtain ⟨hend, hend2⟩ := stream_end a b pss hz'
    rw [List.take_length] at hc
    walk_at "mine in"
    ((try k_fold); repeat' (first | (k_unfold; (try dsimp only)) | ((fail_if_success (with_reducible (first | show wpAny _ _ (exec (.For _ _ _ _ _) _) _ _ _ | show wpAny _ _ (exec (.While _ _ _ _) _) _ _ _ | show wpAny _ _ (pyIter _) _ _ _ | show wpAny _ _ (call (.type "zip") _) _ _ _ | show wpAny _ _ (call (.type "enumerate") _) _ _ _ | show wpAny _ _ (eval (.ListComp _ _ _ _) _) _ _ _ | show wpAny _ _ (exec (.Assign _ (.ListComp _ _ _ _) _) _) _ _ _))); walk1; (try dsimp only))))
    (refine wpC_execs_consA ?_; ((try k_fold); repeat' (first | (k_unfold; (try dsimp only)) | ((with_reducible show wpAny _ _ (call (.ref _) _) _ _ _); refine' Spec.useInt (adler_spec _ _ _ (by assumption)) (by k_asm) (by k_asm) (by k_asm) (by k_asm) (by k_asm) rfl rfl rfl (by walk_at "mine room") (by walk_at "mine room") (by (exact isBa_of (by k_asm) (by k_mem))) ?_; intro _ _ _ _ _; (try dsimp only)) | ((with_reducible show wpAny _ _ (call (.ref _) _) _ _ _); refine' Spec.useInt (get32_spec _ _ _ _ _ (by assumption) (by walk_at "mine len") (by walk_at "mine len") (by walk_at "mine len")) (h := ?_); intro _ _ _ _ _; (try dsimp only)) | ((fail_if_success (with_reducible (first | show wpAny _ _ (exec (.For _ _ _ _ _) _) _ _ _ | show wpAny _ _ (exec (.While _ _ _ _) _) _ _ _ | show wpAny _ _ (pyIter _) _ _ _ | show wpAny _ _ (call (.type "zip") _) _ _ _ | show wpAny _ _ (call (.type "enumerate") _) _ _ _ | show wpAny _ _ (eval (.ListComp _ _ _ _) _) _ _ _ | show wpAny _ _ (exec (.Assign _ (.ListComp _ _ _ _) _) _) _ _ _))); walk1; (try dsimp only)))); all_goals (try dsimp only))
    (refine wpC_execs_consA ?_; ((try k_fold); repeat' (first | (k_unfold; (try dsimp only)) | ((with_reducible show wpAny _ _ (call (.type "bytes") [.ref _]) _ _ _); refine' bytes_of_ba (by (exact isBa_of (by k_asm) (by k_mem))) (by rw [PySem.sizeLine_eq, ← KBw.ints_length]; simp only [*]; omega) ?_; intro _ _; (try dsimp only)) | ((fail_if_success (with_reducible (first | show wpAny _ _ (exec (.For _ _ _ _ _) _) _ _ _ | show wpAny _ _ (exec (.While _ _ _ _) _) _ _ _ | show wpAny _ _ (pyIter _) _ _ _ | show wpAny _ _ (call (.type "zip") _) _ _ _ | show wpAny _ _ (call (.type "enumerate") _) _ _ _ | show wpAny _ _ (eval (.ListComp _ _ _ _) _) _ _ _ | show wpAny _ _ (exec (.Assign _ (.ListComp _ _ _ _) _) _) _ _ _))); walk1; (try dsimp only)))); all_goals (try dsimp only))
    exact hret _ _ _ (Fr.keep (by assumption)) (fr_size (by assumption)) ⟨_, _, rfl, hc⟩
  · rw [decide_eq_false hlast] at F'
    have hpj : pss[j]? = some pss[j] := List.getElem?_eq_getElem (by omega)
    obtain ⟨q0, q1, q2, q3, q4, q5, q6, q7⟩ := stream_at (a := a) (b := b) hpj hz'
    have hpl : pss[j].length ≤ 2000 := Nat.le_trans (flat_le (List.getElem_mem _)) hz
    have b0 : nAt (streamI a b pss) z = 0 ∨ nAt (streamI a b pss) z = 1 := by rw [q0]; split <;> simp
    have b1 : nAt (streamI a b pss) (z + 1) + 256 * nAt (streamI a b pss) (z + 2) = (pss[j].length : Int) := by omega
    have b2 : nAt (streamI a b pss) (z + 3) + 256 * nAt (streamI a b pss) (z + 4) = 65535 - (pss[j].length : Int) := by omega
    walk_at "mine in"
    ((try k_fold); repeat' (first | (k_unfold; (try dsimp only)) | ((fail_if_success (with_reducible (first | show wpAny _ _ (exec (.For _ _ _ _ _) _) _ _ _ | show wpAny _ _ (exec (.While _ _ _ _) _) _ _ _ | show wpAny _ _ (pyIter _) _ _ _ | show wpAny _ _ (call (.type "zip") _) _ _ _ | show wpAny _ _ (call (.type "enumerate") _) _ _ _ | show wpAny _ _ (eval (.ListComp _ _ _ _) _) _ _ _ | show wpAny _ _ (exec (.Assign _ (.ListComp _ _ _ _) _) _) _ _ _))); walk1; (try dsimp only))))
    (refine wpC_execs_consA ?_; ((try k_fold); repeat' (first | (k_unfold; (try dsimp only)) | ((with_reducible show wpAny _ _ (call (.ref _) _) _ _ _); refine' Spec.useInt (block_spec _ _ _ _ _ _ (by assumption) (by walk_at "mine len") (by walk_at "mine len") (by assumption) (by assumption) (by assumption) (by walk_at "mine len")) (h := ?_); intro _ _ _ _ _; (try dsimp only)) | ((fail_if_success (with_reducible (first | show wpAny _ _ (exec (.For _ _ _ _ _) _) _ _ _ | show wpAny _ _ (exec (.While _ _ _ _) _) _ _ _ | show wpAny _ _ (pyIter _) _ _ _ | show wpAny _ _ (call (.type "zip") _) _ _ _ | show wpAny _ _ (call (.type "enumerate") _) _ _ _ | show wpAny _ _ (eval (.ListComp _ _ _ _) _) _ _ _ | show wpAny _ _ (exec (.Assign _ (.ListComp _ _ _ _) _) _) _ _ _))); walk1; (try dsimp only)))); all_goals (try dsimp only))
    (refine wpC_execs_consA ?_; ((try k_fold); repeat' (first | (k_unfold; (try dsimp only)) | ((with_reducible show wpAny _ _ (subscriptTail _ _ (.bytes _ _) (.int _ _)) _ _ _); refine KBw.item_K (by assumption) (by omega) (by omega) (by omega) ?_; intro _ _ _ _; (try dsimp only)) | ((fail_if_success (with_reducible (first | show wpAny _ _ (exec (.For _ _ _ _ _) _) _ _ _ | show wpAny _ _ (exec (.While _ _ _ _) _) _ _ _ | show wpAny _ _ (pyIter _) _ _ _ | show wpAny _ _ (call (.type "zip") _) _ _ _ | show wpAny _ _ (call (.type "enumerate") _) _ _ _ | show wpAny _ _ (eval (.ListComp _ _ _ _) _) _ _ _ | show wpAny _ _ (exec (.Assign _ (.ListComp _ _ _ _) _) _) _ _ _))); walk1; (try dsimp only)))); all_goals (try dsimp only))
    have hlb : ((streamI a b pss).getD z.toNat 0 == 1) = decide (j + 1 = pss.length) := by
      have q0' : (streamI a b pss).getD z.toNat 0 = _ := q0
      rw [q0']
      by_cases hc' : j = pss.length - 1
      · rw [decide_eq_true hc', decide_eq_true (by omega)]; rfl
      · rw [decide_eq_false hc', decide_eq_false (by omega)]; rfl
    rename Fr _ _ _ _ => FF
    rw [hlb] at FF
    refine wpC_execs_cons (wpC_Expr (wpC_Call_built rfl rfl rfl BF.plainAttrs_ba BF.slot_extend BF.type_extend ?_))
    ((try k_fold); repeat' (first | (k_unfold; (try dsimp only)) | ((fail_if_success (with_reducible (first | show wpAny _ _ (exec (.For _ _ _ _ _) _) _ _ _ | show wpAny _ _ (exec (.While _ _ _ _) _) _ _ _ | show wpAny _ _ (pyIter _) _ _ _ | show wpAny _ _ (call (.type "zip") _) _ _ _ | show wpAny _ _ (call (.type "enumerate") _) _ _ _ | show wpAny _ _ (eval (.ListComp _ _ _ _) _) _ _ _ | show wpAny _ _ (exec (.Assign _ (.ListComp _ _ _ _) _) _) _ _ _))); walk1; (try dsimp only))))
    refine' BuiltOn.ba ?hb ?_
    (case hb => (exact isBa_of (by k_asm) (by k_mem)))
    refine callWith_B1 rfl ?_
    ((try k_fold); repeat' (first | (k_unfold; (try dsimp only)) | ((with_reducible show wpAny _ _ (subscriptTail _ (PySem.Expr.Slice _ _ _ _) (Value.bytes _ _) (Value.ref _)) _ _ _); refine' cut_bytes (by k_asm) (by k_asm) (by assumption) (by walk_at "mine len") (by walk_at "mine len") (by walk_at "mine len") ?_ (by with_unfolding_all rfl) (by intro r'; with_unfolding_all rfl); intro _ _ _ _ _ _ _; (try dsimp only)) | ((fail_if_success (with_reducible (first | show wpAny _ _ (exec (.For _ _ _ _ _) _) _ _ _ | show wpAny _ _ (exec (.While _ _ _ _) _) _ _ _ | show wpAny _ _ (pyIter _) _ _ _ | show wpAny _ _ (call (.type "zip") _) _ _ _ | show wpAny _ _ (call (.type "enumerate") _) _ _ _ | show wpAny _ _ (eval (.ListComp _ _ _ _) _) _ _ _ | show wpAny _ _ (exec (.Assign _ (.ListComp _ _ _ _) _) _) _ _ _))); walk1; (try dsimp only))))
    rename Fr _ _ _ _ => F2
    rename News _ _ _ _ => N2
    rename KBw.bInts _ = List.take _ _ => hb'
    rw [q5] at hb'
    have hfl : (pss.take j).flatten.length ≤ 2000 := Nat.le_trans (take_flat_le pss j) hz
    refine extend_baM F2 N2 (by k_updF) hc hb' (by omega) ?_
    intro h' b' F3 N3 hb3
    (try dsimp only)
    clear F2 N2
    (refine wpC_execs_consA ?_; ((try k_fold); repeat' (first | (k_unfold; (try dsimp only)) | ((fail_if_success (with_reducible (first | show wpAny _ _ (exec (.For _ _ _ _ _) _) _ _ _ | show wpAny _ _ (exec (.While _ _ _ _) _) _ _ _ | show wpAny _ _ (pyIter _) _ _ _ | show wpAny _ _ (call (.type "zip") _) _ _ _ | show wpAny _ _ (call (.type "enumerate") _) _ _ _ | show wpAny _ _ (eval (.ListComp _ _ _ _) _) _ _ _ | show wpAny _ _ (exec (.Assign _ (.ListComp _ _ _ _) _) _) _ _ _))); walk1; (try dsimp only)))); all_goals (try dsimp only))
    refine wpC_execs_nil ?_
    show TurnEnd _ _ _ _ _ _ _
    refine TurnEnd.intro (b', j + 1, z + 5 + (pss[j].length : Int), _) (by assumption) (by assumption) (fun _ hp => hp) (by (repeat (first | exact List.forall_mem_nil _ | refine List.forall_mem_cons.mpr ⟨by first | rfl | assumption, ?_⟩))) ⟨⟨by show j + 1 ≤ pss.length; omega, q6, ?_⟩, by show pss.length - (j + 1) < pss.length - j; omega⟩
    rw [hb3, take_flat hpj]
end
theorem fresh_Read : True := by
  w_top off
  exact trivial
def signI : List Int := [137, 80, 78, 71, 13, 10, 26, 10]
def chunksI (cks : List (Str × List Int)) : List Int := cks.flatMap fun c => chunkI c.1 c.2
def fileI (cks : List (Str × List Int)) : List Int := signI ++ chunksI cks
theorem chunks_split {cks : List (Str × List Int)} {j : Nat} {c : Str × List Int} (h : cks[j]? = some c) : chunksI cks = chunksI (cks.take j) ++ (chunkI c.1 c.2 ++ chunksI (cks.drop (j + 1))) := by
  have e : cks = cks.take j ++ (c :: cks.drop (j + 1)) := by
    have hlt : j < cks.length := (List.getElem?_eq_some_iff.mp h).1
    have h' : cks[j] = c := (List.getElem?_eq_some_iff.mp h).2
    rw [← h', List.getElem_cons_drop, List.take_append_drop]
  conv => lhs; rw [e]
  unfold chunksI
  rw [List.flatMap_append, List.flatMap_cons]
theorem chunks_take {cks : List (Str × List Int)} {j : Nat} {c : Str × List Int} (h : cks[j]? = some c) : chunksI (cks.take (j + 1)) = chunksI (cks.take j) ++ chunkI c.1 c.2 := by
  unfold chunksI
  rw [List.take_add_one, h, List.flatMap_append]
  simp
theorem chunk_at {cks : List (Str × List Int)} {j : Nat} {x : Str} {d : List Int} (h : cks[j]? = some (x, d)) (hx : x.cps.size = 4) (hok : OkB (signs x ++ d)) (hd : d.length ≤ 2000) {z : Int} (hz : z = ((8 + (chunksI (cks.take j)).length : Nat) : Int)) :
    get32 (fileI cks) z = (d.length : Int) ∧ z + 12 + d.length ≤ ((fileI cks).length : Int) ∧ ((fileI cks).drop (z + 4).toNat).take ((z + 8 + d.length).toNat - (z + 4).toNat) = signs x ++ d ∧
    get32 (fileI cks) (z + 8 + d.length) = crcOf (signs x ++ d) ∧ z + 12 + d.length = ((8 + (chunksI (cks.take (j + 1))).length : Nat) : Int) := by
  have hs : (signs x).length = 4 := by rw [signs_length, hx]
  have hc := crcOf_range hok
  have e : fileI cks = (signI ++ chunksI (cks.take j)) ++ (four d.length ++ (signs x ++ d ++ (four (crcOf (signs x ++ d)) ++ chunksI (cks.drop (j + 1))))) := by
    unfold fileI
    rw [chunks_split h]
    unfold chunkI
    simp only [List.append_assoc]
  have hl : (signI ++ chunksI (cks.take j)).length = 8 + (chunksI (cks.take j)).length := by rw [List.length_append]; rfl
  rw [e]
  refine ⟨?_, ?_, ?_, ?_, ?_⟩
  · exact get32_four (by omega) (by omega) (by rw [hl]; exact hz)
  · simp only [List.length_append, four_length', hs]
    have hl' := hl
    simp only [List.length_append] at hl'
    omega
  · have e1 : (z + 4).toNat = (signI ++ chunksI (cks.take j)).length + 4 := by rw [hl]; omega
    have e2 : (z + 8 + d.length).toNat - (z + 4).toNat = (signs x ++ d).length := by rw [List.length_append, hs]; omega
    rw [e2, e1, List.drop_append, List.drop_eq_nil_of_le (by omega), Nat.add_sub_cancel_left]
    show List.take _ ([] ++ List.drop 4 (four d.length ++ _)) = _
    rw [List.nil_append, List.drop_append, List.drop_eq_nil_of_le (Nat.le_of_eq (four_length' _))]
    rw [four_length', Nat.sub_self, List.drop_zero, List.nil_append, List.take_append_of_le_length (Nat.le_refl _), List.take_length]
  · have e3 : (signI ++ chunksI (cks.take j)) ++ (four d.length ++ (signs x ++ d ++ (four (crcOf (signs x ++ d)) ++ chunksI (cks.drop (j + 1))))) =
        ((signI ++ chunksI (cks.take j)) ++ four d.length ++ (signs x ++ d)) ++ (four (crcOf (signs x ++ d)) ++ chunksI (cks.drop (j + 1))) := by simp only [List.append_assoc]
    rw [e3]
    exact get32_four hc.1 (by omega) (by simp only [List.length_append, four_length', hs] at *; omega)
  · rw [chunks_take h, List.length_append, chunk_length x d hx]; omega
section
variable {prog : Program} {w : World} {A : Around} {E : Value → Shared → Prop} {h₀ : Heap} {L : Addr} {m : Str → Option Value} {news : List (Addr × Obj)} {b : Array UInt8} {ns : List Int} {Q : Value → Shared → Prop}
theorem cut_to {hp : Heap} {gn : _} {dr : _} {tk : Nat} {os : _} {value slice : Expr} {y : Int} {t ty : Tok} (F : Fr h₀ L hp m) (N : News h₀ L hp news) (hk : KBw.bInts b = ns) (hy : 0 ≤ y) (hz : ns.length ≤ 16777216)
    (h : ∀ h' b' t' k, Fr h₀ L h' m → News h₀ L h' news → KBw.bInts b' = ns.take y.toNat → Q (.bytes b' t') (Shared.mk h' gn dr k os))
    (hs : subscripted slice false (.bytes b t) (.ref hp.objs.size) = operate [.ref hp.objs.size, .bytes b t] (getItem (.bytes b t) (.ref hp.objs.size))) (ht : ∀ r, letTemporaryGo value (.bytes b t) r = pure ()) :
    wpAny (model prog w) A (subscriptTail value slice (.bytes b t) (.ref hp.objs.size)) Q E (Shared.mk (hp.push { cls := .type "slice", data := .fields #[.none, .int y ty, .none] }) gn dr tk os) := by
  refine KBc.slice_K (s := ⟨hp, gn, dr, tk, os⟩) F N hk .none (.int _ _) hz (fun h' t' k F' N' e => h h' _ t' k F' N' ?_) hs ht
  rw [e]
  have cx : ∀ z : Int, 0 ≤ z → PySem.clipAt ns.length z = min z.toNat ns.length := fun z hz => by unfold PySem.clipAt; (try simp only [show ¬ z < 0 by omega, if_false]); (try split) <;> first | exact clamp hz | omega
  simp only [Option.elim, cx y hy, List.drop_zero, Nat.sub_zero]
  by_cases hyl : y.toNat ≤ ns.length
  · rw [Nat.min_eq_left hyl]
  · rw [Nat.min_eq_right (by omega), List.take_of_length_le (Nat.le_refl _), List.take_of_length_le (by omega)]
theorem cut_from {hp : Heap} {gn : _} {dr : _} {tk : Nat} {os : _} {value slice : Expr} {x : Int} {t tx : Tok} (F : Fr h₀ L hp m) (N : News h₀ L hp news) (hk : KBw.bInts b = ns) (hx : 0 ≤ x) (hz : ns.length ≤ 16777216)
    (h : ∀ h' b' t' k, Fr h₀ L h' m → News h₀ L h' news → KBw.bInts b' = ns.drop x.toNat → Q (.bytes b' t') (Shared.mk h' gn dr k os))
    (hs : subscripted slice false (.bytes b t) (.ref hp.objs.size) = operate [.ref hp.objs.size, .bytes b t] (getItem (.bytes b t) (.ref hp.objs.size))) (ht : ∀ r, letTemporaryGo value (.bytes b t) r = pure ()) :
    wpAny (model prog w) A (subscriptTail value slice (.bytes b t) (.ref hp.objs.size)) Q E (Shared.mk (hp.push { cls := .type "slice", data := .fields #[.int x tx, .none, .none] }) gn dr tk os) := by
  refine KBc.slice_K (s := ⟨hp, gn, dr, tk, os⟩) F N hk (.int _ _) .none hz (fun h' t' k F' N' e => h h' _ t' k F' N' ?_) hs ht
  rw [e]
  have cx : ∀ z : Int, 0 ≤ z → PySem.clipAt ns.length z = min z.toNat ns.length := fun z hz => by unfold PySem.clipAt; (try simp only [show ¬ z < 0 by omega, if_false]); (try split) <;> first | exact clamp hz | omega
  simp only [Option.elim, cx x hx]
  by_cases hxl : x.toNat ≤ ns.length
  · rw [Nat.min_eq_left hxl, List.take_of_length_le (by rw [List.length_drop]; omega)]
  · rw [Nat.min_eq_right (by omega), List.drop_length, List.drop_eq_nil_of_le (by omega)]; simp
theorem cut_bytesV {hp : Heap} {gn : _} {dr : _} {tk : Nat} {os : _} {value slice : Expr} {x y : Int} {t tx ty : Tok} {ms : List Int} (F : Fr h₀ L hp m) (N : News h₀ L hp news) (hk : KBw.bInts b = ns) (hv : (ns.drop x.toNat).take (y.toNat - x.toNat) = ms) (hx : 0 ≤ x) (hy : 0 ≤ y) (hz : ns.length ≤ 16777216)
    (h : ∀ h' b' t' k, Fr h₀ L h' m → News h₀ L h' news → KBw.bInts b' = ms → Q (.bytes b' t') (Shared.mk h' gn dr k os))
    (hs : subscripted slice false (.bytes b t) (.ref hp.objs.size) = operate [.ref hp.objs.size, .bytes b t] (getItem (.bytes b t) (.ref hp.objs.size))) (ht : ∀ r, letTemporaryGo value (.bytes b t) r = pure ()) :
    wpAny (model prog w) A (subscriptTail value slice (.bytes b t) (.ref hp.objs.size)) Q E (Shared.mk (hp.push { cls := .type "slice", data := .fields #[.int x tx, .int y ty, .none] }) gn dr tk os) :=
  cut_bytes F N hk hx hy hz (fun h' b' t' k F' N' e => h h' b' t' k F' N' (e.trans hv)) hs ht
theorem cut_toV {hp : Heap} {gn : _} {dr : _} {tk : Nat} {os : _} {value slice : Expr} {y : Int} {t ty : Tok} {ms : List Int} (F : Fr h₀ L hp m) (N : News h₀ L hp news) (hk : KBw.bInts b = ns) (hv : ns.take y.toNat = ms) (hy : 0 ≤ y) (hz : ns.length ≤ 16777216)
    (h : ∀ h' b' t' k, Fr h₀ L h' m → News h₀ L h' news → KBw.bInts b' = ms → Q (.bytes b' t') (Shared.mk h' gn dr k os))
    (hs : subscripted slice false (.bytes b t) (.ref hp.objs.size) = operate [.ref hp.objs.size, .bytes b t] (getItem (.bytes b t) (.ref hp.objs.size))) (ht : ∀ r, letTemporaryGo value (.bytes b t) r = pure ()) :
    wpAny (model prog w) A (subscriptTail value slice (.bytes b t) (.ref hp.objs.size)) Q E (Shared.mk (hp.push { cls := .type "slice", data := .fields #[.none, .int y ty, .none] }) gn dr tk os) :=
  cut_to F N hk hy hz (fun h' b' t' k F' N' e => h h' b' t' k F' N' (e.trans hv)) hs ht
theorem cut_fromV {hp : Heap} {gn : _} {dr : _} {tk : Nat} {os : _} {value slice : Expr} {x : Int} {t tx : Tok} {ms : List Int} (F : Fr h₀ L hp m) (N : News h₀ L hp news) (hk : KBw.bInts b = ns) (hv : ns.drop x.toNat = ms) (hx : 0 ≤ x) (hz : ns.length ≤ 16777216)
    (h : ∀ h' b' t' k, Fr h₀ L h' m → News h₀ L h' news → KBw.bInts b' = ms → Q (.bytes b' t') (Shared.mk h' gn dr k os))
    (hs : subscripted slice false (.bytes b t) (.ref hp.objs.size) = operate [.ref hp.objs.size, .bytes b t] (getItem (.bytes b t) (.ref hp.objs.size))) (ht : ∀ r, letTemporaryGo value (.bytes b t) r = pure ()) :
    wpAny (model prog w) A (subscriptTail value slice (.bytes b t) (.ref hp.objs.size)) Q E (Shared.mk (hp.push { cls := .type "slice", data := .fields #[.int x tx, .none, .none] }) gn dr tk os) :=
  cut_from F N hk hx hz (fun h' b' t' k F' N' e => h h' b' t' k F' N' (e.trans hv)) hs ht
theorem bInts_inj {b c : Array UInt8} (h : KBw.bInts b = KBw.bInts c) : b.toList = c.toList := by
  have key : ∀ l k : List UInt8, l.map (fun c : UInt8 => (c.toNat : Int)) = k.map (fun c : UInt8 => (c.toNat : Int)) → l = k := by
    intro l
    induction l with
    | nil => intro k h; cases k with
      | nil => rfl
      | cons _ _ => cases h
    | cons a r ih =>
      intro k h
      cases k with
      | nil => cases h
      | cons a' r' =>
        simp only [List.map_cons, List.cons.injEq] at h
        rw [ih _ h.2, show a = a' from UInt8.toNat_inj.mp (by omega)]
  exact key _ _ h
theorem ne_bytes_same {s : Shared} {c : Array UInt8} {t u : Tok} {ks ms : List Int} (hb : KBw.bInts b = ks) (hk : ks = ms) (hc : KBw.bInts c = ms) (h : Q (.bool false) s) : wpAny (model prog w) A (compareOp .NotEq (.bytes b t) (.bytes c u)) Q E s := by
  refine ne_bytes ?_
  rw [bInts_inj ((hb.trans hk).trans hc.symm), bne_self_eq_false]
  exact h
end
section
variable {prog : Program} {w : World}
theorem get32_at (b : Array UInt8) (ns : List Int) (a n : Int) (t u : Tok) (hv : get32 ns a = n) (hb : KBw.bInts b = ns) (h0 : 0 ≤ a) (h1 : a + 4 ≤ ns.length) (h2 : ns.length ≤ 16777216) : Spec prog w 78 [.bytes b t, .int a u] 2 10 (fun _ => True) (RetInt n) := hv ▸ get32_spec b ns a t u hb h0 h1 h2
end
theorem join_four {x : Str} (hx : x.cps.size = 4) : Txt.join (Str.ofString "") ((signs x).map fun k => (⟨#[k.toNat]⟩ : Str)) = x ∧ JoinOk (Str.ofString "") ((signs x).map fun k => (⟨#[k.toNat]⟩ : Str)) = true := by
  obtain ⟨⟨l⟩⟩ := x
  match l, hx with
  | [a, b, c, d], _ => exact ⟨rfl, rfl⟩
section
variable {prog : Program} {w : World} {A : Around} {E : Value → Shared → Prop} {s : Shared}
theorem join_names {D : Addr} {x : Str} {t : Tok} {c : List (Str × Tok)} {Q : Value → Shared → Prop} (hx : x.cps.size = 4) (hl : s.heap.IsList D (strValues c).toArray) (hc : c.map (·.1) = (signs x).map fun k => (⟨#[k.toNat]⟩ : Str))
    (h : ∀ t' k, Q (.str x t') { s with toks := k }) : wpAny (model prog w) A (call (.builtin "str.join") [.str (Str.ofString "") t, .ref D]) Q E s := by
  obtain ⟨h1, h2⟩ := join_four hx
  refine SC.join hl hc h2 fun t' k => ?_
  rw [h1]
  exact h t' k
end
/-- the tuple of a chunk -/
def ckT (x : Str) (tx : Tok) (b : Array UInt8) (tb : Tok) : Obj := { cls := .type "tuple", data := .seq #[.str x tx, .bytes b tb] }
abbrev CkR := Addr × Str × Tok × Array UInt8 × Tok
def ckL (ts : List CkR) : List (Addr × Obj) := ts.map fun t => (t.1, ckT t.2.1 t.2.2.1 t.2.2.2.1 t.2.2.2.2)
def NewChunks (cks : List (Str × List Int)) (h : Heap) (v : Value) (h' : Heap) : Prop :=
  ∃ l c, ∃ ts : List CkR, v = .ref l ∧ h'.get? l = some (listOf (ts.map fun t => Value.ref t.1).toArray c) ∧ h.objs.size ≤ l ∧ (∀ q ∈ ckL ts, h'.get? q.1 = some q.2 ∧ h.objs.size ≤ q.1) ∧ ts.map (fun t => (t.2.1, KBw.bInts t.2.2.2.1)) = cks
section
variable {prog : Program} {w : World}
set_option maxHeartbeats 8000000 in
theorem read_spec (bs : Array UInt8) (t : Tok) (cks : List (Str × List Int)) (hbs : KBw.bInts bs = fileI cks) (hx : ∀ c ∈ cks, c.1.cps.size = 4 ∧ OkB (signs c.1 ++ c.2) ∧ c.2.length ≤ 2000) (hn : cks.length ≤ 10) (hz : (fileI cks).length ≤ 100000) :
    Spec prog w 125 [.bytes bs t] 6 60 (fun _ => True) (NewChunks cks) := by
  intro p loose mean mg mb dp un gd outer base s Q E B X T hd hu hp hret
  have h8 : (fileI cks).take (Int.toNat 8) = signI := by
    unfold fileI
    exact List.take_left' rfl
  (with_unfolding_all refine' enterN ?k1 ?k2 ?k3 ?k4 ?k5 ?k6 ?k7 ?_ ?c1 ?c2 ?c3 ?c4; (((case k1 => assumption); (case k2 => assumption); (try ((case k2b => assumption); (case k2c => assumption); (case k2d => first | exact List.forall_mem_nil _ | (intro q hq; cases List.mem_singleton.mp hq; exact And.intro (by assumption) (by assumption))))); (case k3 => k_is); (case k4 => k_is); (case k5 => omega); (case k6 => first | exact rfl | exact binds_K (by assumption) rfl (by k_is) rfl rfl rfl); (case k7 => first | exact locs rfl | exact rfl); (case c1 => exact rfl); (case c2 => exact rfl); (case c3 => exact rfl); (try (case c4 => decide))); intro _ _ F9; (dsimp only [List.map, List.zip, List.zipWith, List.reverse, List.reverseAux] at F9); revert F9; intro _ _; (try dsimp only); (try ((first | refine fold_env ?_ | refine fold_envC ?_); intro M₉ A₉ e₉ g₉ d₉ o₉)); (try k_fold)))
  ((try k_fold); repeat' (first | (k_unfold; (try dsimp only)) | ((with_reducible show wpAny _ _ (compareOp .NotEq (.bytes _ _) (.bytes _ _)) _ _ _); refine' ne_bytes_same (by assumption) (by first | assumption | exact rfl) (by with_unfolding_all exact rfl) ?_; (try dsimp only)) | ((with_reducible show wpAny _ _ (subscriptTail _ (PySem.Expr.Slice _ _ _ _) (Value.bytes _ _) (Value.ref _)) _ _ _); (first | refine' cut_toV (by k_asm) (by k_asm) (by assumption) (by assumption) (by walk_at "mine len") (by walk_at "mine len") ?_ (by with_unfolding_all rfl) (by intro r'; with_unfolding_all rfl) | refine' cut_to (by k_asm) (by k_asm) (by assumption) (by walk_at "mine len") (by walk_at "mine len") ?_ (by with_unfolding_all rfl) (by intro r'; with_unfolding_all rfl) | refine' cut_fromV (by k_asm) (by k_asm) (by assumption) (by assumption) (by walk_at "mine len") (by walk_at "mine len") ?_ (by with_unfolding_all rfl) (by intro r'; with_unfolding_all rfl) | refine' cut_from (by k_asm) (by k_asm) (by assumption) (by walk_at "mine len") (by walk_at "mine len") ?_ (by with_unfolding_all rfl) (by intro r'; with_unfolding_all rfl)); intro _ _ _ _ _ _ _; (try dsimp only)) | ((fail_if_success (with_reducible (first | show wpAny _ _ (exec (.For _ _ _ _ _) _) _ _ _ | show wpAny _ _ (exec (.While _ _ _ _) _) _ _ _ | show wpAny _ _ (pyIter _) _ _ _ | show wpAny _ _ (call (.type "zip") _) _ _ _ | show wpAny _ _ (call (.type "enumerate") _) _ _ _ | show wpAny _ _ (eval (.ListComp _ _ _ _) _) _ _ _ | show wpAny _ _ (exec (.Assign _ (.ListComp _ _ _ _) _) _) _ _ _))); walk1; (try dsimp only))))
  rename_i l h4 l2 l1 D1 h5 l3 h6 h7 h8 F N
  refine whileR (σ := List CkR × Nat × Int × Tok) (fun c => (l, listOf (c.1.map fun t => Value.ref t.1).toArray c.2.1) :: ckL c.1) (fun c => [(Str.ofString "found", .ref l), (Str.ofString "at", .int c.2.2.1 c.2.2.2), (Str.ofString "octets", .bytes bs t)])
    (fun c => c.1.length ≤ cks.length ∧ c.2.2.1 = ((8 + (chunksI (cks.take c.1.length)).length : Nat) : Int) ∧ c.1.map (fun t => (t.2.1, KBw.bInts t.2.2.2.1)) = cks.take c.1.length ∧ ∀ q ∈ ckL c.1, q.1 ≠ l ∧ s.heap.objs.size ≤ q.1)
    (fun c => cks.length - c.1.length) ([], 0, 8, _) F (fun p hp => N p (by rcases List.mem_singleton.mp hp with rfl; k_mem)) (by (repeat (first | exact List.forall_mem_nil _ | refine List.forall_mem_cons.mpr ⟨by first | rfl | assumption, ?_⟩))) ⟨Nat.zero_le _, rfl, rfl, fun _ h => (List.not_mem_nil h).elim⟩ ?_
  intro hrx0 u h tk hrx4 F' N'
  obtain ⟨ts, n, z, tz⟩ := hrx0
  obtain ⟨hj, hz', hm, hq⟩ := hrx4
  clear F N
  dsimp only at hj hz' hm hq F' N'
  have hfl : (fileI cks).length = 8 + (chunksI cks).length := by unfold fileI; rw [List.length_append]; rfl
  by_cases hlast : ts.length = cks.length
  · rw [hlast, List.take_length] at hz' hm
    walk_at "mine in"
    ((try k_fold); repeat' (first | (k_unfold; (try dsimp only)) | ((fail_if_success (with_reducible (first | show wpAny _ _ (exec (.For _ _ _ _ _) _) _ _ _ | show wpAny _ _ (exec (.While _ _ _ _) _) _ _ _ | show wpAny _ _ (pyIter _) _ _ _ | show wpAny _ _ (call (.type "zip") _) _ _ _ | show wpAny _ _ (call (.type "enumerate") _) _ _ _ | show wpAny _ _ (eval (.ListComp _ _ _ _) _) _ _ _ | show wpAny _ _ (exec (.Assign _ (.ListComp _ _ _ _) _) _) _ _ _))); walk1; (try dsimp only))))
    rename News _ _ _ _ => N
    exact hret _ _ _ (Fr.keep (by assumption)) (fr_size (by assumption)) ⟨l, n, ts, rfl, (N _ (.head _)).1, l2, fun q h => ⟨(N q (.tail _ h)).1, (hq q h).2⟩, hm⟩
  · obtain ⟨⟨x, d⟩, hc⟩ : ∃ c, cks[ts.length]? = some c := ⟨_, List.getElem?_eq_getElem (by omega)⟩
    obtain ⟨hx4, hok, hdl⟩ := hx _ (List.mem_of_getElem? hc)
    dsimp only at hx4 hok hdl
    obtain ⟨q0, q1, q2, q3, q4⟩ := chunk_at hc hx4 hok hdl hz'
    have hs4 : (signs x).length = 4 := by rw [signs_length, hx4]
    have q5 : (signs x ++ d).take (Int.toNat 4) = signs x := List.take_left' hs4
    have q6 : (signs x ++ d).drop (Int.toNat 4) = d := List.drop_left' hs4
    obtain ⟨own, hown⟩ : ∃ own, own = ckL ts := ⟨_, rfl⟩
    rw [← hown] at N' hq
    have hoff : OwnOff own [l] := fun p hp b hb => by rw [List.mem_singleton.mp hb]; exact (hq p hp).1
    walk_at "mine in"
    ((try k_fold); repeat' (first | (k_unfold; (try dsimp only)) | ((with_reducible show wpAny _ _ (call (.ref _) _) _ _ _); refine' Spec.useInt (crc32_spec _ _ _ (by assumption)) (h := ?_); intro _ _ _ _ _; (try dsimp only)) | ((with_reducible show wpAny _ _ (call (.ref _) _) _ _ _); refine' Spec.useInt (get32_at _ _ _ _ _ _ (by assumption) (by assumption) (by walk_at "mine len") (by walk_at "mine len") (by walk_at "mine len")) (h := ?_); intro _ _ _ _ _; (try dsimp only)) | ((with_reducible show wpAny _ _ (subscriptTail _ (PySem.Expr.Slice _ _ _ _) (Value.bytes _ _) (Value.ref _)) _ _ _); refine' cut_bytesV (by k_asm) (by k_asm) (by assumption) (by assumption) (by walk_at "mine len") (by walk_at "mine len") (by walk_at "mine len") ?_ (by with_unfolding_all rfl) (by intro r'; with_unfolding_all rfl); intro _ _ _ _ _ _ _; (try dsimp only)) | ((fail_if_success (with_reducible (first | show wpAny _ _ (exec (.For _ _ _ _ _) _) _ _ _ | show wpAny _ _ (exec (.While _ _ _ _) _) _ _ _ | show wpAny _ _ (pyIter _) _ _ _ | show wpAny _ _ (call (.type "zip") _) _ _ _ | show wpAny _ _ (call (.type "enumerate") _) _ _ _ | show wpAny _ _ (eval (.ListComp _ _ _ _) _) _ _ _ | show wpAny _ _ (exec (.Assign _ (.ListComp _ _ _ _) _) _) _ _ _))); walk1; (try dsimp only))))
    (with_unfolding_all refine comp_eval (by rfl) (by rfl) (by decide) ?_)
    ((try k_fold); repeat' (first | (k_unfold; (try dsimp only)) | ((with_reducible show wpAny _ _ (subscriptTail _ (PySem.Expr.Slice _ _ _ _) (Value.bytes _ _) (Value.ref _)) _ _ _); (first | refine' cut_toV (by k_asm) (by k_asm) (by assumption) (by assumption) (by walk_at "mine len") (by walk_at "mine len") ?_ (by with_unfolding_all rfl) (by intro r'; with_unfolding_all rfl) | refine' cut_to (by k_asm) (by k_asm) (by assumption) (by walk_at "mine len") (by walk_at "mine len") ?_ (by with_unfolding_all rfl) (by intro r'; with_unfolding_all rfl) | refine' cut_fromV (by k_asm) (by k_asm) (by assumption) (by assumption) (by walk_at "mine len") (by walk_at "mine len") ?_ (by with_unfolding_all rfl) (by intro r'; with_unfolding_all rfl) | refine' cut_from (by k_asm) (by k_asm) (by assumption) (by walk_at "mine len") (by walk_at "mine len") ?_ (by with_unfolding_all rfl) (by intro r'; with_unfolding_all rfl)); intro _ _ _ _ _ _ _; (try dsimp only)) | ((fail_if_success (with_reducible (first | show wpAny _ _ (exec (.For _ _ _ _ _) _) _ _ _ | show wpAny _ _ (exec (.While _ _ _ _) _) _ _ _ | show wpAny _ _ (pyIter _) _ _ _ | show wpAny _ _ (call (.type "zip") _) _ _ _ | show wpAny _ _ (call (.type "enumerate") _) _ _ _ | show wpAny _ _ (eval (.ListComp _ _ _ _) _) _ _ _ | show wpAny _ _ (exec (.Assign _ (.ListComp _ _ _ _) _) _) _ _ _))); walk1; (try dsimp only))))
    refine src_bytes rfl (by assumption) ?_
    intro h₁ I fp wr St S
    rename News _ _ _ _ => N
    rename Fr _ _ _ _ => F
    refine compN (σ := List (Str × Tok)) (fun _ => (l, listOf (ts.map fun t => Value.ref t.1).toArray n) :: own) (fun i c ys => i ≤ 4 ∧ ys = strValues c ∧ c.map (·.1) = ((signs x).take i).map fun k => (⟨#[k.toNat]⟩ : Str)) [] S (by rw [hs4]; decide) (by decide) rfl rfl (fun b hb => nomatch hb) F N ⟨by decide, rfl, rfl⟩ ?_ ?_ (CompOut.eval ?_)
    · intro i v c ys C D oC mC h tk own' hi hrx12 hrx13 hoC hmC hoff' F' N'
      obtain ⟨k, tk', hk, rfl⟩ := hrx12
      obtain ⟨hi4, hys, hcm⟩ := hrx13
      have hkr := (hok k (List.mem_append_left _ (List.mem_of_getElem? hk)))
      clear S F N
      replace N' := news_mid (a := [(l, _)]) (b := own) N'
      walk_at "mine in"
      ((try k_fold); repeat' (first | (k_unfold; (try dsimp only)) | ((fail_if_success (with_reducible (first | show wpAny _ _ (exec (.For _ _ _ _ _) _) _ _ _ | show wpAny _ _ (exec (.While _ _ _ _) _) _ _ _ | show wpAny _ _ (pyIter _) _ _ _ | show wpAny _ _ (call (.type "zip") _) _ _ _ | show wpAny _ _ (call (.type "enumerate") _) _ _ _ | show wpAny _ _ (eval (.ListComp _ _ _ _) _) _ _ _ | show wpAny _ _ (exec (.Assign _ (.ListComp _ _ _ _) _) _) _ _ _))); walk1; (try dsimp only))))
      refine CompTurn.intro (c ++ [(⟨#[k.toNat]⟩, tk)]) (by assumption) (by assumption) (fun q hq => ?_) (by assumption) ⟨by omega, by rw [hys]; simp [strValues], ?_⟩
      · walk_at "mine subq"
      · rw [List.map_append, hcm, List.take_add_one, hk, List.map_append]
        rfl
    · intro i c ys hrx3
      obtain ⟨_, rfl, hcm⟩ := hrx3
      have := congrArg List.length hcm
      simp only [List.length_map, List.length_take] at this
      simp only [strValues, List.length_map]
      omega
    · intro D h tk ys c hrx5 F' N' hoff' hDle
      obtain ⟨_, rfl, hcm⟩ := hrx5
      clear S F N
      rw [List.take_length] at hcm
      dsimp only at N'
      have hDl : D ≠ l := fun e => hoff' _ (.head _) e.symm
      ((try k_fold); repeat' (first | (k_unfold; (try dsimp only)) | ((fail_if_success (with_reducible (first | show wpAny _ _ (exec (.For _ _ _ _ _) _) _ _ _ | show wpAny _ _ (exec (.While _ _ _ _) _) _ _ _ | show wpAny _ _ (pyIter _) _ _ _ | show wpAny _ _ (call (.type "zip") _) _ _ _ | show wpAny _ _ (call (.type "enumerate") _) _ _ _ | show wpAny _ _ (eval (.ListComp _ _ _ _) _) _ _ _ | show wpAny _ _ (exec (.Assign _ (.ListComp _ _ _ _) _) _) _ _ _))); walk1; (try dsimp only))))
      refine join_names (hx := hx4) (News.isList N' (by k_mem)) hcm ?_
      intro tj kj
      ((try k_fold); repeat' (first | (k_unfold; (try dsimp only)) | ((with_reducible show wpAny _ _ (call (.type "bytes") [.bytes _ _]) _ _ _); refine bytes_of_bytes ?_; (try dsimp only)) | ((with_reducible show wpAny _ _ (subscriptTail _ (PySem.Expr.Slice _ _ _ _) (Value.bytes _ _) (Value.ref _)) _ _ _); (first | refine' cut_toV (by k_asm) (by k_asm) (by assumption) (by assumption) (by walk_at "mine len") (by walk_at "mine len") ?_ (by with_unfolding_all rfl) (by intro r'; with_unfolding_all rfl) | refine' cut_to (by k_asm) (by k_asm) (by assumption) (by walk_at "mine len") (by walk_at "mine len") ?_ (by with_unfolding_all rfl) (by intro r'; with_unfolding_all rfl) | refine' cut_fromV (by k_asm) (by k_asm) (by assumption) (by assumption) (by walk_at "mine len") (by walk_at "mine len") ?_ (by with_unfolding_all rfl) (by intro r'; with_unfolding_all rfl) | refine' cut_from (by k_asm) (by k_asm) (by assumption) (by walk_at "mine len") (by walk_at "mine len") ?_ (by with_unfolding_all rfl) (by intro r'; with_unfolding_all rfl)); intro _ _ _ _ _ _ _; (try dsimp only)) | ((fail_if_success (with_reducible (first | show wpAny _ _ (exec (.For _ _ _ _ _) _) _ _ _ | show wpAny _ _ (exec (.While _ _ _ _) _) _ _ _ | show wpAny _ _ (pyIter _) _ _ _ | show wpAny _ _ (call (.type "zip") _) _ _ _ | show wpAny _ _ (call (.type "enumerate") _) _ _ _ | show wpAny _ _ (eval (.ListComp _ _ _ _) _) _ _ _ | show wpAny _ _ (exec (.Assign _ (.ListComp _ _ _ _) _) _) _ _ _))); walk1; (try dsimp only))))
      rename_i hA b9 t9 k9 hb9 D9 hB lt9 hC hD F9 N9
      show TurnEnd _ _ _ _ _ _ _
      have hck : ckL (ts ++ [(D9, x, tj, b9, t9)]) = own ++ [(D9, ckT x tj b9 t9)] := by rw [hown]; simp [ckL]
      have hll : (ts ++ [(D9, x, tj, b9, t9)]).length = ts.length + 1 := by simp
      refine TurnEnd.intro (ts ++ [(D9, x, tj, b9, t9)], n + 1, z + 12 + (d.length : Int), _) F9 N9 (fun q hq' => ?_) (by (repeat (first | exact List.forall_mem_nil _ | refine List.forall_mem_cons.mpr ⟨by first | rfl | assumption, ?_⟩))) ⟨⟨?_, ?_, ?_, ?_⟩, ?_⟩
      · dsimp only at hq'
        rw [hck] at hq'
        rcases List.mem_cons.mp hq' with rfl | hq'
        · simp
        · rcases List.mem_append.mp hq' with h | h
          · exact .tail _ (.tail _ (.tail _ h))
          · rw [List.mem_singleton.mp h]; exact .head _
      · dsimp only; rw [hll]; omega
      · dsimp only; rw [hll]; exact q4
      · dsimp only; rw [hll, List.map_append, hm, List.take_add_one, hc, List.map_cons, List.map_nil, hb9]; rfl
      · dsimp only
        rw [hck]
        intro q hq'
        rcases List.mem_append.mp hq' with h | h
        · exact hq q h
        · rw [List.mem_singleton.mp h]
          exact ⟨Nat.ne_of_gt lt9.2.1, Nat.le_trans hDle (Nat.le_of_lt lt9.1)⟩
      · dsimp only; rw [hll]; omega
end

theorem fresh_Check : True := by
  w_top off
  exact trivial
abbrev nmHead : Str := Str.ofString "IHDR"
abbrev nmData : Str := Str.ofString "IDAT"
abbrev nmEnd : Str := Str.ofString "IEND"
abbrev nmText : Str := Str.ofString "tEXt"
section
variable {prog : Program} {w : World} {A : Around} {E : Value → Shared → Prop} {s : Shared} {h₀ : Heap} {L : Addr} {m : Str → Option Value} {news : List (Addr × Obj)} {l : Addr} {vs : List Value} {ys : List Str} {Q : Value → Shared → Prop}
theorem item_strs {value slice : Expr} {k : Int} {u : Tok} {y : Str} (hl : s.heap.IsList l vs.toArray) (hi : StrsAre vs ys) (h0 : 0 ≤ k) (h1 : k < 2 ^ 63) (hx : ys[k.toNat]? = some y) (h : ∀ t, Q (.str y t) s)
    (hs : subscripted slice false (.ref l) (.int k u) = operate [.ref l, .int k u] (getItem (.ref l) (.int k u)) := by with_unfolding_all rfl) :
    wpAny (model prog w) A (subscriptTail value slice (.ref l) (.int k u)) Q E s := by
  obtain ⟨t, hv⟩ := hi.get _ _ hx
  exact item_at hl h0 h1 hv (h t) hs
theorem item_strs_last {value slice : Expr} {u : Tok} {y : Str} (hl : s.heap.IsList l vs.toArray) (hi : StrsAre vs ys) (h0 : 0 < ys.length) (hx : ys[ys.length - 1]? = some y) (h : ∀ t, Q (.str y t) s)
    (hs : subscripted slice false (.ref l) (.int (-1) u) = operate [.ref l, .int (-1) u] (getItem (.ref l) (.int (-1) u)) := by with_unfolding_all rfl) :
    wpAny (model prog w) A (subscriptTail value slice (.ref l) (.int (-1) u)) Q E s := by
  obtain ⟨t, hv⟩ := hi.get _ _ hx
  have hlen := hi.length
  refine tail_any hl.typeIs slot_list_getitem.lookup (wpAny_getItem_list_neg hl (by decide) (by rw [List.size_toArray]; omega) (by decide) ?_ (h t)) hs
  have e : (-1 + ((vs.toArray.size : Nat) : Int)).toNat = ys.length - 1 := by rw [List.size_toArray]; omega
  rw [e]
  simpa using hv
theorem notin_strs {k : Str} {t : Tok} (hl : s.heap.IsList l vs.toArray) (hi : StrsAre vs ys) (h : Q (.bool (!(ys.any (· == k)))) s) : wpAny (model prog w) A (compareOp .NotIn (.str k t) (.ref l)) Q E s :=
  SeqInW.notIn_listW (isStrOf k) (fun y hy => eq_isStrOf k t hi y (by simpa using hy)) hl (by rw [← Array.any_toList, show vs.toArray.toList = vs from rfl, any_isStrOf k hi]; exact h)
theorem eq_nil {b : Addr} {n n' : Nat} (N : News h₀ L s.heap news) (hl : (l, listOf vs.toArray n) ∈ news) (hb : (b, listOf #[] n') ∈ news) (hz : 0 < vs.length) (hu : A.units < cLine) (h : Q (.bool false) s) : wpAny (model prog w) A (compareOp .Eq (.ref l) (.ref b)) Q E s :=
  P.eq_list_lengths (n := n) (n2 := n') (N _ hl).1 (N _ hb).1 (bne_iff_ne.mpr (by rw [List.size_toArray]; show vs.length ≠ 0; omega)) hu h
end
section
variable {prog : Program} {w : World} {A : Around} {E : Value → Shared → Prop} {s : Shared} {env : Env} {h₀ : Heap} {L : Addr} {m : Str → Option Value}
theorem CompOut.set {σ : Type} {Led : σ → List (Addr × Obj)} {Inv : σ → List Value → Prop} {Q' : Shared → Prop} {y : Str} {py : Pos} (hLe : env.locals = L) (hy : env.kindOf y = some .local) (hp : (env.scope.kind == .class || (env.scope.kind == .module && env.locals != env.globals)) = false)
    (done : ∀ D h tk ys c, Inv c ys → Fr h₀ L h (fun z => if z = y then some (.ref D) else m z) → News h₀ L h ((D, LCg.lst ys) :: Led c) → (∀ p ∈ Led c, p.1 ≠ D) → h₀.objs.size ≤ D → Q' { s with heap := h, toks := tk }) :
    CompOut (model prog w) A E h₀ L m s Led Inv (fun acc C => compPost (model prog w) A E (some (PySem.assign (.Name y py) env)) (fun _ s' => Q' s') acc C) :=
  CompOut.assign (Q := fun _ => Q') hLe hy hp done
end
def RetNone (_ : Heap) (v : Value) (_ : Heap) : Prop := v = .none
/-- a list of chunks lies there -/
def ChunksAt (h : Heap) (l : Addr) (ts : List CkR) : Prop := h.IsList l (ts.map fun t => Value.ref t.1).toArray ∧ ∀ t ∈ ts, h.IsTuple t.1 #[.str t.2.1 t.2.2.1, .bytes t.2.2.2.1 t.2.2.2.2]
theorem strs_of : ∀ (c : List (Str × Tok)), StrsAre (strValues c) (c.map (·.1))
  | [] => .nil
  | (x, t) :: r => .cons x t (strs_of r)
/-- the triples that the walk over pairs takes -/
def ck3 (ts : List CkR) : List (Addr × Value × Value) := ts.map fun t => (t.1, .str t.2.1 t.2.2.1, .bytes t.2.2.2.1 t.2.2.2.2)
theorem ChunksAt.pairs {h : Heap} {l : Addr} {ts : List CkR} (x : ChunksAt h l ts) : h.IsList l ((ck3 ts).map fun t => Value.ref t.1).toArray ∧ ∀ t ∈ ck3 ts, h.IsTuple t.1 #[t.2.1, t.2.2] := by
  refine ⟨by unfold ck3; rw [List.map_map]; exact x.1, fun t ht => ?_⟩
  obtain ⟨q, hq, rfl⟩ := List.mem_map.mp ht
  exact x.2 q hq
theorem ChunksAt.keeps {h h' : Heap} {l : Addr} {ts : List CkR} (x : ChunksAt h l ts) (k : ∀ b o, h.get? b = some o → h'.get? b = some o) : ChunksAt h' l ts := ⟨x.1.at fun o e => k _ o e, fun t ht => (x.2 t ht).at fun o e => k _ o e⟩
theorem ChunksAt.live {h : Heap} {l : Addr} {ts : List CkR} (x : ChunksAt h l ts) : ∀ b ∈ l :: (ck3 ts).map (·.1), ∃ o, h.get? b = some o := by
  intro b hb
  rcases List.mem_cons.mp hb with rfl | hb
  · exact let ⟨o, e, _⟩ := x.1; ⟨o, e⟩
  · obtain ⟨q, hq, rfl⟩ := List.mem_map.mp hb
    exact let ⟨o, e, _⟩ := x.pairs.2 q hq; ⟨o, e⟩
theorem ck3_at {ts : List CkR} {i : Nat} {tt : Addr} {a b : Value} (h : (ck3 ts)[i]? = some (tt, a, b)) : ∃ t, ts[i]? = some t ∧ a = .str t.2.1 t.2.2.1 ∧ b = .bytes t.2.2.2.1 t.2.2.2.2 := by
  unfold ck3 at h
  rw [List.getElem?_map] at h
  cases e : ts[i]? with
  | none => rw [e] at h; cases h
  | some t => rw [e] at h; cases h; exact ⟨t, rfl, rfl, rfl⟩
section
variable {prog : Program} {w : World}
set_option maxHeartbeats 8000000 in
theorem check_spec (l : Addr) (ts : List CkR) (t0 : CkR) (ys : List Str) (hys : ts.map (·.2.1) = ys) (hz : ts.length ≤ 10) (h0 : ts[0]? = some t0) (hh : t0.2.1 = nmHead) (he : ys[ys.length - 1]? = some nmEnd) (hi : (!(ys.any (· == nmData))) = false)
    (c1 : countIn (.str nmHead) (ys.map PyData.str) ≤ 1) (c2 : countIn (.str nmEnd) (ys.map PyData.str) ≤ 1) (d : List Int) (hd0 : KBw.bInts t0.2.2.2.1 = d) (hd1 : d.length = 13) (hd2 : d.drop (Int.toNat 8) = [8, 6, 0, 0, 0]) :
    Spec prog w 130 [.ref l] 6 60 (fun h => ChunksAt h l ts) RetNone := by
  intro p loose mean mg mb dp un gd outer base s Q E B X T hd hu hp hret
  have hch := hp
  obtain ⟨hp1, hp2⟩ := hp
  obtain ⟨a0, x0, u0, b0, v0⟩ := t0
  dsimp only at hh hd0
  subst hh
  have htup := hp2 _ (List.mem_of_getElem? h0)
  dsimp only at htup
  have hn0 : ys[Int.toNat 0]? = some nmHead := by rw [← hys]; simp [h0]
  have hpos : 0 < ts.length := (List.getElem?_eq_some_iff.mp h0).1
  (with_unfolding_all refine' enterN ?k1 ?k2 ?k3 ?k4 ?k5 ?k6 ?k7 ?_ ?c1 ?c2 ?c3 ?c4; (((case k1 => assumption); (case k2 => assumption); (try ((case k2b => assumption); (case k2c => assumption); (case k2d => first | exact List.forall_mem_nil _ | (intro q hq; cases List.mem_singleton.mp hq; exact And.intro (by assumption) (by assumption))))); (case k3 => k_is); (case k4 => k_is); (case k5 => omega); (case k6 => first | exact rfl | exact binds_K (by assumption) rfl (by k_is) rfl rfl rfl); (case k7 => first | exact locs rfl | exact rfl); (case c1 => exact rfl); (case c2 => exact rfl); (case c3 => exact rfl); (try (case c4 => decide))); intro _ _ F9; (dsimp only [List.map, List.zip, List.zipWith, List.reverse, List.reverseAux] at F9); revert F9; intro _ _; (try dsimp only); (try ((first | refine fold_env ?_ | refine fold_envC ?_); intro M₉ A₉ e₉ g₉ d₉ o₉)); (try k_fold)))
  ((try k_fold); repeat' (first | (k_unfold; (try dsimp only)) | ((fail_if_success (with_reducible (first | show wpAny _ _ (exec (.For _ _ _ _ _) _) _ _ _ | show wpAny _ _ (exec (.While _ _ _ _) _) _ _ _ | show wpAny _ _ (pyIter _) _ _ _ | show wpAny _ _ (call (.type "zip") _) _ _ _ | show wpAny _ _ (call (.type "enumerate") _) _ _ _ | show wpAny _ _ (eval (.ListComp _ _ _ _) _) _ _ _ | show wpAny _ _ (exec (.Assign _ (.ListComp _ _ _ _) _) _) _ _ _))); walk1; (try dsimp only))))
  (with_unfolding_all refine comp_assign (by rfl) (by rfl) (by rfl) (by decide) ?_)
  ((try k_fold); repeat' (first | (k_unfold; (try dsimp only)) | ((fail_if_success (with_reducible (first | show wpAny _ _ (exec (.For _ _ _ _ _) _) _ _ _ | show wpAny _ _ (exec (.While _ _ _ _) _) _ _ _ | show wpAny _ _ (pyIter _) _ _ _ | show wpAny _ _ (call (.type "zip") _) _ _ _ | show wpAny _ _ (call (.type "enumerate") _) _ _ _ | show wpAny _ _ (eval (.ListComp _ _ _ _) _) _ _ _ | show wpAny _ _ (exec (.Assign _ (.ListComp _ _ _ _) _) _) _ _ _))); walk1; (try dsimp only))))
  rename News _ _ _ _ => N
  rename Fr _ _ _ _ => F
  have hch' := hch.keeps F.keep
  refine src_pairs rfl hch'.pairs.1 hch'.pairs.2 ?_
  intro h₁ I fp wr St S
  refine compP (σ := List (Str × Tok)) (fun _ => []) (fun i c vs => i ≤ ts.length ∧ vs = strValues c ∧ c.map (·.1) = ys.take i) [] S (by unfold ck3; rw [List.length_map, sizeLine_eq]; omega) (by decide) rfl rfl rfl (by decide) (fun b hb => .inl (hch.live b hb)) F N ⟨Nat.zero_le _, rfl, rfl⟩ ?_ ?_ ?_
  · intro i a b c vs C D oC mC h tk own' hlt hrx13 hrx14 hoC hmC hmC' hoff' F' N'
    obtain ⟨tt, htt⟩ := hrx13
    obtain ⟨hi4, hvs, hcm⟩ := hrx14
    obtain ⟨q, hq, rfl, rfl⟩ := ck3_at htt
    unfold ck3 at hlt
    rw [List.length_map] at hlt
    clear S F N
    walk_at "mine in"
    ((try k_fold); repeat' (first | (k_unfold; (try dsimp only)) | ((fail_if_success (with_reducible (first | show wpAny _ _ (exec (.For _ _ _ _ _) _) _ _ _ | show wpAny _ _ (exec (.While _ _ _ _) _) _ _ _ | show wpAny _ _ (pyIter _) _ _ _ | show wpAny _ _ (call (.type "zip") _) _ _ _ | show wpAny _ _ (call (.type "enumerate") _) _ _ _ | show wpAny _ _ (eval (.ListComp _ _ _ _) _) _ _ _ | show wpAny _ _ (exec (.Assign _ (.ListComp _ _ _ _) _) _) _ _ _))); walk1; (try dsimp only))))
    have hyi : ys[i]? = some q.2.1 := by rw [← hys]; simp [hq]
    refine CompTurn.intro (c ++ [(q.2.1, q.2.2.1)]) (by assumption) (by assumption) (fun _ h => h) (by assumption) ⟨by omega, by rw [hvs]; simp [strValues], ?_⟩
    rw [List.map_append, hcm, List.take_add_one, hyi]
    rfl
  · intro i c vs hrx3
    obtain ⟨_, rfl, hcm⟩ := hrx3
    have := congrArg List.length hcm
    simp only [List.length_map, List.length_take] at this
    simp only [strValues, List.length_map]
    omega
  · with_unfolding_all refine' CompOut.set ?e1 ?e2 ?e3 ?_
    case e1 => rfl
    case e2 => rfl
    case e3 => rfl
    intro D h tk vs c hrx5 F' N' hoff' hDle
    obtain ⟨_, rfl, hcm⟩ := hrx5
    have hlen : (ck3 ts).length = ys.length := by unfold ck3; rw [List.length_map, ← hys, List.length_map]
    rw [hlen, List.take_length] at hcm
    have hst : StrsAre (strValues c) ys := hcm ▸ strs_of c
    clear S F N
    (try dsimp only at N')
    have hvl : (strValues c).length = ys.length := hst.length
    have hyl : ys.length = ts.length := by rw [← hys, List.length_map]
    have hvp : 0 < (strValues c).length := by omega
    have hc0 : (ts.map fun t => Value.ref t.1)[Int.toNat 0]? = some (.ref a0) := by simp [h0]
    have hok : OkB [8, 6, 0, 0, 0] := by decide
    have c1' : ¬ 1 < countIn (.str (Str.ofString "IHDR")) (ys.map PyData.str) := Int.not_lt.mpr c1
    have c2' : ¬ 1 < countIn (.str (Str.ofString "IEND")) (ys.map PyData.str) := Int.not_lt.mpr c2
    clear c1 c2
    ((try k_fold); repeat' (first | (k_unfold; (try dsimp only)) | ((with_reducible show wpAny _ _ (call (.builtin "list.count") _) _ _ _); refine' count_list_strs (by walk_at "mine list") (by assumption) ?_; (try dsimp only)) | ((with_reducible show wpAny _ _ (compareOp .Eq (.ref _) (.ref _)) _ _ _); refine' eq_nil (by k_asm) (by k_mem) (by k_mem) (by first | assumption | walk_at "mine len") (by walk_at "mine room") ?_; (try dsimp only)) | ((with_reducible show wpAny _ _ (compareOp .NotIn (.str _ _) (.ref _)) _ _ _); refine' notin_strs (by walk_at "mine list") (by assumption) ?_; (try dsimp only)) | ((with_reducible show wpAny _ _ (subscriptTail _ (.UnaryOp _ _ _) (.ref _) (.int _ _)) _ _ _); refine' item_strs_last (by walk_at "mine list") (by assumption) (by walk_at "mine len") (by assumption) ?_; intro _; (try dsimp only)) | ((with_reducible show wpAny _ _ (subscriptTail _ _ (.ref _) (.int _ _)) _ _ _); first | (refine' item_strs (by walk_at "mine list") (by assumption) (by decide) (by decide) (by assumption) ?_; intro _) | refine' item_at (by walk_at "mine list") (by decide) (by decide) (by assumption) ?_ | refine' tup_at (by (first | assumption | exact News.isTup (by k_asm) (by k_mem) | (refine Heap.IsTuple.at ?_ (fun o e => Fr.keep (by k_asm) _ o e); assumption))) (by decide) (by decide) (by exact rfl) ?_; (try dsimp only)) | ((with_reducible show wpAny _ _ (compareOp .NotEq (.bytes _ _) (.bytes _ _)) _ _ _); refine' ne_bytes_same (by assumption) (by first | assumption | exact rfl) (by with_unfolding_all exact rfl) ?_; (try dsimp only)) | ((with_reducible show wpAny _ _ (subscriptTail _ (PySem.Expr.Slice _ _ _ _) (Value.bytes _ _) (Value.ref _)) _ _ _); (first | refine' cut_toV (by k_asm) (by k_asm) (by assumption) (by assumption) (by walk_at "mine len") (by walk_at "mine len") ?_ (by with_unfolding_all rfl) (by intro r'; with_unfolding_all rfl) | refine' cut_to (by k_asm) (by k_asm) (by assumption) (by walk_at "mine len") (by walk_at "mine len") ?_ (by with_unfolding_all rfl) (by intro r'; with_unfolding_all rfl) | refine' cut_fromV (by k_asm) (by k_asm) (by assumption) (by assumption) (by walk_at "mine len") (by walk_at "mine len") ?_ (by with_unfolding_all rfl) (by intro r'; with_unfolding_all rfl) | refine' cut_from (by k_asm) (by k_asm) (by assumption) (by walk_at "mine len") (by walk_at "mine len") ?_ (by with_unfolding_all rfl) (by intro r'; with_unfolding_all rfl)); intro _ _ _ _ _ _ _; (try dsimp only)) | ((fail_if_success (with_reducible (first | show wpAny _ _ (exec (.For _ _ _ _ _) _) _ _ _ | show wpAny _ _ (exec (.While _ _ _ _) _) _ _ _ | show wpAny _ _ (pyIter _) _ _ _ | show wpAny _ _ (call (.type "zip") _) _ _ _ | show wpAny _ _ (call (.type "enumerate") _) _ _ _ | show wpAny _ _ (eval (.ListComp _ _ _ _) _) _ _ _ | show wpAny _ _ (exec (.Assign _ (.ListComp _ _ _ _) _) _) _ _ _))); walk1; (try dsimp only))))
    exact hret _ _ _ (Fr.keep (by assumption)) (fr_size (by assumption)) rfl
end
theorem fresh_Join : True := by
  w_top off
  exact trivial
namespace BF
theorem slot_join : Slot "bytes" "join" "bytes.join" :=
  .of (owner := "bytes") (n := "join") (by rw [typeLookup_type, builtinLookup_eq_fast]; kernel_rfl) (by decide +kernel) (by decide +kernel) (by decide +kernel)
    (by first | exact .inl (by decide +kernel) | exact .inr (by decide +kernel)) (by rw [isSubtype_type]; kernel_rfl)
theorem type_join : typeOf (.builtin "bytes.join") = pure (.type "method_descriptor") := by show builtinType _ = _; rw [builtinType_eq_fast]; kernel_rfl
theorem entry_join : entryFor table "bytes.join" = some Builtin.«bytes.join» := entryFor_of_tree (by kernel_rfl)
theorem args_join (a b : Value) : argsOk "bytes.join" ⟨[a, b], []⟩ := by
  unfold argsOk; rw [signature?_of (id := "bytes.join") (n := ['n', 'i', 'o', 'j']) (o := ['s', 'e', 't', 'y', 'b']) (by kernel_rfl) FB.owner_bytes]; kernel_rfl
end BF
section
variable {prog : Program} {w : World} {A : Around} {E : Value → Shared → Prop} {s : Shared}
theorem takeBuf {M : Model} {b : Array UInt8} {t : Tok} {id : String} {Q : Option (Array UInt8 × Option Value) → Shared → Prop} (h : Q (some (b, none)) s) : wpAny M A (Builtin.Bytes.takeBufferQuiet? id (.bytes b t) 0) Q E s := by
  unfold Builtin.Bytes.takeBufferQuiet?
  refine wpAny_bind (wpAny_attempt ?_)
  unfold Builtin.Bytes.takeBuffer?
  refine wpAny_bind (wpAny_specialOf (PySem.W.typeIs_bytes s b t) BF.buffer_bytes ?_)
  (try dsimp only)
  refine wpAny_bind (own_buffer ?_)
  refine bm_if_false rfl ?_
  refine wpAny_bind (wpAny_specialOf (PySem.W.typeIs_bytes s b t) BF.buffer_bytes ?_)
  (try dsimp only)
  refine wpAny_bind (buffer_of_bytes ?_)
  exact wpAny_pure (wpAny_pure h)
def catB : List (Array UInt8 × Tok) → Array UInt8
  | [] => #[]
  | p :: r => p.1 ++ catB r
theorem catB_ints : ∀ l : List (Array UInt8 × Tok), KBw.bInts (catB l) = (l.map fun p => KBw.bInts p.1).flatten
  | [] => rfl
  | p :: r => by
    have := catB_ints r
    simp only [catB, KBw.bInts, Array.toList_append, List.map_append, List.map_cons, List.flatten_cons] at *
    rw [this]
def bytesVals (l : List (Array UInt8 × Tok)) : List Value := l.map fun p => .bytes p.1 p.2
theorem forIn_steps {M : Model} {β : Type} {f : Nat → β → Sem (ForInStep β)} (I : Nat → β) {Q : β → Shared → Prop} : ∀ (n k : Nat), (∀ i, k ≤ i → i < k + n → ∀ Q' : ForInStep β → Shared → Prop, Q' (.yield (I (i + 1))) s → wpAny M A (f i (I i)) Q' E s) → Q (I (k + n)) s →
    wpAny M A (forIn (List.range' k n 1) (I k) f) Q E s
  | 0, k, _, h => wpAny_pure h
  | n + 1, k, hf, h => by
    rw [List.range'_succ, List.forIn_cons]
    refine wpAny_bind (hf k (Nat.le_refl _) (by omega) _ ?_)
    exact forIn_steps I n (k + 1) (fun i h1 h2 => hf i (by omega) (by omega)) (by rw [show k + 1 + n = k + (n + 1) by omega]; exact h)
theorem forIn_range {M : Model} {β : Type} {f : Nat → β → Sem (ForInStep β)} (I : Nat → β) (n : Nat) {b : β} (hb : b = I 0) {Q : β → Shared → Prop} (hf : ∀ i, i < n → ∀ Q' : ForInStep β → Shared → Prop, Q' (.yield (I (i + 1))) s → wpAny M A (f i (I i)) Q' E s) (h : Q (I n) s) :
    wpAny M A (forIn [:n] b f) Q E s := by
  subst hb
  rw [Std.Legacy.Range.forIn_eq_forIn_range']
  simp only [Std.Legacy.Range.size, Nat.sub_zero, Nat.add_sub_cancel, Nat.div_one]
  exact forIn_steps I n 0 (fun i _ hi => hf i (by omega)) (by rw [Nat.zero_add]; exact h)
theorem none_onHeap : ∀ K : List (Array UInt8 × Tok), ((K.map fun p => (Value.bytes p.1 p.2, (none : Option Value))).any fun x => x.1.onHeap) = false
  | [] => rfl
  | p :: r => by rw [List.map_cons, List.any_cons, none_onHeap r]; rfl
theorem fold_sizes : ∀ (K : List (Array UInt8 × Tok)) (c : Nat), (K.map (·.1)).foldl (fun a x => a + x.size) c = c + (catB K).size
  | [], _ => rfl
  | p :: r, c => by rw [List.map_cons, List.foldl_cons, fold_sizes r, catB, Array.size_append]; omega
theorem joined_nil : ∀ (K : List (Array UInt8 × Tok)) (k : Nat) (acc : Array UInt8), ((K.map (·.1)).zipIdx k).foldl (fun out (p : Array UInt8 × Nat) => (if p.2 > 0 then out ++ #[] else out) ++ p.1) acc = acc ++ catB K
  | [], _, acc => by simp [catB]
  | p :: r, k, acc => by
    rw [List.map_cons, List.zipIdx_cons, List.foldl_cons, joined_nil r (k + 1), catB]
    simp only [Array.append_empty, ite_self, Array.append_assoc]
theorem joinLetGo_none {M : Model} {keep : List Value} : ∀ (K : List (Array UInt8 × Tok)) {Q : Unit → Shared → Prop}, Q () s → wpAny M A (Builtin.Bytes.joinLetGo (K.map fun p => (Value.bytes p.1 p.2, (none : Option Value))) keep) Q E s
  | [], _, h => by unfold Builtin.Bytes.joinLetGo; exact wpAny_pure h
  | p :: r, _, h => by
    rw [List.map_cons, Builtin.Bytes.joinLetGo]
    · exact wpAny_bind (wpAny_letGo (joinLetGo_none r h))
    · intro _ e; cases e
theorem match_many {α : Type} {items : Array Value} {f : Value → α} {g : Array Value → α} (h : items.size ≠ 1) : Builtin.Bytes.joinM.match_1 (fun _ => α) items f g = g items := by
  unfold Builtin.Bytes.joinM.match_1
  rw [dif_neg h]
theorem join_bytes {D : Addr} {l : List (Array UInt8 × Tok)} {t : Tok} {Q : Value → Shared → Prop} (hl : s.heap.IsList D (bytesVals l).toArray) (h1 : 1 ≤ l.length) (hz : (catB l).size ≤ sizeLine)
    (h : ∀ t' k, Q (.bytes (catB l) t') { s with toks := k }) : wpAny (model prog w) A (call (.builtin "bytes.join") [.bytes #[] t, .ref D]) Q E s := by
  obtain ⟨o, ho, hc, n, hd⟩ := id hl
  refine wpAny_call_entry BF.slot_join (PySem.W.typeIs_bytes s #[] t) BF.entry_join ?_ (BF.args_join _ _)
  unfold Builtin.«bytes.join» Builtin.Bytes.joinM
  refine wpAny_bind (wpAny_of_eq (a := (Value.bytes #[] t, Value.ref D)) rfl ?_)
  (try dsimp only)
  refine bm_if_true rfl ?_
  refine wpAny_bind ?_
  unfold Builtin.Bytes.joinItems
  refine wpAny_bind (wpAny_typeOf hl.typeIs ?_)
  refine bm_if_true (by decide) (wpAny_pure ?_)
  refine wpAny_bind (wpAny_seqItems ho hd ?_)
  (try dsimp only)
  refine bm_if_true rfl ?_
  match l, h1 with
  | [(b1, t1)], _ =>
    (try dsimp only [bytesVals, List.map])
    refine wpAny_bind (wpAny_typeOf (PySem.W.typeIs_bytes s b1 t1) ?_)
    refine bm_if_true (by decide) ?_
    have h' := h t1 s.toks
    simp only [catB, Array.append_empty] at h'
    exact wpAny_bind (wpAny_rule (wpAny_pure ⟨_, rfl, h'⟩))
  | (b1, t1) :: (b2, t2) :: r, _ =>
    have hne : (bytesVals ((b1, t1) :: (b2, t2) :: r)).toArray.size ≠ 1 := by simp [bytesVals]
    have hVs : (bytesVals ((b1, t1) :: (b2, t2) :: r)).toArray.size = ((b1, t1) :: (b2, t2) :: r).length := by simp [bytesVals]
    have hVg : ∀ i, (hi : i < ((b1, t1) :: (b2, t2) :: r).length) → (bytesVals ((b1, t1) :: (b2, t2) :: r)).toArray.getD i .none = .bytes (((b1, t1) :: (b2, t2) :: r)[i]).1 (((b1, t1) :: (b2, t2) :: r)[i]).2 := by
      intro i hi
      rw [Array.getD_eq_getD_getElem?, List.getElem?_toArray]
      unfold bytesVals
      rw [List.getElem?_map, List.getElem?_eq_getElem hi]
      rfl
    generalize (bytesVals ((b1, t1) :: (b2, t2) :: r)).toArray = V at hne hd hVs hVg ⊢
    generalize (b1, t1) :: (b2, t2) :: r = K at hVs hVg hz h
    rw [match_many hne]
    refine wpAny_bind (forIn_range (fun i => (((K.take i).map (·.1)).toArray, (K.take i).map fun p => (Value.bytes p.1 p.2, none))) V.size (by simp) ?_ ?_)
    · intro i hi Q' hQ
      rw [hVs] at hi
      refine wpAny_bind (wpAny_seqItems ho hd ?_)
      (try dsimp only)
      refine bm_if_false ?_ ?_
      · rw [none_onHeap]; rfl
      · rw [hVg i hi]
        refine wpAny_bind (wpAny_holding (takeBuf ?_))
        (try dsimp only)
        refine wpAny_bind (wpAny_seqItems ho hd ?_)
        (try dsimp only)
        refine bm_if_false (by simp) ?_
        refine wpAny_pure ?_
        have e : K.take (i + 1) = K.take i ++ [K[i]] := by rw [List.take_add_one, List.getElem?_eq_getElem hi]; rfl
        have e1 : ((K.take (i + 1)).map (·.1)).toArray = ((K.take i).map (·.1)).toArray.push K[i].1 := by rw [e, List.map_append, List.push_toArray]; rfl
        have e2 : (K.take (i + 1)).map (fun p => (Value.bytes p.1 p.2, (none : Option Value))) = (K.take i).map (fun p => (Value.bytes p.1 p.2, (none : Option Value))) ++ [(Value.bytes K[i].1 K[i].2, none)] := by rw [e, List.map_append]; rfl
        rw [e1, e2] at hQ
        exact hQ
    · rw [hVs, List.take_length]
      (try dsimp only)
      refine wpAny_bind (wpAny_of_eq (a := #[]) rfl ?_)
      have hf := fold_sizes K 0
      rw [Nat.zero_add] at hf
      refine bm_if_false ?_ ?_
      · unfold Builtin.Bytes.tooLong
        rw [List.foldl_toArray, show ((#[] : Array UInt8).size * ((K.map (·.1)).toArray.size - 1)) = 0 from Nat.zero_mul _, hf]
        exact decide_eq_false (by omega)
      · refine wpAny_bind (m := Builtin.Bytes.Kind.bytes.new _) ?_
        show wpAny _ _ (mkBytes (Builtin.Bytes.joined #[] (K.map (·.1)).toArray.toList)) _ _ _
        have hj : Builtin.Bytes.joined #[] (K.map (·.1)).toArray.toList = catB K := by
          have := joined_nil K 0 #[]
          rw [Array.empty_append] at this
          exact this
        rw [hj]
        refine wpAny_mkBytes ?_ hz
        refine wpAny_bind (wpAny_holding (wpAny_point ?_))
        refine wpAny_bind (joinLetGo_none K ?_)
        exact wpAny_pure ⟨_, rfl, h _ _⟩
end
theorem fresh_TupB : True := by
  w_top off
  exact trivial
namespace BF
theorem len_lookup : typeLookup (.type "bytes") "__len__" = pure (some (.builtin "bytes.__len__")) := by rw [typeLookup_type, builtinLookup_eq_fast]; kernel_rfl
end BF
abbrev OctAt (b : Array UInt8) (i : Nat) (v : Value) : Prop := ∃ c u, b[i]? = some c ∧ v = .int (c.toNat : Int) u
section
variable {prog : Program} {w : World} {A : Around} {E : Value → Shared → Prop} {s : Shared}
theorem collect_bytes {Q : List Value → Shared → Prop} (hh : A.handled = none) (b : Array UInt8) (t : Tok)
    (hQ : ∀ s' acc, (∀ b o, s.heap.get? b = some o → s'.heap.get? b = some o) → s'.gens = s.gens → s'.drawn = s.drawn → s'.os = s.os → ItemsOf (OctAt b) acc b.size → Q acc.toList s') (hn : b.size ≤ sizeLine) :
    wpAny (model prog w) A (collect (.bytes b t)) Q E s := by
  unfold collect
  refine wpAny_bind (wpAny_runValue (codeAny_builtin F.entry_proto_collect ?_))
  rw [Around.under_plainId F.plain_proto_collect _]
  show wpAny _ A.in1 (newList [] >>= fun l => again (.builtin "list.__iadd__" ⟨[l, .bytes b t], []⟩)) _ _ s
  refine wpAny_bind (wpAny_newObj_type ?_)
  refine wpAny_pure ⟨plainId_quiet F.plain_list_iadd _, codeAny_builtin F.entry_list_iadd ?_⟩
  rw [Around.under_plainId F.plain_list_iadd _]
  show wpAny _ A.in1 (Builtin.List.listExtendWith (.ref s.heap.objs.size) (.bytes b t) (.ref s.heap.objs.size)) _ _ _
  unfold Builtin.List.listExtendWith
  refine wpAny_bind (wpAny_typeOf (PySem.W.typeIs_bytes _ b t) ?_)
  have h1 : Builtin.List.listSameRef (.ref s.heap.objs.size) (.bytes b t) = false := rfl
  have h2 : (Value.type "bytes" == Value.type "list") = false := by decide
  have h3 : (Value.type "bytes" == Value.type "tuple") = false := by decide
  simp only [h1, h2, h3, Bool.or_false, Bool.false_eq_true, if_false]
  refine wpAny_bind (KBw.pyIter_bytes ?_)
  refine wpAny_bind (wpAny_holding ?_)
  unfold Builtin.List.listLengthHint
  refine wpAny_bind (wpAny_specialOf (PySem.W.typeIs_bytes _ b t) BF.len_lookup ?_)
  wp_delta
  refine wpAny_bind (wpAny_isInstance (PySem.W.typeIs_bytes _ b t) (b := true) (by rw [isSubtype_type]; kernel_rfl) ?_)
  show wpAny _ A.in1 (typeOf (Value.bytes b t) >>= _) _ _ _
  refine wpAny_bind (wpAny_typeOf (PySem.W.typeIs_bytes _ b t) ?_)
  refine wpAny_pure ?_
  rw [if_neg (by decide)]
  generalize hH : s.heap.push { cls := .type "list", data := .seq ([] : List Value).toArray } = H
  have hHs : H.objs.size = s.heap.objs.size + 1 := by rw [← hH, Heap.size_push]
  have W := KBw.walks (prog := prog) (w := w) (A := A.in1) hh H.objs.size b t
  have hst : KBw.IsBytesIter (H.push { cls := .type "bytes_iterator", data := .fields #[.bytes b t, .int 0 0] }) H.objs.size b t 0 := ⟨_, Heap.get?_push_size _ rfl, rfl, rfl⟩
  have hSf : s.heap.objs.size ∉ [H.objs.size] := fun hm => by rw [List.mem_singleton.mp hm] at hHs; exact absurd hHs (Nat.ne_of_lt (Nat.lt_succ_self _))
  have hS : (H.push { cls := .type "bytes_iterator", data := .fields #[.bytes b t, .int 0 0] }).get? s.heap.objs.size = some { cls := .type "list", data := .seq ([] : List Value).toArray } := Heap.get?_push_of_some _ (hH ▸ Heap.get?_push_size _ rfl)
  refine wpAny_pure ⟨plainId_quiet F.plain_extend_loop _, codeAny_extend_loopS W.toS hn _ hSf _ b.size 0 _ _ _ rfl (Nat.zero_le _) hst hS (ItemsOf.nil _) fun s' acc' c' hm hS' hacc => ?_⟩
  show wpAny _ A (load s.heap.objs.size >>= _) _ _ s'
  refine wpAny_bind (wpAny_load hS' ?_)
  refine wpAny_pure (hQ s' acc' (fun b ob e => hm.heap b ob (fun hb => ?_) (Heap.get?_push_of_some _ (hH ▸ Heap.get?_push_of_some _ e))) hm.gens hm.drawn hm.os hacc)
  have hlt := Heap.lt_size e
  rcases List.mem_cons.mp hb with h | h
  · exact absurd hlt (h ▸ Nat.lt_irrefl _)
  · rw [List.mem_singleton.mp h, hHs] at hlt; exact absurd hlt (Nat.not_lt.mpr (Nat.le_succ _))
end

section
open AutoSeq1 (wpAny_loadPart')
theorem meets_tuple_bytes (b : Array UInt8) (t : Tok) (hsz : b.size ≤ sizeLine) :
    Meets (Builtin.«tuple.__new__» ⟨[.type "tuple", .bytes b t], []⟩)
      (fun A R s => A.handled = none ∧ ∀ (s' : Shared) (acc : Array Value), (∀ b o, s.heap.get? b = some o → s'.heap.get? b = some o) → s'.gens = s.gens → s'.drawn = s.drawn → s'.os = s.os → ItemsOf (OctAt b) acc b.size →
        R (.ok (.ret (.ref s'.heap.objs.size))) { s' with heap := s'.heap.push { cls := .type "tuple", data := .seq acc } }) :=
  .of_wp fun prog w A R s h => by
    obtain ⟨hh, h⟩ := h
    have hsub := sub_tuple_self
    have hinit := init_tuple_lookup
    have hmh := madeHere_tuple
    have hT : s.TypeIs (.bytes b t) "bytes" := PySem.W.typeIs_bytes _ _ _
    have hh1 : A.in1.handled = none := hh
    wp_walk using wpAny_typeOf hT, collect_bytes (hn := hsz) hh1 b t
    intro s' acc hk hg hd hos hacc
    show wpAny _ _ (Builtin.Tuple.tupleExact acc.toList.toArray >>= fun v => ret v) _ _ _
    unfold Builtin.Tuple.tupleExact
    refine wpAny_bind (wpAny_newObj_type ?_ (show acc.toList.toArray.size ≤ sizeLine by simp only [Array.toArray_toList]; rw [hacc.1]; exact hsz))
    refine wpAny_pure ⟨_, rfl, ?_⟩
    have e : acc.toList.toArray = acc := by simp
    rw [e]
    exact h s' acc hk hg hd hos hacc
end
def tupOf (vs : List Value) : Obj := { cls := .type "tuple", data := .seq vs.toArray }
section
variable {prog : Program} {w : World} {A : Around} {E : Value → Shared → Prop} {s : Shared} {h₀ : Heap} {L : Addr} {m : Str → Option Value} {news : List (Addr × Obj)}
theorem octs_ints (b : Array UInt8) : ∀ (l : List Value) (k : Nat), (∀ j v, l[j]? = some v → OctAt b (k + j) v) → l.length + k ≤ b.size → IntsAre l (((KBw.bInts b).drop k).take l.length)
  | [], _, _, _ => by simpa using IntsAre.nil
  | v :: r, k, h, hl => by
    obtain ⟨c, u, hc, rfl⟩ := h 0 v rfl
    rw [Nat.add_zero] at hc
    have hk := KBw.ints_get hc
    have hlt : k < (KBw.bInts b).length := (List.getElem?_eq_some_iff.mp hk).1
    have e : (KBw.bInts b).drop k = (c.toNat : Int) :: (KBw.bInts b).drop (k + 1) := by
      rw [List.drop_eq_getElem_cons hlt]
      congr 1
      exact (List.getElem?_eq_some_iff.mp hk).2
    rw [e, List.length_cons, List.take_succ_cons]
    refine .cons _ _ (octs_ints b r (k + 1) (fun j v hv => ?_) (by rw [List.length_cons] at hl; omega))
    have := h (j + 1) v (by simpa using hv)
    rwa [show k + (j + 1) = k + 1 + j by omega] at this
theorem tuple_bytes {b : Array UInt8} {t : Tok} {ns : List Int} {Q : Value → Shared → Prop} (hh : A.handled = none) (Fh : Fr h₀ L s.heap m) (N : News h₀ L s.heap news) (hb : KBw.bInts b = ns) (hz : ns.length ≤ 16777216)
    (h : ∀ D h' tk vs, Fr h₀ L h' m → News h₀ L h' ((D, tupOf vs) :: news) → (∀ p ∈ news, p.1 < D) → h₀.objs.size ≤ D → IntsAre vs ns → Q (.ref D) { s with heap := h', toks := tk }) :
    wpAny (model prog w) A (call (.type "tuple") [.bytes b t]) Q E s := by
  subst hb
  rw [KBw.ints_length] at hz
  refine callType_new F.called_tuple (by decide) (F.typeCall_tuple_1 _) (F.newCall_tuple_1 _) (fun obj => F.args_object_init_2 obj _) F.entry_tuple_new
    (meets_tuple_bytes b t (by rw [PySem.sizeLine_eq]; exact hz)) ⟨hh, fun s' acc hk hg hd hos hacc => ⟨⟨_, Heap.get?_push_size _ rfl, rfl⟩, ?_⟩⟩
  obtain ⟨h', g', d', tk', os'⟩ := s'
  have e1 : g' = s.gens := hg
  have e2 : d' = s.drawn := hd
  have e3 : os' = s.os := hos
  subst e1 e2 e3
  have hk' : ∀ b o, s.heap.get? b = some o → h'.get? b = some o := hk
  have F' := Fh.keeps hk'
  have N' := N.grown hk'
  have hi : IntsAre acc.toList (KBw.bInts b) := by
    have := octs_ints b acc.toList 0 (fun j v hv => by rw [Nat.zero_add]; exact hacc.2 j v (by simpa using hv)) (by rw [Array.length_toList, hacc.1]; omega)
    rwa [List.drop_zero, Array.length_toList, hacc.1, List.take_of_length_le (by rw [KBw.ints_length]; omega)] at this
  refine h h'.objs.size (h'.push _) tk' acc.toList (F'.push _) (fun p hp => ?_) (fun p hp => Heap.lt_size (N' p hp).1) (fr_size F') hi
  rcases List.mem_cons.mp hp with rfl | hp
  · refine ⟨?_, Nat.ne_of_gt F'.ns.lt, ?_⟩
    · show _ = some (tupOf acc.toList)
      unfold tupOf
      rw [Array.toArray_toList]
      exact Heap.get?_push_size _ rfl
    · cases e : h₀.get? h'.objs.size with
      | none => rfl
      | some o => exact absurd (Heap.lt_size (F'.keep _ _ e)) (Nat.lt_irrefl _)
  · exact ⟨Heap.get?_push_of_some _ (N' p hp).1, (N' p hp).2⟩
end
theorem fresh_Png : True := by
  w_top off
  exact trivial
/-- a row as it lies: a list of two tuples -/
structure RwR where
  row : Addr
  n : Nat
  a : Addr
  va : List Value
  b : Addr
  vb : List Value
def RwR.led (t : RwR) : List (Addr × Obj) := [(t.row, listOf #[.ref t.a, .ref t.b] t.n), (t.a, tupOf t.va), (t.b, tupOf t.vb)]
def rwL (ts : List RwR) : List (Addr × Obj) := ts.flatMap RwR.led
def RwOk (t : RwR) (r : List Int) : Prop := IntsAre t.va (r.take 4) ∧ IntsAre t.vb (r.drop 4)
inductive RowsAre : List RwR → List (List Int) → Prop
  | nil : RowsAre [] []
  | cons {t r ts rs} : RwOk t r → RowsAre ts rs → RowsAre (t :: ts) (r :: rs)
theorem RowsAre.snoc {t : RwR} {r : List Int} : ∀ {ts : List RwR} {rs : List (List Int)}, RowsAre ts rs → RwOk t r → RowsAre (ts ++ [t]) (rs ++ [r])
  | _, _, .nil, h => .cons h .nil
  | _, _, .cons x y, h => .cons x (RowsAre.snoc y h)
theorem RowsAre.length : ∀ {ts : List RwR} {rs : List (List Int)}, RowsAre ts rs → ts.length = rs.length
  | _, _, .nil => rfl
  | _, _, .cons _ y => by rw [List.length_cons, List.length_cons, y.length]
/-- the picture as it is read: its size, its rows -/
inductive RetPng (wi he : Int) (rws : List (List Int)) : Heap → Value → Heap → Prop
  | mk {h h' : Heap} (T R : Addr) (c : Nat) (tw th : Tok) (ts : List RwR) (hT : h'.get? T = some (tupOf [.int wi tw, .int he th, .ref R])) (hR : h'.get? R = some (listOf (ts.map fun t => Value.ref t.row).toArray c))
    (hL : ∀ q ∈ rwL ts, h'.get? q.1 = some q.2) (hr : RowsAre ts rws) (zT : h.objs.size ≤ T) (zR : h.objs.size ≤ R) (zL : ∀ q ∈ rwL ts, h.objs.size ≤ q.1) : RetPng wi he rws h (.ref T) h'
def aboveI (rws : List (List Int)) : Nat → List Int
  | 0 => [0, 0, 0, 0, 0, 0, 0, 0]
  | y + 1 => rws.getD y []
section
variable {prog : Program} {w : World} {p : Program} {loose : List Str} {mean : ExcName → Option Value} {mg mb : Str → Option Value}
  {dp un : Nat} {gd : Option (List Code)} {outer : List Env} {base : Heap} {s : Shared} {Q E : Value → Shared → Prop}
  {f : Addr} {args : List Value} {d u : Nat} {pre : Heap → Prop} {h₀ : Heap} {L : Addr} {m : Str → Option Value} {news : List (Addr × Obj)} {A A₀ : Around} {env : Env}
/-- new objects go onto the ledger -/
theorem news_more {s₁ h' : Heap} {l : List (Addr × Obj)} (F₁ : Fr h₀ L s₁ m) (N : News h₀ L h' news) (hl : ∀ q ∈ l, h'.get? q.1 = some q.2 ∧ s₁.objs.size ≤ q.1) : News h₀ L h' (l ++ news) := fun q hq => by
  rcases List.mem_append.mp hq with hq | hq
  · obtain ⟨e, hs⟩ := hl q hq
    refine ⟨e, Nat.ne_of_gt (Nat.lt_of_lt_of_le F₁.ns.lt hs), ?_⟩
    cases e' : h₀.get? q.1 with
    | none => rfl
    | some o => exact absurd (Heap.lt_size (F₁.keep _ _ e')) (Nat.not_lt.mpr hs)
  · exact N q hq
/-- a call that gives back the chunks -/
theorem Spec.useChunks {cks : List (Str × List Int)}
    (S : Spec prog w f args d u pre (NewChunks cks))
    (B : Below A₀ base outer h₀) (F : Fr h₀ L s.heap m) (X : (hd.heap_1 w.params).In h₀) (N : News h₀ L s.heap news) (T : Top p loose mean mg mb h₀)
    (hA : A = topA dp un gd (env :: outer)) (hf : env.frame = some L) (hk : env.scope.kind = .function)
    (hd : dp + d < recursionLimit) (hu : un + u < cLine) (hp : pre s.heap)
    (h : ∀ l c ts h' tk', Fr h₀ L h' m → News h₀ L h' (((l, listOf (ts.map fun t : CkR => Value.ref t.1).toArray c) :: ckL ts) ++ news) → (∀ p ∈ news, p.1 < l ∧ ∀ q ∈ ckL ts, p.1 < q.1) → ts.map (fun t => (t.2.1, KBw.bInts t.2.2.2.1)) = cks → Q (.ref l) { s with heap := h', toks := tk' }) :
    wpAny (model prog w) A (call (.ref f) args) Q E s :=
  S.use B F X N T hA hf hk hd hu hp fun v h' tk' F' N' _ _ po => by
    obtain ⟨l, c, ts, rfl, hg, hl, ho, hm⟩ := po
    refine h l c ts h' tk' F' (news_more F N' fun q hq => ?_) (fun p hp => ⟨Nat.lt_of_lt_of_le (Heap.lt_size (N p hp).1) hl, fun q hq => Nat.lt_of_lt_of_le (Heap.lt_size (N p hp).1) (ho q hq).2⟩) hm
    rcases List.mem_cons.mp hq with rfl | hq
    · exact ⟨hg, hl⟩
    · exact ho q hq
theorem chunksAt_of {h : Heap} {l : Addr} {c : Nat} {ts : List CkR} (N : News h₀ L h news) (hl : (l, listOf (ts.map fun t => Value.ref t.1).toArray c) ∈ news) (ho : ∀ q ∈ ckL ts, q ∈ news) : ChunksAt h l ts := by
  refine ⟨News.isList N hl, fun t ht => ?_⟩
  have := ho _ (List.mem_map.mpr ⟨t, ht, rfl⟩ : (t.1, ckT t.2.1 t.2.2.1 t.2.2.2.1 t.2.2.2.2) ∈ ckL ts)
  exact ⟨_, (N _ this).1, rfl, _, rfl⟩
end
section
variable {prog : Program} {w : World} {p : Program} {loose : List Str} {mean : ExcName → Option Value} {mg mb : Str → Option Value}
  {dp un : Nat} {gd : Option (List Code)} {outer : List Env} {base h₀ : Heap} {s : Shared} {Q E : Value → Shared → Prop} {K : Frag}
theorem enterXCN {name qual : Str} {params : Arguments} {body : List Stmt} {scope : Scope} {dV kV doc pm cdv ct oc : Value} {an od : Option Addr} {osl : Array (Option Value)} {f : Addr} {vals : List Value} (led : List (Addr × Obj))
    (X : K.In h₀) (T : Top p loose mean mg mb h₀) (hst : h₀.StaysIn s.heap) (hsz : h₀.objs.size = s.heap.objs.size) (hled : ∀ q ∈ led, s.heap.get? q.1 = some q.2 ∧ h₀.get? q.1 = none)
    (ho : K.lookup f = some ⟨oc, od, .func (fnOf name qual params body scope dV kV doc pm an cdv ct), osl⟩) (hcd : codeIn K cdv qual = true) (hroom : dp < recursionLimit)
    (hbind : bindArgs (fnOf name qual params body scope dV kV doc pm an cdv ct) ⟨vals, []⟩ = pure ((params.args.map (·.arg)).zip vals))
    (hkind : (((params.args.map (·.arg)).zip vals).all fun y => scope.names.lookup y.1 == some .local || scope.names.lookup y.1 == some .cell) = true) (hnd : ((cellsFrom 0 scope.names []).map (·.1)).Nodup)
    (h : ∀ L' h₁ tk cells, Fr h₀ L' h₁ (bindL (envOfC qual scope L' f cdv).kindOf ((params.args.map (·.arg)).zip vals) fun _ => none) → News h₀ L' h₁ (cells ++ led) →
      CellsAre (bindC (envOfC qual scope L' f cdv).kindOf ((params.args.map (·.arg)).zip vals) fun _ => none) (cellsFrom (L' + 1) scope.names []) cells → (∀ q ∈ led, q.1 < L') →
      wpC (model prog w) ((topA dp un gd outer).deeper (envOfC qual scope L' f cdv)) (execs body (envOfC qual scope L' f cdv))
        (fun fl s' => Q (match fl with | .ret v => v | _ => .none) s') (fun _ _ => False) { s with heap := h₁, toks := tk })
    (hco : scope.isCoroutine = false := by rfl) (hgen : scope.isGenerator = false := by rfl) (hk : scope.kind = .function := by rfl) :
    wpC (model prog w) (topA dp un gd outer) (call (.ref f) vals) Q E s :=
  enterXC led X T hst hsz hled ho hcd hroom hbind hkind hnd (fun L' h₁ tk cells F N Y l => wpC_mono (h L' h₁ tk cells F N Y l) (fun _ _ q => q) fun _ _ e => e.elim) hco hgen hk
end
section
variable {prog : Program} {w : World} {A : Around} {E : Value → Shared → Prop} {s s₀ : Shared} {env : Env} {h₀ : Heap} {body : List Stmt} {Q : Flow → Shared → Prop} {m₀ : Str → Option Value}
/-- a for loop, its target a name, at the clean stacks, no raise -/
theorem forNCN {σ : Type} (Led : σ → List (Addr × Obj)) (ps : σ → List (Str × Value)) (Inv : Nat → σ → Prop) (c₀ : σ) {x : Str} {px : Pos} {h₁ : Heap} {I : Addr} {fp wr rest : List Addr} {n : Nat} {P : Nat → Value → Prop} {St : Nat → Heap → Prop}
    (S : SrcW prog w A s.heap h₁ I rest n P fp wr St) (hx : env.kindOf x = some .local) (hp : (env.scope.kind == .class || (env.scope.kind == .module && env.locals != env.globals)) = false)
    (hrest : ∀ b ∈ rest, (∃ o, h₀.get? b = some o) ∨ (∃ o, ∀ c, (b, o) ∈ Led c))
    (F : Fr h₀ env.locals s.heap m₀) (N : News h₀ env.locals s.heap (Led c₀)) (hk : ∀ p ∈ ps c₀, m₀ p.1 = some p.2) (h0 : Inv 0 c₀)
    (turn : ∀ i v c (u : Str → Option Value) h tk own, i < n → P i v → Inv i c → OwnOff own ((Led c).map (·.1)) →
      Fr h₀ env.locals h (fun z => if z = x then some v else kstB u (ps c) z) → News h₀ env.locals h (Led c ++ own) →
      wpC (model prog w) A (execs body env) (ForEnd prog w A h₀ env.locals s (fun c' => Led c' ++ own) ps (fun c' => OwnOff own ((Led c').map (·.1)) ∧ Inv (i + 1) c') Q) (fun _ _ => False) { s with heap := h, toks := tk })
    (done : ∀ c (u : Str → Option Value) h tk, Inv n c → Fr h₀ env.locals h (kstB u (ps c)) → News h₀ env.locals h (Led c) → Q .next { s with heap := h, toks := tk }) :
    codeC (model prog w) A (.forLoop (.Name x px) (.ref I) body [] env) (fun r s' => match r with | .ok f => Q f s' | .error e => cameBackBy (model prog w) A env E e s') { s with heap := h₁ } :=
  forNC Led ps Inv c₀ S hx hp hrest F N hk h0 (fun i v c u h tk own h1 h2 h3 h4 h5 h6 => wpC_mono (turn i v c u h tk own h1 h2 h3 h4 h5 h6) (fun _ _ q => q) fun _ _ e => e.elim) done
end
theorem fresh_Exc : True := by
  w_top off
  exact trivial
/-- the class of the faults, as the written heap bears it -/
abbrev faultTail : List Value := [.ref 31, .type "Exception", .type "BaseException", .type "object"]
theorem fault_cls {P : Params} {h : Heap} (X : (Mine.hd.heap_1 P).In h) : h.get? 44 = some (excClassObj (Str.ofString "SheetFault") (Str.ofString "SheetFault") 44 43 [Value.ref 31] faultTail true [] [] false none none
    (some (Value.ref 35)) none (some (Value.str (Str.ofString "SheetFault") 218)) (some (Value.str (Str.ofString "SheetFault") 226)) (some (Value.bool true)) "Exception.__new__") := X _ _ (by with_unfolding_all exact rfl)
section
variable {M : Model} {A : Around} {E : Value → Shared → Prop} {h : Heap} {g : Array GenState} {d : Drawn} {t : Nat} {os : OsState}
variable {nm q : Str} {C N : Addr} {bs bm : List Value} {hdct : Bool} {sn : List Str} {sub : List Value} {ab : Bool} {col : Option Bool} {dd : Option Addr} {k0 k1 k2 k3 k5 : Option Value} {B newId initId : String} {bmB : List Value}
theorem own_check_new (Fn : ExcBaseFacts B newId initId bmB) (hcont : (Value.ref C :: bm).contains (.type B) = true) {rest : List Value} {Q : Unit → Shared → Prop} (hC : h.get? C = some (excClassObj nm q C N bs bm hdct sn sub ab col dd k0 k1 k2 k3 k5 newId))
    (hq : Q () ⟨h, g, d, t, os⟩) : wpAny M A (checkBuiltinCall newId ⟨.ref C :: rest, []⟩) Q E ⟨h, g, d, t, os⟩ := by
  have hstar := Fn.noStar
  simp only [checkBuiltinCall, Fn.newKind, Fn.newSplit, Fn.newRow]
  repeat (first | refine wpAny_loadPart_at hC ?_ | (refine wpAny_isSubtype_exc hC ?_; rw [hcont]) | refine wpAny_staticBase_exc hC ?_ | refine wpAny_madeBy_exc hC ?_ | simp only [bne_self_eq_false, Bool.false_eq_true, if_false] | wp_step)
  exact hq
end
section
variable {prog : Program} {w : World} {A : Around} {E : Value → Shared → Prop} {R : Result → Shared → Prop} {h : Heap} {g : Array GenState} {d : Drawn} {t : Nat} {os : OsState}
variable {nm q : Str} {C N : Addr} {bs bm : List Value} {hdct : Bool} {sn : List Str} {sub : List Value} {ab : Bool} {col : Option Bool} {dd : Option Addr} {k0 k1 k2 k3 k5 : Option Value} {B newId initId : String} {bmB : List Value}
theorem own_new (Fn : ExcBaseFacts B newId initId bmB) (hcB : (Value.ref C :: bm).contains (.type B) = true) (hcA : (Value.ref C :: bm).contains (.type "AttributeError") = false) (hcN : (Value.ref C :: bm).contains (.type "NameError") = false) {rest : List Value}
    (hC : h.get? C = some (excClassObj nm q C N bs bm hdct sn sub ab col dd k0 k1 k2 k3 k5 newId))
    (hq : R (.ok (.ret (.ref (h.objs.size + 1)))) ⟨(h.push { cls := .type "tuple", data := .seq rest.toArray }).push
      { cls := .ref C, data := .fields #[.ref h.objs.size, .none, .none, .none, .bool false, .none] }, g, d, t, os⟩) (hrest : rest.length ≤ sizeLine) :
    codeAny (model prog w) A (.builtin newId ⟨.ref C :: rest, []⟩) R ⟨h, g, d, t, os⟩ := by
  have hends := Fn.ends
  refine codeAny_builtinAt Fn.entry ?_
  unfold Builtin.«BaseException.__new__»
  refine PySem.wpAt_bind ?_
  show PySem.wpAt _ _ _ (stack >>= _) _ _ _
  refine PySem.wpAt_bind (PySem.wpAt_stack fun p below => PySem.wpAt_of_wpAny ?_)
  wp_walk
  refine PySem.wpAt_of_wpAny ?_
  rw [Fn.owner]
  repeat (first | with_reducible refine wpAny_madeHere_exc Fn.canon hC ?_ | with_reducible refine wpAny_loadPart_at hC ?_ | (with_reducible refine wpAny_isSubtype_exc hC ?_; first | rw [hcB] | rw [hcA] | rw [hcN]) | wp_step)
  show R _ _
  rw [Heap.size_push]
  exact hq
end

section
variable {prog : Program} {w : World} {A : Around} {E : Value → Shared → Prop} {h : Heap} {g : Array GenState} {d : Drawn} {t : Nat} {os : OsState}
variable {nm q : Str} {C N : Addr} {bs bm : List Value} {hdct : Bool} {sn : List Str} {sub : List Value} {ab : Bool} {col : Option Bool} {dd : Option Addr} {k0 k1 k2 k3 k5 : Option Value} {B newId initId : String} {bmB : List Value}
theorem own_type_call (Fn : ExcBaseFacts B newId initId bmB) (hcB : (Value.ref C :: bm).contains (.type B) = true) (hcA : (Value.ref C :: bm).contains (.type "AttributeError") = false) (hcN : (Value.ref C :: bm).contains (.type "NameError") = false)
    {rest : List Value} {fI : Addr} {oI : Obj} {Q : Fin → Shared → Prop}
    (hC : h.get? C = some (excClassObj nm q C N bs bm hdct sn sub ab col dd k0 k1 k2 k3 k5 newId)) (hl : Looks (model prog w) h (typeLookup (.ref C) "__init__") (some (.ref fI)))
    (hfI : h.get? fI = some oI) (hfc : oI.cls = .type "function")
    (hq : ∀ h' e, Heap.MadeExcOf h h' e (.ref C) rest →
      wpAny (model prog w) A (call (.ref fI) (.ref e :: rest)) (fun r s' => r = .none ∧ Q (.done (.ret (.ref e))) s') E ⟨h', g, d, t, os⟩) (hrest : rest.length ≤ sizeLine) :
    wpAny (model prog w) A (Builtin.«type.__call__» ⟨.ref C :: rest, []⟩) Q E ⟨h, g, d, t, os⟩ := by
  repeat (first | with_reducible refine wpAny_loadPart_at hC ?_ | with_reducible refine wpAny_madeBy_exc hC ?_ | wp_step)
  refine codeAny_call_builtin_code (Code.quiet_builtin _ Fn.quiet) (own_check_new Fn hcB hC ?_)
  refine own_new Fn hcB hcA hcN hC ?_ hrest
  show wpAny _ _ _ _ _ _
  have hC₁ := Heap.get?_push_of_some { cls := .ref C, data := .fields #[.ref h.objs.size, .none, .none, .none, .bool false, .none] }
    (Heap.get?_push_of_some { cls := .type "tuple", data := .seq rest.toArray } hC)
  have hfI₁ := Heap.get?_push_of_some { cls := .ref C, data := .fields #[.ref h.objs.size, .none, .none, .none, .bool false, .none] }
    (Heap.get?_push_of_some { cls := .type "tuple", data := .seq rest.toArray } hfI)
  have hget : ((h.push { cls := .type "tuple", data := .seq rest.toArray }).push
      { cls := .ref C, data := .fields #[.ref h.objs.size, .none, .none, .none, .bool false, .none] }).get? (h.objs.size + 1) = some
      { cls := .ref C, data := .fields #[.ref h.objs.size, .none, .none, .none, .bool false, .none] } := by heap_get
  have hcC : (Value.ref C :: bm).contains (.ref C) = true := by simp
  unfold isInstance
  repeat (first | with_reducible refine wpAny_loadPart_at hget ?_ | (with_reducible refine wpAny_isSubtype_exc hC₁ ?_; rw [hcC]) | wp_step)
  show wpAny _ _ (typeLookup (.ref C) _) _ _ _
  refine hl _ _ _ _ (fun b o e => Heap.get?_push_of_some _ (Heap.get?_push_of_some _ e)) ?_
  refine wpAny_holding (wpAny_bind ?_)
  unfold bindSpecial
  refine wpAny_bind (wpAny_typeOf (T := "function") ⟨_, hfI₁, hfc⟩ ?_)
  rw [if_pos (by decide)]
  refine wpAny_pure (wpAny_bind (wpAny_mono (hq _ (h.objs.size + 1) ⟨fun b o hb => Heap.get?_push_of_some _ (Heap.get?_push_of_some _ hb), Heap.get?_none_of_le (Nat.le_succ _), h.objs.size, hget, Heap.get?_none_of_le (Nat.le_refl _), ?_⟩) (fun r s' hr => ?_) fun _ _ x => x))
  · exact Heap.get?_push_of_some _ (Heap.get?_push_at rfl rfl)
  · obtain ⟨rfl, hQ⟩ := hr
    wp_walk
    exact hQ
theorem own_call (Fn : ExcBaseFacts B newId initId bmB) (hcB : (Value.ref C :: bm).contains (.type B) = true) (hcA : (Value.ref C :: bm).contains (.type "AttributeError") = false) (hcN : (Value.ref C :: bm).contains (.type "NameError") = false)
    {rest : List Value} {fI : Addr} {oI : Obj} {Q : Value → Shared → Prop}
    (hC : h.get? C = some (excClassObj nm q C N bs bm hdct sn sub ab col dd k0 k1 k2 k3 k5 newId)) (hl : Looks (model prog w) h (typeLookup (.ref C) "__init__") (some (.ref fI)))
    (hfI : h.get? fI = some oI) (hfc : oI.cls = .type "function")
    (hq : ∀ h' e, Heap.MadeExcOf h h' e (.ref C) rest →
      wpAny (model prog w) (A.under (.builtin "type.__call__" ⟨.ref C :: rest, []⟩)) (call (.ref fI) (.ref e :: rest)) (fun r s' => r = .none ∧ Q (.ref e) s') E ⟨h', g, d, t, os⟩) (hrest : rest.length ≤ sizeLine) :
    wpAny (model prog w) A (call (.ref C) rest) Q E ⟨h, g, d, t, os⟩ := by
  have f1 := tc_lookup
  have f2 := tc_bind (.ref C)
  have hT : (⟨h, g, d, t, os⟩ : Shared).TypeIs (.ref C) "type" := ⟨_, hC, rfl⟩
  refine wpAny_call (codeAny_of_tree ?_)
  show wpAny _ _ (callAny (.ref C) _) _ _ _
  repeat (any_goals (first | assumption | with_reducible refine wpAny_loadPart_at hC ?_ | wp_step))
  refine ⟨rfl, ?_⟩
  refine codeAny_call_builtin_at (Code.quiet_builtin _ (by decide +kernel)) entry_typeCall (wpAny_check_type_call_sub hC (own_type_call Fn hcB hcA hcN hC hl hfI hfc (fun h' e hm => ?_) hrest))
  exact hq h' e hm
end
theorem fresh_Fault : True := by
  w_top off
  exact trivial
section
variable {prog : Program} {w : World} {A : Around} {E : Value → Shared → Prop} {K : Frag}
/-- a field set on a fault that has no dict as yet -/
theorem set_fault {P : Params} {h : Heap} {g : Array GenState} {d : Drawn} {t : Nat} {os : OsState} {e : Addr} {vs : Array Value} {name : Str} {v : Value} {Q : Unit → Shared → Prop}
    (X : (Mine.hd.heap_1 P).In h) (hs : findIn (Mine.hd.heap_1 P) (.ref 44) "__setattr__" = some (some (.builtin "object.__setattr__"))) (hn : findIn (Mine.hd.heap_1 P) (.ref 44) name = some none)
    (hsub : mroIn (Mine.hd.heap_1 P) 44 (.type "object") = some true) (hx : h.get? e = some { cls := .ref 44, data := .fields vs })
    (hq : ∀ h' tk D, (∀ b o, b ≠ e → h.get? b = some o → h'.get? b = some o) → h'.get? e = some { cls := .ref 44, dict := some D, data := .fields vs } → Q () ⟨h', g, d, tk, os⟩) :
    wpAny (model prog w) A (setAttr (.ref e) name v) Q E ⟨h, g, d, t, os⟩ := by
  have hC := fault_cls X
  have SF := PySem.F.store_Exception
  have hpass := SF.passes (.ref e)
  have I : PySem.W.InstAt h e { cls := .ref 44, data := .fields vs } 44 none := ⟨hx, rfl, rfl, trivial⟩
  refine set_plain (s := ⟨h, g, d, t, os⟩) X I hs ?_
  have sub : Looks (model prog w) h (isInstance (.ref e) (.type "object")) true := I.type.andThen (looks_mroIn X hsub)
  refine codeAny_call_builtin SF.slot.plain SF.entry (@check_slot (model prog w) _ _ ⟨h, g, d, t + 1, os⟩ "object.__setattr__" "object" "__setattr__" (.ref e) [.str name t, v] [] _ SF.kind SF.split sub (SF.args (.ref e) (.str name t) v) ?_)
  rw [PySem.W.osa_eq, refuse_eq]
  refine PySem.wpAny_bind (PySem.wpAny_bind (I.type.here (PySem.wpAny_bind (wpAny_mroOf_exc hC ?_))))
  rw [refuseLoop_ref, faultTail, refuseLoop_ref, hpass]
  refine PySem.wpAny_pure (PySem.wpAny_bind (I.type.here (PySem.wpAny_bind ((looks_findIn X hn).here (PySem.wpAny_bind (PySem.wpAny_pure ?_))))))
  dsimp only
  have hcl : Looks (model prog w) h (classData 44) ⟨Str.ofString "SheetFault", [Value.ref 31], .ref 44 :: faultTail, 43, Str.ofString "SheetFault", true, [], [], false, none, false⟩ := (Looks.ld (part := none) hC).andThen .now
  refine PySem.wpAny_bind (PySem.wpAny_pure (PySem.wpAny_bind (PySem.wpAny_bind (wpAny_loadPart_at hx (PySem.wpAny_bind (hcl.here ?_))))))
  dsimp only
  rw [if_neg (by decide), if_neg (by simp [typeHasDict])]
  have hx₁ : (h.push { cls := .type "dict", data := .dict #[] }).get? e = some { cls := .ref 44, data := .fields vs } := Heap.get?_push_of_some _ hx
  have hxs : e ≠ h.objs.size := Nat.ne_of_lt (Heap.lt_size hx)
  refine PySem.wpAny_bind (wpAny_alloc' ?_)
  refine PySem.wpAny_bind (wpAny_update' hx₁ ?_)
  refine PySem.wpAny_pure ?_
  have hgd : ((h.push { cls := .type "dict", data := .dict #[] }).update e fun o => { cls := o.cls, dict := some h.objs.size, data := o.data, slots := o.slots }).get? h.objs.size
      = some { cls := .type "dict", data := .dict #[] } :=
    (Heap.get?_update_ne _ _ _ _ hxs.symm).trans (Heap.get?_push_at rfl rfl)
  have hnd : ((h.push { cls := .type "dict", data := .dict #[] }).update e fun o => { cls := o.cls, dict := some h.objs.size, data := o.data, slots := o.slots }).Ns h.objs.size (fun _ => none) :=
    ⟨_, #[], _, hgd, rfl, fun e he => absurd he (by simp), fun _ => rfl⟩
  show wpAny _ _ (Builtin.ObjectAttr.storeInDict h.objs.size (.str name t) name v) _ _ _
  unfold Builtin.ObjectAttr.storeInDict Builtin.ObjectAttr.newKeyGuard
  refine PySem.wpAny_bind (PySem.wpAny_pure (PySem.wpAny_bind (wpAny_nsSet1 (Heap.Ns1.of_empty hnd) fun h' hn' hs => ?_)))
  obtain ⟨oD, esD, epD, hoD, hdD, hcD⟩ := hn'.count (Within.cons name v Within.nil)
  refine PySem.wpAny_bind (wpAny_lookBehind hoD (by rw [hdD]; exact pastItsLine_dict (Nat.le_trans hcD (by rw [List.length_cons, List.length_nil, sizeLine_eq]; omega))) ?_)
  refine PySem.wpAny_pure (hq h' _ h.objs.size (fun b ob hbx hb => ?_) ?_)
  · exact (hs.2 b (Nat.ne_of_lt (Heap.lt_size hb))).trans ((Heap.get?_update_ne _ _ _ _ hbx).trans (Heap.get?_push_of_some _ hb))
  · exact (hs.2 e hxs).trans (Heap.get?_update_self _ hx₁ rfl)
end
theorem under_tc {dp un : Nat} {gd : Option (List Code)} {outer : List Env} {rest : List Value} : (topA dp un gd outer).under (.builtin "type.__call__" ⟨.ref 44 :: rest, []⟩) = topA (dp + 1) (un + 1) gd outer := by
  first
  | kernel_rfl
  | (cases gd <;> kernel_rfl)
/-- a fault just made: its object is new over `base`, and has no traceback as yet -/
def Made (base : Heap) (l : List Env) (gn : Array GenState) (ow : OsState) (v : Value) (s : Shared) : Prop := (∃ e a0 oe vs, v = .ref e ∧ base.StaysIn s.heap ∧ base.get? e = none ∧ s.heap.FunFrames base l ∧ s.heap.get? e = some oe ∧ oe.cls = .ref 44 ∧ oe.data = .fields vs ∧ vs[0]? = some a0 ∧ vs[1]? = some .none) ∧ s.gens = gn ∧ s.os = ow
/-- a fault that flies: its object is new over `base`, its traceback begun -/
def Flies (base : Heap) (l : List Env) (gn : Array GenState) (ow : OsState) (v : Value) (s : Shared) : Prop := (∃ e a0, v = .ref e ∧ Heap.FlyingW base l e (.ref 44) a0 s.heap) ∧ s.gens = gn ∧ s.os = ow
/-- a fault on its way, its head at the frame `L` -/
def Held (base : Heap) (l : List Env) (L : Addr) (gn : Array GenState) (ow : OsState) (v : Value) (s : Shared) : Prop := (∃ e a0, v = .ref e ∧ Heap.HeldW base l e (.ref 44) a0 L s.heap) ∧ s.gens = gn ∧ s.os = ow
section
variable {prog : Program} {w : World} {p : Program} {loose : List Str} {mean : ExcName → Option Value} {mg mb : Str → Option Value}
  {dp un : Nat} {gd : Option (List Code)} {outer : List Env} {base h₀ : Heap} {s : Shared} {Q E : Value → Shared → Prop}
theorem init_fault {e : Addr} {vs : Array Value} {v : Value}
    (X : (hd.heap_1 w.params).In h₀) (T : Top p loose mean mg mb h₀) (hst : h₀.StaysIn s.heap) (hsz : h₀.objs.size = s.heap.objs.size) (hl : s.heap.get? e = some { cls := .ref 44, data := .fields vs }) (hln : h₀.get? e = none)
    (hd : dp + 1 < recursionLimit) (hu : un + 5 < cLine)
    (hq : ∀ h' tk' D, h₀.StaysIn h' → h'.get? e = some { cls := .ref 44, dict := some D, data := .fields vs } → Q .none { s with heap := h', toks := tk' }) :
    wpAny (model prog w) (topA dp un gd outer) (call (.ref 28) [.ref e, v]) Q E s := by
  with_unfolding_all refine' enterG [(e, _)] ?k1 ?k2 ?k2b ?k2c ?k2d ?k3 ?k4 ?k5 ?k6 ?k7 ?_ ?c1 ?c2 ?c3 ?c4
  (((case k1 => assumption); (case k2 => assumption); (try ((case k2b => assumption); (case k2c => assumption); (case k2d => first | exact List.forall_mem_nil _ | (intro q hq; cases List.mem_singleton.mp hq; exact And.intro (by assumption) (by assumption))))); (case k3 => k_is); (case k4 => k_is); (case k5 => omega); (case k6 => first | exact rfl | exact binds_K (by assumption) rfl (by k_is) rfl rfl rfl); (case k7 => first | exact locs rfl | exact rfl); (case c1 => exact rfl); (case c2 => exact rfl); (case c3 => exact rfl); (try (case c4 => decide))); intro _ _ F9; (dsimp only [List.map, List.zip, List.zipWith, List.reverse, List.reverseAux] at F9); revert F9; intro _ _; (try dsimp only); (try ((first | refine fold_env ?_ | refine fold_envC ?_); intro M₉ A₉ e₉ g₉ d₉ o₉)); (try k_fold))
  ((try k_fold); repeat' (first | (k_unfold; (try dsimp only)) | ((with_reducible show wpAny _ _ (setAttr (.ref _) _ _) _ _ _); refine' set_fault (Frag.In.keeps (by assumption) (Fr.keep (by assumption))) (by k_is) (by k_is) (by k_is) (((by assumption : News _ _ _ _) _ (.head _)).1) ?_; intro _ _ _ _ _; (try dsimp only)) | ((fail_if_success (with_reducible (first | show wpAny _ _ (exec (.For _ _ _ _ _) _) _ _ _ | show wpAny _ _ (exec (.While _ _ _ _) _) _ _ _ | show wpAny _ _ (pyIter _) _ _ _ | show wpAny _ _ (call (.type "zip") _) _ _ _ | show wpAny _ _ (call (.type "enumerate") _) _ _ _ | show wpAny _ _ (eval (.ListComp _ _ _ _) _) _ _ _ | show wpAny _ _ (exec (.Assign _ (.ListComp _ _ _ _) _) _) _ _ _))); walk1; (try dsimp only))))
  all_goals
    rename (∀ (b : Addr) (o : Obj), b ≠ e → _ → _) => hk'
    refine hq _ _ _ (fun b o e0 => hk' b o (fun z => ?_) (Fr.keep (by assumption) b o e0)) (by assumption)
    rw [z, hln] at e0; cases e0
/-- the fault is made -/
theorem make_fault {A₀ : Around} {A : Around} {env : Env} {L : Addr} {m : Str → Option Value} {x : Str} {t : Tok}
    (B : Below A₀ base outer h₀) (F : Fr h₀ L s.heap m) (X : (Mine.hd.heap_1 w.params).In h₀) (T : Top p loose mean mg mb h₀)
    (hA : A = topA dp un gd (env :: outer)) (hf : env.frame = some L) (hk : env.scope.kind = .function) (hd : dp + 2 < recursionLimit) (hu : un + 6 < cLine)
    (hl : findIn (Mine.hd.heap_1 w.params) (.ref 44) "__init__" = some (some (.ref 28))) (hfn : typeIn (Mine.hd.heap_1 w.params) (.ref 28) = some (.type "function"))
    (h : ∀ v s', h₀.StaysIn s'.heap → Made base (env :: outer) s.gens s.os v s' → Q v s') : wpAny (model prog w) A (call (.ref 44) [.str x t]) Q E s := by
  subst hA
  obtain ⟨hh, g, d, tk, os⟩ := s
  have X' := X.keeps F.keep
  have B' := pushX B F hf hk
  have hC := fault_cls X'
  have hfn' : ∃ oI, hh.get? 28 = some oI ∧ oI.cls = .type "function" := by
    obtain ⟨o, ho, hc⟩ := Option.map_eq_some_iff.mp (show ((Mine.hd.heap_1 w.params).lookup 28).map (·.cls) = _ from hfn)
    exact ⟨o, X' _ _ ho, hc⟩
  obtain ⟨oI, hI, hIc⟩ := hfn'
  refine own_call PySem.F.excBase_Exception (by decide +kernel) (by decide +kernel) (by decide +kernel) hC (looks_findIn X' hl) hI hIc (fun h' e hm => ?_) (by rw [sizeLine_eq]; simp only [List.length_cons, List.length_nil]; omega)
  rw [under_tc]
  obtain ⟨tt, he, htn, ht⟩ := hm.there
  have hst : h₀.StaysIn (hideAll h' [e]) := fun b o z => hideAll_get _ (hm.keeps _ _ (F.keep b o z)) fun q => by
    rw [List.mem_singleton.mp q] at z; have := F.keep _ _ z; rw [hm.new] at this; cases this
  have hsth : hh.StaysIn (hideAll h' [e]) := fun b o z => hideAll_get _ (hm.keeps _ _ z) fun q => by
    rw [List.mem_singleton.mp q] at z; rw [hm.new] at z; cases z
  refine init_fault (h₀ := hideAll h' [e]) (X.keeps hst) (T.keeps hst) (fun b o e => of_hideAll _ e) (hideAll_size _ _) he (hideAll_none _ (.head _)) (by omega) (by omega) fun h'' tk' D st he'' => ⟨rfl, h _ _ (fun b o z => st b o (hst b o z)) ?_⟩
  refine ⟨⟨e, _, _, _, rfl, fun b o z => st b o (hsth b o (B'.stays b o z)), ?_, ?_, he'', rfl, rfl, rfl, rfl⟩, rfl, rfl⟩
  · cases z : base.get? e with
    | none => rfl
    | some o => have := B'.stays _ _ z; dsimp only at this; rw [hm.new] at this; cases this
  · exact B'.frames.of_keeps fun b o z _ => ⟨o, st b o (hsth b o z), rfl⟩
end
/-- what a raise asks of the value that it throws -/
structure Raised (h₀ base : Heap) (l : List Env) (gn : Array GenState) (ow : OsState) (E : Value → Shared → Prop) (v : Value) (s' : Shared) : Prop where
  stays : h₀.StaysIn s'.heap
  made : Made base l gn ow v s'
  ends : E v s'
section
variable {prog : Program} {w : World} {A : Around} {E : Value → Shared → Prop} {s : Shared} {env : Env} {base h₀ : Heap} {l : List Env} {gn : Array GenState} {ow : OsState}
theorem raise_fault {e : Expr} {pos : Pos} {Q : Flow → Shared → Prop} (X : (Mine.hd.heap_1 w.params).In h₀) (hh : A.handled = none)
    (h : wpAny (model prog w) A (eval e env) (Raised h₀ base l gn ow E) E s) : wpAny (model prog w) A (exec (.Raise (some e) none pos) env) Q E s := by
  rw [arm_exec_Raise]
  refine PySem.wpAny_bind (wpAny_standAt ?_)
  refine PySem.wpAny_bind (PySem.wpAny_bind (PySem.wpAny_mono h (fun v s₁ h₁ => PySem.wpAny_bind (wpAny_standAt (PySem.wpAny_pure ?_))) fun _ _ x => x))
  obtain ⟨st, ⟨⟨e, a0, oe, vs, rfl, m1, m2, m3, he, hc, hd, m4, m5⟩, _, _⟩, hE⟩ := h₁
  obtain ⟨hp, g, d, tk, os⟩ := s₁
  have hC := fault_cls (X.keeps st)
  have hcB : (Value.ref 44 :: faultTail).contains (.type "BaseException") = true := by decide +kernel
  repeat (first | (with_reducible refine wpAny_loadPart_at he ?_; rw [hc]) | with_reducible refine wpAny_loadPart_at hC ?_ | (with_reducible refine wpAny_isSubtype_exc hC ?_; rw [hcB]) | rw [hd] | rw [m5] | wp_step)
  exact wpAny_raiseNew_none hh hE
end
section
variable {M : Model} {A A' : Around} {E : Value → Shared → Prop} {s : Shared} {env : Env} {base : Heap} {outer : List Env} {L : Addr} {v : Value} {gn : Array GenState} {ow : OsState}
theorem leave_made {Q : Unit → Shared → Prop} (hfr : A.frames = some (env :: outer)) (hf : env.frame = some L) (hm : Made base (env :: outer) gn ow v s) (hQ : ∀ s', Flies base outer gn ow v s' → Q () s') :
    wpAny M A (leaving env v) Q E s := by
  obtain ⟨⟨e, a0, oe, vs, rfl, m1, m2, m3, he, hc, hd, m4, m5⟩, g1, g2⟩ := hm
  refine wpAny_leaving_firstW (a0 := a0) hfr m3 hf he m1 m2 hd m5 m4 fun h' hL => ?_
  obtain ⟨k1, ⟨_, _, k2⟩, k3, k4⟩ := hL
  exact hQ _ ⟨⟨e, a0, rfl, k1, m2, k2, hc ▸ k3⟩, g1, g2⟩
theorem leave_flies {Q : Unit → Shared → Prop} (hfr : A.frames = some (env :: outer)) (hf : env.frame = some L) (hm : Flies base (env :: outer) gn ow v s) (hQ : ∀ s', Flies base outer gn ow v s' → Q () s') :
    wpAny M A (leaving env v) Q E s := by
  obtain ⟨⟨e, a0, rfl, m⟩, g1, g2⟩ := hm
  exact wpAny_leaves_onW hfr hf m fun h' k _ => hQ _ ⟨⟨e, a0, rfl, k⟩, g1, g2⟩
theorem leave_held {Q : Unit → Shared → Prop} (hf : env.frame = some L) (hm : Held base (env :: outer) L gn ow v s) (hQ : ∀ s', Flies base outer gn ow v s' → Q () s') :
    wpAny M A (leaving env v) Q E s := by
  obtain ⟨⟨e, a0, rfl, m⟩, g1, g2⟩ := hm
  exact wpAny_leaves_heldW hf m fun h' k => hQ _ ⟨⟨e, a0, rfl, k⟩, g1, g2⟩
theorem passes_loop (hfr : A'.frames = some (env :: outer)) (hf : env.frame = some L) (hm : Flies base (env :: outer) gn ow v s) (hE : ∀ s', Held base (env :: outer) L gn ow v s' → E v s') :
    notedBy M A' env (cameBackBy M A env E) v s := by
  obtain ⟨⟨e, a0, rfl, m⟩, g1, g2⟩ := hm
  refine wpAny_looks_onW hfr hf m fun h' k _ => ?_
  obtain ⟨hkb, hen, hl, oe, vs, T, oT, ts, he, hcls, hd, h1, hnT, hTe, hT, hdT, h3⟩ := k
  unfold cameBackBy
  refine PySem.wpAny_bind (wpAny_field he hd h1 ?_)
  rw [if_neg (show ¬ ((Value.ref T == Value.none) = true) from by simp)]
  rw [hf]
  have hsz3 : 3 < ts.size := (Array.getElem?_eq_some_iff.mp h3).1
  have other : ∀ b, b ≠ T → (h'.update T (Obj.mapFields (·.setIfInBounds 3 ((some L).elim Value.none fun f => rawInt f)))).get? b = h'.get? b :=
    fun b hb => Heap.get?_update_other _ _ (Ne.symm hb)
  have noRecord : ∀ b o, h'.get? b = some o → (∀ vs, o.data ≠ .fields vs) → b ≠ T := fun b o hb hnf q => by
    rw [q, hT] at hb; injection hb with hb; subst hb; exact hnf ts hdT
  unfold setFlight
  refine PySem.wpAny_bind (wpAny_field he hd h1 ?_)
  rw [if_pos (show (Value.ref T != Value.none) = true from by simp)]
  refine wpAny_setField hT hdT hsz3 (hE _ ⟨⟨e, a0, rfl, fun b o hbo => (other b fun q => by rw [q, hnT] at hbo; cases hbo).trans (hkb b o hbo), hen,
    hl.of_keeps fun b o hb hnf => ⟨o, (other b (noRecord b o hb hnf)).trans hb, rfl⟩, ?_⟩, g1, g2⟩)
  exact ⟨oe, vs, T, _, _, (other e (Ne.symm hTe)).trans he, hcls, hd, h1, hnT, hTe, Heap.get?_update_self _ hT (Obj.isFreed_of_fields (Obj.data_mapFields hdT _)), Obj.data_mapFields hdT _, by simp [hsz3]⟩
end
/-- a call that raises -/
def SpecE (prog : Program) (w : World) (f : Addr) (args : List Value) (d u : Nat) (pre : Heap → Prop) : Prop :=
  ∀ (p : Program) (loose : List Str) (mean : ExcName → Option Value) (mg mb : Str → Option Value)
    (dp un : Nat) (gd : Option (List Code)) (outer : List Env) (base : Heap) (s : Shared) (Q E : Value → Shared → Prop),
    Below (topA dp un gd outer) base outer s.heap → (hd.heap_1 w.params).In s.heap → Top p loose mean mg mb s.heap →
    dp + d < recursionLimit → un + u < cLine → pre s.heap →
    (∀ v s', Flies base outer s.gens s.os v s' → E v s') →
    wpAny (model prog w) (topA dp un gd outer) (call (.ref f) args) Q E s
/-- the same, at clean stacks -/
def SpecEC (prog : Program) (w : World) (f : Addr) (args : List Value) (d u : Nat) (pre : Heap → Prop) : Prop :=
  ∀ (p : Program) (loose : List Str) (mean : ExcName → Option Value) (mg mb : Str → Option Value)
    (dp un : Nat) (gd : Option (List Code)) (outer : List Env) (base : Heap) (s : Shared) (Q E : Value → Shared → Prop),
    Below (topA dp un gd outer) base outer s.heap → (hd.heap_1 w.params).In s.heap → Top p loose mean mg mb s.heap →
    dp + d < recursionLimit → un + u < cLine → pre s.heap →
    (∀ v s', Flies base outer s.gens s.os v s' → E v s') →
    wpC (model prog w) (topA dp un gd outer) (call (.ref f) args) Q E s
section
variable {prog : Program} {w : World} {p : Program} {loose : List Str} {mean : ExcName → Option Value} {mg mb : Str → Option Value}
  {dp un : Nat} {gd : Option (List Code)} {outer : List Env} {base : Heap} {s : Shared} {Q E : Value → Shared → Prop}
theorem SpecE.use {f : Addr} {args : List Value} {d u : Nat} {pre : Heap → Prop} {h₀ : Heap} {L : Addr} {m : Str → Option Value} {A A₀ : Around} {env : Env}
    (S : SpecE prog w f args d u pre) (hA : A = topA dp un gd (env :: outer) := by exact rfl) (hf : env.frame = some L := by exact rfl) (hk : env.scope.kind = .function := by exact rfl)
    (B : Below A₀ base outer h₀ := by k_asm) (F : Fr h₀ L s.heap m := by k_asm) (X : (hd.heap_1 w.params).In h₀ := by k_asm) (T : Top p loose mean mg mb h₀ := by k_asm)
    (hd : dp + d < recursionLimit := by walk_at "mine room") (hu : un + u < cLine := by walk_at "mine room") (hp : pre s.heap := by first | exact True.intro | assumption) (h : ∀ v s', Flies base (env :: outer) s.gens s.os v s' → E v s') :
    wpAny (model prog w) A (call (.ref f) args) Q E s := by
  subst hA
  have B' := pushX B F hf hk
  exact S p loose mean mg mb dp un gd (env :: outer) base s Q E ⟨rfl, B'.stays, B'.frames⟩ (X.keeps F.keep) (T.keeps F.keep) hd hu hp h
theorem SpecEC.use {f : Addr} {args : List Value} {d u : Nat} {pre : Heap → Prop} {h₀ : Heap} {L : Addr} {m : Str → Option Value} {A A₀ : Around} {env : Env}
    (S : SpecEC prog w f args d u pre) (B : Below A₀ base outer h₀) (F : Fr h₀ L s.heap m) (X : (hd.heap_1 w.params).In h₀) (T : Top p loose mean mg mb h₀)
    (hA : A = topA dp un gd (env :: outer)) (hf : env.frame = some L) (hk : env.scope.kind = .function)
    (hd : dp + d < recursionLimit) (hu : un + u < cLine) (hp : pre s.heap) (h : ∀ v s', Flies base (env :: outer) s.gens s.os v s' → E v s') :
    wpC (model prog w) A (call (.ref f) args) Q E s := by
  subst hA
  have B' := pushX B F hf hk
  exact S p loose mean mg mb dp un gd (env :: outer) base s Q E ⟨rfl, B'.stays, B'.frames⟩ (X.keeps F.keep) (T.keeps F.keep) hd hu hp h
end
theorem fresh_Rguess : True := by
  w_top off
  exact trivial
section
variable {prog : Program} {w : World} {p : Program} {loose : List Str} {mean : ExcName → Option Value} {mg mb : Str → Option Value}
  {dp un : Nat} {gd : Option (List Code)} {outer : List Env} {base : Heap} {s : Shared} {Q E : Value → Shared → Prop} {K : Frag}
theorem enterE {name qual : Str} {params : Arguments} {body : List Stmt} {scope : Scope} {dV kV doc pm cdv ct oc : Value} {an od : Option Addr} {osl : Array (Option Value)} {f : Addr} {vals : List Value}
    (X : K.In s.heap) (T : Top p loose mean mg mb s.heap)
    (ho : K.lookup f = some ⟨oc, od, .func (fnOf name qual params body scope dV kV doc pm an cdv ct), osl⟩) (hcd : codeIn K cdv qual = true) (hroom : dp < recursionLimit)
    (hbind : bindArgs (fnOf name qual params body scope dV kV doc pm an cdv ct) ⟨vals, []⟩ = pure ((params.args.map (·.arg)).zip vals)) (hloc : ∀ y ∈ (params.args.map (·.arg)).zip vals, scope.names.lookup y.1 = some .local)
    (E₁ : Env → Value → Shared → Prop)
    (hE : ∀ L', ∀ v s', E₁ (envOf qual scope L' f cdv) v s' → wpAny (model prog w) ((topA dp un gd outer).deeper (envOf qual scope L' f cdv)) (leaving (envOf qual scope L' f cdv) v) (fun _ s'' => E v s'') (fun e' s'' => E e' s'') s')
    (h : ∀ L' h₁, Fr s.heap L' h₁ (fun y => ((params.args.map (·.arg)).zip vals).reverse.lookup y) → News s.heap L' h₁ [] →
      wpAny (model prog w) ((topA dp un gd outer).deeper (envOf qual scope L' f cdv)) (execs body (envOf qual scope L' f cdv))
        (fun fl s' => Q (match fl with | .ret v => v | _ => .none) s') (E₁ (envOf qual scope L' f cdv))
        { s with heap := h₁, toks := s.toks + ((params.args.map (·.arg)).zip vals).length })
    (hco : scope.isCoroutine = false := by rfl) (hgen : scope.isGenerator = false := by rfl) (hk : scope.kind = .function := by rfl)
    (hcell : ∀ x ∈ scope.names, x.2 ≠ .cell := by decide) :
    wpAny (model prog w) (topA dp un gd outer) (call (.ref f) vals) Q E s :=
  enter X T ho hcd hroom (BindsTo.of_eq hbind) hloc (fun L' h₁ F N => PySem.wpAny_mono (h L' h₁ F N) (fun _ _ x => x) (fun v s' x => hE L' v s' x)) hco hgen hk hcell
theorem raise_faultB {A A₀ : Around} {env : Env} {h₀ : Heap} {e : Expr} {pos : Pos} {Q : Flow → Shared → Prop} (B : Below A₀ base outer h₀) (X : (Mine.hd.heap_1 w.params).In h₀) (hh : A.handled = none)
    (h : wpAny (model prog w) A (eval e env) (Raised h₀ base (env :: outer) s.gens s.os E) E s) : wpAny (model prog w) A (exec (.Raise (some e) none pos) env) Q E s := raise_fault X hh h
end
section
variable {prog : Program} {w : World}
set_option maxHeartbeats 8000000 in
theorem guess_raises (k a b c : Int) (tk ta tb tc : Tok) (h5 : 5 ≤ k) : SpecE prog w 64 [.int k tk, .int a ta, .int b tb, .int c tc] 3 30 (fun _ => True) := by
  intro p loose mean mg mb dp un gd outer base s Q E B X T hd hu _ hret
  with_unfolding_all refine' enterE ?k1 ?k2 ?k3 ?k4 ?k5 ?k6 ?k7 (fun env v s' => Made base (env :: outer) s.gens s.os v s') (fun L' v s' hm => leave_made rfl rfl hm (fun s'' hf => hret v s'' hf)) ?_ ?c1 ?c2 ?c3 ?c4
  (((case k1 => assumption); (case k2 => assumption); (try ((case k2b => assumption); (case k2c => assumption); (case k2d => first | exact List.forall_mem_nil _ | (intro q hq; cases List.mem_singleton.mp hq; exact And.intro (by assumption) (by assumption))))); (case k3 => k_is); (case k4 => k_is); (case k5 => omega); (case k6 => first | exact rfl | exact binds_K (by assumption) rfl (by k_is) rfl rfl rfl); (case k7 => first | exact locs rfl | exact rfl); (case c1 => exact rfl); (case c2 => exact rfl); (case c3 => exact rfl); (try (case c4 => decide))); intro _ _ F9; (dsimp only [List.map, List.zip, List.zipWith, List.reverse, List.reverseAux] at F9); revert F9; intro _ _; (try dsimp only); (try ((first | refine fold_env ?_ | refine fold_envC ?_); intro M₉ A₉ e₉ g₉ d₉ o₉)); (try k_fold))
  ((try k_fold); repeat' (first | (k_unfold; (try dsimp only)) | ((with_reducible show wpAny _ _ (exec (.Raise _ _ _) _) _ _ _); first | (exfalso; first | omega | contradiction) | refine' raise_faultB (by assumption) (by assumption) (by with_unfolding_all exact rfl) ?_; (try dsimp only)) | ((fail_if_success (with_reducible (first | show wpAny _ _ (exec (.For _ _ _ _ _) _) _ _ _ | show wpAny _ _ (exec (.While _ _ _ _) _) _ _ _ | show wpAny _ _ (pyIter _) _ _ _ | show wpAny _ _ (call (.type "zip") _) _ _ _ | show wpAny _ _ (call (.type "enumerate") _) _ _ _ | show wpAny _ _ (eval (.ListComp _ _ _ _) _) _ _ _ | show wpAny _ _ (exec (.Assign _ (.ListComp _ _ _ _) _) _) _ _ _))); walk1; (try dsimp only))))
  all_goals first
  | (exfalso; omega)
  | exact make_fault (by assumption) (by assumption) (by assumption) (by assumption) rfl rfl rfl (by walk_at "mine room") (by walk_at "mine room") (by k_is) (by k_is) (fun v s' st hm => ⟨st, hm, hm⟩)
end
theorem fresh_Runf : True := by
  w_top off
  exact trivial
section
variable {prog : Program} {w : World} {p : Program} {loose : List Str} {mean : ExcName → Option Value} {mg mb : Str → Option Value}
  {dp un : Nat} {gd : Option (List Code)} {outer : List Env} {base : Heap} {s : Shared} {Q E : Value → Shared → Prop} {K : Frag}
theorem enterCE {name qual : Str} {params : Arguments} {body : List Stmt} {scope : Scope} {dV kV doc pm cdv ct oc : Value} {an od : Option Addr} {osl : Array (Option Value)} {f : Addr} {vals : List Value}
    (X : K.In s.heap) (T : Top p loose mean mg mb s.heap)
    (ho : K.lookup f = some ⟨oc, od, .func (fnOf name qual params body scope dV kV doc pm an cdv ct), osl⟩) (hcd : codeIn K cdv qual = true) (hroom : dp < recursionLimit)
    (hbind : bindArgs (fnOf name qual params body scope dV kV doc pm an cdv ct) ⟨vals, []⟩ = pure ((params.args.map (·.arg)).zip vals)) (hloc : ∀ y ∈ (params.args.map (·.arg)).zip vals, scope.names.lookup y.1 = some .local)
    (E₁ : Env → Value → Shared → Prop)
    (hE : ∀ L', ∀ v s', E₁ (envOf qual scope L' f cdv) v s' → wpAny (model prog w) ((topA dp un gd outer).deeper (envOf qual scope L' f cdv)) (leaving (envOf qual scope L' f cdv) v) (fun _ s'' => E v s'') (fun e' s'' => E e' s'') s')
    (h : ∀ L' h₁, Fr s.heap L' h₁ (fun y => ((params.args.map (·.arg)).zip vals).reverse.lookup y) → News s.heap L' h₁ [] →
      wpC (model prog w) ((topA dp un gd outer).deeper (envOf qual scope L' f cdv)) (execs body (envOf qual scope L' f cdv))
        (fun fl s' => Q (match fl with | .ret v => v | _ => .none) s') (E₁ (envOf qual scope L' f cdv))
        { s with heap := h₁, toks := s.toks + ((params.args.map (·.arg)).zip vals).length })
    (hco : scope.isCoroutine = false := by rfl) (hgen : scope.isGenerator = false := by rfl) (hk : scope.kind = .function := by rfl)
    (hcell : ∀ x ∈ scope.names, x.2 ≠ .cell := by decide) :
    wpC (model prog w) (topA dp un gd outer) (call (.ref f) vals) Q E s :=
  enterC X T ho hcd hroom hbind hloc (fun L' h₁ F N => wpC_mono (h L' h₁ F N) (fun _ _ x => x) (fun v s' x => hE L' v s' x)) hco hgen hk hcell
end
section
variable {prog : Program} {w : World}
set_option maxHeartbeats 8000000 in
theorem unfiltered_raises (k : Int) (t₀ t₁ t₂ t₃ : Tok) (bt ba : Array UInt8) (t a : List Int) (ht : KBw.bInts bt = t) (ha : KBw.bInts ba = a) (hl : a.length = t.length) (h5 : 5 ≤ k) (hz : t.length ≤ 1000) (hp0 : 1 ≤ t.length) :
    SpecEC prog w 71 [.int k t₀, .bytes bt t₁, .bytes ba t₂, .int 4 t₃] 6 60 (fun _ => True) := by
  intro p loose mean mg mb dp un gd outer base s Q E B X T hd hu _ hret
  with_unfolding_all refine' enterCE ?k1 ?k2 ?k3 ?k4 ?k5 ?k6 ?k7 (fun env v s' => Held base (env :: outer) env.locals s.gens s.os v s') (fun L' v s' hm => leave_held rfl hm (fun s'' hf => hret v s'' hf)) ?_ ?c1 ?c2 ?c3 ?c4
  (((case k1 => assumption); (case k2 => assumption); (try ((case k2b => assumption); (case k2c => assumption); (case k2d => first | exact List.forall_mem_nil _ | (intro q hq; cases List.mem_singleton.mp hq; exact And.intro (by assumption) (by assumption))))); (case k3 => k_is); (case k4 => k_is); (case k5 => omega); (case k6 => first | exact rfl | exact binds_K (by assumption) rfl (by k_is) rfl rfl rfl); (case k7 => first | exact locs rfl | exact rfl); (case c1 => exact rfl); (case c2 => exact rfl); (case c3 => exact rfl); (try (case c4 => decide))); intro _ _ F9; (dsimp only [List.map, List.zip, List.zipWith, List.reverse, List.reverseAux] at F9); revert F9; intro _ _; (try dsimp only); (try ((first | refine fold_env ?_ | refine fold_envC ?_); intro M₉ A₉ e₉ g₉ d₉ o₉)); (try k_fold))
  refine wpC_execs_cons (wpC_Assign_Name (wpC_Call_Name ?_))
  ((try k_fold); repeat' (first | (k_unfold; (try dsimp only)) | ((fail_if_success (with_reducible (first | show wpAny _ _ (exec (.For _ _ _ _ _) _) _ _ _ | show wpAny _ _ (exec (.While _ _ _ _) _) _ _ _ | show wpAny _ _ (pyIter _) _ _ _ | show wpAny _ _ (call (.type "zip") _) _ _ _ | show wpAny _ _ (call (.type "enumerate") _) _ _ _ | show wpAny _ _ (eval (.ListComp _ _ _ _) _) _ _ _ | show wpAny _ _ (exec (.Assign _ (.ListComp _ _ _ _) _) _) _ _ _))); walk1; (try dsimp only))))
  refine callWith_B0 rfl (newBaM (by assumption) (by assumption) ?_)
  intro r h2 F2 N2 l1 l2
  ((try k_fold); repeat' (first | (k_unfold; (try dsimp only)) | ((fail_if_success (with_reducible (first | show wpAny _ _ (exec (.For _ _ _ _ _) _) _ _ _ | show wpAny _ _ (exec (.While _ _ _ _) _) _ _ _ | show wpAny _ _ (pyIter _) _ _ _ | show wpAny _ _ (call (.type "zip") _) _ _ _ | show wpAny _ _ (call (.type "enumerate") _) _ _ _ | show wpAny _ _ (eval (.ListComp _ _ _ _) _) _ _ _ | show wpAny _ _ (exec (.Assign _ (.ListComp _ _ _ _) _) _) _ _ _))); walk1; (try dsimp only))))
  refine wpC_execs_cons (wpC_For ?_)
  ((try k_fold); repeat' (first | (k_unfold; (try dsimp only)) | ((fail_if_success (with_reducible (first | show wpAny _ _ (exec (.For _ _ _ _ _) _) _ _ _ | show wpAny _ _ (exec (.While _ _ _ _) _) _ _ _ | show wpAny _ _ (pyIter _) _ _ _ | show wpAny _ _ (call (.type "zip") _) _ _ _ | show wpAny _ _ (call (.type "enumerate") _) _ _ _ | show wpAny _ _ (eval (.ListComp _ _ _ _) _) _ _ _ | show wpAny _ _ (exec (.Assign _ (.ListComp _ _ _ _) _) _) _ _ _))); walk1; (try dsimp only))))
  rename News _ _ _ _ => N
  rename Fr _ _ _ _ => F
  refine src_enum_bytes rfl ht ?_
  intro h₁ I fp wr St S
  refine forPC (σ := Array UInt8) (fun c => [(r, baOf c)]) (fun _ => [(Str.ofString "row", .ref r), (Str.ofString "step", .int 4 t₃), (Str.ofString "above", .bytes ba t₂), (Str.ofString "kind", .int k t₀)])
    (fun i c => i = 0) #[] S rfl rfl rfl (fun b hb => nomatch hb) F N (by (repeat (first | exact List.forall_mem_nil _ | refine List.forall_mem_cons.mpr ⟨by first | rfl | assumption, ?_⟩))) rfl ?_ ?_
  · intro i x y c u h tk own hi hrx9 hrx10 hoff F' N'
    obtain ⟨n, t1, t2, hn, rfl, rfl⟩ := hrx9
    subst hrx10
    clear F N S
    (try dsimp only at N' hoff)
    simp only [List.cons_append, List.nil_append] at N' hoff
    walk_at "mine in"
    (refine wpC_execs_consA ?_; ((try k_fold); repeat' (first | (k_unfold; (try dsimp only)) | ((fail_if_success (with_reducible (first | show wpAny _ _ (exec (.For _ _ _ _ _) _) _ _ _ | show wpAny _ _ (exec (.While _ _ _ _) _) _ _ _ | show wpAny _ _ (pyIter _) _ _ _ | show wpAny _ _ (call (.type "zip") _) _ _ _ | show wpAny _ _ (call (.type "enumerate") _) _ _ _ | show wpAny _ _ (eval (.ListComp _ _ _ _) _) _ _ _ | show wpAny _ _ (exec (.Assign _ (.ListComp _ _ _ _) _) _) _ _ _))); walk1; (try dsimp only)))); all_goals (try dsimp only))
    all_goals first | (exfalso; omega) | skip
    (refine wpC_execs_consA ?_; ((try k_fold); repeat' (first | (k_unfold; (try dsimp only)) | ((fail_if_success (with_reducible (first | show wpAny _ _ (exec (.For _ _ _ _ _) _) _ _ _ | show wpAny _ _ (exec (.While _ _ _ _) _) _ _ _ | show wpAny _ _ (pyIter _) _ _ _ | show wpAny _ _ (call (.type "zip") _) _ _ _ | show wpAny _ _ (call (.type "enumerate") _) _ _ _ | show wpAny _ _ (eval (.ListComp _ _ _ _) _) _ _ _ | show wpAny _ _ (exec (.Assign _ (.ListComp _ _ _ _) _) _) _ _ _))); walk1; (try dsimp only)))); all_goals (try dsimp only))
    all_goals first | (exfalso; omega) | skip
    refine wpC_execs_cons (wpC_Expr (wpC_Call_built rfl rfl rfl BF.plainAttrs_ba BF.slot_append BF.type_append ?_))
    ((try k_fold); repeat' (first | (k_unfold; (try dsimp only)) | ((fail_if_success (with_reducible (first | show wpAny _ _ (exec (.For _ _ _ _ _) _) _ _ _ | show wpAny _ _ (exec (.While _ _ _ _) _) _ _ _ | show wpAny _ _ (pyIter _) _ _ _ | show wpAny _ _ (call (.type "zip") _) _ _ _ | show wpAny _ _ (call (.type "enumerate") _) _ _ _ | show wpAny _ _ (eval (.ListComp _ _ _ _) _) _ _ _ | show wpAny _ _ (exec (.Assign _ (.ListComp _ _ _ _) _) _) _ _ _))); walk1; (try dsimp only))))
    refine' BuiltOn.ba ?hb ?_
    (case hb => (exact isBa_of (by k_asm) (by k_mem)))
    refine callWith_B1 rfl ?_
    ((try k_fold); repeat' (first | (k_unfold; (try dsimp only)) | ((with_reducible show wpAny _ _ (call (.ref _) _) _ _ _); refine' SpecE.use (guess_raises _ _ _ _ _ _ _ _ (by assumption)) (h := ?_); (try dsimp only)) | ((with_reducible show wpAny _ _ (subscriptTail _ _ (.bytes _ _) (.int _ _)) _ _ _); refine KBw.item_K (by assumption) (by omega) (by omega) (by omega) ?_; intro _ _ _ _; (try dsimp only)) | ((fail_if_success (with_reducible (first | show wpAny _ _ (exec (.For _ _ _ _ _) _) _ _ _ | show wpAny _ _ (exec (.While _ _ _ _) _) _ _ _ | show wpAny _ _ (pyIter _) _ _ _ | show wpAny _ _ (call (.type "zip") _) _ _ _ | show wpAny _ _ (call (.type "enumerate") _) _ _ _ | show wpAny _ _ (eval (.ListComp _ _ _ _) _) _ _ _ | show wpAny _ _ (exec (.Assign _ (.ListComp _ _ _ _) _) _) _ _ _))); walk1; (try dsimp only))))
    exact passes_loop rfl rfl (by assumption) (fun s' h => h)
  · intro c u h tk hI F' N'
    omega
end
theorem fresh_Runs : True := by
  w_top off
  exact trivial
section
variable {prog : Program} {w : World}
set_option maxHeartbeats 8000000 in
theorem unstored_raises (bs : Array UInt8) (t : Tok) (ns : List Int) (hbs : KBw.bInts bs = ns) (hz : ns.length ≤ 100000) (hz2 : 2 ≤ ns.length)
    (hbad : ns.getD (Int.toNat 0) 0 % 16 = 8 → Int.fmod (256 * ns.getD (Int.toNat 0) 0 + ns.getD (Int.toNat 1) 0) 31 = 0 → Builtin.bitAnd (ns.getD (Int.toNat 1) 0) 32 = 0 → False) :
    SpecEC prog w 115 [.bytes bs t] 6 60 (fun _ => True) := by
  intro p loose mean mg mb dp un gd outer base s Q E B X T hd hu _ hret
  with_unfolding_all refine' enterCE ?k1 ?k2 ?k3 ?k4 ?k5 ?k6 ?k7 (fun env v s' => Made base (env :: outer) s.gens s.os v s') (fun L' v s' hm => leave_made rfl rfl hm (fun s'' hf => hret v s'' hf)) ?_ ?c1 ?c2 ?c3 ?c4
  (((case k1 => assumption); (case k2 => assumption); (try ((case k2b => assumption); (case k2c => assumption); (case k2d => first | exact List.forall_mem_nil _ | (intro q hq; cases List.mem_singleton.mp hq; exact And.intro (by assumption) (by assumption))))); (case k3 => k_is); (case k4 => k_is); (case k5 => omega); (case k6 => first | exact rfl | exact binds_K (by assumption) rfl (by k_is) rfl rfl rfl); (case k7 => first | exact locs rfl | exact rfl); (case c1 => exact rfl); (case c2 => exact rfl); (case c3 => exact rfl); (try (case c4 => decide))); intro _ _ F9; (dsimp only [List.map, List.zip, List.zipWith, List.reverse, List.reverseAux] at F9); revert F9; intro _ _; (try dsimp only); (try ((first | refine fold_env ?_ | refine fold_envC ?_); intro M₉ A₉ e₉ g₉ d₉ o₉)); (try k_fold))
  (refine wpC_execs_consA ?_; ((try k_fold); repeat' (first | (k_unfold; (try dsimp only)) | ((with_reducible show wpAny _ _ (exec (.Raise _ _ _) _) _ _ _); first | (exfalso; first | omega | contradiction) | refine' raise_faultB (by assumption) (by assumption) (by with_unfolding_all exact rfl) ?_; (try dsimp only)) | ((with_reducible show wpAny _ _ (binaryOp .BitAnd (.int _ _) (.int _ _)) _ _ _); first | refine and_lit (bitAnd_m4 _) ?_ | refine and_lit (bitAnd_m8 _) ?_ | refine and_lit (bitAnd_m16 _) ?_; (try dsimp only)) | ((with_reducible show wpAny _ _ (subscriptTail _ _ (.bytes _ _) (.int _ _)) _ _ _); refine KBw.item_K (by assumption) (by omega) (by omega) (by omega) ?_; intro _ _ _ _; (try dsimp only)) | ((fail_if_success (with_reducible (first | show wpAny _ _ (exec (.For _ _ _ _ _) _) _ _ _ | show wpAny _ _ (exec (.While _ _ _ _) _) _ _ _ | show wpAny _ _ (pyIter _) _ _ _ | show wpAny _ _ (call (.type "zip") _) _ _ _ | show wpAny _ _ (call (.type "enumerate") _) _ _ _ | show wpAny _ _ (eval (.ListComp _ _ _ _) _) _ _ _ | show wpAny _ _ (exec (.Assign _ (.ListComp _ _ _ _) _) _) _ _ _))); walk1; (try dsimp only)))); all_goals (try dsimp only))
  all_goals first
  | (exfalso; omega)
  | exact make_fault (by assumption) (by assumption) (by assumption) (by assumption) rfl rfl rfl (by walk_at "mine room") (by walk_at "mine room") (by k_is) (by k_is) (fun v s' st hm => ⟨st, hm, hm⟩)
  | exact (hbad (by assumption) (by assumption) (by assumption)).elim
end
theorem fresh_Rpng : True := by
  w_top off
  exact trivial
section
variable {prog : Program} {w : World} {p : Program} {loose : List Str} {mean : ExcName → Option Value} {mg mb : Str → Option Value}
  {dp un : Nat} {gd : Option (List Code)} {outer : List Env} {base h₀ : Heap} {s : Shared} {Q E : Value → Shared → Prop} {K : Frag}
theorem enterXCE {name qual : Str} {params : Arguments} {body : List Stmt} {scope : Scope} {dV kV doc pm cdv ct oc : Value} {an od : Option Addr} {osl : Array (Option Value)} {f : Addr} {vals : List Value} (led : List (Addr × Obj))
    (X : K.In h₀) (T : Top p loose mean mg mb h₀) (hst : h₀.StaysIn s.heap) (hsz : h₀.objs.size = s.heap.objs.size) (hled : ∀ q ∈ led, s.heap.get? q.1 = some q.2 ∧ h₀.get? q.1 = none)
    (ho : K.lookup f = some ⟨oc, od, .func (fnOf name qual params body scope dV kV doc pm an cdv ct), osl⟩) (hcd : codeIn K cdv qual = true) (hroom : dp < recursionLimit)
    (hbind : bindArgs (fnOf name qual params body scope dV kV doc pm an cdv ct) ⟨vals, []⟩ = pure ((params.args.map (·.arg)).zip vals))
    (hkind : (((params.args.map (·.arg)).zip vals).all fun y => scope.names.lookup y.1 == some .local || scope.names.lookup y.1 == some .cell) = true) (hnd : ((cellsFrom 0 scope.names []).map (·.1)).Nodup)
    (E₁ : Env → Value → Shared → Prop)
    (hE : ∀ L', ∀ v s', E₁ (envOfC qual scope L' f cdv) v s' → wpAny (model prog w) ((topA dp un gd outer).deeper (envOfC qual scope L' f cdv)) (leaving (envOfC qual scope L' f cdv) v) (fun _ s'' => E v s'') (fun e' s'' => E e' s'') s')
    (h : ∀ L' h₁ tk cells, Fr h₀ L' h₁ (bindL (envOfC qual scope L' f cdv).kindOf ((params.args.map (·.arg)).zip vals) fun _ => none) → News h₀ L' h₁ (cells ++ led) →
      CellsAre (bindC (envOfC qual scope L' f cdv).kindOf ((params.args.map (·.arg)).zip vals) fun _ => none) (cellsFrom (L' + 1) scope.names []) cells → (∀ q ∈ led, q.1 < L') →
      wpC (model prog w) ((topA dp un gd outer).deeper (envOfC qual scope L' f cdv)) (execs body (envOfC qual scope L' f cdv))
        (fun fl s' => Q (match fl with | .ret v => v | _ => .none) s') (E₁ (envOfC qual scope L' f cdv)) { s with heap := h₁, toks := tk })
    (hco : scope.isCoroutine = false := by rfl) (hgen : scope.isGenerator = false := by rfl) (hk : scope.kind = .function := by rfl) :
    wpC (model prog w) (topA dp un gd outer) (call (.ref f) vals) Q E s :=
  enterXC led X T hst hsz hled ho hcd hroom hbind hkind hnd (fun L' h₁ tk cells F N Y l => wpC_mono (h L' h₁ tk cells F N Y l) (fun _ _ q => q) fun v s' x => hE L' v s' x) hco hgen hk
end
/-- a call that gives back a value or raises a fault, as a case says -/
def SpecB (prog : Program) (w : World) (f : Addr) (args : List Value) (d u : Nat) (Post : Heap → Value → Heap → Prop) (good : Prop) : Prop :=
  ∀ (p : Program) (loose : List Str) (mean : ExcName → Option Value) (mg mb : Str → Option Value)
    (dp un : Nat) (gd : Option (List Code)) (outer : List Env) (base : Heap) (s : Shared) (Q E : Value → Shared → Prop),
    Below (topA dp un gd outer) base outer s.heap → (hd.heap_1 w.params).In s.heap → Top p loose mean mg mb s.heap →
    dp + d < recursionLimit → un + u < cLine →
    (good → ∀ v h' tk', s.heap.StaysIn h' → s.heap.objs.size ≤ h'.objs.size → Post s.heap v h' → Q v { s with heap := h', toks := tk' }) →
    (¬ good → ∀ v s', Flies base outer s.gens s.os v s' → E v s') →
    wpC (model prog w) (topA dp un gd outer) (call (.ref f) args) Q E s
section
variable {prog : Program} {w : World}
/-- a stream that begins badly -/
def BadPair (ns : List Int) : Prop := 2 ≤ ns.length ∧ (ns.getD (Int.toNat 0) 0 % 16 = 8 → Int.fmod (256 * ns.getD (Int.toNat 0) 0 + ns.getD (Int.toNat 1) 0) 31 = 0 → Builtin.bitAnd (ns.getD (Int.toNat 1) 0) 32 = 0 → False)
/-- a stream of one row whose kind is none -/
def BadKind (ns : List Int) : Prop := ∃ a b pss, ns = streamI a b pss ∧ a % 16 = 8 ∧ (256 * a + b) % 31 = 0 ∧ Builtin.bitAnd b 32 = 0 ∧ (1 ≤ pss.length ∧ pss.length ≤ 3) ∧ pss.flatten.length = 5 ∧ 5 ≤ pss.flatten.getD (Int.toNat 0) 0
set_option maxHeartbeats 8000000 in
theorem png_both (bs : Array UInt8) (t : Tok) (d0 : List Int) (crest : List (Str × List Int)) (ns : List Int) (ys : List Str) (rws : List (List Int)) (wi hei : Int) (good : Prop)
    (hbs : KBw.bInts bs = fileI ((nmHead, d0) :: crest)) (hx : ∀ c ∈ (nmHead, d0) :: crest, c.1.cps.size = 4 ∧ OkB (signs c.1 ++ c.2) ∧ c.2.length ≤ 2000) (hn : crest.length ≤ 9) (hz : (fileI ((nmHead, d0) :: crest)).length ≤ 100000)
    (hys : nmHead :: crest.map (·.1) = ys) (he : ys[ys.length - 1]? = some nmEnd) (hi : (!(ys.any (· == nmData))) = false)
    (c1 : countIn (.str nmHead) (ys.map PyData.str) ≤ 1) (c2 : countIn (.str nmEnd) (ys.map PyData.str) ≤ 1) (hd1 : d0.length = 13) (hd2 : d0.drop (Int.toNat 8) = [8, 6, 0, 0, 0]) (hw : get32 d0 0 = wi) (hh : get32 d0 4 = hei)
    (hdat : ((((nmHead, d0) :: crest).filter (·.1 == nmData)).map (·.2)).flatten = ns) (hd3 : 1 ≤ (((nmHead, d0) :: crest).filter (·.1 == nmData)).length) (hnl : ns.length ≤ 2000)
    (hcase : (good ∧ wi = 2 ∧ hei = 5 ∧ ∃ a b pss, ns = streamI a b pss ∧ a % 16 = 8 ∧ (256 * a + b) % 31 = 0 ∧ Builtin.bitAnd b 32 = 0 ∧ (1 ≤ pss.length ∧ pss.length ≤ 3) ∧ pss.flatten.length = 45 ∧
        (∀ y, y < 5 → ∃ k, pss.flatten.getD (9 * y) 0 = k ∧ 0 ≤ k ∧ k ≤ 4 ∧ (rws.getD y []).length = 8 ∧ unfI k ((pss.flatten.drop (9 * y + 1)).take 8) (aboveI rws y) 8 = rws.getD y []) ∧ rws.length = 5) ∨
      (¬ good ∧ wi = 1 ∧ hei = 1 ∧ (BadPair ns ∨ BadKind ns))) :
    SpecB prog w 135 [.bytes bs t] 9 100 (RetPng 2 5 rws) good := by
  intro p loose mean mg mb dp un gd outer base s Q E B X T hd hu hretG hretB
  have stay : s.heap.StaysIn s.heap := fun _ _ e => e
  have same : s.heap.objs.size = s.heap.objs.size := rfl
  with_unfolding_all refine' enterXCE [] ?k1 ?k2 ?k2b ?k2c ?k2d ?k3 ?k4 ?k5 ?k6 ?k7 ?k8 (fun env v s' => ¬ good ∧ (Flies base (env :: outer) s.gens s.os v s' ∨ Held base (env :: outer) env.locals s.gens s.os v s')) (fun L' v s' hm => hm.2.elim (fun hf' => leave_flies rfl rfl hf' (fun s'' hf => hretB hm.1 v s'' hf)) (fun hf' => leave_held rfl hf' (fun s'' hf => hretB hm.1 v s'' hf))) ?_ ?c1 ?c2 ?c3
  (((case k1 => assumption); (case k2 => assumption); (try ((case k2b => assumption); (case k2c => assumption); (case k2d => first | exact List.forall_mem_nil _ | (intro q hq; cases List.mem_singleton.mp hq; exact And.intro (by assumption) (by assumption))))); (case k3 => k_is); (case k4 => k_is); (case k5 => omega); (case k6 => first | exact rfl | exact binds_K (by assumption) rfl (by k_is) rfl rfl rfl); (case k7 => first | exact locs rfl | exact rfl); (case c1 => exact rfl); (case c2 => exact rfl); (case c3 => exact rfl); (try (case c4 => decide))); (case k8 => decide +kernel); walk_at "mine cells"; (try dsimp only); (try ((first | refine fold_env ?_ | refine fold_envC ?_); intro M₉ A₉ e₉ g₉ d₉ o₉)); (try k_fold))
  rename_i L h1 tk1 F0 l0 oc d1 N0
  replace d1 : oc.data = .cell none := d1
  replace F0 : Fr s.heap L h1 (fun y => if y = Str.ofString "octets" then some (.bytes bs t) else none) := F0
  (refine wpC_execs_consA ?_; ((try k_fold); repeat' (first | (k_unfold; (try dsimp only)) | ((fail_if_success (with_reducible (first | show wpAny _ _ (exec (.For _ _ _ _ _) _) _ _ _ | show wpAny _ _ (exec (.While _ _ _ _) _) _ _ _ | show wpAny _ _ (pyIter _) _ _ _ | show wpAny _ _ (call (.type "zip") _) _ _ _ | show wpAny _ _ (call (.type "enumerate") _) _ _ _ | show wpAny _ _ (eval (.ListComp _ _ _ _) _) _ _ _ | show wpAny _ _ (exec (.Assign _ (.ListComp _ _ _ _) _) _) _ _ _))); walk1; (try dsimp only)))); all_goals (try dsimp only))
  refine Spec.useChunks (read_spec bs t _ hbs hx (by rw [List.length_cons]; omega) hz) (by assumption) F0 (by assumption) N0 (by assumption) rfl rfl rfl (by walk_at "mine room") (by walk_at "mine room") trivial ?_
  intro l c ts h2 tk2 F1 N1 hlt hts
  clear F0 N0
  obtain ⟨⟨a0, x0, u0, b0, v0⟩, trest, rfl⟩ : ∃ t0 tr, ts = t0 :: tr := by
    cases ts with
    | nil => cases hts
    | cons t0 tr => exact ⟨t0, tr, rfl⟩
  have hts' := hts
  simp only [List.map_cons, List.cons.injEq, Prod.mk.injEq] at hts'
  obtain ⟨⟨rfl, hb0⟩, htr⟩ := hts'
  obtain ⟨hl1, hl2⟩ := hlt _ (.head _)
  dsimp only at hl1 hl2
  have hl3 : L + 1 < a0 := hl2 (a0, _) (.head _)
  have hoff : OwnOff (ckL trest) [L + 1] := fun q hq b hb => by rw [List.mem_singleton.mp hb]; exact Nat.ne_of_gt (hl2 q (List.mem_cons_of_mem _ hq))
  obtain ⟨own, hown⟩ : ∃ own, own = ckL trest := ⟨_, rfl⟩
  rw [← hown] at hoff
  have hckl : ckL ((a0, nmHead, u0, b0, v0) :: trest) = (a0, { cls := .type "tuple", data := .seq #[.str nmHead u0, .bytes b0 v0] }) :: own := by rw [hown]; rfl
  rw [hckl] at N1
  replace N1 : News s.heap L h2 ((l, listOf (((a0, nmHead, u0, b0, v0) :: trest).map fun t : CkR => Value.ref t.1).toArray c) :: (a0, { cls := .type "tuple", data := .seq #[.str nmHead u0, .bytes b0 v0] }) :: (L + 1, oc) :: own) := fun q hq => N1 q (by
    walk_at "mine subq")
  have hc0 : (((a0, nmHead, u0, b0, v0) :: trest).map fun t : CkR => Value.ref t.1)[Int.toNat 0]? = some (.ref a0) := rfl
  have htl : trest.length = crest.length := by rw [← htr, List.length_map]
  have hys' : ((a0, nmHead, u0, b0, v0) :: trest).map (·.2.1) = ys := by rw [← hys, ← htr, List.map_cons, List.map_map]; rfl
  generalize hts9 : (a0, nmHead, u0, b0, v0) :: trest = ts at *
  ((try k_fold); repeat' (first | (k_unfold; (try dsimp only)) | ((fail_if_success (with_reducible (first | show wpAny _ _ (exec (.For _ _ _ _ _) _) _ _ _ | show wpAny _ _ (exec (.While _ _ _ _) _) _ _ _ | show wpAny _ _ (pyIter _) _ _ _ | show wpAny _ _ (call (.type "zip") _) _ _ _ | show wpAny _ _ (call (.type "enumerate") _) _ _ _ | show wpAny _ _ (eval (.ListComp _ _ _ _) _) _ _ _ | show wpAny _ _ (exec (.Assign _ (.ListComp _ _ _ _) _) _) _ _ _))); walk1; (try dsimp only))))
  refine wpC_execs_consA ?_
  ((try k_fold); repeat' (first | (k_unfold; (try dsimp only)) | ((fail_if_success (with_reducible (first | show wpAny _ _ (exec (.For _ _ _ _ _) _) _ _ _ | show wpAny _ _ (exec (.While _ _ _ _) _) _ _ _ | show wpAny _ _ (pyIter _) _ _ _ | show wpAny _ _ (call (.type "zip") _) _ _ _ | show wpAny _ _ (call (.type "enumerate") _) _ _ _ | show wpAny _ _ (eval (.ListComp _ _ _ _) _) _ _ _ | show wpAny _ _ (exec (.Assign _ (.ListComp _ _ _ _) _) _) _ _ _))); walk1; (try dsimp only))))
  rename News _ _ _ _ => N
  rename Fr _ _ _ _ => F
  refine Spec.use (check_spec l ts (a0, nmHead, u0, b0, v0) ys hys' (by rw [← hts9, List.length_cons]; omega) (by rw [← hts9]; rfl) rfl he hi c1 c2 d0 hb0 hd1 hd2) (by assumption) F (by assumption) N (by assumption) rfl rfl rfl (by walk_at "mine room") (by walk_at "mine room")
    (chunksAt_of N (.head _) (fun q hq => by rw [hckl] at hq; rcases List.mem_cons.mp hq with rfl | hq; exact .tail _ (.head _); exact .tail _ (.tail _ (.tail _ hq)))) ?_
  intro v h3 tk3 F2 N2 st3 sz3 po
  cases po
  clear F N st3 sz3
  ((try k_fold); repeat' (first | (k_unfold; (try dsimp only)) | ((fail_if_success (with_reducible (first | show wpAny _ _ (exec (.For _ _ _ _ _) _) _ _ _ | show wpAny _ _ (exec (.While _ _ _ _) _) _ _ _ | show wpAny _ _ (pyIter _) _ _ _ | show wpAny _ _ (call (.type "zip") _) _ _ _ | show wpAny _ _ (call (.type "enumerate") _) _ _ _ | show wpAny _ _ (eval (.ListComp _ _ _ _) _) _ _ _ | show wpAny _ _ (exec (.Assign _ (.ListComp _ _ _ _) _) _) _ _ _))); walk1; (try dsimp only))))
  (refine wpC_execs_consA ?_; ((try k_fold); repeat' (first | (k_unfold; (try dsimp only)) | ((with_reducible show wpAny _ _ (subscriptTail _ _ (.ref _) (.int _ _)) _ _ _); first | (refine' item_strs (by walk_at "mine list") (by assumption) (by decide) (by decide) (by assumption) ?_; intro _) | refine' item_at (by walk_at "mine list") (by decide) (by decide) (by assumption) ?_ | refine' tup_at (by (first | assumption | exact News.isTup (by k_asm) (by k_mem) | (refine Heap.IsTuple.at ?_ (fun o e => Fr.keep (by k_asm) _ o e); assumption))) (by decide) (by decide) (by exact rfl) ?_; (try dsimp only)) | ((with_reducible show wpAny _ _ (call (.ref _) _) _ _ _); refine' Spec.useInt (get32_at _ _ _ _ _ _ (by assumption) (by assumption) (by walk_at "mine len") (by walk_at "mine len") (by walk_at "mine len")) (h := ?_); intro _ _ _ _ _; (try dsimp only)) | ((fail_if_success (with_reducible (first | show wpAny _ _ (exec (.For _ _ _ _ _) _) _ _ _ | show wpAny _ _ (exec (.While _ _ _ _) _) _ _ _ | show wpAny _ _ (pyIter _) _ _ _ | show wpAny _ _ (call (.type "zip") _) _ _ _ | show wpAny _ _ (call (.type "enumerate") _) _ _ _ | show wpAny _ _ (eval (.ListComp _ _ _ _) _) _ _ _ | show wpAny _ _ (exec (.Assign _ (.ListComp _ _ _ _) _) _) _ _ _))); walk1; (try dsimp only)))); all_goals (try dsimp only))
  refine wpC_execs_cons (wpC_Assign_Name (wpC_Call_Name ?_))
  ((try k_fold); repeat' (first | (k_unfold; (try dsimp only)) | ((fail_if_success (with_reducible (first | show wpAny _ _ (exec (.For _ _ _ _ _) _) _ _ _ | show wpAny _ _ (exec (.While _ _ _ _) _) _ _ _ | show wpAny _ _ (pyIter _) _ _ _ | show wpAny _ _ (call (.type "zip") _) _ _ _ | show wpAny _ _ (call (.type "enumerate") _) _ _ _ | show wpAny _ _ (eval (.ListComp _ _ _ _) _) _ _ _ | show wpAny _ _ (exec (.Assign _ (.ListComp _ _ _ _) _) _) _ _ _))); walk1; (try dsimp only))))
  (refine callWith_KC (by assumption) (by k_is) ?_)
  ((try k_fold); repeat' (first | (k_unfold; (try dsimp only)) | ((with_reducible show wpAny _ _ (getMethod (Value.bytes _ _) (Str.ofString "join") _) _ _ _); refine getMethod_builtin (PySem.W.typeIs_bytes _ _ _) FB.plainAttrs_bytes BF.slot_join BF.type_join (fun a e => by cases e) ?_; (try dsimp only)) | ((fail_if_success (with_reducible (first | show wpAny _ _ (exec (.For _ _ _ _ _) _) _ _ _ | show wpAny _ _ (exec (.While _ _ _ _) _) _ _ _ | show wpAny _ _ (pyIter _) _ _ _ | show wpAny _ _ (call (.type "zip") _) _ _ _ | show wpAny _ _ (call (.type "enumerate") _) _ _ _ | show wpAny _ _ (eval (.ListComp _ _ _ _) _) _ _ _ | show wpAny _ _ (exec (.Assign _ (.ListComp _ _ _ _) _) _) _ _ _))); walk1; (try dsimp only))))
  (with_unfolding_all refine comp_eval (by rfl) (by rfl) (by decide) ?_)
  ((try k_fold); repeat' (first | (k_unfold; (try dsimp only)) | ((fail_if_success (with_reducible (first | show wpAny _ _ (exec (.For _ _ _ _ _) _) _ _ _ | show wpAny _ _ (exec (.While _ _ _ _) _) _ _ _ | show wpAny _ _ (pyIter _) _ _ _ | show wpAny _ _ (call (.type "zip") _) _ _ _ | show wpAny _ _ (call (.type "enumerate") _) _ _ _ | show wpAny _ _ (eval (.ListComp _ _ _ _) _) _ _ _ | show wpAny _ _ (exec (.Assign _ (.ListComp _ _ _ _) _) _) _ _ _))); walk1; (try dsimp only))))
  rename News _ _ _ _ => N
  rename Fr _ _ _ _ => F
  have hck3 : ChunksAt _ l ts := chunksAt_of N (.tail _ (.head _)) (fun q hq => by rw [hckl] at hq; rcases List.mem_cons.mp hq with rfl | hq; exact .tail _ (.tail _ (.head _)); exact .tail _ (.tail _ (.tail _ (.tail _ hq))))
  refine src_pairs rfl hck3.pairs.1 hck3.pairs.2 ?_
  intro h₁ I fp wr St S
  obtain ⟨led, hled⟩ : ∃ led : List (Addr × Obj), led = [(l, listOf (ts.map fun t : CkR => Value.ref t.1).toArray c), (a0, { cls := .type "tuple", data := .seq #[.str nmHead u0, .bytes b0 v0] }), (L + 1, oc)] := ⟨_, rfl⟩
  have hcl : ts.length = crest.length + 1 := by rw [← hts9, List.length_cons, htl]
  refine compPT (σ := List (Array UInt8 × Tok)) (fun _ => led ++ own) (fun i c vs => i ≤ ts.length ∧ vs = bytesVals c ∧ c.map (fun p => KBw.bInts p.1) = ((((nmHead, d0) :: crest).take i).filter (·.1 == nmData)).map (·.2)) [] S
    (by unfold ck3; rw [List.length_map, sizeLine_eq]; omega) (by decide) rfl rfl rfl (by decide) ?_ F (fun q hq => N q ?_) ⟨Nat.zero_le _, rfl, rfl⟩ ?_ ?_ (CompOut.eval ?_)
  · intro b hb
    refine .inr ?_
    rw [hled]
    rcases List.mem_cons.mp hb with rfl | hb
    · exact ⟨_, fun _ => List.mem_append_left _ (.head _)⟩
    · obtain ⟨q, hq, rfl⟩ := List.mem_map.mp hb
      obtain ⟨q', hq', rfl⟩ := List.mem_map.mp hq
      have : (q'.1, ckT q'.2.1 q'.2.2.1 q'.2.2.2.1 q'.2.2.2.2) ∈ ckL ts := List.mem_map.mpr ⟨q', hq', rfl⟩
      rw [hckl] at this
      rcases List.mem_cons.mp this with h | h
      · rw [show q'.1 = a0 from congrArg Prod.fst h]
        exact ⟨_, fun _ => List.mem_append_left _ (.tail _ (.head _))⟩
      · exact ⟨_, fun _ => List.mem_append_right _ h⟩
  · rw [hled] at hq
    walk_at "mine subq"
  · intro i x y c vs C D oC mC h tk own' hlt' hrx13 hrx14 hoC hmC hmC' hoff' F' N'
    obtain ⟨tt, htt⟩ := hrx13
    obtain ⟨hi', hvs, hcm⟩ := hrx14
    obtain ⟨q, hq, rfl, rfl⟩ := ck3_at htt
    unfold ck3 at hlt'
    rw [List.length_map] at hlt'
    clear S F N
    have hqc : ((nmHead, d0) :: crest)[i]? = some (q.2.1, KBw.bInts q.2.2.2.1) := by rw [← hts, List.getElem?_map, hq]; rfl
    rw [hled] at N'
    replace N' := news_mid (a := [(l, _), (a0, _), (L + 1, oc)]) (b := own) N'
    walk_at "mine in"
    ((try k_fold); repeat' (first | (k_unfold; (try dsimp only)) | ((fail_if_success (with_reducible (first | show wpAny _ _ (exec (.For _ _ _ _ _) _) _ _ _ | show wpAny _ _ (exec (.While _ _ _ _) _) _ _ _ | show wpAny _ _ (pyIter _) _ _ _ | show wpAny _ _ (call (.type "zip") _) _ _ _ | show wpAny _ _ (call (.type "enumerate") _) _ _ _ | show wpAny _ _ (eval (.ListComp _ _ _ _) _) _ _ _ | show wpAny _ _ (exec (.Assign _ (.ListComp _ _ _ _) _) _) _ _ _))); walk1; (try dsimp only))))
    · rename (q.2.1 == Str.ofString "IDAT") = true => hb
      refine CompTurn.intro (c ++ [(q.2.2.2.1, q.2.2.2.2)]) (by assumption) (by assumption) (fun z hz => ?_) (by (try dsimp only); rw [List.map_append]; exact hoff') ⟨by omega, by rw [hvs]; simp [bytesVals], ?_⟩
      · rw [hled] at hz
        walk_at "mine subq"
      · rw [List.map_append, hcm, List.take_add_one, hqc, Option.toList_some, List.filter_append, List.map_append]
        simp [hb]
    · rename (q.2.1 == Str.ofString "IDAT") = false => hb
      refine CompTurn.intro c (by assumption) (by assumption) (fun z hz => ?_) (by (try dsimp only); rw [List.map_append]; exact hoff') ⟨by omega, hvs, ?_⟩
      · rw [hled] at hz
        walk_at "mine subq"
      · rw [hcm, List.take_add_one, hqc, Option.toList_some, List.filter_append, List.map_append]
        simp [hb]
  · intro i c vs hrx3
    obtain ⟨_, rfl, hcm⟩ := hrx3
    have := congrArg List.length hcm
    simp only [List.length_map] at this
    simp only [bytesVals, List.length_map]
    have h2 := List.length_filter_le (fun c : Str × List Int => c.1 == nmData) (((nmHead, d0) :: crest).take i)
    have h3 : (((nmHead, d0) :: crest).take i).length ≤ i := by rw [List.length_take]; exact Nat.min_le_left _ _
    omega
  · intro D h tk vs c hrx5 F' N' hoff' hDle
    obtain ⟨_, rfl, hcm⟩ := hrx5
    have hlen : (ck3 ts).length = ((nmHead, d0) :: crest).length := by unfold ck3; rw [List.length_map, List.length_cons, hcl]
    rw [hlen, List.take_length] at hcm
    clear S F N
    (try dsimp only at N')
    have hcat : KBw.bInts (catB c) = ns := by
      rw [catB_ints, ← hdat, ← hcm]
    have hcn : 1 ≤ c.length := by
      have := congrArg List.length hcm
      simp only [List.length_map] at this
      omega
    ((try k_fold); repeat' (first | (k_unfold; (try dsimp only)) | ((fail_if_success (with_reducible (first | show wpAny _ _ (exec (.For _ _ _ _ _) _) _ _ _ | show wpAny _ _ (exec (.While _ _ _ _) _) _ _ _ | show wpAny _ _ (pyIter _) _ _ _ | show wpAny _ _ (call (.type "zip") _) _ _ _ | show wpAny _ _ (call (.type "enumerate") _) _ _ _ | show wpAny _ _ (eval (.ListComp _ _ _ _) _) _ _ _ | show wpAny _ _ (exec (.Assign _ (.ListComp _ _ _ _) _) _) _ _ _))); walk1; (try dsimp only))))
    refine join_bytes (News.isList N' (.head _)) hcn (by rw [← KBw.ints_length, hcat, sizeLine_eq]; omega) ?_
    intro t9 k9
    ((try k_fold); repeat' (first | (k_unfold; (try dsimp only)) | ((fail_if_success (with_reducible (first | show wpAny _ _ (exec (.For _ _ _ _ _) _) _ _ _ | show wpAny _ _ (exec (.While _ _ _ _) _) _ _ _ | show wpAny _ _ (pyIter _) _ _ _ | show wpAny _ _ (call (.type "zip") _) _ _ _ | show wpAny _ _ (call (.type "enumerate") _) _ _ _ | show wpAny _ _ (eval (.ListComp _ _ _ _) _) _ _ _ | show wpAny _ _ (exec (.Assign _ (.ListComp _ _ _ _) _) _) _ _ _))); walk1; (try dsimp only))))
    clear hts hx hz hys he hi c1 c2 hd1 hd2 hdat hd3 hcm hlt hl2 hckl hck3 hc0 hys' hts9 hlen
    rcases hcase with ⟨hg, rfl, rfl, a, b, pss, rfl, ha, hab, hb32, hps, hpl, hrow, hrl⟩ | ⟨hng, rfl, rfl, hbad | ⟨a, b, pss, rfl, ha, hab, hb32, hps, hpl, hk5⟩⟩
    · refine SpecC.use (unstored_spec (catB c) t9 a b pss hcat ha hab hb32 (by omega) hps) (by assumption) F' (by assumption) N' (by assumption) rfl rfl rfl (by walk_at "mine room") (by walk_at "mine room") trivial ?_
      intro v h4 tk4 F4 N4 st4 sz4 hrx7
      obtain ⟨bd, td, rfl, hbd⟩ := hrx7
      replace N4 : News s.heap L h4 [(L + 1, oc)] := fun q hq => N4 q (by rw [List.mem_singleton.mp hq, hled]; simp)
      clear F' N' st4 sz4
      ((try k_fold); repeat' (first | (k_unfold; (try dsimp only)) | ((fail_if_success (with_reducible (first | show wpAny _ _ (exec (.For _ _ _ _ _) _) _ _ _ | show wpAny _ _ (exec (.While _ _ _ _) _) _ _ _ | show wpAny _ _ (pyIter _) _ _ _ | show wpAny _ _ (call (.type "zip") _) _ _ _ | show wpAny _ _ (call (.type "enumerate") _) _ _ _ | show wpAny _ _ (eval (.ListComp _ _ _ _) _) _ _ _ | show wpAny _ _ (exec (.Assign _ (.ListComp _ _ _ _) _) _) _ _ _))); walk1; (try dsimp only))))
      (refine wpC_execs_consA ?_; ((try k_fold); repeat' (first | (k_unfold; (try dsimp only)) | ((fail_if_success (with_reducible (first | show wpAny _ _ (exec (.For _ _ _ _ _) _) _ _ _ | show wpAny _ _ (exec (.While _ _ _ _) _) _ _ _ | show wpAny _ _ (pyIter _) _ _ _ | show wpAny _ _ (call (.type "zip") _) _ _ _ | show wpAny _ _ (call (.type "enumerate") _) _ _ _ | show wpAny _ _ (eval (.ListComp _ _ _ _) _) _ _ _ | show wpAny _ _ (exec (.Assign _ (.ListComp _ _ _ _) _) _) _ _ _))); walk1; (try dsimp only)))); all_goals (try dsimp only))
      (refine wpC_execs_consA ?_; ((try k_fold); repeat' (first | (k_unfold; (try dsimp only)) | ((with_reducible show wpAny _ _ (call (.type "bytes") [.int _ _]) _ _ _); refine' bytes_of_int (by omega) (by omega) ?_; intro _ _; (try dsimp only)) | ((fail_if_success (with_reducible (first | show wpAny _ _ (exec (.For _ _ _ _ _) _) _ _ _ | show wpAny _ _ (exec (.While _ _ _ _) _) _ _ _ | show wpAny _ _ (pyIter _) _ _ _ | show wpAny _ _ (call (.type "zip") _) _ _ _ | show wpAny _ _ (call (.type "enumerate") _) _ _ _ | show wpAny _ _ (eval (.ListComp _ _ _ _) _) _ _ _ | show wpAny _ _ (exec (.Assign _ (.ListComp _ _ _ _) _) _) _ _ _))); walk1; (try dsimp only)))); all_goals (try dsimp only))
      rename_i R h5 l5 l6 t6 k6 D6 h6 l7 h7 h8 h9 F5 N5
      refine wpC_execs_cons (wpC_For ?_)
      ((try k_fold); repeat' (first | (k_unfold; (try dsimp only)) | ((fail_if_success (with_reducible (first | show wpAny _ _ (exec (.For _ _ _ _ _) _) _ _ _ | show wpAny _ _ (exec (.While _ _ _ _) _) _ _ _ | show wpAny _ _ (pyIter _) _ _ _ | show wpAny _ _ (call (.type "zip") _) _ _ _ | show wpAny _ _ (call (.type "enumerate") _) _ _ _ | show wpAny _ _ (eval (.ListComp _ _ _ _) _) _ _ _ | show wpAny _ _ (exec (.Assign _ (.ListComp _ _ _ _) _) _) _ _ _))); walk1; (try dsimp only))))
      rename IsRange _ _ _ _ _ _ _ _ => RR
      rename Fr _ _ _ _ => F
      rename News _ _ _ _ => N
      clear hcat hled
      refine src_range (n := 5) rfl RR (by decide) (by decide) ?_
      intro h₁ I fp wr St S
      refine forNCN (σ := List RwR × Nat × Obj × Array UInt8 × Tok × Tok × Tok) (n := 5) (fun c => (R, listOf (c.1.map fun t => Value.ref t.row).toArray c.2.1) :: (L + 1, c.2.2.1) :: rwL c.1)
        (fun c => [(Str.ofString "rows", .ref R), (Str.ofString "above", .bytes c.2.2.2.1 c.2.2.2.2.1), (Str.ofString "data", .bytes bd td), (Str.ofString "width", .int 2 c.2.2.2.2.2.1), (Str.ofString "height", .int 5 c.2.2.2.2.2.2)])
        (fun i c => i ≤ 5 ∧ c.1.length = i ∧ RowsAre c.1 (rws.take i) ∧ KBw.bInts c.2.2.2.1 = aboveI rws i ∧ (∃ v, c.2.2.1.data = .cell v) ∧ ∀ q ∈ rwL c.1, q.1 ≠ R ∧ q.1 ≠ L + 1 ∧ s.heap.objs.size ≤ q.1)
        ([], 0, oc, Array.replicate (4 * 2 : Int).toNat 0, t6, _, _) S rfl rfl (fun b hb => nomatch hb) F (fun q hq => N q (by
          (try simp only [rwL, List.flatMap_nil] at hq ⊢)
          walk_at "mine subq")) (by (repeat (first | exact List.forall_mem_nil _ | refine List.forall_mem_cons.mpr ⟨by first | rfl | assumption, ?_⟩))) ⟨Nat.zero_le _, rfl, .nil, rfl, ⟨_, d1⟩, fun _ h => (List.not_mem_nil h).elim⟩ ?_ ?_
      · intro i v hrx2 u hh9 tkh ownI hi5 hrx8 hrx9 hoffI F' N'
        obtain ⟨rs, rn, co, ab, tab, tw, th⟩ := hrx2
        obtain ⟨ty, rfl⟩ := hrx8
        obtain ⟨hi5', hrn, hra, hab9, ⟨cv, hco⟩, hrq⟩ := hrx9
        clear S F N RR
        dsimp only at hrn hra hab9 hco hrq F' N' hoffI
        obtain ⟨big, hbig⟩ : ∃ big, big = rwL rs ++ ownI := ⟨_, rfl⟩
        replace N' : News s.heap L hh9 ((R, listOf (rs.map fun t => Value.ref t.row).toArray rn) :: (L + 1, co) :: big) := by rw [hbig]; exact N'
        have hoffB : OwnOff big [R, L + 1] := fun q hq b hb => by
          rw [hbig] at hq
          rcases List.mem_append.mp hq with hq | hq
          · have := hrq q hq
            rcases List.mem_cons.mp hb with rfl | hb
            · exact this.1
            · rw [List.mem_singleton.mp hb]; exact this.2.1
          · rcases List.mem_cons.mp hb with rfl | hb
            · exact hoffI q hq _ (.head _)
            · rw [List.mem_singleton.mp hb]; exact hoffI q hq _ (.tail _ (.head _))
        obtain ⟨kk, hk, hk0, hk4, hr8, hunf⟩ := hrow i hi5
        walk_at "mine in"
        (refine wpC_execs_consA ?_; ((try k_fold); repeat' (first | (k_unfold; (try dsimp only)) | ((fail_if_success (with_reducible (first | show wpAny _ _ (exec (.For _ _ _ _ _) _) _ _ _ | show wpAny _ _ (exec (.While _ _ _ _) _) _ _ _ | show wpAny _ _ (pyIter _) _ _ _ | show wpAny _ _ (call (.type "zip") _) _ _ _ | show wpAny _ _ (call (.type "enumerate") _) _ _ _ | show wpAny _ _ (eval (.ListComp _ _ _ _) _) _ _ _ | show wpAny _ _ (exec (.Assign _ (.ListComp _ _ _ _) _) _) _ _ _))); walk1; (try dsimp only)))); all_goals (try dsimp only))
        have hcut : (pss.flatten.drop (((9 * i : Nat) : Int) + 1).toNat).take ((((9 * i : Nat) : Int) + 1 + 4 * 2).toNat - (((9 * i : Nat) : Int) + 1).toNat) = (pss.flatten.drop (9 * i + 1)).take 8 := by
          rw [show (((9 * i : Nat) : Int) + 1).toNat = 9 * i + 1 by omega, show (((9 * i : Nat) : Int) + 1 + 4 * 2).toNat - (9 * i + 1) = 8 by omega]
        have hrl8 : ((pss.flatten.drop (9 * i + 1)).take 8).length = 8 := by rw [List.length_take, List.length_drop]; omega
        have hab8 : (aboveI rws i).length = 8 := by
          cases i with
          | zero => rfl
          | succ j => obtain ⟨_, _, _, _, h8, _⟩ := hrow j (by omega); exact h8
        rename Fr _ _ _ _ => F9
        rw [show (0 + (i : Int)) * (1 + 4 * 2) = ((9 * i : Nat) : Int) by omega] at F9
        refine wpC_execs_cons (wpC_Assign_Name (wpC_Call_Name ?_))
        ((try k_fold); repeat' (first | (k_unfold; (try dsimp only)) | ((fail_if_success (with_reducible (first | show wpAny _ _ (exec (.For _ _ _ _ _) _) _ _ _ | show wpAny _ _ (exec (.While _ _ _ _) _) _ _ _ | show wpAny _ _ (pyIter _) _ _ _ | show wpAny _ _ (call (.type "zip") _) _ _ _ | show wpAny _ _ (call (.type "enumerate") _) _ _ _ | show wpAny _ _ (eval (.ListComp _ _ _ _) _) _ _ _ | show wpAny _ _ (exec (.Assign _ (.ListComp _ _ _ _) _) _) _ _ _))); walk1; (try dsimp only))))
        (refine callWith_KC (by assumption) (by k_is) ?_)
        ((try k_fold); repeat' (first | (k_unfold; (try dsimp only)) | ((with_reducible show wpAny _ _ (subscriptTail _ (PySem.Expr.Slice _ _ _ _) (Value.bytes _ _) (Value.ref _)) _ _ _); refine' cut_bytesV (by k_asm) (by k_asm) (by assumption) (by assumption) (by walk_at "mine len") (by walk_at "mine len") (by walk_at "mine len") ?_ (by with_unfolding_all rfl) (by intro r'; with_unfolding_all rfl); intro _ _ _ _ _ _ _; (try dsimp only)) | ((with_reducible show wpAny _ _ (subscriptTail _ _ (.bytes _ _) (.int _ _)) _ _ _); refine KBw.item_K (by assumption) (by omega) (by omega) (by omega) ?_; intro _ _ _ _; (try dsimp only)) | ((fail_if_success (with_reducible (first | show wpAny _ _ (exec (.For _ _ _ _ _) _) _ _ _ | show wpAny _ _ (exec (.While _ _ _ _) _) _ _ _ | show wpAny _ _ (pyIter _) _ _ _ | show wpAny _ _ (call (.type "zip") _) _ _ _ | show wpAny _ _ (call (.type "enumerate") _) _ _ _ | show wpAny _ _ (eval (.ListComp _ _ _ _) _) _ _ _ | show wpAny _ _ (exec (.Assign _ (.ListComp _ _ _ _) _) _) _ _ _))); walk1; (try dsimp only))))
        rename_i tb kb xb0 xb1 hb2 bb tb2 kb2 F8 N8 hb8
        have hkk : pss.flatten.getD ((9 * i : Nat) : Int).toNat 0 = kk := by rw [Int.toNat_natCast]; exact hk
        rw [hkk]
        refine SpecC.use (unfiltered_spec kk _ _ _ _ bb ab _ _ hb8 hab9 (by rw [hab8, hrl8]) hk0 hk4 (by rw [hrl8]; decide)) (by assumption) F8 (by assumption) N8 (by assumption) rfl rfl rfl (by walk_at "mine room") (by walk_at "mine room") trivial ?_
        intro v h10 tk10 F10 N10 _ _ hrx7
        obtain ⟨br, tr, rfl, hbr⟩ := hrx7
        rw [hrl8, hunf] at hbr
        clear F8 N8 F9
        ((try k_fold); repeat' (first | (k_unfold; (try dsimp only)) | ((fail_if_success (with_reducible (first | show wpAny _ _ (exec (.For _ _ _ _ _) _) _ _ _ | show wpAny _ _ (exec (.While _ _ _ _) _) _ _ _ | show wpAny _ _ (pyIter _) _ _ _ | show wpAny _ _ (call (.type "zip") _) _ _ _ | show wpAny _ _ (call (.type "enumerate") _) _ _ _ | show wpAny _ _ (eval (.ListComp _ _ _ _) _) _ _ _ | show wpAny _ _ (exec (.Assign _ (.ListComp _ _ _ _) _) _) _ _ _))); walk1; (try dsimp only))))
        (refine wpC_execs_consA ?_; ((try k_fold); repeat' (first | (k_unfold; (try dsimp only)) | ((fail_if_success (with_reducible (first | show wpAny _ _ (exec (.For _ _ _ _ _) _) _ _ _ | show wpAny _ _ (exec (.While _ _ _ _) _) _ _ _ | show wpAny _ _ (pyIter _) _ _ _ | show wpAny _ _ (call (.type "zip") _) _ _ _ | show wpAny _ _ (call (.type "enumerate") _) _ _ _ | show wpAny _ _ (eval (.ListComp _ _ _ _) _) _ _ _ | show wpAny _ _ (exec (.Assign _ (.ListComp _ _ _ _) _) _) _ _ _))); walk1; (try dsimp only)))); all_goals (try dsimp only))
        rename_i h11 oc2 F11 N11 d11
        (with_unfolding_all refine comp_eval (by rfl) (by rfl) (by decide) ?_)
        ((try k_fold); repeat' (first | (k_unfold; (try dsimp only)) | ((fail_if_success (with_reducible (first | show wpAny _ _ (exec (.For _ _ _ _ _) _) _ _ _ | show wpAny _ _ (exec (.While _ _ _ _) _) _ _ _ | show wpAny _ _ (pyIter _) _ _ _ | show wpAny _ _ (call (.type "zip") _) _ _ _ | show wpAny _ _ (call (.type "enumerate") _) _ _ _ | show wpAny _ _ (eval (.ListComp _ _ _ _) _) _ _ _ | show wpAny _ _ (exec (.Assign _ (.ListComp _ _ _ _) _) _) _ _ _))); walk1; (try dsimp only))))
        rename IsRange _ _ _ _ _ _ _ _ => RR
        rename Fr _ _ _ _ => F
        rename News _ _ _ _ => N
        refine src_range (n := 2) rfl RR (by decide) (by decide) ?_
        intro h₁ I fp wr St S
        refine compN (σ := List (Addr × List Value)) (fun c => (R, listOf (rs.map fun t => Value.ref t.row).toArray rn) :: (L + 1, oc2) :: (big ++ c.map fun t => (t.1, tupOf t.2)))
          (fun j c ys => j ≤ 2 ∧ ys = (c.map fun t => Value.ref t.1) ∧ c.length = j ∧ (∀ k t, c[k]? = some t → IntsAre t.2 (((rws.getD i []).drop (4 * k)).take 4)) ∧ ∀ t ∈ c, R < t.1 ∧ L + 1 < t.1 ∧ AllLt t.1 big ∧ s.heap.objs.size ≤ t.1)
          [] S (by rw [sizeLine_eq]; decide) (by decide) rfl rfl (fun b hb => nomatch hb) F (fun q hq => N q (by simpa using hq)) ⟨Nat.zero_le _, rfl, rfl, fun k t h => (by cases h), fun _ h => (List.not_mem_nil h).elim⟩ ?_ ?_ (CompOut.eval ?_)
        · intro j v c ys C D oC mC h tk own' hj hrx12 hrx13 hoC hmC hoff' F' N'
          obtain ⟨tx, rfl⟩ := hrx12
          obtain ⟨hj2, hys, hcn, hcI, hcq⟩ := hrx13
          clear S F N RR
          replace N' := news_mid (a := [(R, _), (L + 1, oc2)]) (b := big ++ c.map fun t => (t.1, tupOf t.2)) N'
          have hcut2 : ((rws.getD i []).drop (4 * (0 + (j : Int))).toNat).take ((4 * (0 + (j : Int)) + 4).toNat - (4 * (0 + (j : Int))).toNat) = ((rws.getD i []).drop (4 * j)).take 4 := by
            rw [show (4 * (0 + (j : Int))).toNat = 4 * j by omega, show (4 * (0 + (j : Int)) + 4).toNat - 4 * j = 4 by omega]
          have hcl4 : (((rws.getD i []).drop (4 * j)).take 4).length ≤ 4 := by rw [List.length_take]; omega
          walk_at "mine in"
          ((try k_fold); repeat' (first | (k_unfold; (try dsimp only)) | ((with_reducible show wpAny _ _ (call (.type "tuple") [.bytes _ _]) _ _ _); refine' tuple_bytes rfl (by k_asm) (by k_asm) (by assumption) (by walk_at "mine len") ?_; intro _ _ _ _ _ _ _ _ _; walk_at "mine lt"; (try dsimp only)) | ((with_reducible show wpAny _ _ (subscriptTail _ (PySem.Expr.Slice _ _ _ _) (Value.bytes _ _) (Value.ref _)) _ _ _); refine' cut_bytesV (by k_asm) (by k_asm) (by assumption) (by assumption) (by walk_at "mine len") (by walk_at "mine len") (by walk_at "mine len") ?_ (by with_unfolding_all rfl) (by intro r'; with_unfolding_all rfl); intro _ _ _ _ _ _ _; (try dsimp only)) | ((fail_if_success (with_reducible (first | show wpAny _ _ (exec (.For _ _ _ _ _) _) _ _ _ | show wpAny _ _ (exec (.While _ _ _ _) _) _ _ _ | show wpAny _ _ (pyIter _) _ _ _ | show wpAny _ _ (call (.type "zip") _) _ _ _ | show wpAny _ _ (call (.type "enumerate") _) _ _ _ | show wpAny _ _ (eval (.ListComp _ _ _ _) _) _ _ _ | show wpAny _ _ (exec (.Assign _ (.ListComp _ _ _ _) _) _) _ _ _))); walk1; (try dsimp only))))
          rename_i D9 h9a tk9a vs9 F9 N9 ls9 hI9 lt9
          have lt9b : ∀ q ∈ (big ++ c.map fun t => (t.1, tupOf t.2)) ++ own', q.1 < D9 := fun q hq => kst_ltOf lt9.2.2.2.2 q hq
          refine CompTurn.intro (c ++ [(D9, vs9)]) F9 N9 (fun z hz => ?_) (fun q hq b hb => ?_) ⟨by omega, by rw [hys]; simp, by simp [hcn], fun k t hkt => ?_, fun t ht => ?_⟩
          · (try simp only [List.map_append, List.map_cons, List.map_nil] at hz ⊢)
            walk_at "mine subq"
          · simp only [List.map_append, List.map_cons, List.map_nil, List.mem_append, List.mem_cons, List.not_mem_nil, or_false] at hb
            have old := hoff' q hq b
            simp only [List.mem_append, List.mem_cons] at old
            rcases hb with h | h | h | h | h
            · exact old (.inl h)
            · exact old (.inr (.inl h))
            · exact old (.inr (.inr (.inl h)))
            · exact old (.inr (.inr (.inr h)))
            · rw [h]
              rcases List.mem_cons.mp hq with rfl | hq
              · exact Nat.ne_of_lt lt9.2.2.1
              · rcases List.mem_cons.mp hq with rfl | hq
                · exact Nat.ne_of_lt lt9.2.2.2.1
                · exact Nat.ne_of_lt (lt9b q (List.mem_append_right _ hq))
          · by_cases hkl : k < c.length
            · rw [List.getElem?_append_left hkl] at hkt
              exact hcI k t hkt
            · rw [List.getElem?_append_right (by omega)] at hkt
              have hk0' : k - c.length = 0 := by
                have := (List.getElem?_eq_some_iff.mp hkt).1
                simp only [List.length_cons, List.length_nil] at this
                omega
              rw [hk0'] at hkt
              cases hkt
              rw [show k = j by omega]
              exact hI9
          · rcases List.mem_append.mp ht with ht | ht
            · exact hcq t ht
            · rw [List.mem_singleton.mp ht]
              exact ⟨lt9.1, lt9.2.1, allLt_of fun q hq => lt9b q (List.mem_append_left _ (List.mem_append_left _ hq)), ls9⟩
        · intro j c ys hrx3
          obtain ⟨_, rfl, hc, _⟩ := hrx3
          rw [List.length_map, hc]
          exact Nat.le_refl _
        · intro D h tk ys c hrx5 F' N' hoff' hDle
          obtain ⟨_, rfl, hcn, hcI, hcq⟩ := hrx5
          clear S F N RR
          obtain ⟨⟨ta, va⟩, ⟨tb9, vb⟩, rfl⟩ := list2 hcn
          have hIa := hcI 0 _ rfl
          have hIb := hcI 1 _ rfl
          obtain ⟨qa1, qa2, qa3, qa4⟩ := hcq (ta, va) (.head _)
          obtain ⟨qb1, qb2, qb3, qb4⟩ := hcq (tb9, vb) (.tail _ (.head _))
          dsimp only at hIa hIb qa1 qa2 qa3 qa4 qb1 qb2 qb3 qb4 hoff' N'
          replace N' : News s.heap L h ((D, listOf #[.ref ta, .ref tb9] 2) :: (ta, tupOf va) :: (tb9, tupOf vb) :: (R, listOf (rs.map fun t => Value.ref t.row).toArray rn) :: (L + 1, oc2) :: big) := fun q hq => N' q (by
            (try simp only [List.map_cons, List.map_nil] at hq ⊢)
            walk_at "mine subq")
          ((try k_fold); repeat' (first | (k_unfold; (try dsimp only)) | ((fail_if_success (with_reducible (first | show wpAny _ _ (exec (.For _ _ _ _ _) _) _ _ _ | show wpAny _ _ (exec (.While _ _ _ _) _) _ _ _ | show wpAny _ _ (pyIter _) _ _ _ | show wpAny _ _ (call (.type "zip") _) _ _ _ | show wpAny _ _ (call (.type "enumerate") _) _ _ _ | show wpAny _ _ (eval (.ListComp _ _ _ _) _) _ _ _ | show wpAny _ _ (exec (.Assign _ (.ListComp _ _ _ _) _) _) _ _ _))); walk1; (try dsimp only))))
          have hDR : D ≠ R := fun e => hoff' _ (.head _) e.symm
          have hDL : D ≠ L + 1 := fun e => hoff' _ (.tail _ (.head _)) e.symm
          have hsz9 : (rs.map fun t => Value.ref t.row).toArray.size ≤ sizeLine := by rw [List.size_toArray, List.length_map, hrn, sizeLine_eq]; omega
          refine' append_K (n := rn) (news' := (D, listOf #[.ref ta, .ref tb9] 2) :: (ta, tupOf va) :: (tb9, tupOf vb) :: (R, listOf ((rs.map fun t => Value.ref t.row).toArray.push (.ref D)) (rn + 1)) :: (L + 1, oc2) :: big) F' N' ?u9 ?_ hsz9
          case u9 =>
            refine Upd.tail hDR (Upd.tail (Nat.ne_of_gt qa1) (Upd.tail (Nat.ne_of_gt qb1) (Upd.head fun q hq => ?_)))
            rcases List.mem_cons.mp hq with rfl | hq
            · exact Nat.ne_of_lt l6
            · exact hoffB q hq _ (.head _)
          intro h12 F12 N12
          clear F' N'
          rw [List.push_toArray] at N12
          ((try k_fold); repeat' (first | (k_unfold; (try dsimp only)) | ((fail_if_success (with_reducible (first | show wpAny _ _ (exec (.For _ _ _ _ _) _) _ _ _ | show wpAny _ _ (exec (.While _ _ _ _) _) _ _ _ | show wpAny _ _ (pyIter _) _ _ _ | show wpAny _ _ (call (.type "zip") _) _ _ _ | show wpAny _ _ (call (.type "enumerate") _) _ _ _ | show wpAny _ _ (eval (.ListComp _ _ _ _) _) _ _ _ | show wpAny _ _ (exec (.Assign _ (.ListComp _ _ _ _) _) _) _ _ _))); walk1; (try dsimp only))))
          (refine wpC_execs_consA ?_; ((try k_fold); repeat' (first | (k_unfold; (try dsimp only)) | ((fail_if_success (with_reducible (first | show wpAny _ _ (exec (.For _ _ _ _ _) _) _ _ _ | show wpAny _ _ (exec (.While _ _ _ _) _) _ _ _ | show wpAny _ _ (pyIter _) _ _ _ | show wpAny _ _ (call (.type "zip") _) _ _ _ | show wpAny _ _ (call (.type "enumerate") _) _ _ _ | show wpAny _ _ (eval (.ListComp _ _ _ _) _) _ _ _ | show wpAny _ _ (exec (.Assign _ (.ListComp _ _ _ _) _) _) _ _ _))); walk1; (try dsimp only)))); all_goals (try dsimp only))
          rename_i h13 F13 N13
          refine wpC_execs_nil ?_
          show TurnEnd _ _ _ _ _ _ _
          have hrw : rwL (rs ++ [⟨D, 2, ta, va, tb9, vb⟩]) = rwL rs ++ [(D, listOf #[.ref ta, .ref tb9] 2), (ta, tupOf va), (tb9, tupOf vb)] := by simp [rwL, RwR.led]
          refine TurnEnd.intro (rs ++ [⟨D, 2, ta, va, tb9, vb⟩], rn + 1, oc2, br, tr, tw, th) F13 N13 (fun q hq => ?_) (by (repeat (first | exact List.forall_mem_nil _ | refine List.forall_mem_cons.mpr ⟨by first | rfl | assumption, ?_⟩))) ⟨fun q hq b hb => ?_, by omega, by simp [hrn], ?_, hbr, ⟨_, d11⟩, fun q hq => ?_⟩
          · dsimp only at hq
            rw [hrw] at hq
            rw [hbig]
            (try simp only [List.map_append, List.map_cons, List.map_nil] at hq ⊢)
            walk_at "mine subq"
          · dsimp only at hb
            rw [hrw] at hb
            simp only [List.map_append, List.map_cons, List.map_nil, List.mem_append, List.mem_cons, List.not_mem_nil, or_false] at hb
            have hqb : q ∈ big := hbig ▸ List.mem_append_right _ hq
            have old := hoffI q hq b
            simp only [List.mem_cons] at old
            rcases hb with h | h | h | h | h | h
            · exact old (.inl h)
            · exact old (.inr (.inl h))
            · exact old (.inr (.inr h))
            · rw [h]; exact hoff' q (.tail _ (.tail _ (List.mem_append_left _ hqb)))
            · rw [h]; exact Nat.ne_of_lt (kst_ltOf qa3 q hqb)
            · rw [h]; exact Nat.ne_of_lt (kst_ltOf qb3 q hqb)
          · have e : rws.take (i + 1) = rws.take i ++ [rws.getD i []] := by
              have hlt : i < rws.length := by omega
              rw [List.take_add_one, List.getElem?_eq_getElem hlt, List.getD_eq_getElem?_getD, List.getElem?_eq_getElem hlt]
              rfl
            rw [e]
            refine hra.snoc ⟨?_, ?_⟩
            · rw [Nat.mul_zero, List.drop_zero] at hIa; exact hIa
            · rw [Nat.mul_one, List.take_of_length_le (by rw [List.length_drop, hr8]; decide)] at hIb; exact hIb
          · dsimp only at hq
            rw [hrw] at hq
            simp only [List.mem_append, List.mem_cons, List.not_mem_nil, or_false] at hq
            rcases hq with h | h | h | h
            · exact hrq q h
            · subst h; exact ⟨hDR, hDL, hDle⟩
            · subst h; exact ⟨Nat.ne_of_gt qa1, Nat.ne_of_gt qa2, qa4⟩
            · subst h; exact ⟨Nat.ne_of_gt qb1, Nat.ne_of_gt qb2, qb4⟩
      · intro hrx0 u hh9 tkh hrx4 F' N'
        obtain ⟨rs, rn, co, ab, tab, tw, th⟩ := hrx0
        obtain ⟨hi5', hrn, hra, hab9, hco, hrq⟩ := hrx4
        clear S F N RR
        dsimp only at hrn hra hab9 hco hrq F' N'
        rw [List.take_of_length_le (by omega)] at hra
        walk_at "mine in"
        (refine wpC_execs_consA ?_; ((try k_fold); repeat' (first | (k_unfold; (try dsimp only)) | ((fail_if_success (with_reducible (first | show wpAny _ _ (exec (.For _ _ _ _ _) _) _ _ _ | show wpAny _ _ (exec (.While _ _ _ _) _) _ _ _ | show wpAny _ _ (pyIter _) _ _ _ | show wpAny _ _ (call (.type "zip") _) _ _ _ | show wpAny _ _ (call (.type "enumerate") _) _ _ _ | show wpAny _ _ (eval (.ListComp _ _ _ _) _) _ _ _ | show wpAny _ _ (exec (.Assign _ (.ListComp _ _ _ _) _) _) _ _ _))); walk1; (try dsimp only)))); all_goals (try dsimp only))
        rename News _ _ _ _ => N9
        refine hretG hg _ _ _ (Fr.keep (by assumption)) (fr_size (by assumption)) ⟨_, R, rn, tw, th, rs, (N9 _ (.head _)).1, (N9 _ (.tail _ (.head _))).1, fun q hq => (N9 q (.tail _ (.tail _ (.tail _ hq)))).1, hra, ?_, l5, fun q hq => (hrq q hq).2.2⟩
        rename (R < _ ∧ _) => lD
        exact Nat.le_trans l5 (Nat.le_of_lt lD.1)
    · exact SpecEC.use (unstored_raises (catB c) t9 ns hcat (by omega) hbad.1 hbad.2) (by assumption) F' (by assumption) (by assumption) rfl rfl rfl (by walk_at "mine room") (by walk_at "mine room") trivial (fun v s' hf => ⟨hng, .inl hf⟩)
    · refine SpecC.use (unstored_spec (catB c) t9 a b pss hcat ha hab hb32 (by omega) hps) (by assumption) F' (by assumption) N' (by assumption) rfl rfl rfl (by walk_at "mine room") (by walk_at "mine room") trivial ?_
      intro v h4 tk4 F4 N4 st4 sz4 hrx7
      obtain ⟨bd, td, rfl, hbd⟩ := hrx7
      replace N4 : News s.heap L h4 [(L + 1, oc)] := fun q hq => N4 q (by rw [List.mem_singleton.mp hq, hled]; simp)
      clear F' N' st4 sz4
      ((try k_fold); repeat' (first | (k_unfold; (try dsimp only)) | ((fail_if_success (with_reducible (first | show wpAny _ _ (exec (.For _ _ _ _ _) _) _ _ _ | show wpAny _ _ (exec (.While _ _ _ _) _) _ _ _ | show wpAny _ _ (pyIter _) _ _ _ | show wpAny _ _ (call (.type "zip") _) _ _ _ | show wpAny _ _ (call (.type "enumerate") _) _ _ _ | show wpAny _ _ (eval (.ListComp _ _ _ _) _) _ _ _ | show wpAny _ _ (exec (.Assign _ (.ListComp _ _ _ _) _) _) _ _ _))); walk1; (try dsimp only))))
      (refine wpC_execs_consA ?_; ((try k_fold); repeat' (first | (k_unfold; (try dsimp only)) | ((fail_if_success (with_reducible (first | show wpAny _ _ (exec (.For _ _ _ _ _) _) _ _ _ | show wpAny _ _ (exec (.While _ _ _ _) _) _ _ _ | show wpAny _ _ (pyIter _) _ _ _ | show wpAny _ _ (call (.type "zip") _) _ _ _ | show wpAny _ _ (call (.type "enumerate") _) _ _ _ | show wpAny _ _ (eval (.ListComp _ _ _ _) _) _ _ _ | show wpAny _ _ (exec (.Assign _ (.ListComp _ _ _ _) _) _) _ _ _))); walk1; (try dsimp only)))); all_goals (try dsimp only))
      (refine wpC_execs_consA ?_; ((try k_fold); repeat' (first | (k_unfold; (try dsimp only)) | ((with_reducible show wpAny _ _ (call (.type "bytes") [.int _ _]) _ _ _); refine' bytes_of_int (by omega) (by omega) ?_; intro _ _; (try dsimp only)) | ((fail_if_success (with_reducible (first | show wpAny _ _ (exec (.For _ _ _ _ _) _) _ _ _ | show wpAny _ _ (exec (.While _ _ _ _) _) _ _ _ | show wpAny _ _ (pyIter _) _ _ _ | show wpAny _ _ (call (.type "zip") _) _ _ _ | show wpAny _ _ (call (.type "enumerate") _) _ _ _ | show wpAny _ _ (eval (.ListComp _ _ _ _) _) _ _ _ | show wpAny _ _ (exec (.Assign _ (.ListComp _ _ _ _) _) _) _ _ _))); walk1; (try dsimp only)))); all_goals (try dsimp only))
      rename_i R h5 l5 l6 t6 k6 D6 h6 l7 h7 h8 h9 F5 N5
      refine wpC_execs_cons (wpC_For ?_)
      ((try k_fold); repeat' (first | (k_unfold; (try dsimp only)) | ((fail_if_success (with_reducible (first | show wpAny _ _ (exec (.For _ _ _ _ _) _) _ _ _ | show wpAny _ _ (exec (.While _ _ _ _) _) _ _ _ | show wpAny _ _ (pyIter _) _ _ _ | show wpAny _ _ (call (.type "zip") _) _ _ _ | show wpAny _ _ (call (.type "enumerate") _) _ _ _ | show wpAny _ _ (eval (.ListComp _ _ _ _) _) _ _ _ | show wpAny _ _ (exec (.Assign _ (.ListComp _ _ _ _) _) _) _ _ _))); walk1; (try dsimp only))))
      rename IsRange _ _ _ _ _ _ _ _ => RR
      rename Fr _ _ _ _ => F
      rename News _ _ _ _ => N
      clear hcat hled
      refine src_range (n := 1) rfl RR (by decide) (by decide) ?_
      intro h₁ I fp wr St S
      refine forNC (σ := Unit) (n := 1) (fun _ => [(R, listOf #[] 0), (L + 1, oc)])
        (fun _ => [(Str.ofString "rows", .ref R), (Str.ofString "above", .bytes (Array.replicate (4 * 1 : Int).toNat 0) t6), (Str.ofString "data", .bytes bd td), (Str.ofString "width", .int 1 _), (Str.ofString "height", .int 1 _)])
        (fun i c => i = 0) () S rfl rfl (fun b hb => nomatch hb) F (fun q hq => N q (by
          walk_at "mine subq")) (by (repeat (first | exact List.forall_mem_nil _ | refine List.forall_mem_cons.mpr ⟨by first | rfl | assumption, ?_⟩))) rfl ?_ ?_
      · intro i v c9 u hh9 tkh ownI hi5 hrx8 hrx9 hoffI F' N'
        obtain ⟨ty, rfl⟩ := hrx8
        subst hrx9
        clear S F N RR
        (try dsimp only at F' N' hoffI)
        walk_at "mine in"
        (refine wpC_execs_consA ?_; ((try k_fold); repeat' (first | (k_unfold; (try dsimp only)) | ((fail_if_success (with_reducible (first | show wpAny _ _ (exec (.For _ _ _ _ _) _) _ _ _ | show wpAny _ _ (exec (.While _ _ _ _) _) _ _ _ | show wpAny _ _ (pyIter _) _ _ _ | show wpAny _ _ (call (.type "zip") _) _ _ _ | show wpAny _ _ (call (.type "enumerate") _) _ _ _ | show wpAny _ _ (eval (.ListComp _ _ _ _) _) _ _ _ | show wpAny _ _ (exec (.Assign _ (.ListComp _ _ _ _) _) _) _ _ _))); walk1; (try dsimp only)))); all_goals (try dsimp only))
        refine wpC_execs_cons (wpC_Assign_Name (wpC_Call_Name ?_))
        ((try k_fold); repeat' (first | (k_unfold; (try dsimp only)) | ((fail_if_success (with_reducible (first | show wpAny _ _ (exec (.For _ _ _ _ _) _) _ _ _ | show wpAny _ _ (exec (.While _ _ _ _) _) _ _ _ | show wpAny _ _ (pyIter _) _ _ _ | show wpAny _ _ (call (.type "zip") _) _ _ _ | show wpAny _ _ (call (.type "enumerate") _) _ _ _ | show wpAny _ _ (eval (.ListComp _ _ _ _) _) _ _ _ | show wpAny _ _ (exec (.Assign _ (.ListComp _ _ _ _) _) _) _ _ _))); walk1; (try dsimp only))))
        (refine callWith_KC (by assumption) (by k_is) ?_)
        ((try k_fold); repeat' (first | (k_unfold; (try dsimp only)) | ((with_reducible show wpAny _ _ (subscriptTail _ (PySem.Expr.Slice _ _ _ _) (Value.bytes _ _) (Value.ref _)) _ _ _); refine' cut_bytes (by k_asm) (by k_asm) (by assumption) (by walk_at "mine len") (by walk_at "mine len") (by walk_at "mine len") ?_ (by with_unfolding_all rfl) (by intro r'; with_unfolding_all rfl); intro _ _ _ _ _ _ _; (try dsimp only)) | ((with_reducible show wpAny _ _ (subscriptTail _ _ (.bytes _ _) (.int _ _)) _ _ _); refine KBw.item_K (by assumption) (by omega) (by omega) (by omega) ?_; intro _ _ _ _; (try dsimp only)) | ((fail_if_success (with_reducible (first | show wpAny _ _ (exec (.For _ _ _ _ _) _) _ _ _ | show wpAny _ _ (exec (.While _ _ _ _) _) _ _ _ | show wpAny _ _ (pyIter _) _ _ _ | show wpAny _ _ (call (.type "zip") _) _ _ _ | show wpAny _ _ (call (.type "enumerate") _) _ _ _ | show wpAny _ _ (eval (.ListComp _ _ _ _) _) _ _ _ | show wpAny _ _ (exec (.Assign _ (.ListComp _ _ _ _) _) _) _ _ _))); walk1; (try dsimp only))))
        rename_i bb tb2 kb2 F8 N8 hb8
        have hl4 : (List.take (((0 + ((0 : Nat) : Int)) * (1 + 4 * 1) + 1 + 4 * 1).toNat - ((0 + ((0 : Nat) : Int)) * (1 + 4 * 1) + 1).toNat) (List.drop ((0 + ((0 : Nat) : Int)) * (1 + 4 * 1) + 1).toNat pss.flatten)).length = 4 := by
          rw [List.length_take, List.length_drop, hpl]; rfl
        exact SpecEC.use (unfiltered_raises _ _ _ _ _ bb _ _ [0, 0, 0, 0] hb8 rfl (by rw [hl4]; rfl) hk5 (by rw [hl4]; decide) (by rw [hl4]; decide)) (by assumption) F8 (by assumption) (by assumption) rfl rfl rfl (by walk_at "mine room") (by walk_at "mine room") trivial (fun v s' hf => passes_loop rfl rfl hf (fun s'' h => ⟨hng, .inr h⟩))
      · intro c9 u hh9 tkh hI F' N'
        omega
theorem png_spec (bs : Array UInt8) (t : Tok) (d0 : List Int) (crest : List (Str × List Int)) (a b : Int) (pss : List (List Int)) (rws : List (List Int)) (ys : List Str)
    (hbs : KBw.bInts bs = fileI ((nmHead, d0) :: crest)) (hx : ∀ c ∈ (nmHead, d0) :: crest, c.1.cps.size = 4 ∧ OkB (signs c.1 ++ c.2) ∧ c.2.length ≤ 2000) (hn : crest.length ≤ 9) (hz : (fileI ((nmHead, d0) :: crest)).length ≤ 100000)
    (hys : nmHead :: crest.map (·.1) = ys) (he : ys[ys.length - 1]? = some nmEnd) (hi : (!(ys.any (· == nmData))) = false)
    (c1 : countIn (.str nmHead) (ys.map PyData.str) ≤ 1) (c2 : countIn (.str nmEnd) (ys.map PyData.str) ≤ 1) (hd1 : d0.length = 13) (hd2 : d0.drop (Int.toNat 8) = [8, 6, 0, 0, 0]) (hw : get32 d0 0 = 2) (hh : get32 d0 4 = 5)
    (hdat : ((((nmHead, d0) :: crest).filter (·.1 == nmData)).map (·.2)).flatten = streamI a b pss) (hd3 : 1 ≤ (((nmHead, d0) :: crest).filter (·.1 == nmData)).length)
    (ha : a % 16 = 8) (hab : (256 * a + b) % 31 = 0) (hb32 : Builtin.bitAnd b 32 = 0) (hps : 1 ≤ pss.length ∧ pss.length ≤ 3) (hpl : pss.flatten.length = 45)
    (hrow : ∀ y, y < 5 → ∃ k, pss.flatten.getD (9 * y) 0 = k ∧ 0 ≤ k ∧ k ≤ 4 ∧ (rws.getD y []).length = 8 ∧ unfI k ((pss.flatten.drop (9 * y + 1)).take 8) (aboveI rws y) 8 = rws.getD y []) (hrl : rws.length = 5) :
    SpecC prog w 135 [.bytes bs t] 9 100 (fun _ => True) (RetPng 2 5 rws) :=
  fun p loose mean mg mb dp un gd outer base s Q E B X T hd hu _ hret => png_both bs t d0 crest _ ys rws 2 5 True hbs hx hn hz hys he hi c1 c2 hd1 hd2 hw hh hdat hd3 (by have := blocks_length pss pss.length (Nat.le_refl _); rw [List.take_length] at this; rw [stream_length, this]; omega) (.inl ⟨trivial, rfl, rfl, a, b, pss, rfl, ha, hab, hb32, hps, hpl, hrow, hrl⟩) p loose mean mg mb dp un gd outer base s Q E B X T hd hu (fun _ => hret) fun h => absurd trivial h
theorem png_raises (bs : Array UInt8) (t : Tok) (d0 : List Int) (crest : List (Str × List Int)) (ns : List Int) (ys : List Str)
    (hbs : KBw.bInts bs = fileI ((nmHead, d0) :: crest)) (hx : ∀ c ∈ (nmHead, d0) :: crest, c.1.cps.size = 4 ∧ OkB (signs c.1 ++ c.2) ∧ c.2.length ≤ 2000) (hn : crest.length ≤ 9) (hz : (fileI ((nmHead, d0) :: crest)).length ≤ 100000)
    (hys : nmHead :: crest.map (·.1) = ys) (he : ys[ys.length - 1]? = some nmEnd) (hi : (!(ys.any (· == nmData))) = false)
    (c1 : countIn (.str nmHead) (ys.map PyData.str) ≤ 1) (c2 : countIn (.str nmEnd) (ys.map PyData.str) ≤ 1) (hd1 : d0.length = 13) (hd2 : d0.drop (Int.toNat 8) = [8, 6, 0, 0, 0]) (hw : get32 d0 0 = 1) (hh : get32 d0 4 = 1)
    (hdat : ((((nmHead, d0) :: crest).filter (·.1 == nmData)).map (·.2)).flatten = ns) (hd3 : 1 ≤ (((nmHead, d0) :: crest).filter (·.1 == nmData)).length) (hnl : ns.length ≤ 2000)
    (hcase : BadPair ns ∨ BadKind ns) :
    SpecEC prog w 135 [.bytes bs t] 9 100 (fun _ => True) :=
  fun p loose mean mg mb dp un gd outer base s Q E B X T hd hu _ hret => png_both bs t d0 crest ns ys [] 1 1 False hbs hx hn hz hys he hi c1 c2 hd1 hd2 hw hh hdat hd3 hnl (.inr ⟨id, rfl, rfl, hcase⟩) p loose mean mg mb dp un gd outer base s Q E B X T hd hu (fun h => h.elim) fun _ => hret
end
theorem fresh_Caught : True := by
  w_top off
  exact trivial
section
variable {M : Model} {A : Around} {E : Value → Shared → Prop} {s : Shared} {α : Type} {env : Env}
theorem wpC_attempt {m : Sem α} {Q : Except Value α → Shared → Prop} (h : wpC M A m (fun a => Q (.ok a)) (fun e => Q (.error e)) s) : wpC M A m.attempt Q E s :=
  fun Γ p hΓ h1 h2 => by rw [Sem.wp_attempt]; exact h Γ p hΓ h1 h2
theorem wpC_tryStmt_except {body orelse : Sem Flow} {h₀ : ExceptHandler} {hs : List ExceptHandler} {Q : Flow → Shared → Prop}
    (h : wpC M A body (fun f s₁ => match f with | .next => wpAny M A orelse Q E s₁ | f => Q f s₁)
      (fun e s₁ => wpAny M A (noteFrame e env) (fun _ s₂ => wpAny M A (setFlight e none) (fun _ s₃ => wpAny M A (handleBy e env (h₀ :: hs)) Q E s₃) E s₂) E s₁) s) :
    wpC M A (tryStmt false body (h₀ :: hs) orelse [] env) Q E s := by
  unfold tryStmt
  simp only [List.isEmpty_nil, if_true, List.isEmpty_cons, Bool.false_and, Bool.false_eq_true, if_false]
  refine wpC_bind (wpC_attempt (wpC_mono h (fun f s₁ h₁ => ?_) fun e s₁ h₁ => ?_))
  · cases f <;> first | exact wpC_any h₁ | exact wpC_any (PySem.wpAny_pure h₁)
  · exact wpC_any (PySem.wpAny_bind (PySem.wpAny_mono h₁ (fun _ _ h₂ => PySem.wpAny_bind h₂) fun _ _ x => x))
end
section
variable {prog : Program} {w : World} {A : Around} {E : Value → Shared → Prop} {s : Shared} {env : Env}
theorem wpC_Try_except {body orelse : List Stmt} {h₀ : ExceptHandler} {hs : List ExceptHandler} {pos : Pos} {Q : Flow → Shared → Prop}
    (h : wpC (model prog w) A (execs body env) (fun f s₁ => match f with | .next => wpAny (model prog w) A (execs orelse env) Q E s₁ | f => Q f s₁)
      (fun e s₁ => wpAny (model prog w) A (noteFrame e env) (fun _ s₂ => wpAny (model prog w) A (setFlight e none) (fun _ s₃ => wpAny (model prog w) A (handleBy e env (h₀ :: hs)) Q E s₃) E s₂) E s₁) s) :
    wpC (model prog w) A (exec (.Try body (h₀ :: hs) orelse [] pos) env) Q E s := by
  rw [arm_exec_Try]
  exact wpC_bindA (wpAny_standAt (wpC_tryStmt_except h))
/-- the fault is caught -/
theorem caught_fault {name : Str} {scope : Scope} {L a : Addr} {cd : Value} {base : Heap} {outer : List Env} {gn : Array GenState} {ow : OsState} {p : Program} {loose : List Str} {mean : ExcName → Option Value} {mg mb : Str → Option Value}
    {v : Value} {np pos : Pos} {b₀ : Stmt} {suite : List Stmt} {rest : List ExceptHandler} {Q : Flow → Shared → Prop}
    (X : (Mine.hd.heap_1 w.params).In base) (T : Top p loose mean mg mb base) (hns : nsIn (Mine.hd.heap_1 w.params) mainGlobals "SheetFault" = some (some (.ref 44)))
    (hm : Flies base (envOf name scope L a cd :: outer) gn ow v s) (hfr : A.frames = some (envOf name scope L a cd :: outer))
    (k : ∀ e s', base.StaysIn s'.heap → s'.gens = gn → s'.os = ow → wpAny (model prog w) (A.mark (some (.ref e))) (execs (b₀ :: suite) (envOf name scope L a cd)) Q (fun _ _ => False) s')
    (hk : scope.kind = .function := by rfl) (hx : (envOf name scope L a cd).kindOf "SheetFault" = some .globalImplicit := by rfl) :
    wpAny (model prog w) A (noteFrame v (envOf name scope L a cd)) (fun _ s₂ => wpAny (model prog w) A (setFlight v none) (fun _ s₃ =>
      wpAny (model prog w) A (handleBy v (envOf name scope L a cd) (.ExceptHandler (some (.Name "SheetFault" np)) none (b₀ :: suite) pos :: rest)) Q E s₃) E s₂) E s := by
  obtain ⟨⟨e, a0, rfl, m⟩, g1, g2⟩ := hm
  refine wpAny_looks_onW hfr rfl m fun h₄ held _ => ?_
  refine wpAny_landsW held fun h₅ fl _ => ?_
  have X₅ := X.keeps fl.1
  have G₅ := (T.g).keeps fl.1
  refine wpAny_handleBy_cons (codeAny_handlers_test (Calls.Name_function_global hk hx (Calls.loadGlobal_global G₅ (mg_of X T.g hns) ?_) (by decide))) (by intro q; cases q)
  have hC := fault_cls X₅
  obtain ⟨oe, he, hc⟩ := fl.there
  refine wpAny_excMatches_sub_self (C := 44) hC he hc (by decide +kernel) ?_
  refine codeAny_handlers_suite ?_
  refine lands_againW fl fun h₆ fl₆ _ => ?_
  exact wpAny_noRaise (k e _ fl₆.1 g1 g2)
end
/-- a call that gives back True, whatever it does beside -/
def SpecT (prog : Program) (w : World) (f : Addr) (args : List Value) (d u : Nat) (l : Addr) (o : Obj) : Prop :=
  ∀ (p : Program) (loose : List Str) (mean : ExcName → Option Value) (mg mb : Str → Option Value)
    (dp un : Nat) (gd : Option (List Code)) (outer : List Env) (base h₀ : Heap) (s : Shared) (Q E : Value → Shared → Prop),
    Below (topA dp un gd outer) base outer h₀ → (hd.heap_1 w.params).In h₀ → Top p loose mean mg mb h₀ → (hd.heap_1 w.params).In base → Top p loose mean mg mb base →
    h₀.StaysIn s.heap → h₀.objs.size = s.heap.objs.size → s.heap.get? l = some o → h₀.get? l = none →
    dp + d < recursionLimit → un + u < cLine →
    (∀ s', base.StaysIn s'.heap → s'.gens = s.gens → s'.os = s.os → Q (.bool true) s') →
    wpC (model prog w) (topA dp un gd outer) (call (.ref f) args) Q E s
section
variable {prog : Program} {w : World} {p : Program} {loose : List Str} {mean : ExcName → Option Value} {mg mb : Str → Option Value}
  {dp un : Nat} {gd : Option (List Code)} {outer : List Env} {base h₀ : Heap} {s : Shared} {Q E : Value → Shared → Prop} {K : Frag}
theorem enterGC {name qual : Str} {params : Arguments} {body : List Stmt} {scope : Scope} {dV kV doc pm cdv ct oc : Value} {an od : Option Addr} {osl : Array (Option Value)} {f : Addr} {vals : List Value} (led : List (Addr × Obj))
    (X : K.In h₀) (T : Top p loose mean mg mb h₀) (hst : h₀.StaysIn s.heap) (hsz : h₀.objs.size = s.heap.objs.size) (hled : ∀ q ∈ led, s.heap.get? q.1 = some q.2 ∧ h₀.get? q.1 = none)
    (ho : K.lookup f = some ⟨oc, od, .func (fnOf name qual params body scope dV kV doc pm an cdv ct), osl⟩) (hcd : codeIn K cdv qual = true) (hroom : dp < recursionLimit)
    (hbind : bindArgs (fnOf name qual params body scope dV kV doc pm an cdv ct) ⟨vals, []⟩ = pure ((params.args.map (·.arg)).zip vals)) (hloc : ∀ y ∈ (params.args.map (·.arg)).zip vals, scope.names.lookup y.1 = some .local)
    (h : ∀ L' h₁, Fr h₀ L' h₁ (fun y => ((params.args.map (·.arg)).zip vals).reverse.lookup y) → News h₀ L' h₁ led →
      wpC (model prog w) ((topA dp un gd outer).deeper (envOf qual scope L' f cdv)) (execs body (envOf qual scope L' f cdv))
        (fun fl s' => Q (match fl with | .ret v => v | _ => .none) s') (fun _ _ => False)
        { s with heap := h₁, toks := s.toks + ((params.args.map (·.arg)).zip vals).length })
    (hco : scope.isCoroutine = false := by rfl) (hgen : scope.isGenerator = false := by rfl) (hk : scope.kind = .function := by rfl)
    (hcell : ∀ x ∈ scope.names, x.2 ≠ .cell := by decide) :
    wpC (model prog w) (topA dp un gd outer) (call (.ref f) vals) Q E s :=
  enterC (X.keeps hst) (T.keeps hst) ho hcd hroom hbind hloc (fun L' h₁ F N => wpC_mono (h L' h₁ ⟨F.ns, fun b o e => F.keep b o (hst b o e), hsz ▸ F.above⟩
    (fun q hq => ⟨F.keep _ _ (hled q hq).1, Nat.ne_of_lt (Nat.lt_of_lt_of_le (Heap.lt_size (hled q hq).1) F.above), (hled q hq).2⟩)) (fun _ _ q => q) fun _ _ e => e.elim) hco hgen hk hcell
end
theorem fresh_PureP : True := by
  w_top off
  exact trivial
/-- the head's octets -/
def headI (wi he : Int) : List Int := four wi ++ four he ++ [8, 6, 0, 0, 0]
abbrev txI : Str × List Int := (nmText, [65, 0, 66])
/-- the chunks behind the head -/
def restI (k0 k1 : List (Str × List Int)) (pss : List (List Int)) : List (Str × List Int) := k0 ++ (pss.map (fun p => (nmData, p)) ++ (k1 ++ [(nmEnd, [])]))
/-- what stands ahead of the data and behind them -/
inductive Beside : List (Str × List Int) → List (Str × List Int) → Prop
  | none : Beside [] []
  | ahead : Beside [txI] []
  | behind : Beside [] [txI]
theorem picture_file (wi he : Int) (k0 k1 : List (Str × List Int)) (pss : List (List Int)) : pictureI wi he (chunksI k0) (chunksI k1) pss = fileI ((nmHead, headI wi he) :: restI k0 k1 pss) := by
  have e : chunksI (pss.map fun p => (nmData, p)) = pss.flatMap (chunkI nmData) := by
    unfold chunksI
    rw [List.flatMap_map]
  unfold pictureI fileI restI headI signI
  have c : ∀ a b : List (Str × List Int), chunksI (a ++ b) = chunksI a ++ chunksI b := fun a b => by unfold chunksI; rw [List.flatMap_append]
  rw [show ∀ (x : Str × List Int) r, chunksI (x :: r) = chunkI x.1 x.2 ++ chunksI r from fun x r => by unfold chunksI; rw [List.flatMap_cons], c, c, c, e]
  rw [show chunksI [(nmEnd, [])] = chunkI nmEnd [] from by unfold chunksI; simp]
  simp only [List.append_assoc]
structure PngFacts (wi he : Int) (crest : List (Str × List Int)) (ns : List Int) : Prop where
  hx : ∀ c ∈ (nmHead, headI wi he) :: crest, c.1.cps.size = 4 ∧ OkB (signs c.1 ++ c.2) ∧ c.2.length ≤ 2000
  hn : crest.length ≤ 9
  hz : (fileI ((nmHead, headI wi he) :: crest)).length ≤ 100000
  hend : (nmHead :: crest.map (·.1))[(nmHead :: crest.map (·.1)).length - 1]? = some nmEnd
  hi : (!((nmHead :: crest.map (·.1)).any (· == nmData))) = false
  c1 : countIn (.str nmHead) ((nmHead :: crest.map (·.1)).map PyData.str) ≤ 1
  c2 : countIn (.str nmEnd) ((nmHead :: crest.map (·.1)).map PyData.str) ≤ 1
  hd1 : (headI wi he).length = 13
  hd2 : (headI wi he).drop (Int.toNat 8) = [8, 6, 0, 0, 0]
  hw : get32 (headI wi he) 0 = wi
  hh : get32 (headI wi he) 4 = he
  hdat : ((((nmHead, headI wi he) :: crest).filter (·.1 == nmData)).map (·.2)).flatten = ns
  hd3 : 1 ≤ (((nmHead, headI wi he) :: crest).filter (·.1 == nmData)).length
theorem file_length {cks : List (Str × List Int)} (h : ∀ c ∈ cks, c.1.cps.size = 4 ∧ c.2.length ≤ 2000) : (fileI cks).length ≤ 8 + 2012 * cks.length := by
  have : ∀ l : List (Str × List Int), (∀ c ∈ l, c.1.cps.size = 4 ∧ c.2.length ≤ 2000) → (chunksI l).length ≤ 2012 * l.length := by
    intro l
    induction l with
    | nil => intro _; exact Nat.le_refl _
    | cons c r ih =>
      intro hc
      have h1 := chunk_length c.1 c.2 (hc c (.head _)).1
      have h2 := ih fun d hd => hc d (.tail _ hd)
      have h3 := (hc c (.head _)).2
      rw [show chunksI (c :: r) = chunkI c.1 c.2 ++ chunksI r from by unfold chunksI; rw [List.flatMap_cons], List.length_append, List.length_cons]
      omega
  have h1 := this cks h
  unfold fileI signI
  simp only [List.length_append, List.length_cons, List.length_nil]
  omega
theorem rest_names (k0 k1 : List (Str × List Int)) (pss : List (List Int)) : (restI k0 k1 pss).map (·.1) = k0.map (·.1) ++ (List.replicate pss.length nmData ++ (k1.map (·.1) ++ [nmEnd])) := by
  unfold restI
  rw [List.map_append, List.map_append, List.map_append, List.map_map, ← List.map_const']
  rfl
abbrev NamesOk (l : List Str) : Prop := l[l.length - 1]? = some nmEnd ∧ (!(l.any (· == nmData))) = false ∧ countIn (.str nmHead) (l.map PyData.str) ≤ 1 ∧ countIn (.str nmEnd) (l.map PyData.str) ≤ 1
theorem names_ok {k0 k1 : List (Str × List Int)} (hk : Beside k0 k1) {n : Nat} (h : 1 ≤ n ∧ n ≤ 3) : NamesOk (nmHead :: (k0.map (·.1) ++ (List.replicate n nmData ++ (k1.map (·.1) ++ [nmEnd])))) := by
  have : n = 1 ∨ n = 2 ∨ n = 3 := by omega
  rcases this with rfl | rfl | rfl <;> cases hk <;> decide +kernel
theorem rest_data {k0 k1 : List (Str × List Int)} (hk : Beside k0 k1) (x : List Int) (pss : List (List Int)) : ((nmHead, x) :: restI k0 k1 pss).filter (·.1 == nmData) = pss.map fun p => (nmData, p) := by
  have e0 : k0.filter (·.1 == nmData) = [] := by cases hk <;> rfl
  have e1 : (k1 ++ [(nmEnd, [])]).filter (fun c : Str × List Int => c.1 == nmData) = [] := by cases hk <;> rfl
  have e2 : ¬ (nmHead == nmData) = true := by decide +kernel
  unfold restI
  rw [List.filter_cons_of_neg (p := fun c : Str × List Int => c.1 == nmData) (a := (nmHead, x)) e2, List.filter_append, List.filter_append, e0, e1, List.nil_append, List.append_nil]
  exact List.filter_eq_self.mpr fun c hc => by
    obtain ⟨p, _, rfl⟩ := List.mem_map.mp hc
    exact beq_self_eq_true _
theorem png_facts {wi he : Int} {k0 k1 : List (Str × List Int)} {pss : List (List Int)} (hw : 0 ≤ wi ∧ wi < 4294967296) (hh : 0 ≤ he ∧ he < 4294967296) (hk : Beside k0 k1) (hp : 1 ≤ pss.length ∧ pss.length ≤ 3) (hok : OkB pss.flatten) (hz : pss.flatten.length ≤ 2000) :
    PngFacts wi he (restI k0 k1 pss) pss.flatten := by
  have hsh : OkB (signs nmHead) := by decide +kernel
  have hsd : OkB (signs nmData) := by decide +kernel
  have hse : OkB (signs nmEnd) := by decide +kernel
  have hst : OkB (signs nmText) := by decide +kernel
  have nh : nmHead.cps.size = 4 := by decide +kernel
  have nd : nmData.cps.size = 4 := by decide +kernel
  have hhok : OkB (headI wi he) := ((four_ok hw.1 hw.2).append (four_ok hh.1 hh.2)).append (by decide)
  have hpl : ∀ q ∈ pss, q.length ≤ 2000 ∧ OkB q := fun q hq => ⟨Nat.le_trans (flat_le hq) hz, fun n hn => hok n (List.mem_flatten.mpr ⟨q, hq, hn⟩)⟩
  have hx : ∀ c ∈ (nmHead, headI wi he) :: restI k0 k1 pss, c.1.cps.size = 4 ∧ OkB (signs c.1 ++ c.2) ∧ c.2.length ≤ 2000 := by
    have tx : ∀ c, c = txI → c.1.cps.size = 4 ∧ OkB (signs c.1 ++ c.2) ∧ c.2.length ≤ 2000 := by
      rintro c rfl; exact ⟨by decide +kernel, hst.append (by decide), by decide⟩
    intro c hc
    unfold restI at hc
    simp only [List.mem_cons, List.mem_append, List.mem_map, List.not_mem_nil, or_false] at hc
    rcases hc with rfl | hc | ⟨q, hq, rfl⟩ | hc | rfl
    · exact ⟨nh, hsh.append hhok, Nat.le_of_ble_eq_true rfl⟩
    · cases hk with
      | none => cases hc
      | ahead => exact tx c (List.mem_singleton.mp hc)
      | behind => cases hc
    · exact ⟨nd, hsd.append (hpl q hq).2, (hpl q hq).1⟩
    · cases hk with
      | none => cases hc
      | ahead => cases hc
      | behind => exact tx c (List.mem_singleton.mp hc)
    · exact ⟨by decide +kernel, hse.append (by decide), by decide⟩
  have hn : (restI k0 k1 pss).length ≤ 9 := by
    unfold restI
    cases hk <;> simp <;> omega
  have hw' : get32 (headI wi he) 0 = wi := by
    exact quad wi
  have hh' : get32 (headI wi he) 4 = he := by
    exact quad he
  have nm := names_ok hk hp
  rw [← rest_names] at nm
  refine ⟨hx, hn, Nat.le_trans (file_length fun c hc => ⟨(hx c hc).1, (hx c hc).2.2⟩) (by rw [List.length_cons]; omega), nm.1, nm.2.1, nm.2.2.1, nm.2.2.2, rfl, rfl, hw', hh', ?_, ?_⟩
  · rw [rest_data hk, List.map_map]
    exact congrArg List.flatten (List.map_id _)
  · rw [rest_data hk, List.length_map]
    exact hp.1
theorem fresh_Refu : True := by
  w_top off
  exact trivial
/-- what the base bears -/
structure AtBase (w : World) (p : Program) (loose : List Str) (mean : ExcName → Option Value) (mg mb : Str → Option Value) (base : Heap) : Prop where
  X : (Mine.hd.heap_1 w.params).In base
  T : Top p loose mean mg mb base
theorem one_of_ints {a b c d : Int} {t1 t2 t3 t4 : Tok} {v : Value} {k : Nat} (h : [Value.int a t1, .int b t2, .int c t3, .int d t4][k]? = some v) : ∃ n t, v = .int n t ∧ (n = a ∨ n = b ∨ n = c ∨ n = d) := by
  have : v = .int a t1 ∨ v = .int b t2 ∨ v = .int c t3 ∨ v = .int d t4 := by simpa using List.mem_of_getElem? h
  rcases this with rfl | rfl | rfl | rfl <;> exact ⟨_, _, rfl, by simp⟩
theorem one_of_refs {a b c d : Addr} {v : Value} {k : Nat} (h : [Value.ref a, .ref b, .ref c, .ref d][k]? = some v) : v = .ref a ∨ v = .ref b ∨ v = .ref c ∨ v = .ref d := by
  simpa using List.mem_of_getElem? h
section
variable {prog : Program} {w : World} {p : Program} {loose : List Str} {mean : ExcName → Option Value} {mg mb : Str → Option Value}
  {dp un : Nat} {gd : Option (List Code)} {outer : List Env} {base h₀ : Heap} {s : Shared} {Q E : Value → Shared → Prop}
theorem use_one {l lt : Addr} {o : Obj} {vs : List Value} {c : Nat} {L : Addr} {m : Str → Option Value} {news : List (Addr × Obj)} {g : Obj → List (Addr × Obj)} {A A₀ : Around} {env : Env}
    (B : Below A₀ base outer h₀ := by k_asm) (F : Fr h₀ L s.heap m := by k_asm) (X : (hd.heap_1 w.params).In h₀ := by k_asm) (N : News h₀ L s.heap news := by k_asm) (U : UpdF l o news g := by k_updF) (T : Top p loose mean mg mb h₀ := by k_asm)
    (ho : Src o := by assumption) (hm : (lt, listOf vs.toArray c) ∈ news := by k_mem) (hlt : @LT.lt Nat _ l lt := by first | assumption | omega) (hn : 0 < vs.length := by simp only [List.length_cons, List.length_nil]; omega) (hn2 : vs.length < 1000 := by simp only [List.length_cons, List.length_nil]; omega)
    (hA : A = topA dp un gd (env :: outer) := by exact rfl) (hf : env.frame = some L := by exact rfl) (hk : env.scope.kind = .function := by exact rfl)
    (hd : dp + 4 < recursionLimit := by walk_at "mine room") (hu : un + 20 < cLine := by walk_at "mine room")
    (h : ∀ (g₀ : Heap) v h' tk' o', Fr h₀ L h' m → News h₀ L h' (g o') → s.heap.objs.size ≤ h'.objs.size → g₀.objs.size = s.heap.objs.size → (∃ k : Nat, vs[k]? = some v) ∧ Src o' → Q v { s with heap := h', toks := tk' }) :
    wpAny (model prog w) A (call (.ref 156) [.ref l, .ref lt]) Q E s :=
  SpecM.use (one_spec _ _ _ _ ho hn hn2) B F X N U T hA hf hk hd hu (fun _ _ N9 => News.isList N9 (List.mem_filter.mpr (And.intro hm (bne_iff_ne.mpr (Nat.ne_of_gt hlt))))) h
end
/-- the streams that are refused -/
theorem bad_case {a b n : Int} (h : (a = 120 ∧ b = 1 ∧ (n = 5 ∨ n = 6 ∨ n = 128 ∨ n = 255)) ∨ (n = 0 ∧ ((a = 120 ∧ b = 2) ∨ (a = 121 ∧ b = 24) ∨ (a = 120 ∧ b = 32) ∨ (a = 119 ∧ b = 1)))) :
    BadPair (streamI a b [[n, 1, 2, 3, 255]]) ∨ BadKind (streamI a b [[n, 1, 2, 3, 255]]) := by
  have hl := stream_length a b [[n, 1, 2, 3, 255]]
  rcases h with ⟨rfl, rfl, h⟩ | ⟨rfl, h⟩
  · exact .inr ⟨120, 1, _, rfl, by decide, by decide, by decide +kernel, And.intro (Nat.le_refl _) (Nat.le_of_ble_eq_true rfl), rfl, by show 5 ≤ n; omega⟩
  · refine .inl ⟨by omega, fun h1 h2 h3 => ?_⟩
    replace h1 : a % 16 = 8 := h1
    replace h2 : Int.fmod (256 * a + b) 31 = 0 := h2
    replace h3 : Builtin.bitAnd b 32 = 0 := h3
    rcases h with ⟨rfl, rfl⟩ | ⟨rfl, rfl⟩ | ⟨rfl, rfl⟩ | ⟨rfl, rfl⟩
    · exact absurd h2 (by decide)
    · exact absurd h1 (by decide)
    · exact absurd h3 (by decide +kernel)
    · exact absurd h1 (by decide)
theorem bad_ok {a b n : Int} (ha : 0 ≤ a ∧ a < 256) (hb : 0 ≤ b ∧ b < 256) (hn : 0 ≤ n ∧ n < 256) : OkB (streamI a b [[n, 1, 2, 3, 255]]) := by
  have e : streamI a b [[n, 1, 2, 3, 255]] = [a, b, 1, 5, 0, 250, 255, n, 1, 2, 3, 255] ++ four (sumI [[n, 1, 2, 3, 255]]) := by kernel_rfl
  have h : OkB [a, b, 1, 5, 0, 250, 255, n, 1, 2, 3, 255] := by
    show ∀ m ∈ _, 0 ≤ m ∧ m < 256
    repeat (first | exact List.forall_mem_nil _ | refine List.forall_mem_cons.mpr ⟨by first | assumption | decide, ?_⟩)
  rw [e]
  exact h.append (four_ok (sum_range _).1 (sum_range _).2)
/-- where the two ways of the first question meet -/
def RefJ (h₀ : Heap) (L : Addr) (s s' : Shared) : Prop :=
  ∃ (u : Str → Option Value) (h' : Heap) (tk' : Nat) (lo pr : Addr) (a b n : Int) (tn t1 t2 t3 t4 ta tb : Tok) (c : Nat), s' = { s with heap := h', toks := tk' } ∧
    Fr h₀ L h' (kstB u [(Str.ofString "lone", .ref lo), (Str.ofString "pair", .ref pr)]) ∧
    News h₀ L h' [(lo, listOf [.int n tn, .int 1 t1, .int 2 t2, .int 3 t3, .int 255 t4].toArray c), (pr, { cls := .type "tuple", data := .seq #[.int a ta, .int b tb] })] ∧
    (0 ≤ a ∧ a < 256) ∧ (0 ≤ b ∧ b < 256) ∧ (0 ≤ n ∧ n < 256) ∧
    ((a = 120 ∧ b = 1 ∧ (n = 5 ∨ n = 6 ∨ n = 128 ∨ n = 255)) ∨ (n = 0 ∧ ((a = 120 ∧ b = 2) ∨ (a = 121 ∧ b = 24) ∨ (a = 120 ∧ b = 32) ∨ (a = 119 ∧ b = 1))))
theorem RefJ.intro {h₀ : Heap} {L : Addr} {s : Shared} {m : Str → Option Value} {h' : Heap} {tk' : Nat} {lo pr : Addr} {a b n : Int} {tn t1 t2 t3 t4 ta tb : Tok} {c : Nat} {l : List (Addr × Obj)} (F : Fr h₀ L h' m) (hm : ∀ p ∈ [(Str.ofString "lone", Value.ref lo), (Str.ofString "pair", .ref pr)], m p.1 = some p.2) (N : News h₀ L h' l)
    (hl : (lo, listOf [.int n tn, .int 1 t1, .int 2 t2, .int 3 t3, .int 255 t4].toArray c) ∈ l) (hp : (pr, { cls := .type "tuple", data := .seq #[.int a ta, .int b tb] }) ∈ l)
    (hc : (a = 120 ∧ b = 1 ∧ (n = 5 ∨ n = 6 ∨ n = 128 ∨ n = 255)) ∨ (n = 0 ∧ ((a = 120 ∧ b = 2) ∨ (a = 121 ∧ b = 24) ∨ (a = 120 ∧ b = 32) ∨ (a = 119 ∧ b = 1)))) : RefJ h₀ L s { s with heap := h', toks := tk' } := by
  refine ⟨m, h', tk', lo, pr, a, b, n, tn, t1, t2, t3, t4, ta, tb, c, rfl, ?_, news_le N (List.forall_mem_cons.mpr ⟨hl, List.forall_mem_cons.mpr ⟨hp, List.forall_mem_nil _⟩⟩), ?_, ?_, ?_, hc⟩
  · rw [kst_self hm]; exact F
  · omega
  · omega
  · omega
section
variable {M : Model} {A : Around} {env : Env} {E : Value → Shared → Prop} {s : Shared} {st : Stmt} {rest : List Stmt} {Q : Flow → Shared → Prop}
theorem cons_meet (R : Shared → Prop) (h : wpAny M A (exec st env) (fun f s₁ => f = .next ∧ R s₁) E s) (k : ∀ s₁, R s₁ → wpC M A (execs rest env) Q E s₁) : wpC M A (execs (st :: rest) env) Q E s :=
  wpC_execs_consA (wpAny_mono h (fun f s₁ x => by obtain ⟨rfl, hr⟩ := x; exact k _ hr) fun _ _ e => e)
end
section
variable {prog : Program} {w : World}
set_option maxHeartbeats 8000000 in
theorem refused_spec (l : Addr) (o : Obj) (ho : Src o) : SpecT prog w 208 [.ref l] 14 160 l o := by
  intro p loose mean mg mb dp un gd outer base h₀ s Q E B X T Xb Tb hst hsz hl hln hd hu hret
  have hb : AtBase w p loose mean mg mb base := ⟨Xb, Tb⟩
  clear Xb Tb
  with_unfolding_all refine' enterGC [(l, _)] ?k1 ?k2 ?k2b ?k2c ?k2d ?k3 ?k4 ?k5 ?k6 ?k7 ?_ ?c1 ?c2 ?c3 ?c4
  (((case k1 => assumption); (case k2 => assumption); (try ((case k2b => assumption); (case k2c => assumption); (case k2d => first | exact List.forall_mem_nil _ | (intro q hq; cases List.mem_singleton.mp hq; exact And.intro (by assumption) (by assumption))))); (case k3 => k_is); (case k4 => k_is); (case k5 => omega); (case k6 => first | exact rfl | exact binds_K (by assumption) rfl (by k_is) rfl rfl rfl); (case k7 => first | exact locs rfl | exact rfl); (case c1 => exact rfl); (case c2 => exact rfl); (case c3 => exact rfl); (try (case c4 => decide))); intro _ _ F9; (dsimp only [List.map, List.zip, List.zipWith, List.reverse, List.reverseAux] at F9); revert F9; intro _ _; (try dsimp only); (try ((first | refine fold_env ?_ | refine fold_envC ?_); intro M₉ A₉ e₉ g₉ d₉ o₉)); (try k_fold))
  generalize (s.toks + List.length _) = tk0
  (refine wpC_execs_consA ?_; ((try k_fold); repeat' (first | (k_unfold; (try dsimp only)) | ((fail_if_success (with_reducible (first | show wpAny _ _ (exec (.For _ _ _ _ _) _) _ _ _ | show wpAny _ _ (exec (.While _ _ _ _) _) _ _ _ | show wpAny _ _ (pyIter _) _ _ _ | show wpAny _ _ (call (.type "zip") _) _ _ _ | show wpAny _ _ (call (.type "enumerate") _) _ _ _ | show wpAny _ _ (eval (.ListComp _ _ _ _) _) _ _ _ | show wpAny _ _ (exec (.Assign _ (.ListComp _ _ _ _) _) _) _ _ _))); walk1; (try dsimp only)))); all_goals (try dsimp only))
  rename_i L h1 lo h2 l2a l1a pr h3 l1b T0 h4 l1c h5 h6 h7 F0 N0
  refine cons_meet (RefJ h₀ L s) ?_ fun s' hR => ?_
  · ((try k_fold); repeat' (first | (k_unfold; (try dsimp only)) | ((with_reducible show wpAny _ _ (call (.ref _) _) _ _ _); refine' use_take (h := ?_); intro _ _ _ _ _ _ _ _ _ _ _ e9; clear e9; (try dsimp only)) | ((fail_if_success (with_reducible (first | show wpAny _ _ (exec (.For _ _ _ _ _) _) _ _ _ | show wpAny _ _ (exec (.While _ _ _ _) _) _ _ _ | show wpAny _ _ (pyIter _) _ _ _ | show wpAny _ _ (call (.type "zip") _) _ _ _ | show wpAny _ _ (call (.type "enumerate") _) _ _ _ | show wpAny _ _ (eval (.ListComp _ _ _ _) _) _ _ _ | show wpAny _ _ (exec (.Assign _ (.ListComp _ _ _ _) _) _) _ _ _))); walk1; (try dsimp only))))
    · (refine' use_one (h := ?_))
      intro g' v' h' tk' o' F' N' sz' gz' po'
      obtain ⟨⟨kk, hv'⟩, so'⟩ := po'
      clear sz' gz'
      obtain ⟨n, tn, rfl, hn⟩ := one_of_ints hv'
      (try dsimp only at N')
      ((try k_fold); repeat' (first | (k_unfold; (try dsimp only)) | ((fail_if_success (with_reducible (first | show wpAny _ _ (exec (.For _ _ _ _ _) _) _ _ _ | show wpAny _ _ (exec (.While _ _ _ _) _) _ _ _ | show wpAny _ _ (pyIter _) _ _ _ | show wpAny _ _ (call (.type "zip") _) _ _ _ | show wpAny _ _ (call (.type "enumerate") _) _ _ _ | show wpAny _ _ (eval (.ListComp _ _ _ _) _) _ _ _ | show wpAny _ _ (exec (.Assign _ (.ListComp _ _ _ _) _) _) _ _ _))); walk1; (try dsimp only))))
      clear hv'
      rename Fr _ _ _ _ => F
      rename News _ _ _ _ => N
      exact RefJ.intro F (by (repeat (first | exact List.forall_mem_nil _ | refine List.forall_mem_cons.mpr ⟨by first | rfl | assumption, ?_⟩))) N (by k_mem) (by k_mem) (.inl ⟨rfl, rfl, hn⟩)
    · rename_i D1 h9a la D2 h9b lb D3 h9c lc D4 h9d ld l9 h9e F9a N9a le lf
      (refine' use_one (h := ?_))
      intro g' v' h' tk' o' F' N' sz' gz' po'
      obtain ⟨⟨kk, hv'⟩, so'⟩ := po'
      clear sz' gz'
      (try dsimp only at N')
      obtain ⟨pr2, a, b, ta, tb, rfl, hm2, hc2⟩ : ∃ (pr2 : Addr) (a b : Int) (ta tb : Tok), v' = .ref pr2 ∧ News h₀ L h' [(pr2, { cls := .type "tuple", data := .seq #[.int a ta, .int b tb] })] ∧ ((a = 120 ∧ b = 2) ∨ (a = 121 ∧ b = 24) ∨ (a = 120 ∧ b = 32) ∨ (a = 119 ∧ b = 1)) := by
        rcases one_of_refs hv' with rfl | rfl | rfl | rfl
        all_goals refine' ⟨_, _, _, _, _, rfl, news_one N' (by k_mem), ?_⟩
        all_goals decide
      clear hv'
      replace N' := news_cons N' hm2
      ((try k_fold); repeat' (first | (k_unfold; (try dsimp only)) | ((fail_if_success (with_reducible (first | show wpAny _ _ (exec (.For _ _ _ _ _) _) _ _ _ | show wpAny _ _ (exec (.While _ _ _ _) _) _ _ _ | show wpAny _ _ (pyIter _) _ _ _ | show wpAny _ _ (call (.type "zip") _) _ _ _ | show wpAny _ _ (call (.type "enumerate") _) _ _ _ | show wpAny _ _ (eval (.ListComp _ _ _ _) _) _ _ _ | show wpAny _ _ (exec (.Assign _ (.ListComp _ _ _ _) _) _) _ _ _))); walk1; (try dsimp only))))
      rename Fr _ _ _ _ => F
      rename News _ _ _ _ => N
      exact RefJ.intro F (by (repeat (first | exact List.forall_mem_nil _ | refine List.forall_mem_cons.mpr ⟨by first | rfl | assumption, ?_⟩))) N (by k_mem) (.head _) (.inr ⟨rfl, hc2⟩)
  · clear F0 N0
    obtain ⟨u, h8, tk8, lo9, pr9, a, b, n, tn, t1, t2, t3, t4, ta, tb, c, rfl, F, N, ha, hb9, hn9, hc⟩ := hR
    refine wpC_execs_cons (wpC_Try_except ?_)
    refine wpC_execs_cons (wpC_Expr (wpC_Call_Name ?_))
    ((try k_fold); repeat' (first | (k_unfold; (try dsimp only)) | ((fail_if_success (with_reducible (first | show wpAny _ _ (exec (.For _ _ _ _ _) _) _ _ _ | show wpAny _ _ (exec (.While _ _ _ _) _) _ _ _ | show wpAny _ _ (pyIter _) _ _ _ | show wpAny _ _ (call (.type "zip") _) _ _ _ | show wpAny _ _ (call (.type "enumerate") _) _ _ _ | show wpAny _ _ (eval (.ListComp _ _ _ _) _) _ _ _ | show wpAny _ _ (exec (.Assign _ (.ListComp _ _ _ _) _) _) _ _ _))); walk1; (try dsimp only))))
    (refine callWith_KC (by assumption) (by k_is) ?_)
    ((try k_fold); repeat' (first | (k_unfold; (try dsimp only)) | ((fail_if_success (with_reducible (first | show wpAny _ _ (exec (.For _ _ _ _ _) _) _ _ _ | show wpAny _ _ (exec (.While _ _ _ _) _) _ _ _ | show wpAny _ _ (pyIter _) _ _ _ | show wpAny _ _ (call (.type "zip") _) _ _ _ | show wpAny _ _ (call (.type "enumerate") _) _ _ _ | show wpAny _ _ (eval (.ListComp _ _ _ _) _) _ _ _ | show wpAny _ _ (exec (.Assign _ (.ListComp _ _ _ _) _) _) _ _ _))); walk1; (try dsimp only))))
    rename Fr _ _ _ _ => F
    rename News _ _ _ _ => N
    refine Spec.useInts (stream_spec _ _ a b _ _ [(lo9, [.int n tn, .int 1 t1, .int 2 t2, .int 3 t3, .int 255 t4], [n, 1, 2, 3, 255])] (fun t ht => ?_) (Nat.le_of_ble_eq_true rfl) (And.intro (Nat.le_refl _) (Nat.le_of_ble_eq_true rfl)) (fun t ht => ?_)) (by assumption) F (by assumption) N (by assumption) rfl rfl rfl (by walk_at "mine room") (by walk_at "mine room") ⟨News.isTup N (by k_mem), News.isList N (by k_mem), fun t ht => by rw [List.mem_singleton.mp ht]; exact News.isList N (by k_mem)⟩ ?_
    · rw [List.mem_singleton.mp ht]; exact .cons _ _ (.cons _ _ (.cons _ _ (.cons _ _ (.cons _ _ .nil))))
    · rw [List.mem_singleton.mp ht]
      show ∀ m ∈ _, 0 ≤ m ∧ m < 256
      repeat (first | exact List.forall_mem_nil _ | refine List.forall_mem_cons.mpr ⟨by first | assumption | decide, ?_⟩)
    intro ls vst cst h9 tk9 F9 N9 lt9 ge9 hI9
    clear F N
    ((try k_fold); repeat' (first | (k_unfold; (try dsimp only)) | ((fail_if_success (with_reducible (first | show wpAny _ _ (exec (.For _ _ _ _ _) _) _ _ _ | show wpAny _ _ (exec (.While _ _ _ _) _) _ _ _ | show wpAny _ _ (pyIter _) _ _ _ | show wpAny _ _ (call (.type "zip") _) _ _ _ | show wpAny _ _ (call (.type "enumerate") _) _ _ _ | show wpAny _ _ (eval (.ListComp _ _ _ _) _) _ _ _ | show wpAny _ _ (exec (.Assign _ (.ListComp _ _ _ _) _) _) _ _ _))); walk1; (try dsimp only))))
    rename Fr _ _ _ _ => F
    rename News _ _ _ _ => N
    have hok := bad_ok (a := a) (b := b) (n := n) ha hb9 hn9
    have hsl : (streamI a b [[n, 1, 2, 3, 255]]).length ≤ 100 := by
      have := blocks_length [[n, 1, 2, 3, 255]] [[n, 1, 2, 3, 255]].length (Nat.le_refl _)
      rw [List.take_length] at this
      rw [stream_length, this]
      exact Nat.le_of_ble_eq_true rfl
    refine Spec.use (picture_spec 1 1 _ _ _ _ _ _ [] [] [] [] [(ls, vst, streamI a b [[n, 1, 2, 3, 255]])] (by decide) (by decide) .nil .nil (fun t ht => by rw [List.mem_singleton.mp ht]; exact hI9) (by decide) (by decide) (fun t ht => by rw [List.mem_singleton.mp ht]; exact hok) (by decide) (by decide) (fun t ht => by rw [List.mem_singleton.mp ht]; exact Nat.le_trans hsl (by decide)) (Nat.le_of_ble_eq_true rfl))
      (by assumption) F (by assumption) N (by assumption) rfl rfl rfl (by walk_at "mine room") (by walk_at "mine room") ⟨News.isTup N (by k_mem), News.isList N (by k_mem), News.isList N (by k_mem), News.isList N (by k_mem), fun t ht => by rw [List.mem_singleton.mp ht]; exact News.isList N (by k_mem)⟩ ?_
    intro v h10 tk10 F10 N10 _ _ hrx7
    obtain ⟨bb, tb, rfl, hbb⟩ := hrx7
    ((try k_fold); repeat' (first | (k_unfold; (try dsimp only)) | ((fail_if_success (with_reducible (first | show wpAny _ _ (exec (.For _ _ _ _ _) _) _ _ _ | show wpAny _ _ (exec (.While _ _ _ _) _) _ _ _ | show wpAny _ _ (pyIter _) _ _ _ | show wpAny _ _ (call (.type "zip") _) _ _ _ | show wpAny _ _ (call (.type "enumerate") _) _ _ _ | show wpAny _ _ (eval (.ListComp _ _ _ _) _) _ _ _ | show wpAny _ _ (exec (.Assign _ (.ListComp _ _ _ _) _) _) _ _ _))); walk1; (try dsimp only))))
    have pf := png_facts (wi := 1) (he := 1) (k0 := []) (k1 := []) (pss := [streamI a b [[n, 1, 2, 3, 255]]]) (by decide) (by decide) .none (And.intro (Nat.le_refl _) (Nat.le_of_ble_eq_true rfl)) (by rw [List.flatten_cons, List.flatten_nil, List.append_nil]; exact hok) (by rw [List.flatten_cons, List.flatten_nil, List.append_nil]; exact Nat.le_trans hsl (by decide))
    have hpf := picture_file 1 1 [] [] [streamI a b [[n, 1, 2, 3, 255]]]
    have hbad := bad_case hc
    rw [← List.append_nil (streamI a b [[n, 1, 2, 3, 255]])] at hbad
    refine SpecEC.use (png_raises bb tb _ _ [streamI a b [[n, 1, 2, 3, 255]]].flatten _ (hbb.trans hpf) pf.hx pf.hn pf.hz rfl pf.hend pf.hi pf.c1 pf.c2 pf.hd1 pf.hd2 pf.hw pf.hh pf.hdat pf.hd3 (Nat.le_trans (Nat.le_of_eq (congrArg List.length (List.append_nil _))) (Nat.le_trans hsl (by decide))) hbad)
      (by assumption) F10 (by assumption) (by assumption) rfl rfl rfl (by walk_at "mine room") (by walk_at "mine room") trivial ?_
    intro v9 s9 hf9
    refine caught_fault hb.X hb.T (by k_is) hf9 rfl ?_
    intro e9 s10 k1 k2 k3
    ((try k_fold); repeat' (first | (k_unfold; (try dsimp only)) | ((fail_if_success (with_reducible (first | show wpAny _ _ (exec (.For _ _ _ _ _) _) _ _ _ | show wpAny _ _ (exec (.While _ _ _ _) _) _ _ _ | show wpAny _ _ (pyIter _) _ _ _ | show wpAny _ _ (call (.type "zip") _) _ _ _ | show wpAny _ _ (call (.type "enumerate") _) _ _ _ | show wpAny _ _ (eval (.ListComp _ _ _ _) _) _ _ _ | show wpAny _ _ (exec (.Assign _ (.ListComp _ _ _ _) _) _) _ _ _))); walk1; (try dsimp only))))
    exact hret _ k1 k2 k3
end
theorem fresh_LawP : True := by
  w_top off
  exact trivial
/-- the octets of the rows, filtered, one behind the other -/
def dataI (ks : List Int) (rws : List (List Int)) : List Int := (List.range rws.length).flatMap fun i => filtI (ks.getD i 0) (rws.getD i []) (aboveI rws i)
theorem above_snoc {rws : List (List Int)} {r : List Int} : ∀ {i : Nat}, i ≤ rws.length → aboveI (rws ++ [r]) i = aboveI rws i
  | 0, _ => rfl
  | i + 1, h => by
    show (rws ++ [r]).getD i [] = rws.getD i []
    rw [List.getD_eq_getElem?_getD, List.getD_eq_getElem?_getD, List.getElem?_append_left h]
theorem above_last {rws : List (List Int)} {r : List Int} : aboveI (rws ++ [r]) (rws.length + 1) = r := by
  show (rws ++ [r]).getD rws.length [] = r
  rw [List.getD_eq_getElem?_getD, List.getElem?_append_right (Nat.le_refl _), Nat.sub_self]
  rfl
theorem data_snoc {ks : List Int} {rws : List (List Int)} {k : Int} {r : List Int} (h : ks.length = rws.length) : dataI (ks ++ [k]) (rws ++ [r]) = dataI ks rws ++ filtI k r (aboveI rws rws.length) := by
  unfold dataI
  rw [List.length_append, List.length_cons, List.length_nil, Nat.zero_add, List.range_succ, List.flatMap_append, List.flatMap_cons, List.flatMap_nil, List.append_nil]
  congr 1
  · rw [List.flatMap_def, List.flatMap_def]
    congr 1
    refine List.map_congr_left fun i hi => ?_
    have hlt := List.mem_range.mp hi
    rw [above_snoc (Nat.le_of_lt hlt), List.getD_eq_getElem?_getD, List.getD_eq_getElem?_getD, List.getElem?_append_left (by omega), List.getElem?_append_left hlt, ← List.getD_eq_getElem?_getD, ← List.getD_eq_getElem?_getD]
  · rw [above_snoc (Nat.le_refl _), List.getD_eq_getElem?_getD, List.getD_eq_getElem?_getD, List.getElem?_append_right (by omega), List.getElem?_append_right (Nat.le_refl _), h, Nat.sub_self]
    rfl
theorem fresh_PureU : True := by
  w_top off
  exact trivial
/-- a filter undone gives the row back -/
theorem unf_filt {k : Int} {r a : List Int} (hr : OkB r) : ∀ n, n ≤ r.length → unfI k ((List.range r.length).map (filtAt k r a)) a n = r.take n
  | 0, _ => rfl
  | n + 1, h => by
    have hlt : n < r.length := h
    have hg : ((List.range r.length).map (filtAt k r a)).getD n 0 = filtAt k r a n := by
      simp [List.getD_eq_getElem?_getD, hlt]
    have hrn : r.getD n 0 = r[n] := by simp [List.getD_eq_getElem?_getD, hlt]
    have hb := hr r[n] (List.getElem_mem hlt)
    rw [unfI, unf_filt hr n (Nat.le_of_lt hlt), hg, List.take_add_one, List.getElem?_eq_getElem hlt]
    have e4 : (if 4 ≤ n then (r.take n).getD (n - 4) 0 else 0) = (if 4 ≤ n then r.getD (n - 4) 0 else 0) := by
      split
      · rw [List.getD_eq_getElem?_getD, List.getD_eq_getElem?_getD, List.getElem?_take_of_lt (by omega)]
      · rfl
    rw [e4]
    unfold filtAt
    rw [hrn]
    generalize guessI k _ _ _ = g
    have : ((r[n] - g) % 256 + g) % 256 = r[n] := by omega
    rw [this]
    rfl
theorem data_split {ks : List Int} {rws : List (List Int)} (h8 : ∀ r ∈ rws, r.length = 8) {y : Nat} (hy : y < rws.length) :
    ∃ pre post, dataI ks rws = pre ++ (filtI (ks.getD y 0) (rws.getD y []) (aboveI rws y) ++ post) ∧ pre.length = 9 * y := by
  have part : ∀ n, n ≤ rws.length → ((List.range n).flatMap fun i => filtI (ks.getD i 0) (rws.getD i []) (aboveI rws i)).length = 9 * n := by
    intro n
    induction n with
    | zero => intro _; rfl
    | succ n ih =>
      intro hn
      have hlt : n < rws.length := hn
      have e : (rws.getD n []).length = 8 := by
        rw [List.getD_eq_getElem?_getD, List.getElem?_eq_getElem hlt]
        exact h8 _ (List.getElem_mem hlt)
      rw [List.range_succ, List.flatMap_append, List.length_append, ih (Nat.le_of_lt hlt), List.flatMap_cons, List.flatMap_nil, List.append_nil]
      simp only [filtI, List.length_cons, List.length_map, List.length_range, e]
      omega
  have sp : ∀ n, y < n → ∃ post, ((List.range n).flatMap fun i => filtI (ks.getD i 0) (rws.getD i []) (aboveI rws i)) = ((List.range y).flatMap fun i => filtI (ks.getD i 0) (rws.getD i []) (aboveI rws i)) ++ (filtI (ks.getD y 0) (rws.getD y []) (aboveI rws y) ++ post) := by
    intro n
    induction n with
    | zero => intro h; omega
    | succ n ih =>
      intro h
      rw [List.range_succ, List.flatMap_append, List.flatMap_cons, List.flatMap_nil, List.append_nil]
      by_cases e : y = n
      · subst e
        exact ⟨[], by rw [List.append_nil]⟩
      · obtain ⟨post, hp⟩ := ih (by omega)
        exact ⟨post ++ filtI (ks.getD n 0) (rws.getD n []) (aboveI rws n), by rw [hp]; simp only [List.append_assoc]⟩
  obtain ⟨post, hp⟩ := sp rws.length hy
  exact ⟨_, post, hp, part y (Nat.le_of_lt hy)⟩
/-- the rows are read back out of the data -/
theorem rows_back {ks : List Int} {rws : List (List Int)} (hks : ∀ k ∈ ks, 0 ≤ k ∧ k ≤ 4) (hr : ∀ r ∈ rws, r.length = 8 ∧ OkB r) {y : Nat} (hy : y < rws.length) :
    ∃ k, (dataI ks rws).getD (9 * y) 0 = k ∧ 0 ≤ k ∧ k ≤ 4 ∧ (rws.getD y []).length = 8 ∧ unfI k (((dataI ks rws).drop (9 * y + 1)).take 8) (aboveI rws y) 8 = rws.getD y [] := by
  have hry : rws.getD y [] = rws[y] := by rw [List.getD_eq_getElem?_getD, List.getElem?_eq_getElem hy]; rfl
  have hr' := hr _ (List.getElem_mem hy)
  rw [← hry] at hr'
  obtain ⟨pre, post, hd, hl⟩ := data_split (ks := ks) (fun r h => (hr r h).1) hy
  have hk : 0 ≤ ks.getD y 0 ∧ ks.getD y 0 ≤ 4 := by
    rw [List.getD_eq_getElem?_getD]
    cases e : ks[y]? with
    | none => exact ⟨by decide, by decide⟩
    | some k => exact hks k (List.mem_of_getElem? e)
  refine ⟨ks.getD y 0, ?_, hk.1, hk.2, hr'.1, ?_⟩
  · rw [hd, List.getD_eq_getElem?_getD, List.getElem?_append_right (by omega), hl, Nat.sub_self]
    rfl
  · have e : ((dataI ks rws).drop (9 * y + 1)).take 8 = (List.range (rws.getD y []).length).map (filtAt (ks.getD y 0) (rws.getD y []) (aboveI rws y)) := by
      rw [hd, ← List.drop_drop, ← hl, List.drop_left]
      unfold filtI
      rw [List.cons_append, List.drop_succ_cons, List.drop_zero, List.take_left' (by rw [List.length_map, List.length_range]; exact hr'.1)]
    rw [e, show (8 : Nat) = (rws.getD y []).length from hr'.1.symm, unf_filt hr'.2 _ (Nat.le_refl _), List.take_length]
theorem chunk_ok2 {x : Str} {ns : List Int} (hz : ns.length ≤ 2000) (h : OkB (signs x ++ ns)) : OkB (chunkI x ns) :=
  ((four_ok (Int.natCast_nonneg _) (by omega)).append h).append (four_ok (crcOf_range h).1 (crcOf_range h).2)
theorem beside_ok {k0 k1 : List (Str × List Int)} (h : Beside k0 k1) : (OkB (chunksI k0) ∧ (chunksI k0).length ≤ 100) ∧ OkB (chunksI k1) ∧ (chunksI k1).length ≤ 100 := by
  have n : OkB (chunksI []) ∧ (chunksI []).length ≤ 100 := ⟨fun _ h => (List.not_mem_nil h).elim, by decide⟩
  have hs : OkB (signs nmText ++ [65, 0, 66]) := by decide +kernel
  have e : chunksI [txI] = chunkI nmText [65, 0, 66] := by unfold chunksI; simp
  have t : OkB (chunksI [txI]) ∧ (chunksI [txI]).length ≤ 100 := by
    rw [e]
    refine ⟨chunk_ok2 (by decide) hs, ?_⟩
    rw [chunk_length _ _ (by decide +kernel)]
    decide
  cases h with
  | none => exact ⟨n, n⟩
  | ahead => exact ⟨t, n⟩
  | behind => exact ⟨n, t⟩
theorem stream_ok {a b : Int} {pss : List (List Int)} (ha : 0 ≤ a ∧ a < 256) (hb : 0 ≤ b ∧ b < 256) (hok : OkB pss.flatten) (hz : pss.flatten.length ≤ 2000) : OkB (streamI a b pss) := by
  have h2 : OkB [a, b] := fun n hn => by
    simp only [List.mem_cons, List.not_mem_nil, or_false] at hn
    omega
  have hbk : OkB (blocksI pss pss.length) := fun n hn => by
    obtain ⟨j, hj, hn⟩ := List.mem_flatMap.mp hn
    have hlt := List.mem_range.mp hj
    have hpj : pss.getD j [] = pss[j] := by rw [List.getD_eq_getElem?_getD, List.getElem?_eq_getElem hlt]; rfl
    rw [hpj] at hn
    have hl : pss[j].length ≤ 2000 := Nat.le_trans (flat_le (List.getElem_mem hlt)) hz
    unfold blockI at hn
    rcases List.mem_append.mp hn with hn | hn
    · simp only [List.mem_cons, List.not_mem_nil, or_false] at hn
      rcases hn with rfl | rfl | rfl | rfl | rfl
      · split <;> decide
      all_goals omega
    · exact hok n (List.mem_flatten.mpr ⟨_, List.getElem_mem hlt, hn⟩)
  unfold streamI
  exact (h2.append hbk).append (four_ok (by omega) (by omega))
theorem fresh_PureE : True := by
  w_top off
  exact trivial
def rowD (r : List Int) : PyData := .list [.tuple ((r.take 4).map PyData.int), .tuple ((r.drop 4).map PyData.int)]
def pngD (rws : List (List Int)) : PyData := .tuple [.int 2, .int 5, .list (rws.map rowD)]
theorem row_lay : ∀ rws : List (List Int), PyData.canLayAll0 (rws.map rowD) = true
  | [] => rfl
  | r :: rest => by simp only [List.map_cons, PyData.canLayAll0, rowD, PyData.canLay0, ke_canLayAll0, row_lay rest, Bool.and_self]
theorem row_depth : ∀ rws : List (List Int), PyData.depthAll (rws.map rowD) ≤ 2
  | [] => Nat.zero_le _
  | r :: rest => by
    have := row_depth rest
    simp only [List.map_cons, PyData.depthAll, rowD, PyData.depth, ke_depthAll]
    omega
theorem row_eqv : ∀ rws : List (List Int), PyData.eqvAll (rws.map rowD) (rws.map rowD) = true
  | [] => by simp [PyData.eqvAll]
  | r :: rest => by simp only [List.map_cons, PyData.eqvAll, rowD, PyData.eqv, ked_eqvAll, row_eqv rest, decide_true, Bool.and_self]
theorem png_shaped (rws : List (List Int)) : SeqAt.shaped (pngD rws) = true := by
  have h := row_depth rws
  simp only [SeqAt.shaped, pngD, PyData.canLay0, PyData.canLayAll0, row_lay, PyData.depth, PyData.depthAll, Bool.and_self, Bool.true_and, decide_eq_true_eq]
  omega
theorem png_eqv (rws : List (List Int)) : PyData.eqv (pngD rws) (pngD rws) = true := by
  simp only [pngD, PyData.eqv, PyData.eqvAll, row_eqv, beq_self_eq_true, decide_true, Bool.and_self]
theorem reads_rows {h : Heap} : ∀ {ts : List RwR} {rws : List (List Int)}, RowsAre ts rws → (∀ q ∈ rwL ts, h.get? q.1 = some q.2) → ∃ as, ReadsAll h (ts.map fun t => Value.ref t.row) (rws.map rowD) as
  | _, _, .nil, _ => ⟨_, .nil⟩
  | t :: ts, r :: rws, .cons hr hrest, hq => by
    obtain ⟨as, hA⟩ := reads_rows hrest fun q hm => hq q (by unfold rwL; rw [List.flatMap_cons]; exact List.mem_append_right _ hm)
    have h1 := hq (t.row, listOf #[.ref t.a, .ref t.b] t.n) (by unfold rwL; rw [List.flatMap_cons]; exact List.mem_append_left _ (.head _))
    have h2 := hq (t.a, tupOf t.va) (by unfold rwL; rw [List.flatMap_cons]; exact List.mem_append_left _ (.tail _ (.head _)))
    have h3 := hq (t.b, tupOf t.vb) (by unfold rwL; rw [List.flatMap_cons]; exact List.mem_append_left _ (.tail _ (.tail _ (.head _))))
    exact ⟨_, .cons (reads_list_at h1 rfl rfl (.cons (reads_tuple_at h2 rfl rfl (by simpa using (ke_carried hr.1).reads h)) (.cons (reads_tuple_at h3 rfl rfl (by simpa using (ke_carried hr.2).reads h)) .nil))) hA⟩
theorem reads_png {h : Heap} {T R : Addr} {c : Nat} {tw th : Tok} {ts : List RwR} {rws : List (List Int)} (hT : h.get? T = some (tupOf [.int 2 tw, .int 5 th, .ref R])) (hR : h.get? R = some (listOf (ts.map fun t => Value.ref t.row).toArray c))
    (hq : ∀ q ∈ rwL ts, h.get? q.1 = some q.2) (hr : RowsAre ts rws) : ∃ as, Reads h (.ref T) (pngD rws) as := by
  obtain ⟨as, hA⟩ := reads_rows hr hq
  exact ⟨_, reads_tuple_at hT rfl rfl (.cons (.int _ _) (.cons (.int _ _) (.cons (reads_list_at hR rfl rfl (by simpa using hA)) .nil)))⟩
theorem fresh_Law1 : True := by
  w_top off
  exact trivial
theorem ints_cut : ∀ {vs : List Value} {ls : List Int} {k : Nat}, IntsAre vs ls → k < ls.length → ∃ p q lp lq y t, vs = p ++ .int y t :: q ∧ ls = lp ++ y :: lq ∧ p.length = k ∧ IntsAre (p ++ q) (lp ++ lq)
  | _, _, 0, .cons y t h, _ => ⟨[], _, [], _, y, t, rfl, rfl, rfl, h⟩
  | _, _, k + 1, .cons y t h, hk => by
    obtain ⟨p, q, lp, lq, z, u, e1, e2, e3, h'⟩ := ints_cut h (Nat.lt_of_succ_lt_succ hk)
    exact ⟨.int y t :: p, q, y :: lp, lq, z, u, by rw [e1]; rfl, by rw [e2]; rfl, by rw [List.length_cons, e3], .cons _ _ h'⟩
section
variable {prog : Program} {w : World} {A : Around} {E : Value → Shared → Prop} {s : Shared} {h₀ : Heap} {L D : Addr} {m : Str → Option Value} {news : List (Addr × Obj)} {n : Nat}
/-- an item is taken out of a list of ints -/
theorem pop_ints {vs : List Value} {ls : List Int} {i : Int} {u : Tok} {g : Obj → List (Addr × Obj)} {Q : Value → Shared → Prop} (F : Fr h₀ L s.heap m) (N : News h₀ L s.heap news) (U : UpdF D (listOf vs.toArray n) news g)
    (hi : IntsAre vs ls) (h0 : 0 ≤ i) (h1 : i < ls.length) (hz : ls.length ≤ 1000)
    (h : ∀ h' p lp y lq t, Fr h₀ L h' m → News h₀ L h' (g (listOf p.toArray (n + 1))) → ls = lp ++ y :: lq → IntsAre p (lp ++ lq) → Q (.int y t) { s with heap := h' }) :
    wpAny (model prog w) A (call (.builtin "list.pop") [.ref D, .int i u]) Q E s := by
  obtain ⟨p, q, lp, lq, y, t, rfl, rfl, e3, hI⟩ := ints_cut (k := i.toNat) hi (by omega)
  have hlen : (p ++ .int y t :: q).length = (lp ++ y :: lq).length := hi.length
  obtain ⟨pre, post, rfl, hg, a, b⟩ := U.split
  have z := N (D, _) (List.mem_append.mpr (.inr (.head _)))
  have hsz : (p ++ .int y t :: q).toArray.size = (lp ++ y :: lq).length := by rw [List.size_toArray]; exact hlen
  have hf : Builtin.List.listFitsIndex i = true := by
    unfold Builtin.List.listFitsIndex
    have h9 : i < 1001 := by omega
    clear h1 hz
    simp only [Bool.and_eq_true, decide_eq_true_eq]
    exact ⟨by omega, by omega⟩
  have hk : seqIndex? i (p ++ .int y t :: q).toArray.size = some p.length := by
    rw [hsz, e3]
    unfold seqIndex?
    dsimp only
    rw [if_neg (show ¬ i < 0 by omega), if_pos (show (decide (0 ≤ i) && decide (i < ((lp ++ y :: lq).length : Int))) = true by simp only [Bool.and_eq_true, decide_eq_true_eq]; exact ⟨h0, h1⟩)]
  have hy : (p ++ .int y t :: q).toArray[p.length]? = some (.int y t) := by simp
  refine call_meets PySem.F.slot_list_pop ⟨_, z.1, rfl⟩ PySem.F.entry_list_pop (PySem.F.args_list_pop_2 _ _) (PySem.MeetsSeq.list_pop_at D _ n i u _ _ hf hk hy (by rw [hsz, sizeLine_eq]; omega)) ⟨z.1, h _ (p ++ q) lp y lq t (F.change (Heap.SameBut.update ..) z.2.1 z.2.2) ?_ rfl hI⟩
  rw [hg]
  refine kl_turn _ N a b (kl_erase p q _) ?_
  rw [List.size_toArray, List.size_toArray, List.length_append, List.length_append, List.length_cons]
  omega
end
section
variable {prog : Program} {w : World} {A : Around} {E : Value → Shared → Prop} {h₀ : Heap} {L l : Addr} {m : Str → Option Value} {news : List (Addr × Obj)} {Q : Value → Shared → Prop}
/-- a piece of a written list -/
theorem slice_R {hp : Heap} {gn : _} {dr : _} {tk : Nat} {os : _} {value slice : Expr} {vl vu : Value} {lo hi : Option Int} {items : Array Value} (res : List Value) (F : Fr h₀ L hp m) (N : News h₀ L hp news) (hl : hp.IsList l items) (pl : IsPart vl lo) (pu : IsPart vu hi)
    (hr : slicePick items lo hi none = res.toArray) (hz : items.size ≤ sizeLine)
    (h : ∀ D h', Fr h₀ L h' m → News h₀ L h' ((D, listOf res.toArray 0) :: news) → (∀ p ∈ news, p.1 < D) → h₀.objs.size ≤ D → Q (.ref D) (Shared.mk h' gn dr tk os))
    (hs : subscripted slice false (.ref l) (.ref hp.objs.size) = operate [.ref hp.objs.size, .ref l] (getItem (.ref l) (.ref hp.objs.size))) (ht : ∀ r, letTemporaryGo value (.ref l) r = pure ()) :
    wpAny (model prog w) A (subscriptTail value slice (.ref l) (.ref hp.objs.size)) Q E (Shared.mk (hp.push { cls := .type "slice", data := .fields #[vl, vu, .none] }) gn dr tk os) := by
  refine slice_list (s := Shared.mk hp gn dr tk os) F N hl pl pu (fun h' F' N' => ?_) hs ht hz
  rw [hr] at N'
  exact h _ h' F' N' (fun p hp => Nat.lt_succ_of_lt (Heap.lt_size (N p hp).1)) (Nat.le_succ_of_le (fr_size F))
end
theorem pick_head {a b c d e f g h : Value} : slicePick #[a, b, c, d, e, f, g, h] none (some 4) none = [a, b, c, d].toArray := by rfl
theorem pick_tail {a b c d e f g h : Value} : slicePick #[a, b, c, d, e, f, g, h] (some 4) none none = [e, f, g, h].toArray := by first | kernel_rfl | (simp [slicePick, sliceBounds, sliceRange]; done)
theorem data_length : ∀ {rws : List (List Int)} (ks : List Int), (∀ r ∈ rws, r.length = 8) → (dataI ks rws).length = 9 * rws.length := by
  intro rws ks h
  have : ∀ n, n ≤ rws.length → ((List.range n).flatMap fun i => filtI (ks.getD i 0) (rws.getD i []) (aboveI rws i)).length = 9 * n := by
    intro n
    induction n with
    | zero => intro _; rfl
    | succ n ih =>
      intro hn
      have hlt : n < rws.length := hn
      have e : (rws.getD n []).length = 8 := by
        rw [List.getD_eq_getElem?_getD, List.getElem?_eq_getElem hlt]
        exact h _ (List.getElem_mem hlt)
      rw [List.range_succ, List.flatMap_append, List.length_append, ih (Nat.le_of_lt hlt), List.flatMap_cons, List.flatMap_nil, List.append_nil]
      simp only [filtI, List.length_cons, List.length_map, List.length_range, e]
      omega
  exact this _ (Nat.le_refl _)
theorem ints_cons {vs : List Value} {n : Int} {ns : List Int} : IntsAre vs (n :: ns) → ∃ t r, vs = .int n t :: r ∧ IntsAre r ns
  | .cons _ t h => ⟨t, _, rfl, h⟩
theorem ints_nil {vs : List Value} : IntsAre vs [] → vs = []
  | .nil => rfl
theorem ints2 {vs : List Value} {a b : Int} {ns : List Int} (H : IntsAre vs (a :: b :: ns)) : ∃ t u r, vs = .int a t :: .int b u :: r ∧ IntsAre r ns := by
  obtain ⟨t, r0, rfl, H0⟩ := ints_cons H
  obtain ⟨u, r1, rfl, H1⟩ := ints_cons H0
  exact ⟨t, u, r1, rfl, H1⟩
theorem ints4 {vs : List Value} {a b c d : Int} {ns : List Int} (H : IntsAre vs (a :: b :: c :: d :: ns)) : ∃ t u v w r, vs = .int a t :: .int b u :: .int c v :: .int d w :: r ∧ IntsAre r ns := by
  obtain ⟨t, u, r0, rfl, H0⟩ := ints2 H
  obtain ⟨v, w, r1, rfl, H1⟩ := ints2 H0
  exact ⟨t, u, v, w, r1, rfl, H1⟩
theorem ints8 {vs : List Value} {a b c d e f g h : Int} (H : IntsAre vs [a, b, c, d, e, f, g, h]) : ∃ t0 t1 t2 t3 t4 t5 t6 t7, vs = [.int a t0, .int b t1, .int c t2, .int d t3, .int e t4, .int f t5, .int g t6, .int h t7] := by
  obtain ⟨t0, t1, t2, t3, r0, rfl, H0⟩ := ints4 H
  obtain ⟨t4, t5, t6, t7, r1, rfl, H1⟩ := ints4 H0
  cases ints_nil H1
  exact ⟨t0, t1, t2, t3, t4, t5, t6, t7, rfl⟩
/-- a colour of the row that is drawn -/
def rowF (x y z : Int) (i : Nat) : Int := Int.fmod (x + y * (0 + (i : Int)) + z * (0 + (i : Int)) * (0 + (i : Int))) 256
theorem rowF_in (x y z : Int) (i : Nat) : 0 ≤ rowF x y z i ∧ rowF x y z i < 256 := ⟨Int.fmod_nonneg_of_pos _ (by decide), Int.fmod_lt_of_pos _ (by decide)⟩
theorem one_of_refs5 {a b c d e : Addr} {v : Value} {k : Nat} (h : [Value.ref a, .ref b, .ref c, .ref d, .ref e][k]? = some v) : v = .ref a ∨ v = .ref b ∨ v = .ref c ∨ v = .ref d ∨ v = .ref e := by
  simpa using List.mem_of_getElem? h
theorem one_of_refs3 {a b c : Addr} {v : Value} {k : Nat} (h : [Value.ref a, .ref b, .ref c][k]? = some v) : v = .ref a ∨ v = .ref b ∨ v = .ref c := by
  simpa using List.mem_of_getElem? h
/-- the objects ahead of the source go behind it -/
theorem own_app {h₀ h : Heap} {L sl : Addr} {o : Obj} {pre own : List (Addr × Obj)} (N : News h₀ L h (pre ++ (sl, o) :: own)) (hp : ∀ q ∈ pre, @Ne Nat q.1 sl) (hof : OwnOff own [sl]) :
    ∃ own2, News h₀ L h ((sl, o) :: own2) ∧ OwnOff own2 [sl] ∧ (∀ q ∈ own, q ∈ own2) ∧ ∀ q ∈ pre, q ∈ own2 := by
  refine ⟨pre ++ own, fun q hq => N q ?_, fun q hq b hb => ?_, fun q hq => List.mem_append_right _ hq, fun q hq => List.mem_append_left _ hq⟩
  · rcases List.mem_cons.mp hq with rfl | hq
    · exact List.mem_append_right _ (.head _)
    · rcases List.mem_append.mp hq with h | h
      · exact List.mem_append_left _ h
      · exact List.mem_append_right _ (.tail _ h)
  · rw [List.mem_singleton.mp hb]
    rcases List.mem_append.mp hq with h | h
    · exact hp q h
    · exact hof q h _ (.head _)
theorem filt_ok {k : Int} {r a : List Int} (hk : 0 ≤ k ∧ k ≤ 4) : OkB (filtI k r a) := fun n hn => by
  rcases List.mem_cons.mp hn with rfl | hn
  · omega
  · obtain ⟨i, _, rfl⟩ := List.mem_map.mp hn
    unfold filtAt
    exact ⟨Int.emod_nonneg _ (by decide), Int.emod_lt_of_pos _ (by decide)⟩
theorem data_ok {ks : List Int} {rws : List (List Int)} (hk : ∀ k ∈ ks, 0 ≤ k ∧ k ≤ 4) (_hr : ∀ r ∈ rws, r.length = 8 ∧ OkB r) : OkB (dataI ks rws) := fun n hn => by
  obtain ⟨i, _, hi⟩ := List.mem_flatMap.mp hn
  refine filt_ok ?_ n hi
  rw [List.getD_eq_getElem?_getD]
  cases e : ks[i]? with
  | none => exact ⟨by decide, by decide⟩
  | some k => exact hk k (List.mem_of_getElem? e)
section
variable {M : Model} {A : Around} {E : Value → Shared → Prop} {s : Shared} {env : Env} {pos : Pos} {Q : Value → Shared → Prop}
theorem wpC_Compare1 {l r : Expr} {op : CmpOp} (h : wpC M A (eval l env) (fun a s₁ => wpAny M A (eval r env) (fun b s₂ => wpAny M A (compareOp op a b) Q E s₂) E s₁) E s)
    (hm : behindInMarks op r = false := by with_unfolding_all rfl) : wpC M A (eval (.Compare l [op] [r] pos) env) Q E s := fun Γ p hΓ c1 c2 => by
  simp only [eval_Compare1, markedBehindIn_of_false hm, Sem.wp_bind', Sem.wp_holding, Sem.wp_cmd_standAt, Sem.wp_operate]
  exact Sem.wp_mono M Γ _ (fun a p₁ s₁ h₁ => Sem.wp_mono M Γ _ (fun b _ s₂ h₂ => h₂ Γ _ hΓ) (fun _ _ _ h' => h') _ _ (h₁ Γ p₁ hΓ)) (fun _ _ _ h' => h') _ _ (h Γ p hΓ c1 c2)
theorem wpC_And2 {a b : Expr} (h : wpC M A (eval a env) (fun v s₁ => wpAny M A (truthy v) (fun t s₂ => if t then wpC M A (eval b env) Q E s₂ else Q v s₂) E s₁) E s) : wpC M A (eval (.BoolOp .And [a, b] pos) env) Q E s := by
  rw [arm_eval_BoolOp]
  show wpC M A (boolOp pos .And [eval a env, eval b env]) Q E s
  simp only [boolOp]
  refine wpC_bind (wpC_mono h (fun v s₁ h₁ => ?_) fun _ _ x => x)
  refine wpC_bindA (wpAny_standAt (wpC_bindA (PySem.wpAny_holding (PySem.wpAny_mono h₁ (fun t s₂ h₂ => ?_) fun _ _ x => x))))
  cases t with
  | true => exact h₂
  | false => exact wpC_pure h₂
end
section
variable {prog : Program} {w : World} {p : Program} {loose : List Str} {mean : ExcName → Option Value} {mg mb : Str → Option Value}
  {dp un : Nat} {gd : Option (List Code)} {outer : List Env} {base : Heap} {s : Shared} {Q E : Value → Shared → Prop}
theorem SpecT.use {f : Addr} {args : List Value} {d u : Nat} {l : Addr} {o : Obj} {h₀ : Heap}
    {L : Addr} {m : Str → Option Value} {news : List (Addr × Obj)} {A A₀ : Around} {env : Env}
    (S : SpecT prog w f args d u l o)
    (B : Below A₀ base outer h₀) (F : Fr h₀ L s.heap m) (X : (Mine.hd.heap_1 w.params).In h₀) (N : News h₀ L s.heap news) (hm : (l, o) ∈ news) (T : Top p loose mean mg mb h₀) (hb : AtBase w p loose mean mg mb base)
    (hA : A = topA dp un gd (env :: outer)) (hf : env.frame = some L) (hk : env.scope.kind = .function)
    (hd : dp + d < recursionLimit) (hu : un + u < cLine)
    (h : ∀ s', base.StaysIn s'.heap → s'.gens = s.gens → s'.os = s.os → Q (.bool true) s') :
    wpC (model prog w) A (call (.ref f) args) Q E s := by
  subst hA
  have hl := N (l, o) hm
  have nm : ∀ b o, h₀.get? b = some o → b ∉ [l] := fun b o e q => by
    rw [List.mem_singleton.mp q, hl.2.2] at e; cases e
  have st : h₀.StaysIn (hideAll s.heap [l]) := fun b o e => hideAll_get _ (F.keep b o e) (nm b o e)
  have nL : L ∉ [l] := fun q => hl.2.1 (List.mem_singleton.mp q).symm
  have B₁ := pushX B F hf hk
  refine S p loose mean mg mb dp un gd (env :: outer) base (hideAll s.heap [l]) s Q E ⟨rfl, fun b o e => st b o (B.stays b o e), funFrames_hideAll B₁.frames fun env' he b hb' hf' => ?_⟩ (X.keeps st) (T.keeps st) hb.X hb.T (fun b o e => of_hideAll _ e) (hideAll_size _ _) hl.1 (hideAll_none _ (.head _)) hd hu h
  cases he with
  | head => exact nL ((Option.some.inj (hf.symm.trans hf') : L = b) ▸ hb')
  | tail _ he =>
    obtain ⟨L₁, o₁, hf₁, ho₁⟩ := funFrames_in B.frames env' he
    rw [hf₁] at hf'
    exact nm L₁ o₁ ho₁ ((Option.some.inj hf' : L₁ = b) ▸ hb')
end
/-- the first pair, drawn -/
inductive PairOk (h₀ : Heap) (L sl : Addr) (h : Heap) : Value → Prop
  | mk (pr : Addr) (pa pb : Int) (ta tb : Tok) (hpr : News h₀ L h [(pr, { cls := .type "tuple", data := .seq #[.int pa ta, .int pb tb] })]) (hs : @Ne Nat pr sl) (h1 : pa % 16 = 8) (h2 : (256 * pa + pb) % 31 = 0) (h3 : Builtin.bitAnd pb 32 = 0)
    (h4 : 0 ≤ pa ∧ pa < 256) (h5 : 0 ≤ pb ∧ pb < 256) : PairOk h₀ L sl h (.ref pr)
/-- what stands beside the data, drawn -/
inductive MoreOk (own : List (Addr × Obj)) : Value → Prop
  | mk (mo a0 a1 : Addr) (v0 v1 : List Value) (c0 c1 : Nat) (k0 k1 : List (Str × List Int)) (hm : (mo, { cls := .type "tuple", data := .seq #[.ref a0, .ref a1] }) ∈ own) (h0 : (a0, listOf v0.toArray c0) ∈ own) (h1 : (a1, listOf v1.toArray c1) ∈ own)
    (i0 : IntsAre v0 (chunksI k0)) (i1 : IntsAre v1 (chunksI k1)) (hb : Beside k0 k1) : MoreOk own (.ref mo)
structure LawS where
  ls : List Int
  vl : List Value
  nl : Nat
  so : Obj
  rs : List RwR
  rn : Nat
  dl : Addr
  dv : List Value
  dc : Nat
  al : Addr
  av : List Value
  ac : Nat
  ob : Obj
  osp : Obj
  obg : Obj
  ks : List Int
  rws : List (List Int)
def LawS.led (L sl LL R : Addr) (c : LawS) : List (Addr × Obj) :=
  [(LL, listOf c.vl.toArray c.nl), (R, listOf (c.rs.map fun t => Value.ref t.row).toArray c.rn), (c.dl, listOf c.dv.toArray c.dc), (c.al, listOf c.av.toArray c.ac), (sl, c.so), (L + 1 + 1 + 1, c.ob), (L + 1 + 1, c.osp), (L + 1, c.obg)] ++ rwL c.rs
structure LawS.Ok (adr : List Addr) (c : LawS) : Prop where
  hl : IntsAre c.vl c.ls
  hn : c.ls.length + c.rws.length = 5
  hk : c.ks.length = c.rws.length
  h4 : ∀ k ∈ c.ls, 0 ≤ k ∧ k ≤ 4
  hks : ∀ k ∈ c.ks, 0 ≤ k ∧ k ≤ 4
  hr : ∀ r ∈ c.rws, r.length = 8 ∧ OkB r
  hd : IntsAre c.dv (dataI c.ks c.rws)
  ha : IntsAre c.av (aboveI c.rws c.rws.length)
  hrs : RowsAre c.rs c.rws
  hs : Src c.so
  hb : ∃ v, c.ob.data = .cell v
  hsp : ∃ v, c.osp.data = .cell v
  hbg : ∃ v, c.obg.data = .cell v
  ld : ∀ x ∈ adr, @Ne Nat c.dl x
  la : ∀ x ∈ adr, @Ne Nat c.al x
  lr : OwnOff (rwL c.rs) adr
section
variable {prog : Program} {w : World} {p : Program} {loose : List Str} {mean : ExcName → Option Value} {mg mb : Str → Option Value}
set_option maxHeartbeats 8000000 in
theorem law_walk (dp un : Nat) (gd : Option (List Code)) (base : Heap) (s : Shared) (Q E : Value → Shared → Prop) (l : Addr) (vs : List Value) (ns : List Int) (hi : IntsAre vs ns) (hz : ns.length ≤ 63)
    (B : Below (topA dp un gd []) base [] s.heap) (X : (Mine.hd.heap_1 w.params).In s.heap) (T : Top p loose mean mg mb s.heap) (hb : AtBase w p loose mean mg mb base)
    (hl : s.heap.IsList l vs.toArray) (hd : dp + 20 < recursionLimit) (hu : un + 300 < cLine)
    (hret : ∀ s', base.StaysIn s'.heap → s'.gens = s.gens → s'.os = s.os → Q (.bool true) s') :
    wpC (model prog w) (topA dp un gd []) (call (.ref 213) [.ref l]) Q E s := by
  have stay : s.heap.StaysIn s.heap := fun _ _ e => e
  have same : s.heap.objs.size = s.heap.objs.size := rfl
  with_unfolding_all refine' enterXCN [] ?k1 ?k2 ?k2b ?k2c ?k2d ?k3 ?k4 ?k5 ?k6 ?k7 ?k8 ?_ ?c1 ?c2 ?c3
  (((case k1 => assumption); (case k2 => assumption); (try ((case k2b => assumption); (case k2c => assumption); (case k2d => first | exact List.forall_mem_nil _ | (intro q hq; cases List.mem_singleton.mp hq; exact And.intro (by assumption) (by assumption))))); (case k3 => k_is); (case k4 => k_is); (case k5 => omega); (case k6 => first | exact rfl | exact binds_K (by assumption) rfl (by k_is) rfl rfl rfl); (case k7 => first | exact locs rfl | exact rfl); (case c1 => exact rfl); (case c2 => exact rfl); (case c3 => exact rfl); (try (case c4 => decide))); (case k8 => decide +kernel); walk_at "mine cells"; (try dsimp only); (try ((first | refine fold_env ?_ | refine fold_envC ?_); intro M₉ A₉ e₉ g₉ d₉ o₉)); (try k_fold))
  rename_i L h1 tk1 F0 l1 ob osp obg d1 d2 d3 N0
  replace d1 : ob.data = .cell none := d1
  replace d2 : osp.data = .cell none := d2
  replace d3 : obg.data = .cell none := d3
  replace F0 : Fr s.heap L h1 (fun y => if y = Str.ofString "script" then some (.ref l) else none) := F0
  refine wpC_execs_consA ?_
  ((try k_fold); repeat' (first | (k_unfold; (try dsimp only)) | ((fail_if_success (with_reducible (first | show wpAny _ _ (exec (.For _ _ _ _ _) _) _ _ _ | show wpAny _ _ (exec (.While _ _ _ _) _) _ _ _ | show wpAny _ _ (pyIter _) _ _ _ | show wpAny _ _ (call (.type "zip") _) _ _ _ | show wpAny _ _ (call (.type "enumerate") _) _ _ _ | show wpAny _ _ (eval (.ListComp _ _ _ _) _) _ _ _ | show wpAny _ _ (exec (.Assign _ (.ListComp _ _ _ _) _) _) _ _ _))); walk1; (try dsimp only))))
  refine Spec.use (pool_spec l vs ns _ hi hz) (by assumption) (by assumption) (by assumption) N0 (by assumption) rfl rfl rfl (by walk_at "mine room") (by walk_at "mine room") (hl.at fun o e => F0.keep _ o e) ?_
  intro v h2 tk2 F2 N2 _ _ hrx7
  obtain ⟨sl, so, rfl, hso, lso, hsrc⟩ := hrx7
  have N3 : News s.heap L h2 ([(sl, so)] ++ [(L + 1 + 1 + 1, ob), (L + 1 + 1, osp), (L + 1, obg)]) := news_more F0 N2 fun q hq => by rw [List.mem_singleton.mp hq]; exact ⟨hso, lso⟩
  replace N3 : News s.heap L h2 [(sl, so), (L + 1 + 1 + 1, ob), (L + 1 + 1, osp), (L + 1, obg)] := N3
  have lsl3 := Nat.lt_of_lt_of_le (Heap.lt_size (N0 _ (.head _)).1) lso
  have lsl := And.intro lsl3 (And.intro (Nat.lt_of_succ_lt lsl3) (Nat.lt_of_succ_lt (Nat.lt_of_succ_lt lsl3)))
  clear lsl3
  dsimp only at lsl
  clear N2 N0
  ((try k_fold); repeat' (first | (k_unfold; (try dsimp only)) | ((fail_if_success (with_reducible (first | show wpAny _ _ (exec (.For _ _ _ _ _) _) _ _ _ | show wpAny _ _ (exec (.While _ _ _ _) _) _ _ _ | show wpAny _ _ (pyIter _) _ _ _ | show wpAny _ _ (call (.type "zip") _) _ _ _ | show wpAny _ _ (call (.type "enumerate") _) _ _ _ | show wpAny _ _ (eval (.ListComp _ _ _ _) _) _ _ _ | show wpAny _ _ (exec (.Assign _ (.ListComp _ _ _ _) _) _) _ _ _))); walk1; (try dsimp only))))
  rename_i LL h3 g3 l3 R h4 g4 l4 dl h5 g5 l5 zl h6 g6 l6 al h7 i7 n7 s7 e7 e7a e7b l7 T7 h8 l8 h9 h10 h11 h12 h13 h14 F N
  refine wpC_execs_consA ?_
  refine whileR (σ := LawS) (LawS.led L sl LL R) (fun c => [(Str.ofString "source", .ref sl), (Str.ofString "left", .ref LL), (Str.ofString "rows", .ref R), (Str.ofString "data", .ref c.dl), (Str.ofString "above", .ref c.al), (Str.ofString "script", .ref l)])
    (LawS.Ok [R, LL, sl, L + 1 + 1 + 1, L + 1 + 1, L + 1]) (fun c => c.ls.length) ⟨[0, 1, 2, 3, 4], [.int 0 tk2, .int 1 (tk2 + 1), .int 2 (tk2 + 1 + 1), .int 3 (tk2 + 1 + 1 + 1), .int 4 (tk2 + 1 + 1 + 1 + 1)], 0, so, [], 0, dl, [], 0, al, (List.replicate (Int.toNat 8) [Value.int 0 (tk2 + 1 + 1 + 1 + 1 + 1)]).flatten, 0, ob, osp, obg, [], []⟩ F (news_le N ?_) (by (repeat (first | exact List.forall_mem_nil _ | refine List.forall_mem_cons.mpr ⟨by first | rfl | assumption, ?_⟩))) ?_ ?_
  · dsimp only [LawS.led, rwL, List.flatMap_nil, List.map_nil, List.cons_append, List.nil_append]
    walk_at "mine sub"
  · refine ⟨.cons _ _ (.cons _ _ (.cons _ _ (.cons _ _ (.cons _ _ .nil)))), rfl, rfl, (show ∀ k ∈ ([0, 1, 2, 3, 4] : List Int), 0 ≤ k ∧ k ≤ 4 by decide), (fun _ h => (List.not_mem_nil h).elim), (fun _ h => (List.not_mem_nil h).elim), .nil, i7, .nil, hsrc, ⟨_, d1⟩, ⟨_, d2⟩, ⟨_, d3⟩, ?_, ?_, (fun _ h => (List.not_mem_nil h).elim)⟩
    · walk_at "mine ne"
    · walk_at "mine ne"
  · intro hrx0 u h tk hrx4 F' N'
    obtain ⟨ls, vl, nl, sob, rs, rn, dl', dv, dc, al', av, ac, ob', osp', obg', ks, rws⟩ := hrx0
    obtain ⟨hl', hn', hk', h4', hks', hr', hd', ha', hrs', hs', ⟨vb, hb'⟩, ⟨vsp, hsp'⟩, ⟨vbg, hbg'⟩, ld', la', lr'⟩ := hrx4
    clear F N
    dsimp only [LawS.led] at F' N' hl' hn' hk' h4' hks' hr' hd' ha' hrs' hs' hb' hsp' hbg' ld' la' lr' ⊢
    have hrn := hrs'.length
    obtain ⟨big, hbig⟩ : ∃ big, big = rwL rs := ⟨_, rfl⟩
    rw [← hbig] at N' lr'
    simp only [List.cons_append, List.nil_append] at N'
    have hoff : OwnOff big [R, LL, sl, L + 1 + 1 + 1, L + 1 + 1, L + 1] := lr'
    have hlz : ls.length ≤ 1000 := by omega
    have ho1 : @Ne Nat dl' R ∧ @Ne Nat dl' LL ∧ @Ne Nat dl' sl ∧ @Ne Nat dl' (L + 1 + 1 + 1) ∧ @Ne Nat dl' (L + 1 + 1) ∧ @Ne Nat dl' (L + 1) := ⟨ld' _ (.head _), ld' _ (.tail _ (.head _)), ld' _ (.tail _ (.tail _ (.head _))), ld' _ (.tail _ (.tail _ (.tail _ (.head _)))), ld' _ (.tail _ (.tail _ (.tail _ (.tail _ (.head _))))), ld' _ (.tail _ (.tail _ (.tail _ (.tail _ (.tail _ (.head _))))))⟩
    have ho2 : @Ne Nat al' R ∧ @Ne Nat al' LL ∧ @Ne Nat al' sl ∧ @Ne Nat al' (L + 1 + 1 + 1) ∧ @Ne Nat al' (L + 1 + 1) ∧ @Ne Nat al' (L + 1) := ⟨la' _ (.head _), la' _ (.tail _ (.head _)), la' _ (.tail _ (.tail _ (.head _))), la' _ (.tail _ (.tail _ (.tail _ (.head _)))), la' _ (.tail _ (.tail _ (.tail _ (.tail _ (.head _))))), la' _ (.tail _ (.tail _ (.tail _ (.tail _ (.tail _ (.head _))))))⟩
    clear l8 i7 s7 e7 e7a e7b l5 l6 l7 d1 d2 d3
    walk_at "mine in"
    rename Fr _ _ _ _ => F9
    rename News _ _ _ _ => N9
    replace F9 : Fr s.heap L h _ := F9
    replace N9 : News s.heap L h _ := N9
    ((try k_fold); repeat' (first | (k_unfold; (try dsimp only)) | ((fail_if_success (with_reducible (first | show wpAny _ _ (exec (.For _ _ _ _ _) _) _ _ _ | show wpAny _ _ (exec (.While _ _ _ _) _) _ _ _ | show wpAny _ _ (pyIter _) _ _ _ | show wpAny _ _ (call (.type "zip") _) _ _ _ | show wpAny _ _ (call (.type "enumerate") _) _ _ _ | show wpAny _ _ (eval (.ListComp _ _ _ _) _) _ _ _ | show wpAny _ _ (exec (.Assign _ (.ListComp _ _ _ _) _) _) _ _ _))); walk1; (try dsimp only))))
    · rename decide (ls = []) = true => hnil
      have hnil' : ls = [] := of_decide_eq_true hnil
      subst hnil'
      have hrl : rws.length = 5 := by simpa using hn'
      have hdl9 := data_length ks fun r hr => (hr' r hr).1
      obtain ⟨own0, ho0⟩ : ∃ own : List (Addr × Obj), own = (R, listOf (rs.map fun t => Value.ref t.row).toArray rn) :: (dl', listOf dv.toArray dc) :: big := ⟨_, rfl⟩
      rename News _ _ _ _ => N7
      have N8 := news_le (l' := (sl, sob) :: own0) N7 (by rw [ho0]; walk_at "mine sub")
      have hof0 : OwnOff own0 [sl] := by
        rw [ho0]
        refine List.forall_mem_cons.mpr ⟨?_, List.forall_mem_cons.mpr ⟨?_, fun q hq x hx => ?_⟩⟩
        · show ∀ x ∈ _, @Ne Nat R x
          walk_at "mine ne"
        · show ∀ x ∈ _, @Ne Nat dl' x
          walk_at "mine ne"
        · rw [List.mem_singleton.mp hx]; exact hoff q hq _ (.tail _ (.tail _ (.head _)))
      have mR0 : (R, listOf (rs.map fun t => Value.ref t.row).toArray rn) ∈ own0 := by rw [ho0]; exact .head _
      have mdl0 : (dl', listOf dv.toArray dc) ∈ own0 := by rw [ho0]; exact .tail _ (.head _)
      have mbig0 : ∀ q ∈ rwL rs, q ∈ own0 := fun q hq => by rw [ho0, hbig]; exact .tail _ (.tail _ hq)
      clear N7 ho0
      (refine wpC_execs_consA ?_; ((try k_fold); repeat' (first | (k_unfold; (try dsimp only)) | ((fail_if_success (with_reducible (first | show wpAny _ _ (exec (.For _ _ _ _ _) _) _ _ _ | show wpAny _ _ (exec (.While _ _ _ _) _) _ _ _ | show wpAny _ _ (pyIter _) _ _ _ | show wpAny _ _ (call (.type "zip") _) _ _ _ | show wpAny _ _ (call (.type "enumerate") _) _ _ _ | show wpAny _ _ (eval (.ListComp _ _ _ _) _) _ _ _ | show wpAny _ _ (exec (.Assign _ (.ListComp _ _ _ _) _) _) _ _ _))); walk1; (try dsimp only)))); all_goals (try dsimp only))
      (refine' use_one (h := ?_))
      rename_i P1 ha1 la1 P2 ha2 la2 P3 ha3 la3 P4 ha4 la4 P5 ha5 la5 l9 ha6 F9a N9a le lf
      intro g' v' h' tk' o' F' N' sz' gz' po'
      obtain ⟨⟨kk, hv'⟩, so'⟩ := po'
      clear sz' gz'
      (try dsimp only at N')
      obtain ⟨pr, pa, pb, ta, tb, hpr, hprs, hp1, hp2, hp3, hp4, hp5⟩ : PairOk s.heap L sl h' v' := by
        rcases one_of_refs5 hv' with rfl | rfl | rfl | rfl | rfl
        all_goals refine' .mk _ _ _ _ _ (news_one N' (by k_mem)) (by omega) ?_ ?_ ?_ ?_ ?_
        all_goals first
          | decide
          | decide +kernel
      have hls : News s.heap L h' [(sl, o')] := fun q hq => N' q (by rw [List.mem_singleton.mp hq]; k_mem)
      obtain ⟨own1, ho1'⟩ : ∃ own : List (Addr × Obj), own = (pr, { cls := .type "tuple", data := .seq #[.int pa ta, .int pb tb] }) :: own0 := ⟨_, rfl⟩
      have N1 : News s.heap L h' ((sl, o') :: own1) := by
        rw [ho1']
        exact news_cons (news_cons (news_le N' (by walk_at "mine sub")) hpr) hls
      have hof1 : OwnOff own1 [sl] := by
        rw [ho1']
        exact List.forall_mem_cons.mpr ⟨fun x hx => by rw [List.mem_singleton.mp hx]; exact hprs, hof0⟩
      have mpr : (pr, { cls := .type "tuple", data := .seq #[.int pa ta, .int pb tb] }) ∈ own1 := by rw [ho1']; exact .head _
      have mR : (R, listOf (rs.map fun t => Value.ref t.row).toArray rn) ∈ own1 := by rw [ho1']; exact .tail _ mR0
      have mdl : (dl', listOf dv.toArray dc) ∈ own1 := by rw [ho1']; exact .tail _ mdl0
      have mbig : ∀ q ∈ rwL rs, q ∈ own1 := fun q hq => by rw [ho1']; exact .tail _ (mbig0 q hq)
      clear mR0 mdl0 mbig0 hof0
      clear N' hpr hls N9a F9a hv'
      clear ho1'
      ((try k_fold); repeat' (first | (k_unfold; (try dsimp only)) | ((fail_if_success (with_reducible (first | show wpAny _ _ (exec (.For _ _ _ _ _) _) _ _ _ | show wpAny _ _ (exec (.While _ _ _ _) _) _ _ _ | show wpAny _ _ (pyIter _) _ _ _ | show wpAny _ _ (call (.type "zip") _) _ _ _ | show wpAny _ _ (call (.type "enumerate") _) _ _ _ | show wpAny _ _ (eval (.ListComp _ _ _ _) _) _ _ _ | show wpAny _ _ (exec (.Assign _ (.ListComp _ _ _ _) _) _) _ _ _))); walk1; (try dsimp only))))
      (refine wpC_execs_consA ?_; ((try k_fold); repeat' (first | (k_unfold; (try dsimp only)) | ((fail_if_success (with_reducible (first | show wpAny _ _ (exec (.For _ _ _ _ _) _) _ _ _ | show wpAny _ _ (exec (.While _ _ _ _) _) _ _ _ | show wpAny _ _ (pyIter _) _ _ _ | show wpAny _ _ (call (.type "zip") _) _ _ _ | show wpAny _ _ (call (.type "enumerate") _) _ _ _ | show wpAny _ _ (eval (.ListComp _ _ _ _) _) _ _ _ | show wpAny _ _ (exec (.Assign _ (.ListComp _ _ _ _) _) _) _ _ _))); walk1; (try dsimp only)))); all_goals (try dsimp only))
      rename Fr _ _ _ _ => F2
      rename News _ _ _ _ => N2
      refine SpecM.use (cut_spec sl o' dl' dv _ so' hd' (by omega)) (by assumption) F2 (by assumption) N2 (by k_updF) (by assumption) rfl rfl rfl (by walk_at "mine room") (by walk_at "mine room") (fun h st N9 => News.isList N9 (List.mem_filter.mpr (And.intro (.tail _ mdl) (bne_iff_ne.mpr (hof1 _ mdl _ (.head _)))))) ?_
      intro g3 v h3 tk3 o3 F3 N3 sz3 gz3 hrx9
      obtain ⟨so3, pss, lr, cr, ts, hlr, hlr0, hts, htp, hfl, hpn⟩ := hrx9
      have N4 := news_more F2 N3 (l := (lr, listOf (ts.map fun t => Value.ref t.1).toArray cr) :: ts.map fun t => (t.1, listOf t.2.1.toArray 0)) (fun q hq => by
        rcases List.mem_cons.mp hq with rfl | hq
        · exact ⟨hlr, gz3 ▸ hlr0⟩
        · obtain ⟨t, ht, rfl⟩ := List.mem_map.mp hq
          exact ⟨(hts t ht).1, gz3 ▸ (hts t ht).2.1⟩)
      have hslt : @LT.lt Nat instLTNat sl _ := Heap.lt_size (N2 _ (.head _)).1
      obtain ⟨own2, N5, hof2, mo2, ml2⟩ := own_app N4 (fun q hq => by
        rcases List.mem_cons.mp hq with rfl | hq
        · exact Nat.ne_of_gt (Nat.lt_of_lt_of_le hslt (gz3 ▸ hlr0))
        · obtain ⟨t, ht, rfl⟩ := List.mem_map.mp hq
          exact Nat.ne_of_gt (Nat.lt_of_lt_of_le hslt (gz3 ▸ (hts t ht).2.1))) hof1
      have mts2 : ∀ t ∈ ts, (t.1, listOf t.2.1.toArray 0) ∈ own2 := fun t ht => ml2 _ (.tail _ (List.mem_map.mpr ⟨t, ht, rfl⟩))
      have mlr2 := ml2 _ (.head _)
      have hIts : ∀ t ∈ ts, IntsAre t.2.1 t.2.2 := fun t ht => (hts t ht).2.2
      have htn : ts.length = pss.length := by rw [← htp, List.length_map]
      clear N4 N3 N2 F2 ml2 hslt hlr hts
      ((try k_fold); repeat' (first | (k_unfold; (try dsimp only)) | ((fail_if_success (with_reducible (first | show wpAny _ _ (exec (.For _ _ _ _ _) _) _ _ _ | show wpAny _ _ (exec (.While _ _ _ _) _) _ _ _ | show wpAny _ _ (pyIter _) _ _ _ | show wpAny _ _ (call (.type "zip") _) _ _ _ | show wpAny _ _ (call (.type "enumerate") _) _ _ _ | show wpAny _ _ (eval (.ListComp _ _ _ _) _) _ _ _ | show wpAny _ _ (exec (.Assign _ (.ListComp _ _ _ _) _) _) _ _ _))); walk1; (try dsimp only))))
      have hdok : OkB (dataI ks rws) := data_ok hks' hr'
      refine Spec.useInts (stream_spec pr lr pa pb ta tb ts hIts (by rw [htp, hfl]; omega) (by omega) (fun t ht n hn => hdok n (by rw [← hfl, ← htp]; exact List.mem_flatten.mpr ⟨_, List.mem_map.mpr ⟨t, ht, rfl⟩, hn⟩))) (by assumption) F3 (by assumption) N5 (by assumption) rfl rfl rfl (by walk_at "mine room") (by walk_at "mine room")
        ⟨News.isTup N5 (.tail _ (mo2 _ mpr)), News.isList N5 (.tail _ mlr2), fun t ht => News.isList N5 (.tail _ (mts2 t ht))⟩ ?_
      intro ls2 vst cst h6 tk6 F6 N6 lt6 ge6 hI6
      rw [htp] at hI6
      have hsn : (streamI pa pb pss).length ≤ 100 := by
        have := blocks_length pss pss.length (Nat.le_refl _)
        rw [List.take_length] at this
        rw [stream_length, this, hfl]
        omega
      have l6s : @LT.lt Nat instLTNat sl ls2 := lt6 (sl, o3) (.head _)
      obtain ⟨own3, N7, hof3, mo3, ml3⟩ := own_app (pre := [(ls2, _)]) N6 (fun q hq => by rw [List.mem_singleton.mp hq]; exact Nat.ne_of_gt l6s) hof2
      have mls3 := ml3 _ (.head _)
      clear N6 N5 F3 lt6 ml3
      ((try k_fold); repeat' (first | (k_unfold; (try dsimp only)) | ((fail_if_success (with_reducible (first | show wpAny _ _ (exec (.For _ _ _ _ _) _) _ _ _ | show wpAny _ _ (exec (.While _ _ _ _) _) _ _ _ | show wpAny _ _ (pyIter _) _ _ _ | show wpAny _ _ (call (.type "zip") _) _ _ _ | show wpAny _ _ (call (.type "enumerate") _) _ _ _ | show wpAny _ _ (eval (.ListComp _ _ _ _) _) _ _ _ | show wpAny _ _ (exec (.Assign _ (.ListComp _ _ _ _) _) _) _ _ _))); walk1; (try dsimp only))))
      refine SpecM.use (cut_spec sl o3 ls2 vst _ so3 hI6 (by omega)) (by assumption) F6 (by assumption) N7 (by k_updF) (by assumption) rfl rfl rfl (by walk_at "mine room") (by walk_at "mine room") (fun h st N9 => News.isList N9 (List.mem_filter.mpr (And.intro (.tail _ mls3) (bne_iff_ne.mpr (hof3 _ mls3 _ (.head _)))))) ?_
      intro g8 v h8x tk8 o8 F8 N8 sz8 gz8 hrx9
      obtain ⟨so8, qss, lq, cq, us, hlq, hlq0, hus, huq, hfq, hqn⟩ := hrx9
      have N9 := news_more F6 N8 (l := (lq, listOf (us.map fun t => Value.ref t.1).toArray cq) :: us.map fun t => (t.1, listOf t.2.1.toArray 0)) (fun q hq => by
        rcases List.mem_cons.mp hq with rfl | hq
        · exact ⟨hlq, gz8 ▸ hlq0⟩
        · obtain ⟨t, ht, rfl⟩ := List.mem_map.mp hq
          exact ⟨(hus t ht).1, gz8 ▸ (hus t ht).2.1⟩)
      have hslt : @LT.lt Nat instLTNat sl _ := Heap.lt_size (N7 _ (.head _)).1
      obtain ⟨own4, NA, hof4, mo4, ml4⟩ := own_app N9 (fun q hq => by
        rcases List.mem_cons.mp hq with rfl | hq
        · exact Nat.ne_of_gt (Nat.lt_of_lt_of_le hslt (gz8 ▸ hlq0))
        · obtain ⟨t, ht, rfl⟩ := List.mem_map.mp hq
          exact Nat.ne_of_gt (Nat.lt_of_lt_of_le hslt (gz8 ▸ (hus t ht).2.1))) hof3
      have mus4 : ∀ t ∈ us, (t.1, listOf t.2.1.toArray 0) ∈ own4 := fun t ht => ml4 _ (.tail _ (List.mem_map.mpr ⟨t, ht, rfl⟩))
      have mlq4 := ml4 _ (.head _)
      have hIus : ∀ t ∈ us, IntsAre t.2.1 t.2.2 := fun t ht => (hus t ht).2.2
      have hun : us.length = qss.length := by rw [← huq, List.length_map]
      have mR4 := mo4 _ (mo3 _ (mo2 _ mR))
      have mbig4 : ∀ q ∈ rwL rs, q ∈ own4 := fun q hq => mo4 _ (mo3 _ (mo2 _ (mbig q hq)))
      clear N9 N8 N7 F6 ml4 hslt hlq hus mts2 mlr2 mo2 mo3 mo4 mls3 mpr mR mdl mbig hof1 hof2 hof3
      ((try k_fold); repeat' (first | (k_unfold; (try dsimp only)) | ((fail_if_success (with_reducible (first | show wpAny _ _ (exec (.For _ _ _ _ _) _) _ _ _ | show wpAny _ _ (exec (.While _ _ _ _) _) _ _ _ | show wpAny _ _ (pyIter _) _ _ _ | show wpAny _ _ (call (.type "zip") _) _ _ _ | show wpAny _ _ (call (.type "enumerate") _) _ _ _ | show wpAny _ _ (eval (.ListComp _ _ _ _) _) _ _ _ | show wpAny _ _ (exec (.Assign _ (.ListComp _ _ _ _) _) _) _ _ _))); walk1; (try dsimp only))))
      (refine wpC_execs_consA ?_; ((try k_fold); repeat' (first | (k_unfold; (try dsimp only)) | ((fail_if_success (with_reducible (first | show wpAny _ _ (exec (.For _ _ _ _ _) _) _ _ _ | show wpAny _ _ (exec (.While _ _ _ _) _) _ _ _ | show wpAny _ _ (pyIter _) _ _ _ | show wpAny _ _ (call (.type "zip") _) _ _ _ | show wpAny _ _ (call (.type "enumerate") _) _ _ _ | show wpAny _ _ (eval (.ListComp _ _ _ _) _) _ _ _ | show wpAny _ _ (exec (.Assign _ (.ListComp _ _ _ _) _) _) _ _ _))); walk1; (try dsimp only)))); all_goals (try dsimp only))
      rename Fr _ _ _ _ => FB
      rename News _ _ _ _ => NB
      refine Spec.useInts (chunk_spec (Str.ofString "tEXt") _ _ _ [65, 0, 66] (by decide +kernel) (by decide +kernel) (.cons _ _ (.cons _ _ (.cons _ _ .nil))) (by decide) (by decide)) (by assumption) FB (by assumption) NB (by assumption) rfl rfl rfl (by walk_at "mine room") (by walk_at "mine room") (News.isList NB (.head _)) ?_
      intro oc9 voc coc hC9 tkC9 FC NC ltC geC hIC
      have lCs : @LT.lt Nat instLTNat sl oc9 := ltC (sl, o8) (.tail _ (.head _))
      obtain ⟨own5, ND, hof5, mo5, ml5⟩ := own_app (pre := [(oc9, _), (_, _)]) NC (fun q hq => by
        rcases List.mem_cons.mp hq with rfl | hq
        · exact Nat.ne_of_gt lCs
        · rw [List.mem_singleton.mp hq]; show @Ne Nat _ sl; omega) hof4
      have moc5 := ml5 _ (.head _)
      have mus5 : ∀ t ∈ us, (t.1, listOf t.2.1.toArray 0) ∈ own5 := fun t ht => mo5 _ (mus4 t ht)
      have mlq5 := mo5 _ mlq4
      have mR5 := mo5 _ mR4
      have mbig5 : ∀ q ∈ rwL rs, q ∈ own5 := fun q hq => mo5 _ (mbig4 q hq)
      clear NC NB FB ltC ml5 mo5 mus4 mlq4 mR4 mbig4 hof4
      ((try k_fold); repeat' (first | (k_unfold; (try dsimp only)) | ((fail_if_success (with_reducible (first | show wpAny _ _ (exec (.For _ _ _ _ _) _) _ _ _ | show wpAny _ _ (exec (.While _ _ _ _) _) _ _ _ | show wpAny _ _ (pyIter _) _ _ _ | show wpAny _ _ (call (.type "zip") _) _ _ _ | show wpAny _ _ (call (.type "enumerate") _) _ _ _ | show wpAny _ _ (eval (.ListComp _ _ _ _) _) _ _ _ | show wpAny _ _ (exec (.Assign _ (.ListComp _ _ _ _) _) _) _ _ _))); walk1; (try dsimp only))))
      (refine wpC_execs_consA ?_; ((try k_fold); repeat' (first | (k_unfold; (try dsimp only)) | ((fail_if_success (with_reducible (first | show wpAny _ _ (exec (.For _ _ _ _ _) _) _ _ _ | show wpAny _ _ (exec (.While _ _ _ _) _) _ _ _ | show wpAny _ _ (pyIter _) _ _ _ | show wpAny _ _ (call (.type "zip") _) _ _ _ | show wpAny _ _ (call (.type "enumerate") _) _ _ _ | show wpAny _ _ (eval (.ListComp _ _ _ _) _) _ _ _ | show wpAny _ _ (exec (.Assign _ (.ListComp _ _ _ _) _) _) _ _ _))); walk1; (try dsimp only)))); all_goals (try dsimp only))
      (refine' use_one (h := ?_))
      rename_i e1 hb1 lb1 mb1 e2 hb2 lb2 mb2 T1 hb3 mb3 e3 hb4 lb4 mb4 T2 hb5 mb5 e4 hb6 lb6 mb6 T3 hb7 mb7 l9 hb8 F9a N9a lb8 mb8
      intro g' v' h' tk' o' F' N' sz' gz' po'
      obtain ⟨⟨kk, hv'⟩, so'⟩ := po'
      clear sz' gz'
      (try dsimp only at N')
      obtain ⟨own6, NE, hof6, mo6, ml6⟩ := own_app (pre := [(l9, _), (T3, _), (e4, _), (T2, _), (e3, _), (T1, _), (e2, _), (e1, _)]) N' (fun q hq => by
        simp only [List.mem_cons, List.not_mem_nil, or_false] at hq
        rcases hq with rfl | rfl | rfl | rfl | rfl | rfl | rfl | rfl
        · show @Ne Nat l9 sl; omega
        · show @Ne Nat T3 sl; omega
        · show @Ne Nat e4 sl; omega
        · show @Ne Nat T2 sl; omega
        · show @Ne Nat e3 sl; omega
        · show @Ne Nat T1 sl; omega
        · show @Ne Nat e2 sl; omega
        · show @Ne Nat e1 sl; omega) hof5
      obtain ⟨mo, a0, a1, v0, v1, c0, c1, k0, k1, mmo, ma0, ma1, hv0, hv1, hbs⟩ : MoreOk own6 v' := by
        have hIC' : IntsAre voc (chunksI [txI]) := by
          unfold chunksI
          simpa using hIC
        rcases one_of_refs3 hv' with rfl | rfl | rfl
        · exact ⟨T1, e1, e2, [], [], 0, 0, [], [], ml6 _ (by k_mem), ml6 _ (by k_mem), ml6 _ (by k_mem), .nil, .nil, .none⟩
        · exact ⟨T2, oc9, e3, voc, [], coc, 0, [txI], [], ml6 _ (by k_mem), mo6 _ moc5, ml6 _ (by k_mem), hIC', .nil, .ahead⟩
        · exact ⟨T3, e4, oc9, [], voc, 0, coc, [], [txI], ml6 _ (by k_mem), ml6 _ (by k_mem), mo6 _ moc5, .nil, hIC', .behind⟩
      have mus6 : ∀ t ∈ us, (t.1, listOf t.2.1.toArray 0) ∈ own6 := fun t ht => mo6 _ (mus5 t ht)
      have mlq6 := mo6 _ mlq5
      have mR6 := mo6 _ mR5
      have mbig6 : ∀ q ∈ rwL rs, q ∈ own6 := fun q hq => mo6 _ (mbig5 q hq)
      clear N' N9a F9a hv' ml6 mo6 mus5 mlq5 mR5 mbig5 hof5 moc5
      ((try k_fold); repeat' (first | (k_unfold; (try dsimp only)) | ((fail_if_success (with_reducible (first | show wpAny _ _ (exec (.For _ _ _ _ _) _) _ _ _ | show wpAny _ _ (exec (.While _ _ _ _) _) _ _ _ | show wpAny _ _ (pyIter _) _ _ _ | show wpAny _ _ (call (.type "zip") _) _ _ _ | show wpAny _ _ (call (.type "enumerate") _) _ _ _ | show wpAny _ _ (eval (.ListComp _ _ _ _) _) _ _ _ | show wpAny _ _ (exec (.Assign _ (.ListComp _ _ _ _) _) _) _ _ _))); walk1; (try dsimp only))))
      refine wpC_execs_cons (wpC_Return_some (wpC_And2 (wpC_Compare1 (wpC_Call_Name ?_))))
      ((try k_fold); repeat' (first | (k_unfold; (try dsimp only)) | ((fail_if_success (with_reducible (first | show wpAny _ _ (exec (.For _ _ _ _ _) _) _ _ _ | show wpAny _ _ (exec (.While _ _ _ _) _) _ _ _ | show wpAny _ _ (pyIter _) _ _ _ | show wpAny _ _ (call (.type "zip") _) _ _ _ | show wpAny _ _ (call (.type "enumerate") _) _ _ _ | show wpAny _ _ (eval (.ListComp _ _ _ _) _) _ _ _ | show wpAny _ _ (exec (.Assign _ (.ListComp _ _ _ _) _) _) _ _ _))); walk1; (try dsimp only))))
      (refine callWith_KC (by assumption) (by k_is) ?_)
      ((try k_fold); repeat' (first | (k_unfold; (try dsimp only)) | ((fail_if_success (with_reducible (first | show wpAny _ _ (exec (.For _ _ _ _ _) _) _ _ _ | show wpAny _ _ (exec (.While _ _ _ _) _) _ _ _ | show wpAny _ _ (pyIter _) _ _ _ | show wpAny _ _ (call (.type "zip") _) _ _ _ | show wpAny _ _ (call (.type "enumerate") _) _ _ _ | show wpAny _ _ (eval (.ListComp _ _ _ _) _) _ _ _ | show wpAny _ _ (exec (.Assign _ (.ListComp _ _ _ _) _) _) _ _ _))); walk1; (try dsimp only))))
      rename Fr _ _ _ _ => FP
      rename News _ _ _ _ => NP
      obtain ⟨⟨bk0, bz0⟩, bk1, bz1⟩ := beside_ok hbs
      have hsok : OkB (streamI pa pb pss) := stream_ok hp4 hp5 (by rw [hfl]; exact data_ok hks' hr') (by rw [hfl]; omega)
      have hqok : OkB qss.flatten := by rw [hfq]; exact hsok
      have hqz : qss.flatten.length ≤ 100 := by rw [hfq]; exact hsn
      have huss : ∀ t ∈ us, OkB t.2.2 ∧ t.2.2.length ≤ 100 := fun t ht => by
        have hm : t.2.2 ∈ qss := huq ▸ List.mem_map.mpr ⟨t, ht, rfl⟩
        exact ⟨fun n hn => hqok n (List.mem_flatten.mpr ⟨_, hm, hn⟩), Nat.le_trans (flat_le hm) hqz⟩
      refine Spec.use (picture_spec 2 5 _ _ mo lq a0 a1 v0 v1 _ _ us (by decide) (by decide) hv0 hv1 hIus bk0 bk1 (fun t ht => (huss t ht).1) bz0 bz1 (fun t ht => Nat.le_trans (huss t ht).2 (by decide)) (by omega))
        (by assumption) FP (by assumption) NP (by assumption) rfl rfl rfl (by walk_at "mine room") (by walk_at "mine room") ⟨News.isTup NP (.tail _ mmo), News.isList NP (.tail _ ma0), News.isList NP (.tail _ ma1), News.isList NP (.tail _ mlq6), fun t ht => News.isList NP (.tail _ (mus6 t ht))⟩ ?_
      intro v hQ9 tkQ FQ NQ _ _ hrx7
      obtain ⟨bb, tb9, rfl, hbb⟩ := hrx7
      rw [huq, picture_file] at hbb
      clear FP NP
      have pf := png_facts (wi := 2) (he := 5) (pss := qss) (by decide) (by decide) hbs hqn hqok (by omega)
      ((try k_fold); repeat' (first | (k_unfold; (try dsimp only)) | ((fail_if_success (with_reducible (first | show wpAny _ _ (exec (.For _ _ _ _ _) _) _ _ _ | show wpAny _ _ (exec (.While _ _ _ _) _) _ _ _ | show wpAny _ _ (pyIter _) _ _ _ | show wpAny _ _ (call (.type "zip") _) _ _ _ | show wpAny _ _ (call (.type "enumerate") _) _ _ _ | show wpAny _ _ (eval (.ListComp _ _ _ _) _) _ _ _ | show wpAny _ _ (exec (.Assign _ (.ListComp _ _ _ _) _) _) _ _ _))); walk1; (try dsimp only))))
      refine SpecC.use (png_spec bb tb9 _ _ pa pb pss rws _ hbb pf.hx pf.hn pf.hz rfl pf.hend pf.hi pf.c1 pf.c2 pf.hd1 pf.hd2 pf.hw pf.hh (pf.hdat.trans hfq) pf.hd3 hp1 hp2 hp3 hpn (by rw [hfl]; omega) (fun y hy => by rw [hfl]; exact rows_back hks' hr' (by omega)) hrl)
        (by assumption) FQ (by assumption) NQ (by assumption) rfl rfl rfl (by walk_at "mine room") (by walk_at "mine room") trivial ?_
      intro v hS tkS FS NS _ _ hrx7
      obtain ⟨TT, RR, cR, tw, th, tsR, hT1, hR1, hL1, hrows1, zT, zR, zL⟩ := hrx7
      have hslt : @LT.lt Nat instLTNat sl _ := Heap.lt_size (NQ _ (.head _)).1
      have NG := news_more FQ NS (l := (TT, tupOf [.int 2 tw, .int 5 th, .ref RR]) :: (RR, listOf (tsR.map fun t => Value.ref t.row).toArray cR) :: rwL tsR) (fun q hq => by
        rcases List.mem_cons.mp hq with rfl | hq
        · exact ⟨hT1, zT⟩
        · rcases List.mem_cons.mp hq with rfl | hq
          · exact ⟨hR1, zR⟩
          · exact ⟨hL1 q hq, zL q hq⟩)
      obtain ⟨own7, NH, hof7, mo7, ml7⟩ := own_app NG (fun q hq => by
        rcases List.mem_cons.mp hq with rfl | hq
        · exact Nat.ne_of_gt (Nat.lt_of_lt_of_le hslt zT)
        · rcases List.mem_cons.mp hq with rfl | hq
          · exact Nat.ne_of_gt (Nat.lt_of_lt_of_le hslt zR)
          · exact Nat.ne_of_gt (Nat.lt_of_lt_of_le hslt (zL q hq))) hof6
      have mR7 := mo7 _ mR6
      have mbig7 : ∀ q ∈ rwL rs, q ∈ own7 := fun q hq => mo7 _ (mbig6 q hq)
      have mT7 := ml7 _ (.head _)
      have mRR7 := ml7 _ (.tail _ (.head _))
      have mrw7 : ∀ q ∈ rwL tsR, q ∈ own7 := fun q hq => ml7 _ (.tail _ (.tail _ hq))
      clear NG NS NQ FQ ml7 mo7 mR6 mbig6 hof6 hslt mmo ma0 ma1 mus6 mlq6 hT1 hR1 hL1 zT zR zL
      ((try k_fold); repeat' (first | (k_unfold; (try dsimp only)) | ((fail_if_success (with_reducible (first | show wpAny _ _ (exec (.For _ _ _ _ _) _) _ _ _ | show wpAny _ _ (exec (.While _ _ _ _) _) _ _ _ | show wpAny _ _ (pyIter _) _ _ _ | show wpAny _ _ (call (.type "zip") _) _ _ _ | show wpAny _ _ (call (.type "enumerate") _) _ _ _ | show wpAny _ _ (eval (.ListComp _ _ _ _) _) _ _ _ | show wpAny _ _ (exec (.Assign _ (.ListComp _ _ _ _) _) _) _ _ _))); walk1; (try dsimp only))))
      rename Fr _ _ _ _ => FT
      rename News _ _ _ _ => NT
      obtain ⟨as1, R1⟩ := reads_png (NT _ (.tail _ (.tail _ mT7))).1 (NT _ (.tail _ (.tail _ mRR7))).1 (fun q hq => (NT _ (.tail _ (.tail _ (mrw7 q hq)))).1) hrows1
      obtain ⟨as2, R2⟩ := reads_png (tw := tkS) (th := tkS + 1) (NT _ (.head _)).1 (NT _ (.tail _ (.tail _ mR7))).1 (fun q hq => (NT _ (.tail _ (.tail _ (mbig7 q hq)))).1) hrs'
      refine eq_dataH R1 R2 (png_shaped rws) (png_shaped rws) (by walk_at "mine room") ?_
      rw [png_eqv]
      ((try k_fold); repeat' (first | (k_unfold; (try dsimp only)) | ((fail_if_success (with_reducible (first | show wpAny _ _ (exec (.For _ _ _ _ _) _) _ _ _ | show wpAny _ _ (exec (.While _ _ _ _) _) _ _ _ | show wpAny _ _ (pyIter _) _ _ _ | show wpAny _ _ (call (.type "zip") _) _ _ _ | show wpAny _ _ (call (.type "enumerate") _) _ _ _ | show wpAny _ _ (eval (.ListComp _ _ _ _) _) _ _ _ | show wpAny _ _ (exec (.Assign _ (.ListComp _ _ _ _) _) _) _ _ _))); walk1; (try dsimp only))))
      (try rw [if_pos rfl])
      refine wpC_Call_Name ?_
      ((try k_fold); repeat' (first | (k_unfold; (try dsimp only)) | ((fail_if_success (with_reducible (first | show wpAny _ _ (exec (.For _ _ _ _ _) _) _ _ _ | show wpAny _ _ (exec (.While _ _ _ _) _) _ _ _ | show wpAny _ _ (pyIter _) _ _ _ | show wpAny _ _ (call (.type "zip") _) _ _ _ | show wpAny _ _ (call (.type "enumerate") _) _ _ _ | show wpAny _ _ (eval (.ListComp _ _ _ _) _) _ _ _ | show wpAny _ _ (exec (.Assign _ (.ListComp _ _ _ _) _) _) _ _ _))); walk1; (try dsimp only))))
      (refine callWith_KC (by assumption) (by k_is) ?_)
      ((try k_fold); repeat' (first | (k_unfold; (try dsimp only)) | ((fail_if_success (with_reducible (first | show wpAny _ _ (exec (.For _ _ _ _ _) _) _ _ _ | show wpAny _ _ (exec (.While _ _ _ _) _) _ _ _ | show wpAny _ _ (pyIter _) _ _ _ | show wpAny _ _ (call (.type "zip") _) _ _ _ | show wpAny _ _ (call (.type "enumerate") _) _ _ _ | show wpAny _ _ (eval (.ListComp _ _ _ _) _) _ _ _ | show wpAny _ _ (exec (.Assign _ (.ListComp _ _ _ _) _) _) _ _ _))); walk1; (try dsimp only))))
      refine SpecT.use (refused_spec sl o' so') (by assumption) FT (by assumption) NT (.tail _ (.head _)) (by assumption) hb rfl rfl rfl (by walk_at "mine room") (by walk_at "mine room") (fun s' k1 k2 k3 => hret s' k1 k2 k3)
    rename decide (ls = []) = false => hne
    have hpos : 0 < ls.length := by
      cases ls with
      | nil => cases hne
      | cons _ _ => simp
    ((try k_fold); repeat' (first | (k_unfold; (try dsimp only)) | ((with_reducible show wpAny _ _ (call (.builtin "list.pop") _) _ _ _); refine' pop_ints (by k_asm) (by k_asm) (by k_updF) (by assumption) (by assumption) (by assumption) (by omega) ?_; intro _ _ _ _ _ _ _ _ _ _; (try dsimp only)) | ((with_reducible show wpAny _ _ (call (.ref _) _) _ _ _); refine' use_take (h := ?_); intro _ _ _ _ _ _ _ _ _ _ _ e9; clear e9; (try dsimp only)) | ((fail_if_success (with_reducible (first | show wpAny _ _ (exec (.For _ _ _ _ _) _) _ _ _ | show wpAny _ _ (exec (.While _ _ _ _) _) _ _ _ | show wpAny _ _ (pyIter _) _ _ _ | show wpAny _ _ (call (.type "zip") _) _ _ _ | show wpAny _ _ (call (.type "enumerate") _) _ _ _ | show wpAny _ _ (eval (.ListComp _ _ _ _) _) _ _ _ | show wpAny _ _ (exec (.Assign _ (.ListComp _ _ _ _) _) _) _ _ _))); walk1; (try dsimp only))))
    rename_i hA p9 lp yk lq tky he9 hi9 hB gC hC tkC oC9 xa ta xa0 xa1 soa gD hD tkD oD9 xb tb xb0 xb1 sob2 gE hE tkE oE9 xc tc xc0 xc1 soc T9 hF lT hG hH obg9 dbg9 hI osp9 dsp9 hJ ob9 FK NK db9
    obtain ⟨led, hled⟩ : ∃ led : List (Addr × Obj), led = [(LL, listOf p9.toArray (nl + 1)), (R, listOf (rs.map fun t => Value.ref t.row).toArray rn), (dl', listOf dv.toArray dc), (al', listOf av.toArray ac), (sl, oE9), (L + 1 + 1 + 1, ob9), (L + 1 + 1, osp9), (L + 1, obg9)] := ⟨_, rfl⟩
    (with_unfolding_all refine comp_assign (by rfl) (by rfl) (by rfl) (by decide) ?_)
    ((try k_fold); repeat' (first | (k_unfold; (try dsimp only)) | ((fail_if_success (with_reducible (first | show wpAny _ _ (exec (.For _ _ _ _ _) _) _ _ _ | show wpAny _ _ (exec (.While _ _ _ _) _) _ _ _ | show wpAny _ _ (pyIter _) _ _ _ | show wpAny _ _ (call (.type "zip") _) _ _ _ | show wpAny _ _ (call (.type "enumerate") _) _ _ _ | show wpAny _ _ (eval (.ListComp _ _ _ _) _) _ _ _ | show wpAny _ _ (exec (.Assign _ (.ListComp _ _ _ _) _) _) _ _ _))); walk1; (try dsimp only))))
    rename IsRange _ _ _ _ _ _ _ _ => RR
    rename Fr _ _ _ _ => F
    rename News _ _ _ _ => N
    refine src_range (n := 8) rfl RR (by decide) (by decide) ?_
    intro h₁ I fp wr St S
    refine compN (σ := List Value) (fun _ => led ++ big) (fun i c ys => i ≤ 8 ∧ ys = c ∧ IntsAre c ((List.range i).map (rowF xa xb xc))) [] S (by rw [sizeLine_eq]; decide) (by decide) rfl rfl (fun b hb => nomatch hb) F (news_le N ?_) ⟨Nat.zero_le _, rfl, .nil⟩ ?_ ?_ ?_
    · rw [hled]
      dsimp only [List.cons_append, List.nil_append]
      walk_at "mine sub"
    · intro i v c ys C D oC mC h tk own hlt hrx12 hrx13 hoC hmC hoff' F' N'
      obtain ⟨tx, rfl⟩ := hrx12
      obtain ⟨hi8, rfl, hIc⟩ := hrx13
      clear S F N RR
      rw [hled] at N'
      replace N' := news_mid (a := [(LL, _), (R, _), (dl', _), (al', _), (sl, _), (L + 1 + 1 + 1, _), (L + 1 + 1, _), (L + 1, _)]) (b := big) N'
      walk_at "mine in"
      ((try k_fold); repeat' (first | (k_unfold; (try dsimp only)) | ((fail_if_success (with_reducible (first | show wpAny _ _ (exec (.For _ _ _ _ _) _) _ _ _ | show wpAny _ _ (exec (.While _ _ _ _) _) _ _ _ | show wpAny _ _ (pyIter _) _ _ _ | show wpAny _ _ (call (.type "zip") _) _ _ _ | show wpAny _ _ (call (.type "enumerate") _) _ _ _ | show wpAny _ _ (eval (.ListComp _ _ _ _) _) _ _ _ | show wpAny _ _ (exec (.Assign _ (.ListComp _ _ _ _) _) _) _ _ _))); walk1; (try dsimp only))))
      refine CompTurn.intro (ys ++ [_]) (by assumption) (by assumption) ?_ (by rw [List.map_append]; exact hoff') ⟨by omega, rfl, by rw [List.range_succ, List.map_append]; exact hIc.append (.cons _ _ .nil)⟩
      rw [hled]
      dsimp only [List.cons_append, List.nil_append, List.append_assoc]
      walk_at "mine sub"
    · intro i c ys hrx3
      obtain ⟨_, rfl, hIc⟩ := hrx3
      rw [hIc.length, List.length_map, List.length_range]
      exact Nat.le_refl _
    · with_unfolding_all refine' CompOut.set ?e1 ?e2 ?e3 ?_
      case e1 => rfl
      case e2 => rfl
      case e3 => rfl
      intro D h tk8 ys c hrx5 F' N' hoff' hDle
      obtain ⟨_, rfl, hIc⟩ := hrx5
      clear S F N RR
      have f0 := rowF_in xa xb xc 0
      have f1 := rowF_in xa xb xc 1
      have f2 := rowF_in xa xb xc 2
      have f4 := rowF_in xa xb xc 4
      have f5 := rowF_in xa xb xc 5
      have f6 := rowF_in xa xb xc 6
      have f7 := rowF_in xa xb xc 7
      replace hIc : IntsAre ys [rowF xa xb xc 0, rowF xa xb xc 1, rowF xa xb xc 2, rowF xa xb xc 3, rowF xa xb xc 4, rowF xa xb xc 5, rowF xa xb xc 6, rowF xa xb xc 7] := hIc
      generalize rowF xa xb xc 0 = r0 at *
      generalize rowF xa xb xc 1 = r1 at *
      generalize rowF xa xb xc 2 = r2 at *
      generalize rowF xa xb xc 3 = r3 at *
      generalize rowF xa xb xc 4 = r4 at *
      generalize rowF xa xb xc 5 = r5 at *
      generalize rowF xa xb xc 6 = r6 at *
      generalize rowF xa xb xc 7 = r7 at *
      obtain ⟨u0, u1, u2, u3, u4, u5, u6, u7, rfl⟩ := ints8 hIc
      have ho8 : ∀ q ∈ led, @Ne Nat q.1 D := fun q hq => hoff' q (List.mem_append_left _ hq)
      rw [hled] at ho8
      have q1 : @Ne Nat LL D := ho8 (LL, listOf p9.toArray (nl + 1)) (by k_mem)
      have q2 : @Ne Nat R D := ho8 (R, listOf (rs.map fun t => Value.ref t.row).toArray rn) (by k_mem)
      have q3 : @Ne Nat dl' D := ho8 (dl', listOf dv.toArray dc) (by k_mem)
      have q4 : @Ne Nat al' D := ho8 (al', listOf av.toArray ac) (by k_mem)
      have q5 : @Ne Nat sl D := ho8 (sl, oE9) (by k_mem)
      have q6 : @Ne Nat (L + 1 + 1 + 1) D := ho8 (L + 1 + 1 + 1, ob9) (by k_mem)
      have q7 : @Ne Nat (L + 1 + 1) D := ho8 (L + 1 + 1, osp9) (by k_mem)
      have q8 : @Ne Nat (L + 1) D := ho8 (L + 1, obg9) (by k_mem)
      clear ho8
      have hoffD : OwnOff big [D] := fun q hq b hb => by rw [List.mem_singleton.mp hb]; exact hoff' q (List.mem_append_right _ hq)
      rw [hled] at N'
      replace N' : News s.heap L h ((D, listOf #[.int r0 u0, .int r1 u1, .int r2 u2, .int r3 u3, .int r4 u4, .int r5 u5, .int r6 u6, .int r7 u7] 8) :: (LL, listOf p9.toArray (nl + 1)) :: (R, listOf (rs.map fun t => Value.ref t.row).toArray rn) :: (dl', listOf dv.toArray dc) :: (al', listOf av.toArray ac) :: (sl, oE9) :: (L + 1 + 1 + 1, ob9) :: (L + 1 + 1, osp9) :: (L + 1, obg9) :: big) := N'
      ((try k_fold); repeat' (first | (k_unfold; (try dsimp only)) | ((fail_if_success (with_reducible (first | show wpAny _ _ (exec (.For _ _ _ _ _) _) _ _ _ | show wpAny _ _ (exec (.While _ _ _ _) _) _ _ _ | show wpAny _ _ (pyIter _) _ _ _ | show wpAny _ _ (call (.type "zip") _) _ _ _ | show wpAny _ _ (call (.type "enumerate") _) _ _ _ | show wpAny _ _ (eval (.ListComp _ _ _ _) _) _ _ _ | show wpAny _ _ (exec (.Assign _ (.ListComp _ _ _ _) _) _) _ _ _))); walk1; (try dsimp only))))
      rename_i hK FL NL hiL hlL hsL
      replace NL : News s.heap L hK ((D, listOf #[.int r0 u0, .int r1 u1, .int r2 u2, .int 255 tk8, .int r4 u4, .int r5 u5, .int r6 u6, .int r7 u7] 8) :: (LL, listOf p9.toArray (nl + 1)) :: (R, listOf (rs.map fun t => Value.ref t.row).toArray rn) :: (dl', listOf dv.toArray dc) :: (al', listOf av.toArray ac) :: (sl, oE9) :: (L + 1 + 1 + 1, ob9) :: (L + 1 + 1, osp9) :: (L + 1, obg9) :: big) := NL
      replace hiL : IntsAre [.int r0 u0, .int r1 u1, .int r2 u2, .int 255 tk8, .int r4 u4, .int r5 u5, .int r6 u6, .int r7 u7] [r0, r1, r2, 255, r4, r5, r6, r7] := hiL
      clear hlL hsL
      have hyk : 0 ≤ yk ∧ yk ≤ 4 := h4' yk (by rw [he9]; exact List.mem_append_right _ (.head _))
      have hal8 : (aboveI rws rws.length).length = [r0, r1, r2, 255, r4, r5, r6, r7].length := by
        cases hq : rws.length with
        | zero => rfl
        | succ j =>
          have hlt : j < rws.length := by omega
          show (rws.getD j []).length = 8
          rw [List.getD_eq_getElem?_getD, List.getElem?_eq_getElem hlt]
          exact (hr' _ (List.getElem_mem hlt)).1
      refine Spec.useInts (filtered_spec yk _ D al' _ _ _ _ hiL ha' hal8 hyk.1 hyk.2 (Nat.le_of_ble_eq_true rfl)) (by assumption) FL (by assumption) NL (by assumption) rfl rfl rfl (by walk_at "mine room") (by walk_at "mine room") ⟨News.isList NL (by k_mem), News.isList NL (by k_mem)⟩ ?_
      intro fl vf cf hM tkM FM NM lM gM hIM
      clear FL NL
      have lM1 : @LT.lt Nat instLTNat D fl := lM (D, _) (.head _)
      have lM2 : @LT.lt Nat instLTNat LL fl := lM (LL, _) (.tail _ (.head _))
      have lM3 : @LT.lt Nat instLTNat R fl := lM (R, _) (.tail _ (.tail _ (.head _)))
      have lM4 : @LT.lt Nat instLTNat dl' fl := lM (dl', _) (.tail _ (.tail _ (.tail _ (.head _))))
      have lM5 : @LT.lt Nat instLTNat al' fl := lM (al', _) (.tail _ (.tail _ (.tail _ (.tail _ (.head _)))))
      have lM6 : @LT.lt Nat instLTNat sl fl := lM (sl, _) (.tail _ (.tail _ (.tail _ (.tail _ (.tail _ (.head _))))))
      clear hoffD
      clear lM
      have hfl9 : (filtI yk [r0, r1, r2, 255, r4, r5, r6, r7] (aboveI rws rws.length)).length = 9 := by simp [filtI]
      have hdl9 := data_length ks fun r hr => (hr' r hr).1
      ((try k_fold); repeat' (first | (k_unfold; (try dsimp only)) | ((with_reducible show wpAny _ _ (subscriptTail _ (.Slice _ _ _ _) (.ref _) (.ref _)) _ _ _); (first | refine' slice_R _ (by k_asm) (by k_asm) (by exact News.isList (by k_asm) (by k_mem)) (by exact .none) (by exact .int _ _) (by exact pick_head) (by exact Nat.le_of_ble_eq_true rfl) ?_ (by with_unfolding_all rfl) (by intro r'; with_unfolding_all rfl) | refine' slice_R _ (by k_asm) (by k_asm) (by exact News.isList (by k_asm) (by k_mem)) (by exact .int _ _) (by exact .none) (by exact pick_tail) (by exact Nat.le_of_ble_eq_true rfl) ?_ (by with_unfolding_all rfl) (by intro r'; with_unfolding_all rfl)); intro _ _ _ _ _ _; walk_at "mine lt"; (try dsimp only)) | ((with_reducible show wpAny _ _ (binaryOp .Add (.ref _) (.ref _)) _ _ _); refine' add_M (by k_asm) (by k_asm) (by walk_at "mine list") (by walk_at "mine list") (by (first | assumption | (repeat (first | exact IntsAre.nil | refine IntsAre.cons _ _ ?_)))) (by (first | assumption | (repeat (first | exact IntsAre.nil | refine IntsAre.cons _ _ ?_)))) ?_ (by walk_at "mine len"); intro _ _ _ _ _ _ _ _; walk_at "mine lt"; (try dsimp only)) | ((fail_if_success (with_reducible (first | show wpAny _ _ (exec (.For _ _ _ _ _) _) _ _ _ | show wpAny _ _ (exec (.While _ _ _ _) _) _ _ _ | show wpAny _ _ (pyIter _) _ _ _ | show wpAny _ _ (call (.type "zip") _) _ _ _ | show wpAny _ _ (call (.type "enumerate") _) _ _ _ | show wpAny _ _ (eval (.ListComp _ _ _ _) _) _ _ _ | show wpAny _ _ (exec (.Assign _ (.ListComp _ _ _ _) _) _) _ _ _))); walk1; (try dsimp only))))
      rename_i D5 us9 h51 l51 hI5 m51 T4 h41 m41 h42 h43 h44 tk44 D3 h31 l31 m31 D2 h21 m21 D1 h11 l11 m11 D0 h01 m01 w9 h02 l02 m02 hZ FZ NZ
      show TurnEnd _ _ _ _ _ _ _
      obtain ⟨rw9, hrw9⟩ : ∃ r : RwR, r = ⟨w9, 0, D2, [.int r0 u0, .int r1 u1, .int r2 u2, .int 255 tk8], D0, [.int r4 u4, .int r5 u5, .int r6 u6, .int r7 u7]⟩ := ⟨_, rfl⟩
      have hled9 : rw9.led = [(w9, listOf #[.ref D2, .ref D0] 0), (D2, tupOf [.int r0 u0, .int r1 u1, .int r2 u2, .int 255 tk8]), (D0, tupOf [.int r4 u4, .int r5 u5, .int r6 u6, .int r7 u7])] := by rw [hrw9]; rfl
      have hrow9 : rw9.row = w9 := by rw [hrw9]
      have hrwl : rwL (rs ++ [rw9]) = rwL rs ++ rw9.led := by simp only [rwL, List.flatMap_append, List.flatMap_cons, List.flatMap_nil, List.append_nil]
      refine TurnEnd.intro (⟨lp ++ lq, p9, nl + 1, oE9, rs ++ [rw9], rn + 1, D5, us9, 0, D, [.int r0 u0, .int r1 u1, .int r2 u2, .int 255 tk8, .int r4 u4, .int r5 u5, .int r6 u6, .int r7 u7], 8, ob9, osp9, obg9, ks ++ [yk], rws ++ [[r0, r1, r2, 255, r4, r5, r6, r7]]⟩ : LawS) FZ NZ ?_ (by (repeat (first | exact List.forall_mem_nil _ | refine List.forall_mem_cons.mpr ⟨by first | rfl | assumption, ?_⟩))) ⟨?_, ?_⟩
      · rw [hbig]
        show ∀ q ∈ LawS.led L sl LL R _, _
        dsimp only [LawS.led]
        rw [hrwl, hled9, List.map_append, List.map_cons, List.map_nil, hrow9, ← List.push_toArray]
        dsimp only [List.cons_append, List.nil_append, List.append_assoc]
        walk_at "mine sub"
      · have hlen9 := congrArg List.length he9
        simp only [List.length_append, List.length_cons] at hlen9
        refine ⟨hi9, ?_, by simp [hk'], fun k hk => h4' k ?_, fun k hk => ?_, fun r hr => ?_, ?_, ?_, hrs'.snoc ⟨?_, ?_⟩, soc, ⟨_, db9⟩, ⟨_, dsp9⟩, ⟨_, dbg9⟩, ?_, ?_, ?_⟩
        · simp only [List.length_append, List.length_cons, List.length_nil]; omega
        · rw [he9]; exact (List.mem_append.mp hk).elim (fun h => List.mem_append_left _ h) (fun h => List.mem_append_right _ (.tail _ h))
        · rcases List.mem_append.mp hk with h | h
          · exact hks' k h
          · rw [List.mem_singleton.mp h]; exact hyk
        · rcases List.mem_append.mp hr with h | h
          · exact hr' r h
          · rw [List.mem_singleton.mp h]
            refine ⟨rfl, ?_⟩
            show ∀ m ∈ _, 0 ≤ m ∧ m < 256
            repeat (first | exact List.forall_mem_nil _ | refine List.forall_mem_cons.mpr ⟨by first | assumption | decide, ?_⟩)
        · dsimp only
          rw [data_snoc hk']
          exact hI5
        · dsimp only
          rw [List.length_append, List.length_cons, List.length_nil, Nat.zero_add, above_last]
          exact hiL
        · rw [hrw9]; exact .cons _ _ (.cons _ _ (.cons _ _ (.cons _ _ .nil)))
        · rw [hrw9]; exact .cons _ _ (.cons _ _ (.cons _ _ (.cons _ _ .nil)))
        · show ∀ x ∈ _, @Ne Nat D5 x
          walk_at "mine ne"
        · show ∀ x ∈ _, @Ne Nat D x
          walk_at "mine ne"
        · show OwnOff (rwL (rs ++ [rw9])) _
          rw [hrwl, hled9, ← hbig]
          refine List.forall_mem_append.mpr ⟨hoff, ?_⟩
          refine List.forall_mem_cons.mpr ⟨?_, List.forall_mem_cons.mpr ⟨?_, List.forall_mem_cons.mpr ⟨?_, List.forall_mem_nil _⟩⟩⟩
          · show ∀ x ∈ _, @Ne Nat w9 x
            walk_at "mine ne"
          · show ∀ x ∈ _, @Ne Nat D2 x
            walk_at "mine ne"
          · show ∀ x ∈ _, @Ne Nat D0 x
            walk_at "mine ne"
      · have hlen9 := congrArg List.length he9
        simp only [List.length_append, List.length_cons] at hlen9
        show (lp ++ lq).length < ls.length
        rw [List.length_append]
        omega
end
theorem fresh_Last : True := by
  w_top off
  exact trivial
set_option maxHeartbeats 8000000 in
theorem the_walk : PySem.Challenge.rw_up0070_01.Holds := by
  refine hd ⟨?_, look1, look2⟩
  intro w s₀ s₁ mg mb G Y fa o pm cd doc dV kV ho hd' hcd hD hmg hg args vals as hpre hlay hrd hwl hlo
  have KX := kIn_of Y
  refine Ground.open G ?_
  intro T B D TE TW
  clear hd' hcd hD ho G B D TE TW Y
  wrow_args hpre hlay hrd hwl hlo
  rename_i ns hs0 hy0 hy1 hy2 hy3 as0 as1 l9 vs9 as2 hL9 ra9 w19 r09 hI9 hr9 hc9 hc8
  have hfa : some (Value.ref fa) = some (Value.ref 213) := hmg.symm.trans (mg_of KX T.g (by k_is))
  obtain rfl : fa = 213 := by injection hfa with e; injection e
  intro p
  have hΓ : Γ₀.In (topA 301 4 none []) := ⟨rfl, by decide, (fun l h => by cases h; rfl), (fun g h => by cases h), by decide⟩
  refine Sem.wp_mono _ _ _ (fun v _ s' hv => ?_) (fun e _ s' he => (he : False).elim) p s₁ (law_walk 301 4 none s₁.heap s₁ (fun v s' => v = .bool true ∧ s₁.heap.StaysIn s'.heap ∧ s'.gens = s₁.gens ∧ s'.os = s₁.os) (fun _ _ => False) l9 vs9 ns hI9 (by omega)
    ⟨rfl, fun _ _ e => e, trivial⟩ KX T ⟨KX, T⟩ hL9 (by decide) (by decide) (fun s' k1 k2 k3 => ⟨rfl, k1, k2, k3⟩) Γ₀ p hΓ rfl (fun x h => nomatch h))
  obtain ⟨rfl, k1, k2, k3⟩ := hv
  exact ⟨.inl ⟨.bool true, .bool true, [], rfl, raisesW_false (by wrow_none_raised), .bool true, by wrow_post, fun _ => ⟨List.nodup_nil, fun _ h => nomatch h⟩⟩, .of_keep k1, k3, .of_eq (k2.trans hg)⟩
end Mine
set_option maxRecDepth 100000 in
set_option maxHeartbeats 8000000 in
theorem PySem.Challenge.cw_up0070_01_holds : PySem.Challenge.rw_up0070_01.Holds := by
  exact Mine.the_walk
