import PyProof.Rows.All
import Wide.All
import OpenK.AllK
import Wide.FinOn
import Lean
import PySem.Challenge.RW_no0042_01
open PySem PySem.W PyProof.Rows
set_option Elab.async false
set_option linter.all false
set_option maxRecDepth 100000
set_option maxHeartbeats 8000000 in
open_top Mine.hd for PySem.Challenge.rw_no0042_01
namespace Mine
open PySem.Calls
/-- the around of a leaf call, of a middle call -/
abbrev AL : Around := { handled := none, depth := 600, frames := none, guards := none, units := 2000 }
abbrev AM : Around := { handled := none, depth := 500, frames := none, guards := none, units := 1000 }
theorem in_of {A B : Around} {Γ : Ctx} (hh : A.handled = B.handled) (hd : A.depth ≤ B.depth) (hu : A.units ≤ B.units) (hf : B.frames = none) (hg : B.guards = none) (h : Γ.In A) : Γ.In B :=
  ⟨h.1.trans hh, Nat.le_trans h.2.1 hd, (fun l e => by rw [hf] at e; cases e), (fun l e => by rw [hg] at e; cases e), Nat.le_trans h.2.2.2.2 hu⟩
theorem around_up {α : Type} {M : Model} {A B : Around} {t : Sem α} {Q : α → Shared → Prop} {E : Value → Shared → Prop} {s : Shared} (hh : A.handled = B.handled) (hd : A.depth ≤ B.depth) (hu : A.units ≤ B.units) (hf : B.frames = none) (hg : B.guards = none)
    (h : wpAny M B t Q E s) : wpAny M A t Q E s := fun Γ p hΓ => h Γ p (in_of hh hd hu hf hg hΓ)

def Ext (h h' : Heap) : Prop := ∀ b o, h.get? b = some o → h'.get? b = some o
def ExtBut (l : List Addr) (h h' : Heap) : Prop := ∀ b o, b ∉ l → h.get? b = some o → h'.get? b = some o
theorem Ext.refl (h : Heap) : Ext h h := fun _ _ e => e
theorem Ext.trans {a b c : Heap} (x : Ext a b) (y : Ext b c) : Ext a c := fun p o e => y p o (x p o e)

section
variable {prog : Program} {w : World} {A : Around} {E : Value → Shared → Prop} {s : Shared} {hb : Heap} {K : Frag} {Q : Value → Shared → Prop}
  {name qual : Str} {params : Arguments} {body : List Stmt} {scope : Scope} {dV kV doc pm cdv ct oc : Value} {an od : Option Addr} {osl : Array (Option Value)} {f : Addr} {pos : List Value} {binds : List (Str × Value)} {news : List (Addr × Obj)}
/-- a call of a def without cells: all that stands is frozen, but the objects of news -/
theorem enter (X : K.In hb) (hl : hb.NoLimit) (hx : Ext hb s.heap) (hn : ∀ p ∈ news, s.heap.get? p.1 = some p.2 ∧ hb.get? p.1 = none)
    (ho : K.lookup f = some ⟨oc, od, .func (fnOf name qual params body scope dV kV doc pm an cdv ct), osl⟩) (hcd : codeIn K cdv qual = true) (hroom : A.depth < recursionLimit)
    (hbind : BindsTo s (fnOf name qual params body scope dV kV doc pm an cdv ct) ⟨pos, []⟩ binds) (hloc : ∀ y ∈ binds, scope.names.lookup y.1 = some .local)
    (h : ∀ g L' h₁, Ext hb g → ExtBut (news.map (·.1)) s.heap g → Ext g s.heap → Fr g L' h₁ (fun y => binds.reverse.lookup y) → News g L' h₁ news →
      wpAny (model prog w) (A.deeper (envOf qual scope L' f cdv)) (execs body (envOf qual scope L' f cdv))
        (fun fl s' => Q (match fl with | .ret v => v | _ => .none) s') (fun _ _ => False) { s with heap := h₁, toks := s.toks + binds.length })
    (hco : scope.isCoroutine = false) (hgen : scope.isGenerator = false) (hk : scope.kind = .function) (hcell : ∀ x ∈ scope.names, x.2 ≠ .cell) :
    wpAny (model prog w) A (call (.ref f) pos) Q E s := by
  refine wpAny_call ?_
  refine codeAny_call_def (fd := fnX name qual params body scope [] dV kV doc pm an cdv ct) (body := body) (binds := binds) hroom ((X.keeps hx) _ _ ho) rfl (hl.keeps hx) (codeRec_of (X.keeps hx) hcd) rfl hbind hcell hloc (fun h₁ hns hk₁ => ?_) hco hgen hk
  have hxg : Ext hb (hideAll s.heap (news.map (·.1))) := fun b o e => hideAll_get _ (hx b o e) fun q => by
    obtain ⟨p, hp, rfl⟩ := List.mem_map.mp q
    rw [(hn p hp).2] at e; cases e
  refine wpAny_mono (h (hideAll s.heap (news.map (·.1))) s.heap.objs.size h₁ hxg (fun b o n e => hideAll_get _ e n) (fun b o e => of_hideAll _ e) ⟨hns, fun b o e => hk₁ b o (of_hideAll _ e), Nat.le_of_eq (hideAll_size _ _)⟩
    (fun p hp => ⟨hk₁ _ _ (hn p hp).1, Nat.ne_of_lt (Heap.lt_size (hn p hp).1), hideAll_none _ (List.mem_map_of_mem hp)⟩)) (fun fl s' hq => hq) fun _ _ y => y.elim
end
end Mine
namespace Mine
local macro_rules | `(tactic| walk_at "Pad0") => `(tactic| skip)
open PySem.Calls
local macro_rules | `(tactic| walk_at "MyEnter") => `(tactic| (
  refine' enter ?k1 ?k2 ?k3 ?k4 ?k6 ?k7 ?k8 ?k9 ?kB ?_ ?c2 ?c3 ?c4 ?c5
  (case k1 => assumption)
  (case k6 => k_dflt k_is)
  (case k7 => k_dflt k_is)
  (case k2 => exact Top.nolimit (by assumption))
  (case k3 => assumption)
  (case k4 => assumption)
  (case k8 => decide)
  (case k9 => exact BindsTo.of_eq rfl)
  (case c5 => decide)
  (case kB => exact locs rfl)
  (case c2 => exact rfl)
  (case c3 => exact rfl)
  (case c4 => exact rfl)))

theorem ext0 {s : Shared} {g h : Heap} {L : Addr} {m : Str → Option Value} (e : ExtBut (List.map (fun x : Addr × Obj => x.1) []) s.heap g) (F : Fr g L h m) : Ext s.heap h := fun b o q => F.keep b o (e b o (by simp) q)
theorem ext_but {s : Shared} {g h : Heap} {L : Addr} {m : Str → Option Value} {l : List Addr} (e : ExtBut l s.heap g) (F : Fr g L h m) : ExtBut l s.heap h := fun b o n q => F.keep b o (e b o n q)
section
variable {prog : Program} {w : World} {A : Around} {E : Value → Shared → Prop} {s : Shared} {h₀ : Heap} {L D : Addr} {m : Str → Option Value} {news news' : List (Addr × Obj)} {n : Nat} {Q : Value → Shared → Prop}
theorem pop0 {vs : List Value} {ns : List Int} {u : Tok} (F : Fr h₀ L s.heap m) (N : News h₀ L s.heap news) (U : Upd D (listOf vs.toArray n) (listOf vs.tail.toArray (n + 1)) news news')
    (hi : IntsAre vs ns) (hpos : 0 < ns.length) (hz : ns.length ≤ sizeLine) (h : ∀ h' t, Fr h₀ L h' m → News h₀ L h' news' → IntsAre vs.tail ns.tail → Q (.int (ns.headD 0) t) { s with heap := h' }) :
    wpAny (model prog w) A (call (.builtin "list.pop") [.ref D, .int 0 u]) Q E s := by
  cases hi with
  | nil => cases hpos
  | cons a t hi =>
    rename_i r l
    refine kl_popAt (k := 0) (p := []) (q := r) (y := .int a t) F N rfl ?_ ?_ U ?_ (fun h' F' N' => h h' t F' N' hi)
    · unfold seqIndex?
      rw [List.size_toArray, List.length_cons]
      simp
    · rfl
    · have := hi.length
      rw [List.length_cons] at hz
      simpa [this] using hz
end
local macro_rules | `(tactic| walk_at "call builtin:list.pop") => `(tactic| (k_here; (with_reducible show wpAny _ _ (call (Value.builtin _) [Value.ref _, Value.int _ _]) _ _ _); k_dflt (refine' pop0 ?F ?N ?U ?i ?l ?z ?_; (case F => k_asm); (case N => k_asm); (case U => k_upd); (case i => assumption); (case l => omega); (case z => (rw [sizeLine_eq]; omega))); intro h' t' F' N' hI'; (try dsimp only [List.nil_append, List.cons_append] at N')))
set_option maxHeartbeats 8000000 in
theorem take_spec {w : World} {hb : Heap} {mg mb : Str → Option Value} {mean : ExcName → Option Value} {s : Shared} {Q E : Value → Shared → Prop} {b l : Addr} {vs : List Value} {ns : List Int} {sd k : Int} {ts tkk : Tok} {nb nl : Nat}
    (X : (hd.heap_39 w.params).In hb) (T : Top hd.view_39 (looseW hd.view_39 []) mean mg mb hb) (hx : Ext hb s.heap)
    (hob : s.heap.get? b = some (listOf #[.ref l, .int sd ts] nb)) (hol : s.heap.get? l = some (listOf vs.toArray nl)) (hi : IntsAre vs ns) (hne : @Ne Nat b l) (hk : 0 < k) (hlen : ns.length ≤ 64) (hb0 : hb.get? b = none) (hl0 : hb.get? l = none)
    (h : ∀ v t h' tk vs' ns' sd' ts' nb' nl', 0 ≤ v → v < k → ExtBut [b, l] s.heap h' → h'.get? b = some (listOf #[.ref l, .int sd' ts'] nb') → h'.get? l = some (listOf (List.toArray vs') nl') → IntsAre vs' ns' → ns'.length ≤ 64 → Q (.int v t) { s with heap := h', toks := tk }) :
    wpAny (model PySem.Challenge.rw_no0042_01.row.prog w) AL (call (.ref 59) [.ref b, .int k tkk]) Q E s := by
  w_top off
  revert X; k_fill; intro X
  have hn : ∀ p ∈ [(b, listOf #[.ref l, .int sd ts] nb), (l, listOf vs.toArray nl)], s.heap.get? p.1 = some p.2 ∧ hb.get? p.1 = none :=
    List.forall_mem_cons.mpr ⟨⟨hob, hb0⟩, List.forall_mem_cons.mpr ⟨⟨hol, hl0⟩, List.forall_mem_nil _⟩⟩
  walk_at "MyEnter"
  · intro g L' h₁ hg hsg hgs F N
    have X' := X.keeps hg
    have T' := T.keeps hg
    (try dsimp only)
    k_unmd
    k_fold
    k_steps
    all_goals (try k_unfold)
    all_goals (try dsimp only)
    all_goals (
      rename Fr _ _ _ _ => F'
      rename News _ _ _ _ => N'
      exact h _ _ _ _ _ _ _ _ _ _ (Int.fmod_nonneg_of_pos _ hk) (Int.fmod_lt_of_pos _ hk) (ext_but hsg F') (N' _ (.head _)).1 (N' _ (.tail _ (.head _))).1 (by assumption) (by first | assumption | (rw [List.length_tail]; omega)))
end Mine
namespace Mine
local macro_rules | `(tactic| walk_at "Pad0") => `(tactic| skip)
local macro_rules | `(tactic| walk_at "Pad1") => `(tactic| skip)
local macro_rules | `(tactic| walk_at "Pad2") => `(tactic| skip)
local macro_rules | `(tactic| walk_at "Pad3") => `(tactic| skip)
open PySem.Calls
local macro_rules | `(tactic| walk_at "MyEnter") => `(tactic| (
  refine' enter ?k1 ?k2 ?k3 ?k4 ?k6 ?k7 ?k8 ?k9 ?kB ?_ ?c2 ?c3 ?c4 ?c5
  (case k1 => assumption)
  (case k6 => k_dflt k_is)
  (case k7 => k_dflt k_is)
  (case k2 => exact Top.nolimit (by assumption))
  (case k3 => assumption)
  (case k4 => assumption)
  (case k8 => decide)
  (case k9 => exact BindsTo.of_eq rfl)
  (case c5 => decide)
  (case kB => exact locs rfl)
  (case c2 => exact rfl)
  (case c3 => exact rfl)
  (case c4 => exact rfl)))


theorem fresh0 {s : Shared} {g : Heap} {b : Addr} (e : ExtBut (List.map (fun x : Addr × Obj => x.1) []) s.heap g) (n : g.get? b = none) : s.heap.get? b = none := by
  cases q : s.heap.get? b with
  | none => rfl
  | some o => rw [e b o (by simp) q] at n; cases n
set_option maxHeartbeats 8000000 in
theorem box_spec {w : World} {hb : Heap} {mg mb : Str → Option Value} {mean : ExcName → Option Value} {s : Shared} {Q E : Value → Shared → Prop} {l₀ : Addr} {vs : List Value} {ns : List Int} {tk0 : Tok}
    (X : (hd.heap_39 w.params).In hb) (T : Top hd.view_39 (looseW hd.view_39 []) mean mg mb hb) (hx : Ext hb s.heap)
    (hol : s.heap.IsList l₀ vs.toArray) (hi : IntsAre vs ns) (hlen : ns.length ≤ 63)
    (h : ∀ b l h' tk vs' ns' sd' ts' nb' nl', Ext s.heap h' → s.heap.get? b = none → s.heap.get? l = none → (@Ne Nat b l) → h'.get? b = some (listOf #[.ref l, .int sd' ts'] nb') → h'.get? l = some (listOf (List.toArray vs') nl') → IntsAre vs' ns' → ns'.length ≤ 64 → Q (.ref b) { s with heap := h', toks := tk }) :
    wpAny (model PySem.Challenge.rw_no0042_01.row.prog w) AL (call (.ref 66) [.ref l₀, .int 41 tk0]) Q E s := by
  w_top off
  revert X; k_fill; intro X
  have hn : ∀ p ∈ ([] : List (Addr × Obj)), s.heap.get? p.1 = some p.2 ∧ hb.get? p.1 = none := List.forall_mem_nil _
  walk_at "MyEnter"
  · intro g L' h₁ hg hsg hgs F N
    have X' := X.keeps hg
    have T' := T.keeps hg
    have hol' : g.IsList l₀ vs.toArray := stays_list (fun b o e => hsg b o (by simp) e) hol
    (try dsimp only)
    k_unmd
    k_fold
    k_with "pyIter ref" => k_state (fun (pre : List Int) (s : Int) => True) "seed_here"
    k_steps
    rename Fr _ _ _ _ => F'
    rename News _ _ _ _ => N'
    k_unmd
    (try k_unfold)
    (try dsimp only)
    exact h _ _ _ _ _ _ _ _ _ _ (ext0 hsg F') (fresh0 hsg (N' _ (.head _)).2.2) (fresh0 hsg (N' _ (.tail _ (.head _))).2.2) (by omega) (N' _ (.head _)).1 (N' _ (.tail _ (.head _))).1 (by assumption) (by omega)
end Mine
namespace Mine
local macro_rules | `(tactic| walk_at "Pad0") => `(tactic| skip)
local macro_rules | `(tactic| walk_at "Pad1") => `(tactic| skip)
local macro_rules | `(tactic| walk_at "Pad2") => `(tactic| skip)
local macro_rules | `(tactic| walk_at "Pad3") => `(tactic| skip)
local macro_rules | `(tactic| walk_at "Pad4") => `(tactic| skip)
local macro_rules | `(tactic| walk_at "Pad5") => `(tactic| skip)
open PySem.Calls
local macro_rules | `(tactic| walk_at "MyEnter") => `(tactic| (
  refine' enter ?k1 ?k2 ?k3 ?k4 ?k6 ?k7 ?k8 ?k9 ?kB ?_ ?c2 ?c3 ?c4 ?c5
  (case k1 => assumption)
  (case k6 => k_dflt k_is)
  (case k7 => k_dflt k_is)
  (case k2 => exact Top.nolimit (by assumption))
  (case k3 => assumption)
  (case k4 => assumption)
  (case k8 => decide)
  (case k9 => exact BindsTo.of_eq rfl)
  (case c5 => decide)
  (case kB => exact locs rfl)
  (case c2 => exact rfl)
  (case c3 => exact rfl)
  (case c4 => exact rfl)))



section
variable {w : World} {K : Frag} {A : Around} {E : Value → Shared → Prop} {s : Shared} {h₀ : Heap} {L : Addr} {m mg mb : Str → Option Value} {mean : ExcName → Option Value} {news rest : List (Addr × Obj)} {Q : Value → Shared → Prop}
theorem news_but {l : List Addr} {h h' : Heap} {rest : List (Addr × Obj)} (N : News h₀ L h rest) (e : ExtBut l h h') (ho : ∀ p ∈ rest, p.1 ∉ l) : News h₀ L h' rest := fun p hp => ⟨e _ _ (ho p hp) (N p hp).1, (N p hp).2⟩
theorem fr_but {l : List Addr} {h h' : Heap} (F : Fr h₀ L h m) (e : ExtBut l h h') (hL : L ∉ l) (h0 : ∀ b ∈ l, h₀.get? b = none) : Fr h₀ L h' m := by
  obtain ⟨oL, es, ep, hL', r⟩ := F.ns
  exact ⟨⟨oL, es, ep, e _ _ hL hL', r⟩, fun b o q => e b o (fun hm => by rw [h0 b hm] at q; cases q) (F.keep b o q), F.above⟩
inductive Off2 (b l : Addr) : List (Addr × Obj) → List (Addr × Obj) → Prop
  | nil : Off2 b l [] []
  | dropb {o : Obj} {r r' : List (Addr × Obj)} : Off2 b l r r' → Off2 b l ((b, o) :: r) r'
  | dropl {o : Obj} {r r' : List (Addr × Obj)} : Off2 b l r r' → Off2 b l ((l, o) :: r) r'
  | keep {p : Addr × Obj} {r r' : List (Addr × Obj)} : @Ne Nat p.1 b → @Ne Nat p.1 l → Off2 b l r r' → Off2 b l (p :: r) (p :: r')
  | tail {r : List (Addr × Obj)} : OwnOff r [b, l] → Off2 b l r r
theorem Off2.mem {b l : Addr} {r r' : List (Addr × Obj)} (h : Off2 b l r r') : ∀ p ∈ r', p ∈ r ∧ p.1 ∉ [b, l] := by
  induction h with
  | nil => exact List.forall_mem_nil _
  | dropb _ ih => exact fun p hp => ⟨.tail _ (ih p hp).1, (ih p hp).2⟩
  | dropl _ ih => exact fun p hp => ⟨.tail _ (ih p hp).1, (ih p hp).2⟩
  | keep h1 h2 _ ih =>
    intro p hp
    rcases List.mem_cons.mp hp with rfl | hp
    · refine ⟨.head _, fun hm => ?_⟩
      rcases List.mem_cons.mp hm with q | hm
      · exact h1 q
      · exact h2 (List.mem_singleton.mp hm)
    · exact ⟨.tail _ (ih p hp).1, (ih p hp).2⟩
  | tail h => exact fun p hp => ⟨hp, fun hm => h p hp p.1 hm rfl⟩
theorem take_K {b l : Addr} {vs : List Value} {ns : List Int} {sd k : Int} {ts tkk : Tok} {nb nl : Nat}
    (F : Fr h₀ L s.heap m) (N : News h₀ L s.heap news) (X : (hd.heap_39 w.params).In h₀) (T : Top hd.view_39 (looseW hd.view_39 []) mean mg mb h₀)
    (hmb : (b, listOf #[.ref l, .int sd ts] nb) ∈ news) (hml : (l, listOf vs.toArray nl) ∈ news)
    (hi : IntsAre vs ns) (hlen : ns.length ≤ 64) (hne : @Ne Nat b l) (ho : Off2 b l news rest) (hk : 0 < k)
    (hh : A.handled = none) (hdp : A.depth ≤ 600) (hun : A.units ≤ 2000)
    (h : ∀ v t h' tk vs' ns' sd' ts' nb' nl', 0 ≤ v → v < k → Fr h₀ L h' m → News h₀ L h' ((b, listOf #[.ref l, .int sd' ts'] nb') :: (l, listOf (List.toArray vs') nl') :: rest) → IntsAre vs' ns' → ns'.length ≤ 64 → Q (.int v t) { s with heap := h', toks := tk }) :
    wpAny (model PySem.Challenge.rw_no0042_01.row.prog w) A (call (.ref 59) [.ref b, .int k tkk]) Q E s := by
  have Nb := N _ hmb
  have Nl := N _ hml
  refine around_up (B := AL) hh hdp hun rfl rfl (take_spec X T F.keep Nb.1 Nl.1 hi hne hk hlen Nb.2.2 Nl.2.2 ?_)
  intro v t h' tk vs' ns' sd' ts' nb' nl' h1 h2 e eb el hi' hl'
  have e2 : ∀ c ∈ [b, l], h₀.get? c = none := by
    intro c hc
    rcases List.mem_cons.mp hc with rfl | hc
    · exact Nb.2.2
    · rw [List.mem_singleton.mp hc]; exact Nl.2.2
  have e3 : L ∉ [b, l] := by
    intro hc
    rcases List.mem_cons.mp hc with q | hc
    · exact Nb.2.1 q.symm
    · exact Nl.2.1 (List.mem_singleton.mp hc).symm
  refine h v t h' tk vs' ns' sd' ts' nb' nl' h1 h2 (fr_but F e e3 e2) (List.forall_mem_cons.mpr ⟨⟨eb, Nb.2⟩, List.forall_mem_cons.mpr ⟨⟨el, Nl.2⟩, news_but (fun p hp => N p (ho.mem p hp).1) e (fun p hp => (ho.mem p hp).2)⟩⟩) hi' hl'
end
local macro_rules | `(tactic| walk_at "Off2") => `(tactic| first | exact Off2.nil | (refine' Off2.dropb ?oa; (case oa => walk_at "Off2")) | (refine' Off2.dropl ?oa; (case oa => walk_at "Off2")) | (refine' Off2.keep ?oa ?ob ?oc; (case oa => k_ne); (case ob => k_ne); (case oc => walk_at "Off2")) | exact Off2.tail (by assumption))
local macro_rules | `(tactic| walk_at "call ref") => `(tactic| (k_here; (with_reducible show wpAny _ _ (call (Value.ref 59) _) _ _ _); k_dflt (refine' take_K ?F ?N ?X ?T ?mb ?ml ?i ?l ?n ?o ?k ?h ?d ?u ?_; (case F => k_asm); (case N => k_asm); (case X => k_asm); (case T => k_asm); (case mb => k_mem); (case ml => k_mem); (case i => assumption); (case l => assumption); (case n => assumption); (case o => walk_at "Off2"); (case k => first | assumption | decide | omega); (case h => rfl); (case d => exact Nat.le_of_ble_eq_true rfl); (case u => exact Nat.le_of_ble_eq_true rfl)); intro v' t' h' tk' vs' ns' sd' ts' nb' nl' hlo' hhi' F' N' hI' hlen'; (try dsimp only); (try k_sweep)))


theorem allLt_mem {D : Addr} {l : List (Addr × Obj)} (h : AllLt D l) : ∀ p ∈ l, @LT.lt Nat _ p.1 D := by
  induction l with
  | nil => exact List.forall_mem_nil _
  | cons a r ih =>
    intro p hp
    rcases List.mem_cons.mp hp with e | hp
    · rw [e]; exact h.1
    · exact ih h.2 p hp
/-- what was sent: number, time, size, two flags -/
structure Row where
  num : Int
  time : Int
  size : Int
  odd : Bool
  flag : Bool
abbrev tupObj (vs : Array Value) (n : Nat) : Obj := { cls := .type "tuple", data := .seq vs n }
/-- the dict's pairs carry the rows -/
inductive RowsOn (P : Addr → Obj → Prop) : List (Int × Value) → List Row → Prop
  | nil : RowsOn P [] []
  | cons {a : Addr} {r : Row} {kvs : List (Int × Value)} {rows : List Row} {t1 t2 : Tok} {n : Nat} : P a (tupObj #[.int r.time t1, .int r.size t2, .bool r.odd, .bool r.flag] n) → RowsOn P kvs rows → RowsOn P ((r.num, .ref a) :: kvs) (r :: rows)
theorem RowsOn.mono {P P' : Addr → Obj → Prop} {kvs : List (Int × Value)} {rows : List Row} (h : RowsOn P kvs rows) (hp : ∀ a o, P a o → P' a o) : RowsOn P' kvs rows := by
  induction h with
  | nil => exact .nil
  | cons h1 _ ih => exact .cons (hp _ _ h1) ih
theorem RowsOn.snoc {P : Addr → Obj → Prop} {kvs : List (Int × Value)} {rows : List Row} (h : RowsOn P kvs rows) {a : Addr} {r : Row} {t1 t2 : Tok} {n : Nat} (h1 : P a (tupObj #[.int r.time t1, .int r.size t2, .bool r.odd, .bool r.flag] n)) : RowsOn P (kvs ++ [(r.num, .ref a)]) (rows ++ [r]) := by
  induction h with
  | nil => exact .cons h1 .nil
  | cons h2 _ ih => exact .cons h2 ih
theorem RowsOn.keys {P : Addr → Obj → Prop} {kvs : List (Int × Value)} {rows : List Row} (h : RowsOn P kvs rows) : kvs.map (·.1) = rows.map (·.num) := by
  induction h with
  | nil => rfl
  | cons _ _ ih => simp [ih]
theorem RowsOn.length {P : Addr → Obj → Prop} {kvs : List (Int × Value)} {rows : List Row} (h : RowsOn P kvs rows) : kvs.length = rows.length := by
  simpa using congrArg List.length h.keys
/-- numbers rise, none above n -/
def Rising (rows : List Row) (n : Int) : Prop := (rows.map (·.num)).Pairwise (· < ·) ∧ ∀ r ∈ rows, r.num ≤ n
theorem Rising.nil {n : Int} : Rising [] n := ⟨.nil, List.forall_mem_nil _⟩
theorem Rising.snoc {rows : List Row} {n : Int} (h : Rising rows n) {r : Row} (hr : n < r.num) : Rising (rows ++ [r]) r.num := by
  refine ⟨?_, fun q hq => ?_⟩
  · rw [List.map_append]
    refine List.pairwise_append.mpr ⟨h.1, List.pairwise_singleton _ _, fun a ha b hb => ?_⟩
    obtain ⟨q, hq, rfl⟩ := List.mem_map.mp ha
    rw [List.mem_singleton.mp hb]
    have := h.2 q hq
    show q.num < r.num
    omega
  · rcases List.mem_append.mp hq with hq | hq
    · have := h.2 q hq; omega
    · rw [List.mem_singleton.mp hq]; exact Int.le_refl _
/-- the loop's letters -/
structure RS where
  number : Int
  tn : Tok
  at_ : Int
  ta : Tok
  kvs : List (Int × Value)
  od : Obj
  rows : List Row
  sd : Int
  ts : Tok
  nb : Nat
  vs : List Value
  nl : Nat
  ns : List Int
def ledF (b l d : Addr) (c : RS) : List (Addr × Obj) := [(b, listOf #[.ref l, .int c.sd c.ts] c.nb), (l, listOf c.vs.toArray c.nl), (d, c.od)]
def psF (c : RS) : List (Str × Value) := [(Str.ofString "number", .int c.number c.tn), (Str.ofString "at", .int c.at_ c.ta)]
def factsF (prog : Program) (w : World) (news : List (Addr × Obj)) (c : RS) : Prop := c.od.IsDictOf (PySem.intKind prog w) c.kvs ∧ RowsOn (fun a o => (a, o) ∈ news) c.kvs c.rows ∧ IntsAre c.vs c.ns ∧ c.ns.length ≤ 64
def wordF (pre : List Int) (c : RS) : Prop := c.rows.length = pre.length ∧ Rising c.rows c.number
section
variable {prog : Program} {w : World} {A : Around} {E : Value → Shared → Prop} {s : Shared} {env : Env} {h₀ : Heap} {x : Str} {body : List Stmt} {Q : Flow → Shared → Prop}
theorem rows_range {r b l d : Addr} {b₀ : Int} {t₀ u₀ v₀ : Tok} {m₀ : Str → Option Value} {news : List (Addr × Obj)} {od : Obj} {sd n0 a0 : Int} {ts tn ta : Tok} {nb nl : Nat} {vs : List Value} {ns : List Int}
    (hh : A.handled = none) (hr : IsRange s.heap r 0 b₀ 1 t₀ u₀ v₀) (h0 : 0 ≤ b₀) (h12 : b₀ < 12) (F : Fr h₀ env.locals s.heap m₀) (N : News h₀ env.locals s.heap news)
    (hd : od.IsDictOf (PySem.intKind prog w) []) (hmd : (d, od) ∈ news) (hmb : (b, listOf #[.ref l, .int sd ts] nb) ∈ news) (hml : (l, listOf vs.toArray nl) ∈ news) (hi : IntsAre vs ns) (hlen : ns.length ≤ 64)
    (hnum : m₀ (Str.ofString "number") = some (.int n0 tn)) (hat : m₀ (Str.ofString "at") = some (.int a0 ta))
    (turn : ∀ (c : RS) tl (pre : List Int) (k : Int) t (u : Str → Option Value) h tk own, pre.length < 12 → KdSep own tl [b, l, d] → OwnOff (tl ++ own) [b, l] → OwnOff (tl ++ own) [b, l, d] → c.od.IsDictOf (PySem.intKind prog w) c.kvs → RowsOn (fun a o => (a, o) ∈ tl) c.kvs c.rows → IntsAre c.vs c.ns → c.ns.length ≤ 64 → c.rows.length = pre.length → Rising c.rows c.number →
      Fr h₀ env.locals h (fun y => if y = x then some (.int k t) else if y = Str.ofString "number" then some (.int c.number c.tn) else if y = Str.ofString "at" then some (.int c.at_ c.ta) else if [Str.ofString "size", Str.ofString "flags"].contains y then u y else m₀ y) →
      News h₀ env.locals h ((b, listOf #[.ref l, .int c.sd c.ts] c.nb) :: (l, listOf c.vs.toArray c.nl) :: (d, c.od) :: (tl ++ own)) →
      wpAny (model prog w) A (execs body env) (InvPostG h₀ env.locals (KdS (ledF b l d) [] psF (factsF prog w) x [Str.ofString "size", Str.ofString "flags"] m₀ wordF [b, l, d] (pre ++ [k])) own { s with heap := h, toks := tk } Q) E { s with heap := h, toks := tk })
    (done : ∀ (c : RS) tl (u : Str → Option Value) h tk, OwnOff tl [b, l, d] → c.od.IsDictOf (PySem.intKind prog w) c.kvs → RowsOn (fun a o => (a, o) ∈ tl) c.kvs c.rows → IntsAre c.vs c.ns → c.ns.length ≤ 64 → c.rows.length ≤ 11 → Rising c.rows c.number →
      Fr h₀ env.locals h (fun y => if y = x then u y else if y = Str.ofString "number" then some (.int c.number c.tn) else if y = Str.ofString "at" then some (.int c.at_ c.ta) else if [Str.ofString "size", Str.ofString "flags"].contains y then u y else m₀ y) →
      News h₀ env.locals h ((b, listOf #[.ref l, .int c.sd c.ts] c.nb) :: (l, listOf c.vs.toArray c.nl) :: (d, c.od) :: tl) → Q .next { s with heap := h, toks := tk }) :
    wpAny (model prog w) A (pyIter (.ref r)) (fun it s₂ => LoopAtV prog w A h₀ env x body Q E it s₂) E s := by
  refine kd_range (n := b₀.toNat) (ledF b l d) [] psF (factsF prog w) [Str.ofString "size", Str.ofString "flags"] wordF [b, l, d] ⟨n0, tn, a0, ta, [], od, [], sd, ts, nb, vs, nl, ns⟩ hh hr (small_one (by omega) (by omega) (by omega) (by omega)) ?_ F N ?_ (fun _ => rfl) ⟨hd, .nil, hi, hlen⟩ ?_ ⟨rfl, .nil⟩ ?_ ?_
  · rw [rangeSize_nat]; omega
  · exact List.forall_mem_cons.mpr ⟨hmb, List.forall_mem_cons.mpr ⟨hml, List.forall_mem_cons.mpr ⟨hmd, List.forall_mem_nil _⟩⟩⟩
  · exact List.forall_mem_cons.mpr ⟨hnum, List.forall_mem_cons.mpr ⟨hat, List.forall_mem_nil _⟩⟩
  · rintro c tl pre k t u h tk own _ hpre hsep hoff ⟨f1, f2, f3, f4⟩ ⟨p1, p2⟩ F' N'
    exact turn c tl pre k t u h tk own (by omega) hsep (fun p hp q hq => hoff p hp q (by rcases List.mem_cons.mp hq with rfl | hq; exact .head _; exact .tail _ (by rw [List.mem_singleton.mp hq]; exact .head _))) hoff f1 f2 f3 f4 p1 p2 F' N'
  · rintro c tl u h tk hoff ⟨f1, f2, f3, f4⟩ ⟨p1, p2⟩ F' N'
    exact done c tl u h tk hoff f1 f2 f3 f4 (by rw [p1, rangeKs_length]; omega) p2 F' N'
theorem rows_end {b l d D L : Addr} {c : RS} {m₀ m' : Str → Option Value} {own tl news' : List (Addr × Obj)} {pre : List Int} {k num at_ size sd : Int} {f1 f2 : Bool} {tn ta t1 t2 ts : Tok} {n nb nl : Nat} {od : Obj} {vs : List Value} {ns : List Int} {s₁ : Shared} {h' : Heap} {tk : Nat}
    (hod : od.IsDictOf (PySem.intKind prog w) (stored c.kvs num (.ref D))) (hrows : RowsOn (fun a o => (a, o) ∈ tl) c.kvs c.rows) (h0 : KdSep own tl [b, l, d]) (F : Fr h₀ L h' m') (N : News h₀ L h' news')
    (hmd : (d, od) ∈ news') (hmb : (b, listOf #[.ref l, .int sd ts] nb) ∈ news') (hml : (l, listOf vs.toArray nl) ∈ news') (hmt : (D, tupObj #[.int at_ t1, .int size t2, .bool f1, .bool f2] n) ∈ news') (hsub : ∀ p ∈ tl ++ own, p ∈ news')
    (hb : @LT.lt Nat _ b D) (hl : @LT.lt Nat _ l D) (hd : @LT.lt Nat _ d D) (hlt : AllLt D (tl ++ own)) (hnum : m' (Str.ofString "number") = some (.int num tn)) (hat : m' (Str.ofString "at") = some (.int at_ ta))
    (hrest : ∀ z, z ≠ x → z ≠ Str.ofString "number" → z ≠ Str.ofString "at" → [Str.ofString "size", Str.ofString "flags"].contains z = false → m' z = m₀ z)
    (hi : IntsAre vs ns) (hlen : ns.length ≤ 64) (hrl : c.rows.length = pre.length) (hris : Rising c.rows c.number) (hgt : c.number < num) :
    InvEndG h₀ L (KdS (ledF b l d) [] psF (factsF prog w) x [Str.ofString "size", Str.ofString "flags"] m₀ wordF [b, l, d] (pre ++ [k])) own s₁ { s₁ with heap := h', toks := tk } := by
  have hfresh : valueAt c.kvs num = none := by
    refine valueAt_none_of_not_mem fun hm => ?_
    rw [hrows.keys] at hm
    obtain ⟨r, hr, e⟩ := List.mem_map.mp hm
    have h1 := hris.2 r hr
    have e' : r.num = num := e
    omega
  rw [stored_absent hfresh] at hod
  refine kd_end (⟨num, tn, at_, ta, c.kvs ++ [(num, .ref D)], od, c.rows ++ [⟨num, at_, size, f1, f2⟩], sd, ts, nb, vs, nl, ns⟩ : RS) [(D, tupObj #[.int at_ t1, .int size t2, .bool f1, .bool f2] n)] h0 F N ?_ (fun p hp => hsub p (List.mem_append.mpr (.inr hp))) rfl ?_ ?_ ?_ ?_ ⟨hod, ?_, hi, hlen⟩ ⟨?_, ?_⟩
  · refine List.forall_mem_cons.mpr ⟨hmb, List.forall_mem_cons.mpr ⟨hml, List.forall_mem_cons.mpr ⟨hmd, List.forall_mem_cons.mpr ⟨hmt, fun p hp => hsub p (List.mem_append.mpr (.inl hp))⟩⟩⟩⟩
  · intro q hq b' hb'
    rw [List.mem_singleton.mp hq]
    rcases List.mem_cons.mp hb' with rfl | hb'
    · exact Nat.ne_of_lt hb
    · rcases List.mem_cons.mp hb' with rfl | hb'
      · exact Nat.ne_of_lt hl
      · rw [List.mem_singleton.mp hb']; exact Nat.ne_of_lt hd
  · intro q hq p hp
    rw [List.mem_singleton.mp hq]
    exact Nat.ne_of_lt (allLt_mem hlt p (List.mem_append.mpr (.inr hp)))
  · exact List.forall_mem_cons.mpr ⟨hnum, List.forall_mem_cons.mpr ⟨hat, List.forall_mem_nil _⟩⟩
  · intro z h1 h2 h3
    exact hrest z h1 (h2 _ (.head _)) (h2 _ (.tail _ (.head _))) h3
  · exact RowsOn.snoc (r := ⟨num, at_, size, f1, f2⟩) (hrows.mono fun a o hm => List.mem_append.mpr (.inr hm)) (List.mem_append.mpr (.inl (.head _)))
  · simp [hrl]
  · exact Rising.snoc (r := ⟨num, at_, size, f1, f2⟩) hris hgt
end
end Mine
namespace Mine
local macro_rules | `(tactic| walk_at "Pad0") => `(tactic| skip)
local macro_rules | `(tactic| walk_at "Pad1") => `(tactic| skip)
local macro_rules | `(tactic| walk_at "Pad2") => `(tactic| skip)
local macro_rules | `(tactic| walk_at "Pad3") => `(tactic| skip)
local macro_rules | `(tactic| walk_at "Pad4") => `(tactic| skip)
local macro_rules | `(tactic| walk_at "Pad5") => `(tactic| skip)
local macro_rules | `(tactic| walk_at "Pad6") => `(tactic| skip)
local macro_rules | `(tactic| walk_at "Pad7") => `(tactic| skip)
local macro_rules | `(tactic| walk_at "Pad8") => `(tactic| skip)
local macro_rules | `(tactic| walk_at "Pad9") => `(tactic| skip)
open PySem.Calls
local macro_rules | `(tactic| walk_at "MyEnter") => `(tactic| (
  refine' enter ?k1 ?k2 ?k3 ?k4 ?k6 ?k7 ?k8 ?k9 ?kB ?_ ?c2 ?c3 ?c4 ?c5
  (case k1 => assumption)
  (case k6 => k_dflt k_is)
  (case k7 => k_dflt k_is)
  (case k2 => exact Top.nolimit (by assumption))
  (case k3 => assumption)
  (case k4 => assumption)
  (case k8 => decide)
  (case k9 => exact BindsTo.of_eq rfl)
  (case c5 => decide)
  (case kB => exact locs rfl)
  (case c2 => exact rfl)
  (case c3 => exact rfl)
  (case c4 => exact rfl)))



local macro_rules | `(tactic| walk_at "Off2") => `(tactic| first | exact Off2.nil | (refine' Off2.dropb ?oa; (case oa => walk_at "Off2")) | (refine' Off2.dropl ?oa; (case oa => walk_at "Off2")) | (refine' Off2.keep ?oa ?ob ?oc; (case oa => k_ne); (case ob => k_ne); (case oc => walk_at "Off2")) | exact Off2.tail (by assumption))
local macro_rules | `(tactic| walk_at "call ref") => `(tactic| (k_here; (with_reducible show wpAny _ _ (call (Value.ref 59) _) _ _ _); k_dflt (refine' take_K ?F ?N ?X ?T ?mb ?ml ?i ?l ?n ?o ?k ?h ?d ?u ?_; (case F => k_asm); (case N => k_asm); (case X => k_asm); (case T => k_asm); (case mb => k_mem); (case ml => k_mem); (case i => assumption); (case l => assumption); (case n => assumption); (case o => walk_at "Off2"); (case k => first | assumption | decide | omega); (case h => rfl); (case d => exact Nat.le_of_ble_eq_true rfl); (case u => exact Nat.le_of_ble_eq_true rfl)); intro v' t' h' tk' vs' ns' sd' ts' nb' nl' hlo' hhi' F' N' hI' hlen'; (try dsimp only); (try k_sweep)))



section
variable {M : Model} {A : Around} {E : Value → Shared → Prop} {s : Shared} {h₀ : Heap} {L : Addr} {m : Str → Option Value} {news : List (Addr × Obj)}
set_option maxHeartbeats 2000000 in
theorem newTuple_M {vs : List Value} {Q : Value → Shared → Prop} (F : Fr h₀ L s.heap m) (N : News h₀ L s.heap news)
    (h : ∀ D h', Fr h₀ L h' m → News h₀ L h' ((D, tupObj vs.toArray 0) :: news) → (∀ p ∈ news, p.1 < D) → Q (.ref D) { s with heap := h' }) (hsz : vs.length ≤ sizeLine) :
    wpAny M A (newTuple vs) Q E s := by
  refine newTuple_N F N (fun h' F' N' => ?_) hsz
  exact h s.heap.objs.size h' F' N' (fun p hp => Heap.lt_size (N p hp).1)
end
local macro_rules | `(tactic| walk_at "newTuple") => `(tactic| (k_here; k_dflt (refine' newTuple_M ?F ?N ?_ ?z; (case F => k_asm); (case N => k_asm); (case z => (rw [sizeLine_eq]; exact Nat.le_of_ble_eq_true rfl))); intro D' h' F' N' l1; (try k_lt l1); (try dsimp only); (try k_sweep)))
local macro_rules | `(tactic| walk_at "setItem ref int") => `(tactic| (k_here; k_dflt (refine' kda_set (knd := PySem.intKind _ _) ?F ?N ?U ?d (intKind_is _ _ _ _) ?z ?_; (case F => k_asm); (case N => k_asm); (case U => k_updF); (case d => assumption); (case z => (rw [RowsOn.length (by assumption), sizeLine_eq]; omega))); intro h' o' F' N' hd'; (try dsimp only at N')))
def Stop (P : Prop) : Prop := P
theorem stop {P : Prop} (h : Stop P) : P := h
local macro_rules | `(tactic| walk_at "pyIter ref") => `(tactic| (refine stop ?_))
theorem gt_aux {n v : Int} (h : 0 ≤ v) : n < n + 1 + v.fdiv 3 := by
  have := Int.fdiv_nonneg h (show (0 : Int) ≤ 3 by decide)
  omega
theorem freshOff {s : Shared} {g : Heap} {a : Addr} {l : List Addr} (e : ExtBut l s.heap g) (n : g.get? a = none) (ha : a ∉ l) : s.heap.get? a = none := by
  cases q : s.heap.get? a with
  | none => rfl
  | some o => rw [e a o ha q] at n; cases n
set_option maxHeartbeats 8000000 in
theorem rows_spec {w : World} {hb : Heap} {mg mb : Str → Option Value} {mean : ExcName → Option Value} {s : Shared} {Q E : Value → Shared → Prop} {b l : Addr} {vs : List Value} {ns : List Int} {sd : Int} {ts : Tok} {nb nl : Nat}
    (X : (hd.heap_39 w.params).In hb) (T : Top hd.view_39 (looseW hd.view_39 []) mean mg mb hb) (hx : Ext hb s.heap)
    (hob : s.heap.get? b = some (listOf #[.ref l, .int sd ts] nb)) (hol : s.heap.get? l = some (listOf vs.toArray nl)) (hi : IntsAre vs ns) (hne : @Ne Nat b l) (hlen : ns.length ≤ 64) (hb0 : hb.get? b = none) (hl0 : hb.get? l = none)
    (hq : ∀ d h' tk od kvs rows tl n vs' ns' sd' ts' nb' nl', ExtBut [b, l] s.heap h' → s.heap.get? d = none → (d == sysModules) = false → h'.get? d = some od → od.IsDictOf (PySem.intKind PySem.Challenge.rw_no0042_01.row.prog w) kvs → RowsOn (fun a o => (a, o) ∈ tl) kvs rows →
      (∀ p ∈ tl, h'.get? p.1 = some p.2 ∧ s.heap.get? p.1 = none) → OwnOff tl [b, l, d] → rows.length ≤ 11 → Rising rows n → h'.get? b = some (listOf #[.ref l, .int sd' ts'] nb') → h'.get? l = some (listOf (List.toArray vs') nl') → IntsAre vs' ns' → ns'.length ≤ 64 → Q (.ref d) { s with heap := h', toks := tk }) :
    wpAny (model PySem.Challenge.rw_no0042_01.row.prog w) AM (call (.ref 73) [.ref b]) Q E s := by
  w_top off
  revert X; k_fill; intro X
  have hn : ∀ p ∈ [(b, listOf #[.ref l, .int sd ts] nb), (l, listOf vs.toArray nl)], s.heap.get? p.1 = some p.2 ∧ hb.get? p.1 = none :=
    List.forall_mem_cons.mpr ⟨⟨hob, hb0⟩, List.forall_mem_cons.mpr ⟨⟨hol, hl0⟩, List.forall_mem_nil _⟩⟩
  walk_at "MyEnter"
  · intro g L' h₁ hg hsg hgs F N
    have X' := X.keeps hg
    have T' := T.keeps hg
    (try dsimp only)
    k_unmd
    k_fold
    k_steps
    unfold Stop
    refine' rows_range (b := b) (l := l) ?hh ?hr ?h0 ?h12 ?F ?N ?hd ?hmd ?hmb ?hml ?hi ?hlen ?hnum ?hat ?turn ?done
    (case hh => rfl)
    (case hr => assumption)
    (case h0 => assumption)
    (case h12 => assumption)
    (case F => k_asm)
    (case N => k_asm)
    (case hd => assumption)
    (case hmd => k_mem)
    (case hmb => k_mem)
    (case hml => k_mem)
    (case hi => assumption)
    (case hlen => assumption)
    (case hnum => exact rfl)
    (case hat => exact rfl)
    case turn =>
      intro c tl pre k t u h tk own hpre hsep ho2 ho3 hod hrows hI hln hrl hris F' N'
      k_sweep
      k_unmd
      k_fold
      k_steps
      rename KdSep _ _ _ => hsep'
      rename Fr _ _ _ _ => F'
      rename News _ _ _ _ => N'
      rename Obj.IsDictOf _ _ _ => hd'
      rename @LT.lt Nat _ _ _ ∧ _ => l2
      k_unmd
      refine' rows_end (pre := pre) (k := k) hd' hrows hsep' F' N' ?md ?mb ?ml ?mt ?sub ?b ?l ?d ?lt ?num ?atv ?rest ?hi ?hlen hrl hris ?gt
      (case md => k_mem)
      (case mb => k_mem)
      (case ml => k_mem)
      (case mt => k_mem)
      (case sub => (intro p hp; repeat' (first | exact hp | refine List.Mem.tail _ ?_)))
      (case b => omega)
      (case l => omega)
      (case d => omega)
      (case lt => exact l2.2.2.2.2)
      (case num => exact rfl)
      (case atv => exact rfl)
      case rest =>
        intro z h1 h2 h3 h4
        have h5 : z ≠ Str.ofString "size" ∧ z ≠ Str.ofString "flags" := by
          constructor <;> (rintro rfl; revert h4; decide)
        simp only [h1, h2, h3, h4, h5.1, h5.2, if_false, Bool.false_eq_true]
      (case hi => assumption)
      (case hlen => assumption)
      (case gt => exact gt_aux (by assumption))
    case done =>
      intro c tl u h tk ho3 hod hrows hI hln hrl hris F' N'
      k_sweep
      k_unmd
      k_steps
      (try k_unmd)
      (try dsimp only)
      (try k_unfold)
      (try dsimp only)
      have hoff : ∀ p ∈ tl, p.1 ∉ List.map (fun x : Addr × Obj => x.1) [(b, listOf #[.ref l, .int sd ts] nb), (l, listOf vs.toArray nl)] := by
        intro p hp hm
        rcases List.mem_cons.mp hm with q | hm
        · exact ho3 p hp b (.head _) q
        · exact ho3 p hp l (.tail _ (.head _)) (List.mem_singleton.mp hm)
      refine hq _ _ _ _ _ _ tl _ _ _ _ _ _ _ (ext_but hsg F') (freshOff hsg (N' _ (.tail _ (.tail _ (.head _)))).2.2 ?_) (by assumption) (N' _ (.tail _ (.tail _ (.head _)))).1 hod hrows (fun p hp => ?_) ho3 hrl hris (N' _ (.head _)).1 (N' _ (.tail _ (.head _))).1 hI hln
      · intro hm
        rcases List.mem_cons.mp hm with q | hm
        · revert q; k_ne
        · have q := List.mem_singleton.mp hm; revert q; k_ne
      · have z := N' p (.tail _ (.tail _ (.tail _ hp)))
        exact ⟨z.1, freshOff hsg z.2.2 (hoff p hp)⟩
end Mine
namespace Mine
open PySem.Calls

/-- the row of a number -/
def rowAt (rows : List Row) (k : Int) : Row := (rows.find? (fun r => r.num = k)).getD ⟨0, 0, 0, false, false⟩
theorem rowAt_num {rows : List Row} {k : Int} (h : k ∈ rows.map (·.num)) : rowAt rows k ∈ rows ∧ (rowAt rows k).num = k := by
  obtain ⟨r, hr, e⟩ := List.mem_map.mp h
  unfold rowAt
  cases hf : rows.find? (fun r => r.num = k) with
  | none =>
    have h1 := List.find?_eq_none.mp hf r hr
    exact absurd e (by simpa using h1)
  | some q =>
    exact ⟨List.mem_of_find?_eq_some hf, by simpa using List.find?_some hf⟩
theorem RowsOn.at {P : Addr → Obj → Prop} {kvs : List (Int × Value)} {rows : List Row} (h : RowsOn P kvs rows) (k : Int) (hk : k ∈ rows.map (·.num)) :
    ∃ a t1 t2 n, valueAt kvs k = some (.ref a) ∧ P a (tupObj #[.int (rowAt rows k).time t1, .int (rowAt rows k).size t2, .bool (rowAt rows k).odd, .bool (rowAt rows k).flag] n) := by
  induction h with
  | nil => cases hk
  | @cons a r kvs rows t1 t2 n h1 h2 ih =>
    by_cases e : r.num = k
    · refine ⟨a, t1, t2, n, by simp [valueAt, e], ?_⟩
      have e2 : rowAt (r :: rows) k = r := by simp [rowAt, e]
      rw [e2]; exact h1
    · have hk' : k ∈ rows.map (·.num) := by
        rcases List.mem_cons.mp hk with q | q
        · exact absurd q.symm e
        · exact q
      obtain ⟨a', u1, u2, n', g1, g2⟩ := ih hk'
      have e2 : rowAt (r :: rows) k = rowAt rows k := by simp [rowAt, e]
      rw [e2]
      refine ⟨a', u1, u2, n', ?_, g2⟩
      rw [← g1]
      simp [valueAt, e]
def SentAt (prog : Program) (w : World) (h : Heap) (d : Addr) (rows : List Row) : Prop :=
  ∃ kvs, h.DictOf (PySem.intKind prog w) d kvs ∧ (d == sysModules) = false ∧ RowsOn (fun a o => h.get? a = some o) kvs rows
theorem SentAt.mono {prog : Program} {w : World} {h h' : Heap} {d : Addr} {rows : List Row} (x : SentAt prog w h d rows) (e : Ext h h') : SentAt prog w h' d rows :=
  let ⟨kvs, hD, lo, hr⟩ := x; ⟨kvs, hD.keep e, lo, hr.mono fun a o q => e a o q⟩
theorem ints_of {kvs : List (Int × Value)} {prog : Program} {w : World} : ∀ {vs : List Value}, vs.length = kvs.length → (∀ (j : Nat) (v : Value), vs[j]? = some v → ∃ k x, kvs[j]? = some (k, x) ∧ (PySem.intKind prog w).is k v = true) → IntsAre vs (kvs.map (·.1)) := by
  induction kvs with
  | nil => intro vs hl _; cases vs with | nil => exact .nil | cons _ _ => cases hl
  | cons p r ih =>
    intro vs hl hv
    cases vs with
    | nil => cases hl
    | cons v vs =>
      obtain ⟨k, x, e, hk⟩ := hv 0 v rfl
      have e' : p = (k, x) := by simpa using e
      obtain ⟨t, rfl⟩ := Value.isInt_shape hk
      subst e'
      exact .cons k t (ih (by simpa using hl) fun j u hu => hv (j + 1) u hu)
theorem rising_nodup {rows : List Row} (h : (rows.map (·.num)).Pairwise (· < ·)) : (rows.map (·.num)).Pairwise (· ≤ ·) := h.imp fun h => Int.le_of_lt h
theorem perm_sorted {a b : List Int} (p : a.Perm b) (ha : a.Pairwise (· ≤ ·)) (hb : b.Pairwise (· ≤ ·)) : a = b :=
  List.Perm.eq_of_pairwise (fun _ _ _ _ h1 h2 => Int.le_antisymm h1 h2) ha hb p
section
variable {prog : Program} {w : World} {A : Around} {E : Value → Shared → Prop} {s : Shared} {h₀ : Heap} {L d : Addr} {m : Str → Option Value} {news : List (Addr × Obj)} {rows : List Row}
theorem sorted_K {Q : Value → Shared → Prop} (hh : A.handled = none) (F : Fr h₀ L s.heap m) (N : News h₀ L s.heap news) (hs : SentAt prog w s.heap d rows) (hr : (rows.map (·.num)).Pairwise (· < ·)) (hlen : rows.length ≤ 11)
    (h : ∀ D h' tk vs n, Fr h₀ L h' m → News h₀ L h' ((D, listOf (List.toArray vs) n) :: news) → (∀ q ∈ news, q.1 < D) → IntsAre vs (rows.map (·.num)) → Q (.ref D) { s with heap := h', toks := tk }) :
    wpAny (model prog w) A (call (.builtin "sorted") [.ref d]) Q E s := by
  obtain ⟨kvs, hD, lo, hrows⟩ := hs
  obtain ⟨ep, hat⟩ := hD.dictAt
  have hkl := hrows.length
  refine kdu_sorted (kdl_dict (knd := PySem.intKind prog w) (kvs := kvs) (ep := ep) lo) hh F N hat (by rw [sizeLine_eq]; omega) fun D h' tk vs F' N' l1 hl hv => ?_
  have hI := ints_of hl hv
  have ho := (N' _ (.head _)).1
  refine wpAny_call_entry slot_list_sort ⟨_, ho, rfl⟩ entry_list_sort (list_sort_tree ho hI (by omega) fun out ns' a1 a2 a3 => ⟨_, rfl, ?_⟩) (args_list_sort _)
  obtain ⟨e, he⟩ := sortedHeap_at (out := out) ho
  have hDlt : D < h'.objs.size := Heap.lt_size ho
  have hs1 : ∀ b o, b ≠ D → h'.get? b = some o → (sortedHeap h' D vs out).get? b = some o := fun b o hb q => by
    rw [sortedHeap_old hb (Heap.lt_size q)]; exact q
  have hD0 := (N' _ (.head _)).2
  have hns : ns' = rows.map (·.num) := by
    rw [hrows.keys] at a2
    exact perm_sorted a2 a3 (rising_nodup hr)
  rw [hns] at a1
  refine h D _ tk out.toList e ?_ ?_ l1 a1
  · exact fr_but (l := [D]) F' (fun b o hb q => hs1 b o (fun x => hb (x ▸ .head _)) q) (fun hm => hD0.1 (List.mem_singleton.mp hm).symm) (fun b hb => by rw [List.mem_singleton.mp hb]; exact hD0.2)
  · intro p hp
    rcases List.mem_cons.mp hp with rfl | hp
    · exact ⟨by simpa using he, hD0⟩
    · have z := N' p (.tail _ hp)
      exact ⟨hs1 _ _ (Nat.ne_of_lt (l1 p hp)) z.1, z.2⟩
theorem item_sent {value slice : PySem.Expr} {k : Int} {t : Tok} {Q : Value → Shared → Prop} (hs : SentAt prog w s.heap d rows) (hk : k ∈ rows.map (·.num))
    (h : ∀ a t1 t2 n, s.heap.get? a = some (tupObj #[.int (rowAt rows k).time t1, .int (rowAt rows k).size t2, .bool (rowAt rows k).odd, .bool (rowAt rows k).flag] n) → Q (.ref a) { s with toks := s.toks + 1 })
    (hsub : subscripted slice false (.ref d) (.int k t) = operate [.ref d, .int k t] (getItem (.ref d) (.int k t)) := by with_unfolding_all rfl) :
    wpAny (model prog w) A (subscriptTail value slice (.ref d) (.int k t)) Q E s := by
  obtain ⟨kvs, hD, lo, hrows⟩ := hs
  obtain ⟨a, t1, t2, n, h1, h2⟩ := hrows.at k hk
  exact tail_any hD.typeIs slot_dict_getitem.lookup (wpAny_getItem_of (intKind_is _ _ _ _) hD.mapOf h1 (h a t1 t2 n h2)) hsub
theorem item_tup {value slice : PySem.Expr} {a : Addr} {l : List Value} {n : Nat} {k : Int} {u : Tok} {j : Nat} {x : Value} {Q : Value → Shared → Prop} (ho : s.heap.get? a = some (tupObj l.toArray n))
    (hlo : -(2 ^ 63) ≤ k) (hhi : k < 2 ^ 63) (hj : seqIndex? k l.length = some j) (hx : l[j]? = some x) (h : Q x s)
    (hsub : subscripted slice false (.ref a) (.int k u) = operate [.ref a, .int k u] (getItem (.ref a) (.int k u)) := by with_unfolding_all rfl) :
    wpAny (model prog w) A (subscriptTail value slice (.ref a) (.int k u)) Q E s := item_tupleT ⟨_, ho, rfl, _, rfl⟩ hlo hhi hj hx h hsub
end
end Mine
namespace Mine
local macro_rules | `(tactic| walk_at "Pad0") => `(tactic| skip)
local macro_rules | `(tactic| walk_at "Pad1") => `(tactic| skip)
local macro_rules | `(tactic| walk_at "Pad2") => `(tactic| skip)
local macro_rules | `(tactic| walk_at "Pad3") => `(tactic| skip)
local macro_rules | `(tactic| walk_at "Pad4") => `(tactic| skip)
local macro_rules | `(tactic| walk_at "Pad5") => `(tactic| skip)
local macro_rules | `(tactic| walk_at "Pad6") => `(tactic| skip)
local macro_rules | `(tactic| walk_at "Pad7") => `(tactic| skip)
local macro_rules | `(tactic| walk_at "Pad8") => `(tactic| skip)
local macro_rules | `(tactic| walk_at "Pad9") => `(tactic| skip)
local macro_rules | `(tactic| walk_at "Pad10") => `(tactic| skip)
local macro_rules | `(tactic| walk_at "Pad11") => `(tactic| skip)
local macro_rules | `(tactic| walk_at "Pad12") => `(tactic| skip)
local macro_rules | `(tactic| walk_at "Pad13") => `(tactic| skip)
local macro_rules | `(tactic| walk_at "Pad14") => `(tactic| skip)
local macro_rules | `(tactic| walk_at "Pad15") => `(tactic| skip)
local macro_rules | `(tactic| walk_at "Pad16") => `(tactic| skip)
open PySem.Calls
local macro_rules | `(tactic| walk_at "MyEnter") => `(tactic| (
  refine' enter ?k1 ?k2 ?k3 ?k4 ?k6 ?k7 ?k8 ?k9 ?kB ?_ ?c2 ?c3 ?c4 ?c5
  (case k1 => assumption)
  (case k6 => k_dflt k_is)
  (case k7 => k_dflt k_is)
  (case k2 => exact Top.nolimit (by assumption))
  (case k3 => assumption)
  (case k4 => assumption)
  (case k8 => decide)
  (case k9 => exact BindsTo.of_eq rfl)
  (case c5 => decide)
  (case kB => exact locs rfl)
  (case c2 => exact rfl)
  (case c3 => exact rfl)
  (case c4 => exact rfl)))




theorem val_eq {Q : Value → Shared → Prop} {v v' : Value} {s : Shared} (e : v = v') (h : Q v s) : Q v' s := e ▸ h
set_option maxHeartbeats 8000000 in
theorem loss_delay_spec {w : World} {hb : Heap} {mg mb : Str → Option Value} {mean : ExcName → Option Value} {s : Shared} {Q E : Value → Shared → Prop} {l sm : Int} {tl ts : Tok}
    (X : (hd.heap_39 w.params).In hb) (T : Top hd.view_39 (looseW hd.view_39 []) mean mg mb hb) (hx : Ext hb s.heap)
    (h : ∀ t h' tk, Ext s.heap h' → Q (.int (if 1000 > (9 * if sm > l then sm else l).fdiv 8 then 1000 else (9 * if sm > l then sm else l).fdiv 8) t) { s with heap := h', toks := tk }) :
    wpAny (model PySem.Challenge.rw_no0042_01.row.prog w) AL (call (.ref 21) [.int l tl, .int sm ts]) Q E s := by
  w_top off
  revert X; k_fill; intro X
  have hn : ∀ p ∈ ([] : List (Addr × Obj)), s.heap.get? p.1 = some p.2 ∧ hb.get? p.1 = none := List.forall_mem_nil _
  walk_at "MyEnter"
  intro g L' h₁ hg hsg hgs F N
  have X' := X.keeps hg
  have T' := T.keeps hg
  (try dsimp only)
  k_unmd
  k_fold
  k_steps
  rename Fr _ _ _ _ => F'
  k_unmd
  (try k_unfold)
  (try dsimp only)
  exact h _ _ _ (ext0 hsg F')
set_option maxHeartbeats 8000000 in
theorem is_lost_spec {w : World} {hb : Heap} {mg mb : Str → Option Value} {mean : ExcName → Option Value} {s : Shared} {Q E : Value → Shared → Prop} {n at_ lg now dl : Int} {t1 t2 t3 t4 t5 : Tok}
    (X : (hd.heap_39 w.params).In hb) (T : Top hd.view_39 (looseW hd.view_39 []) mean mg mb hb) (hx : Ext hb s.heap)
    (h : ∀ h' tk, Ext s.heap h' → Q (.bool (decide (n + 3 ≤ lg) || decide (at_ + dl ≤ now))) { s with heap := h', toks := tk }) :
    wpAny (model PySem.Challenge.rw_no0042_01.row.prog w) AL (call (.ref 28) [.int n t1, .int at_ t2, .int lg t3, .int now t4, .int dl t5]) Q E s := by
  w_top off
  revert X; k_fill; intro X
  have hn : ∀ p ∈ ([] : List (Addr × Obj)), s.heap.get? p.1 = some p.2 ∧ hb.get? p.1 = none := List.forall_mem_nil _
  walk_at "MyEnter"
  intro g L' h₁ hg hsg hgs F N
  have X' := X.keeps hg
  have T' := T.keeps hg
  (try dsimp only)
  k_unmd
  k_fold
  k_steps
  all_goals k_unmd
  all_goals (try dsimp only)
  all_goals (try k_unfold)
  all_goals (try dsimp only)
  all_goals (
    rename Fr _ _ _ _ => F'
    refine val_eq ?_ (h _ _ (ext0 hsg F'))
    rename _ => ha
    simp [ha])
end Mine
namespace Mine
open PySem.Calls

inductive OptIs : Value → Option Int → Prop
  | none : OptIs .none none
  | some (i : Int) (t : Tok) : OptIs (.int i t) (some i)
def lostB (tm : Int → Int) (lg now dl n : Int) : Bool := decide (n + 3 ≤ lg) || decide (tm n + dl ≤ now)
def dstep (tm : Int → Int) (lg : Option Int) (now dl : Int) (acc : List Int × Option Int) (n : Int) : List Int × Option Int :=
  match lg with
  | none => acc
  | some g => if n > g then acc else if lostB tm g now dl n = true then (acc.1 ++ [n], acc.2) else
    match acc.2 with
    | none => (acc.1, some (tm n + dl))
    | some l => if tm n + dl < l then (acc.1, some (tm n + dl)) else acc
def detF (tm : Int → Int) (lg : Option Int) (now dl : Int) (ns : List Int) : List Int × Option Int := ns.foldl (dstep tm lg now dl) ([], none)
section
variable {w : World} {K : Frag} {A : Around} {E : Value → Shared → Prop} {s : Shared} {h₀ : Heap} {L : Addr} {m mg mb : Str → Option Value} {mean : ExcName → Option Value} {news : List (Addr × Obj)} {Q : Value → Shared → Prop}
theorem is_lost_K {n at_ lg now dl : Int} {t1 t2 t3 t4 t5 : Tok}
    (F : Fr h₀ L s.heap m) (N : News h₀ L s.heap news) (X : (hd.heap_39 w.params).In h₀) (T : Top hd.view_39 (looseW hd.view_39 []) mean mg mb h₀)
    (hh : A.handled = none) (hdp : A.depth ≤ 600) (hun : A.units ≤ 2000)
    (h : ∀ h' tk, Fr h₀ L h' m → News h₀ L h' news → Q (.bool (decide (n + 3 ≤ lg) || decide (at_ + dl ≤ now))) { s with heap := h', toks := tk }) :
    wpAny (model PySem.Challenge.rw_no0042_01.row.prog w) A (call (.ref 28) [.int n t1, .int at_ t2, .int lg t3, .int now t4, .int dl t5]) Q E s :=
  around_up (B := AL) hh hdp hun rfl rfl (is_lost_spec X T F.keep fun h' tk e => h h' tk (F.kept e) (N.grown e))
end
section
variable {prog : Program} {w : World} {A : Around} {E : Value → Shared → Prop} {s : Shared} {h₀ : Heap} {L D : Addr} {m : Str → Option Value} {news news' : List (Addr × Obj)} {n : Nat} {Q : Value → Shared → Prop}
theorem append_M {vs : List Value} {ns : List Int} {k : Int} {t : Tok} (F : Fr h₀ L s.heap m) (N : News h₀ L s.heap news) (U : Upd D (listOf vs.toArray n) (listOf (vs ++ [Value.int k t]).toArray (n + 1)) news news') (hi : IntsAre vs ns) (hz : ns.length ≤ 1000)
    (h : ∀ h', Fr h₀ L h' m → News h₀ L h' news' → IntsAre (vs ++ [Value.int k t]) (ns ++ [k]) → Q .none { s with heap := h' }) : wpAny (model prog w) A (call (.builtin "list.append") [.ref D, .int k t]) Q E s := by
  have hl := hi.length
  refine append_K (its := vs.toArray) (n := n) F N ?_ (fun h' F' N' => h h' F' N' (hi.append (.cons k t .nil))) (by rw [List.size_toArray, sizeLine_eq]; omega)
  rw [List.push_toArray]
  exact U
end
/-- the loop's letters -/
structure DS where
  lost : List Int
  lvs : List Value
  ln : Nat
  later : Value
  lat : Option Int
def ledD (Dl : Addr) (c : DS) : List (Addr × Obj) := [(Dl, listOf c.lvs.toArray c.ln)]
def psD (c : DS) : List (Str × Value) := [(Str.ofString "later", c.later)]
def factsD (_ : List (Addr × Obj)) (c : DS) : Prop := IntsAre c.lvs c.lost ∧ OptIs c.later c.lat
def wordD (tm : Int → Int) (lg : Option Int) (now dl : Int) (pre : List Int) (c : DS) : Prop := (c.lost, c.lat) = detF tm lg now dl pre ∧ c.lost.length ≤ pre.length
section
variable {prog : Program} {w : World} {A : Around} {E : Value → Shared → Prop} {s : Shared} {env : Env} {h₀ : Heap} {x : Str} {body : List Stmt} {Q : Flow → Shared → Prop}
theorem detect_iter {l Dl : Addr} {m₀ : Str → Option Value} {news : List (Addr × Obj)} {nn ln : Nat} {vs : List Value} {ns : List Int} (tm : Int → Int) (lg : Option Int) (now dl : Int)
    (hh : A.handled = none) (F : Fr h₀ env.locals s.heap m₀) (N : News h₀ env.locals s.heap news) (hi : IntsAre vs ns) (hml : (l, listOf vs.toArray nn) ∈ news) (hmd : (Dl, listOf #[] ln) ∈ news)
    (hlat : m₀ (Str.ofString "later") = some .none)
    (turn : ∀ (c : DS) tl (pre : List Int) (post : List Int) (n : Int) t (u : Str → Option Value) h tk own, ns = pre ++ n :: post → n ∈ ns → KdSep own tl [Dl, l] → OwnOff (tl ++ own) [Dl, l] → IntsAre c.lvs c.lost → OptIs c.later c.lat → (c.lost, c.lat) = detF tm lg now dl pre → c.lost.length ≤ pre.length →
      Fr h₀ env.locals h (fun y => if y = x then some (.int n t) else if y = Str.ofString "later" then some c.later else if [Str.ofString "sent_at"].contains y then u y else m₀ y) →
      News h₀ env.locals h ((Dl, listOf c.lvs.toArray c.ln) :: (l, listOf vs.toArray nn) :: (tl ++ own)) →
      wpAny (model prog w) A (execs body env) (InvPostG h₀ env.locals (KdS (ledD Dl) [(l, listOf vs.toArray nn)] psD factsD x [Str.ofString "sent_at"] m₀ (wordD tm lg now dl) [Dl, l] (pre ++ [n])) own { s with heap := h, toks := tk } Q) E { s with heap := h, toks := tk })
    (done : ∀ (c : DS) tl (u : Str → Option Value) h tk, OwnOff tl [Dl, l] → IntsAre c.lvs c.lost → OptIs c.later c.lat → (c.lost, c.lat) = detF tm lg now dl ns → c.lost.length ≤ ns.length →
      Fr h₀ env.locals h (fun y => if y = x then u y else if y = Str.ofString "later" then some c.later else if [Str.ofString "sent_at"].contains y then u y else m₀ y) →
      News h₀ env.locals h ((Dl, listOf c.lvs.toArray c.ln) :: (l, listOf vs.toArray nn) :: tl) → Q .next { s with heap := h, toks := tk }) :
    wpAny (model prog w) A (pyIter (.ref l)) (fun it s₂ => LoopAtV prog w A h₀ env x body Q E it s₂) E s := by
  refine kd_listI (ledD Dl) [(l, listOf vs.toArray nn)] psD factsD [Str.ofString "sent_at"] (wordD tm lg now dl) [Dl, l] ⟨[], [], ln, .none, none⟩ hh (.head _) hi F N ?_ (fun _ => rfl) ⟨.nil, .none⟩ ?_ ⟨rfl, Nat.le_refl _⟩ ?_ ?_
  · exact List.forall_mem_cons.mpr ⟨hmd, List.forall_mem_cons.mpr ⟨hml, List.forall_mem_nil _⟩⟩
  · exact List.forall_mem_cons.mpr ⟨hlat, List.forall_mem_nil _⟩
  · rintro c tl pre post n t u h tk own e hn hsep hoff ⟨f1, f2⟩ ⟨p1, p2⟩ F' N'
    exact turn c tl pre post n t u h tk own e hn hsep hoff f1 f2 p1 p2 F' N'
  · rintro c tl u h tk hoff ⟨f1, f2⟩ ⟨p1, p2⟩ F' N'
    exact done c tl u h tk hoff f1 f2 p1 p2 F' N'
theorem detect_end {l Dl L : Addr} {tm : Int → Int} {lg : Option Int} {now dl n : Int} {lost0 : List Int} {lat0 : Option Int} {m₀ m' : Str → Option Value} {own tl news' : List (Addr × Obj)} {pre lost : List Int} {nn ln : Nat} {vs lvs : List Value} {later : Value} {lat : Option Int} {s₁ : Shared} {h' : Heap} {tk : Nat}
    (h0 : KdSep own tl [Dl, l]) (F : Fr h₀ L h' m') (N : News h₀ L h' news') (hml : (l, listOf vs.toArray nn) ∈ news') (hmd : (Dl, listOf lvs.toArray ln) ∈ news') (hsub : ∀ p ∈ tl ++ own, p ∈ news')
    (hlat : m' (Str.ofString "later") = some later) (hrest : ∀ z, z ≠ x → z ≠ Str.ofString "later" → [Str.ofString "sent_at"].contains z = false → m' z = m₀ z)
    (hi : IntsAre lvs lost) (ho : OptIs later lat) (hc : (lost0, lat0) = detF tm lg now dl pre) (hw : (lost, lat) = dstep tm lg now dl (lost0, lat0) n) (hlen : lost.length ≤ lost0.length + 1) (hcl : lost0.length ≤ pre.length) :
    InvEndG h₀ L (KdS (ledD Dl) [(l, listOf vs.toArray nn)] psD factsD x [Str.ofString "sent_at"] m₀ (wordD tm lg now dl) [Dl, l] (pre ++ [n])) own s₁ { s₁ with heap := h', toks := tk } := by
  refine kd_end (⟨lost, lvs, ln, later, lat⟩ : DS) [] h0 F N ?_ (fun p hp => hsub p (List.mem_append.mpr (.inr hp))) rfl (List.forall_mem_nil _) (List.forall_mem_nil _) ?_ ?_ ⟨hi, ho⟩ ⟨?_, ?_⟩
  · exact List.forall_mem_cons.mpr ⟨hmd, List.forall_mem_cons.mpr ⟨hml, fun p hp => hsub p (List.mem_append.mpr (.inl hp))⟩⟩
  · exact List.forall_mem_cons.mpr ⟨hlat, List.forall_mem_nil _⟩
  · intro z h1 h2 h3
    exact hrest z h1 (h2 _ (.head _)) h3
  · show (lost, lat) = detF tm lg now dl (pre ++ [n])
    unfold detF at hc ⊢
    rw [List.foldl_append, ← hc]
    exact hw
  · show lost.length ≤ (pre ++ [n]).length
    rw [List.length_append]
    show lost.length ≤ pre.length + 1
    omega
end
end Mine
namespace Mine
local macro_rules | `(tactic| walk_at "Pad0") => `(tactic| skip)
local macro_rules | `(tactic| walk_at "Pad1") => `(tactic| skip)
local macro_rules | `(tactic| walk_at "Pad2") => `(tactic| skip)
local macro_rules | `(tactic| walk_at "Pad3") => `(tactic| skip)
local macro_rules | `(tactic| walk_at "Pad4") => `(tactic| skip)
local macro_rules | `(tactic| walk_at "Pad5") => `(tactic| skip)
local macro_rules | `(tactic| walk_at "Pad6") => `(tactic| skip)
local macro_rules | `(tactic| walk_at "Pad7") => `(tactic| skip)
local macro_rules | `(tactic| walk_at "Pad8") => `(tactic| skip)
local macro_rules | `(tactic| walk_at "Pad9") => `(tactic| skip)
local macro_rules | `(tactic| walk_at "Pad10") => `(tactic| skip)
local macro_rules | `(tactic| walk_at "Pad11") => `(tactic| skip)
local macro_rules | `(tactic| walk_at "Pad12") => `(tactic| skip)
local macro_rules | `(tactic| walk_at "Pad13") => `(tactic| skip)
local macro_rules | `(tactic| walk_at "Pad14") => `(tactic| skip)
local macro_rules | `(tactic| walk_at "Pad15") => `(tactic| skip)
local macro_rules | `(tactic| walk_at "Pad16") => `(tactic| skip)
local macro_rules | `(tactic| walk_at "Pad17") => `(tactic| skip)
local macro_rules | `(tactic| walk_at "Pad18") => `(tactic| skip)
open PySem.Calls
local macro_rules | `(tactic| walk_at "MyEnter") => `(tactic| (
  refine' enter ?k1 ?k2 ?k3 ?k4 ?k6 ?k7 ?k8 ?k9 ?kB ?_ ?c2 ?c3 ?c4 ?c5
  (case k1 => assumption)
  (case k6 => k_dflt k_is)
  (case k7 => k_dflt k_is)
  (case k2 => exact Top.nolimit (by assumption))
  (case k3 => assumption)
  (case k4 => assumption)
  (case k8 => decide)
  (case k9 => exact BindsTo.of_eq rfl)
  (case c5 => decide)
  (case kB => exact locs rfl)
  (case c2 => exact rfl)
  (case c3 => exact rfl)
  (case c4 => exact rfl)))





local macro_rules | `(tactic| walk_at "call ref") => `(tactic| (k_here; (with_reducible show wpAny _ _ (call (Value.ref 28) _) _ _ _); k_dflt (refine' is_lost_K ?F ?N ?X ?T ?h ?d ?u ?_; (case F => k_asm); (case N => k_asm); (case X => k_asm); (case T => k_asm); (case h => rfl); (case d => exact Nat.le_of_ble_eq_true rfl); (case u => exact Nat.le_of_ble_eq_true rfl)); intro h' tk' F' N'; (try dsimp only); (try k_sweep)))
local macro_rules | `(tactic| walk_at "call builtin:sorted") => `(tactic| (k_here; k_dflt (refine' sorted_K ?h ?F ?N ?s ?r ?l ?_; (case h => rfl); (case F => k_asm); (case N => k_asm); (case s => exact SentAt.mono (by assumption) (Fr.keep (by assumption))); (case r => assumption); (case l => assumption)); intro D' h' tk' vs' n' F' N' l1 hI'; (try k_lt l1); (try dsimp only); (try k_sweep)))
local macro_rules | `(tactic| walk_at "subscriptTail") => `(tactic| (k_here; (with_reducible show wpAny _ _ (subscriptTail _ _ (Value.ref _) (Value.int _ _)) _ _ _); k_dflt (first
  | (refine' item_sent ?s ?k ?_; (case s => exact SentAt.mono (by assumption) (Fr.keep (by assumption))); (case k => assumption); intro a' t1' t2' n' ho')
  | (refine' item_tup ?o ?lo ?hi ?j ?x ?_; (case o => assumption); (case lo => decide); (case hi => decide); (case j => exact rfl); (case x => exact rfl)))))
local macro_rules | `(tactic| walk_at "call builtin:list.append") => `(tactic| (k_here; (with_reducible show wpAny _ _ (call (Value.builtin _) [Value.ref _, Value.int _ _]) _ _ _); k_dflt (refine' append_M ?F ?N ?U ?i ?z ?_; (case F => k_asm); (case N => k_asm); (case U => k_upd); (case i => assumption); (case z => omega)); intro h' F' N' hI'; (try k_sweep)))
local macro_rules | `(tactic| walk_at "DetEnd") => `(tactic| (
  k_unmd
  (rename Fr _ _ _ _ => F9)
  (rename News _ _ _ _ => N9)
  refine' detect_end (by assumption) F9 N9 ?ml ?md ?sub ?lat ?rest ?hi ?ho (by assumption) ?hw ?len (by assumption)
  (case ml => k_mem)
  (case md => k_mem)
  (case sub => (intro p hp; repeat' (first | exact hp | refine List.Mem.tail _ ?_)))
  (case lat => exact rfl)
  (case rest => (
    intro z h1 h2 h3
    have h5 : z ≠ Str.ofString "sent_at" := (fun e => by rw [e] at h3; exact absurd h3 (by decide))
    simp only [h1, h2, h3, h5, if_false, Bool.false_eq_true]))
  (case hi => assumption)
  (case ho => first | assumption | exact OptIs.none | exact OptIs.some _ _)
  (case hw => first | rfl | (simp only [dstep, lostB]; simp [*]; done) | (simp only [dstep, lostB]; simp_all; done) | (simp only [dstep, lostB]; split <;> simp_all <;> omega))
  (case len => (try simp only [List.length_append, List.length_cons, List.length_nil]); omega)))
def Stop9 (P : Prop) : Prop := P
theorem stop9 {P : Prop} (h : Stop9 P) : P := h
local macro_rules | `(tactic| walk_at "pyIter ref") => `(tactic| (refine stop9 ?_))

set_option maxHeartbeats 8000000 in
theorem detect_spec {w : World} {hb : Heap} {mg mb : Str → Option Value} {mean : ExcName → Option Value} {s : Shared} {Q E : Value → Shared → Prop} {d : Addr} {rows : List Row} {now dl : Int} {t1 t2 : Tok} {lgV : Value} {lg : Option Int}
    (X : (hd.heap_39 w.params).In hb) (T : Top hd.view_39 (looseW hd.view_39 []) mean mg mb hb) (hx : Ext hb s.heap)
    (hs : SentAt PySem.Challenge.rw_no0042_01.row.prog w s.heap d rows) (hr : (rows.map (·.num)).Pairwise (· < ·)) (hlen : rows.length ≤ 11) (hlg : OptIs lgV lg)
    (hq : ∀ D Dl h' tk vs n later nD, Ext s.heap h' → s.heap.get? D = none → s.heap.get? Dl = none → (@LT.lt Nat _ Dl D) → h'.get? D = some (tupObj #[.ref Dl, later] nD) → h'.get? Dl = some (listOf (List.toArray vs) n) → IntsAre vs (detF (fun k => (rowAt rows k).time) lg now dl (rows.map (·.num))).1 → OptIs later (detF (fun k => (rowAt rows k).time) lg now dl (rows.map (·.num))).2 →
      Q (.ref D) { s with heap := h', toks := tk }) :
    wpAny (model PySem.Challenge.rw_no0042_01.row.prog w) AM (call (.ref 35) [.ref d, lgV, .int now t1, .int dl t2]) Q E s := by
  w_top off
  revert X; k_fill; intro X
  have hn : ∀ p ∈ ([] : List (Addr × Obj)), s.heap.get? p.1 = some p.2 ∧ hb.get? p.1 = none := List.forall_mem_nil _
  cases hlg
  case none =>
    walk_at "MyEnter"
    intro g L' h₁ hg hsg hgs F N
    have X' := X.keeps hg
    have T' := T.keeps hg
    have hs' : SentAt PySem.Challenge.rw_no0042_01.row.prog w g d rows := hs.mono (fun b o e => hsg b o (by simp) e)
    (try dsimp only)
    k_unmd
    k_fold
    k_steps
    unfold Stop9
    refine' detect_iter (fun k => (rowAt rows k).time) none now dl ?hh ?F ?N ?hi ?hml ?hmd ?hlat ?turn ?done
    (case hh => rfl)
    (case F => k_asm)
    (case N => k_asm)
    (case hi => assumption)
    (case hml => k_mem)
    (case hmd => k_mem)
    (case hlat => exact rfl)
    case turn =>
      intro c tl pre post n t u h tk own he hmem hsep hoff hI hO hc hcl F' N'
      k_sweep
      k_unmd
      k_fold
      k_steps
      walk_at "DetEnd"
    case done =>
      intro c tl u h tk hoff hI hO hc hcl F' N'
      k_sweep
      k_unmd
      k_steps
      (rename Fr _ _ _ _ => F9)
      (rename News _ _ _ _ => N9)
      k_unmd
      (try k_unfold)
      (try dsimp only)
      rw [← hc] at hq
      exact hq _ _ _ _ _ _ _ _ (ext0 hsg F9) (fresh0 hsg (N9 _ (.head _)).2.2) (fresh0 hsg (N9 _ (.tail _ (.head _))).2.2) (by omega) (N9 _ (.head _)).1 (N9 _ (.tail _ (.head _))).1 hI hO
  case some i ti =>
    walk_at "MyEnter"
    intro g L' h₁ hg hsg hgs F N
    have X' := X.keeps hg
    have T' := T.keeps hg
    have hs' : SentAt PySem.Challenge.rw_no0042_01.row.prog w g d rows := hs.mono (fun b o e => hsg b o (by simp) e)
    (try dsimp only)
    k_unmd
    k_fold
    k_steps
    unfold Stop9
    refine' detect_iter (fun k => (rowAt rows k).time) (some i) now dl ?hh ?F ?N ?hi ?hml ?hmd ?hlat ?turn ?done
    (case hh => rfl)
    (case F => k_asm)
    (case N => k_asm)
    (case hi => assumption)
    (case hml => k_mem)
    (case hmd => k_mem)
    (case hlat => exact rfl)
    case turn =>
      intro c tl pre post n t u h tk own he hmem hsep hoff hI hO hc hcl F' N'
      k_sweep
      k_unmd
      k_fold
      obtain ⟨lost, lvs, ln, later, lat⟩ := c
      dsimp only at hI hO hc hcl F' N'
      have hpl : lost.length ≤ 11 := by
        have := congrArg List.length he
        simp at this
        omega
      cases hO
      all_goals (
        k_steps
        all_goals walk_at "DetEnd")
    case done =>
      intro c tl u h tk hoff hI hO hc hcl F' N'
      k_sweep
      k_unmd
      k_steps
      (rename Fr _ _ _ _ => F9)
      (rename News _ _ _ _ => N9)
      k_unmd
      (try k_unfold)
      (try dsimp only)
      rw [← hc] at hq
      exact hq _ _ _ _ _ _ _ _ (ext0 hsg F9) (fresh0 hsg (N9 _ (.head _)).2.2) (fresh0 hsg (N9 _ (.tail _ (.head _))).2.2) (by omega) (N9 _ (.head _)).1 (N9 _ (.tail _ (.head _))).1 hI hO
end Mine
namespace Mine
local macro_rules | `(tactic| walk_at "Pad0") => `(tactic| skip)
local macro_rules | `(tactic| walk_at "Pad1") => `(tactic| skip)
local macro_rules | `(tactic| walk_at "Pad2") => `(tactic| skip)
local macro_rules | `(tactic| walk_at "Pad3") => `(tactic| skip)
local macro_rules | `(tactic| walk_at "Pad4") => `(tactic| skip)
local macro_rules | `(tactic| walk_at "Pad5") => `(tactic| skip)
local macro_rules | `(tactic| walk_at "Pad6") => `(tactic| skip)
local macro_rules | `(tactic| walk_at "Pad7") => `(tactic| skip)
local macro_rules | `(tactic| walk_at "Pad8") => `(tactic| skip)
local macro_rules | `(tactic| walk_at "Pad9") => `(tactic| skip)
local macro_rules | `(tactic| walk_at "Pad10") => `(tactic| skip)
local macro_rules | `(tactic| walk_at "Pad11") => `(tactic| skip)
local macro_rules | `(tactic| walk_at "Pad12") => `(tactic| skip)
local macro_rules | `(tactic| walk_at "Pad13") => `(tactic| skip)
local macro_rules | `(tactic| walk_at "Pad14") => `(tactic| skip)
local macro_rules | `(tactic| walk_at "Pad15") => `(tactic| skip)
local macro_rules | `(tactic| walk_at "Pad16") => `(tactic| skip)
local macro_rules | `(tactic| walk_at "Pad17") => `(tactic| skip)
local macro_rules | `(tactic| walk_at "Pad18") => `(tactic| skip)
local macro_rules | `(tactic| walk_at "Pad19") => `(tactic| skip)
local macro_rules | `(tactic| walk_at "Pad20") => `(tactic| skip)
local macro_rules | `(tactic| walk_at "Pad21") => `(tactic| skip)
local macro_rules | `(tactic| walk_at "Pad22") => `(tactic| skip)
local macro_rules | `(tactic| walk_at "Pad23") => `(tactic| skip)
local macro_rules | `(tactic| walk_at "Pad24") => `(tactic| skip)
local macro_rules | `(tactic| walk_at "Pad25") => `(tactic| skip)
local macro_rules | `(tactic| walk_at "Pad26") => `(tactic| skip)
open PySem.Calls

def nstep (tm : Int → Int) (fl : Int → Bool) (acc : Option Int) (n : Int) : Option Int :=
  if fl n = true then (match acc with | none => some (tm n) | some f => if f < tm n then some (tm n) else some f) else acc
def newF (tm : Int → Int) (fl : Int → Bool) (ns : List Int) : Option Int := ns.foldl (nstep tm fl) none
structure NS where
  found : Value
  fo : Option Int
def psN (c : NS) : List (Str × Value) := [(Str.ofString "found", c.found)]
def factsN (_ : List (Addr × Obj)) (c : NS) : Prop := OptIs c.found c.fo
def wordN (tm : Int → Int) (fl : Int → Bool) (pre : List Int) (c : NS) : Prop := c.fo = newF tm fl pre
section
variable {prog : Program} {w : World} {A : Around} {E : Value → Shared → Prop} {s : Shared} {env : Env} {h₀ : Heap} {x : Str} {body : List Stmt} {Q : Flow → Shared → Prop}
theorem newest_iter {l : Addr} {m₀ : Str → Option Value} {news : List (Addr × Obj)} {vs : List Value} {ns : List Int} (tm : Int → Int) (fl : Int → Bool)
    (hh : A.handled = none) (F : Fr h₀ env.locals s.heap m₀) (N : News h₀ env.locals s.heap news) (hl : h₀.IsList l vs.toArray) (hi : IntsAre vs ns)
    (hlat : m₀ (Str.ofString "found") = some .none)
    (turn : ∀ (found : Value) (fo : Option Int) tl (pre : List Int) (n : Int) t (u : Str → Option Value) h tk own, n ∈ ns → KdSep own tl [] → OptIs found fo → fo = newF tm fl pre →
      Fr h₀ env.locals h (fun y => if y = x then some (.int n t) else if y = Str.ofString "found" then some found else m₀ y) →
      News h₀ env.locals h (tl ++ own) →
      wpAny (model prog w) A (execs body env) (InvPostG h₀ env.locals (KdS (fun _ => []) [] psN factsN x [] m₀ (wordN tm fl) [] (pre ++ [n])) own { s with heap := h, toks := tk } Q) E { s with heap := h, toks := tk })
    (done : ∀ (found : Value) (fo : Option Int) tl (u : Str → Option Value) h tk, OptIs found fo → fo = newF tm fl ns →
      Fr h₀ env.locals h (fun y => if y = x then u y else if y = Str.ofString "found" then some found else m₀ y) →
      News h₀ env.locals h tl → Q .next { s with heap := h, toks := tk }) :
    wpAny (model prog w) A (pyIter (.ref l)) (fun it s₂ => LoopAtV prog w A h₀ env x body Q E it s₂) E s := by
  refine kd_list (fun _ => []) [] psN factsN [] (wordN tm fl) [] ⟨.none, none⟩ hh hl hi F N (List.forall_mem_nil _) (fun _ => rfl) .none ?_ rfl ?_ ?_
  · exact List.forall_mem_cons.mpr ⟨hlat, List.forall_mem_nil _⟩
  · rintro ⟨found, fo⟩ tl pre post n t u h tk own e hn hsep hoff f1 p1 F' N'
    exact turn found fo tl pre n t u h tk own hn hsep f1 p1 F' N'
  · rintro ⟨found, fo⟩ tl u h tk hoff f1 p1 F' N'
    exact done found fo tl u h tk f1 p1 F' N'
theorem newest_end {L : Addr} {tm : Int → Int} {fl : Int → Bool} {n : Int} {fo0 fo : Option Int} {found : Value} {m₀ m' : Str → Option Value} {own tl news' : List (Addr × Obj)} {pre : List Int} {s₁ : Shared} {h' : Heap} {tk : Nat}
    (h0 : KdSep own tl []) (F : Fr h₀ L h' m') (N : News h₀ L h' news') (hsub : ∀ p ∈ tl ++ own, p ∈ news')
    (hlat : m' (Str.ofString "found") = some found) (hrest : ∀ z, z ≠ x → z ≠ Str.ofString "found" → m' z = m₀ z)
    (ho : OptIs found fo) (hc : fo0 = newF tm fl pre) (hw : fo = nstep tm fl fo0 n) :
    InvEndG h₀ L (KdS (fun _ => []) [] psN factsN x [] m₀ (wordN tm fl) [] (pre ++ [n])) own s₁ { s₁ with heap := h', toks := tk } := by
  refine kd_end (⟨found, fo⟩ : NS) [] h0 F N (fun p hp => hsub p (List.mem_append.mpr (.inl hp))) (fun p hp => hsub p (List.mem_append.mpr (.inr hp))) rfl (List.forall_mem_nil _) (List.forall_mem_nil _) ?_ ?_ ho ?_
  · exact List.forall_mem_cons.mpr ⟨hlat, List.forall_mem_nil _⟩
  · intro z h1 h2 _
    exact hrest z h1 (h2 _ (.head _))
  · show fo = newF tm fl (pre ++ [n])
    unfold newF at hc ⊢
    rw [List.foldl_append, ← hc]
    exact hw
end
local macro_rules | `(tactic| walk_at "MyEnter") => `(tactic| (
  refine' enter ?k1 ?k2 ?k3 ?k4 ?k6 ?k7 ?k8 ?k9 ?kB ?_ ?c2 ?c3 ?c4 ?c5
  (case k1 => assumption)
  (case k6 => k_dflt k_is)
  (case k7 => k_dflt k_is)
  (case k2 => exact Top.nolimit (by assumption))
  (case k3 => assumption)
  (case k4 => assumption)
  (case k8 => decide)
  (case k9 => exact BindsTo.of_eq rfl)
  (case c5 => decide)
  (case kB => exact locs rfl)
  (case c2 => exact rfl)
  (case c3 => exact rfl)
  (case c4 => exact rfl)))





local macro_rules | `(tactic| walk_at "subscriptTail") => `(tactic| (k_here; (with_reducible show wpAny _ _ (subscriptTail _ _ (Value.ref _) (Value.int _ _)) _ _ _); k_dflt (first
  | (refine' item_sent ?s ?k ?_; (case s => exact SentAt.mono (by assumption) (Fr.keep (by assumption))); (case k => assumption); intro a' t1' t2' n' ho')
  | (refine' item_tup ?o ?lo ?hi ?j ?x ?_; (case o => assumption); (case lo => decide); (case hi => decide); (case j => exact rfl); (case x => exact rfl)))))

local macro_rules | `(tactic| walk_at "NewEnd") => `(tactic| (
  k_unmd
  (rename Fr _ _ _ _ => F9)
  (rename News _ _ _ _ => N9)
  refine' newest_end (by assumption) F9 N9 ?sub ?lat ?rest ?ho (by assumption) ?hw
  (case sub => (intro p hp; exact hp))
  (case lat => exact rfl)
  (case rest => (intro z h1 h2; simp only [h1, h2, if_false]))
  (case ho => first | assumption | exact OptIs.none | exact OptIs.some _ _)
  (case hw => (simp only [nstep]; simp [*]))))
def Stop10 (P : Prop) : Prop := P
theorem stop10 {P : Prop} (h : Stop10 P) : P := h
local macro_rules | `(tactic| walk_at "pyIter ref") => `(tactic| (refine stop10 ?_))
local macro_rules | `(tactic| walk_at "exec For Name Name cons nil") => `(tactic| (k_here; (rename Fr _ _ _ _ => lF'); (with_unfolding_all refine' For_invVF lF' ?k1 ?k2 ?_; (case k1 => exact rfl); (case k2 => exact rfl); k_whole)))
set_option maxHeartbeats 8000000 in
theorem newest_spec {w : World} {hb : Heap} {mg mb : Str → Option Value} {mean : ExcName → Option Value} {s : Shared} {Q E : Value → Shared → Prop} {d l : Addr} {rows : List Row} {vs : List Value} {ns : List Int}
    (X : (hd.heap_39 w.params).In hb) (T : Top hd.view_39 (looseW hd.view_39 []) mean mg mb hb) (hx : Ext hb s.heap)
    (hs : SentAt PySem.Challenge.rw_no0042_01.row.prog w s.heap d rows) (hl : s.heap.IsList l vs.toArray) (hi : IntsAre vs ns) (hmem : ∀ n ∈ ns, n ∈ rows.map (·.num))
    (hq : ∀ h' tk v, Ext s.heap h' → OptIs v (newF (fun k => (rowAt rows k).time) (fun k => (rowAt rows k).flag) ns) → Q v { s with heap := h', toks := tk }) :
    wpAny (model PySem.Challenge.rw_no0042_01.row.prog w) AM (call (.ref 42) [.ref d, .ref l]) Q E s := by
  w_top off
  revert X; k_fill; intro X
  have hn : ∀ p ∈ ([] : List (Addr × Obj)), s.heap.get? p.1 = some p.2 ∧ hb.get? p.1 = none := List.forall_mem_nil _
  walk_at "MyEnter"
  intro g L' h₁ hg hsg hgs F N
  have X' := X.keeps hg
  have T' := T.keeps hg
  have hs' : SentAt PySem.Challenge.rw_no0042_01.row.prog w g d rows := hs.mono (fun b o e => hsg b o (by simp) e)
  have hl' : g.IsList l vs.toArray := stays_list (fun b o e => hsg b o (by simp) e) hl
  (try dsimp only)
  k_unmd
  k_fold
  k_steps
  unfold Stop10
  refine' newest_iter (fun k => (rowAt rows k).time) (fun k => (rowAt rows k).flag) ?hh ?F ?N ?hl ?hi ?hlat ?turn ?done
  (case hh => rfl)
  (case F => k_asm)
  (case N => k_asm)
  (case hl => assumption)
  (case hi => assumption)
  (case hlat => exact rfl)
  case turn =>
    intro found fo tl pre n t u h tk own hm hsep hO hc F' N'
    have hm' := hmem n hm
    k_sweep
    k_unmd
    k_fold
    cases hO
    all_goals (
      k_steps
      all_goals walk_at "NewEnd")
  case done =>
    intro found fo tl u h tk hO hc F' N'
    k_sweep
    k_unmd
    k_steps
    (rename Fr _ _ _ _ => F9)
    k_unmd
    (try dsimp only)
    (try k_unfold)
    (try dsimp only)
    rw [hc] at hO
    exact hq _ _ _ (ext0 hsg F9) hO
end Mine
namespace Mine
open PySem.Calls
section
variable {prog : Program} {w : World} {A : Around} {E : Value → Shared → Prop} {s : Shared} {hb : Heap} {K : Frag} {Q : Value → Shared → Prop}
  {name qual : Str} {params : Arguments} {body : List Stmt} {scope : Scope} {dV kV doc pm cdv ct oc : Value} {an od : Option Addr} {osl : Array (Option Value)} {f : Addr} {pos : List Value} {binds : List (Str × Value)}
/-- a call of a def with cells: all that stands is frozen -/
theorem enterC (X : K.In hb) (hl : hb.NoLimit) (hx : Ext hb s.heap)
    (ho : K.lookup f = some ⟨oc, od, .func (fnOf name qual params body scope dV kV doc pm an cdv ct), osl⟩) (hcd : codeIn K cdv qual = true) (hroom : A.depth < recursionLimit)
    (hbind : BindsTo s (fnOf name qual params body scope dV kV doc pm an cdv ct) ⟨pos, []⟩ binds) (hkind : (binds.all fun y => scope.names.lookup y.1 == some .local || scope.names.lookup y.1 == some .cell) = true)
    (hnd : ((cellsFrom 0 scope.names []).map (·.1)).Nodup)
    (h : ∀ L' h₁ tk cells, Fr s.heap L' h₁ (bindL (envOfC qual scope L' f cdv).kindOf binds fun _ => none) → News s.heap L' h₁ cells →
      CellsAre (bindC (envOfC qual scope L' f cdv).kindOf binds fun _ => none) (cellsFrom (L' + 1) scope.names []) cells →
      wpAny (model prog w) (A.deeper (envOfC qual scope L' f cdv)) (execs body (envOfC qual scope L' f cdv))
        (fun fl s' => Q (match fl with | .ret v => v | _ => .none) s') (fun _ _ => False) { s with heap := h₁, toks := tk })
    (hco : scope.isCoroutine = false) (hgen : scope.isGenerator = false) (hk : scope.kind = .function) :
    wpAny (model prog w) A (call (.ref f) pos) Q E s := by
  refine wpAny_call ?_
  refine codeAny_call_function (fd := fnX name qual params body scope [] dV kV doc pm an cdv ct) hroom ((X.keeps hx) _ _ ho) rfl hco hgen rfl (codeRec_of (X.keeps hx) hcd) (hbind _ _ _ _ ?_)
  refine wpAny_newFunctionEnv_cells hk (kindsX hkind _) fun env' he s' x => ?_
  subst he
  refine ⟨(hl.keeps hx).keeps x.toInCall.keep, codeAny_func ?_⟩
  obtain ⟨h₁, tk, rfl, _⟩ := x.done
  have hk₁ := x.toInCall.keep
  obtain ⟨cells, NC, Y⟩ := Cl.news (h₀ := s.heap) (Nat.le_refl _) fun n c hm => ⟨x.cell n c (lookup_of_mem_nodup (cellsFrom_names scope.names 0 (s.heap.objs.size + 1) [] [] rfl ▸ hnd) hm), x.above n c hm⟩
  refine wpAny_mono (h s.heap.objs.size h₁ tk cells ⟨x.toInCall.ns, hk₁, Nat.le_refl _⟩ NC Y) (fun fl s' hq => hq) fun _ _ y => y.elim
end
/-- two lists, item by item -/
inductive All2 {α : Type} (R : α → Value → Prop) : List α → List Value → Prop
  | nil : All2 R [] []
  | cons {a : α} {v : Value} {as : List α} {vs : List Value} : R a v → All2 R as vs → All2 R (a :: as) (v :: vs)
theorem All2.length {α : Type} {R : α → Value → Prop} {as : List α} {vs : List Value} (h : All2 R as vs) : vs.length = as.length := by
  induction h with
  | nil => rfl
  | cons _ _ ih => simp [ih]
theorem All2.snoc {α : Type} {R : α → Value → Prop} {as : List α} {vs : List Value} (h : All2 R as vs) {a : α} {v : Value} (h1 : R a v) : All2 R (as ++ [a]) (vs ++ [v]) := by
  induction h with
  | nil => exact .cons h1 .nil
  | cons h2 _ ih => exact .cons h2 ih
theorem All2.get {α : Type} {R : α → Value → Prop} {as : List α} {vs : List Value} (h : All2 R as vs) : ∀ {i : Nat} {v : Value}, vs[i]? = some v → ∃ a, as[i]? = some a ∧ R a v := by
  induction h with
  | nil => intro i v e; simp at e
  | cons h1 _ ih =>
    intro i v e
    cases i with
    | zero => exact ⟨_, rfl, by simpa using (by simpa using e : _ = v) ▸ h1⟩
    | succ j => exact ih (by simpa using e)
def IntV (k : Int) (v : Value) : Prop := ∃ t, v = .int k t
theorem All2.ints {ns : List Int} {vs : List Value} (h : All2 IntV ns vs) : IntsAre vs ns := by
  induction h with
  | nil => exact .nil
  | cons h1 _ ih => obtain ⟨t, rfl⟩ := h1; exact .cons _ t ih
theorem ints_all2 {ns : List Int} {vs : List Value} (h : IntsAre vs ns) : All2 IntV ns vs := by
  induction h with
  | nil => exact .nil
  | cons n t _ ih => exact .cons ⟨t, rfl⟩ ih
theorem All2.mono {α : Type} {R R' : α → Value → Prop} {as : List α} {vs : List Value} (h : All2 R as vs) (hr : ∀ a v, a ∈ as → R a v → R' a v) : All2 R' as vs := by
  induction h with
  | nil => exact .nil
  | cons h1 _ ih => exact .cons (hr _ _ (.head _) h1) (ih fun a v ha => hr a v (.tail _ ha))
theorem All2.map {α β : Type} {f : β → α} {R : α → Value → Prop} {as : List β} {vs : List Value} (h : All2 (fun b v => R (f b) v) as vs) : All2 R (as.map f) vs := by
  induction h with
  | nil => exact .nil
  | cons h1 _ ih => exact .cons h1 ih
section
open LCg
variable {prog : Program} {w : World} {A : Around} {h₀ : Heap} {L : Addr} {m : Str → Option Value} {env : Env} {ct elt : Expr} {x : Str} {scope : Scope} {cl : List (Str × Addr)} {s : Shared} {S : List (Addr × Obj) → Prop} {Fin : List Value → List (Addr × Obj) → Prop} {news : List (Addr × Obj)}
theorem rest_T {α : Type} {vs : List Value} {as : List α} (Src F : α → Value → Prop) (pz : α → Bool) (hsrc : All2 Src as vs) (hS : S news)
    (tests : ∀ a v I oI C oC D m₂ ys h tk (E' : Value → Shared → Prop), a ∈ as → Src a v → NsObj oC m₂ → m₂ x = some v → Fr h₀ L h m → News h₀ L h ((I, oI) :: (C, oC) :: (D, lst ys) :: news) →
      wpAny (model prog w) A (isTrue ct (compEnvC scope cl C env) (eval ct (compEnvC scope cl C env))) (fun b s' => b = pz a ∧ ∃ tk', s' = { s with heap := h, toks := tk' }) E' { s with heap := h, toks := tk })
    (elts : ∀ a v I oI C oC D m₂ ys h tk (E' : Value → Shared → Prop), a ∈ as → Src a v → pz a = true → NsObj oC m₂ → m₂ x = some v → Fr h₀ L h m → News h₀ L h ((I, oI) :: (C, oC) :: (D, lst ys) :: news) →
      wpAny (model prog w) A (eval elt (compEnvC scope cl C env)) (fun y s' => F a y ∧ ∃ tk', s' = { s with heap := h, toks := tk' }) E' { s with heap := h, toks := tk })
    (fin : ∀ ys, All2 F (as.filter pz) ys → Fin ys news) : LCt.CompRestT prog w A h₀ L m env ct elt x scope cl s S (fun i v => vs.toArray[i]? = some v) Fin vs.toArray.size 0 [] news := by
  have hlen := hsrc.length
  have key : ∀ (j i : Nat) (ys : List Value), i + j = as.length → All2 F ((as.take i).filter pz) ys → LCt.CompRestT prog w A h₀ L m env ct elt x scope cl s S (fun i v => vs.toArray[i]? = some v) Fin j i ys news := by
    intro j
    induction j with
    | zero =>
      intro i ys hi hy
      have e : i = as.length := by omega
      subst e
      rw [List.take_length] at hy
      exact LCt.CompRestT.zero (fin ys hy)
    | succ j ih =>
      intro i ys hi hy
      refine LCt.CompRestT.succ ?_
      intro v I oI C oC D m₂ h tk E' hv hC hx F' N' off ne
      obtain ⟨a, ha, hs⟩ := hsrc.get (by simpa using hv)
      have hm := List.mem_of_getElem? ha
      have ht : as.take (i + 1) = as.take i ++ [a] := by rw [List.take_add_one, ha]; rfl
      refine wpAny_mono (tests a v I oI C oC D m₂ ys h tk E' hm hs hC hx F' N') (fun b s₂ hq => ?_) fun _ _ e => e
      obtain ⟨hb, tk', rfl⟩ := hq
      cases hp : pz a with
      | true =>
        rw [hb, hp]
        simp only [if_true]
        refine wpAny_mono (elts a v I oI C oC D m₂ ys h tk' E' hm hs hp hC hx F' N') (fun y s₃ hr => ?_) fun _ _ e => e
        obtain ⟨hy', tk'', rfl⟩ := hr
        refine ⟨h, tk'', news, rfl, F', N', off, hS, ih (i + 1) _ (by omega) ?_⟩
        rw [ht, List.filter_append]
        simp only [List.filter_cons, hp, if_true, List.filter_nil]
        exact hy.snoc hy'
      | false =>
        rw [hb, hp]
        simp only [Bool.false_eq_true, if_false]
        refine ⟨h, tk', news, rfl, F', N', off, hS, ih (i + 1) _ (by omega) ?_⟩
        rw [ht, List.filter_append]
        simp only [List.filter_cons, hp, Bool.false_eq_true, if_false, List.filter_nil, List.append_nil]
        exact hy
  refine key _ 0 [] (by rw [List.size_toArray, hlen]; omega) ?_
  simp only [List.take_zero, List.filter_nil]
  exact .nil
theorem rest_U {α : Type} {vs : List Value} {as : List α} (Src F : α → Value → Prop) (hsrc : All2 Src as vs) (hS : S news)
    (elts : ∀ a v I oI C oC D m₂ ys h tk (E' : Value → Shared → Prop), a ∈ as → Src a v → NsObj oC m₂ → m₂ x = some v → Fr h₀ L h m → News h₀ L h ((I, oI) :: (C, oC) :: (D, lst ys) :: news) →
      wpAny (model prog w) A (eval elt (compEnvC scope cl C env)) (fun y s' => F a y ∧ ∃ tk', s' = { s with heap := h, toks := tk' }) E' { s with heap := h, toks := tk })
    (fin : ∀ ys, All2 F as ys → Fin ys news) : LCg.CompRest prog w A h₀ L m env elt x scope cl s S (fun i v => vs.toArray[i]? = some v) Fin vs.toArray.size 0 [] news := by
  have hlen := hsrc.length
  have key : ∀ (j i : Nat) (ys : List Value), i + j = as.length → All2 F (as.take i) ys → LCg.CompRest prog w A h₀ L m env elt x scope cl s S (fun i v => vs.toArray[i]? = some v) Fin j i ys news := by
    intro j
    induction j with
    | zero =>
      intro i ys hi hy
      have e : i = as.length := by omega
      subst e
      rw [List.take_length] at hy
      exact fin ys hy
    | succ j ih =>
      intro i ys hi hy
      intro v I oI C oC D m₂ h tk E' hv hC hx F' N' off ne
      obtain ⟨a, ha, hs⟩ := hsrc.get (by simpa using hv)
      have hm := List.mem_of_getElem? ha
      have ht : as.take (i + 1) = as.take i ++ [a] := by rw [List.take_add_one, ha]; rfl
      refine wpAny_mono (elts a v I oI C oC D m₂ ys h tk E' hm hs hC hx F' N') (fun y s₃ hr => ?_) fun _ _ e => e
      obtain ⟨hy', tk'', rfl⟩ := hr
      refine ⟨h, tk'', news, rfl, F', N', off, hS, ih (i + 1) _ (by omega) ?_⟩
      rw [ht]
      exact hy.snoc hy'
  refine key _ 0 [] (by rw [List.size_toArray, hlen]; omega) ?_
  simp only [List.take_zero]
  exact .nil
end
end Mine
namespace Mine
local macro_rules | `(tactic| walk_at "Pad0") => `(tactic| skip)
local macro_rules | `(tactic| walk_at "Pad1") => `(tactic| skip)
local macro_rules | `(tactic| walk_at "Pad2") => `(tactic| skip)
local macro_rules | `(tactic| walk_at "Pad3") => `(tactic| skip)
local macro_rules | `(tactic| walk_at "Pad4") => `(tactic| skip)
local macro_rules | `(tactic| walk_at "Pad5") => `(tactic| skip)
local macro_rules | `(tactic| walk_at "Pad6") => `(tactic| skip)
local macro_rules | `(tactic| walk_at "Pad7") => `(tactic| skip)
local macro_rules | `(tactic| walk_at "Pad8") => `(tactic| skip)
local macro_rules | `(tactic| walk_at "Pad9") => `(tactic| skip)
local macro_rules | `(tactic| walk_at "Pad10") => `(tactic| skip)
local macro_rules | `(tactic| walk_at "Pad11") => `(tactic| skip)
local macro_rules | `(tactic| walk_at "Pad12") => `(tactic| skip)
local macro_rules | `(tactic| walk_at "Pad13") => `(tactic| skip)
local macro_rules | `(tactic| walk_at "Pad14") => `(tactic| skip)
local macro_rules | `(tactic| walk_at "Pad15") => `(tactic| skip)
local macro_rules | `(tactic| walk_at "Pad16") => `(tactic| skip)
local macro_rules | `(tactic| walk_at "Pad17") => `(tactic| skip)
local macro_rules | `(tactic| walk_at "Pad18") => `(tactic| skip)
local macro_rules | `(tactic| walk_at "Pad19") => `(tactic| skip)
local macro_rules | `(tactic| walk_at "Pad20") => `(tactic| skip)
local macro_rules | `(tactic| walk_at "Pad21") => `(tactic| skip)
local macro_rules | `(tactic| walk_at "Pad22") => `(tactic| skip)
local macro_rules | `(tactic| walk_at "Pad23") => `(tactic| skip)
local macro_rules | `(tactic| walk_at "Pad24") => `(tactic| skip)
local macro_rules | `(tactic| walk_at "Pad25") => `(tactic| skip)
local macro_rules | `(tactic| walk_at "Pad26") => `(tactic| skip)
local macro_rules | `(tactic| walk_at "Pad27") => `(tactic| skip)
local macro_rules | `(tactic| walk_at "Pad28") => `(tactic| skip)
local macro_rules | `(tactic| walk_at "Pad29") => `(tactic| skip)
local macro_rules | `(tactic| walk_at "Pad30") => `(tactic| skip)
local macro_rules | `(tactic| walk_at "Pad31") => `(tactic| skip)
local macro_rules | `(tactic| walk_at "Pad32") => `(tactic| skip)
open PySem.Calls
local macro_rules | `(tactic| walk_at "MyEnterC") => `(tactic| (
  refine' enterC ?k1 ?k2 ?k3 ?k6 ?k7 ?k8 ?k9 ?kB ?kD ?_ ?c2 ?c3 ?c4
  (case k1 => assumption)
  (case k6 => k_dflt k_is)
  (case k7 => k_dflt k_is)
  (case k2 => exact Top.nolimit (by assumption))
  (case k3 => assumption)
  (case k8 => decide)
  (case k9 => exact BindsTo.of_eq rfl)
  (case kB => exact rfl)
  (case kD => decide +kernel)
  (case c2 => exact rfl)
  (case c3 => exact rfl)
  (case c4 => exact rfl)))
local macro_rules | `(tactic| walk_at "subscriptTail") => `(tactic| (k_here; (with_reducible show wpAny _ _ (subscriptTail _ _ (Value.ref _) (Value.int _ _)) _ _ _); k_dflt (first
  | (refine' item_sent ?s ?k ?_; (case s => exact SentAt.mono (by assumption) (Fr.keep (by assumption))); (case k => assumption); intro a' t1' t2' n' ho')
  | (refine' item_tup ?o ?lo ?hi ?j ?x ?_; (case o => assumption); (case lo => decide); (case hi => decide); (case j => exact rfl); (case x => exact rfl)))))


def Stop12 (P : Prop) : Prop := P
theorem stop12 {P : Prop} (h : Stop12 P) : P := h
local macro_rules | `(tactic| walk_at "eval ListComp") => `(tactic| (k_here; k_dflt (first
  | (refine LCt.ListComp_T (F₀ := by k_asm) (by with_unfolding_all rfl) (by decide) (by rfl) (by decide) (by rfl) ?_)
  | (refine LCg.ListComp_U (F₀ := by k_asm) (by with_unfolding_all rfl) (by decide) (by rfl) (by decide) (by rfl) ?_))))
local macro_rules | `(tactic| walk_at "CompSrcT") => `(tactic| (refine stop12 ?_))
local macro_rules | `(tactic| walk_at "CompSrc") => `(tactic| (refine stop12 ?_))
set_option maxHeartbeats 8000000 in
theorem flight_spec {w : World} {hb : Heap} {mg mb : Str → Option Value} {mean : ExcName → Option Value} {s : Shared} {Q E : Value → Shared → Prop} {d l : Addr} {rows : List Row} {vs : List Value} {ns : List Int}
    (X : (hd.heap_39 w.params).In hb) (T : Top hd.view_39 (looseW hd.view_39 []) mean mg mb hb) (hx : Ext hb s.heap)
    (hs : SentAt PySem.Challenge.rw_no0042_01.row.prog w s.heap d rows) (hl : s.heap.IsList l vs.toArray) (hi : IntsAre vs ns) (hlen : ns.length ≤ 1000) (hmem : ∀ n ∈ ns, n ∈ rows.map (·.num))
    (hq : ∀ h' tk t, Ext s.heap h' → Q (.int ((ns.filter fun k => (rowAt rows k).flag).map fun k => (rowAt rows k).size).sum t) { s with heap := h', toks := tk }) :
    wpAny (model PySem.Challenge.rw_no0042_01.row.prog w) AM (call (.ref 47) [.ref d, .ref l]) Q E s := by
  w_top off
  revert X; k_fill; intro X
  walk_at "MyEnterC"
  intro L' h₁ tk₁ cells F N Y
  have X' := X.keeps hx
  have T' := T.keeps hx
  k_cells Y
  (try simp only [List.cons_append, List.nil_append] at N)
  (try dsimp only)
  k_unmd
  k_fold
  k_steps
  unfold Stop12
  refine LCt.CompSrcT.base (by rfl) (by k_asm) (by k_asm) hl (by rw [List.size_toArray, hi.length, sizeLine_eq]; omega) ?_
  intro g'
  refine rest_T (as := ns) IntV (fun k v => IntV (rowAt rows k).size v) (fun k => (rowAt rows k).flag) (ints_all2 hi) (.inl hl) ?tests ?elts ?fin
  case tests =>
    intro a v I oI C oC D m₂ ys h tk E' ha hsrc hC hx9 F' N'
    obtain ⟨t, rfl⟩ := hsrc
    have hm := hmem a ha
    k_sweep
    k_steps
  case elts =>
    intro a v I oI C oC D m₂ ys h tk E' ha hsrc hp hC hx9 F' N'
    obtain ⟨t, rfl⟩ := hsrc
    have hm := hmem a ha
    k_sweep
    k_steps
    all_goals exact ⟨_, rfl⟩
  case fin =>
    intro ys hys D h tk F' N' off
    have hys' := (All2.map (f := fun k => (rowAt rows k).size) (R := IntV) hys).ints
    k_sweep
    k_steps
    (rename Fr _ _ _ _ => F9)
    k_unmd
    (try dsimp only)
    (try k_unfold)
    (try dsimp only)
    exact hq _ _ _ F9.keep
end Mine
namespace Mine
open PySem.Calls
theorem All2.split_snoc {α : Type} {R : α → Value → Prop} {v : Value} : ∀ {as : List α} {vs : List Value}, All2 R as (vs ++ [v]) → ∃ bs a, as = bs ++ [a] ∧ All2 R bs vs ∧ R a v := by
  intro as vs
  induction vs generalizing as with
  | nil => intro h; cases h with | cons h1 h2 => cases h2; exact ⟨[], _, rfl, .nil, h1⟩
  | cons u r ih =>
    intro h
    cases h with
    | cons h1 h2 =>
      obtain ⟨bs, a, rfl, g1, g2⟩ := ih h2
      exact ⟨_ :: bs, a, rfl, .cons h1 g1, g2⟩
theorem stored_rows {rows : List Row} {P : Addr → Obj → Prop} {kv0 : List (Int × Value)} (h0 : RowsOn P kv0 rows) {l : List Value} {kvs : List (Int × Value)}
    (x : StoredAll (fun v k => ∃ t, v = .int k t) (fun v y => ∃ k t, v = .int k t ∧ valueAt kv0 k = some y) l kvs) : ∀ ks, All2 IntV ks l → ks.Pairwise (· < ·) → (∀ k ∈ ks, k ∈ rows.map (·.num)) → RowsOn P kvs (ks.map (rowAt rows)) := by
  induction x with
  | nil => intro ks h1 _ _; cases h1; exact .nil
  | @snoc l kvs v k y _ hk hv ih =>
    intro ks h1 hp hm
    obtain ⟨bs, a, rfl, g1, g2⟩ := h1.split_snoc
    have hp' := List.pairwise_append.mp hp
    have hR := ih bs g1 hp'.1 fun k hk => hm k (List.mem_append.mpr (.inl hk))
    obtain ⟨t, rfl⟩ := hk
    obtain ⟨t', e'⟩ := g2
    obtain ⟨k', t'', e'', hc⟩ := hv
    cases e'
    cases e''
    have hka := hm k (List.mem_append.mpr (.inr (.head _)))
    have hnum := (rowAt_num hka).2
    obtain ⟨c, t1, t2, n, g3, g4⟩ := h0.at k hka
    rw [hc] at g3
    cases g3
    have hkeys : (bs.map (rowAt rows)).map (·.num) = bs := by
      rw [List.map_map]
      conv => rhs; rw [← List.map_id bs]
      refine List.map_congr_left fun b hb => ?_
      exact (rowAt_num (hm b (List.mem_append.mpr (.inl hb)))).2
    have hfresh : valueAt kvs k = none := by
      refine valueAt_none_of_not_mem fun hmem => ?_
      rw [hR.keys, hkeys] at hmem
      have := hp'.2.2 k hmem k (.head _)
      omega
    rw [stored_absent hfresh, List.map_append]
    have := RowsOn.snoc (r := rowAt rows k) hR g4
    rw [hnum] at this
    exact this
def intOf : Value → Int
  | .int k _ => k
  | _ => 0
section
variable {prog : Program} {w : World} {A : Around} {E : Value → Shared → Prop} {s : Shared} {h₀ : Heap} {L : Addr} {m : Str → Option Value} {env : Env} {news : List (Addr × Obj)} {rows : List Row}
theorem comp_local {M : Model} {C : Addr} {m₂ : Str → Option Value} {scope : Scope} {cl : List (Str × Addr)} {x : Str} {pos : Pos} {v : Value} {Q : Value → Shared → Prop} (hn : s.heap.Ns C m₂) (hv : m₂ x = some v) (h : Q v s)
    (hk : (compEnvC scope cl C env).scope.kind = .function) (hl : (compEnvC scope cl C env).kindOf x = some .local) (hd : (x == ("__debug__" : Str)) = false) : wpAny M A (eval (.Name x pos) (compEnvC scope cl C env)) Q E s :=
  wpAny_Name (wpAny_loadName_local (env := compEnvC scope cl C env) hk hl hn hv h) hd
theorem all2_filter {ks : List Int} {vs : List Value} (pz : Int → Bool) (h : All2 IntV ks vs) : All2 IntV (ks.filter pz) (vs.filter fun v => pz (intOf v)) := by
  induction h with
  | nil => exact .nil
  | @cons k v ks vs h1 _ ih =>
    obtain ⟨t, rfl⟩ := h1
    have e : intOf (.int k t) = k := rfl
    cases hp : pz k with
    | true => simp only [List.filter_cons, e, hp, if_true]; exact .cons ⟨t, rfl⟩ ih
    | false => simp only [List.filter_cons, e, hp, Bool.false_eq_true, if_false]; exact ih
theorem pairwise_filter {ks : List Int} (pz : Int → Bool) (h : ks.Pairwise (· < ·)) : (ks.filter pz).Pairwise (· < ·) := h.filter pz
set_option maxHeartbeats 2000000 in
theorem dictcomp_K {P : Addr → Obj → Prop} {kvs : List (Int × Value)} {kx vx iter ct : Expr} {x : Str} {px : Pos} {scope : Scope} {cl : List (Str × Addr)} {pos : Pos} {d : Addr} {Q : Value → Shared → Prop} (pz : Int → Bool)
    (F : Fr h₀ L s.heap m) (N : News h₀ L s.heap news) (hD : s.heap.DictOf (PySem.intKind prog w) d kvs) (lo : (d == sysModules) = false) (hrows : RowsOn P kvs rows) (hr : (rows.map (·.num)).Pairwise (· < ·)) (hlen : rows.length ≤ 11) (hh : A.handled = none)
    (hclos : closureFor scope env = pure cl) (hcell : ∀ y ∈ scope.names, y.2 ≠ .cell) (hkind : scope.kind = .function)
    (hnames : ∀ y ∈ scope.names, y.2 = .local → scope.names.lookup y.1 = some .local) (hx : scope.names.lookup x = some .local)
    (hiter : wpAny (model prog w) A (eval iter env) (fun xv s₁ => xv = .ref d ∧ ∃ tk, s₁ = { s with toks := tk }) E s)
    (tests : ∀ k t C m₂ (s₃ : Shared) (E' : Value → Shared → Prop), k ∈ rows.map (·.num) → s₃.heap.Ns C m₂ → m₂ x = some (.int k t) → Fr h₀ L s₃.heap m → News h₀ L s₃.heap news →
      wpAny (model prog w) A (isTrue ct (compEnvC scope cl C env) (eval ct (compEnvC scope cl C env))) (fun b s' => b = pz k ∧ ∃ tk', s' = { s₃ with toks := tk' }) E' s₃)
    (keys : ∀ k t C m₂ (s₃ : Shared) (E' : Value → Shared → Prop), k ∈ rows.map (·.num) → s₃.heap.Ns C m₂ → m₂ x = some (.int k t) → Fr h₀ L s₃.heap m → News h₀ L s₃.heap news →
      wpAny (model prog w) A (eval kx (compEnvC scope cl C env)) (fun y s' => y = .int k t ∧ ∃ tk', s' = { s₃ with toks := tk' }) E' s₃)
    (vals : ∀ k t C m₂ (s₃ : Shared) kv0 y (E' : Value → Shared → Prop), s₃.heap.DictOf (PySem.intKind prog w) d kv0 → valueAt kv0 k = some y → s₃.heap.Ns C m₂ → m₂ x = some (.int k t) → Fr h₀ L s₃.heap m → News h₀ L s₃.heap news →
      wpAny (model prog w) A (eval vx (compEnvC scope cl C env)) (fun y' s' => y' = y ∧ ∃ tk', s' = { s₃ with toks := tk' }) E' s₃)
    (fin : ∀ D h' tk kvs', s.heap.get? D = none → Ext s.heap h' → h'.DictOf (PySem.intKind prog w) D kvs' → (D == sysModules) = false → RowsOn P kvs' (((rows.map (·.num)).filter pz).map (rowAt rows)) → Q (.ref D) { s with heap := h', toks := tk })
    (hmod : ∃ o, s.heap.get? sysModules = some o) (hfs : ∀ x, foldedSetIterable iter env x = pure x) :
    wpAny (model prog w) A (eval (.DictComp kx vx [⟨.Name x px, iter, [ct], 0⟩] scope pos) env) Q E s := by
  obtain ⟨ep, hat⟩ := hD.dictAt
  have hkl := hrows.length
  have hkeys := hrows.keys
  refine wpAny_DictComp_free (PySem.intKind prog w) (fun v => pz (intOf v)) (fun v k => ∃ t, v = .int k t) (fun v y => ∃ k t, v = .int k t ∧ valueAt kvs k = some y) hclos hcell hkind hnames hx (wpAny_mono hiter (fun xv s₁ h₁ => ?_) fun _ _ e => e) hfs
  obtain ⟨rfl, tk₁, rfl⟩ := h₁
  refine wpAny_pyIter_dict lo hat ?_
  have hIlt := hat.lt_size
  have up : ∀ (h : Heap), (∀ b o, b ∉ [s.heap.objs.size] → (s.heap.push { cls := .type "dict_keyiterator", data := .fields #[.ref d, .int 0 0, .int kvs.length 0, .int ep 0] }).get? b = some o → h.get? b = some o) → Ext s.heap h :=
    fun h hk b o e => hk b o (fun hm => by rw [List.mem_singleton.mp hm] at e; exact Nat.lt_irrefl _ (Heap.lt_size e)) (Heap.get?_push_of_some _ e)
  have kin : ∀ (i : Nat) (v : Value), (∃ k x, kvs[i]? = some (k, x) ∧ (PySem.intKind prog w).is k v = true) → ∃ k t, v = .int k t ∧ k ∈ rows.map (·.num) := by
    rintro i v ⟨k, y, e, hk⟩
    obtain ⟨t, rfl⟩ := Value.isInt_shape hk
    refine ⟨k, t, rfl, ?_⟩
    rw [← hkeys]
    exact List.mem_map.mpr ⟨(k, y), List.mem_of_getElem? e, rfl⟩
  refine ⟨s.heap.objs.size, _, _, kvs.length, _, _, rfl, Walks.dictKeys hh s.heap.objs.size d (Nat.ne_of_lt hIlt) kvs ep, by rw [sizeLine_eq]; omega, ⟨⟨_, Heap.get?_push_size _ rfl, rfl, rfl⟩, hat.push _⟩, ?_, ⟨?_, ?_, ?_⟩, ?_⟩
  · intro b hb
    show b < (s.heap.push _).objs.size
    rw [Heap.size_push]
    rcases List.mem_cons.mp hb with rfl | hb
    · exact Nat.lt_succ_self _
    · rw [List.mem_singleton.mp hb]; exact Nat.lt_succ_of_lt hIlt
  · intro C i v s₃ m₃ E' hP hn hm hk
    obtain ⟨k, t, rfl, hmem⟩ := kin i v hP
    have e := up s₃.heap hk
    refine wpAny_tests_one (wpAny_mono (tests k t C m₃ s₃ E' hmem hn hm (F.kept e) (N.grown e)) (fun b s' hq => ?_) fun _ _ e => e)
    obtain ⟨h1, tk', rfl⟩ := hq
    exact ⟨h1, s₃.heap, tk', rfl, fun _ _ e => e⟩
  · intro C i v s₃ m₃ E' hP hp hn hm hk
    obtain ⟨k, t, rfl, hmem⟩ := kin i v hP
    have e := up s₃.heap hk
    refine wpAny_mono (keys k t C m₃ s₃ E' hmem hn hm (F.kept e) (N.grown e)) (fun y s' hq => ?_) fun _ _ e => e
    obtain ⟨rfl, tk', rfl⟩ := hq
    exact ⟨⟨k, intKind_is _ _ _ _, t, rfl⟩, s₃.heap, tk', rfl, fun _ _ e => e⟩
  · intro C i v s₃ m₃ E' hP hp hn hm hk
    obtain ⟨k, t, rfl, hmem⟩ := kin i v hP
    have e := up s₃.heap hk
    obtain ⟨a, t1, t2, n, g1, g2⟩ := hrows.at k hmem
    refine wpAny_mono (vals k t C m₃ s₃ kvs _ E' (hD.keep e) g1 hn hm (F.kept e) (N.grown e)) (fun y s' hq => ?_) fun _ _ e => e
    obtain ⟨rfl, tk', rfl⟩ := hq
    exact ⟨⟨k, t, rfl, g1⟩, s₃.heap, tk', rfl, fun _ _ e => e⟩
  · intro D h' tk kvs' vs hD0 hD' hvl hvs hst hk
    have e := up h' hk
    have hI := ints_all2 (ints_of hvl hvs)
    rw [hkeys] at hI
    have hR := stored_rows hrows hst _ (all2_filter pz hI) (hr.filter pz) (fun k hk => (List.mem_filter.mp hk).1)
    have hDn : s.heap.get? D = none := by
      cases q : s.heap.get? D with
      | none => rfl
      | some o =>
        have q' : (s.heap.push { cls := .type "dict_keyiterator", data := .fields #[.ref d, .int 0 0, .int kvs.length 0, .int ep 0] }).get? D = some o := Heap.get?_push_of_some _ q
        have q'' := hD0
        dsimp only at q''
        rw [q'] at q''
        cases q''
    refine fin D h' tk kvs' hDn e hD' ?_ hR
    cases hb : (D == sysModules) with
    | false => rfl
    | true =>
      obtain ⟨o, ho⟩ := hmod
      have e2 : D = sysModules := eq_of_beq hb
      rw [e2, ho] at hDn
      cases hDn
theorem item_kv {value slice : PySem.Expr} {d : Addr} {kvs : List (Int × Value)} {k : Int} {t : Tok} {y : Value} {Q : Value → Shared → Prop} (hD : s.heap.DictOf (PySem.intKind prog w) d kvs) (hk : valueAt kvs k = some y) (h : Q y { s with toks := s.toks + 1 })
    (hsub : subscripted slice false (.ref d) (.int k t) = operate [.ref d, .int k t] (getItem (.ref d) (.int k t)) := by with_unfolding_all rfl) :
    wpAny (model prog w) A (subscriptTail value slice (.ref d) (.int k t)) Q E s :=
  tail_any hD.typeIs slot_dict_getitem.lookup (wpAny_getItem_of (intKind_is _ _ _ _) hD.mapOf hk h) hsub
end
theorem modules_at {hb : Heap} {mg mb : Str → Option Value} {mean : ExcName → Option Value} (T : Top hd.view_39 (looseW hd.view_39 []) mean mg mb hb) : ∃ o, hb.get? sysModules = some o := by
  obtain ⟨mm, ⟨o, es, ep, e, _⟩, _⟩ := (T.seer (by decide +kernel)).mods
  exact ⟨o, e⟩
end Mine
namespace Mine
local macro_rules | `(tactic| walk_at "Pad0") => `(tactic| skip)
local macro_rules | `(tactic| walk_at "Pad1") => `(tactic| skip)
local macro_rules | `(tactic| walk_at "Pad2") => `(tactic| skip)
local macro_rules | `(tactic| walk_at "Pad3") => `(tactic| skip)
local macro_rules | `(tactic| walk_at "Pad4") => `(tactic| skip)
local macro_rules | `(tactic| walk_at "Pad5") => `(tactic| skip)
local macro_rules | `(tactic| walk_at "Pad6") => `(tactic| skip)
local macro_rules | `(tactic| walk_at "Pad7") => `(tactic| skip)
local macro_rules | `(tactic| walk_at "Pad8") => `(tactic| skip)
local macro_rules | `(tactic| walk_at "Pad9") => `(tactic| skip)
local macro_rules | `(tactic| walk_at "Pad10") => `(tactic| skip)
local macro_rules | `(tactic| walk_at "Pad11") => `(tactic| skip)
local macro_rules | `(tactic| walk_at "Pad12") => `(tactic| skip)
local macro_rules | `(tactic| walk_at "Pad13") => `(tactic| skip)
local macro_rules | `(tactic| walk_at "Pad14") => `(tactic| skip)
local macro_rules | `(tactic| walk_at "Pad15") => `(tactic| skip)
local macro_rules | `(tactic| walk_at "Pad16") => `(tactic| skip)
local macro_rules | `(tactic| walk_at "Pad17") => `(tactic| skip)
local macro_rules | `(tactic| walk_at "Pad18") => `(tactic| skip)
local macro_rules | `(tactic| walk_at "Pad19") => `(tactic| skip)
local macro_rules | `(tactic| walk_at "Pad20") => `(tactic| skip)
local macro_rules | `(tactic| walk_at "Pad21") => `(tactic| skip)
local macro_rules | `(tactic| walk_at "Pad22") => `(tactic| skip)
local macro_rules | `(tactic| walk_at "Pad23") => `(tactic| skip)
local macro_rules | `(tactic| walk_at "Pad24") => `(tactic| skip)
local macro_rules | `(tactic| walk_at "Pad25") => `(tactic| skip)
local macro_rules | `(tactic| walk_at "Pad26") => `(tactic| skip)
local macro_rules | `(tactic| walk_at "Pad27") => `(tactic| skip)
local macro_rules | `(tactic| walk_at "Pad28") => `(tactic| skip)
local macro_rules | `(tactic| walk_at "Pad29") => `(tactic| skip)
local macro_rules | `(tactic| walk_at "Pad30") => `(tactic| skip)
local macro_rules | `(tactic| walk_at "Pad31") => `(tactic| skip)
local macro_rules | `(tactic| walk_at "Pad32") => `(tactic| skip)
local macro_rules | `(tactic| walk_at "Pad33") => `(tactic| skip)
local macro_rules | `(tactic| walk_at "Pad34") => `(tactic| skip)
local macro_rules | `(tactic| walk_at "Pad35") => `(tactic| skip)
local macro_rules | `(tactic| walk_at "Pad36") => `(tactic| skip)
local macro_rules | `(tactic| walk_at "Pad37") => `(tactic| skip)
local macro_rules | `(tactic| walk_at "Pad38") => `(tactic| skip)
open PySem.Calls
local macro_rules | `(tactic| walk_at "MyEnterC") => `(tactic| (
  refine' enterC ?k1 ?k2 ?k3 ?k6 ?k7 ?k8 ?k9 ?kB ?kD ?_ ?c2 ?c3 ?c4
  (case k1 => assumption)
  (case k6 => k_dflt k_is)
  (case k7 => k_dflt k_is)
  (case k2 => exact Top.nolimit (by assumption))
  (case k3 => assumption)
  (case k8 => decide)
  (case k9 => exact BindsTo.of_eq rfl)
  (case kB => exact rfl)
  (case kD => decide +kernel)
  (case c2 => exact rfl)
  (case c3 => exact rfl)
  (case c4 => exact rfl)))

local macro_rules | `(tactic| walk_at "eval Name") => `(tactic| (k_here; (with_reducible show wpAny _ _ (eval (Expr.Name _ _) (compEnvC _ _ _ _)) _ _ _); k_dflt (refine' comp_local ?n ?v ?_ ?k ?l ?d; (case n => assumption); (case v => assumption); (case k => exact rfl); (case l => exact rfl); (case d => decide); k_whole)))
local macro_rules | `(tactic| walk_at "subscriptTail") => `(tactic| (k_here; (with_reducible show wpAny _ _ (subscriptTail _ _ (Value.ref _) (Value.int _ _)) _ _ _); k_dflt (refine item_kv (by assumption) (by assumption) ?_)))
local macro_rules | `(tactic| walk_at "compareOp NotIn int ref") => `(tactic| (k_here; k_dflt (refine notin_list_ints (stays_list (Fr.keep (by assumption)) (by assumption)) (by assumption) ?_)))
def Stop14 (P : Prop) : Prop := P
theorem stop14 {P : Prop} (h : Stop14 P) : P := h
local macro_rules | `(tactic| walk_at "eval DictComp") => `(tactic| (k_here; refine stop14 ?_))
set_option maxHeartbeats 8000000 in
theorem without_spec {w : World} {hb : Heap} {mg mb : Str → Option Value} {mean : ExcName → Option Value} {s : Shared} {Q E : Value → Shared → Prop} {d l : Addr} {rows : List Row} {vs : List Value} {ns : List Int} {P : Addr → Obj → Prop} {kvs : List (Int × Value)}
    (X : (hd.heap_39 w.params).In hb) (T : Top hd.view_39 (looseW hd.view_39 []) mean mg mb hb) (hx : Ext hb s.heap)
    (hD0 : s.heap.DictOf (PySem.intKind PySem.Challenge.rw_no0042_01.row.prog w) d kvs) (lo : (d == sysModules) = false) (hrows : RowsOn P kvs rows) (hr : (rows.map (·.num)).Pairwise (· < ·)) (hlen : rows.length ≤ 11) (hl : s.heap.IsList l vs.toArray) (hi : IntsAre vs ns)
    (hq : ∀ h' tk D kvs', Ext s.heap h' → s.heap.get? D = none → h'.DictOf (PySem.intKind PySem.Challenge.rw_no0042_01.row.prog w) D kvs' → (D == sysModules) = false → RowsOn P kvs' (((rows.map (·.num)).filter fun k => !(ns.any (· == k))).map (rowAt rows)) → Q (.ref D) { s with heap := h', toks := tk }) :
    wpAny (model PySem.Challenge.rw_no0042_01.row.prog w) AM (call (.ref 52) [.ref d, .ref l]) Q E s := by
  w_top off
  revert X; k_fill; intro X
  walk_at "MyEnterC"
  intro L' h₁ tk₁ cells F N Y
  have X' := X.keeps hx
  have T' := T.keeps hx
  k_cells Y
  (try simp only [List.cons_append, List.nil_append] at N)
  (try dsimp only)
  k_unmd
  k_fold
  k_steps
  unfold Stop14
  refine dictcomp_K (rows := rows) (d := d) (fun k => !(ns.any (· == k))) F N (hD0.keep F.keep) lo hrows hr hlen (by rfl) (by with_unfolding_all rfl) (by decide) (by rfl) (by decide) (by rfl) ?iter ?tests ?keys ?vals ?fin (let ⟨o, e⟩ := modules_at T; ⟨o, F.keep _ _ (hx _ _ e)⟩) (fun _ => rfl)
  case iter =>
    k_steps
    all_goals exact ⟨_, rfl⟩
  case tests =>
    intro k t C m₂ s₃ E' hk hn hv F' N'
    k_sweep
    k_steps
  case keys =>
    intro k t C m₂ s₃ E' hk hn hv F' N'
    k_sweep
    k_steps
  case vals =>
    intro k t C m₂ s₃ kv0 y E' hD hy hn hv F' N'
    k_sweep
    k_steps
  case fin =>
    intro D h' tk kvs' hD he hS1 hS2 hS3
    k_unmd
    (try dsimp only)
    (try k_unfold)
    (try dsimp only)
    exact hq _ _ _ _ (Ext.trans F.keep he) (by
      cases q : s.heap.get? D with
      | none => rfl
      | some o => have := F.keep _ _ q; dsimp only at hD; rw [hD] at this; cases this) hS1 hS2 hS3
end Mine
namespace Mine
local macro_rules | `(tactic| walk_at "Pad0") => `(tactic| skip)
local macro_rules | `(tactic| walk_at "Pad1") => `(tactic| skip)
local macro_rules | `(tactic| walk_at "Pad2") => `(tactic| skip)
local macro_rules | `(tactic| walk_at "Pad3") => `(tactic| skip)
local macro_rules | `(tactic| walk_at "Pad4") => `(tactic| skip)
local macro_rules | `(tactic| walk_at "Pad5") => `(tactic| skip)
local macro_rules | `(tactic| walk_at "Pad6") => `(tactic| skip)
local macro_rules | `(tactic| walk_at "Pad7") => `(tactic| skip)
local macro_rules | `(tactic| walk_at "Pad8") => `(tactic| skip)
local macro_rules | `(tactic| walk_at "Pad9") => `(tactic| skip)
local macro_rules | `(tactic| walk_at "Pad10") => `(tactic| skip)
local macro_rules | `(tactic| walk_at "Pad11") => `(tactic| skip)
local macro_rules | `(tactic| walk_at "Pad12") => `(tactic| skip)
local macro_rules | `(tactic| walk_at "Pad13") => `(tactic| skip)
local macro_rules | `(tactic| walk_at "Pad14") => `(tactic| skip)
local macro_rules | `(tactic| walk_at "Pad15") => `(tactic| skip)
local macro_rules | `(tactic| walk_at "Pad16") => `(tactic| skip)
local macro_rules | `(tactic| walk_at "Pad17") => `(tactic| skip)
local macro_rules | `(tactic| walk_at "Pad18") => `(tactic| skip)
local macro_rules | `(tactic| walk_at "Pad19") => `(tactic| skip)
local macro_rules | `(tactic| walk_at "Pad20") => `(tactic| skip)
local macro_rules | `(tactic| walk_at "Pad21") => `(tactic| skip)
local macro_rules | `(tactic| walk_at "Pad22") => `(tactic| skip)
local macro_rules | `(tactic| walk_at "Pad23") => `(tactic| skip)
local macro_rules | `(tactic| walk_at "Pad24") => `(tactic| skip)
local macro_rules | `(tactic| walk_at "Pad25") => `(tactic| skip)
local macro_rules | `(tactic| walk_at "Pad26") => `(tactic| skip)
local macro_rules | `(tactic| walk_at "Pad27") => `(tactic| skip)
local macro_rules | `(tactic| walk_at "Pad28") => `(tactic| skip)
local macro_rules | `(tactic| walk_at "Pad29") => `(tactic| skip)
local macro_rules | `(tactic| walk_at "Pad30") => `(tactic| skip)
local macro_rules | `(tactic| walk_at "Pad31") => `(tactic| skip)
local macro_rules | `(tactic| walk_at "Pad32") => `(tactic| skip)
local macro_rules | `(tactic| walk_at "Pad33") => `(tactic| skip)
local macro_rules | `(tactic| walk_at "Pad34") => `(tactic| skip)
local macro_rules | `(tactic| walk_at "Pad35") => `(tactic| skip)
local macro_rules | `(tactic| walk_at "Pad36") => `(tactic| skip)
local macro_rules | `(tactic| walk_at "Pad37") => `(tactic| skip)
local macro_rules | `(tactic| walk_at "Pad38") => `(tactic| skip)
local macro_rules | `(tactic| walk_at "Pad39") => `(tactic| skip)
local macro_rules | `(tactic| walk_at "Pad40") => `(tactic| skip)
local macro_rules | `(tactic| walk_at "Pad41") => `(tactic| skip)
local macro_rules | `(tactic| walk_at "Pad42") => `(tactic| skip)
local macro_rules | `(tactic| walk_at "Pad43") => `(tactic| skip)
local macro_rules | `(tactic| walk_at "Pad44") => `(tactic| skip)
open PySem.Calls

theorem cells_five {cm : Str → Option Value} {n1 n2 n3 n4 n5 : Str} {c1 c2 c3 c4 c5 : Addr} {cells : List (Addr × Obj)} (x : CellsAre cm [(n1, c1), (n2, c2), (n3, c3), (n4, c4), (n5, c5)] cells) :
    ∃ o1 o2 o3 o4 o5, cells = [(c1, o1), (c2, o2), (c3, o3), (c4, o4), (c5, o5)] ∧ o1.data = .cell (cm n1) ∧ o2.data = .cell (cm n2) ∧ o3.data = .cell (cm n3) ∧ o4.data = .cell (cm n4) ∧ o5.data = .cell (cm n5) := by
  cases x with
  | cons h r =>
    obtain ⟨o2, o3, o4, o5, rfl, g⟩ := r.four
    exact ⟨_, o2, o3, o4, o5, rfl, h, g⟩
def belowB (lg : Option Int) (n : Int) : Bool := match lg with | none => false | some g => decide (n ≤ g)
def belowL (lg : Option Int) (ns : List Int) : List Int := ns.filter (belowB lg)
def lostP (tm : Int → Int) (lg : Option Int) (now dl n : Int) : Bool := match lg with | none => false | some g => decide (n + 3 ≤ g) || decide (dl ≤ now - tm n)
def lostL (tm : Int → Int) (lg : Option Int) (now dl : Int) (ns : List Int) : List Int := (belowL lg ns).filter (lostP tm lg now dl)
def timesL (tm : Int → Int) (lg : Option Int) (now dl : Int) (ns : List Int) : List Int := ((belowL lg ns).filter fun n => !((lostL tm lg now dl ns).any (· == n))).map fun n => tm n + dl
def IsMinO (l : List Int) : Option Int → Prop
  | none => l = []
  | some t => t ∈ l ∧ ∀ x ∈ l, t ≤ x
local macro_rules | `(tactic| walk_at "MyEnterC") => `(tactic| (
  refine' enterC ?k1 ?k2 ?k3 ?k6 ?k7 ?k8 ?k9 ?kB ?kD ?_ ?c2 ?c3 ?c4
  (case k1 => assumption)
  (case k6 => k_dflt k_is)
  (case k7 => k_dflt k_is)
  (case k2 => exact Top.nolimit (by assumption))
  (case k3 => assumption)
  (case k8 => decide)
  (case k9 => exact BindsTo.of_eq rfl)
  (case kB => exact rfl)
  (case kD => decide +kernel)
  (case c2 => exact rfl)
  (case c3 => exact rfl)
  (case c4 => exact rfl)))

local macro_rules | `(tactic| walk_at "subscriptTail") => `(tactic| (k_here; (with_reducible show wpAny _ _ (subscriptTail _ _ (Value.ref _) (Value.int _ _)) _ _ _); k_dflt (first
  | (refine' item_sent ?s ?k ?_; (case s => exact SentAt.mono (by assumption) (Fr.keep (by assumption))); (case k => assumption); intro a' t1' t2' n' ho')
  | (refine' item_tup ?o ?lo ?hi ?j ?x ?_; (case o => assumption); (case lo => decide); (case hi => decide); (case j => exact rfl); (case x => exact rfl)))))


local macro_rules | `(tactic| walk_at "eval ListComp") => `(tactic| (k_here; k_dflt (first
  | (refine LCt.ListComp_T (F₀ := by k_asm) (by with_unfolding_all rfl) (by decide) (by rfl) (by decide) (by rfl) ?_)
  | (refine LCg.ListComp_U (F₀ := by k_asm) (by with_unfolding_all rfl) (by decide) (by rfl) (by decide) (by rfl) ?_))))
def Stop15 (P : Prop) : Prop := P
theorem stop15 {P : Prop} (h : Stop15 P) : P := h
local macro_rules | `(tactic| walk_at "CompSrcT") => `(tactic| (refine stop15 ?_))
local macro_rules | `(tactic| walk_at "CompSrc") => `(tactic| (refine stop15 ?_))

local macro_rules | `(tactic| walk_at "exec Assign cons ListComp") => `(tactic| (k_here; k_dflt (first
  | (refine wpAny_Assign_Name ?_ (by with_unfolding_all rfl))
  | (refine LCt.Assign_ListComp_T (F₀ := by k_asm) (by rfl) (by with_unfolding_all rfl) (by with_unfolding_all rfl) (by decide) (by rfl) (by decide) (by rfl) (by rfl) (by rfl) ?_)
  | (refine LCg.Assign_ListComp_U (F₀ := by k_asm) (by rfl) (by with_unfolding_all rfl) (by with_unfolding_all rfl) (by decide) (by rfl) (by decide) (by rfl) (by rfl) (by rfl) ?_))))
local macro_rules | `(tactic| walk_at "call builtin:sorted") => `(tactic| (k_here; k_dflt (refine' sorted_K ?h ?F ?N ?s ?r ?l ?_; (case h => rfl); (case F => k_asm); (case N => k_asm); (case s => exact SentAt.mono (by assumption) (Fr.keep (by assumption))); (case r => assumption); (case l => assumption)); intro D' h' tk' vs' n' F' N' l1 hI'; (try k_lt l1); (try dsimp only); (try k_sweep)))

theorem sortedL_K {prog : Program} {w : World} {A : Around} {E : Value → Shared → Prop} {s : Shared} {h₀ : Heap} {L l : Addr} {m : Str → Option Value} {news : List (Addr × Obj)} {ys : List Value} {ns : List Int} {nn : Nat} {Q : Value → Shared → Prop}
    (F : Fr h₀ L s.heap m) (N : News h₀ L s.heap news) (hm : (l, listOf ys.toArray nn) ∈ news) (hi : IntsAre ys ns) (h64 : ns.length < 64)
    (h : ∀ D vs' ns' c h', Fr h₀ L h' m → News h₀ L h' ((D, listOf (List.toArray vs') c) :: news) → (∀ q ∈ news, q.1 < D) → IntsAre vs' ns' → ns'.Perm ns → ns'.Pairwise (· ≤ ·) → Q (.ref D) { s with heap := h' }) :
    wpAny (model prog w) A (call (.builtin "sorted") [.ref l]) Q E s :=
  kso_sorted F N ⟨_, (N _ hm).1, rfl, nn, rfl⟩ hi h64 fun D vs' ns' c h' F' N' l1 g1 _ g2 g3 _ => h D vs' ns' c h' F' N' l1 g1 g2 g3
local macro_rules | `(tactic| walk_at "call builtin:sorted") => `(tactic| (k_here; k_dflt (refine' sortedL_K ?F ?N ?m ?i ?l ?_; (case F => k_asm); (case N => k_asm); (case m => k_mem); (case i => assumption); (case l => assumption)); intro D' vs' ns' c' h' F' N' l1 hI' hP' hS'; (try k_lt l1); (try dsimp only); (try k_sweep)))
local macro_rules | `(tactic| walk_at "compareOp NotIn int ref") => `(tactic| (k_here; k_dflt (refine notin_list_ints (News.isList (by assumption) (by k_mem)) (by assumption) ?_)))
theorem len_filter {p : Int → Bool} {l : List Int} {n : Nat} (h : l.length ≤ n) : (l.filter p).length ≤ n := Nat.le_trans (List.length_filter_le _ _) h
theorem item0 {prog : Program} {w : World} {A : Around} {E : Value → Shared → Prop} {s : Shared} {l : Addr} {vs : List Value} {ns : List Int} {u : Tok} {value slice : PySem.Expr} {Q : Value → Shared → Prop} (hl : s.heap.IsList l vs.toArray) (hi : IntsAre vs ns) (hne : decide (ns = []) = false)
    (h : ∀ t, Q (.int (ns.headD 0) t) s)
    (hs : subscripted slice false (.ref l) (.int 0 u) = operate [.ref l, .int 0 u] (getItem (.ref l) (.int 0 u)) := by with_unfolding_all rfl) :
    wpAny (model prog w) A (subscriptTail value slice (.ref l) (.int 0 u)) Q E s := by
  cases hi with
  | nil => simp at hne
  | cons n t hi => exact tail_any hl.typeIs slot_list_getitem.lookup (wpAny_getItem_list hl (by decide) (by decide) (by simp) (h t)) hs
local macro_rules | `(tactic| walk_at "subscriptTail") => `(tactic| (k_here; (with_reducible show wpAny _ _ (subscriptTail _ _ (Value.ref _) (Value.int 0 _)) _ _ _); k_dflt (refine item0 (News.isList (by assumption) (by k_mem)) (by assumption) (by assumption) ?_); intro t'))
theorem minO_of {ns' l : List Int} (hp : ns'.Perm l) (hs : ns'.Pairwise (· ≤ ·)) (hne : decide (ns' = []) = false) : IsMinO l (some (ns'.headD 0)) := by
  cases ns' with
  | nil => simp at hne
  | cons a r =>
    refine ⟨hp.mem_iff.mp (.head _), fun x hx => ?_⟩
    rcases List.mem_cons.mp (hp.mem_iff.mpr hx) with rfl | hx
    · exact Int.le_refl _
    · exact (List.pairwise_cons.mp hs).1 x hx
theorem minO_nil {ns' l : List Int} (hp : ns'.Perm l) (hne : decide (ns' = []) = true) : IsMinO l none := by
  have e : ns' = [] := by simpa using hne
  subst e
  exact hp.symm.eq_nil
set_option maxHeartbeats 1000000 in
theorem due_spec {w : World} {hb : Heap} {mg mb : Str → Option Value} {mean : ExcName → Option Value} {s : Shared} {Q E : Value → Shared → Prop} {d : Addr} {rows : List Row} {now dl : Int} {t1 t2 : Tok} {lgV : Value} {lg : Option Int}
    (X : (hd.heap_39 w.params).In hb) (T : Top hd.view_39 (looseW hd.view_39 []) mean mg mb hb) (hx : Ext hb s.heap)
    (hs : SentAt PySem.Challenge.rw_no0042_01.row.prog w s.heap d rows) (hr : (rows.map (·.num)).Pairwise (· < ·)) (hlen : rows.length ≤ 11) (hlg : OptIs lgV lg)
    (hq : ∀ D Dl h' tk ys n later lat nD, Ext s.heap h' → s.heap.get? D = none → s.heap.get? Dl = none → (@LT.lt Nat _ Dl D) → h'.get? D = some (tupObj #[.ref Dl, later] nD) → h'.get? Dl = some (listOf (List.toArray ys) n) → IntsAre ys (lostL (fun k => (rowAt rows k).time) lg now dl (rows.map (·.num))) → OptIs later lat → IsMinO (timesL (fun k => (rowAt rows k).time) lg now dl (rows.map (·.num))) lat →
      Q (.ref D) { s with heap := h', toks := tk }) :
    wpAny (model PySem.Challenge.rw_no0042_01.row.prog w) AM (call (.ref 78) [.ref d, lgV, .int now t1, .int dl t2]) Q E s := by
  w_top off
  revert X; k_fill; intro X
  cases hlg
  case none =>
    walk_at "MyEnterC"
    intro L' h₁ tk₁ cells F N Y
    have X' := X.keeps hx
    have T' := T.keeps hx
    obtain ⟨o1, o2, o3, o4, o5, hE, d1, d2, d3, d4, d5⟩ := cells_five Y
    subst hE
    clear Y
    (try dsimp only)
    k_unmd
    k_fold
    k_steps
    unfold Stop15
    have hIl := IntsAre.length (by assumption)
    refine LCt.CompSrcT.ledger (by rfl) (by k_asm) (by k_asm) (by k_mem) (by rw [List.size_toArray, hIl, List.length_map, sizeLine_eq]; omega) ?_
    clear hIl
    intro g'
    refine rest_T (as := rows.map (·.num)) IntV IntV (belowB none) (ints_all2 (by assumption)) (.inr ⟨_, by k_mem, rfl, _, rfl⟩) ?tests ?elts ?fin
    case tests =>
      intro a v I oI C oC D m₂ ys h tk E' ha hsrc hC hx9 F' N'
      obtain ⟨t, rfl⟩ := hsrc
      k_sweep
      k_steps
      all_goals (simp only [belowB]; simp [*])
    case elts =>
      intro a v I oI C oC D m₂ ys h tk E' ha hsrc hp hC hx9 F' N'
      obtain ⟨t, rfl⟩ := hsrc
      k_sweep
      k_steps
      all_goals exact ⟨_, rfl⟩
    case fin =>
      intro ys hys D h tk F' N' off
      simp only [LCg.Off1, and_true] at off
      have hb1 : IntsAre ys (belowL none (rows.map (·.num))) := hys.ints
      k_sweep
      k_unmd
      k_steps
      unfold Stop15
      have hbl : (belowL none (rows.map (·.num))).length ≤ 11 := len_filter (by rw [List.length_map]; exact hlen)
      have hIl := IntsAre.length hb1
      refine LCt.CompSrcT.ledger (by rfl) (by k_asm) (by k_asm) (by k_mem) (by rw [List.size_toArray, hIl, sizeLine_eq]; omega) ?_
      intro g''
      refine rest_T (as := belowL none (rows.map (·.num))) IntV IntV (lostP (fun k => (rowAt rows k).time) none now dl) (ints_all2 hb1) (.inr ⟨_, by k_mem, rfl, _, rfl⟩) ?tests2 ?elts2 ?fin2
      case tests2 =>
        intro a v I oI C oC D m₂ ys h tk E' ha hsrc hC hx9 F' N'
        exact absurd (List.mem_filter.mp ha).2 (by simp [belowB])
      case elts2 =>
        intro a v I oI C oC D m₂ ys h tk E' ha hsrc hp hC hx9 F' N'
        exact absurd (List.mem_filter.mp ha).2 (by simp [belowB])
      case fin2 =>
        intro ys2 hys2 D2 h tk F' N' off2
        simp only [LCg.Off1, and_true] at off2
        have hb2 : IntsAre ys2 (lostL (fun k => (rowAt rows k).time) none now dl (rows.map (·.num))) := hys2.ints
        k_sweep
        k_unmd
        k_steps
        unfold Stop15
        refine LCt.CompSrcT.ledger (by rfl) (by k_asm) (by k_asm) (by k_mem) (by rw [List.size_toArray, hIl, sizeLine_eq]; omega) ?_
        intro g3
        refine rest_T (as := belowL none (rows.map (·.num))) IntV (fun k v => IntV ((rowAt rows k).time + dl) v) (fun k => !((lostL (fun k => (rowAt rows k).time) none now dl (rows.map (·.num))).any (· == k))) (ints_all2 hb1) (.inr ⟨_, by k_mem, rfl, _, rfl⟩) ?tests3 ?elts3 ?fin3
        case tests3 =>
          intro a v I oI C oC D m₂ ys h tk E' ha hsrc hC hx9 F' N'
          exact absurd (List.mem_filter.mp ha).2 (by simp [belowB])
        case elts3 =>
          intro a v I oI C oC D m₂ ys h tk E' ha hsrc hp hC hx9 F' N'
          exact absurd (List.mem_filter.mp ha).2 (by simp [belowB])
        case fin3 =>
          intro ys3 hys3 D3 h tk F' N' off3
          simp only [LCg.Off1, and_true] at off3
          have hb3 : IntsAre ys3 (timesL (fun k => (rowAt rows k).time) none now dl (rows.map (·.num))) := (All2.map (f := fun k => (rowAt rows k).time + dl) (R := IntV) hys3).ints
          have hl3 : (timesL (fun k => (rowAt rows k).time) none now dl (rows.map (·.num))).length < 64 := by
            unfold timesL
            rw [List.length_map]
            have := len_filter (p := fun n => !((lostL (fun k => (rowAt rows k).time) none now dl (rows.map (·.num))).any (· == n))) hbl
            omega
          k_sweep
          k_unmd
          k_steps
          all_goals (
            (rename Fr _ _ _ _ => F9)
            (rename News _ _ _ _ => N9)
            k_unmd
            (try dsimp only)
            (try k_unfold)
            (try dsimp only))
          · exact hq _ _ _ _ _ _ _ _ _ F9.keep (N9 _ (.head _)).2.2 (N9 (D2, LCg.lst ys2) (by k_mem)).2.2 (by omega) (N9 _ (.head _)).1 (N9 (D2, LCg.lst ys2) (by k_mem)).1 hb2 .none (minO_nil (by assumption) (by assumption))
          · exact hq _ _ _ _ _ _ _ _ _ F9.keep (N9 _ (.head _)).2.2 (N9 (D2, LCg.lst ys2) (by k_mem)).2.2 (by omega) (N9 _ (.head _)).1 (N9 (D2, LCg.lst ys2) (by k_mem)).1 hb2 (.some _ _) (minO_of (by assumption) (by assumption) (by assumption))
  case some i ti =>
    walk_at "MyEnterC"
    intro L' h₁ tk₁ cells F N Y
    have X' := X.keeps hx
    have T' := T.keeps hx
    obtain ⟨o1, o2, o3, o4, o5, hE, d1, d2, d3, d4, d5⟩ := cells_five Y
    subst hE
    clear Y
    (try dsimp only)
    k_unmd
    k_fold
    k_steps
    unfold Stop15
    have hIl := IntsAre.length (by assumption)
    refine LCt.CompSrcT.ledger (by rfl) (by k_asm) (by k_asm) (by k_mem) (by rw [List.size_toArray, hIl, List.length_map, sizeLine_eq]; omega) ?_
    clear hIl
    intro g'
    refine rest_T (as := rows.map (·.num)) IntV IntV (belowB (some i)) (ints_all2 (by assumption)) (.inr ⟨_, by k_mem, rfl, _, rfl⟩) ?tests ?elts ?fin
    case tests =>
      intro a v I oI C oC D m₂ ys h tk E' ha hsrc hC hx9 F' N'
      obtain ⟨t, rfl⟩ := hsrc
      k_sweep
      k_steps
      all_goals (simp only [belowB]; simp [*])
    case elts =>
      intro a v I oI C oC D m₂ ys h tk E' ha hsrc hp hC hx9 F' N'
      obtain ⟨t, rfl⟩ := hsrc
      k_sweep
      k_steps
      all_goals exact ⟨_, rfl⟩
    case fin =>
      intro ys hys D h tk F' N' off
      simp only [LCg.Off1, and_true] at off
      have hb1 : IntsAre ys (belowL (some i) (rows.map (·.num))) := hys.ints
      k_sweep
      k_unmd
      k_steps
      unfold Stop15
      have hbl : (belowL (some i) (rows.map (·.num))).length ≤ 11 := len_filter (by rw [List.length_map]; exact hlen)
      have hIl := IntsAre.length hb1
      refine LCt.CompSrcT.ledger (by rfl) (by k_asm) (by k_asm) (by k_mem) (by rw [List.size_toArray, hIl, sizeLine_eq]; omega) ?_
      intro g''
      refine rest_T (as := belowL (some i) (rows.map (·.num))) IntV IntV (lostP (fun k => (rowAt rows k).time) (some i) now dl) (ints_all2 hb1) (.inr ⟨_, by k_mem, rfl, _, rfl⟩) ?tests2 ?elts2 ?fin2
      case tests2 =>
        intro a v I oI C oC D m₂ ys h tk E' ha hsrc hC hx9 F' N'
        obtain ⟨t, rfl⟩ := hsrc
        have hm := (List.mem_filter.mp ha).1
        k_sweep
        k_steps
        all_goals (simp only [lostP]; simp [*])
      case elts2 =>
        intro a v I oI C oC D m₂ ys h tk E' ha hsrc hp hC hx9 F' N'
        obtain ⟨t, rfl⟩ := hsrc
        k_sweep
        k_steps
        all_goals exact ⟨_, rfl⟩
      case fin2 =>
        intro ys2 hys2 D2 h tk F' N' off2
        simp only [LCg.Off1, and_true] at off2
        have hb2 : IntsAre ys2 (lostL (fun k => (rowAt rows k).time) (some i) now dl (rows.map (·.num))) := hys2.ints
        k_sweep
        k_unmd
        k_steps
        unfold Stop15
        refine LCt.CompSrcT.ledger (by rfl) (by k_asm) (by k_asm) (by k_mem) (by rw [List.size_toArray, hIl, sizeLine_eq]; omega) ?_
        intro g3
        refine rest_T (as := belowL (some i) (rows.map (·.num))) IntV (fun k v => IntV ((rowAt rows k).time + dl) v) (fun k => !((lostL (fun k => (rowAt rows k).time) (some i) now dl (rows.map (·.num))).any (· == k))) (ints_all2 hb1) (.inr ⟨_, by k_mem, rfl, _, rfl⟩) ?tests3 ?elts3 ?fin3
        case tests3 =>
          intro a v I oI C oC D m₂ ys h tk E' ha hsrc hC hx9 F' N'
          obtain ⟨t, rfl⟩ := hsrc
          k_sweep
          k_steps
        case elts3 =>
          intro a v I oI C oC D m₂ ys h tk E' ha hsrc hp hC hx9 F' N'
          obtain ⟨t, rfl⟩ := hsrc
          have hm := (List.mem_filter.mp ha).1
          k_sweep
          k_steps
          all_goals exact ⟨_, rfl⟩
        case fin3 =>
          intro ys3 hys3 D3 h tk F' N' off3
          simp only [LCg.Off1, and_true] at off3
          have hb3 : IntsAre ys3 (timesL (fun k => (rowAt rows k).time) (some i) now dl (rows.map (·.num))) := (All2.map (f := fun k => (rowAt rows k).time + dl) (R := IntV) hys3).ints
          have hl3 : (timesL (fun k => (rowAt rows k).time) (some i) now dl (rows.map (·.num))).length < 64 := by
            unfold timesL
            rw [List.length_map]
            have := len_filter (p := fun n => !((lostL (fun k => (rowAt rows k).time) (some i) now dl (rows.map (·.num))).any (· == n))) hbl
            omega
          k_sweep
          k_unmd
          k_steps
          all_goals (
            (rename Fr _ _ _ _ => F9)
            (rename News _ _ _ _ => N9)
            k_unmd
            (try dsimp only)
            (try k_unfold)
            (try dsimp only))
          · exact hq _ _ _ _ _ _ _ _ _ F9.keep (N9 _ (.head _)).2.2 (N9 (D2, LCg.lst ys2) (by k_mem)).2.2 (by omega) (N9 _ (.head _)).1 (N9 (D2, LCg.lst ys2) (by k_mem)).1 hb2 .none (minO_nil (by assumption) (by assumption))
          · exact hq _ _ _ _ _ _ _ _ _ F9.keep (N9 _ (.head _)).2.2 (N9 (D2, LCg.lst ys2) (by k_mem)).2.2 (by omega) (N9 _ (.head _)).1 (N9 (D2, LCg.lst ys2) (by k_mem)).1 hb2 (.some _ _) (minO_of (by assumption) (by assumption) (by assumption))
end Mine
namespace Mine
open PySem.Calls
/-! the plain law: no program in sight -/
section
variable {tm : Int → Int} {lg : Option Int} {now dl : Int}
def lostQ (tm : Int → Int) (lg : Option Int) (now dl n : Int) : Bool := belowB lg n && lostP tm lg now dl n
theorem lostL_eq (ns : List Int) : lostL tm lg now dl ns = ns.filter (lostQ tm lg now dl) := by
  unfold lostL belowL
  rw [List.filter_filter]
  congr 1
  funext n
  exact Bool.and_comm _ _
theorem dstep_fst (acc : List Int × Option Int) (n : Int) : (dstep tm lg now dl acc n).1 = acc.1 ++ (if lostQ tm lg now dl n = true then [n] else []) := by
  obtain ⟨l, o⟩ := acc
  cases lg with
  | none => simp [dstep, lostQ, belowB]
  | some g =>
    simp only [dstep, lostQ, belowB, lostP, lostB]
    by_cases h1 : n > g
    · have : ¬ n ≤ g := by omega
      simp [h1, this]
    · have h2 : n ≤ g := by omega
      simp only [h1, if_false, h2, decide_true, Bool.true_and]
      have e : decide (dl ≤ now - tm n) = decide (tm n + dl ≤ now) := by
        by_cases h : tm n + dl ≤ now
        · have : dl ≤ now - tm n := by omega
          simp [h, this]
        · have : ¬ dl ≤ now - tm n := by omega
          simp [h, this]
      rw [e]
      split
      · simp
      · cases o with
        | none => simp
        | some q => simp only; split <;> simp
theorem foldl_fst : ∀ (ns : List Int) (acc : List Int × Option Int), (ns.foldl (dstep tm lg now dl) acc).1 = acc.1 ++ ns.filter (lostQ tm lg now dl)
  | [], acc => by simp
  | n :: r, acc => by
    rw [List.foldl_cons, foldl_fst r, dstep_fst, List.filter_cons]
    split <;> simp
theorem detF_fst (ns : List Int) : (detF tm lg now dl ns).1 = ns.filter (lostQ tm lg now dl) := by
  unfold detF
  rw [foldl_fst]
  rfl
theorem detF_lost (ns : List Int) : (detF tm lg now dl ns).1 = lostL tm lg now dl ns := by rw [detF_fst, lostL_eq]
/-- below, and not lost -/
def keptQ (tm : Int → Int) (lg : Option Int) (now dl n : Int) : Bool := belowB lg n && !(lostP tm lg now dl n)
theorem dstep_snd (acc : List Int × Option Int) (n : Int) : (dstep tm lg now dl acc n).2 = if keptQ tm lg now dl n = true then (match acc.2 with | none => some (tm n + dl) | some l => if tm n + dl < l then some (tm n + dl) else some l) else acc.2 := by
  obtain ⟨l, o⟩ := acc
  cases lg with
  | none => simp [dstep, keptQ, belowB]
  | some g =>
    simp only [dstep, keptQ, belowB, lostP, lostB]
    by_cases h1 : n > g
    · have : ¬ n ≤ g := by omega
      simp [h1, this]
    · have h2 : n ≤ g := by omega
      simp only [h1, if_false, h2, decide_true, Bool.true_and]
      have e : decide (dl ≤ now - tm n) = decide (tm n + dl ≤ now) := by
        by_cases h : tm n + dl ≤ now
        · have : dl ≤ now - tm n := by omega
          simp [h, this]
        · have : ¬ dl ≤ now - tm n := by omega
          simp [h, this]
      rw [e]
      cases hb : (decide (n + 3 ≤ g) || decide (tm n + dl ≤ now)) with
      | true => simp
      | false =>
        simp only [Bool.false_eq_true, if_false, Bool.not_false, if_true]
        cases o with
        | none => rfl
        | some q => simp only; split <;> rfl
def minStep (t : Int) : Option Int → Option Int
  | none => some t
  | some q => if t < q then some t else some q
theorem minO_snoc {l : List Int} {o : Option Int} (h : IsMinO l o) (t : Int) : IsMinO (l ++ [t]) (minStep t o) := by
  cases o with
  | none =>
    have e : l = [] := h
    subst e
    exact ⟨.head _, fun x hx => by rw [List.mem_singleton.mp hx]; exact Int.le_refl _⟩
  | some q =>
    obtain ⟨h1, h2⟩ := h
    simp only [minStep]
    split
    · rename_i hlt
      refine ⟨List.mem_append.mpr (.inr (.head _)), fun x hx => ?_⟩
      rcases List.mem_append.mp hx with hx | hx
      · have := h2 x hx; omega
      · rw [List.mem_singleton.mp hx]; exact Int.le_refl _
    · rename_i hlt
      refine ⟨List.mem_append.mpr (.inl h1), fun x hx => ?_⟩
      rcases List.mem_append.mp hx with hx | hx
      · exact h2 x hx
      · rw [List.mem_singleton.mp hx]; omega
theorem foldl_snd : ∀ (ns : List Int) (acc : List Int × Option Int) (l : List Int), IsMinO l acc.2 → IsMinO (l ++ (ns.filter (keptQ tm lg now dl)).map fun n => tm n + dl) (ns.foldl (dstep tm lg now dl) acc).2
  | [], acc, l, h => by simpa using h
  | n :: r, acc, l, h => by
    rw [List.foldl_cons, List.filter_cons]
    cases hk : keptQ tm lg now dl n with
    | true =>
      have h1 : IsMinO (l ++ [tm n + dl]) (dstep tm lg now dl acc n).2 := by
        rw [dstep_snd, hk]
        simp only [if_true]
        have := minO_snoc h (tm n + dl)
        revert this
        cases acc.2 <;> exact id
      have := foldl_snd r _ _ h1
      simpa using this
    | false =>
      have h1 : IsMinO l (dstep tm lg now dl acc n).2 := by
        rw [dstep_snd, hk]
        simpa using h
      have := foldl_snd r _ _ h1
      simpa using this
theorem detF_min (ns : List Int) : IsMinO ((ns.filter (keptQ tm lg now dl)).map fun n => tm n + dl) (detF tm lg now dl ns).2 := by
  have := foldl_snd (tm := tm) (lg := lg) (now := now) (dl := dl) ns ([], none) [] rfl
  simpa [detF] using this
theorem minO_inj {l : List Int} {a b : Option Int} (ha : IsMinO l a) (hb : IsMinO l b) : a = b := by
  cases a with
  | none =>
    have e : l = [] := ha
    subst e
    cases b with
    | none => rfl
    | some t => cases hb.1
  | some t =>
    cases b with
    | none =>
      have e : l = [] := hb
      subst e
      cases ha.1
    | some u =>
      have h1 := ha.2 u hb.1
      have h2 := hb.2 t ha.1
      have : t = u := by omega
      rw [this]
theorem timesL_eq (ns : List Int) : timesL tm lg now dl ns = (ns.filter (keptQ tm lg now dl)).map fun n => tm n + dl := by
  unfold timesL belowL
  rw [List.filter_filter]
  congr 1
  refine List.filter_congr fun n hn => ?_
  unfold keptQ
  rw [lostL_eq]
  cases hb : belowB lg n with
  | false => simp
  | true =>
    simp only [Bool.and_true, Bool.true_and]
    congr 1
    cases hl : lostP tm lg now dl n with
    | true =>
      rw [List.any_eq_true]
      exact ⟨n, List.mem_filter.mpr ⟨hn, by simp [lostQ, hb, hl]⟩, by simp⟩
    | false =>
      rw [List.any_eq_false]
      intro x hx e
      have e' : x = n := by simpa using e
      subst e'
      have := (List.mem_filter.mp hx).2
      simp [lostQ, hl] at this
theorem due_later {ns : List Int} {lat : Option Int} (h : IsMinO (timesL tm lg now dl ns) lat) : lat = (detF tm lg now dl ns).2 := by
  rw [timesL_eq] at h
  exact minO_inj h (detF_min ns)
/-- at the time told another one is lost -/
theorem more_lost {ns : List Int} {l : Int} (h : (detF tm lg now dl ns).2 = some l) : (detF tm lg now dl ns).1.length < (detF tm lg l dl ns).1.length := by
  have hm := detF_min (tm := tm) (lg := lg) (now := now) (dl := dl) ns
  rw [h] at hm
  obtain ⟨h1, h2⟩ := hm
  obtain ⟨n, hn, e⟩ := List.mem_map.mp h1
  obtain ⟨hns, hk⟩ := List.mem_filter.mp hn
  rw [detF_fst, detF_fst]
  cases lg with
  | none => simp [keptQ, belowB] at hk
  | some g =>
    simp only [keptQ, belowB, lostP, Bool.and_eq_true, decide_eq_true_eq, Bool.not_eq_true', Bool.or_eq_false_iff, decide_eq_false_iff_not] at hk
    have hnow : now < l := by
      obtain ⟨_, _, h3⟩ := hk
      have e : tm n + dl = l := e
      omega
    have sub : ∀ k, lostQ tm (some g) now dl k = true → lostQ tm (some g) l dl k = true := by
      intro k hq
      simp only [lostQ, belowB, lostP, Bool.and_eq_true, decide_eq_true_eq, Bool.or_eq_true] at hq ⊢
      refine ⟨hq.1, hq.2.imp id fun h => by omega⟩
    have key : ∀ (xs : List Int), (xs.filter (lostQ tm (some g) now dl)).length ≤ (xs.filter (lostQ tm (some g) l dl)).length ∧ (n ∈ xs → (xs.filter (lostQ tm (some g) now dl)).length < (xs.filter (lostQ tm (some g) l dl)).length) := by
      intro xs
      induction xs with
      | nil => exact ⟨Nat.le_refl _, fun h => nomatch h⟩
      | cons a r ih =>
        rw [List.filter_cons, List.filter_cons]
        cases ha : lostQ tm (some g) now dl a with
        | true =>
          rw [sub a ha]
          simp only [if_true, List.length_cons]
          refine ⟨by omega, fun hmem => ?_⟩
          rcases List.mem_cons.mp hmem with e' | hmem
          · exfalso
            rw [← e'] at ha
            simp only [lostQ, belowB, lostP, Bool.and_eq_true, decide_eq_true_eq, Bool.or_eq_true] at ha
            obtain ⟨_, h5, h6⟩ := hk
            rcases ha.2 with h7 | h7
            · exact h5 h7
            · exact h6 h7
          · have := ih.2 hmem; omega
        | false =>
          simp only [Bool.false_eq_true, if_false]
          cases hb : lostQ tm (some g) l dl a with
          | true =>
            simp only [if_true, List.length_cons]
            exact ⟨by omega, fun _ => by omega⟩
          | false =>
            simp only [Bool.false_eq_true, if_false]
            refine ⟨ih.1, fun hmem => ?_⟩
            rcases List.mem_cons.mp hmem with e' | hmem
            · exfalso
              rw [← e'] at hb
              simp only [lostQ, belowB, lostP, Bool.and_eq_false_iff, decide_eq_false_iff_not, Bool.or_eq_false_iff] at hb
              rcases hb with h7 | h7
              · exact h7 hk.1
              · have e : tm n + dl = l := e
                exact h7.2 (by omega)
            · exact ih.2 hmem
    exact (key ns).2 hns
/-- not ahead of it -/
theorem same_lost {ns : List Int} {l : Int} (h : (detF tm lg now dl ns).2 = some l) : (detF tm lg (l - 1) dl ns).1 = (detF tm lg now dl ns).1 := by
  have hm := detF_min (tm := tm) (lg := lg) (now := now) (dl := dl) ns
  rw [h] at hm
  obtain ⟨h1, h2⟩ := hm
  rw [detF_fst, detF_fst]
  obtain ⟨n, hn, e⟩ := List.mem_map.mp h1
  obtain ⟨hns, hk⟩ := List.mem_filter.mp hn
  cases lg with
  | none => simp [keptQ, belowB] at hk
  | some g =>
    simp only [keptQ, belowB, lostP, Bool.and_eq_true, decide_eq_true_eq, Bool.not_eq_true', Bool.or_eq_false_iff, decide_eq_false_iff_not] at hk
    have hnow : now < l := by
      obtain ⟨_, _, h3⟩ := hk
      have e : tm n + dl = l := e
      omega
    refine List.filter_congr fun k hks => ?_
    cases hq : lostQ tm (some g) now dl k with
    | true =>
      simp only [lostQ, belowB, lostP, Bool.and_eq_true, decide_eq_true_eq, Bool.or_eq_true] at hq ⊢
      exact ⟨hq.1, hq.2.imp id fun h => by omega⟩
    | false =>
      cases hq2 : lostQ tm (some g) (l - 1) dl k with
      | false => rfl
      | true =>
        exfalso
        simp only [lostQ, belowB, lostP, Bool.and_eq_true, decide_eq_true_eq, Bool.or_eq_true] at hq2
        simp only [lostQ, belowB, lostP, Bool.and_eq_false_iff, decide_eq_false_iff_not, Bool.or_eq_false_iff] at hq
        rcases hq with h7 | h7
        · exact h7 hq2.1
        · have hkept : keptQ tm (some g) now dl k = true := by
            simp only [keptQ, belowB, lostP, Bool.and_eq_true, decide_eq_true_eq, Bool.not_eq_true', Bool.or_eq_false_iff, decide_eq_false_iff_not]
            exact ⟨hq2.1, h7⟩
          have h8 := h2 (tm k + dl) (List.mem_map.mpr ⟨k, List.mem_filter.mpr ⟨hks, hkept⟩, rfl⟩)
          rcases hq2.2 with h9 | h9
          · exact h7.1 h9
          · omega
theorem detF_sub (ns : List Int) : ∀ k ∈ (detF tm lg now dl ns).1, k ∈ ns := fun k hk => by
  rw [detF_fst] at hk
  exact (List.mem_filter.mp hk).1
theorem detF_len (ns : List Int) : (detF tm lg now dl ns).1.length ≤ ns.length := by
  rw [detF_fst]
  exact List.length_filter_le _ _
/-- what is left and what is lost make up the whole -/
theorem left_lost {ns ns' : List Int} (hs : ns.Pairwise (· < ·)) (hp : ns'.Perm ((ns.filter fun k => !((detF tm lg now dl ns).1.any (· == k))) ++ (detF tm lg now dl ns).1)) (hs' : ns'.Pairwise (· ≤ ·)) : ns' = ns := by
  have hle : ns.Pairwise (· ≤ ·) := hs.imp fun h => Int.le_of_lt h
  refine List.Perm.eq_of_pairwise (fun _ _ _ _ h1 h2 => Int.le_antisymm h1 h2) hs' hle (hp.trans ?_)
  rw [detF_fst]
  have e : (ns.filter fun k => !((ns.filter (lostQ tm lg now dl)).any (· == k))) = ns.filter fun k => !(lostQ tm lg now dl k) := by
    refine List.filter_congr fun k hk => ?_
    congr 1
    cases hl : lostQ tm lg now dl k with
    | true =>
      rw [List.any_eq_true]
      exact ⟨k, List.mem_filter.mpr ⟨hk, hl⟩, by simp⟩
    | false =>
      rw [List.any_eq_false]
      intro x hx e
      have e' : x = k := by simpa using e
      subst e'
      rw [(List.mem_filter.mp hx).2] at hl
      cases hl
  rw [e]
  exact List.perm_append_comm.trans (List.filter_append_perm _ _)
end
/-- the newest of those in flight -/
def IsMaxO (l : List Int) : Option Int → Prop
  | none => l = []
  | some t => t ∈ l ∧ ∀ x ∈ l, x ≤ t
def maxStep (t : Int) : Option Int → Option Int
  | none => some t
  | some q => if q < t then some t else some q
theorem maxO_snoc {l : List Int} {o : Option Int} (h : IsMaxO l o) (t : Int) : IsMaxO (l ++ [t]) (maxStep t o) := by
  cases o with
  | none =>
    have e : l = [] := h
    subst e
    exact ⟨.head _, fun x hx => by rw [List.mem_singleton.mp hx]; exact Int.le_refl _⟩
  | some q =>
    obtain ⟨h1, h2⟩ := h
    simp only [maxStep]
    split
    · refine ⟨List.mem_append.mpr (.inr (.head _)), fun x hx => ?_⟩
      rcases List.mem_append.mp hx with hx | hx
      · have := h2 x hx; omega
      · rw [List.mem_singleton.mp hx]; exact Int.le_refl _
    · refine ⟨List.mem_append.mpr (.inl h1), fun x hx => ?_⟩
      rcases List.mem_append.mp hx with hx | hx
      · exact h2 x hx
      · rw [List.mem_singleton.mp hx]; omega
theorem newF_max {tm : Int → Int} {fl : Int → Bool} : ∀ (ns l : List Int) (o : Option Int), IsMaxO l o → IsMaxO (l ++ (ns.filter fl).map tm) (ns.foldl (nstep tm fl) o)
  | [], l, o, h => by simpa using h
  | n :: r, l, o, h => by
    rw [List.foldl_cons, List.filter_cons]
    cases hk : fl n with
    | true =>
      have h1 : IsMaxO (l ++ [tm n]) (nstep tm fl o n) := by
        unfold nstep
        rw [hk]
        simp only [if_true]
        have := maxO_snoc h (tm n)
        revert this
        cases o <;> exact id
      have := newF_max (tm := tm) (fl := fl) r _ _ h1
      simpa using this
    | false =>
      have h1 : IsMaxO l (nstep tm fl o n) := by
        unfold nstep
        rw [hk]
        simpa using h
      have := newF_max (tm := tm) (fl := fl) r _ _ h1
      simpa using this
theorem newF_none {tm : Int → Int} {fl : Int → Bool} {ns : List Int} (h : ns.filter fl = []) : newF tm fl ns = none := by
  have hm := newF_max (tm := tm) (fl := fl) ns [] none rfl
  rw [h] at hm
  unfold newF
  cases hq : ns.foldl (nstep tm fl) none with
  | none => rfl
  | some t => rw [hq] at hm; cases hm.1
theorem newF_some {tm : Int → Int} {fl : Int → Bool} {ns : List Int} {M : Int} (h1 : M ∈ (ns.filter fl).map tm) (h2 : ∀ a ∈ (ns.filter fl).map tm, a ≤ M) : newF tm fl ns = some M := by
  have hm := newF_max (tm := tm) (fl := fl) ns [] none rfl
  unfold newF
  cases hq : ns.foldl (nstep tm fl) none with
  | none =>
    rw [hq] at hm
    have e : ([] : List Int) ++ (ns.filter fl).map tm = [] := hm
    simp only [List.nil_append] at e
    rw [e] at h1
    cases h1
  | some t =>
    rw [hq] at hm
    simp only [List.nil_append] at hm
    have g1 := hm.2 M h1
    have g2 := h2 t hm.1
    have : t = M := by omega
    rw [this]
end Mine
namespace Mine
open PySem.Calls
/-! the contracts in the walk's own words -/
abbrev PR : Program := PySem.Challenge.rw_no0042_01.row.prog
section
variable {w : World} {A : Around} {E : Value → Shared → Prop} {s : Shared} {h₀ : Heap} {L : Addr} {m mg mb : Str → Option Value} {mean : ExcName → Option Value} {news rest : List (Addr × Obj)} {Q : Value → Shared → Prop} {d : Addr} {rows : List Row}
theorem off1_of {D : Addr} : ∀ {l : List (Addr × Obj)}, (∀ p ∈ l, p.1 ≠ D) → LCg.Off1 D l
  | [], _ => trivial
  | _ :: _, h => ⟨h _ (.head _), off1_of fun p hp => h p (.tail _ hp)⟩
theorem off_fresh {D : Addr} {h : Heap} (N : News h₀ L h news) (hD : h.get? D = none) : ∀ p ∈ news, p.1 ≠ D := fun p hp e => by
  have := (N p hp).1
  rw [e, hD] at this
  cases this
/-- a fresh object goes onto the ledger -/
theorem news_add {h h' : Heap} {D : Addr} {o : Obj} (F : Fr h₀ L h m) (hD : h.get? D = none) (ho : h'.get? D = some o) (N' : News h₀ L h' news) : News h₀ L h' ((D, o) :: news) := by
  refine List.forall_mem_cons.mpr ⟨⟨ho, fun e => ?_, ?_⟩, N'⟩
  · obtain ⟨oL, _, _, hL, _⟩ := F.ns
    have e' : D = L := e
    rw [← e', hD] at hL
    cases hL
  · cases q : h₀.get? D with
    | none => rfl
    | some o' => rw [F.keep _ _ q] at hD; cases hD
theorem sent_of {prog : Program} {od : Obj} {kvs : List (Int × Value)} {tl : List (Addr × Obj)} (N : News h₀ L s.heap news) (hm : (d, od) ∈ news) (hod : od.IsDictOf (PySem.intKind prog w) kvs) (lo : (d == sysModules) = false) (hr : RowsOn (fun a o => (a, o) ∈ tl) kvs rows) (hsub : ∀ p ∈ tl, p ∈ news) :
    SentAt prog w s.heap d rows := ⟨kvs, Heap.dictOf_iff.mpr ⟨od, (N _ hm).1, hod⟩, lo, hr.mono fun a o h => (N _ (hsub _ h)).1⟩
theorem box_K {l₀ : Addr} {vs : List Value} {ns : List Int} {tk0 : Tok} (F : Fr h₀ L s.heap m) (N : News h₀ L s.heap news) (X : (hd.heap_39 w.params).In h₀) (T : Top hd.view_39 (looseW hd.view_39 []) mean mg mb h₀)
    (hol : h₀.IsList l₀ vs.toArray) (hi : IntsAre vs ns) (hlen : ns.length ≤ 63) (hh : A.handled = none) (hdp : A.depth ≤ 600) (hun : A.units ≤ 2000)
    (h : ∀ b l h' tk vs' ns' sd' ts' nb' nl', Fr h₀ L h' m → News h₀ L h' ((b, listOf #[.ref l, .int sd' ts'] nb') :: (l, listOf (List.toArray vs') nl') :: news) → LCg.Off1 b news → LCg.Off1 l news → (@Ne Nat b l) → IntsAre vs' ns' → ns'.length ≤ 64 → Q (.ref b) { s with heap := h', toks := tk }) :
    wpAny (model PR w) A (call (.ref 66) [.ref l₀, .int 41 tk0]) Q E s := by
  refine around_up (B := AL) hh hdp hun rfl rfl (box_spec X T F.keep (stays_list F.keep hol) hi hlen ?_)
  intro b l h' tk vs' ns' sd' ts' nb' nl' e hb hl hne eb el hi' hl'
  exact h b l h' tk vs' ns' sd' ts' nb' nl' (F.kept e) (news_add F hb eb (news_add F hl el (N.grown e))) (off1_of (off_fresh N hb)) (off1_of (off_fresh N hl)) hne hi' hl'
theorem rows_K {b l : Addr} {vs : List Value} {ns : List Int} {sd : Int} {ts : Tok} {nb nl : Nat} (F : Fr h₀ L s.heap m) (N : News h₀ L s.heap news) (X : (hd.heap_39 w.params).In h₀) (T : Top hd.view_39 (looseW hd.view_39 []) mean mg mb h₀)
    (hmb : (b, listOf #[.ref l, .int sd ts] nb) ∈ news) (hml : (l, listOf vs.toArray nl) ∈ news) (hi : IntsAre vs ns) (hlen : ns.length ≤ 64) (hne : @Ne Nat b l) (ho : Off2 b l news rest)
    (hh : A.handled = none) (hdp : A.depth ≤ 500) (hun : A.units ≤ 1000)
    (h : ∀ d h' tk od kvs rows tl n vs' ns' sd' ts' nb' nl', Fr h₀ L h' m → News h₀ L h' ((b, listOf #[.ref l, .int sd' ts'] nb') :: (l, listOf (List.toArray vs') nl') :: (d, od) :: (rest ++ tl)) → (@Ne Nat b d) → (@Ne Nat l d) → LCg.Off1 d rest → (d == sysModules) = false →
      od.IsDictOf (PySem.intKind PR w) kvs → RowsOn (fun a o => (a, o) ∈ tl) kvs rows → OwnOff tl (b :: l :: d :: rest.map (·.1)) → rows.length ≤ 11 → Rising rows n → IntsAre vs' ns' → ns'.length ≤ 64 → Q (.ref d) { s with heap := h', toks := tk }) :
    wpAny (model PR w) A (call (.ref 73) [.ref b]) Q E s := by
  have Nb := N _ hmb
  have Nl := N _ hml
  refine around_up (B := AM) hh hdp hun rfl rfl (rows_spec X T F.keep Nb.1 Nl.1 hi hne hlen Nb.2.2 Nl.2.2 ?_)
  intro d h' tk od kvs rows tl n vs' ns' sd' ts' nb' nl' e hd lo ed hod hrows htl hoff hrl hris eb el hi' hl'
  have e2 : ∀ c ∈ [b, l], h₀.get? c = none := by
    intro c hc
    rcases List.mem_cons.mp hc with rfl | hc
    · exact Nb.2.2
    · rw [List.mem_singleton.mp hc]; exact Nl.2.2
  have e3 : L ∉ [b, l] := by
    intro hc
    rcases List.mem_cons.mp hc with q | hc
    · exact Nb.2.1 q.symm
    · exact Nl.2.1 (List.mem_singleton.mp hc).symm
  have F' := fr_but F e e3 e2
  have Nr : News h₀ L s.heap rest := fun p hp => N p (ho.mem p hp).1
  have Nr' : News h₀ L h' rest := news_but Nr e (fun p hp => (ho.mem p hp).2)
  have Nt : News h₀ L h' tl := fun p hp => by
    refine ⟨(htl p hp).1, fun q => ?_, ?_⟩
    · obtain ⟨oL, _, _, hL, _⟩ := F.ns
      have := (htl p hp).2
      rw [q, hL] at this; cases this
    · cases q : h₀.get? p.1 with
      | none => rfl
      | some o' => have := (htl p hp).2; rw [F.keep _ _ q] at this; cases this
  refine h d h' tk od kvs rows tl n vs' ns' sd' ts' nb' nl' F' ?_ ?_ ?_ (off1_of (off_fresh Nr hd)) lo hod hrows ?_ hrl hris hi' hl'
  · refine List.forall_mem_cons.mpr ⟨⟨eb, Nb.2⟩, List.forall_mem_cons.mpr ⟨⟨el, Nl.2⟩, news_add F hd ed fun p hp => ?_⟩⟩
    rcases List.mem_append.mp hp with hp | hp
    · exact Nr' p hp
    · exact Nt p hp
  · intro q; rw [← q, Nb.1] at hd; cases hd
  · intro q; rw [← q, Nl.1] at hd; cases hd
  · intro p hp c hc
    rcases List.mem_cons.mp hc with rfl | hc
    · exact hoff p hp _ (.head _)
    · rcases List.mem_cons.mp hc with rfl | hc
      · exact hoff p hp _ (.tail _ (.head _))
      · rcases List.mem_cons.mp hc with rfl | hc
        · exact hoff p hp _ (.tail _ (.tail _ (.head _)))
        · obtain ⟨q, hq, rfl⟩ := List.mem_map.mp hc
          intro e9
          have h1 := (Nr q hq).1
          rw [← e9, (htl p hp).2] at h1
          cases h1
theorem loss_K {l sm : Int} {tl ts : Tok} (F : Fr h₀ L s.heap m) (N : News h₀ L s.heap news) (X : (hd.heap_39 w.params).In h₀) (T : Top hd.view_39 (looseW hd.view_39 []) mean mg mb h₀) (hh : A.handled = none) (hdp : A.depth ≤ 600) (hun : A.units ≤ 2000)
    (h : ∀ dl t h' tk, Fr h₀ L h' m → News h₀ L h' news → 1000 ≤ dl → (dl ≠ 1000 → 8 * dl ≤ 9 * (if sm > l then sm else l) ∧ 9 * (if sm > l then sm else l) < 8 * dl + 8) → (dl = 1000 → 9 * (if sm > l then sm else l) < 8008) → Q (.int dl t) { s with heap := h', toks := tk }) :
    wpAny (model PR w) A (call (.ref 21) [.int l tl, .int sm ts]) Q E s := by
  refine around_up (B := AL) hh hdp hun rfl rfl (loss_delay_spec X T F.keep ?_)
  intro t h' tk e
  have hf : (9 * if sm > l then sm else l).fdiv 8 = (9 * if sm > l then sm else l) / 8 := Int.fdiv_eq_ediv_of_nonneg _ (by decide)
  generalize (if sm > l then sm else l) = mx at h hf
  refine h _ t h' tk (F.kept e) (N.grown e) ?_ ?_ ?_
  · rw [hf]; split <;> omega
  · rw [hf]; split <;> omega
  · rw [hf]; split <;> omega
theorem detect_K {now dl : Int} {t1 t2 : Tok} {lgV : Value} {lg : Option Int} (F : Fr h₀ L s.heap m) (N : News h₀ L s.heap news) (X : (hd.heap_39 w.params).In h₀) (T : Top hd.view_39 (looseW hd.view_39 []) mean mg mb h₀)
    (hs : SentAt PR w s.heap d rows) (hr : (rows.map (·.num)).Pairwise (· < ·)) (hlen : rows.length ≤ 11) (hlg : OptIs lgV lg) (hh : A.handled = none) (hdp : A.depth ≤ 500) (hun : A.units ≤ 1000)
    (h : ∀ D Dl h' tk vs n later nD, Fr h₀ L h' m → News h₀ L h' ((D, tupObj #[.ref Dl, later] nD) :: (Dl, listOf (List.toArray vs) n) :: news) → (@LT.lt Nat _ Dl D) → LCg.Off1 D news → LCg.Off1 Dl news → IntsAre vs (detF (fun k => (rowAt rows k).time) lg now dl (rows.map (·.num))).1 → (detF (fun k => (rowAt rows k).time) lg now dl (rows.map (·.num))).1.length ≤ 11 → OptIs later (detF (fun k => (rowAt rows k).time) lg now dl (rows.map (·.num))).2 → Q (.ref D) { s with heap := h', toks := tk }) :
    wpAny (model PR w) A (call (.ref 35) [.ref d, lgV, .int now t1, .int dl t2]) Q E s := by
  refine around_up (B := AM) hh hdp hun rfl rfl (detect_spec X T F.keep hs hr hlen hlg ?_)
  intro D Dl h' tk vs n later nD e hD hDl hlt eD eDl hi ho
  exact h D Dl h' tk vs n later nD (F.kept e) (news_add F hD eD (news_add F hDl eDl (N.grown e))) hlt (off1_of (off_fresh N hD)) (off1_of (off_fresh N hDl)) hi (Nat.le_trans (detF_len _) (by rw [List.length_map]; exact hlen)) ho
theorem due_K {now dl : Int} {t1 t2 : Tok} {lgV : Value} {lg : Option Int} (F : Fr h₀ L s.heap m) (N : News h₀ L s.heap news) (X : (hd.heap_39 w.params).In h₀) (T : Top hd.view_39 (looseW hd.view_39 []) mean mg mb h₀)
    (hs : SentAt PR w s.heap d rows) (hr : (rows.map (·.num)).Pairwise (· < ·)) (hlen : rows.length ≤ 11) (hlg : OptIs lgV lg) (hh : A.handled = none) (hdp : A.depth ≤ 500) (hun : A.units ≤ 1000)
    (h : ∀ D Dl h' tk vs n later nD, Fr h₀ L h' m → News h₀ L h' ((D, tupObj #[.ref Dl, later] nD) :: (Dl, listOf (List.toArray vs) n) :: news) → (@LT.lt Nat _ Dl D) → LCg.Off1 D news → LCg.Off1 Dl news → IntsAre vs (detF (fun k => (rowAt rows k).time) lg now dl (rows.map (·.num))).1 → OptIs later (detF (fun k => (rowAt rows k).time) lg now dl (rows.map (·.num))).2 → Q (.ref D) { s with heap := h', toks := tk }) :
    wpAny (model PR w) A (call (.ref 78) [.ref d, lgV, .int now t1, .int dl t2]) Q E s := by
  refine around_up (B := AM) hh hdp hun rfl rfl (due_spec X T F.keep hs hr hlen hlg ?_)
  intro D Dl h' tk vs n later lat nD e hD hDl hlt eD eDl hi ho hm
  rw [← detF_lost] at hi
  rw [due_later hm] at ho
  exact h D Dl h' tk vs n later nD (F.kept e) (news_add F hD eD (news_add F hDl eDl (N.grown e))) hlt (off1_of (off_fresh N hD)) (off1_of (off_fresh N hDl)) hi ho
theorem without_K {l : Addr} {vs : List Value} {ns : List Int} {n : Nat} {od : Obj} {kvs : List (Int × Value)} {P : Addr → Obj → Prop} (F : Fr h₀ L s.heap m) (N : News h₀ L s.heap news) (X : (hd.heap_39 w.params).In h₀) (T : Top hd.view_39 (looseW hd.view_39 []) mean mg mb h₀)
    (hmd : (d, od) ∈ news) (hod : od.IsDictOf (PySem.intKind PR w) kvs) (lo : (d == sysModules) = false) (hrows : RowsOn P kvs rows) (hr : (rows.map (·.num)).Pairwise (· < ·)) (hlen : rows.length ≤ 11) (hml : (l, listOf vs.toArray n) ∈ news) (hi : IntsAre vs ns) (hh : A.handled = none) (hdp : A.depth ≤ 500) (hun : A.units ≤ 1000)
    (h : ∀ D h' tk oD kvs', Fr h₀ L h' m → News h₀ L h' ((D, oD) :: news) → LCg.Off1 D news → (D == sysModules) = false → oD.IsDictOf (PySem.intKind PR w) kvs' → RowsOn P kvs' (((rows.map (·.num)).filter fun k => !(ns.any (· == k))).map (rowAt rows)) → Q (.ref D) { s with heap := h', toks := tk }) :
    wpAny (model PR w) A (call (.ref 52) [.ref d, .ref l]) Q E s := by
  refine around_up (B := AM) hh hdp hun rfl rfl (without_spec X T F.keep (Heap.dictOf_iff.mpr ⟨od, (N _ hmd).1, hod⟩) lo hrows hr hlen (News.isList N hml) hi ?_)
  intro h' tk D kvs' e hD hDict hlo hR
  obtain ⟨oD, ho, hoD⟩ := Heap.dictOf_iff.mp hDict
  exact h D h' tk oD kvs' (F.kept e) (news_add F hD ho (N.grown e)) (off1_of (off_fresh N hD)) hlo hoD hR
theorem flight_K {l : Addr} {vs : List Value} {ns : List Int} {n : Nat} (F : Fr h₀ L s.heap m) (N : News h₀ L s.heap news) (X : (hd.heap_39 w.params).In h₀) (T : Top hd.view_39 (looseW hd.view_39 []) mean mg mb h₀)
    (hs : SentAt PR w s.heap d rows) (hml : (l, listOf vs.toArray n) ∈ news) (hi : IntsAre vs ns) (hlen : ns.length ≤ 1000) (hmem : ∀ n ∈ ns, n ∈ rows.map (·.num)) (hh : A.handled = none) (hdp : A.depth ≤ 500) (hun : A.units ≤ 1000)
    (h : ∀ h' tk t, Fr h₀ L h' m → News h₀ L h' news → Q (.int ((ns.filter fun k => (rowAt rows k).flag).map fun k => (rowAt rows k).size).sum t) { s with heap := h', toks := tk }) :
    wpAny (model PR w) A (call (.ref 47) [.ref d, .ref l]) Q E s :=
  around_up (B := AM) hh hdp hun rfl rfl (flight_spec X T F.keep hs (News.isList N hml) hi hlen hmem fun h' tk t e => h h' tk t (F.kept e) (N.grown e))
theorem newest_K {l : Addr} {vs : List Value} {ns : List Int} {n : Nat} (F : Fr h₀ L s.heap m) (N : News h₀ L s.heap news) (X : (hd.heap_39 w.params).In h₀) (T : Top hd.view_39 (looseW hd.view_39 []) mean mg mb h₀)
    (hs : SentAt PR w s.heap d rows) (hml : (l, listOf vs.toArray n) ∈ news) (hi : IntsAre vs ns) (hmem : ∀ n ∈ ns, n ∈ rows.map (·.num)) (hh : A.handled = none) (hdp : A.depth ≤ 500) (hun : A.units ≤ 1000)
    (h : ∀ h' tk v, Fr h₀ L h' m → News h₀ L h' news → OptIs v (newF (fun k => (rowAt rows k).time) (fun k => (rowAt rows k).flag) ns) → Q v { s with heap := h', toks := tk }) :
    wpAny (model PR w) A (call (.ref 42) [.ref d, .ref l]) Q E s :=
  around_up (B := AM) hh hdp hun rfl rfl (newest_spec X T F.keep hs (News.isList N hml) hi hmem fun h' tk v e ho => h h' tk v (F.kept e) (N.grown e) ho)
end
end Mine
namespace Mine
open PySem.Calls
theorem own_two {tl : List (Addr × Obj)} {b l : Addr} {r : List Addr} (h : OwnOff tl (b :: l :: r)) : OwnOff tl [b, l] := fun p hp c hc => by
  rcases List.mem_cons.mp hc with rfl | hc
  · exact h p hp _ (.head _)
  · rw [List.mem_singleton.mp hc]; exact h p hp _ (.tail _ (.head _))
theorem ints_get {vs : List Value} {ns : List Int} (h : IntsAre vs ns) : ∀ j, j < ns.length → ∃ n t, n ∈ ns ∧ vs[j]? = some (.int n t) := by
  induction h with
  | nil => intro j hj; cases hj
  | cons n t _ ih =>
    intro j hj
    cases j with
    | zero => exact ⟨n, t, .head _, rfl⟩
    | succ j =>
      obtain ⟨n', t', h1, h2⟩ := ih j (Nat.lt_of_succ_lt_succ hj)
      exact ⟨n', t', .tail _ h1, h2⟩
theorem item_pos {prog : Program} {w : World} {A : Around} {E : Value → Shared → Prop} {s : Shared} {l : Addr} {vs : List Value} {ns : List Int} {k : Int} {u : Tok} {value slice : PySem.Expr} {Q : Value → Shared → Prop} (hl : s.heap.IsList l vs.toArray) (hi : IntsAre vs ns) (h0 : 0 ≤ k) (hk : k < ns.length) (hz : ns.length ≤ 1000)
    (h : ∀ n t, n ∈ ns → Q (.int n t) s)
    (hs : subscripted slice false (.ref l) (.int k u) = operate [.ref l, .int k u] (getItem (.ref l) (.int k u)) := by with_unfolding_all rfl) :
    wpAny (model prog w) A (subscriptTail value slice (.ref l) (.int k u)) Q E s := by
  obtain ⟨j, rfl⟩ := Int.eq_ofNat_of_zero_le h0
  have hj : j < ns.length := by omega
  obtain ⟨n, t, h1, h2⟩ := ints_get hi j hj
  exact tail_any hl.typeIs slot_list_getitem.lookup (wpAny_getItem_list hl (by omega) (by omega) (by simpa using h2) (h n t h1)) hs
theorem item_last {prog : Program} {w : World} {A : Around} {E : Value → Shared → Prop} {s : Shared} {l : Addr} {vs : List Value} {ns : List Int} {u : Tok} {value slice : PySem.Expr} {Q : Value → Shared → Prop} (hl : s.heap.IsList l vs.toArray) (hi : IntsAre vs ns) (hne : decide (ns = []) = false)
    (h : ∀ n t, n ∈ ns → Q (.int n t) s)
    (hs : subscripted slice false (.ref l) (.int (-1) u) = operate [.ref l, .int (-1) u] (getItem (.ref l) (.int (-1) u)) := by with_unfolding_all rfl) :
    wpAny (model prog w) A (subscriptTail value slice (.ref l) (.int (-1) u)) Q E s := by
  have hp : 0 < ns.length := List.length_pos_iff.mpr (by simpa using hne)
  obtain ⟨n, t, h1, h2⟩ := ints_get hi (ns.length - 1) (by omega)
  have e : ((-1 : Int) + (vs.toArray.size : Int)).toNat = ns.length - 1 := by rw [List.size_toArray, hi.length]; omega
  refine tail_any hl.typeIs slot_list_getitem.lookup (wpAny_getItem_list_neg hl (by decide) (by rw [List.size_toArray, hi.length]; omega) (by decide) (x := .int n t) ?_ (h n t h1)) hs
  rw [e]
  simpa using h2
theorem no_l {x : Int} {a b C : Prop} (h : x ≠ 1000 → a ∧ b) (hp : x ≠ 1000) (ha : ¬ a) : C := absurd (h hp).1 ha
theorem no_r {x : Int} {a b C : Prop} (h : x ≠ 1000 → a ∧ b) (hp : x ≠ 1000) (hb : ¬ b) : C := absurd (h hp).2 hb
/-! cuts: what a statement leaves behind -/
section
variable {M : Model} {A : Around} {E : Value → Shared → Prop} {s : Shared} {env : Env} {st : Stmt} {h₀ : Heap} {L : Addr} {m : Str → Option Value} {news : List (Addr × Obj)} {Q : Flow → Shared → Prop}
def MidIf (h₀ : Heap) (L : Addr) (m : Str → Option Value) (news : List (Addr × Obj)) (s : Shared) (fl : Flow) (s' : Shared) : Prop :=
  fl = .next ∧ ∃ h tk, Fr h₀ L h m ∧ News h₀ L h news ∧ s' = { s with heap := h, toks := tk }
theorem MidIf.of {h : Heap} {tk : Tok} {more : List (Addr × Obj)} (F : Fr h₀ L h m) (N : News h₀ L h more) (hs : ∀ p ∈ news, p ∈ more) : MidIf h₀ L m news s .next { s with heap := h, toks := tk } :=
  ⟨rfl, h, tk, F, fun p hp => N p (hs p hp), rfl⟩
theorem cut_If (F : Fr h₀ L s.heap m) (N : News h₀ L s.heap news) (a : wpAny M A (exec st env) (MidIf h₀ L m news s) E s)
    (b : ∀ h tk, Fr h₀ L h m → News h₀ L h news → Q .next { s with heap := h, toks := tk }) : wpAny M A (exec st env) Q E s :=
  wpAny_mono a (fun fl s' ⟨h1, h, tk, F', N', h2⟩ => by subst h1; subst h2; exact b h tk F' N') fun _ _ e => e
def MidSet (R : Value → Prop) (x : Str) (h₀ : Heap) (L : Addr) (m : Str → Option Value) (news : List (Addr × Obj)) (s : Shared) (fl : Flow) (s' : Shared) : Prop :=
  fl = .next ∧ ∃ v h tk, R v ∧ Fr h₀ L h (fun z => if z = x then some v else m z) ∧ News h₀ L h news ∧ s' = { s with heap := h, toks := tk }
theorem MidSet.of {R : Value → Prop} {x : Str} {v : Value} {h : Heap} {tk : Tok} {more : List (Addr × Obj)} (F : Fr h₀ L h (fun z => if z = x then some v else m z)) (N : News h₀ L h more) (r : R v) (hs : ∀ p ∈ news, p ∈ more) : MidSet R x h₀ L m news s .next { s with heap := h, toks := tk } :=
  ⟨rfl, v, h, tk, r, F, fun p hp => N p (hs p hp), rfl⟩
theorem cut_Set (R : Value → Prop) (x : Str) (F : Fr h₀ L s.heap m) (N : News h₀ L s.heap news) (a : wpAny M A (exec st env) (MidSet R x h₀ L m news s) E s)
    (b : ∀ v h tk, R v → Fr h₀ L h (fun z => if z = x then some v else m z) → News h₀ L h news → Q .next { s with heap := h, toks := tk }) : wpAny M A (exec st env) Q E s :=
  wpAny_mono a (fun fl s' ⟨h1, v, h, tk, r, F', N', h2⟩ => by subst h1; subst h2; exact b v h tk r F' N') fun _ _ e => e
def MidTwo (x y : Str) (h₀ : Heap) (L : Addr) (m : Str → Option Value) (news : List (Addr × Obj)) (s : Shared) (fl : Flow) (s' : Shared) : Prop :=
  fl = .next ∧ ∃ (u : Str → Option Value) (h : Heap) (tk : Tok), Fr h₀ L h (fun z => if z = x then u z else if z = y then u z else m z) ∧ News h₀ L h news ∧ s' = { s with heap := h, toks := tk }
theorem MidTwo.of {x y : Str} {m' : Str → Option Value} {h : Heap} {tk : Tok} {more : List (Addr × Obj)} (F : Fr h₀ L h m') (N : News h₀ L h more) (hm : ∀ z, z ≠ x → z ≠ y → m' z = m z) (hs : ∀ p ∈ news, p ∈ more) : MidTwo x y h₀ L m news s .next { s with heap := h, toks := tk } := by
  refine ⟨rfl, m', h, tk, ?_, fun p hp => N p (hs p hp), rfl⟩
  have e : (fun z => if z = x then m' z else if z = y then m' z else m z) = m' := by
    funext z
    by_cases h1 : z = x
    · rw [if_pos h1]
    · by_cases h2 : z = y
      · rw [if_neg h1, if_pos h2]
      · rw [if_neg h1, if_neg h2, hm z h1 h2]
  rw [e]
  exact F
theorem cut_Two (x y : Str) (F : Fr h₀ L s.heap m) (N : News h₀ L s.heap news) (a : wpAny M A (exec st env) (MidTwo x y h₀ L m news s) E s)
    (b : ∀ (u : Str → Option Value) h tk, Fr h₀ L h (fun z => if z = x then u z else if z = y then u z else m z) → News h₀ L h news → Q .next { s with heap := h, toks := tk }) : wpAny M A (exec st env) Q E s :=
  wpAny_mono a (fun fl s' ⟨h1, u, h, tk, F', N', h2⟩ => by subst h1; subst h2; exact b u h tk F' N') fun _ _ e => e
theorem opt_split {v : Value} {o : Option Int} (h : OptIs v o) : (v = .none ∧ o = none) ∨ ∃ i t, v = .int i t ∧ o = some i := by
  cases h with
  | none => exact .inl ⟨rfl, rfl⟩
  | some i t => exact .inr ⟨i, t, rfl, rfl⟩
def OptV (v : Value) : Prop := ∃ o, OptIs v o
def IntT (v : Value) : Prop := ∃ k t, v = .int k t
end
end Mine
namespace Mine
open PySem.Calls PySem.Spec PyProof.V
def optD : Option Int → PyData
  | none => .none
  | some i => .int i
section
variable {prog : Program} {w : World} {A : Around} {E : Value → Shared → Prop} {s : Shared} {h₀ : Heap} {L : Addr} {news : List (Addr × Obj)} {Q : Value → Shared → Prop}
theorem opt_reads {h : Heap} {v : Value} {o : Option Int} (x : OptIs v o) : Reads h v (optD o) [] := by
  cases x with
  | none => exact Reads.none
  | some i t => exact Reads.int i t
theorem ne_pair {D D' l l' : Addr} {vs vs' : List Value} {ns : List Int} {o : Option Int} {v v' : Value} {nD nD' n n' : Nat} (N : News h₀ L s.heap news) (hD : (D, tupObj #[.ref l, v] nD) ∈ news) (hD' : (D', tupObj #[.ref l', v'] nD') ∈ news)
    (hl : (l, listOf vs.toArray n) ∈ news) (hl' : (l', listOf vs'.toArray n') ∈ news) (hi : IntsAre vs ns) (hi' : IntsAre vs' ns) (ho : OptIs v o) (ho' : OptIs v' o) (hu : A.units + 64 < cLine) (h : Q (.bool false) s) :
    wpAny (model prog w) A (compareOp .NotEq (.ref D) (.ref D')) Q E s := by
  have r1 : Reads s.heap (.ref D) (.tuple [.list (ns.map PyData.int), optD o]) [l] :=
    reads_tuple_at (N _ hD).1 rfl rfl (ReadsAll.cons (reads_newData (N.isList hl) (ke_carried hi)) (ReadsAll.cons (opt_reads ho) ReadsAll.nil))
  have r2 : Reads s.heap (.ref D') (.tuple [.list (ns.map PyData.int), optD o]) [l'] :=
    reads_tuple_at (N _ hD').1 rfl rfl (ReadsAll.cons (reads_newData (N.isList hl') (ke_carried hi')) (ReadsAll.cons (opt_reads ho') ReadsAll.nil))
  have hs : SeqAt.shaped (.tuple [.list (ns.map PyData.int), optD o]) = true := by
    cases o <;> simp [SeqAt.shaped, PyData.canLay0, PyData.canLayAll0, PyData.depth, PyData.depthAll, ke_canLayAll0, ke_depthAll, optD]
  refine ne_dataH r1 r2 hs hs hu ?_
  have e : PyData.eqv (.tuple [.list (ns.map PyData.int), optD o]) (.tuple [.list (ns.map PyData.int), optD o]) = true := by
    cases o <;> simp [PyData.eqv, PyData.eqvAll, ked_eqvAll, optD]
  rw [e]
  exact h
theorem ne_row {a b : Addr} {x y : Int} {p q : Bool} {t1 t2 u1 u2 : Tok} {n n' : Nat} (ha : s.heap.get? a = some (tupObj #[.int x t1, .int y t2, .bool p, .bool q] n)) (hb : s.heap.get? b = some (tupObj #[.int x u1, .int y u2, .bool p, .bool q] n')) (hu : A.units + 64 < cLine) (h : Q (.bool false) s) :
    wpAny (model prog w) A (compareOp .NotEq (.ref a) (.ref b)) Q E s := by
  have r1 : Reads s.heap (.ref a) (.tuple [.int x, .int y, .bool p, .bool q]) [] :=
    reads_tuple_at ha rfl rfl (ReadsAll.cons (Reads.int _ _) (ReadsAll.cons (Reads.int _ _) (ReadsAll.cons (Reads.bool _) (ReadsAll.cons (Reads.bool _) ReadsAll.nil))))
  have r2 : Reads s.heap (.ref b) (.tuple [.int x, .int y, .bool p, .bool q]) [] :=
    reads_tuple_at hb rfl rfl (ReadsAll.cons (Reads.int _ _) (ReadsAll.cons (Reads.int _ _) (ReadsAll.cons (Reads.bool _) (ReadsAll.cons (Reads.bool _) ReadsAll.nil))))
  have hs : SeqAt.shaped (.tuple [.int x, .int y, .bool p, .bool q]) = true := rfl
  refine ne_dataH r1 r2 hs hs hu ?_
  have e : PyData.eqv (.tuple [.int x, .int y, .bool p, .bool q]) (.tuple [.int x, .int y, .bool p, .bool q]) = true := by
    cases p <;> cases q <;> simp [PyData.eqv, PyData.eqvAll]
  rw [e]
  exact h
theorem ne_nil {l b : Addr} {vs : List Value} (hl : s.heap.IsList l vs.toArray) (hb : s.heap.IsList b #[]) (hu : A.units < cLine) (h : Q (.bool (decide (vs ≠ []))) s) :
    wpAny (model prog w) A (compareOp .NotEq (.ref l) (.ref b)) Q E s := by
  cases vs with
  | nil =>
    refine SeqAt.RcNeAt.lists (e := fun _ => true) hl hb rfl hu (fun j h1 => absurd h1 (Nat.not_lt_zero _)) prog w E Q ?_
    exact h
  | cons v r =>
    refine SeqAt.RcNeAt.lists_lengths hl hb (by simp) hu prog w E Q ?_
    have e : decide (v :: r ≠ []) = true := by simp
    rw [e] at h
    exact h
end
end Mine
namespace Mine
open PySem.Calls PySem.Spec PyProof.V
section
theorem newF_isMax {tm : Int → Int} {fl : Int → Bool} (ns : List Int) : IsMaxO ((ns.filter fl).map tm) (newF tm fl ns) := by
  have := newF_max (tm := tm) (fl := fl) ns [] none rfl
  simpa [newF] using this
/-- the newest one, in the walk's words -/
theorem new_none {tm : Int → Int} {fl : Int → Bool} {ns : List Int} {α : Type} {ys : List α} (hl : ys.length = (ns.filter fl).length) (h : newF tm fl ns = none) : ys = [] := by
  have := newF_isMax (tm := tm) (fl := fl) ns
  rw [h] at this
  have e : (ns.filter fl).map tm = [] := this
  have e2 : ns.filter fl = [] := List.map_eq_nil_iff.mp e
  rw [e2] at hl
  exact List.length_eq_zero_iff.mp hl
theorem new_some {tm : Int → Int} {fl : Int → Bool} {ns : List Int} {i : Int} (h : newF tm fl ns = some i) : i ∈ (ns.filter fl).map tm ∧ ∀ x ∈ (ns.filter fl).map tm, x ≤ i := by
  have := newF_isMax (tm := tm) (fl := fl) ns
  rw [h] at this
  exact this
theorem lost_facts {tm : Int → Int} {lg : Option Int} {now dl : Int} {rows : List Row} {vs : List Value} (hr : (rows.map (·.num)).Pairwise (· < ·)) (hlen : rows.length ≤ 11) (hi : IntsAre vs (detF tm lg now dl (rows.map (·.num))).1) :
    ∃ lo : List Int, IntsAre vs lo ∧ lo.length ≤ 11 ∧ (∀ k ∈ lo, k ∈ rows.map (·.num)) ∧ (∀ ns' : List Int, ns'.Perm (((rows.map (·.num)).filter fun k => !(lo.any (· == k))) ++ lo) → ns'.Pairwise (· ≤ ·) → ns' = rows.map (·.num)) :=
  ⟨_, hi, Nat.le_trans (detF_len _) (by rw [List.length_map]; exact hlen), detF_sub _, fun _ hp hs => left_lost hr hp hs⟩
theorem left_done {keys a f lo ns' : List Int} (hp : ns'.Perm (a ++ lo)) (hs : ns'.Pairwise (· ≤ ·)) (hn : a = f) (h3 : ∀ ns' : List Int, ns'.Perm (f ++ lo) → ns'.Pairwise (· ≤ ·) → ns' = keys) : ns' = keys :=
  h3 ns' (hn ▸ hp) hs
theorem left_nums {rows : List Row} : ∀ {l : List Int}, (∀ k ∈ l, k ∈ rows.map (·.num)) → (l.map (rowAt rows)).map (·.num) = l
  | [], _ => rfl
  | k :: r, h => by
    rw [List.map_cons, List.map_cons, left_nums fun x hx => h x (.tail _ hx), (rowAt_num (h k (.head _))).2]
theorem left_at {rows : List Row} : ∀ {l : List Int}, (∀ k ∈ l, k ∈ rows.map (·.num)) → ∀ k ∈ l, rowAt (l.map (rowAt rows)) k = rowAt rows k
  | k' :: r, h, k, hk => by
    by_cases e : k' = k
    · subst e
      have hn := (rowAt_num (h k' (.head _))).2
      show ((rowAt rows k' :: r.map (rowAt rows)).find? (fun x => x.num = k')).getD _ = _
      rw [List.find?_cons, show (decide ((rowAt rows k').num = k')) = true from by simpa using hn]
      rfl
    · have hk' : k ∈ r := by
        rcases List.mem_cons.mp hk with q | q
        · exact absurd q.symm e
        · exact q
      have hn := (rowAt_num (h k' (.head _))).2
      have ih := left_at (fun x hx => h x (.tail _ hx)) k hk'
      have e2 : rowAt ((k' :: r).map (rowAt rows)) k = rowAt (r.map (rowAt rows)) k := by
        show ((rowAt rows k' :: r.map (rowAt rows)).find? (fun x => x.num = k)).getD _ = _
        rw [List.find?_cons, show (decide ((rowAt rows k').num = k)) = false from by simp [hn, e]]
        rfl
      rw [e2, ih]
def LeftAt (rws rows : List Row) : Prop := ∀ k ∈ rws.map (·.num), rowAt rws k = rowAt rows k ∧ k ∈ rows.map (·.num)
def FlyV (rows : List Row) (tl : List (Addr × Obj)) (k : Int) (v : Value) : Prop :=
  ∃ a t1 t2 n, v = .ref a ∧ (a, tupObj #[.int (rowAt rows k).time t1, .int (rowAt rows k).size t2, .bool (rowAt rows k).odd, .bool (rowAt rows k).flag] n) ∈ tl
theorem left_facts {P : Addr → Obj → Prop} {rows : List Row} {kvs' : List (Int × Value)} {q : Int → Bool} (hR : RowsOn P kvs' (((rows.map (·.num)).filter q).map (rowAt rows))) (hlen : rows.length ≤ 11) :
    ∃ rws' : List Row, RowsOn P kvs' rws' ∧ rws'.map (·.num) = (rows.map (·.num)).filter q ∧ rws'.length ≤ 11 ∧ LeftAt rws' rows := by
  have hs : ∀ k ∈ (rows.map (·.num)).filter q, k ∈ rows.map (·.num) := fun k hk => (List.mem_filter.mp hk).1
  have hn := left_nums (rows := rows) hs
  refine ⟨_, hR, hn, ?_, fun k hk => ?_⟩
  · rw [List.length_map]
    exact Nat.le_trans (List.length_filter_le _ _) (by rw [List.length_map]; exact hlen)
  · rw [hn] at hk
    exact ⟨left_at hs k hk, hs k hk⟩
end
section
variable {prog : Program} {w : World} {A : Around} {E : Value → Shared → Prop} {s : Shared} {h₀ : Heap} {L d : Addr} {m : Str → Option Value} {news : List (Addr × Obj)} {env : Env} {rows : List Row}
theorem ne_seqC {h : Heap} {p : Addr × Obj} {c : Addr} {oc : Obj} {vs : Array Value} {n : Nat} {v : Option Value} (N : News h₀ L h news) (h1 : p ∈ news) (h2 : (c, oc) ∈ news) (e1 : p.2.data = .seq vs n) (e2 : oc.data = .cell v) : p.1 ≠ c := fun e => by
  have g1 := (N _ h1).1
  have g2 := (N _ h2).1
  rw [e, g2] at g1
  have g3 : oc = p.2 := Option.some.inj g1
  rw [g3, e1] at e2
  cases e2
theorem ne_dictC {h : Heap} {p : Addr × Obj} {c : Addr} {oc : Obj} {kvs : List (Int × Value)} {v : Option Value} (N : News h₀ L h news) (h1 : p ∈ news) (h2 : (c, oc) ∈ news) (e1 : p.2.IsDictOf (PySem.intKind prog w) kvs) (e2 : oc.data = .cell v) : p.1 ≠ c := fun e => by
  have g1 := (N _ h1).1
  have g2 := (N _ h2).1
  rw [e, g2] at g1
  have g3 : oc = p.2 := Option.some.inj g1
  obtain ⟨es, ep, _, g4, _⟩ := e1
  rw [g3, g4] at e2
  cases e2
theorem ne_row2 {a b : Addr} {r r' : Row} {t1 t2 u1 u2 : Tok} {n n' : Nat} {Q : Value → Shared → Prop} (e : r = r') (ha : s.heap.get? a = some (tupObj #[.int r.time t1, .int r.size t2, .bool r.odd, .bool r.flag] n)) (hb : s.heap.get? b = some (tupObj #[.int r'.time u1, .int r'.size u2, .bool r'.odd, .bool r'.flag] n')) (hu : A.units + 64 < cLine) (h : Q (.bool false) s) :
    wpAny (model prog w) A (compareOp .NotEq (.ref a) (.ref b)) Q E s := by
  subst e
  exact ne_row ha hb hu h
theorem item_tl {value slice : PySem.Expr} {k : Int} {t : Tok} {od : Obj} {kvs : List (Int × Value)} {tl : List (Addr × Obj)} {Q : Value → Shared → Prop} (N : News h₀ L s.heap news) (hmd : (d, od) ∈ news) (hod : od.IsDictOf (PySem.intKind prog w) kvs) (hrows : RowsOn (fun a o => (a, o) ∈ tl) kvs rows) (hsub : ∀ p ∈ tl, p ∈ news) (hk : k ∈ rows.map (·.num))
    (h : ∀ a t1 t2 n, (a, tupObj #[.int (rowAt rows k).time t1, .int (rowAt rows k).size t2, .bool (rowAt rows k).odd, .bool (rowAt rows k).flag] n) ∈ tl → s.heap.get? a = some (tupObj #[.int (rowAt rows k).time t1, .int (rowAt rows k).size t2, .bool (rowAt rows k).odd, .bool (rowAt rows k).flag] n) → Q (.ref a) { s with toks := s.toks + 1 })
    (hsb : subscripted slice false (.ref d) (.int k t) = operate [.ref d, .int k t] (getItem (.ref d) (.int k t)) := by with_unfolding_all rfl) :
    wpAny (model prog w) A (subscriptTail value slice (.ref d) (.int k t)) Q E s := by
  obtain ⟨a, t1, t2, n, h1, h2⟩ := hrows.at k hk
  have hD : s.heap.DictOf (PySem.intKind prog w) d kvs := Heap.dictOf_iff.mpr ⟨od, (N _ hmd).1, hod⟩
  exact tail_any hD.typeIs slot_dict_getitem.lookup (wpAny_getItem_of (intKind_is _ _ _ _) hD.mapOf h1 (h a t1 t2 n h2 (N _ (hsub _ h2)).1)) hsb
theorem list_K {Q : Value → Shared → Prop} {od : Obj} {kvs : List (Int × Value)} {P : Addr → Obj → Prop} (hh : A.handled = none) (F : Fr h₀ L s.heap m) (N : News h₀ L s.heap news) (hmd : (d, od) ∈ news) (hod : od.IsDictOf (PySem.intKind prog w) kvs) (lo : (d == sysModules) = false) (hrows : RowsOn P kvs rows) (hlen : rows.length ≤ 11)
    (h : ∀ D h' tk vs n, Fr h₀ L h' m → News h₀ L h' ((D, listOf (List.toArray vs) n) :: news) → (∀ q ∈ news, q.1 < D) → IntsAre vs (rows.map (·.num)) → Q (.ref D) { s with heap := h', toks := tk }) :
    wpAny (model prog w) A (call (.type "list") [.ref d]) Q E s := by
  obtain ⟨ep, hat⟩ := (Heap.dictOf_iff.mpr ⟨od, (N _ hmd).1, hod⟩ : s.heap.DictOf _ d kvs).dictAt
  have hkl := hrows.length
  refine kdl_N (kdl_dict (knd := PySem.intKind prog w) (kvs := kvs) (ep := ep) lo) hh F N hat (by rw [sizeLine_eq]; omega) fun D c h' tk vs F' N' l1 hl hv => ?_
  have hI := ints_of hl hv
  rw [hrows.keys] at hI
  exact h D h' tk vs c F' N' l1 hI
set_option maxHeartbeats 2000000 in
theorem emptycomp_K {P : Addr → Obj → Prop} {kvs : List (Int × Value)} {elt iter ct : Expr} {x : Str} {px : Pos} {scope : Scope} {cl : List (Str × Addr)} {pos : Pos} {d : Addr} {Q : Value → Shared → Prop}
    (F : Fr h₀ L s.heap m) (N : News h₀ L s.heap news) {od : Obj} (hmd : (d, od) ∈ news) (hod : od.IsDictOf (PySem.intKind prog w) kvs) (lo : (d == sysModules) = false) (hrows : RowsOn P kvs rows) (hlen : rows.length ≤ 11) (hh : A.handled = none)
    (hclos : closureFor scope env = pure cl) (hcell : ∀ y ∈ scope.names, y.2 ≠ .cell) (hkind : scope.kind = .function)
    (hnames : ∀ y ∈ scope.names, y.2 = .local → scope.names.lookup y.1 = some .local) (hx : scope.names.lookup x = some .local)
    (hiter : wpAny (model prog w) A (eval iter env) (fun xv s₁ => xv = .ref d ∧ ∃ tk, s₁ = { s with toks := tk }) E s)
    (tests : ∀ k t C m₂ (s₃ : Shared) (E' : Value → Shared → Prop), k ∈ rows.map (·.num) → s₃.heap.Ns C m₂ → m₂ x = some (.int k t) → Fr h₀ L s₃.heap m → News h₀ L s₃.heap news →
      wpAny (model prog w) A (isTrue ct (compEnvC scope cl C env) (eval ct (compEnvC scope cl C env))) (fun b s' => b = false ∧ ∃ h' tk', s' = { s₃ with heap := h', toks := tk' } ∧ Ext s₃.heap h') E' s₃)
    (fin : ∀ D h' tk n, s.heap.get? D = none → Fr h₀ L h' m → News h₀ L h' ((D, listOf #[] n) :: news) → LCg.Off1 D news → Q (.ref D) { s with heap := h', toks := tk })
    (hfs : ∀ x, foldedSetIterable iter env x = pure x) :
    wpAny (model prog w) A (eval (.ListComp elt [⟨.Name x px, iter, [ct], 0⟩] scope pos) env) Q E s := by
  obtain ⟨ep, hat⟩ := (Heap.dictOf_iff.mpr ⟨od, (N _ hmd).1, hod⟩ : s.heap.DictOf (PySem.intKind prog w) d kvs).dictAt
  have hkl := hrows.length
  have hkeys := hrows.keys
  refine wpAny_ListComp_free (fun _ => false) (fun _ _ => True) hclos hcell hkind hnames hx (wpAny_mono hiter (fun xv s₁ h₁ => ?_) fun _ _ e => e) hfs
  obtain ⟨rfl, tk₁, rfl⟩ := h₁
  refine wpAny_pyIter_dict lo hat ?_
  have hIlt := hat.lt_size
  have up : ∀ (h : Heap), (∀ b o, b ∉ [s.heap.objs.size] → (s.heap.push { cls := .type "dict_keyiterator", data := .fields #[.ref d, .int 0 0, .int kvs.length 0, .int ep 0] }).get? b = some o → h.get? b = some o) → Ext s.heap h :=
    fun h hk b o e => hk b o (fun hm => by rw [List.mem_singleton.mp hm] at e; exact Nat.lt_irrefl _ (Heap.lt_size e)) (Heap.get?_push_of_some _ e)
  have kin : ∀ (i : Nat) (v : Value), (∃ k x, kvs[i]? = some (k, x) ∧ (PySem.intKind prog w).is k v = true) → ∃ k t, v = .int k t ∧ k ∈ rows.map (·.num) := by
    rintro i v ⟨k, y, e, hk⟩
    obtain ⟨t, rfl⟩ := Value.isInt_shape hk
    refine ⟨k, t, rfl, ?_⟩
    rw [← hkeys]
    exact List.mem_map.mpr ⟨(k, y), List.mem_of_getElem? e, rfl⟩
  refine ⟨s.heap.objs.size, _, _, kvs.length, _, _, rfl, Walks.dictKeys hh s.heap.objs.size d (Nat.ne_of_lt hIlt) kvs ep, by rw [sizeLine_eq]; omega, ⟨⟨_, Heap.get?_push_size _ rfl, rfl, rfl⟩, hat.push _⟩, ?_, ⟨?_, ?_⟩, ?_⟩
  · intro b hb
    show b < (s.heap.push _).objs.size
    rw [Heap.size_push]
    rcases List.mem_cons.mp hb with rfl | hb
    · exact Nat.lt_succ_self _
    · rw [List.mem_singleton.mp hb]; exact Nat.lt_succ_of_lt hIlt
  · intro C i v s₃ m₃ E' _ hP hn hm hk _
    obtain ⟨k, t, rfl, hmem⟩ := kin i v hP
    have e := up s₃.heap hk
    refine wpAny_tests_one (wpAny_mono (tests k t C m₃ s₃ E' hmem hn hm (F.kept e) (N.grown e)) (fun b s' hq => ?_) fun _ _ e => e)
    obtain ⟨h1, h', tk', rfl, e'⟩ := hq
    exact ⟨h1, h', tk', rfl, e'⟩
  · intro C i v s₃ m₃ E' _ hP hp
    cases hp
  · intro D h' tk ys vs hD0 hl hpl hvl hvs hpr hk
    have e := up h' hk
    have hy : ys = #[] := by
      have : vs.filter (fun _ => false) = [] := by simp
      rw [this] at hpr
      cases hpr' : ys.toList with
      | nil => simpa using hpr'
      | cons a r => rw [hpr'] at hpr; cases hpr
    subst hy
    have hDn : s.heap.get? D = none := by
      cases q : s.heap.get? D with
      | none => rfl
      | some o =>
        have q' : (s.heap.push { cls := .type "dict_keyiterator", data := .fields #[.ref d, .int 0 0, .int kvs.length 0, .int ep 0] }).get? D = some o := Heap.get?_push_of_some _ q
        have q'' := hD0
        dsimp only at q''
        rw [q'] at q''
        cases q''
    obtain ⟨n, ho⟩ := hpl
    exact fin D h' tk n hDn (F.kept e) (news_add F hDn ho (N.grown e)) (off1_of (off_fresh N hDn))
end
end Mine
namespace Mine
local macro_rules | `(tactic| walk_at "Pad0") => `(tactic| skip)
local macro_rules | `(tactic| walk_at "Pad1") => `(tactic| skip)
local macro_rules | `(tactic| walk_at "Pad2") => `(tactic| skip)
local macro_rules | `(tactic| walk_at "Pad3") => `(tactic| skip)
local macro_rules | `(tactic| walk_at "Pad4") => `(tactic| skip)
local macro_rules | `(tactic| walk_at "Pad5") => `(tactic| skip)
local macro_rules | `(tactic| walk_at "Pad6") => `(tactic| skip)
local macro_rules | `(tactic| walk_at "Pad7") => `(tactic| skip)
local macro_rules | `(tactic| walk_at "Pad8") => `(tactic| skip)
local macro_rules | `(tactic| walk_at "Pad9") => `(tactic| skip)
local macro_rules | `(tactic| walk_at "Pad10") => `(tactic| skip)
local macro_rules | `(tactic| walk_at "Pad11") => `(tactic| skip)
local macro_rules | `(tactic| walk_at "Pad12") => `(tactic| skip)
local macro_rules | `(tactic| walk_at "Pad13") => `(tactic| skip)
local macro_rules | `(tactic| walk_at "Pad14") => `(tactic| skip)
local macro_rules | `(tactic| walk_at "Pad15") => `(tactic| skip)
local macro_rules | `(tactic| walk_at "Pad16") => `(tactic| skip)
local macro_rules | `(tactic| walk_at "Pad17") => `(tactic| skip)
local macro_rules | `(tactic| walk_at "Pad18") => `(tactic| skip)
local macro_rules | `(tactic| walk_at "Pad19") => `(tactic| skip)
local macro_rules | `(tactic| walk_at "Pad20") => `(tactic| skip)
local macro_rules | `(tactic| walk_at "Pad21") => `(tactic| skip)
local macro_rules | `(tactic| walk_at "Pad22") => `(tactic| skip)
local macro_rules | `(tactic| walk_at "Pad23") => `(tactic| skip)
local macro_rules | `(tactic| walk_at "Pad24") => `(tactic| skip)
local macro_rules | `(tactic| walk_at "Pad25") => `(tactic| skip)
local macro_rules | `(tactic| walk_at "Pad26") => `(tactic| skip)
local macro_rules | `(tactic| walk_at "Pad27") => `(tactic| skip)
local macro_rules | `(tactic| walk_at "Pad28") => `(tactic| skip)
local macro_rules | `(tactic| walk_at "Pad29") => `(tactic| skip)
local macro_rules | `(tactic| walk_at "Pad30") => `(tactic| skip)
local macro_rules | `(tactic| walk_at "Pad31") => `(tactic| skip)
local macro_rules | `(tactic| walk_at "Pad32") => `(tactic| skip)
local macro_rules | `(tactic| walk_at "Pad33") => `(tactic| skip)
local macro_rules | `(tactic| walk_at "Pad34") => `(tactic| skip)
local macro_rules | `(tactic| walk_at "Pad35") => `(tactic| skip)
local macro_rules | `(tactic| walk_at "Pad36") => `(tactic| skip)
local macro_rules | `(tactic| walk_at "Pad37") => `(tactic| skip)
local macro_rules | `(tactic| walk_at "Pad38") => `(tactic| skip)
local macro_rules | `(tactic| walk_at "Pad39") => `(tactic| skip)
local macro_rules | `(tactic| walk_at "Pad40") => `(tactic| skip)
local macro_rules | `(tactic| walk_at "Pad41") => `(tactic| skip)
local macro_rules | `(tactic| walk_at "Pad42") => `(tactic| skip)
local macro_rules | `(tactic| walk_at "Pad43") => `(tactic| skip)
local macro_rules | `(tactic| walk_at "Pad44") => `(tactic| skip)
local macro_rules | `(tactic| walk_at "Pad45") => `(tactic| skip)
local macro_rules | `(tactic| walk_at "Pad46") => `(tactic| skip)
local macro_rules | `(tactic| walk_at "Pad47") => `(tactic| skip)
local macro_rules | `(tactic| walk_at "Pad48") => `(tactic| skip)
local macro_rules | `(tactic| walk_at "Pad49") => `(tactic| skip)
local macro_rules | `(tactic| walk_at "Pad50") => `(tactic| skip)
local macro_rules | `(tactic| walk_at "Pad51") => `(tactic| skip)
local macro_rules | `(tactic| walk_at "Pad52") => `(tactic| skip)
local macro_rules | `(tactic| walk_at "Pad53") => `(tactic| skip)
local macro_rules | `(tactic| walk_at "Pad54") => `(tactic| skip)
local macro_rules | `(tactic| walk_at "Pad55") => `(tactic| skip)
open PySem.Calls
local macro_rules | `(tactic| walk_at "Off2") => `(tactic| first | exact Off2.nil | (refine' Off2.dropb ?oa; (case oa => walk_at "Off2")) | (refine' Off2.dropl ?oa; (case oa => walk_at "Off2")) | (refine' Off2.keep ?oa ?ob ?oc; (case oa => k_ne); (case ob => k_ne); (case oc => walk_at "Off2")) | exact Off2.tail (by assumption) | exact Off2.tail (own_two (by assumption)))
local macro_rules | `(tactic| walk_at "call ref") => `(tactic| (k_here; (with_reducible show wpAny _ _ (call (Value.ref 59) _) _ _ _); k_dflt (refine' take_K ?F ?N ?X ?T ?mb ?ml ?i ?l ?n ?o ?k ?h ?d ?u ?_; (case F => k_asm); (case N => k_asm); (case X => k_asm); (case T => k_asm); (case mb => k_mem); (case ml => k_mem); (case i => assumption); (case l => assumption); (case n => assumption); (case o => walk_at "Off2"); (case k => first | assumption | decide | omega); (case h => rfl); (case d => exact Nat.le_of_ble_eq_true rfl); (case u => exact Nat.le_of_ble_eq_true rfl)); intro v' t' h' tk' vs' ns' sd' ts' nb' nl' hlo' hhi' F' N' hI' hlen'; (try dsimp only); (try k_sweep)))




local macro_rules | `(tactic| walk_at "InTail") => `(tactic| (intro p hp; repeat' (first | exact hp | refine List.Mem.tail _ ?_)))
local macro_rules | `(tactic| walk_at "Sent") => `(tactic| (refine' sent_of ?sN ?sm ?sd ?sl ?sr ?st; (case sN => k_asm); (case sm => k_mem); (case sd => assumption); (case sr => assumption); (case sl => assumption); (case st => walk_at "InTail")))
local macro_rules | `(tactic| walk_at "call ref") => `(tactic| (k_here; (with_reducible show wpAny _ _ (call (Value.ref 66) _) _ _ _); k_dflt (refine' box_K ?F ?N ?X ?T ?o ?i ?l ?h ?d ?u ?_; (case F => k_asm); (case N => k_asm); (case X => k_asm); (case T => k_asm); (case o => assumption); (case i => assumption); (case l => omega); (case h => rfl); (case d => exact Nat.le_of_ble_eq_true rfl); (case u => exact Nat.le_of_ble_eq_true rfl)); intro b' l' h' tk' vs' ns' sd' ts' nb' nl' F' N' o1' o2' hne' hI' hlen'; (try simp only [LCg.Off1, and_true] at o1' o2'); (try dsimp only); (try k_sweep)))
local macro_rules | `(tactic| walk_at "call ref") => `(tactic| (k_here; (with_reducible show wpAny _ _ (call (Value.ref 73) _) _ _ _); k_dflt (refine' rows_K ?F ?N ?X ?T ?mb ?ml ?i ?l ?n ?o ?h ?d ?u ?_; (case F => k_asm); (case N => k_asm); (case X => k_asm); (case T => k_asm); (case mb => k_mem); (case ml => k_mem); (case i => assumption); (case l => assumption); (case n => assumption); (case o => walk_at "Off2"); (case h => rfl); (case d => exact Nat.le_of_ble_eq_true rfl); (case u => exact Nat.le_of_ble_eq_true rfl)); intro d' h' tk' od' kvs' rows' tl' n' vs' ns' sd' ts' nb' nl' F' N' hbd' hld' hod1' hlo' hod' hrw' hot' hrl' hris' hI' hlen'; (try simp only [LCg.Off1, and_true] at hod1'); (try simp only [List.cons_append, List.nil_append] at N'); (try simp only [List.map_cons, List.map_nil] at hot'); (have hri' := hris'.1); (try dsimp only); (try k_sweep)))
local macro_rules | `(tactic| walk_at "call ref") => `(tactic| (k_here; (with_reducible show wpAny _ _ (call (Value.ref 21) _) _ _ _); k_dflt (refine' loss_K ?F ?N ?X ?T ?h ?d ?u ?_; (case F => k_asm); (case N => k_asm); (case X => k_asm); (case T => k_asm); (case h => rfl); (case d => exact Nat.le_of_ble_eq_true rfl); (case u => exact Nat.le_of_ble_eq_true rfl)); intro dl' t' h' tk' F' N' hdl1' hdl2' hdl3'; (try dsimp only); (try k_sweep)))
local macro_rules | `(tactic| walk_at "call ref") => `(tactic| (k_here; (with_reducible show wpAny _ _ (call (Value.ref 35) _) _ _ _); k_dflt (refine' detect_K ?F ?N ?X ?T ?s ?r ?l ?g ?h ?d ?u ?_; (case F => k_asm); (case N => k_asm); (case X => k_asm); (case T => k_asm); (case s => walk_at "Sent"); (case r => assumption); (case l => assumption); (case g => first | assumption | exact OptIs.none | exact OptIs.some _ _); (case h => rfl); (case d => exact Nat.le_of_ble_eq_true rfl); (case u => exact Nat.le_of_ble_eq_true rfl)); intro D' Dl' h' tk' vs' n' later' nD' F' N' lt' o1' o2' hi' hz' ho'; (try simp only [LCg.Off1, and_true] at o1' o2'); (try dsimp only); (try k_sweep)))
local macro_rules | `(tactic| walk_at "call ref") => `(tactic| (k_here; (with_reducible show wpAny _ _ (call (Value.ref 78) _) _ _ _); k_dflt (refine' due_K ?F ?N ?X ?T ?s ?r ?l ?g ?h ?d ?u ?_; (case F => k_asm); (case N => k_asm); (case X => k_asm); (case T => k_asm); (case s => walk_at "Sent"); (case r => assumption); (case l => assumption); (case g => first | assumption | exact OptIs.none | exact OptIs.some _ _); (case h => rfl); (case d => exact Nat.le_of_ble_eq_true rfl); (case u => exact Nat.le_of_ble_eq_true rfl)); intro D' Dl' h' tk' vs' n' later' nD' F' N' lt' o1' o2' hi' ho'; (try simp only [LCg.Off1, and_true] at o1' o2'); (try dsimp only); (try k_sweep)))
local macro_rules | `(tactic| walk_at "call ref") => `(tactic| (k_here; (with_reducible show wpAny _ _ (call (Value.ref 52) _) _ _ _); k_dflt (refine' without_K ?F ?N ?X ?T ?m ?o ?l ?w ?r ?z ?q ?i ?h ?d ?u ?_; (case F => k_asm); (case N => k_asm); (case X => k_asm); (case T => k_asm); (case m => k_mem); (case o => assumption); (case l => assumption); (case w => assumption); (case r => assumption); (case z => assumption); (case q => k_mem); (case i => assumption); (case h => rfl); (case d => exact Nat.le_of_ble_eq_true rfl); (case u => exact Nat.le_of_ble_eq_true rfl)); intro D' h' tk' oD' kvs' F' N' o1' lo' hod' hR'; (obtain ⟨rws', hR2', hn', hz', hat'⟩ := left_facts hR' (by assumption)); clear hR'; (try simp only [LCg.Off1, and_true] at o1'); (try dsimp only); (try k_sweep)))
local macro_rules | `(tactic| walk_at "call type:list") => `(tactic| (k_here; k_dflt (refine' list_K ?h ?F ?N ?m ?o ?l ?r ?z ?_; (case h => rfl); (case F => k_asm); (case N => k_asm); (case m => k_mem); (case o => assumption); (case l => assumption); (case r => assumption); (case z => assumption)); intro D' h' tk' vs' n' F' N' l1 hI'; (try k_lt l1); (try dsimp only); (try k_sweep)))
local macro_rules | `(tactic| walk_at "call builtin:sorted") => `(tactic| (k_here; k_dflt (refine' sorted_K ?h ?F ?N ?s ?r ?l ?_; (case h => rfl); (case F => k_asm); (case N => k_asm); (case s => walk_at "Sent"); (case r => assumption); (case l => assumption)); intro D' h' tk' vs' n' F' N' l1 hI'; (try k_lt l1); (try dsimp only); (try k_sweep)))
local macro_rules | `(tactic| walk_at "call builtin:sorted") => `(tactic| (k_here; k_dflt (refine' sortedL_K ?F ?N ?m ?i ?l ?_; (case F => k_asm); (case N => k_asm); (case m => k_mem); (case i => assumption); (case l => (simp only [List.length_append, List.length_map]; omega))); intro D' vs' ns' c' h' F' N' l1 hI' hP' hS'; (have e' := left_done hP' hS' (by assumption) (by assumption)); subst e'; clear hP' hS'; (try k_lt l1); (try dsimp only); (try k_sweep)))
local macro_rules | `(tactic| walk_at "subscriptTail") => `(tactic| (k_here; (with_reducible show wpAny _ _ (subscriptTail _ _ (Value.ref _) (Value.int _ _)) _ _ _); k_dflt (first
  | (refine' item_pos ?l ?i ?n ?k ?z ?_; (case l => exact News.isList (by assumption) (by k_mem)); (case i => assumption); (case n => omega); (case k => omega); (case z => omega); intro n' t' hn')
  | (refine' item_tl ?N ?m ?o ?r ?b ?k ?_; (case N => k_asm); (case m => k_mem); (case o => assumption); (case r => assumption); (case b => walk_at "InTail"); (case k => assumption); intro a' t1' t2' n' hm' ho')
  | (refine' item_tup ?o ?lo ?hi ?j ?x ?_; (case o => assumption); (case lo => decide); (case hi => decide); (case j => exact rfl); (case x => exact rfl)))))
local macro_rules | `(tactic| walk_at "subscriptTail Name UnaryOp ref int") => `(tactic| (k_here; with_unfolding_all refine' item_last ?l ?i ?n ?_; (case l => exact News.isList (by assumption) (by k_mem)); (case i => assumption); (case n => assumption); intro n' t' hn'))
local macro_rules | `(tactic| walk_at "MyMem") => `(tactic| first | exact List.Mem.head _ | (refine List.Mem.tail _ ?_; walk_at "MyMem"))
local macro_rules | `(tactic| walk_at "MyNe") => `(tactic| first
  | (refine' ne_seqC ?yN ?y1 ?y2 ?y3 ?y4; (case yN => k_asm); (case y1 => k_mem); (case y2 => k_mem); (case y3 => exact rfl); (case y4 => assumption))
  | (refine' ne_dictC ?yN ?y1 ?y2 ?y3 ?y4; (case yN => k_asm); (case y1 => k_mem); (case y2 => k_mem); (case y3 => assumption); (case y4 => assumption))
  | exact Nat.succ_ne_self _ | exact (Nat.succ_ne_self _).symm)
local macro_rules | `(tactic| walk_at "MyAll") => `(tactic| first | exact List.forall_mem_nil _ | (refine' List.forall_mem_cons.mpr ⟨?ya, ?yb⟩; (case ya => walk_at "MyNe"); (case yb => walk_at "MyAll")) | exact OwnOff.ne (by assumption) (by walk_at "MyMem"))
local macro_rules | `(tactic| walk_at "MyUpd") => `(tactic| first | (refine' UpdF.head ?ya; (case ya => walk_at "MyAll")) | (refine' UpdF.tail ?ya ?yb; (case ya => walk_at "MyNe"); (case yb => walk_at "MyUpd")))
local macro_rules | `(tactic| walk_at "storeName") => `(tactic| (k_here; k_dflt (refine' storeX_C ?F ?N ?c ?U ?d ?_ ?a ?b; (case a => rfl); (case b => rfl); (case F => k_asm); (case N => k_asm); (case c => rfl); (case U => walk_at "MyUpd"); (case d => k_asm); k_whole; intro h' o' F' N' d'; (try dsimp only at N'); (try k_sweep))))
def Stop18 (P : Prop) : Prop := P
theorem stop18 {P : Prop} (h : Stop18 P) : P := h
local macro_rules | `(tactic| walk_at "IfEnd") => `(tactic| (first
  | (refine' MidIf.of ?F ?N ?h; (case F => k_asm); (case N => k_asm); (case h => walk_at "InTail"))
  | exact no_l (by assumption) (by assumption) (by assumption)
  | exact no_r (by assumption) (by assumption) (by assumption)
  | contradiction
  | (exfalso; omega)))
local macro_rules | `(tactic| walk_at "SetEnd") => `(tactic| (
  refine' MidSet.of ?F ?N ?r ?h; (case F => k_asm); (case N => k_asm); (case r => first | exact ⟨_, OptIs.none⟩ | exact ⟨_, OptIs.some _ _⟩ | exact ⟨_, _, rfl⟩); (case h => walk_at "InTail")))
local macro_rules | `(tactic| walk_at "compareOp NotEq ref ref") => `(tactic| (k_here; k_dflt (first
  | (refine' ke_ne_ints ?a ?b ?i ?j ?u ?_; (case a => exact News.isList (by k_asm) (by k_mem)); (case b => exact News.isList (by k_asm) (by k_mem)); (case i => assumption); (case j => exact IntsAre.nil); (case u => ke_room))
  | (refine' ne_nil ?a ?b ?u ?_; (case a => exact News.isList (by k_asm) (by k_mem)); (case b => exact News.isList (by k_asm) (by k_mem)); (case u => ke_room)))))
local macro_rules | `(tactic| walk_at "compareOp NotEq ref ref") => `(tactic| (k_here; k_dflt (refine' ne_row2 ?e ?a ?b ?u ?_; (case e => assumption); (case a => assumption); (case b => assumption); (case u => ke_room))))
local macro_rules | `(tactic| walk_at "compareOp NotEq ref ref") => `(tactic| (k_here; k_dflt (refine' ne_pair ?N ?a ?b ?c ?d ?i ?j ?o ?p ?u ?_; (case N => k_asm); (case a => k_mem); (case b => k_mem); (case c => k_mem); (case d => k_mem); (case i => assumption); (case j => assumption); (case o => assumption); (case p => assumption); (case u => ke_room))))
local macro_rules | `(tactic| walk_at "TwoEnd") => `(tactic| (first
  | (refine' MidTwo.of ?F ?N ?m ?h; (case F => k_asm); (case N => k_asm); (case m => (intro z h1 h2; first | rfl | simp only [h1, h2, if_false])); (case h => walk_at "InTail"))))
local macro_rules | `(tactic| walk_at "eval ListComp") => `(tactic| (k_here; refine stop18 ?_))
local macro_rules | `(tactic| walk_at "exec Assign cons ListComp") => `(tactic| (k_here; refine stop18 ?_))
local macro_rules | `(tactic| walk_at "call ref") => `(tactic| (k_here; (with_reducible show wpAny _ _ (call (Value.ref 47) _) _ _ _); k_dflt (refine' flight_K ?F ?N ?X ?T ?s ?m ?i ?l ?k ?h ?d ?u ?_; (case F => k_asm); (case N => k_asm); (case X => k_asm); (case T => k_asm); (case s => walk_at "Sent"); (case m => k_mem); (case i => assumption); (case l => omega); (case k => assumption); (case h => rfl); (case d => exact Nat.le_of_ble_eq_true rfl); (case u => exact Nat.le_of_ble_eq_true rfl)); intro h' tk' t' F' N'; (try dsimp only); (try k_sweep)))
local macro_rules | `(tactic| walk_at "call ref") => `(tactic| (k_here; (with_reducible show wpAny _ _ (call (Value.ref 42) _) _ _ _); k_dflt (refine' newest_K ?F ?N ?X ?T ?s ?m ?i ?k ?h ?d ?u ?_; (case F => k_asm); (case N => k_asm); (case X => k_asm); (case T => k_asm); (case s => walk_at "Sent"); (case m => k_mem); (case i => assumption); (case k => assumption); (case h => rfl); (case d => exact Nat.le_of_ble_eq_true rfl); (case u => exact Nat.le_of_ble_eq_true rfl)); intro h' tk' v' F' N' ho'; (try dsimp only); (try k_sweep)))
local macro_rules | `(tactic| walk_at "CompSrcT") => `(tactic| (refine stop18 ?_))
local macro_rules | `(tactic| walk_at "CompSrc") => `(tactic| (refine stop18 ?_))
local macro_rules | `(tactic| walk_at "exec If") => `(tactic| (k_here; (fail_if_success (with_reducible show wpAny _ _ _ (MidIf _ _ _ _ _) _ _)); (fail_if_success (with_reducible show wpAny _ _ _ (MidTwo _ _ _ _ _ _ _) _ _)); refine stop18 ?_))
local macro_rules | `(tactic| walk_at "exec Assign") => `(tactic| (k_here; (fail_if_success (with_reducible show wpAny _ _ _ (MidSet _ _ _ _ _ _ _) _ _)); (first | (with_reducible show wpAny _ _ (exec (Stmt.Assign _ (Expr.IfExp _ _ _ _) _) _) _ _ _) | (with_reducible show wpAny _ _ (exec (Stmt.Assign _ (Expr.BinOp (Expr.IfExp _ _ _ _) _ _ _) _) _) _ _ _)); refine stop18 ?_))
abbrev AT : Around := { handled := none, depth := 400, frames := none, guards := none, units := 500 }
local macro_rules | `(tactic| walk_at "MyEnterC") => `(tactic| (
  refine' enterC ?k1 ?k2 ?k3 ?k6 ?k7 ?k8 ?k9 ?kB ?kD ?_ ?c2 ?c3 ?c4
  (case k1 => assumption)
  (case k6 => k_dflt k_is)
  (case k7 => k_dflt k_is)
  (case k2 => exact Top.nolimit (by assumption))
  (case k3 => assumption)
  (case k8 => decide)
  (case k9 => exact BindsTo.of_eq rfl)
  (case kB => exact rfl)
  (case kD => decide +kernel)
  (case c2 => exact rfl)
  (case c3 => exact rfl)
  (case c4 => exact rfl)))


set_option maxHeartbeats 16000000 in
theorem law_spec {w : World} {hb : Heap} {mg mb : Str → Option Value} {mean : ExcName → Option Value} {s : Shared} {Q E : Value → Shared → Prop} {l₀ : Addr} {vs : List Value} {ns : List Int}
    (X : (hd.heap_39 w.params).In hb) (T : Top hd.view_39 (looseW hd.view_39 []) mean mg mb hb) (hx : Ext hb s.heap)
    (hol : s.heap.IsList l₀ vs.toArray) (hi : IntsAre vs ns) (hlen : ns.length ≤ 63)
    (hq : ∀ L' m' h' tk, Fr s.heap L' h' m' → Q (.bool true) { s with heap := h', toks := tk }) :
    wpAny (model PySem.Challenge.rw_no0042_01.row.prog w) AT (call (.ref 83) [.ref l₀]) Q E s := by
  w_top off
  revert X; k_fill; intro X
  walk_at "MyEnterC"
  intro L' h₁ tk₁ cells F N Y
  have X' := X.keeps hx
  have T' := T.keeps hx
  k_cells Y
  (try simp only [List.cons_append, List.nil_append] at N)
  (try dsimp only)
  k_unmd
  k_fold
  k_steps
  unfold Stop18
  refine' cut_Set OptV (Str.ofString "largest") ?F ?N ?c1a ?c1b
  case F => k_asm
  case N => k_asm
  case c1a =>
    k_steps
    all_goals (walk_at "SetEnd")
  case c1b =>
    intro v' h' tk' hv' F' N'
    obtain ⟨lg', hv'⟩ := hv'
    k_sweep
    k_steps
    unfold Stop18
    refine' cut_If ?F ?N ?c2a ?c2b
    case F => k_asm
    case N => k_asm
    case c2a =>
      k_steps
      all_goals (walk_at "IfEnd")
    case c2b =>
      intro h' tk' F' N'
      k_sweep
      k_steps
      unfold Stop18
      refine' cut_If ?F ?N ?c3a ?c3b
      case F => k_asm
      case N => k_asm
      case c3a =>
        k_steps
        all_goals (walk_at "IfEnd")
      case c3b =>
        intro h' tk' F' N'
        k_sweep
        k_steps
        unfold Stop18
        refine' cut_Set IntT (Str.ofString "now") ?F ?N ?c4a ?c4b
        case F => k_asm
        case N => k_asm
        case c4a =>
          k_steps
          all_goals (walk_at "SetEnd")
        case c4b =>
          intro v' h' tk' hv' F' N'
          obtain ⟨now', nt', rfl⟩ := hv'
          k_sweep
          k_steps
          unfold Stop18
          refine' cut_If ?F ?N ?c5a ?c5b
          case F => k_asm
          case N => k_asm
          case c5a =>
            k_steps
            all_goals (walk_at "IfEnd")
          case c5b =>
            intro h' tk' F' N'
            k_sweep
            k_steps
            unfold Stop18
            refine' cut_Two (Str.ofString "again") (Str.ofString "ahead") ?F ?N ?c6a ?c6b
            case F => k_asm
            case N => k_asm
            case c6a =>
              (rename OptIs _ (Prod.snd _) => ho9)
              rcases opt_split ho9 with ⟨rfl, hlat⟩ | ⟨l9, t9, rfl, hlat⟩
              · k_steps
                all_goals (walk_at "TwoEnd")
              · have hmore := more_lost hlat
                have hsame := same_lost hlat
                k_steps
                unfold Stop18
                refine' cut_If ?F ?N ?c7a ?c7b
                case F => k_asm
                case N => k_asm
                case c7a =>
                  k_steps
                  all_goals (walk_at "IfEnd")
                case c7b =>
                  intro h' tk' F' N'
                  k_sweep
                  k_steps
                  all_goals (walk_at "TwoEnd")
            case c6b =>
              intro u' h' tk' F' N'
              (rename List Row => rows9)
              (rename List (Addr × Obj) => tl9)
              (rename List.Pairwise _ _ => hri9)
              (rename IntsAre _ (Prod.fst _) => hiL9)
              (rename OptIs _ (Prod.snd _) => ho9)
              obtain ⟨lo9, hi9, hlo1, hlo2, hlo3⟩ := lost_facts hri9 (by assumption) hiL9
              clear hiL9 ho9
              k_sweep
              k_steps
              unfold Stop18
              refine' cut_If ?F ?N ?c8a ?c8b
              case F => k_asm
              case N => k_asm
              case c8a =>
                k_steps
                unfold Stop18
                k_here
                refine' emptycomp_K ?w1 ?w2 ?w3 ?w4 ?w5 ?w6 ?w7 ?w8 ?w9 ?wa ?wb ?wc ?wd ?witer ?wtests ?wfin ?wz
                case w1 => k_asm
                case w2 => k_asm
                case w6 => (rename RowsOn _ _ _ => hR9; exact hR9)
                case w4 => assumption
                case w3 => k_mem
                case w5 => assumption
                case w7 => assumption
                case w8 => rfl
                case w9 => with_unfolding_all rfl
                case wa => decide
                case wb => rfl
                case wc => decide
                case wd => rfl
                case wz => exact fun _ => rfl
                case witer =>
                  k_steps
                  all_goals exact ⟨_, rfl⟩
                case wtests =>
                  intro k t C m₂ s₃ E' hk hn hv F' N'
                  (rename LeftAt _ _ => hat9)
                  obtain ⟨hk1, hk2⟩ := hat9 k hk
                  k_sweep
                  k_steps
                  all_goals exact Ext.refl _
                case wfin =>
                  intro D' h' tk' n' hD0' F' N' o1'
                  k_sweep
                  k_steps
                  all_goals (walk_at "IfEnd")
              case c8b =>
                intro h' tk' F' N'
                k_sweep
                k_steps
                unfold Stop18
                refine LCt.Assign_ListComp_T (F₀ := by k_asm) (by rfl) (by with_unfolding_all rfl) (by with_unfolding_all rfl) (by decide) (by rfl) (by decide) (by rfl) (by rfl) (by rfl) ?_
                k_steps
                unfold Stop18
                refine LCt.CompSrcT.ledger (by rfl) (by k_asm) (by k_asm) (by k_mem) (by rw [List.size_toArray, IntsAre.length hi9, sizeLine_eq]; omega) ?_
                intro g'
                refine rest_T (as := lo9) IntV (FlyV rows9 tl9) (fun k => (rowAt rows9 k).flag) (ints_all2 hi9) (.inr ⟨_, by k_mem, rfl, _, rfl⟩) ?tests ?elts ?fin
                case tests =>
                  intro a v I oI C oC D m₂ ys h tk E' ha hsrc hC hx9 F' N'
                  obtain ⟨t, rfl⟩ := hsrc
                  have hm9 := hlo2 a ha
                  k_sweep
                  k_steps
                case elts =>
                  intro a v I oI C oC D m₂ ys h tk E' ha hsrc hp hC hx9 F' N'
                  obtain ⟨t, rfl⟩ := hsrc
                  have hm9 := hlo2 a ha
                  k_sweep
                  k_steps
                  all_goals exact ⟨_, _, _, _, rfl, by assumption⟩
                case fin =>
                  intro ys hys D h tk F' N' off
                  have hfl : (lo9.filter fun k => (rowAt rows9 k).flag).length ≤ 11 := len_filter hlo1
                  have hyl := All2.length hys
                  k_sweep
                  k_unmd
                  k_steps
                  unfold Stop18
                  refine' cut_If ?F ?N ?c9a ?c9b
                  case F => k_asm
                  case N => k_asm
                  case c9a =>
                    k_steps
                    unfold Stop18
                    k_here
                    refine LCg.ListComp_U (F₀ := by k_asm) (by with_unfolding_all rfl) (by decide) (by rfl) (by decide) (by rfl) ?_
                    k_steps
                    unfold Stop18
                    refine LCg.CompSrc.ledger (by rfl) (by k_asm) (by k_asm) (by k_mem) (by rw [List.size_toArray, hyl, sizeLine_eq]; omega) ?_
                    intro g'
                    refine rest_U (as := lo9.filter fun k => (rowAt rows9 k).flag) (FlyV rows9 tl9) (fun k v => IntV (rowAt rows9 k).size v) hys (.inr ⟨_, by k_mem, rfl, _, rfl⟩) ?elts2 ?fin2
                    case elts2 =>
                      intro a v I oI C oC D m₂ ys h tk E' ha hsrc hC hx9 F' N'
                      obtain ⟨a9, t1, t2, n9, rfl, hm9⟩ := hsrc
                      have ho9 := (N' (a9, tupObj #[.int (rowAt rows9 a).time t1, .int (rowAt rows9 a).size t2, .bool (rowAt rows9 a).odd, .bool (rowAt rows9 a).flag] n9) (by repeat' (first | exact hm9 | refine List.Mem.tail _ ?_))).1
                      k_sweep
                      k_steps
                      all_goals exact ⟨_, rfl⟩
                    case fin2 =>
                      intro zs hzs D h tk F' N' off
                      have hzi := (All2.map (f := fun k => (rowAt rows9 k).size) (R := IntV) hzs).ints
                      k_sweep
                      k_steps
                      all_goals (walk_at "IfEnd")
                  case c9b =>
                    intro h' tk' F' N'
                    k_sweep
                    k_steps
                    · unfold Stop18
                      k_here
                      (rename OptIs _ (newF _ _ _) => hw9)
                      rcases opt_split hw9 with ⟨rfl, hnf⟩ | ⟨l9, t9, rfl, hnf⟩
                      · exact absurd (new_none hyl hnf) (by assumption)
                      · refine LCg.ListComp_U (F₀ := by k_asm) (by with_unfolding_all rfl) (by decide) (by rfl) (by decide) (by rfl) ?_
                        k_steps
                        unfold Stop18
                        refine LCg.CompSrc.ledger (by rfl) (by k_asm) (by k_asm) (by k_mem) (by rw [List.size_toArray, hyl, sizeLine_eq]; omega) ?_
                        intro g'
                        refine rest_U (as := lo9.filter fun k => (rowAt rows9 k).flag) (FlyV rows9 tl9) (fun k v => IntV (rowAt rows9 k).time v) hys (.inr ⟨_, by k_mem, rfl, _, rfl⟩) ?elts3 ?fin3
                        case elts3 =>
                          intro a v I oI C oC D m₂ ys h tk E' ha hsrc hC hx9 F' N'
                          obtain ⟨a9, t1, t2, n9, rfl, hm9⟩ := hsrc
                          have ho9 := (N' (a9, tupObj #[.int (rowAt rows9 a).time t1, .int (rowAt rows9 a).size t2, .bool (rowAt rows9 a).odd, .bool (rowAt rows9 a).flag] n9) (by repeat' (first | exact hm9 | refine List.Mem.tail _ ?_))).1
                          k_sweep
                          k_steps
                          all_goals exact ⟨_, rfl⟩
                        case fin3 =>
                          intro zs hzs D h tk F' N' off
                          have hzi := (All2.map (f := fun k => (rowAt rows9 k).time) (R := IntV) hzs).ints
                          have hzl := IntsAre.length hzi
                          obtain ⟨hn1, hn2⟩ := new_some hnf
                          k_sweep
                          k_steps
                          k_here
                          refine kso_max (by k_asm) (by k_asm) (News.isList (by k_asm) (by k_mem)) hzi (List.length_pos_of_mem hn1) (by rfl) ?_
                          intro h' M' t' tk' F' N' hM1 hM2
                          have hM3 := hn2 _ hM1
                          have hM4 := hM2 _ hn1
                          have hM5 : M' = l9 := Int.le_antisymm hM3 hM4
                          subst hM5
                          k_sweep
                          k_steps
                          all_goals (
                            (try simp only [beq_self_eq_true])
                            (rename Fr _ _ _ _ => F9)
                            k_unmd
                            (try dsimp only)
                            (try k_unfold)
                            (try dsimp only)
                            exact hq _ _ _ _ F9)
                    · (rename OptIs _ (newF _ _ _) => hw9)
                      rcases opt_split hw9 with ⟨rfl, hnf⟩ | ⟨l9, t9, rfl, hnf⟩
                      · k_steps
                        all_goals (
                          (rename Fr _ _ _ _ => F9)
                          k_unmd
                          (try dsimp only)
                          (try k_unfold)
                          (try dsimp only)
                          exact hq _ _ _ _ F9)
                      · exfalso
                        have hy9 : ys = [] := Classical.not_not.mp (by assumption)
                        rw [hy9] at hyl
                        have e9 : lo9.filter (fun k => (rowAt rows9 k).flag) = [] := List.length_eq_zero_iff.mp hyl.symm
                        have hn1 := (new_some hnf).1
                        rw [e9] at hn1
                        cases hn1
end Mine
namespace Mine
local macro_rules | `(tactic| walk_at "Pad0") => `(tactic| skip)
local macro_rules | `(tactic| walk_at "Pad1") => `(tactic| skip)
local macro_rules | `(tactic| walk_at "Pad2") => `(tactic| skip)
local macro_rules | `(tactic| walk_at "Pad3") => `(tactic| skip)
local macro_rules | `(tactic| walk_at "Pad4") => `(tactic| skip)
local macro_rules | `(tactic| walk_at "Pad5") => `(tactic| skip)
local macro_rules | `(tactic| walk_at "Pad6") => `(tactic| skip)
local macro_rules | `(tactic| walk_at "Pad7") => `(tactic| skip)
local macro_rules | `(tactic| walk_at "Pad8") => `(tactic| skip)
local macro_rules | `(tactic| walk_at "Pad9") => `(tactic| skip)
local macro_rules | `(tactic| walk_at "Pad10") => `(tactic| skip)
local macro_rules | `(tactic| walk_at "Pad11") => `(tactic| skip)
local macro_rules | `(tactic| walk_at "Pad12") => `(tactic| skip)
local macro_rules | `(tactic| walk_at "Pad13") => `(tactic| skip)
local macro_rules | `(tactic| walk_at "Pad14") => `(tactic| skip)
local macro_rules | `(tactic| walk_at "Pad15") => `(tactic| skip)
local macro_rules | `(tactic| walk_at "Pad16") => `(tactic| skip)
local macro_rules | `(tactic| walk_at "Pad17") => `(tactic| skip)
local macro_rules | `(tactic| walk_at "Pad18") => `(tactic| skip)
local macro_rules | `(tactic| walk_at "Pad19") => `(tactic| skip)
local macro_rules | `(tactic| walk_at "Pad20") => `(tactic| skip)
local macro_rules | `(tactic| walk_at "Pad21") => `(tactic| skip)
local macro_rules | `(tactic| walk_at "Pad22") => `(tactic| skip)
local macro_rules | `(tactic| walk_at "Pad23") => `(tactic| skip)
local macro_rules | `(tactic| walk_at "Pad24") => `(tactic| skip)
local macro_rules | `(tactic| walk_at "Pad25") => `(tactic| skip)
local macro_rules | `(tactic| walk_at "Pad26") => `(tactic| skip)
local macro_rules | `(tactic| walk_at "Pad27") => `(tactic| skip)
local macro_rules | `(tactic| walk_at "Pad28") => `(tactic| skip)
local macro_rules | `(tactic| walk_at "Pad29") => `(tactic| skip)
local macro_rules | `(tactic| walk_at "Pad30") => `(tactic| skip)
local macro_rules | `(tactic| walk_at "Pad31") => `(tactic| skip)
local macro_rules | `(tactic| walk_at "Pad32") => `(tactic| skip)
local macro_rules | `(tactic| walk_at "Pad33") => `(tactic| skip)
local macro_rules | `(tactic| walk_at "Pad34") => `(tactic| skip)
local macro_rules | `(tactic| walk_at "Pad35") => `(tactic| skip)
local macro_rules | `(tactic| walk_at "Pad36") => `(tactic| skip)
local macro_rules | `(tactic| walk_at "Pad37") => `(tactic| skip)
local macro_rules | `(tactic| walk_at "Pad38") => `(tactic| skip)
local macro_rules | `(tactic| walk_at "Pad39") => `(tactic| skip)
local macro_rules | `(tactic| walk_at "Pad40") => `(tactic| skip)
local macro_rules | `(tactic| walk_at "Pad41") => `(tactic| skip)
local macro_rules | `(tactic| walk_at "Pad42") => `(tactic| skip)
local macro_rules | `(tactic| walk_at "Pad43") => `(tactic| skip)
local macro_rules | `(tactic| walk_at "Pad44") => `(tactic| skip)
local macro_rules | `(tactic| walk_at "Pad45") => `(tactic| skip)
local macro_rules | `(tactic| walk_at "Pad46") => `(tactic| skip)
local macro_rules | `(tactic| walk_at "Pad47") => `(tactic| skip)
local macro_rules | `(tactic| walk_at "Pad48") => `(tactic| skip)
local macro_rules | `(tactic| walk_at "Pad49") => `(tactic| skip)
local macro_rules | `(tactic| walk_at "Pad50") => `(tactic| skip)
local macro_rules | `(tactic| walk_at "Pad51") => `(tactic| skip)
local macro_rules | `(tactic| walk_at "Pad52") => `(tactic| skip)
local macro_rules | `(tactic| walk_at "Pad53") => `(tactic| skip)
local macro_rules | `(tactic| walk_at "Pad54") => `(tactic| skip)
local macro_rules | `(tactic| walk_at "Pad55") => `(tactic| skip)
local macro_rules | `(tactic| walk_at "Pad56") => `(tactic| skip)
local macro_rules | `(tactic| walk_at "Pad57") => `(tactic| skip)
local macro_rules | `(tactic| walk_at "Pad58") => `(tactic| skip)
local macro_rules | `(tactic| walk_at "Pad59") => `(tactic| skip)
local macro_rules | `(tactic| walk_at "Pad60") => `(tactic| skip)
local macro_rules | `(tactic| walk_at "Pad61") => `(tactic| skip)
local macro_rules | `(tactic| walk_at "Pad62") => `(tactic| skip)
local macro_rules | `(tactic| walk_at "Pad63") => `(tactic| skip)
local macro_rules | `(tactic| walk_at "Pad64") => `(tactic| skip)
local macro_rules | `(tactic| walk_at "Pad65") => `(tactic| skip)
local macro_rules | `(tactic| walk_at "Pad66") => `(tactic| skip)
local macro_rules | `(tactic| walk_at "Pad67") => `(tactic| skip)
local macro_rules | `(tactic| walk_at "Pad68") => `(tactic| skip)
local macro_rules | `(tactic| walk_at "Pad69") => `(tactic| skip)
local macro_rules | `(tactic| walk_at "Pad70") => `(tactic| skip)
local macro_rules | `(tactic| walk_at "Pad71") => `(tactic| skip)
local macro_rules | `(tactic| walk_at "Pad72") => `(tactic| skip)
local macro_rules | `(tactic| walk_at "Pad73") => `(tactic| skip)
local macro_rules | `(tactic| walk_at "Pad74") => `(tactic| skip)
local macro_rules | `(tactic| walk_at "Pad75") => `(tactic| skip)
local macro_rules | `(tactic| walk_at "Pad76") => `(tactic| skip)
local macro_rules | `(tactic| walk_at "Pad77") => `(tactic| skip)
local macro_rules | `(tactic| walk_at "Pad78") => `(tactic| skip)
local macro_rules | `(tactic| walk_at "Pad79") => `(tactic| skip)
local macro_rules | `(tactic| walk_at "Pad80") => `(tactic| skip)
local macro_rules | `(tactic| walk_at "Pad81") => `(tactic| skip)
local macro_rules | `(tactic| walk_at "Pad82") => `(tactic| skip)
local macro_rules | `(tactic| walk_at "Pad83") => `(tactic| skip)
local macro_rules | `(tactic| walk_at "Pad84") => `(tactic| skip)
local macro_rules | `(tactic| walk_at "Pad85") => `(tactic| skip)
local macro_rules | `(tactic| walk_at "Pad86") => `(tactic| skip)
local macro_rules | `(tactic| walk_at "Pad87") => `(tactic| skip)
local macro_rules | `(tactic| walk_at "Pad88") => `(tactic| skip)
local macro_rules | `(tactic| walk_at "Pad89") => `(tactic| skip)
local macro_rules | `(tactic| walk_at "Pad90") => `(tactic| skip)
local macro_rules | `(tactic| walk_at "Pad91") => `(tactic| skip)
open PySem.Calls
set_option maxHeartbeats 2000000 in
theorem whole : PySem.Challenge.rw_no0042_01.Holds := hd (by
  w_top off
  k_fill
  intro w s₀ s₁ mg mb G Y fa o pm cd doc dV kV ho hd0 hcd hD hmg hg args vals as hpre hlay hrd hwl hlo
  have KX := kIn_of Y
  refine Ground.open G ?_
  intro T B D TE TW
  have e83 : mg (Str.ofString "law") = some (.ref 83) := mg_of KX T.g (by k_is)
  have e84 : mg (Str.ofString "law") = some (.ref fa) := hmg
  have e85 : fa = 83 := by rw [e83] at e84; cases e84; rfl
  subst e85
  clear hmg e84 hcd hD ho hd0 B TE TW D
  wrow_args hpre hlay hrd hwl hlo
  dsimp only
  refine around_up (B := AT) rfl (by decide) (by decide) rfl rfl (law_spec KX T (Ext.refl _) (by assumption) (by assumption) (by omega) ?_)
  intro L' m' h' tk F'
  refine GoodW.toG ?_
  wrow_close)
end Mine
theorem PySem.Challenge.cw_no0042_01_holds : PySem.Challenge.rw_no0042_01.Holds := by
  exact Mine.whole
