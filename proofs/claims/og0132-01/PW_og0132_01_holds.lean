import PyProof.Rows.All
import Wide.All
import OpenK.AllK
import Wide.FinOn
import PySem.Challenge.RW_og0132_01
open PySem PySem.W PySem.Calls PyProof.Rows
set_option Elab.async false
set_option maxRecDepth 100000
set_option maxHeartbeats 8000000
set_option linter.all false
set_option pp.deepTerms false
set_option pp.deepTerms.threshold 4
namespace Mine
/-- the law is well said: the library's look, part by part -/
theorem holds_of_row (h : PySem.Challenge.rw_og0132_01.row.wellSaid = true → PySem.Challenge.rw_og0132_01.row.Holds) : PySem.Challenge.rw_og0132_01.Holds := by
  o_law
  exact h (by assumption)
/-- the program -/
def PR : Program := PySem.Challenge.rw_og0132_01.row.prog
def qb : List Stmt → List Stmt
  | _ :: a :: b :: _ :: r => a :: b :: (r.take 7 ++ (r.drop 8).take 3 ++ r.drop 12)
  | _ => []
/-- the program's text without the four rows that name its files -/
def qv : Program := { PR with main := { PR.main with body := qb PR.main.body } }
local macro_rules | `(tactic| o_law) => `(tactic| refine holds_of_row fun said => ?_)
local macro_rules | `(tactic| o_head $H) => `(tactic| (
  refine holds_open (q := qv) (loose := [Str.ofString "PaperError"]) (Xt := fun s => xlAt qv [] s && recOk (RowW.records (OpenRow.toRowW PySem.Challenge.rw_og0132_01.row)) s) (XP := XL qv []) (Yf := Hook.obs $H) (Ya := Hook.val $H) (YP := Hook.says $H) (N := 2578) ?hl (Hook.of $H) (Hook.keeps $H) (fun s e => xl_of s (Bool.and_eq_true_iff.mp e).1) XL.keeps (by rfl) (by rfl) (by rfl) (fun s e => recFacts_of (Bool.and_eq_true_iff.mp e).2) (by rfl) (by assumption) (by decide +kernel) ⟨rfl, rfl, rfl, rfl, rfl, by decide +kernel⟩ ?hw ?hc;
  (case hl => intro w; unfold openEnds fencedOpening topFrom; rw [PySem.W.Fast.te14082659384304107361, PySem.W.Fast.te14364793385576792824, PySem.W.Fast.te10274390034422433532, PySem.W.Fast.te1435165496053646825, PySem.W.Fast.te14289696077712309145, PySem.W.Fast.te4187177175401517315]; kernel_rfl)))
open_top hd for PySem.Challenge.rw_og0132_01
theorem sub_nil {α : Type} (B : List α) : ∀ p ∈ ([] : List α), p ∈ B := fun p hp => nomatch hp
theorem sub_cons {α : Type} {a : α} {r B : List α} (h : a ∈ B) (k : ∀ p ∈ r, p ∈ B) : ∀ p ∈ a :: r, p ∈ B := fun p hp => (List.mem_cons.mp hp).elim (fun e => e ▸ h) (k p)
local macro_rules | `(tactic| walk_at $s:str) => `(tactic| k_extra $s)
local macro_rules | `(tactic| k_ne) => `(tactic| first | with_reducible assumption | (refine Ne.symm ?_; with_reducible assumption) | with_reducible (exact Nat.ne_of_lt (by assumption)) | with_reducible (exact Nat.ne_of_gt (by assumption)) | (refine neN ?_; (try dsimp only); omega))
section S_OBase
theorem fill : (PySem.Challenge.rw_og0132_01, hd.heap_1) = (PySem.Challenge.rw_og0132_01, hd.heap_1) := by
  k_fill
  rfl
/-- what h holds outside W, h' holds -/
def Ext (W : List Addr) (h h' : Heap) : Prop := ∀ a o, h.get? a = some o → a ∉ W → h'.get? a = some o
theorem Ext.refl (W : List Addr) (h : Heap) : Ext W h h := fun _ _ e _ => e
theorem Ext.trans {W : List Addr} {h h' h'' : Heap} (x : Ext W h h') (y : Ext W h' h'') : Ext W h h'' := fun a o e n => y a o (x a o e n) n
theorem Ext.mono {W V : List Addr} {h h' : Heap} (x : Ext W h h') (s : ∀ a ∈ W, a ∈ V) : Ext V h h' := fun a o e n => x a o e fun q => n (s a q)
theorem Ext.keep {h h' : Heap} (x : Ext [] h h') : h.StaysIn h' := fun a o e => x a o e (by simp)
/-- the written part and the top's facts -/
structure Gd (w : World) (h : Heap) : Prop where
  X : (hd.heap_1 w.params).In h
  T : ∃ loose mg mb, TopRead qv loose mg mb h
theorem Gd.keeps {w : World} {h h' : Heap} (G : Gd w h) (k : ∀ b o, h.get? b = some o → h'.get? b = some o) : Gd w h' :=
  ⟨G.X.keeps k, let ⟨l, mg, mb, T⟩ := G.T; ⟨l, mg, mb, T.keeps k⟩⟩
/-- room for d frames and u units more -/
structure Rm (A : Around) (d u : Nat) : Prop where
  hd : A.handled = none
  dp : A.depth + d < recursionLimit
  un : A.units + u < cLine
theorem Rm.less {A : Around} {d u d' u' : Nat} (R : Rm A d u) (h : d' ≤ d) (k : u' ≤ u) : Rm A d' u' := ⟨R.hd, by have := R.dp; omega, by have := R.un; omega⟩
theorem Rm.deeper {A : Around} {d u : Nat} (R : Rm A (d + 1) (u + 3)) (env : Env) : Rm (A.deeper env) d u :=
  ⟨R.hd, by have := R.dp; show A.depth + 1 + d < _; omega, by have := R.un; show A.units + 3 + u < _; omega⟩
theorem Rm.hd_deeper {A : Around} {d u : Nat} (R : Rm A d u) (env : Env) : (A.deeper env).handled = none := R.hd
theorem Rm.in1 {A : Around} {d u : Nat} (R : Rm A d (u + 1)) : Rm A.in1 d u :=
  ⟨R.hd, R.dp, by have := R.un; show A.units + 1 + u < _; omega⟩
/-- the base of a callee: all but the footprint -/
theorem stays_hide {b h : Heap} {W : List Addr} (S : b.StaysIn h) (f : ∀ a ∈ W, b.get? a = none) : b.StaysIn (hideAll h W) :=
  fun a o e => hideAll_get W (S a o e) fun q => by rw [f a q] at e; cases e
theorem ext_hide {h h' : Heap} {W : List Addr} (k : ∀ b o, (hideAll h W).get? b = some o → h'.get? b = some o) : Ext W h h' := fun a o e n => k a o (hideAll_get W e n)
section
variable {prog : Program} {w : World} {A : Around} {E : Value → Shared → Prop} {s : Shared} {K : Frag} {Q : Value → Shared → Prop}
  {name qual : Str} {params : Arguments} {body : List Stmt} {scope : Scope} {dV kV doc pm cdv ct oc : Value} {an od : Option Addr} {osl : Array (Option Value)} {f : Addr} {vs : List Value} {binds : List (Str × Value)}
  {b : Heap} {led : List (Addr × Obj)}
/-- a def's end: what it keeps is all but its footprint -/
def Back (g : Heap) (L : Addr) (W : List Addr) (s : Shared) (Q : Value → Shared → Prop) (v : Value) (s' : Shared) : Prop :=
  (∃ m', Fr g L s'.heap m') ∧ (Ext W s.heap s'.heap → Q v s')
theorem Back.intro {g : Heap} {L : Addr} {W : List Addr} {s : Shared} {v : Value} {s' : Shared} {m' : Str → Option Value} {Q : Value → Shared → Prop} (F : Fr g L s'.heap m') (h : Ext W s.heap s'.heap → Q v s') : Back g L W s Q v s' := ⟨⟨m', F⟩, h⟩
/-- a call of a plain def: the walk of its body over the footprint led -/
theorem code_fn {R : Result → Shared → Prop} (Rm' : Rm A 1 3) (X : K.In b) (hlim : b.NoLimit) (S : b.StaysIn s.heap) (led : List (Addr × Obj)) (hled : ∀ p ∈ led, s.heap.get? p.1 = some p.2 ∧ b.get? p.1 = none)
    (ho : K.lookup f = some ⟨oc, od, .func (fnOf name qual params body scope dV kV doc pm an cdv ct), osl⟩) (hcd : codeIn K cdv qual = true)
    (hbind : BindsTo s (fnOf name qual params body scope dV kV doc pm an cdv ct) ⟨vs, []⟩ binds) (hloc : ∀ y ∈ binds, scope.names.lookup y.1 = some .local)
    (h : ∀ g L h₁, b.StaysIn g → (∀ a o, s.heap.get? a = some o → a ∉ led.map (·.1) → g.get? a = some o) → Fr g L h₁ (fun y => binds.reverse.lookup y) → News g L h₁ led →
      wpAny (model prog w) (A.deeper (envOf qual scope L f cdv)) (execs body (envOf qual scope L f cdv))
        (fun fl s' => Back g L (led.map (·.1)) s (fun v s' => R (.ok (.ret v)) s') (match fl with | .ret v => v | _ => .none) s') (fun _ _ => False)
        { s with heap := h₁, toks := s.toks + binds.length })
    (hcell : ∀ x ∈ scope.names, x.2 ≠ .cell) (hco : scope.isCoroutine = false := by rfl) (hgen : scope.isGenerator = false := by rfl) (hk : scope.kind = .function := by rfl) :
    codeAny (model prog w) A (.call (.ref f) ⟨vs, []⟩) R s := by
  refine codeAny_call_def (fd := fnOf name qual params body scope dV kV doc pm an cdv ct) (body := body) (binds := binds) (by have := Rm'.dp; omega) (S _ _ (X _ _ ho)) rfl (hlim.keeps S) (codeRec_of (X.keeps S) hcd) rfl hbind hcell hloc (fun h₁ hns hk₁ => ?_) hco hgen hk
  refine wpAny_mono (h (hideAll s.heap (led.map (·.1))) s.heap.objs.size h₁ (stays_hide S fun a ha => ?_) (fun a o e n => hideAll_get _ e n) ⟨hns, fun b o e => hk₁ b o (of_hideAll _ e), Nat.le_of_eq (hideAll_size _ _)⟩ (fun p hp => ⟨hk₁ _ _ (hled p hp).1, Nat.ne_of_lt (Heap.lt_size (hled p hp).1), hideAll_none _ (List.mem_map_of_mem hp)⟩)) (fun fl s' q => ?_) fun _ _ x => x.elim
  · obtain ⟨p, hp, rfl⟩ := List.mem_map.mp ha
    exact (hled p hp).2
  · obtain ⟨⟨m', F'⟩, q⟩ := q
    exact q (ext_hide F'.keep)
theorem call_fn (R : Rm A 1 3) (X : K.In b) (hlim : b.NoLimit) (S : b.StaysIn s.heap) (led : List (Addr × Obj)) (hled : ∀ p ∈ led, s.heap.get? p.1 = some p.2 ∧ b.get? p.1 = none)
    (ho : K.lookup f = some ⟨oc, od, .func (fnOf name qual params body scope dV kV doc pm an cdv ct), osl⟩) (hcd : codeIn K cdv qual = true)
    (hbind : BindsTo s (fnOf name qual params body scope dV kV doc pm an cdv ct) ⟨vs, []⟩ binds) (hloc : ∀ y ∈ binds, scope.names.lookup y.1 = some .local)
    (h : ∀ g L h₁, b.StaysIn g → (∀ a o, s.heap.get? a = some o → a ∉ led.map (·.1) → g.get? a = some o) → Fr g L h₁ (fun y => binds.reverse.lookup y) → News g L h₁ led →
      wpAny (model prog w) (A.deeper (envOf qual scope L f cdv)) (execs body (envOf qual scope L f cdv))
        (fun fl s' => Back g L (led.map (·.1)) s Q (match fl with | .ret v => v | _ => .none) s') (fun _ _ => False)
        { s with heap := h₁, toks := s.toks + binds.length })
    (hcell : ∀ x ∈ scope.names, x.2 ≠ .cell) (hco : scope.isCoroutine = false := by rfl) (hgen : scope.isGenerator = false := by rfl) (hk : scope.kind = .function := by rfl) :
    wpAny (model prog w) A (call (.ref f) vs) Q E s :=
  wpAny_call (code_fn R X hlim S led hled ho hcd hbind hloc h hcell hco hgen hk)
end
end S_OBase
local macro_rules | `(tactic| units_room) => `(tactic| (refine Nat.lt_of_le_of_lt ?_ (Rm.un (by assumption)); simp only [Around.in1_units, Around.deeper_units, Around.mark_units]; omega))
section S_OLoop
/-! all of a heap as a list; the rest of a heap behind a ledger -/
def allOf (h : Heap) : List (Addr × Obj) := (List.range h.objs.size).filterMap fun a => (h.get? a).map fun o => (a, o)
theorem mem_allOf {h : Heap} {a : Addr} {o : Obj} : (a, o) ∈ allOf h ↔ h.get? a = some o := by
  unfold allOf
  rw [List.mem_filterMap]
  constructor
  · rintro ⟨b, _, e⟩
    cases q : h.get? b with
    | none => rw [q] at e; cases e
    | some o' =>
      rw [q] at e
      simp only [Option.map_some, Option.some.injEq, Prod.mk.injEq] at e
      obtain ⟨rfl, rfl⟩ := e
      exact q
  · intro e
    exact ⟨a, List.mem_range.mpr (Heap.lt_size e), by rw [e]; rfl⟩
section
variable {g h h' : Heap} {L : Addr} {m m' : Str → Option Value} {known known' tl : List (Addr × Obj)} {W : List Addr}
/-- tl bears all that stands in h but the base g, the frame L and what is known -/
structure Tail (g : Heap) (L : Addr) (h : Heap) (adr : List Addr) (tl : List (Addr × Obj)) : Prop where
  off : OwnOff tl adr
  cov : ∀ a o, h.get? a = some o → a ∉ adr → a ≠ L → g.get? a = none → (a, o) ∈ tl
theorem tail_of (F : Fr g L h m) (N : News g L h known) : ∃ tl, News g L h (known ++ tl) ∧ Tail g L h (known.map (·.1)) tl := by
  classical
  refine ⟨(allOf h).filter fun p => decide (p.1 ∉ known.map (·.1) ∧ p.1 ≠ L ∧ g.get? p.1 = none), fun p hp => ?_, fun p hp b hb => ?_, fun a o e h1 h2 h3 => ?_⟩
  · rcases List.mem_append.mp hp with hp | hp
    · exact N p hp
    · have h1 := List.mem_filter.mp hp
      have h2 := of_decide_eq_true h1.2
      exact ⟨mem_allOf.mp h1.1, h2.2.1, h2.2.2⟩
  · have h1 := of_decide_eq_true (List.mem_filter.mp hp).2
    rintro rfl
    exact h1.1 hb
  · exact List.mem_filter.mpr ⟨mem_allOf.mpr e, decide_eq_true ⟨h1, h2, h3⟩⟩
theorem ext_of_tail {L' : Addr} {adr : List Addr} {led : List (Addr × Obj)} (F : Fr g L h m) (T : Tail g L h adr tl) (F' : Fr g L' h' m') (N' : News g L' h' led) (sub : ∀ p ∈ tl, p ∈ led) : Ext (L :: adr) h h' := by
  intro a o e n
  cases q : g.get? a with
  | some o' =>
    have e1 := F.keep a o' q
    rw [e] at e1
    cases e1
    exact F'.keep a _ q
  | none => exact (N' _ (sub _ (T.cov a o e (fun x => n (List.mem_cons_of_mem _ x)) (fun x => n (by rw [x]; exact List.mem_cons_self)) q))).1
theorem Fr.ext (F : Fr g L h m) (e : Ext W h h') (hL : L ∉ W) (hg : ∀ a ∈ W, g.get? a = none) : Fr g L h' m :=
  ⟨F.ns.at' fun o x => e _ o x hL, fun b o x => e b o (F.keep b o x) (fun hb => nomatch (hg b hb).symm.trans x), F.above⟩
/-- the rest of a heap anew, behind a call that turned W alone -/
theorem retail (F : Fr g L h m) (N : News g L h (known ++ tl)) (T : Tail g L h' (known.map (·.1)) tl ∨ OwnOff tl (known.map (·.1))) (e : Ext W h h') (hW : ∀ a ∈ W, a ∈ known.map (·.1)) (ha : known'.map (·.1) = known.map (·.1)) (hk : ∀ p ∈ known', h'.get? p.1 = some p.2) :
    Fr g L h' m ∧ ∃ tl', News g L h' (known' ++ tl') ∧ Tail g L h' (known'.map (·.1)) tl' ∧ ∀ p ∈ tl, p ∈ tl' := by
  have off : OwnOff tl (known.map (·.1)) := T.elim (fun x => x.off) id
  have kn : ∀ a ∈ known.map (·.1), a ≠ L ∧ g.get? a = none := fun a ha => by
    obtain ⟨p, hp, rfl⟩ := List.mem_map.mp ha
    exact (N p (List.mem_append_left _ hp)).2
  have F' : Fr g L h' m := Fr.ext F e (fun hL => (kn L (hW L hL)).1 rfl) fun a ha => (kn a (hW a ha)).2
  have N' : News g L h' known' := fun p hp => by
    have : p.1 ∈ known.map (·.1) := ha ▸ List.mem_map.mpr ⟨p, hp, rfl⟩
    exact ⟨hk p hp, kn _ this⟩
  obtain ⟨tl', N2, T2⟩ := tail_of F' N'
  refine ⟨F', tl', N2, T2, fun p hp => ?_⟩
  have x := N p (List.mem_append_right _ hp)
  have hoff : p.1 ∉ known.map (·.1) := fun q => off p hp _ q rfl
  exact T2.cov p.1 p.2 (e _ _ x.1 fun q => hoff (hW _ q)) (ha ▸ hoff) x.2.1 x.2.2
end
theorem hide_sub {h : Heap} {W : List Addr} {a : Addr} {o : Obj} (e : (hideAll h W).get? a = some o) : h.get? a = some o ∧ a ∉ W :=
  ⟨of_hideAll _ e, fun q => by rw [hideAll_none _ q] at e; cases e⟩
theorem hide_stays {h h' : Heap} {W : List Addr} (k : ∀ a o, a ∉ W → h.get? a = some o → h'.get? a = some o) : (hideAll h W).StaysIn (hideAll h' W) :=
  fun a o e => hideAll_get _ (k a o (hide_sub e).2 (hide_sub e).1) (hide_sub e).2
section
variable {prog : Program} {w : World} {A : Around} {E : Value → Shared → Prop} {s : Shared} {env : Env}
/-- the list that a comprehension grows -/
abbrev lst (ys : List Value) : Obj := W.listOf ys.toArray ys.length
def CompEnd (C D : Addr) (fp wr : List Addr) (s₂ : Shared) (h : Heap) (Jn : Heap → Prop) (s' : Shared) : Prop :=
  ∃ h' tk' m', s' = { s₂ with heap := h', toks := tk' } ∧ h'.Ns C m' ∧ (∀ b ∈ D :: fp, ∀ o, h.get? b = some o → h'.get? b = some o) ∧ Jn (hideAll h' (D :: C :: wr))
/-- a comprehension by an invariant J over the heap but its list, its block and its iterator -/
def CompAt (prog : Program) (w : World) (A : Around) (env : Env) (elt : Expr) (x : Str) (ifs : List Expr) (scope : Scope) (cl : List (Str × Addr)) (RR : Shared → List Value → Addr → Addr → Heap → Nat → Prop) (it : Value) (s₂ : Shared) : Prop :=
  ∃ (I : Addr) (fp wr : List Addr) (n : Nat) (P : Nat → Value → Prop) (St : Nat → Heap → Prop) (J : Nat → List Value → Heap → Prop),
    it = .ref I ∧ Walks prog w A I fp wr n P St ∧ n ≤ sizeLine ∧ St 0 s₂.heap ∧ (∀ b ∈ fp, b < s₂.heap.objs.size) ∧ J 0 [] (hideAll s₂.heap wr) ∧
    (∀ i ys h h', J i ys h → h.StaysIn h' → J i ys h') ∧ (∀ i ys h, J i ys h → ys.length ≤ i) ∧
    (∀ C D i v ys h tk m, s₂.heap.objs.size ≤ D → D < C → i < n → P i v → St (i + 1) h → J i ys (hideAll h (D :: C :: wr)) → h.Ns C m → m x = some v → h.get? D = some (lst ys) →
      wpAny (model prog w) A (forIn ifs true fun c r => if r = true then do let ok ← isTrue c (compEnvC scope cl C env) (eval c (compEnvC scope cl C env)); pure (ForInStep.yield ok) else pure (ForInStep.yield r))
        (fun ok s₃ => if ok = true then wpAny (model prog w) A (eval elt (compEnvC scope cl C env)) (fun y s₄ => CompEnd C D fp wr s₂ h (J (i + 1) (ys ++ [y])) s₄) (fun _ _ => False) s₃ else CompEnd C D fp wr s₂ h (J (i + 1) ys) s₃)
        (fun _ _ => False) { s₂ with heap := h, toks := tk }) ∧
    ∀ C D ys h tk, s₂.heap.objs.size ≤ D → D < C → J n ys (hideAll h (D :: C :: wr)) → h.get? D = some (lst ys) → RR s₂ ys D C h tk
theorem lst_push (ys : List Value) (y : Value) : ({ cls := .type "list", data := .seq (ys.toArray.push y) (ys.length + 1) } : Obj) = lst (ys ++ [y]) := by
  show ({ cls := .type "list", data := .seq (ys.toArray.push y) (ys.length + 1) } : Obj) = { cls := .type "list", data := .seq (ys ++ [y]).toArray (ys ++ [y]).length }
  rw [List.length_append, List.length_singleton, List.push_toArray]
theorem comp_block {elt iter : Expr} {x : Str} {px : Pos} {ifs : List Expr} {scope : Scope} {cl : List (Str × Addr)} {pos : Pos} {s₂ : Shared} {it : Value} {RR : Value → Addr → Result → Shared → Prop} {R₀ : Shared → List Value → Addr → Addr → Heap → Nat → Prop}
    (hcell : ∀ y ∈ scope.names, y.2 ≠ .cell) (hkind : scope.kind = .function) (hx : scope.names.lookup x = some .local)
    (H : CompAt prog w A env elt x ifs scope cl R₀ it s₂)
    (hRR : ∀ ys D C h tk m, R₀ s₂ ys D C h tk → h.Ns C m → D ≠ C → s₂.heap.objs.size ≤ C → RR (.ref D) C (.ok .next) { s₂ with heap := h, toks := tk }) :
    wpAny (model prog w) A (newList []) (fun acc s₃ => wpAny (model prog w) A (newFunctionEnv scope env.globals cl [] env.qual none .none (some env)) (fun cenv s₄ =>
      codeAny (model prog w) A (.compStart (.ListComp elt [⟨.Name x px, iter, ifs, 0⟩] scope pos) 0 it acc { cenv with scope := relabel scope env }) (RR acc cenv.locals) s₄) E s₃) E s₂ := by
  obtain ⟨I, fp, wr, n, P, St, J, rfl, W, hsz, hst, hfp, h0, mono, hlen, turn, done⟩ := H
  refine wpAny_newObj_type (wpAny_newFunctionEnv hcell (by intro y hy; simp at hy) (fun h₁ hns₁ hsb₁ => ?_) hkind)
  dsimp only at hns₁ hsb₁ ⊢
  generalize hH2 : s₂.heap.push { cls := .type "list", dict := none, data := .seq ([] : List Value).toArray } = H2 at hns₁ hsb₁ ⊢
  have hC : H2.objs.size = s₂.heap.objs.size + 1 := by rw [← hH2, Heap.size_push]
  have hDC : s₂.heap.objs.size ≠ H2.objs.size := by rw [hC]; exact Nat.ne_of_lt (Nat.lt_succ_self _)
  have hDltC : s₂.heap.objs.size < H2.objs.size := by rw [hC]; exact Nat.lt_succ_self _
  have below : ∀ b, b < s₂.heap.objs.size → b ≠ H2.objs.size ∧ b ≠ s₂.heap.objs.size := fun b hb => ⟨by rw [hC]; exact Nat.ne_of_lt (Nat.lt_succ_of_lt hb), Nat.ne_of_lt hb⟩
  have hDf : s₂.heap.objs.size ∉ fp := fun hm => Nat.lt_irrefl _ (hfp _ hm)
  have hCf : H2.objs.size ∉ fp := fun hm => by have := hfp _ hm; rw [hC] at this; exact Nat.lt_irrefl _ (Nat.lt_of_succ_lt this)
  have hCw : H2.objs.size ∉ wr := fun hm => hCf (W.sub _ hm)
  have hDw : s₂.heap.objs.size ∉ wr := fun hm => hDf (W.sub _ hm)
  have old : ∀ b o, s₂.heap.get? b = some o → h₁.get? b = some o := fun b o e => hsb₁.extBut b o (below b (Heap.lt_size e)).1 (Heap.get?_push_of_some _ (hH2 ▸ Heap.get?_push_of_some _ e))
  have hacc : h₁.get? s₂.heap.objs.size = some (lst []) := hsb₁.extBut _ _ hDC (Heap.get?_push_of_some _ (hH2 ▸ Heap.get?_push_size _ rfl))
  have hst₁ : St 0 h₁ := W.frame _ _ _ hst fun b _ o e => old b o e
  have loop : ∀ s₃ : Shared, s₃ = { s₂ with heap := h₁, toks := s₂.toks + ([] : List (Str × Value)).length } →
      codeAny (model prog w) A (.compLoop (.ListComp elt [⟨.Name x px, iter, ifs, 0⟩] scope pos) 0 (.ref I) (.ref s₂.heap.objs.size) (compEnvC scope cl H2.objs.size env))
        (RR (.ref s₂.heap.objs.size) H2.objs.size) s₃ := by
    rintro s₃ rfl
    refine codeAny_compLoop_tests
      (fun k s' => ∃ h' tk i ys m', s' = { s₂ with heap := h', toks := tk } ∧ i ≤ n ∧ k = n + 1 - i ∧ St i h' ∧ h'.Ns H2.objs.size m' ∧ h'.get? s₂.heap.objs.size = some (lst ys) ∧ J i ys (hideAll h' (s₂.heap.objs.size :: H2.objs.size :: wr))) ?_ (n + 1)
      ⟨h₁, _, 0, [], _, rfl, Nat.zero_le _, rfl, hst₁, hns₁, hacc, mono _ _ _ _ h0 fun a o e => ?_⟩
    · rintro k s' ⟨h', tk, i, ys, m', rfl, hi, rfl, hst', hn', hD', hJ⟩
      by_cases hlt : i < n
      · refine W.item i _ _ _ hlt hst' fun v h₂ tk₂ hPv hst₂ hk₂ => ?_
        refine wpAny_assign_Name (wpAny_storeName_local (lookup_relabel_local hx) (hn'.at' fun o e => hk₂ _ o hCw e) (fun h₃ hn₃ hs₃ => ?_) (by simp [compEnvC, relabel, hkind]))
        have hst₃ : St (i + 1) h₃ := W.frame _ _ _ hst₂ fun b hb o e => hs₃.extBut b o (fun q => hCf (by have q' : b = H2.objs.size := q; rw [← q']; exact hb)) e
        have hD₃ : h₃.get? s₂.heap.objs.size = some (lst ys) := hs₃.extBut _ _ hDC (hk₂ _ _ hDw hD')
        have hJ₃ : J i ys (hideAll h₃ (s₂.heap.objs.size :: H2.objs.size :: wr)) := mono _ _ _ _ hJ (hide_stays fun a o ha e => hs₃.extBut a o (fun q => ha (by rw [show a = H2.objs.size from q]; exact List.mem_cons_of_mem _ List.mem_cons_self)) (hk₂ a o (fun q => ha (List.mem_cons_of_mem _ (List.mem_cons_of_mem _ q))) e))
        have fin : ∀ (ys' : List Value) (s' : Shared), ys'.length ≤ i + 1 → CompEnd H2.objs.size s₂.heap.objs.size fp wr s₂ h₃ (J (i + 1) ys') s' → s'.heap.get? s₂.heap.objs.size = some (lst ys') →
            ∃ m_1, m_1 < n + 1 - i ∧ ∃ h' tk i ys m', s' = { s₂ with heap := h', toks := tk } ∧ i ≤ n ∧ m_1 = n + 1 - i ∧ St i h' ∧ h'.Ns H2.objs.size m' ∧ h'.get? s₂.heap.objs.size = some (lst ys) ∧ J i ys (hideAll h' (s₂.heap.objs.size :: H2.objs.size :: wr)) := by
          rintro ys' s' _ ⟨h₄, tk₄, m₄, rfl, hn₄, hk₄, hJ₄⟩ hd
          exact ⟨n + 1 - (i + 1), by omega, h₄, tk₄, i + 1, ys', m₄, rfl, hlt, rfl, W.frame _ _ _ hst₃ fun b hb o e => hk₄ b (List.mem_cons_of_mem _ hb) o e, hn₄, hd, hJ₄⟩
        refine wpAny_mono (turn _ _ i v ys h₃ _ _ (Nat.le_refl _) hDltC hlt hPv hst₃ hJ₃ hn₃ (by simp) hD₃) (fun ok s₄ h₄ => ?_) fun _ _ e => e.elim
        have hyl := hlen i ys _ hJ
        cases ok with
        | false =>
          simp only [Bool.false_eq_true, if_false] at h₄ ⊢
          refine fin ys s₄ (by omega) h₄ ?_
          obtain ⟨h₅, tk₅, m₅, rfl, _, hk₅, _⟩ := h₄
          exact hk₅ _ List.mem_cons_self _ hD₃
        | true =>
          simp only [if_true] at h₄ ⊢
          refine wpAny_mono h₄ (fun y s₅ h₅ => ?_) fun _ _ e => e.elim
          obtain ⟨h₅, tk₅, m₅, rfl, hn₅, hk₅, hJ₅⟩ := h₅
          have zD := hk₅ _ List.mem_cons_self _ hD₃
          refine append_at (hsz := by show ys.toArray.size ≤ sizeLine; rw [List.size_toArray]; omega) zD fun h₆ hs₆ hD₆ => ?_
          refine ⟨n + 1 - (i + 1), by omega, h₆, tk₅, i + 1, ys ++ [y], m₅, rfl, hlt, rfl, W.frame _ _ _ hst₃ fun b hb o e => hs₆.extBut b o (fun q => hDf (q ▸ hb)) (hk₅ b (List.mem_cons_of_mem _ hb) o e), hn₅.sameBut hs₆ (Ne.symm hDC), hD₆.trans (congrArg some (lst_push ys y)), ?_⟩
          exact mono _ _ _ _ hJ₅ (hide_stays fun a o ha e => hs₆.extBut a o (fun q => ha (by rw [q]; exact List.mem_cons_self)) e)
      · obtain rfl : i = n := Nat.le_antisymm hi (Nat.not_lt.mp hlt)
        refine W.done _ _ _ hst' fun h₂ tk₂ hk₂ => ?_
        refine hRR ys _ _ h₂ tk₂ m' (done _ _ ys h₂ tk₂ (Nat.le_refl _) hDltC (mono _ _ _ _ hJ (hide_stays fun a o ha e => hk₂ a o (fun q => ha (List.mem_cons_of_mem _ (List.mem_cons_of_mem _ q))) e)) (hk₂ _ _ hDw hD')) (hn'.at' fun o e => hk₂ _ o hCw e) hDC (Nat.le_of_lt hDltC)
    · obtain ⟨e1, e2⟩ := hide_sub e
      have b1 := below a (Heap.lt_size e1)
      refine hideAll_get _ (old a o e1) fun q => ?_
      rcases List.mem_cons.mp q with q | q
      · exact b1.2 q
      · rcases List.mem_cons.mp q with q | q
        · exact b1.1 q
        · exact e2 q
  exact codeAny_compStart_list (loop _ rfl) (W.self 0 _ _ _ hst₁ (loop _ rfl))
theorem comp_raw {elt iter : Expr} {x : Str} {px : Pos} {ifs : List Expr} {scope : Scope} {cl : List (Str × Addr)} {pos : Pos} {Q : Value → Shared → Prop}
    (hclos : closureFor scope env = pure cl) (hcell : ∀ y ∈ scope.names, y.2 ≠ .cell) (hkind : scope.kind = .function)
    (hnames : ∀ y ∈ scope.names, y.2 = .local → scope.names.lookup y.1 = some .local) (hx : scope.names.lookup x = some .local)
    (h : wpAny (model prog w) A (eval iter env) (fun xv s₁ => wpAny (model prog w) A (pyIter xv) (fun it s₂ =>
      CompAt prog w A env elt x ifs scope cl (fun s₂ _ D C h tk => ∀ h', Heap.SameBut C h h' → Q (.ref D) { s₂ with heap := h', toks := tk }) it s₂) E s₁) E s)
    (hs : ∀ x, foldedSetIterable iter env x = pure x := by intro _; rfl) :
    wpAny (model prog w) A (eval (.ListComp elt [⟨.Name x px, iter, ifs, 0⟩] scope pos) env) Q E s := by
  rw [eval_ListComp]
  refine wpAny_comprehension_free (use := none) rfl hs hclos hkind hnames (wpAny_mono h (fun xv s₁ h₁ => wpAny_mono h₁ (fun it s₂ h₂ => ?_) fun _ _ e => e) fun _ _ e => e)
  exact comp_block hcell hkind hx h₂ fun ys D C h tk m hq hn _ _ => ⟨m, hn, fun h' hs' => hq h' hs'⟩
theorem comp_assign {elt iter : Expr} {x y : Str} {px py : Pos} {ifs : List Expr} {scope : Scope} {cl : List (Str × Addr)} {pos spos : Pos} {Q : Flow → Shared → Prop}
    (hsw : swapsWith (.ListComp elt [⟨.Name x px, iter, ifs, 0⟩] scope pos) (some (.Name y py)) spos.line env = pure true)
    (hclos : closureFor scope env = pure cl) (hcell : ∀ z ∈ scope.names, z.2 ≠ .cell) (hkind : scope.kind = .function)
    (hnames : ∀ z ∈ scope.names, z.2 = .local → scope.names.lookup z.1 = some .local) (hx : scope.names.lookup x = some .local)
    (hy : env.kindOf y = some .local) (hp : (env.scope.kind == .class || (env.scope.kind == .module && env.locals != env.globals)) = false)
    (h : wpAny (model prog w) A (eval iter env) (fun xv s₁ => wpAny (model prog w) A (pyIter xv) (fun it s₂ =>
      CompAt prog w A env elt x ifs scope cl (fun s₂ _ D C h tk => ∃ mL, h.Ns env.locals mL ∧ C ≠ env.locals ∧ ∀ h₁ h', h₁.Ns env.locals (fun z => if z = y then some (.ref D) else mL z) → Heap.SameBut env.locals h h₁ → Heap.SameBut C h₁ h' → Q .next { s₂ with heap := h', toks := tk + 1 }) it s₂) E s₁) E s)
    (hs : ∀ x, foldedSetIterable iter env x = pure x := by intro _; rfl) :
    wpAny (model prog w) A (exec (.Assign [.Name y py] (.ListComp elt [⟨.Name x px, iter, ifs, 0⟩] scope pos) spos) env) Q E s := by
  rw [exec_Assign_Name_used _ _ _ _ hsw]
  refine wpAny_bind (wpAny_standAt (wpAny_bind ?_))
  show wpAny _ A (do let _ ← comprehension (.ListComp elt [⟨.Name x px, iter, ifs, 0⟩] scope pos) scope env _ (newList []) false (eval iter env) (some (assign (.Name y py) env))) _ _ s
  refine wpAny_bind (wpAny_mono (wpAny_comprehension_free (use := some (assign (.Name y py) env)) (Q := fun _ s' => Q .next s') rfl hs hclos hkind hnames
    (wpAny_mono h (fun xv s₁ h₁ => wpAny_mono h₁ (fun it s₂ h₂ => ?_) fun _ _ e => e) fun _ _ e => e)) (fun _ s' hq => wpAny_pure (wpAny_pure hq)) fun _ _ e => e)
  refine comp_block hcell hkind hx h₂ fun ys D C h tk m hq hn _ _ => ?_
  obtain ⟨mL, hnL, hCL, hq⟩ := hq
  show wpAny _ A (assign (.Name y py) env (.ref D)) _ _ _
  refine wpAny_assign_Name (wpAny_storeName_local hy hnL (fun h₂ hn₂ hs₂ => ?_) hp)
  exact ⟨m, hn.sameBut hs₂ hCL, fun h'' hs'' => hq h₂ h'' hn₂ hs₂ hs''⟩
end
end S_OLoop
section S_OPred
theorem fill3 : (PySem.Challenge.rw_og0132_01, hd.heap_1) = (PySem.Challenge.rw_og0132_01, hd.heap_1) := by
  k_fill
  rfl
abbrev Led := List (Addr × Obj)
/-- the heap bears what the list says -/
def Sees (V : Led) (h : Heap) : Prop := ∀ p ∈ V, h.get? p.1 = some p.2
theorem sees_all (h : Heap) : Sees (allOf h) h := fun _ hp => mem_allOf.mp hp
theorem Sees.keep {V : Led} {h h' : Heap} (x : Sees V h) (k : ∀ a o, h.get? a = some o → h'.get? a = some o) : Sees V h' := fun p hp => k _ _ (x p hp)
theorem Sees.app {V U : Led} {h : Heap} (x : Sees V h) (y : Sees U h) : Sees (V ++ U) h := fun p hp => (List.mem_append.mp hp).elim (x p) (y p)
theorem Sees.sub {V U : Led} {h : Heap} (x : Sees V h) (s : ∀ p ∈ U, p ∈ V) : Sees U h := fun p hp => x p (s p hp)
theorem Fr.sees {g h : Heap} {L : Addr} {m : Str → Option Value} (F : Fr g L h m) : Sees (allOf g) h := fun p hp => F.keep p.1 p.2 (mem_allOf.mp hp)
theorem News.sees {g h : Heap} {L : Addr} {led : Led} (N : News g L h led) : Sees led h := fun p hp => (N p hp).1
/-- r is not in h -/
def New (h : Heap) (r : Addr) : Prop := h.get? r = none
theorem New.of_le {h : Heap} {r : Addr} (x : h.objs.size ≤ r) : New h r := Heap.get?_none_of_le x
theorem New.ne {h : Heap} {r a : Addr} {o : Obj} (n : New h r) (e : h.get? a = some o) : a ≠ r := by
  rintro rfl
  have n' : h.get? a = none := n
  rw [n'] at e
  cases e
theorem New.keep {h h' : Heap} {r : Addr} (n : New h' r) (k : ∀ a o, h.get? a = some o → h'.get? a = some o) : New h r := by
  show h.get? r = none
  cases q : h.get? r with
  | none => rfl
  | some o => exact (nomatch (show h'.get? r = none from n).symm.trans (k r o q))
/-- all of nl is new in h' -/
def Born (h h' : Heap) (nl : Led) : Prop := ∀ p ∈ nl, h'.get? p.1 = some p.2 ∧ New h p.1
/-- an Entry: where it stands, and its three attributes -/
structure Ent where
  x : Addr
  way : Str
  one : Int
  two : Int
def EntV (V : Led) (e : Ent) : Prop :=
  ∃ dx es n a b c, (e.x, instObj 78 dx) ∈ V ∧ (dx, dictOf es n) ∈ V ∧ getL "way" es = some (some (.str e.way a)) ∧ getL "one" es = some (some (.int e.one b)) ∧ getL "two" es = some (some (.int e.two c)) ∧ getL "told" es = some none
theorem EntV.mono {V U : Led} {e : Ent} (x : EntV V e) (s : ∀ p ∈ V, p ∈ U) : EntV U e :=
  let ⟨dx, es, n, a, b, c, h1, h2, r⟩ := x; ⟨dx, es, n, a, b, c, s _ h1, s _ h2, r⟩
/-- a dict of int keys -/
def DictV (w : World) (V : Led) (d : Addr) (kvs : List (Int × Value)) : Prop := (d == sysModules) = false ∧ ∃ o, (d, o) ∈ V ∧ o.IsDictOf (PySem.intKind PR w) kvs
theorem DictV.mono {w : World} {V U : Led} {d : Addr} {kvs : List (Int × Value)} (x : DictV w V d kvs) (s : ∀ p ∈ V, p ∈ U) : DictV w U d kvs :=
  let ⟨lo, o, h1, r⟩ := x; ⟨lo, o, s _ h1, r⟩
theorem DictV.dict {w : World} {V : Led} {d : Addr} {kvs : List (Int × Value)} {h : Heap} (x : DictV w V d kvs) (S : Sees V h) : h.DictOf (PySem.intKind PR w) d kvs :=
  let ⟨_, o, h1, r⟩ := x; Heap.dictOf_iff.mpr ⟨o, S _ h1, r⟩
abbrev kvOf (es : List (Int × Ent)) : List (Int × Value) := es.map fun p => (p.1, Value.ref p.2.x)
/-- a dict of entries -/
structure EDict (w : World) (V : Led) (d : Addr) (es : List (Int × Ent)) : Prop where
  dict : DictV w V d (kvOf es)
  ents : ∀ p ∈ es, EntV V p.2
theorem EDict.mono {w : World} {V U : Led} {d : Addr} {es : List (Int × Ent)} (x : EDict w V d es) (s : ∀ p ∈ V, p ∈ U) : EDict w U d es := ⟨x.dict.mono s, fun p hp => (x.ents p hp).mono s⟩
def getE (es : List (Int × Ent)) (k : Int) : Option Ent := (es.find? fun p => decide (p.1 = k)).map (·.2)
theorem valueAt_kv (es : List (Int × Ent)) (k : Int) : valueAt (kvOf es) k = (getE es k).map fun e => Value.ref e.x := by
  unfold valueAt getE kvOf
  rw [List.find?_map]
  show (Option.map _ (es.find? fun p => decide (p.1 = k))).map _ = _
  cases es.find? fun p => decide (p.1 = k) <;> rfl
theorem getE_mem {es : List (Int × Ent)} {k : Int} {e : Ent} (h : getE es k = some e) : (k, e) ∈ es := by
  unfold getE at h
  cases q : es.find? fun p => decide (p.1 = k) with
  | none => rw [q] at h; cases h
  | some p =>
    rw [q] at h
    cases h
    have h1 := List.find?_some q
    have h2 := List.mem_of_find?_eq_some q
    have h3 : p.1 = k := of_decide_eq_true h1
    rw [← h3]
    exact h2
theorem getE_isSome (es : List (Int × Ent)) (k : Int) : (getE es k).isSome = decide (k ∈ es.map (·.1)) := by
  unfold getE
  rw [Option.isSome_map]
  by_cases h : k ∈ es.map (·.1)
  · rw [decide_eq_true h]
    obtain ⟨p, hp, e⟩ := List.mem_map.mp h
    exact List.find?_isSome.mpr ⟨p, hp, decide_eq_true e⟩
  · rw [decide_eq_false h]
    cases q : es.find? fun p => decide (p.1 = k) with
    | none => rfl
    | some p =>
      have h1 := List.find?_some q
      exact absurd (List.mem_map.mpr ⟨p, List.mem_of_find?_eq_some q, of_decide_eq_true h1⟩) h
theorem getE_none {es : List (Int × Ent)} {k : Int} (h : k ∉ es.map (·.1)) : getE es k = none := by
  have := getE_isSome es k
  rw [decide_eq_false h] at this
  simpa using this
theorem getE_of_mem {es : List (Int × Ent)} (hn : (es.map (·.1)).Nodup) {k : Int} {e : Ent} (h : (k, e) ∈ es) : getE es k = some e := by
  induction es with
  | nil => cases h
  | cons p r ih =>
    rw [List.map_cons, List.nodup_cons] at hn
    rcases List.mem_cons.mp h with rfl | h
    · simp [getE]
    · have hne : p.1 ≠ k := fun q => hn.1 (q ▸ List.mem_map_of_mem h)
      have := ih hn.2 h
      unfold getE at this ⊢
      rw [List.find?_cons]
      simp [hne]
      simpa using this
theorem DictV.nodup {w : World} {V : Led} {d : Addr} {kvs : List (Int × Value)} (x : DictV w V d kvs) : (kvs.map (·.1)).Nodup := let ⟨_, _, _, _, _, _, _, _, _, hn⟩ := x; hn
theorem kvOf_keys (es : List (Int × Ent)) : (kvOf es).map (·.1) = es.map (·.1) := by simp [kvOf, List.map_map, Function.comp_def]
theorem EDict.nodup {w : World} {V : Led} {d : Addr} {es : List (Int × Ent)} (x : EDict w V d es) : (es.map (·.1)).Nodup := by rw [← kvOf_keys]; exact x.dict.nodup
section
variable {w : World} {A : Around} {E : Value → Shared → Prop} {s : Shared} {V : Led} {d : Addr} {kvs : List (Int × Value)} {es : List (Int × Ent)} {k : Int} {t : Tok} {e : Ent}
theorem dict_item {value slice : Expr} {v : Value} {Q : Value → Shared → Prop} (S : Sees V s.heap) (D : DictV w V d kvs) (hv : valueAt kvs k = some v) (h : Q v { s with toks := s.toks + 1 })
    (hs : subscripted slice false (.ref d) (.int k t) = operate [.ref d, .int k t] (getItem (.ref d) (.int k t))) (hg : ∀ r, letTemporaryGo value (.ref d) r = pure ()) :
    wpAny (model PR w) A (subscriptTail value slice (.ref d) (.int k t)) Q E s :=
  subscriptTail_builtin (D.dict S).typeIs slot_dict_getitem.lookup (wpAny_getItem_of (intKind_is _ _ k t) (D.dict S).mapOf hv h) hs hg
theorem edict_item {value slice : Expr} {Q : Value → Shared → Prop} (S : Sees V s.heap) (D : EDict w V d es) (hv : getE es k = some e) (h : Q (.ref e.x) { s with toks := s.toks + 1 })
    (hs : subscripted slice false (.ref d) (.int k t) = operate [.ref d, .int k t] (getItem (.ref d) (.int k t)) := by with_unfolding_all rfl) (hg : ∀ r, letTemporaryGo value (.ref d) r = pure () := by intro _; with_unfolding_all rfl) :
    wpAny (model PR w) A (subscriptTail value slice (.ref d) (.int k t)) Q E s :=
  dict_item S D.dict (by rw [valueAt_kv, hv]; rfl) h hs hg
theorem edict_in {Q : Value → Shared → Prop} (S : Sees V s.heap) (D : EDict w V d es) (h : Q (.bool (decide (k ∈ es.map (·.1)))) { s with toks := s.toks + 1 }) :
    wpAny (model PR w) A (compareOp .In (.int k t) (.ref d)) Q E s :=
  wpAny_in_of (intKind_is _ _ k t) D.dict.1 (D.dict.dict S).mapOf (by rw [valueAt_kv, Option.isSome_map, getE_isSome]; exact h)
theorem edict_notin {Q : Value → Shared → Prop} (S : Sees V s.heap) (D : EDict w V d es) (h : Q (.bool (!decide (k ∈ es.map (·.1)))) { s with toks := s.toks + 1 }) :
    wpAny (model PR w) A (compareOp .NotIn (.int k t) (.ref d)) Q E s :=
  wpAny_notIn_of (intKind_is _ _ k t) D.dict.1 (D.dict.dict S).mapOf (by rw [valueAt_kv, Option.isSome_map, getE_isSome]; exact h)
theorem dict_method {name : Str} {id : String} {pl : Sem Bool} {Q : Value × List Value → Shared → Prop} (slot : Slot "dict" name id) (ty : typeOf (.builtin id) = pure (.type "method_descriptor")) (S : Sees V s.heap) (D : DictV w V d kvs) (h : Q (.builtin id, [.ref d]) s) :
    wpAny (model PR w) A (getMethod (.ref d) name pl) Q E s :=
  have hD := D.dict S
  getMethod_builtin hD.typeIs PySem.F.plainAttrs_dict slot ty hD.mapOf.noDict h
theorem edict_get {Q : Value → Shared → Prop} (S : Sees V s.heap) (D : EDict w V d es) (hv : getE es k = some e) (h : Q (.ref e.x) { s with toks := s.toks + 1 }) :
    wpAny (model PR w) A (call (.builtin "dict.get") [.ref d, .int k t]) Q E s := by
  refine call_meetsIn PySem.F.slot_dict_get (D.dict.dict S).typeIs PySem.F.entry_dict_get (PySem.F.args_dict_get_2 _ _) (meets_dict_get _ d (intKind_is _ _ k t) D.dict.1) ⟨_, (D.dict.dict S).mapOf, ?_⟩
  rw [valueAt_kv, hv]
  exact h
theorem dict_len {Q : Value → Shared → Prop} (S : Sees V s.heap) (D : DictV w V d kvs) (hz : kvs.length ≤ 1000) (h : Q (.int kvs.length (s.toks + 1)) { s with toks := s.toks + 1 + 1 }) : wpAny (model PR w) A (call (.builtin "len") [.ref d]) Q E s :=
  call_len_dict D.1 (D.dict S) (by omega) h
theorem dict_set_raw {key v : Value} {Q : Unit → Shared → Prop} (hk : (PySem.intKind PR w).is k key = true) (D : s.heap.DictOf (PySem.intKind PR w) d kvs) (hz : kvs.length ≤ 1000)
    (h : ∀ h', h'.DictOf (PySem.intKind PR w) d (stored kvs k v) → Heap.SameBut d s.heap h' → Q () { s with heap := h', toks := s.toks + 1 }) :
    wpAny (model PR w) A (setItem (.ref d) key v) Q E s :=
  wpAny_setItem_pairs (hsz := by rw [sizeLine_eq]; omega) hk D h
end
section
variable {w : World} {A : Around} {E : Value → Shared → Prop} {s : Shared} {V : Led} {e : Ent} {g : Heap} {L : Addr} {m : Str → Option Value} {expr : Bool} {Q : Value → Shared → Prop}
theorem EntV.inst {h : Heap} (x : EntV V e) (S : Sees V h) : ∃ dx es n a b c, InstAt h e.x (instObj 78 dx) 78 (some (dictOf es n)) ∧ getL "way" es = some (some (.str e.way a)) ∧ getL "one" es = some (some (.int e.one b)) ∧ getL "two" es = some (some (.int e.two c)) ∧ getL "told" es = some none :=
  let ⟨dx, es, n, a, b, c, h1, h2, r⟩ := x
  ⟨dx, es, n, a, b, c, ⟨S _ h1, rfl, rfl, S _ h2⟩, r⟩
theorem ent_way (F : Fr g L s.heap m) (X : (hd.heap_1 w.params).In g) (S : Sees V s.heap) (x : EntV V e) (h : ∀ t, Q (.str e.way t) { s with toks := s.toks + 1 }) :
    wpAny (model PR w) A (getAttr (.ref e.x) "way" expr) Q E s := by
  obtain ⟨dx, es, n, a, b, c, I, h1, h2, h3, h4⟩ := x.inst S
  exact get_own F X I (by k_is) (by k_is) (by k_is) (by k_is) h1 rfl (h _)
theorem ent_one (F : Fr g L s.heap m) (X : (hd.heap_1 w.params).In g) (S : Sees V s.heap) (x : EntV V e) (h : ∀ t, Q (.int e.one t) { s with toks := s.toks + 1 }) :
    wpAny (model PR w) A (getAttr (.ref e.x) "one" expr) Q E s := by
  obtain ⟨dx, es, n, a, b, c, I, h1, h2, h3, h4⟩ := x.inst S
  exact get_own F X I (by k_is) (by k_is) (by k_is) (by k_is) h2 rfl (h _)
theorem ent_two (F : Fr g L s.heap m) (X : (hd.heap_1 w.params).In g) (S : Sees V s.heap) (x : EntV V e) (h : ∀ t, Q (.int e.two t) { s with toks := s.toks + 1 }) :
    wpAny (model PR w) A (getAttr (.ref e.x) "two" expr) Q E s := by
  obtain ⟨dx, es, n, a, b, c, I, h1, h2, h3, h4⟩ := x.inst S
  exact get_own F X I (by k_is) (by k_is) (by k_is) (by k_is) h3 rfl (h _)
end
theorem ent_told {pl : Sem Bool} {g : Heap} {w : World} {A : Around} {E : Value → Shared → Prop} {s : Shared} {V : Led} {e : Ent} {L : Addr} {m : Str → Option Value} {Q : Value × List Value → Shared → Prop} (F : Fr g L s.heap m) (X : (hd.heap_1 w.params).In g) (S : Sees V s.heap) (x : EntV V e) (h : Q (.ref 75, [.ref e.x]) s) :
    wpAny (model PR w) A (getMethod (.ref e.x) "told" pl) Q E s := by
  obtain ⟨dx, es, n, a, b, c, I, h1, h2, h3, h4⟩ := x.inst S
  exact method_inst F X I (by k_is) (by k_is) (by k_is) h4 h
/-! sorted of a dict's keys, of a list of ints -/
section
variable {prog : Program} {w : World} {A : Around} {E : Value → Shared → Prop} {s : Shared} {d l : Addr} {kvs : List (Int × Value)} {Q : Value → Shared → Prop} {vs : List Value} {ns : List Int}
theorem keys_are : ∀ {kvs : List (Int × Value)} {vs : List Value}, vs.length = kvs.length → (∀ (j : Nat) (v : Value), vs[j]? = some v → ∃ (k : Int) (x : Value), kvs[j]? = some (k, x) ∧ (PySem.intKind prog w).is k v = true) → IntsAre vs (kvs.map (·.1))
  | [], [], _, _ => .nil
  | [], _ :: _, h, _ => by simp at h
  | _ :: _, [], h, _ => by simp at h
  | kv :: kvs, v :: vs, h, H => by
    obtain ⟨k, x, e, hk⟩ := H 0 v rfl
    simp only [List.getElem?_cons_zero, Option.some.injEq] at e
    obtain ⟨t, rfl⟩ := Value.isInt_shape hk
    rw [List.map_cons, e]
    exact .cons _ _ (keys_are (by simpa using h) fun j u hu => by
      obtain ⟨k', x', e', hk'⟩ := H (j + 1) u (by simpa using hu)
      exact ⟨k', x', by simpa using e', hk'⟩)
theorem sorted_list (hl : s.heap.IsList l vs.toArray) (hI : IntsAre vs ns) (h64 : ns.length < 64)
    (h : ∀ r h' vs' ns' n, Ext [] s.heap h' → New s.heap r → h'.get? r = some (W.listOf (List.toArray vs') n) → IntsAre vs' ns' → ns'.Perm ns → ns'.Pairwise (· ≤ ·) → Q (.ref r) { s with heap := h' }) :
    wpAny (model prog w) A (call (.builtin "sorted") [.ref l]) Q E s := by
  have hlen := hI.length
  refine sorted_ints hl hI (by omega) fun out ns' a1 a2 a3 => ?_
  obtain ⟨e, he⟩ := sortedAll_at s.heap vs out
  refine h _ _ out.toList ns' e (fun a o q _ => sortedAll_old q) (New.of_le (Nat.le_succ _)) ?_ a1 a2 a3
  rw [he, Array.toArray_toList]
theorem sorted_dict (hh : A.handled = none) (lo : (d == sysModules) = false) (D : s.heap.DictOf (PySem.intKind prog w) d kvs) (h64 : kvs.length < 64)
    (h : ∀ r h' tk vs' ns' n, Ext [] s.heap h' → New s.heap r → h'.get? r = some (W.listOf (List.toArray vs') n) → IntsAre vs' ns' → ns'.Perm (kvs.map (·.1)) → ns'.Pairwise (· ≤ ·) → Q (.ref r) { s with heap := h', toks := tk }) :
    wpAny (model prog w) A (call (.builtin "sorted") [.ref d]) Q E s := by
  obtain ⟨ep, hat⟩ := D.dictAt
  refine call_function_entry kind_sorted plain_sorted entry_sorted (args_sorted1 _) ?_
  unfold Builtin.«sorted»
  refine wpAny_bind (m := checkCount "sorted" 1 1 _) (wpAny_pure ?_)
  refine wpAny_bind (kdu_collect (A := A.in1) (kdl_dict (knd := PySem.intKind prog w) (kvs := kvs) (ep := ep) lo) hh hat (kdl_size (by omega)) fun h' tk acc hk hacc => ?_)
  have hl : acc.toList.length = kvs.length := by rw [Array.length_toList]; exact hacc.1
  have hI : IntsAre acc.toList (kvs.map (·.1)) := keys_are (prog := prog) (w := w) hl fun j v e => hacc.2 j v (by rw [← Array.getElem?_toList]; exact e)
  refine wpAny_bind (wpAny_newList ?_ (by rw [hl, sizeLine_eq]; omega))
  have hoL : (h'.push { cls := .type "list", data := .seq acc.toList.toArray }).get? h'.objs.size = some (seqObj "list" acc.toList.toArray 0) := Heap.get?_push_size _ rfl
  have hle : New s.heap h'.objs.size := New.keep (New.of_le (Nat.le_refl _)) hk
  refine wpAny_bind (wpAny_holding (wpAny_call_entry slot_list_sort ⟨_, hoL, rfl⟩ entry_list_sort (list_sort_tree hoL hI (by omega) fun out ns' a1 a2 a3 => ⟨_, rfl, ?_⟩) (args_list_sort _)))
  obtain ⟨n, hn⟩ := sortedHeap_at (out := out) hoL
  refine wpAny_pure ⟨_, rfl, h _ _ tk out.toList ns' n (fun a o q _ => ?_) hle ?_ a1 a2 a3⟩
  · have q' := hk a o q
    have lt := Heap.lt_size q'
    rw [sortedHeap_old (Nat.ne_of_lt lt) (by rw [Heap.size_push]; exact Nat.lt_succ_of_lt lt)]
    exact Heap.get?_push_of_some _ q'
  · rw [hn, Array.toArray_toList]
end
/-- an entry stored in a dict of entries -/
def storeE (es : List (Int × Ent)) (k : Int) (e : Ent) : List (Int × Ent) := if es.any (fun p => decide (p.1 = k)) then es.map (fun p => if p.1 = k then (p.1, e) else p) else es ++ [(k, e)]
theorem kv_storeE (es : List (Int × Ent)) (k : Int) (e : Ent) : stored (kvOf es) k (.ref e.x) = kvOf (storeE es k e) := by
  unfold stored storeE kvOf
  rw [List.any_map]
  have e1 : (es.any ((fun kv : Int × Value => decide (kv.1 = k)) ∘ fun p => (p.1, Value.ref p.2.x))) = es.any fun p => decide (p.1 = k) := rfl
  rw [e1]
  by_cases h : (es.any fun p => decide (p.1 = k)) = true
  · rw [if_pos h, if_pos h, List.map_map, List.map_map]
    refine List.map_congr_left fun p _ => ?_
    simp only [Function.comp]
    split <;> rfl
  · rw [if_neg h, if_neg h, List.map_append]
    rfl
theorem storeE_len (es : List (Int × Ent)) (k : Int) (e : Ent) : (storeE es k e).length ≤ es.length + 1 := by
  unfold storeE
  split <;> simp
theorem storeE_mem {es : List (Int × Ent)} {k : Int} {e : Ent} {p : Int × Ent} (h : p ∈ storeE es k e) : p = (k, e) ∨ p ∈ es := by
  unfold storeE at h
  split at h
  · obtain ⟨q, hq, rfl⟩ := List.mem_map.mp h
    split
    · rename_i hk; left; rw [hk]
    · exact .inr hq
  · rcases List.mem_append.mp h with h | h
    · exact .inr h
    · exact .inl (List.mem_singleton.mp h)
theorem storeE_new {es : List (Int × Ent)} {k : Int} (e : Ent) (h : k ∉ es.map (·.1)) : storeE es k e = es ++ [(k, e)] := by
  unfold storeE
  rw [if_neg]
  intro q
  obtain ⟨p, hp, hk⟩ := List.any_eq_true.mp q
  exact h (List.mem_map.mpr ⟨p, hp, of_decide_eq_true hk⟩)
theorem names2 {m : Str → Option Value} {a b : Str} {x y : Option Value} (h1 : m a = x) (h2 : m b = y) : ∃ u : Str → Option Value, m = fun z => if z = a then x else if z = b then y else u z := by
  refine ⟨m, funext fun z => ?_⟩
  by_cases q1 : z = a
  · rw [if_pos q1, q1, h1]
  · by_cases q2 : z = b
    · rw [if_neg q1, if_pos q2, q2, h2]
    · rw [if_neg q1, if_neg q2]
theorem names3 {m : Str → Option Value} {a b c : Str} {x y z : Option Value} (h1 : m a = x) (h2 : m b = y) (h3 : m c = z) : ∃ u : Str → Option Value, m = fun v => if v = a then x else if v = b then y else if v = c then z else u v := by
  refine ⟨m, funext fun v => ?_⟩
  by_cases q1 : v = a
  · rw [if_pos q1, q1, h1]
  · by_cases q2 : v = b
    · rw [if_neg q1, if_pos q2, q2, h2]
    · by_cases q3 : v = c
      · rw [if_neg q1, if_neg q2, if_pos q3, q3, h3]
      · rw [if_neg q1, if_neg q2, if_neg q3]
end S_OPred
section S_OFront
theorem reg1 : True := by
  k_with_none
  k_with "mm" => ((repeat' (first | (with_reducible exact List.mem_cons_self) | (with_reducible assumption) | (with_reducible refine List.mem_cons_of_mem _ ?_))); done)
  k_with "sub" => ((repeat' (first | (with_reducible exact sub_nil _) | (with_reducible refine sub_cons ?_ ?_) | (with_reducible exact List.mem_cons_self) | (with_reducible refine List.mem_cons_of_mem _ ?_) | (with_reducible assumption) | (intro p9 hp9))); done)
  trivial
noncomputable def rest (g h : Heap) (adr : List Addr) : Led := by
  classical
  exact (allOf h).filter fun p => decide (p.1 ∉ adr ∧ g.get? p.1 = none)
theorem mem_rest {g h : Heap} {adr : List Addr} {p : Addr × Obj} : p ∈ rest g h adr ↔ h.get? p.1 = some p.2 ∧ p.1 ∉ adr ∧ g.get? p.1 = none := by
  unfold rest
  rw [List.mem_filter]
  constructor
  · intro x
    exact ⟨mem_allOf.mp x.1, of_decide_eq_true x.2⟩
  · intro x
    exact ⟨mem_allOf.mpr x.1, decide_eq_true x.2⟩
def TurnEnd {σ : Type} (g : Heap) (L : Addr) (Kn : σ → Led) (Fact : Led → σ → Nat → Prop) (mOK : (Str → Option Value) → σ → Nat → Prop) (adr : List Addr) (V tl : Led) (i : Nat) (s s' : Shared) : Prop :=
  ∃ c' V' h' tk' m' led', s' = { s with heap := h', toks := tk' } ∧ Fr g L h' m' ∧ News g L h' led' ∧ (∀ p ∈ Kn c', p ∈ led') ∧ (∀ p ∈ tl, p ∈ led') ∧
    (∀ p ∈ V', p ∈ led' ∧ (p ∈ V ∨ ∀ q ∈ tl, q.1 ≠ p.1) ∧ p.1 ∉ adr) ∧ Fact V' c' i ∧ mOK m' c' i
theorem TurnEnd.intro {σ : Type} {g : Heap} {L : Addr} {Kn : σ → Led} {Fact : Led → σ → Nat → Prop} {mOK : (Str → Option Value) → σ → Nat → Prop} {adr : List Addr} {V tl : Led} {i : Nat} {s : Shared} {h' : Heap} {tk' : Nat} {m' : Str → Option Value} {led' : Led}
    (F : Fr g L h' m') (N : News g L h' led') (c' : σ) (V' : Led) (h1 : ∀ p ∈ Kn c', p ∈ led') (h2 : ∀ p ∈ tl, p ∈ led') (h3 : ∀ p ∈ V', p ∈ led' ∧ (p ∈ V ∨ ∀ q ∈ tl, q.1 ≠ p.1) ∧ p.1 ∉ adr) (h4 : Fact V' c' i) (h5 : mOK m' c' i) :
    TurnEnd g L Kn Fact mOK adr V tl i s { s with heap := h', toks := tk' } := ⟨c', V', h', tk', m', led', rfl, F, N, h1, h2, h3, h4, h5⟩
section
variable {prog : Program} {w : World} {A : Around} {E : Value → Shared → Prop} {s : Shared} {env : Env} {target : PySem.Expr} {I : Addr}
/-- the front of a turn: the next item, and its names -/
def front (prog : Program) (w : World) (A : Around) (env : Env) (target : Expr) (I : Addr) (E : Value → Shared → Prop) (N Y : Shared → Prop) (s : Shared) : Prop :=
  wpAny (model prog w) A (pyNext (.ref I)) (fun r s₁ => match r with
    | none => N s₁
    | some v => wpAny (model prog w) A (letOwnedTupleGo target (.ref I) v) (fun _ s₂ => wpAny (model prog w) A (assign target env v) (fun _ s₃ => Y s₃) E s₂) E s₁) E s
/-- what a loop takes its items from -/
structure Src (prog : Program) (w : World) (A : Around) (env : Env) (target : Expr) (I : Addr) (fp wr : List Addr) (n : Nat) (PM : Nat → (Str → Option Value) → (Str → Option Value) → Prop) (St : Nat → Heap → Prop) : Prop where
  sub : ∀ b ∈ wr, b ∈ fp
  frame : ∀ i h h', St i h → (∀ b ∈ fp, ∀ o, h.get? b = some o → h'.get? b = some o) → St i h'
  item : ∀ E N Y i (s : Shared) m, i < n → St i s.heap → s.heap.Ns env.locals m → env.locals ∉ fp →
    (∀ h' tk m', St (i + 1) h' → h'.Ns env.locals m' → PM i m m' → (∀ b o, b ≠ env.locals → b ∉ wr → s.heap.get? b = some o → h'.get? b = some o) → Y { s with heap := h', toks := tk }) → front prog w A env target I E N Y s
  done : ∀ E N Y (s : Shared), St n s.heap → (∀ h' tk, (∀ b o, b ∉ wr → s.heap.get? b = some o → h'.get? b = some o) → N { s with heap := h', toks := tk }) → front prog w A env target I E N Y s
  self : ∀ E i (s : Shared) (Q : Value → Shared → Prop), St i s.heap → Q (.ref I) s → wpAny (model prog w) A (pyIter (.ref I)) Q E s
/-- a loop by what is known, what stands beside it, and the names -/
theorem loop_K {σ : Type} {fp wr : List Addr} {n : Nat} {PM : Nat → (Str → Option Value) → (Str → Option Value) → Prop} {St : Nat → Heap → Prop} {g : Heap} {m₀ : Str → Option Value} {led V₀ : Led}
    (Kn : σ → Led) (adr : List Addr) (Fact : Led → σ → Nat → Prop) (mOK : (Str → Option Value) → σ → Nat → Prop) (c₀ : σ)
    (W : Src prog w A env target I fp wr n PM St) (hfp : ∀ b ∈ fp, b ∉ adr ∧ b ≠ env.locals) (hwr : ∀ b ∈ wr, g.get? b = none) (hlive : ∀ i h, St i h → ∀ b ∈ wr, ∃ o, h.get? b = some o) (hst : St 0 s.heap) (hadr : ∀ c, (Kn c).map (·.1) = adr)
    (F : Fr g env.locals s.heap m₀) (N : News g env.locals s.heap led) (hK : ∀ p ∈ Kn c₀, p ∈ led) (mono : ∀ V U c i, Fact V c i → (∀ p ∈ V, p ∈ U) → Fact U c i) (h0 : Fact V₀ c₀ 0) (hV : ∀ p ∈ V₀, p ∈ led ∧ p.1 ∉ adr ∧ p.1 ∉ wr) (hm : mOK m₀ c₀ 0)
    (B : (Shared → Prop) → Shared → Prop) (Bm : ∀ P P' s, (∀ s, P s → P' s) → B P s → B P' s)
    (turn : ∀ (c : σ) (i : Nat) (V tl : Led) h tk m m', i < n → PM i m m' → St (i + 1) h → (∀ b o, h.get? b = some o → g.get? b = none → b ≠ env.locals → b ∉ adr → (b, o) ∈ tl) → Fact V c i → mOK m c i → (∀ p ∈ V, p ∈ tl) → OwnOff tl adr → Fr g env.locals h m' → News g env.locals h (Kn c ++ tl) →
      B (fun s' => TurnEnd g env.locals Kn Fact mOK adr V tl (i + 1) s s') { s with heap := h, toks := tk })
    (Nn : Shared → Prop) (done : ∀ c V h tk m, Fact V c n → mOK m c n → Fr g env.locals h m → News g env.locals h (Kn c ++ V) → OwnOff V adr → (∀ p ∈ V, p.1 ∉ wr) → Nn { s with heap := h, toks := tk }) :
    ∃ Inv : Nat → Shared → Prop, Inv (n + 1) s ∧ ∀ k s' E, Inv k s' → front prog w A env target I E Nn (B fun s'' => ∃ k', k' < k ∧ Inv k' s'') s' := by
  have hgL : g.get? env.locals = none := Heap.get?_none_of_le F.above
  have kn : ∀ a ∈ adr, a ≠ env.locals ∧ g.get? a = none := fun a ha => by
    rw [← hadr c₀] at ha
    obtain ⟨p, hp, rfl⟩ := List.mem_map.mp ha
    exact (N p (hK p hp)).2
  have kw : ∀ a ∈ adr, a ∉ wr := fun a ha hb => (hfp a (W.sub a hb)).1 ha
  have hCf : env.locals ∉ fp := fun q => (hfp _ q).2 rfl
  have hLw : env.locals ∉ wr := fun h => hCf (W.sub _ h)
  have gst : ∀ {h : Heap}, g.StaysIn h → g.StaysIn (hideAll h (env.locals :: wr)) := fun {h} k a o e => hideAll_get _ (k a o e) fun q => by
    rcases List.mem_cons.mp q with q | q
    · rw [q, hgL] at e; cases e
    · rw [hwr a q] at e; cases e
  refine ⟨fun k s' => ∃ h tk m i c, s' = { s with heap := h, toks := tk } ∧ St i h ∧ i ≤ n ∧ k = n + 1 - i ∧ h.Ns env.locals m ∧ (∀ p ∈ Kn c, (hideAll h (env.locals :: wr)).get? p.1 = some p.2) ∧ Fact (rest g (hideAll h (env.locals :: wr)) adr) c i ∧ mOK m c i ∧ g.StaysIn (hideAll h (env.locals :: wr)),
    ⟨s.heap, s.toks, m₀, 0, c₀, rfl, hst, Nat.zero_le _, rfl, F.ns, fun p hp => ?_, mono _ _ _ _ h0 fun p hp => ?_, hm, gst F.keep⟩, ?_⟩
  · have ha : p.1 ∈ adr := by rw [← hadr c₀]; exact List.mem_map_of_mem hp
    exact hideAll_get _ (N p (hK p hp)).1 fun q => (List.mem_cons.mp q).elim (kn _ ha).1 (kw _ ha)
  · have z := N p (hV p hp).1
    exact mem_rest.mpr ⟨hideAll_get _ z.1 fun q => (List.mem_cons.mp q).elim z.2.1 (hV p hp).2.2, (hV p hp).2.1, z.2.2⟩
  rintro k s' E ⟨h, tk, m, i, c, rfl, hs, hi, rfl, hns, h1, h2, h3, h4⟩
  by_cases hlt : i < n
  · refine W.item E _ _ i _ m hlt hs hns hCf fun h' tk' m' hs' hn' hPM hk => ?_
    have hk' : ∀ a o, (hideAll h (env.locals :: wr)).get? a = some o → (hideAll h' (env.locals :: wr)).get? a = some o := fun a o e => by
      have z := hide_sub e
      exact hideAll_get _ (hk a o (fun q => z.2 (by rw [q]; exact List.mem_cons_self)) (fun q => z.2 (List.mem_cons_of_mem _ q)) z.1) z.2
    have h1 : ∀ p ∈ Kn c, (hideAll h' (env.locals :: wr)).get? p.1 = some p.2 := fun p hp => hk' _ _ (h1 p hp)
    have h2 : Fact (rest g (hideAll h' (env.locals :: wr)) adr) c i := mono _ _ _ _ h2 fun p hp => mem_rest.mpr ⟨hk' _ _ (mem_rest.mp hp).1, (mem_rest.mp hp).2⟩
    have h4 : g.StaysIn (hideAll h' (env.locals :: wr)) := fun a o e => hk' a o (h4 a o e)
    have F1 : Fr g env.locals h' m' := ⟨hn', fun a o e => (hide_sub (h4 a o e)).1, F.above⟩
    have N1 : News g env.locals h' (Kn c) := fun p hp => ⟨(hide_sub (h1 p hp)).1, kn _ (by rw [← hadr c]; exact List.mem_map_of_mem hp)⟩
    obtain ⟨tl, N2, T2⟩ := tail_of F1 N1
    rw [hadr c] at T2
    have sub : ∀ p ∈ rest g (hideAll h' (env.locals :: wr)) adr, p ∈ tl := fun p hp => by
      have z := mem_rest.mp hp
      have y := hide_sub z.1
      exact T2.cov p.1 p.2 y.1 z.2.1 (fun q => y.2 (by rw [q]; exact List.mem_cons_self)) z.2.2
    refine Bm _ _ _ (fun s' q => ?_) (turn c i _ tl h' tk' m m' hlt hPM hs' (fun b o e1 e2 e3 e4 => T2.cov b o e1 e4 e3 e2) h2 h3 sub T2.off F1 N2)
    obtain ⟨c', V', h'', tk'', m'', led', rfl, F', N', k1, k2, k3, k4, k5⟩ := q
    have ex : Ext (env.locals :: adr) h' h'' := ext_of_tail F1 T2 F' N' k2
    refine ⟨n + 1 - (i + 1), by omega, h'', tk'', m'', i + 1, c', rfl, W.frame _ _ _ hs' (fun b hb o e => ex b o e fun q => (List.mem_cons.mp q).elim (hfp b hb).2 (hfp b hb).1), hlt, rfl, F'.ns, fun p hp => ?_, mono _ _ _ _ k4 fun p hp => ?_, k5, gst F'.keep⟩
    · have ha : p.1 ∈ adr := by rw [← hadr c']; exact List.mem_map_of_mem hp
      exact hideAll_get _ (N' p (k1 p hp)).1 fun q => (List.mem_cons.mp q).elim (kn _ ha).1 (kw _ ha)
    · obtain ⟨z1, z2, z3⟩ := k3 p hp
      have z := N' p z1
      refine mem_rest.mpr ⟨hideAll_get _ z.1 fun q => (List.mem_cons.mp q).elim z.2.1 fun qw => ?_, z3, z.2.2⟩
      rcases z2 with z2 | z2
      · exact (hide_sub (mem_rest.mp z2).1).2 (List.mem_cons_of_mem _ qw)
      · cases e : h'.get? p.1 with
        | some o => exact z2 _ (T2.cov p.1 o e z3 z.2.1 z.2.2) rfl
        | none =>
          obtain ⟨o, e'⟩ := hlive (i + 1) h' hs' p.1 qw
          rw [e] at e'; cases e'
  · have hin : i = n := by omega
    subst hin
    refine W.done E _ _ _ hs fun h' tk' hk => ?_
    have hk' : ∀ a o, (hideAll h (env.locals :: wr)).get? a = some o → (hideAll h' (env.locals :: wr)).get? a = some o := fun a o e => by
      have z := hide_sub e
      exact hideAll_get _ (hk a o (fun q => z.2 (List.mem_cons_of_mem _ q)) z.1) z.2
    refine done c (rest g (hideAll h' (env.locals :: wr)) adr) h' tk' m (mono _ _ _ _ h2 fun p hp => mem_rest.mpr ⟨hk' _ _ (mem_rest.mp hp).1, (mem_rest.mp hp).2⟩) h3 ⟨hns.at' fun o e => hk _ o hLw e, fun a o e => (hide_sub (hk' a o (h4 a o e))).1, F.above⟩ (fun p hp => ?_) (fun p hp b hb e => (mem_rest.mp hp).2.1 (e ▸ hb)) fun p hp q => (hide_sub (mem_rest.mp hp).1).2 (List.mem_cons_of_mem _ q)
    rcases List.mem_append.mp hp with hp | hp
    · exact ⟨(hide_sub (hk' _ _ (h1 p hp))).1, kn _ (by rw [← hadr c]; exact List.mem_map_of_mem hp)⟩
    · have z := mem_rest.mp hp
      have y := hide_sub z.1
      exact ⟨y.1, fun q => y.2 (by rw [q]; exact List.mem_cons_self), z.2.2⟩
end
section
variable {prog : Program} {w : World} {A : Around} {E : Value → Shared → Prop} {s : Shared} {env : Env} {x : Str} {body : List Stmt} {Q : Flow → Shared → Prop} {I : Addr}
def bodyB (prog : Program) (w : World) (A : Around) (body : List Stmt) (env : Env) (Q : Flow → Shared → Prop) (P : Shared → Prop) (s : Shared) : Prop :=
  wpAny (model prog w) A (execs body env) (fun f s'' => match f with
    | .ret v => Q (.ret v) s''
    | .brk => Q .next s''
    | _ => P s'') (fun _ _ => False) s
theorem bodyB_mono (P P' : Shared → Prop) (s : Shared) (h : ∀ s, P s → P' s) (k : bodyB prog w A body env Q P s) : bodyB prog w A body env Q P' s :=
  wpAny_mono k (fun f s'' q => by
    cases f with
    | ret v => exact q
    | brk => exact q
    | next => exact h _ q
    | cont => exact h _ q) fun _ _ e => e
/-- what a for loop with this target needs -/
def ForG (prog : Program) (w : World) (A : Around) (env : Env) (target : PySem.Expr) (body : List Stmt) (Q : Flow → Shared → Prop) (it : Value) (s₂ : Shared) : Prop :=
  ∃ (I : Addr) (n : Nat) (Inv : Nat → Shared → Prop), it = .ref I ∧ Inv n s₂ ∧ ∀ k s' E, Inv k s' → front prog w A env target I E (fun s => Q .next s) (bodyB prog w A body env Q fun s'' => ∃ k', k' < k ∧ Inv k' s'') s'
theorem forG_raw {pos : Pos} {iter target : PySem.Expr}
    (h : wpAny (model prog w) A (eval iter env) (fun xv s₁ => wpAny (model prog w) A (pyIter xv) (fun it s₂ => ForG prog w A env target body Q it s₂) E s₁) E s)
    (hs : ∀ x, foldedSetIterable iter env x = pure x := by intro _; rfl) :
    wpAny (model prog w) A (exec (.For target iter body [] pos) env) Q E s := by
  refine wpAny_For (wpAny_mono h (fun xv s₁ h₁ => wpAny_mono h₁ (fun it s₂ h₂ => ?_) fun _ _ e => e) fun _ _ e => e) hs
  obtain ⟨I, n, Inv, rfl, h0, turn⟩ := h₂
  refine codeAny_forLoop_any Inv (fun k s' hI => ?_) n h0
  refine wpAny_mono (turn k s' _ hI) (fun r s₁ q => ?_) fun _ _ e => e
  cases r with
  | none => exact wpAny_execs_nil q
  | some v =>
    refine wpAny_mono q (fun _ s₂ q => wpAny_mono q (fun _ s₃ q => wpAny_mono q (fun f s₄ q => ?_) fun _ _ e => e.elim) fun _ _ e => e) fun _ _ e => e
    cases f with
    | ret v => exact q
    | brk => exact q
    | next => exact q
    | cont => exact q
theorem Src.loc {px : Pos} {fp wr : List Addr} {n : Nat} {P : Nat → Value → Prop} {St : Nat → Heap → Prop} (W : Walks prog w A I fp wr n P St) (hx : env.kindOf x = some .local) (hp : (env.scope.kind == .class || (env.scope.kind == .module && env.locals != env.globals)) = false) :
    Src prog w A env (.Name x px) I fp wr n (fun i m m' => ∃ v, P i v ∧ m' = fun y => if y = x then some v else m y) St where
  sub := W.sub
  frame := W.frame
  item := fun E N Y i s m hi hst hn hC hQ => by
    have hCw : env.locals ∉ wr := fun q => hC (W.sub _ q)
    refine W.item i _ _ _ hi hst fun v h₁ tk₁ hP hst₁ hk₁ => ?_
    refine wpAny_of_eq (show letOwnedTupleGo (.Name x px) (.ref I) v = pure () from rfl) ?_
    refine wpAny_assign_Name (wpAny_storeName_local hx (hn.at' fun o e => hk₁ _ o hCw e) (fun h₂ hn₂ hs₂ => ?_) hp)
    exact hQ h₂ _ _ (W.frame _ _ _ hst₁ fun b hb o e => (hs₂.2 b fun q => hC (q ▸ hb)).trans e) hn₂ ⟨v, hP, rfl⟩ fun b o h1 h2 e => (hs₂.2 b h1).trans (hk₁ b o h2 e)
  done := fun E N Y s hst hQ => W.done s _ _ hst fun h' tk hk => hQ h' tk hk
  self := fun E i s Q hst hQ => W.self i s Q E hst hQ
end
end S_OFront
section S_ODraw
theorem reg2 : True := by
  k_with_none
  k_with "mm" => ((repeat' (first | (with_reducible exact List.mem_cons_self) | (with_reducible assumption) | (with_reducible refine List.mem_cons_of_mem _ ?_))); done)
  k_with "sub" => ((repeat' (first | (with_reducible exact sub_nil _) | (with_reducible refine sub_cons ?_ ?_) | (with_reducible exact List.mem_cons_self) | (with_reducible refine List.mem_cons_of_mem _ ?_) | (with_reducible assumption) | (intro p9 hp9))); done)
  trivial
theorem fill2 : (PySem.Challenge.rw_og0132_01, hd.heap_1) = (PySem.Challenge.rw_og0132_01, hd.heap_1) := by
  k_fill
  rfl
/-- what stands at pen and at its cells -/
def PenO (cells : Addr) (o1 o2 : Obj) : Prop :=
  ∃ n n' vs ns k v tk tv, o1 = W.listOf #[.ref cells, .int k tk, .int v tv] n ∧ o2 = W.listOf (List.toArray vs) n' ∧ IntsAre vs ns ∧ 0 ≤ v ∧ (∀ x ∈ ns, 0 ≤ x) ∧ ns.length ≤ 63
theorem pop0 {prog : Program} {w : World} {A : Around} {E : Value → Shared → Prop} {s : Shared} {h₀ : Heap} {L D : Addr} {m : Str → Option Value} {news news' : List (Addr × Obj)} {x : Value} {vs : List Value} {n : Nat} {u : Tok} {Q : Value → Shared → Prop}
    (F : Fr h₀ L s.heap m) (N : News h₀ L s.heap news) (U : Upd D (W.listOf (List.toArray (x :: vs)) n) (W.listOf (List.toArray vs) (n + 1)) news news') (hz : vs.length ≤ 1000)
    (h : ∀ h', Fr h₀ L h' m → News h₀ L h' news' → Q x { s with heap := h' }) : wpAny (model prog w) A (call (.builtin "list.pop") [.ref D, .int 0 u]) Q E s := by
  refine kl_popAt (k := 0) (p := []) (q := vs) (y := x) F N (by rfl) ?_ rfl U ?_ h
  · simp [seqIndex?]
  · rw [sizeLine_eq]; simp; omega
theorem reg3 : True := by
  k_with "call builtin:list.pop" => (k_here; k_dflt (refine' pop0 ?zqF ?zqN ?zqU ?zqz ?_; (case zqF => k_asm); (case zqN => k_asm); (case zqU => k_upd); (case zqz => assumption)); (intro _ _ _))
  trivial
/-- a body cut behind n statements -/
theorem cut_at {M : Model} {A : Around} {E : Value → Shared → Prop} {Q : Flow → Shared → Prop} {env : Env} {body : List Stmt} {s : Shared} {g h₁ : Heap} {L : Addr} {m : Str → Option Value} (F : Fr g L h₁ m) (n : Nat) (J : (Str → Option Value) → Shared → Prop)
    (tail : ∀ s', J m s' → wpAny M A (execs (body.drop n) env) Q E s') (h : ∀ rest, (∀ s', J m s' → wpAny M A (execs rest env) Q E s') → wpAny M A (execs (body.take n ++ rest) env) Q E s) : wpAny M A (execs body env) Q E s := by
  have := h (body.drop n) tail
  rwa [List.take_append_drop] at this
inductive DrawJ (g : Heap) (L pen cells : Addr) (s : Shared) (m : Str → Option Value) : Shared → Prop
  | mk (h : Heap) (tk : Nat) (v k : Int) (tv tk1 : Tok) (n n' : Nat) (vs : List Value) (ns : List Int) (F : Fr g L h m) (N : News g L h [(pen, W.listOf #[.ref cells, .int k tk1, .int v tv] n), (cells, W.listOf (List.toArray vs) n')]) (hi : IntsAre vs ns) (hv : 0 ≤ v) (hns : ∀ x ∈ ns, 0 ≤ x) (hl : ns.length ≤ 63) : DrawJ g L pen cells s m { s with heap := h, toks := tk }
theorem draw_spec {w : World} {A : Around} {E : Value → Shared → Prop} {s : Shared} {Q : Value → Shared → Prop} {b : Heap} {pen cells : Addr} {o1 o2 : Obj} {many : Int} {t : Tok}
    (R : Rm A 2 80) (G : Gd w b) (S : b.StaysIn s.heap) (ne : pen ≠ cells) (fp : b.get? pen = none) (fc : b.get? cells = none) (hp : s.heap.get? pen = some o1) (hc : s.heap.get? cells = some o2) (P : PenO cells o1 o2) (hm : 0 < many) (hm' : many ≤ 1000)
    (ret : ∀ r t h' tk o1 o2, 0 ≤ r → r < many → Ext [pen, cells] s.heap h' → h'.get? pen = some o1 → h'.get? cells = some o2 → PenO cells o1 o2 → Q (.int r t) { s with heap := h', toks := tk }) :
    wpAny (model PR w) A (call (.ref 144) [.ref pen, .int many t]) Q E s := by
  obtain ⟨X, l, mg, mb, T⟩ := G
  obtain ⟨n, n', vs, ns, k, v, tk, tv, rfl, rfl, hi, hv, hns, hlen⟩ := P
  refine call_fn (R.less (by omega) (by omega)) X T.nolimit S [(pen, _), (cells, _)] (by
    intro p hp'
    simp only [List.mem_cons, List.not_mem_nil, or_false] at hp'
    rcases hp' with rfl | rfl
    · exact ⟨hp, fp⟩
    · exact ⟨hc, fc⟩) (by k_is) (by k_is) (BindsTo.of_eq rfl) (locs rfl) (fun g L h₁ st kp F N => ?_) (by decide)
  have X := X.keeps st
  have T := T.keeps st
  have hne1 := neN ne
  have hmn : many ≠ 0 := by omega
  refine cut_at F 2 (DrawJ g L pen cells s) (fun s' J => ?_) (fun rest tail => ?_)
  · obtain ⟨h, tk, v, k, tv, tk1, n, n', vs, ns, F, N, hi, hv, hns, hlen⟩ := J
    simp only [List.drop_succ_cons, List.drop_zero]
    k_steps
    all_goals (dsimp only; (rename News _ _ _ _ => N9); (rename Fr _ _ _ _ => F9))
    all_goals refine Back.intro F9 fun hE => ret _ _ _ _ _ _ (Int.fmod_nonneg_of_pos _ hm) (Int.fmod_lt_of_pos _ hm) hE (N9.get (by k_mem)) (N9.get (by k_mem)) ?_
    all_goals exact ⟨_, _, _, _, _, _, _, _, rfl, rfl, hi, Int.fdiv_nonneg hv (by omega), hns, hlen⟩
  · simp only [List.take_succ_cons, List.take_zero, List.cons_append, List.nil_append]
    rcases hi with _ | ⟨x, tx, hi'⟩
    · k_steps
      all_goals (dsimp only; (rename News _ _ _ _ => N9); (rename Fr _ _ _ _ => F9))
      all_goals first
        | exact tail _ ⟨_, _, _, _, _, _, _, _, _, _, F9, N9, .nil, hv, hns, hlen⟩
        | exact tail _ ⟨_, _, _, _, _, _, _, _, _, _, F9, fun p hp => N9 p (List.mem_cons_of_mem _ hp), .nil, hv, hns, hlen⟩
    · rename_i vs' ns'
      have hl' := hi'.length
      have hl1 : vs'.length ≤ 1000 := by simp at hlen; omega
      have hx : 0 ≤ x := hns x (by simp)
      have hns' : ∀ y ∈ ns', 0 ≤ y := fun y hy => hns y (List.mem_cons_of_mem _ hy)
      have hlen' : ns'.length ≤ 63 := by simp at hlen; omega
      k_steps
      all_goals (dsimp only; (rename News _ _ _ _ => N9); (rename Fr _ _ _ _ => F9))
      all_goals first
        | exact tail _ ⟨_, _, _, _, _, _, _, _, _, _, F9, N9, hi', hx, hns', hlen'⟩
        | exact tail _ ⟨_, _, _, _, _, _, _, _, _, _, F9, N9, .cons _ _ hi', hv, hns, hlen⟩
        | exact tail _ ⟨_, _, _, _, _, _, _, _, _, _, F9, fun p hp => N9 p (List.mem_cons_of_mem _ hp), hi', hx, hns', hlen'⟩
        | exact tail _ ⟨_, _, _, _, _, _, _, _, _, _, F9, fun p hp => N9 p (List.mem_cons_of_mem _ hp), .cons _ _ hi', hv, hns, hlen⟩
end S_ODraw
section S_OFun1
theorem reg4 : True := by
  k_with_none
  k_with "mm" => ((repeat' (first | (with_reducible exact List.mem_cons_self) | (with_reducible assumption) | (with_reducible refine List.mem_cons_of_mem _ ?_))); done)
  k_with "sub" => ((repeat' (first | (with_reducible exact sub_nil _) | (with_reducible refine sub_cons ?_ ?_) | (with_reducible exact List.mem_cons_self) | (with_reducible refine List.mem_cons_of_mem _ ?_) | (with_reducible assumption) | (intro p9 hp9))); done)
  trivial
theorem UpdF.mem {d : Addr} {o : Obj} {l : Led} {u : Obj → Led} (U : UpdF d o l u) : (d, o) ∈ l ∧ ∀ o', ∀ p ∈ u o', p = (d, o') ∨ (p ∈ l ∧ p.1 ≠ d) := by
  obtain ⟨pre, post, e1, e2, h1, h2⟩ := U.split
  subst e1
  refine ⟨List.mem_append_right _ List.mem_cons_self, fun o' p hp => ?_⟩
  rw [e2] at hp
  rcases List.mem_append.mp hp with hp | hp
  · exact .inr ⟨List.mem_append_left _ hp, h1 p hp⟩
  · rcases List.mem_cons.mp hp with rfl | hp
    · exact .inl rfl
    · exact .inr ⟨List.mem_append_right _ (List.mem_cons_of_mem _ hp), h2 p hp⟩
theorem draw_use {w : World} {A : Around} {E : Value → Shared → Prop} {s : Shared} {Q : Value → Shared → Prop} {g : Heap} {L pen cells : Addr} {o1 o2 : Obj} {many : Int} {t : Tok} {m : Str → Option Value} {l : List Str} {mg mb : Str → Option Value} {led : Led} {u1 : Obj → Led} {u2 : Obj → Obj → Led}
    (R : Rm A 2 80) (X : (hd.heap_1 w.params).In g) (T : TopRead qv l mg mb g) (F : Fr g L s.heap m) (N : News g L s.heap led) (P : PenO cells o1 o2) (U1 : UpdF pen o1 led u1) (U2 : ∀ o, UpdF cells o2 (u1 o) (u2 o)) (ne : pen ≠ cells) (hm : 0 < many) (hm' : many ≤ 1000)
    (h : ∀ r t h' tk o1' o2', 0 ≤ r → r < many → PenO cells o1' o2' → Fr g L h' m → News g L h' (u2 o1' o2') → Q (.int r t) { s with heap := h', toks := tk }) :
    wpAny (model PR w) A (call (.ref 144) [.ref pen, .int many t]) Q E s := by
  have M1 := UpdF.mem U1
  have M2 := fun o => UpdF.mem (U2 o)
  have hp := N _ M1.1
  have hcm : (cells, o2) ∈ led := by
    rcases M1.2 o1 _ (M2 o1).1 with q | q
    · exact absurd (congrArg Prod.fst q).symm ne
    · exact q.1
  have hc := N _ hcm
  refine draw_spec R ⟨X, l, mg, mb, T⟩ (b := g) F.keep ne hp.2.2 hc.2.2 hp.1 hc.1 P hm hm' fun r t h' tk o1' o2' h0 h1 e e1 e2 P' => h r t h' tk o1' o2' h0 h1 P' ?_ ?_
  · refine Fr.ext F e (fun q => ?_) fun a ha => ?_
    · simp only [List.mem_cons, List.not_mem_nil, or_false] at q
      rcases q with rfl | rfl
      · exact hp.2.1 rfl
      · exact hc.2.1 rfl
    · simp only [List.mem_cons, List.not_mem_nil, or_false] at ha
      rcases ha with rfl | rfl
      · exact hp.2.2
      · exact hc.2.2
  · intro p hp'
    rcases (M2 o1').2 o2' p hp' with rfl | ⟨q, n2⟩
    · exact ⟨e2, hc.2⟩
    · rcases M1.2 o1' p q with rfl | ⟨q, n1⟩
      · exact ⟨e1, hp.2⟩
      · exact ⟨e _ _ (N p q).1 (by simp only [List.mem_cons, List.not_mem_nil, or_false, not_or]; exact ⟨n1, n2⟩), (N p q).2⟩
theorem reg5 : True := by
  k_with "call ref" => (k_here; k_dflt (refine' draw_use ?zqR ?zqX ?zqT ?zqF ?zqN ?zqP ?zqU1 ?zqU2 ?zqne ?zqlo ?zqhi ?_; (case zqR => exact Rm.deeper (Rm.less (by assumption) (by omega) (by omega)) _); (case zqX => k_asm); (case zqT => k_asm); (case zqF => k_asm); (case zqN => k_asm); (case zqP => assumption); (case zqU1 => k_updF); (case zqU2 => (intro o9; (try dsimp only); k_updF)); (case zqne => assumption); (case zqlo => omega); (case zqhi => omega)); intro _ _ _ _ _ _ _ _ _ _ _; rename_i N'; (try dsimp only at N'); (try k_sweep); revert N'; intro _)
  trivial
theorem Ext.drop {a : Addr} {W : List Addr} {h h' : Heap} {o : Obj} (e : Ext (a :: W) h h') (x : h.get? a = some o) (y : h'.get? a = some o) : Ext W h h' := fun b ob q n => by
  by_cases hb : b = a
  · subst hb
    rw [x] at q
    cases q
    exact y
  · exact e b ob q fun z => (List.mem_cons.mp z).elim hb n
theorem pick_spec {w : World} {A : Around} {E : Value → Shared → Prop} {s : Shared} {Q : Value → Shared → Prop} {b : Heap} {pen cells so : Addr} {o1 o2 : Obj} {x y : Str} {tx ty : Tok} {n : Nat}
    (R : Rm A 3 84) (G : Gd w b) (S : b.StaysIn s.heap) (ne : pen ≠ cells) (ns1 : so ≠ pen) (ns2 : so ≠ cells) (fp : b.get? pen = none) (fc : b.get? cells = none) (fs : b.get? so = none) (hs : s.heap.get? so = some (W.listOf #[.str x tx, .str y ty] n)) (hp : s.heap.get? pen = some o1) (hc : s.heap.get? cells = some o2) (P : PenO cells o1 o2)
    (ret : ∀ v h' tk o1 o2, (v = .str x tx ∨ v = .str y ty) → Ext [pen, cells] s.heap h' → h'.get? pen = some o1 → h'.get? cells = some o2 → PenO cells o1 o2 → Q v { s with heap := h', toks := tk }) :
    wpAny (model PR w) A (call (.ref 151) [.ref pen, .ref so]) Q E s := by
  obtain ⟨X, l, mg, mb, T⟩ := G
  refine call_fn (R.less (by omega) (by omega)) X T.nolimit S [(so, _), (pen, _), (cells, _)] (by
    intro p hp'
    simp only [List.mem_cons, List.not_mem_nil, or_false] at hp'
    rcases hp' with rfl | rfl | rfl
    · exact ⟨hs, fs⟩
    · exact ⟨hp, fp⟩
    · exact ⟨hc, fc⟩) (by k_is) (by k_is) (BindsTo.of_eq rfl) (locs rfl) (fun g L h₁ st kp F N => ?_) (by decide)
  have X := X.keeps st
  have T := T.keeps st
  have hne1 := neN ne
  have hne2 := neN ns1
  have hne3 := neN ns2
  k_steps
  all_goals (rename News _ _ _ _ => N9)
  all_goals (rename Fr _ _ _ _ => F9)
  all_goals refine Back.intro F9 fun hE => ret _ _ _ _ _ ?_ (Ext.drop hE hs (N9.get (by k_mem))) (N9.get (by k_mem)) (N9.get (by k_mem)) (by assumption)
  · exact .inl rfl
  · exact .inr rfl
theorem pick_use {w : World} {A : Around} {E : Value → Shared → Prop} {s : Shared} {Q : Value → Shared → Prop} {g : Heap} {L pen cells so : Addr} {o1 o2 : Obj} {x y : Str} {tx ty : Tok} {n : Nat} {m : Str → Option Value} {l : List Str} {mg mb : Str → Option Value} {led : Led} {u1 : Obj → Led} {u2 : Obj → Obj → Led}
    (R : Rm A 3 84) (X : (hd.heap_1 w.params).In g) (T : TopRead qv l mg mb g) (F : Fr g L s.heap m) (N : News g L s.heap led) (P : PenO cells o1 o2) (hs : (so, W.listOf #[.str x tx, .str y ty] n) ∈ led) (U1 : UpdF pen o1 led u1) (U2 : ∀ o, UpdF cells o2 (u1 o) (u2 o)) (ne : pen ≠ cells) (ns1 : so ≠ pen) (ns2 : so ≠ cells)
    (h : ∀ v t h' tk o1' o2', (v = x ∨ v = y) → PenO cells o1' o2' → Fr g L h' m → News g L h' (u2 o1' o2') → Q (.str v t) { s with heap := h', toks := tk }) :
    wpAny (model PR w) A (call (.ref 151) [.ref pen, .ref so]) Q E s := by
  have M1 := UpdF.mem U1
  have M2 := fun o => UpdF.mem (U2 o)
  have hp := N _ M1.1
  have hcm : (cells, o2) ∈ led := by
    rcases M1.2 o1 _ (M2 o1).1 with q | q
    · exact absurd (congrArg Prod.fst q).symm ne
    · exact q.1
  have hc := N _ hcm
  have hS := N _ hs
  refine pick_spec R ⟨X, l, mg, mb, T⟩ (b := g) F.keep ne ns1 ns2 hp.2.2 hc.2.2 hS.2.2 hS.1 hp.1 hc.1 P fun v h' tk o1' o2' hv e e1 e2 P' => ?_
  have F' : Fr g L h' m := by
    refine Fr.ext F e (fun q => ?_) fun a ha => ?_
    · simp only [List.mem_cons, List.not_mem_nil, or_false] at q
      rcases q with rfl | rfl
      · exact hp.2.1 rfl
      · exact hc.2.1 rfl
    · simp only [List.mem_cons, List.not_mem_nil, or_false] at ha
      rcases ha with rfl | rfl
      · exact hp.2.2
      · exact hc.2.2
  have N' : News g L h' (u2 o1' o2') := by
    intro p hp'
    rcases (M2 o1').2 o2' p hp' with rfl | ⟨q, n2⟩
    · exact ⟨e2, hc.2⟩
    · rcases M1.2 o1' p q with rfl | ⟨q, n1⟩
      · exact ⟨e1, hp.2⟩
      · exact ⟨e _ _ (N p q).1 (by simp only [List.mem_cons, List.not_mem_nil, or_false, not_or]; exact ⟨n1, n2⟩), (N p q).2⟩
  rcases hv with rfl | rfl
  · exact h x tx h' tk o1' o2' (.inl rfl) P' F' N'
  · exact h y ty h' tk o1' o2' (.inr rfl) P' F' N'
theorem Rm.make {A : Around} {d u : Nat} (R : Rm A (d + 1) (u + 1)) (C : Addr) (vals : List Value) : Rm (A.under (.builtin "type.__call__" ⟨.ref C :: vals, []⟩)) d u :=
  ⟨R.hd, by rw [depth_under_make]; have := R.dp; omega, by rw [units_under_make]; have := R.un; omega⟩
theorem entry_use {w : World} {A : Around} {E : Value → Shared → Prop} {s : Shared} {Q : Value → Shared → Prop} {g : Heap} {L : Addr} {m : Str → Option Value} {l : List Str} {mg mb : Str → Option Value} {led : Led} {wy : Str} {o tw : Int} {t1 t2 t3 : Tok}
    (R : Rm A 2 20) (X : (hd.heap_1 w.params).In g) (T : TopRead qv l mg mb g) (F : Fr g L s.heap m) (N : News g L s.heap led)
    (h : ∀ x dx h' tk es n a b c, Fr g L h' m → News g L h' ((x, instObj 78 dx) :: (dx, dictOf es n) :: led) → (∀ p ∈ led, p.1 < dx) → dx < x → getL "way" es = some (some (.str wy a)) → getL "one" es = some (some (.int o b)) → getL "two" es = some (some (.int tw c)) → getL "told" es = some none → Q (.ref x) { s with heap := h', toks := tk }) :
    wpAny (model PR w) A (call (.ref 78) [.str wy t1, .int o t2, .int tw t3]) Q E s := by
  refine call_cls F X N (by k_is) (fI := 68) (by k_is) (by k_is) fun x dx h' F' N' l1 l2 => ?_
  have hx := N' (x, instObj 78 dx) (.head _)
  have hdx := N' (dx, dictOf [] 0) (.tail _ (.head _))
  refine code_fn (Rm.make (R.less (by omega) (by omega)) _ _) X T.nolimit F'.keep [(x, instObj 78 dx), (dx, dictOf [] 0)] (by
    intro p hp'
    simp only [List.mem_cons, List.not_mem_nil, or_false] at hp'
    rcases hp' with rfl | rfl
    · exact ⟨hx.1, hx.2.2⟩
    · exact ⟨hdx.1, hdx.2.2⟩) (by k_is) (by k_is) (BindsTo.of_eq rfl) (locs rfl) (fun g2 L2 h₁ st kp F2 N2 => ?_) (by decide)
  have X2 := X.keeps st
  have T2 := T.keeps st
  have l2 := ltN l2
  k_steps
  rename News _ _ _ _ => N9
  rename Fr _ _ _ _ => F9
  refine Back.intro F9 fun hE => ⟨rfl, ?_⟩
  show Q (.ref x) _
  refine' h x dx _ _ _ _ _ _ _ ?f ?nw l1 l2 ?ga ?gb ?gc ?gd
  case f =>
    refine Fr.ext F' hE ?_ ?_
    · intro q
      simp only [List.map, List.mem_cons, List.not_mem_nil, or_false] at q
      rcases q with q | q
      · exact hx.2.1 q.symm
      · exact hdx.2.1 q.symm
    · intro a q
      simp only [List.map, List.mem_cons, List.not_mem_nil, or_false] at q
      rcases q with rfl | rfl
      · exact hx.2.2
      · exact hdx.2.2
  case nw =>
    intro p hp
    rcases List.mem_cons.mp hp with rfl | hp
    · exact ⟨N9.get (by k_mem), hx.2⟩
    · rcases List.mem_cons.mp hp with rfl | hp
      · exact ⟨N9.get (by k_mem), hdx.2⟩
      · refine ⟨hE _ _ (N' p (.tail _ (.tail _ hp))).1 ?_, (N' p (.tail _ (.tail _ hp))).2⟩
        have := ltN (l1 p hp)
        simp only [List.map, List.mem_cons, List.not_mem_nil, or_false, not_or]
        exact ⟨fun q => absurd (q ▸ this) (by have := ltN l2; exact fun z => Nat.lt_asymm z this), fun q => absurd (q ▸ this) (Nat.lt_irrefl _)⟩
  case ga => rfl
  case gb => rfl
  case gc => rfl
  case gd => rfl
theorem reg6 : True := by
  k_with "v_sees" => first | exact Sees.keep (by assumption) (Fr.keep (by k_asm)) | exact Sees.sub (News.sees (by k_asm)) (fun _ h => by first | exact h | (refine List.mem_cons_of_mem _ ?_; exact h) | (refine List.mem_cons_of_mem _ (List.mem_cons_of_mem _ ?_); exact h))
  k_with "getAttr ref" => (k_here; (with_reducible show wpAny _ _ (getAttr (Value.ref _) (PySem.Str.ofString "way") _) _ _ _); k_dflt (refine' ent_way ?zqF ?zqX ?zqS ?zqx ?_; (case zqx => assumption); (case zqF => k_asm); (case zqX => k_asm); (case zqS => walk_at "v_sees")); intro _)
  k_with "getAttr ref" => (k_here; (with_reducible show wpAny _ _ (getAttr (Value.ref _) (PySem.Str.ofString "one") _) _ _ _); k_dflt (refine' ent_one ?zqF ?zqX ?zqS ?zqx ?_; (case zqx => assumption); (case zqF => k_asm); (case zqX => k_asm); (case zqS => walk_at "v_sees")); intro _)
  k_with "getAttr ref" => (k_here; (with_reducible show wpAny _ _ (getAttr (Value.ref _) (PySem.Str.ofString "two") _) _ _ _); k_dflt (refine' ent_two ?zqF ?zqX ?zqS ?zqx ?_; (case zqx => assumption); (case zqF => k_asm); (case zqX => k_asm); (case zqS => walk_at "v_sees")); intro _)
  trivial
theorem Fr.none_of {g h : Heap} {L r : Addr} {m : Str → Option Value} (F : Fr g L h m) (n : New h r) : g.get? r = none := New.keep n F.keep
theorem news_one {g h h' : Heap} {L r : Addr} {m : Str → Option Value} {led : Led} {o : Obj} (F : Fr g L h m) (N : News g L h led) (k : h.StaysIn h') (n : New h r) (z : h'.get? r = some o) : News g L h' ((r, o) :: led) := fun p hp => by
  rcases List.mem_cons.mp hp with rfl | hp
  · refine ⟨z, ?_, Fr.none_of F n⟩
    obtain ⟨o, _, _, e, _⟩ := F.ns
    exact (New.ne n e).symm
  · exact ⟨k _ _ (N p hp).1, (N p hp).2⟩
theorem told_use {w : World} {A : Around} {E : Value → Shared → Prop} {s : Shared} {Q : Value → Shared → Prop} {g : Heap} {L : Addr} {m : Str → Option Value} {l : List Str} {mg mb : Str → Option Value} {led V : Led} {e : Ent}
    (R : Rm A 2 20) (X : (hd.heap_1 w.params).In g) (T : TopRead qv l mg mb g) (F : Fr g L s.heap m) (N : News g L s.heap led) (S : Sees V s.heap) (En : EntV V e)
    (h : ∀ (T : Addr) (a b c : Tok) (h' : Heap) (tk : Nat), Fr g L h' m → News g L h' ((T, { cls := .type "tuple", data := .seq #[.str e.way a, .int e.one b, .int e.two c] }) :: led) → (∀ p ∈ led, p.1 ≠ T) → Q (.ref T) { s with heap := h', toks := tk }) :
    wpAny (model PR w) A (call (.ref 75) [.ref e.x]) Q E s := by
  refine call_fn (R.less (by omega) (by omega)) X T.nolimit F.keep [] (fun p hp => nomatch hp) (by k_is) (by k_is) (BindsTo.of_eq rfl) (locs rfl) (fun g2 L2 h₁ st kp F2 N2 => ?_) (by decide)
  have X2 := X.keeps st
  have T2 := T.keeps st
  have Sg : Sees V g2 := fun p hp => kp _ _ (S p hp) (by first | walk_at "mm" | simp)
  k_steps
  rename News _ _ _ _ => N9
  rename Fr _ _ _ _ => F9
  have nD := (N9 _ List.mem_cons_self).2.2
  refine Back.intro F9 fun hE => ?_
  have hE' := Ext.keep hE
  have nw : New s.heap _ := New.keep nD fun a o e => kp a o e (by first | walk_at "mm" | simp)
  exact h _ _ _ _ _ _ (Fr.keeps F hE') (news_one F N hE' nw (N9.get List.mem_cons_self)) fun p hp => New.ne nw (N p hp).1
theorem dict_set_K {w : World} {A : Around} {E : Value → Shared → Prop} {s : Shared} {Q : Unit → Shared → Prop} {g : Heap} {L d : Addr} {m : Str → Option Value} {led : Led} {o : Obj} {u : Obj → Led} {kvs : List (Int × Value)} {k : Int} {t : Tok} {v : Value}
    (F : Fr g L s.heap m) (N : News g L s.heap led) (U : UpdF d o led u) (hdo : o.IsDictOf (PySem.intKind PR w) kvs) (hz : kvs.length ≤ 1000)
    (h : ∀ h' o', Fr g L h' m → News g L h' (u o') → o'.IsDictOf (PySem.intKind PR w) (stored kvs k v) → Q () { s with heap := h', toks := s.toks + 1 }) :
    wpAny (model PR w) A (setItem (.ref d) (.int k t) v) Q E s := by
  have M := UpdF.mem U
  have z := N _ M.1
  refine dict_set_raw (intKind_is _ _ k t) (Heap.dictOf_iff.mpr ⟨o, z.1, hdo⟩) hz fun h' hD hs => ?_
  obtain ⟨o', e, hd'⟩ := Heap.dictOf_iff.mp hD
  refine h h' o' (Fr.change F hs z.2.1 z.2.2) (fun p hp => ?_) hd'
  rcases M.2 o' p hp with rfl | ⟨q, n⟩
  · exact ⟨e, z.2⟩
  · exact ⟨(hs.2 _ n).trans (N p q).1, (N p q).2⟩
end S_OFun1
section S_OForK
theorem reg7 : True := by
  k_with_none
  k_with "mm" => ((repeat' (first | (with_reducible exact List.mem_cons_self) | (with_reducible assumption) | (with_reducible refine List.mem_cons_of_mem _ ?_))); done)
  k_with "sub" => ((repeat' (first | (with_reducible exact sub_nil _) | (with_reducible refine sub_cons ?_ ?_) | (with_reducible exact List.mem_cons_self) | (with_reducible refine List.mem_cons_of_mem _ ?_) | (with_reducible assumption) | (intro p9 hp9))); done)
  trivial
section
variable {prog : Program} {w : World} {A : Around} {E : Value → Shared → Prop} {s : Shared} {env : Env} {x : Str} {body : List Stmt} {Q : Flow → Shared → Prop}
/-- a for loop whose target is a local name -/
def ForAt (prog : Program) (w : World) (A : Around) (env : Env) (x : Str) (body : List Stmt) (Q : Flow → Shared → Prop) (it : Value) (s₂ : Shared) : Prop :=
  ∀ px : Pos, env.kindOf x = some .local → (env.scope.kind == .class || (env.scope.kind == .module && env.locals != env.globals)) = false → ForG prog w A env (.Name x px) body Q it s₂
theorem for_raw {px pos : Pos} {iter : PySem.Expr} (hx : env.kindOf x = some .local)
    (hp : (env.scope.kind == .class || (env.scope.kind == .module && env.locals != env.globals)) = false)
    (h : wpAny (model prog w) A (eval iter env) (fun xv s₁ => wpAny (model prog w) A (pyIter xv) (fun it s₂ => ForAt prog w A env x body Q it s₂) E s₁) E s)
    (hs : ∀ x, foldedSetIterable iter env x = pure x := by intro _; rfl) :
    wpAny (model prog w) A (exec (.For (.Name x px) iter body [] pos) env) Q E s :=
  forG_raw (wpAny_mono h (fun _ _ q => wpAny_mono q (fun _ _ q => q px hx hp) fun _ _ e => e) fun _ _ e => e) hs
end
section
variable {prog : Program} {w : World} {A : Around} {E : Value → Shared → Prop} {s : Shared} {env : Env} {x : Str} {body : List Stmt} {Q : Flow → Shared → Prop} {g : Heap}
theorem forAt_K {σ : Type} {I : Addr} {fp wr : List Addr} {n : Nat} {P : Nat → Value → Prop} {St : Nat → Heap → Prop} {m₀ : Str → Option Value} {led V₀ : Led}
    (Kn : σ → Led) (adr : List Addr) (Fact : Led → σ → Nat → Prop) (mOK : (Str → Option Value) → σ → Nat → Prop) (c₀ : σ)
    (W : Walks prog w A I fp wr n P St) (hfp : ∀ b ∈ fp, b ∉ adr ∧ b ≠ env.locals) (hwr : ∀ b ∈ wr, g.get? b = none) (hlive : ∀ i h, St i h → ∀ b ∈ wr, ∃ o, h.get? b = some o) (hst : St 0 s.heap) (hadr : ∀ c, (Kn c).map (·.1) = adr)
    (F : Fr g env.locals s.heap m₀) (N : News g env.locals s.heap led) (hK : ∀ p ∈ Kn c₀, p ∈ led) (mono : ∀ V U c i, Fact V c i → (∀ p ∈ V, p ∈ U) → Fact U c i) (h0 : Fact V₀ c₀ 0) (hV : ∀ p ∈ V₀, p ∈ led ∧ p.1 ∉ adr ∧ p.1 ∉ wr) (hm : mOK m₀ c₀ 0)
    (turn : ∀ (c : σ) (i : Nat) (v : Value) (V tl : Led) h tk m, i < n → P i v → Fact V c i → mOK m c i → (∀ p ∈ V, p ∈ tl) → OwnOff tl adr → Fr g env.locals h (fun y => if y = x then some v else m y) → News g env.locals h (Kn c ++ tl) →
      wpAny (model prog w) A (execs body env) (fun f s' => match f with
        | .ret v => Q (.ret v) s'
        | .brk => Q .next s'
        | _ => TurnEnd g env.locals Kn Fact mOK adr V tl (i + 1) s s') (fun _ _ => False) { s with heap := h, toks := tk })
    (done : ∀ c V h tk m, Fact V c n → mOK m c n → Fr g env.locals h m → News g env.locals h (Kn c ++ V) → OwnOff V adr → Q .next { s with heap := h, toks := tk }) :
    ForAt prog w A env x body Q (.ref I) s := by
  intro px hx hp
  obtain ⟨Inv, h1, h2⟩ := loop_K Kn adr Fact mOK c₀ (Src.loc (px := px) W hx hp) hfp hwr hlive hst hadr F N hK mono h0 hV hm (bodyB prog w A body env Q) bodyB_mono (fun c i V tl h tk m m' hi hPM _ _ hF hmk sub off F' N' => by
    obtain ⟨v, hP, rfl⟩ := hPM
    exact turn c i v V tl h tk m hi hP hF hmk sub off F' N') (fun s => Q .next s) (fun c V h tk m hF hmk F' N' o1 _ => done c V h tk m hF hmk F' N' o1)
  exact ⟨I, _, Inv, rfl, h1, h2⟩
/-- the state behind a pushed iterator -/
theorem iter_push {σ : Type} {oI : Obj} {m₀ : Str → Option Value} {led V₀ : Led} {L : Addr} {adr : List Addr} {Kn : σ → Led} {c₀ : σ} {h : Heap} (hadr : ∀ c, (Kn c).map (·.1) = adr) (F : Fr g L h m₀) (N : News g L h led) (hK : ∀ p ∈ Kn c₀, p ∈ led) (hV : ∀ p ∈ V₀, p ∈ led ∧ p.1 ∉ adr) :
    Fr g L (h.push oI) m₀ ∧ News g L (h.push oI) led ∧ (h.objs.size ∉ adr ∧ h.objs.size ≠ L) ∧ g.get? h.objs.size = none ∧ (∀ p ∈ V₀, p ∈ led ∧ p.1 ∉ adr ∧ p.1 ∉ [h.objs.size]) := by
  refine ⟨F.push _, N.grown fun b o e => Heap.get?_push_of_some _ e, ⟨fun q => ?_, fun q => ?_⟩, next_is_new F, fun p hp => ⟨(hV p hp).1, (hV p hp).2, fun q => ?_⟩⟩
  · rw [← hadr c₀] at q
    obtain ⟨p, hp, e⟩ := List.mem_map.mp q
    exact absurd (Heap.lt_size (N p (hK p hp)).1) (by rw [e]; exact Nat.lt_irrefl _)
  · exact absurd F.ns.lt (by rw [q]; exact Nat.lt_irrefl _)
  · rw [List.mem_singleton] at q
    exact absurd (Heap.lt_size (N p (hV p hp).1).1) (by rw [q]; exact Nat.lt_irrefl _)
/-- a for loop over a range, by what is known, what stands beside it, and the names -/
theorem range_K {σ : Type} {r : Addr} {a b : Int} {tk₁ tk₂ tk₃ : Tok} {m₀ : Str → Option Value} {led V₀ : Led}
    (Kn : σ → Led) (adr : List Addr) (Fact : Led → σ → Nat → Prop) (mOK : (Str → Option Value) → σ → Nat → Prop) (c₀ : σ)
    (hh : A.handled = none) (hr : IsRange s.heap r a b 1 tk₁ tk₂ tk₃) (ha0 : -100000 ≤ a) (ha1 : a ≤ 100000) (hb0 : -100000 ≤ b) (hb1 : b ≤ 100000) (hadr : ∀ c, (Kn c).map (·.1) = adr)
    (F : Fr g env.locals s.heap m₀) (N : News g env.locals s.heap led) (hK : ∀ p ∈ Kn c₀, p ∈ led) (mono : ∀ V U c i, Fact V c i → (∀ p ∈ V, p ∈ U) → Fact U c i) (h0 : Fact V₀ c₀ 0) (hV : ∀ p ∈ V₀, p ∈ led ∧ p.1 ∉ adr) (hm : mOK m₀ c₀ 0)
    (turn : ∀ (c : σ) (i : Nat) (t : Tok) (V tl : Led) s' h tk m, s' = { s with heap := h, toks := tk } → i < (b - a).toNat → Fact V c i → mOK m c i → (∀ p ∈ V, p ∈ tl) → OwnOff tl adr → Fr g env.locals h (fun y => if y = x then some (.int (a + (i : Int)) t) else m y) → News g env.locals h (Kn c ++ tl) →
      wpAny (model prog w) A (execs body env) (fun f s'' => match f with
        | .ret v => Q (.ret v) s''
        | .brk => Q .next s''
        | _ => TurnEnd g env.locals Kn Fact mOK adr V tl (i + 1) s' s'') (fun _ _ => False) s')
    (done : ∀ c V h tk m, Fact V c (b - a).toNat → mOK m c (b - a).toNat → Fr g env.locals h m → News g env.locals h (Kn c ++ V) → OwnOff V adr → Q .next { s with heap := h, toks := tk }) :
    wpAny (model prog w) A (pyIter (.ref r)) (fun it s₂ => ForAt prog w A env x body Q it s₂) E s := by
  have hsm : Builtin.Range.small a b 1 = true := small_one (by omega) (by omega) (by omega) (by omega)
  have hsz := rangeSize_nat a b
  refine wpAny_pyIter_range hr hsm ?_
  obtain ⟨F', N', hI, gI, hV'⟩ := iter_push (oI := { cls := .type "range_iterator", data := .fields #[rawInt a, rawInt (Builtin.Range.rangeSize a b 1), rawInt 1] }) hadr F N hK hV
  refine forAt_K Kn adr Fact mOK c₀ (LCg.range_walks hh a (b - a).toNat) (fun b hb => ?_) (fun b hb => ?_) (fun i h st b hb => ?_) ?_ hadr F' N' hK mono h0 hV' hm (fun c i v V tl h tk m hi hP h1 h2 h3 h4 F N => ?_) fun c V h tk m h1 h2 F N o => done c V h tk m h1 h2 F N o
  · rw [List.mem_singleton.mp hb]; exact hI
  · rw [List.mem_singleton.mp hb]; exact gI
  · rw [List.mem_singleton.mp hb]; exact ⟨_, st⟩
  · show IsRangeIter _ _ _ _ _
    rw [hsz]
    simpa using Heap.get?_push_size _ rfl
  · obtain ⟨t, rfl⟩ := hP
    exact wpAny_mono (turn c i t V tl _ h tk m rfl hi h1 h2 h3 h4 F N) (fun f s'' q => by
      cases f with
      | ret v => exact q
      | brk => exact q
      | next =>
        obtain ⟨c', V', h', tk', m', led', rfl, r⟩ := q
        exact ⟨c', V', h', tk', m', led', rfl, r⟩
      | cont =>
        obtain ⟨c', V', h', tk', m', led', rfl, r⟩ := q
        exact ⟨c', V', h', tk', m', led', rfl, r⟩) fun _ _ e => e
end
end S_OForK
section S_OCompK
theorem reg8 : True := by
  k_with_none
  k_with "mm" => ((repeat' (first | (with_reducible exact List.mem_cons_self) | (with_reducible assumption) | (with_reducible refine List.mem_cons_of_mem _ ?_))); done)
  k_with "sub" => ((repeat' (first | (with_reducible exact sub_nil _) | (with_reducible refine sub_cons ?_ ?_) | (with_reducible exact List.mem_cons_self) | (with_reducible refine List.mem_cons_of_mem _ ?_) | (with_reducible assumption) | (intro p9 hp9))); done)
  trivial
def CTurnEnd {σ : Type} (g : Heap) (C : Addr) (Kn : σ → Led) (Fact : Led → σ → Nat → List Value → Prop) (adr : List Addr) (V tl : Led) (i : Nat) (ys : List Value) (s s' : Shared) : Prop :=
  ∃ c' V' h' tk' m' led', s' = { s with heap := h', toks := tk' } ∧ Fr g C h' m' ∧ News g C h' led' ∧ (∀ p ∈ Kn c', p ∈ led') ∧ (∀ p ∈ tl, p ∈ led') ∧
    (∀ p ∈ V', p ∈ led' ∧ (p ∈ V ∨ ∀ q ∈ tl, q.1 ≠ p.1) ∧ p.1 ∉ adr) ∧ Fact V' c' i ys
theorem CTurnEnd.intro {σ : Type} {g : Heap} {C : Addr} {Kn : σ → Led} {Fact : Led → σ → Nat → List Value → Prop} {adr : List Addr} {V tl : Led} {i : Nat} {ys : List Value} {s : Shared} {h' : Heap} {tk' : Nat} {m' : Str → Option Value} {led' : Led}
    (F : Fr g C h' m') (N : News g C h' led') (c' : σ) (V' : Led) (h1 : ∀ p ∈ Kn c', p ∈ led') (h2 : ∀ p ∈ tl, p ∈ led') (h3 : ∀ p ∈ V', p ∈ led' ∧ (p ∈ V ∨ ∀ q ∈ tl, q.1 ≠ p.1) ∧ p.1 ∉ adr) (h4 : Fact V' c' i ys) :
    CTurnEnd g C Kn Fact adr V tl i ys s { s with heap := h', toks := tk' } := ⟨c', V', h', tk', m', led', rfl, F, N, h1, h2, h3, h4⟩
section
variable {prog : Program} {w : World} {A : Around} {E : Value → Shared → Prop} {s : Shared} {env : Env} {x : Str}
/-- a comprehension by what is known and what stands beside it -/
theorem compAt_K {σ : Type} {elt : Expr} {ifs : List Expr} {scope : Scope} {cl : List (Str × Addr)} {RR : Shared → List Value → Addr → Addr → Heap → Nat → Prop} {I : Addr} {fp wr : List Addr} {n : Nat} {P : Nat → Value → Prop} {St : Nat → Heap → Prop}
    (Kn : σ → Led) (adr : List Addr) (Fact : Led → σ → Nat → List Value → Prop) (c₀ : σ)
    (W : Walks prog w A I fp wr n P St) (hsz : n ≤ sizeLine) (hlive : ∀ i h, St i h → ∀ b ∈ fp, ∃ o, h.get? b = some o) (hst : St 0 s.heap) (hfp : ∀ b ∈ fp, b ∉ adr ∧ b < s.heap.objs.size) (hadr : ∀ c, (Kn c).map (·.1) = adr)
    (hK : ∀ p ∈ Kn c₀, s.heap.get? p.1 = some p.2) (mono : ∀ V U c i ys, Fact V c i ys → (∀ p ∈ V, p ∈ U) → Fact U c i ys) (hlen : ∀ V c i ys, Fact V c i ys → ys.length ≤ i) (h0 : Fact [] c₀ 0 [])
    (turn : ∀ (c : σ) (i : Nat) (v : Value) (ys : List Value) (V tl : Led) s' C h tk m, s' = { s with heap := h, toks := tk } → i < n → P i v → St (i + 1) h → (∀ b ∈ fp, ∀ o, h.get? b = some o → (b, o) ∈ tl) → Fact V c i ys → (∀ p ∈ V, p ∈ tl) → OwnOff tl adr → m x = some v → Fr (hideAll s.heap (adr ++ fp)) C h m → News (hideAll s.heap (adr ++ fp)) C h (Kn c ++ tl) →
      wpAny (model prog w) A (forIn ifs true fun c r => if r = true then do let ok ← isTrue c (compEnvC scope cl C env) (eval c (compEnvC scope cl C env)); pure (ForInStep.yield ok) else pure (ForInStep.yield r))
        (fun ok s₃ => if ok = true then wpAny (model prog w) A (eval elt (compEnvC scope cl C env)) (fun y s₄ => CTurnEnd (hideAll s.heap (adr ++ fp)) C Kn Fact adr V tl (i + 1) (ys ++ [y]) s' s₄) (fun _ _ => False) s₃ else CTurnEnd (hideAll s.heap (adr ++ fp)) C Kn Fact adr V tl (i + 1) ys s' s₃)
        (fun _ _ => False) s')
    (done : ∀ c V C D ys h tk, Fact V c n ys → Ext (adr ++ wr) s.heap h → (∀ p ∈ Kn c, h.get? p.1 = some p.2) → Born s.heap h ((D, lst ys) :: V) → New s.heap C → C ≠ D → (∀ p ∈ V, p.1 ≠ C) → (∀ p ∈ V, p.1 ∉ fp) → RR s ys D C h tk) :
    CompAt prog w A env elt x ifs scope cl RR (.ref I) s := by
  have live : ∀ a ∈ adr, a < s.heap.objs.size := fun a ha => by
    rw [← hadr c₀] at ha
    obtain ⟨p, hp, rfl⟩ := List.mem_map.mp ha
    exact Heap.lt_size (hK p hp)
  have gsize : (hideAll s.heap (adr ++ fp)).objs.size = s.heap.objs.size := hideAll_size _ _
  have gnone : ∀ a ∈ adr, (hideAll s.heap (adr ++ fp)).get? a = none := fun a ha => hideAll_none _ (List.mem_append_left _ ha)
  have gst : ∀ {h : Heap} {C D : Addr}, s.heap.objs.size ≤ D → D < C → (hideAll s.heap (adr ++ fp)).StaysIn h → (hideAll s.heap (adr ++ fp)).StaysIn (hideAll h (D :: C :: wr)) := fun {h C D} hD hC k a o e => hideAll_get _ (k a o e) fun q => by
    have z := hide_sub e
    have lt := Heap.lt_size z.1
    rcases List.mem_cons.mp q with q | q
    · exact absurd lt (by rw [q]; exact Nat.not_lt.mpr hD)
    · rcases List.mem_cons.mp q with q | q
      · exact absurd lt (by rw [q]; exact Nat.not_lt.mpr (Nat.le_of_lt (Nat.lt_of_le_of_lt hD hC)))
      · exact z.2 (List.mem_append_right _ (W.sub _ q))
  refine ⟨I, fp, wr, n, P, St, (fun i ys h => ∃ c, (∀ p ∈ Kn c, h.get? p.1 = some p.2) ∧ Fact (rest (hideAll s.heap (adr ++ fp)) (hideAll h fp) adr) c i ys ∧ (hideAll s.heap (adr ++ fp)).StaysIn h ∧ (∀ b, b ∈ fp → b ∉ wr → ∀ o, s.heap.get? b = some o → h.get? b = some o)), rfl, W, hsz, hst, fun b hb => (hfp b hb).2, ⟨c₀, fun p hp => ?_, mono _ _ _ _ _ h0 fun p hp => (nomatch hp), fun a o e => ?_, fun b hb hw o e => hideAll_get _ e hw⟩, ?_, ?_, ?_, ?_⟩
  · have ha : p.1 ∈ adr := by rw [← hadr c₀]; exact List.mem_map_of_mem hp
    exact hideAll_get _ (hK p hp) fun q => (hfp _ (W.sub _ q)).1 ha
  · have z := hide_sub e
    exact hideAll_get _ z.1 fun q => z.2 (List.mem_append_right _ (W.sub _ q))
  · rintro i ys h h' ⟨c, h1, h2, h3, h4⟩ k
    refine ⟨c, fun p hp => k _ _ (h1 p hp), mono _ _ _ _ _ h2 fun p hp => ?_, fun a o e => k a o (h3 a o e), fun b hb hw o e => k b o (h4 b hb hw o e)⟩
    have z := mem_rest.mp hp
    have y := hide_sub z.1
    exact mem_rest.mpr ⟨hideAll_get _ (k _ _ y.1) y.2, z.2⟩
  · rintro i ys h ⟨c, _, h2, _, _⟩
    exact hlen _ _ _ _ h2
  · rintro C D i v ys h tk m hD hC hi hP hs ⟨c, h1, h2, h3, h5⟩ hns hx hDl
    have F1 : Fr (hideAll s.heap (adr ++ fp)) C h m := ⟨hns, fun a o e => (hide_sub (h3 a o e)).1, by rw [gsize]; exact Nat.le_of_lt (Nat.lt_of_le_of_lt hD hC)⟩
    have hDC : D ≠ C := Nat.ne_of_lt hC
    have adrC : ∀ a ∈ adr, a ≠ C ∧ a ≠ D := fun a ha => ⟨Nat.ne_of_lt (Nat.lt_trans (Nat.lt_of_lt_of_le (live a ha) hD) hC), Nat.ne_of_lt (Nat.lt_of_lt_of_le (live a ha) hD)⟩
    have N1 : News (hideAll s.heap (adr ++ fp)) C h (Kn c) := fun p hp => by
      have ha : p.1 ∈ adr := by rw [← hadr c]; exact List.mem_map_of_mem hp
      exact ⟨(hide_sub (h1 p hp)).1, (adrC _ ha).1, gnone _ ha⟩
    obtain ⟨tl, N2, T2⟩ := tail_of F1 N1
    rw [hadr c] at T2
    have sub : ∀ p ∈ rest (hideAll s.heap (adr ++ fp)) (hideAll (hideAll h (D :: C :: wr)) fp) adr, p ∈ tl := fun p hp => by
      have z := mem_rest.mp hp
      have y := hide_sub (hide_sub z.1).1
      exact T2.cov p.1 p.2 y.1 z.2.1 (fun q => y.2 (by rw [q]; exact List.mem_cons_of_mem _ List.mem_cons_self)) z.2.2
    have fin : ∀ ys' s', CTurnEnd (hideAll s.heap (adr ++ fp)) C Kn Fact adr (rest (hideAll s.heap (adr ++ fp)) (hideAll (hideAll h (D :: C :: wr)) fp) adr) tl (i + 1) ys' { s with heap := h, toks := tk } s' →
        CompEnd C D fp wr s h (fun h => ∃ c, (∀ p ∈ Kn c, h.get? p.1 = some p.2) ∧ Fact (rest (hideAll s.heap (adr ++ fp)) (hideAll h fp) adr) c (i + 1) ys' ∧ (hideAll s.heap (adr ++ fp)).StaysIn h ∧ (∀ b, b ∈ fp → b ∉ wr → ∀ o, s.heap.get? b = some o → h.get? b = some o)) s' := by
      rintro ys' s' ⟨c', V', h', tk', m', led', rfl, F', N', k1, k2, k3, k4⟩
      have ex : Ext (C :: adr) h h' := ext_of_tail F1 T2 F' N' k2
      refine ⟨h', tk', m', rfl, F'.ns, fun b hb o e => ex b o e fun q => ?_, c', fun p hp => ?_, mono _ _ _ _ _ k4 fun p hp => ?_, gst hD hC F'.keep, fun b hb hw o e => ?_⟩
      · rcases List.mem_cons.mp hb with rfl | hb
        · rcases List.mem_cons.mp q with q | q
          · exact hDC q
          · exact (adrC _ q).2 rfl
        · rcases List.mem_cons.mp q with q | q
          · exact absurd (hfp b hb).2 (by rw [q]; exact Nat.not_lt.mpr (Nat.le_of_lt (Nat.lt_of_le_of_lt hD hC)))
          · exact (hfp b hb).1 q
      · have ha : p.1 ∈ adr := by rw [← hadr c']; exact List.mem_map_of_mem hp
        refine hideAll_get _ (N' p (k1 p hp)).1 fun q => ?_
        rcases List.mem_cons.mp q with q | q
        · exact (adrC _ ha).2 q
        · rcases List.mem_cons.mp q with q | q
          · exact (adrC _ ha).1 q
          · exact (hfp _ (W.sub _ q)).1 ha
      · obtain ⟨z1, z2, z3⟩ := k3 p hp
        have z := N' p z1
        have off : p.1 ∉ fp ∧ p.1 ≠ D := by
          rcases z2 with z2 | z2
          · have y := hide_sub (mem_rest.mp z2).1
            exact ⟨y.2, fun q => (hide_sub y.1).2 (by rw [q]; exact List.mem_cons_self)⟩
          · have hn : h.get? p.1 = none := by
              cases e : h.get? p.1 with
              | none => rfl
              | some o => exact absurd rfl (z2 (p.1, o) (T2.cov p.1 o e z3 z.2.1 z.2.2))
            refine ⟨fun q => ?_, fun q => ?_⟩
            · obtain ⟨o, e⟩ := hlive (i + 1) h hs _ q
              rw [hn] at e; cases e
            · rw [q, hDl] at hn; cases hn
        refine mem_rest.mpr ⟨hideAll_get _ (hideAll_get _ z.1 fun q => ?_) off.1, z3, z.2.2⟩
        rcases List.mem_cons.mp q with q | q
        · exact off.2 q
        · rcases List.mem_cons.mp q with q | q
          · exact z.2.1 q
          · exact off.1 (W.sub _ q)
      · have z := hide_sub (h5 b hb hw o e)
        refine hideAll_get _ (ex b o z.1 fun q => ?_) z.2
        rcases List.mem_cons.mp q with q | q
        · exact z.2 (by rw [q]; exact List.mem_cons_of_mem _ List.mem_cons_self)
        · exact (hfp b hb).1 q
    refine wpAny_mono (turn c i v ys _ tl _ C h tk m rfl hi hP hs (fun b hb o e => T2.cov b o e (hfp b hb).1 (Nat.ne_of_lt (Nat.lt_trans (Nat.lt_of_lt_of_le (hfp b hb).2 hD) hC)) (hideAll_none _ (List.mem_append_right _ hb))) h2 sub T2.off hx F1 N2) (fun ok s₃ q => ?_) fun _ _ e => e
    cases ok with
    | false => exact fin ys s₃ q
    | true =>
      simp only [if_true] at q ⊢
      exact wpAny_mono q (fun y s₄ q => fin _ s₄ q) fun _ _ e => e
  · rintro C D ys h tk hD hC ⟨c, h1, h2, h3, h5⟩ hDl
    have newOf : ∀ p ∈ rest (hideAll s.heap (adr ++ fp)) (hideAll (hideAll h (D :: C :: wr)) fp) adr, h.get? p.1 = some p.2 ∧ New s.heap p.1 ∧ p.1 ≠ C ∧ p.1 ∉ fp := fun p hp => by
      have z := mem_rest.mp hp
      have y := hide_sub z.1
      have y2 := hide_sub y.1
      refine ⟨y2.1, ?_, fun q => y2.2 (by rw [q]; exact List.mem_cons_of_mem _ List.mem_cons_self), y.2⟩
      show s.heap.get? p.1 = none
      cases e : s.heap.get? p.1 with
      | none => rfl
      | some o =>
        have := hideAll_get (adr ++ fp) e fun q => (List.mem_append.mp q).elim z.2.1 y.2
        rw [z.2.2] at this; cases this
    refine done c _ C D ys h tk h2 (fun a o e n => ?_) (fun p hp => (hide_sub (h1 p hp)).1) (fun p hp => ?_) (New.of_le (Nat.le_of_lt (Nat.lt_of_le_of_lt hD hC))) (Nat.ne_of_gt hC) (fun p hp => (newOf p hp).2.2.1) (fun p hp => (newOf p hp).2.2.2)
    · by_cases hf : a ∈ fp
      · exact (hide_sub (h5 a hf (fun q => n (List.mem_append_right _ q)) o e)).1
      · exact (hide_sub (h3 a o (hideAll_get _ e fun q => (List.mem_append.mp q).elim (fun z => n (List.mem_append_left _ z)) hf))).1
    · rcases List.mem_cons.mp hp with rfl | hp
      · exact ⟨hDl, New.of_le hD⟩
      · exact ⟨(newOf p hp).1, (newOf p hp).2.1⟩
theorem comp_done {adr : List Addr} {oI : Obj} {h : Heap} {V : Led} (e : Ext (adr ++ [s.heap.objs.size]) (s.heap.push oI) h) (B : Born (s.heap.push oI) h V) : Ext adr s.heap h ∧ Born s.heap h V :=
  ⟨fun a o q n => e a o (Heap.get?_push_of_some _ q) fun z => (List.mem_append.mp z).elim n fun z => absurd (Heap.lt_size q) (by rw [List.mem_singleton.mp z]; exact Nat.lt_irrefl _), fun p hp => ⟨(B p hp).1, New.keep (B p hp).2 fun a o q => Heap.get?_push_of_some _ q⟩⟩
/-- a comprehension over a list -/
theorem list_comp {σ : Type} {elt : Expr} {ifs : List Expr} {scope : Scope} {cl : List (Str × Addr)} {RR : Shared → List Value → Addr → Addr → Heap → Nat → Prop} {l : Addr} {vs : List Value}
    (Kn : σ → Led) (adr : List Addr) (Fact : Led → σ → Nat → List Value → Prop) (c₀ : σ)
    (hh : A.handled = none) (hl : s.heap.IsList l vs.toArray) (hla : l ∉ adr) (hsz : vs.length ≤ 100000) (hadr : ∀ c, (Kn c).map (·.1) = adr)
    (hK : ∀ p ∈ Kn c₀, s.heap.get? p.1 = some p.2) (mono : ∀ V U c i ys, Fact V c i ys → (∀ p ∈ V, p ∈ U) → Fact U c i ys) (hlen : ∀ V c i ys, Fact V c i ys → ys.length ≤ i) (h0 : Fact [] c₀ 0 [])
    (turn : ∀ (c : σ) (i : Nat) (v : Value) (ys : List Value) (V tl : Led) s' C h tk m g, s' = { s with heap := h, toks := tk } → s.heap.objs.size ≤ C → (∀ a o, s.heap.get? a = some o → a ∉ adr → a ≠ l → g.get? a = some o) → vs[i]? = some v → Fact V c i ys → (∀ p ∈ V, p ∈ tl) → OwnOff tl adr → m x = some v → Fr g C h m → News g C h (Kn c ++ tl) →
      wpAny (model prog w) A (forIn ifs true fun c r => if r = true then do let ok ← isTrue c (compEnvC scope cl C env) (eval c (compEnvC scope cl C env)); pure (ForInStep.yield ok) else pure (ForInStep.yield r))
        (fun ok s₃ => if ok = true then wpAny (model prog w) A (eval elt (compEnvC scope cl C env)) (fun y s₄ => CTurnEnd g C Kn Fact adr V tl (i + 1) (ys ++ [y]) s' s₄) (fun _ _ => False) s₃ else CTurnEnd g C Kn Fact adr V tl (i + 1) ys s' s₃)
        (fun _ _ => False) s')
    (done : ∀ c V C D ys h tk s₂, Fact V c vs.length ys → Ext adr s.heap h → (∀ p ∈ Kn c, h.get? p.1 = some p.2) → Born s.heap h ((D, lst ys) :: V) → New s.heap C → C ≠ D → (∀ p ∈ V, p.1 ≠ C) → (∃ o, s₂ = { s with heap := o }) → RR s₂ ys D C h tk) :
    wpAny (model prog w) A (pyIter (.ref l)) (fun it s₂ => CompAt prog w A env elt x ifs scope cl RR it s₂) E s := by
  have hlt : l < s.heap.objs.size := by obtain ⟨_, e, _⟩ := hl; exact Heap.lt_size e
  have live : ∀ a ∈ adr, a < s.heap.objs.size := fun a ha => by
    rw [← hadr c₀] at ha
    obtain ⟨p, hp, rfl⟩ := List.mem_map.mp ha
    exact Heap.lt_size (hK p hp)
  refine wpAny_pyIter_list hl ?_
  have hn : vs.toArray.size = vs.length := by simp
  have WL := Walks.list (prog := prog) (w := w) hh s.heap.objs.size l (Nat.ne_of_lt hlt) vs.toArray
  rw [hn] at WL
  refine compAt_K Kn adr Fact c₀ WL (by rw [sizeLine_eq]; omega) (fun i h st b hb => ?_) ⟨⟨_, Heap.get?_push_size _ rfl, rfl, rfl⟩, hl.push _⟩ (fun b hb => ?_) hadr (fun p hp => Heap.get?_push_of_some _ (hK p hp)) mono hlen h0 (fun c i v ys V tl s' C h tk m e hi hP hst9 cov9 h1 h2 h3 h4 F N => ?_) fun c V C D ys h tk h1 h2 h3 h4 h5 h6 h7 h8 => ?_
  · simp only [List.mem_cons, List.not_mem_nil, or_false] at hb
    rcases hb with rfl | rfl
    · obtain ⟨o, e, _⟩ := st.1; exact ⟨o, e⟩
    · obtain ⟨o, e, _⟩ := st.2; exact ⟨o, e⟩
  · simp only [List.mem_cons, List.not_mem_nil, or_false] at hb
    rcases hb with rfl | rfl
    · exact ⟨fun q => Nat.lt_irrefl _ (live _ q), by rw [Heap.size_push]; exact Nat.lt_succ_self _⟩
    · exact ⟨hla, by rw [Heap.size_push]; exact Nat.lt_succ_of_lt hlt⟩
  · have hC : s.heap.objs.size ≤ C := by
      have := F.above
      rw [hideAll_size, Heap.size_push] at this
      omega
    refine turn c i v ys V tl s' C h tk m _ e hC (fun a o q n1 n2 => ?_) (by simpa using hP) h1 h2 h3 h4 F N
    refine hideAll_get _ (Heap.get?_push_of_some _ q) fun z => ?_
    rcases List.mem_append.mp z with z | z
    · exact n1 z
    · simp only [List.mem_cons, List.not_mem_nil, or_false] at z
      rcases z with z | z
      · exact absurd (Heap.lt_size q) (by rw [z]; exact Nat.lt_irrefl _)
      · exact n2 z
  · obtain ⟨e1, e2⟩ := comp_done h2 h4
    exact done c V C D ys h tk _ h1 e1 h3 e2 (New.keep h5 fun a o q => Heap.get?_push_of_some _ q) h6 h7 ⟨_, rfl⟩
/-- a comprehension over a range -/
theorem range_comp {σ : Type} {elt : Expr} {ifs : List Expr} {scope : Scope} {cl : List (Str × Addr)} {RR : Shared → List Value → Addr → Addr → Heap → Nat → Prop} {r : Addr} {a b : Int} {tk₁ tk₂ tk₃ : Tok}
    (Kn : σ → Led) (adr : List Addr) (Fact : Led → σ → Nat → List Value → Prop) (c₀ : σ)
    (hh : A.handled = none) (hr : IsRange s.heap r a b 1 tk₁ tk₂ tk₃) (ha0 : -100000 ≤ a) (ha1 : a ≤ 100000) (hb0 : -100000 ≤ b) (hb1 : b ≤ 100000) (hadr : ∀ c, (Kn c).map (·.1) = adr)
    (hK : ∀ p ∈ Kn c₀, s.heap.get? p.1 = some p.2) (mono : ∀ V U c i ys, Fact V c i ys → (∀ p ∈ V, p ∈ U) → Fact U c i ys) (hlen : ∀ V c i ys, Fact V c i ys → ys.length ≤ i) (h0 : Fact [] c₀ 0 [])
    (turn : ∀ (c : σ) (i : Nat) (t : Tok) (ys : List Value) (V tl : Led) s' C h tk m g, s' = { s with heap := h, toks := tk } → s.heap.objs.size ≤ C → (∀ a o, s.heap.get? a = some o → a ∉ adr → g.get? a = some o) → i < (b - a).toNat → Fact V c i ys → (∀ p ∈ V, p ∈ tl) → OwnOff tl adr → m x = some (.int (a + (i : Int)) t) → Fr g C h m → News g C h (Kn c ++ tl) →
      wpAny (model prog w) A (forIn ifs true fun c r => if r = true then do let ok ← isTrue c (compEnvC scope cl C env) (eval c (compEnvC scope cl C env)); pure (ForInStep.yield ok) else pure (ForInStep.yield r))
        (fun ok s₃ => if ok = true then wpAny (model prog w) A (eval elt (compEnvC scope cl C env)) (fun y s₄ => CTurnEnd g C Kn Fact adr V tl (i + 1) (ys ++ [y]) s' s₄) (fun _ _ => False) s₃ else CTurnEnd g C Kn Fact adr V tl (i + 1) ys s' s₃)
        (fun _ _ => False) s')
    (done : ∀ c V C D ys h tk s₂, Fact V c (b - a).toNat ys → Ext adr s.heap h → (∀ p ∈ Kn c, h.get? p.1 = some p.2) → Born s.heap h ((D, lst ys) :: V) → New s.heap C → C ≠ D → (∀ p ∈ V, p.1 ≠ C) → (∃ o, s₂ = { s with heap := o }) → RR s₂ ys D C h tk) :
    wpAny (model prog w) A (pyIter (.ref r)) (fun it s₂ => CompAt prog w A env elt x ifs scope cl RR it s₂) E s := by
  have live : ∀ a ∈ adr, a < s.heap.objs.size := fun a ha => by
    rw [← hadr c₀] at ha
    obtain ⟨p, hp, rfl⟩ := List.mem_map.mp ha
    exact Heap.lt_size (hK p hp)
  have hsm : Builtin.Range.small a b 1 = true := small_one (by omega) (by omega) (by omega) (by omega)
  have hsz := rangeSize_nat a b
  refine wpAny_pyIter_range hr hsm ?_
  refine compAt_K Kn adr Fact c₀ (LCg.range_walks hh a (b - a).toNat) (by rw [sizeLine_eq]; omega) (fun i h st b hb => ?_) ?_ (fun b hb => ?_) hadr (fun p hp => Heap.get?_push_of_some _ (hK p hp)) mono hlen h0 (fun c i v ys V tl s' C h tk m e hi hP hst9 cov9 h1 h2 h3 h4 F N => ?_) fun c V C D ys h tk h1 h2 h3 h4 h5 h6 h7 h8 => ?_
  · rw [List.mem_singleton.mp hb]; exact ⟨_, st⟩
  · show IsRangeIter _ _ _ _ _
    rw [hsz]
    simpa using Heap.get?_push_size _ rfl
  · rw [List.mem_singleton.mp hb]
    exact ⟨fun q => Nat.lt_irrefl _ (live _ q), by rw [Heap.size_push]; exact Nat.lt_succ_self _⟩
  · obtain ⟨t, rfl⟩ := hP
    have hC : s.heap.objs.size ≤ C := by
      have := F.above
      rw [hideAll_size, Heap.size_push] at this
      omega
    refine turn c i t ys V tl s' C h tk m _ e hC (fun a o q n1 => ?_) hi h1 h2 h3 h4 F N
    refine hideAll_get _ (Heap.get?_push_of_some _ q) fun z => ?_
    rcases List.mem_append.mp z with z | z
    · exact n1 z
    · exact absurd (Heap.lt_size q) (by rw [List.mem_singleton.mp z]; exact Nat.lt_irrefl _)
  · obtain ⟨e1, e2⟩ := comp_done h2 h4
    exact done c V C D ys h tk _ h1 e1 h3 e2 (New.keep h5 fun a o q => Heap.get?_push_of_some _ q) h6 h7 ⟨_, rfl⟩
end
end S_OCompK
section S_OCell
theorem reg9 : True := by
  k_with_none
  k_with "mm" => ((repeat' (first | (with_reducible exact List.mem_cons_self) | (with_reducible assumption) | (with_reducible refine List.mem_cons_of_mem _ ?_))); done)
  k_with "sub" => ((repeat' (first | (with_reducible exact sub_nil _) | (with_reducible refine sub_cons ?_ ?_) | (with_reducible exact List.mem_cons_self) | (with_reducible refine List.mem_cons_of_mem _ ?_) | (with_reducible assumption) | (intro p9 hp9))); done)
  trivial
section
variable {prog : Program} {w : World} {A : Around} {E : Value → Shared → Prop} {s : Shared} {K : Frag} {Q : Value → Shared → Prop}
  {name qual : Str} {params : Arguments} {body : List Stmt} {scope : Scope} {dV kV doc pm cdv ct oc : Value} {an od : Option Addr} {osl : Array (Option Value)} {f : Addr} {vs : List Value} {binds : List (Str × Value)}
  {b : Heap}
/-- a call of a def whose argument a block below captures -/
theorem call_fnC (R : Rm A 1 3) (X : K.In b) (hlim : b.NoLimit) (S : b.StaysIn s.heap) (led : List (Addr × Obj)) (hled : ∀ p ∈ led, s.heap.get? p.1 = some p.2 ∧ b.get? p.1 = none)
    (ho : K.lookup f = some ⟨oc, od, .func (fnOf name qual params body scope dV kV doc pm an cdv ct), osl⟩) (hcd : codeIn K cdv qual = true)
    (hbind : BindsTo s (fnOf name qual params body scope dV kV doc pm an cdv ct) ⟨vs, []⟩ binds) (hkind : (binds.all fun y => scope.names.lookup y.1 == some .local || scope.names.lookup y.1 == some .cell) = true)
    (hnd : ((cellsFrom 0 scope.names []).map (·.1)).Nodup)
    (h : ∀ g L h₁ tk cells, b.StaysIn g → (∀ a o, s.heap.get? a = some o → a ∉ led.map (·.1) → g.get? a = some o) → Fr g L h₁ (bindL (envOfC qual scope L f cdv).kindOf binds fun _ => none) → News g L h₁ (cells ++ led) →
      CellsAre (bindC (envOfC qual scope L f cdv).kindOf binds fun _ => none) (cellsFrom (L + 1) scope.names []) cells → (∀ p ∈ led, p.1 < L) →
      wpAny (model prog w) (A.deeper (envOfC qual scope L f cdv)) (execs body (envOfC qual scope L f cdv))
        (fun fl s' => Back g L (led.map (·.1)) s Q (match fl with | .ret v => v | _ => .none) s') (fun _ _ => False)
        { s with heap := h₁, toks := tk })
    (hco : scope.isCoroutine = false := by rfl) (hgen : scope.isGenerator = false := by rfl) (hk : scope.kind = .function := by rfl) :
    wpAny (model prog w) A (call (.ref f) vs) Q E s := by
  refine wpAny_call ?_
  refine codeAny_call_function (by have := R.dp; omega) (S _ _ (X _ _ ho)) rfl hco hgen rfl (codeRec_of (X.keeps S) hcd) (hbind _ _ _ _ ?_)
  refine wpAny_newFunctionEnv_cells hk (kindsX hkind _) fun env' he s' x => ?_
  subst he
  refine ⟨(hlim.keeps S).keeps x.toInCall.keep, codeAny_func ?_⟩
  obtain ⟨h₁, tk, rfl, _⟩ := x.done
  have hk₁ := x.toInCall.keep
  obtain ⟨cells, NC, Y⟩ := Cl.news (h₀ := s.heap) (Nat.le_refl _) fun n c hm => ⟨x.cell n c (lookup_of_mem_nodup (cellsFrom_names scope.names 0 (s.heap.objs.size + 1) [] [] rfl ▸ hnd) hm), x.above n c hm⟩
  refine wpAny_mono (h (hideAll s.heap (led.map (·.1))) s.heap.objs.size h₁ tk cells (stays_hide S fun a ha => ?_) (fun a o e n => hideAll_get _ e n) ⟨x.toInCall.ns, fun b o e => hk₁ b o (of_hideAll _ e), Nat.le_of_eq (hideAll_size _ _)⟩ (fun p hp => ?_) Y (fun p hp => Heap.lt_size (hled p hp).1)) (fun fl s' q => ?_) fun _ _ x => x.elim
  · obtain ⟨p, hp, rfl⟩ := List.mem_map.mp ha
    exact (hled p hp).2
  · rcases List.mem_append.mp hp with hp | hp
    · refine ⟨(NC p hp).1, (NC p hp).2.1, ?_⟩
      cases q : (hideAll s.heap (led.map (·.1))).get? p.1 with
      | none => rfl
      | some o => have := of_hideAll _ q; rw [(NC p hp).2.2] at this; cases this
    · exact ⟨hk₁ _ _ (hled p hp).1, Nat.ne_of_lt (Heap.lt_size (hled p hp).1), hideAll_none _ (List.mem_map_of_mem hp)⟩
  · obtain ⟨⟨m', F'⟩, q⟩ := q
    exact q (ext_hide F'.keep)
end
/-! names in a comprehension's block -/
section
variable {M : Model} {A : Around} {E : Value → Shared → Prop} {s : Shared} {g : Heap} {C c : Addr} {m mg mb : Str → Option Value} {scope : Scope} {cl : List (Str × Addr)} {env : Env} {x : Str} {pos : Pos} {v : Value} {Q : Value → Shared → Prop} {o : Obj} {led : Led}
theorem nameB_L (F : Fr g C s.heap m) (hv : m x = some v) (h : Q v s)
    (hk : scope.kind = .function) (hx : (compEnvC scope cl C env).kindOf x = some .local) (hd : (x == ("__debug__" : Str)) = false := by decide) :
    wpAny M A (eval (.Name x pos) (compEnvC scope cl C env)) Q E s := wpAny_Name (wpAny_loadName_local (env := compEnvC scope cl C env) hk hx F.ns hv h) hd
theorem nameB_C (F : Fr g C s.heap m) (hc : cl.lookup x = some c) (ho : g.get? c = some o) (hd : o.data = .cell (some v)) (h : Q v s)
    (hk : scope.kind = .function) (hx : (compEnvC scope cl C env).kindOf x = some .cell) (hb : (x == ("__debug__" : Str)) = false := by decide) :
    wpAny M A (eval (.Name x pos) (compEnvC scope cl C env)) Q E s := wpAny_Name (wpAny_loadName_cell (env := compEnvC scope cl C env) hk hx hc ⟨o, F.keep _ _ ho, hd⟩ h) hb
theorem nameB_G {K : Frag} {p : Program} {l : List Str} (F : Fr g C s.heap m) (X : K.In g) (T : TopRead p l mg mb g) (e : nsIn K mainGlobals x = some (some v)) (h : Q v s) (hgl : env.globals = mainGlobals)
    (hk : scope.kind = .function) (hx : (compEnvC scope cl C env).kindOf x = some .globalImplicit) (hd : (x == ("__debug__" : Str)) = false := by decide) :
    wpAny M A (eval (.Name x pos) (compEnvC scope cl C env)) Q E s :=
  Name_function_global hk hx (loadGlobal_global (env := compEnvC scope cl C env) (by show s.heap.Ns env.globals _; rw [hgl]; exact T.g.keeps F.keep) (mg_of X T.g e) h) hd
theorem nameB_B {K : Frag} {p : Program} {l : List Str} (F : Fr g C s.heap m) (X : K.In g) (T : TopRead p l mg mb g) (e : nsIn K mainGlobals x = some none) (hv : bootBuiltins x = some v) (hn : x ≠ "__name__") (h : Q v s) (hgl : env.globals = mainGlobals) (hbl : env.builtins = builtinsNs)
    (hk : scope.kind = .function) (hx : (compEnvC scope cl C env).kindOf x = some .globalImplicit) (hd : (x == ("__debug__" : Str)) = false := by decide) :
    wpAny M A (eval (.Name x pos) (compEnvC scope cl C env)) Q E s :=
  Name_function_global hk hx (loadGlobal_builtin (env := compEnvC scope cl C env) (by show s.heap.Ns env.globals _; rw [hgl]; exact T.g.keeps F.keep) (mg_none_of X T.g e) (by show s.heap.Ns env.builtins _; rw [hbl]; exact T.b.keeps F.keep) ((T.builtins x hn).trans hv) h) hd
end
end S_OCell
section S_OMisc
theorem reg10 : True := by
  k_with_none
  k_with "mm" => ((repeat' (first | (with_reducible exact List.mem_cons_self) | (with_reducible assumption) | (with_reducible refine List.mem_cons_of_mem _ ?_))); done)
  k_with "sub" => ((repeat' (first | (with_reducible exact sub_nil _) | (with_reducible refine sub_cons ?_ ?_) | (with_reducible exact List.mem_cons_self) | (with_reducible refine List.mem_cons_of_mem _ ?_) | (with_reducible assumption) | (intro p9 hp9))); done)
  trivial
theorem IntsAre.at : ∀ {vs : List Value} {ns : List Int} {i : Nat} {v : Value}, IntsAre vs ns → vs[i]? = some v → ∃ k t, ns[i]? = some k ∧ v = .int k t
  | _, _, 0, _, .cons x t r, h => by simp at h; exact ⟨x, t, rfl, h.symm⟩
  | _, _, i + 1, _, .cons x t r, h => by
    simp only [List.getElem?_cons_succ] at h
    obtain ⟨k, t, e, q⟩ := IntsAre.at r h
    exact ⟨k, t, by simpa using e, q⟩
  | _, _, 0, _, .nil, h => by simp at h
  | _, _, _ + 1, _, .nil, h => by simp at h
/-- behind a comprehension's frame -/
theorem comp_close {W : List Addr} {s h h' : Heap} {C : Addr} {V : Led} (e : Ext W s h) (B : Born s h V) (n : New s C) (sb : Heap.SameBut C h h') (hV : ∀ p ∈ V, p.1 ≠ C) : Ext W s h' ∧ Born s h' V := by
  refine ⟨fun a o q hn => ?_, fun p hp => ⟨?_, (B p hp).2⟩⟩
  · rw [sb.2 a (New.ne n q)]
    exact e a o q hn
  · rw [sb.2 _ (hV p hp)]
    exact (B p hp).1
theorem none_of' {g h : Heap} {L r : Addr} {m : Str → Option Value} (F : Fr g L h m) (n : New h r) : g.get? r = none := New.keep n F.keep
theorem news_two {g h h' : Heap} {L r : Addr} {m : Str → Option Value} {led : Led} {o : Obj} (F : Fr g L h m) (N : News g L h led) (k : h.StaysIn h') (n : New h r) (z : h'.get? r = some o) : News g L h' ((r, o) :: led) ∧ ∀ p ∈ led, p.1 ≠ r := ⟨fun p hp => by
  rcases List.mem_cons.mp hp with rfl | hp
  · refine ⟨z, ?_, none_of' F n⟩
    obtain ⟨o, _, _, e, _⟩ := F.ns
    exact (New.ne n e).symm
  · exact ⟨k _ _ (N p hp).1, (N p hp).2⟩, fun p hp => New.ne n (N p hp).1⟩
/-- more new objects beside the ledger -/
theorem news_app {g h h' : Heap} {L : Addr} {m : Str → Option Value} {led V : Led} (F : Fr g L h m) (N : News g L h led) (k : h.StaysIn h') (B : Born h h' V) : News g L h' (V ++ led) := fun p hp => by
  rcases List.mem_append.mp hp with hp | hp
  · refine ⟨(B p hp).1, ?_, none_of' F (B p hp).2⟩
    obtain ⟨o, _, _, e, _⟩ := F.ns
    exact (New.ne (B p hp).2 e).symm
  · exact ⟨k _ _ (N p hp).1, (N p hp).2⟩
theorem take_map_succ {α β : Type} {l : List α} {f : α → β} {i : Nat} {x : α} (h : l[i]? = some x) : (l.take (i + 1)).map f = (l.take i).map f ++ [f x] := by
  rw [List.take_add_one, h]
  simp
/-- what a def has made, seen from its caller -/
theorem Born.back {s h₁ h : Heap} {g : Heap} {V : Led} {W : List Addr} (kp : ∀ a o, s.get? a = some o → a ∉ W → g.get? a = some o) (B : Born h₁ h V) (k : g.StaysIn h₁) (off : ∀ p ∈ V, p.1 ∉ W) : Born s h V := fun p hp => by
  refine ⟨(B p hp).1, ?_⟩
  have n : h₁.get? p.1 = none := (B p hp).2
  show s.get? p.1 = none
  cases q : s.get? p.1 with
  | none => rfl
  | some o =>
    have := k _ _ (kp _ _ q (off p hp))
    rw [n] at this
    cases this
theorem AllLt.mem {d : Addr} : ∀ {l : Led}, AllLt d l → ∀ p ∈ l, p.1 < d
  | [], _, _, h => nomatch h
  | _ :: _, x, p, h => by
    rcases List.mem_cons.mp h with rfl | h
    · exact x.1
    · exact AllLt.mem x.2 p h
theorem born_of {s h g : Heap} {L : Addr} {adr : List Addr} {led V : Led} (kp : ∀ a o, s.get? a = some o → a ∉ adr → g.get? a = some o) (sub : ∀ p ∈ V, p ∈ led) (N : News g L h led) (off : ∀ p ∈ V, p.1 ∉ adr) : Born s h V := fun p hp => by
  have z := N p (sub p hp)
  refine ⟨z.1, ?_⟩
  show s.get? p.1 = none
  cases q : s.get? p.1 with
  | none => rfl
  | some o =>
    have := kp _ _ q (off p hp)
    rw [z.2.2] at this
    cases this
/-- the int at a key, 0 when there is none -/
def gv (kvs : List (Int × Value)) (k : Int) : Int := match valueAt kvs k with
  | some (.int v _) => v
  | _ => 0
section
variable {w : World} {A : Around} {E : Value → Shared → Prop} {s : Shared} {V : Led} {d : Addr} {kvs : List (Int × Value)} {k : Int} {t t0 : Tok}
theorem valueAt_mem {v : Value} (h : valueAt kvs k = some v) : (k, v) ∈ kvs := by
  unfold valueAt at h
  cases q : kvs.find? fun kv => decide (kv.1 = k) with
  | none => rw [q] at h; cases h
  | some p =>
    rw [q] at h
    cases h
    have h1 := List.find?_some q
    have h2 := List.mem_of_find?_eq_some q
    have h3 : p.1 = k := of_decide_eq_true h1
    rw [← h3]
    exact h2
theorem get_method {pl : Sem Bool} {Q : Value × List Value → Shared → Prop} (S : Sees V s.heap) (D : DictV w V d kvs) (h : Q (.builtin "dict.get", [.ref d]) s) :
    wpAny (model PR w) A (getMethod (.ref d) "get" pl) Q E s := dict_method PySem.F.slot_dict_get (by rfl) S D h
theorem get0_raw {Q : Value → Shared → Prop} (S : Sees V s.heap) (D : DictV w V d kvs) (hg : ∀ p ∈ kvs, ∃ v t, p.2 = .int v t) (h : ∀ t', Q (.int (gv kvs k) t') { s with toks := s.toks + 1 }) :
    wpAny (model PR w) A (call (.builtin "dict.get") [.ref d, .int k t, .int 0 t0]) Q E s := by
  refine call_meetsIn PySem.F.slot_dict_get (D.dict S).typeIs PySem.F.entry_dict_get (PySem.F.args_dict_get_3 _ _ _) (meets_dict_get_default _ d (intKind_is _ _ k t) D.1 _) ⟨_, (D.dict S).mapOf, ?_⟩
  unfold gv at h
  cases q : valueAt kvs k with
  | none => rw [q] at h; exact h _
  | some v =>
    obtain ⟨x, t', e⟩ := hg _ (valueAt_mem q)
    simp only at e
    subst e
    rw [q] at h
    exact h _
end
theorem nodup_at {l : List Int} (h : l.Nodup) {i j : Nat} (hi : i < l.length) (hj : j < i) : (l[j]?).getD 0 ≠ (l[i]?).getD 0 := by
  rw [List.getElem?_eq_getElem hi, List.getElem?_eq_getElem (Nat.lt_trans hj hi)]
  exact (List.pairwise_iff_getElem.mp h) j i (Nat.lt_trans hj hi) hi hj
/-- behind a comprehension that a name takes -/
theorem assign_end {g sH h : Heap} {L C D : Addr} {m : Str → Option Value} {W : List Addr} {V : Led} {o : Obj} {y : Str} {K : Heap → Prop} (F : Fr g L sH m) (e : Ext W sH h) (hL : L ∉ W) (hW : ∀ a ∈ W, g.get? a = none)
    (B : Born sH h ((D, o) :: V)) (n : New sH C) (hCD : C ≠ D) (hV : ∀ p ∈ V, p.1 ≠ C)
    (k : ∀ h', Fr g L h' (fun z => if z = y then some (.ref D) else m z) → Ext (L :: W) sH h' → Born sH h' ((D, o) :: V) → K h') :
    ∃ mL, h.Ns L mL ∧ C ≠ L ∧ ∀ h₁ h', h₁.Ns L (fun z => if z = y then some (.ref D) else mL z) → Heap.SameBut L h h₁ → Heap.SameBut C h₁ h' → K h' := by
  have F1 := Fr.ext F e hL hW
  obtain ⟨oL, _, _, eL, _⟩ := id F.ns
  have hCL : C ≠ L := (New.ne n eL).symm
  have gL : g.get? L = none := Heap.get?_none_of_le F.above
  refine ⟨m, F1.ns, hCL, fun h₁ h' n1 s1 s2 => k h' ⟨n1.sameBut s2 hCL.symm, fun a b q => ?_, F.above⟩ (fun a b q hn => ?_) fun p hp => ?_⟩
  · have q1 := F1.keep a b q
    have a1 : a ≠ L := fun z => by rw [z, gL] at q; cases q
    have a2 : a ≠ C := New.ne n (F.keep a b q)
    rw [s2.2 a a2, s1.2 a a1]
    exact q1
  · have a1 : a ≠ L := fun z => hn (by rw [z]; exact List.mem_cons_self)
    rw [s2.2 a (New.ne n q), s1.2 a a1]
    exact e a b q fun z => hn (List.mem_cons_of_mem _ z)
  · refine ⟨?_, (B p hp).2⟩
    have a1 : p.1 ≠ L := fun z => by
      have := (B p hp).2
      rw [z] at this
      exact New.ne this eL rfl
    have a2 : p.1 ≠ C := by
      rcases List.mem_cons.mp hp with rfl | hp
      · exact hCD.symm
      · exact hV p hp
    rw [s2.2 _ a2, s1.2 _ a1]
    exact (B p hp).1
theorem news_ext {g h h' : Heap} {L : Addr} {W : List Addr} {led V : Led} {m : Str → Option Value} (F : Fr g L h m) (N : News g L h led) (e : Ext (L :: W) h h') (hW : ∀ p ∈ led, p.1 ∉ W) (B : Born h h' V) : News g L h' (V ++ led) := fun p hp => by
  rcases List.mem_append.mp hp with hp | hp
  · refine ⟨(B p hp).1, ?_, none_of' F (B p hp).2⟩
    obtain ⟨o, _, _, e, _⟩ := F.ns
    exact (New.ne (B p hp).2 e).symm
  · refine ⟨e _ _ (N p hp).1 fun q => ?_, (N p hp).2⟩
    rcases List.mem_cons.mp q with q | q
    · exact (N p hp).2.1 q
    · exact hW p hp q
end S_OMisc
section S_OEnt
theorem reg11 : True := by
  k_with_none
  k_with "mm" => ((repeat' (first | (with_reducible exact List.mem_cons_self) | (with_reducible assumption) | (with_reducible refine List.mem_cons_of_mem _ ?_))); done)
  k_with "sub" => ((repeat' (first | (with_reducible exact sub_nil _) | (with_reducible refine sub_cons ?_ ?_) | (with_reducible exact List.mem_cons_self) | (with_reducible refine List.mem_cons_of_mem _ ?_) | (with_reducible assumption) | (intro p9 hp9))); done)
  k_with "v_sees" => first | exact Sees.keep (by assumption) (Fr.keep (by k_asm)) | exact Sees.sub (News.sees (by k_asm)) (fun _ h => by first | exact h | (refine List.mem_cons_of_mem _ ?_; exact h) | (refine List.mem_cons_of_mem _ (List.mem_cons_of_mem _ ?_); exact h))
  k_with "call ref" => (k_here; k_dflt (refine' draw_use ?zqR ?zqX ?zqT ?zqF ?zqN ?zqP ?zqU1 ?zqU2 ?zqne ?zqlo ?zqhi ?_; (case zqR => exact Rm.deeper (Rm.less (by assumption) (by omega) (by omega)) _); (case zqX => k_asm); (case zqT => k_asm); (case zqF => k_asm); (case zqN => k_asm); (case zqP => assumption); (case zqU1 => k_updF); (case zqU2 => (intro o9; (try dsimp only); k_updF)); (case zqne => assumption); (case zqlo => omega); (case zqhi => omega)); intro _ _ _ _ _ _ _ _ _ _ _; rename_i N'; (try dsimp only at N'); (try k_sweep); revert N'; intro _)
  k_with "exec For Name Call cons nil" => (k_here; k_dflt (refine for_raw (by rfl) (by rfl) ?_))
  k_with "call ref" => (k_here; k_dflt (refine' pick_use ?zqR ?zqX ?zqT ?zqF ?zqN ?zqP ?zqhs ?zqU1 ?zqU2 ?zqne ?zqn1 ?zqn2 ?_; (case zqR => exact Rm.deeper (Rm.less (by assumption) (by omega) (by omega)) _); (case zqX => k_asm); (case zqT => k_asm); (case zqF => k_asm); (case zqN => k_asm); (case zqP => assumption); (case zqhs => k_mem); (case zqU1 => k_updF); (case zqU2 => (intro o9; (try dsimp only); k_updF)); (case zqne => assumption); (case zqn1 => k_ne); (case zqn2 => k_ne)); intro _ _ _ _ _ _ _ _ _ _; rename_i N'; (try dsimp only at N'); (try k_sweep); revert N'; intro _)
  k_with "call ref" => (k_here; k_dflt (refine' entry_use ?zqR ?zqX ?zqT ?zqF ?zqN ?_; (case zqR => exact Rm.deeper (Rm.less (by assumption) (by omega) (by omega)) _); (case zqX => k_asm); (case zqT => k_asm); (case zqF => k_asm); (case zqN => k_asm)); intro _ _ _ _ _ _ _ _ _ _ _ _ _ _ _ _ _; rename_i l1 l2 gw' g1' g2' gt'; (try k_lt l1); (try k_lt2 l2); (try k_sweep); revert l1 l2 gw' g1' g2' gt'; intro _ _ _ _ _ _)
  k_with "setItem ref int ref" => (k_here; k_dflt (refine' dict_set_K ?zqF ?zqN ?zqU ?zqhd ?zqhz ?_; (case zqF => k_asm); (case zqN => k_asm); (case zqU => k_updF); (case zqhd => assumption); (case zqhz => assumption)); intro _ _ _ _ _; rename_i N' hd'; (try dsimp only at N'); (try k_sweep); revert N' hd'; intro _ _)
  trivial
theorem entries_spec {w : World} {A : Around} {E : Value → Shared → Prop} {s : Shared} {Q : Value → Shared → Prop} {b : Heap} {pen cells : Addr} {o1 o2 : Obj}
    (R : Rm A 4 90) (G : Gd w b) (S : b.StaysIn s.heap) (ne : pen ≠ cells) (fp : b.get? pen = none) (fc : b.get? cells = none) (hp : s.heap.get? pen = some o1) (hc : s.heap.get? cells = some o2) (P : PenO cells o1 o2)
    (ret : ∀ d es nl h' tk o1 o2, Ext [pen, cells] s.heap h' → Born s.heap h' nl → EDict w nl d es → es.length ≤ 8 → (∀ p ∈ es, 1 ≤ p.1 ∧ p.1 ≤ 14 ∧ (p.2.way = Str.ofString "used" ∨ p.2.way = Str.ofString "packed")) → h'.get? pen = some o1 → h'.get? cells = some o2 → PenO cells o1 o2 → Q (.ref d) { s with heap := h', toks := tk }) :
    wpAny (model PR w) A (call (.ref 158) [.ref pen]) Q E s := by
  obtain ⟨X, l, mg, mb, T⟩ := G
  refine call_fn (R.less (by omega) (by omega)) X T.nolimit S [(pen, _), (cells, _)] (by
    intro p hp'
    simp only [List.mem_cons, List.not_mem_nil, or_false] at hp'
    rcases hp' with rfl | rfl
    · exact ⟨hp, fp⟩
    · exact ⟨hc, fc⟩) (by k_is) (by k_is) (BindsTo.of_eq rfl) (locs rfl) (fun g L h₁ st kp F N => ?_) (by decide)
  have X := X.keeps st
  have T := T.keeps st
  have hne1 := neN ne
  k_steps
  rename_i d h3 od lo _ _ hd1 _ l1 h2 n tn hh1 tk1 p1 p2 hn0 hn1 P1 _ _ h9 tk9 t1 u1 v1 hr F1 N1 k9
  refine range_K (σ := Obj × Obj × Obj × List (Int × Ent)) (V₀ := []) (fun c => [(d, c.1), (pen, c.2.1), (cells, c.2.2.1)]) [d, pen, cells]
    (fun V c i => c.1.IsDictOf (PySem.intKind PR w) (kvOf c.2.2.2) ∧ (∀ p ∈ c.2.2.2, EntV V p.2) ∧ c.2.2.2.length ≤ i ∧ (∀ p ∈ c.2.2.2, 1 ≤ p.1 ∧ p.1 ≤ 14 ∧ (p.2.way = Str.ofString "used" ∨ p.2.way = Str.ofString "packed")) ∧ PenO cells c.2.1 c.2.2.1)
    (fun m c i => ∃ u : Str → Option Value, m = fun z => if z = Str.ofString "found" then some (.ref d) else if z = Str.ofString "pen" then some (.ref pen) else u z)
    (_, _, _, []) R.hd hr (by omega) (by omega) (by omega) (by omega) (fun c => rfl) F1 N1 (fun p hp => hp) ?mono ?h0 (fun p hp => nomatch hp) ?hm ?turn ?done
  case mono =>
    rintro V U c i ⟨h1, h2, h3⟩ sub
    exact ⟨h1, fun p hp => (h2 p hp).mono sub, h3⟩
  case h0 => exact ⟨hd1, fun p hp => (nomatch hp), Nat.le_refl _, fun p hp => (nomatch hp), P1⟩
  case hm => exact names2 rfl rfl
  case turn =>
    rintro ⟨od, o1, o2, es⟩ i t V tl s' h tk m rfl hi ⟨hd2, hE, hlen, hk, hP⟩ ⟨u, rfl⟩ sub off F2 N2
    clear F1 N1 hr P1 P hd1
    dsimp only at hd2 hE hlen hk hP N2
    simp only [List.cons_append, List.nil_append] at N2
    have hz : (kvOf es).length ≤ 1000 := by simp [kvOf]; omega
    k_steps
    rename_i wy _ _ _ _ _ hwy _ one _ _ _ _ _ _ _ _ two _ _ _ _ _ _ _ _ x dx h5 tk5 es5 n5 a5 b5 c5 gw g1 g2 gt l5 l6 r t6 h7 tk7 q1 q2 r0 r1 P7 h8 od8 F8 N8 hd8
    show TurnEnd _ _ _ _ _ _ _ _ _ _ _
    have lt1 := AllLt.mem l5.2.2.2.2
    refine TurnEnd.intro F8 N8 (od8, q1, q2, storeE es (1 + r) ⟨x, wy, one, two⟩) ((x, instObj 78 dx) :: (dx, dictOf es5 n5) :: V) ?_ ?_ ?_ ⟨?_, ?_, ?_, ?_, P7⟩ (names2 rfl rfl)
    · intro p hp
      simp only [List.mem_cons, List.not_mem_nil, or_false] at hp ⊢
      rcases hp with rfl | rfl | rfl <;> simp
    · intro p hp
      simp [hp]
    · intro p hp
      rcases List.mem_cons.mp hp with rfl | hp
      · refine ⟨by simp, .inr fun q hq => ?_, ?_⟩
        · have := ltN (lt1 q hq)
          have l7 := ltN l6
          refine neN ?_
          dsimp only
          omega
        · simp only [List.mem_cons, List.not_mem_nil, or_false, not_or]
          refine ⟨neN ?_, neN ?_, neN ?_⟩ <;> omega
      · rcases List.mem_cons.mp hp with rfl | hp
        · refine ⟨by simp, .inr fun q hq => ?_, ?_⟩
          · have := ltN (lt1 q hq)
            exact Nat.ne_of_lt this
          · simp only [List.mem_cons, List.not_mem_nil, or_false, not_or]
            refine ⟨neN ?_, neN ?_, neN ?_⟩ <;> omega
        · refine ⟨by simp [sub p hp], .inl hp, fun q => ?_⟩
          exact off p (sub p hp) _ q rfl
    · show od8.IsDictOf _ (kvOf (storeE es (1 + r) ⟨x, wy, one, two⟩))
      rw [← kv_storeE]
      exact hd8
    · intro p hp
      rcases storeE_mem hp with rfl | hp
      · exact ⟨dx, es5, n5, a5, b5, c5, by simp, by simp, gw, g1, g2, gt⟩
      · exact (hE p hp).mono fun q hq => by simp [hq]
    · have := storeE_len es (1 + r) ⟨x, wy, one, two⟩
      show (storeE es (1 + r) ⟨x, wy, one, two⟩).length ≤ i + 1
      omega
    · intro p hp
      rcases storeE_mem hp with rfl | hp
      · refine ⟨?_, ?_, hwy⟩ <;> dsimp only <;> omega
      · exact hk p hp
  case done =>
    rintro ⟨od, o1, o2, es⟩ V h tk m ⟨hd2, hE, hlen, hk, hP⟩ ⟨u, rfl⟩ F2 N2 off
    dsimp only at hd2 hE hlen hk hP N2 ⊢
    simp only [List.cons_append, List.nil_append] at N2
    have hz : (kvOf es).length ≤ 1000 := by simp [kvOf]; omega
    k_steps
    refine Back.intro F2 fun hE' => ret d es ((d, od) :: V) _ _ _ _ hE' (born_of kp (fun p hp => ?_) N2 fun p hp => ?_) ⟨⟨lo, od, List.mem_cons_self, hd2⟩, fun p hp => (hE p hp).mono fun q hq => List.mem_cons_of_mem _ hq⟩ (by omega) hk (N2.get (by first | walk_at "mm" | simp)) (N2.get (by first | walk_at "mm" | simp)) hP
    · rcases List.mem_cons.mp hp with rfl | hp
      · simp
      · simp [hp]
    · simp only [List.map, List.mem_cons, List.not_mem_nil, or_false, not_or]
      rcases List.mem_cons.mp hp with rfl | hp
      · exact ⟨neN (by dsimp only; omega), neN (by dsimp only; omega)⟩
      · exact ⟨off p hp _ (by first | walk_at "mm" | simp), off p hp _ (by first | walk_at "mm" | simp)⟩
end S_OEnt
section S_OTold
theorem reg12 : True := by
  k_with_none
  k_with "mm" => ((repeat' (first | (with_reducible exact List.mem_cons_self) | (with_reducible assumption) | (with_reducible refine List.mem_cons_of_mem _ ?_))); done)
  k_with "sub" => ((repeat' (first | (with_reducible exact sub_nil _) | (with_reducible refine sub_cons ?_ ?_) | (with_reducible exact List.mem_cons_self) | (with_reducible refine List.mem_cons_of_mem _ ?_) | (with_reducible assumption) | (intro p9 hp9))); done)
  trivial
theorem sorted_edict {w : World} {A : Around} {E : Value → Shared → Prop} {s : Shared} {Q : Value → Shared → Prop} {g : Heap} {L d : Addr} {m : Str → Option Value} {led V : Led} {es : List (Int × Ent)}
    (hh : A.handled = none) (S : Sees V s.heap) (D : EDict w V d es) (F : Fr g L s.heap m) (N : News g L s.heap led) (hz : es.length < 64)
    (h : ∀ r h' tk vs ns n, Fr g L h' m → News g L h' ((r, W.listOf (List.toArray vs) n) :: led) → (∀ p ∈ led, p.1 ≠ r) → IntsAre vs ns → ns.Perm (es.map (·.1)) → ns.Pairwise (· ≤ ·) → Q (.ref r) { s with heap := h', toks := tk }) :
    wpAny (model PR w) A (call (.builtin "sorted") [.ref d]) Q E s := by
  refine sorted_dict hh D.dict.1 (D.dict.dict S) (by simpa [kvOf] using hz) fun r h' tk vs ns n e nw er hi hp ho => ?_
  have k := Ext.keep e
  exact h r h' tk vs ns n (Fr.keeps F k) (news_one F N k nw er) (fun p hp => New.ne nw (N p hp).1) hi (by rw [kvOf_keys] at hp; exact hp) ho
theorem reg13 : True := by
  k_with "v_sees" => first | exact Sees.keep (by assumption) (Fr.keep (by k_asm)) | exact Sees.sub (News.sees (by k_asm)) (fun _ h => by first | exact h | (refine List.mem_cons_of_mem _ ?_; exact h) | (refine List.mem_cons_of_mem _ (List.mem_cons_of_mem _ ?_); exact h))
  k_with "eval Name" => (k_here; (with_reducible show wpAny _ _ (eval (Expr.Name _ _) (compEnvC _ _ _ _)) _ _ _); k_dflt (first | (refine' nameB_L ?zqF ?zqv ?_ ?zqa ?zqb; (case zqF => k_asm); (case zqv => assumption); (case zqa => rfl); (case zqb => rfl)) | (refine' nameB_C ?zqF ?zqc ?zqo ?zqd ?_ ?zqa ?zqb; (case zqF => k_asm); (case zqa => rfl); (case zqb => rfl); (case zqc => rfl); (case zqo => assumption); (case zqd => assumption)) | (refine' nameB_G ?zqF ?zqX ?zqT ?zqe ?_ ?zqg ?zqa ?zqb; (case zqF => k_asm); (case zqX => k_asm); (case zqT => k_asm); (case zqg => rfl); (case zqa => rfl); (case zqb => rfl); (case zqe => k_is)) | (refine' nameB_B ?zqF ?zqX ?zqT ?zqe ?zqv ?zqn ?_ ?zqg ?zqh ?zqa ?zqb; (case zqF => k_asm); (case zqX => k_asm); (case zqT => k_asm); (case zqg => rfl); (case zqh => rfl); (case zqa => rfl); (case zqb => rfl); (case zqe => k_is); (case zqv => boot_fast); (case zqn => decide))))
  k_with "getAttr ref" => (k_here; (with_reducible show wpAny _ _ (getAttr (Value.ref _) (PySem.Str.ofString "way") _) _ _ _); k_dflt (refine' ent_way ?zqF ?zqX ?zqS ?zqx ?_; (case zqx => assumption); (case zqF => k_asm); (case zqX => k_asm); (case zqS => walk_at "v_sees")); intro _)
  k_with "getAttr ref" => (k_here; (with_reducible show wpAny _ _ (getAttr (Value.ref _) (PySem.Str.ofString "one") _) _ _ _); k_dflt (refine' ent_one ?zqF ?zqX ?zqS ?zqx ?_; (case zqx => assumption); (case zqF => k_asm); (case zqX => k_asm); (case zqS => walk_at "v_sees")); intro _)
  k_with "getAttr ref" => (k_here; (with_reducible show wpAny _ _ (getAttr (Value.ref _) (PySem.Str.ofString "two") _) _ _ _); k_dflt (refine' ent_two ?zqF ?zqX ?zqS ?zqx ?_; (case zqx => assumption); (case zqF => k_asm); (case zqX => k_asm); (case zqS => walk_at "v_sees")); intro _)
  k_with "getMethod ref" => (k_here; (with_reducible show wpAny _ _ (getMethod (Value.ref _) (PySem.Str.ofString "told") _) _ _ _); k_dflt (refine' ent_told ?zqF ?zqX ?zqS ?zqx ?_; (case zqx => assumption); (case zqF => k_asm); (case zqX => k_asm); (case zqS => walk_at "v_sees")))
  k_with "call builtin:sorted" => (k_here; (with_reducible show wpAny _ _ (call (Value.builtin _) [Value.ref _]) _ _ _); k_dflt (refine' sorted_edict ?zqhh ?zqS ?zqD ?zqF ?zqN ?zqz ?_; (case zqhh => first | assumption | exact Rm.hd_deeper (by assumption) _); (case zqD => assumption); (case zqF => k_asm); (case zqN => k_asm); (case zqS => walk_at "v_sees"); (case zqz => omega)); intro _ _ _ _ _ _ _ _ _ _ _ _; (try k_sweep))
  k_with "subscriptTail" => (k_here; (with_reducible show wpAny _ _ (subscriptTail _ _ (Value.ref _) (Value.int _ _)) _ _ _); k_dflt (refine' edict_item ?zqS ?zqD ?zqv ?_; (case zqD => assumption); (case zqv => assumption); (case zqS => walk_at "v_sees")))
  k_with "call ref" => (k_here; k_dflt (refine' told_use ?zqR ?zqX ?zqT ?zqF ?zqN ?zqS ?zqEn ?_; (case zqEn => assumption); (case zqR => first | exact Rm.less (by assumption) (by omega) (by omega) | exact Rm.deeper (Rm.less (by assumption) (by omega) (by omega)) _); (case zqX => k_asm); (case zqT => k_asm); (case zqF => k_asm); (case zqN => k_asm); (case zqS => walk_at "v_sees")); intro _ _ _ _ _ _ _ _ _; (try k_sweep))
  k_with "eval ListComp" => (k_here; k_dflt (refine' comp_raw ?zqcl ?zqce ?zqk ?zqn ?zqx ?_; (case zqcl => exact rfl); (case zqce => decide); (case zqk => rfl); (case zqn => decide); (case zqx => rfl)))
  k_with "exec For Name Call cons nil" => (k_here; k_dflt (refine for_raw (by rfl) (by rfl) ?_))
  k_with "exec For Name Name cons nil" => (k_here; k_dflt (refine for_raw (by rfl) (by rfl) ?_))
  k_with "call ref" => (k_here; k_dflt (refine' entry_use ?zqR ?zqX ?zqT ?zqF ?zqN ?_; (case zqR => exact Rm.deeper (Rm.less (by assumption) (by omega) (by omega)) _); (case zqX => k_asm); (case zqT => k_asm); (case zqF => k_asm); (case zqN => k_asm)); intro _ _ _ _ _ _ _ _ _ _ _ _ _ _ _ _ _; rename_i l1 l2 gw' g1' g2' gt'; (try k_lt l1); (try k_lt2 l2); (try k_sweep); revert l1 l2 gw' g1' g2' gt'; intro _ _ _ _ _ _)
  k_with "setItem ref int ref" => (k_here; k_dflt (refine' dict_set_K ?zqF ?zqN ?zqU ?zqhd ?zqhz ?_; (case zqF => k_asm); (case zqN => k_asm); (case zqU => k_updF); (case zqhd => assumption); (case zqhz => assumption)); intro _ _ _ _ _; rename_i N' hd'; (try dsimp only at N'); (try k_sweep); revert N' hd'; intro _ _)
  k_with "getMethod ref" => (k_here; (with_reducible show wpAny _ _ (getMethod (Value.ref _) (PySem.Str.ofString "get") _) _ _ _); k_dflt (refine' get_method ?zqS ?zqD ?_; (case zqD => first | assumption | exact EDict.dict (by assumption)); (case zqS => walk_at "v_sees")))
  k_with "call builtin:dict.get" => (k_here; (with_reducible show wpAny _ _ (call (Value.builtin _) [Value.ref _, Value.int _ _, Value.int _ _]) _ _ _); k_dflt (refine' get0_raw ?zqS ?zqD ?zqhg ?_; (case zqD => assumption); (case zqhg => assumption); (case zqS => walk_at "v_sees")); intro _)
  k_with "exec Assign cons ListComp" => (k_here; k_dflt (refine' comp_assign ?zqsw ?zqcl ?zqce ?zqk ?zqn ?zqx ?zqy ?zqp ?_; (case zqsw => rfl); (case zqcl => exact rfl); (case zqce => decide); (case zqk => rfl); (case zqn => decide); (case zqx => rfl); (case zqy => rfl); (case zqp => rfl)))
  k_with "compareOp NotIn int ref" => (k_here; k_dflt (refine' edict_notin ?zqS ?zqD ?_; (case zqD => assumption); (case zqS => walk_at "v_sees")))
  k_with "compareOp In int ref" => (k_here; k_dflt (refine' edict_in ?zqS ?zqD ?_; (case zqD => assumption); (case zqS => walk_at "v_sees")))
  k_with "unpackItems ref" => (k_here; k_dflt (refine' unpackItemsN_ ?zqk1 ?zqk2 ?zqk3 ?zqk4 ?zqk5 ?_; (case zqk1 => k_asm); (case zqk2 => k_asm); (case zqk3 => kun_tup); (case zqk4 => first | assumption | exact Rm.hd_deeper (by assumption) _); (case zqk5 => exact rfl); k_whole); intro _ _ _; (try k_sweep))
  k_with "assign Tuple" => (k_here; (with_reducible show wpAny _ _ (assign (Expr.Tuple _ _ _) _ (Value.ref _)) _ _ _); k_dflt (refine' unpackN_ ?zqk1 ?zqk2 ?zqk3 ?zqk4 ?zqk5 ?zqk6 ?_; (case zqk1 => k_asm); (case zqk2 => k_asm); (case zqk3 => first | kun_tup | exact tup_sees (by assumption) (by walk_at "v_sees")); (case zqk4 => first | assumption | exact Rm.hd_deeper (by assumption) _); (case zqk5 => exact rfl); (case zqk6 => exact rfl); k_whole); intro _ _ _; (try k_sweep))
  trivial
/-- what told says of the entry at k -/
def toldD (es : List (Int × Ent)) (k : Int) : Dat := match getE es k with
  | some e => .tuple [.int k, .tuple [.str e.way, .int e.one, .int e.two]]
  | none => .none
theorem told_spec {w : World} {A : Around} {E : Value → Shared → Prop} {s : Shared} {Q : Value → Shared → Prop} {b : Heap} {V : Led} {d : Addr} {es : List (Int × Ent)}
    (R : Rm A 3 40) (G : Gd w b) (S : b.StaysIn s.heap) (Sv : Sees V s.heap) (D : EDict w V d es) (hz : es.length < 60)
    (ret : ∀ (r : Addr) (nl : Led) (ks : List Int) (ys : List Value) (n : Nat) (h' : Heap) (tk : Nat), Ext [] s.heap h' → Born s.heap h' nl → ks.Perm (es.map (·.1)) → ks.Pairwise (· ≤ ·) → (r, W.listOf (List.toArray ys) n) ∈ nl → DatAll nl ys (ks.map (toldD es)) → Q (.ref r) { s with heap := h', toks := tk }) :
    wpAny (model PR w) A (call (.ref 163) [.ref d]) Q E s := by
  obtain ⟨X, l, mg, mb, T⟩ := G
  refine call_fnC (R.less (by omega) (by omega)) X T.nolimit S [] (fun p hp => nomatch hp) (by k_is) (by k_is) (BindsTo.of_eq rfl) (by rfl) (by decide +kernel) (fun g L h₁ tk cells st kp F N Y l1 => ?_)
  have hY := CellsAre.one Y
  obtain ⟨oc, rfl, dc⟩ := hY
  have X := X.keeps st
  have T := T.keeps st
  have Sg : Sees V g := fun p hp => kp _ _ (Sv p hp) (by first | walk_at "mm" | simp)
  simp only [List.cons_append, List.nil_append] at N
  k_steps
  rename_i r1 h1 tk1 vs ns n F1 N1 l2 hi hp ho
  have hlv := hi.length
  have hln : ns.length = es.length := by rw [hp.length_eq, List.length_map]
  have h1r := N1 _ List.mem_cons_self
  have h1c := N1 _ (List.mem_cons_of_mem _ List.mem_cons_self)
  refine list_comp (σ := Unit) (vs := vs) (fun _ => []) [] (fun V _ i ys => DatAll V ys ((ns.take i).map (toldD es))) () R.hd ⟨_, h1r.1, rfl, ⟨_, rfl⟩⟩ (fun q => nomatch q) (by omega) (fun _ => rfl) (fun p hp => nomatch hp) (fun V U c i ys h sub => h.mono sub) (fun V c i ys h => by have := h.length; simp at this; omega) .nil ?turn ?done
  case turn =>
    rintro c i v ys U tl s' C h tk m g' rfl hC kp' hv hD sub off hx F2 N2
    have st' : g.StaysIn g' := fun a o e => kp' a o (F1.keep a o e) (fun q => nomatch q) fun q => by subst q; rw [h1r.2.2] at e; cases e
    have X := X.keeps st'
    have T := T.keeps st'
    have Sg' : Sees V g' := Sg.keep st'
    have hc' := kp' _ _ h1c.1 (fun q => nomatch q) (l2 (L + 1, oc) (by first | walk_at "mm" | simp))
    obtain ⟨k, t, hk, rfl⟩ := IntsAre.at hi hv
    have hmem : k ∈ es.map (·.1) := hp.mem_iff.mp (List.mem_of_getElem? hk)
    obtain ⟨e, he⟩ := Option.isSome_iff_exists.mp (show (getE es k).isSome = true by rw [getE_isSome]; exact decide_eq_true hmem)
    have hE := D.ents _ (getE_mem he)
    simp only [List.nil_append] at N2
    have dc' : oc.data = .cell (some (.ref d)) := dc
    refine wpAny_tests_nil ?_
    simp only [if_true]
    k_steps
    rename_i T1 a1 b1 c1 h2 tk2 l3 D2 h3 F3 N3 l4
    refine CTurnEnd.intro F3 N3 () ((D2, { cls := .type "tuple", data := .seq #[.int k t, .ref T1] }) :: (T1, { cls := .type "tuple", data := .seq #[.str e.way a1, .int e.one b1, .int e.two c1] }) :: U) (fun p hp => nomatch hp) (fun p hp => List.mem_cons_of_mem _ (List.mem_cons_of_mem _ hp)) (fun p hp => ⟨?_, ?_, fun q => nomatch q⟩) ?_
    · rcases List.mem_cons.mp hp with rfl | hp
      · exact List.mem_cons_self
      · rcases List.mem_cons.mp hp with rfl | hp
        · exact List.mem_cons_of_mem _ List.mem_cons_self
        · exact List.mem_cons_of_mem _ (List.mem_cons_of_mem _ (sub _ hp))
    · rcases List.mem_cons.mp hp with rfl | hp
      · exact .inr fun q hq => Nat.ne_of_lt (ltN (AllLt.mem l4.2 q hq))
      · rcases List.mem_cons.mp hp with rfl | hp
        · exact .inr l3
        · exact .inl hp
    · show DatAll _ _ _
      rw [take_map_succ hk]
      refine DatAll.append (hD.mono fun p hp => List.mem_cons_of_mem _ (List.mem_cons_of_mem _ hp)) (DatAll.one ?_)
      unfold toldD
      rw [he]
      exact .tuple (n := 0) List.mem_cons_self (.cons (.int _ _) (.cons (.tuple (n := 0) (List.mem_cons_of_mem _ List.mem_cons_self) (.cons (.str _ _) (.cons (.int _ _) (.cons (.int _ _) .nil)))) .nil))
  case done =>
    rintro c U C D' ys h tk s₂ hD hE' _ hB hC hCD hVC ⟨o, rfl⟩
    intro h' sb
    obtain ⟨e1, b1⟩ := comp_close hE' hB hC sb (fun p hp => by
      rcases List.mem_cons.mp hp with rfl | hp
      · exact hCD.symm
      · exact hVC p hp)
    refine Back.intro (Fr.keeps F1 e1.keep) fun hE2 => ?_
    rw [hlv, List.take_length] at hD
    exact ret D' ((D', lst ys) :: U) ns ys _ h' tk hE2 (Born.back kp b1 F1.keep fun p hp q => nomatch q) hp ho List.mem_cons_self (hD.mono fun p hp => List.mem_cons_of_mem _ hp)
end S_OTold
section S_OFree
theorem reg14 : True := by
  k_with_none
  k_with "mm" => ((repeat' (first | (with_reducible exact List.mem_cons_self) | (with_reducible assumption) | (with_reducible refine List.mem_cons_of_mem _ ?_))); done)
  k_with "sub" => ((repeat' (first | (with_reducible exact sub_nil _) | (with_reducible refine sub_cons ?_ ?_) | (with_reducible exact List.mem_cons_self) | (with_reducible refine List.mem_cons_of_mem _ ?_) | (with_reducible assumption) | (intro p9 hp9))); done)
  k_with "v_sees" => first | exact Sees.keep (by assumption) (Fr.keep (by k_asm)) | exact Sees.sub (News.sees (by k_asm)) (fun _ h => by first | exact h | (refine List.mem_cons_of_mem _ ?_; exact h) | (refine List.mem_cons_of_mem _ (List.mem_cons_of_mem _ ?_); exact h))
  k_with "eval Name" => (k_here; (with_reducible show wpAny _ _ (eval (Expr.Name _ _) (compEnvC _ _ _ _)) _ _ _); k_dflt (first | (refine' nameB_L ?zqF ?zqv ?_ ?zqa ?zqb; (case zqF => k_asm); (case zqv => assumption); (case zqa => rfl); (case zqb => rfl)) | (refine' nameB_C ?zqF ?zqc ?zqo ?zqd ?_ ?zqa ?zqb; (case zqF => k_asm); (case zqa => rfl); (case zqb => rfl); (case zqc => rfl); (case zqo => assumption); (case zqd => assumption)) | (refine' nameB_G ?zqF ?zqX ?zqT ?zqe ?_ ?zqg ?zqa ?zqb; (case zqF => k_asm); (case zqX => k_asm); (case zqT => k_asm); (case zqg => rfl); (case zqa => rfl); (case zqb => rfl); (case zqe => k_is)) | (refine' nameB_B ?zqF ?zqX ?zqT ?zqe ?zqv ?zqn ?_ ?zqg ?zqh ?zqa ?zqb; (case zqF => k_asm); (case zqX => k_asm); (case zqT => k_asm); (case zqg => rfl); (case zqh => rfl); (case zqa => rfl); (case zqb => rfl); (case zqe => k_is); (case zqv => boot_fast); (case zqn => decide))))
  k_with "getAttr ref" => (k_here; (with_reducible show wpAny _ _ (getAttr (Value.ref _) (PySem.Str.ofString "way") _) _ _ _); k_dflt (refine' ent_way ?zqF ?zqX ?zqS ?zqx ?_; (case zqx => assumption); (case zqF => k_asm); (case zqX => k_asm); (case zqS => walk_at "v_sees")); intro _)
  k_with "getAttr ref" => (k_here; (with_reducible show wpAny _ _ (getAttr (Value.ref _) (PySem.Str.ofString "one") _) _ _ _); k_dflt (refine' ent_one ?zqF ?zqX ?zqS ?zqx ?_; (case zqx => assumption); (case zqF => k_asm); (case zqX => k_asm); (case zqS => walk_at "v_sees")); intro _)
  k_with "getAttr ref" => (k_here; (with_reducible show wpAny _ _ (getAttr (Value.ref _) (PySem.Str.ofString "two") _) _ _ _); k_dflt (refine' ent_two ?zqF ?zqX ?zqS ?zqx ?_; (case zqx => assumption); (case zqF => k_asm); (case zqX => k_asm); (case zqS => walk_at "v_sees")); intro _)
  k_with "getMethod ref" => (k_here; (with_reducible show wpAny _ _ (getMethod (Value.ref _) (PySem.Str.ofString "told") _) _ _ _); k_dflt (refine' ent_told ?zqF ?zqX ?zqS ?zqx ?_; (case zqx => assumption); (case zqF => k_asm); (case zqX => k_asm); (case zqS => walk_at "v_sees")))
  k_with "call builtin:sorted" => (k_here; (with_reducible show wpAny _ _ (call (Value.builtin _) [Value.ref _]) _ _ _); k_dflt (refine' sorted_edict ?zqhh ?zqS ?zqD ?zqF ?zqN ?zqz ?_; (case zqhh => first | assumption | exact Rm.hd_deeper (by assumption) _); (case zqD => assumption); (case zqF => k_asm); (case zqN => k_asm); (case zqS => walk_at "v_sees"); (case zqz => omega)); intro _ _ _ _ _ _ _ _ _ _ _ _; (try k_sweep))
  k_with "subscriptTail" => (k_here; (with_reducible show wpAny _ _ (subscriptTail _ _ (Value.ref _) (Value.int _ _)) _ _ _); k_dflt (refine' edict_item ?zqS ?zqD ?zqv ?_; (case zqD => assumption); (case zqv => assumption); (case zqS => walk_at "v_sees")))
  k_with "call ref" => (k_here; k_dflt (refine' told_use ?zqR ?zqX ?zqT ?zqF ?zqN ?zqS ?zqEn ?_; (case zqEn => assumption); (case zqR => first | exact Rm.less (by assumption) (by omega) (by omega) | exact Rm.deeper (Rm.less (by assumption) (by omega) (by omega)) _); (case zqX => k_asm); (case zqT => k_asm); (case zqF => k_asm); (case zqN => k_asm); (case zqS => walk_at "v_sees")); intro _ _ _ _ _ _ _ _ _; (try k_sweep))
  k_with "eval ListComp" => (k_here; k_dflt (refine' comp_raw ?zqcl ?zqce ?zqk ?zqn ?zqx ?_; (case zqcl => exact rfl); (case zqce => decide); (case zqk => rfl); (case zqn => decide); (case zqx => rfl)))
  k_with "exec For Name Call cons nil" => (k_here; k_dflt (refine for_raw (by rfl) (by rfl) ?_))
  k_with "exec For Name Name cons nil" => (k_here; k_dflt (refine for_raw (by rfl) (by rfl) ?_))
  k_with "call ref" => (k_here; k_dflt (refine' entry_use ?zqR ?zqX ?zqT ?zqF ?zqN ?_; (case zqR => exact Rm.deeper (Rm.less (by assumption) (by omega) (by omega)) _); (case zqX => k_asm); (case zqT => k_asm); (case zqF => k_asm); (case zqN => k_asm)); intro _ _ _ _ _ _ _ _ _ _ _ _ _ _ _ _ _; rename_i l1 l2 gw' g1' g2' gt'; (try k_lt l1); (try k_lt2 l2); (try k_sweep); revert l1 l2 gw' g1' g2' gt'; intro _ _ _ _ _ _)
  k_with "setItem ref int ref" => (k_here; k_dflt (refine' dict_set_K ?zqF ?zqN ?zqU ?zqhd ?zqhz ?_; (case zqF => k_asm); (case zqN => k_asm); (case zqU => k_updF); (case zqhd => assumption); (case zqhz => assumption)); intro _ _ _ _ _; rename_i N' hd'; (try dsimp only at N'); (try k_sweep); revert N' hd'; intro _ _)
  k_with "getMethod ref" => (k_here; (with_reducible show wpAny _ _ (getMethod (Value.ref _) (PySem.Str.ofString "get") _) _ _ _); k_dflt (refine' get_method ?zqS ?zqD ?_; (case zqD => first | assumption | exact EDict.dict (by assumption)); (case zqS => walk_at "v_sees")))
  k_with "call builtin:dict.get" => (k_here; (with_reducible show wpAny _ _ (call (Value.builtin _) [Value.ref _, Value.int _ _, Value.int _ _]) _ _ _); k_dflt (refine' get0_raw ?zqS ?zqD ?zqhg ?_; (case zqD => assumption); (case zqhg => assumption); (case zqS => walk_at "v_sees")); intro _)
  k_with "exec Assign cons ListComp" => (k_here; k_dflt (refine' comp_assign ?zqsw ?zqcl ?zqce ?zqk ?zqn ?zqx ?zqy ?zqp ?_; (case zqsw => rfl); (case zqcl => exact rfl); (case zqce => decide); (case zqk => rfl); (case zqn => decide); (case zqx => rfl); (case zqy => rfl); (case zqp => rfl)))
  k_with "compareOp NotIn int ref" => (k_here; k_dflt (refine' edict_notin ?zqS ?zqD ?_; (case zqD => assumption); (case zqS => walk_at "v_sees")))
  k_with "compareOp In int ref" => (k_here; k_dflt (refine' edict_in ?zqS ?zqD ?_; (case zqD => assumption); (case zqS => walk_at "v_sees")))
  k_with "unpackItems ref" => (k_here; k_dflt (refine' unpackItemsN_ ?zqk1 ?zqk2 ?zqk3 ?zqk4 ?zqk5 ?_; (case zqk1 => k_asm); (case zqk2 => k_asm); (case zqk3 => kun_tup); (case zqk4 => first | assumption | exact Rm.hd_deeper (by assumption) _); (case zqk5 => exact rfl); k_whole); intro _ _ _; (try k_sweep))
  k_with "assign Tuple" => (k_here; (with_reducible show wpAny _ _ (assign (Expr.Tuple _ _ _) _ (Value.ref _)) _ _ _); k_dflt (refine' unpackN_ ?zqk1 ?zqk2 ?zqk3 ?zqk4 ?zqk5 ?zqk6 ?_; (case zqk1 => k_asm); (case zqk2 => k_asm); (case zqk3 => first | kun_tup | exact tup_sees (by assumption) (by walk_at "v_sees")); (case zqk4 => first | assumption | exact Rm.hd_deeper (by assumption) _); (case zqk5 => exact rfl); (case zqk6 => exact rfl); k_whole); intro _ _ _; (try k_sweep))
  trivial
/-- a row of a dict of entries: its key, and what it tells -/
abbrev rowOf (p : Int × Ent) : Int × Str × Int × Int := (p.1, p.2.way, p.2.one, p.2.two)
def chainRow (f : Int → Int) (line : List Int) (i : Nat) : Int × Str × Int × Int := ((line[i]?).getD 0, Str.ofString "free", (line[i + 1]?).getD 0, if i = 0 then 65535 else f ((line[i]?).getD 0))
def chainRows (f : Int → Int) (line : List Int) : List (Int × Str × Int × Int) := (List.range line.length).map (chainRow f line)
theorem rowOf_keys {es : List (Int × Ent)} {rs : List (Int × Str × Int × Int)} (h : es.map rowOf = rs) : es.map (·.1) = rs.map (·.1) := by
  rw [← h, List.map_map]; rfl
theorem fr3F {g h : Heap} {L : Addr} {m : Str → Option Value} {a b c : Str} {x y z : Option Value} (F : Fr g L h m) (h1 : m a = x) (h2 : m b = y) (h3 : m c = z) : ∃ u : Str → Option Value, Fr g L h (fun v => if v = a then x else if v = b then y else if v = c then z else u v) := by
  obtain ⟨u, e⟩ := names3 h1 h2 h3
  exact ⟨u, e ▸ F⟩
/-- the end of a turn of free_chain's loop -/
inductive FreeT (w : World) (g : Heap) (L d ll nl gd : Addr) (us vs0 : List Value) (n0 : Nat) (es : List (Int × Ent)) (k one two : Int) (s : Shared) (tl : Led) : Shared → Prop
  | mk (x dx : Addr) (h8 : Heap) (tk8 : Nat) (es5 : List DictEntry) (n5 : Nat) (a5 b5 c5 : Tok) (od8 : Obj) (u8 : Str → Option Value) (gw : getL (Str.ofString "way") es5 = some (some (.str (Str.ofString "free") a5))) (ga : getL (Str.ofString "one") es5 = some (some (.int one b5))) (gb : getL (Str.ofString "two") es5 = some (some (.int two c5))) (gt : getL (Str.ofString "told") es5 = some none)
    (l5 : d < dx ∧ ll < dx ∧ nl < dx ∧ AllLt dx tl) (l6 : dx < x) (F8 : Fr g L h8 (fun z => if z = Str.ofString "found" then some (.ref d) else if z = Str.ofString "line" then some (.ref ll) else if z = Str.ofString "generations" then some (.ref gd) else u8 z))
    (N8 : News g L h8 ((x, instObj 78 dx) :: (dx, dictOf es5 n5) :: (d, od8) :: (ll, W.listOf (List.toArray us) 0) :: (nl, W.listOf (List.toArray vs0) n0) :: tl)) (hd8 : od8.IsDictOf (PySem.intKind PR w) (stored (kvOf es) k (.ref x))) : FreeT w g L d ll nl gd us vs0 n0 es k one two s tl { s with heap := h8, toks := tk8 }
theorem free_spec {w : World} {A : Around} {E : Value → Shared → Prop} {s : Shared} {Q : Value → Shared → Prop} {b : Heap} {Vg : Led} {nl gd : Addr} {vs0 : List Value} {ns0 : List Int} {n0 : Nat} {gkvs : List (Int × Value)}
    (R : Rm A 4 60) (G : Gd w b) (S : b.StaysIn s.heap) (fb : b.get? nl = none) (hl : s.heap.get? nl = some (W.listOf (List.toArray vs0) n0)) (hi : IntsAre vs0 ns0) (hz : ns0.length < 60) (hnd : ns0.Nodup)
    (Sv : Sees Vg s.heap) (D : DictV w Vg gd gkvs) (hne : ∀ p ∈ Vg, p.1 ≠ nl) (hg : ∀ p ∈ gkvs, ∃ v t, p.2 = .int v t)
    (ret : ∀ (d : Addr) (od : Obj) (nw : Led) (es : List (Int × Ent)) (line : List Int) (h' : Heap) (tk : Nat), Ext [] s.heap h' → Born s.heap h' ((d, od) :: nw) → (d == sysModules) = false → od.IsDictOf (PySem.intKind PR w) (kvOf es) → (∀ p ∈ es, EntV nw p.2) → (∀ p ∈ nw, p.1 ≠ d) → line.Perm (ns0.filter (0 < ·)) → line.Pairwise (· ≤ ·) → es.map rowOf = chainRows (gv gkvs) (0 :: line) → Q (.ref d) { s with heap := h', toks := tk }) :
    wpAny (model PR w) A (call (.ref 87) [.ref nl, .ref gd]) Q E s := by
  obtain ⟨X, l, mg, mb, T⟩ := G
  refine call_fn (R.less (by omega) (by omega)) X T.nolimit S [(nl, _)] (by
    intro p hp'
    simp only [List.mem_cons, List.not_mem_nil, or_false] at hp'
    rcases hp' with rfl
    exact ⟨hl, fb⟩) (by k_is) (by k_is) (BindsTo.of_eq rfl) (locs rfl) (fun g L h₁ st kp F N => ?_) (by decide)
  have X := X.keeps st
  have T := T.keeps st
  have Sg : Sees Vg g := fun p hp => kp _ _ (Sv p hp) (by simpa using hne p hp)
  k_steps
  rename_i l0 h0 l1 r1 vs ns n h1 F1 N1 hi1 hlen1 hp ho hb hp0 l2
  have hlv := hi1.length
  have h1r := N1 _ List.mem_cons_self
  clear hb
  refine list_comp (σ := Unit) (vs := vs) (fun _ => []) [] (fun V _ i ys => IntsAre ys ((ns.take i).filter (0 < ·))) () R.hd ⟨_, h1r.1, rfl, ⟨_, rfl⟩⟩ (fun q => nomatch q) (by omega) (fun _ => rfl) (fun p hp => nomatch hp) (fun V U c i ys h sub => h) (fun V c i ys h => by have := h.length; have := List.length_filter_le (fun x => decide (0 < x)) (ns.take i); simp at *; omega) .nil ?turn ?done
  case turn =>
    rintro c i v ys U tl s' C h tk m g' rfl hC kp' hv hD sub off hx F2 N2
    have st' : g.StaysIn g' := fun a o e => kp' a o (F1.keep a o e) (fun q => nomatch q) fun q => by subst q; rw [h1r.2.2] at e; cases e
    have X := X.keeps st'
    have T := T.keeps st'
    obtain ⟨k, t, hk, rfl⟩ := IntsAre.at hi1 hv
    simp only [List.nil_append] at N2
    refine wpAny_tests_one ?_
    k_steps
    · refine CTurnEnd.intro F2 N2 () [] (fun p hp => nomatch hp) (fun p hp => hp) (fun p hp => nomatch hp) ?_
      show IntsAre _ _
      rw [List.take_add_one, hk, List.filter_append]
      rename_i h0k
      simp only [Option.toList_some, List.filter_cons, h0k, decide_true, List.filter_nil, if_true]
      exact hD.append (.cons _ _ .nil)
    · refine CTurnEnd.intro F2 N2 () [] (fun p hp => nomatch hp) (fun p hp => hp) (fun p hp => nomatch hp) ?_
      show IntsAre _ _
      rw [List.take_add_one, hk, List.filter_append]
      rename_i h0k
      simpa only [Option.toList_some, List.filter_cons, h0k, decide_false, List.filter_nil, if_false, List.append_nil, Bool.false_eq_true] using hD
  case done =>
    rintro c U C D' ys h tk s₂ hD hE' _ hB hC hCD hVC ⟨o, rfl⟩
    intro h' sb
    obtain ⟨e1, b1⟩ := comp_close hE' hB hC sb (fun p hp => by
      rcases List.mem_cons.mp hp with rfl | hp
      · exact hCD.symm
      · exact hVC p hp)
    rw [hlv, List.take_length] at hD
    generalize hline : ns.filter (fun x => decide (0 < x)) = line at hD
    have F2 := Fr.keeps F1 e1.keep
    obtain ⟨N2, nD⟩ := news_two (o := W.listOf ys.toArray ys.length) F1 N1 e1.keep (b1 _ List.mem_cons_self).2 (b1 _ List.mem_cons_self).1
    dsimp only at N2
    simp only [List.mem_cons, List.not_mem_nil, or_false, forall_eq_or_imp, forall_eq] at nD
    clear F1 N1 hE' hB e1
    have hll : line.length ≤ ns0.length := by rw [← hline, ← hlen1]; exact List.length_filter_le _ _
    have k0 := N2 _ (List.mem_cons_of_mem _ (List.mem_cons_of_mem _ List.mem_cons_self))
    refine kmk_add_ints F2 N2 ⟨_, k0.1, rfl, ⟨_, rfl⟩⟩ ⟨_, (N2 _ List.mem_cons_self).1, rfl, ⟨_, rfl⟩⟩ (.cons 0 _ .nil) hD (fun ll us h2 F3 N3 l3 hu => ?_) (by rw [sizeLine_eq]; simp; omega)
    simp only [List.mem_cons, List.not_mem_nil, or_false, forall_eq_or_imp, forall_eq] at l3
    obtain ⟨l3a, l3b, l3c, l3d⟩ := l3
    simp only [List.cons_append, List.nil_append] at hu
    k_steps
    rename_i d h3 od lo _ _ hd1 _ l4 h4 F4 N4 h5 tk5 t5 u5 v5 hr F5 N5 k5
    have hnd1 : (0 :: line).Nodup := by
      have h1 : ns.Nodup := hp0.nodup_iff.mpr hnd
      rw [List.nodup_cons]
      refine ⟨fun q => ?_, by rw [← hline]; exact h1.filter _⟩
      rw [← hline] at q
      have := (List.mem_filter.mp q).2
      simp at this
    have hul := hu.length
    refine range_K (σ := Obj × List (Int × Ent)) (V₀ := []) (fun c => [(d, c.1), (ll, W.listOf (List.toArray us) 0), (nl, W.listOf (List.toArray vs0) n0)]) [d, ll, nl]
      (fun V c i => c.1.IsDictOf (PySem.intKind PR w) (kvOf c.2) ∧ (∀ p ∈ c.2, EntV V p.2) ∧ c.2.map rowOf = (List.range i).map (chainRow (gv gkvs) (0 :: line)))
      (fun m c i => ∃ u : Str → Option Value, m = fun z => if z = Str.ofString "found" then some (.ref d) else if z = Str.ofString "line" then some (.ref ll) else if z = Str.ofString "generations" then some (.ref gd) else u z)
      (od, []) R.hd hr (by omega) (by omega) (by omega) (by omega) (fun c => rfl) F5 N5 ?hK ?mono ?h0 (fun p hp => nomatch hp) ?hm ?turn2 ?done2
    case hK =>
      intro p hp
      simp only [List.mem_cons, List.not_mem_nil, or_false] at hp
      rcases hp with rfl | rfl | rfl <;> simp
    case mono =>
      rintro V U c i ⟨h1, h2, h3⟩ sub
      exact ⟨h1, fun p hp => (h2 p hp).mono sub, h3⟩
    case h0 => exact ⟨hd1, fun p hp => (nomatch hp), rfl⟩
    case hm => exact names3 rfl rfl rfl
    case turn2 =>
      rintro ⟨od, es⟩ i t V tl s' h tk m rfl hi6 ⟨hd2, hE, hrow⟩ ⟨u, rfl⟩ sub off F6 N6
      clear F4 N4 F5 N5 hr hd1
      dsimp only at hd2 hE hrow N6
      simp only [List.cons_append, List.nil_append] at N6
      have hi7 : i < line.length + 1 := by simp at hi6; omega
      have hel : es.length = i := by have := congrArg List.length hrow; simpa using this
      have hz : (kvOf es).length ≤ 1000 := by simp [kvOf]; omega
      have hnk : ((0 :: line)[i]?).getD 0 ∉ es.map (·.1) := by
        rw [rowOf_keys hrow, List.map_map]
        intro q
        obtain ⟨j, hj, e⟩ := List.mem_map.mp q
        exact nodup_at hnd1 (i := i) (by simpa using hi7) (List.mem_range.mp hj) e
      have key : (0 + (i : Int) + 1).toNat = i + 1 := by omega
      have key0 : (0 + (i : Int)).toNat = i := by omega
      refine wpAny_mono (Q := fun f s'' => f = .next ∧ FreeT w g L d ll nl gd us vs0 n0 es (((0 :: line)[i]?).getD 0) (((0 :: line)[i + 1]?).getD 0) (if i = 0 then 65535 else gv gkvs (((0 :: line)[i]?).getD 0)) s tl s'') ?walk ?post fun _ _ e => e
      case walk =>
        k_steps
        all_goals
          rename_i x dx h7 tk7 es5 n5 a5 b5 c5 gw g1 g2 gt l5 l6 t6 h8 od8 F8 N8 hd8
          simp only [key, key0, List.getD_eq_getElem?_getD] at g1 g2 hd8
          obtain ⟨u8, F8⟩ := fr3F (a := Str.ofString "found") (b := Str.ofString "line") (c := Str.ofString "generations") (x := some (.ref d)) (y := some (.ref ll)) (z := some (.ref gd)) F8 rfl rfl rfl
          refine ⟨x, dx, h8, _, es5, n5, a5, b5, c5, od8, u8, gw, ?_, ?_, gt, l5, l6, F8, N8, hd8⟩
          · first
            | exact g1
            | (rw [List.getElem?_eq_none (by simp only [List.length_cons]; omega)]; exact g1)
          · first
            | (rw [if_pos (by omega)]; exact g2)
            | (rw [if_neg (by omega)]; exact g2)
      case post =>
        rintro f s'' ⟨rfl, ⟨x, dx, h8, tk8, es5, n5, a5, b5, c5, od8, u8, gw, ga, gb, gt, l5, l6, F8, N8, hd8⟩⟩
        have lt1 := AllLt.mem l5.2.2.2
        have q1 := ltN l5.1
        have q2 := ltN l5.2.1
        have q3 := ltN l5.2.2.1
        have q4 := ltN l6
        show TurnEnd _ _ _ _ _ _ _ _ _ _ _
        refine TurnEnd.intro F8 N8 (od8, es ++ [(((0 :: line)[i]?).getD 0, ⟨x, Str.ofString "free", ((0 :: line)[i + 1]?).getD 0, if i = 0 then 65535 else gv gkvs (((0 :: line)[i]?).getD 0)⟩)]) ((x, instObj 78 dx) :: (dx, dictOf es5 n5) :: V) ?_ ?_ ?_ ⟨?_, ?_, ?_⟩ ⟨u8, rfl⟩
        · intro p hp
          revert p hp
          walk_at "sub"
        · intro p hp
          simp [hp]
        · intro p hp
          rcases List.mem_cons.mp hp with rfl | hp
          · refine ⟨by simp, .inr fun q hq => ?_, ?_⟩
            · have := ltN (lt1 q hq)
              have l7 := ltN l6
              refine neN ?_
              dsimp only
              omega
            · simp only [List.mem_cons, List.not_mem_nil, or_false, not_or]
              refine ⟨neN ?_, neN ?_, neN ?_⟩ <;> omega
          · rcases List.mem_cons.mp hp with rfl | hp
            · refine ⟨by simp, .inr fun q hq => ?_, ?_⟩
              · have := ltN (lt1 q hq)
                exact Nat.ne_of_lt this
              · simp only [List.mem_cons, List.not_mem_nil, or_false, not_or]
                refine ⟨neN ?_, neN ?_, neN ?_⟩ <;> omega
            · refine ⟨by simp [sub p hp], .inl hp, fun q => ?_⟩
              exact off p (sub p hp) _ q rfl
        · have e := storeE_new ⟨x, Str.ofString "free", ((0 :: line)[i + 1]?).getD 0, if i = 0 then 65535 else gv gkvs (((0 :: line)[i]?).getD 0)⟩ hnk
          show od8.IsDictOf _ (kvOf _)
          rw [← e, ← kv_storeE]
          exact hd8
        · intro p hp
          rcases List.mem_append.mp hp with hp | hp
          · exact (hE p hp).mono fun q hq => by simp [hq]
          · rw [List.mem_singleton.mp hp]
            exact ⟨dx, es5, n5, a5, b5, c5, by simp, by simp, gw, ga, gb, gt⟩
        · show (es ++ _).map rowOf = _
          rw [List.map_append, hrow, List.range_succ, List.map_append]
          rfl
    case done2 =>
      rintro ⟨od, es⟩ V h tk m ⟨hd2, hE, hrow⟩ ⟨u, rfl⟩ F6 N6 off
      dsimp only at hd2 hE hrow N6 ⊢
      simp only [List.cons_append, List.nil_append] at N6
      k_steps
      refine Back.intro F6 fun hE' => ret d od V es line _ _ (Ext.drop hE' hl ?_) (born_of kp (fun p hp => ?_) N6 fun p hp => ?_) lo hd2 hE (fun p hp => off p hp _ (by first | walk_at "mm" | simp)) ?_ ?_ ?_
      · exact N6.get (by first | walk_at "mm" | simp)
      · rcases List.mem_cons.mp hp with rfl | hp
        · simp
        · simp [hp]
      · simp only [List.map, List.mem_cons, List.not_mem_nil, or_false]
        rcases List.mem_cons.mp hp with rfl | hp
        · exact neN (by dsimp only; omega)
        · exact off p hp _ (by first | walk_at "mm" | simp)
      · rw [← hline]; exact hp0.filter _
      · rw [← hline]; exact ho.filter _
      · rw [hrow]
        unfold chainRows
        congr 2
end S_OFree
section S_ODictK
theorem reg15 : True := by
  k_with_none
  k_with "mm" => ((repeat' (first | (with_reducible exact List.mem_cons_self) | (with_reducible assumption) | (with_reducible refine List.mem_cons_of_mem _ ?_))); done)
  k_with "sub" => ((repeat' (first | (with_reducible exact sub_nil _) | (with_reducible refine sub_cons ?_ ?_) | (with_reducible exact List.mem_cons_self) | (with_reducible refine List.mem_cons_of_mem _ ?_) | (with_reducible assumption) | (intro p9 hp9))); done)
  trivial
section
variable {prog : Program} {w : World} {A : Around} {E : Value → Shared → Prop} {s : Shared} {env : Env} {x : Str} {body : List Stmt} {Q : Flow → Shared → Prop} {g : Heap}
theorem turn_any {σ : Type} {L : Addr} {Kn : σ → Led} {Fact : Led → σ → Nat → Prop} {mOK : (Str → Option Value) → σ → Nat → Prop} {adr : List Addr} {V tl : Led} {i : Nat} {s s' : Shared} {s'' : Shared}
    (e : ∃ h tk, s'' = { s with heap := h, toks := tk }) (q : TurnEnd g L Kn Fact mOK adr V tl i s'' s') : TurnEnd g L Kn Fact mOK adr V tl i s s' := by
  obtain ⟨h, tk, rfl⟩ := e
  obtain ⟨c', V', h', tk', m', led', rfl, r⟩ := q
  exact ⟨c', V', h', tk', m', led', rfl, r⟩
/-- a for loop over a dict of int keys -/
theorem dict_K {σ : Type} {d : Addr} {kvs : List (Int × Value)} {m₀ : Str → Option Value} {led V₀ : Led}
    (Kn : σ → Led) (adr : List Addr) (Fact : Led → σ → Nat → Prop) (mOK : (Str → Option Value) → σ → Nat → Prop) (c₀ : σ)
    (hh : A.handled = none) (lo : (d == sysModules) = false) (D : s.heap.DictOf (PySem.intKind prog w) d kvs) (hda : d ∉ adr) (hdL : d ≠ env.locals) (hadr : ∀ c, (Kn c).map (·.1) = adr)
    (F : Fr g env.locals s.heap m₀) (N : News g env.locals s.heap led) (hK : ∀ p ∈ Kn c₀, p ∈ led) (mono : ∀ V U c i, Fact V c i → (∀ p ∈ V, p ∈ U) → Fact U c i) (h0 : Fact V₀ c₀ 0) (hV : ∀ p ∈ V₀, p ∈ led ∧ p.1 ∉ adr) (hm : mOK m₀ c₀ 0)
    (turn : ∀ (c : σ) (i : Nat) (k : Int) (v : Value) (t : Tok) (V tl : Led) s' h tk m, s' = { s with heap := h, toks := tk } → kvs[i]? = some (k, v) → Fact V c i → mOK m c i → (∀ p ∈ V, p ∈ tl) → OwnOff tl adr → Fr g env.locals h (fun y => if y = x then some (.int k t) else m y) → News g env.locals h (Kn c ++ tl) →
      wpAny (model prog w) A (execs body env) (fun f s'' => match f with
        | .ret v => Q (.ret v) s''
        | .brk => Q .next s''
        | _ => TurnEnd g env.locals Kn Fact mOK adr V tl (i + 1) s' s'') (fun _ _ => False) s')
    (done : ∀ c V h tk m, Fact V c kvs.length → mOK m c kvs.length → Fr g env.locals h m → News g env.locals h (Kn c ++ V) → OwnOff V adr → Q .next { s with heap := h, toks := tk }) :
    wpAny (model prog w) A (pyIter (.ref d)) (fun it s₂ => ForAt prog w A env x body Q it s₂) E s := by
  obtain ⟨ep, hat⟩ := D.dictAt
  have hne : d ≠ s.heap.objs.size := Nat.ne_of_lt hat.lt_size
  refine wpAny_pyIter_dict lo hat ?_
  obtain ⟨F', N', hI, gI, hV'⟩ := iter_push (oI := { cls := .type "dict_keyiterator", data := .fields #[.ref d, .int 0 0, .int kvs.length 0, .int ep 0] }) hadr F N hK hV
  refine forAt_K Kn adr Fact mOK c₀ (Walks.dictKeys (knd := PySem.intKind prog w) hh s.heap.objs.size d hne kvs ep) (fun b hb => ?_) (fun b hb => ?_) (fun i h st b hb => ?_) ?_ hadr F' N' hK mono h0 hV' hm (fun c i v V tl h tk m hi hP h1 h2 h3 h4 F N => ?_) fun c V h tk m h1 h2 F N o => done c V h tk m h1 h2 F N o
  · simp only [List.mem_cons, List.not_mem_nil, or_false] at hb
    rcases hb with rfl | rfl
    · exact hI
    · exact ⟨hda, hdL⟩
  · rw [List.mem_singleton.mp hb]; exact gI
  · rw [List.mem_singleton.mp hb]
    obtain ⟨o, e, _⟩ := st.1
    exact ⟨o, e⟩
  · exact ⟨⟨_, Heap.get?_push_size _ rfl, rfl, rfl⟩, hat.push _⟩
  · obtain ⟨k, u, hk, hv⟩ := hP
    obtain ⟨t, rfl⟩ := Value.isInt_shape hv
    exact wpAny_mono (turn c i k u t V tl _ h tk m rfl hk h1 h2 h3 h4 F N) (fun f s'' q => by
      cases f with
      | ret v => exact q
      | brk => exact q
      | next => exact turn_any ⟨_, _, rfl⟩ q
      | cont => exact turn_any ⟨_, _, rfl⟩ q) fun _ _ e => e
/-- a for loop over a list -/
theorem list_K {σ : Type} {l : Addr} {vs : List Value} {m₀ : Str → Option Value} {led V₀ : Led}
    (Kn : σ → Led) (adr : List Addr) (Fact : Led → σ → Nat → Prop) (mOK : (Str → Option Value) → σ → Nat → Prop) (c₀ : σ)
    (hh : A.handled = none) (hl : s.heap.IsList l vs.toArray) (hda : l ∉ adr) (hdL : l ≠ env.locals) (hadr : ∀ c, (Kn c).map (·.1) = adr)
    (F : Fr g env.locals s.heap m₀) (N : News g env.locals s.heap led) (hK : ∀ p ∈ Kn c₀, p ∈ led) (mono : ∀ V U c i, Fact V c i → (∀ p ∈ V, p ∈ U) → Fact U c i) (h0 : Fact V₀ c₀ 0) (hV : ∀ p ∈ V₀, p ∈ led ∧ p.1 ∉ adr) (hm : mOK m₀ c₀ 0)
    (turn : ∀ (c : σ) (i : Nat) (v : Value) (V tl : Led) s' h tk m, s' = { s with heap := h, toks := tk } → vs[i]? = some v → Fact V c i → mOK m c i → (∀ p ∈ V, p ∈ tl) → OwnOff tl adr → Fr g env.locals h (fun y => if y = x then some v else m y) → News g env.locals h (Kn c ++ tl) →
      wpAny (model prog w) A (execs body env) (fun f s'' => match f with
        | .ret v => Q (.ret v) s''
        | .brk => Q .next s''
        | _ => TurnEnd g env.locals Kn Fact mOK adr V tl (i + 1) s' s'') (fun _ _ => False) s')
    (done : ∀ c V h tk m, Fact V c vs.length → mOK m c vs.length → Fr g env.locals h m → News g env.locals h (Kn c ++ V) → OwnOff V adr → Q .next { s with heap := h, toks := tk }) :
    wpAny (model prog w) A (pyIter (.ref l)) (fun it s₂ => ForAt prog w A env x body Q it s₂) E s := by
  have hlt : l < s.heap.objs.size := by obtain ⟨_, e, _⟩ := hl; exact Heap.lt_size e
  refine wpAny_pyIter_list hl ?_
  have hn : vs.toArray.size = vs.length := by simp
  have WL := Walks.list (prog := prog) (w := w) hh s.heap.objs.size l (Nat.ne_of_lt hlt) vs.toArray
  rw [hn] at WL
  obtain ⟨F', N', hI, gI, hV'⟩ := iter_push (oI := { cls := .type "list_iterator", data := .fields #[.ref l, .int 0 0] }) hadr F N hK hV
  refine forAt_K Kn adr Fact mOK c₀ WL (fun b hb => ?_) (fun b hb => ?_) (fun i h st b hb => ?_) ⟨⟨_, Heap.get?_push_size _ rfl, rfl, rfl⟩, hl.push _⟩ hadr F' N' hK mono h0 hV' hm (fun c i v V tl h tk m hi hP h1 h2 h3 h4 F N => ?_) fun c V h tk m h1 h2 F N o => done c V h tk m h1 h2 F N o
  · simp only [List.mem_cons, List.not_mem_nil, or_false] at hb
    rcases hb with rfl | rfl
    · exact hI
    · exact ⟨hda, hdL⟩
  · rw [List.mem_singleton.mp hb]; exact gI
  · rw [List.mem_singleton.mp hb]
    obtain ⟨o, e, _⟩ := st.1
    exact ⟨o, e⟩
  · exact wpAny_mono (turn c i v V tl _ h tk m rfl (by simpa using hP) h1 h2 h3 h4 F N) (fun f s'' q => by
      cases f with
      | ret v => exact q
      | brk => exact q
      | next => exact turn_any ⟨_, _, rfl⟩ q
      | cont => exact turn_any ⟨_, _, rfl⟩ q) fun _ _ e => e
end
section
variable {prog : Program} {w : World} {A : Around} {E : Value → Shared → Prop} {s : Shared} {env : Env} {x : Str}
/-- a comprehension over a dict of int keys -/
theorem dict_comp {σ : Type} {elt : Expr} {ifs : List Expr} {scope : Scope} {cl : List (Str × Addr)} {RR : Shared → List Value → Addr → Addr → Heap → Nat → Prop} {d : Addr} {kvs : List (Int × Value)}
    (Kn : σ → Led) (adr : List Addr) (Fact : Led → σ → Nat → List Value → Prop) (c₀ : σ)
    (hh : A.handled = none) (lo : (d == sysModules) = false) (D : s.heap.DictOf (PySem.intKind prog w) d kvs) (hla : d ∉ adr) (hsz : kvs.length ≤ 100000) (hadr : ∀ c, (Kn c).map (·.1) = adr)
    (hK : ∀ p ∈ Kn c₀, s.heap.get? p.1 = some p.2) (mono : ∀ V U c i ys, Fact V c i ys → (∀ p ∈ V, p ∈ U) → Fact U c i ys) (hlen : ∀ V c i ys, Fact V c i ys → ys.length ≤ i) (h0 : Fact [] c₀ 0 [])
    (turn : ∀ (c : σ) (i : Nat) (k : Int) (u : Value) (t : Tok) (ys : List Value) (V tl : Led) s' C h tk m g, s' = { s with heap := h, toks := tk } → s.heap.objs.size ≤ C → (∀ a o, s.heap.get? a = some o → a ∉ adr → a ≠ d → g.get? a = some o) → kvs[i]? = some (k, u) → (∃ od, (d, od) ∈ tl ∧ od.IsDictOf (PySem.intKind prog w) kvs) → Fact V c i ys → (∀ p ∈ V, p ∈ tl) → OwnOff tl adr → m x = some (.int k t) → Fr g C h m → News g C h (Kn c ++ tl) →
      wpAny (model prog w) A (forIn ifs true fun c r => if r = true then do let ok ← isTrue c (compEnvC scope cl C env) (eval c (compEnvC scope cl C env)); pure (ForInStep.yield ok) else pure (ForInStep.yield r))
        (fun ok s₃ => if ok = true then wpAny (model prog w) A (eval elt (compEnvC scope cl C env)) (fun y s₄ => CTurnEnd g C Kn Fact adr V tl (i + 1) (ys ++ [y]) s' s₄) (fun _ _ => False) s₃ else CTurnEnd g C Kn Fact adr V tl (i + 1) ys s' s₃)
        (fun _ _ => False) s')
    (done : ∀ c V C D ys h tk s₂, Fact V c kvs.length ys → Ext adr s.heap h → (∀ p ∈ Kn c, h.get? p.1 = some p.2) → Born s.heap h ((D, lst ys) :: V) → New s.heap C → C ≠ D → (∀ p ∈ V, p.1 ≠ C) → (∃ o, s₂ = { s with heap := o }) → RR s₂ ys D C h tk) :
    wpAny (model prog w) A (pyIter (.ref d)) (fun it s₂ => CompAt prog w A env elt x ifs scope cl RR it s₂) E s := by
  obtain ⟨ep, hat⟩ := D.dictAt
  have hlt := hat.lt_size
  have live : ∀ a ∈ adr, a < s.heap.objs.size := fun a ha => by
    rw [← hadr c₀] at ha
    obtain ⟨p, hp, rfl⟩ := List.mem_map.mp ha
    exact Heap.lt_size (hK p hp)
  refine wpAny_pyIter_dict lo hat ?_
  refine compAt_K Kn adr Fact c₀ (Walks.dictKeys (knd := PySem.intKind prog w) hh s.heap.objs.size d (Nat.ne_of_lt hlt) kvs ep) (by rw [sizeLine_eq]; omega) (fun i h st b hb => ?_) ⟨⟨_, Heap.get?_push_size _ rfl, rfl, rfl⟩, hat.push _⟩ (fun b hb => ?_) hadr (fun p hp => Heap.get?_push_of_some _ (hK p hp)) mono hlen h0 (fun c i v ys V tl s' C h tk m e hi hP hst9 cov9 h1 h2 h3 h4 F N => ?_) fun c V C D ys h tk h1 h2 h3 h4 h5 h6 h7 h8 => ?_
  · simp only [List.mem_cons, List.not_mem_nil, or_false] at hb
    rcases hb with rfl | rfl
    · obtain ⟨o, e, _⟩ := st.1; exact ⟨o, e⟩
    · obtain ⟨o, es, e, _⟩ := st.2; exact ⟨o, e⟩
  · simp only [List.mem_cons, List.not_mem_nil, or_false] at hb
    rcases hb with rfl | rfl
    · exact ⟨fun q => Nat.lt_irrefl _ (live _ q), by rw [Heap.size_push]; exact Nat.lt_succ_self _⟩
    · exact ⟨hla, by rw [Heap.size_push]; exact Nat.lt_succ_of_lt hlt⟩
  · have hC : s.heap.objs.size ≤ C := by
      have := F.above
      rw [hideAll_size, Heap.size_push] at this
      omega
    obtain ⟨k, u, hk, hv⟩ := hP
    obtain ⟨t, rfl⟩ := Value.isInt_shape hv
    refine turn c i k u t ys V tl s' C h tk m _ e hC (fun a o q n1 n2 => ?_) hk (by
      obtain ⟨o, es9, e9, r9⟩ := hst9.2
      exact ⟨o, cov9 d (by simp) o e9, es9, ep, r9⟩) h1 h2 h3 h4 F N
    refine hideAll_get _ (Heap.get?_push_of_some _ q) fun z => ?_
    rcases List.mem_append.mp z with z | z
    · exact n1 z
    · simp only [List.mem_cons, List.not_mem_nil, or_false] at z
      rcases z with z | z
      · exact absurd (Heap.lt_size q) (by rw [z]; exact Nat.lt_irrefl _)
      · exact n2 z
  · obtain ⟨e1, e2⟩ := comp_done h2 h4
    exact done c V C D ys h tk _ h1 e1 h3 e2 (New.keep h5 fun a o q => Heap.get?_push_of_some _ q) h6 h7 ⟨_, rfl⟩
end
end S_ODictK
section S_OWith
theorem reg16 : True := by
  k_with_none
  k_with "mm" => ((repeat' (first | (with_reducible exact List.mem_cons_self) | (with_reducible assumption) | (with_reducible refine List.mem_cons_of_mem _ ?_))); done)
  k_with "sub" => ((repeat' (first | (with_reducible exact sub_nil _) | (with_reducible refine sub_cons ?_ ?_) | (with_reducible exact List.mem_cons_self) | (with_reducible refine List.mem_cons_of_mem _ ?_) | (with_reducible assumption) | (intro p9 hp9))); done)
  k_with "v_sees" => first | exact Sees.keep (by assumption) (Fr.keep (by k_asm)) | exact Sees.sub (News.sees (by k_asm)) (fun _ h => by first | exact h | (refine List.mem_cons_of_mem _ ?_; exact h) | (refine List.mem_cons_of_mem _ (List.mem_cons_of_mem _ ?_); exact h))
  k_with "eval Name" => (k_here; (with_reducible show wpAny _ _ (eval (Expr.Name _ _) (compEnvC _ _ _ _)) _ _ _); k_dflt (first | (refine' nameB_L ?zqF ?zqv ?_ ?zqa ?zqb; (case zqF => k_asm); (case zqv => assumption); (case zqa => rfl); (case zqb => rfl)) | (refine' nameB_C ?zqF ?zqc ?zqo ?zqd ?_ ?zqa ?zqb; (case zqF => k_asm); (case zqa => rfl); (case zqb => rfl); (case zqc => rfl); (case zqo => assumption); (case zqd => assumption)) | (refine' nameB_G ?zqF ?zqX ?zqT ?zqe ?_ ?zqg ?zqa ?zqb; (case zqF => k_asm); (case zqX => k_asm); (case zqT => k_asm); (case zqg => rfl); (case zqa => rfl); (case zqb => rfl); (case zqe => k_is)) | (refine' nameB_B ?zqF ?zqX ?zqT ?zqe ?zqv ?zqn ?_ ?zqg ?zqh ?zqa ?zqb; (case zqF => k_asm); (case zqX => k_asm); (case zqT => k_asm); (case zqg => rfl); (case zqh => rfl); (case zqa => rfl); (case zqb => rfl); (case zqe => k_is); (case zqv => boot_fast); (case zqn => decide))))
  k_with "getAttr ref" => (k_here; (with_reducible show wpAny _ _ (getAttr (Value.ref _) (PySem.Str.ofString "way") _) _ _ _); k_dflt (refine' ent_way ?zqF ?zqX ?zqS ?zqx ?_; (case zqx => assumption); (case zqF => k_asm); (case zqX => k_asm); (case zqS => walk_at "v_sees")); intro _)
  k_with "getAttr ref" => (k_here; (with_reducible show wpAny _ _ (getAttr (Value.ref _) (PySem.Str.ofString "one") _) _ _ _); k_dflt (refine' ent_one ?zqF ?zqX ?zqS ?zqx ?_; (case zqx => assumption); (case zqF => k_asm); (case zqX => k_asm); (case zqS => walk_at "v_sees")); intro _)
  k_with "getAttr ref" => (k_here; (with_reducible show wpAny _ _ (getAttr (Value.ref _) (PySem.Str.ofString "two") _) _ _ _); k_dflt (refine' ent_two ?zqF ?zqX ?zqS ?zqx ?_; (case zqx => assumption); (case zqF => k_asm); (case zqX => k_asm); (case zqS => walk_at "v_sees")); intro _)
  k_with "getMethod ref" => (k_here; (with_reducible show wpAny _ _ (getMethod (Value.ref _) (PySem.Str.ofString "told") _) _ _ _); k_dflt (refine' ent_told ?zqF ?zqX ?zqS ?zqx ?_; (case zqx => assumption); (case zqF => k_asm); (case zqX => k_asm); (case zqS => walk_at "v_sees")))
  k_with "call builtin:sorted" => (k_here; (with_reducible show wpAny _ _ (call (Value.builtin _) [Value.ref _]) _ _ _); k_dflt (refine' sorted_edict ?zqhh ?zqS ?zqD ?zqF ?zqN ?zqz ?_; (case zqhh => first | assumption | exact Rm.hd_deeper (by assumption) _); (case zqD => assumption); (case zqF => k_asm); (case zqN => k_asm); (case zqS => walk_at "v_sees"); (case zqz => omega)); intro _ _ _ _ _ _ _ _ _ _ _ _; (try k_sweep))
  k_with "subscriptTail" => (k_here; (with_reducible show wpAny _ _ (subscriptTail _ _ (Value.ref _) (Value.int _ _)) _ _ _); k_dflt (refine' edict_item ?zqS ?zqD ?zqv ?_; (case zqD => assumption); (case zqv => assumption); (case zqS => walk_at "v_sees")))
  k_with "call ref" => (k_here; k_dflt (refine' told_use ?zqR ?zqX ?zqT ?zqF ?zqN ?zqS ?zqEn ?_; (case zqEn => assumption); (case zqR => first | exact Rm.less (by assumption) (by omega) (by omega) | exact Rm.deeper (Rm.less (by assumption) (by omega) (by omega)) _); (case zqX => k_asm); (case zqT => k_asm); (case zqF => k_asm); (case zqN => k_asm); (case zqS => walk_at "v_sees")); intro _ _ _ _ _ _ _ _ _; (try k_sweep))
  k_with "eval ListComp" => (k_here; k_dflt (refine' comp_raw ?zqcl ?zqce ?zqk ?zqn ?zqx ?_; (case zqcl => exact rfl); (case zqce => decide); (case zqk => rfl); (case zqn => decide); (case zqx => rfl)))
  k_with "exec For Name Call cons nil" => (k_here; k_dflt (refine for_raw (by rfl) (by rfl) ?_))
  k_with "exec For Name Name cons nil" => (k_here; k_dflt (refine for_raw (by rfl) (by rfl) ?_))
  k_with "call ref" => (k_here; k_dflt (refine' entry_use ?zqR ?zqX ?zqT ?zqF ?zqN ?_; (case zqR => exact Rm.deeper (Rm.less (by assumption) (by omega) (by omega)) _); (case zqX => k_asm); (case zqT => k_asm); (case zqF => k_asm); (case zqN => k_asm)); intro _ _ _ _ _ _ _ _ _ _ _ _ _ _ _ _ _; rename_i l1 l2 gw' g1' g2' gt'; (try k_lt l1); (try k_lt2 l2); (try k_sweep); revert l1 l2 gw' g1' g2' gt'; intro _ _ _ _ _ _)
  k_with "setItem ref int ref" => (k_here; k_dflt (refine' dict_set_K ?zqF ?zqN ?zqU ?zqhd ?zqhz ?_; (case zqF => k_asm); (case zqN => k_asm); (case zqU => k_updF); (case zqhd => assumption); (case zqhz => assumption)); intro _ _ _ _ _; rename_i N' hd'; (try dsimp only at N'); (try k_sweep); revert N' hd'; intro _ _)
  k_with "getMethod ref" => (k_here; (with_reducible show wpAny _ _ (getMethod (Value.ref _) (PySem.Str.ofString "get") _) _ _ _); k_dflt (refine' get_method ?zqS ?zqD ?_; (case zqD => first | assumption | exact EDict.dict (by assumption)); (case zqS => walk_at "v_sees")))
  k_with "call builtin:dict.get" => (k_here; (with_reducible show wpAny _ _ (call (Value.builtin _) [Value.ref _, Value.int _ _, Value.int _ _]) _ _ _); k_dflt (refine' get0_raw ?zqS ?zqD ?zqhg ?_; (case zqD => assumption); (case zqhg => assumption); (case zqS => walk_at "v_sees")); intro _)
  k_with "exec Assign cons ListComp" => (k_here; k_dflt (refine' comp_assign ?zqsw ?zqcl ?zqce ?zqk ?zqn ?zqx ?zqy ?zqp ?_; (case zqsw => rfl); (case zqcl => exact rfl); (case zqce => decide); (case zqk => rfl); (case zqn => decide); (case zqx => rfl); (case zqy => rfl); (case zqp => rfl)))
  k_with "compareOp NotIn int ref" => (k_here; k_dflt (refine' edict_notin ?zqS ?zqD ?_; (case zqD => assumption); (case zqS => walk_at "v_sees")))
  k_with "compareOp In int ref" => (k_here; k_dflt (refine' edict_in ?zqS ?zqD ?_; (case zqD => assumption); (case zqS => walk_at "v_sees")))
  k_with "unpackItems ref" => (k_here; k_dflt (refine' unpackItemsN_ ?zqk1 ?zqk2 ?zqk3 ?zqk4 ?zqk5 ?_; (case zqk1 => k_asm); (case zqk2 => k_asm); (case zqk3 => kun_tup); (case zqk4 => first | assumption | exact Rm.hd_deeper (by assumption) _); (case zqk5 => exact rfl); k_whole); intro _ _ _; (try k_sweep))
  k_with "assign Tuple" => (k_here; (with_reducible show wpAny _ _ (assign (Expr.Tuple _ _ _) _ (Value.ref _)) _ _ _); k_dflt (refine' unpackN_ ?zqk1 ?zqk2 ?zqk3 ?zqk4 ?zqk5 ?zqk6 ?_; (case zqk1 => k_asm); (case zqk2 => k_asm); (case zqk3 => first | kun_tup | exact tup_sees (by assumption) (by walk_at "v_sees")); (case zqk4 => first | assumption | exact Rm.hd_deeper (by assumption) _); (case zqk5 => exact rfl); (case zqk6 => exact rfl); k_whole); intro _ _ _; (try k_sweep))
  trivial
/-- the numbers from 1 to below top that have no entry -/
def lackL (top : Int) (es : List (Int × Ent)) : List Int := ((List.range (top - 1).toNat).map fun (i : Nat) => (1 + (i : Int))).filter fun k => !decide (k ∈ es.map (·.1))
theorem ne_none {g : Heap} {a b : Addr} {o : Obj} (h : g.get? a = some o) (n : g.get? b = none) : a ≠ b := by
  rintro rfl
  rw [n] at h
  cases h
theorem names1 {m : Str → Option Value} {a : Str} {x : Option Value} (h1 : m a = x) : ∃ u : Str → Option Value, m = fun z => if z = a then x else u z := by
  refine ⟨m, funext fun z => ?_⟩
  by_cases q1 : z = a
  · rw [if_pos q1, q1, h1]
  · rw [if_neg q1]
theorem lackL_lt (top : Int) (es : List (Int × Ent)) : (lackL top es).Pairwise (· < ·) := by
  refine List.Pairwise.filter _ ?_
  rw [List.pairwise_map]
  exact List.Pairwise.imp (fun h => by omega) List.pairwise_lt_range
theorem lackL_pos {top : Int} {es : List (Int × Ent)} {k : Int} (h : k ∈ lackL top es) : 1 ≤ k ∧ k < top ∧ k ∉ es.map (·.1) := by
  obtain ⟨h1, h2⟩ := List.mem_filter.mp h
  obtain ⟨i, hi, rfl⟩ := List.mem_map.mp h1
  have := List.mem_range.mp hi
  refine ⟨by omega, by omega, ?_⟩
  simpa using h2
theorem eq_of_sorted {l r : List Int} (p : l.Perm r) (h1 : l.Pairwise (· ≤ ·)) (h2 : r.Pairwise (· < ·)) : l = r :=
  List.Perm.eq_of_pairwise (le := (· ≤ ·)) (fun a b _ _ h h' => Int.le_antisymm h h') h1 (h2.imp fun h => Int.le_of_lt h) p
theorem with_spec {w : World} {A : Around} {E : Value → Shared → Prop} {s : Shared} {Q : Value → Shared → Prop} {b : Heap} {V : Led} {d0 : Addr} {es : List (Int × Ent)} {top : Int} {tt : Tok}
    (R : Rm A 5 70) (G : Gd w b) (S : b.StaysIn s.heap) (Sv : Sees V s.heap) (D : EDict w V d0 es) (hz : es.length ≤ 20) (hpos : ∀ p ∈ es, 1 ≤ p.1) (ht : 1 ≤ top) (ht' : top ≤ 30)
    (ret : ∀ (d : Addr) (nw : Led) (ch : List (Int × Ent)) (h' : Heap) (tk : Nat), Ext [] s.heap h' → Born s.heap h' nw → EDict w (nw ++ V) d (ch ++ es) → ch.map rowOf = chainRows (fun _ => 0) (0 :: lackL top es) → Q (.ref d) { s with heap := h', toks := tk }) :
    wpAny (model PR w) A (call (.ref 125) [.ref d0, .int top tt]) Q E s := by
  obtain ⟨X, l, mg, mb, T⟩ := G
  refine call_fnC (R.less (by omega) (by omega)) X T.nolimit S [] (fun p hp => nomatch hp) (by k_is) (by k_is) (BindsTo.of_eq rfl) (by rfl) (by decide +kernel) (fun g L h₁ tk cells st kp F N Y l1 => ?_)
  have hY := CellsAre.one Y
  obtain ⟨oc, rfl, dc⟩ := hY
  have X := X.keeps st
  have T := T.keeps st
  have Sg : Sees V g := fun p hp => kp _ _ (Sv p hp) (by first | walk_at "mm" | simp)
  simp only [List.cons_append, List.nil_append] at N
  k_steps
  rename_i h1 tk1 t1 u1 v1 hr F1 N1 k1
  have h1c := N1 _ List.mem_cons_self
  refine range_comp (σ := Unit) (fun _ => []) [] (fun V _ i ys => IntsAre ys (((List.range i).map fun (j : Nat) => (1 + (j : Int))).filter fun k => !decide (k ∈ es.map (·.1)))) () R.hd hr (by omega) (by omega) (by omega) (by omega) (fun _ => rfl) (fun p hp => nomatch hp) (fun V U c i ys h sub => h) (fun V c i ys h => by have h1 := h.length; have h2 := List.length_filter_le (fun k => !decide (k ∈ es.map (·.1))) ((List.range i).map fun (j : Nat) => (1 + (j : Int))); rw [List.length_map, List.length_range] at h2; omega) .nil ?turn ?done
  case turn =>
    rintro c i t ys U tl s' C h tk m g' rfl hC kp' hi hD sub off hx F2 N2
    have st' : g.StaysIn g' := fun a o e => kp' a o (F1.keep a o e) (fun q => nomatch q)
    have X := X.keeps st'
    have T := T.keeps st'
    have Sg' : Sees V g' := Sg.keep st'
    have hc' := kp' _ _ h1c.1 (fun q => nomatch q)
    have dc' : oc.data = .cell (some (.ref d0)) := dc
    simp only [List.nil_append] at N2
    refine wpAny_tests_one ?_
    k_steps
    all_goals
      rename_i hmem
      refine CTurnEnd.intro F2 N2 () [] (fun p hp => nomatch hp) (fun p hp => hp) (fun p hp => nomatch hp) ?_
      show IntsAre _ _
      rw [List.range_succ, List.map_append, List.filter_append]
      simp only [List.map_cons, List.map_nil, List.filter_cons, List.filter_nil]
      first
      | (rw [decide_eq_true hmem]; simp only [Bool.not_true, Bool.false_eq_true, if_false, List.append_nil]; exact hD)
      | (rw [decide_eq_false hmem]; simp only [Bool.not_false, if_true]; exact hD.append (.cons _ _ .nil))
  case done =>
    rintro c U C D' ys h tk s₂ hD hE' _ hB hC hCD hVC ⟨o, rfl⟩
    refine assign_end F1 hE' (fun q => nomatch q) (fun a q => nomatch q) hB hC hCD hVC fun h' F2 e2 b2 => ?_
    have N2 := news_ext F1 N1 e2 (fun p hp q => nomatch q) b2
    have F2 : Fr g L h' _ := F2
    have N2 : News g L h' [(D', lst ys), (L + 1, oc)] := fun p hp => N2 p (by
      simp only [List.mem_cons, List.not_mem_nil, or_false] at hp
      rcases hp with rfl | rfl <;> simp)
    have hDne := (neN (New.ne (b2 _ List.mem_cons_self).2 h1c.1))
    change IntsAre ys (lackL top es) at hD
    have hll : (lackL top es).length ≤ 30 := by
      refine Nat.le_trans (List.length_filter_le _ _) ?_
      simp
      omega
    have hlt := lackL_lt top es
    have hps : ∀ k ∈ lackL top es, 1 ≤ k := fun k hk => (lackL_pos hk).1
    generalize hlk : lackL top es = lk at hD hll hlt hps
    clear hr hE' hB N1
    k_steps
    rename_i d1 h3 o1 F3 N3 lo3 _ _ hd3 _ l3
    have hnl := N3 _ (List.mem_cons_of_mem _ List.mem_cons_self)
    refine free_spec (b := g) (Vg := [(d1, o1)]) (gkvs := []) (Rm.deeper (R.less (by omega) (by omega)) _) ⟨X, l, mg, mb, T⟩ F3.keep hnl.2.2 hnl.1 hD (by omega) (hlt.imp fun h => Int.ne_of_lt h) (fun p hp => by
      rw [List.mem_singleton.mp hp]; exact (N3 _ List.mem_cons_self).1) ⟨lo3, o1, List.mem_cons_self, hd3⟩ (fun p hp => by
      rw [List.mem_singleton.mp hp]; exact (neN (Nat.ne_of_lt (ltN l3.1))).symm) (fun p hp => nomatch hp) fun d od nw ch line h5 tk5 e5 b5 lo5 hd5 hE5 off5 hp5 ho5 hr5 => ?_
    have hline : line = lk := by
      refine eq_of_sorted ?_ ho5 hlt
      have : lk.filter (fun x => decide (0 < x)) = lk := List.filter_eq_self.mpr fun k hk => decide_eq_true (by have := hps k hk; omega)
      rw [this] at hp5
      exact hp5
    subst hline
    have F5 := Fr.keeps F3 e5.keep
    have N5 := news_app F3 N3 e5.keep b5
    have nd5 : ∀ p ∈ [(d1, o1), (D', lst ys), (L + 1, oc)], p.1 ≠ d := fun p hp => New.ne (b5 _ List.mem_cons_self).2 (N3 p hp).1
    have hl1 := (N3 (L + 1, oc) (by first | walk_at "mm" | simp)).1
    clear F3 N3 F2 e5
    have N5 : News g L h5 ((d, od) :: (L + 1, oc) :: nw) := fun p hp => N5 p (by
      rcases List.mem_cons.mp hp with rfl | hp
      · simp
      · rcases List.mem_cons.mp hp with rfl | hp
        · simp
        · simp [hp])
    have nd6 : L + 1 ≠ d := nd5 (L + 1, oc) (by first | walk_at "mm" | simp)
    have nw1 : ∀ p ∈ nw, p.1 ≠ L + 1 := fun p hp => (New.ne (b5 _ (List.mem_cons_of_mem _ hp)).2 hl1).symm
    clear nd5
    k_steps
    rename_i h6 F6 N6
    obtain ⟨lo0, o0, ho0, hd0⟩ := id D.dict
    have g0 := Sg _ ho0
    have hck : ∀ k ∈ es.map (·.1), k ∉ ch.map (·.1) := by
      intro k hk q
      rw [rowOf_keys hr5] at q
      unfold chainRows at q
      rw [List.map_map] at q
      obtain ⟨j, hj, e⟩ := List.mem_map.mp q
      have hj := List.mem_range.mp hj
      simp only [Function.comp, chainRow] at e
      obtain ⟨p, hp, rfl⟩ := List.mem_map.mp hk
      have h1 := hpos p hp
      cases j with
      | zero => simp at e; omega
      | succ j =>
        simp only [List.length_cons] at hj
        rw [List.getElem?_cons_succ, List.getElem?_eq_getElem (by omega)] at e
        simp only [Option.getD_some] at e
        have h2 : line[j] ∈ line := List.getElem_mem _
        rw [e, ← hlk] at h2
        exact (lackL_pos h2).2.2 (List.mem_map_of_mem hp)
    have hcl : ch.length ≤ 31 := by
      have := congrArg List.length hr5
      simp only [List.length_map, chainRows, List.length_range, List.length_cons] at this
      omega
    refine dict_K (σ := Obj) (kvs := kvOf es) (V₀ := nw) (fun c => [(d, c), (L + 1, oc)]) [d, L + 1]
      (fun V c i => c.IsDictOf (PySem.intKind PR w) (kvOf (ch ++ es.take i)) ∧ (∀ p ∈ ch, EntV V p.2))
      (fun m c i => ∃ u : Str → Option Value, m = fun z => if z = Str.ofString "found" then some (.ref d) else u z)
      od R.hd lo0 (D.dict.dict (Sg.keep F6.keep)) ?hda ?hdL (fun c => rfl) F6 N6 ?hK ?mono ?h0 ?hV ?hm ?turn2 ?done2
    case hda =>
      simp only [List.mem_cons, List.not_mem_nil, or_false, not_or]
      exact ⟨ne_none g0 (N6 _ List.mem_cons_self).2.2, ne_none g0 (N6 _ (List.mem_cons_of_mem _ List.mem_cons_self)).2.2⟩
    case hdL => exact ne_none g0 (Heap.get?_none_of_le F6.above)
    case hK =>
      intro p hp
      simp only [List.mem_cons, List.not_mem_nil, or_false] at hp
      rcases hp with rfl | rfl <;> simp
    case mono =>
      rintro V U c i ⟨h1, h2⟩ sub
      exact ⟨h1, fun p hp => (h2 p hp).mono sub⟩
    case h0 => exact ⟨by simpa using hd5, hE5⟩
    case hV =>
      intro p hp
      refine ⟨by simp [hp], ?_⟩
      simp only [List.mem_cons, List.not_mem_nil, or_false, not_or]
      exact ⟨off5 p hp, nw1 p hp⟩
    case hm => exact ⟨_, funext fun z => by rfl⟩
    case turn2 =>
      rintro c i k v t U tl s' h tk m rfl hkv ⟨hd7, hE7⟩ ⟨u, rfl⟩ sub off F7 N7
      clear F6 N6
      try dsimp only at hd7 N7
      simp only [List.cons_append, List.nil_append] at N7
      obtain ⟨e, he, rfl⟩ : ∃ e, es[i]? = some (k, e) ∧ v = .ref e.x := by
        rw [List.getElem?_map] at hkv
        cases q : es[i]? with
        | none => rw [q] at hkv; cases hkv
        | some p =>
          rw [q] at hkv
          simp only [Option.map_some, Option.some.injEq, Prod.mk.injEq] at hkv
          obtain ⟨rfl, rfl⟩ := hkv
          exact ⟨p.2, rfl, rfl⟩
      have hke : (k, e) ∈ es := List.mem_of_getElem? he
      have hge := getE_of_mem D.nodup hke
      have hz7 : (kvOf (ch ++ es.take i)).length ≤ 1000 := by simp [kvOf]; omega
      have hnk : k ∉ (ch ++ es.take i).map (·.1) := by
        rw [List.map_append]
        intro q
        rcases List.mem_append.mp q with q | q
        · exact hck k (List.mem_map_of_mem hke) q
        · have hnd := D.nodup
          have hil : i < es.length := by
            have := List.getElem?_eq_some_iff.mp he
            exact this.1
          obtain ⟨p, hp, hpk⟩ := List.mem_map.mp q
          obtain ⟨j, hj, hpj⟩ := List.mem_take_iff_getElem.mp hp
          have e1 := List.pairwise_iff_getElem.mp hnd j i (by rw [List.length_map]; omega) (by rw [List.length_map]; exact hil) (by omega)
          rw [List.getElem_map, List.getElem_map, hpj, hpk, (List.getElem?_eq_some_iff.mp he).2] at e1
          exact e1 rfl
      k_steps
      rename_i h8 o8 F8 N8 hd8
      show TurnEnd _ _ _ _ _ _ _ _ _ _ _
      refine TurnEnd.intro F8 N8 o8 U (fun p hp => ?_) (fun p hp => ?_) (fun p hp => ⟨?_, .inl hp, fun q => off p (sub p hp) _ q rfl⟩) ⟨?_, hE7⟩ (names1 rfl)
      · simp only [List.mem_cons, List.not_mem_nil, or_false] at hp
        rcases hp with rfl | rfl <;> simp
      · simp [hp]
      · simp [sub p hp]
      · show o8.IsDictOf _ (kvOf (ch ++ es.take (i + 1)))
        have e9 : ch ++ es.take (i + 1) = storeE (ch ++ es.take i) k e := by
          rw [storeE_new e hnk, List.take_add_one, he, List.append_assoc]
          rfl
        rw [e9, ← kv_storeE]
        exact hd8
    case done2 =>
      rintro c U h tk m ⟨hd7, hE7⟩ ⟨u, rfl⟩ F7 N7 off
      have hlk2 : (kvOf es).length = es.length := by simp [kvOf]
      rw [hlk2, List.take_length] at hd7
      simp only [List.cons_append, List.nil_append] at N7
      k_steps
      refine Back.intro F7 fun hE' => ret d ((d, c) :: U) ch _ _ hE' (born_of kp (fun p hp => ?_) N7 fun p hp q => nomatch q) ⟨⟨lo5, c, by simp, hd7⟩, fun p hp => ?_⟩ ?_
      · rcases List.mem_cons.mp hp with rfl | hp
        · simp
        · simp [hp]
      · rcases List.mem_append.mp hp with hp | hp
        · exact (hE7 p hp).mono fun q hq => by simp [hq]
        · exact (D.ents p hp).mono fun q hq => by simp [hq]
      · rw [hlk, hr5]; rfl
end S_OWith
section S_ORing
theorem reg17 : True := by
  k_with_none
  k_with "mm" => ((repeat' (first | (with_reducible exact List.mem_cons_self) | (with_reducible assumption) | (with_reducible refine List.mem_cons_of_mem _ ?_))); done)
  k_with "sub" => ((repeat' (first | (with_reducible exact sub_nil _) | (with_reducible refine sub_cons ?_ ?_) | (with_reducible exact List.mem_cons_self) | (with_reducible refine List.mem_cons_of_mem _ ?_) | (with_reducible assumption) | (intro p9 hp9))); done)
  k_with "v_sees" => first | exact Sees.keep (by assumption) (Fr.keep (by k_asm)) | exact Sees.sub (News.sees (by k_asm)) (fun _ h => by first | exact h | (refine List.mem_cons_of_mem _ ?_; exact h) | (refine List.mem_cons_of_mem _ (List.mem_cons_of_mem _ ?_); exact h))
  k_with "eval Name" => (k_here; (with_reducible show wpAny _ _ (eval (Expr.Name _ _) (compEnvC _ _ _ _)) _ _ _); k_dflt (first | (refine' nameB_L ?zqF ?zqv ?_ ?zqa ?zqb; (case zqF => k_asm); (case zqv => assumption); (case zqa => rfl); (case zqb => rfl)) | (refine' nameB_C ?zqF ?zqc ?zqo ?zqd ?_ ?zqa ?zqb; (case zqF => k_asm); (case zqa => rfl); (case zqb => rfl); (case zqc => rfl); (case zqo => assumption); (case zqd => assumption)) | (refine' nameB_G ?zqF ?zqX ?zqT ?zqe ?_ ?zqg ?zqa ?zqb; (case zqF => k_asm); (case zqX => k_asm); (case zqT => k_asm); (case zqg => rfl); (case zqa => rfl); (case zqb => rfl); (case zqe => k_is)) | (refine' nameB_B ?zqF ?zqX ?zqT ?zqe ?zqv ?zqn ?_ ?zqg ?zqh ?zqa ?zqb; (case zqF => k_asm); (case zqX => k_asm); (case zqT => k_asm); (case zqg => rfl); (case zqh => rfl); (case zqa => rfl); (case zqb => rfl); (case zqe => k_is); (case zqv => boot_fast); (case zqn => decide))))
  k_with "getAttr ref" => (k_here; (with_reducible show wpAny _ _ (getAttr (Value.ref _) (PySem.Str.ofString "way") _) _ _ _); k_dflt (refine' ent_way ?zqF ?zqX ?zqS ?zqx ?_; (case zqx => assumption); (case zqF => k_asm); (case zqX => k_asm); (case zqS => walk_at "v_sees")); intro _)
  k_with "getAttr ref" => (k_here; (with_reducible show wpAny _ _ (getAttr (Value.ref _) (PySem.Str.ofString "one") _) _ _ _); k_dflt (refine' ent_one ?zqF ?zqX ?zqS ?zqx ?_; (case zqx => assumption); (case zqF => k_asm); (case zqX => k_asm); (case zqS => walk_at "v_sees")); intro _)
  k_with "getAttr ref" => (k_here; (with_reducible show wpAny _ _ (getAttr (Value.ref _) (PySem.Str.ofString "two") _) _ _ _); k_dflt (refine' ent_two ?zqF ?zqX ?zqS ?zqx ?_; (case zqx => assumption); (case zqF => k_asm); (case zqX => k_asm); (case zqS => walk_at "v_sees")); intro _)
  k_with "getMethod ref" => (k_here; (with_reducible show wpAny _ _ (getMethod (Value.ref _) (PySem.Str.ofString "told") _) _ _ _); k_dflt (refine' ent_told ?zqF ?zqX ?zqS ?zqx ?_; (case zqx => assumption); (case zqF => k_asm); (case zqX => k_asm); (case zqS => walk_at "v_sees")))
  k_with "call builtin:sorted" => (k_here; (with_reducible show wpAny _ _ (call (Value.builtin _) [Value.ref _]) _ _ _); k_dflt (refine' sorted_edict ?zqhh ?zqS ?zqD ?zqF ?zqN ?zqz ?_; (case zqhh => first | assumption | exact Rm.hd_deeper (by assumption) _); (case zqD => assumption); (case zqF => k_asm); (case zqN => k_asm); (case zqS => walk_at "v_sees"); (case zqz => omega)); intro _ _ _ _ _ _ _ _ _ _ _ _; (try k_sweep))
  k_with "subscriptTail" => (k_here; (with_reducible show wpAny _ _ (subscriptTail _ _ (Value.ref _) (Value.int _ _)) _ _ _); k_dflt (refine' edict_item ?zqS ?zqD ?zqv ?_; (case zqD => assumption); (case zqv => assumption); (case zqS => walk_at "v_sees")))
  k_with "call ref" => (k_here; k_dflt (refine' told_use ?zqR ?zqX ?zqT ?zqF ?zqN ?zqS ?zqEn ?_; (case zqEn => assumption); (case zqR => first | exact Rm.less (by assumption) (by omega) (by omega) | exact Rm.deeper (Rm.less (by assumption) (by omega) (by omega)) _); (case zqX => k_asm); (case zqT => k_asm); (case zqF => k_asm); (case zqN => k_asm); (case zqS => walk_at "v_sees")); intro _ _ _ _ _ _ _ _ _; (try k_sweep))
  k_with "eval ListComp" => (k_here; k_dflt (refine' comp_raw ?zqcl ?zqce ?zqk ?zqn ?zqx ?_; (case zqcl => exact rfl); (case zqce => decide); (case zqk => rfl); (case zqn => decide); (case zqx => rfl)))
  k_with "exec For Name Call cons nil" => (k_here; k_dflt (refine for_raw (by rfl) (by rfl) ?_))
  k_with "exec For Name Name cons nil" => (k_here; k_dflt (refine for_raw (by rfl) (by rfl) ?_))
  k_with "call ref" => (k_here; k_dflt (refine' entry_use ?zqR ?zqX ?zqT ?zqF ?zqN ?_; (case zqR => exact Rm.deeper (Rm.less (by assumption) (by omega) (by omega)) _); (case zqX => k_asm); (case zqT => k_asm); (case zqF => k_asm); (case zqN => k_asm)); intro _ _ _ _ _ _ _ _ _ _ _ _ _ _ _ _ _; rename_i l1 l2 gw' g1' g2' gt'; (try k_lt l1); (try k_lt2 l2); (try k_sweep); revert l1 l2 gw' g1' g2' gt'; intro _ _ _ _ _ _)
  k_with "setItem ref int ref" => (k_here; k_dflt (refine' dict_set_K ?zqF ?zqN ?zqU ?zqhd ?zqhz ?_; (case zqF => k_asm); (case zqN => k_asm); (case zqU => k_updF); (case zqhd => assumption); (case zqhz => assumption)); intro _ _ _ _ _; rename_i N' hd'; (try dsimp only at N'); (try k_sweep); revert N' hd'; intro _ _)
  k_with "getMethod ref" => (k_here; (with_reducible show wpAny _ _ (getMethod (Value.ref _) (PySem.Str.ofString "get") _) _ _ _); k_dflt (refine' get_method ?zqS ?zqD ?_; (case zqD => first | assumption | exact EDict.dict (by assumption)); (case zqS => walk_at "v_sees")))
  k_with "call builtin:dict.get" => (k_here; (with_reducible show wpAny _ _ (call (Value.builtin _) [Value.ref _, Value.int _ _, Value.int _ _]) _ _ _); k_dflt (refine' get0_raw ?zqS ?zqD ?zqhg ?_; (case zqD => assumption); (case zqhg => assumption); (case zqS => walk_at "v_sees")); intro _)
  k_with "exec Assign cons ListComp" => (k_here; k_dflt (refine' comp_assign ?zqsw ?zqcl ?zqce ?zqk ?zqn ?zqx ?zqy ?zqp ?_; (case zqsw => rfl); (case zqcl => exact rfl); (case zqce => decide); (case zqk => rfl); (case zqn => decide); (case zqx => rfl); (case zqy => rfl); (case zqp => rfl)))
  k_with "compareOp NotIn int ref" => (k_here; k_dflt (refine' edict_notin ?zqS ?zqD ?_; (case zqD => assumption); (case zqS => walk_at "v_sees")))
  k_with "compareOp In int ref" => (k_here; k_dflt (refine' edict_in ?zqS ?zqD ?_; (case zqD => assumption); (case zqS => walk_at "v_sees")))
  k_with "unpackItems ref" => (k_here; k_dflt (refine' unpackItemsN_ ?zqk1 ?zqk2 ?zqk3 ?zqk4 ?zqk5 ?_; (case zqk1 => k_asm); (case zqk2 => k_asm); (case zqk3 => kun_tup); (case zqk4 => first | assumption | exact Rm.hd_deeper (by assumption) _); (case zqk5 => exact rfl); k_whole); intro _ _ _; (try k_sweep))
  k_with "assign Tuple" => (k_here; (with_reducible show wpAny _ _ (assign (Expr.Tuple _ _ _) _ (Value.ref _)) _ _ _); k_dflt (refine' unpackN_ ?zqk1 ?zqk2 ?zqk3 ?zqk4 ?zqk5 ?zqk6 ?_; (case zqk1 => k_asm); (case zqk2 => k_asm); (case zqk3 => first | kun_tup | exact tup_sees (by assumption) (by walk_at "v_sees")); (case zqk4 => first | assumption | exact Rm.hd_deeper (by assumption) _); (case zqk5 => exact rfl); (case zqk6 => exact rfl); k_whole); intro _ _ _; (try k_sweep))
  trivial
theorem names4 {m : Str → Option Value} {a b c d : Str} {x y z v : Option Value} (h1 : m a = x) (h2 : m b = y) (h3 : m c = z) (h4 : m d = v) : ∃ u : Str → Option Value, m = fun q => if q = a then x else if q = b then y else if q = c then z else if q = d then v else u q := by
  refine ⟨m, funext fun q => ?_⟩
  by_cases q1 : q = a
  · rw [if_pos q1, q1, h1]
  · by_cases q2 : q = b
    · rw [if_neg q1, if_pos q2, q2, h2]
    · by_cases q3 : q = c
      · rw [if_neg q1, if_neg q2, if_pos q3, q3, h3]
      · by_cases q4 : q = d
        · rw [if_neg q1, if_neg q2, if_neg q3, if_pos q4, q4, h4]
        · rw [if_neg q1, if_neg q2, if_neg q3, if_neg q4]
/-- the free ones of es, gone along from 0, are 0 and line; f tells their generations -/
structure Chained (f : Int → Int) (es : List (Int × Ent)) (line : List Int) : Prop where
  nodup : (0 :: line).Nodup
  pos : ∀ k ∈ line, 1 ≤ k
  at' : ∀ i, i ≤ line.length → ∃ e, getE es (((0 :: line)[i]?).getD 0) = some e ∧ e.way = Str.ofString "free" ∧ e.one = (((0 :: line)[i + 1]?).getD 0) ∧ e.two = if i = 0 then 65535 else f (((0 :: line)[i]?).getD 0)
  only : ∀ k e, getE es k = some e → e.way = Str.ofString "free" → k ∈ 0 :: line
theorem ring_spec {w : World} {A : Around} {E : Value → Shared → Prop} {s : Shared} {Q : Value → Shared → Prop} {b : Heap} {V : Led} {d : Addr} {es : List (Int × Ent)} {f : Int → Int} {line : List Int}
    (R : Rm A 3 40) (G : Gd w b) (S : b.StaysIn s.heap) (Sv : Sees V s.heap) (D : EDict w V d es) (C : Chained f es line) (hz : line.length < 40)
    (ret : ∀ (r : Addr) (ys : List Value) (n : Nat) (h' : Heap) (tk : Nat), Ext [] s.heap h' → Born s.heap h' [(r, W.listOf (List.toArray ys) n)] → IntsAre ys (0 :: line) → Q (.ref r) { s with heap := h', toks := tk }) :
    wpAny (model PR w) A (call (.ref 170) [.ref d]) Q E s := by
  obtain ⟨X, l, mg, mb, T⟩ := G
  refine call_fn (R.less (by omega) (by omega)) X T.nolimit S [] (fun p hp => nomatch hp) (by k_is) (by k_is) (BindsTo.of_eq rfl) (locs rfl) (fun g L h₁ st kp F N => ?_) (by decide)
  have X := X.keeps st
  have T := T.keeps st
  have Sg : Sees V g := fun p hp => kp _ _ (Sv p hp) (by first | walk_at "mm" | simp)
  k_steps
  rename_i l0 h2 _ D1 h3 l3 h4 h5 h6 F0 N0 h1 tk1 t1 u1 v1 hr F1 N1 k1
  refine range_K (σ := List Value × Nat) (V₀ := []) (fun c => [(l0, W.listOf (List.toArray c.1) c.2)]) [l0]
    (fun V c i => i ≤ line.length ∧ IntsAre c.1 ((0 :: line).take i))
    (fun m c i => ∃ (u : Str → Option Value) (tn : Tok), m = fun z => if z = Str.ofString "row" then some (.ref l0) else if z = Str.ofString "number" then some (.int (((0 :: line)[i]?).getD 0) tn) else if z = Str.ofString "entries" then some (.ref d) else u z)
    ([], 0) R.hd hr (by omega) (by omega) (by omega) (by omega) (fun c => rfl) F1 N1 ?hK ?mono ?h0 (fun p hp => nomatch hp) ?hm ?turn2 ?done2
  case hK =>
    intro p hp
    rw [List.mem_singleton.mp hp]
    exact List.mem_cons_of_mem _ List.mem_cons_self
  case mono => exact fun V U c i h sub => h
  case h0 => exact ⟨Nat.zero_le _, .nil⟩
  case hm => exact let ⟨u, e⟩ := names3 rfl rfl rfl; ⟨u, _, e⟩
  case turn2 =>
    rintro ⟨ys, n⟩ i t U tl s' h tk m rfl hi6 ⟨hil, hys⟩ ⟨u, tn, rfl⟩ sub off F6 N6
    clear F0 N0 F1 N1 hr
    dsimp only at hys N6
    simp only [List.cons_append, List.nil_append] at N6
    obtain ⟨e, he, hw, ho, h2⟩ := C.at' i hil
    generalize hk : ((0 :: line)[i]?).getD 0 = k at he F6
    have hin : k ∈ es.map (·.1) := of_decide_eq_true ((getE_isSome es k).symm.trans (by rw [he]; rfl))
    have hE := D.ents _ (getE_mem he)
    have hends : e.one = 0 → i = line.length := fun h0 => by
      rw [ho, List.getElem?_cons_succ] at h0
      refine Nat.le_antisymm hil (Nat.not_lt.mp fun hlt => ?_)
      rw [List.getElem?_eq_getElem hlt] at h0
      have := C.pos _ (List.getElem_mem hlt)
      simp at h0
      omega
    have hone : e.one ≠ 0 → i + 1 ≤ line.length := fun h0 => by
      refine Nat.lt_of_le_of_ne hil fun q => h0 ?_
      rw [ho, List.getElem?_cons_succ, List.getElem?_eq_none (by omega)]
      rfl
    have hik : (0 :: line)[i]? = some k := by
      rw [List.getElem?_eq_getElem (by simp; omega)] at hk ⊢
      exact congrArg some hk
    have hnx : IntsAre (ys ++ [.int k tn]) ((0 :: line).take (i + 1)) := by
      rw [List.take_add_one, hik]
      exact hys.append (.cons _ _ .nil)
    k_steps
    · rename_i q
      rw [hw] at q
      exact absurd q (by decide)
    · rename_i t8 h8 F8 N8 q
      show Back g L _ s Q (.ref l0) _
      have el := hends q
      have N8 : News g L h8 ((l0, W.listOf (List.toArray (ys ++ [.int k tn])) (n + 1)) :: tl) := fun p hp => N8 p (by rw [List.push_toArray]; exact hp)
      refine Back.intro F8 fun hE' => ret l0 (ys ++ [.int k tn]) (n + 1) _ _ hE' (born_of kp (fun p hp => ?_) N8 fun p hp q => nomatch q) ?_
      · rw [List.mem_singleton.mp hp]; exact List.mem_cons_self
      · rw [el, show line.length + 1 = (0 :: line).length from rfl, List.take_length] at hnx
        exact hnx
    · rename_i t8 h8 F8 N8 q
      show TurnEnd _ _ _ _ _ _ _ _ _ _ _
      have N8 : News g L h8 ((l0, W.listOf (List.toArray (ys ++ [.int k tn])) (n + 1)) :: tl) := fun p hp => N8 p (by rw [List.push_toArray]; exact hp)
      rw [ho] at F8
      refine TurnEnd.intro F8 N8 (ys ++ [.int k tn], n + 1) U (fun p hp => ?_) (fun p hp => List.mem_cons_of_mem _ hp) (fun p hp => ⟨List.mem_cons_of_mem _ (sub p hp), .inl hp, fun q => off p (sub p hp) _ q rfl⟩) ⟨hone q, hnx⟩ (let ⟨u, e⟩ := names3 rfl rfl rfl; ⟨u, _, e⟩)
      rw [List.mem_singleton.mp hp]; exact List.mem_cons_self
    · rename_i q
      exact absurd hin q
  case done2 =>
    rintro c U h tk m ⟨hil, _⟩ _ _ _ _
    have : (40 - 0 : Int).toNat = 40 := by decide
    omega
end S_ORing
section S_OChain
theorem reg18 : True := by
  k_with_none
  k_with "mm" => ((repeat' (first | (with_reducible exact List.mem_cons_self) | (with_reducible assumption) | (with_reducible refine List.mem_cons_of_mem _ ?_))); done)
  k_with "sub" => ((repeat' (first | (with_reducible exact sub_nil _) | (with_reducible refine sub_cons ?_ ?_) | (with_reducible exact List.mem_cons_self) | (with_reducible refine List.mem_cons_of_mem _ ?_) | (with_reducible assumption) | (intro p9 hp9))); done)
  k_with "v_sees" => first | exact Sees.keep (by assumption) (Fr.keep (by k_asm)) | exact Sees.sub (News.sees (by k_asm)) (fun _ h => by first | exact h | (refine List.mem_cons_of_mem _ ?_; exact h) | (refine List.mem_cons_of_mem _ (List.mem_cons_of_mem _ ?_); exact h))
  k_with "eval Name" => (k_here; (with_reducible show wpAny _ _ (eval (Expr.Name _ _) (compEnvC _ _ _ _)) _ _ _); k_dflt (first | (refine' nameB_L ?zqF ?zqv ?_ ?zqa ?zqb; (case zqF => k_asm); (case zqv => assumption); (case zqa => rfl); (case zqb => rfl)) | (refine' nameB_C ?zqF ?zqc ?zqo ?zqd ?_ ?zqa ?zqb; (case zqF => k_asm); (case zqa => rfl); (case zqb => rfl); (case zqc => rfl); (case zqo => assumption); (case zqd => assumption)) | (refine' nameB_G ?zqF ?zqX ?zqT ?zqe ?_ ?zqg ?zqa ?zqb; (case zqF => k_asm); (case zqX => k_asm); (case zqT => k_asm); (case zqg => rfl); (case zqa => rfl); (case zqb => rfl); (case zqe => k_is)) | (refine' nameB_B ?zqF ?zqX ?zqT ?zqe ?zqv ?zqn ?_ ?zqg ?zqh ?zqa ?zqb; (case zqF => k_asm); (case zqX => k_asm); (case zqT => k_asm); (case zqg => rfl); (case zqh => rfl); (case zqa => rfl); (case zqb => rfl); (case zqe => k_is); (case zqv => boot_fast); (case zqn => decide))))
  k_with "getAttr ref" => (k_here; (with_reducible show wpAny _ _ (getAttr (Value.ref _) (PySem.Str.ofString "way") _) _ _ _); k_dflt (refine' ent_way ?zqF ?zqX ?zqS ?zqx ?_; (case zqx => assumption); (case zqF => k_asm); (case zqX => k_asm); (case zqS => walk_at "v_sees")); intro _)
  k_with "getAttr ref" => (k_here; (with_reducible show wpAny _ _ (getAttr (Value.ref _) (PySem.Str.ofString "one") _) _ _ _); k_dflt (refine' ent_one ?zqF ?zqX ?zqS ?zqx ?_; (case zqx => assumption); (case zqF => k_asm); (case zqX => k_asm); (case zqS => walk_at "v_sees")); intro _)
  k_with "getAttr ref" => (k_here; (with_reducible show wpAny _ _ (getAttr (Value.ref _) (PySem.Str.ofString "two") _) _ _ _); k_dflt (refine' ent_two ?zqF ?zqX ?zqS ?zqx ?_; (case zqx => assumption); (case zqF => k_asm); (case zqX => k_asm); (case zqS => walk_at "v_sees")); intro _)
  k_with "getMethod ref" => (k_here; (with_reducible show wpAny _ _ (getMethod (Value.ref _) (PySem.Str.ofString "told") _) _ _ _); k_dflt (refine' ent_told ?zqF ?zqX ?zqS ?zqx ?_; (case zqx => assumption); (case zqF => k_asm); (case zqX => k_asm); (case zqS => walk_at "v_sees")))
  k_with "call builtin:sorted" => (k_here; (with_reducible show wpAny _ _ (call (Value.builtin _) [Value.ref _]) _ _ _); k_dflt (refine' sorted_edict ?zqhh ?zqS ?zqD ?zqF ?zqN ?zqz ?_; (case zqhh => first | assumption | exact Rm.hd_deeper (by assumption) _); (case zqD => assumption); (case zqF => k_asm); (case zqN => k_asm); (case zqS => walk_at "v_sees"); (case zqz => omega)); intro _ _ _ _ _ _ _ _ _ _ _ _; (try k_sweep))
  k_with "subscriptTail" => (k_here; (with_reducible show wpAny _ _ (subscriptTail _ _ (Value.ref _) (Value.int _ _)) _ _ _); k_dflt (refine' edict_item ?zqS ?zqD ?zqv ?_; (case zqD => assumption); (case zqv => assumption); (case zqS => walk_at "v_sees")))
  k_with "call ref" => (k_here; k_dflt (refine' told_use ?zqR ?zqX ?zqT ?zqF ?zqN ?zqS ?zqEn ?_; (case zqEn => assumption); (case zqR => first | exact Rm.less (by assumption) (by omega) (by omega) | exact Rm.deeper (Rm.less (by assumption) (by omega) (by omega)) _); (case zqX => k_asm); (case zqT => k_asm); (case zqF => k_asm); (case zqN => k_asm); (case zqS => walk_at "v_sees")); intro _ _ _ _ _ _ _ _ _; (try k_sweep))
  k_with "eval ListComp" => (k_here; k_dflt (refine' comp_raw ?zqcl ?zqce ?zqk ?zqn ?zqx ?_; (case zqcl => exact rfl); (case zqce => decide); (case zqk => rfl); (case zqn => decide); (case zqx => rfl)))
  k_with "exec For Name Call cons nil" => (k_here; k_dflt (refine for_raw (by rfl) (by rfl) ?_))
  k_with "exec For Name Name cons nil" => (k_here; k_dflt (refine for_raw (by rfl) (by rfl) ?_))
  k_with "call ref" => (k_here; k_dflt (refine' entry_use ?zqR ?zqX ?zqT ?zqF ?zqN ?_; (case zqR => exact Rm.deeper (Rm.less (by assumption) (by omega) (by omega)) _); (case zqX => k_asm); (case zqT => k_asm); (case zqF => k_asm); (case zqN => k_asm)); intro _ _ _ _ _ _ _ _ _ _ _ _ _ _ _ _ _; rename_i l1 l2 gw' g1' g2' gt'; (try k_lt l1); (try k_lt2 l2); (try k_sweep); revert l1 l2 gw' g1' g2' gt'; intro _ _ _ _ _ _)
  k_with "setItem ref int ref" => (k_here; k_dflt (refine' dict_set_K ?zqF ?zqN ?zqU ?zqhd ?zqhz ?_; (case zqF => k_asm); (case zqN => k_asm); (case zqU => k_updF); (case zqhd => assumption); (case zqhz => assumption)); intro _ _ _ _ _; rename_i N' hd'; (try dsimp only at N'); (try k_sweep); revert N' hd'; intro _ _)
  k_with "getMethod ref" => (k_here; (with_reducible show wpAny _ _ (getMethod (Value.ref _) (PySem.Str.ofString "get") _) _ _ _); k_dflt (refine' get_method ?zqS ?zqD ?_; (case zqD => first | assumption | exact EDict.dict (by assumption)); (case zqS => walk_at "v_sees")))
  k_with "call builtin:dict.get" => (k_here; (with_reducible show wpAny _ _ (call (Value.builtin _) [Value.ref _, Value.int _ _, Value.int _ _]) _ _ _); k_dflt (refine' get0_raw ?zqS ?zqD ?zqhg ?_; (case zqD => assumption); (case zqhg => assumption); (case zqS => walk_at "v_sees")); intro _)
  k_with "exec Assign cons ListComp" => (k_here; k_dflt (refine' comp_assign ?zqsw ?zqcl ?zqce ?zqk ?zqn ?zqx ?zqy ?zqp ?_; (case zqsw => rfl); (case zqcl => exact rfl); (case zqce => decide); (case zqk => rfl); (case zqn => decide); (case zqx => rfl); (case zqy => rfl); (case zqp => rfl)))
  k_with "compareOp NotIn int ref" => (k_here; k_dflt (refine' edict_notin ?zqS ?zqD ?_; (case zqD => assumption); (case zqS => walk_at "v_sees")))
  k_with "compareOp In int ref" => (k_here; k_dflt (refine' edict_in ?zqS ?zqD ?_; (case zqD => assumption); (case zqS => walk_at "v_sees")))
  k_with "unpackItems ref" => (k_here; k_dflt (refine' unpackItemsN_ ?zqk1 ?zqk2 ?zqk3 ?zqk4 ?zqk5 ?_; (case zqk1 => k_asm); (case zqk2 => k_asm); (case zqk3 => kun_tup); (case zqk4 => first | assumption | exact Rm.hd_deeper (by assumption) _); (case zqk5 => exact rfl); k_whole); intro _ _ _; (try k_sweep))
  k_with "assign Tuple" => (k_here; (with_reducible show wpAny _ _ (assign (Expr.Tuple _ _ _) _ (Value.ref _)) _ _ _); k_dflt (refine' unpackN_ ?zqk1 ?zqk2 ?zqk3 ?zqk4 ?zqk5 ?zqk6 ?_; (case zqk1 => k_asm); (case zqk2 => k_asm); (case zqk3 => first | kun_tup | exact tup_sees (by assumption) (by walk_at "v_sees")); (case zqk4 => first | assumption | exact Rm.hd_deeper (by assumption) _); (case zqk5 => exact rfl); (case zqk6 => exact rfl); k_whole); intro _ _ _; (try k_sweep))
  trivial
theorem dict_in_K {w : World} {A : Around} {E : Value → Shared → Prop} {s : Shared} {g : Heap} {L d : Addr} {led : Led} {o : Obj} {kvs : List (Int × Value)} {k : Int} {t : Tok} {Q : Value → Shared → Prop}
    (N : News g L s.heap led) (hp : (d, o) ∈ led) (hdo : o.IsDictOf (PySem.intKind PR w) kvs) (lo : (d == sysModules) = false) (h : Q (.bool (valueAt kvs k).isSome) { s with toks := s.toks + 1 }) :
    wpAny (model PR w) A (compareOp .In (.int k t) (.ref d)) Q E s :=
  wpAny_in_of (intKind_is _ _ k t) lo (Heap.dictOf_iff.mpr ⟨o, (N _ hp).1, hdo⟩ : s.heap.DictOf _ _ _).mapOf h
theorem dict_in_b {w : World} {A : Around} {E : Value → Shared → Prop} {s : Shared} {g : Heap} {L d : Addr} {led : Led} {o : Obj} {kvs : List (Int × Value)} {k : Int} {t : Tok} {bb : Bool} {Q : Value → Shared → Prop}
    (N : News g L s.heap led) (hp : (d, o) ∈ led) (hdo : o.IsDictOf (PySem.intKind PR w) kvs) (lo : (d == sysModules) = false) (hb : (valueAt kvs k).isSome = bb) (h : Q (.bool bb) { s with toks := s.toks + 1 }) :
    wpAny (model PR w) A (compareOp .In (.int k t) (.ref d)) Q E s := dict_in_K N hp hdo lo (by rw [hb]; exact h)
theorem ent_way' {w : World} {A : Around} {E : Value → Shared → Prop} {s : Shared} {V : Led} {e : Ent} {g : Heap} {L : Addr} {m : Str → Option Value} {expr : Bool} {Q : Value → Shared → Prop} {v : Str} (F : Fr g L s.heap m) (X : (hd.heap_1 w.params).In g) (S : Sees V s.heap) (x : EntV V e) (hv : e.way = v) (h : ∀ t, Q (.str v t) { s with toks := s.toks + 1 }) :
    wpAny (model PR w) A (getAttr (.ref e.x) "way" expr) Q E s := ent_way F X S x (by rw [hv]; exact h)
theorem ent_one' {w : World} {A : Around} {E : Value → Shared → Prop} {s : Shared} {V : Led} {e : Ent} {g : Heap} {L : Addr} {m : Str → Option Value} {expr : Bool} {Q : Value → Shared → Prop} {v : Int} (F : Fr g L s.heap m) (X : (hd.heap_1 w.params).In g) (S : Sees V s.heap) (x : EntV V e) (hv : e.one = v) (h : ∀ t, Q (.int v t) { s with toks := s.toks + 1 }) :
    wpAny (model PR w) A (getAttr (.ref e.x) "one" expr) Q E s := ent_one F X S x (by rw [hv]; exact h)
theorem ent_two' {w : World} {A : Around} {E : Value → Shared → Prop} {s : Shared} {V : Led} {e : Ent} {g : Heap} {L : Addr} {m : Str → Option Value} {expr : Bool} {Q : Value → Shared → Prop} {v : Int} (F : Fr g L s.heap m) (X : (hd.heap_1 w.params).In g) (S : Sees V s.heap) (x : EntV V e) (hv : e.two = v) (h : ∀ t, Q (.int v t) { s with toks := s.toks + 1 }) :
    wpAny (model PR w) A (getAttr (.ref e.x) "two" expr) Q E s := ent_two F X S x (by rw [hv]; exact h)
theorem reg19 : True := by
  k_with "getAttr ref" => (k_here; (with_reducible show wpAny _ _ (getAttr (Value.ref _) (PySem.Str.ofString "way") _) _ _ _); k_dflt (refine' ent_way' ?zqF ?zqX ?zqS ?zqx ?zqv ?_; (case zqx => assumption); (case zqv => assumption); (case zqF => k_asm); (case zqX => k_asm); (case zqS => walk_at "v_sees")); intro _)
  k_with "getAttr ref" => (k_here; (with_reducible show wpAny _ _ (getAttr (Value.ref _) (PySem.Str.ofString "one") _) _ _ _); k_dflt (refine' ent_one' ?zqF ?zqX ?zqS ?zqx ?zqv ?_; (case zqx => assumption); (case zqv => assumption); (case zqF => k_asm); (case zqX => k_asm); (case zqS => walk_at "v_sees")); intro _)
  k_with "getAttr ref" => (k_here; (with_reducible show wpAny _ _ (getAttr (Value.ref _) (PySem.Str.ofString "two") _) _ _ _); k_dflt (refine' ent_two' ?zqF ?zqX ?zqS ?zqx ?zqv ?_; (case zqx => assumption); (case zqv => assumption); (case zqF => k_asm); (case zqX => k_asm); (case zqS => walk_at "v_sees")); intro _)
  k_with "call builtin:dict.get" => (k_here; (with_reducible show wpAny _ _ (call (Value.builtin _) [Value.ref _, Value.int _ _]) _ _ _); k_dflt (refine' edict_get ?zqS ?zqD ?zqv ?_; (case zqD => assumption); (case zqv => assumption); (case zqS => walk_at "v_sees")))
  trivial
structure Held (P : Prop) : Prop where
  out : P
theorem Held.use {P : Prop} (h : Held P) : P := h.out
theorem reg20 : True := by
  k_with "exec While Constant cons nil" => (k_here; refine Held.use ?_)
  k_with "setItem ref int bool" => (k_here; k_dflt (refine' dict_set_K ?zqF ?zqN ?zqU ?zqhd ?zqhz ?_; (case zqF => k_asm); (case zqN => k_asm); (case zqU => k_updF); (case zqhd => assumption); (case zqhz => assumption)); intro _ _ _ _ _; rename_i N' hd'; (try dsimp only at N'); (try k_sweep); revert N' hd'; intro _ _)
  k_with "compareOp In int ref" => (k_here; k_dflt (refine' dict_in_b ?zqN ?zqhp ?zqhd ?zqlo ?zqhb ?_; (case zqN => k_asm); (case zqhp => k_mem); (case zqhd => assumption); (case zqlo => assumption); (case zqhb => assumption)))
  trivial
theorem valueAt_true (l : List Int) (x : Int) : (valueAt (l.map fun k => (k, Value.bool true)) x).isSome = decide (x ∈ l) := by
  unfold valueAt
  rw [Option.isSome_map]
  by_cases h : x ∈ l
  · rw [decide_eq_true h]
    exact List.find?_isSome.mpr ⟨(x, .bool true), List.mem_map_of_mem h, decide_eq_true rfl⟩
  · rw [decide_eq_false h]
    cases q : (l.map fun k => (k, Value.bool true)).find? fun kv => decide (kv.1 = x) with
    | none => rfl
    | some p =>
      obtain ⟨k, hk, rfl⟩ := List.mem_map.mp (List.mem_of_find?_eq_some q)
      have h1 := List.find?_some q
      have h2 : k = x := of_decide_eq_true h1
      exact absurd (h2 ▸ hk) h
theorem stored_true {l : List Int} {x : Int} (h : x ∉ l) : stored (l.map fun k => (k, Value.bool true)) x (.bool true) = (l ++ [x]).map fun k => (k, Value.bool true) := by
  unfold stored
  rw [if_neg, List.map_append]
  · rfl
  · intro q
    obtain ⟨p, hp, hk⟩ := List.any_eq_true.mp q
    obtain ⟨k, hk', rfl⟩ := List.mem_map.mp hp
    exact h (of_decide_eq_true hk ▸ hk')
theorem Chained.nxt {f : Int → Int} {es : List (Int × Ent)} {line : List Int} (C : Chained f es line) {i : Nat} (hi : i ≤ line.length) {x : Int} (hx : x = ((0 :: line)[i + 1]?).getD 0) : (x ∈ (0 :: line).take (i + 1) ↔ x = 0) ∧ (x ≠ 0 → i < line.length ∧ line[i]? = some x) := by
  rcases Nat.lt_or_ge i line.length with h | h
  · have e : (0 :: line)[i + 1]? = some line[i] := by rw [List.getElem?_cons_succ, List.getElem?_eq_getElem h]
    rw [e] at hx
    simp only [Option.getD_some] at hx
    have h1 := C.pos _ (List.getElem_mem h)
    refine ⟨⟨fun q => ?_, fun q => by omega⟩, fun _ => ⟨h, by rw [hx]; exact List.getElem?_eq_getElem h⟩⟩
    obtain ⟨j, hj, e2⟩ := List.mem_take_iff_getElem.mp q
    have := List.pairwise_iff_getElem.mp C.nodup j (i + 1) (by simp only [List.length_cons] at *; omega) (by simp only [List.length_cons]; omega) (by omega)
    rw [e2, hx] at this
    exact absurd rfl this
  · have e : (0 :: line)[i + 1]? = none := List.getElem?_eq_none (by simp only [List.length_cons]; omega)
    rw [e] at hx
    simp only [Option.getD_none] at hx
    subst hx
    exact ⟨⟨fun _ => rfl, fun _ => by rw [List.take_succ_cons]; exact List.mem_cons_self⟩, fun q => absurd rfl q⟩
theorem chain_spec {w : World} {A : Around} {E : Value → Shared → Prop} {s : Shared} {Q : Value → Shared → Prop} {b : Heap} {V : Led} {d : Addr} {es : List (Int × Ent)} {f : Int → Int} {line : List Int}
    (R : Rm A 3 40) (G : Gd w b) (S : b.StaysIn s.heap) (Sv : Sees V s.heap) (D : EDict w V d es) (C : Chained f es line) (hz : line.length < 40)
    (ret : ∀ (r : Addr) (ys : List Value) (n : Nat) (h' : Heap) (tk : Nat), Ext [] s.heap h' → Born s.heap h' [(r, W.listOf (List.toArray ys) n)] → IntsAre ys line → Q (.ref r) { s with heap := h', toks := tk }) :
    wpAny (model PR w) A (call (.ref 99) [.ref d]) Q E s := by
  obtain ⟨X, l, mg, mb, T⟩ := G
  refine call_fn (R.less (by omega) (by omega)) X T.nolimit S [] (fun p hp => nomatch hp) (by k_is) (by k_is) (BindsTo.of_eq rfl) (locs rfl) (fun g L h₁ st kp F N => ?_) (by decide)
  have X := X.keeps st
  have T := T.keeps st
  have Sg : Sees V g := fun p hp => kp _ _ (Sv p hp) (by first | walk_at "mm" | simp)
  k_steps
  rename_i l0 h2 _ h3 kd h4 o1 lo _ _ _ _ l3 h5 h6 o2 hd2 _ h7 F1 N1
  refine ⟨While_inv2 (n₀ := line.length) (fun n m news => ∃ (i : Nat) (ys : List Value) (c : Nat) (o : Obj) (u : Str → Option Value) (tn : Tok), n = line.length - i ∧ i ≤ line.length ∧ news = [(kd, o), (l0, W.listOf (List.toArray ys) c)] ∧ IntsAre ys (line.take i) ∧
    o.IsDictOf (PySem.intKind PR w) (((0 :: line).take (i + 1)).map fun k => (k, Value.bool true)) ∧
    m = fun z => if z = Str.ofString "here" then some (.int (((0 :: line)[i]?).getD 0) tn) else if z = Str.ofString "known" then some (.ref kd) else if z = Str.ofString "found" then some (.ref l0) else if z = Str.ofString "entries" then some (.ref d) else u z) F1 N1 ?hJ ?turn⟩
  case hJ =>
    obtain ⟨u, e⟩ := names4 rfl rfl rfl rfl
    exact ⟨0, [], _, _, u, _, rfl, Nat.zero_le _, rfl, .nil, hd2, e⟩
  case turn =>
    rintro n m news h9 tk9 F9 N9 ⟨i, ys, c, o, u, tn, rfl, hil, rfl, hys, hdo, rfl⟩
    clear F1 N1
    obtain ⟨e, he, hw, ho, h2⟩ := C.at' i hil
    generalize hk : ((0 :: line)[i]?).getD 0 = k at he F9
    have hE := D.ents _ (getE_mem he)
    have hkv : (valueAt (((0 :: line).take (i + 1)).map fun k => (k, Value.bool true)) e.one).isSome = decide (e.one = 0) := by
      rw [valueAt_true]
      exact decide_eq_decide.mpr (C.nxt hil ho).1
    have hz9 : (((0 :: line).take (i + 1)).map fun k => (k, Value.bool true)).length ≤ 1000 := by simp; omega
    by_cases h0 : e.one = 0
    · have hend : i = line.length := by
        refine Nat.le_antisymm hil (Nat.not_lt.mp fun hlt => ?_)
        rw [ho, List.getElem?_cons_succ, List.getElem?_eq_getElem hlt] at h0
        have := C.pos _ (List.getElem_mem hlt)
        simp at h0
        omega
      k_steps
      rename_i t8 h8 F8 N8
      show Back g L _ s Q (.ref l0) _
      refine Back.intro F8 fun hE' => ret l0 ys c _ _ hE' (born_of kp (fun p hp => ?_) N8 fun p hp q => nomatch q) ?_
      · rw [List.mem_singleton.mp hp]; exact List.mem_cons_of_mem _ List.mem_cons_self
      · rw [hend, List.take_length] at hys
        exact hys
    · rw [decide_eq_false h0] at hkv
      have nx := C.nxt hil ho
      have hlen := (nx.2 h0).1
      have hl1 := (nx.2 h0).2
      have hnm : e.one ∉ (0 :: line).take (i + 1) := fun q => h0 (nx.1.mp q)
      generalize hk1 : e.one = k1 at *
      k_steps
      · rename_i q
        exact absurd q h0
      · rename_i t8 h8 _ _ _ h81 o8 hd8 h82 F8 N8
        have N8 : News g L h82 [(kd, o8), (l0, W.listOf (List.toArray (ys ++ [.int k1 t8])) (c + 1))] := fun p hp => N8 p (by rw [List.push_toArray]; exact hp)
        have et : (0 :: line).take (i + 1 + 1) = (0 :: line).take (i + 1) ++ [k1] := by
          rw [List.take_add_one (i := i + 1), List.getElem?_cons_succ, hl1]
          rfl
        rw [stored_true hnm, ← et] at hd8
        obtain ⟨u', e'⟩ := names4 rfl rfl rfl rfl
        refine ⟨_, _, _, _, line.length - (i + 1), rfl, F8, N8, by omega, i + 1, ys ++ [.int k1 t8], c + 1, o8, u', t8, rfl, hlen, rfl, ?_, hd8, ?_⟩
        · rw [List.take_add_one, hl1]
          exact hys.append (.cons _ _ .nil)
        · rw [← ho]; exact e'
end S_OChain
section S_OFnum
theorem reg21 : True := by
  k_with_none
  k_with "mm" => ((repeat' (first | (with_reducible exact List.mem_cons_self) | (with_reducible assumption) | (with_reducible refine List.mem_cons_of_mem _ ?_))); done)
  k_with "sub" => ((repeat' (first | (with_reducible exact sub_nil _) | (with_reducible refine sub_cons ?_ ?_) | (with_reducible exact List.mem_cons_self) | (with_reducible refine List.mem_cons_of_mem _ ?_) | (with_reducible assumption) | (intro p9 hp9))); done)
  k_with "v_sees" => first | exact Sees.keep (by assumption) (Fr.keep (by k_asm)) | exact Sees.sub (News.sees (by k_asm)) (fun _ h => by first | exact h | (refine List.mem_cons_of_mem _ ?_; exact h) | (refine List.mem_cons_of_mem _ (List.mem_cons_of_mem _ ?_); exact h))
  k_with "eval Name" => (k_here; (with_reducible show wpAny _ _ (eval (Expr.Name _ _) (compEnvC _ _ _ _)) _ _ _); k_dflt (first | (refine' nameB_L ?zqF ?zqv ?_ ?zqa ?zqb; (case zqF => k_asm); (case zqv => assumption); (case zqa => rfl); (case zqb => rfl)) | (refine' nameB_C ?zqF ?zqc ?zqo ?zqd ?_ ?zqa ?zqb; (case zqF => k_asm); (case zqa => rfl); (case zqb => rfl); (case zqc => rfl); (case zqo => assumption); (case zqd => assumption)) | (refine' nameB_G ?zqF ?zqX ?zqT ?zqe ?_ ?zqg ?zqa ?zqb; (case zqF => k_asm); (case zqX => k_asm); (case zqT => k_asm); (case zqg => rfl); (case zqa => rfl); (case zqb => rfl); (case zqe => k_is)) | (refine' nameB_B ?zqF ?zqX ?zqT ?zqe ?zqv ?zqn ?_ ?zqg ?zqh ?zqa ?zqb; (case zqF => k_asm); (case zqX => k_asm); (case zqT => k_asm); (case zqg => rfl); (case zqh => rfl); (case zqa => rfl); (case zqb => rfl); (case zqe => k_is); (case zqv => boot_fast); (case zqn => decide))))
  k_with "getAttr ref" => (k_here; (with_reducible show wpAny _ _ (getAttr (Value.ref _) (PySem.Str.ofString "way") _) _ _ _); k_dflt (refine' ent_way ?zqF ?zqX ?zqS ?zqx ?_; (case zqx => assumption); (case zqF => k_asm); (case zqX => k_asm); (case zqS => walk_at "v_sees")); intro _)
  k_with "getAttr ref" => (k_here; (with_reducible show wpAny _ _ (getAttr (Value.ref _) (PySem.Str.ofString "one") _) _ _ _); k_dflt (refine' ent_one ?zqF ?zqX ?zqS ?zqx ?_; (case zqx => assumption); (case zqF => k_asm); (case zqX => k_asm); (case zqS => walk_at "v_sees")); intro _)
  k_with "getAttr ref" => (k_here; (with_reducible show wpAny _ _ (getAttr (Value.ref _) (PySem.Str.ofString "two") _) _ _ _); k_dflt (refine' ent_two ?zqF ?zqX ?zqS ?zqx ?_; (case zqx => assumption); (case zqF => k_asm); (case zqX => k_asm); (case zqS => walk_at "v_sees")); intro _)
  k_with "getMethod ref" => (k_here; (with_reducible show wpAny _ _ (getMethod (Value.ref _) (PySem.Str.ofString "told") _) _ _ _); k_dflt (refine' ent_told ?zqF ?zqX ?zqS ?zqx ?_; (case zqx => assumption); (case zqF => k_asm); (case zqX => k_asm); (case zqS => walk_at "v_sees")))
  k_with "call builtin:sorted" => (k_here; (with_reducible show wpAny _ _ (call (Value.builtin _) [Value.ref _]) _ _ _); k_dflt (refine' sorted_edict ?zqhh ?zqS ?zqD ?zqF ?zqN ?zqz ?_; (case zqhh => first | assumption | exact Rm.hd_deeper (by assumption) _); (case zqD => assumption); (case zqF => k_asm); (case zqN => k_asm); (case zqS => walk_at "v_sees"); (case zqz => omega)); intro _ _ _ _ _ _ _ _ _ _ _ _; (try k_sweep))
  k_with "subscriptTail" => (k_here; (with_reducible show wpAny _ _ (subscriptTail _ _ (Value.ref _) (Value.int _ _)) _ _ _); k_dflt (refine' edict_item ?zqS ?zqD ?zqv ?_; (case zqD => assumption); (case zqv => assumption); (case zqS => walk_at "v_sees")))
  k_with "call ref" => (k_here; k_dflt (refine' told_use ?zqR ?zqX ?zqT ?zqF ?zqN ?zqS ?zqEn ?_; (case zqEn => assumption); (case zqR => first | exact Rm.less (by assumption) (by omega) (by omega) | exact Rm.deeper (Rm.less (by assumption) (by omega) (by omega)) _); (case zqX => k_asm); (case zqT => k_asm); (case zqF => k_asm); (case zqN => k_asm); (case zqS => walk_at "v_sees")); intro _ _ _ _ _ _ _ _ _; (try k_sweep))
  k_with "eval ListComp" => (k_here; k_dflt (refine' comp_raw ?zqcl ?zqce ?zqk ?zqn ?zqx ?_; (case zqcl => exact rfl); (case zqce => decide); (case zqk => rfl); (case zqn => decide); (case zqx => rfl)))
  k_with "exec For Name Call cons nil" => (k_here; k_dflt (refine for_raw (by rfl) (by rfl) ?_))
  k_with "exec For Name Name cons nil" => (k_here; k_dflt (refine for_raw (by rfl) (by rfl) ?_))
  k_with "call ref" => (k_here; k_dflt (refine' entry_use ?zqR ?zqX ?zqT ?zqF ?zqN ?_; (case zqR => exact Rm.deeper (Rm.less (by assumption) (by omega) (by omega)) _); (case zqX => k_asm); (case zqT => k_asm); (case zqF => k_asm); (case zqN => k_asm)); intro _ _ _ _ _ _ _ _ _ _ _ _ _ _ _ _ _; rename_i l1 l2 gw' g1' g2' gt'; (try k_lt l1); (try k_lt2 l2); (try k_sweep); revert l1 l2 gw' g1' g2' gt'; intro _ _ _ _ _ _)
  k_with "setItem ref int ref" => (k_here; k_dflt (refine' dict_set_K ?zqF ?zqN ?zqU ?zqhd ?zqhz ?_; (case zqF => k_asm); (case zqN => k_asm); (case zqU => k_updF); (case zqhd => assumption); (case zqhz => assumption)); intro _ _ _ _ _; rename_i N' hd'; (try dsimp only at N'); (try k_sweep); revert N' hd'; intro _ _)
  k_with "getMethod ref" => (k_here; (with_reducible show wpAny _ _ (getMethod (Value.ref _) (PySem.Str.ofString "get") _) _ _ _); k_dflt (refine' get_method ?zqS ?zqD ?_; (case zqD => first | assumption | exact EDict.dict (by assumption)); (case zqS => walk_at "v_sees")))
  k_with "call builtin:dict.get" => (k_here; (with_reducible show wpAny _ _ (call (Value.builtin _) [Value.ref _, Value.int _ _, Value.int _ _]) _ _ _); k_dflt (refine' get0_raw ?zqS ?zqD ?zqhg ?_; (case zqD => assumption); (case zqhg => assumption); (case zqS => walk_at "v_sees")); intro _)
  k_with "exec Assign cons ListComp" => (k_here; k_dflt (refine' comp_assign ?zqsw ?zqcl ?zqce ?zqk ?zqn ?zqx ?zqy ?zqp ?_; (case zqsw => rfl); (case zqcl => exact rfl); (case zqce => decide); (case zqk => rfl); (case zqn => decide); (case zqx => rfl); (case zqy => rfl); (case zqp => rfl)))
  k_with "compareOp NotIn int ref" => (k_here; k_dflt (refine' edict_notin ?zqS ?zqD ?_; (case zqD => assumption); (case zqS => walk_at "v_sees")))
  k_with "compareOp In int ref" => (k_here; k_dflt (refine' edict_in ?zqS ?zqD ?_; (case zqD => assumption); (case zqS => walk_at "v_sees")))
  k_with "unpackItems ref" => (k_here; k_dflt (refine' unpackItemsN_ ?zqk1 ?zqk2 ?zqk3 ?zqk4 ?zqk5 ?_; (case zqk1 => k_asm); (case zqk2 => k_asm); (case zqk3 => kun_tup); (case zqk4 => first | assumption | exact Rm.hd_deeper (by assumption) _); (case zqk5 => exact rfl); k_whole); intro _ _ _; (try k_sweep))
  k_with "assign Tuple" => (k_here; (with_reducible show wpAny _ _ (assign (Expr.Tuple _ _ _) _ (Value.ref _)) _ _ _); k_dflt (refine' unpackN_ ?zqk1 ?zqk2 ?zqk3 ?zqk4 ?zqk5 ?zqk6 ?_; (case zqk1 => k_asm); (case zqk2 => k_asm); (case zqk3 => first | kun_tup | exact tup_sees (by assumption) (by walk_at "v_sees")); (case zqk4 => first | assumption | exact Rm.hd_deeper (by assumption) _); (case zqk5 => exact rfl); (case zqk6 => exact rfl); k_whole); intro _ _ _; (try k_sweep))
  k_with "getAttr ref" => (k_here; (with_reducible show wpAny _ _ (getAttr (Value.ref _) (PySem.Str.ofString "way") _) _ _ _); k_dflt (refine' ent_way' ?zqF ?zqX ?zqS ?zqx ?zqv ?_; (case zqx => assumption); (case zqv => assumption); (case zqF => k_asm); (case zqX => k_asm); (case zqS => walk_at "v_sees")); intro _)
  k_with "getAttr ref" => (k_here; (with_reducible show wpAny _ _ (getAttr (Value.ref _) (PySem.Str.ofString "one") _) _ _ _); k_dflt (refine' ent_one' ?zqF ?zqX ?zqS ?zqx ?zqv ?_; (case zqx => assumption); (case zqv => assumption); (case zqF => k_asm); (case zqX => k_asm); (case zqS => walk_at "v_sees")); intro _)
  k_with "getAttr ref" => (k_here; (with_reducible show wpAny _ _ (getAttr (Value.ref _) (PySem.Str.ofString "two") _) _ _ _); k_dflt (refine' ent_two' ?zqF ?zqX ?zqS ?zqx ?zqv ?_; (case zqx => assumption); (case zqv => assumption); (case zqF => k_asm); (case zqX => k_asm); (case zqS => walk_at "v_sees")); intro _)
  k_with "call builtin:dict.get" => (k_here; (with_reducible show wpAny _ _ (call (Value.builtin _) [Value.ref _, Value.int _ _]) _ _ _); k_dflt (refine' edict_get ?zqS ?zqD ?zqv ?_; (case zqD => assumption); (case zqv => assumption); (case zqS => walk_at "v_sees")))
  trivial
theorem perm_ext {l r : List Int} (h1 : l.Nodup) (h2 : r.Nodup) (h : ∀ x, x ∈ l ↔ x ∈ r) : l.Perm r := by
  rw [List.perm_iff_count]
  intro x
  rw [h1.count, h2.count]
  simp only [h x]
theorem fnum_spec {w : World} {A : Around} {E : Value → Shared → Prop} {s : Shared} {Q : Value → Shared → Prop} {b : Heap} {V : Led} {d : Addr} {es : List (Int × Ent)} {f : Int → Int} {line : List Int}
    (R : Rm A 3 40) (G : Gd w b) (S : b.StaysIn s.heap) (Sv : Sees V s.heap) (D : EDict w V d es) (C : Chained f es line) (hz : es.length < 60) (hso : line.Pairwise (· < ·))
    (ret : ∀ (r : Addr) (ys : List Value) (n : Nat) (h' : Heap) (tk : Nat), Ext [] s.heap h' → Born s.heap h' [(r, W.listOf (List.toArray ys) n)] → IntsAre ys line → Q (.ref r) { s with heap := h', toks := tk }) :
    wpAny (model PR w) A (call (.ref 92) [.ref d]) Q E s := by
  obtain ⟨X, l, mg, mb, T⟩ := G
  refine call_fnC (R.less (by omega) (by omega)) X T.nolimit S [] (fun p hp => nomatch hp) (by k_is) (by k_is) (BindsTo.of_eq rfl) (by rfl) (by decide +kernel) (fun g L h₁ tk cells st kp F N Y l1 => ?_)
  have hY := CellsAre.one Y
  obtain ⟨oc, rfl, dc⟩ := hY
  have X := X.keeps st
  have T := T.keeps st
  have Sg : Sees V g := fun p hp => kp _ _ (Sv p hp) (by first | walk_at "mm" | simp)
  simp only [List.cons_append, List.nil_append] at N
  k_steps
  rename_i r1 h1 tk1 vs ns n F1 N1 l2 hi hp ho
  have hlv := hi.length
  have hln : ns.length = es.length := by rw [hp.length_eq, List.length_map]
  have h1r := N1 _ List.mem_cons_self
  have h1c := N1 _ (List.mem_cons_of_mem _ List.mem_cons_self)
  let T0 : Int → Bool := fun k => decide (0 < k) && decide ((getE es k).map (·.way) = some (Str.ofString "free"))
  refine list_comp (σ := Unit) (vs := vs) (fun _ => []) [] (fun V _ i ys => IntsAre ys ((ns.take i).filter T0)) () R.hd ⟨_, h1r.1, rfl, ⟨_, rfl⟩⟩ (fun q => nomatch q) (by omega) (fun _ => rfl) (fun p hp => nomatch hp) (fun V U c i ys h sub => h) (fun V c i ys h => by have := h.length; have := List.length_filter_le T0 (ns.take i); simp at *; omega) .nil ?turn ?done
  case turn =>
    rintro c i v ys U tl s' C' h tk m g' rfl hC kp' hv hD sub off hx F2 N2
    have st' : g.StaysIn g' := fun a o e => kp' a o (F1.keep a o e) (fun q => nomatch q) fun q => by subst q; rw [h1r.2.2] at e; cases e
    have X := X.keeps st'
    have T := T.keeps st'
    have Sg' : Sees V g' := Sg.keep st'
    have hc' := kp' _ _ h1c.1 (fun q => nomatch q) (l2 (L + 1, oc) (by first | walk_at "mm" | simp))
    obtain ⟨k, t, hk, rfl⟩ := IntsAre.at hi hv
    have hmem : k ∈ es.map (·.1) := hp.mem_iff.mp (List.mem_of_getElem? hk)
    obtain ⟨e, he⟩ := Option.isSome_iff_exists.mp (show (getE es k).isSome = true by rw [getE_isSome]; exact decide_eq_true hmem)
    have hE := D.ents _ (getE_mem he)
    have hT0 : T0 k = (decide (0 < k) && decide (e.way = Str.ofString "free")) := by
      show (decide (0 < k) && decide ((getE es k).map (·.way) = some (Str.ofString "free"))) = _
      rw [he]
      simp only [Option.map_some, Option.some.injEq]
    simp only [List.nil_append] at N2
    have dc' : oc.data = .cell (some (.ref d)) := dc
    refine wpAny_tests_one ?_
    have hfil : ∀ bb, T0 k = bb → (ns.take (i + 1)).filter T0 = (ns.take i).filter T0 ++ (if bb = true then [k] else []) := by
      rintro bb rfl
      rw [List.take_add_one, hk, List.filter_append, Option.toList_some, List.filter_cons, List.filter_nil]
    k_steps
    · rename_i q1 t' q2
      refine CTurnEnd.intro F2 N2 () [] (fun p hp => nomatch hp) (fun p hp => hp) (fun p hp => nomatch hp) ?_
      show IntsAre _ _
      rw [hfil true (by rw [hT0, decide_eq_true q1]; simpa using q2)]
      exact hD.append (.cons _ _ .nil)
    · rename_i q1 t' q2
      refine CTurnEnd.intro F2 N2 () [] (fun p hp => nomatch hp) (fun p hp => hp) (fun p hp => nomatch hp) ?_
      show IntsAre _ _
      rw [hfil false (by rw [hT0, decide_eq_true q1]; simpa using q2)]
      simpa using hD
    · rename_i q1
      refine CTurnEnd.intro F2 N2 () [] (fun p hp => nomatch hp) (fun p hp => hp) (fun p hp => nomatch hp) ?_
      show IntsAre _ _
      rw [hfil false (by rw [hT0, decide_eq_false q1]; rfl)]
      simpa using hD
  case done =>
    rintro c U C' D' ys h tk s₂ hD hE' _ hB hC hCD hVC ⟨o, rfl⟩
    intro h' sb
    obtain ⟨e1, b1⟩ := comp_close hE' hB hC sb (fun p hp => by
      rcases List.mem_cons.mp hp with rfl | hp
      · exact hCD.symm
      · exact hVC p hp)
    refine Back.intro (Fr.keeps F1 e1.keep) fun hE2 => ?_
    rw [hlv, List.take_length] at hD
    have b2 := Born.back kp b1 F1.keep fun p hp q => nomatch q
    refine ret D' ys _ h' tk hE2 (fun p hp => b2 p (by rw [List.mem_singleton.mp hp]; exact List.mem_cons_self)) ?_
    have hnn : ns.Nodup := hp.nodup_iff.mpr D.nodup
    have el : ns.filter T0 = line := by
      refine eq_of_sorted (perm_ext (hnn.filter _) (hso.imp fun h => Int.ne_of_lt h) fun x => ?_) (ho.filter _) hso
      rw [List.mem_filter]
      constructor
      · rintro ⟨_, h2⟩
        obtain ⟨h3, h4⟩ := (Bool.and_eq_true _ _).mp h2
        have h3 := of_decide_eq_true h3
        have h4 := of_decide_eq_true h4
        cases q : getE es x with
        | none => rw [q] at h4; cases h4
        | some e =>
          rw [q] at h4
          have := C.only x e q (Option.some.inj h4)
          rcases List.mem_cons.mp this with rfl | this
          · exact absurd h3 (by decide)
          · exact this
      · intro hx
        obtain ⟨i, hi', rfl⟩ := List.getElem_of_mem hx
        obtain ⟨e, he, hw, _⟩ := C.at' (i + 1) (by omega)
        rw [List.getElem?_cons_succ, List.getElem?_eq_getElem hi'] at he
        simp only [Option.getD_some] at he
        refine ⟨hp.mem_iff.mpr (of_decide_eq_true ((getE_isSome es _).symm.trans (by rw [he]; rfl))), ?_⟩
        show (decide (0 < line[i]) && decide ((getE es line[i]).map (·.way) = some (Str.ofString "free"))) = true
        have := C.pos _ hx
        rw [he, decide_eq_true (by omega), Option.map_some, hw]
        simp
    rw [el] at hD
    exact hD
end S_OFnum
section S_OFault
theorem reg22 : True := by
  k_with_none
  k_with "mm" => ((repeat' (first | (with_reducible exact List.mem_cons_self) | (with_reducible assumption) | (with_reducible refine List.mem_cons_of_mem _ ?_))); done)
  k_with "sub" => ((repeat' (first | (with_reducible exact sub_nil _) | (with_reducible refine sub_cons ?_ ?_) | (with_reducible exact List.mem_cons_self) | (with_reducible refine List.mem_cons_of_mem _ ?_) | (with_reducible assumption) | (intro p9 hp9))); done)
  k_with "v_sees" => first | exact Sees.keep (by assumption) (Fr.keep (by k_asm)) | exact Sees.sub (News.sees (by k_asm)) (fun _ h => by first | exact h | (refine List.mem_cons_of_mem _ ?_; exact h) | (refine List.mem_cons_of_mem _ (List.mem_cons_of_mem _ ?_); exact h))
  k_with "eval Name" => (k_here; (with_reducible show wpAny _ _ (eval (Expr.Name _ _) (compEnvC _ _ _ _)) _ _ _); k_dflt (first | (refine' nameB_L ?zqF ?zqv ?_ ?zqa ?zqb; (case zqF => k_asm); (case zqv => assumption); (case zqa => rfl); (case zqb => rfl)) | (refine' nameB_C ?zqF ?zqc ?zqo ?zqd ?_ ?zqa ?zqb; (case zqF => k_asm); (case zqa => rfl); (case zqb => rfl); (case zqc => rfl); (case zqo => assumption); (case zqd => assumption)) | (refine' nameB_G ?zqF ?zqX ?zqT ?zqe ?_ ?zqg ?zqa ?zqb; (case zqF => k_asm); (case zqX => k_asm); (case zqT => k_asm); (case zqg => rfl); (case zqa => rfl); (case zqb => rfl); (case zqe => k_is)) | (refine' nameB_B ?zqF ?zqX ?zqT ?zqe ?zqv ?zqn ?_ ?zqg ?zqh ?zqa ?zqb; (case zqF => k_asm); (case zqX => k_asm); (case zqT => k_asm); (case zqg => rfl); (case zqh => rfl); (case zqa => rfl); (case zqb => rfl); (case zqe => k_is); (case zqv => boot_fast); (case zqn => decide))))
  k_with "getAttr ref" => (k_here; (with_reducible show wpAny _ _ (getAttr (Value.ref _) (PySem.Str.ofString "way") _) _ _ _); k_dflt (refine' ent_way ?zqF ?zqX ?zqS ?zqx ?_; (case zqx => assumption); (case zqF => k_asm); (case zqX => k_asm); (case zqS => walk_at "v_sees")); intro _)
  k_with "getAttr ref" => (k_here; (with_reducible show wpAny _ _ (getAttr (Value.ref _) (PySem.Str.ofString "one") _) _ _ _); k_dflt (refine' ent_one ?zqF ?zqX ?zqS ?zqx ?_; (case zqx => assumption); (case zqF => k_asm); (case zqX => k_asm); (case zqS => walk_at "v_sees")); intro _)
  k_with "getAttr ref" => (k_here; (with_reducible show wpAny _ _ (getAttr (Value.ref _) (PySem.Str.ofString "two") _) _ _ _); k_dflt (refine' ent_two ?zqF ?zqX ?zqS ?zqx ?_; (case zqx => assumption); (case zqF => k_asm); (case zqX => k_asm); (case zqS => walk_at "v_sees")); intro _)
  k_with "getMethod ref" => (k_here; (with_reducible show wpAny _ _ (getMethod (Value.ref _) (PySem.Str.ofString "told") _) _ _ _); k_dflt (refine' ent_told ?zqF ?zqX ?zqS ?zqx ?_; (case zqx => assumption); (case zqF => k_asm); (case zqX => k_asm); (case zqS => walk_at "v_sees")))
  k_with "call builtin:sorted" => (k_here; (with_reducible show wpAny _ _ (call (Value.builtin _) [Value.ref _]) _ _ _); k_dflt (refine' sorted_edict ?zqhh ?zqS ?zqD ?zqF ?zqN ?zqz ?_; (case zqhh => first | assumption | exact Rm.hd_deeper (by assumption) _); (case zqD => assumption); (case zqF => k_asm); (case zqN => k_asm); (case zqS => walk_at "v_sees"); (case zqz => omega)); intro _ _ _ _ _ _ _ _ _ _ _ _; (try k_sweep))
  k_with "subscriptTail" => (k_here; (with_reducible show wpAny _ _ (subscriptTail _ _ (Value.ref _) (Value.int _ _)) _ _ _); k_dflt (refine' edict_item ?zqS ?zqD ?zqv ?_; (case zqD => assumption); (case zqv => assumption); (case zqS => walk_at "v_sees")))
  k_with "call ref" => (k_here; k_dflt (refine' told_use ?zqR ?zqX ?zqT ?zqF ?zqN ?zqS ?zqEn ?_; (case zqEn => assumption); (case zqR => first | exact Rm.less (by assumption) (by omega) (by omega) | exact Rm.deeper (Rm.less (by assumption) (by omega) (by omega)) _); (case zqX => k_asm); (case zqT => k_asm); (case zqF => k_asm); (case zqN => k_asm); (case zqS => walk_at "v_sees")); intro _ _ _ _ _ _ _ _ _; (try k_sweep))
  k_with "eval ListComp" => (k_here; k_dflt (refine' comp_raw ?zqcl ?zqce ?zqk ?zqn ?zqx ?_; (case zqcl => exact rfl); (case zqce => decide); (case zqk => rfl); (case zqn => decide); (case zqx => rfl)))
  k_with "exec For Name Call cons nil" => (k_here; k_dflt (refine for_raw (by rfl) (by rfl) ?_))
  k_with "exec For Name Name cons nil" => (k_here; k_dflt (refine for_raw (by rfl) (by rfl) ?_))
  k_with "call ref" => (k_here; k_dflt (refine' entry_use ?zqR ?zqX ?zqT ?zqF ?zqN ?_; (case zqR => exact Rm.deeper (Rm.less (by assumption) (by omega) (by omega)) _); (case zqX => k_asm); (case zqT => k_asm); (case zqF => k_asm); (case zqN => k_asm)); intro _ _ _ _ _ _ _ _ _ _ _ _ _ _ _ _ _; rename_i l1 l2 gw' g1' g2' gt'; (try k_lt l1); (try k_lt2 l2); (try k_sweep); revert l1 l2 gw' g1' g2' gt'; intro _ _ _ _ _ _)
  k_with "setItem ref int ref" => (k_here; k_dflt (refine' dict_set_K ?zqF ?zqN ?zqU ?zqhd ?zqhz ?_; (case zqF => k_asm); (case zqN => k_asm); (case zqU => k_updF); (case zqhd => assumption); (case zqhz => assumption)); intro _ _ _ _ _; rename_i N' hd'; (try dsimp only at N'); (try k_sweep); revert N' hd'; intro _ _)
  k_with "getMethod ref" => (k_here; (with_reducible show wpAny _ _ (getMethod (Value.ref _) (PySem.Str.ofString "get") _) _ _ _); k_dflt (refine' get_method ?zqS ?zqD ?_; (case zqD => first | assumption | exact EDict.dict (by assumption)); (case zqS => walk_at "v_sees")))
  k_with "call builtin:dict.get" => (k_here; (with_reducible show wpAny _ _ (call (Value.builtin _) [Value.ref _, Value.int _ _, Value.int _ _]) _ _ _); k_dflt (refine' get0_raw ?zqS ?zqD ?zqhg ?_; (case zqD => assumption); (case zqhg => assumption); (case zqS => walk_at "v_sees")); intro _)
  k_with "exec Assign cons ListComp" => (k_here; k_dflt (refine' comp_assign ?zqsw ?zqcl ?zqce ?zqk ?zqn ?zqx ?zqy ?zqp ?_; (case zqsw => rfl); (case zqcl => exact rfl); (case zqce => decide); (case zqk => rfl); (case zqn => decide); (case zqx => rfl); (case zqy => rfl); (case zqp => rfl)))
  k_with "compareOp NotIn int ref" => (k_here; k_dflt (refine' edict_notin ?zqS ?zqD ?_; (case zqD => assumption); (case zqS => walk_at "v_sees")))
  k_with "compareOp In int ref" => (k_here; k_dflt (refine' edict_in ?zqS ?zqD ?_; (case zqD => assumption); (case zqS => walk_at "v_sees")))
  k_with "unpackItems ref" => (k_here; k_dflt (refine' unpackItemsN_ ?zqk1 ?zqk2 ?zqk3 ?zqk4 ?zqk5 ?_; (case zqk1 => k_asm); (case zqk2 => k_asm); (case zqk3 => kun_tup); (case zqk4 => first | assumption | exact Rm.hd_deeper (by assumption) _); (case zqk5 => exact rfl); k_whole); intro _ _ _; (try k_sweep))
  k_with "assign Tuple" => (k_here; (with_reducible show wpAny _ _ (assign (Expr.Tuple _ _ _) _ (Value.ref _)) _ _ _); k_dflt (refine' unpackN_ ?zqk1 ?zqk2 ?zqk3 ?zqk4 ?zqk5 ?zqk6 ?_; (case zqk1 => k_asm); (case zqk2 => k_asm); (case zqk3 => first | kun_tup | exact tup_sees (by assumption) (by walk_at "v_sees")); (case zqk4 => first | assumption | exact Rm.hd_deeper (by assumption) _); (case zqk5 => exact rfl); (case zqk6 => exact rfl); k_whole); intro _ _ _; (try k_sweep))
  k_with "getAttr ref" => (k_here; (with_reducible show wpAny _ _ (getAttr (Value.ref _) (PySem.Str.ofString "way") _) _ _ _); k_dflt (refine' ent_way' ?zqF ?zqX ?zqS ?zqx ?zqv ?_; (case zqx => assumption); (case zqv => assumption); (case zqF => k_asm); (case zqX => k_asm); (case zqS => walk_at "v_sees")); intro _)
  k_with "getAttr ref" => (k_here; (with_reducible show wpAny _ _ (getAttr (Value.ref _) (PySem.Str.ofString "one") _) _ _ _); k_dflt (refine' ent_one' ?zqF ?zqX ?zqS ?zqx ?zqv ?_; (case zqx => assumption); (case zqv => assumption); (case zqF => k_asm); (case zqX => k_asm); (case zqS => walk_at "v_sees")); intro _)
  k_with "getAttr ref" => (k_here; (with_reducible show wpAny _ _ (getAttr (Value.ref _) (PySem.Str.ofString "two") _) _ _ _); k_dflt (refine' ent_two' ?zqF ?zqX ?zqS ?zqx ?zqv ?_; (case zqx => assumption); (case zqv => assumption); (case zqF => k_asm); (case zqX => k_asm); (case zqS => walk_at "v_sees")); intro _)
  k_with "call builtin:dict.get" => (k_here; (with_reducible show wpAny _ _ (call (Value.builtin _) [Value.ref _, Value.int _ _]) _ _ _); k_dflt (refine' edict_get ?zqS ?zqD ?zqv ?_; (case zqD => assumption); (case zqv => assumption); (case zqS => walk_at "v_sees")))
  trivial
theorem made_use {g h h' : Heap} {L r : Addr} {m : Str → Option Value} {led : Led} {o : Obj} (F : Fr g L h m) (N : News g L h led) (e : Ext [] h h') (B : Born h h' [(r, o)]) : Fr g L h' m ∧ News g L h' ((r, o) :: led) ∧ ∀ p ∈ led, p.1 ≠ r :=
  ⟨Fr.keeps F e.keep, news_two F N e.keep (B _ List.mem_cons_self).2 (B _ List.mem_cons_self).1⟩
section
variable {w : World} {A : Around} {E : Value → Shared → Prop} {s : Shared} {Q : Value → Shared → Prop} {g : Heap} {L d : Addr} {m : Str → Option Value} {l : List Str} {mg mb : Str → Option Value} {led V : Led} {es : List (Int × Ent)} {f : Int → Int} {line : List Int}
theorem fnum_use (R : Rm A 3 40) (X : (hd.heap_1 w.params).In g) (T : TopRead qv l mg mb g) (F : Fr g L s.heap m) (N : News g L s.heap led) (S : Sees V s.heap) (D : EDict w V d es) (C : Chained f es line) (hz : es.length < 60) (hso : line.Pairwise (· < ·))
    (h : ∀ (r : Addr) (ys : List Value) (n : Nat) (h' : Heap) (tk : Nat), Fr g L h' m → News g L h' ((r, W.listOf (List.toArray ys) n) :: led) → (∀ p ∈ led, p.1 ≠ r) → IntsAre ys line → Q (.ref r) { s with heap := h', toks := tk }) :
    wpAny (model PR w) A (call (.ref 92) [.ref d]) Q E s :=
  fnum_spec R ⟨X, l, mg, mb, T⟩ F.keep S D C hz hso fun r ys n h' tk e B hi => have z := made_use F N e B; h r ys n h' tk z.1 z.2.1 z.2.2 hi
theorem chain_use (R : Rm A 3 40) (X : (hd.heap_1 w.params).In g) (T : TopRead qv l mg mb g) (F : Fr g L s.heap m) (N : News g L s.heap led) (S : Sees V s.heap) (D : EDict w V d es) (C : Chained f es line) (hz : line.length < 40)
    (h : ∀ (r : Addr) (ys : List Value) (n : Nat) (h' : Heap) (tk : Nat), Fr g L h' m → News g L h' ((r, W.listOf (List.toArray ys) n) :: led) → (∀ p ∈ led, p.1 ≠ r) → IntsAre ys line → Q (.ref r) { s with heap := h', toks := tk }) :
    wpAny (model PR w) A (call (.ref 99) [.ref d]) Q E s :=
  chain_spec R ⟨X, l, mg, mb, T⟩ F.keep S D C hz fun r ys n h' tk e B hi => have z := made_use F N e B; h r ys n h' tk z.1 z.2.1 z.2.2 hi
theorem ring_use (R : Rm A 3 40) (X : (hd.heap_1 w.params).In g) (T : TopRead qv l mg mb g) (F : Fr g L s.heap m) (N : News g L s.heap led) (S : Sees V s.heap) (D : EDict w V d es) (C : Chained f es line) (hz : line.length < 40)
    (h : ∀ (r : Addr) (ys : List Value) (n : Nat) (h' : Heap) (tk : Nat), Fr g L h' m → News g L h' ((r, W.listOf (List.toArray ys) n) :: led) → (∀ p ∈ led, p.1 ≠ r) → IntsAre ys (0 :: line) → Q (.ref r) { s with heap := h', toks := tk }) :
    wpAny (model PR w) A (call (.ref 170) [.ref d]) Q E s :=
  ring_spec R ⟨X, l, mg, mb, T⟩ F.keep S D C hz fun r ys n h' tk e B hi => have z := made_use F N e B; h r ys n h' tk z.1 z.2.1 z.2.2 hi
theorem edict_in_b {k : Int} {t : Tok} {bb : Bool} (S : Sees V s.heap) (D : EDict w V d es) (hb : decide (k ∈ es.map (·.1)) = bb) (h : Q (.bool bb) { s with toks := s.toks + 1 }) :
    wpAny (model PR w) A (compareOp .In (.int k t) (.ref d)) Q E s := edict_in S D (by rw [hb]; exact h)
theorem edict_notin_b {k : Int} {t : Tok} {bb : Bool} (S : Sees V s.heap) (D : EDict w V d es) (hb : decide (k ∈ es.map (·.1)) = bb) (h : Q (.bool (!bb)) { s with toks := s.toks + 1 }) :
    wpAny (model PR w) A (compareOp .NotIn (.int k t) (.ref d)) Q E s := edict_notin S D (by rw [hb]; exact h)
end
theorem reg23 : True := by
  k_with "rm_room" => first | exact Rm.less (by assumption) (by omega) (by omega) | exact Rm.deeper (Rm.less (by assumption) (by omega) (by omega)) _
  k_with "call ref" => (k_here; (with_reducible show wpAny _ _ (call (Value.ref 92) _) _ _ _); k_dflt (refine' fnum_use ?zqR ?zqX ?zqT ?zqF ?zqN ?zqS ?zqD ?zqC ?zqz ?zqo ?_; (case zqR => walk_at "rm_room"); (case zqX => k_asm); (case zqT => k_asm); (case zqF => k_asm); (case zqN => k_asm); (case zqD => assumption); (case zqS => walk_at "v_sees"); (case zqC => assumption); (case zqz => omega); (case zqo => assumption)); intro _ _ _ _ _ _ _ _ _; (try k_sweep))
  k_with "call ref" => (k_here; (with_reducible show wpAny _ _ (call (Value.ref 99) _) _ _ _); k_dflt (refine' chain_use ?zqR ?zqX ?zqT ?zqF ?zqN ?zqS ?zqD ?zqC ?zqz ?_; (case zqR => walk_at "rm_room"); (case zqX => k_asm); (case zqT => k_asm); (case zqF => k_asm); (case zqN => k_asm); (case zqD => assumption); (case zqS => walk_at "v_sees"); (case zqC => assumption); (case zqz => omega)); intro _ _ _ _ _ _ _ _ _; (try k_sweep))
  k_with "call ref" => (k_here; (with_reducible show wpAny _ _ (call (Value.ref 170) _) _ _ _); k_dflt (refine' ring_use ?zqR ?zqX ?zqT ?zqF ?zqN ?zqS ?zqD ?zqC ?zqz ?_; (case zqR => walk_at "rm_room"); (case zqX => k_asm); (case zqT => k_asm); (case zqF => k_asm); (case zqN => k_asm); (case zqD => assumption); (case zqS => walk_at "v_sees"); (case zqC => assumption); (case zqz => omega)); intro _ _ _ _ _ _ _ _ _; (try k_sweep))
  k_with "compareOp In int ref" => (k_here; k_dflt (refine' edict_in_b ?zqS ?zqD ?zqb ?_; (case zqD => assumption); (case zqb => assumption); (case zqS => walk_at "v_sees")))
  k_with "compareOp NotIn int ref" => (k_here; k_dflt (refine' edict_notin_b ?zqS ?zqD ?zqb ?_; (case zqD => assumption); (case zqb => assumption); (case zqS => walk_at "v_sees")))
  trivial
theorem fault_spec {w : World} {A : Around} {E : Value → Shared → Prop} {s : Shared} {Q : Value → Shared → Prop} {b : Heap} {V : Led} {d : Addr} {es : List (Int × Ent)} {f : Int → Int} {line : List Int}
    (R : Rm A 4 60) (G : Gd w b) (S : b.StaysIn s.heap) (Sv : Sees V s.heap) (D : EDict w V d es) (C : Chained f es line) (hz : es.length < 60) (hlz : line.length < 40) (hso : line.Pairwise (· < ·))
    (ret : ∀ (r : Addr) (n : Nat) (h' : Heap) (tk : Nat), Ext [] s.heap h' → Born s.heap h' [(r, W.listOf #[] n)] → Q (.ref r) { s with heap := h', toks := tk }) :
    wpAny (model PR w) A (call (.ref 106) [.ref d]) Q E s := by
  obtain ⟨X, l, mg, mb, T⟩ := G
  refine call_fn (R.less (by omega) (by omega)) X T.nolimit S [] (fun p hp => nomatch hp) (by k_is) (by k_is) (BindsTo.of_eq rfl) (locs rfl) (fun g L h₁ st kp F N => ?_) (by decide)
  have X := X.keeps st
  have T := T.keeps st
  have Sg : Sees V g := fun p hp => kp _ _ (Sv p hp) (by first | walk_at "mm" | simp)
  obtain ⟨e0, he0, hw0, ho0, h20⟩ := C.at' 0 (Nat.zero_le _)
  have he0 : getE es 0 = some e0 := he0
  have h20 : e0.two = 65535 := h20
  have hE0 : EntV V e0 := D.ents _ (getE_mem he0)
  have hin0 : decide ((0 : Int) ∈ es.map (·.1)) = true := by rw [← getE_isSome, he0]; rfl
  k_steps
  rename_i l0 h2 _ h3 _ r2 ys2 n2 h4 _ l2 hi2 h5 _ r1 ys1 n1 h6 _ l1 hi1 h7 _ _ r0 ys0 n0 h8 tk8 F1 N1 l8 hi8
  have hlv := hi8.length
  have z0 := N1 _ List.mem_cons_self
  have n10 : r1 ≠ r0 := l8 _ List.mem_cons_self
  have n00 : l0 ≠ r0 := l8 (l0, W.listOf (List.toArray []) 0) (by first | walk_at "mm" | simp)
  refine list_K (σ := Unit) (vs := ys0) (V₀ := []) (fun c => [(r1, W.listOf (List.toArray ys1) n1), (l0, W.listOf (List.toArray []) 0)]) [r1, l0]
    (fun V c i => True)
    (fun m c i => ∃ u : Str → Option Value, m = fun z => if z = Str.ofString "met" then some (.ref r1) else if z = Str.ofString "faults" then some (.ref l0) else if z = Str.ofString "entries" then some (.ref d) else u z)
    () R.hd ⟨_, z0.1, rfl, ⟨_, rfl⟩⟩ ?hda z0.2.1 (fun c => rfl) F1 N1 ?hK (fun V U c i h sub => h) trivial (fun p hp => nomatch hp) ?hm ?turn ?done
  case hda =>
    simp only [List.mem_cons, List.not_mem_nil, or_false, not_or]
    exact ⟨n10.symm, n00.symm⟩
  case hK =>
    intro p hp
    simp only [List.mem_cons, List.not_mem_nil, or_false] at hp
    rcases hp with rfl | rfl <;> simp
  case hm => exact names3 rfl rfl rfl
  case turn =>
    rintro c i v U tl s' h tk m rfl hv _ ⟨u, rfl⟩ sub off F6 N6
    clear F1 N1
    simp only [List.cons_append, List.nil_append] at N6
    obtain ⟨k, t, hk, rfl⟩ := IntsAre.at hi8 hv
    have hkl : k ∈ line := List.mem_of_getElem? hk
    have hil : i < line.length := (List.getElem?_eq_some_iff.mp hk).1
    obtain ⟨e, he, hw, ho, h2⟩ := C.at' (i + 1) (by omega)
    rw [List.getElem?_cons_succ, hk, Option.getD_some] at he
    have hE := D.ents _ (getE_mem he)
    k_steps
    all_goals
      show TurnEnd _ _ _ _ _ _ _ _ _ _ _
      rename Fr _ _ _ _ => F9
      rename News _ _ _ _ => N9
      refine TurnEnd.intro F9 N9 () U (fun p hp => ?_) (fun p hp => List.mem_cons_of_mem _ (List.mem_cons_of_mem _ hp)) (fun p hp => ⟨List.mem_cons_of_mem _ (List.mem_cons_of_mem _ (sub p hp)), .inl hp, fun q => off p (sub p hp) _ q rfl⟩) trivial (names3 rfl rfl rfl)
      simp only [List.mem_cons, List.not_mem_nil, or_false] at hp
      rcases hp with rfl | rfl <;> simp
  case done =>
    rintro c U h tk m _ ⟨u, rfl⟩ F6 N6 off
    simp only [List.cons_append, List.nil_append] at N6
    k_steps
    refine Back.intro F6 fun hE' => ret l0 0 _ _ hE' (born_of kp (fun p hp => ?_) N6 fun p hp q => nomatch q)
    rw [List.mem_singleton.mp hp]
    exact List.mem_cons_of_mem _ List.mem_cons_self
end S_OFault
section S_OSize
theorem reg24 : True := by
  k_with_none
  k_with "mm" => ((repeat' (first | (with_reducible exact List.mem_cons_self) | (with_reducible assumption) | (with_reducible refine List.mem_cons_of_mem _ ?_))); done)
  k_with "sub" => ((repeat' (first | (with_reducible exact sub_nil _) | (with_reducible refine sub_cons ?_ ?_) | (with_reducible exact List.mem_cons_self) | (with_reducible refine List.mem_cons_of_mem _ ?_) | (with_reducible assumption) | (intro p9 hp9))); done)
  k_with "v_sees" => first | exact Sees.keep (by assumption) (Fr.keep (by k_asm)) | exact Sees.sub (News.sees (by k_asm)) (fun _ h => by first | exact h | (refine List.mem_cons_of_mem _ ?_; exact h) | (refine List.mem_cons_of_mem _ (List.mem_cons_of_mem _ ?_); exact h))
  k_with "eval Name" => (k_here; (with_reducible show wpAny _ _ (eval (Expr.Name _ _) (compEnvC _ _ _ _)) _ _ _); k_dflt (first | (refine' nameB_L ?zqF ?zqv ?_ ?zqa ?zqb; (case zqF => k_asm); (case zqv => assumption); (case zqa => rfl); (case zqb => rfl)) | (refine' nameB_C ?zqF ?zqc ?zqo ?zqd ?_ ?zqa ?zqb; (case zqF => k_asm); (case zqa => rfl); (case zqb => rfl); (case zqc => rfl); (case zqo => assumption); (case zqd => assumption)) | (refine' nameB_G ?zqF ?zqX ?zqT ?zqe ?_ ?zqg ?zqa ?zqb; (case zqF => k_asm); (case zqX => k_asm); (case zqT => k_asm); (case zqg => rfl); (case zqa => rfl); (case zqb => rfl); (case zqe => k_is)) | (refine' nameB_B ?zqF ?zqX ?zqT ?zqe ?zqv ?zqn ?_ ?zqg ?zqh ?zqa ?zqb; (case zqF => k_asm); (case zqX => k_asm); (case zqT => k_asm); (case zqg => rfl); (case zqh => rfl); (case zqa => rfl); (case zqb => rfl); (case zqe => k_is); (case zqv => boot_fast); (case zqn => decide))))
  k_with "getAttr ref" => (k_here; (with_reducible show wpAny _ _ (getAttr (Value.ref _) (PySem.Str.ofString "way") _) _ _ _); k_dflt (refine' ent_way ?zqF ?zqX ?zqS ?zqx ?_; (case zqx => assumption); (case zqF => k_asm); (case zqX => k_asm); (case zqS => walk_at "v_sees")); intro _)
  k_with "getAttr ref" => (k_here; (with_reducible show wpAny _ _ (getAttr (Value.ref _) (PySem.Str.ofString "one") _) _ _ _); k_dflt (refine' ent_one ?zqF ?zqX ?zqS ?zqx ?_; (case zqx => assumption); (case zqF => k_asm); (case zqX => k_asm); (case zqS => walk_at "v_sees")); intro _)
  k_with "getAttr ref" => (k_here; (with_reducible show wpAny _ _ (getAttr (Value.ref _) (PySem.Str.ofString "two") _) _ _ _); k_dflt (refine' ent_two ?zqF ?zqX ?zqS ?zqx ?_; (case zqx => assumption); (case zqF => k_asm); (case zqX => k_asm); (case zqS => walk_at "v_sees")); intro _)
  k_with "getMethod ref" => (k_here; (with_reducible show wpAny _ _ (getMethod (Value.ref _) (PySem.Str.ofString "told") _) _ _ _); k_dflt (refine' ent_told ?zqF ?zqX ?zqS ?zqx ?_; (case zqx => assumption); (case zqF => k_asm); (case zqX => k_asm); (case zqS => walk_at "v_sees")))
  k_with "call builtin:sorted" => (k_here; (with_reducible show wpAny _ _ (call (Value.builtin _) [Value.ref _]) _ _ _); k_dflt (refine' sorted_edict ?zqhh ?zqS ?zqD ?zqF ?zqN ?zqz ?_; (case zqhh => first | assumption | exact Rm.hd_deeper (by assumption) _); (case zqD => assumption); (case zqF => k_asm); (case zqN => k_asm); (case zqS => walk_at "v_sees"); (case zqz => omega)); intro _ _ _ _ _ _ _ _ _ _ _ _; (try k_sweep))
  k_with "subscriptTail" => (k_here; (with_reducible show wpAny _ _ (subscriptTail _ _ (Value.ref _) (Value.int _ _)) _ _ _); k_dflt (refine' edict_item ?zqS ?zqD ?zqv ?_; (case zqD => assumption); (case zqv => assumption); (case zqS => walk_at "v_sees")))
  k_with "call ref" => (k_here; k_dflt (refine' told_use ?zqR ?zqX ?zqT ?zqF ?zqN ?zqS ?zqEn ?_; (case zqEn => assumption); (case zqR => first | exact Rm.less (by assumption) (by omega) (by omega) | exact Rm.deeper (Rm.less (by assumption) (by omega) (by omega)) _); (case zqX => k_asm); (case zqT => k_asm); (case zqF => k_asm); (case zqN => k_asm); (case zqS => walk_at "v_sees")); intro _ _ _ _ _ _ _ _ _; (try k_sweep))
  k_with "eval ListComp" => (k_here; k_dflt (refine' comp_raw ?zqcl ?zqce ?zqk ?zqn ?zqx ?_; (case zqcl => exact rfl); (case zqce => decide); (case zqk => rfl); (case zqn => decide); (case zqx => rfl)))
  k_with "exec For Name Call cons nil" => (k_here; k_dflt (refine for_raw (by rfl) (by rfl) ?_))
  k_with "exec For Name Name cons nil" => (k_here; k_dflt (refine for_raw (by rfl) (by rfl) ?_))
  k_with "call ref" => (k_here; k_dflt (refine' entry_use ?zqR ?zqX ?zqT ?zqF ?zqN ?_; (case zqR => exact Rm.deeper (Rm.less (by assumption) (by omega) (by omega)) _); (case zqX => k_asm); (case zqT => k_asm); (case zqF => k_asm); (case zqN => k_asm)); intro _ _ _ _ _ _ _ _ _ _ _ _ _ _ _ _ _; rename_i l1 l2 gw' g1' g2' gt'; (try k_lt l1); (try k_lt2 l2); (try k_sweep); revert l1 l2 gw' g1' g2' gt'; intro _ _ _ _ _ _)
  k_with "setItem ref int ref" => (k_here; k_dflt (refine' dict_set_K ?zqF ?zqN ?zqU ?zqhd ?zqhz ?_; (case zqF => k_asm); (case zqN => k_asm); (case zqU => k_updF); (case zqhd => assumption); (case zqhz => assumption)); intro _ _ _ _ _; rename_i N' hd'; (try dsimp only at N'); (try k_sweep); revert N' hd'; intro _ _)
  k_with "getMethod ref" => (k_here; (with_reducible show wpAny _ _ (getMethod (Value.ref _) (PySem.Str.ofString "get") _) _ _ _); k_dflt (refine' get_method ?zqS ?zqD ?_; (case zqD => first | assumption | exact EDict.dict (by assumption)); (case zqS => walk_at "v_sees")))
  k_with "call builtin:dict.get" => (k_here; (with_reducible show wpAny _ _ (call (Value.builtin _) [Value.ref _, Value.int _ _, Value.int _ _]) _ _ _); k_dflt (refine' get0_raw ?zqS ?zqD ?zqhg ?_; (case zqD => assumption); (case zqhg => assumption); (case zqS => walk_at "v_sees")); intro _)
  k_with "exec Assign cons ListComp" => (k_here; k_dflt (refine' comp_assign ?zqsw ?zqcl ?zqce ?zqk ?zqn ?zqx ?zqy ?zqp ?_; (case zqsw => rfl); (case zqcl => exact rfl); (case zqce => decide); (case zqk => rfl); (case zqn => decide); (case zqx => rfl); (case zqy => rfl); (case zqp => rfl)))
  k_with "compareOp NotIn int ref" => (k_here; k_dflt (refine' edict_notin ?zqS ?zqD ?_; (case zqD => assumption); (case zqS => walk_at "v_sees")))
  k_with "compareOp In int ref" => (k_here; k_dflt (refine' edict_in ?zqS ?zqD ?_; (case zqD => assumption); (case zqS => walk_at "v_sees")))
  k_with "unpackItems ref" => (k_here; k_dflt (refine' unpackItemsN_ ?zqk1 ?zqk2 ?zqk3 ?zqk4 ?zqk5 ?_; (case zqk1 => k_asm); (case zqk2 => k_asm); (case zqk3 => kun_tup); (case zqk4 => first | assumption | exact Rm.hd_deeper (by assumption) _); (case zqk5 => exact rfl); k_whole); intro _ _ _; (try k_sweep))
  k_with "assign Tuple" => (k_here; (with_reducible show wpAny _ _ (assign (Expr.Tuple _ _ _) _ (Value.ref _)) _ _ _); k_dflt (refine' unpackN_ ?zqk1 ?zqk2 ?zqk3 ?zqk4 ?zqk5 ?zqk6 ?_; (case zqk1 => k_asm); (case zqk2 => k_asm); (case zqk3 => first | kun_tup | exact tup_sees (by assumption) (by walk_at "v_sees")); (case zqk4 => first | assumption | exact Rm.hd_deeper (by assumption) _); (case zqk5 => exact rfl); (case zqk6 => exact rfl); k_whole); intro _ _ _; (try k_sweep))
  trivial
theorem max_dict {w : World} {A : Around} {E : Value → Shared → Prop} {s : Shared} {Q : Value → Shared → Prop} {d : Addr} {kvs : List (Int × Value)} (hh : A.handled = none) (lo : (d == sysModules) = false) (D : s.heap.DictOf (PySem.intKind PR w) d kvs) (hne : 0 < kvs.length)
    (h : ∀ M t h' tk, M ∈ kvs.map (·.1) → (∀ k ∈ kvs.map (·.1), k ≤ M) → s.heap.StaysIn h' → Q (.int M t) { s with heap := h', toks := tk }) :
    wpAny (model PR w) A (call (.builtin "max") [.ref d]) Q E s := by
  obtain ⟨ep, hat⟩ := D.dictAt
  have hlt := hat.lt_size
  refine call_max_walk (wpAny_pyIter_dict lo hat ?_)
  let num : Nat → Int := fun i => ((kvs.map (·.1))[i]?).getD 0
  refine ⟨_, _, _, _, _, _, _, rfl, Walks.dictKeys (knd := PySem.intKind PR w) (A := A.in1) hh s.heap.objs.size d (Nat.ne_of_lt hlt) kvs ep, ⟨⟨_, Heap.get?_push_size _ rfl, rfl, rfl⟩, hat.push _⟩, fun b hb => ?_, hne, CmpOf.ints_gt num (fun i v hv => ?_), fun v h' tk hP hk => ?_⟩
  · rw [Heap.size_push]
    simp only [List.mem_cons, List.not_mem_nil, or_false] at hb
    rcases hb with rfl | rfl
    · exact Nat.lt_succ_self _
    · exact Nat.lt_succ_of_lt hlt
  · obtain ⟨k, x, hk, hv⟩ := hv
    obtain ⟨t, rfl⟩ := Value.isInt_shape hv
    refine ⟨t, ?_⟩
    show Value.int k t = Value.int (((kvs.map (·.1))[i]?).getD 0) t
    rw [List.getElem?_map, hk]
    rfl
  · obtain ⟨k, x, hpk, hv⟩ := hP
    obtain ⟨t, rfl⟩ := Value.isInt_shape hv
    obtain ⟨h1, h2⟩ := argBest_gt num (kvs.length - 1)
    have e1 : num (argBest (fun i j => decide (num i > num j)) (kvs.length - 1)) = k := by
      show ((kvs.map (·.1))[_]?).getD 0 = k
      rw [List.getElem?_map, hpk]
      rfl
    refine h k t h' tk (List.mem_map_of_mem (List.mem_of_getElem? hpk)) (fun k' hk' => ?_) fun a o e => hk a o (fun q => ?_) (Heap.get?_push_of_some _ e)
    · obtain ⟨j, hj, e2⟩ := List.getElem_of_mem hk'
      rw [List.length_map] at hj
      have h3 := h2 j (by omega)
      rw [e1] at h3
      have e3 : num j = k' := by
        show ((kvs.map (·.1))[j]?).getD 0 = k'
        rw [List.getElem?_eq_getElem (by rw [List.length_map]; exact hj), e2]
        rfl
      rw [← e3]
      exact h3
    · rw [List.mem_singleton.mp q] at e
      exact absurd (Heap.lt_size e) (Nat.lt_irrefl _)
theorem max_use {w : World} {A : Around} {E : Value → Shared → Prop} {s : Shared} {Q : Value → Shared → Prop} {g : Heap} {L d : Addr} {m : Str → Option Value} {led V : Led} {es : List (Int × Ent)}
    (hh : A.handled = none) (F : Fr g L s.heap m) (N : News g L s.heap led) (S : Sees V s.heap) (D : EDict w V d es) (hne : 0 < es.length)
    (h : ∀ M t h' tk, Fr g L h' m → News g L h' led → M ∈ es.map (·.1) → (∀ k ∈ es.map (·.1), k ≤ M) → Q (.int M t) { s with heap := h', toks := tk }) :
    wpAny (model PR w) A (call (.builtin "max") [.ref d]) Q E s :=
  max_dict hh D.dict.1 (D.dict.dict S) (by simpa [kvOf] using hne) fun M t h' tk h1 h2 k => h M t h' tk (Fr.keeps F k) (fun p hp => ⟨k _ _ (N p hp).1, (N p hp).2⟩) (by rw [← kvOf_keys]; exact h1) fun x hx => h2 x (by rw [kvOf_keys]; exact hx)
theorem len_use {w : World} {A : Around} {E : Value → Shared → Prop} {s : Shared} {Q : Value → Shared → Prop} {d : Addr} {V : Led} {es : List (Int × Ent)} {n : Nat} (S : Sees V s.heap) (D : EDict w V d es) (hn : es.length = n) (hz : n ≤ 1000) (h : Q (.int n (s.toks + 1)) { s with toks := s.toks + 1 + 1 }) :
    wpAny (model PR w) A (call (.builtin "len") [.ref d]) Q E s := dict_len S D.dict (by simp [kvOf]; omega) (by rw [show (kvOf es).length = es.length by simp [kvOf], hn]; exact h)
theorem reg25 : True := by
  k_with "call builtin:len" => (k_here; (with_reducible show wpAny _ _ (call (Value.builtin _) [Value.ref _]) _ _ _); k_dflt (refine' len_use ?zqS ?zqD ?zqn ?zqz ?_; (case zqD => assumption); (case zqn => assumption); (case zqz => omega); (case zqS => walk_at "v_sees")))
  k_with "call builtin:max" => (k_here; (with_reducible show wpAny _ _ (call (Value.builtin _) [Value.ref _]) _ _ _); k_dflt (refine' max_use ?zqhh ?zqF ?zqN ?zqS ?zqD ?zqn ?_; (case zqhh => first | assumption | exact Rm.hd_deeper (by assumption) _); (case zqD => assumption); (case zqF => k_asm); (case zqN => k_asm); (case zqn => omega); (case zqS => walk_at "v_sees")); intro _ _ _ _ _ _ _ _; (try k_sweep))
  trivial
theorem size_spec {w : World} {A : Around} {E : Value → Shared → Prop} {s : Shared} {Q : Value → Shared → Prop} {b : Heap} {V : Led} {d : Addr} {es : List (Int × Ent)}
    (R : Rm A 2 20) (G : Gd w b) (S : b.StaysIn s.heap) (Sv : Sees V s.heap) (D : EDict w V d es) (hz : es.length < 60) (hne : 0 < es.length)
    (ret : ∀ (M : Int) (t : Tok) (h' : Heap) (tk : Nat), Ext [] s.heap h' → M ∈ es.map (·.1) → (∀ k ∈ es.map (·.1), k ≤ M) → Q (.int (M + 1) t) { s with heap := h', toks := tk }) :
    wpAny (model PR w) A (call (.ref 113) [.ref d]) Q E s := by
  obtain ⟨X, l, mg, mb, T⟩ := G
  refine call_fn (R.less (by omega) (by omega)) X T.nolimit S [] (fun p hp => nomatch hp) (by k_is) (by k_is) (BindsTo.of_eq rfl) (locs rfl) (fun g L h₁ st kp F N => ?_) (by decide)
  have X := X.keeps st
  have T := T.keeps st
  have Sg : Sees V g := fun p hp => kp _ _ (Sv p hp) (by first | walk_at "mm" | simp)
  obtain ⟨ln, hln⟩ : ∃ n, es.length = n := ⟨_, rfl⟩
  k_steps
  rename_i M t h' tk F' N' hm hM
  exact Back.intro F' fun hE => ret M _ _ _ hE hm hM
end S_OSize
section S_OPack
theorem reg26 : True := by
  k_with_none
  k_with "mm" => ((repeat' (first | (with_reducible exact List.mem_cons_self) | (with_reducible assumption) | (with_reducible refine List.mem_cons_of_mem _ ?_))); done)
  k_with "sub" => ((repeat' (first | (with_reducible exact sub_nil _) | (with_reducible refine sub_cons ?_ ?_) | (with_reducible exact List.mem_cons_self) | (with_reducible refine List.mem_cons_of_mem _ ?_) | (with_reducible assumption) | (intro p9 hp9))); done)
  k_with "zz1" => skip
  k_with "v_sees" => first | exact Sees.keep (by assumption) (Fr.keep (by k_asm)) | exact Sees.sub (News.sees (by k_asm)) (fun _ h => by first | exact h | (refine List.mem_cons_of_mem _ ?_; exact h) | (refine List.mem_cons_of_mem _ (List.mem_cons_of_mem _ ?_); exact h))
  k_with "eval Name" => (k_here; (with_reducible show wpAny _ _ (eval (Expr.Name _ _) (compEnvC _ _ _ _)) _ _ _); k_dflt (first | (refine' nameB_L ?zqF ?zqv ?_ ?zqa ?zqb; (case zqF => k_asm); (case zqv => assumption); (case zqa => rfl); (case zqb => rfl)) | (refine' nameB_C ?zqF ?zqc ?zqo ?zqd ?_ ?zqa ?zqb; (case zqF => k_asm); (case zqa => rfl); (case zqb => rfl); (case zqc => rfl); (case zqo => assumption); (case zqd => assumption)) | (refine' nameB_G ?zqF ?zqX ?zqT ?zqe ?_ ?zqg ?zqa ?zqb; (case zqF => k_asm); (case zqX => k_asm); (case zqT => k_asm); (case zqg => rfl); (case zqa => rfl); (case zqb => rfl); (case zqe => k_is)) | (refine' nameB_B ?zqF ?zqX ?zqT ?zqe ?zqv ?zqn ?_ ?zqg ?zqh ?zqa ?zqb; (case zqF => k_asm); (case zqX => k_asm); (case zqT => k_asm); (case zqg => rfl); (case zqh => rfl); (case zqa => rfl); (case zqb => rfl); (case zqe => k_is); (case zqv => boot_fast); (case zqn => decide))))
  k_with "getAttr ref" => (k_here; (with_reducible show wpAny _ _ (getAttr (Value.ref _) (PySem.Str.ofString "way") _) _ _ _); k_dflt (refine' ent_way ?zqF ?zqX ?zqS ?zqx ?_; (case zqx => assumption); (case zqF => k_asm); (case zqX => k_asm); (case zqS => walk_at "v_sees")); intro _)
  k_with "getAttr ref" => (k_here; (with_reducible show wpAny _ _ (getAttr (Value.ref _) (PySem.Str.ofString "one") _) _ _ _); k_dflt (refine' ent_one ?zqF ?zqX ?zqS ?zqx ?_; (case zqx => assumption); (case zqF => k_asm); (case zqX => k_asm); (case zqS => walk_at "v_sees")); intro _)
  k_with "getAttr ref" => (k_here; (with_reducible show wpAny _ _ (getAttr (Value.ref _) (PySem.Str.ofString "two") _) _ _ _); k_dflt (refine' ent_two ?zqF ?zqX ?zqS ?zqx ?_; (case zqx => assumption); (case zqF => k_asm); (case zqX => k_asm); (case zqS => walk_at "v_sees")); intro _)
  k_with "getMethod ref" => (k_here; (with_reducible show wpAny _ _ (getMethod (Value.ref _) (PySem.Str.ofString "told") _) _ _ _); k_dflt (refine' ent_told ?zqF ?zqX ?zqS ?zqx ?_; (case zqx => assumption); (case zqF => k_asm); (case zqX => k_asm); (case zqS => walk_at "v_sees")))
  k_with "call builtin:sorted" => (k_here; (with_reducible show wpAny _ _ (call (Value.builtin _) [Value.ref _]) _ _ _); k_dflt (refine' sorted_edict ?zqhh ?zqS ?zqD ?zqF ?zqN ?zqz ?_; (case zqhh => first | assumption | exact Rm.hd_deeper (by assumption) _); (case zqD => assumption); (case zqF => k_asm); (case zqN => k_asm); (case zqS => walk_at "v_sees"); (case zqz => omega)); intro _ _ _ _ _ _ _ _ _ _ _ _; (try k_sweep))
  k_with "subscriptTail" => (k_here; (with_reducible show wpAny _ _ (subscriptTail _ _ (Value.ref _) (Value.int _ _)) _ _ _); k_dflt (refine' edict_item ?zqS ?zqD ?zqv ?_; (case zqD => assumption); (case zqv => assumption); (case zqS => walk_at "v_sees")))
  k_with "call ref" => (k_here; k_dflt (refine' told_use ?zqR ?zqX ?zqT ?zqF ?zqN ?zqS ?zqEn ?_; (case zqEn => assumption); (case zqR => first | exact Rm.less (by assumption) (by omega) (by omega) | exact Rm.deeper (Rm.less (by assumption) (by omega) (by omega)) _); (case zqX => k_asm); (case zqT => k_asm); (case zqF => k_asm); (case zqN => k_asm); (case zqS => walk_at "v_sees")); intro _ _ _ _ _ _ _ _ _; (try k_sweep))
  k_with "eval ListComp" => (k_here; k_dflt (refine' comp_raw ?zqcl ?zqce ?zqk ?zqn ?zqx ?_; (case zqcl => exact rfl); (case zqce => decide); (case zqk => rfl); (case zqn => decide); (case zqx => rfl)))
  k_with "exec For Name Call cons nil" => (k_here; k_dflt (refine for_raw (by rfl) (by rfl) ?_))
  k_with "exec For Name Name cons nil" => (k_here; k_dflt (refine for_raw (by rfl) (by rfl) ?_))
  k_with "call ref" => (k_here; k_dflt (refine' entry_use ?zqR ?zqX ?zqT ?zqF ?zqN ?_; (case zqR => exact Rm.deeper (Rm.less (by assumption) (by omega) (by omega)) _); (case zqX => k_asm); (case zqT => k_asm); (case zqF => k_asm); (case zqN => k_asm)); intro _ _ _ _ _ _ _ _ _ _ _ _ _ _ _ _ _; rename_i l1 l2 gw' g1' g2' gt'; (try k_lt l1); (try k_lt2 l2); (try k_sweep); revert l1 l2 gw' g1' g2' gt'; intro _ _ _ _ _ _)
  k_with "setItem ref int ref" => (k_here; k_dflt (refine' dict_set_K ?zqF ?zqN ?zqU ?zqhd ?zqhz ?_; (case zqF => k_asm); (case zqN => k_asm); (case zqU => k_updF); (case zqhd => assumption); (case zqhz => assumption)); intro _ _ _ _ _; rename_i N' hd'; (try dsimp only at N'); (try k_sweep); revert N' hd'; intro _ _)
  k_with "getMethod ref" => (k_here; (with_reducible show wpAny _ _ (getMethod (Value.ref _) (PySem.Str.ofString "get") _) _ _ _); k_dflt (refine' get_method ?zqS ?zqD ?_; (case zqD => first | assumption | exact EDict.dict (by assumption)); (case zqS => walk_at "v_sees")))
  k_with "call builtin:dict.get" => (k_here; (with_reducible show wpAny _ _ (call (Value.builtin _) [Value.ref _, Value.int _ _, Value.int _ _]) _ _ _); k_dflt (refine' get0_raw ?zqS ?zqD ?zqhg ?_; (case zqD => assumption); (case zqhg => assumption); (case zqS => walk_at "v_sees")); intro _)
  k_with "exec Assign cons ListComp" => (k_here; k_dflt (refine' comp_assign ?zqsw ?zqcl ?zqce ?zqk ?zqn ?zqx ?zqy ?zqp ?_; (case zqsw => rfl); (case zqcl => exact rfl); (case zqce => decide); (case zqk => rfl); (case zqn => decide); (case zqx => rfl); (case zqy => rfl); (case zqp => rfl)))
  k_with "compareOp NotIn int ref" => (k_here; k_dflt (refine' edict_notin ?zqS ?zqD ?_; (case zqD => assumption); (case zqS => walk_at "v_sees")))
  k_with "compareOp In int ref" => (k_here; k_dflt (refine' edict_in ?zqS ?zqD ?_; (case zqD => assumption); (case zqS => walk_at "v_sees")))
  k_with "unpackItems ref" => (k_here; k_dflt (refine' unpackItemsN_ ?zqk1 ?zqk2 ?zqk3 ?zqk4 ?zqk5 ?_; (case zqk1 => k_asm); (case zqk2 => k_asm); (case zqk3 => kun_tup); (case zqk4 => first | assumption | exact Rm.hd_deeper (by assumption) _); (case zqk5 => exact rfl); k_whole); intro _ _ _; (try k_sweep))
  k_with "assign Tuple" => (k_here; (with_reducible show wpAny _ _ (assign (Expr.Tuple _ _ _) _ (Value.ref _)) _ _ _); k_dflt (refine' unpackN_ ?zqk1 ?zqk2 ?zqk3 ?zqk4 ?zqk5 ?zqk6 ?_; (case zqk1 => k_asm); (case zqk2 => k_asm); (case zqk3 => first | kun_tup | exact tup_sees (by assumption) (by walk_at "v_sees")); (case zqk4 => first | assumption | exact Rm.hd_deeper (by assumption) _); (case zqk5 => exact rfl); (case zqk6 => exact rfl); k_whole); intro _ _ _; (try k_sweep))
  trivial
section
variable {prog : Program} {w : World} {A : Around} {E : Value → Shared → Prop} {s : Shared} {l : Addr} {V : Led} {us : List Value} {n : Nat} {Q : Value → Shared → Prop}
theorem item_gen {value slice : PySem.Expr} {k : Int} {u : Tok} {v : Value} (S : Sees V s.heap) (hm : (l, W.listOf (List.toArray us) n) ∈ V) (hv : us[k.toNat]? = some v) (h0 : 0 ≤ k) (hfit : k < 1000000) (h : Q v s)
    (hs : subscripted slice false (.ref l) (.int k u) = operate [.ref l, .int k u] (getItem (.ref l) (.int k u)) := by with_unfolding_all rfl) :
    wpAny (model prog w) A (subscriptTail value slice (.ref l) (.int k u)) Q E s := by
  have hl : s.heap.IsList l us.toArray := ⟨_, S _ hm, rfl, n, rfl⟩
  exact tail_any hl.typeIs slot_list_getitem.lookup (wpAny_getItem_list hl h0 (by omega) (by simpa using hv) h) hs
theorem len_gen {N : Nat} (S : Sees V s.heap) (hm : (l, W.listOf (List.toArray us) n) ∈ V) (hN : us.length = N) (hfit : N < 1000000) (h : Q (.int (N : Int) (s.toks + 1)) { s with toks := s.toks + 1 + 1 }) :
    wpAny (model prog w) A (call (.builtin "len") [.ref l]) Q E s := by
  have hl : s.heap.IsList l us.toArray := ⟨_, S _ hm, rfl, n, rfl⟩
  have e : us.toArray.size = N := by rw [List.size_toArray, hN]
  exact len_list hl (by rw [e]; omega) (by rw [e]; exact h)
end
theorem reg27 : True := by
  k_with "call builtin:len" => (k_here; (with_reducible show wpAny _ _ (call (Value.builtin _) [Value.ref _]) _ _ _); k_dflt (refine' len_gen ?zqS ?zqm ?zqn ?zqz ?_; (case zqm => assumption); (case zqn => assumption); (case zqz => omega); (case zqS => walk_at "v_sees")))
  k_with "subscriptTail" => (k_here; (with_reducible show wpAny _ _ (subscriptTail _ _ (Value.ref _) (Value.int _ _)) _ _ _); k_dflt (refine' item_gen ?zqS ?zqm ?zqv ?zqh0 ?zqz ?_; (case zqm => assumption); (case zqv => assumption); (case zqh0 => omega); (case zqz => omega); (case zqS => walk_at "v_sees")))
  trivial
/-- a list of lists of ints -/
def GrpV (V : Led) (gl : Addr) (gs : List (List Int)) : Prop :=
  ∃ vs n, (gl, W.listOf (List.toArray vs) n) ∈ V ∧ vs.length = gs.length ∧ ∀ (i : Nat) (grp : List Int), gs[i]? = some grp → ∃ a us k, vs[i]? = some (.ref a) ∧ (a, W.listOf (List.toArray us) k) ∈ V ∧ IntsAre us grp
abbrev PRow := Int × Str × Int × Int
def grpRows (first : Int) (grp : List Int) (i : Nat) : List PRow := grp.zipIdx.map fun q => (q.1, Str.ofString "packed", first + (i : Int), (q.2 : Int))
def packRows (first : Int) (gs : List (List Int)) : List PRow := gs.zipIdx.flatMap fun p => grpRows first p.1 p.2
theorem grpRows_keys (first : Int) (grp : List Int) (i : Nat) : (grpRows first grp i).map (·.1) = grp := by
  unfold grpRows
  rw [List.map_map]
  show grp.zipIdx.map (fun q => q.1) = grp
  simp
theorem packRows_keys (first : Int) (gs : List (List Int)) : (packRows first gs).map (·.1) = gs.flatten := by
  unfold packRows
  rw [List.map_flatMap]
  simp only [grpRows_keys]
  rw [List.flatMap_def]
  congr 1
  simp
theorem packRows_take (first : Int) {gs : List (List Int)} {i : Nat} {grp : List Int} (h : gs[i]? = some grp) : packRows first (gs.take (i + 1)) = packRows first (gs.take i) ++ grpRows first grp i := by
  have hi := (List.getElem?_eq_some_iff.mp h).1
  unfold packRows
  rw [List.take_add_one, h, Option.toList_some, List.zipIdx_append, List.flatMap_append]
  congr 1
  rw [List.length_take, Nat.min_eq_left (Nat.le_of_lt hi)]
  simp
theorem grpRows_take (first : Int) {grp : List Int} {i j : Nat} {k : Int} (h : grp[j]? = some k) : grpRows first (grp.take (j + 1)) i = grpRows first (grp.take j) i ++ [(k, Str.ofString "packed", first + (i : Int), (j : Int))] := by
  have hj := (List.getElem?_eq_some_iff.mp h).1
  unfold grpRows
  rw [List.take_add_one, h, Option.toList_some, List.zipIdx_append, List.map_append]
  congr 1
  rw [List.length_take, Nat.min_eq_left (Nat.le_of_lt hj)]
  simp
theorem flat_new {gs : List (List Int)} (hn : gs.flatten.Nodup) {i j : Nat} {grp : List Int} {k : Int} (h : gs[i]? = some grp) (hj : grp[j]? = some k) : k ∉ (gs.take i).flatten ++ grp.take j := by
  have hi := (List.getElem?_eq_some_iff.mp h).1
  have e1 : gs = gs.take i ++ grp :: gs.drop (i + 1) := by
    have := List.take_append_drop i gs
    rw [List.drop_eq_getElem_cons hi, (List.getElem?_eq_some_iff.mp h).2] at this
    exact this.symm
  have hj' := (List.getElem?_eq_some_iff.mp hj).1
  have e2 : grp = grp.take j ++ k :: grp.drop (j + 1) := by
    have := List.take_append_drop j grp
    rw [List.drop_eq_getElem_cons hj', (List.getElem?_eq_some_iff.mp hj).2] at this
    exact this.symm
  have e3 : gs.flatten = ((gs.take i).flatten ++ grp.take j) ++ k :: (grp.drop (j + 1) ++ (gs.drop (i + 1)).flatten) := by
    conv => lhs; rw [e1, List.flatten_append, List.flatten_cons]
    conv => lhs; rw [e2]
    simp only [List.append_assoc, List.cons_append]
  rw [e3, List.nodup_append] at hn
  exact fun q => hn.2.2 k q k List.mem_cons_self rfl
theorem packed_spec {w : World} {A : Around} {E : Value → Shared → Prop} {s : Shared} {Q : Value → Shared → Prop} {b : Heap} {V : Led} {gl : Addr} {gs : List (List Int)} {first : Int} {tf : Tok}
    (R : Rm A 3 40) (G : Gd w b) (S : b.StaysIn s.heap) (Sv : Sees V s.heap) (D : GrpV V gl gs) (hz : gs.length ≤ 10) (hzz : ∀ grp ∈ gs, grp.length ≤ 10) (hnd : gs.flatten.Nodup)
    (ret : ∀ (d : Addr) (nw : Led) (es : List (Int × Ent)) (h' : Heap) (tk : Nat), Ext [] s.heap h' → Born s.heap h' nw → EDict w nw d es → es.map rowOf = packRows first gs → Q (.ref d) { s with heap := h', toks := tk }) :
    wpAny (model PR w) A (call (.ref 132) [.ref gl, .int first tf]) Q E s := by
  obtain ⟨X, l, mg, mb, T⟩ := G
  refine call_fn (R.less (by omega) (by omega)) X T.nolimit S [] (fun p hp => nomatch hp) (by k_is) (by k_is) (BindsTo.of_eq rfl) (locs rfl) (fun g L h₁ st kp F N => ?_) (by decide)
  have X := X.keeps st
  have T := T.keeps st
  have Sg : Sees V g := fun p hp => kp _ _ (Sv p hp) (by first | walk_at "mm" | simp)
  obtain ⟨vs, n, hm, hl, hgs⟩ := D
  k_steps
  rename_i d h3 od lo _ _ hd1 _ l4 h4 F4 N4 h5 tk5 t5 u5 v5 hr F5 N5 k5
  refine range_K (σ := Obj × List (Int × Ent)) (V₀ := []) (fun c => [(d, c.1)]) [d]
    (fun V c i => c.1.IsDictOf (PySem.intKind PR w) (kvOf c.2) ∧ (∀ p ∈ c.2, EntV V p.2) ∧ c.2.map rowOf = packRows first (gs.take i) ∧ c.2.length ≤ 10 * i)
    (fun m c i => ∃ u : Str → Option Value, m = fun z => if z = Str.ofString "entries" then some (.ref d) else if z = Str.ofString "groups" then some (.ref gl) else if z = Str.ofString "first" then some (.int first tf) else u z)
    (od, []) R.hd hr (by omega) (by omega) (by omega) (by omega) (fun c => rfl) F5 N5 ?hK ?mono ?h0 (fun p hp => nomatch hp) ?hm ?turn ?done
  case hK =>
    intro p hp
    rw [List.mem_singleton.mp hp]; exact List.mem_cons_self
  case mono =>
    rintro V U c i ⟨h1, h2, h3⟩ sub
    exact ⟨h1, fun p hp => (h2 p hp).mono sub, h3⟩
  case h0 => exact ⟨hd1, fun p hp => (nomatch hp), rfl, Nat.le_refl _⟩
  case hm => exact names3 rfl rfl rfl
  case turn =>
    rintro ⟨od, es⟩ i t U tl s' h tk m rfl hi6 ⟨hd2, hE, hrow, hel⟩ ⟨u, rfl⟩ sub off F6 N6
    clear F4 N4 F5 N5 hr hd1
    dsimp only at hd2 hE hrow hel N6
    simp only [List.cons_append, List.nil_append] at N6
    have hi7 : i < gs.length := by simp at hi6; omega
    have key0 : (0 + (i : Int)).toNat = i := by omega
    obtain ⟨a, us, k, hva, hma, hia⟩ := hgs i _ (List.getElem?_eq_getElem hi7)
    have hv0 : vs[(0 + (i : Int)).toNat]? = some (.ref a) := by rw [key0]; exact hva
    have hgl : gs[i].length ≤ 10 := hzz _ (List.getElem_mem hi7)
    have hg7 : gs[i]? = some gs[i] := List.getElem?_eq_getElem hi7
    generalize gs[i] = grp at hia hgl hg7
    have hul : us.length = grp.length := hia.length
    k_steps
    rename_i h6 tk6 t6 u6 v6 hr2 F7 N7 k7
    refine range_K (σ := Obj × List (Int × Ent)) (V₀ := tl) (fun c => [(d, c.1)]) [d]
      (fun Vi c j => c.1.IsDictOf (PySem.intKind PR w) (kvOf c.2) ∧ (∃ W : Led, (∀ p ∈ W, p ∈ Vi ∧ (p ∈ U ∨ ∀ q ∈ tl, q.1 ≠ p.1)) ∧ ∀ p ∈ c.2, EntV W p.2) ∧ (∀ p ∈ tl, p ∈ Vi) ∧ c.2.map rowOf = packRows first (gs.take i) ++ grpRows first (grp.take j) i ∧ c.2.length ≤ 10 * i + j)
      (fun m c j => ∃ u : Str → Option Value, m = fun z => if z = Str.ofString "entries" then some (.ref d) else if z = Str.ofString "groups" then some (.ref gl) else if z = Str.ofString "first" then some (.int first tf) else if z = Str.ofString "spot" then some (.int (0 + (i : Int)) t) else u z)
      (od, es) R.hd hr2 (by omega) (by omega) (by omega) (by omega) (fun c => rfl) F7 N7 ?hK2 ?mono2 ?h02 ?hV2 ?hm2 ?turn2 ?done2
    case hK2 =>
      intro p hp
      rw [List.mem_singleton.mp hp]; exact List.mem_cons_self
    case mono2 =>
      rintro V1 U1 c i ⟨h1, ⟨W, h2, h3⟩, h4, h5⟩ sub1
      exact ⟨h1, ⟨W, fun p hp => ⟨sub1 _ (h2 p hp).1, (h2 p hp).2⟩, h3⟩, fun p hp => sub1 _ (h4 p hp), h5⟩
    case h02 => exact ⟨hd2, ⟨U, fun p hp => ⟨sub p hp, .inl hp⟩, hE⟩, fun p hp => hp, by rw [hrow]; simp [grpRows], by omega⟩
    case hV2 => exact fun p hp => ⟨List.mem_cons_of_mem _ hp, fun q => off p hp _ q rfl⟩
    case hm2 => exact names4 rfl rfl rfl rfl
    case turn2 =>
      rintro ⟨od, es⟩ j t2 U2 tl2 s' h tk m rfl hj6 ⟨hd2, ⟨W, hW, hE⟩, hsub, hrow, hel⟩ ⟨u, rfl⟩ sub2 off2 F6 N6
      clear F7 N7 hr2
      dsimp only at hd2 hE hrow hel N6
      simp only [List.cons_append, List.nil_append] at N6
      have hj7 : j < grp.length := by simp at hj6; omega
      have key1 : (0 + (j : Int)).toNat = j := by omega
      obtain ⟨k, tk3, hk3, hv3⟩ := IntsAre.at hia (List.getElem?_eq_getElem (by omega : j < us.length))
      have hv1 : us[(0 + (j : Int)).toNat]? = some (.int k tk3) := by rw [key1, List.getElem?_eq_getElem (by omega : j < us.length), hv3]
      have hnk : k ∉ es.map (·.1) := by
        rw [rowOf_keys hrow, List.map_append, packRows_keys, grpRows_keys]
        exact flat_new hnd hg7 hk3
      have hz9 : (kvOf es).length ≤ 1000 := by simp [kvOf]; omega
      k_steps
      rename_i x dx h7 tk7 es5 n5 a5 b5 c5 gw g1 g2 gt l5 l6 h8 od8 F8 N8 hd8
      simp only [Int.zero_add] at g1 g2 hd8
      have lt1 := AllLt.mem l5.2
      show TurnEnd _ _ _ _ _ _ _ _ _ _ _
      refine TurnEnd.intro F8 N8 (od8, es ++ [(k, ⟨x, Str.ofString "packed", first + (i : Int), (j : Int)⟩)]) ((x, instObj 78 dx) :: (dx, dictOf es5 n5) :: U2) ?_ ?_ ?_ ⟨?_, ⟨(x, instObj 78 dx) :: (dx, dictOf es5 n5) :: W, ?_, ?_⟩, ?_, ?_, ?_⟩ (names4 rfl rfl rfl rfl)
      · intro p hp
        rw [List.mem_singleton.mp hp]; simp
      · intro p hp; simp [hp]
      · intro p hp
        rcases List.mem_cons.mp hp with rfl | hp
        · refine ⟨by simp, .inr fun q hq => ?_, ?_⟩
          · have := ltN (lt1 q hq)
            have l7 := ltN l6
            refine neN ?_
            try dsimp only
            omega
          · simp only [List.mem_cons, List.not_mem_nil, or_false]
            refine neN ?_
            try dsimp only
            omega
        · rcases List.mem_cons.mp hp with rfl | hp
          · refine ⟨by simp, .inr fun q hq => ?_, ?_⟩
            · exact Nat.ne_of_lt (ltN (lt1 q hq))
            · simp only [List.mem_cons, List.not_mem_nil, or_false]
              refine neN ?_
              try dsimp only
              omega
          · exact ⟨by simp [sub2 p hp], .inl hp, fun q => off2 p (sub2 p hp) _ q rfl⟩
      · have e := storeE_new ⟨x, Str.ofString "packed", first + (i : Int), (j : Int)⟩ hnk
        show od8.IsDictOf _ (kvOf _)
        rw [← e, ← kv_storeE]
        exact hd8
      · intro p hp
        rcases List.mem_cons.mp hp with rfl | hp
        · refine ⟨by simp, .inr fun q hq => ?_⟩
          have := ltN (lt1 q (sub2 q (hsub q hq)))
          have l7 := ltN l6
          refine neN ?_
          dsimp only
          omega
        · rcases List.mem_cons.mp hp with rfl | hp
          · exact ⟨by simp, .inr fun q hq => Nat.ne_of_lt (ltN (lt1 q (sub2 q (hsub q hq))))⟩
          · exact ⟨by simp [(hW p hp).1], (hW p hp).2⟩
      · intro p hp
        rcases List.mem_append.mp hp with hp | hp
        · exact (hE p hp).mono fun q hq => by simp [hq]
        · rw [List.mem_singleton.mp hp]
          exact ⟨dx, es5, n5, a5, b5, c5, by simp, by simp, gw, g1, g2, gt⟩
      · intro p hp; simp [hsub p hp]
      · show (es ++ _).map rowOf = _
        rw [List.map_append, hrow, grpRows_take first hk3, List.append_assoc]
        rfl
      · show (es ++ [_]).length ≤ _
        rw [List.length_append, List.length_singleton]
        omega
    case done2 =>
      rintro ⟨od, es⟩ U2 h tk m ⟨hd2, ⟨W, hW, hE⟩, hsub, hrow, hel⟩ ⟨u, rfl⟩ F6 N6 off2
      dsimp only at hd2 hE hrow hel N6
      simp only [List.cons_append, List.nil_append] at N6
      have e9 : ((grp.length : Int) - 0).toNat = grp.length := by omega
      rw [e9] at hrow hel
      rw [List.take_length] at hrow
      k_steps
      show TurnEnd _ _ _ _ _ _ _ _ _ _ _
      refine TurnEnd.intro F6 N6 (od, es) W (fun p hp => ?_) (fun p hp => List.mem_cons_of_mem _ (hsub p hp)) (fun p hp => ⟨List.mem_cons_of_mem _ (hW p hp).1, (hW p hp).2, fun q => off2 p (hW p hp).1 _ q rfl⟩) ⟨hd2, hE, ?_, ?_⟩ (names3 rfl rfl rfl)
      · rw [List.mem_singleton.mp hp]; exact List.mem_cons_self
      · rw [packRows_take first hg7]; exact hrow
      · show es.length ≤ _
        omega
  case done =>
    rintro ⟨od, es⟩ U h tk m ⟨hd2, hE, hrow, hel⟩ ⟨u, rfl⟩ F6 N6 off
    dsimp only at hd2 hE hrow N6 ⊢
    simp only [List.cons_append, List.nil_append] at N6
    k_steps
    refine Back.intro F6 fun hE' => ret d ((d, od) :: U) es _ _ hE' (born_of kp (fun p hp => hp) N6 fun p hp q => nomatch q) ⟨⟨lo, od, List.mem_cons_self, hd2⟩, fun p hp => (hE p hp).mono fun q hq => List.mem_cons_of_mem _ hq⟩ ?_
    rw [hrow]
    congr 1
    simp
end S_OPack
section S_OForT
theorem reg28 : True := by
  k_with_none
  k_with "mm" => ((repeat' (first | (with_reducible exact List.mem_cons_self) | (with_reducible assumption) | (with_reducible refine List.mem_cons_of_mem _ ?_))); done)
  k_with "sub" => ((repeat' (first | (with_reducible exact sub_nil _) | (with_reducible refine sub_cons ?_ ?_) | (with_reducible exact List.mem_cons_self) | (with_reducible refine List.mem_cons_of_mem _ ?_) | (with_reducible assumption) | (intro p9 hp9))); done)
  trivial
section
variable {prog : Program} {w : World} {A : Around} {E : Value → Shared → Prop} {s : Shared} {env : Env} {target : Expr} {body : List Stmt} {Q : Flow → Shared → Prop} {g : Heap}
/-- a for loop by an invariant J over the heap but its frame and its iterator -/
def ForT (prog : Program) (w : World) (A : Around) (env : Env) (target : Expr) (body : List Stmt) (Q : Flow → Shared → Prop) (it : Value) (s₂ : Shared) : Prop :=
  ∃ (I : Addr) (fp wr : List Addr) (n : Nat) (P : Nat → Value → Prop) (St : Nat → Heap → Prop) (J : Nat → Heap → (Str → Option Value) → Prop) (m : Str → Option Value),
    it = .ref I ∧ (∀ (E' : Value → Shared → Prop) (i : Nat) (s' : Shared) (v : Value) (Q' : Unit → Shared → Prop), St i s'.heap → Q' () s' → wpAny (model prog w) A (letOwnedTupleGo target (.ref I) v) Q' E' s') ∧ Walks prog w A I fp wr n P St ∧ env.locals ∉ fp ∧ St 0 s₂.heap ∧ s₂.heap.Ns env.locals m ∧ J 0 (hideAll s₂.heap (env.locals :: wr)) m ∧
    (∀ i h h' m, J i h m → h.StaysIn h' → J i h' m) ∧
    (∀ i v h tk m, i < n → P i v → St (i + 1) h → J i (hideAll h (env.locals :: wr)) m → h.Ns env.locals m →
      wpAny (model prog w) A (assign target env v) (fun _ s'' => wpAny (model prog w) A (execs body env) (fun f s' => match f with
        | .ret v => Q (.ret v) s'
        | .brk => Q .next s'
        | _ => ∃ h' tk' m', s' = { s₂ with heap := h', toks := tk' } ∧ h'.Ns env.locals m' ∧ J (i + 1) (hideAll h' (env.locals :: wr)) m' ∧ ∀ b ∈ fp, ∀ o, h.get? b = some o → h'.get? b = some o)
        (fun _ _ => False) s'') (fun _ _ => False) { s₂ with heap := h, toks := tk }) ∧
    ∀ h tk m, h.Ns env.locals m → J n (hideAll h (env.locals :: wr)) m → Q .next { s₂ with heap := h, toks := tk }
theorem forT_raw {pos : Pos} {iter target : Expr}
    (h : wpAny (model prog w) A (eval iter env) (fun xv s₁ => wpAny (model prog w) A (pyIter xv) (fun it s₂ => ForT prog w A env target body Q it s₂) E s₁) E s)
    (hs : ∀ x, foldedSetIterable iter env x = pure x := by intro _; rfl) :
    wpAny (model prog w) A (exec (.For target iter body [] pos) env) Q E s := by
  refine wpAny_For (wpAny_mono h (fun xv s₁ h₁ => wpAny_mono h₁ (fun it s₂ h₂ => ?_) fun _ _ e => e) fun _ _ e => e) hs
  obtain ⟨I, fp, wr, n, P, St, J, m, rfl, lg, W, hLf, hst, hns, h0, mono, step, done⟩ := h₂
  have hLw : env.locals ∉ wr := fun h => hLf (W.sub _ h)
  refine codeAny_forLoop_any
    (fun k s' => ∃ h' tk m' i, s' = { s₂ with heap := h', toks := tk } ∧ St i h' ∧ h'.Ns env.locals m' ∧ J i (hideAll h' (env.locals :: wr)) m' ∧ i ≤ n ∧ k = n + 1 - i) ?_ (n + 1)
    ⟨s₂.heap, s₂.toks, m, 0, rfl, hst, hns, h0, Nat.zero_le _, rfl⟩
  rintro k s' ⟨h', tk, m', i, rfl, hst', hn', hJ, hi, rfl⟩
  by_cases hlt : i < n
  · refine W.item i _ _ _ hlt hst' fun v h₁ tk₁ hP hst₁ hk₁ => ?_
    have hn₁ := hn'.at' fun o e => hk₁ _ o hLw e
    have hJ₁ : J i (hideAll h₁ (env.locals :: wr)) m' := mono _ _ _ _ hJ (hide_stays fun a o ha e => hk₁ a o (fun q => ha (List.mem_cons_of_mem _ q)) e)
    refine lg _ (i + 1) _ v _ hst₁ ?_
    refine wpAny_mono (step i v h₁ tk₁ m' hlt hP hst₁ hJ₁ hn₁) (fun _ s₃ h₃ => wpAny_mono h₃ (fun f s₃ h₃ => ?_) fun _ _ e => e.elim) fun _ _ e => e.elim
    have fin : (∃ h' tk' m', s₃ = { s₂ with heap := h', toks := tk' } ∧ h'.Ns env.locals m' ∧ J (i + 1) (hideAll h' (env.locals :: wr)) m' ∧ ∀ b ∈ fp, ∀ o, h₁.get? b = some o → h'.get? b = some o) →
        ∃ m_1, m_1 < n + 1 - i ∧ ∃ h' tk m' i, s₃ = { s₂ with heap := h', toks := tk } ∧ St i h' ∧ h'.Ns env.locals m' ∧ J i (hideAll h' (env.locals :: wr)) m' ∧ i ≤ n ∧ m_1 = n + 1 - i := by
      rintro ⟨h₃', tk₃, m₃, rfl, hn₃, hJ₃, hk₃⟩
      exact ⟨n + 1 - (i + 1), by omega, h₃', tk₃, m₃, i + 1, rfl, W.frame _ _ _ hst₁ hk₃, hn₃, hJ₃, hlt, rfl⟩
    cases f with
    | ret v => exact h₃
    | brk => exact h₃
    | cont => exact fin h₃
    | next => exact fin h₃
  · have hin : i = n := by omega
    subst hin
    refine W.done _ _ _ hst' fun h₁ tk₁ hk₁ => wpAny_execs_nil ?_
    exact done h₁ tk₁ m' (hn'.at' fun o e => hk₁ _ o hLw e) (mono _ _ _ _ hJ (hide_stays fun a o ha e => hk₁ a o (fun q => ha (List.mem_cons_of_mem _ q)) e))
theorem forT_K {σ : Type} {I : Addr} {fp wr : List Addr} {n : Nat} {P : Nat → Value → Prop} {St : Nat → Heap → Prop} {m₀ : Str → Option Value} {led V₀ : Led}
    (Kn : σ → Led) (adr : List Addr) (Fact : Led → σ → Nat → Prop) (mOK : (Str → Option Value) → σ → Nat → Prop) (c₀ : σ)
    (lg : ∀ (E' : Value → Shared → Prop) (i : Nat) (s' : Shared) (v : Value) (Q' : Unit → Shared → Prop), St i s'.heap → Q' () s' → wpAny (model prog w) A (letOwnedTupleGo target (.ref I) v) Q' E' s') (W : Walks prog w A I fp wr n P St) (hfp : ∀ b ∈ fp, b ∉ adr ∧ b ≠ env.locals) (hwr : ∀ b ∈ wr, g.get? b = none) (hlive : ∀ i h, St i h → ∀ b ∈ wr, ∃ o, h.get? b = some o) (hst : St 0 s.heap) (hadr : ∀ c, (Kn c).map (·.1) = adr)
    (F : Fr g env.locals s.heap m₀) (N : News g env.locals s.heap led) (hK : ∀ p ∈ Kn c₀, p ∈ led) (mono : ∀ V U c i, Fact V c i → (∀ p ∈ V, p ∈ U) → Fact U c i) (h0 : Fact V₀ c₀ 0) (hV : ∀ p ∈ V₀, p ∈ led ∧ p.1 ∉ adr ∧ p.1 ∉ wr) (hm : mOK m₀ c₀ 0)
    (turn : ∀ (c : σ) (i : Nat) (v : Value) (V tl : Led) h tk m, i < n → P i v → Fact V c i → mOK m c i → (∀ p ∈ V, p ∈ tl) → OwnOff tl adr → Fr g env.locals h m → News g env.locals h (Kn c ++ tl) →
      wpAny (model prog w) A (assign target env v) (fun _ s'' => wpAny (model prog w) A (execs body env) (fun f s' => match f with
        | .ret v => Q (.ret v) s'
        | .brk => Q .next s'
        | _ => TurnEnd g env.locals Kn Fact mOK adr V tl (i + 1) s s') (fun _ _ => False) s'') (fun _ _ => False) { s with heap := h, toks := tk })
    (done : ∀ c V h tk m, Fact V c n → mOK m c n → Fr g env.locals h m → News g env.locals h (Kn c ++ V) → OwnOff V adr → Q .next { s with heap := h, toks := tk }) :
    ForT prog w A env target body Q (.ref I) s := by
  have hgL : g.get? env.locals = none := Heap.get?_none_of_le F.above
  have kn : ∀ a ∈ adr, a ≠ env.locals ∧ g.get? a = none := fun a ha => by
    rw [← hadr c₀] at ha
    obtain ⟨p, hp, rfl⟩ := List.mem_map.mp ha
    exact (N p (hK p hp)).2
  have kw : ∀ a ∈ adr, a ∉ wr := fun a ha hb => (hfp a (W.sub a hb)).1 ha
  have gst : ∀ {h : Heap}, g.StaysIn h → g.StaysIn (hideAll h (env.locals :: wr)) := fun {h} k a o e => hideAll_get _ (k a o e) fun q => by
    rcases List.mem_cons.mp q with q | q
    · rw [q, hgL] at e; cases e
    · rw [hwr a q] at e; cases e
  refine ⟨I, fp, wr, n, P, St, (fun i h m => ∃ c, (∀ p ∈ Kn c, h.get? p.1 = some p.2) ∧ Fact (rest g h adr) c i ∧ mOK m c i ∧ g.StaysIn h), m₀, rfl, lg, W, fun q => (hfp _ q).2 rfl, hst, F.ns, ⟨c₀, fun p hp => ?_, mono _ _ _ _ h0 fun p hp => ?_, hm, gst F.keep⟩, ?_, ?_, ?_⟩
  · have ha : p.1 ∈ adr := by rw [← hadr c₀]; exact List.mem_map_of_mem hp
    exact hideAll_get _ (N p (hK p hp)).1 fun q => (List.mem_cons.mp q).elim (kn _ ha).1 (kw _ ha)
  · have z := N p (hV p hp).1
    exact mem_rest.mpr ⟨hideAll_get _ z.1 fun q => (List.mem_cons.mp q).elim z.2.1 (hV p hp).2.2, (hV p hp).2.1, z.2.2⟩
  · rintro i h h' m ⟨c, h1, h2, h3, h4⟩ k
    exact ⟨c, fun p hp => k _ _ (h1 p hp), mono _ _ _ _ h2 fun p hp => (mem_rest.mpr ⟨k _ _ (mem_rest.mp hp).1, (mem_rest.mp hp).2⟩), h3, fun a o e => k a o (h4 a o e)⟩
  · rintro i v h tk m hi hP hs ⟨c, h1, h2, h3, h4⟩ hns
    have F1 : Fr g env.locals h m := ⟨hns, fun a o e => (hide_sub (h4 a o e)).1, F.above⟩
    have N1 : News g env.locals h (Kn c) := fun p hp => ⟨(hide_sub (h1 p hp)).1, kn _ (by rw [← hadr c]; exact List.mem_map_of_mem hp)⟩
    obtain ⟨tl, N2, T2⟩ := tail_of F1 N1
    rw [hadr c] at T2
    have sub : ∀ p ∈ rest g (hideAll h (env.locals :: wr)) adr, p ∈ tl := fun p hp => by
      have z := mem_rest.mp hp
      have y := hide_sub z.1
      exact T2.cov p.1 p.2 y.1 z.2.1 (fun q => y.2 (by rw [q]; exact List.mem_cons_self)) z.2.2
    refine wpAny_mono (turn c i v _ tl h tk m hi hP h2 h3 sub T2.off F1 N2) (fun _ s'' q => wpAny_mono q (fun f s' q => ?_) fun _ _ e => e) fun _ _ e => e
    have fin : TurnEnd g env.locals Kn Fact mOK adr (rest g (hideAll h (env.locals :: wr)) adr) tl (i + 1) s s' →
        ∃ h' tk' m', s' = { s with heap := h', toks := tk' } ∧ h'.Ns env.locals m' ∧ (∃ c, (∀ p ∈ Kn c, (hideAll h' (env.locals :: wr)).get? p.1 = some p.2) ∧ Fact (rest g (hideAll h' (env.locals :: wr)) adr) c (i + 1) ∧ mOK m' c (i + 1) ∧ g.StaysIn (hideAll h' (env.locals :: wr))) ∧ ∀ b ∈ fp, ∀ o, h.get? b = some o → h'.get? b = some o := by
      rintro ⟨c', V', h', tk', m', led', rfl, F', N', k1, k2, k3, k4, k5⟩
      have ex : Ext (env.locals :: adr) h h' := ext_of_tail F1 T2 F' N' k2
      refine ⟨h', tk', m', rfl, F'.ns, ⟨c', fun p hp => ?_, mono _ _ _ _ k4 fun p hp => ?_, k5, gst F'.keep⟩, fun b hb o e => ex b o e fun q => (List.mem_cons.mp q).elim (hfp b hb).2 (hfp b hb).1⟩
      · have ha : p.1 ∈ adr := by rw [← hadr c']; exact List.mem_map_of_mem hp
        exact hideAll_get _ (N' p (k1 p hp)).1 fun q => (List.mem_cons.mp q).elim (kn _ ha).1 (kw _ ha)
      · obtain ⟨z1, z2, z3⟩ := k3 p hp
        have z := N' p z1
        refine mem_rest.mpr ⟨hideAll_get _ z.1 fun q => (List.mem_cons.mp q).elim z.2.1 fun qw => ?_, z3, z.2.2⟩
        rcases z2 with z2 | z2
        · exact (hide_sub (mem_rest.mp z2).1).2 (List.mem_cons_of_mem _ qw)
        · cases e : h.get? p.1 with
          | some o => exact z2 _ (T2.cov p.1 o e z3 z.2.1 z.2.2) rfl
          | none =>
            obtain ⟨o, e'⟩ := hlive (i + 1) h hs p.1 qw
            rw [e] at e'; cases e'
    cases f with
    | ret v => exact q
    | brk => exact q
    | next => exact fin q
    | cont => exact fin q
  · rintro h tk m hns ⟨c, h1, h2, h3, h4⟩
    refine done c _ h tk m h2 h3 ⟨hns, fun a o e => (hide_sub (h4 a o e)).1, F.above⟩ (fun p hp => ?_) fun p hp b hb e => (mem_rest.mp hp).2.1 (e ▸ hb)
    rcases List.mem_append.mp hp with hp | hp
    · exact ⟨(hide_sub (h1 p hp)).1, kn _ (by rw [← hadr c]; exact List.mem_map_of_mem hp)⟩
    · have z := mem_rest.mp hp
      have y := hide_sub z.1
      exact ⟨y.1, fun q => y.2 (by rw [q]; exact List.mem_cons_self), z.2.2⟩
/-- a for loop over a list -/
theorem listT_K {σ : Type} {l : Addr} {vs : List Value} {m₀ : Str → Option Value} {led V₀ : Led}
    (Kn : σ → Led) (adr : List Addr) (Fact : Led → σ → Nat → Prop) (mOK : (Str → Option Value) → σ → Nat → Prop) (c₀ : σ)
    (hh : A.handled = none) (hl : s.heap.IsList l vs.toArray) (hda : l ∉ adr) (hdL : l ≠ env.locals) (hadr : ∀ c, (Kn c).map (·.1) = adr)
    (F : Fr g env.locals s.heap m₀) (N : News g env.locals s.heap led) (hK : ∀ p ∈ Kn c₀, p ∈ led) (mono : ∀ V U c i, Fact V c i → (∀ p ∈ V, p ∈ U) → Fact U c i) (h0 : Fact V₀ c₀ 0) (hV : ∀ p ∈ V₀, p ∈ led ∧ p.1 ∉ adr) (hm : mOK m₀ c₀ 0)
    (turn : ∀ (c : σ) (i : Nat) (v : Value) (V tl : Led) s' h tk m, s' = { s with heap := h, toks := tk } → vs[i]? = some v → Fact V c i → mOK m c i → (∀ p ∈ V, p ∈ tl) → OwnOff tl adr → Fr g env.locals h m → News g env.locals h (Kn c ++ tl) →
      wpAny (model prog w) A (assign target env v) (fun _ s3 => wpAny (model prog w) A (execs body env) (fun f s'' => match f with
        | .ret v => Q (.ret v) s''
        | .brk => Q .next s''
        | _ => TurnEnd g env.locals Kn Fact mOK adr V tl (i + 1) s' s'') (fun _ _ => False) s3) (fun _ _ => False) s')
    (done : ∀ c V h tk m, Fact V c vs.length → mOK m c vs.length → Fr g env.locals h m → News g env.locals h (Kn c ++ V) → OwnOff V adr → Q .next { s with heap := h, toks := tk }) :
    wpAny (model prog w) A (pyIter (.ref l)) (fun it s₂ => ForT prog w A env target body Q it s₂) E s := by
  have hlt : l < s.heap.objs.size := by obtain ⟨_, e, _⟩ := hl; exact Heap.lt_size e
  refine wpAny_pyIter_list hl ?_
  have hn : vs.toArray.size = vs.length := by simp
  have WL := Walks.list (prog := prog) (w := w) hh s.heap.objs.size l (Nat.ne_of_lt hlt) vs.toArray
  rw [hn] at WL
  obtain ⟨F', N', hI, gI, hV'⟩ := iter_push (oI := { cls := .type "list_iterator", data := .fields #[.ref l, .int 0 0] }) hadr F N hK hV
  refine forT_K Kn adr Fact mOK c₀ (fun E' i s' v Q' st q => letGo_listiter st.1 q) WL (fun b hb => ?_) (fun b hb => ?_) (fun i h st b hb => ?_) ⟨⟨_, Heap.get?_push_size _ rfl, rfl, rfl⟩, hl.push _⟩ hadr F' N' hK mono h0 hV' hm (fun c i v V tl h tk m hi hP h1 h2 h3 h4 F N => ?_) fun c V h tk m h1 h2 F N o => done c V h tk m h1 h2 F N o
  · simp only [List.mem_cons, List.not_mem_nil, or_false] at hb
    rcases hb with rfl | rfl
    · exact hI
    · exact ⟨hda, hdL⟩
  · rw [List.mem_singleton.mp hb]; exact gI
  · rw [List.mem_singleton.mp hb]
    obtain ⟨o, e, _⟩ := st.1
    exact ⟨o, e⟩
  · exact wpAny_mono (turn c i v V tl _ h tk m rfl (by simpa using hP) h1 h2 h3 h4 F N) (fun _ s3 q => wpAny_mono q (fun f s'' q => by
      cases f with
      | ret v => exact q
      | brk => exact q
      | next => exact turn_any ⟨_, _, rfl⟩ q
      | cont => exact turn_any ⟨_, _, rfl⟩ q) fun _ _ e => e) fun _ _ e => e
end
end S_OForT
section S_OUsed
theorem reg29 : True := by
  k_with_none
  k_with "mm" => ((repeat' (first | (with_reducible exact List.mem_cons_self) | (with_reducible assumption) | (with_reducible refine List.mem_cons_of_mem _ ?_))); done)
  k_with "sub" => ((repeat' (first | (with_reducible exact sub_nil _) | (with_reducible refine sub_cons ?_ ?_) | (with_reducible exact List.mem_cons_self) | (with_reducible refine List.mem_cons_of_mem _ ?_) | (with_reducible assumption) | (intro p9 hp9))); done)
  trivial
theorem ne_gn {g : Heap} {a b : Addr} {o : Obj} (h : g.get? a = some o) (n : g.get? b = none) : a ≠ b := by
  rintro rfl
  rw [n] at h
  cases h
theorem tup_sees {a : Addr} {vs : Array Value} {V : Led} {h : Heap} (hm : (a, ({ cls := .type "tuple", data := .seq vs } : Obj)) ∈ V) (S : Sees V h) : IsTup h a vs := ⟨_, S _ hm, rfl, _, rfl⟩
theorem reg30 : True := by
  k_with "v_sees" => first | exact Sees.keep (by assumption) (Fr.keep (by k_asm)) | exact Sees.sub (News.sees (by k_asm)) (fun _ h => by first | exact h | (refine List.mem_cons_of_mem _ ?_; exact h) | (refine List.mem_cons_of_mem _ (List.mem_cons_of_mem _ ?_); exact h))
  k_with "eval Name" => (k_here; (with_reducible show wpAny _ _ (eval (Expr.Name _ _) (compEnvC _ _ _ _)) _ _ _); k_dflt (first | (refine' nameB_L ?zqF ?zqv ?_ ?zqa ?zqb; (case zqF => k_asm); (case zqv => assumption); (case zqa => rfl); (case zqb => rfl)) | (refine' nameB_C ?zqF ?zqc ?zqo ?zqd ?_ ?zqa ?zqb; (case zqF => k_asm); (case zqa => rfl); (case zqb => rfl); (case zqc => rfl); (case zqo => assumption); (case zqd => assumption)) | (refine' nameB_G ?zqF ?zqX ?zqT ?zqe ?_ ?zqg ?zqa ?zqb; (case zqF => k_asm); (case zqX => k_asm); (case zqT => k_asm); (case zqg => rfl); (case zqa => rfl); (case zqb => rfl); (case zqe => k_is)) | (refine' nameB_B ?zqF ?zqX ?zqT ?zqe ?zqv ?zqn ?_ ?zqg ?zqh ?zqa ?zqb; (case zqF => k_asm); (case zqX => k_asm); (case zqT => k_asm); (case zqg => rfl); (case zqh => rfl); (case zqa => rfl); (case zqb => rfl); (case zqe => k_is); (case zqv => boot_fast); (case zqn => decide))))
  k_with "getAttr ref" => (k_here; (with_reducible show wpAny _ _ (getAttr (Value.ref _) (PySem.Str.ofString "way") _) _ _ _); k_dflt (refine' ent_way ?zqF ?zqX ?zqS ?zqx ?_; (case zqx => assumption); (case zqF => k_asm); (case zqX => k_asm); (case zqS => walk_at "v_sees")); intro _)
  k_with "getAttr ref" => (k_here; (with_reducible show wpAny _ _ (getAttr (Value.ref _) (PySem.Str.ofString "one") _) _ _ _); k_dflt (refine' ent_one ?zqF ?zqX ?zqS ?zqx ?_; (case zqx => assumption); (case zqF => k_asm); (case zqX => k_asm); (case zqS => walk_at "v_sees")); intro _)
  k_with "getAttr ref" => (k_here; (with_reducible show wpAny _ _ (getAttr (Value.ref _) (PySem.Str.ofString "two") _) _ _ _); k_dflt (refine' ent_two ?zqF ?zqX ?zqS ?zqx ?_; (case zqx => assumption); (case zqF => k_asm); (case zqX => k_asm); (case zqS => walk_at "v_sees")); intro _)
  k_with "getMethod ref" => (k_here; (with_reducible show wpAny _ _ (getMethod (Value.ref _) (PySem.Str.ofString "told") _) _ _ _); k_dflt (refine' ent_told ?zqF ?zqX ?zqS ?zqx ?_; (case zqx => assumption); (case zqF => k_asm); (case zqX => k_asm); (case zqS => walk_at "v_sees")))
  k_with "call builtin:sorted" => (k_here; (with_reducible show wpAny _ _ (call (Value.builtin _) [Value.ref _]) _ _ _); k_dflt (refine' sorted_edict ?zqhh ?zqS ?zqD ?zqF ?zqN ?zqz ?_; (case zqhh => first | assumption | exact Rm.hd_deeper (by assumption) _); (case zqD => assumption); (case zqF => k_asm); (case zqN => k_asm); (case zqS => walk_at "v_sees"); (case zqz => omega)); intro _ _ _ _ _ _ _ _ _ _ _ _; (try k_sweep))
  k_with "subscriptTail" => (k_here; (with_reducible show wpAny _ _ (subscriptTail _ _ (Value.ref _) (Value.int _ _)) _ _ _); k_dflt (refine' edict_item ?zqS ?zqD ?zqv ?_; (case zqD => assumption); (case zqv => assumption); (case zqS => walk_at "v_sees")))
  k_with "call ref" => (k_here; k_dflt (refine' told_use ?zqR ?zqX ?zqT ?zqF ?zqN ?zqS ?zqEn ?_; (case zqEn => assumption); (case zqR => first | exact Rm.less (by assumption) (by omega) (by omega) | exact Rm.deeper (Rm.less (by assumption) (by omega) (by omega)) _); (case zqX => k_asm); (case zqT => k_asm); (case zqF => k_asm); (case zqN => k_asm); (case zqS => walk_at "v_sees")); intro _ _ _ _ _ _ _ _ _; (try k_sweep))
  k_with "eval ListComp" => (k_here; k_dflt (refine' comp_raw ?zqcl ?zqce ?zqk ?zqn ?zqx ?_; (case zqcl => exact rfl); (case zqce => decide); (case zqk => rfl); (case zqn => decide); (case zqx => rfl)))
  k_with "exec For Name Call cons nil" => (k_here; k_dflt (refine for_raw (by rfl) (by rfl) ?_))
  k_with "exec For Name Name cons nil" => (k_here; k_dflt (refine for_raw (by rfl) (by rfl) ?_))
  k_with "call ref" => (k_here; k_dflt (refine' entry_use ?zqR ?zqX ?zqT ?zqF ?zqN ?_; (case zqR => exact Rm.deeper (Rm.less (by assumption) (by omega) (by omega)) _); (case zqX => k_asm); (case zqT => k_asm); (case zqF => k_asm); (case zqN => k_asm)); intro _ _ _ _ _ _ _ _ _ _ _ _ _ _ _ _ _; rename_i l1 l2 gw' g1' g2' gt'; (try k_lt l1); (try k_lt2 l2); (try k_sweep); revert l1 l2 gw' g1' g2' gt'; intro _ _ _ _ _ _)
  k_with "setItem ref int ref" => (k_here; k_dflt (refine' dict_set_K ?zqF ?zqN ?zqU ?zqhd ?zqhz ?_; (case zqF => k_asm); (case zqN => k_asm); (case zqU => k_updF); (case zqhd => assumption); (case zqhz => assumption)); intro _ _ _ _ _; rename_i N' hd'; (try dsimp only at N'); (try k_sweep); revert N' hd'; intro _ _)
  k_with "getMethod ref" => (k_here; (with_reducible show wpAny _ _ (getMethod (Value.ref _) (PySem.Str.ofString "get") _) _ _ _); k_dflt (refine' get_method ?zqS ?zqD ?_; (case zqD => first | assumption | exact EDict.dict (by assumption)); (case zqS => walk_at "v_sees")))
  k_with "call builtin:dict.get" => (k_here; (with_reducible show wpAny _ _ (call (Value.builtin _) [Value.ref _, Value.int _ _, Value.int _ _]) _ _ _); k_dflt (refine' get0_raw ?zqS ?zqD ?zqhg ?_; (case zqD => assumption); (case zqhg => assumption); (case zqS => walk_at "v_sees")); intro _)
  k_with "exec Assign cons ListComp" => (k_here; k_dflt (refine' comp_assign ?zqsw ?zqcl ?zqce ?zqk ?zqn ?zqx ?zqy ?zqp ?_; (case zqsw => rfl); (case zqcl => exact rfl); (case zqce => decide); (case zqk => rfl); (case zqn => decide); (case zqx => rfl); (case zqy => rfl); (case zqp => rfl)))
  k_with "compareOp NotIn int ref" => (k_here; k_dflt (refine' edict_notin ?zqS ?zqD ?_; (case zqD => assumption); (case zqS => walk_at "v_sees")))
  k_with "compareOp In int ref" => (k_here; k_dflt (refine' edict_in ?zqS ?zqD ?_; (case zqD => assumption); (case zqS => walk_at "v_sees")))
  k_with "unpackItems ref" => (k_here; k_dflt (refine' unpackItemsN_ ?zqk1 ?zqk2 ?zqk3 ?zqk4 ?zqk5 ?_; (case zqk1 => k_asm); (case zqk2 => k_asm); (case zqk3 => kun_tup); (case zqk4 => first | assumption | exact Rm.hd_deeper (by assumption) _); (case zqk5 => exact rfl); k_whole); intro _ _ _; (try k_sweep))
  k_with "assign Tuple" => (k_here; (with_reducible show wpAny _ _ (assign (Expr.Tuple _ _ _) _ (Value.ref _)) _ _ _); k_dflt (refine' unpackN_ ?zqk1 ?zqk2 ?zqk3 ?zqk4 ?zqk5 ?zqk6 ?_; (case zqk1 => k_asm); (case zqk2 => k_asm); (case zqk3 => first | kun_tup | exact tup_sees (by assumption) (by walk_at "v_sees")); (case zqk4 => first | assumption | exact Rm.hd_deeper (by assumption) _); (case zqk5 => exact rfl); (case zqk6 => exact rfl); k_whole); intro _ _ _; (try k_sweep))
  trivial
/-- rows of three -/
def RowV (V : Led) (rl : Addr) (rs : List (Int × Int)) : Prop :=
  ∃ vs n, (rl, W.listOf (List.toArray vs) n) ∈ V ∧ vs.length = rs.length ∧ ∀ (i : Nat) (p : Int × Int), rs[i]? = some p → ∃ a t u, vs[i]? = some (.ref a) ∧ (a, ({ cls := .type "tuple", data := .seq #[.int p.1 t, .int p.2 u, .none] } : Obj)) ∈ V
theorem reg31 : True := by
  k_with "exec For Tuple Name cons nil" => (k_here; k_dflt (refine forT_raw ?_))
  trivial
theorem ditem_K {w : World} {A : Around} {E : Value → Shared → Prop} {s : Shared} {V : Led} {d : Addr} {kvs : List (Int × Value)} {k : Int} {t : Tok} {value slice : PySem.Expr} {v : Value} {Q : Value → Shared → Prop} (S : Sees V s.heap) (D : DictV w V d kvs) (hv : valueAt kvs k = some v) (h : Q v { s with toks := s.toks + 1 })
    (hs : subscripted slice false (.ref d) (.int k t) = operate [.ref d, .int k t] (getItem (.ref d) (.int k t)) := by with_unfolding_all rfl) (hg : ∀ r, letTemporaryGo value (.ref d) r = pure () := by intro _; with_unfolding_all rfl) :
    wpAny (model PR w) A (subscriptTail value slice (.ref d) (.int k t)) Q E s := dict_item S D hv h hs hg
theorem reg32 : True := by
  k_with "subscriptTail" => (k_here; (with_reducible show wpAny _ _ (subscriptTail _ _ (Value.ref _) (Value.int _ _)) _ _ _); k_dflt (refine' ditem_K ?zqS ?zqD ?zqv ?_; (case zqD => assumption); (case zqv => assumption); (case zqS => walk_at "v_sees")))
  trivial
theorem used_spec {w : World} {A : Around} {E : Value → Shared → Prop} {s : Shared} {Q : Value → Shared → Prop} {b : Heap} {V : Led} {rl of : Addr} {rs : List (Int × Int)} {okvs : List (Int × Value)} {fo : Int → Int}
    (R : Rm A 3 40) (G : Gd w b) (S : b.StaysIn s.heap) (Sv : Sees V s.heap) (D : RowV V rl rs) (O : DictV w V of okvs) (ho : ∀ p ∈ rs, ∃ t, valueAt okvs p.1 = some (.int (fo p.1) t)) (hz : rs.length ≤ 10) (hnd : (rs.map (·.1)).Nodup)
    (ret : ∀ (d : Addr) (nw : Led) (es : List (Int × Ent)) (h' : Heap) (tk : Nat), Ext [] s.heap h' → Born s.heap h' nw → EDict w nw d es → es.map rowOf = rs.map (fun p => (p.1, Str.ofString "used", fo p.1, p.2)) → Q (.ref d) { s with heap := h', toks := tk }) :
    wpAny (model PR w) A (call (.ref 120) [.ref rl, .ref of]) Q E s := by
  obtain ⟨X, l, mg, mb, T⟩ := G
  refine call_fn (R.less (by omega) (by omega)) X T.nolimit S [] (fun p hp => nomatch hp) (by k_is) (by k_is) (BindsTo.of_eq rfl) (locs rfl) (fun g L h₁ st kp F N => ?_) (by decide)
  have X := X.keeps st
  have T := T.keeps st
  have Sg : Sees V g := fun p hp => kp _ _ (Sv p hp) (by first | walk_at "mm" | simp)
  obtain ⟨vs, n, hm, hl, hrs⟩ := D
  k_steps
  rename_i d h3 od lo _ _ hd1 _ _ h4 F4 N4
  have z0 := N4 _ List.mem_cons_self
  have gm := Sg _ hm
  have gL : g.get? L = none := Heap.get?_none_of_le F4.above
  refine listT_K (σ := Obj × List (Int × Ent)) (vs := vs) (V₀ := []) (fun c => [(d, c.1)]) [d]
    (fun V c i => c.1.IsDictOf (PySem.intKind PR w) (kvOf c.2) ∧ (∀ p ∈ c.2, EntV V p.2) ∧ c.2.map rowOf = (rs.take i).map (fun p => (p.1, Str.ofString "used", fo p.1, p.2)))
    (fun m c i => ∃ u : Str → Option Value, m = fun z => if z = Str.ofString "entries" then some (.ref d) else if z = Str.ofString "offsets" then some (.ref of) else u z)
    (od, []) R.hd ⟨_, F4.keep _ _ gm, rfl, ⟨_, rfl⟩⟩ ?hda (ne_gn gm gL) (fun c => rfl) F4 N4 ?hK ?mono ?h0 (fun p hp => nomatch hp) ?hm ?turn ?done
  case hda => exact fun q => ne_gn gm z0.2.2 (List.mem_singleton.mp q)
  case hK =>
    intro p hp
    rw [List.mem_singleton.mp hp]; exact List.mem_cons_self
  case mono =>
    rintro V U c i ⟨h1, h2, h3⟩ sub
    exact ⟨h1, fun p hp => (h2 p hp).mono sub, h3⟩
  case h0 => exact ⟨hd1, fun p hp => (nomatch hp), rfl⟩
  case hm => exact names2 rfl rfl
  case turn =>
    rintro ⟨od, es⟩ i v U tl s' h tk m rfl hv ⟨hd2, hE, hrow⟩ ⟨u, rfl⟩ sub off F6 N6
    clear F4 N4 hd1
    dsimp only at hd2 hE hrow N6
    simp only [List.cons_append, List.nil_append] at N6
    have hi7 : i < rs.length := by have := (List.getElem?_eq_some_iff.mp hv).1; omega
    obtain ⟨a, t, u2, hva, hma⟩ := hrs i _ (List.getElem?_eq_getElem hi7)
    have hg7 : rs[i]? = some rs[i] := List.getElem?_eq_getElem hi7
    obtain ⟨t3, ho3⟩ := ho _ (List.getElem_mem hi7)
    generalize rs[i] = p at hma hg7 ho3
    rw [hv] at hva
    cases hva
    have hlen : es.length = i := by have := congrArg List.length hrow; simp at this; omega
    have hz9 : (kvOf es).length ≤ 1000 := by simp [kvOf]; omega
    have gA := Sg _ hma
    have hnk : p.1 ∉ es.map (·.1) := by
      rw [rowOf_keys hrow, List.map_map]
      intro q
      obtain ⟨r, hr, e⟩ := List.mem_map.mp q
      obtain ⟨j, hj, e2⟩ := List.mem_take_iff_getElem.mp hr
      have hp2 := (List.getElem?_eq_some_iff.mp hg7).2
      have := List.pairwise_iff_getElem.mp hnd j i (by rw [List.length_map]; omega) (by rw [List.length_map]; omega) (by omega)
      rw [List.getElem_map, List.getElem_map, e2, hp2] at this
      exact this e
    k_steps
    rename_i x dx h7 tk7 es5 n5 a5 b5 c5 gw g1 g2 gt l5 l6 h8 od8 F8 N8 hd8
    have lt1 := AllLt.mem l5.2
    show TurnEnd _ _ _ _ _ _ _ _ _ _ _
    refine TurnEnd.intro F8 N8 (od8, es ++ [(p.1, ⟨x, Str.ofString "used", fo p.1, p.2⟩)]) ((x, instObj 78 dx) :: (dx, dictOf es5 n5) :: U) ?_ ?_ ?_ ⟨?_, ?_, ?_⟩ (names2 rfl rfl)
    · intro q hq
      rw [List.mem_singleton.mp hq]; simp
    · intro q hq; simp [hq]
    · intro q hq
      rcases List.mem_cons.mp hq with rfl | hq
      · refine ⟨by simp, .inr fun q hq => ?_, ?_⟩
        · have := ltN (lt1 q hq)
          have l7 := ltN l6
          refine neN ?_
          try dsimp only
          omega
        · simp only [List.mem_cons, List.not_mem_nil, or_false]
          refine neN ?_
          try dsimp only
          omega
      · rcases List.mem_cons.mp hq with rfl | hq
        · refine ⟨by simp, .inr fun q hq => ?_, ?_⟩
          · exact Nat.ne_of_lt (ltN (lt1 q hq))
          · simp only [List.mem_cons, List.not_mem_nil, or_false]
            refine neN ?_
            try dsimp only
            omega
        · exact ⟨by simp [sub q hq], .inl hq, fun z => off q (sub q hq) _ z rfl⟩
    · have e := storeE_new ⟨x, Str.ofString "used", fo p.1, p.2⟩ hnk
      show od8.IsDictOf _ (kvOf _)
      rw [← e, ← kv_storeE]
      exact hd8
    · intro q hq
      rcases List.mem_append.mp hq with hq | hq
      · exact (hE q hq).mono fun r hr => by simp [hr]
      · rw [List.mem_singleton.mp hq]
        exact ⟨dx, es5, n5, a5, b5, c5, by simp, by simp, gw, g1, g2, gt⟩
    · show (es ++ _).map rowOf = _
      rw [List.map_append, hrow, List.take_add_one, hg7, List.map_append]
      rfl
  case done =>
    rintro ⟨od, es⟩ U h tk m ⟨hd2, hE, hrow⟩ ⟨u, rfl⟩ F6 N6 off
    dsimp only at hd2 hE hrow N6 ⊢
    simp only [List.cons_append, List.nil_append] at N6
    k_steps
    refine Back.intro F6 fun hE' => ret d ((d, od) :: U) es _ _ hE' (born_of kp (fun p hp => hp) N6 fun p hp q => nomatch q) ⟨⟨lo, od, List.mem_cons_self, hd2⟩, fun p hp => (hE p hp).mono fun q hq => List.mem_cons_of_mem _ hq⟩ ?_
    rw [hrow, hl, List.take_length]
end S_OUsed
section S_OPen
theorem reg33 : True := by
  k_with_none
  k_with "mm" => ((repeat' (first | (with_reducible exact List.mem_cons_self) | (with_reducible assumption) | (with_reducible refine List.mem_cons_of_mem _ ?_))); done)
  k_with "sub" => ((repeat' (first | (with_reducible exact sub_nil _) | (with_reducible refine sub_cons ?_ ?_) | (with_reducible exact List.mem_cons_self) | (with_reducible refine List.mem_cons_of_mem _ ?_) | (with_reducible assumption) | (intro p9 hp9))); done)
  k_with "v_sees" => first | exact Sees.keep (by assumption) (Fr.keep (by k_asm)) | exact Sees.sub (News.sees (by k_asm)) (fun _ h => by first | exact h | (refine List.mem_cons_of_mem _ ?_; exact h) | (refine List.mem_cons_of_mem _ (List.mem_cons_of_mem _ ?_); exact h))
  k_with "eval Name" => (k_here; (with_reducible show wpAny _ _ (eval (Expr.Name _ _) (compEnvC _ _ _ _)) _ _ _); k_dflt (first | (refine' nameB_L ?zqF ?zqv ?_ ?zqa ?zqb; (case zqF => k_asm); (case zqv => assumption); (case zqa => rfl); (case zqb => rfl)) | (refine' nameB_C ?zqF ?zqc ?zqo ?zqd ?_ ?zqa ?zqb; (case zqF => k_asm); (case zqa => rfl); (case zqb => rfl); (case zqc => rfl); (case zqo => assumption); (case zqd => assumption)) | (refine' nameB_G ?zqF ?zqX ?zqT ?zqe ?_ ?zqg ?zqa ?zqb; (case zqF => k_asm); (case zqX => k_asm); (case zqT => k_asm); (case zqg => rfl); (case zqa => rfl); (case zqb => rfl); (case zqe => k_is)) | (refine' nameB_B ?zqF ?zqX ?zqT ?zqe ?zqv ?zqn ?_ ?zqg ?zqh ?zqa ?zqb; (case zqF => k_asm); (case zqX => k_asm); (case zqT => k_asm); (case zqg => rfl); (case zqh => rfl); (case zqa => rfl); (case zqb => rfl); (case zqe => k_is); (case zqv => boot_fast); (case zqn => decide))))
  k_with "getAttr ref" => (k_here; (with_reducible show wpAny _ _ (getAttr (Value.ref _) (PySem.Str.ofString "way") _) _ _ _); k_dflt (refine' ent_way ?zqF ?zqX ?zqS ?zqx ?_; (case zqx => assumption); (case zqF => k_asm); (case zqX => k_asm); (case zqS => walk_at "v_sees")); intro _)
  k_with "getAttr ref" => (k_here; (with_reducible show wpAny _ _ (getAttr (Value.ref _) (PySem.Str.ofString "one") _) _ _ _); k_dflt (refine' ent_one ?zqF ?zqX ?zqS ?zqx ?_; (case zqx => assumption); (case zqF => k_asm); (case zqX => k_asm); (case zqS => walk_at "v_sees")); intro _)
  k_with "getAttr ref" => (k_here; (with_reducible show wpAny _ _ (getAttr (Value.ref _) (PySem.Str.ofString "two") _) _ _ _); k_dflt (refine' ent_two ?zqF ?zqX ?zqS ?zqx ?_; (case zqx => assumption); (case zqF => k_asm); (case zqX => k_asm); (case zqS => walk_at "v_sees")); intro _)
  k_with "getMethod ref" => (k_here; (with_reducible show wpAny _ _ (getMethod (Value.ref _) (PySem.Str.ofString "told") _) _ _ _); k_dflt (refine' ent_told ?zqF ?zqX ?zqS ?zqx ?_; (case zqx => assumption); (case zqF => k_asm); (case zqX => k_asm); (case zqS => walk_at "v_sees")))
  k_with "call builtin:sorted" => (k_here; (with_reducible show wpAny _ _ (call (Value.builtin _) [Value.ref _]) _ _ _); k_dflt (refine' sorted_edict ?zqhh ?zqS ?zqD ?zqF ?zqN ?zqz ?_; (case zqhh => first | assumption | exact Rm.hd_deeper (by assumption) _); (case zqD => assumption); (case zqF => k_asm); (case zqN => k_asm); (case zqS => walk_at "v_sees"); (case zqz => omega)); intro _ _ _ _ _ _ _ _ _ _ _ _; (try k_sweep))
  k_with "subscriptTail" => (k_here; (with_reducible show wpAny _ _ (subscriptTail _ _ (Value.ref _) (Value.int _ _)) _ _ _); k_dflt (refine' edict_item ?zqS ?zqD ?zqv ?_; (case zqD => assumption); (case zqv => assumption); (case zqS => walk_at "v_sees")))
  k_with "call ref" => (k_here; k_dflt (refine' told_use ?zqR ?zqX ?zqT ?zqF ?zqN ?zqS ?zqEn ?_; (case zqEn => assumption); (case zqR => first | exact Rm.less (by assumption) (by omega) (by omega) | exact Rm.deeper (Rm.less (by assumption) (by omega) (by omega)) _); (case zqX => k_asm); (case zqT => k_asm); (case zqF => k_asm); (case zqN => k_asm); (case zqS => walk_at "v_sees")); intro _ _ _ _ _ _ _ _ _; (try k_sweep))
  k_with "eval ListComp" => (k_here; k_dflt (refine' comp_raw ?zqcl ?zqce ?zqk ?zqn ?zqx ?_; (case zqcl => exact rfl); (case zqce => decide); (case zqk => rfl); (case zqn => decide); (case zqx => rfl)))
  k_with "exec For Name Call cons nil" => (k_here; k_dflt (refine for_raw (by rfl) (by rfl) ?_))
  k_with "exec For Name Name cons nil" => (k_here; k_dflt (refine for_raw (by rfl) (by rfl) ?_))
  k_with "call ref" => (k_here; k_dflt (refine' entry_use ?zqR ?zqX ?zqT ?zqF ?zqN ?_; (case zqR => exact Rm.deeper (Rm.less (by assumption) (by omega) (by omega)) _); (case zqX => k_asm); (case zqT => k_asm); (case zqF => k_asm); (case zqN => k_asm)); intro _ _ _ _ _ _ _ _ _ _ _ _ _ _ _ _ _; rename_i l1 l2 gw' g1' g2' gt'; (try k_lt l1); (try k_lt2 l2); (try k_sweep); revert l1 l2 gw' g1' g2' gt'; intro _ _ _ _ _ _)
  k_with "setItem ref int ref" => (k_here; k_dflt (refine' dict_set_K ?zqF ?zqN ?zqU ?zqhd ?zqhz ?_; (case zqF => k_asm); (case zqN => k_asm); (case zqU => k_updF); (case zqhd => assumption); (case zqhz => assumption)); intro _ _ _ _ _; rename_i N' hd'; (try dsimp only at N'); (try k_sweep); revert N' hd'; intro _ _)
  k_with "getMethod ref" => (k_here; (with_reducible show wpAny _ _ (getMethod (Value.ref _) (PySem.Str.ofString "get") _) _ _ _); k_dflt (refine' get_method ?zqS ?zqD ?_; (case zqD => first | assumption | exact EDict.dict (by assumption)); (case zqS => walk_at "v_sees")))
  k_with "call builtin:dict.get" => (k_here; (with_reducible show wpAny _ _ (call (Value.builtin _) [Value.ref _, Value.int _ _, Value.int _ _]) _ _ _); k_dflt (refine' get0_raw ?zqS ?zqD ?zqhg ?_; (case zqD => assumption); (case zqhg => assumption); (case zqS => walk_at "v_sees")); intro _)
  k_with "exec Assign cons ListComp" => (k_here; k_dflt (refine' comp_assign ?zqsw ?zqcl ?zqce ?zqk ?zqn ?zqx ?zqy ?zqp ?_; (case zqsw => rfl); (case zqcl => exact rfl); (case zqce => decide); (case zqk => rfl); (case zqn => decide); (case zqx => rfl); (case zqy => rfl); (case zqp => rfl)))
  k_with "compareOp NotIn int ref" => (k_here; k_dflt (refine' edict_notin ?zqS ?zqD ?_; (case zqD => assumption); (case zqS => walk_at "v_sees")))
  k_with "compareOp In int ref" => (k_here; k_dflt (refine' edict_in ?zqS ?zqD ?_; (case zqD => assumption); (case zqS => walk_at "v_sees")))
  k_with "unpackItems ref" => (k_here; k_dflt (refine' unpackItemsN_ ?zqk1 ?zqk2 ?zqk3 ?zqk4 ?zqk5 ?_; (case zqk1 => k_asm); (case zqk2 => k_asm); (case zqk3 => kun_tup); (case zqk4 => first | assumption | exact Rm.hd_deeper (by assumption) _); (case zqk5 => exact rfl); k_whole); intro _ _ _; (try k_sweep))
  k_with "assign Tuple" => (k_here; (with_reducible show wpAny _ _ (assign (Expr.Tuple _ _ _) _ (Value.ref _)) _ _ _); k_dflt (refine' unpackN_ ?zqk1 ?zqk2 ?zqk3 ?zqk4 ?zqk5 ?zqk6 ?_; (case zqk1 => k_asm); (case zqk2 => k_asm); (case zqk3 => first | kun_tup | exact tup_sees (by assumption) (by walk_at "v_sees")); (case zqk4 => first | assumption | exact Rm.hd_deeper (by assumption) _); (case zqk5 => exact rfl); (case zqk6 => exact rfl); k_whole); intro _ _ _; (try k_sweep))
  trivial
theorem pen_spec {w : World} {A : Around} {E : Value → Shared → Prop} {s : Shared} {Q : Value → Shared → Prop} {b : Heap} {sl : Addr} {vs : List Value} {ns : List Int}
    (R : Rm A 2 40) (G : Gd w b) (S : b.StaysIn s.heap) (hl : s.heap.IsList sl vs.toArray) (hi : IntsAre vs ns) (hz : ns.length ≤ 63)
    (ret : ∀ (pen cells : Addr) (o1 o2 : Obj) (h' : Heap) (tk : Nat), Ext [] s.heap h' → Born s.heap h' [(pen, o1), (cells, o2)] → pen ≠ cells → PenO cells o1 o2 → Q (.ref pen) { s with heap := h', toks := tk }) :
    wpAny (model PR w) A (call (.ref 137) [.ref sl]) Q E s := by
  obtain ⟨X, l, mg, mb, T⟩ := G
  refine call_fn (R.less (by omega) (by omega)) X T.nolimit S [] (fun p hp => nomatch hp) (by k_is) (by k_is) (BindsTo.of_eq rfl) (locs rfl) (fun g L h₁ st kp F N => ?_) (by decide)
  have X := X.keeps st
  have T := T.keeps st
  have hlg : g.IsList sl vs.toArray := hl.at fun o e => kp _ _ e (by first | walk_at "mm" | simp)
  have hlv := hi.length
  k_steps
  rename_i r1 ws h1 F1 N1 hi1 hc1 _ _
  have h1r := N1 _ List.mem_cons_self
  have hlw := hi1.length
  refine list_comp (σ := Unit) (vs := ws) (fun _ => []) [] (fun V _ i ys => ∃ zs : List Int, IntsAre ys zs ∧ zs.length ≤ i ∧ ∀ x ∈ zs, 0 ≤ x) () R.hd ⟨_, h1r.1, rfl, ⟨_, rfl⟩⟩ (fun q => nomatch q) (by omega) (fun _ => rfl) (fun p hp => nomatch hp) (fun V U c i ys h sub => h) (fun V c i ys ⟨zs, h, h2, _⟩ => by have := h.length; omega) ⟨[], .nil, Nat.le_refl _, fun x hx => nomatch hx⟩ ?turn ?done
  case turn =>
    rintro c i v ys U tl s' C' h tk m g' rfl hC kp' hv ⟨zs, hz1, hz2, hz3⟩ sub off hx F2 N2
    have st' : g.StaysIn g' := fun a o e => kp' a o (F1.keep a o e) (fun q => nomatch q) fun q => by subst q; rw [h1r.2.2] at e; cases e
    have X := X.keeps st'
    have T := T.keeps st'
    obtain ⟨k, t, hk, rfl⟩ := IntsAre.at hi1 hv
    simp only [List.nil_append] at N2
    refine wpAny_tests_nil ?_
    simp only [if_true]
    k_steps
    refine CTurnEnd.intro F2 N2 () [] (fun p hp => nomatch hp) (fun p hp => hp) (fun p hp => nomatch hp) ⟨zs ++ [_], hz1.append (.cons _ _ .nil), by simp; omega, fun x hx => ?_⟩
    rcases List.mem_append.mp hx with hx | hx
    · exact hz3 x hx
    · rw [List.mem_singleton.mp hx]
      by_cases q : k < 0
      · rw [if_pos q, decide_eq_true q, if_pos rfl]; omega
      · rw [if_neg q, decide_eq_false q, if_neg (by decide)]; omega
  case done =>
    rintro c U C' D' ys h tk s₂ ⟨zs, hz1, hz2, hz3⟩ hE' _ hB hC hCD hVC ⟨o, rfl⟩
    intro h' sb
    obtain ⟨e1, b1⟩ := comp_close hE' hB hC sb (fun p hp => by
      rcases List.mem_cons.mp hp with rfl | hp
      · exact hCD.symm
      · exact hVC p hp)
    have F2 := Fr.keeps F1 e1.keep
    obtain ⟨N2, nD⟩ := news_two (o := W.listOf ys.toArray ys.length) F1 N1 e1.keep (b1 _ List.mem_cons_self).2 (b1 _ List.mem_cons_self).1
    dsimp only at N2
    simp only [List.mem_cons, List.not_mem_nil, or_false, forall_eq_or_imp, forall_eq] at nD
    clear F1 N1 hE' hB
    k_steps
    rename_i l3 h3 F3 N3 l4
    obtain ⟨t1, t2, n1, N3⟩ : ∃ t1 t2 n1, News g L h3 [(l3, W.listOf #[.ref D', .int 0 t1, .int 0 t2] n1), (D', W.listOf ys.toArray ys.length), (r1, W.listOf ws.toArray 0)] := ⟨_, _, _, N3⟩
    refine Back.intro F3 fun hE2 => ret l3 D' (W.listOf #[.ref D', .int 0 t1, .int 0 t2] n1) (W.listOf ys.toArray ys.length) _ _ hE2 (born_of kp (fun p hp => ?_) N3 fun p hp q => nomatch q) (Nat.ne_of_gt (ltN l4.1)) ⟨n1, _, ys, zs, 0, 0, t1, t2, rfl, rfl, hz1, Int.le_refl 0, hz3, by omega⟩
    simp only [List.mem_cons, List.not_mem_nil, or_false] at hp
    rcases hp with rfl | rfl <;> simp
end S_OPen
section S_OLawB
theorem reg34 : True := by
  k_with_none
  k_with "mm" => ((repeat' (first | (with_reducible exact List.mem_cons_self) | (with_reducible assumption) | (with_reducible refine List.mem_cons_of_mem _ ?_))); done)
  k_with "sub" => ((repeat' (first | (with_reducible exact sub_nil _) | (with_reducible refine sub_cons ?_ ?_) | (with_reducible exact List.mem_cons_self) | (with_reducible refine List.mem_cons_of_mem _ ?_) | (with_reducible assumption) | (intro p9 hp9))); done)
  trivial
def bodyOf (x : Option Obj) : List Stmt := match x with
  | some o => (match o.data with
    | .func fd => (match fd.body with
      | .stmts b => b
      | _ => [])
    | _ => [])
  | none => []
def scopeOf (x : Option Obj) : Option Scope := match x with
  | some o => (match o.data with
    | .func fd => some fd.scope
    | _ => none)
  | none => none
/-- the statements of law, and its scope, as the written part has them -/
noncomputable def lawBody (w : World) : List Stmt := bodyOf ((hd.heap_1 w.params).lookup 175)
def IsScope (w : World) (sc : Scope) : Prop := scopeOf ((hd.heap_1 w.params).lookup 175) = some sc
theorem stage_open {w : World} {sc : Scope} {P : List Stmt → Scope → Prop} {name qual : Str} {params : Arguments} {body : List Stmt} {scope : Scope} {dV kV doc pm cdv ct oc : Value} {an od : Option Addr} {osl : Array (Option Value)} (hs : IsScope w sc)
    (ho : (hd.heap_1 w.params).lookup 175 = some ⟨oc, od, .func (fnOf name qual params body scope dV kV doc pm an cdv ct), osl⟩) (h : P body scope) : P (lawBody w) sc := by
  unfold IsScope at hs
  unfold lawBody
  rw [ho] at hs ⊢
  have e : scope = sc := Option.some.inj hs
  subst e
  exact h
/-- the seven cells, L + 7 to L + 1 -/
structure C7 where
  chain : Obj
  gens : Obj
  numbers : Obj
  spot : Obj
  found : Obj
  entries : Obj
  pen : Obj
abbrev C7.led (c : C7) (L : Addr) (r : Led) : Led := (L + 1 + 1 + 1 + 1 + 1 + 1 + 1, c.chain) :: (L + 1 + 1 + 1 + 1 + 1 + 1, c.gens) :: (L + 1 + 1 + 1 + 1 + 1, c.numbers) :: (L + 1 + 1 + 1 + 1, c.spot) :: (L + 1 + 1 + 1, c.found) :: (L + 1 + 1, c.entries) :: (L + 1, c.pen) :: r
/-- what the seven cells hold -/
structure C7.Holds (c : C7) (chain gens numbers spot found entries pen : Option Value) : Prop where
  chain : c.chain.data = .cell chain
  gens : c.gens.data = .cell gens
  numbers : c.numbers.data = .cell numbers
  spot : c.spot.data = .cell spot
  found : c.found.data = .cell found
  entries : c.entries.data = .cell entries
  pen : c.pen.data = .cell pen
abbrev adr9 (L pen cells : Addr) : List Addr := [L + 1 + 1 + 1 + 1 + 1 + 1 + 1, L + 1 + 1 + 1 + 1 + 1 + 1, L + 1 + 1 + 1 + 1 + 1, L + 1 + 1 + 1 + 1, L + 1 + 1 + 1, L + 1 + 1, L + 1, pen, cells]
theorem absorb {g h : Heap} {L pen cells : Addr} {m : Str → Option Value} {led : Led} {c : C7} {o1 o2 : Obj} (F : Fr g L h m) (N : News g L h led) (hk : ∀ p ∈ c.led L [(pen, o1), (cells, o2)], p ∈ led) :
    ∃ tl, News g L h (c.led L ((pen, o1) :: (cells, o2) :: tl)) ∧ OwnOff tl (adr9 L pen cells) ∧ ∀ p ∈ led, p.1 ∉ adr9 L pen cells → p ∈ tl := by
  have N9 : News g L h (c.led L [(pen, o1), (cells, o2)]) := fun p hp => N p (hk p hp)
  obtain ⟨tl, N2, T⟩ := tail_of F N9
  exact ⟨tl, N2, T.off, fun p hp hn => T.cov p.1 p.2 (N p hp).1 hn (N p hp).2.1 (N p hp).2.2⟩
/-- behind a call that may have drawn -/
inductive Stepped (g h' : Heap) (L pen cells : Addr) (m : Str → Option Value) (c : C7) (o1 o2 : Obj) (nl led : Led) : Prop
  | mk (F : Fr g L h' m) (tl' : Led) (N : News g L h' (c.led L ((pen, o1) :: (cells, o2) :: tl'))) (off : OwnOff tl' (adr9 L pen cells)) (s1 : ∀ p ∈ nl, p ∈ tl') (s2 : ∀ p ∈ led, p.1 ∉ adr9 L pen cells → p ∈ tl') : Stepped g h' L pen cells m c o1 o2 nl led
inductive Stilled (g h' : Heap) (L pen cells : Addr) (m : Str → Option Value) (c : C7) (o1 o2 : Obj) (nl tl : Led) : Prop
  | mk (F : Fr g L h' m) (tl' : Led) (N : News g L h' (c.led L ((pen, o1) :: (cells, o2) :: tl'))) (off : OwnOff tl' (adr9 L pen cells)) (s1 : ∀ p ∈ nl, p ∈ tl') (s2 : ∀ p ∈ tl, p ∈ tl') : Stilled g h' L pen cells m c o1 o2 nl tl
inductive Absorbed (g h' : Heap) (L pen cells : Addr) (c : C7) (o1 o2 : Obj) (nl tl : Led) : Prop
  | mk (tl' : Led) (N : News g L h' (c.led L ((pen, o1) :: (cells, o2) :: tl'))) (off : OwnOff tl' (adr9 L pen cells)) (s1 : ∀ p ∈ nl, p ∈ tl') (s2 : ∀ p ∈ tl, p ∈ tl') : Absorbed g h' L pen cells c o1 o2 nl tl
inductive SteppedA (g h' : Heap) (L pen cells : Addr) (c : C7) (o1 o2 : Obj) (nl led : Led) : Prop
  | mk (tl' : Led) (N : News g L h' (c.led L ((pen, o1) :: (cells, o2) :: tl'))) (off : OwnOff tl' (adr9 L pen cells)) (s1 : ∀ p ∈ nl, p ∈ tl') (s2 : ∀ p ∈ led, p.1 ∉ adr9 L pen cells → p ∈ tl') : SteppedA g h' L pen cells c o1 o2 nl led
theorem call_step {g h h' : Heap} {L pen cells : Addr} {m : Str → Option Value} {led nl : Led} {c : C7} {o1 o2 o1' o2' : Obj} {W : List Addr} (F : Fr g L h m) (N : News g L h led) (hk : ∀ p ∈ c.led L [(pen, o1), (cells, o2)], p ∈ led) (e : Ext W h h') (hW : ∀ a ∈ W, a = pen ∨ a = cells) (B : Born h h' nl)
    (hp : h'.get? pen = some o1') (hc : h'.get? cells = some o2') (hne : pen ≠ L + 1 ∧ pen ≠ L + 1 + 1 ∧ pen ≠ L + 1 + 1 + 1 ∧ pen ≠ L + 1 + 1 + 1 + 1 ∧ pen ≠ L + 1 + 1 + 1 + 1 + 1 ∧ pen ≠ L + 1 + 1 + 1 + 1 + 1 + 1 ∧ pen ≠ L + 1 + 1 + 1 + 1 + 1 + 1 + 1)
    (hne2 : cells ≠ L + 1 ∧ cells ≠ L + 1 + 1 ∧ cells ≠ L + 1 + 1 + 1 ∧ cells ≠ L + 1 + 1 + 1 + 1 ∧ cells ≠ L + 1 + 1 + 1 + 1 + 1 ∧ cells ≠ L + 1 + 1 + 1 + 1 + 1 + 1 ∧ cells ≠ L + 1 + 1 + 1 + 1 + 1 + 1 + 1) :
    Stepped g h' L pen cells m c o1' o2' nl led := by
  have np := N (pen, o1) (hk _ (by first | walk_at "mm" | simp))
  have nc := N (cells, o2) (hk _ (by first | walk_at "mm" | simp))
  have offW : ∀ a ∈ W, a ≠ L ∧ g.get? a = none := fun a ha => by
    rcases hW a ha with rfl | rfl
    · exact np.2
    · exact nc.2
  have F' : Fr g L h' m := Fr.ext F e (fun q => (offW L q).1 rfl) fun a ha => (offW a ha).2
  have keep7 : ∀ p ∈ led, p.1 ≠ pen → p.1 ≠ cells → h'.get? p.1 = some p.2 := fun p hp' h1 h2 => e _ _ (N p hp').1 fun q => (hW _ q).elim h1 h2
  obtain ⟨n1, n2, n3, n4, n5, n6, n7⟩ := hne
  obtain ⟨k1, k2, k3, k4, k5, k6, k7⟩ := hne2
  have N9 : News g L h' (c.led L [(pen, o1'), (cells, o2')]) := by
    intro p hp'
    simp only [List.mem_cons, List.not_mem_nil, or_false] at hp'
    rcases hp' with rfl | rfl | rfl | rfl | rfl | rfl | rfl | rfl | rfl
    · have z := hk (L + 1 + 1 + 1 + 1 + 1 + 1 + 1, c.chain) (by first | walk_at "mm" | simp)
      exact ⟨keep7 _ z n7.symm k7.symm, (N _ z).2⟩
    · have z := hk (L + 1 + 1 + 1 + 1 + 1 + 1, c.gens) (by first | walk_at "mm" | simp)
      exact ⟨keep7 _ z n6.symm k6.symm, (N _ z).2⟩
    · have z := hk (L + 1 + 1 + 1 + 1 + 1, c.numbers) (by first | walk_at "mm" | simp)
      exact ⟨keep7 _ z n5.symm k5.symm, (N _ z).2⟩
    · have z := hk (L + 1 + 1 + 1 + 1, c.spot) (by first | walk_at "mm" | simp)
      exact ⟨keep7 _ z n4.symm k4.symm, (N _ z).2⟩
    · have z := hk (L + 1 + 1 + 1, c.found) (by first | walk_at "mm" | simp)
      exact ⟨keep7 _ z n3.symm k3.symm, (N _ z).2⟩
    · have z := hk (L + 1 + 1, c.entries) (by first | walk_at "mm" | simp)
      exact ⟨keep7 _ z n2.symm k2.symm, (N _ z).2⟩
    · have z := hk (L + 1, c.pen) (by first | walk_at "mm" | simp)
      exact ⟨keep7 _ z n1.symm k1.symm, (N _ z).2⟩
    · exact ⟨hp, np.2⟩
    · exact ⟨hc, nc.2⟩
  obtain ⟨tl, N2, T⟩ := tail_of F' N9
  refine ⟨F', tl, N2, T.off, fun p hp' => ?_, fun p hp' hn => ?_⟩
  · have b := B p hp'
    have bn : ∀ q ∈ led, q.1 ≠ p.1 := fun q hq => New.ne b.2 (N q hq).1
    refine T.cov p.1 p.2 b.1 (fun q => ?_) ?_ (none_of' F b.2)
    · have : ∀ q ∈ c.led L [(pen, o1), (cells, o2)], q.1 ≠ p.1 := fun q hq => bn q (hk q hq)
      simp only [List.mem_cons, List.not_mem_nil, or_false, forall_eq_or_imp, forall_eq] at this
      simp only [List.map, List.mem_cons, List.not_mem_nil, or_false] at q
      obtain ⟨t1, t2, t3, t4, t5, t6, t7, t8, t9⟩ := this
      rcases q with q | q | q | q | q | q | q | q | q
      · exact t1 q.symm
      · exact t2 q.symm
      · exact t3 q.symm
      · exact t4 q.symm
      · exact t5 q.symm
      · exact t6 q.symm
      · exact t7 q.symm
      · exact t8 q.symm
      · exact t9 q.symm
    · obtain ⟨o, _, _, eL, _⟩ := F.ns
      exact (New.ne b.2 eL).symm
  · refine T.cov p.1 p.2 (keep7 p hp' (fun q => hn ?_) (fun q => hn ?_)) hn (N p hp').2.1 (N p hp').2.2
    · rw [q]; simp
    · rw [q]; simp
/-- pen and its cells stand apart from the seven -/
structure Apart (L pen cells : Addr) : Prop where
  pc : pen ≠ cells
  p : pen ≠ L + 1 ∧ pen ≠ L + 1 + 1 ∧ pen ≠ L + 1 + 1 + 1 ∧ pen ≠ L + 1 + 1 + 1 + 1 ∧ pen ≠ L + 1 + 1 + 1 + 1 + 1 ∧ pen ≠ L + 1 + 1 + 1 + 1 + 1 + 1 ∧ pen ≠ L + 1 + 1 + 1 + 1 + 1 + 1 + 1
  c : cells ≠ L + 1 ∧ cells ≠ L + 1 + 1 ∧ cells ≠ L + 1 + 1 + 1 ∧ cells ≠ L + 1 + 1 + 1 + 1 ∧ cells ≠ L + 1 + 1 + 1 + 1 + 1 ∧ cells ≠ L + 1 + 1 + 1 + 1 + 1 + 1 ∧ cells ≠ L + 1 + 1 + 1 + 1 + 1 + 1 + 1
inductive ApP (L pen cells : Addr) : Prop
  | mk (w0 : @Ne Nat pen cells) (w1 : @Ne Nat pen (L + 1)) (w2 : @Ne Nat pen (L + 1 + 1)) (w3 : @Ne Nat pen (L + 1 + 1 + 1)) (w4 : @Ne Nat pen (L + 1 + 1 + 1 + 1)) (w5 : @Ne Nat pen (L + 1 + 1 + 1 + 1 + 1)) (w6 : @Ne Nat pen (L + 1 + 1 + 1 + 1 + 1 + 1)) (w7 : @Ne Nat pen (L + 1 + 1 + 1 + 1 + 1 + 1 + 1)) : ApP L pen cells
inductive ApQ (L cells : Addr) : Prop
  | mk (v1 : @Ne Nat cells (L + 1)) (v2 : @Ne Nat cells (L + 1 + 1)) (v3 : @Ne Nat cells (L + 1 + 1 + 1)) (v4 : @Ne Nat cells (L + 1 + 1 + 1 + 1)) (v5 : @Ne Nat cells (L + 1 + 1 + 1 + 1 + 1)) (v6 : @Ne Nat cells (L + 1 + 1 + 1 + 1 + 1 + 1)) (v7 : @Ne Nat cells (L + 1 + 1 + 1 + 1 + 1 + 1 + 1)) : ApQ L cells
inductive ApN (L pen cells : Addr) : Prop
  | mk (p : ApP L pen cells) (q : ApQ L cells) : ApN L pen cells
theorem Apart.nat {L pen cells : Addr} (x : Apart L pen cells) : ApN L pen cells :=
  let ⟨a1, a2, a3, a4, a5, a6, a7⟩ := x.p
  let ⟨b1, b2, b3, b4, b5, b6, b7⟩ := x.c
  ⟨⟨x.pc, a1, a2, a3, a4, a5, a6, a7⟩, ⟨b1, b2, b3, b4, b5, b6, b7⟩⟩
theorem off_not {tl : Led} {adr : List Addr} (off : OwnOff tl adr) {p : Addr × Obj} (hp : p ∈ tl) : p.1 ∉ adr := fun q => off p hp _ q rfl
/-- behind a call that changes nothing -/
theorem call_still {g h h' : Heap} {L pen cells : Addr} {m : Str → Option Value} {led nl tl : Led} {c : C7} {o1 o2 : Obj} (AP : Apart L pen cells) (F : Fr g L h m) (N : News g L h led) (hk : ∀ p ∈ c.led L [(pen, o1), (cells, o2)], p ∈ led) (ht : ∀ p ∈ tl, p ∈ led) (off : OwnOff tl (adr9 L pen cells)) (e : Ext [] h h') (B : Born h h' nl) :
    Stilled g h' L pen cells m c o1 o2 nl tl := by
  obtain ⟨F', tl', N', off', s1, s2⟩ := call_step F N hk e (fun a ha => nomatch ha) B (e.keep _ _ (N (pen, o1) (hk _ (by first | walk_at "mm" | simp))).1) (e.keep _ _ (N (cells, o2) (hk _ (by first | walk_at "mm" | simp))).1) AP.p AP.c
  exact ⟨F', tl', N', off', s1, fun p hp => s2 p (ht p hp) (off_not off hp)⟩
theorem nam1 {m : Str → Option Value} {a : Str} {x : Option Value} (h1 : m a = x) : ∃ u : Str → Option Value, m = fun z => if z = a then x else u z := by
  refine ⟨m, funext fun z => ?_⟩
  by_cases q1 : z = a
  · rw [if_pos q1, q1, h1]
  · rw [if_neg q1]
theorem born_two {g h h' : Heap} {L : Addr} {m : Str → Option Value} {led nl : Led} (F : Fr g L h m) (N : News g L h led) (e : Ext [] h h') (B : Born h h' nl) : Fr g L h' m ∧ News g L h' (nl ++ led) ∧ ∀ p ∈ led, ∀ q ∈ nl, p.1 ≠ q.1 :=
  ⟨Fr.keeps F e.keep, news_app F N e.keep B, fun p hp q hq => New.ne (B q hq).2 (N p hp).1⟩
theorem stage_cut {w : World} {sc : Scope} {X : List Stmt → Scope → Prop} {n k : Nat} {name qual : Str} {params : Arguments} {body : List Stmt} {scope : Scope} {dV kV doc pm cdv ct oc : Value} {an od : Option Addr} {osl : Array (Option Value)} (hs : IsScope w sc)
    (ho : (hd.heap_1 w.params).lookup 175 = some ⟨oc, od, .func (fnOf name qual params body scope dV kV doc pm an cdv ct), osl⟩) (h : X ((body.drop n).take k ++ (lawBody w).drop (n + k)) scope) : X ((lawBody w).drop n) sc := by
  have e : (lawBody w).drop n = ((lawBody w).drop n).take k ++ (lawBody w).drop (n + k) := by
    conv => lhs; rw [← List.take_append_drop k ((lawBody w).drop n)]
    rw [List.drop_drop]
  rw [e]
  refine stage_open (P := fun bd sc => X ((bd.drop n).take k ++ (lawBody w).drop (n + k)) sc) hs ho h
structure Core (g : Heap) (L : Addr) (s : Shared) (c : C7) (pen cells : Addr) (o1 o2 : Obj) (tl : Led) (m : Str → Option Value) : Prop where
  F : Fr g L s.heap m
  N : News g L s.heap (c.led L ((pen, o1) :: (cells, o2) :: tl))
  off : OwnOff tl (adr9 L pen cells)
  ap : Apart L pen cells
  P : PenO cells o1 o2
theorem fr2 {g h : Heap} {L : Addr} {m : Str → Option Value} {a b : Str} {x y : Option Value} (F : Fr g L h m) (h1 : m a = x) (h2 : m b = y) : ∃ u : Str → Option Value, Fr g L h (fun z => if z = a then x else if z = b then y else u z) := by
  obtain ⟨u, e⟩ := names2 h1 h2
  exact ⟨u, e ▸ F⟩
theorem fr3 {g h : Heap} {L : Addr} {m : Str → Option Value} {a b c : Str} {x y z : Option Value} (F : Fr g L h m) (h1 : m a = x) (h2 : m b = y) (h3 : m c = z) : ∃ u : Str → Option Value, Fr g L h (fun v => if v = a then x else if v = b then y else if v = c then z else u v) := by
  obtain ⟨u, e⟩ := names3 h1 h2 h3
  exact ⟨u, e ▸ F⟩
theorem fr1 {g h : Heap} {L : Addr} {m : Str → Option Value} {a : Str} {x : Option Value} (F : Fr g L h m) (h1 : m a = x) : ∃ u : Str → Option Value, Fr g L h (fun z => if z = a then x else u z) := by
  obtain ⟨u, e⟩ := nam1 h1
  exact ⟨u, e ▸ F⟩
/-- the ledger's new ones go into the tail -/
theorem absorb2 {g h : Heap} {L pen cells : Addr} {m : Str → Option Value} {led nl tl : Led} {c : C7} {o1 o2 : Obj} (F : Fr g L h m) (N : News g L h led) (hk : ∀ p ∈ c.led L [(pen, o1), (cells, o2)], p ∈ led) (ht : ∀ p ∈ tl, p ∈ led) (off : OwnOff tl (adr9 L pen cells)) (hn : ∀ p ∈ nl, p ∈ led ∧ p.1 ∉ adr9 L pen cells) :
    Absorbed g h L pen cells c o1 o2 nl tl := by
  obtain ⟨tl', N', off', s⟩ := absorb F N hk
  exact ⟨tl', N', off', fun p hp => s p (hn p hp).1 (hn p hp).2, fun p hp => s p (ht p hp) (off_not off hp)⟩
theorem not9 {L pen cells a : Addr} (h : a ≠ L + 1 + 1 + 1 + 1 + 1 + 1 + 1 ∧ a ≠ L + 1 + 1 + 1 + 1 + 1 + 1 ∧ a ≠ L + 1 + 1 + 1 + 1 + 1 ∧ a ≠ L + 1 + 1 + 1 + 1 ∧ a ≠ L + 1 + 1 + 1 ∧ a ≠ L + 1 + 1 ∧ a ≠ L + 1 ∧ a ≠ pen ∧ a ≠ cells) : a ∉ adr9 L pen cells := by
  obtain ⟨h1, h2, h3, h4, h5, h6, h7, h8, h9⟩ := h
  simp only [List.mem_cons, List.not_mem_nil, or_false]
  rintro (q | q | q | q | q | q | q | q | q)
  · exact h1 q
  · exact h2 q
  · exact h3 q
  · exact h4 q
  · exact h5 q
  · exact h6 q
  · exact h7 q
  · exact h8 q
  · exact h9 q
/-- an object newer than the ledger stands off the nine -/
theorem not9_lt {L pen cells a : Addr} {c : C7} {o1 o2 : Obj} {led : Led} (l : ∀ p ∈ led, p.1 < a) (hk : ∀ p ∈ c.led L [(pen, o1), (cells, o2)], p ∈ led) : a ∉ adr9 L pen cells := by
  have q : ∀ p ∈ c.led L [(pen, o1), (cells, o2)], a ≠ p.1 := fun p hp => (Nat.ne_of_lt (l p (hk p hp))).symm
  simp only [List.mem_cons, List.not_mem_nil, or_false, forall_eq_or_imp, forall_eq] at q
  exact not9 q
theorem not9_ne {L pen cells a : Addr} {c : C7} {o1 o2 : Obj} {led : Led} (l : ∀ p ∈ led, p.1 ≠ a) (hk : ∀ p ∈ c.led L [(pen, o1), (cells, o2)], p ∈ led) : a ∉ adr9 L pen cells := by
  have q : ∀ p ∈ c.led L [(pen, o1), (cells, o2)], a ≠ p.1 := fun p hp => (l p (hk p hp)).symm
  simp only [List.mem_cons, List.not_mem_nil, or_false, forall_eq_or_imp, forall_eq] at q
  exact not9 q
theorem fr4 {g h : Heap} {L : Addr} {m : Str → Option Value} {a b c d : Str} {x y z v : Option Value} (F : Fr g L h m) (h1 : m a = x) (h2 : m b = y) (h3 : m c = z) (h4 : m d = v) : ∃ u : Str → Option Value, Fr g L h (fun q => if q = a then x else if q = b then y else if q = c then z else if q = d then v else u q) := by
  obtain ⟨u, e⟩ := fr3 F h1 h2 h3
  obtain ⟨u', e'⟩ := nam1 (m := m) h4
  have F' : Fr g L h (fun q => if q = a then x else if q = b then y else if q = c then z else if q = d then v else m q) := by
    have : (fun q => if q = a then x else if q = b then y else if q = c then z else if q = d then v else m q) = m := by
      funext q
      by_cases q1 : q = a
      · rw [if_pos q1, q1, h1]
      · by_cases q2 : q = b
        · rw [if_neg q1, if_pos q2, q2, h2]
        · by_cases q3 : q = c
          · rw [if_neg q1, if_neg q2, if_pos q3, q3, h3]
          · by_cases q4 : q = d
            · rw [if_neg q1, if_neg q2, if_neg q3, if_pos q4, q4, h4]
            · rw [if_neg q1, if_neg q2, if_neg q3, if_neg q4]
    rw [this]
    exact F
  exact ⟨m, F'⟩
end S_OLawB
section S_OLawS
theorem reg35 : True := by
  k_with_none
  k_with "mm" => ((repeat' (first | (with_reducible exact List.mem_cons_self) | (with_reducible assumption) | (with_reducible refine List.mem_cons_of_mem _ ?_))); done)
  k_with "sub" => ((repeat' (first | (with_reducible exact sub_nil _) | (with_reducible refine sub_cons ?_ ?_) | (with_reducible exact List.mem_cons_self) | (with_reducible refine List.mem_cons_of_mem _ ?_) | (with_reducible assumption) | (intro p9 hp9))); done)
  trivial
/-- what is known of entries, found and before -/
structure Ents (w : World) (tl : Led) (de df rb : Addr) (es ch : List (Int × Ent)) (top : Int) (ks : List Int) (ysb : List Value) (nb : Nat) : Prop where
  D : EDict w tl de es
  hz : es.length ≤ 8
  hk : ∀ p ∈ es, 1 ≤ p.1 ∧ p.1 ≤ 14 ∧ (p.2.way = Str.ofString "used" ∨ p.2.way = Str.ofString "packed")
  t1 : 1 ≤ top
  t2 : top ≤ 16
  Df : EDict w tl df (ch ++ es)
  hch : ch.map rowOf = chainRows (fun _ => 0) (0 :: lackL top es)
  hrb : (rb, W.listOf (List.toArray ysb) nb) ∈ tl
  hDb : DatAll tl ysb (ks.map (toldD es))
  hks : ks.Perm (es.map (·.1))
  hso : ks.Pairwise (· ≤ ·)
theorem Ents.mono {w : World} {tl tl' : Led} {de df rb : Addr} {es ch : List (Int × Ent)} {top : Int} {ks : List Int} {ysb : List Value} {nb : Nat} (x : Ents w tl de df rb es ch top ks ysb nb) (s : ∀ p ∈ tl, p ∈ tl') : Ents w tl' de df rb es ch top ks ysb nb :=
  ⟨x.D.mono s, x.hz, x.hk, x.t1, x.t2, x.Df.mono s, x.hch, s _ x.hrb, x.hDb.mono s, x.hks, x.hso⟩
inductive St4 (w : World) (g : Heap) (L : Addr) (s : Shared) : Prop
  | mk (c : C7) (pen cells : Addr) (o1 o2 : Obj) (tl : Led) (u : Str → Option Value) (de df rb : Addr) (es ch : List (Int × Ent)) (top : Int) (tt : Tok) (ks : List Int) (ysb : List Value) (nb : Nat) (x0 : Core g L s c pen cells o1 o2 tl (fun z => if z = Str.ofString "before" then some (.ref rb) else if z = Str.ofString "top" then some (.int top tt) else u z)) (x1 : c.Holds none none none none (some (.ref df)) (some (.ref de)) (some (.ref pen))) (x2 : Ents w tl de df rb es ch top ks ysb nb) : St4 w g L s
end S_OLawS
section S_OPlain
theorem reg36 : True := by
  k_with_none
  k_with "mm" => ((repeat' (first | (with_reducible exact List.mem_cons_self) | (with_reducible assumption) | (with_reducible refine List.mem_cons_of_mem _ ?_))); done)
  k_with "sub" => ((repeat' (first | (with_reducible exact sub_nil _) | (with_reducible refine sub_cons ?_ ?_) | (with_reducible exact List.mem_cons_self) | (with_reducible refine List.mem_cons_of_mem _ ?_) | (with_reducible assumption) | (intro p9 hp9))); done)
  trivial
theorem chainRows_keys (f : Int → Int) (line : List Int) : (chainRows f line).map (·.1) = line := by
  unfold chainRows
  rw [List.map_map]
  refine List.ext_getElem (by simp) fun i h1 h2 => ?_
  simp only [List.getElem_map, List.getElem_range, Function.comp, chainRow]
  rw [List.getElem?_eq_getElem h2]
  rfl
theorem chained_of {f : Int → Int} {ch es : List (Int × Ent)} {line : List Int} (hch : ch.map rowOf = chainRows f (0 :: line)) (hn : ((ch ++ es).map (·.1)).Nodup) (hp : ∀ k ∈ line, 1 ≤ k) (hw : ∀ p ∈ es, p.2.way ≠ Str.ofString "free") : Chained f (ch ++ es) line := by
  have hk : ch.map (·.1) = 0 :: line := by rw [rowOf_keys hch, chainRows_keys]
  have hl : ch.length = line.length + 1 := by have := congrArg List.length hk; simpa using this
  refine ⟨?_, hp, fun i hi => ?_, fun k e he hw' => ?_⟩
  · rw [List.map_append, hk] at hn
    exact (List.nodup_append.mp hn).1
  · have hi' : i < ch.length := by omega
    have hr : rowOf ch[i] = chainRow f (0 :: line) i := by
      have h1 : (ch.map rowOf)[i]? = (chainRows f (0 :: line))[i]? := by rw [hch]
      unfold chainRows at h1
      rw [List.getElem?_map, List.getElem?_eq_getElem hi', List.getElem?_map, List.getElem?_eq_getElem (by simp; omega)] at h1
      simp only [Option.map_some, List.getElem_range] at h1
      exact Option.some.inj h1
    simp only [rowOf, chainRow, Prod.mk.injEq] at hr
    obtain ⟨r1, r2, r3, r4⟩ := hr
    refine ⟨ch[i].2, ?_, r2, r3, r4⟩
    rw [← r1]
    exact getE_of_mem hn (List.mem_append_left _ (List.getElem_mem hi'))
  · rcases List.mem_append.mp (getE_mem he) with h | h
    · rw [← hk]
      exact List.mem_map_of_mem h
    · exact absurd hw' (hw _ h)
theorem Ents.chained {w : World} {tl : Led} {de df rb : Addr} {es ch : List (Int × Ent)} {top : Int} {ks : List Int} {ysb : List Value} {nb : Nat} (x : Ents w tl de df rb es ch top ks ysb nb) : Chained (fun _ => 0) (ch ++ es) (lackL top es) :=
  chained_of x.hch x.Df.nodup (fun k hk => (lackL_pos hk).1) fun p hp q => by
    rcases (x.hk p hp).2.2 with h | h
    · rw [h] at q; exact absurd q (by decide)
    · rw [h] at q; exact absurd q (by decide)
theorem Ents.lens {w : World} {tl : Led} {de df rb : Addr} {es ch : List (Int × Ent)} {top : Int} {ks : List Int} {ysb : List Value} {nb : Nat} (x : Ents w tl de df rb es ch top ks ysb nb) : (lackL top es).length ≤ 15 ∧ ch.length = (lackL top es).length + 1 ∧ (ch ++ es).length ≤ 24 := by
  have h1 : (lackL top es).length ≤ 15 := by
    refine Nat.le_trans (List.length_filter_le _ _) ?_
    have := x.t2
    simp
    omega
  have h2 : ch.length = (lackL top es).length + 1 := by
    have := congrArg List.length x.hch
    simpa [chainRows] using this
  refine ⟨h1, h2, ?_⟩
  have := x.hz
  rw [List.length_append]
  omega
/-- the list free -/
def FreeV (tl : Led) (fa : Addr) (line : List Int) : Prop := ∃ ys n, (fa, W.listOf (List.toArray ys) n) ∈ tl ∧ IntsAre ys (0 :: line)
theorem FreeV.mono {tl tl' : Led} {fa : Addr} {line : List Int} (x : FreeV tl fa line) (s : ∀ p ∈ tl, p ∈ tl') : FreeV tl' fa line := let ⟨ys, n, h, i⟩ := x; ⟨ys, n, s _ h, i⟩
inductive St5 (w : World) (g : Heap) (L : Addr) (s : Shared) : Prop
  | mk (c : C7) (pen cells : Addr) (o1 o2 : Obj) (tl : Led) (u : Str → Option Value) (de df rb fa : Addr) (es ch : List (Int × Ent)) (top : Int) (tt : Tok) (ks : List Int) (ysb : List Value) (nb : Nat) (x0 : Core g L s c pen cells o1 o2 tl (fun z => if z = Str.ofString "before" then some (.ref rb) else if z = Str.ofString "top" then some (.int top tt) else if z = Str.ofString "free" then some (.ref fa) else u z)) (x1 : c.Holds none none none none (some (.ref df)) (some (.ref de)) (some (.ref pen))) (x2 : Ents w tl de df rb es ch top ks ysb nb) (x3 : FreeV tl fa (lackL top es)) : St5 w g L s
theorem lst_led {h g : Heap} {L a : Addr} {led : Led} {vs : List Value} {n : Nat} (N : News g L h led) (hm : (a, W.listOf (List.toArray vs) n) ∈ led) : h.IsList a vs.toArray := ⟨_, (N _ hm).1, rfl, ⟨_, rfl⟩⟩
def isFree (es : List (Int × Ent)) (k : Int) : Bool := decide ((getE es k).map (·.way) = some (Str.ofString "free"))
theorem free_filter {f : Int → Int} {es : List (Int × Ent)} {line ns : List Int} (C : Chained f es line) (hlt : line.Pairwise (· < ·)) (hn : (es.map (·.1)).Nodup) (hp : ns.Perm (es.map (·.1))) (ho : ns.Pairwise (· ≤ ·)) : ns.filter (isFree es) = 0 :: line := by
  have h0 : (0 :: line).Pairwise (· < ·) := List.pairwise_cons.mpr ⟨fun k hk => by have := C.pos k hk; omega, hlt⟩
  have hnn : ns.Nodup := hp.nodup_iff.mpr hn
  refine eq_of_sorted (perm_ext (hnn.filter _) C.nodup fun x => ?_) (ho.filter _) h0
  rw [List.mem_filter]
  constructor
  · rintro ⟨_, h2⟩
    have h4 := of_decide_eq_true h2
    cases q : getE es x with
    | none => rw [q] at h4; cases h4
    | some e =>
      rw [q] at h4
      exact C.only x e q (Option.some.inj h4)
  · intro hx
    obtain ⟨i, hi', rfl⟩ := List.getElem_of_mem hx
    obtain ⟨e, he, hw, _⟩ := C.at' i (by simp only [List.length_cons] at hi'; omega)
    rw [List.getElem?_eq_getElem hi'] at he
    simp only [Option.getD_some] at he
    refine ⟨hp.mem_iff.mpr (of_decide_eq_true ((getE_isSome es _).symm.trans (by rw [he]; rfl))), ?_⟩
    show decide ((getE es (0 :: line)[i]).map (·.way) = some (Str.ofString "free")) = true
    rw [he, Option.map_some, hw]
    simp
theorem filter_snoc {T0 : Int → Bool} {ns : List Int} {i : Nat} {k : Int} (hk : ns[i]? = some k) : ∀ bb, T0 k = bb → (ns.take (i + 1)).filter T0 = (ns.take i).filter T0 ++ (if bb = true then [k] else []) := by
  rintro bb rfl
  rw [List.take_add_one, hk, List.filter_append, Option.toList_some, List.filter_cons, List.filter_nil]
theorem EDict.off {w : World} {tl : Led} {h : Heap} {d fl : Addr} {es : List (Int × Ent)} {vs : List Value} {n : Nat} (S : Sees tl h) (hm : (fl, W.listOf (List.toArray vs) n) ∈ tl) (D : EDict w tl d es) : EDict w (tl.filter fun p => decide (p.1 ≠ fl)) d es := by
  have eq : ∀ o, (fl, o) ∈ tl → o = W.listOf (List.toArray vs) n := fun o ho => by
    have h1 := S _ ho
    have h2 := S _ hm
    rw [h2] at h1
    exact (Option.some.inj h1).symm
  have keep : ∀ p ∈ tl, p.1 ≠ fl → p ∈ tl.filter fun p => decide (p.1 ≠ fl) := fun p hp hn => List.mem_filter.mpr ⟨hp, decide_eq_true hn⟩
  refine ⟨?_, fun p hp => ?_⟩
  · obtain ⟨lo, o, ho, hd⟩ := D.dict
    refine ⟨lo, o, keep _ ho fun q => ?_, hd⟩
    have q : d = fl := q
    subst q
    have := eq o ho
    subst this
    obtain ⟨_, _, _, hdt, _⟩ := hd
    cases hdt
  · obtain ⟨dx, es', n', a, b, c, h1, h2, r⟩ := D.ents p hp
    refine ⟨dx, es', n', a, b, c, keep _ h1 fun q => ?_, keep _ h2 fun q => ?_, r⟩
    · have q : p.2.x = fl := q
      rw [q] at h1
      exact absurd (congrArg Obj.cls (eq _ h1)) (fun z => nomatch z)
    · have q : dx = fl := q
      rw [q] at h2
      exact absurd (congrArg Obj.data (eq _ h2)) (fun z => nomatch z)
theorem gens_eq (m : Nat) : (List.range (m + 1)).map (fun j => if j = 0 then (65535 : Int) else 0) = [65535] ++ (List.replicate m [(0 : Int)]).flatten := by
  rw [List.range_succ_eq_map, List.map_cons, List.map_map, if_pos rfl]
  show 65535 :: _ = 65535 :: _
  congr 1
  induction m with
  | zero => rfl
  | succ m ih =>
    rw [List.range_succ, List.map_append, ih, List.replicate_succ', List.flatten_append]
    rfl
theorem getE_app {ch es : List (Int × Ent)} (hn : ((ch ++ es).map (·.1)).Nodup) {k : Int} {e : Ent} (h : getE es k = some e) : getE (ch ++ es) k = some e := getE_of_mem hn (List.mem_append_right _ (getE_mem h))
theorem toldD_app {ch es : List (Int × Ent)} (hn : ((ch ++ es).map (·.1)).Nodup) {k : Int} (h : k ∈ es.map (·.1)) : toldD (ch ++ es) k = toldD es k := by
  obtain ⟨e, he⟩ := Option.isSome_iff_exists.mp (show (getE es k).isSome = true by rw [getE_isSome]; exact decide_eq_true h)
  unfold toldD
  rw [getE_app hn he, he]
theorem same_sorted {l r k : List Int} (h1 : l.Perm k) (h2 : r.Perm k) (o1 : l.Pairwise (· ≤ ·)) (o2 : r.Pairwise (· ≤ ·)) : l = r :=
  List.Perm.eq_of_pairwise (le := (· ≤ ·)) (fun a b _ _ h h' => Int.le_antisymm h h') o1 o2 (h1.trans h2.symm)
theorem told_ok {es : List (Int × Ent)} (hw : ∀ p ∈ es, PyData.strOk p.2.way = true) (ks : List Int) : ∀ d ∈ ks.map (toldD es), kqdOk 8 d = true := by
  intro d hd
  obtain ⟨k, _, rfl⟩ := List.mem_map.mp hd
  unfold toldD
  cases q : getE es k with
  | none => rfl
  | some e =>
    have h := hw _ (getE_mem q)
    simp only at h
    simp [kqdOk, h]
theorem Ents.wayOk {w : World} {tl : Led} {de df rb : Addr} {es ch : List (Int × Ent)} {top : Int} {ks : List Int} {ysb : List Value} {nb : Nat} (x : Ents w tl de df rb es ch top ks ysb nb) : ∀ p ∈ es, PyData.strOk p.2.way = true := fun p hp => by
  rcases (x.hk p hp).2.2 with h | h
  · rw [h]; decide +kernel
  · rw [h]; decide +kernel
theorem dec_self {α : Type} (a : α) (i : Decidable (a = a)) : @decide (a = a) i = true := by
  cases i with
  | isTrue _ => rfl
  | isFalse h => exact absurd rfl h
/-- behind statement 9 only pen matters -/
inductive St10 (w : World) (g : Heap) (L : Addr) (s : Shared) : Prop
  | mk (c : C7) (pen cells : Addr) (o1 o2 : Obj) (tl : Led) (m : Str → Option Value) (sp fd en : Option Value) (x0 : Core g L s c pen cells o1 o2 tl m) (x1 : c.Holds none none none sp fd en (some (.ref pen))) : St10 w g L s
end S_OPlain
section S_ODict
theorem reg37 : True := by
  k_with_none
  k_with "mm" => ((repeat' (first | (with_reducible exact List.mem_cons_self) | (with_reducible assumption) | (with_reducible refine List.mem_cons_of_mem _ ?_))); done)
  k_with "sub" => ((repeat' (first | (with_reducible exact sub_nil _) | (with_reducible refine sub_cons ?_ ?_) | (with_reducible exact List.mem_cons_self) | (with_reducible refine List.mem_cons_of_mem _ ?_) | (with_reducible assumption) | (intro p9 hp9))); done)
  trivial
theorem entry_dul : entryFor table "dict.update.loop" = some Builtin.«dict.update.loop» := entryFor_of_tree (by kernel_rfl)
theorem plain_dul : plainId "dict.update.loop" = true := by decide +kernel
abbrev tup2 (k v : Value) : Obj := { cls := .type "tuple", data := .seq #[k, v] }
theorem dictOf_at {prog : Program} {w : World} {h h' : Heap} {a : Addr} {kvs : List (Int × Value)} (x : h.DictOf (PySem.intKind prog w) a kvs) (k : ∀ o, h.get? a = some o → h'.get? a = some o) : h'.DictOf (PySem.intKind prog w) a kvs :=
  let ⟨o, es, ep, ho, r⟩ := x; ⟨o, es, ep, k o ho, r⟩
theorem stored_len {K : Type} [DecidableEq K] (ds : List (K × Value)) (k : K) (v : Value) : (stored ds k v).length ≤ ds.length + 1 := by
  unfold stored
  split <;> simp
/-- a list of pairs -/
def PairsAt (h : Heap) (vs : List Value) (kvs : List (Int × Value)) : Prop := ∀ (j : Nat) (p : Int × Value), kvs[j]? = some p → ∃ a t, vs[j]? = some (.ref a) ∧ h.get? a = some (tup2 (.int p.1 t) p.2)
section
variable {prog : Program} {w : World} {A : Around} {R : Result → Shared → Prop} {I l D : Addr} {vs : List Value} {kvs : List (Int × Value)}
theorem dict_loop (hh : A.handled = none) (hIl : l ≠ I) (hID : D ≠ I) (hlD : D ≠ l) (hlen : vs.length = kvs.length) (hz : kvs.length ≤ 100) :
    ∀ (k i : Nat) (s : Shared) (t : Tok) (ds : List (Int × Value)), kvs.length - i = k → i ≤ kvs.length → ds.length ≤ i → s.heap.IsListIter I l i → s.heap.IsList l vs.toArray → s.heap.DictOf (PySem.intKind prog w) D ds → (∀ (j : Nat) (p : Int × Value), i ≤ j → kvs[j]? = some p → ∃ a t, vs[j]? = some (.ref a) ∧ a ≠ D ∧ a ≠ I ∧ s.heap.get? a = some (tup2 (.int p.1 t) p.2)) →
    (∀ h' tk, h'.DictOf (PySem.intKind prog w) D ((kvs.drop i).foldl (fun acc p => stored acc p.1 p.2) ds) → (∀ b o, b ≠ I → b ≠ D → s.heap.get? b = some o → h'.get? b = some o) → R (.ok (.ret .none)) { s with heap := h', toks := tk }) →
    codeAny (model prog w) A (.builtin "dict.update.loop" ⟨[.ref D, .ref I, .int i t, .none], []⟩) R s := by
  have WL := Walks.list (A := A.in1) (prog := prog) (w := w) hh I l hIl vs.toArray
  intro k
  induction k with
  | zero =>
    intro i s t ds hk hi hds hit hl hD hp hR
    have hin : i = vs.toArray.size := by simp; omega
    refine codeAny_builtin entry_dul ?_
    rw [Around.under_plainId plain_dul _]
    show wpAny _ A.in1 (pyNext (.ref I) >>= _) _ _ s
    refine wpAny_bind (WL.done s _ _ (hin ▸ ⟨hit, hl⟩) fun h' tk hk' => ?_)
    show wpAny _ _ (Builtin.Dict.addKeywords D [] >>= _) _ _ _
    refine wpAny_bind (wpAny_pure (wpAny_pure ?_))
    have e0 : kvs.drop i = [] := List.drop_eq_nil_of_le (by omega)
    rw [e0] at hR
    refine hR h' tk (dictOf_at hD fun o e => hk' _ o (by simpa using hID) e) fun b o hb _ e => hk' b o (by simpa using hb) e
  | succ k ih =>
    intro i s t ds hk hi hds hit hl hD hp hR
    have hlt : i < vs.toArray.size := by simp; omega
    refine codeAny_builtin entry_dul ?_
    rw [Around.under_plainId plain_dul _]
    show wpAny _ A.in1 (pyNext (.ref I) >>= _) _ _ s
    refine wpAny_bind (WL.item i s _ _ hlt ⟨hit, hl⟩ fun v h' tk hP hst' hk' => ?_)
    have hik : i < kvs.length := by simp at hlt; omega
    obtain ⟨a, ta, hva, haD, haI, hat⟩ := hp i _ (Nat.le_refl _) (List.getElem?_eq_getElem hik)
    have hv : v = .ref a := by
      have : vs[i]? = some v := by simpa using hP
      rw [hva] at this
      exact (Option.some.inj this).symm
    subst hv
    have ha' := hk' _ _ (by simpa using haI) hat
    have hD' : h'.DictOf (PySem.intKind prog w) D ds := dictOf_at hD fun o e => hk' _ o (by simpa using hID) e
    show wpAny _ _ (holding [Value.ref a] _ >>= _) _ _ _
    refine wpAny_bind (wpAny_holding ?_)
    refine wpAny_bind (wpAny_tryCatch ?_)
    unfold Builtin.Dict.pairItems
    refine wpAny_bind (wpAny_typeOf (T := "tuple") ⟨_, ha', rfl⟩ ?_)
    rw [if_pos (by decide)]
    refine wpAny_bind (wpAny_seqItems ha' rfl (wpAny_pure ?_))
    show wpAny _ _ (holding _ (dictSet D _ _)) _ _ _
    refine wpAny_holding (wpAny_dictSet_pairs (knd := PySem.intKind prog w) (intKind_is _ _ _ ta) hD' (fun h2 hD2 hs2 => ?_) (by rw [sizeLine_eq]; omega))
    refine wpAny_pure ⟨plainId_quiet plain_dul _, ih (i + 1) _ _ _ (by omega) (by omega) ?_ ?_ ?_ hD2 ?_ ?_⟩
    · have := stored_len ds kvs[i].1 kvs[i].2
      omega
    · exact hst'.1.at fun o e => (hs2.2 _ hID.symm).trans e
    · exact hst'.2.at fun o e => (hs2.2 _ hlD.symm).trans e
    · intro j p hj hjp
      obtain ⟨a', t', h1, h2', h3, h4⟩ := hp j p (by omega) hjp
      exact ⟨a', t', h1, h2', h3, (hs2.2 _ h2').trans (hk' _ _ (by simpa using h3) h4)⟩
    · intro h3 tk3 hd3 hk3
      refine hR h3 tk3 ?_ fun b o hb1 hb2 e => hk3 b o hb1 hb2 ((hs2.2 _ hb2).trans (hk' b o (by simpa using hb1) e))
      rw [List.drop_eq_getElem_cons hik]
      exact hd3
end
end S_ODict
section S_ODict2
theorem reg38 : True := by
  k_with_none
  k_with "mm" => ((repeat' (first | (with_reducible exact List.mem_cons_self) | (with_reducible assumption) | (with_reducible refine List.mem_cons_of_mem _ ?_))); done)
  k_with "sub" => ((repeat' (first | (with_reducible exact sub_nil _) | (with_reducible refine sub_cons ?_ ?_) | (with_reducible exact List.mem_cons_self) | (with_reducible refine List.mem_cons_of_mem _ ?_) | (with_reducible assumption) | (intro p9 hp9))); done)
  trivial
theorem keys_miss : typeLookup (.type "list") "keys" = pure none := by rw [typeLookup_type, builtinLookup_eq_fast]; kernel_rfl
theorem keys_name : (["__module__", "__name__", "__qualname__", "__doc__", "__annotations__"] : List Str).contains "keys" = false := by decide +kernel
theorem no_keys {prog : Program} {w : World} {A : Around} {E : Value → Shared → Prop} {s : Shared} {a : Addr} {o : Obj} {xs : Array Value} {k : Nat} {Q : Option Value → Shared → Prop}
    (hx : s.heap.get? a = some o) (hc : o.cls = .type "list") (hdat : o.data = .seq xs k) (hd : o.dict = none) (hA : A.handled = none)
    (h : ∀ h' tk, s.heap.StaysIn h' → Q none { s with heap := h', toks := tk }) :
    wpAny (model prog w) A (getAttr? (.ref a) "keys") Q E s := by
  obtain ⟨c, dct, dat, sl⟩ := o
  simp only at hc hdat hd
  subst hc hdat hd
  obtain ⟨hp, g, d, tk, os⟩ := s
  have hT : ∀ tk', (⟨hp, g, d, tk', os⟩ : Shared).TypeIs (.ref a) "list" := fun _ => ⟨_, hx, rfl⟩
  have f1 := sub_AttributeError
  have f3 := F.slot_list_getattribute.lookup
  have f4 := F.slot_list_getattribute.bind (.ref a)
  have f5 := am_list_getattr_none
  unfold getAttr? getAttrBy? getAttrBy
  repeat (any_goals (first | assumption | exact hT _ | ((with_reducible show wpAny _ _ (call (Value.builtin "list.__getattribute__") _ _) _ _ _); refine call_meets F.slot_list_getattribute (hT _) am_entry_list_getattribute (F.args_list_getattribute_2 _ _) (meets_getattribute_miss_list a xs k sl "keys" _ keys_miss keys_name (by size_fits)) ⟨hx, hA, fun h' tk' e hx' => ?_⟩) | wp_step))
  obtain ⟨t', u', he⟩ := hx'.there
  show wpAny _ _ (getattributeRaised _ _ _ _ _ _ _) _ _ _
  unfold getattributeRaised
  repeat (any_goals (first | assumption | wp_step))
  all_goals exact h _ _ hx'.keeps
theorem dict_pairs {w : World} {A : Around} {E : Value → Shared → Prop} {s : Shared} {Q : Value → Shared → Prop} {l : Addr} {vs : List Value} {n : Nat} {kvs : List (Int × Value)}
    (hh : A.handled = none) (hl : s.heap.get? l = some (W.listOf (List.toArray vs) n)) (hlen : vs.length = kvs.length) (hz : kvs.length ≤ 100) (hp : PairsAt s.heap vs kvs)
    (ret : ∀ h' tk, h'.DictOf (PySem.intKind PR w) s.heap.objs.size (kvs.foldl (fun acc p => stored acc p.1 p.2) []) → Ext [] s.heap h' → Q (.ref s.heap.objs.size) { s with heap := h', toks := tk }) :
    wpAny (model PR w) A (call (.type "dict") [.ref l]) Q E s := by
  refine callType_codes (Q₁ := fun obj s₁ => obj = .ref s.heap.objs.size ∧ s₁ = { s with heap := s.heap.push { cls := .type "dict", data := .dict #[] } }) F.kt_called_dict (F.kt_typeCall_dict_1 _) F.entry_dict_init (kt_code_dict_new _ ⟨rfl, rfl⟩) ?_
  rintro obj s₁ ⟨rfl, rfl⟩
  have hnew : (s.heap.push { cls := .type "dict", data := .dict #[] }).DictOf (PySem.intKind PR w) s.heap.objs.size [] := Heap.DictOf.new s.heap
  have hl' := Heap.get?_push_of_some { cls := .type "dict", data := .dict #[] } hl
  refine ⟨hnew.typeIs, F.args_dict_init_2 _ _, ?_⟩
  unfold Builtin.«dict.__init__»
  refine wpAny_bind ?_
  unfold Builtin.Dict.selfAndRest
  refine wpAny_bind (wpAny_notOrdered_dict hnew.typeIs ?_)
  show wpAny _ _ (pure (s.heap.objs.size, [Value.ref l])) _ _ _
  refine wpAny_pure ?_
  show wpAny _ _ (Builtin.Dict.updateFrom "dict.__init__" s.heap.objs.size (.ref l) [] .none) _ _ _
  unfold Builtin.Dict.updateFrom
  refine wpAny_bind (wpAny_typeOf (T := "list") ⟨_, hl', rfl⟩ ?_)
  rw [if_pos (by decide)]
  refine wpAny_bind (no_keys (k := n) hl' rfl rfl rfl hh fun h1 tk1 k1 => ?_)
  show wpAny _ _ (rule _ >>= _) _ _ _
  refine wpAny_bind (wpAny_rule ?_)
  have hl1 : h1.IsList l vs.toArray := ⟨_, k1 _ _ hl', rfl, ⟨_, rfl⟩⟩
  refine wpAny_bind (wpAny_pyIter_list hl1 ?_)
  have hD1 : h1.DictOf (PySem.intKind PR w) s.heap.objs.size [] := dictOf_at hnew fun o e => k1 _ _ e
  have hlt : l < s.heap.objs.size := Heap.lt_size hl
  have hDlt : s.heap.objs.size < h1.objs.size := by obtain ⟨o, _, _, e, _⟩ := hD1; exact Heap.lt_size e
  refine wpAny_pure ⟨plainId_quiet plain_dul _, dict_loop (A := A.in1) (I := h1.objs.size) (l := l) hh (Nat.ne_of_lt (Nat.lt_trans hlt hDlt)) (Nat.ne_of_lt hDlt) (Nat.ne_of_gt hlt) hlen hz _ 0 _ 0 [] rfl (Nat.zero_le _) (Nat.le_refl _) ⟨_, Heap.get?_push_size _ rfl, rfl, rfl⟩ (hl1.push _) (dictOf_at hD1 fun o e => Heap.get?_push_of_some _ e) (fun j p _ hj => ?_) fun h2 tk2 hd2 hk2 => ?_⟩
  · obtain ⟨a, t, h3, h4⟩ := hp j p hj
    have alt := Heap.lt_size h4
    exact ⟨a, t, h3, Nat.ne_of_lt alt, Nat.ne_of_lt (Nat.lt_trans alt hDlt), Heap.get?_push_of_some _ (k1 _ _ (Heap.get?_push_of_some _ h4))⟩
  · refine ⟨rfl, ret h2 tk2 (by simpa using hd2) fun a o e _ => ?_⟩
    have alt := Heap.lt_size e
    exact hk2 a o (Nat.ne_of_lt (Nat.lt_trans alt hDlt)) (Nat.ne_of_lt alt) (Heap.get?_push_of_some _ (k1 _ _ (Heap.get?_push_of_some _ e)))
end S_ODict2
section S_OPairs
theorem reg39 : True := by
  k_with_none
  k_with "mm" => ((repeat' (first | (with_reducible exact List.mem_cons_self) | (with_reducible assumption) | (with_reducible refine List.mem_cons_of_mem _ ?_))); done)
  k_with "sub" => ((repeat' (first | (with_reducible exact sub_nil _) | (with_reducible refine sub_cons ?_ ?_) | (with_reducible exact List.mem_cons_self) | (with_reducible refine List.mem_cons_of_mem _ ?_) | (with_reducible assumption) | (intro p9 hp9))); done)
  trivial
/-- a list of pairs, by what V bears -/
def PairsV (V : Led) (ys : List Value) (kvs : List (Int × Value)) : Prop := ys.length = kvs.length ∧ ∀ (j : Nat) (p : Int × Value), kvs[j]? = some p → ∃ a t, ys[j]? = some (.ref a) ∧ (a, tup2 (.int p.1 t) p.2) ∈ V
theorem PairsV.mono {V U : Led} {ys : List Value} {kvs : List (Int × Value)} (x : PairsV V ys kvs) (s : ∀ p ∈ V, p ∈ U) : PairsV U ys kvs := ⟨x.1, fun j p h => let ⟨a, t, h1, h2⟩ := x.2 j p h; ⟨a, t, h1, s _ h2⟩⟩
theorem PairsV.nil (V : Led) : PairsV V [] [] := ⟨rfl, fun j p h => by simp at h⟩
theorem PairsV.at' {V : Led} {h : Heap} {ys : List Value} {kvs : List (Int × Value)} (x : PairsV V ys kvs) (S : Sees V h) : PairsAt h ys kvs := fun j p hj => let ⟨a, t, h1, h2⟩ := x.2 j p hj; ⟨a, t, h1, S _ h2⟩
theorem PairsV.snoc {V : Led} {ys : List Value} {kvs : List (Int × Value)} {a : Addr} {k : Int} {t : Tok} {v : Value} (x : PairsV V ys kvs) (h : (a, tup2 (.int k t) v) ∈ V) : PairsV V (ys ++ [.ref a]) (kvs ++ [(k, v)]) := by
  refine ⟨by simp [x.1], fun j p hj => ?_⟩
  rcases Nat.lt_or_ge j kvs.length with q | q
  · rw [List.getElem?_append_left q] at hj
    obtain ⟨a', t', h1, h2⟩ := x.2 j p hj
    exact ⟨a', t', by rw [List.getElem?_append_left (by rw [x.1]; exact q)]; exact h1, h2⟩
  · rw [List.getElem?_append_right q] at hj
    have hj0 : j - kvs.length = 0 := by
      have := (List.getElem?_eq_some_iff.mp hj).1
      simp at this
      omega
    rw [hj0] at hj
    simp only [List.getElem?_cons_zero, Option.some.injEq] at hj
    subst hj
    refine ⟨a, t, ?_, h⟩
    rw [List.getElem?_append_right (by rw [x.1]; exact q), x.1, hj0]
    rfl
theorem stored_all : ∀ {kvs ds : List (Int × Value)}, ((ds ++ kvs).map (·.1)).Nodup → kvs.foldl (fun acc p => stored acc p.1 p.2) ds = ds ++ kvs
  | [], ds, _ => by simp
  | p :: r, ds, h => by
    have hn : p.1 ∉ ds.map (·.1) := by
      rw [List.map_append, List.nodup_append] at h
      exact fun q => h.2.2 _ q p.1 (by simp) rfl
    have e : stored ds p.1 p.2 = ds ++ [p] := by
      unfold stored
      rw [if_neg]
      intro q
      obtain ⟨x, hx, hk⟩ := List.any_eq_true.mp q
      exact hn (List.mem_map.mpr ⟨x, hx, of_decide_eq_true hk⟩)
    rw [List.foldl_cons, e, stored_all (by rw [List.append_assoc]; exact h), List.append_assoc]
    rfl
end S_OPairs
section S_OCompT
theorem reg40 : True := by
  k_with_none
  k_with "mm" => ((repeat' (first | (with_reducible exact List.mem_cons_self) | (with_reducible assumption) | (with_reducible refine List.mem_cons_of_mem _ ?_))); done)
  k_with "sub" => ((repeat' (first | (with_reducible exact sub_nil _) | (with_reducible refine sub_cons ?_ ?_) | (with_reducible exact List.mem_cons_self) | (with_reducible refine List.mem_cons_of_mem _ ?_) | (with_reducible assumption) | (intro p9 hp9))); done)
  trivial
section
variable {prog : Program} {w : World} {A : Around} {E : Value → Shared → Prop} {s : Shared} {env : Env} {target : Expr} {I : Addr}
theorem Src.enum {xi xv : Str} {pi pv pt : Pos} {x1} {e it l : Addr} {items : Array Value} (hh : A.handled = none) (hxi : env.kindOf xi = some .local) (hxv : env.kindOf xv = some .local)
    (hp : (env.scope.kind == .class || (env.scope.kind == .module && env.locals != env.globals)) = false) (hei : e ≠ it) (hle : l ≠ e) (hli : l ≠ it) :
    Src prog w A env (.Tuple [.Name xi pi, .Name xv pv] x1 pt) e [e, it, l] [e, it] items.size
      (fun i m m' => ∃ t v, items[i]? = some v ∧ m' = fun y => if y = xv then some v else if y = xi then some (.int i t) else m y)
      (fun i h => (∃ old, IsEnum h e it i old) ∧ h.IsListIter it l i ∧ h.IsList l items) where
  sub := fun b hb => by
    rcases List.mem_cons.mp hb with rfl | hb
    · exact List.mem_cons_self ..
    · exact List.mem_cons_of_mem _ (by rcases List.mem_cons.mp hb with rfl | hb; exact List.mem_cons_self ..; cases hb)
  frame := fun i h h' hst hk => by
    obtain ⟨⟨old, he⟩, hit, hl⟩ := hst
    exact ⟨⟨old, hk e (by simp) _ he⟩, hit.at fun o x => hk it (by simp) o x, hl.at fun o x => hk l (by simp) o x⟩
  item := fun E N Y i s m hi hst hn hC hQ => by
    obtain ⟨⟨old, he⟩, hit, hl⟩ := hst
    have heL : e ≠ env.locals := fun q => hC (by rw [← q]; simp)
    have hiL : it ≠ env.locals := fun q => hC (by rw [← q]; simp)
    have hlL : l ≠ env.locals := fun q => hC (by rw [← q]; simp)
    have hv : items[i]? = some items[i] := Array.getElem?_eq_getElem hi
    have heH : e < s.heap.objs.size := Heap.lt_size he
    have hLH : env.locals < s.heap.objs.size := hn.lt
    obtain ⟨oi, hoi, _⟩ := id hit
    obtain ⟨ol, hol, _⟩ := id hl
    have hiH : it < s.heap.objs.size := Heap.lt_size hoi
    have hlH : l < s.heap.objs.size := Heap.lt_size hol
    refine wpAny_pyNext_enum_item he hit hl hv hei fun h₁ heo hit₁ ht₁ hz₁ hk₁ => ?_
    refine wpAny_letOwnedTupleGo_enum heo fun h₂ he₂ hs₂ => ?_
    replace hs₂ : Heap.SameBut e h₁ h₂ := hs₂
    have ht₂ : h₂.IsTuple s.heap.objs.size #[.int i s.toks, items[i]] := ⟨_, (hs₂.2 _ (Nat.ne_of_gt heH)).trans ht₁, rfl, _, rfl⟩
    have hz₂ : h₂.objs.size = s.heap.objs.size + 1 := hs₂.1.trans hz₁
    refine wpAny_assign_Tuple hh ht₂ rfl rfl fun h₃ hx₃ => ?_
    replace hx₃ : Heap.ExtBut h₂.objs.size h₂ h₃ := hx₃
    have old₃ : ∀ b o, b < s.heap.objs.size → h₂.get? b = some o → h₃.get? b = some o := fun b o hb x => hx₃ b o (by rw [hz₂]; exact Nat.ne_of_lt (Nat.lt_succ_of_lt hb)) x
    have hn₃ : h₃.Ns env.locals m := (hn.at fun o x => hk₁ _ o (Ne.symm heL) (Ne.symm hiL) x).sameBut hs₂ (Ne.symm heL) |>.at fun o x => old₃ _ o hLH x
    show wpAny _ A (do holding [items[i]] (assign (.Name xi pi) env (.int i s.toks)); do holding [] (assign (.Name xv pv) env items[i]); pure ()) _ _ _
    refine wpAny_bind (wpAny_holding (wpAny_assign_Name (wpAny_storeName_local hxi hn₃ (fun h₄ hn₄ hs₄ => ?_) hp)))
    replace hs₄ : Heap.SameBut env.locals h₃ h₄ := hs₄
    refine wpAny_bind (wpAny_holding (wpAny_assign_Name (wpAny_storeName_local hxv hn₄ (fun h₅ hn₅ hs₅ => wpAny_pure ?_) hp)))
    replace hs₅ : Heap.SameBut env.locals h₄ h₅ := hs₅
    have up : ∀ b o, b ≠ env.locals → b < s.heap.objs.size → h₂.get? b = some o → h₅.get? b = some o := fun b o hbL hb x =>
      hs₅.extBut b o hbL (hs₄.extBut b o hbL (old₃ b o hb x))
    refine hQ h₅ _ _ ⟨⟨items[i], ?_⟩, ?_, ?_⟩ hn₅ ⟨_, _, hv, rfl⟩ fun b o hbL hb x => ?_
    · have : ((i + 1 : Nat) : Int) = (i : Int) + 1 := by push_cast; rfl
      rw [this]; exact up e _ heL heH he₂
    · exact (hit₁.extBut hs₂.extBut (Ne.symm hei)).at fun o x => up it o hiL hiH x
    · exact ((hl.at fun o x => hk₁ l o hle hli x).extBut hs₂.extBut hle).at fun o x => up l o hlL hlH x
    · have h1 : b ≠ e := fun q => hb (by simp [q])
      have h2 : b ≠ it := fun q => hb (by simp [q])
      exact up b o hbL (Heap.lt_size x) (hs₂.extBut b o h1 (hk₁ b o h1 h2 x))
  done := fun E N Y s hst hQ => by
    obtain ⟨⟨old, he⟩, hit, hl⟩ := hst
    exact wpAny_pyNext_enum_end hh he hit hl (Array.getElem?_eq_none (Nat.le_refl _)) fun h' hx => hQ h' s.toks fun b o hb y => hx b o (fun e' => hb (by simp [e'])) y
  self := fun E i s Q hst hQ => by
    obtain ⟨⟨old, he⟩, _, _⟩ := hst
    exact wpAny_pyIter_enum he hQ
end
end S_OCompT
section S_OCompT2
theorem reg41 : True := by
  k_with_none
  k_with "mm" => ((repeat' (first | (with_reducible exact List.mem_cons_self) | (with_reducible assumption) | (with_reducible refine List.mem_cons_of_mem _ ?_))); done)
  k_with "sub" => ((repeat' (first | (with_reducible exact sub_nil _) | (with_reducible refine sub_cons ?_ ?_) | (with_reducible exact List.mem_cons_self) | (with_reducible refine List.mem_cons_of_mem _ ?_) | (with_reducible assumption) | (intro p9 hp9))); done)
  trivial
section
variable {prog : Program} {w : World} {A : Around} {E : Value → Shared → Prop} {s : Shared} {env : Env} {I : Addr} {acc : Value} {R : Result → Shared → Prop}
def tests (ifs : List Expr) (env : Env) : Sem Bool := forIn ifs true fun c r => if r = true then do let ok ← isTrue c env (eval c env); pure (ForInStep.yield ok) else pure (ForInStep.yield r)
/-- what a turn of a plain comprehension does behind its front -/
def emitA (prog : Program) (w : World) (A : Around) (ifs : List Expr) (elt : Expr) (env : Env) (acc : Value) (P : Shared → Prop) (s : Shared) : Prop :=
  wpAny (model prog w) A (tests ifs env) (fun ok s₄ => if ok = true then wpAny (model prog w) A (eval elt env) (fun x s₅ => wpAny (model prog w) A (call (.builtin "list.append") [acc, x]) (fun _ s₆ => P s₆) (fun _ _ => False) s₅) (fun _ _ => False) s₄ else P s₄) (fun _ _ => False) s
def emitC (prog : Program) (w : World) (A : Around) (elt : Expr) (env : Env) (acc : Value) (P : Shared → Prop) (s : Shared) : Prop :=
  wpAny (model prog w) A (eval elt env) (fun x s₅ => wpAny (model prog w) A (call (.builtin "list.append") [acc, x]) (fun _ s₆ => P s₆) (fun _ _ => False) s₅) (fun _ _ => False) s
def emitB (prog : Program) (w : World) (A : Around) (e : Expr) (i2 : Expr) (env : Env) (acc : Value) (P : Shared → Prop) (s : Shared) : Prop :=
  wpAny (model prog w) A (eval i2 env) (fun xv s₄ => wpAny (model prog w) A (pyIter xv) (fun it2 s₅ => codeAny (model prog w) A (.compStart e 1 it2 acc env) (fun r s₆ => r = .ok .next ∧ P s₆) s₅) (fun _ _ => False) s₄) (fun _ _ => False) s
theorem emitA_mono {ifs : List Expr} {elt : Expr} (P P' : Shared → Prop) (s : Shared) (h : ∀ s, P s → P' s) (x : emitA prog w A ifs elt env acc P s) : emitA prog w A ifs elt env acc P' s := by
  refine wpAny_mono x (fun ok s₄ q => ?_) fun _ _ e => e
  cases ok with
  | false => exact h _ q
  | true => exact wpAny_mono q (fun _ _ q => wpAny_mono q (fun _ _ q => h _ q) fun _ _ e => e) fun _ _ e => e
theorem emitC_mono {elt : Expr} (P P' : Shared → Prop) (s : Shared) (h : ∀ s, P s → P' s) (x : emitC prog w A elt env acc P s) : emitC prog w A elt env acc P' s :=
  wpAny_mono x (fun _ _ q => wpAny_mono q (fun _ _ q => h _ q) fun _ _ e => e) fun _ _ e => e
theorem emitB_mono {e i2 : Expr} (P P' : Shared → Prop) (s : Shared) (h : ∀ s, P s → P' s) (x : emitB prog w A e i2 env acc P s) : emitB prog w A e i2 env acc P' s :=
  wpAny_mono x (fun _ _ q => wpAny_mono q (fun _ _ q => codeAny_mono q fun _ _ q => ⟨q.1, h _ q.2⟩) fun _ _ e => e) fun _ _ e => e
theorem loopA {elt iter target : Expr} {ifs : List Expr} {scope : Scope} {pos : Pos} (Inv : Nat → Shared → Prop)
    (turn : ∀ k s' E, Inv k s' → front prog w A env target I E (fun s => R (.ok .next) s) (emitA prog w A ifs elt env acc fun s'' => ∃ k', k' < k ∧ Inv k' s'') s') (n : Nat) (h : Inv n s) :
    codeAny (model prog w) A (.compLoop (.ListComp elt [⟨target, iter, ifs, 0⟩] scope pos) 0 (.ref I) acc env) R s := by
  refine codeAny_loop rfl Inv (fun n s hI => ?_) n h
  show wpAny _ A ((compTurn (.ListComp elt [⟨target, iter, ifs, 0⟩] scope pos) 0 (.ref I) acc env).onRaise (fun x => do noteFrame x env; theTreesLotGoes x)) _ _ s
  refine wpAny_noted ?_
  rw [compTurn_list]
  refine wpAny_bind (wpAny_standAt (wpAny_bind (wpAny_mono (turn n s _ hI) (fun r s₁ h₁ => ?_) fun _ _ h' => h')))
  cases r with
  | none => exact wpAny_pure h₁
  | some v =>
    refine wpAny_bind (wpAny_mono h₁ (fun _ s₁ h₁ => ?_) fun _ _ h' => h')
    refine wpAny_bind (wpAny_mono h₁ (fun _ s₂ h₂ => wpAny_bind (wpAny_mono h₂ (fun ok s₃ h₃ => ?_) fun _ _ h' => h'.elim)) fun _ _ h' => h')
    cases ok with
    | false => exact wpAny_pure ⟨rfl, h₃⟩
    | true =>
      exact wpAny_bind (wpAny_bind (wpAny_mono h₃ (fun x s₄ h₄ => wpAny_bind (wpAny_mono h₄ (fun _ s₅ h₅ => wpAny_pure (wpAny_pure ⟨rfl, h₅⟩)) fun _ _ h' => h'.elim)) fun _ _ h' => h'.elim))
theorem compTurn_two0 (elt : Expr) (g1 g2 : Expr × Expr) (scope : Scope) (pos : Pos) (it acc : Value) (env : Env) :
    compTurn (.ListComp elt [⟨g1.1, g1.2, [], 0⟩, ⟨g2.1, g2.2, [], 0⟩] scope pos) 0 it acc env = (do
      standAt g1.2.pos
      match ← pyNext it with
      | none => pure (.done .next)
      | some v =>
        letOwnedTupleGo g1.1 it v
        assign g1.1 env v
        let mut ok := true
        for c in ([] : List Expr) do
          if ok then ok ← isTrue c env (eval c env)
        if ok then
          let x ← eval g2.2 env
          standAt g2.2.pos
          let x ← foldedSetIterable g2.2 env x
          let _ ← runOwn (.compStart (.ListComp elt [⟨g1.1, g1.2, [], 0⟩, ⟨g2.1, g2.2, [], 0⟩] scope pos) 1 (← holding [x] (pyIter x)) acc env) env
        again (.compLoop (.ListComp elt [⟨g1.1, g1.2, [], 0⟩, ⟨g2.1, g2.2, [], 0⟩] scope pos) 0 it acc env)) := by rfl
theorem compTurn_two1 (elt : Expr) (g1 g2 : Expr × Expr) (scope : Scope) (pos : Pos) (it acc : Value) (env : Env) :
    compTurn (.ListComp elt [⟨g1.1, g1.2, [], 0⟩, ⟨g2.1, g2.2, [], 0⟩] scope pos) 1 it acc env = (standAt g2.2.pos >>= fun _ => pyNext it >>= fun r => match r with
      | none => pure (.done .next)
      | some v => letOwnedTupleGo g2.1 it v >>= fun _ => assign g2.1 env v >>= fun _ =>
        (eval elt env >>= fun x => call (.builtin "list.append") [acc, x] >>= fun _ => pure ()) >>= fun _ =>
          again (.compLoop (.ListComp elt [⟨g1.1, g1.2, [], 0⟩, ⟨g2.1, g2.2, [], 0⟩] scope pos) 1 it acc env)) := by rfl
theorem loopC {elt : Expr} {t1 i1 t2 i2 : Expr} {scope : Scope} {pos : Pos} (Inv : Nat → Shared → Prop)
    (turn : ∀ k s' E, Inv k s' → front prog w A env t2 I E (fun s => R (.ok .next) s) (emitC prog w A elt env acc fun s'' => ∃ k', k' < k ∧ Inv k' s'') s') (n : Nat) (h : Inv n s) :
    codeAny (model prog w) A (.compLoop (.ListComp elt [⟨t1, i1, [], 0⟩, ⟨t2, i2, [], 0⟩] scope pos) 1 (.ref I) acc env) R s := by
  refine codeAny_loop rfl Inv (fun n s hI => ?_) n h
  show wpAny _ A ((compTurn (.ListComp elt [⟨t1, i1, [], 0⟩, ⟨t2, i2, [], 0⟩] scope pos) 1 (.ref I) acc env).onRaise (fun x => do noteFrame x env; theTreesLotGoes x)) _ _ s
  refine wpAny_noted ?_
  rw [compTurn_two1 elt (t1, i1) (t2, i2)]
  refine wpAny_bind (wpAny_standAt (wpAny_bind (wpAny_mono (turn n s _ hI) (fun r s₁ h₁ => ?_) fun _ _ h' => h')))
  cases r with
  | none => exact wpAny_pure h₁
  | some v =>
    refine wpAny_bind (wpAny_mono h₁ (fun _ s₁ h₁ => ?_) fun _ _ h' => h')
    refine wpAny_bind (wpAny_mono h₁ (fun _ s₂ h₂ => ?_) fun _ _ h' => h')
    exact wpAny_bind (wpAny_bind (wpAny_mono h₂ (fun x s₄ h₄ => wpAny_bind (wpAny_mono h₄ (fun _ s₅ h₅ => wpAny_pure (wpAny_pure ⟨rfl, h₅⟩)) fun _ _ h' => h'.elim)) fun _ _ h' => h'.elim))
theorem loopB {elt : Expr} {t1 i1 t2 i2 : Expr} {scope : Scope} {pos : Pos} (Inv : Nat → Shared → Prop)
    (turn : ∀ k s' E, Inv k s' → front prog w A env t1 I E (fun s => R (.ok .next) s) (emitB prog w A (.ListComp elt [⟨t1, i1, [], 0⟩, ⟨t2, i2, [], 0⟩] scope pos) i2 env acc fun s'' => ∃ k', k' < k ∧ Inv k' s'') s') (n : Nat) (h : Inv n s)
    (hs : ∀ x, foldedSetIterable i2 env x = pure x := by intro _; rfl) :
    codeAny (model prog w) A (.compLoop (.ListComp elt [⟨t1, i1, [], 0⟩, ⟨t2, i2, [], 0⟩] scope pos) 0 (.ref I) acc env) R s := by
  refine codeAny_loop rfl Inv (fun n s hI => ?_) n h
  show wpAny _ A ((compTurn (.ListComp elt [⟨t1, i1, [], 0⟩, ⟨t2, i2, [], 0⟩] scope pos) 0 (.ref I) acc env).onRaise (fun x => do noteFrame x env; theTreesLotGoes x)) _ _ s
  refine wpAny_noted ?_
  rw [compTurn_two0 elt (t1, i1) (t2, i2)]
  refine wpAny_bind (wpAny_standAt (wpAny_bind (wpAny_mono (turn n s _ hI) (fun r s₁ h₁ => ?_) fun _ _ h' => h')))
  cases r with
  | none => exact wpAny_pure h₁
  | some v =>
    refine wpAny_bind (wpAny_mono h₁ (fun _ s₁ h₁ => ?_) fun _ _ h' => h')
    refine wpAny_bind (wpAny_mono h₁ (fun _ s₂ h₂ => ?_) fun _ _ h' => h')
    refine wpAny_bind (wpAny_pure ?_)
    refine wpAny_bind (wpAny_mono h₂ (fun x s₄ h₄ => wpAny_bind (wpAny_standAt (wpAny_bind (wpAny_of_eq (hs x) (wpAny_bind (wpAny_holding (wpAny_mono h₄ (fun it s₅ h₅ => ?_) fun _ _ h' => h'.elim))))))) fun _ _ h' => h'.elim)
    refine wpAny_bind (wpAny_runOwn (codeAny_mono h₅ fun r s₆ h₆ => ?_))
    obtain ⟨rfl, h₆⟩ := h₆
    exact wpAny_pure ⟨rfl, h₆⟩
theorem compStart_two {elt target iter : Expr} {g1 : Comprehension} {ifs : List Expr} {rest : List Comprehension} {scope : Scope} {pos : Pos} {it acc : Value} {env : Env}
    (h0 : codeAny (model prog w) A (.compLoop (.ListComp elt (g1 :: ⟨target, iter, ifs, 0⟩ :: rest) scope pos) 1 it acc env) R s)
    (h : wpAny (model prog w) A (pyIter it) (fun it' s' => codeAny (model prog w) A (.compLoop (.ListComp elt (g1 :: ⟨target, iter, ifs, 0⟩ :: rest) scope pos) 1 it' acc env) R s')
      (notedBy (model prog w) A env fun x s' => R (.error x) s') s) :
    codeAny (model prog w) A (.compStart (.ListComp elt (g1 :: ⟨target, iter, ifs, 0⟩ :: rest) scope pos) 1 it acc env) R s := by
  refine codeAny_of_tree ?_
  show wpAny _ _ ((compStart (.ListComp elt (g1 :: ⟨target, iter, ifs, 0⟩ :: rest) scope pos) 1 it acc env).onRaise (fun x => do noteFrame x env; standAt theWindowsPlace)) _ _ s
  refine wpAny_notedAt ?_
  unfold compStart
  show wpAny _ _ (ask >>= _) _ _ s
  refine wpAny_bind (wpAny_askSetting (wpAny_ite ?_))
  split
  · first
      | exact wpAny_bind (wpAny_pure (wpAny_pure (And.intro rfl h0)))
      | exact wpAny_pure (And.intro rfl h0)
  · first
      | exact wpAny_bind (wpAny_rule (wpAny_bind (wpAny_standAt (wpAny_bind (wpAny_mono h (fun it' s' h' => wpAny_pure (And.intro rfl h')) fun _ _ x => x)))))
      | (refine wpAny_bind (wpAny_rule ?_); show wpAny _ _ (standAt iter.pos >>= _) _ _ s; exact wpAny_bind (wpAny_standAt (wpAny_bind (wpAny_mono h (fun it' s' h' => wpAny_pure (And.intro rfl h')) fun _ _ x => x))))
/-- a list grows by one -/
theorem append_K {g : Heap} {C D : Addr} {m : Str → Option Value} {led : Led} {ys : List Value} {y : Value} {Q : Value → Shared → Prop} (F : Fr g C s.heap m) (N : News g C s.heap ((D, lst ys) :: led)) (hne : ∀ p ∈ led, p.1 ≠ D) (hz : ys.length ≤ 100000)
    (h : ∀ h' v, Fr g C h' m → News g C h' ((D, lst (ys ++ [y])) :: led) → Q v { s with heap := h' }) :
    wpAny (model prog w) A (call (.builtin "list.append") [.ref D, y]) Q E s := by
  have z := N _ List.mem_cons_self
  refine append_at (hsz := by show ys.toArray.size ≤ sizeLine; rw [List.size_toArray, sizeLine_eq]; omega) z.1 fun h₆ hs₆ hD₆ => ?_
  have e : h₆.get? D = some (lst (ys ++ [y])) := hD₆.trans (congrArg some (lst_push ys y))
  exact h h₆ _ (F.change hs₆ z.2.1 z.2.2) (N.setHead hne hs₆ e)
end
end S_OCompT2
section S_OCompT3
theorem reg42 : True := by
  k_with_none
  k_with "mm" => ((repeat' (first | (with_reducible exact List.mem_cons_self) | (with_reducible assumption) | (with_reducible refine List.mem_cons_of_mem _ ?_))); done)
  k_with "sub" => ((repeat' (first | (with_reducible exact sub_nil _) | (with_reducible refine sub_cons ?_ ?_) | (with_reducible exact List.mem_cons_self) | (with_reducible refine List.mem_cons_of_mem _ ?_) | (with_reducible assumption) | (intro p9 hp9))); done)
  trivial
section
variable {prog : Program} {w : World} {A : Around} {E : Value → Shared → Prop} {s s₂ : Shared} {env : Env} {it : Value} {e : Expr} {scope : Scope} {cl : List (Str × Addr)} {Q : Value → Shared → Prop}
def Enter (prog : Program) (w : World) (A : Around) (env : Env) (e : Expr) (scope : Scope) (cl : List (Str × Addr)) (RR : Value → Addr → Result → Shared → Prop) (it : Value) (s₂ : Shared) : Prop :=
  ∀ E : Value → Shared → Prop, wpAny (model prog w) A (newList []) (fun acc s₃ => wpAny (model prog w) A (newFunctionEnv scope env.globals cl [] env.qual none .none (some env)) (fun cenv s₄ =>
    codeAny (model prog w) A (.compStart e 0 it acc { cenv with scope := relabel scope env }) (RR acc cenv.locals) s₄) E s₃) E s₂
abbrev evPost (Q : Value → Shared → Prop) (acc : Value) (C : Addr) (r : Result) (s' : Shared) : Prop := r = .ok .next ∧ ∃ m, s'.heap.Ns C m ∧ ∀ h', Heap.SameBut C s'.heap h' → Q acc { s' with heap := h' }
abbrev asPost (env : Env) (y : Str) (Q : Flow → Shared → Prop) (acc : Value) (C : Addr) (r : Result) (s' : Shared) : Prop := r = .ok .next ∧ ∃ m mL, s'.heap.Ns C m ∧ s'.heap.Ns env.locals mL ∧ C ≠ env.locals ∧ ∀ h₁ h', h₁.Ns env.locals (fun z => if z = y then some acc else mL z) → Heap.SameBut env.locals s'.heap h₁ → Heap.SameBut C h₁ h' → Q .next { s' with heap := h', toks := s'.toks + 1 }
theorem comp_ev {elt target iter : Expr} {ifs : List Expr} {gs : List Comprehension} {pos : Pos}
    (hclos : closureFor scope env = pure cl) (hkind : scope.kind = .function) (hnames : ∀ y ∈ scope.names, y.2 = .local → scope.names.lookup y.1 = some .local)
    (h : wpAny (model prog w) A (eval iter env) (fun xv s₁ => wpAny (model prog w) A (pyIter xv) (fun it s₂ => Enter prog w A env (.ListComp elt (⟨target, iter, ifs, 0⟩ :: gs) scope pos) scope cl (evPost Q) it s₂) E s₁) E s)
    (hs : ∀ x, foldedSetIterable iter env x = pure x := by intro _; rfl) :
    wpAny (model prog w) A (eval (.ListComp elt (⟨target, iter, ifs, 0⟩ :: gs) scope pos) env) Q E s := by
  rw [eval_ListComp]
  refine wpAny_comprehension_free (use := none) rfl hs hclos hkind hnames (wpAny_mono h (fun xv s₁ h₁ => wpAny_mono h₁ (fun it s₂ h₂ => ?_) fun _ _ e => e) fun _ _ e => e)
  refine wpAny_mono (h₂ E) (fun acc s₃ h₃ => wpAny_mono h₃ (fun cenv s₄ h₄ => codeAny_mono h₄ fun r s' q => ?_) fun _ _ e => e) fun _ _ e => e
  obtain ⟨rfl, m, hn, q⟩ := q
  exact ⟨m, hn, q⟩
theorem comp_as {elt target iter : Expr} {ifs : List Expr} {gs : List Comprehension} {pos spos py : Pos} {y : Str} {Q : Flow → Shared → Prop}
    (hsw : swapsWith (.ListComp elt (⟨target, iter, ifs, 0⟩ :: gs) scope pos) (some (.Name y py)) spos.line env = pure true)
    (hclos : closureFor scope env = pure cl) (hkind : scope.kind = .function) (hnames : ∀ y ∈ scope.names, y.2 = .local → scope.names.lookup y.1 = some .local)
    (hy : env.kindOf y = some .local) (hp : (env.scope.kind == .class || (env.scope.kind == .module && env.locals != env.globals)) = false)
    (h : wpAny (model prog w) A (eval iter env) (fun xv s₁ => wpAny (model prog w) A (pyIter xv) (fun it s₂ => Enter prog w A env (.ListComp elt (⟨target, iter, ifs, 0⟩ :: gs) scope pos) scope cl (asPost env y Q) it s₂) E s₁) E s)
    (hs : ∀ x, foldedSetIterable iter env x = pure x := by intro _; rfl) :
    wpAny (model prog w) A (exec (.Assign [.Name y py] (.ListComp elt (⟨target, iter, ifs, 0⟩ :: gs) scope pos) spos) env) Q E s := by
  rw [exec_Assign_Name_used _ _ _ _ hsw]
  refine wpAny_bind (wpAny_standAt (wpAny_bind ?_))
  show wpAny _ A (do let _ ← comprehension (.ListComp elt (⟨target, iter, ifs, 0⟩ :: gs) scope pos) scope env _ (newList []) false (eval iter env) (some (assign (.Name y py) env))) _ _ s
  refine wpAny_bind (wpAny_mono (wpAny_comprehension_free (use := some (assign (.Name y py) env)) (Q := fun _ s' => Q .next s') rfl hs hclos hkind hnames
    (wpAny_mono h (fun xv s₁ h₁ => wpAny_mono h₁ (fun it s₂ h₂ => ?_) fun _ _ e => e) fun _ _ e => e)) (fun _ s' hq => wpAny_pure (wpAny_pure hq)) fun _ _ e => e)
  refine wpAny_mono (h₂ E) (fun acc s₃ h₃ => wpAny_mono h₃ (fun cenv s₄ h₄ => codeAny_mono h₄ fun r s' q => ?_) fun _ _ e => e) fun _ _ e => e
  obtain ⟨rfl, m, mL, hn, hnL, hCL, hq⟩ := q
  show wpAny _ A (assign (.Name y py) env acc) _ _ _
  refine wpAny_assign_Name (wpAny_storeName_local hy hnL (fun h₂ hn₂ hs₂ => ?_) hp)
  exact ⟨m, hn.sameBut hs₂ hCL, fun h'' hs'' => hq h₂ h'' hn₂ hs₂ hs''⟩
theorem enter_plain {RR : Value → Addr → Result → Shared → Prop} {g2 : Heap} {led2 : Led} (hcell : ∀ y ∈ scope.names, y.2 ≠ .cell) (hkind : scope.kind = .function) (S : g2.StaysIn s₂.heap) (hsz : g2.objs.size ≤ s₂.heap.objs.size) (hled : ∀ p ∈ led2, s₂.heap.get? p.1 = some p.2 ∧ g2.get? p.1 = none)
    (h : ∀ D C h₁ tk m, s₂.heap.objs.size ≤ D → D < C → s₂.heap.StaysIn h₁ → Fr g2 C h₁ m → News g2 C h₁ ((D, lst []) :: led2) →
      codeAny (model prog w) A (.compStart e 0 it (.ref D) (compEnvC scope cl C env)) (RR (.ref D) C) { s₂ with heap := h₁, toks := tk }) :
    Enter prog w A env e scope cl RR it s₂ := by
  intro E
  refine wpAny_newObj_type (wpAny_newFunctionEnv hcell (by intro y hy; simp at hy) (fun h₁ hns₁ hsb₁ => ?_) hkind)
  dsimp only at hns₁ hsb₁ ⊢
  generalize hH2 : s₂.heap.push { cls := .type "list", dict := none, data := .seq ([] : List Value).toArray } = H2 at hns₁ hsb₁ ⊢
  have hC : H2.objs.size = s₂.heap.objs.size + 1 := by rw [← hH2, Heap.size_push]
  have hDC : s₂.heap.objs.size ≠ H2.objs.size := by rw [hC]; exact Nat.ne_of_lt (Nat.lt_succ_self _)
  have hDltC : s₂.heap.objs.size < H2.objs.size := by rw [hC]; exact Nat.lt_succ_self _
  have old : ∀ b o, s₂.heap.get? b = some o → h₁.get? b = some o := fun b o e => hsb₁.extBut b o (by rw [hC]; exact Nat.ne_of_lt (Nat.lt_succ_of_lt (Heap.lt_size e))) (Heap.get?_push_of_some _ (hH2 ▸ Heap.get?_push_of_some _ e))
  have hacc : h₁.get? s₂.heap.objs.size = some (lst []) := hsb₁.extBut _ _ hDC (Heap.get?_push_of_some _ (hH2 ▸ Heap.get?_push_size _ rfl))
  refine h s₂.heap.objs.size H2.objs.size h₁ _ _ (Nat.le_refl _) hDltC old ⟨hns₁, fun a o q => old a o (S a o q), by omega⟩ fun p hp => ?_
  rcases List.mem_cons.mp hp with rfl | hp
  · exact ⟨hacc, hDC, Heap.get?_none_of_le hsz⟩
  · have z := hled p hp
    exact ⟨old _ _ z.1, Nat.ne_of_lt (Nat.lt_trans (Heap.lt_size z.1) hDltC), z.2⟩
theorem enter_cell {RR : Value → Addr → Result → Shared → Prop} {x : Str} {g2 : Heap} {led2 : Led} (hcf : ∀ n, cellsFrom n scope.names cl = (x, n) :: cl) (hpc : ∀ h, pushCells h scope.names = h.push { cls := .type "cell", data := .cell none }) (hkind : scope.kind = .function) (S : g2.StaysIn s₂.heap) (hsz : g2.objs.size ≤ s₂.heap.objs.size) (hled : ∀ p ∈ led2, s₂.heap.get? p.1 = some p.2 ∧ g2.get? p.1 = none)
    (h : ∀ D C cr h₁ tk m, s₂.heap.objs.size ≤ D → D < C → C < cr → s₂.heap.StaysIn h₁ → Fr g2 C h₁ m → News g2 C h₁ ((D, lst []) :: (cr, { cls := .type "cell", data := .cell none }) :: led2) →
      codeAny (model prog w) A (.compStart e 0 it (.ref D) (compEnvC scope ((x, cr) :: cl) C env)) (RR (.ref D) C) { s₂ with heap := h₁, toks := tk }) :
    Enter prog w A env e scope cl RR it s₂ := by
  intro E
  refine wpAny_newObj_type ?_
  simp only [newFunctionEnv, Option.isSome_some, if_true]
  refine wpAny_bind (wpAny_alloc ?_)
  refine wpAny_bind (wpAny_layCells _ (fun name kind cells => by cases hkc : kind == NameKind.cell <;> simp [hkc]) _ _ _ _ ?_)
  rw [hcf, hpc]
  dsimp only
  rw [List.forIn_nil]
  refine wpAny_bind (wpAny_pure (wpAny_pure ?_))
  dsimp only
  generalize hH2 : s₂.heap.push { cls := .type "list", dict := none, data := .seq ([] : List Value).toArray } = H2
  have hC : H2.objs.size = s₂.heap.objs.size + 1 := by rw [← hH2, Heap.size_push]
  generalize hH3 : H2.push { cls := .type "dict", data := .dict #[] } = H3
  have hcr : H3.objs.size = H2.objs.size + 1 := by rw [← hH3, Heap.size_push]
  have old : ∀ b o, s₂.heap.get? b = some o → (H3.push { cls := .type "cell", data := .cell none }).get? b = some o := fun b o e => Heap.get?_push_of_some _ (hH3 ▸ Heap.get?_push_of_some _ (hH2 ▸ Heap.get?_push_of_some _ e))
  have hacc : (H3.push { cls := .type "cell", data := .cell none }).get? s₂.heap.objs.size = some (lst []) := Heap.get?_push_of_some _ (hH3 ▸ Heap.get?_push_of_some _ (hH2 ▸ Heap.get?_push_size _ rfl))
  have hns : (H3.push { cls := .type "cell", data := .cell none }).Ns H2.objs.size (fun _ => none) := by
    have := Heap.Ns.new H2 (.type "dict")
    rw [hH3] at this
    exact this.keeps fun b o e => Heap.get?_push_of_some _ e
  refine h s₂.heap.objs.size H2.objs.size H3.objs.size _ _ (fun _ => none) (Nat.le_refl _) (by omega) (by omega) old ⟨hns, fun a o q => old a o (S a o q), by omega⟩ fun p hp => ?_
  rcases List.mem_cons.mp hp with rfl | hp
  · exact ⟨hacc, by show s₂.heap.objs.size ≠ H2.objs.size; omega, Heap.get?_none_of_le hsz⟩
  · rcases List.mem_cons.mp hp with rfl | hp
    · exact ⟨Heap.get?_push_size _ rfl, by show H3.objs.size ≠ H2.objs.size; omega, Heap.get?_none_of_le (by show g2.objs.size ≤ H3.objs.size; omega)⟩
    · have z := hled p hp
      exact ⟨old _ _ z.1, Nat.ne_of_lt (Nat.lt_trans (Heap.lt_size z.1) (by omega)), z.2⟩
end
end S_OCompT3
section S_OCompT4
theorem reg43 : True := by
  k_with_none
  k_with "mm" => ((repeat' (first | (with_reducible exact List.mem_cons_self) | (with_reducible assumption) | (with_reducible refine List.mem_cons_of_mem _ ?_))); done)
  k_with "sub" => ((repeat' (first | (with_reducible exact sub_nil _) | (with_reducible refine sub_cons ?_ ?_) | (with_reducible exact List.mem_cons_self) | (with_reducible refine List.mem_cons_of_mem _ ?_) | (with_reducible assumption) | (intro p9 hp9))); done)
  trivial
section
variable {prog : Program} {w : World} {A : Around} {E : Value → Shared → Prop} {s : Shared} {env : Env} {acc : Value} {R : Result → Shared → Prop} {g : Heap} {e it l : Addr} {vs : List Value} {m₀ : Str → Option Value} {led₀ : Led} {xi xv : Str} {pi pv pt : Pos} {x1 : Nat}
abbrev names2of (xi xv : Str) (i : Nat) (t : Tok) (v : Value) (m : Str → Option Value) : Str → Option Value := fun y => if y = xv then some v else if y = xi then some (.int i t) else m y
theorem enum_loop {σ : Type} (Kn : σ → Led) (adr : List Addr) (Fact : Led → σ → Nat → Prop) (mOK : (Str → Option Value) → Prop) (c₀ : σ) (B : (Shared → Prop) → Shared → Prop) (Bm : ∀ P P' s, (∀ s, P s → P' s) → B P s → B P' s)
    (hh : A.handled = none) (hxi : env.kindOf xi = some .local) (hxv : env.kindOf xv = some .local) (hp : (env.scope.kind == .class || (env.scope.kind == .module && env.locals != env.globals)) = false)
    (hei : e ≠ it) (hle : l ≠ e) (hli : l ≠ it) (hfp : ∀ b ∈ [e, it, l], b ∉ adr ∧ b ≠ env.locals) (ge : g.get? e = none) (gi : g.get? it = none) {old : Value} (he : IsEnum s.heap e it 0 old) (hit : s.heap.IsListIter it l 0) (hl : s.heap.IsList l vs.toArray)
    (hadr : ∀ c, (Kn c).map (·.1) = adr) (F : Fr g env.locals s.heap m₀) (N : News g env.locals s.heap led₀) (hK : ∀ p ∈ Kn c₀, p ∈ led₀) (mono : ∀ V U c i, Fact V c i → (∀ p ∈ V, p ∈ U) → Fact U c i) {V₀ : Led} (h0 : Fact V₀ c₀ 0) (hV : ∀ p ∈ V₀, p ∈ led₀ ∧ p.1 ∉ adr ∧ p.1 ∉ [e, it]) (hm : mOK m₀)
    (turn : ∀ (c : σ) (i : Nat) (v : Value) (t : Tok) (V tl : Led) h tk m, vs[i]? = some v → mOK m → (∀ b o, h.get? b = some o → g.get? b = none → b ≠ env.locals → b ∉ adr → (b, o) ∈ tl) → h.IsList l vs.toArray → Fact V c i → (∀ p ∈ V, p ∈ tl) → OwnOff tl adr → Fr g env.locals h (names2of xi xv i t v m) → News g env.locals h (Kn c ++ tl) →
      B (fun s' => TurnEnd g env.locals Kn Fact (fun m _ _ => mOK m) adr V tl (i + 1) s s') { s with heap := h, toks := tk })
    (Nn : Shared → Prop) (done : ∀ c V h tk m, Fact V c vs.length → mOK m → Fr g env.locals h m → News g env.locals h (Kn c ++ V) → OwnOff V adr → (∀ p ∈ V, p.1 ∉ [e, it]) → Nn { s with heap := h, toks := tk }) :
    ∃ (n : Nat) (Inv : Nat → Shared → Prop), Inv n s ∧ ∀ k s' E, Inv k s' → front prog w A env (.Tuple [.Name xi pi, .Name xv pv] x1 pt) e E Nn (B fun s'' => ∃ k', k' < k ∧ Inv k' s'') s' := by
  have hn : vs.toArray.size = vs.length := by simp
  have S := Src.enum (prog := prog) (w := w) (A := A) (env := env) (pi := pi) (pv := pv) (pt := pt) (x1 := x1) hh hxi hxv hp hei hle hli (items := vs.toArray)
  obtain ⟨Inv, h1, h2⟩ := loop_K (V₀ := V₀) Kn adr Fact (fun m _ _ => mOK m) c₀ S hfp (fun b hb => by
    simp only [List.mem_cons, List.not_mem_nil, or_false] at hb
    rcases hb with rfl | rfl
    · exact ge
    · exact gi) (fun i h st b hb => by
    simp only [List.mem_cons, List.not_mem_nil, or_false] at hb
    rcases hb with rfl | rfl
    · obtain ⟨⟨_, q⟩, _, _⟩ := st; exact ⟨_, q⟩
    · obtain ⟨_, ⟨o, q, _⟩, _⟩ := st; exact ⟨o, q⟩) ⟨⟨old, he⟩, hit, hl⟩ hadr F N hK mono h0 hV hm B Bm (fun c i V tl h tk m m' hi hPM hst cov hF hmk sub off F' N' => by
    obtain ⟨t, v, hv, rfl⟩ := hPM
    exact turn c i v t V tl h tk m (by simpa using hv) hmk cov hst.2.2 hF sub off F' N') Nn (fun c V h tk m hF hmk F' N' o1 o2 => done c V h tk m (by rw [hn] at hF; exact hF) hmk F' N' o1 o2)
  exact ⟨_, Inv, h1, h2⟩
theorem enumA {σ : Type} {elt iter : Expr} {ifs : List Expr} {scope : Scope} {pos : Pos} (Kn : σ → Led) (adr : List Addr) (Fact : Led → σ → Nat → Prop) (c₀ : σ)
    (hh : A.handled = none) (hei : e ≠ it) (hle : l ≠ e) (hli : l ≠ it) (hfp : ∀ b ∈ [e, it, l], b ∉ adr ∧ b ≠ env.locals) (ge : g.get? e = none) (gi : g.get? it = none) {old : Value} (he : IsEnum s.heap e it 0 old) (hit : s.heap.IsListIter it l 0) (hl : s.heap.IsList l vs.toArray)
    (hadr : ∀ c, (Kn c).map (·.1) = adr) (F : Fr g env.locals s.heap m₀) (N : News g env.locals s.heap led₀) (hK : ∀ p ∈ Kn c₀, p ∈ led₀) (mono : ∀ V U c i, Fact V c i → (∀ p ∈ V, p ∈ U) → Fact U c i) (h0 : Fact [] c₀ 0)
    (turn : ∀ (c : σ) (i : Nat) (v : Value) (t : Tok) (V tl : Led) h tk m, vs[i]? = some v → (∀ b o, h.get? b = some o → g.get? b = none → b ≠ env.locals → b ∉ adr → (b, o) ∈ tl) → h.IsList l vs.toArray → Fact V c i → (∀ p ∈ V, p ∈ tl) → OwnOff tl adr → Fr g env.locals h (names2of xi xv i t v m) → News g env.locals h (Kn c ++ tl) →
      emitA prog w A ifs elt env acc (fun s' => TurnEnd g env.locals Kn Fact (fun _ _ _ => True) adr V tl (i + 1) s s') { s with heap := h, toks := tk })
    (done : ∀ c V h tk m, Fact V c vs.length → Fr g env.locals h m → News g env.locals h (Kn c ++ V) → OwnOff V adr → R (.ok .next) { s with heap := h, toks := tk })
    (hxi : env.kindOf xi = some .local := by rfl) (hxv : env.kindOf xv = some .local := by rfl) (hp : (env.scope.kind == .class || (env.scope.kind == .module && env.locals != env.globals)) = false := by rfl) :
    codeAny (model prog w) A (.compStart (.ListComp elt [⟨.Tuple [.Name xi pi, .Name xv pv] x1 pt, iter, ifs, 0⟩] scope pos) 0 (.ref e) acc env) R s := by
  obtain ⟨n, Inv, h1, h2⟩ := enum_loop (prog := prog) (w := w) (V₀ := []) (pi := pi) (pv := pv) (pt := pt) (x1 := x1) Kn adr Fact (fun _ => True) c₀ (emitA prog w A ifs elt env acc) emitA_mono hh hxi hxv hp hei hle hli hfp ge gi he hit hl hadr F N hK mono h0 (fun p hp => nomatch hp) trivial
    (fun c i v t V tl h tk m hv _ => turn c i v t V tl h tk m hv) (fun s => R (.ok .next) s) (fun c V h tk m hF _ F' N' o _ => done c V h tk m hF F' N' o)
  have lp := fun s h => loopA (prog := prog) (w := w) (A := A) (s := s) (env := env) (I := e) (acc := acc) (R := R) (elt := elt) (iter := iter) (scope := scope) (pos := pos) Inv h2 n h
  exact codeAny_compStart_list (lp s h1) (wpAny_pyIter_enum he (lp s h1))
end
end S_OCompT4
section S_OCompT5
theorem reg44 : True := by
  k_with_none
  k_with "mm" => ((repeat' (first | (with_reducible exact List.mem_cons_self) | (with_reducible assumption) | (with_reducible refine List.mem_cons_of_mem _ ?_))); done)
  k_with "sub" => ((repeat' (first | (with_reducible exact sub_nil _) | (with_reducible refine sub_cons ?_ ?_) | (with_reducible exact List.mem_cons_self) | (with_reducible refine List.mem_cons_of_mem _ ?_) | (with_reducible assumption) | (intro p9 hp9))); done)
  trivial
section
variable {prog : Program} {w : World} {A : Around} {E : Value → Shared → Prop} {s : Shared} {env : Env} {acc : Value} {R : Result → Shared → Prop} {g : Heap} {I : Addr} {m₀ : Str → Option Value} {led₀ : Led}
theorem cell_at {h h' : Heap} {c : Addr} {v : Option Value} (x : h.IsCell c v) (k : ∀ o, h.get? c = some o → h'.get? c = some o) : h'.IsCell c v := let ⟨o, e, d⟩ := x; ⟨o, k o e, d⟩
theorem Src.cell {x : Str} {px : Pos} {cr : Addr} {fp wr : List Addr} {n : Nat} {P : Nat → Value → Prop} {St : Nat → Heap → Prop} (W : Walks prog w A I fp wr n P St) (hk : env.scope.kind = .function) (hl : env.kindOf x = some .cell) (hc : env.cells.lookup x = some cr) (hcf : cr ∉ fp) (hcL : cr ≠ env.locals) :
    Src prog w A env (.Name x px) I (cr :: fp) (cr :: wr) n (fun i m m' => m' = m) (fun i h => St i h ∧ (∃ v₀, h.IsCell cr v₀) ∧ ∀ j, i = j + 1 → ∃ v, P j v ∧ h.IsCell cr (some v)) where
  sub := fun b hb => by
    rcases List.mem_cons.mp hb with rfl | hb
    · exact List.mem_cons_self
    · exact List.mem_cons_of_mem _ (W.sub b hb)
  frame := fun i h h' ⟨h1, ⟨v₀, h2⟩, h3⟩ hk => ⟨W.frame i h h' h1 fun b hb => hk b (List.mem_cons_of_mem _ hb), ⟨v₀, cell_at h2 fun o e => hk cr List.mem_cons_self o e⟩, fun j e => let ⟨v, p, q⟩ := h3 j e; ⟨v, p, cell_at q fun o e => hk cr List.mem_cons_self o e⟩⟩
  item := fun E N Y i s m hi ⟨h1, ⟨v₀, h2⟩, h3⟩ hn hC hQ => by
    have hCw : env.locals ∉ wr := fun q => hC (List.mem_cons_of_mem _ (W.sub _ q))
    refine W.item i _ _ _ hi h1 fun v h₁ tk₁ hP hst₁ hk₁ => ?_
    refine wpAny_of_eq (show letOwnedTupleGo (.Name x px) (.ref I) v = pure () from rfl) ?_
    have hcw : cr ∉ wr := fun q => hcf (W.sub _ q)
    refine wpAny_assign_Name (wpAny_storeName_cell hk hl hc (cell_at h2 fun o e => hk₁ cr o hcw e) fun h' hc' hs' => ?_)
    have hs' : Heap.SameBut cr h₁ h' := hs'
    refine hQ h' _ m ⟨W.frame _ _ _ hst₁ fun b hb o e => (hs'.2 b fun q => hcf (q ▸ hb)).trans e, ⟨_, hc'⟩, fun j e => ⟨v, by rw [← Nat.succ.inj e]; exact hP, hc'⟩⟩ ((hn.at' fun o e => hk₁ _ o hCw e).sameBut hs' hcL.symm) rfl fun b o hbL hb e => ?_
    exact (hs'.2 b fun q => hb (by rw [q]; exact List.mem_cons_self)).trans (hk₁ b o (fun q => hb (List.mem_cons_of_mem _ q)) e)
  done := fun E N Y s ⟨h1, _⟩ hQ => W.done s _ _ h1 fun h' tk hk => hQ h' tk fun b o hb => hk b o fun q => hb (List.mem_cons_of_mem _ q)
  self := fun E i s Q ⟨h1, _⟩ hQ => W.self i s Q E h1 hQ
theorem cellA {σ : Type} {elt iter : Expr} {ifs : List Expr} {scope : Scope} {pos : Pos} {x : Str} {px : Pos} {cr : Addr} {fp wr : List Addr} {n : Nat} {P : Nat → Value → Prop} {St : Nat → Heap → Prop} (Kn : σ → Led) (adr : List Addr) (Fact : Led → σ → Nat → Prop) (c₀ : σ)
    (W : Walks prog w A I fp wr n P St) (hcf : cr ∉ fp) (hcL : cr ≠ env.locals) (hfp : ∀ b ∈ cr :: fp, b ∉ adr ∧ b ≠ env.locals) (hwr : ∀ b ∈ cr :: wr, g.get? b = none) (hlive : ∀ i h, St i h → ∀ b ∈ wr, ∃ o, h.get? b = some o) (hst : St 0 s.heap) {v₀ : Option Value} (hcell : s.heap.IsCell cr v₀)
    (hadr : ∀ c, (Kn c).map (·.1) = adr) (F : Fr g env.locals s.heap m₀) (N : News g env.locals s.heap led₀) (hK : ∀ p ∈ Kn c₀, p ∈ led₀) (mono : ∀ V U c i, Fact V c i → (∀ p ∈ V, p ∈ U) → Fact U c i) (h0 : Fact [] c₀ 0)
    (turn : ∀ (c : σ) (i : Nat) (v : Value) (oc : Obj) (V tl : Led) h tk m, i < n → P i v → (cr, oc) ∈ tl → oc.data = .cell (some v) → Fact V c i → (∀ p ∈ V, p ∈ tl) → OwnOff tl adr → Fr g env.locals h m → News g env.locals h (Kn c ++ tl) →
      emitA prog w A ifs elt env acc (fun s' => TurnEnd g env.locals Kn Fact (fun _ _ _ => True) adr V tl (i + 1) s s') { s with heap := h, toks := tk })
    (done : ∀ c V h tk m, Fact V c n → Fr g env.locals h m → News g env.locals h (Kn c ++ V) → OwnOff V adr → R (.ok .next) { s with heap := h, toks := tk })
    (hk : env.scope.kind = .function := by rfl) (hl : env.kindOf x = some .cell := by rfl) (hc : env.cells.lookup x = some cr := by rfl) :
    codeAny (model prog w) A (.compStart (.ListComp elt [⟨.Name x px, iter, ifs, 0⟩] scope pos) 0 (.ref I) acc env) R s := by
  have S := Src.cell (px := px) W hk hl hc hcf hcL
  obtain ⟨Inv, h1, h2⟩ := loop_K (V₀ := []) Kn adr Fact (fun _ _ _ => True) c₀ S hfp hwr (fun i h st b hb => by
    rcases List.mem_cons.mp hb with rfl | hb
    · obtain ⟨v, o, e, _⟩ := st.2.1; exact ⟨o, e⟩
    · exact hlive i h st.1 b hb) ⟨hst, ⟨v₀, hcell⟩, fun j e => nomatch e⟩ hadr F N hK mono h0 (fun p hp => nomatch hp) trivial (emitA prog w A ifs elt env acc) emitA_mono (fun c i V tl h tk m m' hi hPM hst cov hF _ sub off F' N' => by
    obtain ⟨_, _, h3⟩ := hst
    obtain ⟨v, hP, oc, e, hd⟩ := h3 i rfl
    exact turn c i v oc V tl h tk m' hi hP (cov cr oc e (hwr cr List.mem_cons_self) (hfp cr List.mem_cons_self).2 (hfp cr List.mem_cons_self).1) hd hF sub off F' N') (fun s => R (.ok .next) s) (fun c V h tk m hF _ F' N' o _ => done c V h tk m hF F' N' o)
  have lp := fun s h => loopA (prog := prog) (w := w) (A := A) (s := s) (env := env) (I := I) (acc := acc) (R := R) (elt := elt) (iter := iter) (ifs := ifs) (target := .Name x px) (scope := scope) (pos := pos) Inv h2 (n + 1) h
  exact codeAny_compStart_list (lp s h1) (W.self 0 s _ _ hst (lp s h1))
end
end S_OCompT5
section S_OCompT6
theorem reg45 : True := by
  k_with_none
  k_with "mm" => ((repeat' (first | (with_reducible exact List.mem_cons_self) | (with_reducible assumption) | (with_reducible refine List.mem_cons_of_mem _ ?_))); done)
  k_with "sub" => ((repeat' (first | (with_reducible exact sub_nil _) | (with_reducible refine sub_cons ?_ ?_) | (with_reducible exact List.mem_cons_self) | (with_reducible refine List.mem_cons_of_mem _ ?_) | (with_reducible assumption) | (intro p9 hp9))); done)
  trivial
section
variable {prog : Program} {w : World} {A : Around} {E : Value → Shared → Prop} {s : Shared} {env : Env} {acc : Value} {R : Result → Shared → Prop} {g : Heap} {e it l : Addr} {vs : List Value} {m₀ : Str → Option Value} {led₀ : Led} {xi xv : Str} {pi pv pt : Pos} {x1 : Nat}
theorem enumB {σ : Type} {elt i1 t2 i2 : Expr} {scope : Scope} {pos : Pos} (Kn : σ → Led) (adr : List Addr) (Fact : Led → σ → Nat → Prop) (c₀ : σ)
    (hh : A.handled = none) (hei : e ≠ it) (hle : l ≠ e) (hli : l ≠ it) (hfp : ∀ b ∈ [e, it, l], b ∉ adr ∧ b ≠ env.locals) (ge : g.get? e = none) (gi : g.get? it = none) {old : Value} (he : IsEnum s.heap e it 0 old) (hit : s.heap.IsListIter it l 0) (hl : s.heap.IsList l vs.toArray)
    (hadr : ∀ c, (Kn c).map (·.1) = adr) (F : Fr g env.locals s.heap m₀) (N : News g env.locals s.heap led₀) (hK : ∀ p ∈ Kn c₀, p ∈ led₀) (mono : ∀ V U c i, Fact V c i → (∀ p ∈ V, p ∈ U) → Fact U c i) (h0 : Fact [] c₀ 0)
    (turn : ∀ (c : σ) (i : Nat) (v : Value) (t : Tok) (V tl : Led) h tk m, vs[i]? = some v → Fact V c i → (∀ p ∈ V, p ∈ tl) → OwnOff tl adr → Fr g env.locals h (names2of xi xv i t v m) → News g env.locals h (Kn c ++ tl) →
      emitB prog w A (.ListComp elt [⟨.Tuple [.Name xi pi, .Name xv pv] x1 pt, i1, [], 0⟩, ⟨t2, i2, [], 0⟩] scope pos) i2 env acc (fun s' => TurnEnd g env.locals Kn Fact (fun _ _ _ => True) adr V tl (i + 1) s s') { s with heap := h, toks := tk })
    (done : ∀ c V h tk m, Fact V c vs.length → Fr g env.locals h m → News g env.locals h (Kn c ++ V) → OwnOff V adr → R (.ok .next) { s with heap := h, toks := tk })
    (hxi : env.kindOf xi = some .local := by rfl) (hxv : env.kindOf xv = some .local := by rfl) (hp : (env.scope.kind == .class || (env.scope.kind == .module && env.locals != env.globals)) = false := by rfl) (hs : ∀ x, foldedSetIterable i2 env x = pure x := by intro _; rfl) :
    codeAny (model prog w) A (.compStart (.ListComp elt [⟨.Tuple [.Name xi pi, .Name xv pv] x1 pt, i1, [], 0⟩, ⟨t2, i2, [], 0⟩] scope pos) 0 (.ref e) acc env) R s := by
  obtain ⟨n, Inv, h1, h2⟩ := enum_loop (prog := prog) (w := w) (V₀ := []) (pi := pi) (pv := pv) (pt := pt) (x1 := x1) Kn adr Fact (fun _ => True) c₀ (emitB prog w A (.ListComp elt [⟨.Tuple [.Name xi pi, .Name xv pv] x1 pt, i1, [], 0⟩, ⟨t2, i2, [], 0⟩] scope pos) i2 env acc) emitB_mono hh hxi hxv hp hei hle hli hfp ge gi he hit hl hadr F N hK mono h0 (fun p hp => nomatch hp) trivial
    (fun c i v t V tl h tk m hv _ _ _ => turn c i v t V tl h tk m hv) (fun s => R (.ok .next) s) (fun c V h tk m hF _ F' N' o _ => done c V h tk m hF F' N' o)
  have lp := fun s h => loopB (prog := prog) (w := w) (A := A) (s := s) (env := env) (I := e) (acc := acc) (R := R) (elt := elt) (i1 := i1) (t2 := t2) (i2 := i2) (scope := scope) (pos := pos) Inv h2 n h hs
  exact codeAny_compStart_list (lp s h1) (wpAny_pyIter_enum he (lp s h1))
theorem enumC {σ : Type} {elt t1 i1 i2 : Expr} {scope : Scope} {pos : Pos} (Kn : σ → Led) (adr : List Addr) (Fact : Led → σ → Nat → Prop) (mOK : (Str → Option Value) → Prop) (c₀ : σ)
    (hh : A.handled = none) (hei : e ≠ it) (hle : l ≠ e) (hli : l ≠ it) (hfp : ∀ b ∈ [e, it, l], b ∉ adr ∧ b ≠ env.locals) (ge : g.get? e = none) (gi : g.get? it = none) {old : Value} (he : IsEnum s.heap e it 0 old) (hit : s.heap.IsListIter it l 0) (hl : s.heap.IsList l vs.toArray)
    (hadr : ∀ c, (Kn c).map (·.1) = adr) (F : Fr g env.locals s.heap m₀) (N : News g env.locals s.heap led₀) (hK : ∀ p ∈ Kn c₀, p ∈ led₀) (mono : ∀ V U c i, Fact V c i → (∀ p ∈ V, p ∈ U) → Fact U c i) {V₀ : Led} (h0 : Fact V₀ c₀ 0) (hV : ∀ p ∈ V₀, p ∈ led₀ ∧ p.1 ∉ adr ∧ p.1 ∉ [e, it]) (hm : mOK m₀)
    (turn : ∀ (c : σ) (i : Nat) (v : Value) (t : Tok) (V tl : Led) h tk m, vs[i]? = some v → mOK m → Fact V c i → (∀ p ∈ V, p ∈ tl) → OwnOff tl adr → Fr g env.locals h (names2of xi xv i t v m) → News g env.locals h (Kn c ++ tl) →
      emitC prog w A elt env acc (fun s' => TurnEnd g env.locals Kn Fact (fun m _ _ => mOK m) adr V tl (i + 1) s s') { s with heap := h, toks := tk })
    (done : ∀ c V h tk m, Fact V c vs.length → mOK m → Fr g env.locals h m → News g env.locals h (Kn c ++ V) → OwnOff V adr → R (.ok .next) { s with heap := h, toks := tk })
    (hxi : env.kindOf xi = some .local := by rfl) (hxv : env.kindOf xv = some .local := by rfl) (hp : (env.scope.kind == .class || (env.scope.kind == .module && env.locals != env.globals)) = false := by rfl) :
    codeAny (model prog w) A (.compStart (.ListComp elt [⟨t1, i1, [], 0⟩, ⟨.Tuple [.Name xi pi, .Name xv pv] x1 pt, i2, [], 0⟩] scope pos) 1 (.ref e) acc env) R s := by
  obtain ⟨n, Inv, h1, h2⟩ := enum_loop (prog := prog) (w := w) (V₀ := V₀) (pi := pi) (pv := pv) (pt := pt) (x1 := x1) Kn adr Fact mOK c₀ (emitC prog w A elt env acc) emitC_mono hh hxi hxv hp hei hle hli hfp ge gi he hit hl hadr F N hK mono h0 hV hm
    (fun c i v t V tl h tk m hv hmk _ _ => turn c i v t V tl h tk m hv hmk) (fun s => R (.ok .next) s) (fun c V h tk m hF hmk F' N' o _ => done c V h tk m hF hmk F' N' o)
  have lp := fun s h => loopC (prog := prog) (w := w) (A := A) (s := s) (env := env) (I := e) (acc := acc) (R := R) (elt := elt) (t1 := t1) (i1 := i1) (i2 := i2) (scope := scope) (pos := pos) Inv h2 n h
  exact compStart_two (lp s h1) (wpAny_pyIter_enum he (lp s h1))
end
end S_OCompT6
section S_OStepA
theorem reg46 : True := by
  k_with_none
  k_with "mm" => ((repeat' (first | (with_reducible exact List.mem_cons_self) | (with_reducible assumption) | (with_reducible refine List.mem_cons_of_mem _ ?_))); done)
  k_with "sub" => ((repeat' (first | (with_reducible exact sub_nil _) | (with_reducible refine sub_cons ?_ ?_) | (with_reducible exact List.mem_cons_self) | (with_reducible refine List.mem_cons_of_mem _ ?_) | (with_reducible assumption) | (intro p9 hp9))); done)
  trivial
theorem call_step_as {m' : Str → Option Value} {g h h' : Heap} {L pen cells : Addr} {m : Str → Option Value} {led nl : Led} {c : C7} {o1 o2 o1' o2' : Obj} {W : List Addr} (F : Fr g L h m) (N : News g L h led) (hk : ∀ p ∈ c.led L [(pen, o1), (cells, o2)], p ∈ led) (F' : Fr g L h' m') (e : Ext (L :: W) h h') (hW : ∀ a ∈ W, a = pen ∨ a = cells) (B : Born h h' nl)
    (hp : h'.get? pen = some o1') (hc : h'.get? cells = some o2') (hne : pen ≠ L + 1 ∧ pen ≠ L + 1 + 1 ∧ pen ≠ L + 1 + 1 + 1 ∧ pen ≠ L + 1 + 1 + 1 + 1 ∧ pen ≠ L + 1 + 1 + 1 + 1 + 1 ∧ pen ≠ L + 1 + 1 + 1 + 1 + 1 + 1 ∧ pen ≠ L + 1 + 1 + 1 + 1 + 1 + 1 + 1)
    (hne2 : cells ≠ L + 1 ∧ cells ≠ L + 1 + 1 ∧ cells ≠ L + 1 + 1 + 1 ∧ cells ≠ L + 1 + 1 + 1 + 1 ∧ cells ≠ L + 1 + 1 + 1 + 1 + 1 ∧ cells ≠ L + 1 + 1 + 1 + 1 + 1 + 1 ∧ cells ≠ L + 1 + 1 + 1 + 1 + 1 + 1 + 1) :
    SteppedA g h' L pen cells c o1' o2' nl led := by
  have np := N (pen, o1) (hk _ (by first | walk_at "mm" | simp))
  have nc := N (cells, o2) (hk _ (by first | walk_at "mm" | simp))
  have offW : ∀ a ∈ W, a ≠ L ∧ g.get? a = none := fun a ha => by
    rcases hW a ha with rfl | rfl
    · exact np.2
    · exact nc.2
  have keep7 : ∀ p ∈ led, p.1 ≠ pen → p.1 ≠ cells → h'.get? p.1 = some p.2 := fun p hp' h1 h2 => e _ _ (N p hp').1 fun q => (List.mem_cons.mp q).elim (N p hp').2.1 fun q => (hW _ q).elim h1 h2
  obtain ⟨n1, n2, n3, n4, n5, n6, n7⟩ := hne
  obtain ⟨k1, k2, k3, k4, k5, k6, k7⟩ := hne2
  have N9 : News g L h' (c.led L [(pen, o1'), (cells, o2')]) := by
    intro p hp'
    simp only [List.mem_cons, List.not_mem_nil, or_false] at hp'
    rcases hp' with rfl | rfl | rfl | rfl | rfl | rfl | rfl | rfl | rfl
    · have z := hk (L + 1 + 1 + 1 + 1 + 1 + 1 + 1, c.chain) (by first | walk_at "mm" | simp)
      exact ⟨keep7 _ z n7.symm k7.symm, (N _ z).2⟩
    · have z := hk (L + 1 + 1 + 1 + 1 + 1 + 1, c.gens) (by first | walk_at "mm" | simp)
      exact ⟨keep7 _ z n6.symm k6.symm, (N _ z).2⟩
    · have z := hk (L + 1 + 1 + 1 + 1 + 1, c.numbers) (by first | walk_at "mm" | simp)
      exact ⟨keep7 _ z n5.symm k5.symm, (N _ z).2⟩
    · have z := hk (L + 1 + 1 + 1 + 1, c.spot) (by first | walk_at "mm" | simp)
      exact ⟨keep7 _ z n4.symm k4.symm, (N _ z).2⟩
    · have z := hk (L + 1 + 1 + 1, c.found) (by first | walk_at "mm" | simp)
      exact ⟨keep7 _ z n3.symm k3.symm, (N _ z).2⟩
    · have z := hk (L + 1 + 1, c.entries) (by first | walk_at "mm" | simp)
      exact ⟨keep7 _ z n2.symm k2.symm, (N _ z).2⟩
    · have z := hk (L + 1, c.pen) (by first | walk_at "mm" | simp)
      exact ⟨keep7 _ z n1.symm k1.symm, (N _ z).2⟩
    · exact ⟨hp, np.2⟩
    · exact ⟨hc, nc.2⟩
  obtain ⟨tl, N2, T⟩ := tail_of F' N9
  refine ⟨tl, N2, T.off, fun p hp' => ?_, fun p hp' hn => ?_⟩
  · have b := B p hp'
    have bn : ∀ q ∈ led, q.1 ≠ p.1 := fun q hq => New.ne b.2 (N q hq).1
    refine T.cov p.1 p.2 b.1 (fun q => ?_) ?_ (none_of' F b.2)
    · have : ∀ q ∈ c.led L [(pen, o1), (cells, o2)], q.1 ≠ p.1 := fun q hq => bn q (hk q hq)
      simp only [List.mem_cons, List.not_mem_nil, or_false, forall_eq_or_imp, forall_eq] at this
      simp only [List.map, List.mem_cons, List.not_mem_nil, or_false] at q
      obtain ⟨t1, t2, t3, t4, t5, t6, t7, t8, t9⟩ := this
      rcases q with q | q | q | q | q | q | q | q | q
      · exact t1 q.symm
      · exact t2 q.symm
      · exact t3 q.symm
      · exact t4 q.symm
      · exact t5 q.symm
      · exact t6 q.symm
      · exact t7 q.symm
      · exact t8 q.symm
      · exact t9 q.symm
    · obtain ⟨o, _, _, eL, _⟩ := F.ns
      exact (New.ne b.2 eL).symm
  · refine T.cov p.1 p.2 (keep7 p hp' (fun q => hn ?_) (fun q => hn ?_)) hn (N p hp').2.1 (N p hp').2.2
    · rw [q]; simp
    · rw [q]; simp
end S_OStepA
section S_OLaw1
theorem reg47 : True := by
  k_with_none
  k_with "mm" => ((repeat' (first | (with_reducible exact List.mem_cons_self) | (with_reducible assumption) | (with_reducible refine List.mem_cons_of_mem _ ?_))); done)
  k_with "sub" => ((repeat' (first | (with_reducible exact sub_nil _) | (with_reducible refine sub_cons ?_ ?_) | (with_reducible exact List.mem_cons_self) | (with_reducible refine List.mem_cons_of_mem _ ?_) | (with_reducible assumption) | (intro p9 hp9))); done)
  k_with "v_sees" => first | exact Sees.keep (by assumption) (Fr.keep (by k_asm)) | exact Sees.sub (News.sees (by k_asm)) (fun _ h => by first | exact h | (refine List.mem_cons_of_mem _ ?_; exact h) | (refine List.mem_cons_of_mem _ (List.mem_cons_of_mem _ ?_); exact h))
  k_with "eval Name" => (k_here; (with_reducible show wpAny _ _ (eval (Expr.Name _ _) (compEnvC _ _ _ _)) _ _ _); k_dflt (first | (refine' nameB_L ?zqF ?zqv ?_ ?zqa ?zqb; (case zqF => k_asm); (case zqv => assumption); (case zqa => rfl); (case zqb => rfl)) | (refine' nameB_C ?zqF ?zqc ?zqo ?zqd ?_ ?zqa ?zqb; (case zqF => k_asm); (case zqa => rfl); (case zqb => rfl); (case zqc => rfl); (case zqo => assumption); (case zqd => assumption)) | (refine' nameB_G ?zqF ?zqX ?zqT ?zqe ?_ ?zqg ?zqa ?zqb; (case zqF => k_asm); (case zqX => k_asm); (case zqT => k_asm); (case zqg => rfl); (case zqa => rfl); (case zqb => rfl); (case zqe => k_is)) | (refine' nameB_B ?zqF ?zqX ?zqT ?zqe ?zqv ?zqn ?_ ?zqg ?zqh ?zqa ?zqb; (case zqF => k_asm); (case zqX => k_asm); (case zqT => k_asm); (case zqg => rfl); (case zqh => rfl); (case zqa => rfl); (case zqb => rfl); (case zqe => k_is); (case zqv => boot_fast); (case zqn => decide))))
  k_with "getAttr ref" => (k_here; (with_reducible show wpAny _ _ (getAttr (Value.ref _) (PySem.Str.ofString "way") _) _ _ _); k_dflt (refine' ent_way ?zqF ?zqX ?zqS ?zqx ?_; (case zqx => assumption); (case zqF => k_asm); (case zqX => k_asm); (case zqS => walk_at "v_sees")); intro _)
  k_with "getAttr ref" => (k_here; (with_reducible show wpAny _ _ (getAttr (Value.ref _) (PySem.Str.ofString "one") _) _ _ _); k_dflt (refine' ent_one ?zqF ?zqX ?zqS ?zqx ?_; (case zqx => assumption); (case zqF => k_asm); (case zqX => k_asm); (case zqS => walk_at "v_sees")); intro _)
  k_with "getAttr ref" => (k_here; (with_reducible show wpAny _ _ (getAttr (Value.ref _) (PySem.Str.ofString "two") _) _ _ _); k_dflt (refine' ent_two ?zqF ?zqX ?zqS ?zqx ?_; (case zqx => assumption); (case zqF => k_asm); (case zqX => k_asm); (case zqS => walk_at "v_sees")); intro _)
  k_with "getMethod ref" => (k_here; (with_reducible show wpAny _ _ (getMethod (Value.ref _) (PySem.Str.ofString "told") _) _ _ _); k_dflt (refine' ent_told ?zqF ?zqX ?zqS ?zqx ?_; (case zqx => assumption); (case zqF => k_asm); (case zqX => k_asm); (case zqS => walk_at "v_sees")))
  k_with "call builtin:sorted" => (k_here; (with_reducible show wpAny _ _ (call (Value.builtin _) [Value.ref _]) _ _ _); k_dflt (refine' sorted_edict ?zqhh ?zqS ?zqD ?zqF ?zqN ?zqz ?_; (case zqhh => first | assumption | exact Rm.hd_deeper (by assumption) _); (case zqD => assumption); (case zqF => k_asm); (case zqN => k_asm); (case zqS => walk_at "v_sees"); (case zqz => omega)); intro _ _ _ _ _ _ _ _ _ _ _ _; (try k_sweep))
  k_with "subscriptTail" => (k_here; (with_reducible show wpAny _ _ (subscriptTail _ _ (Value.ref _) (Value.int _ _)) _ _ _); k_dflt (refine' edict_item ?zqS ?zqD ?zqv ?_; (case zqD => assumption); (case zqv => assumption); (case zqS => walk_at "v_sees")))
  k_with "call ref" => (k_here; k_dflt (refine' told_use ?zqR ?zqX ?zqT ?zqF ?zqN ?zqS ?zqEn ?_; (case zqEn => assumption); (case zqR => first | exact Rm.less (by assumption) (by omega) (by omega) | exact Rm.deeper (Rm.less (by assumption) (by omega) (by omega)) _); (case zqX => k_asm); (case zqT => k_asm); (case zqF => k_asm); (case zqN => k_asm); (case zqS => walk_at "v_sees")); intro _ _ _ _ _ _ _ _ _; (try k_sweep))
  k_with "eval ListComp" => (k_here; k_dflt (refine' comp_raw ?zqcl ?zqce ?zqk ?zqn ?zqx ?_; (case zqcl => exact rfl); (case zqce => decide); (case zqk => rfl); (case zqn => decide); (case zqx => rfl)))
  k_with "exec For Name Call cons nil" => (k_here; k_dflt (refine for_raw (by rfl) (by rfl) ?_))
  k_with "exec For Name Name cons nil" => (k_here; k_dflt (refine for_raw (by rfl) (by rfl) ?_))
  k_with "call ref" => (k_here; k_dflt (refine' entry_use ?zqR ?zqX ?zqT ?zqF ?zqN ?_; (case zqR => exact Rm.deeper (Rm.less (by assumption) (by omega) (by omega)) _); (case zqX => k_asm); (case zqT => k_asm); (case zqF => k_asm); (case zqN => k_asm)); intro _ _ _ _ _ _ _ _ _ _ _ _ _ _ _ _ _; rename_i l1 l2 gw' g1' g2' gt'; (try k_lt l1); (try k_lt2 l2); (try k_sweep); revert l1 l2 gw' g1' g2' gt'; intro _ _ _ _ _ _)
  k_with "setItem ref int ref" => (k_here; k_dflt (refine' dict_set_K ?zqF ?zqN ?zqU ?zqhd ?zqhz ?_; (case zqF => k_asm); (case zqN => k_asm); (case zqU => k_updF); (case zqhd => assumption); (case zqhz => assumption)); intro _ _ _ _ _; rename_i N' hd'; (try dsimp only at N'); (try k_sweep); revert N' hd'; intro _ _)
  k_with "getMethod ref" => (k_here; (with_reducible show wpAny _ _ (getMethod (Value.ref _) (PySem.Str.ofString "get") _) _ _ _); k_dflt (refine' get_method ?zqS ?zqD ?_; (case zqD => first | assumption | exact EDict.dict (by assumption)); (case zqS => walk_at "v_sees")))
  k_with "call builtin:dict.get" => (k_here; (with_reducible show wpAny _ _ (call (Value.builtin _) [Value.ref _, Value.int _ _, Value.int _ _]) _ _ _); k_dflt (refine' get0_raw ?zqS ?zqD ?zqhg ?_; (case zqD => assumption); (case zqhg => assumption); (case zqS => walk_at "v_sees")); intro _)
  k_with "exec Assign cons ListComp" => (k_here; k_dflt (refine' comp_assign ?zqsw ?zqcl ?zqce ?zqk ?zqn ?zqx ?zqy ?zqp ?_; (case zqsw => rfl); (case zqcl => exact rfl); (case zqce => decide); (case zqk => rfl); (case zqn => decide); (case zqx => rfl); (case zqy => rfl); (case zqp => rfl)))
  k_with "compareOp NotIn int ref" => (k_here; k_dflt (refine' edict_notin ?zqS ?zqD ?_; (case zqD => assumption); (case zqS => walk_at "v_sees")))
  k_with "compareOp In int ref" => (k_here; k_dflt (refine' edict_in ?zqS ?zqD ?_; (case zqD => assumption); (case zqS => walk_at "v_sees")))
  k_with "unpackItems ref" => (k_here; k_dflt (refine' unpackItemsN_ ?zqk1 ?zqk2 ?zqk3 ?zqk4 ?zqk5 ?_; (case zqk1 => k_asm); (case zqk2 => k_asm); (case zqk3 => kun_tup); (case zqk4 => first | assumption | exact Rm.hd_deeper (by assumption) _); (case zqk5 => exact rfl); k_whole); intro _ _ _; (try k_sweep))
  k_with "assign Tuple" => (k_here; (with_reducible show wpAny _ _ (assign (Expr.Tuple _ _ _) _ (Value.ref _)) _ _ _); k_dflt (refine' unpackN_ ?zqk1 ?zqk2 ?zqk3 ?zqk4 ?zqk5 ?zqk6 ?_; (case zqk1 => k_asm); (case zqk2 => k_asm); (case zqk3 => first | kun_tup | exact tup_sees (by assumption) (by walk_at "v_sees")); (case zqk4 => first | assumption | exact Rm.hd_deeper (by assumption) _); (case zqk5 => exact rfl); (case zqk6 => exact rfl); k_whole); intro _ _ _; (try k_sweep))
  k_with "getAttr ref" => (k_here; (with_reducible show wpAny _ _ (getAttr (Value.ref _) (PySem.Str.ofString "way") _) _ _ _); k_dflt (refine' ent_way' ?zqF ?zqX ?zqS ?zqx ?zqv ?_; (case zqx => assumption); (case zqv => assumption); (case zqF => k_asm); (case zqX => k_asm); (case zqS => walk_at "v_sees")); intro _)
  k_with "getAttr ref" => (k_here; (with_reducible show wpAny _ _ (getAttr (Value.ref _) (PySem.Str.ofString "one") _) _ _ _); k_dflt (refine' ent_one' ?zqF ?zqX ?zqS ?zqx ?zqv ?_; (case zqx => assumption); (case zqv => assumption); (case zqF => k_asm); (case zqX => k_asm); (case zqS => walk_at "v_sees")); intro _)
  k_with "getAttr ref" => (k_here; (with_reducible show wpAny _ _ (getAttr (Value.ref _) (PySem.Str.ofString "two") _) _ _ _); k_dflt (refine' ent_two' ?zqF ?zqX ?zqS ?zqx ?zqv ?_; (case zqx => assumption); (case zqv => assumption); (case zqF => k_asm); (case zqX => k_asm); (case zqS => walk_at "v_sees")); intro _)
  k_with "call builtin:dict.get" => (k_here; (with_reducible show wpAny _ _ (call (Value.builtin _) [Value.ref _, Value.int _ _]) _ _ _); k_dflt (refine' edict_get ?zqS ?zqD ?zqv ?_; (case zqD => assumption); (case zqv => assumption); (case zqS => walk_at "v_sees")))
  k_with "rm_room" => first | exact Rm.less (by assumption) (by omega) (by omega) | exact Rm.deeper (Rm.less (by assumption) (by omega) (by omega)) _
  k_with "call ref" => (k_here; (with_reducible show wpAny _ _ (call (Value.ref 92) _) _ _ _); k_dflt (refine' fnum_use ?zqR ?zqX ?zqT ?zqF ?zqN ?zqS ?zqD ?zqC ?zqz ?zqo ?_; (case zqR => walk_at "rm_room"); (case zqX => k_asm); (case zqT => k_asm); (case zqF => k_asm); (case zqN => k_asm); (case zqD => assumption); (case zqS => walk_at "v_sees"); (case zqC => assumption); (case zqz => omega); (case zqo => assumption)); intro _ _ _ _ _ _ _ _ _; (try k_sweep))
  k_with "call ref" => (k_here; (with_reducible show wpAny _ _ (call (Value.ref 99) _) _ _ _); k_dflt (refine' chain_use ?zqR ?zqX ?zqT ?zqF ?zqN ?zqS ?zqD ?zqC ?zqz ?_; (case zqR => walk_at "rm_room"); (case zqX => k_asm); (case zqT => k_asm); (case zqF => k_asm); (case zqN => k_asm); (case zqD => assumption); (case zqS => walk_at "v_sees"); (case zqC => assumption); (case zqz => omega)); intro _ _ _ _ _ _ _ _ _; (try k_sweep))
  k_with "call ref" => (k_here; (with_reducible show wpAny _ _ (call (Value.ref 170) _) _ _ _); k_dflt (refine' ring_use ?zqR ?zqX ?zqT ?zqF ?zqN ?zqS ?zqD ?zqC ?zqz ?_; (case zqR => walk_at "rm_room"); (case zqX => k_asm); (case zqT => k_asm); (case zqF => k_asm); (case zqN => k_asm); (case zqD => assumption); (case zqS => walk_at "v_sees"); (case zqC => assumption); (case zqz => omega)); intro _ _ _ _ _ _ _ _ _; (try k_sweep))
  k_with "compareOp In int ref" => (k_here; k_dflt (refine' edict_in_b ?zqS ?zqD ?zqb ?_; (case zqD => assumption); (case zqb => assumption); (case zqS => walk_at "v_sees")))
  k_with "compareOp NotIn int ref" => (k_here; k_dflt (refine' edict_notin_b ?zqS ?zqD ?zqb ?_; (case zqD => assumption); (case zqb => assumption); (case zqS => walk_at "v_sees")))
  k_with "v_sees" => first | exact Sees.keep (by assumption) (Fr.keep (by k_asm)) | exact Sees.sub (News.sees (by k_asm)) (fun _ h => by repeat (first | exact h | refine List.mem_cons_of_mem _ ?_))
  k_with "call ref" => (k_here; (with_reducible show wpAny _ _ (call (Value.ref 144) _) _ _ _); k_dflt (refine' draw_use ?zqR ?zqX ?zqT ?zqF ?zqN ?zqP ?zqU1 ?zqU2 ?zqne ?zqlo ?zqhi ?_; (case zqR => walk_at "rm_room"); (case zqX => k_asm); (case zqT => k_asm); (case zqF => k_asm); (case zqN => k_asm); (case zqP => assumption); (case zqU1 => k_updF); (case zqU2 => (intro o9; (try dsimp only); k_updF)); (case zqne => assumption); (case zqlo => omega); (case zqhi => omega)); intro _ _ _ _ _ _ _ _ _ _ _; rename_i N'; (try dsimp only at N'); (try k_sweep); revert N'; intro _)
  trivial
theorem law1 {w : World} {A : Around} {E : Value → Shared → Prop} {s : Shared} {Q : Flow → Shared → Prop} {g : Heap} {L fa sl : Addr} {cdv : Value} {sc : Scope} {c : C7} {m : Str → Option Value} {l : List Str} {mg mb : Str → Option Value} {vs : List Value} {ns : List Int}
    (hsc : IsScope w sc) (R : Rm A 8 300) (X : (hd.heap_1 w.params).In g) (T : TopRead qv l mg mb g)
    (F : Fr g L s.heap m) (N : News g L s.heap (c.led L [])) (H : c.Holds none none none none none none none) (hm : m (Str.ofString "script") = some (.ref sl)) (hl : g.IsList sl vs.toArray) (hi : IntsAre vs ns) (hz : ns.length ≤ 63)
    (K : ∀ s', s'.os = s.os → s'.gens = s.gens → St4 w g L s' → wpAny (model PR w) A (execs ((lawBody w).drop 4) (envOfC (Str.ofString "law") sc L fa cdv)) Q E s') :
    wpAny (model PR w) A (execs ((lawBody w).drop 0) (envOfC (Str.ofString "law") sc L fa cdv)) Q E s := by
  refine stage_cut (n := 0) (k := 4) (X := fun bd sc => (∀ s', s'.os = s.os → s'.gens = s.gens → St4 w g L s' → wpAny (model PR w) A (execs ((lawBody w).drop 4) (envOfC (Str.ofString "law") sc L fa cdv)) Q E s') → wpAny (model PR w) A (execs bd (envOfC (Str.ofString "law") sc L fa cdv)) Q E s) hsc (by k_is) (fun K => ?_) K
  simp only [List.drop_succ_cons, List.drop_zero, List.take_succ_cons, List.take_zero, List.cons_append, List.nil_append, Nat.zero_add]
  generalize List.drop 4 (lawBody w) = rest at K ⊢
  obtain ⟨u, rfl⟩ := nam1 hm
  have hhA := R.hd
  obtain ⟨cc, cg, cn, cs, cf, ce, cp⟩ := c
  obtain ⟨y1, y2, y3, y4, y5, y6, y7⟩ := H
  dsimp only [C7.led] at N y1 y2 y3 y4 y5 y6 y7
  k_steps
  refine pen_spec (R.less (by omega) (by omega)) ⟨X, l, mg, mb, T⟩ F.keep (hl.at fun o e => F.keep _ _ e) hi hz fun pen cells o1 o2 h1 tk1 e1 b1 hne P => ?_
  obtain ⟨F1, N1, q1⟩ := born_two F N e1 b1
  simp only [List.cons_append, List.nil_append] at N1
  simp only [List.mem_cons, List.not_mem_nil, or_false, forall_eq_or_imp, forall_eq] at q1
  have N1 : News g L h1 ((L + 1 + 1 + 1 + 1 + 1 + 1 + 1, cc) :: (L + 1 + 1 + 1 + 1 + 1 + 1, cg) :: (L + 1 + 1 + 1 + 1 + 1, cn) :: (L + 1 + 1 + 1 + 1, cs) :: (L + 1 + 1 + 1, cf) :: (L + 1 + 1, ce) :: (L + 1, cp) :: (pen, o1) :: (cells, o2) :: []) := fun p hp => N1 p (by first | exact (show ∀ q ∈ _, q ∈ _ from by walk_at "sub") p hp | (simp only [List.mem_cons, List.not_mem_nil, or_false] at hp ⊢; rcases hp with h | h | h | h | h | h | h | h | h <;> simp [h]))
  obtain ⟨⟨a1, b1⟩, ⟨a2, b2⟩, ⟨a3, b3⟩, ⟨a4, b4⟩, ⟨a5, b5⟩, ⟨a6, b6⟩, ⟨a7, b7⟩⟩ := q1
  have AP : Apart L pen cells := ⟨hne, ⟨a7.symm, a6.symm, a5.symm, a4.symm, a3.symm, a2.symm, a1.symm⟩, ⟨b7.symm, b6.symm, b5.symm, b4.symm, b3.symm, b2.symm, b1.symm⟩⟩
  clear F N e1 a1 a2 a3 a4 a5 a6 a7 b1 b2 b3 b4 b5 b6 b7
  obtain ⟨⟨w0, w1, w2, w3, w4, w5, w6, w7⟩, ⟨v1, v2, v3, v4, v5, v6, v7⟩⟩ := AP.nat
  k_steps
  rename_i h2 op F2 N2 yp
  refine entries_spec (R.less (by omega) (by omega)) ⟨X, l, mg, mb, T⟩ F2.keep hne (N2 (pen, o1) (by first | walk_at "mm" | simp)).2.2 (N2 (cells, o2) (by first | walk_at "mm" | simp)).2.2 (N2 (pen, o1) (by first | walk_at "mm" | simp)).1 (N2 (cells, o2) (by first | walk_at "mm" | simp)).1 P fun de es nl h3 tk3 o1 o2 e3 B3 D hzE hkE hp3 hc3 P => ?_
  obtain ⟨F3, tl, N3, off, s1, -⟩ := call_step (c := ⟨cc, cg, cn, cs, cf, ce, op⟩) F2 N2 (fun p hp => by simpa using hp) e3 (fun a ha => by simpa using ha) B3 hp3 hc3 AP.p AP.c
  have D := D.mono s1
  dsimp only [C7.led] at N3
  dsimp only [adr9] at off
  clear F2 N2 e3 s1
  k_steps
  rename_i r tr h4 tk4 p1 p2 hr0 hr1 P4 _ h5 _ h6 h7 oe ye h8 F8 N8
  refine told_spec (R.less (by omega) (by omega)) ⟨X, l, mg, mb, T⟩ F8.keep (Sees.sub (News.sees N8) fun p hp => by first | walk_at "mm" | simp [hp]) D (by omega) fun rb nl2 ks ysb nb h9 tk9 e9 B9 hks hkso hrb hDb => ?_
  obtain ⟨F9, tl9, N9, off9, s9, t9⟩ := call_still (c := ⟨cc, cg, cn, cs, cf, oe, op⟩) (o1 := p1) (o2 := p2) AP F8 N8 (fun p hp => by simp only [List.mem_cons, List.not_mem_nil, or_false] at hp ⊢; rcases hp with h | h | h | h | h | h | h | h | h <;> simp [h]) (fun p hp => by first | walk_at "mm" | simp [hp]) off e9 B9
  have D := D.mono t9
  have hrb := s9 _ hrb
  have hDb := hDb.mono s9
  dsimp only [C7.led] at N9
  dsimp only [adr9] at off9
  clear F8 N8 e9 off
  k_steps
  rename_i h10 F10 N10
  refine with_spec (R.less (by omega) (by omega)) ⟨X, l, mg, mb, T⟩ F10.keep (Sees.sub (News.sees N10) fun p hp => by first | walk_at "mm" | simp [hp]) D (by omega) (fun p hp => (hkE p hp).1) (by omega) (by omega) fun df nw ch h11 tk11 e11 B11 Df hch => ?_
  obtain ⟨F11, tl, N11, off, s11, t11⟩ := call_still (c := ⟨cc, cg, cn, cs, cf, oe, op⟩) (o1 := p1) (o2 := p2) AP F10 N10 (fun p hp => by simp only [List.mem_cons, List.not_mem_nil, or_false] at hp ⊢; rcases hp with h | h | h | h | h | h | h | h | h <;> simp [h]) (fun p hp => by first | walk_at "mm" | simp [hp]) off9 e11 B11
  have D := D.mono t11
  have Df := Df.mono fun p hp => (List.mem_append.mp hp).elim (s11 p) (t11 p)
  have hrb := t11 _ hrb
  have hDb := hDb.mono t11
  dsimp only [C7.led] at N11
  dsimp only [adr9] at off
  clear F10 N10 e11 off9
  k_steps
  rename_i h12 of F12 N12 yf
  obtain ⟨u, F12⟩ := fr2 F12 (a := Str.ofString "before") (b := Str.ofString "top") (x := some (.ref rb)) (y := some (.int (1 + r) tk4)) rfl rfl
  exact K _ rfl rfl ⟨⟨cc, cg, cn, cs, of, oe, op⟩, pen, cells, p1, p2, tl, u, de, df, rb, es, ch, 1 + r, tk4, ks, ysb, nb, ⟨F12, N12, off, AP, P4⟩, ⟨y1, y2, y3, y4, yf, ye, yp⟩, ⟨D, hzE, hkE, by omega, by omega, Df, hch, hrb, hDb, hks, hkso⟩⟩
end S_OLaw1
section S_OLaw2
theorem reg48 : True := by
  k_with_none
  k_with "mm" => ((repeat' (first | (with_reducible exact List.mem_cons_self) | (with_reducible assumption) | (with_reducible refine List.mem_cons_of_mem _ ?_))); done)
  k_with "sub" => ((repeat' (first | (with_reducible exact sub_nil _) | (with_reducible refine sub_cons ?_ ?_) | (with_reducible exact List.mem_cons_self) | (with_reducible refine List.mem_cons_of_mem _ ?_) | (with_reducible assumption) | (intro p9 hp9))); done)
  k_with "v_sees" => first | exact Sees.keep (by assumption) (Fr.keep (by k_asm)) | exact Sees.sub (News.sees (by k_asm)) (fun _ h => by first | exact h | (refine List.mem_cons_of_mem _ ?_; exact h) | (refine List.mem_cons_of_mem _ (List.mem_cons_of_mem _ ?_); exact h))
  k_with "eval Name" => (k_here; (with_reducible show wpAny _ _ (eval (Expr.Name _ _) (compEnvC _ _ _ _)) _ _ _); k_dflt (first | (refine' nameB_L ?zqF ?zqv ?_ ?zqa ?zqb; (case zqF => k_asm); (case zqv => assumption); (case zqa => rfl); (case zqb => rfl)) | (refine' nameB_C ?zqF ?zqc ?zqo ?zqd ?_ ?zqa ?zqb; (case zqF => k_asm); (case zqa => rfl); (case zqb => rfl); (case zqc => rfl); (case zqo => assumption); (case zqd => assumption)) | (refine' nameB_G ?zqF ?zqX ?zqT ?zqe ?_ ?zqg ?zqa ?zqb; (case zqF => k_asm); (case zqX => k_asm); (case zqT => k_asm); (case zqg => rfl); (case zqa => rfl); (case zqb => rfl); (case zqe => k_is)) | (refine' nameB_B ?zqF ?zqX ?zqT ?zqe ?zqv ?zqn ?_ ?zqg ?zqh ?zqa ?zqb; (case zqF => k_asm); (case zqX => k_asm); (case zqT => k_asm); (case zqg => rfl); (case zqh => rfl); (case zqa => rfl); (case zqb => rfl); (case zqe => k_is); (case zqv => boot_fast); (case zqn => decide))))
  k_with "getAttr ref" => (k_here; (with_reducible show wpAny _ _ (getAttr (Value.ref _) (PySem.Str.ofString "way") _) _ _ _); k_dflt (refine' ent_way ?zqF ?zqX ?zqS ?zqx ?_; (case zqx => assumption); (case zqF => k_asm); (case zqX => k_asm); (case zqS => walk_at "v_sees")); intro _)
  k_with "getAttr ref" => (k_here; (with_reducible show wpAny _ _ (getAttr (Value.ref _) (PySem.Str.ofString "one") _) _ _ _); k_dflt (refine' ent_one ?zqF ?zqX ?zqS ?zqx ?_; (case zqx => assumption); (case zqF => k_asm); (case zqX => k_asm); (case zqS => walk_at "v_sees")); intro _)
  k_with "getAttr ref" => (k_here; (with_reducible show wpAny _ _ (getAttr (Value.ref _) (PySem.Str.ofString "two") _) _ _ _); k_dflt (refine' ent_two ?zqF ?zqX ?zqS ?zqx ?_; (case zqx => assumption); (case zqF => k_asm); (case zqX => k_asm); (case zqS => walk_at "v_sees")); intro _)
  k_with "getMethod ref" => (k_here; (with_reducible show wpAny _ _ (getMethod (Value.ref _) (PySem.Str.ofString "told") _) _ _ _); k_dflt (refine' ent_told ?zqF ?zqX ?zqS ?zqx ?_; (case zqx => assumption); (case zqF => k_asm); (case zqX => k_asm); (case zqS => walk_at "v_sees")))
  k_with "call builtin:sorted" => (k_here; (with_reducible show wpAny _ _ (call (Value.builtin _) [Value.ref _]) _ _ _); k_dflt (refine' sorted_edict ?zqhh ?zqS ?zqD ?zqF ?zqN ?zqz ?_; (case zqhh => first | assumption | exact Rm.hd_deeper (by assumption) _); (case zqD => assumption); (case zqF => k_asm); (case zqN => k_asm); (case zqS => walk_at "v_sees"); (case zqz => omega)); intro _ _ _ _ _ _ _ _ _ _ _ _; (try k_sweep))
  k_with "subscriptTail" => (k_here; (with_reducible show wpAny _ _ (subscriptTail _ _ (Value.ref _) (Value.int _ _)) _ _ _); k_dflt (refine' edict_item ?zqS ?zqD ?zqv ?_; (case zqD => assumption); (case zqv => assumption); (case zqS => walk_at "v_sees")))
  k_with "call ref" => (k_here; k_dflt (refine' told_use ?zqR ?zqX ?zqT ?zqF ?zqN ?zqS ?zqEn ?_; (case zqEn => assumption); (case zqR => first | exact Rm.less (by assumption) (by omega) (by omega) | exact Rm.deeper (Rm.less (by assumption) (by omega) (by omega)) _); (case zqX => k_asm); (case zqT => k_asm); (case zqF => k_asm); (case zqN => k_asm); (case zqS => walk_at "v_sees")); intro _ _ _ _ _ _ _ _ _; (try k_sweep))
  k_with "eval ListComp" => (k_here; k_dflt (refine' comp_raw ?zqcl ?zqce ?zqk ?zqn ?zqx ?_; (case zqcl => exact rfl); (case zqce => decide); (case zqk => rfl); (case zqn => decide); (case zqx => rfl)))
  k_with "exec For Name Call cons nil" => (k_here; k_dflt (refine for_raw (by rfl) (by rfl) ?_))
  k_with "exec For Name Name cons nil" => (k_here; k_dflt (refine for_raw (by rfl) (by rfl) ?_))
  k_with "call ref" => (k_here; k_dflt (refine' entry_use ?zqR ?zqX ?zqT ?zqF ?zqN ?_; (case zqR => exact Rm.deeper (Rm.less (by assumption) (by omega) (by omega)) _); (case zqX => k_asm); (case zqT => k_asm); (case zqF => k_asm); (case zqN => k_asm)); intro _ _ _ _ _ _ _ _ _ _ _ _ _ _ _ _ _; rename_i l1 l2 gw' g1' g2' gt'; (try k_lt l1); (try k_lt2 l2); (try k_sweep); revert l1 l2 gw' g1' g2' gt'; intro _ _ _ _ _ _)
  k_with "setItem ref int ref" => (k_here; k_dflt (refine' dict_set_K ?zqF ?zqN ?zqU ?zqhd ?zqhz ?_; (case zqF => k_asm); (case zqN => k_asm); (case zqU => k_updF); (case zqhd => assumption); (case zqhz => assumption)); intro _ _ _ _ _; rename_i N' hd'; (try dsimp only at N'); (try k_sweep); revert N' hd'; intro _ _)
  k_with "getMethod ref" => (k_here; (with_reducible show wpAny _ _ (getMethod (Value.ref _) (PySem.Str.ofString "get") _) _ _ _); k_dflt (refine' get_method ?zqS ?zqD ?_; (case zqD => first | assumption | exact EDict.dict (by assumption)); (case zqS => walk_at "v_sees")))
  k_with "call builtin:dict.get" => (k_here; (with_reducible show wpAny _ _ (call (Value.builtin _) [Value.ref _, Value.int _ _, Value.int _ _]) _ _ _); k_dflt (refine' get0_raw ?zqS ?zqD ?zqhg ?_; (case zqD => assumption); (case zqhg => assumption); (case zqS => walk_at "v_sees")); intro _)
  k_with "exec Assign cons ListComp" => (k_here; k_dflt (refine' comp_assign ?zqsw ?zqcl ?zqce ?zqk ?zqn ?zqx ?zqy ?zqp ?_; (case zqsw => rfl); (case zqcl => exact rfl); (case zqce => decide); (case zqk => rfl); (case zqn => decide); (case zqx => rfl); (case zqy => rfl); (case zqp => rfl)))
  k_with "compareOp NotIn int ref" => (k_here; k_dflt (refine' edict_notin ?zqS ?zqD ?_; (case zqD => assumption); (case zqS => walk_at "v_sees")))
  k_with "compareOp In int ref" => (k_here; k_dflt (refine' edict_in ?zqS ?zqD ?_; (case zqD => assumption); (case zqS => walk_at "v_sees")))
  k_with "unpackItems ref" => (k_here; k_dflt (refine' unpackItemsN_ ?zqk1 ?zqk2 ?zqk3 ?zqk4 ?zqk5 ?_; (case zqk1 => k_asm); (case zqk2 => k_asm); (case zqk3 => kun_tup); (case zqk4 => first | assumption | exact Rm.hd_deeper (by assumption) _); (case zqk5 => exact rfl); k_whole); intro _ _ _; (try k_sweep))
  k_with "assign Tuple" => (k_here; (with_reducible show wpAny _ _ (assign (Expr.Tuple _ _ _) _ (Value.ref _)) _ _ _); k_dflt (refine' unpackN_ ?zqk1 ?zqk2 ?zqk3 ?zqk4 ?zqk5 ?zqk6 ?_; (case zqk1 => k_asm); (case zqk2 => k_asm); (case zqk3 => first | kun_tup | exact tup_sees (by assumption) (by walk_at "v_sees")); (case zqk4 => first | assumption | exact Rm.hd_deeper (by assumption) _); (case zqk5 => exact rfl); (case zqk6 => exact rfl); k_whole); intro _ _ _; (try k_sweep))
  k_with "getAttr ref" => (k_here; (with_reducible show wpAny _ _ (getAttr (Value.ref _) (PySem.Str.ofString "way") _) _ _ _); k_dflt (refine' ent_way' ?zqF ?zqX ?zqS ?zqx ?zqv ?_; (case zqx => assumption); (case zqv => assumption); (case zqF => k_asm); (case zqX => k_asm); (case zqS => walk_at "v_sees")); intro _)
  k_with "getAttr ref" => (k_here; (with_reducible show wpAny _ _ (getAttr (Value.ref _) (PySem.Str.ofString "one") _) _ _ _); k_dflt (refine' ent_one' ?zqF ?zqX ?zqS ?zqx ?zqv ?_; (case zqx => assumption); (case zqv => assumption); (case zqF => k_asm); (case zqX => k_asm); (case zqS => walk_at "v_sees")); intro _)
  k_with "getAttr ref" => (k_here; (with_reducible show wpAny _ _ (getAttr (Value.ref _) (PySem.Str.ofString "two") _) _ _ _); k_dflt (refine' ent_two' ?zqF ?zqX ?zqS ?zqx ?zqv ?_; (case zqx => assumption); (case zqv => assumption); (case zqF => k_asm); (case zqX => k_asm); (case zqS => walk_at "v_sees")); intro _)
  k_with "call builtin:dict.get" => (k_here; (with_reducible show wpAny _ _ (call (Value.builtin _) [Value.ref _, Value.int _ _]) _ _ _); k_dflt (refine' edict_get ?zqS ?zqD ?zqv ?_; (case zqD => assumption); (case zqv => assumption); (case zqS => walk_at "v_sees")))
  k_with "rm_room" => first | exact Rm.less (by assumption) (by omega) (by omega) | exact Rm.deeper (Rm.less (by assumption) (by omega) (by omega)) _
  k_with "call ref" => (k_here; (with_reducible show wpAny _ _ (call (Value.ref 92) _) _ _ _); k_dflt (refine' fnum_use ?zqR ?zqX ?zqT ?zqF ?zqN ?zqS ?zqD ?zqC ?zqz ?zqo ?_; (case zqR => walk_at "rm_room"); (case zqX => k_asm); (case zqT => k_asm); (case zqF => k_asm); (case zqN => k_asm); (case zqD => assumption); (case zqS => walk_at "v_sees"); (case zqC => assumption); (case zqz => omega); (case zqo => assumption)); intro _ _ _ _ _ _ _ _ _; (try k_sweep))
  k_with "call ref" => (k_here; (with_reducible show wpAny _ _ (call (Value.ref 99) _) _ _ _); k_dflt (refine' chain_use ?zqR ?zqX ?zqT ?zqF ?zqN ?zqS ?zqD ?zqC ?zqz ?_; (case zqR => walk_at "rm_room"); (case zqX => k_asm); (case zqT => k_asm); (case zqF => k_asm); (case zqN => k_asm); (case zqD => assumption); (case zqS => walk_at "v_sees"); (case zqC => assumption); (case zqz => omega)); intro _ _ _ _ _ _ _ _ _; (try k_sweep))
  k_with "call ref" => (k_here; (with_reducible show wpAny _ _ (call (Value.ref 170) _) _ _ _); k_dflt (refine' ring_use ?zqR ?zqX ?zqT ?zqF ?zqN ?zqS ?zqD ?zqC ?zqz ?_; (case zqR => walk_at "rm_room"); (case zqX => k_asm); (case zqT => k_asm); (case zqF => k_asm); (case zqN => k_asm); (case zqD => assumption); (case zqS => walk_at "v_sees"); (case zqC => assumption); (case zqz => omega)); intro _ _ _ _ _ _ _ _ _; (try k_sweep))
  k_with "compareOp In int ref" => (k_here; k_dflt (refine' edict_in_b ?zqS ?zqD ?zqb ?_; (case zqD => assumption); (case zqb => assumption); (case zqS => walk_at "v_sees")))
  k_with "compareOp NotIn int ref" => (k_here; k_dflt (refine' edict_notin_b ?zqS ?zqD ?zqb ?_; (case zqD => assumption); (case zqb => assumption); (case zqS => walk_at "v_sees")))
  k_with "v_sees" => first | exact Sees.keep (by assumption) (Fr.keep (by k_asm)) | exact Sees.sub (News.sees (by k_asm)) (fun _ h => by repeat (first | exact h | refine List.mem_cons_of_mem _ ?_))
  k_with "call ref" => (k_here; (with_reducible show wpAny _ _ (call (Value.ref 144) _) _ _ _); k_dflt (refine' draw_use ?zqR ?zqX ?zqT ?zqF ?zqN ?zqP ?zqU1 ?zqU2 ?zqne ?zqlo ?zqhi ?_; (case zqR => walk_at "rm_room"); (case zqX => k_asm); (case zqT => k_asm); (case zqF => k_asm); (case zqN => k_asm); (case zqP => assumption); (case zqU1 => k_updF); (case zqU2 => (intro o9; (try dsimp only); k_updF)); (case zqne => assumption); (case zqlo => omega); (case zqhi => omega)); intro _ _ _ _ _ _ _ _ _ _ _; rename_i N'; (try dsimp only at N'); (try k_sweep); revert N'; intro _)
  trivial
theorem law2 {w : World} {A : Around} {E : Value → Shared → Prop} {s : Shared} {Q : Flow → Shared → Prop} {g : Heap} {L fa : Addr} {cdv : Value} {sc : Scope} {l : List Str} {mg mb : Str → Option Value}
    (hsc : IsScope w sc) (R : Rm A 8 300) (X : (hd.heap_1 w.params).In g) (T : TopRead qv l mg mb g) (S : St4 w g L s)
    (K : ∀ s', s'.os = s.os → s'.gens = s.gens → St5 w g L s' → wpAny (model PR w) A (execs ((lawBody w).drop 5) (envOfC (Str.ofString "law") sc L fa cdv)) Q E s') :
    wpAny (model PR w) A (execs ((lawBody w).drop 4) (envOfC (Str.ofString "law") sc L fa cdv)) Q E s := by
  refine stage_cut (n := 4) (k := 1) (X := fun bd sc => (∀ s', s'.os = s.os → s'.gens = s.gens → St5 w g L s' → wpAny (model PR w) A (execs ((lawBody w).drop 5) (envOfC (Str.ofString "law") sc L fa cdv)) Q E s') → wpAny (model PR w) A (execs bd (envOfC (Str.ofString "law") sc L fa cdv)) Q E s) hsc (by k_is) (fun K => ?_) K
  simp only [List.drop_succ_cons, List.drop_zero, List.take_succ_cons, List.take_zero, List.cons_append, List.nil_append, Nat.zero_add]
  generalize List.drop 5 (lawBody w) = rest at K ⊢
  have hhA := R.hd
  obtain ⟨⟨cc, cg, cn, cs, cf, ce, cp⟩, pen, cells, o1, o2, tl, u, de, df, rb, es, ch, top, tt, ks, ysb, nb, ⟨F, N, off, AP, P⟩, ⟨y1, y2, y3, y4, y5, y6, y7⟩, EN⟩ := S
  obtain ⟨⟨w0, w1, w2, w3, w4, w5, w6, w7⟩, ⟨v1, v2, v3, v4, v5, v6, v7⟩⟩ := AP.nat
  dsimp only [C7.led] at N y1 y2 y3 y4 y5 y6 y7
  dsimp only [adr9] at off
  have ht1 := EN.t1
  have ht2 := EN.t2
  k_steps
  rename_i l0 h1 _ _ l1 h2 tk2 t2 u2 v2' hr F2 N2 k2
  have st0 : Sees tl h2 := Sees.sub (News.sees N2) fun p hp => by first | walk_at "mm" | simp [hp]
  refine range_comp (σ := Unit) (fun _ => []) [] (fun V _ i ys => IntsAre ys (((List.range i).map fun (j : Nat) => (1 + (j : Int))).filter fun k => !decide (k ∈ es.map (·.1)))) () R.hd hr (by omega) (by omega) (by omega) (by omega) (fun _ => rfl) (fun p hp => nomatch hp) (fun V U c i ys h sub => h) (fun V c i ys h => by have h1 := h.length; have h2 := List.length_filter_le (fun k => !decide (k ∈ es.map (·.1))) ((List.range i).map fun (j : Nat) => (1 + (j : Int))); rw [List.length_map, List.length_range] at h2; omega) .nil ?turn ?done
  case turn =>
    rintro c i t ys U tl' s' C h tk m g' rfl hC kp' hi hD sub off' hx F3 N3
    have st' : g.StaysIn g' := fun a o e => kp' a o (F2.keep a o e) (fun q => nomatch q)
    have X := X.keeps st'
    have T := T.keeps st'
    have Sg' : Sees tl g' := fun p hp => kp' _ _ (st0 p hp) (fun q => nomatch q)
    have hc' := kp' _ _ (N2 (L + 1 + 1, ce) (by first | walk_at "mm" | simp)).1 (fun q => nomatch q)
    have D := EN.D
    simp only [List.nil_append] at N3
    refine wpAny_tests_one ?_
    k_steps
    all_goals
      rename_i hmem
      refine CTurnEnd.intro F3 N3 () [] (fun p hp => nomatch hp) (fun p hp => hp) (fun p hp => nomatch hp) ?_
      show IntsAre _ _
      rw [List.range_succ, List.map_append, List.filter_append]
      simp only [List.map_cons, List.map_nil, List.filter_cons, List.filter_nil]
      first
      | (rw [decide_eq_true hmem]; simp only [Bool.not_true, Bool.false_eq_true, if_false, List.append_nil]; exact hD)
      | (rw [decide_eq_false hmem]; simp only [Bool.not_false, if_true]; exact hD.append (.cons _ _ .nil))
  case done =>
    rintro c U C D' ys h tk s₂ hD hE' _ hB hC hCD hVC ⟨o, rfl⟩
    intro h' sb
    obtain ⟨e1, b1⟩ := comp_close hE' hB hC sb (fun p hp => by
      rcases List.mem_cons.mp hp with rfl | hp
      · exact hCD.symm
      · exact hVC p hp)
    obtain ⟨N3, nD⟩ := news_two (o := W.listOf ys.toArray ys.length) F2 N2 e1.keep (b1 _ List.mem_cons_self).2 (b1 _ List.mem_cons_self).1
    have F3 := Fr.keeps F2 e1.keep
    dsimp only at N3
    change IntsAre ys (lackL top es) at hD
    have hll := EN.lens.1
    clear hE' hB e1 b1 F2 N2
    refine kmk_add_ints F3 N3 ⟨_, (N3 (l0, _) (List.mem_cons_of_mem _ List.mem_cons_self)).1, rfl, ⟨_, rfl⟩⟩ ⟨_, (N3 _ List.mem_cons_self).1, rfl, ⟨_, rfl⟩⟩ (.cons 0 _ .nil) hD (fun ll us h4 F4 N4 l4 hu => ?_) (by rw [sizeLine_eq]; simp; omega)
    have o9 := not9_lt (c := ⟨cc, cg, cn, cs, cf, ce, cp⟩) (L := L) (pen := pen) (cells := cells) (o1 := o1) (o2 := o2) l4 (by first | walk_at "sub" | exact (fun p hp => by (simp only [List.mem_cons, List.not_mem_nil, or_false] at hp ⊢; rcases hp with h | h | h | h | h | h | h | h | h <;> simp [h])))
    clear F3 N3 l4
    k_steps
    rename_i h5 F5 N5
    obtain ⟨tl5, N6, off6, s6, t6⟩ := absorb2 (c := ⟨cc, cg, cn, cs, cf, ce, cp⟩) (o1 := o1) (o2 := o2) (nl := [(ll, W.listOf us.toArray 0)]) F5 N5 (by first | walk_at "sub" | exact (fun p hp => by (simp only [List.mem_cons, List.not_mem_nil, or_false] at hp ⊢; rcases hp with h | h | h | h | h | h | h | h | h <;> simp [h]))) (fun p hp => by first | walk_at "mm" | simp [hp]) off (fun p hp => by
      rw [List.mem_singleton.mp hp]
      exact ⟨by simp, o9⟩)
    obtain ⟨u, F5⟩ := fr3 F5 (a := Str.ofString "before") (b := Str.ofString "top") (c := Str.ofString "free") (x := some (.ref rb)) (y := some (.int top tt)) (z := some (.ref ll)) rfl rfl rfl
    exact K _ rfl rfl ⟨⟨cc, cg, cn, cs, cf, ce, cp⟩, pen, cells, o1, o2, tl5, u, de, df, rb, ll, es, ch, top, tt, ks, ysb, nb, ⟨F5, N6, off6, AP, P⟩, ⟨y1, y2, y3, y4, y5, y6, y7⟩, EN.mono t6, ⟨us, 0, s6 _ List.mem_cons_self, hu⟩⟩
end S_OLaw2
section S_OLaw3
theorem reg49 : True := by
  k_with_none
  k_with "mm" => ((repeat' (first | (with_reducible exact List.mem_cons_self) | (with_reducible assumption) | (with_reducible refine List.mem_cons_of_mem _ ?_))); done)
  k_with "sub" => ((repeat' (first | (with_reducible exact sub_nil _) | (with_reducible refine sub_cons ?_ ?_) | (with_reducible exact List.mem_cons_self) | (with_reducible refine List.mem_cons_of_mem _ ?_) | (with_reducible assumption) | (intro p9 hp9))); done)
  k_with "v_sees" => first | exact Sees.keep (by assumption) (Fr.keep (by k_asm)) | exact Sees.sub (News.sees (by k_asm)) (fun _ h => by first | exact h | (refine List.mem_cons_of_mem _ ?_; exact h) | (refine List.mem_cons_of_mem _ (List.mem_cons_of_mem _ ?_); exact h))
  k_with "eval Name" => (k_here; (with_reducible show wpAny _ _ (eval (Expr.Name _ _) (compEnvC _ _ _ _)) _ _ _); k_dflt (first | (refine' nameB_L ?zqF ?zqv ?_ ?zqa ?zqb; (case zqF => k_asm); (case zqv => assumption); (case zqa => rfl); (case zqb => rfl)) | (refine' nameB_C ?zqF ?zqc ?zqo ?zqd ?_ ?zqa ?zqb; (case zqF => k_asm); (case zqa => rfl); (case zqb => rfl); (case zqc => rfl); (case zqo => assumption); (case zqd => assumption)) | (refine' nameB_G ?zqF ?zqX ?zqT ?zqe ?_ ?zqg ?zqa ?zqb; (case zqF => k_asm); (case zqX => k_asm); (case zqT => k_asm); (case zqg => rfl); (case zqa => rfl); (case zqb => rfl); (case zqe => k_is)) | (refine' nameB_B ?zqF ?zqX ?zqT ?zqe ?zqv ?zqn ?_ ?zqg ?zqh ?zqa ?zqb; (case zqF => k_asm); (case zqX => k_asm); (case zqT => k_asm); (case zqg => rfl); (case zqh => rfl); (case zqa => rfl); (case zqb => rfl); (case zqe => k_is); (case zqv => boot_fast); (case zqn => decide))))
  k_with "getAttr ref" => (k_here; (with_reducible show wpAny _ _ (getAttr (Value.ref _) (PySem.Str.ofString "way") _) _ _ _); k_dflt (refine' ent_way ?zqF ?zqX ?zqS ?zqx ?_; (case zqx => assumption); (case zqF => k_asm); (case zqX => k_asm); (case zqS => walk_at "v_sees")); intro _)
  k_with "getAttr ref" => (k_here; (with_reducible show wpAny _ _ (getAttr (Value.ref _) (PySem.Str.ofString "one") _) _ _ _); k_dflt (refine' ent_one ?zqF ?zqX ?zqS ?zqx ?_; (case zqx => assumption); (case zqF => k_asm); (case zqX => k_asm); (case zqS => walk_at "v_sees")); intro _)
  k_with "getAttr ref" => (k_here; (with_reducible show wpAny _ _ (getAttr (Value.ref _) (PySem.Str.ofString "two") _) _ _ _); k_dflt (refine' ent_two ?zqF ?zqX ?zqS ?zqx ?_; (case zqx => assumption); (case zqF => k_asm); (case zqX => k_asm); (case zqS => walk_at "v_sees")); intro _)
  k_with "getMethod ref" => (k_here; (with_reducible show wpAny _ _ (getMethod (Value.ref _) (PySem.Str.ofString "told") _) _ _ _); k_dflt (refine' ent_told ?zqF ?zqX ?zqS ?zqx ?_; (case zqx => assumption); (case zqF => k_asm); (case zqX => k_asm); (case zqS => walk_at "v_sees")))
  k_with "call builtin:sorted" => (k_here; (with_reducible show wpAny _ _ (call (Value.builtin _) [Value.ref _]) _ _ _); k_dflt (refine' sorted_edict ?zqhh ?zqS ?zqD ?zqF ?zqN ?zqz ?_; (case zqhh => first | assumption | exact Rm.hd_deeper (by assumption) _); (case zqD => assumption); (case zqF => k_asm); (case zqN => k_asm); (case zqS => walk_at "v_sees"); (case zqz => omega)); intro _ _ _ _ _ _ _ _ _ _ _ _; (try k_sweep))
  k_with "subscriptTail" => (k_here; (with_reducible show wpAny _ _ (subscriptTail _ _ (Value.ref _) (Value.int _ _)) _ _ _); k_dflt (refine' edict_item ?zqS ?zqD ?zqv ?_; (case zqD => assumption); (case zqv => assumption); (case zqS => walk_at "v_sees")))
  k_with "call ref" => (k_here; k_dflt (refine' told_use ?zqR ?zqX ?zqT ?zqF ?zqN ?zqS ?zqEn ?_; (case zqEn => assumption); (case zqR => first | exact Rm.less (by assumption) (by omega) (by omega) | exact Rm.deeper (Rm.less (by assumption) (by omega) (by omega)) _); (case zqX => k_asm); (case zqT => k_asm); (case zqF => k_asm); (case zqN => k_asm); (case zqS => walk_at "v_sees")); intro _ _ _ _ _ _ _ _ _; (try k_sweep))
  k_with "eval ListComp" => (k_here; k_dflt (refine' comp_raw ?zqcl ?zqce ?zqk ?zqn ?zqx ?_; (case zqcl => exact rfl); (case zqce => decide); (case zqk => rfl); (case zqn => decide); (case zqx => rfl)))
  k_with "exec For Name Call cons nil" => (k_here; k_dflt (refine for_raw (by rfl) (by rfl) ?_))
  k_with "exec For Name Name cons nil" => (k_here; k_dflt (refine for_raw (by rfl) (by rfl) ?_))
  k_with "call ref" => (k_here; k_dflt (refine' entry_use ?zqR ?zqX ?zqT ?zqF ?zqN ?_; (case zqR => exact Rm.deeper (Rm.less (by assumption) (by omega) (by omega)) _); (case zqX => k_asm); (case zqT => k_asm); (case zqF => k_asm); (case zqN => k_asm)); intro _ _ _ _ _ _ _ _ _ _ _ _ _ _ _ _ _; rename_i l1 l2 gw' g1' g2' gt'; (try k_lt l1); (try k_lt2 l2); (try k_sweep); revert l1 l2 gw' g1' g2' gt'; intro _ _ _ _ _ _)
  k_with "setItem ref int ref" => (k_here; k_dflt (refine' dict_set_K ?zqF ?zqN ?zqU ?zqhd ?zqhz ?_; (case zqF => k_asm); (case zqN => k_asm); (case zqU => k_updF); (case zqhd => assumption); (case zqhz => assumption)); intro _ _ _ _ _; rename_i N' hd'; (try dsimp only at N'); (try k_sweep); revert N' hd'; intro _ _)
  k_with "getMethod ref" => (k_here; (with_reducible show wpAny _ _ (getMethod (Value.ref _) (PySem.Str.ofString "get") _) _ _ _); k_dflt (refine' get_method ?zqS ?zqD ?_; (case zqD => first | assumption | exact EDict.dict (by assumption)); (case zqS => walk_at "v_sees")))
  k_with "call builtin:dict.get" => (k_here; (with_reducible show wpAny _ _ (call (Value.builtin _) [Value.ref _, Value.int _ _, Value.int _ _]) _ _ _); k_dflt (refine' get0_raw ?zqS ?zqD ?zqhg ?_; (case zqD => assumption); (case zqhg => assumption); (case zqS => walk_at "v_sees")); intro _)
  k_with "exec Assign cons ListComp" => (k_here; k_dflt (refine' comp_assign ?zqsw ?zqcl ?zqce ?zqk ?zqn ?zqx ?zqy ?zqp ?_; (case zqsw => rfl); (case zqcl => exact rfl); (case zqce => decide); (case zqk => rfl); (case zqn => decide); (case zqx => rfl); (case zqy => rfl); (case zqp => rfl)))
  k_with "compareOp NotIn int ref" => (k_here; k_dflt (refine' edict_notin ?zqS ?zqD ?_; (case zqD => assumption); (case zqS => walk_at "v_sees")))
  k_with "compareOp In int ref" => (k_here; k_dflt (refine' edict_in ?zqS ?zqD ?_; (case zqD => assumption); (case zqS => walk_at "v_sees")))
  k_with "unpackItems ref" => (k_here; k_dflt (refine' unpackItemsN_ ?zqk1 ?zqk2 ?zqk3 ?zqk4 ?zqk5 ?_; (case zqk1 => k_asm); (case zqk2 => k_asm); (case zqk3 => kun_tup); (case zqk4 => first | assumption | exact Rm.hd_deeper (by assumption) _); (case zqk5 => exact rfl); k_whole); intro _ _ _; (try k_sweep))
  k_with "assign Tuple" => (k_here; (with_reducible show wpAny _ _ (assign (Expr.Tuple _ _ _) _ (Value.ref _)) _ _ _); k_dflt (refine' unpackN_ ?zqk1 ?zqk2 ?zqk3 ?zqk4 ?zqk5 ?zqk6 ?_; (case zqk1 => k_asm); (case zqk2 => k_asm); (case zqk3 => first | kun_tup | exact tup_sees (by assumption) (by walk_at "v_sees")); (case zqk4 => first | assumption | exact Rm.hd_deeper (by assumption) _); (case zqk5 => exact rfl); (case zqk6 => exact rfl); k_whole); intro _ _ _; (try k_sweep))
  k_with "getAttr ref" => (k_here; (with_reducible show wpAny _ _ (getAttr (Value.ref _) (PySem.Str.ofString "way") _) _ _ _); k_dflt (refine' ent_way' ?zqF ?zqX ?zqS ?zqx ?zqv ?_; (case zqx => assumption); (case zqv => assumption); (case zqF => k_asm); (case zqX => k_asm); (case zqS => walk_at "v_sees")); intro _)
  k_with "getAttr ref" => (k_here; (with_reducible show wpAny _ _ (getAttr (Value.ref _) (PySem.Str.ofString "one") _) _ _ _); k_dflt (refine' ent_one' ?zqF ?zqX ?zqS ?zqx ?zqv ?_; (case zqx => assumption); (case zqv => assumption); (case zqF => k_asm); (case zqX => k_asm); (case zqS => walk_at "v_sees")); intro _)
  k_with "getAttr ref" => (k_here; (with_reducible show wpAny _ _ (getAttr (Value.ref _) (PySem.Str.ofString "two") _) _ _ _); k_dflt (refine' ent_two' ?zqF ?zqX ?zqS ?zqx ?zqv ?_; (case zqx => assumption); (case zqv => assumption); (case zqF => k_asm); (case zqX => k_asm); (case zqS => walk_at "v_sees")); intro _)
  k_with "call builtin:dict.get" => (k_here; (with_reducible show wpAny _ _ (call (Value.builtin _) [Value.ref _, Value.int _ _]) _ _ _); k_dflt (refine' edict_get ?zqS ?zqD ?zqv ?_; (case zqD => assumption); (case zqv => assumption); (case zqS => walk_at "v_sees")))
  k_with "rm_room" => first | exact Rm.less (by assumption) (by omega) (by omega) | exact Rm.deeper (Rm.less (by assumption) (by omega) (by omega)) _
  k_with "call ref" => (k_here; (with_reducible show wpAny _ _ (call (Value.ref 92) _) _ _ _); k_dflt (refine' fnum_use ?zqR ?zqX ?zqT ?zqF ?zqN ?zqS ?zqD ?zqC ?zqz ?zqo ?_; (case zqR => walk_at "rm_room"); (case zqX => k_asm); (case zqT => k_asm); (case zqF => k_asm); (case zqN => k_asm); (case zqD => assumption); (case zqS => walk_at "v_sees"); (case zqC => assumption); (case zqz => omega); (case zqo => assumption)); intro _ _ _ _ _ _ _ _ _; (try k_sweep))
  k_with "call ref" => (k_here; (with_reducible show wpAny _ _ (call (Value.ref 99) _) _ _ _); k_dflt (refine' chain_use ?zqR ?zqX ?zqT ?zqF ?zqN ?zqS ?zqD ?zqC ?zqz ?_; (case zqR => walk_at "rm_room"); (case zqX => k_asm); (case zqT => k_asm); (case zqF => k_asm); (case zqN => k_asm); (case zqD => assumption); (case zqS => walk_at "v_sees"); (case zqC => assumption); (case zqz => omega)); intro _ _ _ _ _ _ _ _ _; (try k_sweep))
  k_with "call ref" => (k_here; (with_reducible show wpAny _ _ (call (Value.ref 170) _) _ _ _); k_dflt (refine' ring_use ?zqR ?zqX ?zqT ?zqF ?zqN ?zqS ?zqD ?zqC ?zqz ?_; (case zqR => walk_at "rm_room"); (case zqX => k_asm); (case zqT => k_asm); (case zqF => k_asm); (case zqN => k_asm); (case zqD => assumption); (case zqS => walk_at "v_sees"); (case zqC => assumption); (case zqz => omega)); intro _ _ _ _ _ _ _ _ _; (try k_sweep))
  k_with "compareOp In int ref" => (k_here; k_dflt (refine' edict_in_b ?zqS ?zqD ?zqb ?_; (case zqD => assumption); (case zqb => assumption); (case zqS => walk_at "v_sees")))
  k_with "compareOp NotIn int ref" => (k_here; k_dflt (refine' edict_notin_b ?zqS ?zqD ?zqb ?_; (case zqD => assumption); (case zqb => assumption); (case zqS => walk_at "v_sees")))
  k_with "v_sees" => first | exact Sees.keep (by assumption) (Fr.keep (by k_asm)) | exact Sees.sub (News.sees (by k_asm)) (fun _ h => by repeat (first | exact h | refine List.mem_cons_of_mem _ ?_))
  k_with "call ref" => (k_here; (with_reducible show wpAny _ _ (call (Value.ref 144) _) _ _ _); k_dflt (refine' draw_use ?zqR ?zqX ?zqT ?zqF ?zqN ?zqP ?zqU1 ?zqU2 ?zqne ?zqlo ?zqhi ?_; (case zqR => walk_at "rm_room"); (case zqX => k_asm); (case zqT => k_asm); (case zqF => k_asm); (case zqN => k_asm); (case zqP => assumption); (case zqU1 => k_updF); (case zqU2 => (intro o9; (try dsimp only); k_updF)); (case zqne => assumption); (case zqlo => omega); (case zqhi => omega)); intro _ _ _ _ _ _ _ _ _ _ _; rename_i N'; (try dsimp only at N'); (try k_sweep); revert N'; intro _)
  k_with "compareOp NotEq ref ref" => (refine Held.use ?_)
  k_with "compareOp Eq ref ref" => (refine Held.use ?_)
  trivial
theorem law3 {w : World} {A : Around} {E : Value → Shared → Prop} {s : Shared} {Q : Flow → Shared → Prop} {g : Heap} {L fa : Addr} {cdv : Value} {sc : Scope} {l : List Str} {mg mb : Str → Option Value}
    (hsc : IsScope w sc) (R : Rm A 8 300) (X : (hd.heap_1 w.params).In g) (T : TopRead qv l mg mb g) (S : St5 w g L s)
    (K : ∀ s', s'.os = s.os → s'.gens = s.gens → St5 w g L s' → wpAny (model PR w) A (execs ((lawBody w).drop 6) (envOfC (Str.ofString "law") sc L fa cdv)) Q E s') :
    wpAny (model PR w) A (execs ((lawBody w).drop 5) (envOfC (Str.ofString "law") sc L fa cdv)) Q E s := by
  refine stage_cut (n := 5) (k := 1) (X := fun bd sc => (∀ s', s'.os = s.os → s'.gens = s.gens → St5 w g L s' → wpAny (model PR w) A (execs ((lawBody w).drop 6) (envOfC (Str.ofString "law") sc L fa cdv)) Q E s') → wpAny (model PR w) A (execs bd (envOfC (Str.ofString "law") sc L fa cdv)) Q E s) hsc (by k_is) (fun K => ?_) K
  simp only [List.drop_succ_cons, List.drop_zero, List.take_succ_cons, List.take_zero, List.cons_append, List.nil_append, Nat.zero_add]
  generalize List.drop 6 (lawBody w) = rest at K ⊢
  have hhA := R.hd
  obtain ⟨⟨cc, cg, cn, cs, cf, ce, cp⟩, pen, cells, o1, o2, tl, u, de, df, rb, fl, es, ch, top, tt, ks, ysb, nb, ⟨F, N, off, AP, P⟩, ⟨y1, y2, y3, y4, y5, y6, y7⟩, EN, ⟨ysf, nf, hfm, hfi⟩⟩ := S
  obtain ⟨⟨w0, w1, w2, w3, w4, w5, w6, w7⟩, ⟨v1, v2, v3, v4, v5, v6, v7⟩⟩ := AP.nat
  dsimp only [C7.led] at N y1 y2 y3 y4 y5 y6 y7
  dsimp only [adr9] at off
  have C := EN.chained
  have D := EN.D
  have Df := EN.Df
  obtain ⟨hl1, hl2, hl3⟩ := EN.lens
  k_steps
  rename_i r1 ys1 n1 h1 tk1 F1 N1 l1 i1
  have o9a := not9_ne (c := ⟨cc, cg, cn, cs, cf, ce, cp⟩) (L := L) (pen := pen) (cells := cells) (o1 := o1) (o2 := o2) l1 (by first | walk_at "sub" | exact (fun p hp => by (simp only [List.mem_cons, List.not_mem_nil, or_false] at hp ⊢; rcases hp with h | h | h | h | h | h | h | h | h <;> simp [h])))
  refine ⟨ne_intsK (lst_led N1 List.mem_cons_self) i1 (lst_led (vs := ysf) (n := nf) N1 (by first | walk_at "mm" | simp [hfm])) hfi (by have := R.un; omega) ?_⟩
  rw [decide_eq_true rfl]
  have N1 : News g L h1 ((L + 1 + 1 + 1 + 1 + 1 + 1 + 1, cc) :: (L + 1 + 1 + 1 + 1 + 1 + 1, cg) :: (L + 1 + 1 + 1 + 1 + 1, cn) :: (L + 1 + 1 + 1 + 1, cs) :: (L + 1 + 1 + 1, cf) :: (L + 1 + 1, ce) :: (L + 1, cp) :: (pen, o1) :: (cells, o2) :: tl) := fun p hp => N1 p (List.mem_cons_of_mem _ hp)
  clear l1
  have hz3 : (ch ++ es).length < 64 := by omega
  k_steps
  rename_i r2 h2 tk2 vs ns n2 F2 N2 l2 hi2 hp2 ho2
  have hlv := hi2.length
  have hln : ns.length = (ch ++ es).length := by rw [hp2.length_eq, List.length_map]
  have h2r := N2 _ List.mem_cons_self
  have h2c := N2 (L + 1 + 1 + 1, cf) (by first | walk_at "mm" | simp)
  have n2c := l2 (L + 1 + 1 + 1, cf) (by first | walk_at "mm" | simp)
  have st0 : Sees tl h2 := Sees.sub (News.sees N2) fun p hp => by first | walk_at "mm" | simp [hp]
  have n2t : ∀ p ∈ tl, p.1 ≠ r2 := fun p hp => l2 p (by first | walk_at "mm" | simp [hp])
  refine list_comp (σ := Unit) (vs := vs) (fun _ => []) [] (fun V _ i ys => IntsAre ys ((ns.take i).filter (isFree (ch ++ es)))) () R.hd ⟨_, h2r.1, rfl, ⟨_, rfl⟩⟩ (fun q => nomatch q) (by omega) (fun _ => rfl) (fun p hp => nomatch hp) (fun V U c i ys h sub => h) (fun V c i ys h => by have := h.length; have := List.length_filter_le (isFree (ch ++ es)) (ns.take i); simp only [List.length_take] at *; omega) .nil ?turn ?done
  case turn =>
    rintro c i v ys U tl' s' C' h tk m g' rfl hC kp' hv hD sub off' hx F3 N3
    have st' : g.StaysIn g' := fun a o e => kp' a o (F2.keep a o e) (fun q => nomatch q) fun q => by subst q; rw [h2r.2.2] at e; cases e
    have X := X.keeps st'
    have T := T.keeps st'
    have Sg' : Sees tl g' := fun p hp => kp' _ _ (st0 p hp) (fun q => nomatch q) (n2t p hp)
    have hc' := kp' _ _ h2c.1 (fun q => nomatch q) n2c
    obtain ⟨k, t, hk, rfl⟩ := IntsAre.at hi2 hv
    have hmem : k ∈ (ch ++ es).map (·.1) := hp2.mem_iff.mp (List.mem_of_getElem? hk)
    obtain ⟨e, he⟩ := Option.isSome_iff_exists.mp (show (getE (ch ++ es) k).isSome = true by rw [getE_isSome]; exact decide_eq_true hmem)
    have hE := Df.ents _ (getE_mem he)
    have hT0 : isFree (ch ++ es) k = decide (e.way = Str.ofString "free") := by
      show decide ((getE (ch ++ es) k).map (·.way) = some (Str.ofString "free")) = _
      rw [he]
      simp only [Option.map_some, Option.some.injEq]
    simp only [List.nil_append] at N3
    have hfil := filter_snoc (T0 := isFree (ch ++ es)) hk
    refine wpAny_tests_one ?_
    k_steps
    · rename_i t' q2
      refine CTurnEnd.intro F3 N3 () [] (fun p hp => nomatch hp) (fun p hp => hp) (fun p hp => nomatch hp) ?_
      show IntsAre _ _
      rw [hfil true (by rw [hT0]; simpa using q2)]
      exact hD.append (.cons _ _ .nil)
    · rename_i t' q2
      refine CTurnEnd.intro F3 N3 () [] (fun p hp => nomatch hp) (fun p hp => hp) (fun p hp => nomatch hp) ?_
      show IntsAre _ _
      rw [hfil false (by rw [hT0]; simpa using q2)]
      simpa using hD
  case done =>
    rintro c U C' D' ys h tk s₂ hD hE' _ hB hC hCD hVC ⟨o, rfl⟩
    intro h' sb
    obtain ⟨e1, b1⟩ := comp_close hE' hB hC sb (fun p hp => by
      rcases List.mem_cons.mp hp with rfl | hp
      · exact hCD.symm
      · exact hVC p hp)
    rw [hlv, List.take_length, free_filter C (lackL_lt top es) Df.nodup hp2 ho2] at hD
    obtain ⟨N3, nD⟩ := news_two (o := W.listOf ys.toArray ys.length) F2 N2 e1.keep (b1 _ List.mem_cons_self).2 (b1 _ List.mem_cons_self).1
    have F3 := Fr.keeps F2 e1.keep
    dsimp only at N3
    clear hE' hB e1 b1
    k_steps
    refine ⟨ne_intsK (lst_led N3 List.mem_cons_self) hD (lst_led (vs := ysf) (n := nf) N3 (by first | walk_at "mm" | simp [hfm])) hfi (by have := R.un; omega) ?_⟩
    rw [decide_eq_true rfl]
    have N3 : News g L h' ((L + 1 + 1 + 1 + 1 + 1 + 1 + 1, cc) :: (L + 1 + 1 + 1 + 1 + 1 + 1, cg) :: (L + 1 + 1 + 1 + 1 + 1, cn) :: (L + 1 + 1 + 1 + 1, cs) :: (L + 1 + 1 + 1, cf) :: (L + 1 + 1, ce) :: (L + 1, cp) :: (pen, o1) :: (cells, o2) :: tl) := fun p hp => N3 p (List.mem_cons_of_mem _ (List.mem_cons_of_mem _ hp))
    k_steps
    exact K _ rfl rfl ⟨⟨cc, cg, cn, cs, cf, ce, cp⟩, pen, cells, o1, o2, tl, u, de, df, rb, fl, es, ch, top, tt, ks, ysb, nb, ⟨F3, N3, off, AP, P⟩, ⟨y1, y2, y3, y4, y5, y6, y7⟩, EN, ⟨ysf, nf, hfm, hfi⟩⟩
end S_OLaw3
section S_OLaw4
theorem reg50 : True := by
  k_with_none
  k_with "mm" => ((repeat' (first | (with_reducible exact List.mem_cons_self) | (with_reducible assumption) | (with_reducible refine List.mem_cons_of_mem _ ?_))); done)
  k_with "sub" => ((repeat' (first | (with_reducible exact sub_nil _) | (with_reducible refine sub_cons ?_ ?_) | (with_reducible exact List.mem_cons_self) | (with_reducible refine List.mem_cons_of_mem _ ?_) | (with_reducible assumption) | (intro p9 hp9))); done)
  k_with "v_sees" => first | exact Sees.keep (by assumption) (Fr.keep (by k_asm)) | exact Sees.sub (News.sees (by k_asm)) (fun _ h => by first | exact h | (refine List.mem_cons_of_mem _ ?_; exact h) | (refine List.mem_cons_of_mem _ (List.mem_cons_of_mem _ ?_); exact h))
  k_with "eval Name" => (k_here; (with_reducible show wpAny _ _ (eval (Expr.Name _ _) (compEnvC _ _ _ _)) _ _ _); k_dflt (first | (refine' nameB_L ?zqF ?zqv ?_ ?zqa ?zqb; (case zqF => k_asm); (case zqv => assumption); (case zqa => rfl); (case zqb => rfl)) | (refine' nameB_C ?zqF ?zqc ?zqo ?zqd ?_ ?zqa ?zqb; (case zqF => k_asm); (case zqa => rfl); (case zqb => rfl); (case zqc => rfl); (case zqo => assumption); (case zqd => assumption)) | (refine' nameB_G ?zqF ?zqX ?zqT ?zqe ?_ ?zqg ?zqa ?zqb; (case zqF => k_asm); (case zqX => k_asm); (case zqT => k_asm); (case zqg => rfl); (case zqa => rfl); (case zqb => rfl); (case zqe => k_is)) | (refine' nameB_B ?zqF ?zqX ?zqT ?zqe ?zqv ?zqn ?_ ?zqg ?zqh ?zqa ?zqb; (case zqF => k_asm); (case zqX => k_asm); (case zqT => k_asm); (case zqg => rfl); (case zqh => rfl); (case zqa => rfl); (case zqb => rfl); (case zqe => k_is); (case zqv => boot_fast); (case zqn => decide))))
  k_with "getAttr ref" => (k_here; (with_reducible show wpAny _ _ (getAttr (Value.ref _) (PySem.Str.ofString "way") _) _ _ _); k_dflt (refine' ent_way ?zqF ?zqX ?zqS ?zqx ?_; (case zqx => assumption); (case zqF => k_asm); (case zqX => k_asm); (case zqS => walk_at "v_sees")); intro _)
  k_with "getAttr ref" => (k_here; (with_reducible show wpAny _ _ (getAttr (Value.ref _) (PySem.Str.ofString "one") _) _ _ _); k_dflt (refine' ent_one ?zqF ?zqX ?zqS ?zqx ?_; (case zqx => assumption); (case zqF => k_asm); (case zqX => k_asm); (case zqS => walk_at "v_sees")); intro _)
  k_with "getAttr ref" => (k_here; (with_reducible show wpAny _ _ (getAttr (Value.ref _) (PySem.Str.ofString "two") _) _ _ _); k_dflt (refine' ent_two ?zqF ?zqX ?zqS ?zqx ?_; (case zqx => assumption); (case zqF => k_asm); (case zqX => k_asm); (case zqS => walk_at "v_sees")); intro _)
  k_with "getMethod ref" => (k_here; (with_reducible show wpAny _ _ (getMethod (Value.ref _) (PySem.Str.ofString "told") _) _ _ _); k_dflt (refine' ent_told ?zqF ?zqX ?zqS ?zqx ?_; (case zqx => assumption); (case zqF => k_asm); (case zqX => k_asm); (case zqS => walk_at "v_sees")))
  k_with "call builtin:sorted" => (k_here; (with_reducible show wpAny _ _ (call (Value.builtin _) [Value.ref _]) _ _ _); k_dflt (refine' sorted_edict ?zqhh ?zqS ?zqD ?zqF ?zqN ?zqz ?_; (case zqhh => first | assumption | exact Rm.hd_deeper (by assumption) _); (case zqD => assumption); (case zqF => k_asm); (case zqN => k_asm); (case zqS => walk_at "v_sees"); (case zqz => omega)); intro _ _ _ _ _ _ _ _ _ _ _ _; (try k_sweep))
  k_with "subscriptTail" => (k_here; (with_reducible show wpAny _ _ (subscriptTail _ _ (Value.ref _) (Value.int _ _)) _ _ _); k_dflt (refine' edict_item ?zqS ?zqD ?zqv ?_; (case zqD => assumption); (case zqv => assumption); (case zqS => walk_at "v_sees")))
  k_with "call ref" => (k_here; k_dflt (refine' told_use ?zqR ?zqX ?zqT ?zqF ?zqN ?zqS ?zqEn ?_; (case zqEn => assumption); (case zqR => first | exact Rm.less (by assumption) (by omega) (by omega) | exact Rm.deeper (Rm.less (by assumption) (by omega) (by omega)) _); (case zqX => k_asm); (case zqT => k_asm); (case zqF => k_asm); (case zqN => k_asm); (case zqS => walk_at "v_sees")); intro _ _ _ _ _ _ _ _ _; (try k_sweep))
  k_with "eval ListComp" => (k_here; k_dflt (refine' comp_raw ?zqcl ?zqce ?zqk ?zqn ?zqx ?_; (case zqcl => exact rfl); (case zqce => decide); (case zqk => rfl); (case zqn => decide); (case zqx => rfl)))
  k_with "exec For Name Call cons nil" => (k_here; k_dflt (refine for_raw (by rfl) (by rfl) ?_))
  k_with "exec For Name Name cons nil" => (k_here; k_dflt (refine for_raw (by rfl) (by rfl) ?_))
  k_with "call ref" => (k_here; k_dflt (refine' entry_use ?zqR ?zqX ?zqT ?zqF ?zqN ?_; (case zqR => exact Rm.deeper (Rm.less (by assumption) (by omega) (by omega)) _); (case zqX => k_asm); (case zqT => k_asm); (case zqF => k_asm); (case zqN => k_asm)); intro _ _ _ _ _ _ _ _ _ _ _ _ _ _ _ _ _; rename_i l1 l2 gw' g1' g2' gt'; (try k_lt l1); (try k_lt2 l2); (try k_sweep); revert l1 l2 gw' g1' g2' gt'; intro _ _ _ _ _ _)
  k_with "setItem ref int ref" => (k_here; k_dflt (refine' dict_set_K ?zqF ?zqN ?zqU ?zqhd ?zqhz ?_; (case zqF => k_asm); (case zqN => k_asm); (case zqU => k_updF); (case zqhd => assumption); (case zqhz => assumption)); intro _ _ _ _ _; rename_i N' hd'; (try dsimp only at N'); (try k_sweep); revert N' hd'; intro _ _)
  k_with "getMethod ref" => (k_here; (with_reducible show wpAny _ _ (getMethod (Value.ref _) (PySem.Str.ofString "get") _) _ _ _); k_dflt (refine' get_method ?zqS ?zqD ?_; (case zqD => first | assumption | exact EDict.dict (by assumption)); (case zqS => walk_at "v_sees")))
  k_with "call builtin:dict.get" => (k_here; (with_reducible show wpAny _ _ (call (Value.builtin _) [Value.ref _, Value.int _ _, Value.int _ _]) _ _ _); k_dflt (refine' get0_raw ?zqS ?zqD ?zqhg ?_; (case zqD => assumption); (case zqhg => assumption); (case zqS => walk_at "v_sees")); intro _)
  k_with "exec Assign cons ListComp" => (k_here; k_dflt (refine' comp_assign ?zqsw ?zqcl ?zqce ?zqk ?zqn ?zqx ?zqy ?zqp ?_; (case zqsw => rfl); (case zqcl => exact rfl); (case zqce => decide); (case zqk => rfl); (case zqn => decide); (case zqx => rfl); (case zqy => rfl); (case zqp => rfl)))
  k_with "compareOp NotIn int ref" => (k_here; k_dflt (refine' edict_notin ?zqS ?zqD ?_; (case zqD => assumption); (case zqS => walk_at "v_sees")))
  k_with "compareOp In int ref" => (k_here; k_dflt (refine' edict_in ?zqS ?zqD ?_; (case zqD => assumption); (case zqS => walk_at "v_sees")))
  k_with "unpackItems ref" => (k_here; k_dflt (refine' unpackItemsN_ ?zqk1 ?zqk2 ?zqk3 ?zqk4 ?zqk5 ?_; (case zqk1 => k_asm); (case zqk2 => k_asm); (case zqk3 => kun_tup); (case zqk4 => first | assumption | exact Rm.hd_deeper (by assumption) _); (case zqk5 => exact rfl); k_whole); intro _ _ _; (try k_sweep))
  k_with "assign Tuple" => (k_here; (with_reducible show wpAny _ _ (assign (Expr.Tuple _ _ _) _ (Value.ref _)) _ _ _); k_dflt (refine' unpackN_ ?zqk1 ?zqk2 ?zqk3 ?zqk4 ?zqk5 ?zqk6 ?_; (case zqk1 => k_asm); (case zqk2 => k_asm); (case zqk3 => first | kun_tup | exact tup_sees (by assumption) (by walk_at "v_sees")); (case zqk4 => first | assumption | exact Rm.hd_deeper (by assumption) _); (case zqk5 => exact rfl); (case zqk6 => exact rfl); k_whole); intro _ _ _; (try k_sweep))
  k_with "getAttr ref" => (k_here; (with_reducible show wpAny _ _ (getAttr (Value.ref _) (PySem.Str.ofString "way") _) _ _ _); k_dflt (refine' ent_way' ?zqF ?zqX ?zqS ?zqx ?zqv ?_; (case zqx => assumption); (case zqv => assumption); (case zqF => k_asm); (case zqX => k_asm); (case zqS => walk_at "v_sees")); intro _)
  k_with "getAttr ref" => (k_here; (with_reducible show wpAny _ _ (getAttr (Value.ref _) (PySem.Str.ofString "one") _) _ _ _); k_dflt (refine' ent_one' ?zqF ?zqX ?zqS ?zqx ?zqv ?_; (case zqx => assumption); (case zqv => assumption); (case zqF => k_asm); (case zqX => k_asm); (case zqS => walk_at "v_sees")); intro _)
  k_with "getAttr ref" => (k_here; (with_reducible show wpAny _ _ (getAttr (Value.ref _) (PySem.Str.ofString "two") _) _ _ _); k_dflt (refine' ent_two' ?zqF ?zqX ?zqS ?zqx ?zqv ?_; (case zqx => assumption); (case zqv => assumption); (case zqF => k_asm); (case zqX => k_asm); (case zqS => walk_at "v_sees")); intro _)
  k_with "call builtin:dict.get" => (k_here; (with_reducible show wpAny _ _ (call (Value.builtin _) [Value.ref _, Value.int _ _]) _ _ _); k_dflt (refine' edict_get ?zqS ?zqD ?zqv ?_; (case zqD => assumption); (case zqv => assumption); (case zqS => walk_at "v_sees")))
  k_with "rm_room" => first | exact Rm.less (by assumption) (by omega) (by omega) | exact Rm.deeper (Rm.less (by assumption) (by omega) (by omega)) _
  k_with "call ref" => (k_here; (with_reducible show wpAny _ _ (call (Value.ref 92) _) _ _ _); k_dflt (refine' fnum_use ?zqR ?zqX ?zqT ?zqF ?zqN ?zqS ?zqD ?zqC ?zqz ?zqo ?_; (case zqR => walk_at "rm_room"); (case zqX => k_asm); (case zqT => k_asm); (case zqF => k_asm); (case zqN => k_asm); (case zqD => assumption); (case zqS => walk_at "v_sees"); (case zqC => assumption); (case zqz => omega); (case zqo => assumption)); intro _ _ _ _ _ _ _ _ _; (try k_sweep))
  k_with "call ref" => (k_here; (with_reducible show wpAny _ _ (call (Value.ref 99) _) _ _ _); k_dflt (refine' chain_use ?zqR ?zqX ?zqT ?zqF ?zqN ?zqS ?zqD ?zqC ?zqz ?_; (case zqR => walk_at "rm_room"); (case zqX => k_asm); (case zqT => k_asm); (case zqF => k_asm); (case zqN => k_asm); (case zqD => assumption); (case zqS => walk_at "v_sees"); (case zqC => assumption); (case zqz => omega)); intro _ _ _ _ _ _ _ _ _; (try k_sweep))
  k_with "call ref" => (k_here; (with_reducible show wpAny _ _ (call (Value.ref 170) _) _ _ _); k_dflt (refine' ring_use ?zqR ?zqX ?zqT ?zqF ?zqN ?zqS ?zqD ?zqC ?zqz ?_; (case zqR => walk_at "rm_room"); (case zqX => k_asm); (case zqT => k_asm); (case zqF => k_asm); (case zqN => k_asm); (case zqD => assumption); (case zqS => walk_at "v_sees"); (case zqC => assumption); (case zqz => omega)); intro _ _ _ _ _ _ _ _ _; (try k_sweep))
  k_with "compareOp In int ref" => (k_here; k_dflt (refine' edict_in_b ?zqS ?zqD ?zqb ?_; (case zqD => assumption); (case zqb => assumption); (case zqS => walk_at "v_sees")))
  k_with "compareOp NotIn int ref" => (k_here; k_dflt (refine' edict_notin_b ?zqS ?zqD ?zqb ?_; (case zqD => assumption); (case zqb => assumption); (case zqS => walk_at "v_sees")))
  k_with "v_sees" => first | exact Sees.keep (by assumption) (Fr.keep (by k_asm)) | exact Sees.sub (News.sees (by k_asm)) (fun _ h => by repeat (first | exact h | refine List.mem_cons_of_mem _ ?_))
  k_with "call ref" => (k_here; (with_reducible show wpAny _ _ (call (Value.ref 144) _) _ _ _); k_dflt (refine' draw_use ?zqR ?zqX ?zqT ?zqF ?zqN ?zqP ?zqU1 ?zqU2 ?zqne ?zqlo ?zqhi ?_; (case zqR => walk_at "rm_room"); (case zqX => k_asm); (case zqT => k_asm); (case zqF => k_asm); (case zqN => k_asm); (case zqP => assumption); (case zqU1 => k_updF); (case zqU2 => (intro o9; (try dsimp only); k_updF)); (case zqne => assumption); (case zqlo => omega); (case zqhi => omega)); intro _ _ _ _ _ _ _ _ _ _ _; rename_i N'; (try dsimp only at N'); (try k_sweep); revert N'; intro _)
  k_with "call builtin:len" => (k_here; (with_reducible show wpAny _ _ (call (Value.builtin _) [Value.ref _]) _ _ _); k_dflt (refine' len_gen ?zqS ?zqm ?zqn ?zqz ?_; (case zqm => assumption); (case zqn => assumption); (case zqz => omega); (case zqS => walk_at "v_sees")))
  k_with "subscriptTail" => (k_here; (with_reducible show wpAny _ _ (subscriptTail _ _ (Value.ref _) (Value.int _ _)) _ _ _); k_dflt (refine' item_gen ?zqS ?zqm ?zqv ?zqh0 ?zqz ?_; (case zqm => assumption); (case zqv => assumption); (case zqh0 => omega); (case zqz => omega); (case zqS => walk_at "v_sees")))
  k_with "compareOp NotEq ref ref" => (refine Held.use ?_)
  k_with "compareOp Eq ref ref" => (refine Held.use ?_)
  trivial
theorem law4 {w : World} {A : Around} {E : Value → Shared → Prop} {s : Shared} {Q : Flow → Shared → Prop} {g : Heap} {L fa : Addr} {cdv : Value} {sc : Scope} {l : List Str} {mg mb : Str → Option Value}
    (hsc : IsScope w sc) (R : Rm A 8 300) (X : (hd.heap_1 w.params).In g) (T : TopRead qv l mg mb g) (S : St5 w g L s)
    (K : ∀ s', s'.os = s.os → s'.gens = s.gens → St5 w g L s' → wpAny (model PR w) A (execs ((lawBody w).drop 7) (envOfC (Str.ofString "law") sc L fa cdv)) Q E s') :
    wpAny (model PR w) A (execs ((lawBody w).drop 6) (envOfC (Str.ofString "law") sc L fa cdv)) Q E s := by
  refine stage_cut (n := 6) (k := 1) (X := fun bd sc => (∀ s', s'.os = s.os → s'.gens = s.gens → St5 w g L s' → wpAny (model PR w) A (execs ((lawBody w).drop 7) (envOfC (Str.ofString "law") sc L fa cdv)) Q E s') → wpAny (model PR w) A (execs bd (envOfC (Str.ofString "law") sc L fa cdv)) Q E s) hsc (by k_is) (fun K => ?_) K
  simp only [List.drop_succ_cons, List.drop_zero, List.take_succ_cons, List.take_zero, List.cons_append, List.nil_append, Nat.zero_add]
  generalize List.drop 7 (lawBody w) = rest at K ⊢
  have hhA := R.hd
  obtain ⟨⟨cc, cg, cn, cs, cf, ce, cp⟩, pen, cells, o1, o2, tl, u, de, df, rb, fl, es, ch, top, tt, ks, ysb, nb, ⟨F, N, off, AP, P⟩, ⟨y1, y2, y3, y4, y5, y6, y7⟩, EN, ⟨ysf, nf, hfm, hfi⟩⟩ := S
  obtain ⟨⟨w0, w1, w2, w3, w4, w5, w6, w7⟩, ⟨v1, v2, v3, v4, v5, v6, v7⟩⟩ := AP.nat
  dsimp only [C7.led] at N y1 y2 y3 y4 y5 y6 y7
  dsimp only [adr9] at off
  have C := EN.chained
  have D := EN.D
  have Df := EN.Df
  obtain ⟨hl1, hl2, hl3⟩ := EN.lens
  k_steps
  have st0 : Sees tl s.heap := Sees.sub (News.sees N) fun p hp => by first | walk_at "mm" | simp [hp]
  have hfh := st0 _ hfm
  have Dg := Df.off st0 hfm
  have hlv := hfi.length
  obtain ⟨nL, hnL⟩ : ∃ n, ysf.length = n := ⟨_, rfl⟩
  have hnL2 : nL = (lackL top es).length + 1 := by rw [← hnL, hlv]; rfl
  have nfl : fl ∉ adr9 L pen cells := off_not off hfm
  have h2c := N (L + 1 + 1 + 1, cf) (by first | walk_at "mm" | simp)
  have n2c : L + 1 + 1 + 1 ≠ fl := fun q => nfl (by rw [← q]; simp)
  refine list_comp (σ := Unit) (vs := ysf) (fun _ => []) [] (fun V _ i ys => IntsAre ys ((List.range i).map fun j => if j = 0 then 65535 else 0)) () R.hd ⟨_, hfh, rfl, ⟨_, rfl⟩⟩ (fun q => nomatch q) (by simp at hlv; omega) (fun _ => rfl) (fun p hp => nomatch hp) (fun V U c i ys h sub => h) (fun V c i ys h => by have := h.length; simp at this; omega) .nil ?turn ?done
  case turn =>
    rintro c i v ys U tl' s' C' h tk m g' rfl hC kp' hv hD sub off' hx F3 N3
    have gfl : g.get? fl = none := (N (fl, W.listOf (List.toArray ysf) nf) (by first | walk_at "mm" | simp [hfm])).2.2
    have st' : g.StaysIn g' := fun a o e => kp' a o (F.keep a o e) (fun q => nomatch q) fun q => by subst q; rw [gfl] at e; cases e
    have X := X.keeps st'
    have T := T.keeps st'
    have Sg' : Sees (tl.filter fun p => decide (p.1 ≠ fl)) g' := fun p hp => by
      have z := List.mem_filter.mp hp
      exact kp' _ _ (st0 p z.1) (fun q => nomatch q) (of_decide_eq_true z.2)
    have hc' := kp' _ _ h2c.1 (fun q => nomatch q) n2c
    obtain ⟨k, t, hk, rfl⟩ := IntsAre.at hfi hv
    have hil : i ≤ (lackL top es).length := by have := (List.getElem?_eq_some_iff.mp hk).1; simp at this; omega
    obtain ⟨e, he, hw, ho, h2⟩ := C.at' i hil
    rw [hk, Option.getD_some] at he
    have h2 : e.two = (if i = 0 then 65535 else 0) := h2
    have hE := Dg.ents _ (getE_mem he)
    simp only [List.nil_append] at N3
    refine wpAny_tests_nil ?_
    simp only [if_true]
    k_steps
    refine CTurnEnd.intro F3 N3 () [] (fun p hp => nomatch hp) (fun p hp => hp) (fun p hp => nomatch hp) ?_
    show IntsAre _ _
    rw [List.range_succ, List.map_append]
    exact hD.append (.cons _ _ .nil)
  case done =>
    rintro c U C' D' ys h tk s₂ hD hE' _ hB hC hCD hVC ⟨o, rfl⟩
    intro h' sb
    obtain ⟨e1, b1⟩ := comp_close hE' hB hC sb (fun p hp => by
      rcases List.mem_cons.mp hp with rfl | hp
      · exact hCD.symm
      · exact hVC p hp)
    obtain ⟨N3, nD⟩ := news_two (o := W.listOf ys.toArray ys.length) F N e1.keep (b1 _ List.mem_cons_self).2 (b1 _ List.mem_cons_self).1
    have F3 := Fr.keeps F e1.keep
    dsimp only at N3
    clear hE' hB e1 b1
    k_steps
    rename_i l4 r4 ws h5 F5 N5 hI l5
    have hm : ((nL : Int) - 1).toNat = (lackL top es).length := by omega
    rw [hnL, hnL2, gens_eq] at hD
    rw [hm] at hI
    refine ⟨ne_intsK (lst_led (vs := ys) (n := ys.length) N5 (by first | walk_at "mm" | simp)) hD (lst_led N5 List.mem_cons_self) hI (by have := R.un; omega) ?_⟩
    rw [decide_eq_true rfl]
    have N5 : News g L h5 ((L + 1 + 1 + 1 + 1 + 1 + 1 + 1, cc) :: (L + 1 + 1 + 1 + 1 + 1 + 1, cg) :: (L + 1 + 1 + 1 + 1 + 1, cn) :: (L + 1 + 1 + 1 + 1, cs) :: (L + 1 + 1 + 1, cf) :: (L + 1 + 1, ce) :: (L + 1, cp) :: (pen, o1) :: (cells, o2) :: tl) := fun p hp => N5 p (List.mem_cons_of_mem _ (List.mem_cons_of_mem _ (List.mem_cons_of_mem _ (List.mem_cons_of_mem _ (List.mem_cons_of_mem _ hp)))))
    k_steps
    exact K _ rfl rfl ⟨⟨cc, cg, cn, cs, cf, ce, cp⟩, pen, cells, o1, o2, tl, u, de, df, rb, fl, es, ch, top, tt, ks, ysb, nb, ⟨F5, N5, off, AP, P⟩, ⟨y1, y2, y3, y4, y5, y6, y7⟩, EN, ⟨ysf, nf, hfm, hfi⟩⟩
end S_OLaw4
section S_OLaw5
theorem reg51 : True := by
  k_with_none
  k_with "mm" => ((repeat' (first | (with_reducible exact List.mem_cons_self) | (with_reducible assumption) | (with_reducible refine List.mem_cons_of_mem _ ?_))); done)
  k_with "sub" => ((repeat' (first | (with_reducible exact sub_nil _) | (with_reducible refine sub_cons ?_ ?_) | (with_reducible exact List.mem_cons_self) | (with_reducible refine List.mem_cons_of_mem _ ?_) | (with_reducible assumption) | (intro p9 hp9))); done)
  k_with "v_sees" => first | exact Sees.keep (by assumption) (Fr.keep (by k_asm)) | exact Sees.sub (News.sees (by k_asm)) (fun _ h => by first | exact h | (refine List.mem_cons_of_mem _ ?_; exact h) | (refine List.mem_cons_of_mem _ (List.mem_cons_of_mem _ ?_); exact h))
  k_with "eval Name" => (k_here; (with_reducible show wpAny _ _ (eval (Expr.Name _ _) (compEnvC _ _ _ _)) _ _ _); k_dflt (first | (refine' nameB_L ?zqF ?zqv ?_ ?zqa ?zqb; (case zqF => k_asm); (case zqv => assumption); (case zqa => rfl); (case zqb => rfl)) | (refine' nameB_C ?zqF ?zqc ?zqo ?zqd ?_ ?zqa ?zqb; (case zqF => k_asm); (case zqa => rfl); (case zqb => rfl); (case zqc => rfl); (case zqo => assumption); (case zqd => assumption)) | (refine' nameB_G ?zqF ?zqX ?zqT ?zqe ?_ ?zqg ?zqa ?zqb; (case zqF => k_asm); (case zqX => k_asm); (case zqT => k_asm); (case zqg => rfl); (case zqa => rfl); (case zqb => rfl); (case zqe => k_is)) | (refine' nameB_B ?zqF ?zqX ?zqT ?zqe ?zqv ?zqn ?_ ?zqg ?zqh ?zqa ?zqb; (case zqF => k_asm); (case zqX => k_asm); (case zqT => k_asm); (case zqg => rfl); (case zqh => rfl); (case zqa => rfl); (case zqb => rfl); (case zqe => k_is); (case zqv => boot_fast); (case zqn => decide))))
  k_with "getAttr ref" => (k_here; (with_reducible show wpAny _ _ (getAttr (Value.ref _) (PySem.Str.ofString "way") _) _ _ _); k_dflt (refine' ent_way ?zqF ?zqX ?zqS ?zqx ?_; (case zqx => assumption); (case zqF => k_asm); (case zqX => k_asm); (case zqS => walk_at "v_sees")); intro _)
  k_with "getAttr ref" => (k_here; (with_reducible show wpAny _ _ (getAttr (Value.ref _) (PySem.Str.ofString "one") _) _ _ _); k_dflt (refine' ent_one ?zqF ?zqX ?zqS ?zqx ?_; (case zqx => assumption); (case zqF => k_asm); (case zqX => k_asm); (case zqS => walk_at "v_sees")); intro _)
  k_with "getAttr ref" => (k_here; (with_reducible show wpAny _ _ (getAttr (Value.ref _) (PySem.Str.ofString "two") _) _ _ _); k_dflt (refine' ent_two ?zqF ?zqX ?zqS ?zqx ?_; (case zqx => assumption); (case zqF => k_asm); (case zqX => k_asm); (case zqS => walk_at "v_sees")); intro _)
  k_with "getMethod ref" => (k_here; (with_reducible show wpAny _ _ (getMethod (Value.ref _) (PySem.Str.ofString "told") _) _ _ _); k_dflt (refine' ent_told ?zqF ?zqX ?zqS ?zqx ?_; (case zqx => assumption); (case zqF => k_asm); (case zqX => k_asm); (case zqS => walk_at "v_sees")))
  k_with "call builtin:sorted" => (k_here; (with_reducible show wpAny _ _ (call (Value.builtin _) [Value.ref _]) _ _ _); k_dflt (refine' sorted_edict ?zqhh ?zqS ?zqD ?zqF ?zqN ?zqz ?_; (case zqhh => first | assumption | exact Rm.hd_deeper (by assumption) _); (case zqD => assumption); (case zqF => k_asm); (case zqN => k_asm); (case zqS => walk_at "v_sees"); (case zqz => omega)); intro _ _ _ _ _ _ _ _ _ _ _ _; (try k_sweep))
  k_with "subscriptTail" => (k_here; (with_reducible show wpAny _ _ (subscriptTail _ _ (Value.ref _) (Value.int _ _)) _ _ _); k_dflt (refine' edict_item ?zqS ?zqD ?zqv ?_; (case zqD => assumption); (case zqv => assumption); (case zqS => walk_at "v_sees")))
  k_with "call ref" => (k_here; k_dflt (refine' told_use ?zqR ?zqX ?zqT ?zqF ?zqN ?zqS ?zqEn ?_; (case zqEn => assumption); (case zqR => first | exact Rm.less (by assumption) (by omega) (by omega) | exact Rm.deeper (Rm.less (by assumption) (by omega) (by omega)) _); (case zqX => k_asm); (case zqT => k_asm); (case zqF => k_asm); (case zqN => k_asm); (case zqS => walk_at "v_sees")); intro _ _ _ _ _ _ _ _ _; (try k_sweep))
  k_with "eval ListComp" => (k_here; k_dflt (refine' comp_raw ?zqcl ?zqce ?zqk ?zqn ?zqx ?_; (case zqcl => exact rfl); (case zqce => decide); (case zqk => rfl); (case zqn => decide); (case zqx => rfl)))
  k_with "exec For Name Call cons nil" => (k_here; k_dflt (refine for_raw (by rfl) (by rfl) ?_))
  k_with "exec For Name Name cons nil" => (k_here; k_dflt (refine for_raw (by rfl) (by rfl) ?_))
  k_with "call ref" => (k_here; k_dflt (refine' entry_use ?zqR ?zqX ?zqT ?zqF ?zqN ?_; (case zqR => exact Rm.deeper (Rm.less (by assumption) (by omega) (by omega)) _); (case zqX => k_asm); (case zqT => k_asm); (case zqF => k_asm); (case zqN => k_asm)); intro _ _ _ _ _ _ _ _ _ _ _ _ _ _ _ _ _; rename_i l1 l2 gw' g1' g2' gt'; (try k_lt l1); (try k_lt2 l2); (try k_sweep); revert l1 l2 gw' g1' g2' gt'; intro _ _ _ _ _ _)
  k_with "setItem ref int ref" => (k_here; k_dflt (refine' dict_set_K ?zqF ?zqN ?zqU ?zqhd ?zqhz ?_; (case zqF => k_asm); (case zqN => k_asm); (case zqU => k_updF); (case zqhd => assumption); (case zqhz => assumption)); intro _ _ _ _ _; rename_i N' hd'; (try dsimp only at N'); (try k_sweep); revert N' hd'; intro _ _)
  k_with "getMethod ref" => (k_here; (with_reducible show wpAny _ _ (getMethod (Value.ref _) (PySem.Str.ofString "get") _) _ _ _); k_dflt (refine' get_method ?zqS ?zqD ?_; (case zqD => first | assumption | exact EDict.dict (by assumption)); (case zqS => walk_at "v_sees")))
  k_with "call builtin:dict.get" => (k_here; (with_reducible show wpAny _ _ (call (Value.builtin _) [Value.ref _, Value.int _ _, Value.int _ _]) _ _ _); k_dflt (refine' get0_raw ?zqS ?zqD ?zqhg ?_; (case zqD => assumption); (case zqhg => assumption); (case zqS => walk_at "v_sees")); intro _)
  k_with "exec Assign cons ListComp" => (k_here; k_dflt (refine' comp_assign ?zqsw ?zqcl ?zqce ?zqk ?zqn ?zqx ?zqy ?zqp ?_; (case zqsw => rfl); (case zqcl => exact rfl); (case zqce => decide); (case zqk => rfl); (case zqn => decide); (case zqx => rfl); (case zqy => rfl); (case zqp => rfl)))
  k_with "compareOp NotIn int ref" => (k_here; k_dflt (refine' edict_notin ?zqS ?zqD ?_; (case zqD => assumption); (case zqS => walk_at "v_sees")))
  k_with "compareOp In int ref" => (k_here; k_dflt (refine' edict_in ?zqS ?zqD ?_; (case zqD => assumption); (case zqS => walk_at "v_sees")))
  k_with "unpackItems ref" => (k_here; k_dflt (refine' unpackItemsN_ ?zqk1 ?zqk2 ?zqk3 ?zqk4 ?zqk5 ?_; (case zqk1 => k_asm); (case zqk2 => k_asm); (case zqk3 => kun_tup); (case zqk4 => first | assumption | exact Rm.hd_deeper (by assumption) _); (case zqk5 => exact rfl); k_whole); intro _ _ _; (try k_sweep))
  k_with "assign Tuple" => (k_here; (with_reducible show wpAny _ _ (assign (Expr.Tuple _ _ _) _ (Value.ref _)) _ _ _); k_dflt (refine' unpackN_ ?zqk1 ?zqk2 ?zqk3 ?zqk4 ?zqk5 ?zqk6 ?_; (case zqk1 => k_asm); (case zqk2 => k_asm); (case zqk3 => first | kun_tup | exact tup_sees (by assumption) (by walk_at "v_sees")); (case zqk4 => first | assumption | exact Rm.hd_deeper (by assumption) _); (case zqk5 => exact rfl); (case zqk6 => exact rfl); k_whole); intro _ _ _; (try k_sweep))
  k_with "getAttr ref" => (k_here; (with_reducible show wpAny _ _ (getAttr (Value.ref _) (PySem.Str.ofString "way") _) _ _ _); k_dflt (refine' ent_way' ?zqF ?zqX ?zqS ?zqx ?zqv ?_; (case zqx => assumption); (case zqv => assumption); (case zqF => k_asm); (case zqX => k_asm); (case zqS => walk_at "v_sees")); intro _)
  k_with "getAttr ref" => (k_here; (with_reducible show wpAny _ _ (getAttr (Value.ref _) (PySem.Str.ofString "one") _) _ _ _); k_dflt (refine' ent_one' ?zqF ?zqX ?zqS ?zqx ?zqv ?_; (case zqx => assumption); (case zqv => assumption); (case zqF => k_asm); (case zqX => k_asm); (case zqS => walk_at "v_sees")); intro _)
  k_with "getAttr ref" => (k_here; (with_reducible show wpAny _ _ (getAttr (Value.ref _) (PySem.Str.ofString "two") _) _ _ _); k_dflt (refine' ent_two' ?zqF ?zqX ?zqS ?zqx ?zqv ?_; (case zqx => assumption); (case zqv => assumption); (case zqF => k_asm); (case zqX => k_asm); (case zqS => walk_at "v_sees")); intro _)
  k_with "call builtin:dict.get" => (k_here; (with_reducible show wpAny _ _ (call (Value.builtin _) [Value.ref _, Value.int _ _]) _ _ _); k_dflt (refine' edict_get ?zqS ?zqD ?zqv ?_; (case zqD => assumption); (case zqv => assumption); (case zqS => walk_at "v_sees")))
  k_with "rm_room" => first | exact Rm.less (by assumption) (by omega) (by omega) | exact Rm.deeper (Rm.less (by assumption) (by omega) (by omega)) _
  k_with "call ref" => (k_here; (with_reducible show wpAny _ _ (call (Value.ref 92) _) _ _ _); k_dflt (refine' fnum_use ?zqR ?zqX ?zqT ?zqF ?zqN ?zqS ?zqD ?zqC ?zqz ?zqo ?_; (case zqR => walk_at "rm_room"); (case zqX => k_asm); (case zqT => k_asm); (case zqF => k_asm); (case zqN => k_asm); (case zqD => assumption); (case zqS => walk_at "v_sees"); (case zqC => assumption); (case zqz => omega); (case zqo => assumption)); intro _ _ _ _ _ _ _ _ _; (try k_sweep))
  k_with "call ref" => (k_here; (with_reducible show wpAny _ _ (call (Value.ref 99) _) _ _ _); k_dflt (refine' chain_use ?zqR ?zqX ?zqT ?zqF ?zqN ?zqS ?zqD ?zqC ?zqz ?_; (case zqR => walk_at "rm_room"); (case zqX => k_asm); (case zqT => k_asm); (case zqF => k_asm); (case zqN => k_asm); (case zqD => assumption); (case zqS => walk_at "v_sees"); (case zqC => assumption); (case zqz => omega)); intro _ _ _ _ _ _ _ _ _; (try k_sweep))
  k_with "call ref" => (k_here; (with_reducible show wpAny _ _ (call (Value.ref 170) _) _ _ _); k_dflt (refine' ring_use ?zqR ?zqX ?zqT ?zqF ?zqN ?zqS ?zqD ?zqC ?zqz ?_; (case zqR => walk_at "rm_room"); (case zqX => k_asm); (case zqT => k_asm); (case zqF => k_asm); (case zqN => k_asm); (case zqD => assumption); (case zqS => walk_at "v_sees"); (case zqC => assumption); (case zqz => omega)); intro _ _ _ _ _ _ _ _ _; (try k_sweep))
  k_with "compareOp In int ref" => (k_here; k_dflt (refine' edict_in_b ?zqS ?zqD ?zqb ?_; (case zqD => assumption); (case zqb => assumption); (case zqS => walk_at "v_sees")))
  k_with "compareOp NotIn int ref" => (k_here; k_dflt (refine' edict_notin_b ?zqS ?zqD ?zqb ?_; (case zqD => assumption); (case zqb => assumption); (case zqS => walk_at "v_sees")))
  k_with "v_sees" => first | exact Sees.keep (by assumption) (Fr.keep (by k_asm)) | exact Sees.sub (News.sees (by k_asm)) (fun _ h => by repeat (first | exact h | refine List.mem_cons_of_mem _ ?_))
  k_with "call ref" => (k_here; (with_reducible show wpAny _ _ (call (Value.ref 144) _) _ _ _); k_dflt (refine' draw_use ?zqR ?zqX ?zqT ?zqF ?zqN ?zqP ?zqU1 ?zqU2 ?zqne ?zqlo ?zqhi ?_; (case zqR => walk_at "rm_room"); (case zqX => k_asm); (case zqT => k_asm); (case zqF => k_asm); (case zqN => k_asm); (case zqP => assumption); (case zqU1 => k_updF); (case zqU2 => (intro o9; (try dsimp only); k_updF)); (case zqne => assumption); (case zqlo => omega); (case zqhi => omega)); intro _ _ _ _ _ _ _ _ _ _ _; rename_i N'; (try dsimp only at N'); (try k_sweep); revert N'; intro _)
  k_with "call builtin:len" => (k_here; (with_reducible show wpAny _ _ (call (Value.builtin _) [Value.ref _]) _ _ _); k_dflt (refine' len_gen ?zqS ?zqm ?zqn ?zqz ?_; (case zqm => assumption); (case zqn => assumption); (case zqz => omega); (case zqS => walk_at "v_sees")))
  k_with "subscriptTail" => (k_here; (with_reducible show wpAny _ _ (subscriptTail _ _ (Value.ref _) (Value.int _ _)) _ _ _); k_dflt (refine' item_gen ?zqS ?zqm ?zqv ?zqh0 ?zqz ?_; (case zqm => assumption); (case zqv => assumption); (case zqh0 => omega); (case zqz => omega); (case zqS => walk_at "v_sees")))
  k_with "compareOp NotEq ref ref" => (refine Held.use ?_)
  k_with "compareOp Eq ref ref" => (refine Held.use ?_)
  trivial
section
variable {w : World} {A : Around} {E : Value → Shared → Prop} {s : Shared} {Q : Value → Shared → Prop} {g : Heap} {L d : Addr} {m : Str → Option Value} {l : List Str} {mg mb : Str → Option Value} {led V : Led} {es : List (Int × Ent)} {f : Int → Int} {line : List Int}
theorem fault_use (R : Rm A 4 60) (X : (hd.heap_1 w.params).In g) (T : TopRead qv l mg mb g) (F : Fr g L s.heap m) (N : News g L s.heap led) (S : Sees V s.heap) (D : EDict w V d es) (C : Chained f es line) (hz : es.length < 60) (hlz : line.length < 40) (hso : line.Pairwise (· < ·))
    (h : ∀ (r : Addr) (n : Nat) (h' : Heap) (tk : Nat), Fr g L h' m → News g L h' ((r, W.listOf #[] n) :: led) → (∀ p ∈ led, p.1 ≠ r) → Q (.ref r) { s with heap := h', toks := tk }) :
    wpAny (model PR w) A (call (.ref 106) [.ref d]) Q E s :=
  fault_spec R ⟨X, l, mg, mb, T⟩ F.keep S D C hz hlz hso fun r n h' tk e B => have z := made_use F N e B; h r n h' tk z.1 z.2.1 z.2.2
theorem size_use (R : Rm A 2 20) (X : (hd.heap_1 w.params).In g) (T : TopRead qv l mg mb g) (F : Fr g L s.heap m) (N : News g L s.heap led) (S : Sees V s.heap) (D : EDict w V d es) (hz : es.length < 60) (hne : 0 < es.length)
    (h : ∀ (M : Int) (t : Tok) (h' : Heap) (tk : Nat), Fr g L h' m → News g L h' led → M ∈ es.map (·.1) → (∀ k ∈ es.map (·.1), k ≤ M) → Q (.int (M + 1) t) { s with heap := h', toks := tk }) :
    wpAny (model PR w) A (call (.ref 113) [.ref d]) Q E s :=
  size_spec R ⟨X, l, mg, mb, T⟩ F.keep S D hz hne fun M t h' tk e h1 h2 => h M t h' tk (Fr.keeps F e.keep) (fun p hp => ⟨e.keep _ _ (N p hp).1, (N p hp).2⟩) h1 h2
end
theorem list_dict_use {w : World} {A : Around} {E : Value → Shared → Prop} {s : Shared} {Q : Value → Shared → Prop} {g : Heap} {L d : Addr} {m : Str → Option Value} {led V : Led} {es : List (Int × Ent)} (hh : A.handled = none) (F : Fr g L s.heap m) (N : News g L s.heap led) (S : Sees V s.heap) (D : EDict w V d es) (hz : es.length ≤ 1000)
    (h : ∀ (B : Addr) (c : Nat) (h' : Heap) (tk : Nat) (vs : List Value), Fr g L h' m → News g L h' ((B, W.listOf (List.toArray vs) c) :: led) → (∀ p ∈ led, p.1 < B) → IntsAre vs (es.map (·.1)) → Q (.ref B) { s with heap := h', toks := tk }) :
    wpAny (model PR w) A (call (.type "list") [.ref d]) Q E s := by
  obtain ⟨ep, hat⟩ := (D.dict.dict S).dictAt
  refine kdl_N (kdl_dict (knd := PySem.intKind PR w) (kvs := kvOf es) (ep := ep) D.dict.1) hh F N hat (kdl_size (by simp [kvOf]; omega)) fun B c h' tk vs F' N' l1 hl hv => ?_
  refine h B c h' tk vs F' N' l1 ?_
  rw [← kvOf_keys]
  exact keys_are (prog := PR) (w := w) hl fun j v e => hv j v e
theorem reg52 : True := by
  k_with "call type:list" => (k_here; (with_reducible show wpAny _ _ (call (Value.type _) [Value.ref _]) _ _ _); k_dflt (refine' list_dict_use ?zqhh ?zqF ?zqN ?zqS ?zqD ?zqz ?_; (case zqhh => assumption); (case zqF => k_asm); (case zqN => k_asm); (case zqD => assumption); (case zqS => walk_at "v_sees"); (case zqz => omega)); intro _ _ _ _ _ _ _ _ _; rename_i l1 hI'; (try k_lt l1); (try k_sweep); revert l1 hI'; intro _ _)
  k_with "call ref" => (k_here; (with_reducible show wpAny _ _ (call (Value.ref 106) _) _ _ _); k_dflt (refine' fault_use ?zqR ?zqX ?zqT ?zqF ?zqN ?zqS ?zqD ?zqC ?zqz ?zqz2 ?zqo ?_; (case zqR => walk_at "rm_room"); (case zqX => k_asm); (case zqT => k_asm); (case zqF => k_asm); (case zqN => k_asm); (case zqD => assumption); (case zqS => walk_at "v_sees"); (case zqC => assumption); (case zqz => omega); (case zqz2 => omega); (case zqo => assumption)); intro _ _ _ _ _ _ _; (try k_sweep))
  k_with "call ref" => (k_here; (with_reducible show wpAny _ _ (call (Value.ref 113) _) _ _ _); k_dflt (refine' size_use ?zqR ?zqX ?zqT ?zqF ?zqN ?zqS ?zqD ?zqz ?zqz2 ?_; (case zqR => walk_at "rm_room"); (case zqX => k_asm); (case zqT => k_asm); (case zqF => k_asm); (case zqN => k_asm); (case zqD => assumption); (case zqS => walk_at "v_sees"); (case zqz => omega); (case zqz2 => omega)); intro _ _ _ _ _ _ _ _; (try k_sweep))
  trivial
theorem law5 {w : World} {A : Around} {E : Value → Shared → Prop} {s : Shared} {Q : Flow → Shared → Prop} {g : Heap} {L fa : Addr} {cdv : Value} {sc : Scope} {l : List Str} {mg mb : Str → Option Value}
    (hsc : IsScope w sc) (R : Rm A 8 300) (X : (hd.heap_1 w.params).In g) (T : TopRead qv l mg mb g) (S : St5 w g L s)
    (K : ∀ s', s'.os = s.os → s'.gens = s.gens → St5 w g L s' → wpAny (model PR w) A (execs ((lawBody w).drop 8) (envOfC (Str.ofString "law") sc L fa cdv)) Q E s') :
    wpAny (model PR w) A (execs ((lawBody w).drop 7) (envOfC (Str.ofString "law") sc L fa cdv)) Q E s := by
  refine stage_cut (n := 7) (k := 1) (X := fun bd sc => (∀ s', s'.os = s.os → s'.gens = s.gens → St5 w g L s' → wpAny (model PR w) A (execs ((lawBody w).drop 8) (envOfC (Str.ofString "law") sc L fa cdv)) Q E s') → wpAny (model PR w) A (execs bd (envOfC (Str.ofString "law") sc L fa cdv)) Q E s) hsc (by k_is) (fun K => ?_) K
  simp only [List.drop_succ_cons, List.drop_zero, List.take_succ_cons, List.take_zero, List.cons_append, List.nil_append, Nat.zero_add]
  generalize List.drop 8 (lawBody w) = rest at K ⊢
  have hhA := R.hd
  obtain ⟨⟨cc, cg, cn, cs, cf, ce, cp⟩, pen, cells, o1, o2, tl, u, de, df, rb, fl, es, ch, top, tt, ks, ysb, nb, ⟨F, N, off, AP, P⟩, ⟨y1, y2, y3, y4, y5, y6, y7⟩, EN, ⟨ysf, nf, hfm, hfi⟩⟩ := S
  obtain ⟨⟨w0, w1, w2, w3, w4, w5, w6, w7⟩, ⟨v1, v2, v3, v4, v5, v6, v7⟩⟩ := AP.nat
  dsimp only [C7.led] at N y1 y2 y3 y4 y5 y6 y7
  dsimp only [adr9] at off
  have C := EN.chained
  have D := EN.D
  have Df := EN.Df
  obtain ⟨hl1, hl2, hl3⟩ := EN.lens
  have hso := lackL_lt top es
  have hz3 : (ch ++ es).length < 60 := by omega
  have hz5 := EN.hz
  have hz4 : 0 < (ch ++ es).length := by rw [List.length_append]; omega
  have nfl : fl ∉ adr9 L pen cells := off_not off hfm
  have hlf : (0 :: lackL top es).length ≤ 16 := by simp; omega
  have N : News g L s.heap ((L + 1 + 1 + 1 + 1 + 1 + 1 + 1, cc) :: (L + 1 + 1 + 1 + 1 + 1 + 1, cg) :: (L + 1 + 1 + 1 + 1 + 1, cn) :: (L + 1 + 1 + 1 + 1, cs) :: (L + 1 + 1 + 1, cf) :: (L + 1 + 1, ce) :: (L + 1, cp) :: (pen, o1) :: (cells, o2) :: (fl, W.listOf ysf.toArray nf) :: tl) := fun p hp => N p (by first | exact (show ∀ q ∈ _, q ∈ _ from by walk_at "sub") p hp | (simp only [List.mem_cons] at hp ⊢; rcases hp with h | h | h | h | h | h | h | h | h | h | h <;> simp [h, hfm]))
  k_steps
  rename_i r1 ys1 n1 h1 tk1 _ i1 d1 ws1 h2 F2 N2 j1 _ _ l2
  refine ⟨ne_intsK (lst_led (vs := ys1) (n := n1) N2 (by first | walk_at "mm" | simp)) i1 (lst_led N2 List.mem_cons_self) (show IntsAre ws1 (lackL top es) from j1) (by have := R.un; omega) ?_⟩
  rw [decide_eq_true rfl]
  have N2 : News g L h2 ((L + 1 + 1 + 1 + 1 + 1 + 1 + 1, cc) :: (L + 1 + 1 + 1 + 1 + 1 + 1, cg) :: (L + 1 + 1 + 1 + 1 + 1, cn) :: (L + 1 + 1 + 1 + 1, cs) :: (L + 1 + 1 + 1, cf) :: (L + 1 + 1, ce) :: (L + 1, cp) :: (pen, o1) :: (cells, o2) :: (fl, W.listOf ysf.toArray nf) :: tl) := fun p hp => N2 p (List.mem_cons_of_mem _ (List.mem_cons_of_mem _ hp))
  clear l2
  k_steps
  rename_i r3 ys3 n3 h3 tk3 _ i3 d3 ws3 h4 F4 N4 j3 _ _ l4
  refine ⟨ne_intsK (lst_led (vs := ys3) (n := n3) N4 (by first | walk_at "mm" | simp)) i3 (lst_led N4 List.mem_cons_self) (show IntsAre ws3 (lackL top es) from j3) (by have := R.un; omega) ?_⟩
  rw [decide_eq_true rfl]
  have N4 : News g L h4 ((L + 1 + 1 + 1 + 1 + 1 + 1 + 1, cc) :: (L + 1 + 1 + 1 + 1 + 1 + 1, cg) :: (L + 1 + 1 + 1 + 1 + 1, cn) :: (L + 1 + 1 + 1 + 1, cs) :: (L + 1 + 1 + 1, cf) :: (L + 1 + 1, ce) :: (L + 1, cp) :: (pen, o1) :: (cells, o2) :: (fl, W.listOf ysf.toArray nf) :: tl) := fun p hp => N4 p (List.mem_cons_of_mem _ (List.mem_cons_of_mem _ hp))
  clear l4
  k_steps
  rename_i r5 n5 h5 tk5 _ d5 h6 F6 N6 l6
  refine ⟨ne_intsK (vs := []) (us := []) (ns := []) (ms := []) (lst_led (n := n5) N6 (by first | walk_at "mm" | simp)) .nil (lst_led (n := 0) N6 (by first | walk_at "mm" | simp)) .nil (by have := R.un; omega) ?_⟩
  rw [decide_eq_true rfl]
  have N6 : News g L h6 ((L + 1 + 1 + 1 + 1 + 1 + 1 + 1, cc) :: (L + 1 + 1 + 1 + 1 + 1 + 1, cg) :: (L + 1 + 1 + 1 + 1 + 1, cn) :: (L + 1 + 1 + 1 + 1, cs) :: (L + 1 + 1 + 1, cf) :: (L + 1 + 1, ce) :: (L + 1, cp) :: (pen, o1) :: (cells, o2) :: (fl, W.listOf ysf.toArray nf) :: tl) := fun p hp => N6 p (List.mem_cons_of_mem _ (List.mem_cons_of_mem _ hp))
  clear l6
  k_steps
  rename_i M t7 h7 tk7 hm7 hM7 d7 c7 h8 tk8 ws7 hI7 l7 d8 ws8 h9 F9 N9 hI8 l9
  refine kso_max F9 N9 (lst_led N9 List.mem_cons_self) hI8 (by first | walk_at "mm" | simp) R.hd fun h10 M2 t10 tk10 F10 N10 hm10 hM10 => ?_
  have hkeys : (ch ++ es).map (·.1) = 0 :: lackL top es ++ es.map (·.1) := by
    rw [List.map_append, rowOf_keys EN.hch, chainRows_keys]
  have hMM : M = M2 := by
    rw [hkeys] at hm7 hM7
    exact Int.le_antisymm (hM10 _ hm7) (hM7 _ hm10)
  subst hMM
  have N10 : News g L h10 ((L + 1 + 1 + 1 + 1 + 1 + 1 + 1, cc) :: (L + 1 + 1 + 1 + 1 + 1 + 1, cg) :: (L + 1 + 1 + 1 + 1 + 1, cn) :: (L + 1 + 1 + 1 + 1, cs) :: (L + 1 + 1 + 1, cf) :: (L + 1 + 1, ce) :: (L + 1, cp) :: (pen, o1) :: (cells, o2) :: tl) := fun p hp => N10 p (List.mem_cons_of_mem _ (List.mem_cons_of_mem _ (by first | exact (show ∀ q ∈ _, q ∈ _ from by walk_at "sub") p hp | (simp only [List.mem_cons] at hp ⊢; rcases hp with h | h | h | h | h | h | h | h | h | h <;> simp [h]))))
  clear l9 l7 hI8 hI7 hm7 hM7 hm10 hM10 F9 N9
  k_steps
  · rename_i q
    exact absurd rfl q
  · exact K _ rfl rfl ⟨⟨cc, cg, cn, cs, cf, ce, cp⟩, pen, cells, o1, o2, tl, u, de, df, rb, fl, es, ch, top, tt, ks, ysb, nb, ⟨F10, N10, off, AP, P⟩, ⟨y1, y2, y3, y4, y5, y6, y7⟩, EN, ⟨ysf, nf, hfm, hfi⟩⟩
end S_OLaw5
section S_OLaw6
theorem reg53 : True := by
  k_with_none
  k_with "mm" => ((repeat' (first | (with_reducible exact List.mem_cons_self) | (with_reducible assumption) | (with_reducible refine List.mem_cons_of_mem _ ?_))); done)
  k_with "sub" => ((repeat' (first | (with_reducible exact sub_nil _) | (with_reducible refine sub_cons ?_ ?_) | (with_reducible exact List.mem_cons_self) | (with_reducible refine List.mem_cons_of_mem _ ?_) | (with_reducible assumption) | (intro p9 hp9))); done)
  k_with "v_sees" => first | exact Sees.keep (by assumption) (Fr.keep (by k_asm)) | exact Sees.sub (News.sees (by k_asm)) (fun _ h => by first | exact h | (refine List.mem_cons_of_mem _ ?_; exact h) | (refine List.mem_cons_of_mem _ (List.mem_cons_of_mem _ ?_); exact h))
  k_with "eval Name" => (k_here; (with_reducible show wpAny _ _ (eval (Expr.Name _ _) (compEnvC _ _ _ _)) _ _ _); k_dflt (first | (refine' nameB_L ?zqF ?zqv ?_ ?zqa ?zqb; (case zqF => k_asm); (case zqv => assumption); (case zqa => rfl); (case zqb => rfl)) | (refine' nameB_C ?zqF ?zqc ?zqo ?zqd ?_ ?zqa ?zqb; (case zqF => k_asm); (case zqa => rfl); (case zqb => rfl); (case zqc => rfl); (case zqo => assumption); (case zqd => assumption)) | (refine' nameB_G ?zqF ?zqX ?zqT ?zqe ?_ ?zqg ?zqa ?zqb; (case zqF => k_asm); (case zqX => k_asm); (case zqT => k_asm); (case zqg => rfl); (case zqa => rfl); (case zqb => rfl); (case zqe => k_is)) | (refine' nameB_B ?zqF ?zqX ?zqT ?zqe ?zqv ?zqn ?_ ?zqg ?zqh ?zqa ?zqb; (case zqF => k_asm); (case zqX => k_asm); (case zqT => k_asm); (case zqg => rfl); (case zqh => rfl); (case zqa => rfl); (case zqb => rfl); (case zqe => k_is); (case zqv => boot_fast); (case zqn => decide))))
  k_with "getAttr ref" => (k_here; (with_reducible show wpAny _ _ (getAttr (Value.ref _) (PySem.Str.ofString "way") _) _ _ _); k_dflt (refine' ent_way ?zqF ?zqX ?zqS ?zqx ?_; (case zqx => assumption); (case zqF => k_asm); (case zqX => k_asm); (case zqS => walk_at "v_sees")); intro _)
  k_with "getAttr ref" => (k_here; (with_reducible show wpAny _ _ (getAttr (Value.ref _) (PySem.Str.ofString "one") _) _ _ _); k_dflt (refine' ent_one ?zqF ?zqX ?zqS ?zqx ?_; (case zqx => assumption); (case zqF => k_asm); (case zqX => k_asm); (case zqS => walk_at "v_sees")); intro _)
  k_with "getAttr ref" => (k_here; (with_reducible show wpAny _ _ (getAttr (Value.ref _) (PySem.Str.ofString "two") _) _ _ _); k_dflt (refine' ent_two ?zqF ?zqX ?zqS ?zqx ?_; (case zqx => assumption); (case zqF => k_asm); (case zqX => k_asm); (case zqS => walk_at "v_sees")); intro _)
  k_with "getMethod ref" => (k_here; (with_reducible show wpAny _ _ (getMethod (Value.ref _) (PySem.Str.ofString "told") _) _ _ _); k_dflt (refine' ent_told ?zqF ?zqX ?zqS ?zqx ?_; (case zqx => assumption); (case zqF => k_asm); (case zqX => k_asm); (case zqS => walk_at "v_sees")))
  k_with "call builtin:sorted" => (k_here; (with_reducible show wpAny _ _ (call (Value.builtin _) [Value.ref _]) _ _ _); k_dflt (refine' sorted_edict ?zqhh ?zqS ?zqD ?zqF ?zqN ?zqz ?_; (case zqhh => first | assumption | exact Rm.hd_deeper (by assumption) _); (case zqD => assumption); (case zqF => k_asm); (case zqN => k_asm); (case zqS => walk_at "v_sees"); (case zqz => omega)); intro _ _ _ _ _ _ _ _ _ _ _ _; (try k_sweep))
  k_with "subscriptTail" => (k_here; (with_reducible show wpAny _ _ (subscriptTail _ _ (Value.ref _) (Value.int _ _)) _ _ _); k_dflt (refine' edict_item ?zqS ?zqD ?zqv ?_; (case zqD => assumption); (case zqv => assumption); (case zqS => walk_at "v_sees")))
  k_with "call ref" => (k_here; k_dflt (refine' told_use ?zqR ?zqX ?zqT ?zqF ?zqN ?zqS ?zqEn ?_; (case zqEn => assumption); (case zqR => first | exact Rm.less (by assumption) (by omega) (by omega) | exact Rm.deeper (Rm.less (by assumption) (by omega) (by omega)) _); (case zqX => k_asm); (case zqT => k_asm); (case zqF => k_asm); (case zqN => k_asm); (case zqS => walk_at "v_sees")); intro _ _ _ _ _ _ _ _ _; (try k_sweep))
  k_with "eval ListComp" => (k_here; k_dflt (refine' comp_raw ?zqcl ?zqce ?zqk ?zqn ?zqx ?_; (case zqcl => exact rfl); (case zqce => decide); (case zqk => rfl); (case zqn => decide); (case zqx => rfl)))
  k_with "exec For Name Call cons nil" => (k_here; k_dflt (refine for_raw (by rfl) (by rfl) ?_))
  k_with "exec For Name Name cons nil" => (k_here; k_dflt (refine for_raw (by rfl) (by rfl) ?_))
  k_with "call ref" => (k_here; k_dflt (refine' entry_use ?zqR ?zqX ?zqT ?zqF ?zqN ?_; (case zqR => exact Rm.deeper (Rm.less (by assumption) (by omega) (by omega)) _); (case zqX => k_asm); (case zqT => k_asm); (case zqF => k_asm); (case zqN => k_asm)); intro _ _ _ _ _ _ _ _ _ _ _ _ _ _ _ _ _; rename_i l1 l2 gw' g1' g2' gt'; (try k_lt l1); (try k_lt2 l2); (try k_sweep); revert l1 l2 gw' g1' g2' gt'; intro _ _ _ _ _ _)
  k_with "setItem ref int ref" => (k_here; k_dflt (refine' dict_set_K ?zqF ?zqN ?zqU ?zqhd ?zqhz ?_; (case zqF => k_asm); (case zqN => k_asm); (case zqU => k_updF); (case zqhd => assumption); (case zqhz => assumption)); intro _ _ _ _ _; rename_i N' hd'; (try dsimp only at N'); (try k_sweep); revert N' hd'; intro _ _)
  k_with "getMethod ref" => (k_here; (with_reducible show wpAny _ _ (getMethod (Value.ref _) (PySem.Str.ofString "get") _) _ _ _); k_dflt (refine' get_method ?zqS ?zqD ?_; (case zqD => first | assumption | exact EDict.dict (by assumption)); (case zqS => walk_at "v_sees")))
  k_with "call builtin:dict.get" => (k_here; (with_reducible show wpAny _ _ (call (Value.builtin _) [Value.ref _, Value.int _ _, Value.int _ _]) _ _ _); k_dflt (refine' get0_raw ?zqS ?zqD ?zqhg ?_; (case zqD => assumption); (case zqhg => assumption); (case zqS => walk_at "v_sees")); intro _)
  k_with "exec Assign cons ListComp" => (k_here; k_dflt (refine' comp_assign ?zqsw ?zqcl ?zqce ?zqk ?zqn ?zqx ?zqy ?zqp ?_; (case zqsw => rfl); (case zqcl => exact rfl); (case zqce => decide); (case zqk => rfl); (case zqn => decide); (case zqx => rfl); (case zqy => rfl); (case zqp => rfl)))
  k_with "compareOp NotIn int ref" => (k_here; k_dflt (refine' edict_notin ?zqS ?zqD ?_; (case zqD => assumption); (case zqS => walk_at "v_sees")))
  k_with "compareOp In int ref" => (k_here; k_dflt (refine' edict_in ?zqS ?zqD ?_; (case zqD => assumption); (case zqS => walk_at "v_sees")))
  k_with "unpackItems ref" => (k_here; k_dflt (refine' unpackItemsN_ ?zqk1 ?zqk2 ?zqk3 ?zqk4 ?zqk5 ?_; (case zqk1 => k_asm); (case zqk2 => k_asm); (case zqk3 => kun_tup); (case zqk4 => first | assumption | exact Rm.hd_deeper (by assumption) _); (case zqk5 => exact rfl); k_whole); intro _ _ _; (try k_sweep))
  k_with "assign Tuple" => (k_here; (with_reducible show wpAny _ _ (assign (Expr.Tuple _ _ _) _ (Value.ref _)) _ _ _); k_dflt (refine' unpackN_ ?zqk1 ?zqk2 ?zqk3 ?zqk4 ?zqk5 ?zqk6 ?_; (case zqk1 => k_asm); (case zqk2 => k_asm); (case zqk3 => first | kun_tup | exact tup_sees (by assumption) (by walk_at "v_sees")); (case zqk4 => first | assumption | exact Rm.hd_deeper (by assumption) _); (case zqk5 => exact rfl); (case zqk6 => exact rfl); k_whole); intro _ _ _; (try k_sweep))
  k_with "getAttr ref" => (k_here; (with_reducible show wpAny _ _ (getAttr (Value.ref _) (PySem.Str.ofString "way") _) _ _ _); k_dflt (refine' ent_way' ?zqF ?zqX ?zqS ?zqx ?zqv ?_; (case zqx => assumption); (case zqv => assumption); (case zqF => k_asm); (case zqX => k_asm); (case zqS => walk_at "v_sees")); intro _)
  k_with "getAttr ref" => (k_here; (with_reducible show wpAny _ _ (getAttr (Value.ref _) (PySem.Str.ofString "one") _) _ _ _); k_dflt (refine' ent_one' ?zqF ?zqX ?zqS ?zqx ?zqv ?_; (case zqx => assumption); (case zqv => assumption); (case zqF => k_asm); (case zqX => k_asm); (case zqS => walk_at "v_sees")); intro _)
  k_with "getAttr ref" => (k_here; (with_reducible show wpAny _ _ (getAttr (Value.ref _) (PySem.Str.ofString "two") _) _ _ _); k_dflt (refine' ent_two' ?zqF ?zqX ?zqS ?zqx ?zqv ?_; (case zqx => assumption); (case zqv => assumption); (case zqF => k_asm); (case zqX => k_asm); (case zqS => walk_at "v_sees")); intro _)
  k_with "call builtin:dict.get" => (k_here; (with_reducible show wpAny _ _ (call (Value.builtin _) [Value.ref _, Value.int _ _]) _ _ _); k_dflt (refine' edict_get ?zqS ?zqD ?zqv ?_; (case zqD => assumption); (case zqv => assumption); (case zqS => walk_at "v_sees")))
  k_with "rm_room" => first | exact Rm.less (by assumption) (by omega) (by omega) | exact Rm.deeper (Rm.less (by assumption) (by omega) (by omega)) _
  k_with "call ref" => (k_here; (with_reducible show wpAny _ _ (call (Value.ref 92) _) _ _ _); k_dflt (refine' fnum_use ?zqR ?zqX ?zqT ?zqF ?zqN ?zqS ?zqD ?zqC ?zqz ?zqo ?_; (case zqR => walk_at "rm_room"); (case zqX => k_asm); (case zqT => k_asm); (case zqF => k_asm); (case zqN => k_asm); (case zqD => assumption); (case zqS => walk_at "v_sees"); (case zqC => assumption); (case zqz => omega); (case zqo => assumption)); intro _ _ _ _ _ _ _ _ _; (try k_sweep))
  k_with "call ref" => (k_here; (with_reducible show wpAny _ _ (call (Value.ref 99) _) _ _ _); k_dflt (refine' chain_use ?zqR ?zqX ?zqT ?zqF ?zqN ?zqS ?zqD ?zqC ?zqz ?_; (case zqR => walk_at "rm_room"); (case zqX => k_asm); (case zqT => k_asm); (case zqF => k_asm); (case zqN => k_asm); (case zqD => assumption); (case zqS => walk_at "v_sees"); (case zqC => assumption); (case zqz => omega)); intro _ _ _ _ _ _ _ _ _; (try k_sweep))
  k_with "call ref" => (k_here; (with_reducible show wpAny _ _ (call (Value.ref 170) _) _ _ _); k_dflt (refine' ring_use ?zqR ?zqX ?zqT ?zqF ?zqN ?zqS ?zqD ?zqC ?zqz ?_; (case zqR => walk_at "rm_room"); (case zqX => k_asm); (case zqT => k_asm); (case zqF => k_asm); (case zqN => k_asm); (case zqD => assumption); (case zqS => walk_at "v_sees"); (case zqC => assumption); (case zqz => omega)); intro _ _ _ _ _ _ _ _ _; (try k_sweep))
  k_with "compareOp In int ref" => (k_here; k_dflt (refine' edict_in_b ?zqS ?zqD ?zqb ?_; (case zqD => assumption); (case zqb => assumption); (case zqS => walk_at "v_sees")))
  k_with "compareOp NotIn int ref" => (k_here; k_dflt (refine' edict_notin_b ?zqS ?zqD ?zqb ?_; (case zqD => assumption); (case zqb => assumption); (case zqS => walk_at "v_sees")))
  k_with "v_sees" => first | exact Sees.keep (by assumption) (Fr.keep (by k_asm)) | exact Sees.sub (News.sees (by k_asm)) (fun _ h => by repeat (first | exact h | refine List.mem_cons_of_mem _ ?_))
  k_with "call ref" => (k_here; (with_reducible show wpAny _ _ (call (Value.ref 144) _) _ _ _); k_dflt (refine' draw_use ?zqR ?zqX ?zqT ?zqF ?zqN ?zqP ?zqU1 ?zqU2 ?zqne ?zqlo ?zqhi ?_; (case zqR => walk_at "rm_room"); (case zqX => k_asm); (case zqT => k_asm); (case zqF => k_asm); (case zqN => k_asm); (case zqP => assumption); (case zqU1 => k_updF); (case zqU2 => (intro o9; (try dsimp only); k_updF)); (case zqne => assumption); (case zqlo => omega); (case zqhi => omega)); intro _ _ _ _ _ _ _ _ _ _ _; rename_i N'; (try dsimp only at N'); (try k_sweep); revert N'; intro _)
  k_with "call builtin:len" => (k_here; (with_reducible show wpAny _ _ (call (Value.builtin _) [Value.ref _]) _ _ _); k_dflt (refine' len_use ?zqS ?zqD ?zqn ?zqz ?_; (case zqD => assumption); (case zqn => assumption); (case zqz => omega); (case zqS => walk_at "v_sees")))
  k_with "call builtin:max" => (k_here; (with_reducible show wpAny _ _ (call (Value.builtin _) [Value.ref _]) _ _ _); k_dflt (refine' max_use ?zqhh ?zqF ?zqN ?zqS ?zqD ?zqn ?_; (case zqhh => first | assumption | exact Rm.hd_deeper (by assumption) _); (case zqD => assumption); (case zqF => k_asm); (case zqN => k_asm); (case zqn => omega); (case zqS => walk_at "v_sees")); intro _ _ _ _ _ _ _ _; (try k_sweep))
  k_with "call builtin:len" => (k_here; (with_reducible show wpAny _ _ (call (Value.builtin _) [Value.ref _]) _ _ _); k_dflt (refine' len_gen ?zqS ?zqm ?zqn ?zqz ?_; (case zqm => assumption); (case zqn => assumption); (case zqz => omega); (case zqS => walk_at "v_sees")))
  k_with "compareOp NotEq ref ref" => (refine Held.use ?_)
  k_with "compareOp Eq ref ref" => (refine Held.use ?_)
  trivial
theorem law6 {w : World} {A : Around} {E : Value → Shared → Prop} {s : Shared} {Q : Flow → Shared → Prop} {g : Heap} {L fa : Addr} {cdv : Value} {sc : Scope} {l : List Str} {mg mb : Str → Option Value}
    (hsc : IsScope w sc) (R : Rm A 8 300) (X : (hd.heap_1 w.params).In g) (T : TopRead qv l mg mb g) (S : St5 w g L s)
    (K : ∀ s', s'.os = s.os → s'.gens = s.gens → St5 w g L s' → wpAny (model PR w) A (execs ((lawBody w).drop 9) (envOfC (Str.ofString "law") sc L fa cdv)) Q E s') :
    wpAny (model PR w) A (execs ((lawBody w).drop 8) (envOfC (Str.ofString "law") sc L fa cdv)) Q E s := by
  refine stage_cut (n := 8) (k := 1) (X := fun bd sc => (∀ s', s'.os = s.os → s'.gens = s.gens → St5 w g L s' → wpAny (model PR w) A (execs ((lawBody w).drop 9) (envOfC (Str.ofString "law") sc L fa cdv)) Q E s') → wpAny (model PR w) A (execs bd (envOfC (Str.ofString "law") sc L fa cdv)) Q E s) hsc (by k_is) (fun K => ?_) K
  simp only [List.drop_succ_cons, List.drop_zero, List.take_succ_cons, List.take_zero, List.cons_append, List.nil_append, Nat.zero_add]
  generalize List.drop 9 (lawBody w) = rest at K ⊢
  have hhA := R.hd
  obtain ⟨⟨cc, cg, cn, cs, cf, ce, cp⟩, pen, cells, o1, o2, tl, u, de, df, rb, fl, es, ch, top, tt, ks, ysb, nb, ⟨F, N, off, AP, P⟩, ⟨y1, y2, y3, y4, y5, y6, y7⟩, EN, ⟨ysf, nf, hfm, hfi⟩⟩ := S
  obtain ⟨⟨w0, w1, w2, w3, w4, w5, w6, w7⟩, ⟨v1, v2, v3, v4, v5, v6, v7⟩⟩ := AP.nat
  dsimp only [C7.led] at N y1 y2 y3 y4 y5 y6 y7
  dsimp only [adr9] at off
  have C := EN.chained
  have D := EN.D
  have Df := EN.Df
  obtain ⟨hl1, hl2, hl3⟩ := EN.lens
  have hz3 : (ch ++ es).length < 60 := by omega
  have hz5 := EN.hz
  k_steps
  rename_i r2 h2 tk2 vs ns n2 F2 N2 l2 hi2 hp2 ho2
  have hlv := hi2.length
  have hln : ns.length = es.length := by rw [hp2.length_eq, List.length_map]
  have h2r := N2 _ List.mem_cons_self
  have h2c := N2 (L + 1 + 1 + 1, cf) (by first | walk_at "mm" | simp)
  have n2c := l2 (L + 1 + 1 + 1, cf) (by first | walk_at "mm" | simp)
  have st0 : Sees tl h2 := Sees.sub (News.sees N2) fun p hp => by first | walk_at "mm" | simp [hp]
  have n2t : ∀ p ∈ tl, p.1 ≠ r2 := fun p hp => l2 p (by first | walk_at "mm" | simp [hp])
  have hks : ns = ks := same_sorted hp2 EN.hks ho2 EN.hso
  refine list_comp (σ := Unit) (vs := vs) (fun _ => []) [] (fun V _ i ys => DatAll V ys ((ns.take i).map (toldD es))) () R.hd ⟨_, h2r.1, rfl, ⟨_, rfl⟩⟩ (fun q => nomatch q) (by omega) (fun _ => rfl) (fun p hp => nomatch hp) (fun V U c i ys h sub => h.mono sub) (fun V c i ys h => by have := h.length; simp at this; omega) .nil ?turn ?done
  case turn =>
    rintro c i v ys U tl' s' C' h tk m g' rfl hC kp' hv hD sub off' hx F3 N3
    have st' : g.StaysIn g' := fun a o e => kp' a o (F2.keep a o e) (fun q => nomatch q) fun q => by subst q; rw [h2r.2.2] at e; cases e
    have X := X.keeps st'
    have T := T.keeps st'
    have Sg' : Sees tl g' := fun p hp => kp' _ _ (st0 p hp) (fun q => nomatch q) (n2t p hp)
    have hc' := kp' _ _ h2c.1 (fun q => nomatch q) n2c
    obtain ⟨k, t, hk, rfl⟩ := IntsAre.at hi2 hv
    have hmem : k ∈ es.map (·.1) := hp2.mem_iff.mp (List.mem_of_getElem? hk)
    obtain ⟨e, he0⟩ := Option.isSome_iff_exists.mp (show (getE es k).isSome = true by rw [getE_isSome]; exact decide_eq_true hmem)
    have he := getE_app Df.nodup he0
    have hE := Df.ents _ (getE_mem he)
    simp only [List.nil_append] at N3
    refine wpAny_tests_nil ?_
    simp only [if_true]
    k_steps
    rename_i T1 a1 b1 c1 h4 tk4 l3 D2 h5 F5 N5 l4
    refine CTurnEnd.intro F5 N5 () ((D2, { cls := .type "tuple", data := .seq #[.int k t, .ref T1] }) :: (T1, { cls := .type "tuple", data := .seq #[.str e.way a1, .int e.one b1, .int e.two c1] }) :: U) (fun p hp => nomatch hp) (fun p hp => List.mem_cons_of_mem _ (List.mem_cons_of_mem _ hp)) (fun p hp => ⟨?_, ?_, fun q => nomatch q⟩) ?_
    · rcases List.mem_cons.mp hp with rfl | hp
      · exact List.mem_cons_self
      · rcases List.mem_cons.mp hp with rfl | hp
        · exact List.mem_cons_of_mem _ List.mem_cons_self
        · exact List.mem_cons_of_mem _ (List.mem_cons_of_mem _ (sub _ hp))
    · rcases List.mem_cons.mp hp with rfl | hp
      · exact .inr fun q hq => Nat.ne_of_lt (ltN (AllLt.mem l4.2 q hq))
      · rcases List.mem_cons.mp hp with rfl | hp
        · exact .inr l3
        · exact .inl hp
    · show DatAll _ _ _
      rw [take_map_succ hk]
      refine DatAll.append (hD.mono fun p hp => List.mem_cons_of_mem _ (List.mem_cons_of_mem _ hp)) (DatAll.one ?_)
      unfold toldD
      rw [he0]
      exact .tuple (n := 0) List.mem_cons_self (.cons (.int _ _) (.cons (.tuple (n := 0) (List.mem_cons_of_mem _ List.mem_cons_self) (.cons (.str _ _) (.cons (.int _ _) (.cons (.int _ _) .nil)))) .nil))
  case done =>
    rintro c U C' D' ys h tk s₂ hD hE' _ hB hC hCD hVC ⟨o, rfl⟩
    intro h' sb
    obtain ⟨e1, b1⟩ := comp_close hE' hB hC sb (fun p hp => by
      rcases List.mem_cons.mp hp with rfl | hp
      · exact hCD.symm
      · exact hVC p hp)
    rw [hlv, List.take_length, hks] at hD
    have N3 := news_app F2 N2 e1.keep b1
    have F3 := Fr.keeps F2 e1.keep
    clear hE' hB e1 b1
    k_steps
    refine ⟨kqd_ne (oa := lst ys) (ob := W.listOf (List.toArray ysb) nb) N3 (by first | walk_at "mm" | simp) rfl rfl hD (fun p hp => by first | walk_at "mm" | simp [hp]) (by first | walk_at "mm" | simp [EN.hrb]) rfl rfl EN.hDb (fun p hp => by first | walk_at "mm" | simp [hp]) (told_ok EN.wayOk ks) (told_ok EN.wayOk ks) (by have := R.un; omega) ?_⟩
    rw [dec_self]
    have N3 : News g L h' ((L + 1 + 1 + 1 + 1 + 1 + 1 + 1, cc) :: (L + 1 + 1 + 1 + 1 + 1 + 1, cg) :: (L + 1 + 1 + 1 + 1 + 1, cn) :: (L + 1 + 1 + 1 + 1, cs) :: (L + 1 + 1 + 1, cf) :: (L + 1 + 1, ce) :: (L + 1, cp) :: (pen, o1) :: (cells, o2) :: tl) := fun p hp => N3 p (List.mem_append_right _ (List.mem_cons_of_mem _ hp))
    clear F2 N2
    k_steps
    refine told_spec (R.less (by omega) (by omega)) ⟨X, l, mg, mb, T⟩ F3.keep (Sees.sub (News.sees N3) fun p hp => by first | walk_at "mm" | simp [hp]) D (by omega) fun r5 nl5 ks5 ys5 n5 h5 tk5 e5 B5 hks5 hso5 hr5 hD5 => ?_
    have hk5 : ks5 = ks := same_sorted hks5 EN.hks hso5 EN.hso
    subst hk5
    have N5 := news_app F3 N3 e5.keep B5
    have F5 := Fr.keeps F3 e5.keep
    clear F3 N3
    k_steps
    refine ⟨kqd_ne (oa := W.listOf (List.toArray ys5) n5) (ob := W.listOf (List.toArray ysb) nb) N5 (by first | walk_at "mm" | simp [hr5]) rfl rfl hD5 (fun p hp => by first | walk_at "mm" | simp [hp]) (by first | walk_at "mm" | simp [EN.hrb]) rfl rfl EN.hDb (fun p hp => by first | walk_at "mm" | simp [hp]) (told_ok EN.wayOk ks5) (told_ok EN.wayOk ks5) (by have := R.un; omega) ?_⟩
    rw [dec_self]
    have N5 : News g L h5 ((L + 1 + 1 + 1 + 1 + 1 + 1 + 1, cc) :: (L + 1 + 1 + 1 + 1 + 1 + 1, cg) :: (L + 1 + 1 + 1 + 1 + 1, cn) :: (L + 1 + 1 + 1 + 1, cs) :: (L + 1 + 1 + 1, cf) :: (L + 1 + 1, ce) :: (L + 1, cp) :: (pen, o1) :: (cells, o2) :: tl) := fun p hp => N5 p (List.mem_append_right _ hp)
    obtain ⟨nF, hnF⟩ : ∃ n, (ch ++ es).length = n := ⟨_, rfl⟩
    obtain ⟨nE, hnE⟩ : ∃ n, es.length = n := ⟨_, rfl⟩
    obtain ⟨nL, hnL⟩ : ∃ n, ysf.length = n := ⟨_, rfl⟩
    have hlv2 : ysf.length = (lackL top es).length + 1 := hfi.length
    rw [List.length_append] at hnF
    have hsum : nF = nL + nE := by omega
    rw [← List.length_append] at hnF
    k_steps
    · rename_i q
      exact absurd (by omega) q
    · exact K _ rfl rfl ⟨⟨cc, cg, cn, cs, cf, ce, cp⟩, pen, cells, o1, o2, tl, u, de, df, rb, fl, es, ch, top, tt, ks5, ysb, nb, ⟨F5, N5, off, AP, P⟩, ⟨y1, y2, y3, y4, y5, y6, y7⟩, EN, ⟨ysf, nf, hfm, hfi⟩⟩
end S_OLaw6
section S_OLaw7
theorem reg54 : True := by
  k_with_none
  k_with "mm" => ((repeat' (first | (with_reducible exact List.mem_cons_self) | (with_reducible assumption) | (with_reducible refine List.mem_cons_of_mem _ ?_))); done)
  k_with "sub" => ((repeat' (first | (with_reducible exact sub_nil _) | (with_reducible refine sub_cons ?_ ?_) | (with_reducible exact List.mem_cons_self) | (with_reducible refine List.mem_cons_of_mem _ ?_) | (with_reducible assumption) | (intro p9 hp9))); done)
  k_with "v_sees" => first | exact Sees.keep (by assumption) (Fr.keep (by k_asm)) | exact Sees.sub (News.sees (by k_asm)) (fun _ h => by first | exact h | (refine List.mem_cons_of_mem _ ?_; exact h) | (refine List.mem_cons_of_mem _ (List.mem_cons_of_mem _ ?_); exact h))
  k_with "eval Name" => (k_here; (with_reducible show wpAny _ _ (eval (Expr.Name _ _) (compEnvC _ _ _ _)) _ _ _); k_dflt (first | (refine' nameB_L ?zqF ?zqv ?_ ?zqa ?zqb; (case zqF => k_asm); (case zqv => assumption); (case zqa => rfl); (case zqb => rfl)) | (refine' nameB_C ?zqF ?zqc ?zqo ?zqd ?_ ?zqa ?zqb; (case zqF => k_asm); (case zqa => rfl); (case zqb => rfl); (case zqc => rfl); (case zqo => assumption); (case zqd => assumption)) | (refine' nameB_G ?zqF ?zqX ?zqT ?zqe ?_ ?zqg ?zqa ?zqb; (case zqF => k_asm); (case zqX => k_asm); (case zqT => k_asm); (case zqg => rfl); (case zqa => rfl); (case zqb => rfl); (case zqe => k_is)) | (refine' nameB_B ?zqF ?zqX ?zqT ?zqe ?zqv ?zqn ?_ ?zqg ?zqh ?zqa ?zqb; (case zqF => k_asm); (case zqX => k_asm); (case zqT => k_asm); (case zqg => rfl); (case zqh => rfl); (case zqa => rfl); (case zqb => rfl); (case zqe => k_is); (case zqv => boot_fast); (case zqn => decide))))
  k_with "getAttr ref" => (k_here; (with_reducible show wpAny _ _ (getAttr (Value.ref _) (PySem.Str.ofString "way") _) _ _ _); k_dflt (refine' ent_way ?zqF ?zqX ?zqS ?zqx ?_; (case zqx => assumption); (case zqF => k_asm); (case zqX => k_asm); (case zqS => walk_at "v_sees")); intro _)
  k_with "getAttr ref" => (k_here; (with_reducible show wpAny _ _ (getAttr (Value.ref _) (PySem.Str.ofString "one") _) _ _ _); k_dflt (refine' ent_one ?zqF ?zqX ?zqS ?zqx ?_; (case zqx => assumption); (case zqF => k_asm); (case zqX => k_asm); (case zqS => walk_at "v_sees")); intro _)
  k_with "getAttr ref" => (k_here; (with_reducible show wpAny _ _ (getAttr (Value.ref _) (PySem.Str.ofString "two") _) _ _ _); k_dflt (refine' ent_two ?zqF ?zqX ?zqS ?zqx ?_; (case zqx => assumption); (case zqF => k_asm); (case zqX => k_asm); (case zqS => walk_at "v_sees")); intro _)
  k_with "getMethod ref" => (k_here; (with_reducible show wpAny _ _ (getMethod (Value.ref _) (PySem.Str.ofString "told") _) _ _ _); k_dflt (refine' ent_told ?zqF ?zqX ?zqS ?zqx ?_; (case zqx => assumption); (case zqF => k_asm); (case zqX => k_asm); (case zqS => walk_at "v_sees")))
  k_with "call builtin:sorted" => (k_here; (with_reducible show wpAny _ _ (call (Value.builtin _) [Value.ref _]) _ _ _); k_dflt (refine' sorted_edict ?zqhh ?zqS ?zqD ?zqF ?zqN ?zqz ?_; (case zqhh => first | assumption | exact Rm.hd_deeper (by assumption) _); (case zqD => assumption); (case zqF => k_asm); (case zqN => k_asm); (case zqS => walk_at "v_sees"); (case zqz => omega)); intro _ _ _ _ _ _ _ _ _ _ _ _; (try k_sweep))
  k_with "subscriptTail" => (k_here; (with_reducible show wpAny _ _ (subscriptTail _ _ (Value.ref _) (Value.int _ _)) _ _ _); k_dflt (refine' edict_item ?zqS ?zqD ?zqv ?_; (case zqD => assumption); (case zqv => assumption); (case zqS => walk_at "v_sees")))
  k_with "call ref" => (k_here; k_dflt (refine' told_use ?zqR ?zqX ?zqT ?zqF ?zqN ?zqS ?zqEn ?_; (case zqEn => assumption); (case zqR => first | exact Rm.less (by assumption) (by omega) (by omega) | exact Rm.deeper (Rm.less (by assumption) (by omega) (by omega)) _); (case zqX => k_asm); (case zqT => k_asm); (case zqF => k_asm); (case zqN => k_asm); (case zqS => walk_at "v_sees")); intro _ _ _ _ _ _ _ _ _; (try k_sweep))
  k_with "eval ListComp" => (k_here; k_dflt (refine' comp_raw ?zqcl ?zqce ?zqk ?zqn ?zqx ?_; (case zqcl => exact rfl); (case zqce => decide); (case zqk => rfl); (case zqn => decide); (case zqx => rfl)))
  k_with "exec For Name Call cons nil" => (k_here; k_dflt (refine for_raw (by rfl) (by rfl) ?_))
  k_with "exec For Name Name cons nil" => (k_here; k_dflt (refine for_raw (by rfl) (by rfl) ?_))
  k_with "call ref" => (k_here; k_dflt (refine' entry_use ?zqR ?zqX ?zqT ?zqF ?zqN ?_; (case zqR => exact Rm.deeper (Rm.less (by assumption) (by omega) (by omega)) _); (case zqX => k_asm); (case zqT => k_asm); (case zqF => k_asm); (case zqN => k_asm)); intro _ _ _ _ _ _ _ _ _ _ _ _ _ _ _ _ _; rename_i l1 l2 gw' g1' g2' gt'; (try k_lt l1); (try k_lt2 l2); (try k_sweep); revert l1 l2 gw' g1' g2' gt'; intro _ _ _ _ _ _)
  k_with "setItem ref int ref" => (k_here; k_dflt (refine' dict_set_K ?zqF ?zqN ?zqU ?zqhd ?zqhz ?_; (case zqF => k_asm); (case zqN => k_asm); (case zqU => k_updF); (case zqhd => assumption); (case zqhz => assumption)); intro _ _ _ _ _; rename_i N' hd'; (try dsimp only at N'); (try k_sweep); revert N' hd'; intro _ _)
  k_with "getMethod ref" => (k_here; (with_reducible show wpAny _ _ (getMethod (Value.ref _) (PySem.Str.ofString "get") _) _ _ _); k_dflt (refine' get_method ?zqS ?zqD ?_; (case zqD => first | assumption | exact EDict.dict (by assumption)); (case zqS => walk_at "v_sees")))
  k_with "call builtin:dict.get" => (k_here; (with_reducible show wpAny _ _ (call (Value.builtin _) [Value.ref _, Value.int _ _, Value.int _ _]) _ _ _); k_dflt (refine' get0_raw ?zqS ?zqD ?zqhg ?_; (case zqD => assumption); (case zqhg => assumption); (case zqS => walk_at "v_sees")); intro _)
  k_with "exec Assign cons ListComp" => (k_here; k_dflt (refine' comp_assign ?zqsw ?zqcl ?zqce ?zqk ?zqn ?zqx ?zqy ?zqp ?_; (case zqsw => rfl); (case zqcl => exact rfl); (case zqce => decide); (case zqk => rfl); (case zqn => decide); (case zqx => rfl); (case zqy => rfl); (case zqp => rfl)))
  k_with "compareOp NotIn int ref" => (k_here; k_dflt (refine' edict_notin ?zqS ?zqD ?_; (case zqD => assumption); (case zqS => walk_at "v_sees")))
  k_with "compareOp In int ref" => (k_here; k_dflt (refine' edict_in ?zqS ?zqD ?_; (case zqD => assumption); (case zqS => walk_at "v_sees")))
  k_with "unpackItems ref" => (k_here; k_dflt (refine' unpackItemsN_ ?zqk1 ?zqk2 ?zqk3 ?zqk4 ?zqk5 ?_; (case zqk1 => k_asm); (case zqk2 => k_asm); (case zqk3 => kun_tup); (case zqk4 => first | assumption | exact Rm.hd_deeper (by assumption) _); (case zqk5 => exact rfl); k_whole); intro _ _ _; (try k_sweep))
  k_with "assign Tuple" => (k_here; (with_reducible show wpAny _ _ (assign (Expr.Tuple _ _ _) _ (Value.ref _)) _ _ _); k_dflt (refine' unpackN_ ?zqk1 ?zqk2 ?zqk3 ?zqk4 ?zqk5 ?zqk6 ?_; (case zqk1 => k_asm); (case zqk2 => k_asm); (case zqk3 => first | kun_tup | exact tup_sees (by assumption) (by walk_at "v_sees")); (case zqk4 => first | assumption | exact Rm.hd_deeper (by assumption) _); (case zqk5 => exact rfl); (case zqk6 => exact rfl); k_whole); intro _ _ _; (try k_sweep))
  k_with "getAttr ref" => (k_here; (with_reducible show wpAny _ _ (getAttr (Value.ref _) (PySem.Str.ofString "way") _) _ _ _); k_dflt (refine' ent_way' ?zqF ?zqX ?zqS ?zqx ?zqv ?_; (case zqx => assumption); (case zqv => assumption); (case zqF => k_asm); (case zqX => k_asm); (case zqS => walk_at "v_sees")); intro _)
  k_with "getAttr ref" => (k_here; (with_reducible show wpAny _ _ (getAttr (Value.ref _) (PySem.Str.ofString "one") _) _ _ _); k_dflt (refine' ent_one' ?zqF ?zqX ?zqS ?zqx ?zqv ?_; (case zqx => assumption); (case zqv => assumption); (case zqF => k_asm); (case zqX => k_asm); (case zqS => walk_at "v_sees")); intro _)
  k_with "getAttr ref" => (k_here; (with_reducible show wpAny _ _ (getAttr (Value.ref _) (PySem.Str.ofString "two") _) _ _ _); k_dflt (refine' ent_two' ?zqF ?zqX ?zqS ?zqx ?zqv ?_; (case zqx => assumption); (case zqv => assumption); (case zqF => k_asm); (case zqX => k_asm); (case zqS => walk_at "v_sees")); intro _)
  k_with "call builtin:dict.get" => (k_here; (with_reducible show wpAny _ _ (call (Value.builtin _) [Value.ref _, Value.int _ _]) _ _ _); k_dflt (refine' edict_get ?zqS ?zqD ?zqv ?_; (case zqD => assumption); (case zqv => assumption); (case zqS => walk_at "v_sees")))
  k_with "rm_room" => first | exact Rm.less (by assumption) (by omega) (by omega) | exact Rm.deeper (Rm.less (by assumption) (by omega) (by omega)) _
  k_with "call ref" => (k_here; (with_reducible show wpAny _ _ (call (Value.ref 92) _) _ _ _); k_dflt (refine' fnum_use ?zqR ?zqX ?zqT ?zqF ?zqN ?zqS ?zqD ?zqC ?zqz ?zqo ?_; (case zqR => walk_at "rm_room"); (case zqX => k_asm); (case zqT => k_asm); (case zqF => k_asm); (case zqN => k_asm); (case zqD => assumption); (case zqS => walk_at "v_sees"); (case zqC => assumption); (case zqz => omega); (case zqo => assumption)); intro _ _ _ _ _ _ _ _ _; (try k_sweep))
  k_with "call ref" => (k_here; (with_reducible show wpAny _ _ (call (Value.ref 99) _) _ _ _); k_dflt (refine' chain_use ?zqR ?zqX ?zqT ?zqF ?zqN ?zqS ?zqD ?zqC ?zqz ?_; (case zqR => walk_at "rm_room"); (case zqX => k_asm); (case zqT => k_asm); (case zqF => k_asm); (case zqN => k_asm); (case zqD => assumption); (case zqS => walk_at "v_sees"); (case zqC => assumption); (case zqz => omega)); intro _ _ _ _ _ _ _ _ _; (try k_sweep))
  k_with "call ref" => (k_here; (with_reducible show wpAny _ _ (call (Value.ref 170) _) _ _ _); k_dflt (refine' ring_use ?zqR ?zqX ?zqT ?zqF ?zqN ?zqS ?zqD ?zqC ?zqz ?_; (case zqR => walk_at "rm_room"); (case zqX => k_asm); (case zqT => k_asm); (case zqF => k_asm); (case zqN => k_asm); (case zqD => assumption); (case zqS => walk_at "v_sees"); (case zqC => assumption); (case zqz => omega)); intro _ _ _ _ _ _ _ _ _; (try k_sweep))
  k_with "compareOp In int ref" => (k_here; k_dflt (refine' edict_in_b ?zqS ?zqD ?zqb ?_; (case zqD => assumption); (case zqb => assumption); (case zqS => walk_at "v_sees")))
  k_with "compareOp NotIn int ref" => (k_here; k_dflt (refine' edict_notin_b ?zqS ?zqD ?zqb ?_; (case zqD => assumption); (case zqb => assumption); (case zqS => walk_at "v_sees")))
  k_with "v_sees" => first | exact Sees.keep (by assumption) (Fr.keep (by k_asm)) | exact Sees.sub (News.sees (by k_asm)) (fun _ h => by repeat (first | exact h | refine List.mem_cons_of_mem _ ?_))
  k_with "call ref" => (k_here; (with_reducible show wpAny _ _ (call (Value.ref 144) _) _ _ _); k_dflt (refine' draw_use ?zqR ?zqX ?zqT ?zqF ?zqN ?zqP ?zqU1 ?zqU2 ?zqne ?zqlo ?zqhi ?_; (case zqR => walk_at "rm_room"); (case zqX => k_asm); (case zqT => k_asm); (case zqF => k_asm); (case zqN => k_asm); (case zqP => assumption); (case zqU1 => k_updF); (case zqU2 => (intro o9; (try dsimp only); k_updF)); (case zqne => assumption); (case zqlo => omega); (case zqhi => omega)); intro _ _ _ _ _ _ _ _ _ _ _; rename_i N'; (try dsimp only at N'); (try k_sweep); revert N'; intro _)
  k_with "call builtin:len" => (k_here; (with_reducible show wpAny _ _ (call (Value.builtin _) [Value.ref _]) _ _ _); k_dflt (refine' len_gen ?zqS ?zqm ?zqn ?zqz ?_; (case zqm => assumption); (case zqn => assumption); (case zqz => omega); (case zqS => walk_at "v_sees")))
  k_with "subscriptTail" => (k_here; (with_reducible show wpAny _ _ (subscriptTail _ _ (Value.ref _) (Value.int _ _)) _ _ _); k_dflt (refine' item_gen ?zqS ?zqm ?zqv ?zqh0 ?zqz ?_; (case zqm => assumption); (case zqv => assumption); (case zqh0 => omega); (case zqz => omega); (case zqS => walk_at "v_sees")))
  k_with "compareOp NotEq ref ref" => (refine Held.use ?_)
  k_with "compareOp Eq ref ref" => (refine Held.use ?_)
  k_with "subscriptTail" => (k_here; (with_reducible show wpAny _ _ (subscriptTail _ _ (Value.ref _) (Value.int _ _)) _ _ _); k_dflt (refine' ditem_K ?zqS ?zqD ?zqv ?_; (case zqD => assumption); (case zqv => assumption); (case zqS => walk_at "v_sees")))
  k_with "call ref" => (k_here; (with_reducible show wpAny _ _ (call (Value.ref 78) _) _ _ _); k_dflt (refine' entry_use ?zqR ?zqX ?zqT ?zqF ?zqN ?_; (case zqR => walk_at "rm_room"); (case zqX => k_asm); (case zqT => k_asm); (case zqF => k_asm); (case zqN => k_asm)); intro _ _ _ _ _ _ _ _ _ _ _ _ _ _ _ _ _; rename_i l1 l2 gw' g1' g2' gt'; (try k_lt l1); (try k_lt2 l2); (try k_sweep); revert l1 l2 gw' g1' g2' gt'; intro _ _ _ _ _ _)
  k_with "v_sees" => assumption
  trivial
theorem news_mid {g h : Heap} {L : Addr} {x : Addr × Obj} {U xs tl : Led} (N : News g L h ((x :: U) ++ (xs ++ tl))) : News g L h (x :: (xs ++ (U ++ tl))) := fun p hp => N p (by
  simp only [List.mem_cons, List.mem_append] at hp ⊢
  rcases hp with h | h | h | h <;> simp [h])
theorem reg55 : True := by
  k_with "sub3" => ((repeat' (first | (with_reducible refine sub_cons ?_ ?_) | (with_reducible exact List.mem_cons_self) | (with_reducible refine List.mem_cons_of_mem _ ?_) | (with_reducible refine List.mem_append_right _ ?_) | (with_reducible assumption) | (intro p9 hp9) | (exact (by assumption : ∀ p ∈ _, p ∈ _) _ (by assumption)))); done)
  trivial
theorem lackL_app (top : Int) (es : List (Int × Ent)) (sp : Int) (e : Ent) : lackL top (es ++ [(sp, e)]) = (lackL top es).filter fun k => !decide (k = sp) := by
  unfold lackL
  rw [List.filter_filter]
  refine List.filter_congr fun k _ => ?_
  rw [List.map_append]
  simp only [List.mem_append, List.map_cons, List.map_nil, List.mem_singleton]
  by_cases h1 : k ∈ es.map (·.1) <;> by_cases h2 : k = sp <;> simp [h1, h2]
theorem law7 {w : World} {A : Around} {E : Value → Shared → Prop} {s : Shared} {Q : Flow → Shared → Prop} {g : Heap} {L fa : Addr} {cdv : Value} {sc : Scope} {l : List Str} {mg mb : Str → Option Value}
    (hsc : IsScope w sc) (R : Rm A 8 300) (X : (hd.heap_1 w.params).In g) (T : TopRead qv l mg mb g) (S : St5 w g L s)
    (K : ∀ s', s'.os = s.os → s'.gens = s.gens → St10 w g L s' → wpAny (model PR w) A (execs ((lawBody w).drop 10) (envOfC (Str.ofString "law") sc L fa cdv)) Q E s') :
    wpAny (model PR w) A (execs ((lawBody w).drop 9) (envOfC (Str.ofString "law") sc L fa cdv)) Q E s := by
  refine stage_cut (n := 9) (k := 1) (X := fun bd sc => (∀ s', s'.os = s.os → s'.gens = s.gens → St10 w g L s' → wpAny (model PR w) A (execs ((lawBody w).drop 10) (envOfC (Str.ofString "law") sc L fa cdv)) Q E s') → wpAny (model PR w) A (execs bd (envOfC (Str.ofString "law") sc L fa cdv)) Q E s) hsc (by k_is) (fun K => ?_) K
  simp only [List.drop_succ_cons, List.drop_zero, List.take_succ_cons, List.take_zero, List.cons_append, List.nil_append, Nat.zero_add]
  generalize List.drop 10 (lawBody w) = rest at K ⊢
  have hhA := R.hd
  obtain ⟨⟨cc, cg, cn, cs, cf, ce, cp⟩, pen, cells, o1, o2, tl, u, de, df, rb, fl, es, ch, top, tt, ks, ysb, nb, ⟨F, N, off, AP, P⟩, ⟨y1, y2, y3, y4, y5, y6, y7⟩, EN, ⟨ysf, nf, hfm, hfi⟩⟩ := S
  obtain ⟨⟨w0, w1, w2, w3, w4, w5, w6, w7⟩, ⟨v1, v2, v3, v4, v5, v6, v7⟩⟩ := AP.nat
  dsimp only [C7.led] at N y1 y2 y3 y4 y5 y6 y7
  dsimp only [adr9] at off
  have C := EN.chained
  have D := EN.D
  have Df := EN.Df
  obtain ⟨hl1, hl2, hl3⟩ := EN.lens
  have hz3 : (ch ++ es).length < 60 := by omega
  have hz5 := EN.hz
  have nfl : fl ∉ adr9 L pen cells := off_not off hfm
  have hlf : (0 :: lackL top es).length ≤ 16 := by simp; omega
  obtain ⟨nL, hnL⟩ : ∃ n, ysf.length = n := ⟨_, rfl⟩
  have hlv2 : ysf.length = (lackL top es).length + 1 := hfi.length
  k_steps
  case refine'_9.refine'_4.refine'_5.refine_2 =>
    exact K _ rfl rfl ⟨⟨cc, cg, cn, cs, cf, ce, cp⟩, pen, cells, o1, o2, tl, _, _, _, _, ⟨F, N, off, AP, P⟩, ⟨y1, y2, y3, y4, y5, y6, y7⟩⟩
  rename_i hgt _ r tr h1 tk1 p1 p2 hr0 hr1 P1 F1 N1
  have hj : (1 + r).toNat < ysf.length := by omega
  obtain ⟨sp, tsp, hsp, hvsp⟩ := IntsAre.at hfi (List.getElem?_eq_getElem hj)
  have hv1 : ysf[(1 + r).toNat]? = some (.int sp tsp) := by rw [List.getElem?_eq_getElem hj, hvsp]
  refine item_gen (S := Sees.sub (News.sees N1) fun p hp => by first | walk_at "mm" | simp [hp]) hfm hv1 (by omega) (by omega) ?_
  k_steps
  rename_i h2 os F2 N2 ys2
  have st0 : Sees tl h2 := Sees.sub (News.sees N2) fun p hp => by first | walk_at "mm" | simp [hp]
  have h2c := N2 (L + 1 + 1, ce) (by first | walk_at "mm" | simp)
  have hdeg : g.get? de = none := by
    obtain ⟨_, o, ho, _⟩ := D.dict
    exact (N2 (de, o) (by first | walk_at "mm" | simp [ho])).2.2
  have hde : de ≠ L + 1 + 1 := fun q => by
    obtain ⟨_, o, ho, _⟩ := D.dict
    exact off_not off ho (by rw [show ((de, o) : Addr × Obj).1 = de from rfl, q]; simp)
  refine dict_comp (σ := Unit) (kvs := kvOf es) (fun _ => []) [] (fun V _ i ys => PairsV V ys ((kvOf es).take i)) () R.hd D.dict.1 (D.dict.dict st0) (fun q => nomatch q) (by simp [kvOf]; omega) (fun _ => rfl) (fun p hp => nomatch hp) (fun V U c i ys h sub => h.mono sub) (fun V c i ys h => by have := h.1; simp only [List.length_take] at this; omega) (PairsV.nil _) ?turn ?done
  case turn =>
    rintro c i k v t ys U tl' s' C' h tk m g' rfl hC kp' hkv ⟨od, hod, hdo⟩ hD sub off' hx F3 N3
    have st' : g.StaysIn g' := fun a o e => kp' a o (F2.keep a o e) (fun q => nomatch q) fun q => by subst q; rw [hdeg] at e; cases e
    have X := X.keeps st'
    have T := T.keeps st'
    have hc' := kp' _ _ h2c.1 (fun q => nomatch q) hde.symm
    have DD : DictV w tl' de (kvOf es) := ⟨D.dict.1, od, hod, hdo⟩
    have hk1 : (es.map (·.1))[i]? = some k := by
      rw [← kvOf_keys, List.getElem?_map, hkv]; rfl
    have hv : valueAt (kvOf es) k = some v := by
      unfold kvOf at hkv
      rw [List.getElem?_map] at hkv
      cases q : es[i]? with
      | none => rw [q] at hkv; cases hkv
      | some p =>
        rw [q] at hkv
        simp only [Option.map_some, Option.some.injEq, Prod.mk.injEq] at hkv
        obtain ⟨q1, q2⟩ := hkv
        rw [valueAt_kv, getE_of_mem EN.D.nodup (show (k, p.2) ∈ es from by rw [← q1]; exact List.mem_of_getElem? q), ← q2]
        rfl
    simp only [List.nil_append] at N3
    refine wpAny_tests_nil ?_
    simp only [if_true]
    k_steps
    rename_i D2 h5 F5 N5 l5
    refine CTurnEnd.intro F5 N5 () ((D2, tup2 (.int k t) v) :: U) (fun p hp => nomatch hp) (fun p hp => List.mem_cons_of_mem _ hp) (fun p hp => ⟨?_, ?_, fun q => nomatch q⟩) ?_
    · rcases List.mem_cons.mp hp with rfl | hp
      · exact List.mem_cons_self
      · exact List.mem_cons_of_mem _ (sub _ hp)
    · rcases List.mem_cons.mp hp with rfl | hp
      · exact .inr fun q hq => Nat.ne_of_lt (l5 q hq)
      · exact .inl hp
    · show PairsV _ _ _
      rw [List.take_add_one, hkv]
      exact (hD.mono fun p hp => List.mem_cons_of_mem _ hp).snoc List.mem_cons_self
  case done =>
    rintro c U C' D' ys h tk s₂ hD hE' _ hB hC hCD hVC ⟨o, rfl⟩
    intro h' sb
    obtain ⟨e1, b1⟩ := comp_close hE' hB hC sb (fun p hp => by
      rcases List.mem_cons.mp hp with rfl | hp
      · exact hCD.symm
      · exact hVC p hp)
    rw [List.take_length] at hD
    obtain ⟨tl3, htl3⟩ : ∃ tl3 : Led, tl3 = U ++ tl := ⟨_, rfl⟩
    have hU3 : ∀ p ∈ U, p ∈ tl3 := fun p hp => by rw [htl3]; exact List.mem_append_left _ hp
    have ht3 : ∀ p ∈ tl, p ∈ tl3 := fun p hp => by rw [htl3]; exact List.mem_append_right _ hp
    have N3 : News g L h' ((D', lst ys) :: (L + 1 + 1 + 1 + 1 + 1 + 1 + 1, cc) :: (L + 1 + 1 + 1 + 1 + 1 + 1, cg) :: (L + 1 + 1 + 1 + 1 + 1, cn) :: (L + 1 + 1 + 1 + 1, os) :: (L + 1 + 1 + 1, cf) :: (L + 1 + 1, ce) :: (L + 1, cp) :: (pen, p1) :: (cells, p2) :: tl3) := by
      rw [htl3]
      exact news_mid (xs := [(L + 1 + 1 + 1 + 1 + 1 + 1 + 1, cc), (L + 1 + 1 + 1 + 1 + 1 + 1, cg), (L + 1 + 1 + 1 + 1 + 1, cn), (L + 1 + 1 + 1 + 1, os), (L + 1 + 1 + 1, cf), (L + 1 + 1, ce), (L + 1, cp), (pen, p1), (cells, p2)]) (news_app F2 N2 e1.keep b1)
    clear htl3
    have F3 := Fr.keeps F2 e1.keep
    have hD := hD.mono hU3
    have l3 : ∀ p ∈ ((L + 1 + 1 + 1 + 1 + 1 + 1 + 1, cc) :: (L + 1 + 1 + 1 + 1 + 1 + 1, cg) :: (L + 1 + 1 + 1 + 1 + 1, cn) :: (L + 1 + 1 + 1 + 1, os) :: (L + 1 + 1 + 1, cf) :: (L + 1 + 1, ce) :: (L + 1, cp) :: (pen, p1) :: (cells, p2) :: tl : Led), p.1 ≠ D' := fun p hp => New.ne (b1 _ List.mem_cons_self).2 (N2 p hp).1
    clear hE' hB e1 b1
    k_steps
    rename_i x7 dx7 h4 tk4 es7 n7 a7 b7 c7 gw7 g17 g27 gt7 la7 lb7 D7 h5 lc7 l7 h6 F6 N6 ld7
    have hDs : PairsV ((D7, tup2 (.int sp tsp) (.ref x7)) :: tl3) (ys ++ [.ref D7]) (kvOf es ++ [(sp, .ref x7)]) := (hD.mono fun p hp => List.mem_cons_of_mem _ hp).snoc List.mem_cons_self
    refine kmk_add_lit F6 N6 (lst_led (vs := ys) (n := ys.length) N6 (by first | walk_at "mm" | simp)) (lst_led (vs := [.ref D7]) (n := 0) N6 List.mem_cons_self) rfl (fun l8 h7 F7 N7 le8 => ?_) (by have := hD.1; simp [kvOf, sizeLine_eq] at this ⊢; omega)
    k_steps
    have N7 : News g L h7 ((l8, W.listOf (List.toArray (ys ++ [.ref D7])) 0) :: (x7, instObj 78 dx7) :: (dx7, W.dictOf es7 n7) :: (D7, tup2 (.int sp tsp) (.ref x7)) :: (L + 1 + 1 + 1 + 1 + 1 + 1 + 1, cc) :: (L + 1 + 1 + 1 + 1 + 1 + 1, cg) :: (L + 1 + 1 + 1 + 1 + 1, cn) :: (L + 1 + 1 + 1 + 1, os) :: (L + 1 + 1 + 1, cf) :: (L + 1 + 1, ce) :: (L + 1, cp) :: (pen, p1) :: (cells, p2) :: tl3) := fun p hp => N7 p (by first | exact (show ∀ q ∈ _, q ∈ _ from by walk_at "sub") p hp | (simp only [List.mem_cons] at hp ⊢; rcases hp with h | h | h | h | h | h | h | h | h | h | h | h | h | h <;> simp [h]))
    have S7 : Sees ((D7, tup2 (.int sp tsp) (.ref x7)) :: tl3) h7 := Sees.sub (News.sees N7) (by walk_at "sub")
    refine dict_pairs (vs := ys ++ [.ref D7]) (n := 0) (kvs := kvOf es ++ [(sp, .ref x7)]) hhA (N7 _ List.mem_cons_self).1 hDs.1 (by simp [kvOf]; omega) (hDs.at' S7) fun h8 tk8 hd8 e8 => ?_
    have lo8 := F7.notModules (modules_low T.nolimit)
    have hspl : sp ∈ lackL top es := by
      obtain ⟨j, hj9⟩ : ∃ j, (1 + r).toNat = j + 1 := ⟨r.toNat, by omega⟩
      rw [hj9, List.getElem?_cons_succ] at hsp
      exact List.mem_of_getElem? hsp
    obtain ⟨sp1, sp2, sp3⟩ := lackL_pos hspl
    rw [stored_all (by
      rw [List.nil_append, List.map_append, kvOf_keys, List.nodup_append]
      exact ⟨EN.D.nodup, by simp, fun a ha b hb q => sp3 (by simp at hb; rw [← hb, ← q]; exact ha)⟩), List.nil_append] at hd8
    obtain ⟨o8, ho8, hdo8⟩ := Heap.dictOf_iff.mp hd8
    obtain ⟨N8, n8⟩ := news_two F7 N7 e8.keep (New.of_le (Nat.le_refl _)) ho8
    have F8 := Fr.keeps F7 e8.keep
    generalize h7.objs.size = a8 at *
    obtain ⟨es', hes'⟩ : ∃ es', es' = es ++ [(sp, (⟨x7, Str.ofString "used", 5, 0⟩ : Ent))] := ⟨_, rfl⟩
    have D8 : EDict w ((a8, o8) :: (x7, instObj 78 dx7) :: (dx7, W.dictOf es7 n7) :: tl) a8 es' := by
      refine ⟨⟨lo8, o8, List.mem_cons_self, by rw [hes']; simpa [kvOf] using hdo8⟩, fun p hp => ?_⟩
      rw [hes'] at hp
      rcases List.mem_append.mp hp with hp | hp
      · exact (EN.D.ents p hp).mono fun q hq => by simp [hq]
      · rw [List.mem_singleton.mp hp]
        exact ⟨dx7, es7, n7, a7, b7, c7, by simp, by simp, gw7, g17, g27, gt7⟩
    clear F7 N7 hd8
    k_steps
    rename_i h8' F8 N8
    have hz8 : es'.length ≤ 20 := by rw [hes', List.length_append]; simp; omega
    refine with_spec (R.less (by omega) (by omega)) ⟨X, l, mg, mb, T⟩ F8.keep (Sees.sub (News.sees N8) (by walk_at "sub3")) D8 hz8 (fun p hp => by
      rw [hes'] at hp
      rcases List.mem_append.mp hp with hp | hp
      · exact (EN.hk p hp).1
      · rw [List.mem_singleton.mp hp]; exact sp1) EN.t1 (by have := EN.t2; omega) fun d9 nw9 ch9 h9 tk9 e9 B9 D9 hch9 => ?_
    have N9 := news_app F8 N8 e9.keep B9
    have F9 := Fr.keeps F8 e9.keep
    have C9 := chained_of hch9 D9.nodup (fun k hk => (lackL_pos hk).1) (fun p hp q => by
      rw [hes'] at hp
      rcases List.mem_append.mp hp with hp | hp
      · rcases (EN.hk p hp).2.2 with h | h
        · rw [h] at q; exact absurd q (by decide)
        · rw [h] at q; exact absurd q (by decide)
      · rw [List.mem_singleton.mp hp] at q; exact absurd (show Str.ofString "used" = Str.ofString "free" from q) (by decide))
    have hl9 : (lackL top es').length < 40 := by
      refine Nat.lt_of_le_of_lt (List.length_filter_le _ _) ?_
      have := EN.t2
      simp
      omega
    have S9 := Sees.sub (News.sees N9) (U := nw9 ++ ((a8, o8) :: (x7, instObj 78 dx7) :: (dx7, W.dictOf es7 n7) :: tl)) fun p hp => by
      rcases List.mem_append.mp hp with hp | hp
      · exact List.mem_append_left _ hp
      · exact List.mem_append_right _ ((show ∀ q ∈ _, q ∈ _ from by walk_at "sub3") p hp)
    k_steps
    rename_i r10 ys10 n10 h10 tk10 F10 N10 l10 hi10
    have N10 : News g L h10 ((r10, W.listOf (List.toArray ys10) n10) :: (L + 1 + 1 + 1 + 1 + 1 + 1 + 1, cc) :: (L + 1 + 1 + 1 + 1 + 1 + 1, cg) :: (L + 1 + 1 + 1 + 1 + 1, cn) :: (L + 1 + 1 + 1 + 1, os) :: (L + 1 + 1 + 1, cf) :: (L + 1 + 1, ce) :: (L + 1, cp) :: (pen, p1) :: (cells, p2) :: tl) := fun p hp => N10 p ((show ∀ q ∈ _, q ∈ _ from by walk_at "sub3") p hp)
    clear S9 l10
    have hfl0 := N10 (fl, W.listOf ysf.toArray nf) (by first | walk_at "mm" | simp [hfm])
    have h10c := N10 (L + 1 + 1 + 1 + 1, os) (by first | walk_at "mm" | simp)
    have hflc : fl ≠ L + 1 + 1 + 1 + 1 := fun q => nfl (by rw [q]; simp)
    have gfl : g.get? fl = none := hfl0.2.2
    refine list_comp (σ := Unit) (vs := ysf) (fun _ => []) [] (fun V _ i ys => IntsAre ys (((0 :: lackL top es).take i).filter fun k => !decide (k = sp))) () R.hd ⟨_, hfl0.1, rfl, ⟨_, rfl⟩⟩ (fun q => nomatch q) (by omega) (fun _ => rfl) (fun p hp => nomatch hp) (fun V U c i ys h sub => h) (fun V c i ys h => by
      rw [h.length]
      exact Nat.le_trans (List.length_filter_le _ _) (by simp; omega)) .nil ?turn ?done
    case turn =>
      rintro c i v ys U tl' s' C' h tk m g' rfl hC kp' hv hD sub off' hx F3 N3
      have st' : g.StaysIn g' := fun a o e => kp' a o (F10.keep a o e) (fun q => nomatch q) fun q => by subst q; rw [gfl] at e; cases e
      have X := X.keeps st'
      have T := T.keeps st'
      have hc' := kp' _ _ h10c.1 (fun q => nomatch q) hflc.symm
      obtain ⟨k, t, hk, rfl⟩ := IntsAre.at hfi hv
      simp only [List.nil_append] at N3
      refine wpAny_tests_one ?_
      k_steps
      all_goals
        rename_i hne9
        refine CTurnEnd.intro F3 N3 () [] (fun p hp => nomatch hp) (fun p hp => hp) (fun p hp => nomatch hp) ?_
        show IntsAre _ _
        rw [filter_snoc hk _ rfl]
        first
        | (rw [decide_eq_true hne9]; simp only [Bool.not_true, Bool.false_eq_true, if_false, List.append_nil]; exact hD)
        | (rw [decide_eq_false hne9]; simp only [Bool.not_false, if_true]; exact hD.append (.cons _ _ .nil))
        | (rw [decide_eq_true (Classical.not_not.mp hne9)]; simp only [Bool.not_true, Bool.false_eq_true, if_false, List.append_nil]; exact hD)
    case done =>
      rintro c U C' D' ys h tk s₂ hD hE' _ hB hC hCD hVC ⟨o, rfl⟩
      intro h' sb
      obtain ⟨e1, b1⟩ := comp_close hE' hB hC sb (fun p hp => by
        rcases List.mem_cons.mp hp with rfl | hp
        · exact hCD.symm
        · exact hVC p hp)
      obtain ⟨N3, nD⟩ := news_two (o := W.listOf ys.toArray ys.length) F10 N10 e1.keep (b1 _ List.mem_cons_self).2 (b1 _ List.mem_cons_self).1
      have F3 := Fr.keeps F10 e1.keep
      dsimp only at N3
      rw [List.take_of_length_le (by simp; omega)] at hD
      clear hE' hB e1 b1 F10 N10
      k_steps
      have hE9 : (0 :: lackL top es).filter (fun k => !decide (k = sp)) = 0 :: lackL top es' := by
        rw [hes', lackL_app, List.filter_cons, if_pos (by rw [decide_eq_false (by omega)]; rfl)]
      rw [hE9] at hD
      refine ⟨ne_intsK (lst_led (vs := ys10) (n := n10) N3 (by first | walk_at "mm" | simp)) hi10 (lst_led N3 List.mem_cons_self) hD (by have := R.un; simp; omega) ?_⟩
      rw [decide_eq_true rfl]
      have N3 : News g L h' ((L + 1 + 1 + 1 + 1 + 1 + 1 + 1, cc) :: (L + 1 + 1 + 1 + 1 + 1 + 1, cg) :: (L + 1 + 1 + 1 + 1 + 1, cn) :: (L + 1 + 1 + 1 + 1, os) :: (L + 1 + 1 + 1, cf) :: (L + 1 + 1, ce) :: (L + 1, cp) :: (pen, p1) :: (cells, p2) :: tl) := fun p hp => N3 p (List.mem_cons_of_mem _ (List.mem_cons_of_mem _ hp))
      k_steps
      exact K _ rfl rfl ⟨⟨cc, cg, cn, os, cf, ce, cp⟩, pen, cells, p1, p2, tl, _, _, _, _, ⟨F3, N3, off, AP, P1⟩, ⟨y1, y2, y3, ys2, y5, y6, y7⟩⟩
end S_OLaw7
section S_OLaw8
theorem reg56 : True := by
  k_with_none
  k_with "mm" => ((repeat' (first | (with_reducible exact List.mem_cons_self) | (with_reducible assumption) | (with_reducible refine List.mem_cons_of_mem _ ?_))); done)
  k_with "sub" => ((repeat' (first | (with_reducible exact sub_nil _) | (with_reducible refine sub_cons ?_ ?_) | (with_reducible exact List.mem_cons_self) | (with_reducible refine List.mem_cons_of_mem _ ?_) | (with_reducible assumption) | (intro p9 hp9))); done)
  k_with "v_sees" => first | exact Sees.keep (by assumption) (Fr.keep (by k_asm)) | exact Sees.sub (News.sees (by k_asm)) (fun _ h => by first | exact h | (refine List.mem_cons_of_mem _ ?_; exact h) | (refine List.mem_cons_of_mem _ (List.mem_cons_of_mem _ ?_); exact h))
  k_with "eval Name" => (k_here; (with_reducible show wpAny _ _ (eval (Expr.Name _ _) (compEnvC _ _ _ _)) _ _ _); k_dflt (first | (refine' nameB_L ?zqF ?zqv ?_ ?zqa ?zqb; (case zqF => k_asm); (case zqv => assumption); (case zqa => rfl); (case zqb => rfl)) | (refine' nameB_C ?zqF ?zqc ?zqo ?zqd ?_ ?zqa ?zqb; (case zqF => k_asm); (case zqa => rfl); (case zqb => rfl); (case zqc => rfl); (case zqo => assumption); (case zqd => assumption)) | (refine' nameB_G ?zqF ?zqX ?zqT ?zqe ?_ ?zqg ?zqa ?zqb; (case zqF => k_asm); (case zqX => k_asm); (case zqT => k_asm); (case zqg => rfl); (case zqa => rfl); (case zqb => rfl); (case zqe => k_is)) | (refine' nameB_B ?zqF ?zqX ?zqT ?zqe ?zqv ?zqn ?_ ?zqg ?zqh ?zqa ?zqb; (case zqF => k_asm); (case zqX => k_asm); (case zqT => k_asm); (case zqg => rfl); (case zqh => rfl); (case zqa => rfl); (case zqb => rfl); (case zqe => k_is); (case zqv => boot_fast); (case zqn => decide))))
  k_with "getAttr ref" => (k_here; (with_reducible show wpAny _ _ (getAttr (Value.ref _) (PySem.Str.ofString "way") _) _ _ _); k_dflt (refine' ent_way ?zqF ?zqX ?zqS ?zqx ?_; (case zqx => assumption); (case zqF => k_asm); (case zqX => k_asm); (case zqS => walk_at "v_sees")); intro _)
  k_with "getAttr ref" => (k_here; (with_reducible show wpAny _ _ (getAttr (Value.ref _) (PySem.Str.ofString "one") _) _ _ _); k_dflt (refine' ent_one ?zqF ?zqX ?zqS ?zqx ?_; (case zqx => assumption); (case zqF => k_asm); (case zqX => k_asm); (case zqS => walk_at "v_sees")); intro _)
  k_with "getAttr ref" => (k_here; (with_reducible show wpAny _ _ (getAttr (Value.ref _) (PySem.Str.ofString "two") _) _ _ _); k_dflt (refine' ent_two ?zqF ?zqX ?zqS ?zqx ?_; (case zqx => assumption); (case zqF => k_asm); (case zqX => k_asm); (case zqS => walk_at "v_sees")); intro _)
  k_with "getMethod ref" => (k_here; (with_reducible show wpAny _ _ (getMethod (Value.ref _) (PySem.Str.ofString "told") _) _ _ _); k_dflt (refine' ent_told ?zqF ?zqX ?zqS ?zqx ?_; (case zqx => assumption); (case zqF => k_asm); (case zqX => k_asm); (case zqS => walk_at "v_sees")))
  k_with "call builtin:sorted" => (k_here; (with_reducible show wpAny _ _ (call (Value.builtin _) [Value.ref _]) _ _ _); k_dflt (refine' sorted_edict ?zqhh ?zqS ?zqD ?zqF ?zqN ?zqz ?_; (case zqhh => first | assumption | exact Rm.hd_deeper (by assumption) _); (case zqD => assumption); (case zqF => k_asm); (case zqN => k_asm); (case zqS => walk_at "v_sees"); (case zqz => omega)); intro _ _ _ _ _ _ _ _ _ _ _ _; (try k_sweep))
  k_with "subscriptTail" => (k_here; (with_reducible show wpAny _ _ (subscriptTail _ _ (Value.ref _) (Value.int _ _)) _ _ _); k_dflt (refine' edict_item ?zqS ?zqD ?zqv ?_; (case zqD => assumption); (case zqv => assumption); (case zqS => walk_at "v_sees")))
  k_with "call ref" => (k_here; k_dflt (refine' told_use ?zqR ?zqX ?zqT ?zqF ?zqN ?zqS ?zqEn ?_; (case zqEn => assumption); (case zqR => first | exact Rm.less (by assumption) (by omega) (by omega) | exact Rm.deeper (Rm.less (by assumption) (by omega) (by omega)) _); (case zqX => k_asm); (case zqT => k_asm); (case zqF => k_asm); (case zqN => k_asm); (case zqS => walk_at "v_sees")); intro _ _ _ _ _ _ _ _ _; (try k_sweep))
  k_with "eval ListComp" => (k_here; k_dflt (refine' comp_raw ?zqcl ?zqce ?zqk ?zqn ?zqx ?_; (case zqcl => exact rfl); (case zqce => decide); (case zqk => rfl); (case zqn => decide); (case zqx => rfl)))
  k_with "exec For Name Call cons nil" => (k_here; k_dflt (refine for_raw (by rfl) (by rfl) ?_))
  k_with "exec For Name Name cons nil" => (k_here; k_dflt (refine for_raw (by rfl) (by rfl) ?_))
  k_with "call ref" => (k_here; k_dflt (refine' entry_use ?zqR ?zqX ?zqT ?zqF ?zqN ?_; (case zqR => exact Rm.deeper (Rm.less (by assumption) (by omega) (by omega)) _); (case zqX => k_asm); (case zqT => k_asm); (case zqF => k_asm); (case zqN => k_asm)); intro _ _ _ _ _ _ _ _ _ _ _ _ _ _ _ _ _; rename_i l1 l2 gw' g1' g2' gt'; (try k_lt l1); (try k_lt2 l2); (try k_sweep); revert l1 l2 gw' g1' g2' gt'; intro _ _ _ _ _ _)
  k_with "setItem ref int ref" => (k_here; k_dflt (refine' dict_set_K ?zqF ?zqN ?zqU ?zqhd ?zqhz ?_; (case zqF => k_asm); (case zqN => k_asm); (case zqU => k_updF); (case zqhd => assumption); (case zqhz => assumption)); intro _ _ _ _ _; rename_i N' hd'; (try dsimp only at N'); (try k_sweep); revert N' hd'; intro _ _)
  k_with "getMethod ref" => (k_here; (with_reducible show wpAny _ _ (getMethod (Value.ref _) (PySem.Str.ofString "get") _) _ _ _); k_dflt (refine' get_method ?zqS ?zqD ?_; (case zqD => first | assumption | exact EDict.dict (by assumption)); (case zqS => walk_at "v_sees")))
  k_with "call builtin:dict.get" => (k_here; (with_reducible show wpAny _ _ (call (Value.builtin _) [Value.ref _, Value.int _ _, Value.int _ _]) _ _ _); k_dflt (refine' get0_raw ?zqS ?zqD ?zqhg ?_; (case zqD => assumption); (case zqhg => assumption); (case zqS => walk_at "v_sees")); intro _)
  k_with "exec Assign cons ListComp" => (k_here; k_dflt (refine' comp_assign ?zqsw ?zqcl ?zqce ?zqk ?zqn ?zqx ?zqy ?zqp ?_; (case zqsw => rfl); (case zqcl => exact rfl); (case zqce => decide); (case zqk => rfl); (case zqn => decide); (case zqx => rfl); (case zqy => rfl); (case zqp => rfl)))
  k_with "compareOp NotIn int ref" => (k_here; k_dflt (refine' edict_notin ?zqS ?zqD ?_; (case zqD => assumption); (case zqS => walk_at "v_sees")))
  k_with "compareOp In int ref" => (k_here; k_dflt (refine' edict_in ?zqS ?zqD ?_; (case zqD => assumption); (case zqS => walk_at "v_sees")))
  k_with "unpackItems ref" => (k_here; k_dflt (refine' unpackItemsN_ ?zqk1 ?zqk2 ?zqk3 ?zqk4 ?zqk5 ?_; (case zqk1 => k_asm); (case zqk2 => k_asm); (case zqk3 => kun_tup); (case zqk4 => first | assumption | exact Rm.hd_deeper (by assumption) _); (case zqk5 => exact rfl); k_whole); intro _ _ _; (try k_sweep))
  k_with "assign Tuple" => (k_here; (with_reducible show wpAny _ _ (assign (Expr.Tuple _ _ _) _ (Value.ref _)) _ _ _); k_dflt (refine' unpackN_ ?zqk1 ?zqk2 ?zqk3 ?zqk4 ?zqk5 ?zqk6 ?_; (case zqk1 => k_asm); (case zqk2 => k_asm); (case zqk3 => first | kun_tup | exact tup_sees (by assumption) (by walk_at "v_sees")); (case zqk4 => first | assumption | exact Rm.hd_deeper (by assumption) _); (case zqk5 => exact rfl); (case zqk6 => exact rfl); k_whole); intro _ _ _; (try k_sweep))
  k_with "getAttr ref" => (k_here; (with_reducible show wpAny _ _ (getAttr (Value.ref _) (PySem.Str.ofString "way") _) _ _ _); k_dflt (refine' ent_way' ?zqF ?zqX ?zqS ?zqx ?zqv ?_; (case zqx => assumption); (case zqv => assumption); (case zqF => k_asm); (case zqX => k_asm); (case zqS => walk_at "v_sees")); intro _)
  k_with "getAttr ref" => (k_here; (with_reducible show wpAny _ _ (getAttr (Value.ref _) (PySem.Str.ofString "one") _) _ _ _); k_dflt (refine' ent_one' ?zqF ?zqX ?zqS ?zqx ?zqv ?_; (case zqx => assumption); (case zqv => assumption); (case zqF => k_asm); (case zqX => k_asm); (case zqS => walk_at "v_sees")); intro _)
  k_with "getAttr ref" => (k_here; (with_reducible show wpAny _ _ (getAttr (Value.ref _) (PySem.Str.ofString "two") _) _ _ _); k_dflt (refine' ent_two' ?zqF ?zqX ?zqS ?zqx ?zqv ?_; (case zqx => assumption); (case zqv => assumption); (case zqF => k_asm); (case zqX => k_asm); (case zqS => walk_at "v_sees")); intro _)
  k_with "call builtin:dict.get" => (k_here; (with_reducible show wpAny _ _ (call (Value.builtin _) [Value.ref _, Value.int _ _]) _ _ _); k_dflt (refine' edict_get ?zqS ?zqD ?zqv ?_; (case zqD => assumption); (case zqv => assumption); (case zqS => walk_at "v_sees")))
  k_with "rm_room" => first | exact Rm.less (by assumption) (by omega) (by omega) | exact Rm.deeper (Rm.less (by assumption) (by omega) (by omega)) _
  k_with "call ref" => (k_here; (with_reducible show wpAny _ _ (call (Value.ref 92) _) _ _ _); k_dflt (refine' fnum_use ?zqR ?zqX ?zqT ?zqF ?zqN ?zqS ?zqD ?zqC ?zqz ?zqo ?_; (case zqR => walk_at "rm_room"); (case zqX => k_asm); (case zqT => k_asm); (case zqF => k_asm); (case zqN => k_asm); (case zqD => assumption); (case zqS => walk_at "v_sees"); (case zqC => assumption); (case zqz => omega); (case zqo => assumption)); intro _ _ _ _ _ _ _ _ _; (try k_sweep))
  k_with "call ref" => (k_here; (with_reducible show wpAny _ _ (call (Value.ref 99) _) _ _ _); k_dflt (refine' chain_use ?zqR ?zqX ?zqT ?zqF ?zqN ?zqS ?zqD ?zqC ?zqz ?_; (case zqR => walk_at "rm_room"); (case zqX => k_asm); (case zqT => k_asm); (case zqF => k_asm); (case zqN => k_asm); (case zqD => assumption); (case zqS => walk_at "v_sees"); (case zqC => assumption); (case zqz => omega)); intro _ _ _ _ _ _ _ _ _; (try k_sweep))
  k_with "call ref" => (k_here; (with_reducible show wpAny _ _ (call (Value.ref 170) _) _ _ _); k_dflt (refine' ring_use ?zqR ?zqX ?zqT ?zqF ?zqN ?zqS ?zqD ?zqC ?zqz ?_; (case zqR => walk_at "rm_room"); (case zqX => k_asm); (case zqT => k_asm); (case zqF => k_asm); (case zqN => k_asm); (case zqD => assumption); (case zqS => walk_at "v_sees"); (case zqC => assumption); (case zqz => omega)); intro _ _ _ _ _ _ _ _ _; (try k_sweep))
  k_with "compareOp In int ref" => (k_here; k_dflt (refine' edict_in_b ?zqS ?zqD ?zqb ?_; (case zqD => assumption); (case zqb => assumption); (case zqS => walk_at "v_sees")))
  k_with "compareOp NotIn int ref" => (k_here; k_dflt (refine' edict_notin_b ?zqS ?zqD ?zqb ?_; (case zqD => assumption); (case zqb => assumption); (case zqS => walk_at "v_sees")))
  k_with "v_sees" => first | exact Sees.keep (by assumption) (Fr.keep (by k_asm)) | exact Sees.sub (News.sees (by k_asm)) (fun _ h => by repeat (first | exact h | refine List.mem_cons_of_mem _ ?_))
  k_with "call ref" => (k_here; (with_reducible show wpAny _ _ (call (Value.ref 144) _) _ _ _); k_dflt (refine' draw_use ?zqR ?zqX ?zqT ?zqF ?zqN ?zqP ?zqU1 ?zqU2 ?zqne ?zqlo ?zqhi ?_; (case zqR => walk_at "rm_room"); (case zqX => k_asm); (case zqT => k_asm); (case zqF => k_asm); (case zqN => k_asm); (case zqP => assumption); (case zqU1 => k_updF); (case zqU2 => (intro o9; (try dsimp only); k_updF)); (case zqne => assumption); (case zqlo => omega); (case zqhi => omega)); intro _ _ _ _ _ _ _ _ _ _ _; rename_i N'; (try dsimp only at N'); (try k_sweep); revert N'; intro _)
  k_with "call builtin:len" => (k_here; (with_reducible show wpAny _ _ (call (Value.builtin _) [Value.ref _]) _ _ _); k_dflt (refine' len_gen ?zqS ?zqm ?zqn ?zqz ?_; (case zqm => assumption); (case zqn => assumption); (case zqz => omega); (case zqS => walk_at "v_sees")))
  trivial
/-- a list of ints over a ledger -/
def IntsV (V : Led) (a : Addr) (ns : List Int) : Prop := ∃ ys n, (a, W.listOf (List.toArray ys) n) ∈ V ∧ IntsAre ys ns
theorem IntsV.mono {V U : Led} {a : Addr} {ns : List Int} (x : IntsV V a ns) (s : ∀ p ∈ V, p ∈ U) : IntsV U a ns := let ⟨ys, n, h, i⟩ := x; ⟨ys, n, s _ h, i⟩
inductive St11 (w : World) (g : Heap) (L : Addr) (s : Shared) : Prop
  | mk (c : C7) (pen cells : Addr) (o1 o2 : Obj) (tl : Led) (m : Str → Option Value) (sp fd en : Option Value) (ln : Addr) (ns : List Int) (x0 : Core g L s c pen cells o1 o2 tl m) (x1 : c.Holds none none (some (.ref ln)) sp fd en (some (.ref pen))) (x2 : IntsV tl ln ns) (x3 : ns.length ≤ 5) (x4 : ∀ n ∈ ns, -4 ≤ n ∧ n ≤ 25) : St11 w g L s
theorem law8 {w : World} {A : Around} {E : Value → Shared → Prop} {s : Shared} {Q : Flow → Shared → Prop} {g : Heap} {L fa : Addr} {cdv : Value} {sc : Scope} {l : List Str} {mg mb : Str → Option Value}
    (hsc : IsScope w sc) (R : Rm A 8 300) (X : (hd.heap_1 w.params).In g) (T : TopRead qv l mg mb g) (S : St10 w g L s)
    (K : ∀ s', s'.os = s.os → s'.gens = s.gens → St11 w g L s' → wpAny (model PR w) A (execs ((lawBody w).drop 11) (envOfC (Str.ofString "law") sc L fa cdv)) Q E s') :
    wpAny (model PR w) A (execs ((lawBody w).drop 10) (envOfC (Str.ofString "law") sc L fa cdv)) Q E s := by
  refine stage_cut (n := 10) (k := 1) (X := fun bd sc => (∀ s', s'.os = s.os → s'.gens = s.gens → St11 w g L s' → wpAny (model PR w) A (execs ((lawBody w).drop 11) (envOfC (Str.ofString "law") sc L fa cdv)) Q E s') → wpAny (model PR w) A (execs bd (envOfC (Str.ofString "law") sc L fa cdv)) Q E s) hsc (by k_is) (fun K => ?_) K
  simp only [List.drop_succ_cons, List.drop_zero, List.take_succ_cons, List.take_zero, List.cons_append, List.nil_append, Nat.zero_add]
  generalize List.drop 11 (lawBody w) = rest at K ⊢
  have hhA := R.hd
  obtain ⟨⟨cc, cg, cn, cs, cf, ce, cp⟩, pen, cells, o1, o2, tl, m0, sp, fd, en, ⟨F, N, off, AP, P⟩, ⟨y1, y2, y3, y4, y5, y6, y7⟩⟩ := S
  obtain ⟨⟨w0, w1, w2, w3, w4, w5, w6, w7⟩, ⟨v1, v2, v3, v4, v5, v6, v7⟩⟩ := AP.nat
  dsimp only [C7.led] at N y1 y2 y3 y4 y5 y6 y7
  dsimp only [adr9] at off
  k_steps
  rename_i r tr h1 tk1 p1 p2 hr0 hr1 P1 _ _ h2 tk2 ta tb tc hr F2 N2 _
  have h2c := N2 (L + 1, cp) (by first | walk_at "mm" | simp)
  have gp := (N2 (pen, p1) (by first | walk_at "mm" | simp)).2.2
  have gc := (N2 (cells, p2) (by first | walk_at "mm" | simp)).2.2
  refine range_comp (σ := Obj × Obj) (fun c => [(pen, c.1), (cells, c.2)]) [pen, cells] (fun V c i ys => PenO cells c.1 c.2 ∧ ∃ ns, IntsAre ys ns ∧ ns.length = i ∧ ∀ n ∈ ns, -4 ≤ n ∧ n ≤ 25) (p1, p2) R.hd hr (by omega) (by omega) (by omega) (by omega) (fun _ => rfl) (fun p hp => by
    simp only [List.mem_cons, List.not_mem_nil, or_false] at hp
    rcases hp with rfl | rfl
    · exact (N2 _ (by first | walk_at "mm" | simp)).1
    · exact (N2 _ (by first | walk_at "mm" | simp)).1) (fun V U c i ys h sub => h) (fun V c i ys h => by
    obtain ⟨_, ns, h1, h2, _⟩ := h
    rw [h1.length, h2]
    exact Nat.le_refl _) ⟨P1, [], .nil, rfl, fun n hn => nomatch hn⟩ ?turn ?done
  case turn =>
    rintro ⟨q1, q2⟩ i t ys U tl' s' C h tk m g' rfl hC kp' hi ⟨PP, ns, hI, hl, hb⟩ sub off' hx F3 N3
    have st' : g.StaysIn g' := fun a o e => kp' a o (F2.keep a o e) fun q => by
      simp only [List.mem_cons, List.not_mem_nil, or_false] at q
      rcases q with rfl | rfl
      · rw [gp] at e; cases e
      · rw [gc] at e; cases e
    have X := X.keeps st'
    have T := T.keeps st'
    have hc' := kp' _ _ h2c.1 (fun q => by
      simp only [List.mem_cons, List.not_mem_nil, or_false] at q
      rcases q with q | q
      · exact w1 q.symm
      · exact v1 q.symm)
    simp only [List.cons_append, List.nil_append] at N3
    refine wpAny_tests_nil ?_
    simp only [if_true]
    k_steps
    rename_i r5 t5 h5 tk5 a5 b5 lo5 hi5 P5 F5 N5
    refine CTurnEnd.intro F5 N5 (a5, b5) [] (fun p hp => ?_) (fun p hp => List.mem_cons_of_mem _ (List.mem_cons_of_mem _ hp)) (fun p hp => nomatch hp) ⟨P5, ns ++ [r5 - 4], hI.append (.cons _ _ .nil), by simp [hl], fun n hn => ?_⟩
    · simp only [List.mem_cons, List.not_mem_nil, or_false] at hp ⊢
      rcases hp with h | h <;> simp [h]
    · rcases List.mem_append.mp hn with hn | hn
      · exact hb n hn
      · rw [List.mem_singleton.mp hn]; omega
  case done =>
    rintro ⟨q1, q2⟩ U C D ys h tk s₂ ⟨PP, ns, hI, hl, hb⟩ hE' hK hB hC hCD hVC ⟨o, rfl⟩
    intro h' sb
    obtain ⟨e1, b1⟩ := comp_close hE' hB hC sb (fun p hp => by
      rcases List.mem_cons.mp hp with rfl | hp
      · exact hCD.symm
      · exact hVC p hp)
    have k1 := sb.2 pen (New.ne hC (N2 (pen, p1) (by first | walk_at "mm" | simp)).1)
    have k2 := sb.2 cells (New.ne hC (N2 (cells, p2) (by first | walk_at "mm" | simp)).1)
    rw [hK (pen, q1) (by first | walk_at "mm" | simp)] at k1
    rw [hK (cells, q2) (by first | walk_at "mm" | simp)] at k2
    obtain ⟨F3, tl3, N3, off3, s3, _⟩ := call_step (c := ⟨cc, cg, cn, cs, cf, ce, cp⟩) (o1 := p1) (o2 := p2) F2 N2 (by first | walk_at "sub" | exact (fun p hp => by (simp only [List.mem_cons, List.not_mem_nil, or_false] at hp ⊢; rcases hp with h | h | h | h | h | h | h | h | h <;> simp [h]))) e1 (fun a ha => by simpa using ha) b1 k1 k2 AP.p AP.c
    dsimp only [C7.led] at N3
    have hm3 := s3 _ List.mem_cons_self
    clear hE' hB e1 b1 F2 N2 hK
    k_steps
    rename_i h5 on F5 N5 yn
    exact K _ rfl rfl ⟨⟨cc, cg, on, cs, cf, ce, cp⟩, pen, cells, q1, q2, tl3, _, _, _, _, D, ns, ⟨F5, N5, off3, AP, PP⟩, ⟨y1, y2, yn, y4, y5, y6, y7⟩, ⟨ys, _, hm3, hI⟩, by omega, hb⟩
end S_OLaw8
section S_OLaw9
theorem reg57 : True := by
  k_with_none
  k_with "mm" => ((repeat' (first | (with_reducible exact List.mem_cons_self) | (with_reducible assumption) | (with_reducible refine List.mem_cons_of_mem _ ?_))); done)
  k_with "sub" => ((repeat' (first | (with_reducible exact sub_nil _) | (with_reducible refine sub_cons ?_ ?_) | (with_reducible exact List.mem_cons_self) | (with_reducible refine List.mem_cons_of_mem _ ?_) | (with_reducible assumption) | (intro p9 hp9))); done)
  k_with "v_sees" => first | exact Sees.keep (by assumption) (Fr.keep (by k_asm)) | exact Sees.sub (News.sees (by k_asm)) (fun _ h => by first | exact h | (refine List.mem_cons_of_mem _ ?_; exact h) | (refine List.mem_cons_of_mem _ (List.mem_cons_of_mem _ ?_); exact h))
  k_with "eval Name" => (k_here; (with_reducible show wpAny _ _ (eval (Expr.Name _ _) (compEnvC _ _ _ _)) _ _ _); k_dflt (first | (refine' nameB_L ?zqF ?zqv ?_ ?zqa ?zqb; (case zqF => k_asm); (case zqv => assumption); (case zqa => rfl); (case zqb => rfl)) | (refine' nameB_C ?zqF ?zqc ?zqo ?zqd ?_ ?zqa ?zqb; (case zqF => k_asm); (case zqa => rfl); (case zqb => rfl); (case zqc => rfl); (case zqo => assumption); (case zqd => assumption)) | (refine' nameB_G ?zqF ?zqX ?zqT ?zqe ?_ ?zqg ?zqa ?zqb; (case zqF => k_asm); (case zqX => k_asm); (case zqT => k_asm); (case zqg => rfl); (case zqa => rfl); (case zqb => rfl); (case zqe => k_is)) | (refine' nameB_B ?zqF ?zqX ?zqT ?zqe ?zqv ?zqn ?_ ?zqg ?zqh ?zqa ?zqb; (case zqF => k_asm); (case zqX => k_asm); (case zqT => k_asm); (case zqg => rfl); (case zqh => rfl); (case zqa => rfl); (case zqb => rfl); (case zqe => k_is); (case zqv => boot_fast); (case zqn => decide))))
  k_with "getAttr ref" => (k_here; (with_reducible show wpAny _ _ (getAttr (Value.ref _) (PySem.Str.ofString "way") _) _ _ _); k_dflt (refine' ent_way ?zqF ?zqX ?zqS ?zqx ?_; (case zqx => assumption); (case zqF => k_asm); (case zqX => k_asm); (case zqS => walk_at "v_sees")); intro _)
  k_with "getAttr ref" => (k_here; (with_reducible show wpAny _ _ (getAttr (Value.ref _) (PySem.Str.ofString "one") _) _ _ _); k_dflt (refine' ent_one ?zqF ?zqX ?zqS ?zqx ?_; (case zqx => assumption); (case zqF => k_asm); (case zqX => k_asm); (case zqS => walk_at "v_sees")); intro _)
  k_with "getAttr ref" => (k_here; (with_reducible show wpAny _ _ (getAttr (Value.ref _) (PySem.Str.ofString "two") _) _ _ _); k_dflt (refine' ent_two ?zqF ?zqX ?zqS ?zqx ?_; (case zqx => assumption); (case zqF => k_asm); (case zqX => k_asm); (case zqS => walk_at "v_sees")); intro _)
  k_with "getMethod ref" => (k_here; (with_reducible show wpAny _ _ (getMethod (Value.ref _) (PySem.Str.ofString "told") _) _ _ _); k_dflt (refine' ent_told ?zqF ?zqX ?zqS ?zqx ?_; (case zqx => assumption); (case zqF => k_asm); (case zqX => k_asm); (case zqS => walk_at "v_sees")))
  k_with "call builtin:sorted" => (k_here; (with_reducible show wpAny _ _ (call (Value.builtin _) [Value.ref _]) _ _ _); k_dflt (refine' sorted_edict ?zqhh ?zqS ?zqD ?zqF ?zqN ?zqz ?_; (case zqhh => first | assumption | exact Rm.hd_deeper (by assumption) _); (case zqD => assumption); (case zqF => k_asm); (case zqN => k_asm); (case zqS => walk_at "v_sees"); (case zqz => omega)); intro _ _ _ _ _ _ _ _ _ _ _ _; (try k_sweep))
  k_with "subscriptTail" => (k_here; (with_reducible show wpAny _ _ (subscriptTail _ _ (Value.ref _) (Value.int _ _)) _ _ _); k_dflt (refine' edict_item ?zqS ?zqD ?zqv ?_; (case zqD => assumption); (case zqv => assumption); (case zqS => walk_at "v_sees")))
  k_with "call ref" => (k_here; k_dflt (refine' told_use ?zqR ?zqX ?zqT ?zqF ?zqN ?zqS ?zqEn ?_; (case zqEn => assumption); (case zqR => first | exact Rm.less (by assumption) (by omega) (by omega) | exact Rm.deeper (Rm.less (by assumption) (by omega) (by omega)) _); (case zqX => k_asm); (case zqT => k_asm); (case zqF => k_asm); (case zqN => k_asm); (case zqS => walk_at "v_sees")); intro _ _ _ _ _ _ _ _ _; (try k_sweep))
  k_with "eval ListComp" => (k_here; k_dflt (refine' comp_raw ?zqcl ?zqce ?zqk ?zqn ?zqx ?_; (case zqcl => exact rfl); (case zqce => decide); (case zqk => rfl); (case zqn => decide); (case zqx => rfl)))
  k_with "exec For Name Call cons nil" => (k_here; k_dflt (refine for_raw (by rfl) (by rfl) ?_))
  k_with "exec For Name Name cons nil" => (k_here; k_dflt (refine for_raw (by rfl) (by rfl) ?_))
  k_with "call ref" => (k_here; k_dflt (refine' entry_use ?zqR ?zqX ?zqT ?zqF ?zqN ?_; (case zqR => exact Rm.deeper (Rm.less (by assumption) (by omega) (by omega)) _); (case zqX => k_asm); (case zqT => k_asm); (case zqF => k_asm); (case zqN => k_asm)); intro _ _ _ _ _ _ _ _ _ _ _ _ _ _ _ _ _; rename_i l1 l2 gw' g1' g2' gt'; (try k_lt l1); (try k_lt2 l2); (try k_sweep); revert l1 l2 gw' g1' g2' gt'; intro _ _ _ _ _ _)
  k_with "setItem ref int ref" => (k_here; k_dflt (refine' dict_set_K ?zqF ?zqN ?zqU ?zqhd ?zqhz ?_; (case zqF => k_asm); (case zqN => k_asm); (case zqU => k_updF); (case zqhd => assumption); (case zqhz => assumption)); intro _ _ _ _ _; rename_i N' hd'; (try dsimp only at N'); (try k_sweep); revert N' hd'; intro _ _)
  k_with "getMethod ref" => (k_here; (with_reducible show wpAny _ _ (getMethod (Value.ref _) (PySem.Str.ofString "get") _) _ _ _); k_dflt (refine' get_method ?zqS ?zqD ?_; (case zqD => first | assumption | exact EDict.dict (by assumption)); (case zqS => walk_at "v_sees")))
  k_with "call builtin:dict.get" => (k_here; (with_reducible show wpAny _ _ (call (Value.builtin _) [Value.ref _, Value.int _ _, Value.int _ _]) _ _ _); k_dflt (refine' get0_raw ?zqS ?zqD ?zqhg ?_; (case zqD => assumption); (case zqhg => assumption); (case zqS => walk_at "v_sees")); intro _)
  k_with "exec Assign cons ListComp" => (k_here; k_dflt (refine' comp_assign ?zqsw ?zqcl ?zqce ?zqk ?zqn ?zqx ?zqy ?zqp ?_; (case zqsw => rfl); (case zqcl => exact rfl); (case zqce => decide); (case zqk => rfl); (case zqn => decide); (case zqx => rfl); (case zqy => rfl); (case zqp => rfl)))
  k_with "compareOp NotIn int ref" => (k_here; k_dflt (refine' edict_notin ?zqS ?zqD ?_; (case zqD => assumption); (case zqS => walk_at "v_sees")))
  k_with "compareOp In int ref" => (k_here; k_dflt (refine' edict_in ?zqS ?zqD ?_; (case zqD => assumption); (case zqS => walk_at "v_sees")))
  k_with "unpackItems ref" => (k_here; k_dflt (refine' unpackItemsN_ ?zqk1 ?zqk2 ?zqk3 ?zqk4 ?zqk5 ?_; (case zqk1 => k_asm); (case zqk2 => k_asm); (case zqk3 => kun_tup); (case zqk4 => first | assumption | exact Rm.hd_deeper (by assumption) _); (case zqk5 => exact rfl); k_whole); intro _ _ _; (try k_sweep))
  k_with "assign Tuple" => (k_here; (with_reducible show wpAny _ _ (assign (Expr.Tuple _ _ _) _ (Value.ref _)) _ _ _); k_dflt (refine' unpackN_ ?zqk1 ?zqk2 ?zqk3 ?zqk4 ?zqk5 ?zqk6 ?_; (case zqk1 => k_asm); (case zqk2 => k_asm); (case zqk3 => first | kun_tup | exact tup_sees (by assumption) (by walk_at "v_sees")); (case zqk4 => first | assumption | exact Rm.hd_deeper (by assumption) _); (case zqk5 => exact rfl); (case zqk6 => exact rfl); k_whole); intro _ _ _; (try k_sweep))
  k_with "getAttr ref" => (k_here; (with_reducible show wpAny _ _ (getAttr (Value.ref _) (PySem.Str.ofString "way") _) _ _ _); k_dflt (refine' ent_way' ?zqF ?zqX ?zqS ?zqx ?zqv ?_; (case zqx => assumption); (case zqv => assumption); (case zqF => k_asm); (case zqX => k_asm); (case zqS => walk_at "v_sees")); intro _)
  k_with "getAttr ref" => (k_here; (with_reducible show wpAny _ _ (getAttr (Value.ref _) (PySem.Str.ofString "one") _) _ _ _); k_dflt (refine' ent_one' ?zqF ?zqX ?zqS ?zqx ?zqv ?_; (case zqx => assumption); (case zqv => assumption); (case zqF => k_asm); (case zqX => k_asm); (case zqS => walk_at "v_sees")); intro _)
  k_with "getAttr ref" => (k_here; (with_reducible show wpAny _ _ (getAttr (Value.ref _) (PySem.Str.ofString "two") _) _ _ _); k_dflt (refine' ent_two' ?zqF ?zqX ?zqS ?zqx ?zqv ?_; (case zqx => assumption); (case zqv => assumption); (case zqF => k_asm); (case zqX => k_asm); (case zqS => walk_at "v_sees")); intro _)
  k_with "call builtin:dict.get" => (k_here; (with_reducible show wpAny _ _ (call (Value.builtin _) [Value.ref _, Value.int _ _]) _ _ _); k_dflt (refine' edict_get ?zqS ?zqD ?zqv ?_; (case zqD => assumption); (case zqv => assumption); (case zqS => walk_at "v_sees")))
  k_with "rm_room" => first | exact Rm.less (by assumption) (by omega) (by omega) | exact Rm.deeper (Rm.less (by assumption) (by omega) (by omega)) _
  k_with "call ref" => (k_here; (with_reducible show wpAny _ _ (call (Value.ref 92) _) _ _ _); k_dflt (refine' fnum_use ?zqR ?zqX ?zqT ?zqF ?zqN ?zqS ?zqD ?zqC ?zqz ?zqo ?_; (case zqR => walk_at "rm_room"); (case zqX => k_asm); (case zqT => k_asm); (case zqF => k_asm); (case zqN => k_asm); (case zqD => assumption); (case zqS => walk_at "v_sees"); (case zqC => assumption); (case zqz => omega); (case zqo => assumption)); intro _ _ _ _ _ _ _ _ _; (try k_sweep))
  k_with "call ref" => (k_here; (with_reducible show wpAny _ _ (call (Value.ref 99) _) _ _ _); k_dflt (refine' chain_use ?zqR ?zqX ?zqT ?zqF ?zqN ?zqS ?zqD ?zqC ?zqz ?_; (case zqR => walk_at "rm_room"); (case zqX => k_asm); (case zqT => k_asm); (case zqF => k_asm); (case zqN => k_asm); (case zqD => assumption); (case zqS => walk_at "v_sees"); (case zqC => assumption); (case zqz => omega)); intro _ _ _ _ _ _ _ _ _; (try k_sweep))
  k_with "call ref" => (k_here; (with_reducible show wpAny _ _ (call (Value.ref 170) _) _ _ _); k_dflt (refine' ring_use ?zqR ?zqX ?zqT ?zqF ?zqN ?zqS ?zqD ?zqC ?zqz ?_; (case zqR => walk_at "rm_room"); (case zqX => k_asm); (case zqT => k_asm); (case zqF => k_asm); (case zqN => k_asm); (case zqD => assumption); (case zqS => walk_at "v_sees"); (case zqC => assumption); (case zqz => omega)); intro _ _ _ _ _ _ _ _ _; (try k_sweep))
  k_with "compareOp In int ref" => (k_here; k_dflt (refine' edict_in_b ?zqS ?zqD ?zqb ?_; (case zqD => assumption); (case zqb => assumption); (case zqS => walk_at "v_sees")))
  k_with "compareOp NotIn int ref" => (k_here; k_dflt (refine' edict_notin_b ?zqS ?zqD ?zqb ?_; (case zqD => assumption); (case zqb => assumption); (case zqS => walk_at "v_sees")))
  k_with "v_sees" => first | exact Sees.keep (by assumption) (Fr.keep (by k_asm)) | exact Sees.sub (News.sees (by k_asm)) (fun _ h => by repeat (first | exact h | refine List.mem_cons_of_mem _ ?_))
  k_with "call ref" => (k_here; (with_reducible show wpAny _ _ (call (Value.ref 144) _) _ _ _); k_dflt (refine' draw_use ?zqR ?zqX ?zqT ?zqF ?zqN ?zqP ?zqU1 ?zqU2 ?zqne ?zqlo ?zqhi ?_; (case zqR => walk_at "rm_room"); (case zqX => k_asm); (case zqT => k_asm); (case zqF => k_asm); (case zqN => k_asm); (case zqP => assumption); (case zqU1 => k_updF); (case zqU2 => (intro o9; (try dsimp only); k_updF)); (case zqne => assumption); (case zqlo => omega); (case zqhi => omega)); intro _ _ _ _ _ _ _ _ _ _ _; rename_i N'; (try dsimp only at N'); (try k_sweep); revert N'; intro _)
  k_with "call type:enumerate" => (refine Held.use ?_)
  k_with "subscriptTail Name Slice ref ref" => (refine Held.use ?_)
  k_with "compareOp NotIn int ref" => (refine Held.use ?_)
  trivial
theorem ints_kf : ∀ {vs : List Value} {ns : List Int}, IntsAre vs ns → kf_ints vs = true
  | _, _, .nil => rfl
  | _, _, .cons _ _ r => by have q := ints_kf r; exact q
/-- numbers, each once -/
inductive St12 (w : World) (g : Heap) (L : Addr) (s : Shared) : Prop
  | mk (c : C7) (pen cells : Addr) (o1 o2 : Obj) (tl : Led) (m : Str → Option Value) (sp fd en : Option Value) (ln : Addr) (ns : List Int) (x0 : Core g L s c pen cells o1 o2 tl m) (x1 : c.Holds none none (some (.ref ln)) sp fd en (some (.ref pen))) (x2 : IntsV tl ln ns) (x3 : ns.length ≤ 5) (x4 : ns.Nodup) (x5 : ∀ n ∈ ns, -4 ≤ n ∧ n ≤ 25) : St12 w g L s
theorem law9 {w : World} {A : Around} {E : Value → Shared → Prop} {s : Shared} {Q : Flow → Shared → Prop} {g : Heap} {L fa : Addr} {cdv : Value} {sc : Scope} {l : List Str} {mg mb : Str → Option Value}
    (hsc : IsScope w sc) (R : Rm A 8 300) (X : (hd.heap_1 w.params).In g) (T : TopRead qv l mg mb g) (S : St11 w g L s)
    (K : ∀ s', s'.os = s.os → s'.gens = s.gens → St12 w g L s' → wpAny (model PR w) A (execs ((lawBody w).drop 12) (envOfC (Str.ofString "law") sc L fa cdv)) Q E s') :
    wpAny (model PR w) A (execs ((lawBody w).drop 11) (envOfC (Str.ofString "law") sc L fa cdv)) Q E s := by
  refine stage_cut (n := 11) (k := 1) (X := fun bd sc => (∀ s', s'.os = s.os → s'.gens = s.gens → St12 w g L s' → wpAny (model PR w) A (execs ((lawBody w).drop 12) (envOfC (Str.ofString "law") sc L fa cdv)) Q E s') → wpAny (model PR w) A (execs bd (envOfC (Str.ofString "law") sc L fa cdv)) Q E s) hsc (by k_is) (fun K => ?_) K
  simp only [List.drop_succ_cons, List.drop_zero, List.take_succ_cons, List.take_zero, List.cons_append, List.nil_append, Nat.zero_add]
  generalize List.drop 12 (lawBody w) = rest at K ⊢
  have hhA := R.hd
  obtain ⟨⟨cc, cg, cn, cs, cf, ce, cp⟩, pen, cells, o1, o2, tl, m0, sp, fd, en, ln, ns, ⟨F, N, off, AP, P⟩, ⟨y1, y2, y3, y4, y5, y6, y7⟩, ⟨ys0, n0, hm0, hi0⟩, hln, hbn⟩ := S
  obtain ⟨⟨w0, w1, w2, w3, w4, w5, w6, w7⟩, ⟨v1, v2, v3, v4, v5, v6, v7⟩⟩ := AP.nat
  dsimp only [C7.led] at N y1 y2 y3 y4 y5 y6 y7
  dsimp only [adr9] at off
  refine wpAny_execs_cons ?_
  refine wpAny_Assign_Name ?_ (by rfl)
  refine' comp_ev ?cl ?k ?n ?_
  case cl => exact rfl
  case k => rfl
  case n => decide
  k_steps
  have hl0 := lst_led (a := ln) (vs := ys0) (n := n0) N (by first | walk_at "mm" | simp [hm0])
  have hlt0 : ln < s.heap.objs.size := Heap.lt_size (N (ln, W.listOf (List.toArray ys0) n0) (by first | walk_at "mm" | simp [hm0])).1
  refine ⟨call_enumerate_list hl0 fun h1 he1 hit1 hz1 hk1 => ?_⟩
  refine wpAny_pyIter_enum he1 ?_
  have hyl : ys0.length = ns.length := hi0.length
  have hgs := F.above
  have hls : L < s.heap.objs.size := F.ns.lt
  have nC : (L + 1 + 1 + 1 + 1 + 1, cn) ∈ ((L + 1 + 1 + 1 + 1 + 1 + 1 + 1, cc) :: (L + 1 + 1 + 1 + 1 + 1 + 1, cg) :: (L + 1 + 1 + 1 + 1 + 1, cn) :: (L + 1 + 1 + 1 + 1, cs) :: (L + 1 + 1 + 1, cf) :: (L + 1 + 1, ce) :: (L + 1, cp) :: (pen, o1) :: (cells, o2) :: tl) := by simp
  have st1 : ∀ a o, s.heap.get? a = some o → (hideAll h1 [s.heap.objs.size + 1, s.heap.objs.size]).get? a = some o := fun a o e => hideAll_get _ (hk1 a o e) fun q => by
    have := Heap.lt_size e
    simp only [List.mem_cons, List.not_mem_nil, or_false] at q
    rcases q with rfl | rfl
    · exact absurd (Nat.lt_of_succ_lt this) (Nat.lt_irrefl _)
    · exact absurd this (Nat.lt_irrefl _)
  refine enter_plain (g2 := hideAll h1 [s.heap.objs.size + 1, s.heap.objs.size]) (led2 := []) (by decide) rfl (fun a o e => (hide_sub e).1) (Nat.le_of_eq (hideAll_size _ _)) (fun p hp => nomatch hp) fun D C h2 tk2 m2 hD2 hC2 hk2 F2 N2 => ?_
  have X2 := X.keeps (fun a o e => st1 a o (F.keep a o e))
  have T2 := T.keeps (fun a o e => st1 a o (F.keep a o e))
  have hc2 := st1 _ _ (N _ nC).1
  have hl2 : (hideAll h1 [s.heap.objs.size + 1, s.heap.objs.size]).IsList ln ys0.toArray := hl0.at fun o e => st1 _ _ e
  have hl3 : h1.IsList ln ys0.toArray := hl0.at fun o e => hk1 _ _ e
  have hn : ys0.toArray.size = ns.length := by simp [hyl]
  have ge : (hideAll h1 [s.heap.objs.size + 1, s.heap.objs.size]).get? (s.heap.objs.size + 1) = none := hideAll_none _ (by first | walk_at "mm" | simp)
  have gi : (hideAll h1 [s.heap.objs.size + 1, s.heap.objs.size]).get? s.heap.objs.size = none := hideAll_none _ (by first | walk_at "mm" | simp)
  have hh1 : h1.objs.size = s.heap.objs.size + 2 := hz1
  generalize hg2 : hideAll h1 [s.heap.objs.size + 1, s.heap.objs.size] = g2 at *
  have hD2' : h1.objs.size ≤ D := hD2
  have hlD : ∀ b ∈ [s.heap.objs.size + 1, s.heap.objs.size, ln], b < D := fun b hb => by
    rw [hh1] at hD2'
    simp only [List.mem_cons, List.not_mem_nil, or_false] at hb
    rcases hb with rfl | rfl | rfl
    · exact hD2'
    · exact Nat.lt_of_succ_lt hD2'
    · exact Nat.lt_trans hlt0 (Nat.lt_of_succ_lt hD2')
  refine enumA (it := s.heap.objs.size) (l := ln) (vs := ys0) (σ := List Value) (fun ys => [(D, lst ys)]) [D] (fun V ys i => ∃ ms, IntsAre ys ms ∧ ms.Nodup ∧ (∀ k, k ∈ ms ↔ k ∈ ns.take i) ∧ ms.length ≤ i) [] hhA (Nat.succ_ne_self _) (Nat.ne_of_lt (Nat.lt_succ_of_lt hlt0)) (Nat.ne_of_lt hlt0) (fun b hb => ⟨fun q => absurd (List.mem_singleton.mp q) (Nat.ne_of_lt (hlD b hb)), Nat.ne_of_lt (Nat.lt_trans (hlD b hb) hC2)⟩) ge gi (hk2 _ _ he1) (hit1.at fun o e => hk2 _ _ e) (hl3.at fun o e => hk2 _ _ e) (fun _ => rfl) F2 N2 (fun p hp => hp) (fun V U c i h sub => h) ⟨[], .nil, List.nodup_nil, fun k => by simp, Nat.le_refl _⟩ (fun ys i v t V tl2 h3 tk3 m3 hv cov hlv ⟨ms, hms, hnd, hmm, hlm⟩ sub off3 F3 N3 => ?_) fun ys V h3 tk3 m3 ⟨ms, hms, hnd, hmm, hlm⟩ F3 N3 off3 => ⟨rfl, m3, F3.ns, fun h4 sb4 => ?_⟩
  · obtain ⟨k, tk9, hk, rfl⟩ := IntsAre.at hi0 hv
    have hi5 : i < 5 := by have := (List.getElem?_eq_some_iff.mp hk).1; omega
    have hx1 : names2of (Str.ofString "spot") (Str.ofString "number") i t (.int k tk9) m3 (Str.ofString "number") = some (.int k tk9) := rfl
    have hx2 : names2of (Str.ofString "spot") (Str.ofString "number") i t (.int k tk9) m3 (Str.ofString "spot") = some (.int i t) := rfl
    change Fr g2 C h3 (names2of (Str.ofString "spot") (Str.ofString "number") i t (.int k tk9) m3) at F3
    change News g2 C h3 ((D, lst ys) :: tl2) at N3
    generalize names2of (Str.ofString "spot") (Str.ofString "number") i t (.int k tk9) m3 = m4 at F3 hx1 hx2
    unfold emitA tests
    refine wpAny_tests_one ?_
    k_steps
    refine ⟨kmk_slice_ints (s := { s with heap := h3, toks := tk3 }) F3 N3 hlv .none (.int _ _) hi0 (kmk_upto hi0 (Int.natCast_nonneg i)) rfl (fun D5 ws5 h5 F5 N5 l5 hI5 _ _ => ?_) (by with_unfolding_all rfl) (by intro _; with_unfolding_all rfl) (by rw [List.size_toArray, sizeLine_eq]; omega)⟩
    k_steps
    refine ⟨kf_notin (its := ws5.toArray) (n := 0) (b := !decide (k ∈ ns.take i)) N5 List.mem_cons_self (by simpa using ints_kf hI5) (by
      rw [show ws5.toArray.toList = ws5 from by simp, any_isInt k hI5, Int.toNat_natCast]
      congr 1
      rw [Bool.eq_iff_iff]
      simp) ?_⟩
    have nDD : ∀ p ∈ ((D5, W.listOf ws5.toArray 0) :: tl2 : Led), p.1 ≠ D := fun p hp => by
      rcases List.mem_cons.mp hp with rfl | hp
      · exact Nat.ne_of_gt (l5 _ List.mem_cons_self)
      · exact fun q => off3 p hp D List.mem_cons_self q
    have N5 : News g2 C h5 ((D, lst ys) :: (D5, W.listOf ws5.toArray 0) :: tl2) := fun p hp => N5 p (by first | exact (show ∀ q ∈ _, q ∈ _ from by walk_at "sub") p hp | (simp only [List.mem_cons] at hp ⊢; rcases hp with h | h | h <;> simp [h]))
    by_cases hin : k ∈ ns.take i
    · rw [decide_eq_true hin]
      k_steps
      refine TurnEnd.intro F5 N5 ys [] (fun p hp => ?_) (fun p hp => by first | walk_at "mm" | simp [hp]) (fun p hp => nomatch hp) ⟨ms, hms, hnd, fun k' => ?_, by omega⟩ trivial
      · rw [List.mem_singleton.mp hp]; exact List.mem_cons_self
      · rw [List.take_add_one, hk, hmm k', Option.toList_some, List.mem_append, List.mem_singleton]
        exact ⟨Or.inl, fun q => q.elim id fun q => by rw [q]; exact hin⟩
    · rw [decide_eq_false hin]
      k_steps
      refine append_K F5 N5 nDD (by rw [hms.length]; omega) fun h6 v6 F6 N6 => ?_
      refine TurnEnd.intro F6 N6 (ys ++ [.int k tk9]) [] (fun p hp => ?_) (fun p hp => by first | walk_at "mm" | simp [hp]) (fun p hp => nomatch hp) ⟨ms ++ [k], hms.append (.cons _ _ .nil), ?_, fun k' => ?_, by simp; omega⟩ trivial
      · rw [List.mem_singleton.mp hp]; exact List.mem_cons_self
      · rw [List.nodup_append]
        exact ⟨hnd, by simp, fun a ha b hb q => hin ((hmm k).mp (by rw [← List.mem_singleton.mp hb, ← q]; exact ha))⟩
      · rw [List.take_add_one, hk, Option.toList_some, List.mem_append, List.mem_append, hmm k']
  · have kk : s.heap.StaysIn h4 := fun a o e => (sb4.2 a (Nat.ne_of_lt (Nat.lt_trans (Nat.lt_of_lt_of_le (Heap.lt_size (hk1 a o e)) hD2') hC2))).trans (F3.keep _ _ (st1 _ _ e))
    have gD := (sb4.2 D (Nat.ne_of_lt hC2)).trans (N3 (D, lst ys) (by first | walk_at "mm" | simp)).1
    obtain ⟨F4, tl4, N4, off4, s4, _⟩ := call_still (c := ⟨cc, cg, cn, cs, cf, ce, cp⟩) (o1 := o1) (o2 := o2) (nl := [(D, lst ys)]) AP F N (by first | walk_at "sub" | exact (fun p hp => by (simp only [List.mem_cons, List.not_mem_nil, or_false] at hp ⊢; rcases hp with h | h | h | h | h | h | h | h | h <;> simp [h]))) (fun p hp => by first | walk_at "mm" | simp [hp]) off (fun a o q _ => kk a o q) (fun p hp => by
        rw [List.mem_singleton.mp hp]
        exact ⟨gD, New.of_le (by omega)⟩)
    dsimp only [C7.led] at N4
    have hm4 := s4 _ List.mem_cons_self
    have hln4 : ms.length ≤ 5 := by omega
    clear F N F2 N2
    k_steps
    rename_i h5 on F5 N5 yn
    exact K _ rfl rfl ⟨⟨cc, cg, on, cs, cf, ce, cp⟩, pen, cells, o1, o2, tl4, _, _, _, _, D, ms, ⟨F5, N5, off4, AP, P⟩, ⟨y1, y2, yn, y4, y5, y6, y7⟩, ⟨ys, _, hm4, hms⟩, hln4, hnd, fun n hn => hbn n (List.mem_of_mem_take ((hmm n).mp hn))⟩
end S_OLaw9
section S_OLaw10
theorem reg58 : True := by
  k_with_none
  k_with "mm" => ((repeat' (first | (with_reducible exact List.mem_cons_self) | (with_reducible assumption) | (with_reducible refine List.mem_cons_of_mem _ ?_))); done)
  k_with "sub" => ((repeat' (first | (with_reducible exact sub_nil _) | (with_reducible refine sub_cons ?_ ?_) | (with_reducible exact List.mem_cons_self) | (with_reducible refine List.mem_cons_of_mem _ ?_) | (with_reducible assumption) | (intro p9 hp9))); done)
  k_with "v_sees" => first | exact Sees.keep (by assumption) (Fr.keep (by k_asm)) | exact Sees.sub (News.sees (by k_asm)) (fun _ h => by first | exact h | (refine List.mem_cons_of_mem _ ?_; exact h) | (refine List.mem_cons_of_mem _ (List.mem_cons_of_mem _ ?_); exact h))
  k_with "eval Name" => (k_here; (with_reducible show wpAny _ _ (eval (Expr.Name _ _) (compEnvC _ _ _ _)) _ _ _); k_dflt (first | (refine' nameB_L ?zqF ?zqv ?_ ?zqa ?zqb; (case zqF => k_asm); (case zqv => assumption); (case zqa => rfl); (case zqb => rfl)) | (refine' nameB_C ?zqF ?zqc ?zqo ?zqd ?_ ?zqa ?zqb; (case zqF => k_asm); (case zqa => rfl); (case zqb => rfl); (case zqc => rfl); (case zqo => assumption); (case zqd => assumption)) | (refine' nameB_G ?zqF ?zqX ?zqT ?zqe ?_ ?zqg ?zqa ?zqb; (case zqF => k_asm); (case zqX => k_asm); (case zqT => k_asm); (case zqg => rfl); (case zqa => rfl); (case zqb => rfl); (case zqe => k_is)) | (refine' nameB_B ?zqF ?zqX ?zqT ?zqe ?zqv ?zqn ?_ ?zqg ?zqh ?zqa ?zqb; (case zqF => k_asm); (case zqX => k_asm); (case zqT => k_asm); (case zqg => rfl); (case zqh => rfl); (case zqa => rfl); (case zqb => rfl); (case zqe => k_is); (case zqv => boot_fast); (case zqn => decide))))
  k_with "getAttr ref" => (k_here; (with_reducible show wpAny _ _ (getAttr (Value.ref _) (PySem.Str.ofString "way") _) _ _ _); k_dflt (refine' ent_way ?zqF ?zqX ?zqS ?zqx ?_; (case zqx => assumption); (case zqF => k_asm); (case zqX => k_asm); (case zqS => walk_at "v_sees")); intro _)
  k_with "getAttr ref" => (k_here; (with_reducible show wpAny _ _ (getAttr (Value.ref _) (PySem.Str.ofString "one") _) _ _ _); k_dflt (refine' ent_one ?zqF ?zqX ?zqS ?zqx ?_; (case zqx => assumption); (case zqF => k_asm); (case zqX => k_asm); (case zqS => walk_at "v_sees")); intro _)
  k_with "getAttr ref" => (k_here; (with_reducible show wpAny _ _ (getAttr (Value.ref _) (PySem.Str.ofString "two") _) _ _ _); k_dflt (refine' ent_two ?zqF ?zqX ?zqS ?zqx ?_; (case zqx => assumption); (case zqF => k_asm); (case zqX => k_asm); (case zqS => walk_at "v_sees")); intro _)
  k_with "getMethod ref" => (k_here; (with_reducible show wpAny _ _ (getMethod (Value.ref _) (PySem.Str.ofString "told") _) _ _ _); k_dflt (refine' ent_told ?zqF ?zqX ?zqS ?zqx ?_; (case zqx => assumption); (case zqF => k_asm); (case zqX => k_asm); (case zqS => walk_at "v_sees")))
  k_with "call builtin:sorted" => (k_here; (with_reducible show wpAny _ _ (call (Value.builtin _) [Value.ref _]) _ _ _); k_dflt (refine' sorted_edict ?zqhh ?zqS ?zqD ?zqF ?zqN ?zqz ?_; (case zqhh => first | assumption | exact Rm.hd_deeper (by assumption) _); (case zqD => assumption); (case zqF => k_asm); (case zqN => k_asm); (case zqS => walk_at "v_sees"); (case zqz => omega)); intro _ _ _ _ _ _ _ _ _ _ _ _; (try k_sweep))
  k_with "subscriptTail" => (k_here; (with_reducible show wpAny _ _ (subscriptTail _ _ (Value.ref _) (Value.int _ _)) _ _ _); k_dflt (refine' edict_item ?zqS ?zqD ?zqv ?_; (case zqD => assumption); (case zqv => assumption); (case zqS => walk_at "v_sees")))
  k_with "call ref" => (k_here; k_dflt (refine' told_use ?zqR ?zqX ?zqT ?zqF ?zqN ?zqS ?zqEn ?_; (case zqEn => assumption); (case zqR => first | exact Rm.less (by assumption) (by omega) (by omega) | exact Rm.deeper (Rm.less (by assumption) (by omega) (by omega)) _); (case zqX => k_asm); (case zqT => k_asm); (case zqF => k_asm); (case zqN => k_asm); (case zqS => walk_at "v_sees")); intro _ _ _ _ _ _ _ _ _; (try k_sweep))
  k_with "eval ListComp" => (k_here; k_dflt (refine' comp_raw ?zqcl ?zqce ?zqk ?zqn ?zqx ?_; (case zqcl => exact rfl); (case zqce => decide); (case zqk => rfl); (case zqn => decide); (case zqx => rfl)))
  k_with "exec For Name Call cons nil" => (k_here; k_dflt (refine for_raw (by rfl) (by rfl) ?_))
  k_with "exec For Name Name cons nil" => (k_here; k_dflt (refine for_raw (by rfl) (by rfl) ?_))
  k_with "call ref" => (k_here; k_dflt (refine' entry_use ?zqR ?zqX ?zqT ?zqF ?zqN ?_; (case zqR => exact Rm.deeper (Rm.less (by assumption) (by omega) (by omega)) _); (case zqX => k_asm); (case zqT => k_asm); (case zqF => k_asm); (case zqN => k_asm)); intro _ _ _ _ _ _ _ _ _ _ _ _ _ _ _ _ _; rename_i l1 l2 gw' g1' g2' gt'; (try k_lt l1); (try k_lt2 l2); (try k_sweep); revert l1 l2 gw' g1' g2' gt'; intro _ _ _ _ _ _)
  k_with "setItem ref int ref" => (k_here; k_dflt (refine' dict_set_K ?zqF ?zqN ?zqU ?zqhd ?zqhz ?_; (case zqF => k_asm); (case zqN => k_asm); (case zqU => k_updF); (case zqhd => assumption); (case zqhz => assumption)); intro _ _ _ _ _; rename_i N' hd'; (try dsimp only at N'); (try k_sweep); revert N' hd'; intro _ _)
  k_with "getMethod ref" => (k_here; (with_reducible show wpAny _ _ (getMethod (Value.ref _) (PySem.Str.ofString "get") _) _ _ _); k_dflt (refine' get_method ?zqS ?zqD ?_; (case zqD => first | assumption | exact EDict.dict (by assumption)); (case zqS => walk_at "v_sees")))
  k_with "call builtin:dict.get" => (k_here; (with_reducible show wpAny _ _ (call (Value.builtin _) [Value.ref _, Value.int _ _, Value.int _ _]) _ _ _); k_dflt (refine' get0_raw ?zqS ?zqD ?zqhg ?_; (case zqD => assumption); (case zqhg => assumption); (case zqS => walk_at "v_sees")); intro _)
  k_with "exec Assign cons ListComp" => (k_here; k_dflt (refine' comp_assign ?zqsw ?zqcl ?zqce ?zqk ?zqn ?zqx ?zqy ?zqp ?_; (case zqsw => rfl); (case zqcl => exact rfl); (case zqce => decide); (case zqk => rfl); (case zqn => decide); (case zqx => rfl); (case zqy => rfl); (case zqp => rfl)))
  k_with "compareOp NotIn int ref" => (k_here; k_dflt (refine' edict_notin ?zqS ?zqD ?_; (case zqD => assumption); (case zqS => walk_at "v_sees")))
  k_with "compareOp In int ref" => (k_here; k_dflt (refine' edict_in ?zqS ?zqD ?_; (case zqD => assumption); (case zqS => walk_at "v_sees")))
  k_with "unpackItems ref" => (k_here; k_dflt (refine' unpackItemsN_ ?zqk1 ?zqk2 ?zqk3 ?zqk4 ?zqk5 ?_; (case zqk1 => k_asm); (case zqk2 => k_asm); (case zqk3 => kun_tup); (case zqk4 => first | assumption | exact Rm.hd_deeper (by assumption) _); (case zqk5 => exact rfl); k_whole); intro _ _ _; (try k_sweep))
  k_with "assign Tuple" => (k_here; (with_reducible show wpAny _ _ (assign (Expr.Tuple _ _ _) _ (Value.ref _)) _ _ _); k_dflt (refine' unpackN_ ?zqk1 ?zqk2 ?zqk3 ?zqk4 ?zqk5 ?zqk6 ?_; (case zqk1 => k_asm); (case zqk2 => k_asm); (case zqk3 => first | kun_tup | exact tup_sees (by assumption) (by walk_at "v_sees")); (case zqk4 => first | assumption | exact Rm.hd_deeper (by assumption) _); (case zqk5 => exact rfl); (case zqk6 => exact rfl); k_whole); intro _ _ _; (try k_sweep))
  k_with "getAttr ref" => (k_here; (with_reducible show wpAny _ _ (getAttr (Value.ref _) (PySem.Str.ofString "way") _) _ _ _); k_dflt (refine' ent_way' ?zqF ?zqX ?zqS ?zqx ?zqv ?_; (case zqx => assumption); (case zqv => assumption); (case zqF => k_asm); (case zqX => k_asm); (case zqS => walk_at "v_sees")); intro _)
  k_with "getAttr ref" => (k_here; (with_reducible show wpAny _ _ (getAttr (Value.ref _) (PySem.Str.ofString "one") _) _ _ _); k_dflt (refine' ent_one' ?zqF ?zqX ?zqS ?zqx ?zqv ?_; (case zqx => assumption); (case zqv => assumption); (case zqF => k_asm); (case zqX => k_asm); (case zqS => walk_at "v_sees")); intro _)
  k_with "getAttr ref" => (k_here; (with_reducible show wpAny _ _ (getAttr (Value.ref _) (PySem.Str.ofString "two") _) _ _ _); k_dflt (refine' ent_two' ?zqF ?zqX ?zqS ?zqx ?zqv ?_; (case zqx => assumption); (case zqv => assumption); (case zqF => k_asm); (case zqX => k_asm); (case zqS => walk_at "v_sees")); intro _)
  k_with "call builtin:dict.get" => (k_here; (with_reducible show wpAny _ _ (call (Value.builtin _) [Value.ref _, Value.int _ _]) _ _ _); k_dflt (refine' edict_get ?zqS ?zqD ?zqv ?_; (case zqD => assumption); (case zqv => assumption); (case zqS => walk_at "v_sees")))
  k_with "rm_room" => first | exact Rm.less (by assumption) (by omega) (by omega) | exact Rm.deeper (Rm.less (by assumption) (by omega) (by omega)) _
  k_with "call ref" => (k_here; (with_reducible show wpAny _ _ (call (Value.ref 92) _) _ _ _); k_dflt (refine' fnum_use ?zqR ?zqX ?zqT ?zqF ?zqN ?zqS ?zqD ?zqC ?zqz ?zqo ?_; (case zqR => walk_at "rm_room"); (case zqX => k_asm); (case zqT => k_asm); (case zqF => k_asm); (case zqN => k_asm); (case zqD => assumption); (case zqS => walk_at "v_sees"); (case zqC => assumption); (case zqz => omega); (case zqo => assumption)); intro _ _ _ _ _ _ _ _ _; (try k_sweep))
  k_with "call ref" => (k_here; (with_reducible show wpAny _ _ (call (Value.ref 99) _) _ _ _); k_dflt (refine' chain_use ?zqR ?zqX ?zqT ?zqF ?zqN ?zqS ?zqD ?zqC ?zqz ?_; (case zqR => walk_at "rm_room"); (case zqX => k_asm); (case zqT => k_asm); (case zqF => k_asm); (case zqN => k_asm); (case zqD => assumption); (case zqS => walk_at "v_sees"); (case zqC => assumption); (case zqz => omega)); intro _ _ _ _ _ _ _ _ _; (try k_sweep))
  k_with "call ref" => (k_here; (with_reducible show wpAny _ _ (call (Value.ref 170) _) _ _ _); k_dflt (refine' ring_use ?zqR ?zqX ?zqT ?zqF ?zqN ?zqS ?zqD ?zqC ?zqz ?_; (case zqR => walk_at "rm_room"); (case zqX => k_asm); (case zqT => k_asm); (case zqF => k_asm); (case zqN => k_asm); (case zqD => assumption); (case zqS => walk_at "v_sees"); (case zqC => assumption); (case zqz => omega)); intro _ _ _ _ _ _ _ _ _; (try k_sweep))
  k_with "compareOp In int ref" => (k_here; k_dflt (refine' edict_in_b ?zqS ?zqD ?zqb ?_; (case zqD => assumption); (case zqb => assumption); (case zqS => walk_at "v_sees")))
  k_with "compareOp NotIn int ref" => (k_here; k_dflt (refine' edict_notin_b ?zqS ?zqD ?zqb ?_; (case zqD => assumption); (case zqb => assumption); (case zqS => walk_at "v_sees")))
  k_with "v_sees" => first | exact Sees.keep (by assumption) (Fr.keep (by k_asm)) | exact Sees.sub (News.sees (by k_asm)) (fun _ h => by repeat (first | exact h | refine List.mem_cons_of_mem _ ?_))
  k_with "call ref" => (k_here; (with_reducible show wpAny _ _ (call (Value.ref 144) _) _ _ _); k_dflt (refine' draw_use ?zqR ?zqX ?zqT ?zqF ?zqN ?zqP ?zqU1 ?zqU2 ?zqne ?zqlo ?zqhi ?_; (case zqR => walk_at "rm_room"); (case zqX => k_asm); (case zqT => k_asm); (case zqF => k_asm); (case zqN => k_asm); (case zqP => assumption); (case zqU1 => k_updF); (case zqU2 => (intro o9; (try dsimp only); k_updF)); (case zqne => assumption); (case zqlo => omega); (case zqhi => omega)); intro _ _ _ _ _ _ _ _ _ _ _; rename_i N'; (try dsimp only at N'); (try k_sweep); revert N'; intro _)
  k_with "call builtin:len" => (k_here; (with_reducible show wpAny _ _ (call (Value.builtin _) [Value.ref _]) _ _ _); k_dflt (refine' len_gen ?zqS ?zqm ?zqn ?zqz ?_; (case zqm => assumption); (case zqn => assumption); (case zqz => omega); (case zqS => walk_at "v_sees")))
  k_with "call type:dict" => (refine Held.use ?_)
  trivial
/-- numbers, each once; and generations -/
inductive St13 (w : World) (g : Heap) (L : Addr) (s : Shared) : Prop
  | mk (c : C7) (pen cells : Addr) (o1 o2 : Obj) (tl : Led) (m : Str → Option Value) (sp fd en : Option Value) (ln gd : Addr) (og : Obj) (ns : List Int) (gkvs : List (Int × Value)) (x0 : Core g L s c pen cells o1 o2 tl m) (x1 : c.Holds none (some (.ref gd)) (some (.ref ln)) sp fd en (some (.ref pen))) (x2 : IntsV tl ln ns) (x3 : ns.length ≤ 5) (x4 : ns.Nodup) (x5 : (gd, og) ∈ tl) (x6 : DictV w [(gd, og)] gd gkvs) (x7 : ∀ p ∈ gkvs, ∃ v t, p.2 = .int v t) : St13 w g L s
theorem law10 {w : World} {A : Around} {E : Value → Shared → Prop} {s : Shared} {Q : Flow → Shared → Prop} {g : Heap} {L fa : Addr} {cdv : Value} {sc : Scope} {l : List Str} {mg mb : Str → Option Value}
    (hsc : IsScope w sc) (R : Rm A 8 300) (X : (hd.heap_1 w.params).In g) (T : TopRead qv l mg mb g) (S : St12 w g L s)
    (K : ∀ s', s'.os = s.os → s'.gens = s.gens → St13 w g L s' → wpAny (model PR w) A (execs ((lawBody w).drop 13) (envOfC (Str.ofString "law") sc L fa cdv)) Q E s') :
    wpAny (model PR w) A (execs ((lawBody w).drop 12) (envOfC (Str.ofString "law") sc L fa cdv)) Q E s := by
  refine stage_cut (n := 12) (k := 1) (X := fun bd sc => (∀ s', s'.os = s.os → s'.gens = s.gens → St13 w g L s' → wpAny (model PR w) A (execs ((lawBody w).drop 13) (envOfC (Str.ofString "law") sc L fa cdv)) Q E s') → wpAny (model PR w) A (execs bd (envOfC (Str.ofString "law") sc L fa cdv)) Q E s) hsc (by k_is) (fun K => ?_) K
  simp only [List.drop_succ_cons, List.drop_zero, List.take_succ_cons, List.take_zero, List.cons_append, List.nil_append, Nat.zero_add]
  generalize List.drop 13 (lawBody w) = rest at K ⊢
  have hhA := R.hd
  obtain ⟨⟨cc, cg, cn, cs, cf, ce, cp⟩, pen, cells, p1, p2, tl, m0, sp, fd, en, ln, ns, ⟨F2, N2, off, AP, P1⟩, ⟨y1, y2, y3, y4, y5, y6, y7⟩, ⟨ys0, n0, hm0, hi0⟩, hln, hnd, hbn⟩ := S
  obtain ⟨⟨w0, w1, w2, w3, w4, w5, w6, w7⟩, ⟨v1, v2, v3, v4, v5, v6, v7⟩⟩ := AP.nat
  dsimp only [C7.led] at N2 y1 y2 y3 y4 y5 y6 y7
  dsimp only [adr9] at off
  have hlnq : ln ∉ adr9 L pen cells := off_not off hm0
  have hyl : ys0.length = ns.length := hi0.length
  k_steps
  have hfl0 := N2 (ln, W.listOf ys0.toArray n0) (by first | walk_at "mm" | simp [hm0])
  have h2c := N2 (L + 1, cp) (by first | walk_at "mm" | simp)
  have gp := (N2 (pen, p1) (by first | walk_at "mm" | simp)).2.2
  have gc := (N2 (cells, p2) (by first | walk_at "mm" | simp)).2.2
  have hlp : ln ∉ [pen, cells] := fun q => hlnq (by simp at q ⊢; rcases q with h | h <;> simp [h])
  have hlc : (L + 1) ≠ ln := fun q => hlnq (by rw [← q]; simp)
  refine list_comp (σ := Obj × Obj) (vs := ys0) (fun c => [(pen, c.1), (cells, c.2)]) [pen, cells] (fun V c i ys => PenO cells c.1 c.2 ∧ ∃ kvs : List (Int × Value), PairsV V ys kvs ∧ (kvs.map fun (p : Int × Value) => p.1).Sublist (ns.take i) ∧ ∀ (p : Int × Value), p ∈ kvs → ∃ v t, p.2 = .int v t) (p1, p2) R.hd ⟨_, hfl0.1, rfl, ⟨_, rfl⟩⟩ hlp (by omega) (fun _ => rfl) (fun p hp => by
    simp only [List.mem_cons, List.not_mem_nil, or_false] at hp
    rcases hp with rfl | rfl
    · exact (N2 _ (by first | walk_at "mm" | simp)).1
    · exact (N2 _ (by first | walk_at "mm" | simp)).1) (fun V U c i ys ⟨h1, kvs, h2, h3, h4⟩ sub => ⟨h1, kvs, h2.mono sub, h3, h4⟩) (fun V c i ys h => by
    obtain ⟨_, kvs, h1, h2, _⟩ := h
    have := h2.length_le
    rw [h1.1]
    simp at this
    omega) ⟨P1, [], PairsV.nil _, by simp, fun n hn => nomatch hn⟩ ?turn ?done
  case turn =>
    rintro ⟨q1, q2⟩ i v ys U tl' s' C h tk m g' rfl hC kp' hv ⟨PP, kvs, hp, hsub, hvi⟩ sub off' hx F3 N3
    have st' : g.StaysIn g' := fun a o e => kp' a o (F2.keep a o e) (fun q => by
      simp only [List.mem_cons, List.not_mem_nil, or_false] at q
      rcases q with rfl | rfl
      · rw [gp] at e; cases e
      · rw [gc] at e; cases e) fun q => by subst q; rw [hfl0.2.2] at e; cases e
    have X := X.keeps st'
    have T := T.keeps st'
    have hc' := kp' _ _ h2c.1 (fun q => by
      simp only [List.mem_cons, List.not_mem_nil, or_false] at q
      rcases q with q | q
      · exact w1 q.symm
      · exact v1 q.symm) hlc
    obtain ⟨k, t, hk, rfl⟩ := IntsAre.at hi0 hv
    simp only [List.cons_append, List.nil_append] at N3
    refine wpAny_tests_one ?_
    k_steps
    · rename_i _ _ _ _ _ _ _ _ _ _ _ _ _ _ _ _ r5 t5 h5 tk5 a5 b5 lo5 hi5 P5 D5 h6 F6 N6 l6
      refine CTurnEnd.intro F6 N6 (a5, b5) ((D5, tup2 (.int k t) (.int (1 + r5) tk5)) :: U) (fun p hp => ?_) (fun p hp => List.mem_cons_of_mem _ (List.mem_cons_of_mem _ (List.mem_cons_of_mem _ hp))) (fun p hp => ⟨?_, ?_, ?_⟩) ⟨P5, kvs ++ [(k, .int (1 + r5) tk5)], (hp.mono fun p hp => List.mem_cons_of_mem _ hp).snoc List.mem_cons_self, ?_, fun p hp' => ?_⟩
      · simp only [List.mem_cons, List.not_mem_nil, or_false] at hp ⊢
        rcases hp with h | h <;> simp [h]
      · rcases List.mem_cons.mp hp with rfl | hp
        · exact List.mem_cons_self
        · exact List.mem_cons_of_mem _ (List.mem_cons_of_mem _ (List.mem_cons_of_mem _ (sub p hp)))
      · rcases List.mem_cons.mp hp with rfl | hp
        · exact .inr fun q hq => Nat.ne_of_lt (ltN (AllLt.mem l6.2.2 q hq))
        · exact .inl hp
      · rcases List.mem_cons.mp hp with rfl | hp
        · intro q
          simp only [List.mem_cons, List.not_mem_nil, or_false] at q
          rcases q with q | q
          · exact Nat.ne_of_lt (ltN l6.1) q.symm
          · exact Nat.ne_of_lt (ltN l6.2.1) q.symm
        · exact fun q => off' p (sub p hp) _ q rfl
      · rw [List.map_append, List.take_add_one, hk]
        exact hsub.append (List.Sublist.refl _)
      · rcases List.mem_append.mp hp' with hp' | hp'
        · exact hvi p hp'
        · rw [List.mem_singleton.mp hp']; exact ⟨_, _, rfl⟩
    · rename_i r5 t5 h5 tk5 a5 b5 lo5 hi5 P5 F5 N5 ne5
      refine CTurnEnd.intro F5 N5 (a5, b5) U (fun p hp => ?_) (fun p hp => List.mem_cons_of_mem _ (List.mem_cons_of_mem _ hp)) (fun p hp => ⟨List.mem_cons_of_mem _ (List.mem_cons_of_mem _ (sub p hp)), .inl hp, fun q => off' p (sub p hp) _ q rfl⟩) ⟨P5, kvs, hp, ?_, hvi⟩
      · simp only [List.mem_cons, List.not_mem_nil, or_false] at hp ⊢
        rcases hp with h | h <;> simp [h]
      · refine hsub.trans ?_
        rw [List.take_add_one]
        exact List.sublist_append_left _ _
  case done =>
    rintro ⟨q1, q2⟩ U C D ys h tk s₂ ⟨PP, kvs, hp, hsub, hvi⟩ hE' hK hB hC hCD hVC ⟨o, rfl⟩
    intro h' sb
    obtain ⟨e1, b1⟩ := comp_close hE' hB hC sb (fun p hp => by
      rcases List.mem_cons.mp hp with rfl | hp
      · exact hCD.symm
      · exact hVC p hp)
    have k1 := sb.2 pen (New.ne hC (N2 (pen, p1) (by first | walk_at "mm" | simp)).1)
    have k2 := sb.2 cells (New.ne hC (N2 (cells, p2) (by first | walk_at "mm" | simp)).1)
    rw [hK (pen, q1) (by first | walk_at "mm" | simp)] at k1
    rw [hK (cells, q2) (by first | walk_at "mm" | simp)] at k2
    obtain ⟨F3, tl3, N3, off3, s3, t3⟩ := call_step (c := ⟨cc, cg, cn, cs, cf, ce, cp⟩) (o1 := p1) (o2 := p2) F2 N2 (by first | walk_at "sub" | exact (fun p hp => by (simp only [List.mem_cons, List.not_mem_nil, or_false] at hp ⊢; rcases hp with h | h | h | h | h | h | h | h | h <;> simp [h]))) e1 (fun a ha => by simpa using ha) b1 k1 k2 AP.p AP.c
    dsimp only [C7.led] at N3
    have hm3 := s3 _ List.mem_cons_self
    have hp3 := hp.mono fun p hp => s3 p (List.mem_cons_of_mem _ hp)
    have hln3 := t3 _ (show (ln, W.listOf ys0.toArray n0) ∈ _ by simp [hm0]) hlnq
    clear hE' hB e1 b1 F2 N2 hK
    k_steps
    have hkn : (kvs.map fun (p : Int × Value) => p.1).Nodup := (hsub.trans (List.take_sublist _ _)).nodup hnd
    have hkl : kvs.length ≤ 5 := by
      have := (hsub.trans (List.take_sublist _ _)).length_le
      simp at this
      omega
    refine ⟨dict_pairs (vs := ys) (n := ys.length) (kvs := kvs) hhA (N3 (D, lst ys) (by first | walk_at "mm" | simp [hm3])).1 hp3.1 (by omega) (hp3.at' (Sees.sub (News.sees N3) fun p hp => by first | walk_at "mm" | simp [hp])) fun h8 tk8 hd8 e8 => ?_⟩
    have lo8 := F3.notModules (modules_low T.nolimit)
    rw [stored_all (by simpa using hkn), List.nil_append] at hd8
    obtain ⟨o8, ho8, hdo8⟩ := Heap.dictOf_iff.mp hd8
    obtain ⟨F4, tl4, N4, off4, s4, t4⟩ := call_still (c := ⟨cc, cg, cn, cs, cf, ce, cp⟩) (o1 := q1) (o2 := q2) (nl := [(h'.objs.size, o8)]) AP F3 N3 (by first | walk_at "sub" | exact (fun p hp => by (simp only [List.mem_cons, List.not_mem_nil, or_false] at hp ⊢; rcases hp with h | h | h | h | h | h | h | h | h <;> simp [h]))) (fun p hp => by first | walk_at "mm" | simp [hp]) off3 e8 (fun p hp => by
        rw [List.mem_singleton.mp hp]
        exact ⟨ho8, New.of_le (Nat.le_refl _)⟩)
    dsimp only [C7.led] at N4
    have hm4 := s4 _ List.mem_cons_self
    clear F3 N3 hd8
    k_steps
    rename_i h5 og F5 N5 yg
    exact K _ rfl rfl ⟨⟨cc, og, cn, cs, cf, ce, cp⟩, pen, cells, q1, q2, tl4, _, _, _, _, ln, h'.objs.size, o8, ns, kvs, ⟨F5, N5, off4, AP, PP⟩, ⟨y1, yg, y3, y4, y5, y6, y7⟩, ⟨ys0, _, t4 _ hln3, hi0⟩, hln, hnd, hm4, ⟨lo8, o8, List.mem_cons_self, hdo8⟩, hvi⟩
end S_OLaw10
section S_OLaw11
theorem reg59 : True := by
  k_with_none
  k_with "mm" => ((repeat' (first | (with_reducible exact List.mem_cons_self) | (with_reducible assumption) | (with_reducible refine List.mem_cons_of_mem _ ?_))); done)
  k_with "sub" => ((repeat' (first | (with_reducible exact sub_nil _) | (with_reducible refine sub_cons ?_ ?_) | (with_reducible exact List.mem_cons_self) | (with_reducible refine List.mem_cons_of_mem _ ?_) | (with_reducible assumption) | (intro p9 hp9))); done)
  k_with "v_sees" => first | exact Sees.keep (by assumption) (Fr.keep (by k_asm)) | exact Sees.sub (News.sees (by k_asm)) (fun _ h => by first | exact h | (refine List.mem_cons_of_mem _ ?_; exact h) | (refine List.mem_cons_of_mem _ (List.mem_cons_of_mem _ ?_); exact h))
  k_with "eval Name" => (k_here; (with_reducible show wpAny _ _ (eval (Expr.Name _ _) (compEnvC _ _ _ _)) _ _ _); k_dflt (first | (refine' nameB_L ?zqF ?zqv ?_ ?zqa ?zqb; (case zqF => k_asm); (case zqv => assumption); (case zqa => rfl); (case zqb => rfl)) | (refine' nameB_C ?zqF ?zqc ?zqo ?zqd ?_ ?zqa ?zqb; (case zqF => k_asm); (case zqa => rfl); (case zqb => rfl); (case zqc => rfl); (case zqo => assumption); (case zqd => assumption)) | (refine' nameB_G ?zqF ?zqX ?zqT ?zqe ?_ ?zqg ?zqa ?zqb; (case zqF => k_asm); (case zqX => k_asm); (case zqT => k_asm); (case zqg => rfl); (case zqa => rfl); (case zqb => rfl); (case zqe => k_is)) | (refine' nameB_B ?zqF ?zqX ?zqT ?zqe ?zqv ?zqn ?_ ?zqg ?zqh ?zqa ?zqb; (case zqF => k_asm); (case zqX => k_asm); (case zqT => k_asm); (case zqg => rfl); (case zqh => rfl); (case zqa => rfl); (case zqb => rfl); (case zqe => k_is); (case zqv => boot_fast); (case zqn => decide))))
  k_with "getAttr ref" => (k_here; (with_reducible show wpAny _ _ (getAttr (Value.ref _) (PySem.Str.ofString "way") _) _ _ _); k_dflt (refine' ent_way ?zqF ?zqX ?zqS ?zqx ?_; (case zqx => assumption); (case zqF => k_asm); (case zqX => k_asm); (case zqS => walk_at "v_sees")); intro _)
  k_with "getAttr ref" => (k_here; (with_reducible show wpAny _ _ (getAttr (Value.ref _) (PySem.Str.ofString "one") _) _ _ _); k_dflt (refine' ent_one ?zqF ?zqX ?zqS ?zqx ?_; (case zqx => assumption); (case zqF => k_asm); (case zqX => k_asm); (case zqS => walk_at "v_sees")); intro _)
  k_with "getAttr ref" => (k_here; (with_reducible show wpAny _ _ (getAttr (Value.ref _) (PySem.Str.ofString "two") _) _ _ _); k_dflt (refine' ent_two ?zqF ?zqX ?zqS ?zqx ?_; (case zqx => assumption); (case zqF => k_asm); (case zqX => k_asm); (case zqS => walk_at "v_sees")); intro _)
  k_with "getMethod ref" => (k_here; (with_reducible show wpAny _ _ (getMethod (Value.ref _) (PySem.Str.ofString "told") _) _ _ _); k_dflt (refine' ent_told ?zqF ?zqX ?zqS ?zqx ?_; (case zqx => assumption); (case zqF => k_asm); (case zqX => k_asm); (case zqS => walk_at "v_sees")))
  k_with "call builtin:sorted" => (k_here; (with_reducible show wpAny _ _ (call (Value.builtin _) [Value.ref _]) _ _ _); k_dflt (refine' sorted_edict ?zqhh ?zqS ?zqD ?zqF ?zqN ?zqz ?_; (case zqhh => first | assumption | exact Rm.hd_deeper (by assumption) _); (case zqD => assumption); (case zqF => k_asm); (case zqN => k_asm); (case zqS => walk_at "v_sees"); (case zqz => omega)); intro _ _ _ _ _ _ _ _ _ _ _ _; (try k_sweep))
  k_with "subscriptTail" => (k_here; (with_reducible show wpAny _ _ (subscriptTail _ _ (Value.ref _) (Value.int _ _)) _ _ _); k_dflt (refine' edict_item ?zqS ?zqD ?zqv ?_; (case zqD => assumption); (case zqv => assumption); (case zqS => walk_at "v_sees")))
  k_with "call ref" => (k_here; k_dflt (refine' told_use ?zqR ?zqX ?zqT ?zqF ?zqN ?zqS ?zqEn ?_; (case zqEn => assumption); (case zqR => first | exact Rm.less (by assumption) (by omega) (by omega) | exact Rm.deeper (Rm.less (by assumption) (by omega) (by omega)) _); (case zqX => k_asm); (case zqT => k_asm); (case zqF => k_asm); (case zqN => k_asm); (case zqS => walk_at "v_sees")); intro _ _ _ _ _ _ _ _ _; (try k_sweep))
  k_with "eval ListComp" => (k_here; k_dflt (refine' comp_raw ?zqcl ?zqce ?zqk ?zqn ?zqx ?_; (case zqcl => exact rfl); (case zqce => decide); (case zqk => rfl); (case zqn => decide); (case zqx => rfl)))
  k_with "exec For Name Call cons nil" => (k_here; k_dflt (refine for_raw (by rfl) (by rfl) ?_))
  k_with "exec For Name Name cons nil" => (k_here; k_dflt (refine for_raw (by rfl) (by rfl) ?_))
  k_with "call ref" => (k_here; k_dflt (refine' entry_use ?zqR ?zqX ?zqT ?zqF ?zqN ?_; (case zqR => exact Rm.deeper (Rm.less (by assumption) (by omega) (by omega)) _); (case zqX => k_asm); (case zqT => k_asm); (case zqF => k_asm); (case zqN => k_asm)); intro _ _ _ _ _ _ _ _ _ _ _ _ _ _ _ _ _; rename_i l1 l2 gw' g1' g2' gt'; (try k_lt l1); (try k_lt2 l2); (try k_sweep); revert l1 l2 gw' g1' g2' gt'; intro _ _ _ _ _ _)
  k_with "setItem ref int ref" => (k_here; k_dflt (refine' dict_set_K ?zqF ?zqN ?zqU ?zqhd ?zqhz ?_; (case zqF => k_asm); (case zqN => k_asm); (case zqU => k_updF); (case zqhd => assumption); (case zqhz => assumption)); intro _ _ _ _ _; rename_i N' hd'; (try dsimp only at N'); (try k_sweep); revert N' hd'; intro _ _)
  k_with "getMethod ref" => (k_here; (with_reducible show wpAny _ _ (getMethod (Value.ref _) (PySem.Str.ofString "get") _) _ _ _); k_dflt (refine' get_method ?zqS ?zqD ?_; (case zqD => first | assumption | exact EDict.dict (by assumption)); (case zqS => walk_at "v_sees")))
  k_with "call builtin:dict.get" => (k_here; (with_reducible show wpAny _ _ (call (Value.builtin _) [Value.ref _, Value.int _ _, Value.int _ _]) _ _ _); k_dflt (refine' get0_raw ?zqS ?zqD ?zqhg ?_; (case zqD => assumption); (case zqhg => assumption); (case zqS => walk_at "v_sees")); intro _)
  k_with "exec Assign cons ListComp" => (k_here; k_dflt (refine' comp_assign ?zqsw ?zqcl ?zqce ?zqk ?zqn ?zqx ?zqy ?zqp ?_; (case zqsw => rfl); (case zqcl => exact rfl); (case zqce => decide); (case zqk => rfl); (case zqn => decide); (case zqx => rfl); (case zqy => rfl); (case zqp => rfl)))
  k_with "compareOp NotIn int ref" => (k_here; k_dflt (refine' edict_notin ?zqS ?zqD ?_; (case zqD => assumption); (case zqS => walk_at "v_sees")))
  k_with "compareOp In int ref" => (k_here; k_dflt (refine' edict_in ?zqS ?zqD ?_; (case zqD => assumption); (case zqS => walk_at "v_sees")))
  k_with "unpackItems ref" => (k_here; k_dflt (refine' unpackItemsN_ ?zqk1 ?zqk2 ?zqk3 ?zqk4 ?zqk5 ?_; (case zqk1 => k_asm); (case zqk2 => k_asm); (case zqk3 => kun_tup); (case zqk4 => first | assumption | exact Rm.hd_deeper (by assumption) _); (case zqk5 => exact rfl); k_whole); intro _ _ _; (try k_sweep))
  k_with "assign Tuple" => (k_here; (with_reducible show wpAny _ _ (assign (Expr.Tuple _ _ _) _ (Value.ref _)) _ _ _); k_dflt (refine' unpackN_ ?zqk1 ?zqk2 ?zqk3 ?zqk4 ?zqk5 ?zqk6 ?_; (case zqk1 => k_asm); (case zqk2 => k_asm); (case zqk3 => first | kun_tup | exact tup_sees (by assumption) (by walk_at "v_sees")); (case zqk4 => first | assumption | exact Rm.hd_deeper (by assumption) _); (case zqk5 => exact rfl); (case zqk6 => exact rfl); k_whole); intro _ _ _; (try k_sweep))
  k_with "getAttr ref" => (k_here; (with_reducible show wpAny _ _ (getAttr (Value.ref _) (PySem.Str.ofString "way") _) _ _ _); k_dflt (refine' ent_way' ?zqF ?zqX ?zqS ?zqx ?zqv ?_; (case zqx => assumption); (case zqv => assumption); (case zqF => k_asm); (case zqX => k_asm); (case zqS => walk_at "v_sees")); intro _)
  k_with "getAttr ref" => (k_here; (with_reducible show wpAny _ _ (getAttr (Value.ref _) (PySem.Str.ofString "one") _) _ _ _); k_dflt (refine' ent_one' ?zqF ?zqX ?zqS ?zqx ?zqv ?_; (case zqx => assumption); (case zqv => assumption); (case zqF => k_asm); (case zqX => k_asm); (case zqS => walk_at "v_sees")); intro _)
  k_with "getAttr ref" => (k_here; (with_reducible show wpAny _ _ (getAttr (Value.ref _) (PySem.Str.ofString "two") _) _ _ _); k_dflt (refine' ent_two' ?zqF ?zqX ?zqS ?zqx ?zqv ?_; (case zqx => assumption); (case zqv => assumption); (case zqF => k_asm); (case zqX => k_asm); (case zqS => walk_at "v_sees")); intro _)
  k_with "call builtin:dict.get" => (k_here; (with_reducible show wpAny _ _ (call (Value.builtin _) [Value.ref _, Value.int _ _]) _ _ _); k_dflt (refine' edict_get ?zqS ?zqD ?zqv ?_; (case zqD => assumption); (case zqv => assumption); (case zqS => walk_at "v_sees")))
  k_with "rm_room" => first | exact Rm.less (by assumption) (by omega) (by omega) | exact Rm.deeper (Rm.less (by assumption) (by omega) (by omega)) _
  k_with "call ref" => (k_here; (with_reducible show wpAny _ _ (call (Value.ref 92) _) _ _ _); k_dflt (refine' fnum_use ?zqR ?zqX ?zqT ?zqF ?zqN ?zqS ?zqD ?zqC ?zqz ?zqo ?_; (case zqR => walk_at "rm_room"); (case zqX => k_asm); (case zqT => k_asm); (case zqF => k_asm); (case zqN => k_asm); (case zqD => assumption); (case zqS => walk_at "v_sees"); (case zqC => assumption); (case zqz => omega); (case zqo => assumption)); intro _ _ _ _ _ _ _ _ _; (try k_sweep))
  k_with "call ref" => (k_here; (with_reducible show wpAny _ _ (call (Value.ref 99) _) _ _ _); k_dflt (refine' chain_use ?zqR ?zqX ?zqT ?zqF ?zqN ?zqS ?zqD ?zqC ?zqz ?_; (case zqR => walk_at "rm_room"); (case zqX => k_asm); (case zqT => k_asm); (case zqF => k_asm); (case zqN => k_asm); (case zqD => assumption); (case zqS => walk_at "v_sees"); (case zqC => assumption); (case zqz => omega)); intro _ _ _ _ _ _ _ _ _; (try k_sweep))
  k_with "call ref" => (k_here; (with_reducible show wpAny _ _ (call (Value.ref 170) _) _ _ _); k_dflt (refine' ring_use ?zqR ?zqX ?zqT ?zqF ?zqN ?zqS ?zqD ?zqC ?zqz ?_; (case zqR => walk_at "rm_room"); (case zqX => k_asm); (case zqT => k_asm); (case zqF => k_asm); (case zqN => k_asm); (case zqD => assumption); (case zqS => walk_at "v_sees"); (case zqC => assumption); (case zqz => omega)); intro _ _ _ _ _ _ _ _ _; (try k_sweep))
  k_with "compareOp In int ref" => (k_here; k_dflt (refine' edict_in_b ?zqS ?zqD ?zqb ?_; (case zqD => assumption); (case zqb => assumption); (case zqS => walk_at "v_sees")))
  k_with "compareOp NotIn int ref" => (k_here; k_dflt (refine' edict_notin_b ?zqS ?zqD ?zqb ?_; (case zqD => assumption); (case zqb => assumption); (case zqS => walk_at "v_sees")))
  k_with "v_sees" => first | exact Sees.keep (by assumption) (Fr.keep (by k_asm)) | exact Sees.sub (News.sees (by k_asm)) (fun _ h => by repeat (first | exact h | refine List.mem_cons_of_mem _ ?_))
  k_with "call ref" => (k_here; (with_reducible show wpAny _ _ (call (Value.ref 144) _) _ _ _); k_dflt (refine' draw_use ?zqR ?zqX ?zqT ?zqF ?zqN ?zqP ?zqU1 ?zqU2 ?zqne ?zqlo ?zqhi ?_; (case zqR => walk_at "rm_room"); (case zqX => k_asm); (case zqT => k_asm); (case zqF => k_asm); (case zqN => k_asm); (case zqP => assumption); (case zqU1 => k_updF); (case zqU2 => (intro o9; (try dsimp only); k_updF)); (case zqne => assumption); (case zqlo => omega); (case zqhi => omega)); intro _ _ _ _ _ _ _ _ _ _ _; rename_i N'; (try dsimp only at N'); (try k_sweep); revert N'; intro _)
  trivial
/-- what is known of chain -/
structure Chn (w : World) (tl : Led) (ca : Addr) (es : List (Int × Ent)) (f : Int → Int) (ns line : List Int) : Prop where
  D : EDict w tl ca es
  hr : es.map rowOf = chainRows f (0 :: line)
  hp : line.Perm (ns.filter fun k => decide (0 < k))
  ho : line.Pairwise (· ≤ ·)
theorem Chn.mono {w : World} {tl tl' : Led} {ca : Addr} {es : List (Int × Ent)} {f : Int → Int} {ns line : List Int} (x : Chn w tl ca es f ns line) (s : ∀ p ∈ tl, p ∈ tl') : Chn w tl' ca es f ns line := ⟨x.D.mono s, x.hr, x.hp, x.ho⟩
theorem Chn.pos {w : World} {tl : Led} {ca : Addr} {es : List (Int × Ent)} {f : Int → Int} {ns line : List Int} (x : Chn w tl ca es f ns line) : ∀ k ∈ line, 1 ≤ k := fun k hk => by
  have := (List.mem_filter.mp (x.hp.mem_iff.mp hk)).2
  have := of_decide_eq_true this
  omega
theorem Chn.chained {w : World} {tl : Led} {ca : Addr} {es : List (Int × Ent)} {f : Int → Int} {ns line : List Int} (x : Chn w tl ca es f ns line) : Chained f es line := by
  have := chained_of (f := f) (ch := es) (es := []) x.hr (by simpa using x.D.nodup) x.pos (fun p hp => nomatch hp)
  simpa using this
theorem Chn.len {w : World} {tl : Led} {ca : Addr} {es : List (Int × Ent)} {f : Int → Int} {ns line : List Int} (x : Chn w tl ca es f ns line) : es.length = line.length + 1 ∧ line.length ≤ ns.length := by
  constructor
  · have := congrArg List.length x.hr
    simpa [chainRows] using this
  · rw [x.hp.length_eq]; exact List.length_filter_le _ _
inductive St14 (w : World) (g : Heap) (L : Addr) (s : Shared) : Prop
  | mk (c : C7) (pen cells : Addr) (o1 o2 : Obj) (tl : Led) (m : Str → Option Value) (sp fd en : Option Value) (ln gd ca : Addr) (og : Obj) (ns line : List Int) (gkvs : List (Int × Value)) (es : List (Int × Ent)) (x0 : Core g L s c pen cells o1 o2 tl m) (x1 : c.Holds (some (.ref ca)) (some (.ref gd)) (some (.ref ln)) sp fd en (some (.ref pen))) (x2 : IntsV tl ln ns) (x3 : ns.length ≤ 5) (x4 : ns.Nodup) (x5 : (gd, og) ∈ tl) (x6 : DictV w [(gd, og)] gd gkvs) (x7 : (∀ p ∈ gkvs, ∃ v t, p.2 = .int v t)) (x8 : Chn w tl ca es (gv gkvs) ns line) : St14 w g L s
theorem law11 {w : World} {A : Around} {E : Value → Shared → Prop} {s : Shared} {Q : Flow → Shared → Prop} {g : Heap} {L fa : Addr} {cdv : Value} {sc : Scope} {l : List Str} {mg mb : Str → Option Value}
    (hsc : IsScope w sc) (R : Rm A 8 300) (X : (hd.heap_1 w.params).In g) (T : TopRead qv l mg mb g) (S : St13 w g L s)
    (K : ∀ s', s'.os = s.os → s'.gens = s.gens → St14 w g L s' → wpAny (model PR w) A (execs ((lawBody w).drop 14) (envOfC (Str.ofString "law") sc L fa cdv)) Q E s') :
    wpAny (model PR w) A (execs ((lawBody w).drop 13) (envOfC (Str.ofString "law") sc L fa cdv)) Q E s := by
  refine stage_cut (n := 13) (k := 1) (X := fun bd sc => (∀ s', s'.os = s.os → s'.gens = s.gens → St14 w g L s' → wpAny (model PR w) A (execs ((lawBody w).drop 14) (envOfC (Str.ofString "law") sc L fa cdv)) Q E s') → wpAny (model PR w) A (execs bd (envOfC (Str.ofString "law") sc L fa cdv)) Q E s) hsc (by k_is) (fun K => ?_) K
  simp only [List.drop_succ_cons, List.drop_zero, List.take_succ_cons, List.take_zero, List.cons_append, List.nil_append, Nat.zero_add]
  generalize List.drop 14 (lawBody w) = rest at K ⊢
  have hhA := R.hd
  obtain ⟨⟨cc, cg, cn, cs, cf, ce, cp⟩, pen, cells, p1, p2, tl, m0, sp, fd, en, ln, gd, og, ns, gkvs, ⟨F, N, off, AP, P⟩, ⟨y1, y2, y3, y4, y5, y6, y7⟩, ⟨ys0, n0, hm0, hi0⟩, hln, hnd, hgm, hgd, hgi⟩ := S
  obtain ⟨⟨w0, w1, w2, w3, w4, w5, w6, w7⟩, ⟨v1, v2, v3, v4, v5, v6, v7⟩⟩ := AP.nat
  dsimp only [C7.led] at N y1 y2 y3 y4 y5 y6 y7
  dsimp only [adr9] at off
  k_steps
  have hl0 := N (ln, W.listOf ys0.toArray n0) (by first | walk_at "mm" | simp [hm0])
  have hg0 := N (gd, og) (by first | walk_at "mm" | simp [hgm])
  have hne : gd ≠ ln := by
    rintro rfl
    have h1 := hg0.1.symm.trans hl0.1
    obtain ⟨_, o, ho, hdo⟩ := hgd
    have := List.mem_singleton.mp ho
    obtain ⟨_, _, _, hdt, _⟩ := hdo
    have e1 : o = og := congrArg Prod.snd this
    have e2 : og = W.listOf ys0.toArray n0 := Option.some.inj h1
    rw [e1, e2] at hdt
    cases hdt
  refine free_spec (vs0 := ys0) (n0 := n0) (R.less (by omega) (by omega)) ⟨X, l, mg, mb, T⟩ F.keep hl0.2.2 hl0.1 hi0 (by omega) hnd (fun p hp => by rw [List.mem_singleton.mp hp]; exact hg0.1) hgd (fun p hp => by rw [List.mem_singleton.mp hp]; exact hne) hgi fun d od nw es line h' tk' e B lo hdo hent _ hperm hsort hrow => ?_
  obtain ⟨F4, tl4, N4, off4, s4, t4⟩ := call_still (c := ⟨cc, cg, cn, cs, cf, ce, cp⟩) (o1 := p1) (o2 := p2) AP F N (by first | walk_at "sub" | exact (fun p hp => by (simp only [List.mem_cons, List.not_mem_nil, or_false] at hp ⊢; rcases hp with h | h | h | h | h | h | h | h | h <;> simp [h]))) (fun p hp => by first | walk_at "mm" | simp [hp]) off e B
  dsimp only [C7.led] at N4
  have HC : Chn w tl4 d es (gv gkvs) ns line := ⟨⟨⟨lo, od, s4 _ List.mem_cons_self, hdo⟩, fun p hp => (hent p hp).mono fun q hq => s4 _ (List.mem_cons_of_mem _ hq)⟩, hrow, hperm, hsort⟩
  clear F N
  k_steps
  rename_i h5 oc F5 N5 yc
  exact K _ rfl rfl ⟨⟨oc, cg, cn, cs, cf, ce, cp⟩, pen, cells, p1, p2, tl4, _, _, _, _, ln, gd, d, og, ns, line, gkvs, es, ⟨F5, N5, off4, AP, P⟩, ⟨yc, y2, y3, y4, y5, y6, y7⟩, ⟨ys0, n0, t4 _ hm0, hi0⟩, hln, hnd, t4 _ hgm, hgd, hgi, HC⟩
end S_OLaw11
section S_OLaw12
theorem reg60 : True := by
  k_with_none
  k_with "mm" => ((repeat' (first | (with_reducible exact List.mem_cons_self) | (with_reducible assumption) | (with_reducible refine List.mem_cons_of_mem _ ?_))); done)
  k_with "sub" => ((repeat' (first | (with_reducible exact sub_nil _) | (with_reducible refine sub_cons ?_ ?_) | (with_reducible exact List.mem_cons_self) | (with_reducible refine List.mem_cons_of_mem _ ?_) | (with_reducible assumption) | (intro p9 hp9))); done)
  k_with "v_sees" => first | exact Sees.keep (by assumption) (Fr.keep (by k_asm)) | exact Sees.sub (News.sees (by k_asm)) (fun _ h => by first | exact h | (refine List.mem_cons_of_mem _ ?_; exact h) | (refine List.mem_cons_of_mem _ (List.mem_cons_of_mem _ ?_); exact h))
  k_with "eval Name" => (k_here; (with_reducible show wpAny _ _ (eval (Expr.Name _ _) (compEnvC _ _ _ _)) _ _ _); k_dflt (first | (refine' nameB_L ?zqF ?zqv ?_ ?zqa ?zqb; (case zqF => k_asm); (case zqv => assumption); (case zqa => rfl); (case zqb => rfl)) | (refine' nameB_C ?zqF ?zqc ?zqo ?zqd ?_ ?zqa ?zqb; (case zqF => k_asm); (case zqa => rfl); (case zqb => rfl); (case zqc => rfl); (case zqo => assumption); (case zqd => assumption)) | (refine' nameB_G ?zqF ?zqX ?zqT ?zqe ?_ ?zqg ?zqa ?zqb; (case zqF => k_asm); (case zqX => k_asm); (case zqT => k_asm); (case zqg => rfl); (case zqa => rfl); (case zqb => rfl); (case zqe => k_is)) | (refine' nameB_B ?zqF ?zqX ?zqT ?zqe ?zqv ?zqn ?_ ?zqg ?zqh ?zqa ?zqb; (case zqF => k_asm); (case zqX => k_asm); (case zqT => k_asm); (case zqg => rfl); (case zqh => rfl); (case zqa => rfl); (case zqb => rfl); (case zqe => k_is); (case zqv => boot_fast); (case zqn => decide))))
  k_with "getAttr ref" => (k_here; (with_reducible show wpAny _ _ (getAttr (Value.ref _) (PySem.Str.ofString "way") _) _ _ _); k_dflt (refine' ent_way ?zqF ?zqX ?zqS ?zqx ?_; (case zqx => assumption); (case zqF => k_asm); (case zqX => k_asm); (case zqS => walk_at "v_sees")); intro _)
  k_with "getAttr ref" => (k_here; (with_reducible show wpAny _ _ (getAttr (Value.ref _) (PySem.Str.ofString "one") _) _ _ _); k_dflt (refine' ent_one ?zqF ?zqX ?zqS ?zqx ?_; (case zqx => assumption); (case zqF => k_asm); (case zqX => k_asm); (case zqS => walk_at "v_sees")); intro _)
  k_with "getAttr ref" => (k_here; (with_reducible show wpAny _ _ (getAttr (Value.ref _) (PySem.Str.ofString "two") _) _ _ _); k_dflt (refine' ent_two ?zqF ?zqX ?zqS ?zqx ?_; (case zqx => assumption); (case zqF => k_asm); (case zqX => k_asm); (case zqS => walk_at "v_sees")); intro _)
  k_with "getMethod ref" => (k_here; (with_reducible show wpAny _ _ (getMethod (Value.ref _) (PySem.Str.ofString "told") _) _ _ _); k_dflt (refine' ent_told ?zqF ?zqX ?zqS ?zqx ?_; (case zqx => assumption); (case zqF => k_asm); (case zqX => k_asm); (case zqS => walk_at "v_sees")))
  k_with "call builtin:sorted" => (k_here; (with_reducible show wpAny _ _ (call (Value.builtin _) [Value.ref _]) _ _ _); k_dflt (refine' sorted_edict ?zqhh ?zqS ?zqD ?zqF ?zqN ?zqz ?_; (case zqhh => first | assumption | exact Rm.hd_deeper (by assumption) _); (case zqD => assumption); (case zqF => k_asm); (case zqN => k_asm); (case zqS => walk_at "v_sees"); (case zqz => omega)); intro _ _ _ _ _ _ _ _ _ _ _ _; (try k_sweep))
  k_with "subscriptTail" => (k_here; (with_reducible show wpAny _ _ (subscriptTail _ _ (Value.ref _) (Value.int _ _)) _ _ _); k_dflt (refine' edict_item ?zqS ?zqD ?zqv ?_; (case zqD => assumption); (case zqv => assumption); (case zqS => walk_at "v_sees")))
  k_with "call ref" => (k_here; k_dflt (refine' told_use ?zqR ?zqX ?zqT ?zqF ?zqN ?zqS ?zqEn ?_; (case zqEn => assumption); (case zqR => first | exact Rm.less (by assumption) (by omega) (by omega) | exact Rm.deeper (Rm.less (by assumption) (by omega) (by omega)) _); (case zqX => k_asm); (case zqT => k_asm); (case zqF => k_asm); (case zqN => k_asm); (case zqS => walk_at "v_sees")); intro _ _ _ _ _ _ _ _ _; (try k_sweep))
  k_with "eval ListComp" => (k_here; k_dflt (refine' comp_raw ?zqcl ?zqce ?zqk ?zqn ?zqx ?_; (case zqcl => exact rfl); (case zqce => decide); (case zqk => rfl); (case zqn => decide); (case zqx => rfl)))
  k_with "exec For Name Call cons nil" => (k_here; k_dflt (refine for_raw (by rfl) (by rfl) ?_))
  k_with "exec For Name Name cons nil" => (k_here; k_dflt (refine for_raw (by rfl) (by rfl) ?_))
  k_with "call ref" => (k_here; k_dflt (refine' entry_use ?zqR ?zqX ?zqT ?zqF ?zqN ?_; (case zqR => exact Rm.deeper (Rm.less (by assumption) (by omega) (by omega)) _); (case zqX => k_asm); (case zqT => k_asm); (case zqF => k_asm); (case zqN => k_asm)); intro _ _ _ _ _ _ _ _ _ _ _ _ _ _ _ _ _; rename_i l1 l2 gw' g1' g2' gt'; (try k_lt l1); (try k_lt2 l2); (try k_sweep); revert l1 l2 gw' g1' g2' gt'; intro _ _ _ _ _ _)
  k_with "setItem ref int ref" => (k_here; k_dflt (refine' dict_set_K ?zqF ?zqN ?zqU ?zqhd ?zqhz ?_; (case zqF => k_asm); (case zqN => k_asm); (case zqU => k_updF); (case zqhd => assumption); (case zqhz => assumption)); intro _ _ _ _ _; rename_i N' hd'; (try dsimp only at N'); (try k_sweep); revert N' hd'; intro _ _)
  k_with "getMethod ref" => (k_here; (with_reducible show wpAny _ _ (getMethod (Value.ref _) (PySem.Str.ofString "get") _) _ _ _); k_dflt (refine' get_method ?zqS ?zqD ?_; (case zqD => first | assumption | exact EDict.dict (by assumption)); (case zqS => walk_at "v_sees")))
  k_with "call builtin:dict.get" => (k_here; (with_reducible show wpAny _ _ (call (Value.builtin _) [Value.ref _, Value.int _ _, Value.int _ _]) _ _ _); k_dflt (refine' get0_raw ?zqS ?zqD ?zqhg ?_; (case zqD => assumption); (case zqhg => assumption); (case zqS => walk_at "v_sees")); intro _)
  k_with "exec Assign cons ListComp" => (k_here; k_dflt (refine' comp_assign ?zqsw ?zqcl ?zqce ?zqk ?zqn ?zqx ?zqy ?zqp ?_; (case zqsw => rfl); (case zqcl => exact rfl); (case zqce => decide); (case zqk => rfl); (case zqn => decide); (case zqx => rfl); (case zqy => rfl); (case zqp => rfl)))
  k_with "compareOp NotIn int ref" => (k_here; k_dflt (refine' edict_notin ?zqS ?zqD ?_; (case zqD => assumption); (case zqS => walk_at "v_sees")))
  k_with "compareOp In int ref" => (k_here; k_dflt (refine' edict_in ?zqS ?zqD ?_; (case zqD => assumption); (case zqS => walk_at "v_sees")))
  k_with "unpackItems ref" => (k_here; k_dflt (refine' unpackItemsN_ ?zqk1 ?zqk2 ?zqk3 ?zqk4 ?zqk5 ?_; (case zqk1 => k_asm); (case zqk2 => k_asm); (case zqk3 => kun_tup); (case zqk4 => first | assumption | exact Rm.hd_deeper (by assumption) _); (case zqk5 => exact rfl); k_whole); intro _ _ _; (try k_sweep))
  k_with "assign Tuple" => (k_here; (with_reducible show wpAny _ _ (assign (Expr.Tuple _ _ _) _ (Value.ref _)) _ _ _); k_dflt (refine' unpackN_ ?zqk1 ?zqk2 ?zqk3 ?zqk4 ?zqk5 ?zqk6 ?_; (case zqk1 => k_asm); (case zqk2 => k_asm); (case zqk3 => first | kun_tup | exact tup_sees (by assumption) (by walk_at "v_sees")); (case zqk4 => first | assumption | exact Rm.hd_deeper (by assumption) _); (case zqk5 => exact rfl); (case zqk6 => exact rfl); k_whole); intro _ _ _; (try k_sweep))
  k_with "getAttr ref" => (k_here; (with_reducible show wpAny _ _ (getAttr (Value.ref _) (PySem.Str.ofString "way") _) _ _ _); k_dflt (refine' ent_way' ?zqF ?zqX ?zqS ?zqx ?zqv ?_; (case zqx => assumption); (case zqv => assumption); (case zqF => k_asm); (case zqX => k_asm); (case zqS => walk_at "v_sees")); intro _)
  k_with "getAttr ref" => (k_here; (with_reducible show wpAny _ _ (getAttr (Value.ref _) (PySem.Str.ofString "one") _) _ _ _); k_dflt (refine' ent_one' ?zqF ?zqX ?zqS ?zqx ?zqv ?_; (case zqx => assumption); (case zqv => assumption); (case zqF => k_asm); (case zqX => k_asm); (case zqS => walk_at "v_sees")); intro _)
  k_with "getAttr ref" => (k_here; (with_reducible show wpAny _ _ (getAttr (Value.ref _) (PySem.Str.ofString "two") _) _ _ _); k_dflt (refine' ent_two' ?zqF ?zqX ?zqS ?zqx ?zqv ?_; (case zqx => assumption); (case zqv => assumption); (case zqF => k_asm); (case zqX => k_asm); (case zqS => walk_at "v_sees")); intro _)
  k_with "call builtin:dict.get" => (k_here; (with_reducible show wpAny _ _ (call (Value.builtin _) [Value.ref _, Value.int _ _]) _ _ _); k_dflt (refine' edict_get ?zqS ?zqD ?zqv ?_; (case zqD => assumption); (case zqv => assumption); (case zqS => walk_at "v_sees")))
  k_with "rm_room" => first | exact Rm.less (by assumption) (by omega) (by omega) | exact Rm.deeper (Rm.less (by assumption) (by omega) (by omega)) _
  k_with "call ref" => (k_here; (with_reducible show wpAny _ _ (call (Value.ref 92) _) _ _ _); k_dflt (refine' fnum_use ?zqR ?zqX ?zqT ?zqF ?zqN ?zqS ?zqD ?zqC ?zqz ?zqo ?_; (case zqR => walk_at "rm_room"); (case zqX => k_asm); (case zqT => k_asm); (case zqF => k_asm); (case zqN => k_asm); (case zqD => assumption); (case zqS => walk_at "v_sees"); (case zqC => assumption); (case zqz => omega); (case zqo => assumption)); intro _ _ _ _ _ _ _ _ _; (try k_sweep))
  k_with "call ref" => (k_here; (with_reducible show wpAny _ _ (call (Value.ref 99) _) _ _ _); k_dflt (refine' chain_use ?zqR ?zqX ?zqT ?zqF ?zqN ?zqS ?zqD ?zqC ?zqz ?_; (case zqR => walk_at "rm_room"); (case zqX => k_asm); (case zqT => k_asm); (case zqF => k_asm); (case zqN => k_asm); (case zqD => assumption); (case zqS => walk_at "v_sees"); (case zqC => assumption); (case zqz => omega)); intro _ _ _ _ _ _ _ _ _; (try k_sweep))
  k_with "call ref" => (k_here; (with_reducible show wpAny _ _ (call (Value.ref 170) _) _ _ _); k_dflt (refine' ring_use ?zqR ?zqX ?zqT ?zqF ?zqN ?zqS ?zqD ?zqC ?zqz ?_; (case zqR => walk_at "rm_room"); (case zqX => k_asm); (case zqT => k_asm); (case zqF => k_asm); (case zqN => k_asm); (case zqD => assumption); (case zqS => walk_at "v_sees"); (case zqC => assumption); (case zqz => omega)); intro _ _ _ _ _ _ _ _ _; (try k_sweep))
  k_with "compareOp In int ref" => (k_here; k_dflt (refine' edict_in_b ?zqS ?zqD ?zqb ?_; (case zqD => assumption); (case zqb => assumption); (case zqS => walk_at "v_sees")))
  k_with "compareOp NotIn int ref" => (k_here; k_dflt (refine' edict_notin_b ?zqS ?zqD ?zqb ?_; (case zqD => assumption); (case zqb => assumption); (case zqS => walk_at "v_sees")))
  k_with "v_sees" => first | exact Sees.keep (by assumption) (Fr.keep (by k_asm)) | exact Sees.sub (News.sees (by k_asm)) (fun _ h => by repeat (first | exact h | refine List.mem_cons_of_mem _ ?_))
  k_with "call ref" => (k_here; (with_reducible show wpAny _ _ (call (Value.ref 144) _) _ _ _); k_dflt (refine' draw_use ?zqR ?zqX ?zqT ?zqF ?zqN ?zqP ?zqU1 ?zqU2 ?zqne ?zqlo ?zqhi ?_; (case zqR => walk_at "rm_room"); (case zqX => k_asm); (case zqT => k_asm); (case zqF => k_asm); (case zqN => k_asm); (case zqP => assumption); (case zqU1 => k_updF); (case zqU2 => (intro o9; (try dsimp only); k_updF)); (case zqne => assumption); (case zqlo => omega); (case zqhi => omega)); intro _ _ _ _ _ _ _ _ _ _ _; rename_i N'; (try dsimp only at N'); (try k_sweep); revert N'; intro _)
  k_with "call builtin:sorted" => (refine Held.use ?_)
  k_with "binaryOp Add ref ref" => (refine Held.use ?_)
  trivial
inductive St15 (w : World) (g : Heap) (L : Addr) (s : Shared) : Prop
  | mk (c : C7) (pen cells : Addr) (o1 o2 : Obj) (tl : Led) (u : Str → Option Value) (sp fd en : Option Value) (ln gd ca du : Addr) (og : Obj) (ns line : List Int) (gkvs : List (Int × Value)) (es : List (Int × Ent)) (x0 : Core g L s c pen cells o1 o2 tl (fun z => if z = Str.ofString "due" then some (.ref du) else u z)) (x1 : c.Holds (some (.ref ca)) (some (.ref gd)) (some (.ref ln)) sp fd en (some (.ref pen))) (x2 : IntsV tl ln ns) (x3 : ns.length ≤ 5) (x4 : (gd, og) ∈ tl) (x5 : DictV w [(gd, og)] gd gkvs) (x6 : (∀ p ∈ gkvs, ∃ v t, p.2 = .int v t)) (x7 : Chn w tl ca es (gv gkvs) ns line) (x8 : IntsV tl du (0 :: line)) : St15 w g L s
theorem law12 {w : World} {A : Around} {E : Value → Shared → Prop} {s : Shared} {Q : Flow → Shared → Prop} {g : Heap} {L fa : Addr} {cdv : Value} {sc : Scope} {l : List Str} {mg mb : Str → Option Value}
    (hsc : IsScope w sc) (R : Rm A 8 300) (X : (hd.heap_1 w.params).In g) (T : TopRead qv l mg mb g) (S : St14 w g L s)
    (K : ∀ s', s'.os = s.os → s'.gens = s.gens → St15 w g L s' → wpAny (model PR w) A (execs ((lawBody w).drop 15) (envOfC (Str.ofString "law") sc L fa cdv)) Q E s') :
    wpAny (model PR w) A (execs ((lawBody w).drop 14) (envOfC (Str.ofString "law") sc L fa cdv)) Q E s := by
  refine stage_cut (n := 14) (k := 1) (X := fun bd sc => (∀ s', s'.os = s.os → s'.gens = s.gens → St15 w g L s' → wpAny (model PR w) A (execs ((lawBody w).drop 15) (envOfC (Str.ofString "law") sc L fa cdv)) Q E s') → wpAny (model PR w) A (execs bd (envOfC (Str.ofString "law") sc L fa cdv)) Q E s) hsc (by k_is) (fun K => ?_) K
  simp only [List.drop_succ_cons, List.drop_zero, List.take_succ_cons, List.take_zero, List.cons_append, List.nil_append, Nat.zero_add]
  generalize List.drop 15 (lawBody w) = rest at K ⊢
  have hhA := R.hd
  obtain ⟨⟨cc, cg, cn, cs, cf, ce, cp⟩, pen, cells, p1, p2, tl, m0, sp, fd, en, ln, gd, ca, og, ns, line, gkvs, es, ⟨F, N, off, AP, P⟩, ⟨y1, y2, y3, y4, y5, y6, y7⟩, ⟨ys0, n0, hm0, hi0⟩, hln, hnd, hgm, hgd, hgi, HC⟩ := S
  obtain ⟨⟨w0, w1, w2, w3, w4, w5, w6, w7⟩, ⟨v1, v2, v3, v4, v5, v6, v7⟩⟩ := AP.nat
  dsimp only [C7.led] at N y1 y2 y3 y4 y5 y6 y7
  dsimp only [adr9] at off
  have hyl : ys0.length = ns.length := hi0.length
  k_steps
  rename_i l0 h1 F1 N1 l1
  have hl0 := N1 (ln, W.listOf ys0.toArray n0) (by first | walk_at "mm" | simp [hm0])
  refine list_comp (σ := Unit) (vs := ys0) (fun _ => []) [] (fun V _ i ys => IntsAre ys ((ns.take i).filter fun k => decide (0 < k))) () R.hd ⟨_, hl0.1, rfl, ⟨_, rfl⟩⟩ (fun q => nomatch q) (by omega) (fun _ => rfl) (fun p hp => nomatch hp) (fun V U c i ys h sub => h) (fun V c i ys h => by
      rw [h.length]
      exact Nat.le_trans (List.length_filter_le _ _) (by simp; omega)) .nil ?turn ?done
  case turn =>
    rintro c i v ys U tl' s' C' h tk m g' rfl hC kp' hv hD sub off' hx F3 N3
    have st' : g.StaysIn g' := fun a o e => kp' a o (F1.keep a o e) (fun q => nomatch q) fun q => by subst q; rw [hl0.2.2] at e; cases e
    have X := X.keeps st'
    have T := T.keeps st'
    obtain ⟨k, t, hk, rfl⟩ := IntsAre.at hi0 hv
    simp only [List.nil_append] at N3
    refine wpAny_tests_one ?_
    k_steps
    all_goals
      rename_i hne9
      refine CTurnEnd.intro F3 N3 () [] (fun p hp => nomatch hp) (fun p hp => hp) (fun p hp => nomatch hp) ?_
      show IntsAre _ _
      rw [filter_snoc hk _ rfl]
      first
      | (rw [decide_eq_true (show 0 < k by omega)]; simp only [if_true]; exact hD.append (.cons _ _ .nil))
      | (rw [decide_eq_false (show ¬ 0 < k by omega)]; simp only [Bool.false_eq_true, if_false, List.append_nil]; exact hD)
  case done =>
    rintro c U C' D' ys h tk s₂ hD hE' _ hB hC hCD hVC ⟨o, rfl⟩
    intro h' sb
    obtain ⟨e1, b1⟩ := comp_close hE' hB hC sb (fun p hp => by
      rcases List.mem_cons.mp hp with rfl | hp
      · exact hCD.symm
      · exact hVC p hp)
    obtain ⟨N3, nD⟩ := news_two (o := lst ys) F1 N1 e1.keep (b1 _ List.mem_cons_self).2 (b1 _ List.mem_cons_self).1
    have F3 := Fr.keeps F1 e1.keep
    dsimp only at N3
    rw [hyl, List.take_length] at hD
    clear hE' hB e1 b1
    k_steps
    have hflen : (ns.filter fun k => decide (0 < k)).length ≤ 5 := Nat.le_trans (List.length_filter_le _ _) hln
    refine ⟨sorted_list (lst_led (vs := ys) (n := ys.length) N3 List.mem_cons_self) hD (by omega) fun r h4 vs4 ns4 n4 e4 nr4 g4 hI4 hp4 ho4 => ?_⟩
    obtain ⟨N4, _⟩ := news_two F3 N3 e4.keep nr4 g4
    have F4 := Fr.keeps F3 e4.keep
    have hq : ns4 = line := same_sorted hp4 HC.hp ho4 HC.ho
    subst hq
    k_steps
    refine ⟨kmk_add_ints F4 N4 ⟨_, (N4 (l0, _) (List.mem_cons_of_mem _ (List.mem_cons_of_mem _ List.mem_cons_self))).1, rfl, ⟨_, rfl⟩⟩ (lst_led (vs := vs4) (n := n4) N4 List.mem_cons_self) (.cons 0 _ .nil) hI4 (fun ll us h5 F5 N5 l5 hu => ?_) (by rw [sizeLine_eq, hp4.length_eq]; simp; omega)⟩
    obtain ⟨tl6, N6, off6, s6, t6⟩ := absorb2 (c := ⟨cc, cg, cn, cs, cf, ce, cp⟩) (o1 := p1) (o2 := p2) (tl := tl) (nl := [(ll, W.listOf us.toArray 0)]) F5 N5 (by first | walk_at "sub" | exact (fun p hp => by (simp only [List.mem_cons, List.not_mem_nil, or_false] at hp ⊢; rcases hp with h | h | h | h | h | h | h | h | h <;> simp [h]))) (fun p hp => by first | walk_at "mm" | simp [hp]) off (fun p hp => ⟨by rw [List.mem_singleton.mp hp]; exact List.mem_cons_self, by
        rw [List.mem_singleton.mp hp]
        exact not9_lt (c := ⟨cc, cg, cn, cs, cf, ce, cp⟩) (o1 := p1) (o2 := p2) l5 (by first | walk_at "sub" | exact (fun p hp => by (simp only [List.mem_cons, List.not_mem_nil, or_false] at hp ⊢; rcases hp with h | h | h | h | h | h | h | h | h <;> simp [h])))⟩)
    dsimp only [C7.led] at N6
    have hm6 := s6 _ List.mem_cons_self
    clear F4 N4 F3 N3 F1 N1 N5
    k_steps
    rename_i h7 F7 N7
    exact K _ rfl rfl ⟨⟨cc, cg, cn, cs, cf, ce, cp⟩, pen, cells, p1, p2, tl6, _, _, _, _, ln, gd, ca, ll, og, ns, ns4, gkvs, es, ⟨F7, N7, off6, AP, P⟩, ⟨y1, y2, y3, y4, y5, y6, y7⟩, ⟨ys0, n0, t6 _ hm0, hi0⟩, hln, t6 _ hgm, hgd, hgi, HC.mono t6, ⟨us, _, hm6, hu⟩⟩
end S_OLaw12
section S_OLaw13
theorem reg61 : True := by
  k_with_none
  k_with "mm" => ((repeat' (first | (with_reducible exact List.mem_cons_self) | (with_reducible assumption) | (with_reducible refine List.mem_cons_of_mem _ ?_))); done)
  k_with "sub" => ((repeat' (first | (with_reducible exact sub_nil _) | (with_reducible refine sub_cons ?_ ?_) | (with_reducible exact List.mem_cons_self) | (with_reducible refine List.mem_cons_of_mem _ ?_) | (with_reducible assumption) | (intro p9 hp9))); done)
  k_with "v_sees" => first | exact Sees.keep (by assumption) (Fr.keep (by k_asm)) | exact Sees.sub (News.sees (by k_asm)) (fun _ h => by first | exact h | (refine List.mem_cons_of_mem _ ?_; exact h) | (refine List.mem_cons_of_mem _ (List.mem_cons_of_mem _ ?_); exact h))
  k_with "eval Name" => (k_here; (with_reducible show wpAny _ _ (eval (Expr.Name _ _) (compEnvC _ _ _ _)) _ _ _); k_dflt (first | (refine' nameB_L ?zqF ?zqv ?_ ?zqa ?zqb; (case zqF => k_asm); (case zqv => assumption); (case zqa => rfl); (case zqb => rfl)) | (refine' nameB_C ?zqF ?zqc ?zqo ?zqd ?_ ?zqa ?zqb; (case zqF => k_asm); (case zqa => rfl); (case zqb => rfl); (case zqc => rfl); (case zqo => assumption); (case zqd => assumption)) | (refine' nameB_G ?zqF ?zqX ?zqT ?zqe ?_ ?zqg ?zqa ?zqb; (case zqF => k_asm); (case zqX => k_asm); (case zqT => k_asm); (case zqg => rfl); (case zqa => rfl); (case zqb => rfl); (case zqe => k_is)) | (refine' nameB_B ?zqF ?zqX ?zqT ?zqe ?zqv ?zqn ?_ ?zqg ?zqh ?zqa ?zqb; (case zqF => k_asm); (case zqX => k_asm); (case zqT => k_asm); (case zqg => rfl); (case zqh => rfl); (case zqa => rfl); (case zqb => rfl); (case zqe => k_is); (case zqv => boot_fast); (case zqn => decide))))
  k_with "getAttr ref" => (k_here; (with_reducible show wpAny _ _ (getAttr (Value.ref _) (PySem.Str.ofString "way") _) _ _ _); k_dflt (refine' ent_way ?zqF ?zqX ?zqS ?zqx ?_; (case zqx => assumption); (case zqF => k_asm); (case zqX => k_asm); (case zqS => walk_at "v_sees")); intro _)
  k_with "getAttr ref" => (k_here; (with_reducible show wpAny _ _ (getAttr (Value.ref _) (PySem.Str.ofString "one") _) _ _ _); k_dflt (refine' ent_one ?zqF ?zqX ?zqS ?zqx ?_; (case zqx => assumption); (case zqF => k_asm); (case zqX => k_asm); (case zqS => walk_at "v_sees")); intro _)
  k_with "getAttr ref" => (k_here; (with_reducible show wpAny _ _ (getAttr (Value.ref _) (PySem.Str.ofString "two") _) _ _ _); k_dflt (refine' ent_two ?zqF ?zqX ?zqS ?zqx ?_; (case zqx => assumption); (case zqF => k_asm); (case zqX => k_asm); (case zqS => walk_at "v_sees")); intro _)
  k_with "getMethod ref" => (k_here; (with_reducible show wpAny _ _ (getMethod (Value.ref _) (PySem.Str.ofString "told") _) _ _ _); k_dflt (refine' ent_told ?zqF ?zqX ?zqS ?zqx ?_; (case zqx => assumption); (case zqF => k_asm); (case zqX => k_asm); (case zqS => walk_at "v_sees")))
  k_with "call builtin:sorted" => (k_here; (with_reducible show wpAny _ _ (call (Value.builtin _) [Value.ref _]) _ _ _); k_dflt (refine' sorted_edict ?zqhh ?zqS ?zqD ?zqF ?zqN ?zqz ?_; (case zqhh => first | assumption | exact Rm.hd_deeper (by assumption) _); (case zqD => assumption); (case zqF => k_asm); (case zqN => k_asm); (case zqS => walk_at "v_sees"); (case zqz => omega)); intro _ _ _ _ _ _ _ _ _ _ _ _; (try k_sweep))
  k_with "subscriptTail" => (k_here; (with_reducible show wpAny _ _ (subscriptTail _ _ (Value.ref _) (Value.int _ _)) _ _ _); k_dflt (refine' edict_item ?zqS ?zqD ?zqv ?_; (case zqD => assumption); (case zqv => assumption); (case zqS => walk_at "v_sees")))
  k_with "call ref" => (k_here; k_dflt (refine' told_use ?zqR ?zqX ?zqT ?zqF ?zqN ?zqS ?zqEn ?_; (case zqEn => assumption); (case zqR => first | exact Rm.less (by assumption) (by omega) (by omega) | exact Rm.deeper (Rm.less (by assumption) (by omega) (by omega)) _); (case zqX => k_asm); (case zqT => k_asm); (case zqF => k_asm); (case zqN => k_asm); (case zqS => walk_at "v_sees")); intro _ _ _ _ _ _ _ _ _; (try k_sweep))
  k_with "eval ListComp" => (k_here; k_dflt (refine' comp_raw ?zqcl ?zqce ?zqk ?zqn ?zqx ?_; (case zqcl => exact rfl); (case zqce => decide); (case zqk => rfl); (case zqn => decide); (case zqx => rfl)))
  k_with "exec For Name Call cons nil" => (k_here; k_dflt (refine for_raw (by rfl) (by rfl) ?_))
  k_with "exec For Name Name cons nil" => (k_here; k_dflt (refine for_raw (by rfl) (by rfl) ?_))
  k_with "call ref" => (k_here; k_dflt (refine' entry_use ?zqR ?zqX ?zqT ?zqF ?zqN ?_; (case zqR => exact Rm.deeper (Rm.less (by assumption) (by omega) (by omega)) _); (case zqX => k_asm); (case zqT => k_asm); (case zqF => k_asm); (case zqN => k_asm)); intro _ _ _ _ _ _ _ _ _ _ _ _ _ _ _ _ _; rename_i l1 l2 gw' g1' g2' gt'; (try k_lt l1); (try k_lt2 l2); (try k_sweep); revert l1 l2 gw' g1' g2' gt'; intro _ _ _ _ _ _)
  k_with "setItem ref int ref" => (k_here; k_dflt (refine' dict_set_K ?zqF ?zqN ?zqU ?zqhd ?zqhz ?_; (case zqF => k_asm); (case zqN => k_asm); (case zqU => k_updF); (case zqhd => assumption); (case zqhz => assumption)); intro _ _ _ _ _; rename_i N' hd'; (try dsimp only at N'); (try k_sweep); revert N' hd'; intro _ _)
  k_with "getMethod ref" => (k_here; (with_reducible show wpAny _ _ (getMethod (Value.ref _) (PySem.Str.ofString "get") _) _ _ _); k_dflt (refine' get_method ?zqS ?zqD ?_; (case zqD => first | assumption | exact EDict.dict (by assumption)); (case zqS => walk_at "v_sees")))
  k_with "call builtin:dict.get" => (k_here; (with_reducible show wpAny _ _ (call (Value.builtin _) [Value.ref _, Value.int _ _, Value.int _ _]) _ _ _); k_dflt (refine' get0_raw ?zqS ?zqD ?zqhg ?_; (case zqD => assumption); (case zqhg => assumption); (case zqS => walk_at "v_sees")); intro _)
  k_with "exec Assign cons ListComp" => (k_here; k_dflt (refine' comp_assign ?zqsw ?zqcl ?zqce ?zqk ?zqn ?zqx ?zqy ?zqp ?_; (case zqsw => rfl); (case zqcl => exact rfl); (case zqce => decide); (case zqk => rfl); (case zqn => decide); (case zqx => rfl); (case zqy => rfl); (case zqp => rfl)))
  k_with "compareOp NotIn int ref" => (k_here; k_dflt (refine' edict_notin ?zqS ?zqD ?_; (case zqD => assumption); (case zqS => walk_at "v_sees")))
  k_with "compareOp In int ref" => (k_here; k_dflt (refine' edict_in ?zqS ?zqD ?_; (case zqD => assumption); (case zqS => walk_at "v_sees")))
  k_with "unpackItems ref" => (k_here; k_dflt (refine' unpackItemsN_ ?zqk1 ?zqk2 ?zqk3 ?zqk4 ?zqk5 ?_; (case zqk1 => k_asm); (case zqk2 => k_asm); (case zqk3 => kun_tup); (case zqk4 => first | assumption | exact Rm.hd_deeper (by assumption) _); (case zqk5 => exact rfl); k_whole); intro _ _ _; (try k_sweep))
  k_with "assign Tuple" => (k_here; (with_reducible show wpAny _ _ (assign (Expr.Tuple _ _ _) _ (Value.ref _)) _ _ _); k_dflt (refine' unpackN_ ?zqk1 ?zqk2 ?zqk3 ?zqk4 ?zqk5 ?zqk6 ?_; (case zqk1 => k_asm); (case zqk2 => k_asm); (case zqk3 => first | kun_tup | exact tup_sees (by assumption) (by walk_at "v_sees")); (case zqk4 => first | assumption | exact Rm.hd_deeper (by assumption) _); (case zqk5 => exact rfl); (case zqk6 => exact rfl); k_whole); intro _ _ _; (try k_sweep))
  k_with "getAttr ref" => (k_here; (with_reducible show wpAny _ _ (getAttr (Value.ref _) (PySem.Str.ofString "way") _) _ _ _); k_dflt (refine' ent_way' ?zqF ?zqX ?zqS ?zqx ?zqv ?_; (case zqx => assumption); (case zqv => assumption); (case zqF => k_asm); (case zqX => k_asm); (case zqS => walk_at "v_sees")); intro _)
  k_with "getAttr ref" => (k_here; (with_reducible show wpAny _ _ (getAttr (Value.ref _) (PySem.Str.ofString "one") _) _ _ _); k_dflt (refine' ent_one' ?zqF ?zqX ?zqS ?zqx ?zqv ?_; (case zqx => assumption); (case zqv => assumption); (case zqF => k_asm); (case zqX => k_asm); (case zqS => walk_at "v_sees")); intro _)
  k_with "getAttr ref" => (k_here; (with_reducible show wpAny _ _ (getAttr (Value.ref _) (PySem.Str.ofString "two") _) _ _ _); k_dflt (refine' ent_two' ?zqF ?zqX ?zqS ?zqx ?zqv ?_; (case zqx => assumption); (case zqv => assumption); (case zqF => k_asm); (case zqX => k_asm); (case zqS => walk_at "v_sees")); intro _)
  k_with "call builtin:dict.get" => (k_here; (with_reducible show wpAny _ _ (call (Value.builtin _) [Value.ref _, Value.int _ _]) _ _ _); k_dflt (refine' edict_get ?zqS ?zqD ?zqv ?_; (case zqD => assumption); (case zqv => assumption); (case zqS => walk_at "v_sees")))
  k_with "rm_room" => first | exact Rm.less (by assumption) (by omega) (by omega) | exact Rm.deeper (Rm.less (by assumption) (by omega) (by omega)) _
  k_with "call ref" => (k_here; (with_reducible show wpAny _ _ (call (Value.ref 92) _) _ _ _); k_dflt (refine' fnum_use ?zqR ?zqX ?zqT ?zqF ?zqN ?zqS ?zqD ?zqC ?zqz ?zqo ?_; (case zqR => walk_at "rm_room"); (case zqX => k_asm); (case zqT => k_asm); (case zqF => k_asm); (case zqN => k_asm); (case zqD => assumption); (case zqS => walk_at "v_sees"); (case zqC => assumption); (case zqz => omega); (case zqo => assumption)); intro _ _ _ _ _ _ _ _ _; (try k_sweep))
  k_with "call ref" => (k_here; (with_reducible show wpAny _ _ (call (Value.ref 99) _) _ _ _); k_dflt (refine' chain_use ?zqR ?zqX ?zqT ?zqF ?zqN ?zqS ?zqD ?zqC ?zqz ?_; (case zqR => walk_at "rm_room"); (case zqX => k_asm); (case zqT => k_asm); (case zqF => k_asm); (case zqN => k_asm); (case zqD => assumption); (case zqS => walk_at "v_sees"); (case zqC => assumption); (case zqz => omega)); intro _ _ _ _ _ _ _ _ _; (try k_sweep))
  k_with "call ref" => (k_here; (with_reducible show wpAny _ _ (call (Value.ref 170) _) _ _ _); k_dflt (refine' ring_use ?zqR ?zqX ?zqT ?zqF ?zqN ?zqS ?zqD ?zqC ?zqz ?_; (case zqR => walk_at "rm_room"); (case zqX => k_asm); (case zqT => k_asm); (case zqF => k_asm); (case zqN => k_asm); (case zqD => assumption); (case zqS => walk_at "v_sees"); (case zqC => assumption); (case zqz => omega)); intro _ _ _ _ _ _ _ _ _; (try k_sweep))
  k_with "compareOp In int ref" => (k_here; k_dflt (refine' edict_in_b ?zqS ?zqD ?zqb ?_; (case zqD => assumption); (case zqb => assumption); (case zqS => walk_at "v_sees")))
  k_with "compareOp NotIn int ref" => (k_here; k_dflt (refine' edict_notin_b ?zqS ?zqD ?zqb ?_; (case zqD => assumption); (case zqb => assumption); (case zqS => walk_at "v_sees")))
  k_with "v_sees" => first | exact Sees.keep (by assumption) (Fr.keep (by k_asm)) | exact Sees.sub (News.sees (by k_asm)) (fun _ h => by repeat (first | exact h | refine List.mem_cons_of_mem _ ?_))
  k_with "call ref" => (k_here; (with_reducible show wpAny _ _ (call (Value.ref 144) _) _ _ _); k_dflt (refine' draw_use ?zqR ?zqX ?zqT ?zqF ?zqN ?zqP ?zqU1 ?zqU2 ?zqne ?zqlo ?zqhi ?_; (case zqR => walk_at "rm_room"); (case zqX => k_asm); (case zqT => k_asm); (case zqF => k_asm); (case zqN => k_asm); (case zqP => assumption); (case zqU1 => k_updF); (case zqU2 => (intro o9; (try dsimp only); k_updF)); (case zqne => assumption); (case zqlo => omega); (case zqhi => omega)); intro _ _ _ _ _ _ _ _ _ _ _; rename_i N'; (try dsimp only at N'); (try k_sweep); revert N'; intro _)
  k_with "call builtin:len" => (k_here; (with_reducible show wpAny _ _ (call (Value.builtin _) [Value.ref _]) _ _ _); k_dflt (refine' len_use ?zqS ?zqD ?zqn ?zqz ?_; (case zqD => assumption); (case zqn => assumption); (case zqz => omega); (case zqS => walk_at "v_sees")))
  k_with "call builtin:max" => (k_here; (with_reducible show wpAny _ _ (call (Value.builtin _) [Value.ref _]) _ _ _); k_dflt (refine' max_use ?zqhh ?zqF ?zqN ?zqS ?zqD ?zqn ?_; (case zqhh => first | assumption | exact Rm.hd_deeper (by assumption) _); (case zqD => assumption); (case zqF => k_asm); (case zqN => k_asm); (case zqn => omega); (case zqS => walk_at "v_sees")); intro _ _ _ _ _ _ _ _; (try k_sweep))
  k_with "call builtin:len" => (k_here; (with_reducible show wpAny _ _ (call (Value.builtin _) [Value.ref _]) _ _ _); k_dflt (refine' len_gen ?zqS ?zqm ?zqn ?zqz ?_; (case zqm => assumption); (case zqn => assumption); (case zqz => omega); (case zqS => walk_at "v_sees")))
  k_with "compareOp NotEq ref ref" => (refine Held.use ?_)
  k_with "compareOp Eq ref ref" => (refine Held.use ?_)
  k_with "subscriptTail Name Slice ref ref" => (refine Held.use ?_)
  trivial
/-- behind statement 15 only pen matters -/
inductive St16 (w : World) (g : Heap) (L : Addr) (s : Shared) : Prop
  | mk (c : C7) (pen cells : Addr) (o1 o2 : Obj) (tl : Led) (m : Str → Option Value) (ch gn nu sp fd en : Option Value) (x0 : Core g L s c pen cells o1 o2 tl m) (x1 : c.Holds ch gn nu sp fd en (some (.ref pen))) : St16 w g L s
theorem law13 {w : World} {A : Around} {E : Value → Shared → Prop} {s : Shared} {Q : Flow → Shared → Prop} {g : Heap} {L fa : Addr} {cdv : Value} {sc : Scope} {l : List Str} {mg mb : Str → Option Value}
    (hsc : IsScope w sc) (R : Rm A 8 300) (X : (hd.heap_1 w.params).In g) (T : TopRead qv l mg mb g) (S : St15 w g L s)
    (K : ∀ s', s'.os = s.os → s'.gens = s.gens → St16 w g L s' → wpAny (model PR w) A (execs ((lawBody w).drop 16) (envOfC (Str.ofString "law") sc L fa cdv)) Q E s') :
    wpAny (model PR w) A (execs ((lawBody w).drop 15) (envOfC (Str.ofString "law") sc L fa cdv)) Q E s := by
  refine stage_cut (n := 15) (k := 1) (X := fun bd sc => (∀ s', s'.os = s.os → s'.gens = s.gens → St16 w g L s' → wpAny (model PR w) A (execs ((lawBody w).drop 16) (envOfC (Str.ofString "law") sc L fa cdv)) Q E s') → wpAny (model PR w) A (execs bd (envOfC (Str.ofString "law") sc L fa cdv)) Q E s) hsc (by k_is) (fun K => ?_) K
  simp only [List.drop_succ_cons, List.drop_zero, List.take_succ_cons, List.take_zero, List.cons_append, List.nil_append, Nat.zero_add]
  generalize List.drop 16 (lawBody w) = rest at K ⊢
  have hhA := R.hd
  obtain ⟨⟨cc, cg, cn, cs, cf, ce, cp⟩, pen, cells, p1, p2, tl, u, sp, fd, en, ln, gd, ca, du, og, ns, line, gkvs, es, ⟨F, N, off, AP, P⟩, ⟨y1, y2, y3, y4, y5, y6, y7⟩, ⟨ys0, n0, hm0, hi0⟩, hln, hgm, hgd, hgi, HC, ⟨usd, nd, hmd, hid⟩⟩ := S
  obtain ⟨⟨w0, w1, w2, w3, w4, w5, w6, w7⟩, ⟨v1, v2, v3, v4, v5, v6, v7⟩⟩ := AP.nat
  dsimp only [C7.led] at N y1 y2 y3 y4 y5 y6 y7
  dsimp only [adr9] at off
  have D := HC.D
  have C := HC.chained
  obtain ⟨hel, hll⟩ := HC.len
  have hl40 : line.length < 40 := by omega
  have hz3 : es.length < 60 := by omega
  have hdl : usd.length = line.length + 1 := hid.length
  k_steps
  rename_i r1 ys1 n1 h1 tk1 F1 N1 l1 hi1
  refine ⟨ne_intsK (lst_led (vs := ys1) (n := n1) N1 List.mem_cons_self) hi1 (lst_led (a := du) (vs := usd) (n := nd) N1 (by first | walk_at "mm" | simp [hmd])) hid (by have := R.un; simp; omega) ?_⟩
  rw [decide_eq_true rfl]
  have N1 : News g L h1 ((L + 1 + 1 + 1 + 1 + 1 + 1 + 1, cc) :: (L + 1 + 1 + 1 + 1 + 1 + 1, cg) :: (L + 1 + 1 + 1 + 1 + 1, cn) :: (L + 1 + 1 + 1 + 1, cs) :: (L + 1 + 1 + 1, cf) :: (L + 1 + 1, ce) :: (L + 1, cp) :: (pen, p1) :: (cells, p2) :: tl) := fun p hp => N1 p (List.mem_cons_of_mem _ hp)
  clear l1
  k_steps
  refine ⟨kmk_slice_ints (s := { s with heap := h1, toks := _ }) F1 N1 (lst_led (a := du) (vs := usd) (n := nd) N1 (by first | walk_at "mm" | simp [hmd])) (.int _ _) .none hid (kmk_from hid (by decide)) rfl (fun D5 ws5 h5 F5 N5 l5 hI5 _ _ => ?_) (by with_unfolding_all rfl) (by intro _; with_unfolding_all rfl) (by rw [List.size_toArray, sizeLine_eq]; omega)⟩
  have hI5 : IntsAre ws5 line := hI5
  have hw5 := hI5.length
  k_steps
  have h5r := N5 _ List.mem_cons_self
  have h5c := N5 (L + 1 + 1 + 1 + 1 + 1 + 1 + 1, cc) (by first | walk_at "mm" | simp)
  have n5c := Nat.ne_of_lt (l5 (L + 1 + 1 + 1 + 1 + 1 + 1 + 1, cc) (by first | walk_at "mm" | simp))
  have st0 : Sees tl h5 := Sees.sub (News.sees N5) fun p hp => by first | walk_at "mm" | simp [hp]
  have n5t : ∀ p ∈ tl, p.1 ≠ D5 := fun p hp => Nat.ne_of_lt (l5 p (by first | walk_at "mm" | simp [hp]))
  refine list_comp (σ := Unit) (vs := ws5) (fun _ => []) [] (fun V _ i ys => IntsAre ys ((line.take i).map (gv gkvs))) () R.hd ⟨_, h5r.1, rfl, ⟨_, rfl⟩⟩ (fun q => nomatch q) (by omega) (fun _ => rfl) (fun p hp => nomatch hp) (fun V U c i ys h sub => h) (fun V c i ys h => by
      have := h.length
      simp at this
      omega) .nil ?turn ?done
  case turn =>
    rintro c i v ys U tl' s' C' h tk m g' rfl hC kp' hv hD sub off' hx F3 N3
    have st' : g.StaysIn g' := fun a o e => kp' a o (F5.keep a o e) (fun q => nomatch q) fun q => by subst q; rw [h5r.2.2] at e; cases e
    have X := X.keeps st'
    have T := T.keeps st'
    have Sg' : Sees tl g' := fun p hp => kp' _ _ (st0 p hp) (fun q => nomatch q) (n5t p hp)
    have hc' := kp' _ _ h5c.1 (fun q => nomatch q) n5c
    obtain ⟨k, t, hk, rfl⟩ := IntsAre.at hI5 hv
    have hil : i < line.length := (List.getElem?_eq_some_iff.mp hk).1
    obtain ⟨e, he, hw, ho, h2⟩ := C.at' (i + 1) (by omega)
    rw [List.getElem?_cons_succ, hk, Option.getD_some] at he
    rw [List.getElem?_cons_succ, hk, Option.getD_some, if_neg (by omega)] at h2
    have hE := D.ents _ (getE_mem he)
    simp only [List.nil_append] at N3
    refine wpAny_tests_nil ?_
    simp only [if_true]
    k_steps
    refine CTurnEnd.intro F3 N3 () [] (fun p hp => nomatch hp) (fun p hp => hp) (fun p hp => nomatch hp) ?_
    show IntsAre _ _
    rw [take_map_succ hk]
    exact hD.append (.cons _ _ .nil)
  case done =>
    rintro c U C' D' ys h tk s₂ hD hE' _ hB hC hCD hVC ⟨o, rfl⟩
    intro h' sb
    obtain ⟨e1, b1⟩ := comp_close hE' hB hC sb (fun p hp => by
      rcases List.mem_cons.mp hp with rfl | hp
      · exact hCD.symm
      · exact hVC p hp)
    obtain ⟨N3, nD⟩ := news_two (o := lst ys) F5 N5 e1.keep (b1 _ List.mem_cons_self).2 (b1 _ List.mem_cons_self).1
    have F3 := Fr.keeps F5 e1.keep
    dsimp only at N3
    rw [hw5, List.take_length] at hD
    clear hE' hB e1 b1
    k_steps
    refine ⟨kmk_slice_ints (s := { s with heap := h', toks := _ }) F3 N3 (lst_led (a := du) (vs := usd) (n := nd) N3 (by first | walk_at "mm" | simp [hmd])) (.int _ _) .none hid (kmk_from hid (by decide)) rfl (fun D6 ws6 h6 F6 N6 l6 hI6 _ _ => ?_) (by with_unfolding_all rfl) (by intro _; with_unfolding_all rfl) (by rw [List.size_toArray, sizeLine_eq]; omega)⟩
    have hI6 : IntsAre ws6 line := hI6
    have hw6 := hI6.length
    have N6 : News g L h6 ((D6, W.listOf ws6.toArray 0) :: (D', lst ys) :: (L + 1 + 1 + 1 + 1 + 1 + 1 + 1, cc) :: (L + 1 + 1 + 1 + 1 + 1 + 1, cg) :: (L + 1 + 1 + 1 + 1 + 1, cn) :: (L + 1 + 1 + 1 + 1, cs) :: (L + 1 + 1 + 1, cf) :: (L + 1 + 1, ce) :: (L + 1, cp) :: (pen, p1) :: (cells, p2) :: tl) := fun p hp => N6 p (by first | exact (show ∀ q ∈ _, q ∈ _ from by walk_at "sub") p hp | (simp only [List.mem_cons] at hp ⊢; rcases hp with h | h | h | h | h | h | h | h | h | h | h | h <;> simp [h]))
    clear F3 N3 F5 N5 N1 F1 st0 n5t
    k_steps
    have h6r := N6 _ List.mem_cons_self
    have h6c := N6 (L + 1 + 1 + 1 + 1 + 1 + 1, cg) (by first | walk_at "mm" | simp)
    have n6c := Nat.ne_of_lt (l6 (L + 1 + 1 + 1 + 1 + 1 + 1, cg) (by first | walk_at "mm" | simp))
    have h6g := N6 (gd, og) (by first | walk_at "mm" | simp [hgm])
    have n6g := Nat.ne_of_lt (l6 (gd, og) (by first | walk_at "mm" | simp [hgm]))
    refine list_comp (σ := Unit) (vs := ws6) (fun _ => []) [] (fun V _ i ys => IntsAre ys ((line.take i).map (gv gkvs))) () R.hd ⟨_, h6r.1, rfl, ⟨_, rfl⟩⟩ (fun q => nomatch q) (by omega) (fun _ => rfl) (fun p hp => nomatch hp) (fun V U c i ys h sub => h) (fun V c i ys h => by
      have := h.length
      simp at this
      omega) .nil ?turn2 ?done2
    case turn2 =>
      rintro c i v ys U tl' s' C' h tk m g' rfl hC kp' hv hD sub off' hx F3 N3
      have st' : g.StaysIn g' := fun a o e => kp' a o (F6.keep a o e) (fun q => nomatch q) fun q => by subst q; rw [h6r.2.2] at e; cases e
      have X := X.keeps st'
      have T := T.keeps st'
      have Sg' : Sees [(gd, og)] g' := fun p hp => by rw [List.mem_singleton.mp hp]; exact kp' _ _ h6g.1 (fun q => nomatch q) n6g
      have hc' := kp' _ _ h6c.1 (fun q => nomatch q) n6c
      obtain ⟨k, t, hk, rfl⟩ := IntsAre.at hI6 hv
      simp only [List.nil_append] at N3
      refine wpAny_tests_nil ?_
      simp only [if_true]
      k_steps
      refine CTurnEnd.intro F3 N3 () [] (fun p hp => nomatch hp) (fun p hp => hp) (fun p hp => nomatch hp) ?_
      show IntsAre _ _
      rw [take_map_succ hk]
      exact hD.append (.cons _ _ .nil)
    case done2 =>
      rintro c U2 C2 D2 ys2 h tk s₂ hD2 hE' _ hB hC hCD hVC ⟨o, rfl⟩
      intro h7 sb
      obtain ⟨e1, b1⟩ := comp_close hE' hB hC sb (fun p hp => by
        rcases List.mem_cons.mp hp with rfl | hp
        · exact hCD.symm
        · exact hVC p hp)
      obtain ⟨N7, nD7⟩ := news_two (o := lst ys2) F6 N6 e1.keep (b1 _ List.mem_cons_self).2 (b1 _ List.mem_cons_self).1
      have F7 := Fr.keeps F6 e1.keep
      dsimp only at N7
      rw [hw6, List.take_length] at hD2
      clear hE' hB e1 b1 F6 N6
      k_steps
      refine ⟨ne_intsK (lst_led (a := D') (vs := ys) (n := ys.length) N7 (by first | walk_at "mm" | simp)) hD (lst_led N7 List.mem_cons_self) hD2 (by have := R.un; simp; omega) ?_⟩
      rw [decide_eq_true rfl]
      have N7 : News g L h7 ((L + 1 + 1 + 1 + 1 + 1 + 1 + 1, cc) :: (L + 1 + 1 + 1 + 1 + 1 + 1, cg) :: (L + 1 + 1 + 1 + 1 + 1, cn) :: (L + 1 + 1 + 1 + 1, cs) :: (L + 1 + 1 + 1, cf) :: (L + 1 + 1, ce) :: (L + 1, cp) :: (pen, p1) :: (cells, p2) :: tl) := fun p hp => N7 p (List.mem_cons_of_mem _ (List.mem_cons_of_mem _ (List.mem_cons_of_mem _ hp)))
      obtain ⟨nE, hnE⟩ : ∃ n, es.length = n := ⟨_, rfl⟩
      obtain ⟨nL, hnL⟩ : ∃ n, usd.length = n := ⟨_, rfl⟩
      have hEL : nE = nL := by omega
      k_steps
      · rename_i q
        exact absurd (by omega) q
      · exact K _ rfl rfl ⟨⟨cc, cg, cn, cs, cf, ce, cp⟩, pen, cells, p1, p2, tl, _, _, _, _, _, _, _, ⟨F7, N7, off, AP, P⟩, ⟨y1, y2, y3, y4, y5, y6, y7⟩⟩
end S_OLaw13
section S_OLaw14
theorem reg62 : True := by
  k_with_none
  k_with "mm" => ((repeat' (first | (with_reducible exact List.mem_cons_self) | (with_reducible assumption) | (with_reducible refine List.mem_cons_of_mem _ ?_))); done)
  k_with "sub" => ((repeat' (first | (with_reducible exact sub_nil _) | (with_reducible refine sub_cons ?_ ?_) | (with_reducible exact List.mem_cons_self) | (with_reducible refine List.mem_cons_of_mem _ ?_) | (with_reducible assumption) | (intro p9 hp9))); done)
  k_with "v_sees" => first | exact Sees.keep (by assumption) (Fr.keep (by k_asm)) | exact Sees.sub (News.sees (by k_asm)) (fun _ h => by first | exact h | (refine List.mem_cons_of_mem _ ?_; exact h) | (refine List.mem_cons_of_mem _ (List.mem_cons_of_mem _ ?_); exact h))
  k_with "eval Name" => (k_here; (with_reducible show wpAny _ _ (eval (Expr.Name _ _) (compEnvC _ _ _ _)) _ _ _); k_dflt (first | (refine' nameB_L ?zqF ?zqv ?_ ?zqa ?zqb; (case zqF => k_asm); (case zqv => assumption); (case zqa => rfl); (case zqb => rfl)) | (refine' nameB_C ?zqF ?zqc ?zqo ?zqd ?_ ?zqa ?zqb; (case zqF => k_asm); (case zqa => rfl); (case zqb => rfl); (case zqc => rfl); (case zqo => assumption); (case zqd => assumption)) | (refine' nameB_G ?zqF ?zqX ?zqT ?zqe ?_ ?zqg ?zqa ?zqb; (case zqF => k_asm); (case zqX => k_asm); (case zqT => k_asm); (case zqg => rfl); (case zqa => rfl); (case zqb => rfl); (case zqe => k_is)) | (refine' nameB_B ?zqF ?zqX ?zqT ?zqe ?zqv ?zqn ?_ ?zqg ?zqh ?zqa ?zqb; (case zqF => k_asm); (case zqX => k_asm); (case zqT => k_asm); (case zqg => rfl); (case zqh => rfl); (case zqa => rfl); (case zqb => rfl); (case zqe => k_is); (case zqv => boot_fast); (case zqn => decide))))
  k_with "getAttr ref" => (k_here; (with_reducible show wpAny _ _ (getAttr (Value.ref _) (PySem.Str.ofString "way") _) _ _ _); k_dflt (refine' ent_way ?zqF ?zqX ?zqS ?zqx ?_; (case zqx => assumption); (case zqF => k_asm); (case zqX => k_asm); (case zqS => walk_at "v_sees")); intro _)
  k_with "getAttr ref" => (k_here; (with_reducible show wpAny _ _ (getAttr (Value.ref _) (PySem.Str.ofString "one") _) _ _ _); k_dflt (refine' ent_one ?zqF ?zqX ?zqS ?zqx ?_; (case zqx => assumption); (case zqF => k_asm); (case zqX => k_asm); (case zqS => walk_at "v_sees")); intro _)
  k_with "getAttr ref" => (k_here; (with_reducible show wpAny _ _ (getAttr (Value.ref _) (PySem.Str.ofString "two") _) _ _ _); k_dflt (refine' ent_two ?zqF ?zqX ?zqS ?zqx ?_; (case zqx => assumption); (case zqF => k_asm); (case zqX => k_asm); (case zqS => walk_at "v_sees")); intro _)
  k_with "getMethod ref" => (k_here; (with_reducible show wpAny _ _ (getMethod (Value.ref _) (PySem.Str.ofString "told") _) _ _ _); k_dflt (refine' ent_told ?zqF ?zqX ?zqS ?zqx ?_; (case zqx => assumption); (case zqF => k_asm); (case zqX => k_asm); (case zqS => walk_at "v_sees")))
  k_with "call builtin:sorted" => (k_here; (with_reducible show wpAny _ _ (call (Value.builtin _) [Value.ref _]) _ _ _); k_dflt (refine' sorted_edict ?zqhh ?zqS ?zqD ?zqF ?zqN ?zqz ?_; (case zqhh => first | assumption | exact Rm.hd_deeper (by assumption) _); (case zqD => assumption); (case zqF => k_asm); (case zqN => k_asm); (case zqS => walk_at "v_sees"); (case zqz => omega)); intro _ _ _ _ _ _ _ _ _ _ _ _; (try k_sweep))
  k_with "subscriptTail" => (k_here; (with_reducible show wpAny _ _ (subscriptTail _ _ (Value.ref _) (Value.int _ _)) _ _ _); k_dflt (refine' edict_item ?zqS ?zqD ?zqv ?_; (case zqD => assumption); (case zqv => assumption); (case zqS => walk_at "v_sees")))
  k_with "call ref" => (k_here; k_dflt (refine' told_use ?zqR ?zqX ?zqT ?zqF ?zqN ?zqS ?zqEn ?_; (case zqEn => assumption); (case zqR => first | exact Rm.less (by assumption) (by omega) (by omega) | exact Rm.deeper (Rm.less (by assumption) (by omega) (by omega)) _); (case zqX => k_asm); (case zqT => k_asm); (case zqF => k_asm); (case zqN => k_asm); (case zqS => walk_at "v_sees")); intro _ _ _ _ _ _ _ _ _; (try k_sweep))
  k_with "eval ListComp" => (k_here; k_dflt (refine' comp_raw ?zqcl ?zqce ?zqk ?zqn ?zqx ?_; (case zqcl => exact rfl); (case zqce => decide); (case zqk => rfl); (case zqn => decide); (case zqx => rfl)))
  k_with "exec For Name Call cons nil" => (k_here; k_dflt (refine for_raw (by rfl) (by rfl) ?_))
  k_with "exec For Name Name cons nil" => (k_here; k_dflt (refine for_raw (by rfl) (by rfl) ?_))
  k_with "call ref" => (k_here; k_dflt (refine' entry_use ?zqR ?zqX ?zqT ?zqF ?zqN ?_; (case zqR => exact Rm.deeper (Rm.less (by assumption) (by omega) (by omega)) _); (case zqX => k_asm); (case zqT => k_asm); (case zqF => k_asm); (case zqN => k_asm)); intro _ _ _ _ _ _ _ _ _ _ _ _ _ _ _ _ _; rename_i l1 l2 gw' g1' g2' gt'; (try k_lt l1); (try k_lt2 l2); (try k_sweep); revert l1 l2 gw' g1' g2' gt'; intro _ _ _ _ _ _)
  k_with "setItem ref int ref" => (k_here; k_dflt (refine' dict_set_K ?zqF ?zqN ?zqU ?zqhd ?zqhz ?_; (case zqF => k_asm); (case zqN => k_asm); (case zqU => k_updF); (case zqhd => assumption); (case zqhz => assumption)); intro _ _ _ _ _; rename_i N' hd'; (try dsimp only at N'); (try k_sweep); revert N' hd'; intro _ _)
  k_with "getMethod ref" => (k_here; (with_reducible show wpAny _ _ (getMethod (Value.ref _) (PySem.Str.ofString "get") _) _ _ _); k_dflt (refine' get_method ?zqS ?zqD ?_; (case zqD => first | assumption | exact EDict.dict (by assumption)); (case zqS => walk_at "v_sees")))
  k_with "call builtin:dict.get" => (k_here; (with_reducible show wpAny _ _ (call (Value.builtin _) [Value.ref _, Value.int _ _, Value.int _ _]) _ _ _); k_dflt (refine' get0_raw ?zqS ?zqD ?zqhg ?_; (case zqD => assumption); (case zqhg => assumption); (case zqS => walk_at "v_sees")); intro _)
  k_with "exec Assign cons ListComp" => (k_here; k_dflt (refine' comp_assign ?zqsw ?zqcl ?zqce ?zqk ?zqn ?zqx ?zqy ?zqp ?_; (case zqsw => rfl); (case zqcl => exact rfl); (case zqce => decide); (case zqk => rfl); (case zqn => decide); (case zqx => rfl); (case zqy => rfl); (case zqp => rfl)))
  k_with "compareOp NotIn int ref" => (k_here; k_dflt (refine' edict_notin ?zqS ?zqD ?_; (case zqD => assumption); (case zqS => walk_at "v_sees")))
  k_with "compareOp In int ref" => (k_here; k_dflt (refine' edict_in ?zqS ?zqD ?_; (case zqD => assumption); (case zqS => walk_at "v_sees")))
  k_with "unpackItems ref" => (k_here; k_dflt (refine' unpackItemsN_ ?zqk1 ?zqk2 ?zqk3 ?zqk4 ?zqk5 ?_; (case zqk1 => k_asm); (case zqk2 => k_asm); (case zqk3 => kun_tup); (case zqk4 => first | assumption | exact Rm.hd_deeper (by assumption) _); (case zqk5 => exact rfl); k_whole); intro _ _ _; (try k_sweep))
  k_with "assign Tuple" => (k_here; (with_reducible show wpAny _ _ (assign (Expr.Tuple _ _ _) _ (Value.ref _)) _ _ _); k_dflt (refine' unpackN_ ?zqk1 ?zqk2 ?zqk3 ?zqk4 ?zqk5 ?zqk6 ?_; (case zqk1 => k_asm); (case zqk2 => k_asm); (case zqk3 => first | kun_tup | exact tup_sees (by assumption) (by walk_at "v_sees")); (case zqk4 => first | assumption | exact Rm.hd_deeper (by assumption) _); (case zqk5 => exact rfl); (case zqk6 => exact rfl); k_whole); intro _ _ _; (try k_sweep))
  k_with "getAttr ref" => (k_here; (with_reducible show wpAny _ _ (getAttr (Value.ref _) (PySem.Str.ofString "way") _) _ _ _); k_dflt (refine' ent_way' ?zqF ?zqX ?zqS ?zqx ?zqv ?_; (case zqx => assumption); (case zqv => assumption); (case zqF => k_asm); (case zqX => k_asm); (case zqS => walk_at "v_sees")); intro _)
  k_with "getAttr ref" => (k_here; (with_reducible show wpAny _ _ (getAttr (Value.ref _) (PySem.Str.ofString "one") _) _ _ _); k_dflt (refine' ent_one' ?zqF ?zqX ?zqS ?zqx ?zqv ?_; (case zqx => assumption); (case zqv => assumption); (case zqF => k_asm); (case zqX => k_asm); (case zqS => walk_at "v_sees")); intro _)
  k_with "getAttr ref" => (k_here; (with_reducible show wpAny _ _ (getAttr (Value.ref _) (PySem.Str.ofString "two") _) _ _ _); k_dflt (refine' ent_two' ?zqF ?zqX ?zqS ?zqx ?zqv ?_; (case zqx => assumption); (case zqv => assumption); (case zqF => k_asm); (case zqX => k_asm); (case zqS => walk_at "v_sees")); intro _)
  k_with "call builtin:dict.get" => (k_here; (with_reducible show wpAny _ _ (call (Value.builtin _) [Value.ref _, Value.int _ _]) _ _ _); k_dflt (refine' edict_get ?zqS ?zqD ?zqv ?_; (case zqD => assumption); (case zqv => assumption); (case zqS => walk_at "v_sees")))
  k_with "rm_room" => first | exact Rm.less (by assumption) (by omega) (by omega) | exact Rm.deeper (Rm.less (by assumption) (by omega) (by omega)) _
  k_with "call ref" => (k_here; (with_reducible show wpAny _ _ (call (Value.ref 92) _) _ _ _); k_dflt (refine' fnum_use ?zqR ?zqX ?zqT ?zqF ?zqN ?zqS ?zqD ?zqC ?zqz ?zqo ?_; (case zqR => walk_at "rm_room"); (case zqX => k_asm); (case zqT => k_asm); (case zqF => k_asm); (case zqN => k_asm); (case zqD => assumption); (case zqS => walk_at "v_sees"); (case zqC => assumption); (case zqz => omega); (case zqo => assumption)); intro _ _ _ _ _ _ _ _ _; (try k_sweep))
  k_with "call ref" => (k_here; (with_reducible show wpAny _ _ (call (Value.ref 99) _) _ _ _); k_dflt (refine' chain_use ?zqR ?zqX ?zqT ?zqF ?zqN ?zqS ?zqD ?zqC ?zqz ?_; (case zqR => walk_at "rm_room"); (case zqX => k_asm); (case zqT => k_asm); (case zqF => k_asm); (case zqN => k_asm); (case zqD => assumption); (case zqS => walk_at "v_sees"); (case zqC => assumption); (case zqz => omega)); intro _ _ _ _ _ _ _ _ _; (try k_sweep))
  k_with "call ref" => (k_here; (with_reducible show wpAny _ _ (call (Value.ref 170) _) _ _ _); k_dflt (refine' ring_use ?zqR ?zqX ?zqT ?zqF ?zqN ?zqS ?zqD ?zqC ?zqz ?_; (case zqR => walk_at "rm_room"); (case zqX => k_asm); (case zqT => k_asm); (case zqF => k_asm); (case zqN => k_asm); (case zqD => assumption); (case zqS => walk_at "v_sees"); (case zqC => assumption); (case zqz => omega)); intro _ _ _ _ _ _ _ _ _; (try k_sweep))
  k_with "compareOp In int ref" => (k_here; k_dflt (refine' edict_in_b ?zqS ?zqD ?zqb ?_; (case zqD => assumption); (case zqb => assumption); (case zqS => walk_at "v_sees")))
  k_with "compareOp NotIn int ref" => (k_here; k_dflt (refine' edict_notin_b ?zqS ?zqD ?zqb ?_; (case zqD => assumption); (case zqb => assumption); (case zqS => walk_at "v_sees")))
  k_with "v_sees" => first | exact Sees.keep (by assumption) (Fr.keep (by k_asm)) | exact Sees.sub (News.sees (by k_asm)) (fun _ h => by repeat (first | exact h | refine List.mem_cons_of_mem _ ?_))
  k_with "call ref" => (k_here; (with_reducible show wpAny _ _ (call (Value.ref 144) _) _ _ _); k_dflt (refine' draw_use ?zqR ?zqX ?zqT ?zqF ?zqN ?zqP ?zqU1 ?zqU2 ?zqne ?zqlo ?zqhi ?_; (case zqR => walk_at "rm_room"); (case zqX => k_asm); (case zqT => k_asm); (case zqF => k_asm); (case zqN => k_asm); (case zqP => assumption); (case zqU1 => k_updF); (case zqU2 => (intro o9; (try dsimp only); k_updF)); (case zqne => assumption); (case zqlo => omega); (case zqhi => omega)); intro _ _ _ _ _ _ _ _ _ _ _; rename_i N'; (try dsimp only at N'); (try k_sweep); revert N'; intro _)
  k_with "call builtin:len" => (k_here; (with_reducible show wpAny _ _ (call (Value.builtin _) [Value.ref _]) _ _ _); k_dflt (refine' len_gen ?zqS ?zqm ?zqn ?zqz ?_; (case zqm => assumption); (case zqn => assumption); (case zqz => omega); (case zqS => walk_at "v_sees")))
  trivial
/-- the groups as they are drawn -/
def grpOf (j k : Nat) : List Int := (List.range k).map fun (p : Nat) => 10 * (j : Int) + (p : Int)
def IsGrps (gs : List (List Int)) : Prop := gs.length ≤ 3 ∧ ∀ (j : Nat) (grp : List Int), gs[j]? = some grp → ∃ k, k ≤ 3 ∧ grp = grpOf j k
inductive St17 (w : World) (g : Heap) (L : Addr) (s : Shared) : Prop
  | mk (c : C7) (pen cells : Addr) (o1 o2 : Obj) (tl : Led) (u : Str → Option Value) (ch gn nu sp fd en : Option Value) (gl : Addr) (gs : List (List Int)) (x0 : Core g L s c pen cells o1 o2 tl (fun z => if z = Str.ofString "groups" then some (.ref gl) else u z)) (x1 : c.Holds ch gn nu sp fd en (some (.ref pen))) (x2 : GrpV tl gl gs) (x3 : IsGrps gs) : St17 w g L s
/-- rows of lists over a ledger -/
def RowsV (V : Led) (ys : List Value) (gs : List (List Int)) : Prop := ys.length = gs.length ∧ ∀ (i : Nat) (grp : List Int), gs[i]? = some grp → ∃ a us k, ys[i]? = some (.ref a) ∧ (a, W.listOf (List.toArray us) k) ∈ V ∧ IntsAre us grp
theorem RowsV.mono {V U : Led} {ys : List Value} {gs : List (List Int)} (x : RowsV V ys gs) (s : ∀ p ∈ V, p ∈ U) : RowsV U ys gs := ⟨x.1, fun i grp h => let ⟨a, us, k, h1, h2, h3⟩ := x.2 i grp h; ⟨a, us, k, h1, s _ h2, h3⟩⟩
theorem RowsV.snoc {V : Led} {ys us : List Value} {gs : List (List Int)} {grp : List Int} {a : Addr} {k : Nat} (x : RowsV V ys gs) (h : (a, W.listOf (List.toArray us) k) ∈ V) (hi : IntsAre us grp) : RowsV V (ys ++ [.ref a]) (gs ++ [grp]) := by
  refine ⟨by simp [x.1], fun j p hj => ?_⟩
  rcases Nat.lt_or_ge j gs.length with q | q
  · rw [List.getElem?_append_left q] at hj
    rw [List.getElem?_append_left (by rw [x.1]; exact q)]
    exact x.2 j p hj
  · rw [List.getElem?_append_right q] at hj
    have hj0 : j - gs.length = 0 := by
      have := (List.getElem?_eq_some_iff.mp hj).1
      simp at this
      omega
    rw [hj0] at hj
    simp only [List.getElem?_cons_zero, Option.some.injEq] at hj
    subst hj
    rw [List.getElem?_append_right (by rw [x.1]; exact q), x.1, hj0]
    exact ⟨a, us, k, rfl, h, hi⟩
theorem law14 {w : World} {A : Around} {E : Value → Shared → Prop} {s : Shared} {Q : Flow → Shared → Prop} {g : Heap} {L fa : Addr} {cdv : Value} {sc : Scope} {l : List Str} {mg mb : Str → Option Value}
    (hsc : IsScope w sc) (R : Rm A 8 300) (X : (hd.heap_1 w.params).In g) (T : TopRead qv l mg mb g) (S : St16 w g L s)
    (K : ∀ s', s'.os = s.os → s'.gens = s.gens → St17 w g L s' → wpAny (model PR w) A (execs ((lawBody w).drop 17) (envOfC (Str.ofString "law") sc L fa cdv)) Q E s') :
    wpAny (model PR w) A (execs ((lawBody w).drop 16) (envOfC (Str.ofString "law") sc L fa cdv)) Q E s := by
  refine stage_cut (n := 16) (k := 1) (X := fun bd sc => (∀ s', s'.os = s.os → s'.gens = s.gens → St17 w g L s' → wpAny (model PR w) A (execs ((lawBody w).drop 17) (envOfC (Str.ofString "law") sc L fa cdv)) Q E s') → wpAny (model PR w) A (execs bd (envOfC (Str.ofString "law") sc L fa cdv)) Q E s) hsc (by k_is) (fun K => ?_) K
  simp only [List.drop_succ_cons, List.drop_zero, List.take_succ_cons, List.take_zero, List.cons_append, List.nil_append, Nat.zero_add]
  generalize List.drop 17 (lawBody w) = rest at K ⊢
  have hhA := R.hd
  obtain ⟨⟨cc, cg, cn, cs, cf, ce, cp⟩, pen, cells, o1, o2, tl, m0, zch, zgn, znu, sp, fd, en, ⟨F, N, off, AP, P⟩, ⟨y1, y2, y3, y4, y5, y6, y7⟩⟩ := S
  obtain ⟨⟨w0, w1, w2, w3, w4, w5, w6, w7⟩, ⟨v1, v2, v3, v4, v5, v6, v7⟩⟩ := AP.nat
  dsimp only [C7.led] at N y1 y2 y3 y4 y5 y6 y7
  dsimp only [adr9] at off
  refine wpAny_execs_cons ?_
  refine' comp_as ?sw ?cl ?k ?n ?y ?p ?_
  case sw => rfl
  case cl => exact rfl
  case k => rfl
  case n => decide
  case y => rfl
  case p => rfl
  k_steps
  rename_i r tr h1 tk1 p1 p2 hr0 hr1 P1 _ _ h2 tk2 ta tb tc hr F2 N2 _
  have h2c := N2 (L + 1, cp) (by first | walk_at "mm" | simp)
  have np := N2 (pen, p1) (by first | walk_at "mm" | simp)
  have nc := N2 (cells, p2) (by first | walk_at "mm" | simp)
  have hlp : pen < h2.objs.size := Heap.lt_size np.1
  have hlc : cells < h2.objs.size := Heap.lt_size nc.1
  have hls : L < h2.objs.size := F2.ns.lt
  have hgs := F2.above
  refine wpAny_pyIter_range hr (small_one (by omega) (by omega) (by omega) (by omega)) ?_
  generalize hH3 : h2.push { cls := .type "range_iterator", data := .fields #[rawInt 0, rawInt (Builtin.Range.rangeSize 0 r 1), rawInt 1] } = h3
  have hz3 : h3.objs.size = h2.objs.size + 1 := by rw [← hH3, Heap.size_push]
  have hk3 : ∀ a o, h2.get? a = some o → h3.get? a = some o := fun a o e => by rw [← hH3]; exact Heap.get?_push_of_some _ e
  have hI3 : h3.get? h2.objs.size = some { cls := .type "range_iterator", data := .fields #[rawInt 0, rawInt (Builtin.Range.rangeSize 0 r 1), rawInt 1] } := by rw [← hH3]; exact Heap.get?_push_size _ rfl
  have st1 : ∀ a o, h2.get? a = some o → a ∉ [pen, cells] → (hideAll h3 [h2.objs.size, pen, cells]).get? a = some o := fun a o e hn => hideAll_get _ (hk3 a o e) fun q => by
    rcases List.mem_cons.mp q with rfl | q
    · exact absurd (Heap.lt_size e) (Nat.lt_irrefl _)
    · exact hn q
  have gnI : (hideAll h3 [h2.objs.size, pen, cells]).get? h2.objs.size = none := hideAll_none _ (by first | walk_at "mm" | simp)
  have gnp : (hideAll h3 [h2.objs.size, pen, cells]).get? pen = none := hideAll_none _ (by first | walk_at "mm" | simp)
  have gnc : (hideAll h3 [h2.objs.size, pen, cells]).get? cells = none := hideAll_none _ (by first | walk_at "mm" | simp)
  refine enter_cell (x := Str.ofString "row") (g2 := hideAll h3 [h2.objs.size, pen, cells]) (led2 := [(pen, p1), (cells, p2)]) (fun n => by rfl) (fun h => by rfl) rfl (fun a o e => (hide_sub e).1) (Nat.le_of_eq (hideAll_size _ _)) (fun p hp => by
    simp only [List.mem_cons, List.not_mem_nil, or_false] at hp
    rcases hp with rfl | rfl
    · exact ⟨hk3 _ _ np.1, gnp⟩
    · exact ⟨hk3 _ _ nc.1, gnc⟩) fun D C cr h4 tk4 m4 hD4 hC4 hr4 hk4 F4 N4 => ?_
  have hD4 : h3.objs.size ≤ D := hD4
  have stg : g.StaysIn (hideAll h3 [h2.objs.size, pen, cells]) := fun a o e => st1 a o (F2.keep a o e) fun q => by
    simp only [List.mem_cons, List.not_mem_nil, or_false] at q
    rcases q with rfl | rfl
    · rw [np.2.2] at e; cases e
    · rw [nc.2.2] at e; cases e
  have X2 := X.keeps stg
  have T2 := T.keeps stg
  have hc2 := st1 _ _ h2c.1 (fun q => by
    simp only [List.mem_cons, List.not_mem_nil, or_false] at q
    rcases q with q | q
    · exact w1 q.symm
    · exact v1 q.symm)
  have hsz2 : (hideAll h3 [h2.objs.size, pen, cells]).objs.size = h3.objs.size := hideAll_size _ _
  have gncr : (hideAll h3 [h2.objs.size, pen, cells]).get? cr = none := Heap.get?_none_of_le (by rw [hsz2]; exact Nat.le_of_lt (Nat.lt_of_le_of_lt hD4 (Nat.lt_trans hC4 hr4)))
  have hI4 := hk4 _ _ hI3
  generalize hg2 : hideAll h3 [h2.objs.size, pen, cells] = g2 at *
  have hI : (h2.objs.size : Nat) < D := by rw [hz3] at hD4; exact hD4
  have hpD : (pen : Nat) < D := Nat.lt_trans hlp hI
  have hcD : (cells : Nat) < D := Nat.lt_trans hlc hI
  have hDr : (D : Nat) < cr := Nat.lt_trans hC4 hr4
  refine cellA (cr := cr) (σ := (Obj × Obj) × List Value) (fun c => [(D, lst c.2), (pen, c.1.1), (cells, c.1.2)]) [D, pen, cells] (fun V c i => PenO cells c.1.1 c.1.2 ∧ ∃ gs, RowsV V c.2 gs ∧ gs.length = i ∧ ∀ (j : Nat) (grp : List Int), gs[j]? = some grp → ∃ k, k ≤ 3 ∧ grp = grpOf j k) ((p1, p2), []) (LCg.range_walks hhA 0 (r - 0).toNat) (fun q => Nat.ne_of_gt (Nat.lt_trans hI hDr) (List.mem_singleton.mp q)) (Nat.ne_of_gt hr4) (fun b hb => ?_) (fun b hb => ?_) (fun i h st b hb => ?_) ?_ (v₀ := none) ⟨_, (N4 (cr, { cls := .type "cell", data := .cell none }) (by first | walk_at "mm" | simp)).1, rfl⟩ (fun _ => rfl) F4 N4 (fun p hp => ?_) (fun V U c i ⟨h1, gs, h2, h3⟩ sub => ⟨h1, gs, h2.mono sub, h3⟩) ⟨P1, [], ⟨rfl, fun j grp h => by simp at h⟩, rfl, fun j grp h => by simp at h⟩ (fun c i v oc V tl2 h5 tk5 m5 hi hP hoc hod hF sub off5 F5 N5 => ?_) fun c V h5 tk5 m5 hF F5 N5 off5 => ?_
  · simp only [List.mem_cons, List.not_mem_nil, or_false] at hb ⊢
    rcases hb with rfl | rfl
    · exact ⟨fun q => by
        rcases q with q | q | q
        · exact Nat.ne_of_gt hDr q
        · exact Nat.ne_of_gt (Nat.lt_trans hpD hDr) q
        · exact Nat.ne_of_gt (Nat.lt_trans hcD hDr) q, Nat.ne_of_gt hr4⟩
    · exact ⟨fun q => by
        rcases q with q | q | q
        · exact Nat.ne_of_lt hI q
        · exact Nat.ne_of_gt hlp q
        · exact Nat.ne_of_gt hlc q, Nat.ne_of_lt (Nat.lt_trans hI hC4)⟩
  · simp only [List.mem_cons, List.not_mem_nil, or_false] at hb
    rcases hb with rfl | rfl
    · exact gncr
    · exact gnI
  · rw [List.mem_singleton.mp hb]; exact ⟨_, st⟩
  · have q := hI4
    rw [rangeSize_nat 0 r] at q
    show IsRangeIter _ _ _ _ _
    simpa using q
  · simp only [List.mem_cons, List.not_mem_nil, or_false] at hp ⊢
    rcases hp with h | h | h <;> simp [h]
  · obtain ⟨t, rfl⟩ := hP
    obtain ⟨PP, gs, hrows, hgl, hgs⟩ := hF
    obtain ⟨⟨a1, b1⟩, ys⟩ := c
    change Fr g2 C h5 m5 at F5
    change News g2 C h5 ((D, lst ys) :: (pen, a1) :: (cells, b1) :: tl2) at N5
    have PP : PenO cells a1 b1 := PP
    have hrows : RowsV V ys gs := hrows
    have nDp : @Ne Nat D pen := Nat.ne_of_gt hpD
    have nDc : @Ne Nat D cells := Nat.ne_of_gt hcD
    clear F4 N4 hI4
    unfold emitA tests
    refine wpAny_tests_nil ?_
    simp only [if_true]
    k_steps
    rename_i r5 t5 h6 tk6 a6 b6 lo6 hi6 P6 _ _ h7 tk7 tka tkb tkc hr7 F7 N7 _
    have hcr7 := N7 (cr, oc) (by first | walk_at "mm" | simp [hoc])
    have hgl5 : gs.length ≤ 100 := by omega
    refine range_comp (σ := Unit) (fun _ => []) [] (fun V _ j ys => IntsAre ys (grpOf i j)) () hhA hr7 (by omega) (by omega) (by omega) (by omega) (fun _ => rfl) (fun p hp => nomatch hp) (fun V U c i ys h sub => h) (fun V c i ys h => by
      have := h.length
      simp [grpOf] at this
      omega) .nil ?turn ?done
    case turn =>
      rintro c j t9 ys9 U tl' s' C' h tk m g' rfl hC kp' hj hD sub' off' hx F3 N3
      have hc' := kp' _ _ hcr7.1 (fun q => nomatch q)
      simp only [List.nil_append] at N3
      refine wpAny_tests_nil ?_
      simp only [if_true]
      k_steps
      refine CTurnEnd.intro F3 N3 () [] (fun p hp => nomatch hp) (fun p hp => hp) (fun p hp => nomatch hp) ?_
      show IntsAre _ _
      unfold grpOf
      rw [List.range_succ, List.map_append]
      refine IntsAre.append hD ?_
      have z := IntsAre.cons (10 * (0 + (i : Int)) + (0 + (j : Int))) (tk + 1 + 1) .nil
      simpa using z
    case done =>
      rintro c U C' D' ysn h tk s₂ hD hE' _ hB hC hCD hVC ⟨o, rfl⟩
      intro h' sb
      obtain ⟨e1, b1'⟩ := comp_close hE' hB hC sb (fun p hp => by
        rcases List.mem_cons.mp hp with rfl | hp
        · exact hCD.symm
        · exact hVC p hp)
      obtain ⟨N8, nD⟩ := news_two (o := lst ysn) F7 N7 e1.keep (b1' _ List.mem_cons_self).2 (b1' _ List.mem_cons_self).1
      have F8 := Fr.keeps F7 e1.keep
      dsimp only at N8
      have N8 : News g2 C h' ((D, lst ys) :: (D', lst ysn) :: (pen, a6) :: (cells, b6) :: tl2) := fun p hp => N8 p (by first | exact (show ∀ q ∈ _, q ∈ _ from by walk_at "sub") p hp | (simp only [List.mem_cons] at hp ⊢; rcases hp with h | h | h | h | h <;> simp [h]))
      clear hE' hB e1 b1' F7 N7
      k_steps
      have nD' : ∀ p ∈ ((D, lst ys) :: (pen, a6) :: (cells, b6) :: tl2 : Led), p.1 ≠ D' := nD
      refine append_K F8 N8 (fun p hp => ?_) (by rw [hrows.1]; exact Nat.le_trans hgl5 (by omega)) fun h9 v9 F9 N9 => ?_
      · simp only [List.mem_cons] at hp
        rcases hp with rfl | rfl | rfl | hp
        · exact (nD' (D, lst ys) (by first | walk_at "mm" | simp)).symm
        · exact nDp.symm
        · exact nDc.symm
        · exact fun q => off5 p hp D (by first | walk_at "mm" | simp) q
      · refine TurnEnd.intro F9 N9 ((a6, b6), ys ++ [.ref D']) ((D', lst ysn) :: V) (fun p hp => ?_) (fun p hp => by first | walk_at "mm" | simp [hp]) (fun p hp => ?_) ⟨P6, gs ++ [grpOf i (r5 - 0).toNat], (hrows.mono fun p hp => List.mem_cons_of_mem _ hp).snoc List.mem_cons_self hD, by simp [hgl], fun j grp hj => ?_⟩ trivial
        · simp only [List.mem_cons, List.not_mem_nil, or_false] at hp ⊢
          rcases hp with h | h | h <;> simp [h]
        · rcases List.mem_cons.mp hp with rfl | hp
          · refine ⟨by simp, .inr fun q hq => nD' q (by first | walk_at "mm" | simp [hq]), fun q => ?_⟩
            simp only [List.mem_cons, List.not_mem_nil, or_false] at q
            rcases q with q | q | q
            · exact nD' (D, lst ys) (by first | walk_at "mm" | simp) q.symm
            · exact nD' (pen, a6) (by first | walk_at "mm" | simp) q.symm
            · exact nD' (cells, b6) (by first | walk_at "mm" | simp) q.symm
          · exact ⟨by simp [sub p hp], .inl hp, fun q => off5 p (sub p hp) _ q rfl⟩
        · rcases Nat.lt_or_ge j gs.length with q | q
          · rw [List.getElem?_append_left q] at hj
            exact hgs j grp hj
          · rw [List.getElem?_append_right q] at hj
            have hj0 : j - gs.length = 0 := by
              have := (List.getElem?_eq_some_iff.mp hj).1
              simp at this
              omega
            rw [hj0] at hj
            simp only [List.getElem?_cons_zero, Option.some.injEq] at hj
            have hji : j = i := by omega
            rw [hji]
            exact ⟨_, by omega, hj.symm⟩
  · obtain ⟨PP, gs, hrows, hgl, hgs⟩ := hF
    obtain ⟨⟨a1, b1⟩, ys⟩ := c
    change Fr g2 C h5 m5 at F5
    change News g2 C h5 ((D, lst ys) :: (pen, a1) :: (cells, b1) :: V) at N5
    have PP : PenO cells a1 b1 := PP
    have hrows : RowsV V ys gs := hrows
    have kk : Ext [pen, cells] h2 h5 := fun a o e hn => F5.keep _ _ (st1 a o e hn)
    have hWL : ∀ a ∈ [pen, cells], g.get? a = none := fun a ha => by
      simp only [List.mem_cons, List.not_mem_nil, or_false] at ha
      rcases ha with rfl | rfl
      · exact np.2.2
      · exact nc.2.2
    have hLW : L ∉ [pen, cells] := fun q => by
      simp only [List.mem_cons, List.not_mem_nil, or_false] at q
      rcases q with q | q
      · exact np.2.1 q.symm
      · exact nc.2.1 q.symm
    have F25 := Fr.ext F2 kk hLW hWL
    have hLC : L < C := Nat.lt_trans (Nat.lt_trans hls hI) hC4
    refine ⟨rfl, m5, m0, F5.ns, F25.ns, Nat.ne_of_gt hLC, fun h₁ h' n1 s1 s2 => ?_⟩
    have eq6 : ∀ a, a ≠ L → a ≠ C → h'.get? a = h5.get? a := fun a q1 q2 => (s2.2 a q2).trans (s1.2 a q1)
    have gL : g.get? L = none := Heap.get?_none_of_le F2.above
    have ltC : ∀ a o, h2.get? a = some o → a ≠ C := fun a o e => Nat.ne_of_lt (Nat.lt_trans (Nat.lt_trans (Heap.lt_size e) hI) hC4)
    have F6 : Fr g L h' (fun z => if z = Str.ofString "groups" then some (.ref D) else m0 z) := ⟨n1.sameBut s2 (Nat.ne_of_lt hLC), fun a o e => (eq6 a (fun q => by rw [q, gL] at e; cases e) (ltC a o (F2.keep a o e))).trans (F25.keep a o e), F2.above⟩
    have hp6 : h'.get? pen = some a1 := (eq6 pen np.2.1 (ltC _ _ np.1)).trans (N5 (pen, a1) (by first | walk_at "mm" | simp)).1
    have hc6 : h'.get? cells = some b1 := (eq6 cells nc.2.1 (ltC _ _ nc.1)).trans (N5 (cells, b1) (by first | walk_at "mm" | simp)).1
    obtain ⟨tl6, N6, off6, s6, t6⟩ := call_step_as (c := ⟨cc, cg, cn, cs, cf, ce, cp⟩) (o1 := p1) (o2 := p2) (nl := (D, lst ys) :: V) (W := [pen, cells]) F2 N2 (by first | walk_at "sub" | exact (fun p hp => by (simp only [List.mem_cons, List.not_mem_nil, or_false] at hp ⊢; rcases hp with h | h | h | h | h | h | h | h | h <;> simp [h]))) F6 (fun a o e hn => (eq6 a (fun q => hn (by rw [q]; exact List.mem_cons_self)) (ltC a o e)).trans (kk a o e fun q => hn (List.mem_cons_of_mem _ q))) (fun a ha => by simpa using ha) (fun p hp => by
        have z := N5 p (by first | exact (show ∀ q ∈ _, q ∈ _ from by walk_at "sub") p hp | (simp only [List.mem_cons] at hp ⊢; rcases hp with h | h <;> simp [h]))
        have nw : New h2 p.1 := by
          show h2.get? p.1 = none
          cases e : h2.get? p.1 with
          | none => rfl
          | some o =>
            rcases List.mem_cons.mp hp with rfl | hp
            · exact absurd (Heap.lt_size e) (Nat.lt_asymm hI)
            · have := st1 _ _ e fun q => off5 p hp _ (List.mem_cons_of_mem _ q) rfl
              rw [z.2.2] at this; cases this
        refine ⟨(eq6 p.1 (fun q => ?_) z.2.1).trans z.1, nw⟩
        have : h2.get? L = none := by rw [← q]; exact nw
        obtain ⟨oL, _, _, eL, _⟩ := F2.ns
        rw [this] at eL; cases eL) hp6 hc6 AP.p AP.c
    dsimp only [C7.led] at N6
    exact K _ rfl rfl ⟨⟨cc, cg, cn, cs, cf, ce, cp⟩, pen, cells, a1, b1, tl6, m0, zch, zgn, znu, sp, fd, en, D, gs, ⟨F6, N6, off6, AP, PP⟩, ⟨y1, y2, y3, y4, y5, y6, y7⟩, ⟨ys, _, s6 _ List.mem_cons_self, hrows.1, (hrows.mono fun p hp => s6 _ (List.mem_cons_of_mem _ hp)).2⟩, by omega, hgs⟩
end S_OLaw14
section S_OLaw15
theorem reg63 : True := by
  k_with_none
  k_with "mm" => ((repeat' (first | (with_reducible exact List.mem_cons_self) | (with_reducible assumption) | (with_reducible refine List.mem_cons_of_mem _ ?_))); done)
  k_with "sub" => ((repeat' (first | (with_reducible exact sub_nil _) | (with_reducible refine sub_cons ?_ ?_) | (with_reducible exact List.mem_cons_self) | (with_reducible refine List.mem_cons_of_mem _ ?_) | (with_reducible assumption) | (intro p9 hp9))); done)
  k_with "v_sees" => first | exact Sees.keep (by assumption) (Fr.keep (by k_asm)) | exact Sees.sub (News.sees (by k_asm)) (fun _ h => by first | exact h | (refine List.mem_cons_of_mem _ ?_; exact h) | (refine List.mem_cons_of_mem _ (List.mem_cons_of_mem _ ?_); exact h))
  k_with "eval Name" => (k_here; (with_reducible show wpAny _ _ (eval (Expr.Name _ _) (compEnvC _ _ _ _)) _ _ _); k_dflt (first | (refine' nameB_L ?zqF ?zqv ?_ ?zqa ?zqb; (case zqF => k_asm); (case zqv => assumption); (case zqa => rfl); (case zqb => rfl)) | (refine' nameB_C ?zqF ?zqc ?zqo ?zqd ?_ ?zqa ?zqb; (case zqF => k_asm); (case zqa => rfl); (case zqb => rfl); (case zqc => rfl); (case zqo => assumption); (case zqd => assumption)) | (refine' nameB_G ?zqF ?zqX ?zqT ?zqe ?_ ?zqg ?zqa ?zqb; (case zqF => k_asm); (case zqX => k_asm); (case zqT => k_asm); (case zqg => rfl); (case zqa => rfl); (case zqb => rfl); (case zqe => k_is)) | (refine' nameB_B ?zqF ?zqX ?zqT ?zqe ?zqv ?zqn ?_ ?zqg ?zqh ?zqa ?zqb; (case zqF => k_asm); (case zqX => k_asm); (case zqT => k_asm); (case zqg => rfl); (case zqh => rfl); (case zqa => rfl); (case zqb => rfl); (case zqe => k_is); (case zqv => boot_fast); (case zqn => decide))))
  k_with "getAttr ref" => (k_here; (with_reducible show wpAny _ _ (getAttr (Value.ref _) (PySem.Str.ofString "way") _) _ _ _); k_dflt (refine' ent_way ?zqF ?zqX ?zqS ?zqx ?_; (case zqx => assumption); (case zqF => k_asm); (case zqX => k_asm); (case zqS => walk_at "v_sees")); intro _)
  k_with "getAttr ref" => (k_here; (with_reducible show wpAny _ _ (getAttr (Value.ref _) (PySem.Str.ofString "one") _) _ _ _); k_dflt (refine' ent_one ?zqF ?zqX ?zqS ?zqx ?_; (case zqx => assumption); (case zqF => k_asm); (case zqX => k_asm); (case zqS => walk_at "v_sees")); intro _)
  k_with "getAttr ref" => (k_here; (with_reducible show wpAny _ _ (getAttr (Value.ref _) (PySem.Str.ofString "two") _) _ _ _); k_dflt (refine' ent_two ?zqF ?zqX ?zqS ?zqx ?_; (case zqx => assumption); (case zqF => k_asm); (case zqX => k_asm); (case zqS => walk_at "v_sees")); intro _)
  k_with "getMethod ref" => (k_here; (with_reducible show wpAny _ _ (getMethod (Value.ref _) (PySem.Str.ofString "told") _) _ _ _); k_dflt (refine' ent_told ?zqF ?zqX ?zqS ?zqx ?_; (case zqx => assumption); (case zqF => k_asm); (case zqX => k_asm); (case zqS => walk_at "v_sees")))
  k_with "call builtin:sorted" => (k_here; (with_reducible show wpAny _ _ (call (Value.builtin _) [Value.ref _]) _ _ _); k_dflt (refine' sorted_edict ?zqhh ?zqS ?zqD ?zqF ?zqN ?zqz ?_; (case zqhh => first | assumption | exact Rm.hd_deeper (by assumption) _); (case zqD => assumption); (case zqF => k_asm); (case zqN => k_asm); (case zqS => walk_at "v_sees"); (case zqz => omega)); intro _ _ _ _ _ _ _ _ _ _ _ _; (try k_sweep))
  k_with "subscriptTail" => (k_here; (with_reducible show wpAny _ _ (subscriptTail _ _ (Value.ref _) (Value.int _ _)) _ _ _); k_dflt (refine' edict_item ?zqS ?zqD ?zqv ?_; (case zqD => assumption); (case zqv => assumption); (case zqS => walk_at "v_sees")))
  k_with "call ref" => (k_here; k_dflt (refine' told_use ?zqR ?zqX ?zqT ?zqF ?zqN ?zqS ?zqEn ?_; (case zqEn => assumption); (case zqR => first | exact Rm.less (by assumption) (by omega) (by omega) | exact Rm.deeper (Rm.less (by assumption) (by omega) (by omega)) _); (case zqX => k_asm); (case zqT => k_asm); (case zqF => k_asm); (case zqN => k_asm); (case zqS => walk_at "v_sees")); intro _ _ _ _ _ _ _ _ _; (try k_sweep))
  k_with "eval ListComp" => (k_here; k_dflt (refine' comp_raw ?zqcl ?zqce ?zqk ?zqn ?zqx ?_; (case zqcl => exact rfl); (case zqce => decide); (case zqk => rfl); (case zqn => decide); (case zqx => rfl)))
  k_with "exec For Name Call cons nil" => (k_here; k_dflt (refine for_raw (by rfl) (by rfl) ?_))
  k_with "exec For Name Name cons nil" => (k_here; k_dflt (refine for_raw (by rfl) (by rfl) ?_))
  k_with "call ref" => (k_here; k_dflt (refine' entry_use ?zqR ?zqX ?zqT ?zqF ?zqN ?_; (case zqR => exact Rm.deeper (Rm.less (by assumption) (by omega) (by omega)) _); (case zqX => k_asm); (case zqT => k_asm); (case zqF => k_asm); (case zqN => k_asm)); intro _ _ _ _ _ _ _ _ _ _ _ _ _ _ _ _ _; rename_i l1 l2 gw' g1' g2' gt'; (try k_lt l1); (try k_lt2 l2); (try k_sweep); revert l1 l2 gw' g1' g2' gt'; intro _ _ _ _ _ _)
  k_with "setItem ref int ref" => (k_here; k_dflt (refine' dict_set_K ?zqF ?zqN ?zqU ?zqhd ?zqhz ?_; (case zqF => k_asm); (case zqN => k_asm); (case zqU => k_updF); (case zqhd => assumption); (case zqhz => assumption)); intro _ _ _ _ _; rename_i N' hd'; (try dsimp only at N'); (try k_sweep); revert N' hd'; intro _ _)
  k_with "getMethod ref" => (k_here; (with_reducible show wpAny _ _ (getMethod (Value.ref _) (PySem.Str.ofString "get") _) _ _ _); k_dflt (refine' get_method ?zqS ?zqD ?_; (case zqD => first | assumption | exact EDict.dict (by assumption)); (case zqS => walk_at "v_sees")))
  k_with "call builtin:dict.get" => (k_here; (with_reducible show wpAny _ _ (call (Value.builtin _) [Value.ref _, Value.int _ _, Value.int _ _]) _ _ _); k_dflt (refine' get0_raw ?zqS ?zqD ?zqhg ?_; (case zqD => assumption); (case zqhg => assumption); (case zqS => walk_at "v_sees")); intro _)
  k_with "exec Assign cons ListComp" => (k_here; k_dflt (refine' comp_assign ?zqsw ?zqcl ?zqce ?zqk ?zqn ?zqx ?zqy ?zqp ?_; (case zqsw => rfl); (case zqcl => exact rfl); (case zqce => decide); (case zqk => rfl); (case zqn => decide); (case zqx => rfl); (case zqy => rfl); (case zqp => rfl)))
  k_with "compareOp NotIn int ref" => (k_here; k_dflt (refine' edict_notin ?zqS ?zqD ?_; (case zqD => assumption); (case zqS => walk_at "v_sees")))
  k_with "compareOp In int ref" => (k_here; k_dflt (refine' edict_in ?zqS ?zqD ?_; (case zqD => assumption); (case zqS => walk_at "v_sees")))
  k_with "unpackItems ref" => (k_here; k_dflt (refine' unpackItemsN_ ?zqk1 ?zqk2 ?zqk3 ?zqk4 ?zqk5 ?_; (case zqk1 => k_asm); (case zqk2 => k_asm); (case zqk3 => kun_tup); (case zqk4 => first | assumption | exact Rm.hd_deeper (by assumption) _); (case zqk5 => exact rfl); k_whole); intro _ _ _; (try k_sweep))
  k_with "assign Tuple" => (k_here; (with_reducible show wpAny _ _ (assign (Expr.Tuple _ _ _) _ (Value.ref _)) _ _ _); k_dflt (refine' unpackN_ ?zqk1 ?zqk2 ?zqk3 ?zqk4 ?zqk5 ?zqk6 ?_; (case zqk1 => k_asm); (case zqk2 => k_asm); (case zqk3 => first | kun_tup | exact tup_sees (by assumption) (by walk_at "v_sees")); (case zqk4 => first | assumption | exact Rm.hd_deeper (by assumption) _); (case zqk5 => exact rfl); (case zqk6 => exact rfl); k_whole); intro _ _ _; (try k_sweep))
  k_with "getAttr ref" => (k_here; (with_reducible show wpAny _ _ (getAttr (Value.ref _) (PySem.Str.ofString "way") _) _ _ _); k_dflt (refine' ent_way' ?zqF ?zqX ?zqS ?zqx ?zqv ?_; (case zqx => assumption); (case zqv => assumption); (case zqF => k_asm); (case zqX => k_asm); (case zqS => walk_at "v_sees")); intro _)
  k_with "getAttr ref" => (k_here; (with_reducible show wpAny _ _ (getAttr (Value.ref _) (PySem.Str.ofString "one") _) _ _ _); k_dflt (refine' ent_one' ?zqF ?zqX ?zqS ?zqx ?zqv ?_; (case zqx => assumption); (case zqv => assumption); (case zqF => k_asm); (case zqX => k_asm); (case zqS => walk_at "v_sees")); intro _)
  k_with "getAttr ref" => (k_here; (with_reducible show wpAny _ _ (getAttr (Value.ref _) (PySem.Str.ofString "two") _) _ _ _); k_dflt (refine' ent_two' ?zqF ?zqX ?zqS ?zqx ?zqv ?_; (case zqx => assumption); (case zqv => assumption); (case zqF => k_asm); (case zqX => k_asm); (case zqS => walk_at "v_sees")); intro _)
  k_with "call builtin:dict.get" => (k_here; (with_reducible show wpAny _ _ (call (Value.builtin _) [Value.ref _, Value.int _ _]) _ _ _); k_dflt (refine' edict_get ?zqS ?zqD ?zqv ?_; (case zqD => assumption); (case zqv => assumption); (case zqS => walk_at "v_sees")))
  k_with "rm_room" => first | exact Rm.less (by assumption) (by omega) (by omega) | exact Rm.deeper (Rm.less (by assumption) (by omega) (by omega)) _
  k_with "call ref" => (k_here; (with_reducible show wpAny _ _ (call (Value.ref 92) _) _ _ _); k_dflt (refine' fnum_use ?zqR ?zqX ?zqT ?zqF ?zqN ?zqS ?zqD ?zqC ?zqz ?zqo ?_; (case zqR => walk_at "rm_room"); (case zqX => k_asm); (case zqT => k_asm); (case zqF => k_asm); (case zqN => k_asm); (case zqD => assumption); (case zqS => walk_at "v_sees"); (case zqC => assumption); (case zqz => omega); (case zqo => assumption)); intro _ _ _ _ _ _ _ _ _; (try k_sweep))
  k_with "call ref" => (k_here; (with_reducible show wpAny _ _ (call (Value.ref 99) _) _ _ _); k_dflt (refine' chain_use ?zqR ?zqX ?zqT ?zqF ?zqN ?zqS ?zqD ?zqC ?zqz ?_; (case zqR => walk_at "rm_room"); (case zqX => k_asm); (case zqT => k_asm); (case zqF => k_asm); (case zqN => k_asm); (case zqD => assumption); (case zqS => walk_at "v_sees"); (case zqC => assumption); (case zqz => omega)); intro _ _ _ _ _ _ _ _ _; (try k_sweep))
  k_with "call ref" => (k_here; (with_reducible show wpAny _ _ (call (Value.ref 170) _) _ _ _); k_dflt (refine' ring_use ?zqR ?zqX ?zqT ?zqF ?zqN ?zqS ?zqD ?zqC ?zqz ?_; (case zqR => walk_at "rm_room"); (case zqX => k_asm); (case zqT => k_asm); (case zqF => k_asm); (case zqN => k_asm); (case zqD => assumption); (case zqS => walk_at "v_sees"); (case zqC => assumption); (case zqz => omega)); intro _ _ _ _ _ _ _ _ _; (try k_sweep))
  k_with "compareOp In int ref" => (k_here; k_dflt (refine' edict_in_b ?zqS ?zqD ?zqb ?_; (case zqD => assumption); (case zqb => assumption); (case zqS => walk_at "v_sees")))
  k_with "compareOp NotIn int ref" => (k_here; k_dflt (refine' edict_notin_b ?zqS ?zqD ?zqb ?_; (case zqD => assumption); (case zqb => assumption); (case zqS => walk_at "v_sees")))
  k_with "v_sees" => first | exact Sees.keep (by assumption) (Fr.keep (by k_asm)) | exact Sees.sub (News.sees (by k_asm)) (fun _ h => by repeat (first | exact h | refine List.mem_cons_of_mem _ ?_))
  k_with "call ref" => (k_here; (with_reducible show wpAny _ _ (call (Value.ref 144) _) _ _ _); k_dflt (refine' draw_use ?zqR ?zqX ?zqT ?zqF ?zqN ?zqP ?zqU1 ?zqU2 ?zqne ?zqlo ?zqhi ?_; (case zqR => walk_at "rm_room"); (case zqX => k_asm); (case zqT => k_asm); (case zqF => k_asm); (case zqN => k_asm); (case zqP => assumption); (case zqU1 => k_updF); (case zqU2 => (intro o9; (try dsimp only); k_updF)); (case zqne => assumption); (case zqlo => omega); (case zqhi => omega)); intro _ _ _ _ _ _ _ _ _ _ _; rename_i N'; (try dsimp only at N'); (try k_sweep); revert N'; intro _)
  trivial
theorem grps_lt {gs : List (List Int)} (x : IsGrps gs) : gs.flatten.Pairwise (· < ·) := by
  rw [List.pairwise_flatten]
  constructor
  · intro grp hg
    obtain ⟨j, hj⟩ := List.mem_iff_getElem?.mp hg
    obtain ⟨k, _, rfl⟩ := x.2 j grp hj
    unfold grpOf
    rw [List.pairwise_map]
    exact List.pairwise_lt_range.imp fun h => by omega
  · rw [List.pairwise_iff_getElem]
    intro i j hi hj hij a ha b hb
    obtain ⟨k, hk, e1⟩ := x.2 i _ (List.getElem?_eq_getElem hi)
    obtain ⟨k', hk', e2⟩ := x.2 j _ (List.getElem?_eq_getElem hj)
    rw [e1] at ha
    rw [e2] at hb
    unfold grpOf at ha hb
    obtain ⟨p, hp, rfl⟩ := List.mem_map.mp ha
    obtain ⟨q, hq, rfl⟩ := List.mem_map.mp hb
    have := List.mem_range.mp hp
    omega
theorem grps_len {gs : List (List Int)} (x : IsGrps gs) : ∀ grp ∈ gs, grp.length ≤ 3 := fun grp hg => by
  obtain ⟨j, hj⟩ := List.mem_iff_getElem?.mp hg
  obtain ⟨k, hk, rfl⟩ := x.2 j grp hj
  simp [grpOf]
  exact hk
inductive St18 (w : World) (g : Heap) (L : Addr) (s : Shared) : Prop
  | mk (c : C7) (pen cells : Addr) (o1 o2 : Obj) (tl : Led) (u : Str → Option Value) (ch gn nu sp fd en : Option Value) (gl pd : Addr) (gs : List (List Int)) (es : List (Int × Ent)) (x0 : Core g L s c pen cells o1 o2 tl (fun z => if z = Str.ofString "packed" then some (.ref pd) else if z = Str.ofString "groups" then some (.ref gl) else u z)) (x1 : c.Holds ch gn nu sp fd en (some (.ref pen))) (x2 : GrpV tl gl gs) (x3 : IsGrps gs) (x4 : EDict w tl pd es) (x5 : es.map rowOf = packRows 50 gs) : St18 w g L s
theorem law15 {w : World} {A : Around} {E : Value → Shared → Prop} {s : Shared} {Q : Flow → Shared → Prop} {g : Heap} {L fa : Addr} {cdv : Value} {sc : Scope} {l : List Str} {mg mb : Str → Option Value}
    (hsc : IsScope w sc) (R : Rm A 8 300) (X : (hd.heap_1 w.params).In g) (T : TopRead qv l mg mb g) (S : St17 w g L s)
    (K : ∀ s', s'.os = s.os → s'.gens = s.gens → St18 w g L s' → wpAny (model PR w) A (execs ((lawBody w).drop 18) (envOfC (Str.ofString "law") sc L fa cdv)) Q E s') :
    wpAny (model PR w) A (execs ((lawBody w).drop 17) (envOfC (Str.ofString "law") sc L fa cdv)) Q E s := by
  refine stage_cut (n := 17) (k := 1) (X := fun bd sc => (∀ s', s'.os = s.os → s'.gens = s.gens → St18 w g L s' → wpAny (model PR w) A (execs ((lawBody w).drop 18) (envOfC (Str.ofString "law") sc L fa cdv)) Q E s') → wpAny (model PR w) A (execs bd (envOfC (Str.ofString "law") sc L fa cdv)) Q E s) hsc (by k_is) (fun K => ?_) K
  simp only [List.drop_succ_cons, List.drop_zero, List.take_succ_cons, List.take_zero, List.cons_append, List.nil_append, Nat.zero_add]
  generalize List.drop 18 (lawBody w) = rest at K ⊢
  have hhA := R.hd
  obtain ⟨⟨cc, cg, cn, cs, cf, ce, cp⟩, pen, cells, p1, p2, tl, u, zch, zgn, znu, sp, fd, en, gl, gs, ⟨F, N, off, AP, P⟩, ⟨y1, y2, y3, y4, y5, y6, y7⟩, HG, IG⟩ := S
  obtain ⟨⟨w0, w1, w2, w3, w4, w5, w6, w7⟩, ⟨v1, v2, v3, v4, v5, v6, v7⟩⟩ := AP.nat
  dsimp only [C7.led] at N y1 y2 y3 y4 y5 y6 y7
  dsimp only [adr9] at off
  k_steps
  refine packed_spec (R.less (by omega) (by omega)) ⟨X, l, mg, mb, T⟩ F.keep (Sees.sub (News.sees N) fun p hp => by first | walk_at "mm" | simp [hp]) HG (by have := IG.1; omega) (fun grp hg => Nat.le_trans (grps_len IG grp hg) (by omega)) ((grps_lt IG).imp fun h => Int.ne_of_lt h) fun pd nw es h' tk' e B D hrow => ?_
  obtain ⟨F4, tl4, N4, off4, s4, t4⟩ := call_still (c := ⟨cc, cg, cn, cs, cf, ce, cp⟩) (o1 := p1) (o2 := p2) AP F N (by first | walk_at "sub" | exact (fun p hp => by (simp only [List.mem_cons, List.not_mem_nil, or_false] at hp ⊢; rcases hp with h | h | h | h | h | h | h | h | h <;> simp [h]))) (fun p hp => by first | walk_at "mm" | simp [hp]) off e B
  dsimp only [C7.led] at N4
  clear F N
  k_steps
  rename_i h5 F5 N5
  exact K _ rfl rfl ⟨⟨cc, cg, cn, cs, cf, ce, cp⟩, pen, cells, p1, p2, tl4, _, _, _, _, _, _, _, gl, pd, gs, es, ⟨F5, N5, off4, AP, P⟩, ⟨y1, y2, y3, y4, y5, y6, y7⟩, (by obtain ⟨vs, n, h1, h2, h3⟩ := HG; exact ⟨vs, n, t4 _ h1, h2, fun i grp hi => let ⟨a, us, k, q1, q2, q3⟩ := h3 i grp hi; ⟨a, us, k, q1, t4 _ q2, q3⟩⟩), IG, D.mono s4, hrow⟩
end S_OLaw15
section S_OLaw16
theorem reg64 : True := by
  k_with_none
  k_with "mm" => ((repeat' (first | (with_reducible exact List.mem_cons_self) | (with_reducible assumption) | (with_reducible refine List.mem_cons_of_mem _ ?_))); done)
  k_with "sub" => ((repeat' (first | (with_reducible exact sub_nil _) | (with_reducible refine sub_cons ?_ ?_) | (with_reducible exact List.mem_cons_self) | (with_reducible refine List.mem_cons_of_mem _ ?_) | (with_reducible assumption) | (intro p9 hp9))); done)
  k_with "v_sees" => first | exact Sees.keep (by assumption) (Fr.keep (by k_asm)) | exact Sees.sub (News.sees (by k_asm)) (fun _ h => by first | exact h | (refine List.mem_cons_of_mem _ ?_; exact h) | (refine List.mem_cons_of_mem _ (List.mem_cons_of_mem _ ?_); exact h))
  k_with "eval Name" => (k_here; (with_reducible show wpAny _ _ (eval (Expr.Name _ _) (compEnvC _ _ _ _)) _ _ _); k_dflt (first | (refine' nameB_L ?zqF ?zqv ?_ ?zqa ?zqb; (case zqF => k_asm); (case zqv => assumption); (case zqa => rfl); (case zqb => rfl)) | (refine' nameB_C ?zqF ?zqc ?zqo ?zqd ?_ ?zqa ?zqb; (case zqF => k_asm); (case zqa => rfl); (case zqb => rfl); (case zqc => rfl); (case zqo => assumption); (case zqd => assumption)) | (refine' nameB_G ?zqF ?zqX ?zqT ?zqe ?_ ?zqg ?zqa ?zqb; (case zqF => k_asm); (case zqX => k_asm); (case zqT => k_asm); (case zqg => rfl); (case zqa => rfl); (case zqb => rfl); (case zqe => k_is)) | (refine' nameB_B ?zqF ?zqX ?zqT ?zqe ?zqv ?zqn ?_ ?zqg ?zqh ?zqa ?zqb; (case zqF => k_asm); (case zqX => k_asm); (case zqT => k_asm); (case zqg => rfl); (case zqh => rfl); (case zqa => rfl); (case zqb => rfl); (case zqe => k_is); (case zqv => boot_fast); (case zqn => decide))))
  k_with "getAttr ref" => (k_here; (with_reducible show wpAny _ _ (getAttr (Value.ref _) (PySem.Str.ofString "way") _) _ _ _); k_dflt (refine' ent_way ?zqF ?zqX ?zqS ?zqx ?_; (case zqx => assumption); (case zqF => k_asm); (case zqX => k_asm); (case zqS => walk_at "v_sees")); intro _)
  k_with "getAttr ref" => (k_here; (with_reducible show wpAny _ _ (getAttr (Value.ref _) (PySem.Str.ofString "one") _) _ _ _); k_dflt (refine' ent_one ?zqF ?zqX ?zqS ?zqx ?_; (case zqx => assumption); (case zqF => k_asm); (case zqX => k_asm); (case zqS => walk_at "v_sees")); intro _)
  k_with "getAttr ref" => (k_here; (with_reducible show wpAny _ _ (getAttr (Value.ref _) (PySem.Str.ofString "two") _) _ _ _); k_dflt (refine' ent_two ?zqF ?zqX ?zqS ?zqx ?_; (case zqx => assumption); (case zqF => k_asm); (case zqX => k_asm); (case zqS => walk_at "v_sees")); intro _)
  k_with "getMethod ref" => (k_here; (with_reducible show wpAny _ _ (getMethod (Value.ref _) (PySem.Str.ofString "told") _) _ _ _); k_dflt (refine' ent_told ?zqF ?zqX ?zqS ?zqx ?_; (case zqx => assumption); (case zqF => k_asm); (case zqX => k_asm); (case zqS => walk_at "v_sees")))
  k_with "call builtin:sorted" => (k_here; (with_reducible show wpAny _ _ (call (Value.builtin _) [Value.ref _]) _ _ _); k_dflt (refine' sorted_edict ?zqhh ?zqS ?zqD ?zqF ?zqN ?zqz ?_; (case zqhh => first | assumption | exact Rm.hd_deeper (by assumption) _); (case zqD => assumption); (case zqF => k_asm); (case zqN => k_asm); (case zqS => walk_at "v_sees"); (case zqz => omega)); intro _ _ _ _ _ _ _ _ _ _ _ _; (try k_sweep))
  k_with "subscriptTail" => (k_here; (with_reducible show wpAny _ _ (subscriptTail _ _ (Value.ref _) (Value.int _ _)) _ _ _); k_dflt (refine' edict_item ?zqS ?zqD ?zqv ?_; (case zqD => assumption); (case zqv => assumption); (case zqS => walk_at "v_sees")))
  k_with "call ref" => (k_here; k_dflt (refine' told_use ?zqR ?zqX ?zqT ?zqF ?zqN ?zqS ?zqEn ?_; (case zqEn => assumption); (case zqR => first | exact Rm.less (by assumption) (by omega) (by omega) | exact Rm.deeper (Rm.less (by assumption) (by omega) (by omega)) _); (case zqX => k_asm); (case zqT => k_asm); (case zqF => k_asm); (case zqN => k_asm); (case zqS => walk_at "v_sees")); intro _ _ _ _ _ _ _ _ _; (try k_sweep))
  k_with "eval ListComp" => (k_here; k_dflt (refine' comp_raw ?zqcl ?zqce ?zqk ?zqn ?zqx ?_; (case zqcl => exact rfl); (case zqce => decide); (case zqk => rfl); (case zqn => decide); (case zqx => rfl)))
  k_with "exec For Name Call cons nil" => (k_here; k_dflt (refine for_raw (by rfl) (by rfl) ?_))
  k_with "exec For Name Name cons nil" => (k_here; k_dflt (refine for_raw (by rfl) (by rfl) ?_))
  k_with "call ref" => (k_here; k_dflt (refine' entry_use ?zqR ?zqX ?zqT ?zqF ?zqN ?_; (case zqR => exact Rm.deeper (Rm.less (by assumption) (by omega) (by omega)) _); (case zqX => k_asm); (case zqT => k_asm); (case zqF => k_asm); (case zqN => k_asm)); intro _ _ _ _ _ _ _ _ _ _ _ _ _ _ _ _ _; rename_i l1 l2 gw' g1' g2' gt'; (try k_lt l1); (try k_lt2 l2); (try k_sweep); revert l1 l2 gw' g1' g2' gt'; intro _ _ _ _ _ _)
  k_with "setItem ref int ref" => (k_here; k_dflt (refine' dict_set_K ?zqF ?zqN ?zqU ?zqhd ?zqhz ?_; (case zqF => k_asm); (case zqN => k_asm); (case zqU => k_updF); (case zqhd => assumption); (case zqhz => assumption)); intro _ _ _ _ _; rename_i N' hd'; (try dsimp only at N'); (try k_sweep); revert N' hd'; intro _ _)
  k_with "getMethod ref" => (k_here; (with_reducible show wpAny _ _ (getMethod (Value.ref _) (PySem.Str.ofString "get") _) _ _ _); k_dflt (refine' get_method ?zqS ?zqD ?_; (case zqD => first | assumption | exact EDict.dict (by assumption)); (case zqS => walk_at "v_sees")))
  k_with "call builtin:dict.get" => (k_here; (with_reducible show wpAny _ _ (call (Value.builtin _) [Value.ref _, Value.int _ _, Value.int _ _]) _ _ _); k_dflt (refine' get0_raw ?zqS ?zqD ?zqhg ?_; (case zqD => assumption); (case zqhg => assumption); (case zqS => walk_at "v_sees")); intro _)
  k_with "exec Assign cons ListComp" => (k_here; k_dflt (refine' comp_assign ?zqsw ?zqcl ?zqce ?zqk ?zqn ?zqx ?zqy ?zqp ?_; (case zqsw => rfl); (case zqcl => exact rfl); (case zqce => decide); (case zqk => rfl); (case zqn => decide); (case zqx => rfl); (case zqy => rfl); (case zqp => rfl)))
  k_with "compareOp NotIn int ref" => (k_here; k_dflt (refine' edict_notin ?zqS ?zqD ?_; (case zqD => assumption); (case zqS => walk_at "v_sees")))
  k_with "compareOp In int ref" => (k_here; k_dflt (refine' edict_in ?zqS ?zqD ?_; (case zqD => assumption); (case zqS => walk_at "v_sees")))
  k_with "unpackItems ref" => (k_here; k_dflt (refine' unpackItemsN_ ?zqk1 ?zqk2 ?zqk3 ?zqk4 ?zqk5 ?_; (case zqk1 => k_asm); (case zqk2 => k_asm); (case zqk3 => kun_tup); (case zqk4 => first | assumption | exact Rm.hd_deeper (by assumption) _); (case zqk5 => exact rfl); k_whole); intro _ _ _; (try k_sweep))
  k_with "assign Tuple" => (k_here; (with_reducible show wpAny _ _ (assign (Expr.Tuple _ _ _) _ (Value.ref _)) _ _ _); k_dflt (refine' unpackN_ ?zqk1 ?zqk2 ?zqk3 ?zqk4 ?zqk5 ?zqk6 ?_; (case zqk1 => k_asm); (case zqk2 => k_asm); (case zqk3 => first | kun_tup | exact tup_sees (by assumption) (by walk_at "v_sees")); (case zqk4 => first | assumption | exact Rm.hd_deeper (by assumption) _); (case zqk5 => exact rfl); (case zqk6 => exact rfl); k_whole); intro _ _ _; (try k_sweep))
  k_with "getAttr ref" => (k_here; (with_reducible show wpAny _ _ (getAttr (Value.ref _) (PySem.Str.ofString "way") _) _ _ _); k_dflt (refine' ent_way' ?zqF ?zqX ?zqS ?zqx ?zqv ?_; (case zqx => assumption); (case zqv => assumption); (case zqF => k_asm); (case zqX => k_asm); (case zqS => walk_at "v_sees")); intro _)
  k_with "getAttr ref" => (k_here; (with_reducible show wpAny _ _ (getAttr (Value.ref _) (PySem.Str.ofString "one") _) _ _ _); k_dflt (refine' ent_one' ?zqF ?zqX ?zqS ?zqx ?zqv ?_; (case zqx => assumption); (case zqv => assumption); (case zqF => k_asm); (case zqX => k_asm); (case zqS => walk_at "v_sees")); intro _)
  k_with "getAttr ref" => (k_here; (with_reducible show wpAny _ _ (getAttr (Value.ref _) (PySem.Str.ofString "two") _) _ _ _); k_dflt (refine' ent_two' ?zqF ?zqX ?zqS ?zqx ?zqv ?_; (case zqx => assumption); (case zqv => assumption); (case zqF => k_asm); (case zqX => k_asm); (case zqS => walk_at "v_sees")); intro _)
  k_with "call builtin:dict.get" => (k_here; (with_reducible show wpAny _ _ (call (Value.builtin _) [Value.ref _, Value.int _ _]) _ _ _); k_dflt (refine' edict_get ?zqS ?zqD ?zqv ?_; (case zqD => assumption); (case zqv => assumption); (case zqS => walk_at "v_sees")))
  k_with "rm_room" => first | exact Rm.less (by assumption) (by omega) (by omega) | exact Rm.deeper (Rm.less (by assumption) (by omega) (by omega)) _
  k_with "call ref" => (k_here; (with_reducible show wpAny _ _ (call (Value.ref 92) _) _ _ _); k_dflt (refine' fnum_use ?zqR ?zqX ?zqT ?zqF ?zqN ?zqS ?zqD ?zqC ?zqz ?zqo ?_; (case zqR => walk_at "rm_room"); (case zqX => k_asm); (case zqT => k_asm); (case zqF => k_asm); (case zqN => k_asm); (case zqD => assumption); (case zqS => walk_at "v_sees"); (case zqC => assumption); (case zqz => omega); (case zqo => assumption)); intro _ _ _ _ _ _ _ _ _; (try k_sweep))
  k_with "call ref" => (k_here; (with_reducible show wpAny _ _ (call (Value.ref 99) _) _ _ _); k_dflt (refine' chain_use ?zqR ?zqX ?zqT ?zqF ?zqN ?zqS ?zqD ?zqC ?zqz ?_; (case zqR => walk_at "rm_room"); (case zqX => k_asm); (case zqT => k_asm); (case zqF => k_asm); (case zqN => k_asm); (case zqD => assumption); (case zqS => walk_at "v_sees"); (case zqC => assumption); (case zqz => omega)); intro _ _ _ _ _ _ _ _ _; (try k_sweep))
  k_with "call ref" => (k_here; (with_reducible show wpAny _ _ (call (Value.ref 170) _) _ _ _); k_dflt (refine' ring_use ?zqR ?zqX ?zqT ?zqF ?zqN ?zqS ?zqD ?zqC ?zqz ?_; (case zqR => walk_at "rm_room"); (case zqX => k_asm); (case zqT => k_asm); (case zqF => k_asm); (case zqN => k_asm); (case zqD => assumption); (case zqS => walk_at "v_sees"); (case zqC => assumption); (case zqz => omega)); intro _ _ _ _ _ _ _ _ _; (try k_sweep))
  k_with "compareOp In int ref" => (k_here; k_dflt (refine' edict_in_b ?zqS ?zqD ?zqb ?_; (case zqD => assumption); (case zqb => assumption); (case zqS => walk_at "v_sees")))
  k_with "compareOp NotIn int ref" => (k_here; k_dflt (refine' edict_notin_b ?zqS ?zqD ?zqb ?_; (case zqD => assumption); (case zqb => assumption); (case zqS => walk_at "v_sees")))
  k_with "v_sees" => first | exact Sees.keep (by assumption) (Fr.keep (by k_asm)) | exact Sees.sub (News.sees (by k_asm)) (fun _ h => by repeat (first | exact h | refine List.mem_cons_of_mem _ ?_))
  k_with "call ref" => (k_here; (with_reducible show wpAny _ _ (call (Value.ref 144) _) _ _ _); k_dflt (refine' draw_use ?zqR ?zqX ?zqT ?zqF ?zqN ?zqP ?zqU1 ?zqU2 ?zqne ?zqlo ?zqhi ?_; (case zqR => walk_at "rm_room"); (case zqX => k_asm); (case zqT => k_asm); (case zqF => k_asm); (case zqN => k_asm); (case zqP => assumption); (case zqU1 => k_updF); (case zqU2 => (intro o9; (try dsimp only); k_updF)); (case zqne => assumption); (case zqlo => omega); (case zqhi => omega)); intro _ _ _ _ _ _ _ _ _ _ _; rename_i N'; (try dsimp only at N'); (try k_sweep); revert N'; intro _)
  k_with "compareOp NotEq ref ref" => (refine Held.use ?_)
  k_with "eval ListComp" => (refine Held.use ?_)
  k_with "call type:enumerate" => (refine Held.use ?_)
  trivial
def datR (r : Int × Str × Int × Int) : Dat := .tuple [.int r.1, .tuple [.str r.2.1, .int r.2.2.1, .int r.2.2.2]]
theorem told_rows {es : List (Int × Ent)} (hn : (es.map (·.1)).Nodup) : (es.map (·.1)).map (toldD es) = (es.map rowOf).map datR := by
  rw [List.map_map, List.map_map]
  refine List.map_congr_left fun p hp => ?_
  have : getE es p.1 = some p.2 := getE_of_mem hn hp
  simp only [Function.comp, toldD, this, datR, rowOf]
/-- told's list, when the keys stand in order -/
theorem told_order {es : List (Int × Ent)} {ks : List Int} {rs : List PRow} (hn : (es.map (·.1)).Nodup) (hr : es.map rowOf = rs) (hs : (rs.map (·.1)).Pairwise (· ≤ ·)) (hp : ks.Perm (es.map (·.1))) (ho : ks.Pairwise (· ≤ ·)) : ks.map (toldD es) = rs.map datR := by
  have e : es.map (·.1) = rs.map (·.1) := rowOf_keys hr
  have e2 : ks = es.map (·.1) := same_sorted hp (List.Perm.refl _) ho (by rw [e]; exact hs)
  rw [e2, told_rows hn, hr]
theorem datR_ok {rs : List PRow} (h : ∀ r ∈ rs, PyData.strOk r.2.1 = true) : ∀ d ∈ rs.map datR, kqdOk 8 d = true := by
  intro d hd
  obtain ⟨r, hr, rfl⟩ := List.mem_map.mp hd
  have := h r hr
  simp [datR, kqdOk, this]
theorem grps_flat {gs : List (List Int)} (x : IsGrps gs) : gs.flatten.length ≤ 9 := by
  have h1 := x.1
  have h2 := grps_len x
  clear x
  match gs, h1, h2 with
  | [], _, _ => simp
  | [a], _, h2 => have := h2 a (by first | walk_at "mm" | simp); simp <;> omega
  | [a, b], _, h2 => have := h2 a (by first | walk_at "mm" | simp); have := h2 b (by first | walk_at "mm" | simp); simp <;> omega
  | [a, b, c], _, h2 => have := h2 a (by first | walk_at "mm" | simp); have := h2 b (by first | walk_at "mm" | simp); have := h2 c (by first | walk_at "mm" | simp); simp <;> omega
  | a :: b :: c :: d :: r, h1, _ => simp at h1
theorem law16 {w : World} {A : Around} {E : Value → Shared → Prop} {s : Shared} {Q : Flow → Shared → Prop} {g : Heap} {L fa : Addr} {cdv : Value} {sc : Scope} {l : List Str} {mg mb : Str → Option Value}
    (hsc : IsScope w sc) (R : Rm A 8 300) (X : (hd.heap_1 w.params).In g) (T : TopRead qv l mg mb g) (S : St18 w g L s)
    (K : ∀ s', s'.os = s.os → s'.gens = s.gens → St16 w g L s' → wpAny (model PR w) A (execs ((lawBody w).drop 19) (envOfC (Str.ofString "law") sc L fa cdv)) Q E s') :
    wpAny (model PR w) A (execs ((lawBody w).drop 18) (envOfC (Str.ofString "law") sc L fa cdv)) Q E s := by
  refine stage_cut (n := 18) (k := 1) (X := fun bd sc => (∀ s', s'.os = s.os → s'.gens = s.gens → St16 w g L s' → wpAny (model PR w) A (execs ((lawBody w).drop 19) (envOfC (Str.ofString "law") sc L fa cdv)) Q E s') → wpAny (model PR w) A (execs bd (envOfC (Str.ofString "law") sc L fa cdv)) Q E s) hsc (by k_is) (fun K => ?_) K
  simp only [List.drop_succ_cons, List.drop_zero, List.take_succ_cons, List.take_zero, List.cons_append, List.nil_append, Nat.zero_add]
  generalize List.drop 19 (lawBody w) = rest at K ⊢
  have hhA := R.hd
  obtain ⟨⟨cc, cg, cn, cs, cf, ce, cp⟩, pen, cells, p1, p2, tl, u, zch, zgn, znu, sp, fd, en, gl, pd, gs, es, ⟨F, N, off, AP, P⟩, ⟨y1, y2, y3, y4, y5, y6, y7⟩, HG, IG, D, hrow⟩ := S
  obtain ⟨⟨w0, w1, w2, w3, w4, w5, w6, w7⟩, ⟨v1, v2, v3, v4, v5, v6, v7⟩⟩ := AP.nat
  dsimp only [C7.led] at N y1 y2 y3 y4 y5 y6 y7
  dsimp only [adr9] at off
  have hsl : ((packRows 50 gs).map (·.1)).Pairwise (· ≤ ·) := by
    rw [packRows_keys]
    exact (grps_lt IG).imp fun h => Int.le_of_lt h
  have hfl := grps_flat IG
  have hel : es.length ≤ 9 := by
    have := congrArg List.length (rowOf_keys hrow)
    rw [packRows_keys] at this
    simp at this
    simp at hfl
    omega
  k_steps
  refine told_spec (R.less (by omega) (by omega)) ⟨X, l, mg, mb, T⟩ F.keep (Sees.sub (News.sees N) fun p hp => by first | walk_at "mm" | simp [hp]) D (by omega) fun r1 nl1 ks1 ys1 n1 h1 tk1 e1 B1 hks1 hso1 hr1 hD1 => ?_
  rw [told_order D.nodup hrow hsl hks1 hso1] at hD1
  obtain ⟨F1, tl1, N1, off1, s1, t1⟩ := call_still (c := ⟨cc, cg, cn, cs, cf, ce, cp⟩) (o1 := p1) (o2 := p2) AP F N (by first | walk_at "sub" | exact (fun p hp => by (simp only [List.mem_cons, List.not_mem_nil, or_false] at hp ⊢; rcases hp with h | h | h | h | h | h | h | h | h <;> simp [h]))) (fun p hp => by first | walk_at "mm" | simp [hp]) off e1 B1
  dsimp only [C7.led] at N1
  dsimp only [adr9] at off1
  have hD1 := hD1.mono s1
  have hr1 := s1 _ hr1
  have HG := (show GrpV tl1 gl gs by obtain ⟨vs, n, h1, h2, h3⟩ := HG; exact ⟨vs, n, t1 _ h1, h2, fun i grp hi => let ⟨a, us, k, q1, q2, q3⟩ := h3 i grp hi; ⟨a, us, k, q1, t1 _ q2, q3⟩⟩)
  clear F N e1 D s1 t1
  k_steps
  refine ⟨?_⟩
  refine' comp_ev ?cl ?k ?n ?_
  case cl => exact rfl
  case k => rfl
  case n => decide
  k_steps
  obtain ⟨vsg, ng, hgm, hgl, hgr⟩ := HG
  have hl0 := lst_led (a := gl) (vs := vsg) (n := ng) N1 (by first | walk_at "mm" | simp [hgm])
  have hlt0 : gl < h1.objs.size := Heap.lt_size (N1 (gl, W.listOf (List.toArray vsg) ng) (by first | walk_at "mm" | simp [hgm])).1
  refine ⟨call_enumerate_list hl0 fun h2 he2 hit2 hz2 hk2 => ?_⟩
  refine wpAny_pyIter_enum he2 ?_
  have hgs := F1.above
  have hls : L < h1.objs.size := F1.ns.lt
  have st1 : ∀ a o, h1.get? a = some o → (hideAll h2 [h1.objs.size + 1, h1.objs.size]).get? a = some o := fun a o e => hideAll_get _ (hk2 a o e) fun q => by
    have := Heap.lt_size e
    simp only [List.mem_cons, List.not_mem_nil, or_false] at q
    rcases q with rfl | rfl
    · exact absurd (Nat.lt_of_succ_lt this) (Nat.lt_irrefl _)
    · exact absurd this (Nat.lt_irrefl _)
  refine enter_plain (g2 := hideAll h2 [h1.objs.size + 1, h1.objs.size]) (led2 := []) (by decide) rfl (fun a o e => (hide_sub e).1) (Nat.le_of_eq (hideAll_size _ _)) (fun p hp => nomatch hp) fun D C h3 tk3 m3 hD3 hC3 hk3 F3 N3 => ?_
  have X2 := X.keeps (fun a o e => st1 a o (F1.keep a o e))
  have T2 := T.keeps (fun a o e => st1 a o (F1.keep a o e))
  have hl3 : h2.IsList gl vsg.toArray := hl0.at fun o e => hk2 _ _ e
  have ge : (hideAll h2 [h1.objs.size + 1, h1.objs.size]).get? (h1.objs.size + 1) = none := hideAll_none _ (by first | walk_at "mm" | simp)
  have gi : (hideAll h2 [h1.objs.size + 1, h1.objs.size]).get? h1.objs.size = none := hideAll_none _ (by first | walk_at "mm" | simp)
  have hh1 : h2.objs.size = h1.objs.size + 2 := hz2
  have hsz2 : (hideAll h2 [h1.objs.size + 1, h1.objs.size]).objs.size = h2.objs.size := hideAll_size _ _
  have hga : ∀ p ∈ tl1, (hideAll h2 [h1.objs.size + 1, h1.objs.size]).get? p.1 = some p.2 := fun p hp => st1 _ _ (N1 p (by first | walk_at "mm" | simp [hp])).1
  generalize hg2 : hideAll h2 [h1.objs.size + 1, h1.objs.size] = g2 at *
  have hD2' : h2.objs.size ≤ D := hD3
  have hlD : ∀ b ∈ [h1.objs.size + 1, h1.objs.size, gl], b < D := fun b hb => by
    rw [hh1] at hD2'
    simp only [List.mem_cons, List.not_mem_nil, or_false] at hb
    rcases hb with rfl | rfl | rfl
    · exact hD2'
    · exact Nat.lt_of_succ_lt hD2'
    · exact Nat.lt_trans hlt0 (Nat.lt_of_succ_lt hD2')
  refine enumB (it := h1.objs.size) (l := gl) (vs := vsg) (σ := List Value) (fun ys => [(D, lst ys)]) [D] (fun V ys i => DatAll V ys ((packRows 50 (gs.take i)).map datR)) [] hhA (Nat.succ_ne_self _) (Nat.ne_of_lt (Nat.lt_succ_of_lt hlt0)) (Nat.ne_of_lt hlt0) (fun b hb => ⟨fun q => absurd (List.mem_singleton.mp q) (Nat.ne_of_lt (hlD b hb)), Nat.ne_of_lt (Nat.lt_trans (hlD b hb) hC3)⟩) ge gi (hk3 _ _ he2) (hit2.at fun o e => hk3 _ _ e) (hl3.at fun o e => hk3 _ _ e) (fun _ => rfl) F3 N3 (fun p hp => hp) (fun V U c i h sub => h.mono sub) .nil (fun ys i v t V tl2 h4 tk4 m4 hv hF sub off4 F4 N4 => ?_) fun ys V h4 tk4 m4 hF F4 N4 off4 => ⟨rfl, m4, F4.ns, fun h5 sb5 => ?_⟩
  · have hi : i < gs.length := by rw [← hgl]; exact (List.getElem?_eq_some_iff.mp hv).1
    obtain ⟨a, us, k9, q1, q2, q3⟩ := hgr i _ (List.getElem?_eq_getElem hi)
    have hgi := List.getElem?_eq_getElem hi
    generalize gs[i] = grp at hgi q3
    rw [hv] at q1
    have q1 := Option.some.inj q1
    subst q1
    have hx1 : names2of (Str.ofString "row") (Str.ofString "group") i t (.ref a) m4 (Str.ofString "group") = some (.ref a) := rfl
    have hx2 : names2of (Str.ofString "row") (Str.ofString "group") i t (.ref a) m4 (Str.ofString "row") = some (.int i t) := rfl
    change Fr g2 C h4 (names2of (Str.ofString "row") (Str.ofString "group") i t (.ref a) m4) at F4
    change News g2 C h4 ((D, lst ys) :: tl2) at N4
    generalize names2of (Str.ofString "row") (Str.ofString "group") i t (.ref a) m4 = m5 at F4 hx1 hx2
    unfold emitB
    k_steps
    have hla : h4.IsList a us.toArray := ⟨_, F4.keep _ _ (hga _ q2), rfl, ⟨_, rfl⟩⟩
    have hlt4 : a < h4.objs.size := Heap.lt_size (F4.keep _ _ (hga _ q2))
    have hCh4 : C < h4.objs.size := F4.ns.lt
    have hDh4 : D < h4.objs.size := Nat.lt_trans hC3 hCh4
    have hg4 : g2.objs.size ≤ C := F4.above
    refine ⟨call_enumerate_list hla fun h5 he5 hit5 hz5 hk5 => ?_⟩
    refine wpAny_pyIter_enum he5 ?_
    have F5 := Fr.keeps F4 hk5
    have N5 : News g2 C h5 ((D, lst ys) :: tl2) := fun p hp => ⟨hk5 _ _ (N4 p hp).1, (N4 p hp).2⟩
    have haD : a ≠ D := fun q => by
      have z := hga _ q2
      rw [show ((a, W.listOf us.toArray k9) : Addr × Obj).1 = a from rfl, q, (N4 _ List.mem_cons_self).2.2] at z
      cases z
    have haC : a ≠ C := fun q => by
      have z := Heap.lt_size (hga _ q2)
      rw [show ((a, W.listOf us.toArray k9) : Addr × Obj).1 = a from rfl, q] at z
      exact absurd z (Nat.not_lt.mpr hg4)
    refine enumC (it := h4.objs.size) (l := a) (vs := us) (σ := List Value) (fun ys => [(D, lst ys)]) [D] (fun Vi ys' j => (∃ W : Led, (∀ p ∈ W, p ∈ Vi ∧ (p ∈ V ∨ ∀ q ∈ tl2, q.1 ≠ p.1)) ∧ DatAll W ys' ((packRows 50 (gs.take i) ++ grpRows 50 (grp.take j) i).map datR)) ∧ ∀ p ∈ tl2, p ∈ Vi) (fun m => m (Str.ofString "row") = some (.int i t)) ys hhA (Nat.succ_ne_self _) (Nat.ne_of_lt (Nat.lt_succ_of_lt hlt4)) (Nat.ne_of_lt hlt4) (fun b hb => ?_) (Heap.get?_none_of_le (Nat.le_of_lt (Nat.lt_succ_of_lt (Nat.lt_of_le_of_lt hg4 hCh4)))) (Heap.get?_none_of_le (Nat.le_of_lt (Nat.lt_of_le_of_lt hg4 hCh4))) he5 hit5 (hla.at fun o e => hk5 _ _ e) (fun _ => rfl) F5 N5 (fun p hp => by rw [List.mem_singleton.mp hp]; exact List.mem_cons_self) (fun V U c i ⟨⟨W, h1, h2⟩, h3⟩ sub => ⟨⟨W, fun p hp => ⟨sub p (h1 p hp).1, (h1 p hp).2⟩, h2⟩, fun p hp => sub p (h3 p hp)⟩) (V₀ := tl2) ⟨⟨V, fun p hp => ⟨sub p hp, .inl hp⟩, by simpa [grpRows] using hF⟩, fun p hp => hp⟩ (fun p hp => ⟨List.mem_cons_of_mem _ hp, fun q => off4 p hp D List.mem_cons_self (List.mem_singleton.mp q), ?_⟩) hx2 (fun ys' j v' t' V' tl3 h6 tk6 m6 hv' hmk ⟨⟨W, hW, hD6⟩, htl⟩ sub' off6 F6 N6 => ?_) fun ys' V' h6 tk6 m6 ⟨⟨W, hW, hD6⟩, htl⟩ hmk F6 N6 off6 => ⟨rfl, ?_⟩
    · simp only [List.mem_cons, List.not_mem_nil, or_false] at hb
      rcases hb with rfl | rfl | rfl
      · exact ⟨fun q => Nat.ne_of_gt (Nat.lt_succ_of_lt hDh4) (List.mem_singleton.mp q), Nat.ne_of_gt (Nat.lt_succ_of_lt hCh4)⟩
      · exact ⟨fun q => Nat.ne_of_gt hDh4 (List.mem_singleton.mp q), Nat.ne_of_gt hCh4⟩
      · exact ⟨fun q => haD (List.mem_singleton.mp q), haC⟩
    · have z := Heap.lt_size (N4 p (List.mem_cons_of_mem _ hp)).1
      intro q
      simp only [List.mem_cons, List.not_mem_nil, or_false] at q
      rcases q with q | q
      · exact Nat.ne_of_lt (Nat.lt_succ_of_lt z) q
      · exact Nat.ne_of_lt z q
    · obtain ⟨k', t9, hk', rfl⟩ := IntsAre.at q3 hv'
      have hy1 : names2of (Str.ofString "place") (Str.ofString "number") j t' (.int k' t9) m6 (Str.ofString "number") = some (.int k' t9) := rfl
      have hy2 : names2of (Str.ofString "place") (Str.ofString "number") j t' (.int k' t9) m6 (Str.ofString "place") = some (.int j t') := rfl
      have hy3 : names2of (Str.ofString "place") (Str.ofString "number") j t' (.int k' t9) m6 (Str.ofString "row") = some (.int i t) := hmk
      change Fr g2 C h6 (names2of (Str.ofString "place") (Str.ofString "number") j t' (.int k' t9) m6) at F6
      change News g2 C h6 ((D, lst ys') :: tl3) at N6
      generalize names2of (Str.ofString "place") (Str.ofString "number") j t' (.int k' t9) m6 = m7 at F6 hy1 hy2 hy3
      clear F5 N5 F4 N4 F3 N3 hx1 hx2
      unfold emitC
      k_steps
      rename_i T1 h7 l7 T2 h8 F8 N8 l8
      refine (fun (key : ∀ (a b : Tok), News g2 C h8 ((T2, { cls := .type "tuple", data := .seq #[.int k' t9, .ref T1] }) :: (T1, { cls := .type "tuple", data := .seq #[.str (Str.ofString "packed") a, .int (50 + (i : Int)) b, .int (j : Int) t'] }) :: (D, lst ys') :: tl3) → _) => key _ _ N8) (fun ta tb N8 => ?_)
      have N8 : News g2 C h8 ((D, lst ys') :: (T2, { cls := .type "tuple", data := .seq #[.int k' t9, .ref T1] }) :: (T1, { cls := .type "tuple", data := .seq #[.str (Str.ofString "packed") ta, .int (50 + (i : Int)) tb, .int (j : Int) t'] }) :: tl3) := fun p hp => N8 p (by first | exact (show ∀ q ∈ _, q ∈ _ from by walk_at "sub") p hp | (simp only [List.mem_cons] at hp ⊢; rcases hp with h | h | h | h <;> simp [h]))
      have n1D : T1 ≠ D := Nat.ne_of_gt (ltN l7.1)
      have n2D : T2 ≠ D := Nat.ne_of_gt (ltN l8.2.1)
      have n1t : ∀ q ∈ tl3, q.1 ≠ T1 := fun q hq => Nat.ne_of_lt (ltN (AllLt.mem l7.2 q hq))
      have n2t : ∀ q ∈ tl3, q.1 ≠ T2 := fun q hq => Nat.ne_of_lt (ltN (AllLt.mem l8.2.2 q hq))
      refine append_K F8 N8 (fun p hp => ?_) (by
        have z := hD6.length
        have z2 := congrArg List.length (packRows_keys 50 (gs.take i))
        have z3 : (gs.take i).flatten.length ≤ gs.flatten.length := by
          conv => rhs; rw [← List.take_append_drop i gs, List.flatten_append, List.length_append]
          omega
        have z4 := congrArg List.length (grpRows_keys 50 (grp.take j) i)
        have z5 := grps_len IG grp (List.mem_of_getElem? hgi)
        simp only [List.length_map, List.length_append, List.length_take] at z z2 z4
        omega) fun h9 v9 F9 N9 => ?_
      · simp only [List.mem_cons] at hp
        rcases hp with rfl | rfl | hp
        · exact n2D
        · exact n1D
        · exact fun q => off6 p hp D List.mem_cons_self q
      · refine TurnEnd.intro F9 N9 (ys' ++ [.ref T2]) ((T2, { cls := .type "tuple", data := .seq #[.int k' t9, .ref T1] }) :: (T1, { cls := .type "tuple", data := .seq #[.str (Str.ofString "packed") ta, .int (50 + (i : Int)) tb, .int (j : Int) t'] }) :: V') (fun p hp => ?_) (fun p hp => by first | walk_at "mm" | simp [hp]) (fun p hp => ?_) ⟨⟨(T2, { cls := .type "tuple", data := .seq #[.int k' t9, .ref T1] }) :: (T1, { cls := .type "tuple", data := .seq #[.str (Str.ofString "packed") ta, .int (50 + (i : Int)) tb, .int (j : Int) t'] }) :: W, fun p hp => ?_, ?_⟩, fun p hp => List.mem_cons_of_mem _ (List.mem_cons_of_mem _ (htl p hp))⟩ hy3
        · rw [List.mem_singleton.mp hp]; exact List.mem_cons_self
        · rcases List.mem_cons.mp hp with rfl | hp
          · exact ⟨by simp, .inr n2t, fun q => n2D (List.mem_singleton.mp q)⟩
          · rcases List.mem_cons.mp hp with rfl | hp
            · exact ⟨by simp, .inr n1t, fun q => n1D (List.mem_singleton.mp q)⟩
            · exact ⟨by simp [sub' p hp], .inl hp, fun q => off6 p (sub' p hp) D List.mem_cons_self (List.mem_singleton.mp q)⟩
        · rcases List.mem_cons.mp hp with rfl | hp
          · exact ⟨by simp, .inr fun q hq => n2t q (sub' q (htl q hq))⟩
          · rcases List.mem_cons.mp hp with rfl | hp
            · exact ⟨by simp, .inr fun q hq => n1t q (sub' q (htl q hq))⟩
            · exact ⟨by simp [(hW p hp).1], (hW p hp).2⟩
        · rw [grpRows_take 50 hk', ← List.append_assoc, List.map_append]
          refine DatAll.append (hD6.mono fun p hp => List.mem_cons_of_mem _ (List.mem_cons_of_mem _ hp)) (DatAll.one ?_)
          exact .tuple (n := 0) List.mem_cons_self (.cons (.int _ _) (.cons (.tuple (n := 0) (List.mem_cons_of_mem _ List.mem_cons_self) (.cons (.str _ _) (.cons (.int _ _) (.cons (.int _ _) .nil)))) .nil))
    · refine TurnEnd.intro F6 N6 ys' W (fun p hp => ?_) (fun p hp => List.mem_cons_of_mem _ (htl p hp)) (fun p hp => ⟨List.mem_cons_of_mem _ (hW p hp).1, (hW p hp).2, fun q => off6 p (hW p hp).1 D List.mem_cons_self (List.mem_singleton.mp q)⟩) ?_ trivial
      · rw [List.mem_singleton.mp hp]; exact List.mem_cons_self
      · show DatAll _ _ _
        rw [packRows_take 50 hgi]
        have z := q3.length
        rw [z, List.take_length] at hD6
        exact hD6
  · rw [hgl, List.take_length] at hF
    change Fr g2 C h4 m4 at F4
    change News g2 C h4 ((D, lst ys) :: V) at N4
    have ltD : ∀ a o, h1.get? a = some o → (a : Nat) < D := fun a o e => Nat.lt_of_lt_of_le (Heap.lt_size (hk2 a o e)) hD2'
    have kk : h1.StaysIn h5 := fun a o e => (sb5.2 a (Nat.ne_of_lt (Nat.lt_trans (ltD a o e) hC3))).trans (F4.keep _ _ (st1 _ _ e))
    have hB : Born h1 h5 ((D, lst ys) :: V) := fun p hp => by
      have z := N4 p hp
      refine ⟨(sb5.2 p.1 z.2.1).trans z.1, ?_⟩
      show h1.get? p.1 = none
      cases e : h1.get? p.1 with
      | none => rfl
      | some o =>
        have := st1 _ _ e
        rw [z.2.2] at this; cases this
    have N5 := news_app F1 N1 kk hB
    have F5 := Fr.keeps F1 kk
    have hwo : ∀ r ∈ packRows 50 gs, PyData.strOk r.2.1 = true := fun r hr => by
      unfold packRows at hr
      obtain ⟨q, _, hq⟩ := List.mem_flatMap.mp hr
      unfold grpRows at hq
      obtain ⟨z, _, rfl⟩ := List.mem_map.mp hq
      show PyData.strOk (Str.ofString "packed") = true
      decide +kernel
    clear F4 N4 F3 N3 hB
    k_steps
    refine ⟨kqd_ne (oa := W.listOf (List.toArray ys1) n1) (ob := lst ys) N5 (by first | walk_at "mm" | simp [hr1]) rfl rfl hD1 (fun p hp => by first | walk_at "mm" | simp [hp]) (by first | walk_at "mm" | simp) rfl rfl hF (fun p hp => by first | walk_at "mm" | simp [hp]) (datR_ok hwo) (datR_ok hwo) (by have := R.un; omega) ?_⟩
    rw [dec_self]
    have N5 : News g L h5 ((L + 1 + 1 + 1 + 1 + 1 + 1 + 1, cc) :: (L + 1 + 1 + 1 + 1 + 1 + 1, cg) :: (L + 1 + 1 + 1 + 1 + 1, cn) :: (L + 1 + 1 + 1 + 1, cs) :: (L + 1 + 1 + 1, cf) :: (L + 1 + 1, ce) :: (L + 1, cp) :: (pen, p1) :: (cells, p2) :: tl1) := fun p hp => N5 p (List.mem_append_right _ hp)
    k_steps
    exact K _ rfl rfl ⟨⟨cc, cg, cn, cs, cf, ce, cp⟩, pen, cells, p1, p2, tl1, _, _, _, _, _, _, _, ⟨F5, N5, off1, AP, P⟩, ⟨y1, y2, y3, y4, y5, y6, y7⟩⟩
end S_OLaw16
section S_OLaw17
theorem reg65 : True := by
  k_with_none
  k_with "mm" => ((repeat' (first | (with_reducible exact List.mem_cons_self) | (with_reducible assumption) | (with_reducible refine List.mem_cons_of_mem _ ?_))); done)
  k_with "sub" => ((repeat' (first | (with_reducible exact sub_nil _) | (with_reducible refine sub_cons ?_ ?_) | (with_reducible exact List.mem_cons_self) | (with_reducible refine List.mem_cons_of_mem _ ?_) | (with_reducible assumption) | (intro p9 hp9))); done)
  k_with "v_sees" => first | exact Sees.keep (by assumption) (Fr.keep (by k_asm)) | exact Sees.sub (News.sees (by k_asm)) (fun _ h => by first | exact h | (refine List.mem_cons_of_mem _ ?_; exact h) | (refine List.mem_cons_of_mem _ (List.mem_cons_of_mem _ ?_); exact h))
  k_with "eval Name" => (k_here; (with_reducible show wpAny _ _ (eval (Expr.Name _ _) (compEnvC _ _ _ _)) _ _ _); k_dflt (first | (refine' nameB_L ?zqF ?zqv ?_ ?zqa ?zqb; (case zqF => k_asm); (case zqv => assumption); (case zqa => rfl); (case zqb => rfl)) | (refine' nameB_C ?zqF ?zqc ?zqo ?zqd ?_ ?zqa ?zqb; (case zqF => k_asm); (case zqa => rfl); (case zqb => rfl); (case zqc => rfl); (case zqo => assumption); (case zqd => assumption)) | (refine' nameB_G ?zqF ?zqX ?zqT ?zqe ?_ ?zqg ?zqa ?zqb; (case zqF => k_asm); (case zqX => k_asm); (case zqT => k_asm); (case zqg => rfl); (case zqa => rfl); (case zqb => rfl); (case zqe => k_is)) | (refine' nameB_B ?zqF ?zqX ?zqT ?zqe ?zqv ?zqn ?_ ?zqg ?zqh ?zqa ?zqb; (case zqF => k_asm); (case zqX => k_asm); (case zqT => k_asm); (case zqg => rfl); (case zqh => rfl); (case zqa => rfl); (case zqb => rfl); (case zqe => k_is); (case zqv => boot_fast); (case zqn => decide))))
  k_with "getAttr ref" => (k_here; (with_reducible show wpAny _ _ (getAttr (Value.ref _) (PySem.Str.ofString "way") _) _ _ _); k_dflt (refine' ent_way ?zqF ?zqX ?zqS ?zqx ?_; (case zqx => assumption); (case zqF => k_asm); (case zqX => k_asm); (case zqS => walk_at "v_sees")); intro _)
  k_with "getAttr ref" => (k_here; (with_reducible show wpAny _ _ (getAttr (Value.ref _) (PySem.Str.ofString "one") _) _ _ _); k_dflt (refine' ent_one ?zqF ?zqX ?zqS ?zqx ?_; (case zqx => assumption); (case zqF => k_asm); (case zqX => k_asm); (case zqS => walk_at "v_sees")); intro _)
  k_with "getAttr ref" => (k_here; (with_reducible show wpAny _ _ (getAttr (Value.ref _) (PySem.Str.ofString "two") _) _ _ _); k_dflt (refine' ent_two ?zqF ?zqX ?zqS ?zqx ?_; (case zqx => assumption); (case zqF => k_asm); (case zqX => k_asm); (case zqS => walk_at "v_sees")); intro _)
  k_with "getMethod ref" => (k_here; (with_reducible show wpAny _ _ (getMethod (Value.ref _) (PySem.Str.ofString "told") _) _ _ _); k_dflt (refine' ent_told ?zqF ?zqX ?zqS ?zqx ?_; (case zqx => assumption); (case zqF => k_asm); (case zqX => k_asm); (case zqS => walk_at "v_sees")))
  k_with "call builtin:sorted" => (k_here; (with_reducible show wpAny _ _ (call (Value.builtin _) [Value.ref _]) _ _ _); k_dflt (refine' sorted_edict ?zqhh ?zqS ?zqD ?zqF ?zqN ?zqz ?_; (case zqhh => first | assumption | exact Rm.hd_deeper (by assumption) _); (case zqD => assumption); (case zqF => k_asm); (case zqN => k_asm); (case zqS => walk_at "v_sees"); (case zqz => omega)); intro _ _ _ _ _ _ _ _ _ _ _ _; (try k_sweep))
  k_with "subscriptTail" => (k_here; (with_reducible show wpAny _ _ (subscriptTail _ _ (Value.ref _) (Value.int _ _)) _ _ _); k_dflt (refine' edict_item ?zqS ?zqD ?zqv ?_; (case zqD => assumption); (case zqv => assumption); (case zqS => walk_at "v_sees")))
  k_with "call ref" => (k_here; k_dflt (refine' told_use ?zqR ?zqX ?zqT ?zqF ?zqN ?zqS ?zqEn ?_; (case zqEn => assumption); (case zqR => first | exact Rm.less (by assumption) (by omega) (by omega) | exact Rm.deeper (Rm.less (by assumption) (by omega) (by omega)) _); (case zqX => k_asm); (case zqT => k_asm); (case zqF => k_asm); (case zqN => k_asm); (case zqS => walk_at "v_sees")); intro _ _ _ _ _ _ _ _ _; (try k_sweep))
  k_with "eval ListComp" => (k_here; k_dflt (refine' comp_raw ?zqcl ?zqce ?zqk ?zqn ?zqx ?_; (case zqcl => exact rfl); (case zqce => decide); (case zqk => rfl); (case zqn => decide); (case zqx => rfl)))
  k_with "exec For Name Call cons nil" => (k_here; k_dflt (refine for_raw (by rfl) (by rfl) ?_))
  k_with "exec For Name Name cons nil" => (k_here; k_dflt (refine for_raw (by rfl) (by rfl) ?_))
  k_with "call ref" => (k_here; k_dflt (refine' entry_use ?zqR ?zqX ?zqT ?zqF ?zqN ?_; (case zqR => exact Rm.deeper (Rm.less (by assumption) (by omega) (by omega)) _); (case zqX => k_asm); (case zqT => k_asm); (case zqF => k_asm); (case zqN => k_asm)); intro _ _ _ _ _ _ _ _ _ _ _ _ _ _ _ _ _; rename_i l1 l2 gw' g1' g2' gt'; (try k_lt l1); (try k_lt2 l2); (try k_sweep); revert l1 l2 gw' g1' g2' gt'; intro _ _ _ _ _ _)
  k_with "setItem ref int ref" => (k_here; k_dflt (refine' dict_set_K ?zqF ?zqN ?zqU ?zqhd ?zqhz ?_; (case zqF => k_asm); (case zqN => k_asm); (case zqU => k_updF); (case zqhd => assumption); (case zqhz => assumption)); intro _ _ _ _ _; rename_i N' hd'; (try dsimp only at N'); (try k_sweep); revert N' hd'; intro _ _)
  k_with "getMethod ref" => (k_here; (with_reducible show wpAny _ _ (getMethod (Value.ref _) (PySem.Str.ofString "get") _) _ _ _); k_dflt (refine' get_method ?zqS ?zqD ?_; (case zqD => first | assumption | exact EDict.dict (by assumption)); (case zqS => walk_at "v_sees")))
  k_with "call builtin:dict.get" => (k_here; (with_reducible show wpAny _ _ (call (Value.builtin _) [Value.ref _, Value.int _ _, Value.int _ _]) _ _ _); k_dflt (refine' get0_raw ?zqS ?zqD ?zqhg ?_; (case zqD => assumption); (case zqhg => assumption); (case zqS => walk_at "v_sees")); intro _)
  k_with "exec Assign cons ListComp" => (k_here; k_dflt (refine' comp_assign ?zqsw ?zqcl ?zqce ?zqk ?zqn ?zqx ?zqy ?zqp ?_; (case zqsw => rfl); (case zqcl => exact rfl); (case zqce => decide); (case zqk => rfl); (case zqn => decide); (case zqx => rfl); (case zqy => rfl); (case zqp => rfl)))
  k_with "compareOp NotIn int ref" => (k_here; k_dflt (refine' edict_notin ?zqS ?zqD ?_; (case zqD => assumption); (case zqS => walk_at "v_sees")))
  k_with "compareOp In int ref" => (k_here; k_dflt (refine' edict_in ?zqS ?zqD ?_; (case zqD => assumption); (case zqS => walk_at "v_sees")))
  k_with "unpackItems ref" => (k_here; k_dflt (refine' unpackItemsN_ ?zqk1 ?zqk2 ?zqk3 ?zqk4 ?zqk5 ?_; (case zqk1 => k_asm); (case zqk2 => k_asm); (case zqk3 => kun_tup); (case zqk4 => first | assumption | exact Rm.hd_deeper (by assumption) _); (case zqk5 => exact rfl); k_whole); intro _ _ _; (try k_sweep))
  k_with "assign Tuple" => (k_here; (with_reducible show wpAny _ _ (assign (Expr.Tuple _ _ _) _ (Value.ref _)) _ _ _); k_dflt (refine' unpackN_ ?zqk1 ?zqk2 ?zqk3 ?zqk4 ?zqk5 ?zqk6 ?_; (case zqk1 => k_asm); (case zqk2 => k_asm); (case zqk3 => first | kun_tup | exact tup_sees (by assumption) (by walk_at "v_sees")); (case zqk4 => first | assumption | exact Rm.hd_deeper (by assumption) _); (case zqk5 => exact rfl); (case zqk6 => exact rfl); k_whole); intro _ _ _; (try k_sweep))
  k_with "getAttr ref" => (k_here; (with_reducible show wpAny _ _ (getAttr (Value.ref _) (PySem.Str.ofString "way") _) _ _ _); k_dflt (refine' ent_way' ?zqF ?zqX ?zqS ?zqx ?zqv ?_; (case zqx => assumption); (case zqv => assumption); (case zqF => k_asm); (case zqX => k_asm); (case zqS => walk_at "v_sees")); intro _)
  k_with "getAttr ref" => (k_here; (with_reducible show wpAny _ _ (getAttr (Value.ref _) (PySem.Str.ofString "one") _) _ _ _); k_dflt (refine' ent_one' ?zqF ?zqX ?zqS ?zqx ?zqv ?_; (case zqx => assumption); (case zqv => assumption); (case zqF => k_asm); (case zqX => k_asm); (case zqS => walk_at "v_sees")); intro _)
  k_with "getAttr ref" => (k_here; (with_reducible show wpAny _ _ (getAttr (Value.ref _) (PySem.Str.ofString "two") _) _ _ _); k_dflt (refine' ent_two' ?zqF ?zqX ?zqS ?zqx ?zqv ?_; (case zqx => assumption); (case zqv => assumption); (case zqF => k_asm); (case zqX => k_asm); (case zqS => walk_at "v_sees")); intro _)
  k_with "call builtin:dict.get" => (k_here; (with_reducible show wpAny _ _ (call (Value.builtin _) [Value.ref _, Value.int _ _]) _ _ _); k_dflt (refine' edict_get ?zqS ?zqD ?zqv ?_; (case zqD => assumption); (case zqv => assumption); (case zqS => walk_at "v_sees")))
  k_with "rm_room" => first | exact Rm.less (by assumption) (by omega) (by omega) | exact Rm.deeper (Rm.less (by assumption) (by omega) (by omega)) _
  k_with "call ref" => (k_here; (with_reducible show wpAny _ _ (call (Value.ref 92) _) _ _ _); k_dflt (refine' fnum_use ?zqR ?zqX ?zqT ?zqF ?zqN ?zqS ?zqD ?zqC ?zqz ?zqo ?_; (case zqR => walk_at "rm_room"); (case zqX => k_asm); (case zqT => k_asm); (case zqF => k_asm); (case zqN => k_asm); (case zqD => assumption); (case zqS => walk_at "v_sees"); (case zqC => assumption); (case zqz => omega); (case zqo => assumption)); intro _ _ _ _ _ _ _ _ _; (try k_sweep))
  k_with "call ref" => (k_here; (with_reducible show wpAny _ _ (call (Value.ref 99) _) _ _ _); k_dflt (refine' chain_use ?zqR ?zqX ?zqT ?zqF ?zqN ?zqS ?zqD ?zqC ?zqz ?_; (case zqR => walk_at "rm_room"); (case zqX => k_asm); (case zqT => k_asm); (case zqF => k_asm); (case zqN => k_asm); (case zqD => assumption); (case zqS => walk_at "v_sees"); (case zqC => assumption); (case zqz => omega)); intro _ _ _ _ _ _ _ _ _; (try k_sweep))
  k_with "call ref" => (k_here; (with_reducible show wpAny _ _ (call (Value.ref 170) _) _ _ _); k_dflt (refine' ring_use ?zqR ?zqX ?zqT ?zqF ?zqN ?zqS ?zqD ?zqC ?zqz ?_; (case zqR => walk_at "rm_room"); (case zqX => k_asm); (case zqT => k_asm); (case zqF => k_asm); (case zqN => k_asm); (case zqD => assumption); (case zqS => walk_at "v_sees"); (case zqC => assumption); (case zqz => omega)); intro _ _ _ _ _ _ _ _ _; (try k_sweep))
  k_with "compareOp In int ref" => (k_here; k_dflt (refine' edict_in_b ?zqS ?zqD ?zqb ?_; (case zqD => assumption); (case zqb => assumption); (case zqS => walk_at "v_sees")))
  k_with "compareOp NotIn int ref" => (k_here; k_dflt (refine' edict_notin_b ?zqS ?zqD ?zqb ?_; (case zqD => assumption); (case zqb => assumption); (case zqS => walk_at "v_sees")))
  k_with "v_sees" => first | exact Sees.keep (by assumption) (Fr.keep (by k_asm)) | exact Sees.sub (News.sees (by k_asm)) (fun _ h => by repeat (first | exact h | refine List.mem_cons_of_mem _ ?_))
  k_with "call ref" => (k_here; (with_reducible show wpAny _ _ (call (Value.ref 144) _) _ _ _); k_dflt (refine' draw_use ?zqR ?zqX ?zqT ?zqF ?zqN ?zqP ?zqU1 ?zqU2 ?zqne ?zqlo ?zqhi ?_; (case zqR => walk_at "rm_room"); (case zqX => k_asm); (case zqT => k_asm); (case zqF => k_asm); (case zqN => k_asm); (case zqP => assumption); (case zqU1 => k_updF); (case zqU2 => (intro o9; (try dsimp only); k_updF)); (case zqne => assumption); (case zqlo => omega); (case zqhi => omega)); intro _ _ _ _ _ _ _ _ _ _ _; rename_i N'; (try dsimp only at N'); (try k_sweep); revert N'; intro _)
  trivial
def rowsOf (k : Nat) : List (Int × Int) := (List.range k).map fun (p : Nat) => (3 * (p : Int) + 1, (p : Int) % 3)
/-- the tuples of rows, over a ledger -/
def TripV (V : Led) (ys : List Value) (rs : List (Int × Int)) : Prop := ys.length = rs.length ∧ ∀ (i : Nat) (p : Int × Int), rs[i]? = some p → ∃ a t u, ys[i]? = some (.ref a) ∧ (a, ({ cls := .type "tuple", data := .seq #[.int p.1 t, .int p.2 u, .none] } : Obj)) ∈ V
theorem TripV.mono {V U : Led} {ys : List Value} {rs : List (Int × Int)} (x : TripV V ys rs) (s : ∀ p ∈ V, p ∈ U) : TripV U ys rs := ⟨x.1, fun i p h => let ⟨a, t, u, h1, h2⟩ := x.2 i p h; ⟨a, t, u, h1, s _ h2⟩⟩
theorem TripV.snoc {V : Led} {ys : List Value} {rs : List (Int × Int)} {r : Int × Int} {a : Addr} {t u : Tok} (x : TripV V ys rs) (h : (a, ({ cls := .type "tuple", data := .seq #[.int r.1 t, .int r.2 u, .none] } : Obj)) ∈ V) : TripV V (ys ++ [.ref a]) (rs ++ [r]) := by
  refine ⟨by simp [x.1], fun j p hj => ?_⟩
  rcases Nat.lt_or_ge j rs.length with q | q
  · rw [List.getElem?_append_left q] at hj
    rw [List.getElem?_append_left (by rw [x.1]; exact q)]
    exact x.2 j p hj
  · rw [List.getElem?_append_right q] at hj
    have hj0 : j - rs.length = 0 := by
      have := (List.getElem?_eq_some_iff.mp hj).1
      simp at this
      omega
    rw [hj0] at hj
    simp only [List.getElem?_cons_zero, Option.some.injEq] at hj
    subst hj
    rw [List.getElem?_append_right (by rw [x.1]; exact q), x.1, hj0]
    exact ⟨a, t, u, rfl, h⟩
inductive St20 (w : World) (g : Heap) (L : Addr) (s : Shared) : Prop
  | mk (c : C7) (pen cells : Addr) (o1 o2 : Obj) (tl : Led) (u : Str → Option Value) (ch gn nu sp fd en : Option Value) (rl : Addr) (k : Nat) (x0 : Core g L s c pen cells o1 o2 tl (fun z => if z = Str.ofString "rows" then some (.ref rl) else u z)) (x1 : c.Holds ch gn nu sp fd en (some (.ref pen))) (x2 : RowV tl rl (rowsOf k)) (x3 : k ≤ 4) : St20 w g L s
theorem law17 {w : World} {A : Around} {E : Value → Shared → Prop} {s : Shared} {Q : Flow → Shared → Prop} {g : Heap} {L fa : Addr} {cdv : Value} {sc : Scope} {l : List Str} {mg mb : Str → Option Value}
    (hsc : IsScope w sc) (R : Rm A 8 300) (X : (hd.heap_1 w.params).In g) (T : TopRead qv l mg mb g) (S : St16 w g L s)
    (K : ∀ s', s'.os = s.os → s'.gens = s.gens → St20 w g L s' → wpAny (model PR w) A (execs ((lawBody w).drop 20) (envOfC (Str.ofString "law") sc L fa cdv)) Q E s') :
    wpAny (model PR w) A (execs ((lawBody w).drop 19) (envOfC (Str.ofString "law") sc L fa cdv)) Q E s := by
  refine stage_cut (n := 19) (k := 1) (X := fun bd sc => (∀ s', s'.os = s.os → s'.gens = s.gens → St20 w g L s' → wpAny (model PR w) A (execs ((lawBody w).drop 20) (envOfC (Str.ofString "law") sc L fa cdv)) Q E s') → wpAny (model PR w) A (execs bd (envOfC (Str.ofString "law") sc L fa cdv)) Q E s) hsc (by k_is) (fun K => ?_) K
  simp only [List.drop_succ_cons, List.drop_zero, List.take_succ_cons, List.take_zero, List.cons_append, List.nil_append, Nat.zero_add]
  generalize List.drop 20 (lawBody w) = rest at K ⊢
  have hhA := R.hd
  obtain ⟨⟨cc, cg, cn, cs, cf, ce, cp⟩, pen, cells, p1, p2, tl, m0, zch, zgn, znu, sp, fd, en, ⟨F, N, off, AP, P⟩, ⟨y1, y2, y3, y4, y5, y6, y7⟩⟩ := S
  obtain ⟨⟨w0, w1, w2, w3, w4, w5, w6, w7⟩, ⟨v1, v2, v3, v4, v5, v6, v7⟩⟩ := AP.nat
  dsimp only [C7.led] at N y1 y2 y3 y4 y5 y6 y7
  dsimp only [adr9] at off
  k_steps
  rename_i r tr h1 tk1 q1 q2 hr0 hr1 P1 _ _ h2 tk2 ta tb tc hr F2 N2 _
  refine range_comp (σ := Unit) (fun c => []) [] (fun V c i ys => TripV V ys (rowsOf i)) () R.hd hr (by omega) (by omega) (by omega) (by omega) (fun _ => rfl) (fun p hp => nomatch hp) (fun V U c i ys h sub => h.mono sub) (fun V c i ys h => by
    have := h.1
    simp [rowsOf] at this
    omega) ⟨rfl, fun i p h => by simp [rowsOf] at h⟩ ?turn ?done
  case turn =>
    rintro c i t ys U tl' s' C h tk m g' rfl hC kp' hi hT sub off' hx F3 N3
    have st' : g.StaysIn g' := fun a o e => kp' a o (F2.keep a o e) (fun q => nomatch q)
    have X := X.keeps st'
    have T := T.keeps st'
    simp only [List.nil_append] at N3
    refine wpAny_tests_nil ?_
    simp only [if_true]
    k_steps
    rename_i D5 h5 F5 N5 l5
    simp only [Int.zero_add] at N5
    have fm : Int.fmod (i : Int) 3 = (i : Int) % 3 := Int.fmod_eq_emod_of_nonneg _ (by decide)
    refine (fun (key : ∀ (a b : Tok), News g' C h5 ((D5, { cls := .type "tuple", data := .seq #[.int (3 * (i : Int) + 1) a, .int (Int.fmod (i : Int) 3) b, .none] }) :: tl') → _) => key _ _ N5) (fun ta tb N5 => ?_)
    rw [fm] at N5
    refine CTurnEnd.intro F5 N5 () ((D5, { cls := .type "tuple", data := .seq #[.int (3 * (i : Int) + 1) ta, .int ((i : Int) % 3) tb, .none] }) :: U) (fun p hp => nomatch hp) (fun p hp => List.mem_cons_of_mem _ hp) (fun p hp => ⟨?_, ?_, fun q => nomatch q⟩) ?_
    · rcases List.mem_cons.mp hp with rfl | hp
      · exact List.mem_cons_self
      · exact List.mem_cons_of_mem _ (sub _ hp)
    · rcases List.mem_cons.mp hp with rfl | hp
      · exact .inr fun q hq => Nat.ne_of_lt (l5 q hq)
      · exact .inl hp
    · show TripV _ _ _
      unfold rowsOf
      rw [List.range_succ, List.map_append]
      exact (hT.mono fun p hp => List.mem_cons_of_mem _ hp).snoc (r := (3 * (i : Int) + 1, (i : Int) % 3)) List.mem_cons_self
  case done =>
    rintro c U C D ys h tk s₂ hT hE' hK hB hC hCD hVC ⟨o, rfl⟩
    refine assign_end F2 hE' (fun q => nomatch q) (fun a q => nomatch q) hB hC hCD hVC fun h' F3 e3 B3 => ?_
    have F3 : Fr g L h' (fun z => if z = Str.ofString "rows" then some (.ref D) else m0 z) := F3
    obtain ⟨tl6, N6, off6, s6, t6⟩ := call_step_as (c := ⟨cc, cg, cn, cs, cf, ce, cp⟩) (o1 := q1) (o2 := q2) (o1' := q1) (o2' := q2) (W := []) F2 N2 (by first | walk_at "sub" | exact (fun p hp => by (simp only [List.mem_cons, List.not_mem_nil, or_false] at hp ⊢; rcases hp with h | h | h | h | h | h | h | h | h <;> simp [h]))) F3 e3 (fun a ha => nomatch ha) B3 (e3 _ _ (N2 (pen, q1) (by first | walk_at "mm" | simp)).1 fun q => (N2 (pen, q1) (by first | walk_at "mm" | simp)).2.1 (List.mem_singleton.mp q)) (e3 _ _ (N2 (cells, q2) (by first | walk_at "mm" | simp)).1 fun q => (N2 (cells, q2) (by first | walk_at "mm" | simp)).2.1 (List.mem_singleton.mp q)) AP.p AP.c
    dsimp only [C7.led] at N6
    exact K _ rfl rfl ⟨⟨cc, cg, cn, cs, cf, ce, cp⟩, pen, cells, q1, q2, tl6, m0, zch, zgn, znu, sp, fd, en, D, (r - 0).toNat, ⟨F3, N6, off6, AP, P1⟩, ⟨y1, y2, y3, y4, y5, y6, y7⟩, ⟨ys, _, s6 _ List.mem_cons_self, hT.1, (hT.mono fun p hp => s6 _ (List.mem_cons_of_mem _ hp)).2⟩, by omega⟩
end S_OLaw17
section S_OLaw18
theorem reg66 : True := by
  k_with_none
  k_with "mm" => ((repeat' (first | (with_reducible exact List.mem_cons_self) | (with_reducible assumption) | (with_reducible refine List.mem_cons_of_mem _ ?_))); done)
  k_with "sub" => ((repeat' (first | (with_reducible exact sub_nil _) | (with_reducible refine sub_cons ?_ ?_) | (with_reducible exact List.mem_cons_self) | (with_reducible refine List.mem_cons_of_mem _ ?_) | (with_reducible assumption) | (intro p9 hp9))); done)
  k_with "v_sees" => first | exact Sees.keep (by assumption) (Fr.keep (by k_asm)) | exact Sees.sub (News.sees (by k_asm)) (fun _ h => by first | exact h | (refine List.mem_cons_of_mem _ ?_; exact h) | (refine List.mem_cons_of_mem _ (List.mem_cons_of_mem _ ?_); exact h))
  k_with "eval Name" => (k_here; (with_reducible show wpAny _ _ (eval (Expr.Name _ _) (compEnvC _ _ _ _)) _ _ _); k_dflt (first | (refine' nameB_L ?zqF ?zqv ?_ ?zqa ?zqb; (case zqF => k_asm); (case zqv => assumption); (case zqa => rfl); (case zqb => rfl)) | (refine' nameB_C ?zqF ?zqc ?zqo ?zqd ?_ ?zqa ?zqb; (case zqF => k_asm); (case zqa => rfl); (case zqb => rfl); (case zqc => rfl); (case zqo => assumption); (case zqd => assumption)) | (refine' nameB_G ?zqF ?zqX ?zqT ?zqe ?_ ?zqg ?zqa ?zqb; (case zqF => k_asm); (case zqX => k_asm); (case zqT => k_asm); (case zqg => rfl); (case zqa => rfl); (case zqb => rfl); (case zqe => k_is)) | (refine' nameB_B ?zqF ?zqX ?zqT ?zqe ?zqv ?zqn ?_ ?zqg ?zqh ?zqa ?zqb; (case zqF => k_asm); (case zqX => k_asm); (case zqT => k_asm); (case zqg => rfl); (case zqh => rfl); (case zqa => rfl); (case zqb => rfl); (case zqe => k_is); (case zqv => boot_fast); (case zqn => decide))))
  k_with "getAttr ref" => (k_here; (with_reducible show wpAny _ _ (getAttr (Value.ref _) (PySem.Str.ofString "way") _) _ _ _); k_dflt (refine' ent_way ?zqF ?zqX ?zqS ?zqx ?_; (case zqx => assumption); (case zqF => k_asm); (case zqX => k_asm); (case zqS => walk_at "v_sees")); intro _)
  k_with "getAttr ref" => (k_here; (with_reducible show wpAny _ _ (getAttr (Value.ref _) (PySem.Str.ofString "one") _) _ _ _); k_dflt (refine' ent_one ?zqF ?zqX ?zqS ?zqx ?_; (case zqx => assumption); (case zqF => k_asm); (case zqX => k_asm); (case zqS => walk_at "v_sees")); intro _)
  k_with "getAttr ref" => (k_here; (with_reducible show wpAny _ _ (getAttr (Value.ref _) (PySem.Str.ofString "two") _) _ _ _); k_dflt (refine' ent_two ?zqF ?zqX ?zqS ?zqx ?_; (case zqx => assumption); (case zqF => k_asm); (case zqX => k_asm); (case zqS => walk_at "v_sees")); intro _)
  k_with "getMethod ref" => (k_here; (with_reducible show wpAny _ _ (getMethod (Value.ref _) (PySem.Str.ofString "told") _) _ _ _); k_dflt (refine' ent_told ?zqF ?zqX ?zqS ?zqx ?_; (case zqx => assumption); (case zqF => k_asm); (case zqX => k_asm); (case zqS => walk_at "v_sees")))
  k_with "call builtin:sorted" => (k_here; (with_reducible show wpAny _ _ (call (Value.builtin _) [Value.ref _]) _ _ _); k_dflt (refine' sorted_edict ?zqhh ?zqS ?zqD ?zqF ?zqN ?zqz ?_; (case zqhh => first | assumption | exact Rm.hd_deeper (by assumption) _); (case zqD => assumption); (case zqF => k_asm); (case zqN => k_asm); (case zqS => walk_at "v_sees"); (case zqz => omega)); intro _ _ _ _ _ _ _ _ _ _ _ _; (try k_sweep))
  k_with "subscriptTail" => (k_here; (with_reducible show wpAny _ _ (subscriptTail _ _ (Value.ref _) (Value.int _ _)) _ _ _); k_dflt (refine' edict_item ?zqS ?zqD ?zqv ?_; (case zqD => assumption); (case zqv => assumption); (case zqS => walk_at "v_sees")))
  k_with "call ref" => (k_here; k_dflt (refine' told_use ?zqR ?zqX ?zqT ?zqF ?zqN ?zqS ?zqEn ?_; (case zqEn => assumption); (case zqR => first | exact Rm.less (by assumption) (by omega) (by omega) | exact Rm.deeper (Rm.less (by assumption) (by omega) (by omega)) _); (case zqX => k_asm); (case zqT => k_asm); (case zqF => k_asm); (case zqN => k_asm); (case zqS => walk_at "v_sees")); intro _ _ _ _ _ _ _ _ _; (try k_sweep))
  k_with "eval ListComp" => (k_here; k_dflt (refine' comp_raw ?zqcl ?zqce ?zqk ?zqn ?zqx ?_; (case zqcl => exact rfl); (case zqce => decide); (case zqk => rfl); (case zqn => decide); (case zqx => rfl)))
  k_with "exec For Name Call cons nil" => (k_here; k_dflt (refine for_raw (by rfl) (by rfl) ?_))
  k_with "exec For Name Name cons nil" => (k_here; k_dflt (refine for_raw (by rfl) (by rfl) ?_))
  k_with "call ref" => (k_here; k_dflt (refine' entry_use ?zqR ?zqX ?zqT ?zqF ?zqN ?_; (case zqR => exact Rm.deeper (Rm.less (by assumption) (by omega) (by omega)) _); (case zqX => k_asm); (case zqT => k_asm); (case zqF => k_asm); (case zqN => k_asm)); intro _ _ _ _ _ _ _ _ _ _ _ _ _ _ _ _ _; rename_i l1 l2 gw' g1' g2' gt'; (try k_lt l1); (try k_lt2 l2); (try k_sweep); revert l1 l2 gw' g1' g2' gt'; intro _ _ _ _ _ _)
  k_with "setItem ref int ref" => (k_here; k_dflt (refine' dict_set_K ?zqF ?zqN ?zqU ?zqhd ?zqhz ?_; (case zqF => k_asm); (case zqN => k_asm); (case zqU => k_updF); (case zqhd => assumption); (case zqhz => assumption)); intro _ _ _ _ _; rename_i N' hd'; (try dsimp only at N'); (try k_sweep); revert N' hd'; intro _ _)
  k_with "getMethod ref" => (k_here; (with_reducible show wpAny _ _ (getMethod (Value.ref _) (PySem.Str.ofString "get") _) _ _ _); k_dflt (refine' get_method ?zqS ?zqD ?_; (case zqD => first | assumption | exact EDict.dict (by assumption)); (case zqS => walk_at "v_sees")))
  k_with "call builtin:dict.get" => (k_here; (with_reducible show wpAny _ _ (call (Value.builtin _) [Value.ref _, Value.int _ _, Value.int _ _]) _ _ _); k_dflt (refine' get0_raw ?zqS ?zqD ?zqhg ?_; (case zqD => assumption); (case zqhg => assumption); (case zqS => walk_at "v_sees")); intro _)
  k_with "exec Assign cons ListComp" => (k_here; k_dflt (refine' comp_assign ?zqsw ?zqcl ?zqce ?zqk ?zqn ?zqx ?zqy ?zqp ?_; (case zqsw => rfl); (case zqcl => exact rfl); (case zqce => decide); (case zqk => rfl); (case zqn => decide); (case zqx => rfl); (case zqy => rfl); (case zqp => rfl)))
  k_with "compareOp NotIn int ref" => (k_here; k_dflt (refine' edict_notin ?zqS ?zqD ?_; (case zqD => assumption); (case zqS => walk_at "v_sees")))
  k_with "compareOp In int ref" => (k_here; k_dflt (refine' edict_in ?zqS ?zqD ?_; (case zqD => assumption); (case zqS => walk_at "v_sees")))
  k_with "unpackItems ref" => (k_here; k_dflt (refine' unpackItemsN_ ?zqk1 ?zqk2 ?zqk3 ?zqk4 ?zqk5 ?_; (case zqk1 => k_asm); (case zqk2 => k_asm); (case zqk3 => kun_tup); (case zqk4 => first | assumption | exact Rm.hd_deeper (by assumption) _); (case zqk5 => exact rfl); k_whole); intro _ _ _; (try k_sweep))
  k_with "assign Tuple" => (k_here; (with_reducible show wpAny _ _ (assign (Expr.Tuple _ _ _) _ (Value.ref _)) _ _ _); k_dflt (refine' unpackN_ ?zqk1 ?zqk2 ?zqk3 ?zqk4 ?zqk5 ?zqk6 ?_; (case zqk1 => k_asm); (case zqk2 => k_asm); (case zqk3 => first | kun_tup | exact tup_sees (by assumption) (by walk_at "v_sees")); (case zqk4 => first | assumption | exact Rm.hd_deeper (by assumption) _); (case zqk5 => exact rfl); (case zqk6 => exact rfl); k_whole); intro _ _ _; (try k_sweep))
  k_with "getAttr ref" => (k_here; (with_reducible show wpAny _ _ (getAttr (Value.ref _) (PySem.Str.ofString "way") _) _ _ _); k_dflt (refine' ent_way' ?zqF ?zqX ?zqS ?zqx ?zqv ?_; (case zqx => assumption); (case zqv => assumption); (case zqF => k_asm); (case zqX => k_asm); (case zqS => walk_at "v_sees")); intro _)
  k_with "getAttr ref" => (k_here; (with_reducible show wpAny _ _ (getAttr (Value.ref _) (PySem.Str.ofString "one") _) _ _ _); k_dflt (refine' ent_one' ?zqF ?zqX ?zqS ?zqx ?zqv ?_; (case zqx => assumption); (case zqv => assumption); (case zqF => k_asm); (case zqX => k_asm); (case zqS => walk_at "v_sees")); intro _)
  k_with "getAttr ref" => (k_here; (with_reducible show wpAny _ _ (getAttr (Value.ref _) (PySem.Str.ofString "two") _) _ _ _); k_dflt (refine' ent_two' ?zqF ?zqX ?zqS ?zqx ?zqv ?_; (case zqx => assumption); (case zqv => assumption); (case zqF => k_asm); (case zqX => k_asm); (case zqS => walk_at "v_sees")); intro _)
  k_with "call builtin:dict.get" => (k_here; (with_reducible show wpAny _ _ (call (Value.builtin _) [Value.ref _, Value.int _ _]) _ _ _); k_dflt (refine' edict_get ?zqS ?zqD ?zqv ?_; (case zqD => assumption); (case zqv => assumption); (case zqS => walk_at "v_sees")))
  k_with "rm_room" => first | exact Rm.less (by assumption) (by omega) (by omega) | exact Rm.deeper (Rm.less (by assumption) (by omega) (by omega)) _
  k_with "call ref" => (k_here; (with_reducible show wpAny _ _ (call (Value.ref 92) _) _ _ _); k_dflt (refine' fnum_use ?zqR ?zqX ?zqT ?zqF ?zqN ?zqS ?zqD ?zqC ?zqz ?zqo ?_; (case zqR => walk_at "rm_room"); (case zqX => k_asm); (case zqT => k_asm); (case zqF => k_asm); (case zqN => k_asm); (case zqD => assumption); (case zqS => walk_at "v_sees"); (case zqC => assumption); (case zqz => omega); (case zqo => assumption)); intro _ _ _ _ _ _ _ _ _; (try k_sweep))
  k_with "call ref" => (k_here; (with_reducible show wpAny _ _ (call (Value.ref 99) _) _ _ _); k_dflt (refine' chain_use ?zqR ?zqX ?zqT ?zqF ?zqN ?zqS ?zqD ?zqC ?zqz ?_; (case zqR => walk_at "rm_room"); (case zqX => k_asm); (case zqT => k_asm); (case zqF => k_asm); (case zqN => k_asm); (case zqD => assumption); (case zqS => walk_at "v_sees"); (case zqC => assumption); (case zqz => omega)); intro _ _ _ _ _ _ _ _ _; (try k_sweep))
  k_with "call ref" => (k_here; (with_reducible show wpAny _ _ (call (Value.ref 170) _) _ _ _); k_dflt (refine' ring_use ?zqR ?zqX ?zqT ?zqF ?zqN ?zqS ?zqD ?zqC ?zqz ?_; (case zqR => walk_at "rm_room"); (case zqX => k_asm); (case zqT => k_asm); (case zqF => k_asm); (case zqN => k_asm); (case zqD => assumption); (case zqS => walk_at "v_sees"); (case zqC => assumption); (case zqz => omega)); intro _ _ _ _ _ _ _ _ _; (try k_sweep))
  k_with "compareOp In int ref" => (k_here; k_dflt (refine' edict_in_b ?zqS ?zqD ?zqb ?_; (case zqD => assumption); (case zqb => assumption); (case zqS => walk_at "v_sees")))
  k_with "compareOp NotIn int ref" => (k_here; k_dflt (refine' edict_notin_b ?zqS ?zqD ?zqb ?_; (case zqD => assumption); (case zqb => assumption); (case zqS => walk_at "v_sees")))
  k_with "v_sees" => first | exact Sees.keep (by assumption) (Fr.keep (by k_asm)) | exact Sees.sub (News.sees (by k_asm)) (fun _ h => by repeat (first | exact h | refine List.mem_cons_of_mem _ ?_))
  k_with "call ref" => (k_here; (with_reducible show wpAny _ _ (call (Value.ref 144) _) _ _ _); k_dflt (refine' draw_use ?zqR ?zqX ?zqT ?zqF ?zqN ?zqP ?zqU1 ?zqU2 ?zqne ?zqlo ?zqhi ?_; (case zqR => walk_at "rm_room"); (case zqX => k_asm); (case zqT => k_asm); (case zqF => k_asm); (case zqN => k_asm); (case zqP => assumption); (case zqU1 => k_updF); (case zqU2 => (intro o9; (try dsimp only); k_updF)); (case zqne => assumption); (case zqlo => omega); (case zqhi => omega)); intro _ _ _ _ _ _ _ _ _ _ _; rename_i N'; (try dsimp only at N'); (try k_sweep); revert N'; intro _)
  k_with "call type:dict" => (refine Held.use ?_)
  k_with "subscriptTail" => (k_here; (with_reducible show wpAny _ _ (subscriptTail _ _ (Value.ref _) (Value.int _ _)) _ _ _); k_dflt (refine' item_tupleT ?zqt ?zqlo ?zqhi ?zqj ?zqx ?_; (case zqt => exact IsTup.keeps (by assumption) (Fr.keep (by k_asm))); (case zqlo => decide); (case zqhi => decide); (case zqj => exact rfl); (case zqx => exact rfl)))
  trivial
theorem rows_keys (k : Nat) : ((rowsOf k).map (·.1)).Pairwise (· < ·) := by
  unfold rowsOf
  rw [List.map_map, List.pairwise_map]
  exact List.pairwise_lt_range.imp fun h => by simp only [Function.comp]; omega
theorem valueAt_key {kvs : List (Int × Value)} {k : Int} (h : k ∈ kvs.map fun (p : Int × Value) => p.1) : ∃ v, valueAt kvs k = some v ∧ (k, v) ∈ kvs := by
  obtain ⟨p, hp, e⟩ := List.mem_map.mp h
  unfold valueAt
  cases q : kvs.find? fun kv => decide (kv.1 = k) with
  | none =>
    have := List.find?_eq_none.mp q p hp
    simp [e] at this
  | some z =>
    have h1 := List.find?_some q
    have h2 := List.mem_of_find?_eq_some q
    have h3 : z.1 = k := of_decide_eq_true h1
    exact ⟨z.2, rfl, by rw [← h3]; exact h2⟩
inductive St21 (w : World) (g : Heap) (L : Addr) (s : Shared) : Prop
  | mk (c : C7) (pen cells : Addr) (o1 o2 : Obj) (tl : Led) (u : Str → Option Value) (ch gn nu sp fd en : Option Value) (rl ofd : Addr) (k : Nat) (okvs : List (Int × Value)) (x0 : Core g L s c pen cells o1 o2 tl (fun z => if z = Str.ofString "offsets" then some (.ref ofd) else if z = Str.ofString "rows" then some (.ref rl) else u z)) (x1 : c.Holds ch gn nu sp fd en (some (.ref pen))) (x2 : RowV tl rl (rowsOf k)) (x3 : k ≤ 4) (x4 : DictV w tl ofd okvs) (x5 : ∀ p ∈ rowsOf k, ∃ t, valueAt okvs p.1 = some (.int (7 * p.1) t)) : St21 w g L s
theorem law18 {w : World} {A : Around} {E : Value → Shared → Prop} {s : Shared} {Q : Flow → Shared → Prop} {g : Heap} {L fa : Addr} {cdv : Value} {sc : Scope} {l : List Str} {mg mb : Str → Option Value}
    (hsc : IsScope w sc) (R : Rm A 8 300) (X : (hd.heap_1 w.params).In g) (T : TopRead qv l mg mb g) (S : St20 w g L s)
    (K : ∀ s', s'.os = s.os → s'.gens = s.gens → St21 w g L s' → wpAny (model PR w) A (execs ((lawBody w).drop 21) (envOfC (Str.ofString "law") sc L fa cdv)) Q E s') :
    wpAny (model PR w) A (execs ((lawBody w).drop 20) (envOfC (Str.ofString "law") sc L fa cdv)) Q E s := by
  refine stage_cut (n := 20) (k := 1) (X := fun bd sc => (∀ s', s'.os = s.os → s'.gens = s.gens → St21 w g L s' → wpAny (model PR w) A (execs ((lawBody w).drop 21) (envOfC (Str.ofString "law") sc L fa cdv)) Q E s') → wpAny (model PR w) A (execs bd (envOfC (Str.ofString "law") sc L fa cdv)) Q E s) hsc (by k_is) (fun K => ?_) K
  simp only [List.drop_succ_cons, List.drop_zero, List.take_succ_cons, List.take_zero, List.cons_append, List.nil_append, Nat.zero_add]
  generalize List.drop 21 (lawBody w) = rest at K ⊢
  have hhA := R.hd
  obtain ⟨⟨cc, cg, cn, cs, cf, ce, cp⟩, pen, cells, p1, p2, tl, u, zch, zgn, znu, sp, fd, en, rl, kk, ⟨F, N, off, AP, P⟩, ⟨y1, y2, y3, y4, y5, y6, y7⟩, ⟨vsr, nr, hrm, hrl, hrr⟩, hk4⟩ := S
  obtain ⟨⟨w0, w1, w2, w3, w4, w5, w6, w7⟩, ⟨v1, v2, v3, v4, v5, v6, v7⟩⟩ := AP.nat
  dsimp only [C7.led] at N y1 y2 y3 y4 y5 y6 y7
  dsimp only [adr9] at off
  have hrk : (rowsOf kk).length = kk := by simp [rowsOf]
  k_steps
  have hr0 := N (rl, W.listOf (List.toArray vsr) nr) (by first | walk_at "mm" | simp [hrm])
  have st0 : Sees tl s.heap := Sees.sub (News.sees N) fun p hp => by first | walk_at "mm" | simp [hp]
  refine list_comp (σ := Unit) (vs := vsr) (fun _ => []) [] (fun V _ i ys => ∃ kvs : List (Int × Value), PairsV V ys kvs ∧ (kvs.map fun (p : Int × Value) => p.1) = ((rowsOf kk).take i).map (·.1) ∧ ∀ (p : Int × Value), p ∈ kvs → ∃ t, p.2 = .int (7 * p.1) t) () R.hd ⟨_, hr0.1, rfl, ⟨_, rfl⟩⟩ (fun q => nomatch q) (by omega) (fun _ => rfl) (fun p hp => nomatch hp) (fun V U c i ys ⟨kvs, h1, h2, h3⟩ sub => ⟨kvs, h1.mono sub, h2, h3⟩) (fun V c i ys ⟨kvs, h1, h2, h3⟩ => by
    have := congrArg List.length h2
    simp at this
    rw [h1.1]
    omega) ⟨[], PairsV.nil _, by simp, fun p hp => nomatch hp⟩ ?turn ?done
  case turn =>
    rintro c i v ys U tl' s' C h tk m g' rfl hC kp' hv ⟨kvs, hp, hkk, hvi⟩ sub off' hx F3 N3
    have st' : g.StaysIn g' := fun a o e => kp' a o (F.keep a o e) (fun q => nomatch q) fun q => by subst q; rw [hr0.2.2] at e; cases e
    have X := X.keeps st'
    have T := T.keeps st'
    have hi : i < (rowsOf kk).length := by rw [← hrl]; exact (List.getElem?_eq_some_iff.mp hv).1
    have hgi := List.getElem?_eq_getElem hi
    generalize (rowsOf kk)[i] = rw0 at hgi
    obtain ⟨a, t1, t2, q1, q2⟩ := hrr i rw0 hgi
    rw [hv] at q1
    have q1 := Option.some.inj q1
    subst q1
    have hta : IsTup g' a (List.toArray [.int rw0.1 t1, .int rw0.2 t2, .none]) := by
      refine ⟨_, kp' _ _ (st0 _ q2) (fun q => nomatch q) (fun q => ?_), rfl, 0, rfl⟩
      have z := st0 _ q2
      have q : a = rl := q
      rw [show ((a, ({ cls := .type "tuple", data := .seq #[.int rw0.1 t1, .int rw0.2 t2, .none] } : Obj)) : Addr × Obj).1 = a from rfl, q, hr0.1] at z
      exact absurd (congrArg Obj.cls (Option.some.inj z)) (fun z => by
        injection z with z
        exact absurd z (by decide))
    simp only [List.nil_append] at N3
    refine wpAny_tests_nil ?_
    simp only [if_true]
    k_steps
    rename_i D5 h5 F5 N5 l5
    refine (fun (key : ∀ (b : Tok), News g' C h5 ((D5, tup2 (.int rw0.1 t1) (.int (7 * rw0.1) b)) :: tl') → _) => key _ N5) (fun tb N5 => ?_)
    refine CTurnEnd.intro F5 N5 () ((D5, tup2 (.int rw0.1 t1) (.int (7 * rw0.1) tb)) :: U) (fun p hp => nomatch hp) (fun p hp => List.mem_cons_of_mem _ hp) (fun p hp => ⟨?_, ?_, fun q => nomatch q⟩) ⟨kvs ++ [(rw0.1, .int (7 * rw0.1) tb)], (hp.mono fun p hp => List.mem_cons_of_mem _ hp).snoc List.mem_cons_self, ?_, fun p hp' => ?_⟩
    · rcases List.mem_cons.mp hp with rfl | hp
      · exact List.mem_cons_self
      · exact List.mem_cons_of_mem _ (sub _ hp)
    · rcases List.mem_cons.mp hp with rfl | hp
      · exact .inr fun q hq => Nat.ne_of_lt (l5 q hq)
      · exact .inl hp
    · rw [List.map_append, hkk, List.take_add_one, hgi, List.map_append]
      rfl
    · rcases List.mem_append.mp hp' with hp' | hp'
      · exact hvi p hp'
      · rw [List.mem_singleton.mp hp']; exact ⟨_, rfl⟩
  case done =>
    rintro c U C D ys h tk s₂ ⟨kvs, hp, hkk, hvi⟩ hE' hK hB hC hCD hVC ⟨o, rfl⟩
    intro h' sb
    obtain ⟨e1, b1⟩ := comp_close hE' hB hC sb (fun p hp => by
      rcases List.mem_cons.mp hp with rfl | hp
      · exact hCD.symm
      · exact hVC p hp)
    obtain ⟨F3, tl3, N3, off3, s3, t3⟩ := call_still (c := ⟨cc, cg, cn, cs, cf, ce, cp⟩) (o1 := p1) (o2 := p2) AP F N (by first | walk_at "sub" | exact (fun p hp => by (simp only [List.mem_cons, List.not_mem_nil, or_false] at hp ⊢; rcases hp with h | h | h | h | h | h | h | h | h <;> simp [h]))) (fun p hp => by first | walk_at "mm" | simp [hp]) off e1 b1
    dsimp only [C7.led] at N3
    dsimp only [adr9] at off3
    have hm3 := s3 _ List.mem_cons_self
    have hp3 := hp.mono fun p hp => s3 p (List.mem_cons_of_mem _ hp)
    rw [hrl, List.take_length] at hkk
    clear hE' hB F N
    k_steps
    have hkn : (kvs.map fun (p : Int × Value) => p.1).Nodup := by
      rw [hkk]
      exact (rows_keys kk).imp fun h => Int.ne_of_lt h
    have hkl : kvs.length ≤ 5 := by
      have := congrArg List.length hkk
      simp at this
      omega
    refine ⟨dict_pairs (vs := ys) (n := ys.length) (kvs := kvs) hhA (N3 (D, lst ys) (by first | walk_at "mm" | simp [hm3])).1 hp3.1 (by omega) (hp3.at' (Sees.sub (News.sees N3) fun p hp => by first | walk_at "mm" | simp [hp])) fun h8 tk8 hd8 e8 => ?_⟩
    have lo8 := F3.notModules (modules_low T.nolimit)
    rw [stored_all (by simpa using hkn), List.nil_append] at hd8
    obtain ⟨o8, ho8, hdo8⟩ := Heap.dictOf_iff.mp hd8
    obtain ⟨F4, tl4, N4, off4, s4, t4⟩ := call_still (c := ⟨cc, cg, cn, cs, cf, ce, cp⟩) (o1 := p1) (o2 := p2) (nl := [(h'.objs.size, o8)]) AP F3 N3 (by first | walk_at "sub" | exact (fun p hp => by (simp only [List.mem_cons, List.not_mem_nil, or_false] at hp ⊢; rcases hp with h | h | h | h | h | h | h | h | h <;> simp [h]))) (fun p hp => by first | walk_at "mm" | simp [hp]) off3 e8 (fun p hp => by
        rw [List.mem_singleton.mp hp]
        exact ⟨ho8, New.of_le (Nat.le_refl _)⟩)
    dsimp only [C7.led] at N4
    have hm4 := s4 _ List.mem_cons_self
    clear F3 N3 hd8
    k_steps
    rename_i h5 F5 N5
    exact K _ rfl rfl ⟨⟨cc, cg, cn, cs, cf, ce, cp⟩, pen, cells, p1, p2, tl4, _, _, _, _, _, _, _, rl, h'.objs.size, kk, kvs, ⟨F5, N5, off4, AP, P⟩, ⟨y1, y2, y3, y4, y5, y6, y7⟩, ⟨vsr, nr, t4 _ (t3 _ hrm), hrl, fun i p hi => let ⟨a, t, u, q1, q2⟩ := hrr i p hi; ⟨a, t, u, q1, t4 _ (t3 _ q2)⟩⟩, hk4, ⟨lo8, o8, hm4, hdo8⟩, fun p hp => by
      obtain ⟨v, q1, q2⟩ := valueAt_key (kvs := kvs) (k := p.1) (by rw [hkk]; exact List.mem_map_of_mem hp)
      obtain ⟨t, q3⟩ := hvi _ q2
      exact ⟨t, by rw [q1]; exact congrArg some q3⟩⟩
end S_OLaw18
section S_OLaw19
theorem reg67 : True := by
  k_with_none
  k_with "mm" => ((repeat' (first | (with_reducible exact List.mem_cons_self) | (with_reducible assumption) | (with_reducible refine List.mem_cons_of_mem _ ?_))); done)
  k_with "sub" => ((repeat' (first | (with_reducible exact sub_nil _) | (with_reducible refine sub_cons ?_ ?_) | (with_reducible exact List.mem_cons_self) | (with_reducible refine List.mem_cons_of_mem _ ?_) | (with_reducible assumption) | (intro p9 hp9))); done)
  k_with "v_sees" => first | exact Sees.keep (by assumption) (Fr.keep (by k_asm)) | exact Sees.sub (News.sees (by k_asm)) (fun _ h => by first | exact h | (refine List.mem_cons_of_mem _ ?_; exact h) | (refine List.mem_cons_of_mem _ (List.mem_cons_of_mem _ ?_); exact h))
  k_with "eval Name" => (k_here; (with_reducible show wpAny _ _ (eval (Expr.Name _ _) (compEnvC _ _ _ _)) _ _ _); k_dflt (first | (refine' nameB_L ?zqF ?zqv ?_ ?zqa ?zqb; (case zqF => k_asm); (case zqv => assumption); (case zqa => rfl); (case zqb => rfl)) | (refine' nameB_C ?zqF ?zqc ?zqo ?zqd ?_ ?zqa ?zqb; (case zqF => k_asm); (case zqa => rfl); (case zqb => rfl); (case zqc => rfl); (case zqo => assumption); (case zqd => assumption)) | (refine' nameB_G ?zqF ?zqX ?zqT ?zqe ?_ ?zqg ?zqa ?zqb; (case zqF => k_asm); (case zqX => k_asm); (case zqT => k_asm); (case zqg => rfl); (case zqa => rfl); (case zqb => rfl); (case zqe => k_is)) | (refine' nameB_B ?zqF ?zqX ?zqT ?zqe ?zqv ?zqn ?_ ?zqg ?zqh ?zqa ?zqb; (case zqF => k_asm); (case zqX => k_asm); (case zqT => k_asm); (case zqg => rfl); (case zqh => rfl); (case zqa => rfl); (case zqb => rfl); (case zqe => k_is); (case zqv => boot_fast); (case zqn => decide))))
  k_with "getAttr ref" => (k_here; (with_reducible show wpAny _ _ (getAttr (Value.ref _) (PySem.Str.ofString "way") _) _ _ _); k_dflt (refine' ent_way ?zqF ?zqX ?zqS ?zqx ?_; (case zqx => assumption); (case zqF => k_asm); (case zqX => k_asm); (case zqS => walk_at "v_sees")); intro _)
  k_with "getAttr ref" => (k_here; (with_reducible show wpAny _ _ (getAttr (Value.ref _) (PySem.Str.ofString "one") _) _ _ _); k_dflt (refine' ent_one ?zqF ?zqX ?zqS ?zqx ?_; (case zqx => assumption); (case zqF => k_asm); (case zqX => k_asm); (case zqS => walk_at "v_sees")); intro _)
  k_with "getAttr ref" => (k_here; (with_reducible show wpAny _ _ (getAttr (Value.ref _) (PySem.Str.ofString "two") _) _ _ _); k_dflt (refine' ent_two ?zqF ?zqX ?zqS ?zqx ?_; (case zqx => assumption); (case zqF => k_asm); (case zqX => k_asm); (case zqS => walk_at "v_sees")); intro _)
  k_with "getMethod ref" => (k_here; (with_reducible show wpAny _ _ (getMethod (Value.ref _) (PySem.Str.ofString "told") _) _ _ _); k_dflt (refine' ent_told ?zqF ?zqX ?zqS ?zqx ?_; (case zqx => assumption); (case zqF => k_asm); (case zqX => k_asm); (case zqS => walk_at "v_sees")))
  k_with "call builtin:sorted" => (k_here; (with_reducible show wpAny _ _ (call (Value.builtin _) [Value.ref _]) _ _ _); k_dflt (refine' sorted_edict ?zqhh ?zqS ?zqD ?zqF ?zqN ?zqz ?_; (case zqhh => first | assumption | exact Rm.hd_deeper (by assumption) _); (case zqD => assumption); (case zqF => k_asm); (case zqN => k_asm); (case zqS => walk_at "v_sees"); (case zqz => omega)); intro _ _ _ _ _ _ _ _ _ _ _ _; (try k_sweep))
  k_with "subscriptTail" => (k_here; (with_reducible show wpAny _ _ (subscriptTail _ _ (Value.ref _) (Value.int _ _)) _ _ _); k_dflt (refine' edict_item ?zqS ?zqD ?zqv ?_; (case zqD => assumption); (case zqv => assumption); (case zqS => walk_at "v_sees")))
  k_with "call ref" => (k_here; k_dflt (refine' told_use ?zqR ?zqX ?zqT ?zqF ?zqN ?zqS ?zqEn ?_; (case zqEn => assumption); (case zqR => first | exact Rm.less (by assumption) (by omega) (by omega) | exact Rm.deeper (Rm.less (by assumption) (by omega) (by omega)) _); (case zqX => k_asm); (case zqT => k_asm); (case zqF => k_asm); (case zqN => k_asm); (case zqS => walk_at "v_sees")); intro _ _ _ _ _ _ _ _ _; (try k_sweep))
  k_with "eval ListComp" => (k_here; k_dflt (refine' comp_raw ?zqcl ?zqce ?zqk ?zqn ?zqx ?_; (case zqcl => exact rfl); (case zqce => decide); (case zqk => rfl); (case zqn => decide); (case zqx => rfl)))
  k_with "exec For Name Call cons nil" => (k_here; k_dflt (refine for_raw (by rfl) (by rfl) ?_))
  k_with "exec For Name Name cons nil" => (k_here; k_dflt (refine for_raw (by rfl) (by rfl) ?_))
  k_with "call ref" => (k_here; k_dflt (refine' entry_use ?zqR ?zqX ?zqT ?zqF ?zqN ?_; (case zqR => exact Rm.deeper (Rm.less (by assumption) (by omega) (by omega)) _); (case zqX => k_asm); (case zqT => k_asm); (case zqF => k_asm); (case zqN => k_asm)); intro _ _ _ _ _ _ _ _ _ _ _ _ _ _ _ _ _; rename_i l1 l2 gw' g1' g2' gt'; (try k_lt l1); (try k_lt2 l2); (try k_sweep); revert l1 l2 gw' g1' g2' gt'; intro _ _ _ _ _ _)
  k_with "setItem ref int ref" => (k_here; k_dflt (refine' dict_set_K ?zqF ?zqN ?zqU ?zqhd ?zqhz ?_; (case zqF => k_asm); (case zqN => k_asm); (case zqU => k_updF); (case zqhd => assumption); (case zqhz => assumption)); intro _ _ _ _ _; rename_i N' hd'; (try dsimp only at N'); (try k_sweep); revert N' hd'; intro _ _)
  k_with "getMethod ref" => (k_here; (with_reducible show wpAny _ _ (getMethod (Value.ref _) (PySem.Str.ofString "get") _) _ _ _); k_dflt (refine' get_method ?zqS ?zqD ?_; (case zqD => first | assumption | exact EDict.dict (by assumption)); (case zqS => walk_at "v_sees")))
  k_with "call builtin:dict.get" => (k_here; (with_reducible show wpAny _ _ (call (Value.builtin _) [Value.ref _, Value.int _ _, Value.int _ _]) _ _ _); k_dflt (refine' get0_raw ?zqS ?zqD ?zqhg ?_; (case zqD => assumption); (case zqhg => assumption); (case zqS => walk_at "v_sees")); intro _)
  k_with "exec Assign cons ListComp" => (k_here; k_dflt (refine' comp_assign ?zqsw ?zqcl ?zqce ?zqk ?zqn ?zqx ?zqy ?zqp ?_; (case zqsw => rfl); (case zqcl => exact rfl); (case zqce => decide); (case zqk => rfl); (case zqn => decide); (case zqx => rfl); (case zqy => rfl); (case zqp => rfl)))
  k_with "compareOp NotIn int ref" => (k_here; k_dflt (refine' edict_notin ?zqS ?zqD ?_; (case zqD => assumption); (case zqS => walk_at "v_sees")))
  k_with "compareOp In int ref" => (k_here; k_dflt (refine' edict_in ?zqS ?zqD ?_; (case zqD => assumption); (case zqS => walk_at "v_sees")))
  k_with "unpackItems ref" => (k_here; k_dflt (refine' unpackItemsN_ ?zqk1 ?zqk2 ?zqk3 ?zqk4 ?zqk5 ?_; (case zqk1 => k_asm); (case zqk2 => k_asm); (case zqk3 => kun_tup); (case zqk4 => first | assumption | exact Rm.hd_deeper (by assumption) _); (case zqk5 => exact rfl); k_whole); intro _ _ _; (try k_sweep))
  k_with "assign Tuple" => (k_here; (with_reducible show wpAny _ _ (assign (Expr.Tuple _ _ _) _ (Value.ref _)) _ _ _); k_dflt (refine' unpackN_ ?zqk1 ?zqk2 ?zqk3 ?zqk4 ?zqk5 ?zqk6 ?_; (case zqk1 => k_asm); (case zqk2 => k_asm); (case zqk3 => first | kun_tup | exact tup_sees (by assumption) (by walk_at "v_sees")); (case zqk4 => first | assumption | exact Rm.hd_deeper (by assumption) _); (case zqk5 => exact rfl); (case zqk6 => exact rfl); k_whole); intro _ _ _; (try k_sweep))
  k_with "getAttr ref" => (k_here; (with_reducible show wpAny _ _ (getAttr (Value.ref _) (PySem.Str.ofString "way") _) _ _ _); k_dflt (refine' ent_way' ?zqF ?zqX ?zqS ?zqx ?zqv ?_; (case zqx => assumption); (case zqv => assumption); (case zqF => k_asm); (case zqX => k_asm); (case zqS => walk_at "v_sees")); intro _)
  k_with "getAttr ref" => (k_here; (with_reducible show wpAny _ _ (getAttr (Value.ref _) (PySem.Str.ofString "one") _) _ _ _); k_dflt (refine' ent_one' ?zqF ?zqX ?zqS ?zqx ?zqv ?_; (case zqx => assumption); (case zqv => assumption); (case zqF => k_asm); (case zqX => k_asm); (case zqS => walk_at "v_sees")); intro _)
  k_with "getAttr ref" => (k_here; (with_reducible show wpAny _ _ (getAttr (Value.ref _) (PySem.Str.ofString "two") _) _ _ _); k_dflt (refine' ent_two' ?zqF ?zqX ?zqS ?zqx ?zqv ?_; (case zqx => assumption); (case zqv => assumption); (case zqF => k_asm); (case zqX => k_asm); (case zqS => walk_at "v_sees")); intro _)
  k_with "call builtin:dict.get" => (k_here; (with_reducible show wpAny _ _ (call (Value.builtin _) [Value.ref _, Value.int _ _]) _ _ _); k_dflt (refine' edict_get ?zqS ?zqD ?zqv ?_; (case zqD => assumption); (case zqv => assumption); (case zqS => walk_at "v_sees")))
  k_with "rm_room" => first | exact Rm.less (by assumption) (by omega) (by omega) | exact Rm.deeper (Rm.less (by assumption) (by omega) (by omega)) _
  k_with "call ref" => (k_here; (with_reducible show wpAny _ _ (call (Value.ref 92) _) _ _ _); k_dflt (refine' fnum_use ?zqR ?zqX ?zqT ?zqF ?zqN ?zqS ?zqD ?zqC ?zqz ?zqo ?_; (case zqR => walk_at "rm_room"); (case zqX => k_asm); (case zqT => k_asm); (case zqF => k_asm); (case zqN => k_asm); (case zqD => assumption); (case zqS => walk_at "v_sees"); (case zqC => assumption); (case zqz => omega); (case zqo => assumption)); intro _ _ _ _ _ _ _ _ _; (try k_sweep))
  k_with "call ref" => (k_here; (with_reducible show wpAny _ _ (call (Value.ref 99) _) _ _ _); k_dflt (refine' chain_use ?zqR ?zqX ?zqT ?zqF ?zqN ?zqS ?zqD ?zqC ?zqz ?_; (case zqR => walk_at "rm_room"); (case zqX => k_asm); (case zqT => k_asm); (case zqF => k_asm); (case zqN => k_asm); (case zqD => assumption); (case zqS => walk_at "v_sees"); (case zqC => assumption); (case zqz => omega)); intro _ _ _ _ _ _ _ _ _; (try k_sweep))
  k_with "call ref" => (k_here; (with_reducible show wpAny _ _ (call (Value.ref 170) _) _ _ _); k_dflt (refine' ring_use ?zqR ?zqX ?zqT ?zqF ?zqN ?zqS ?zqD ?zqC ?zqz ?_; (case zqR => walk_at "rm_room"); (case zqX => k_asm); (case zqT => k_asm); (case zqF => k_asm); (case zqN => k_asm); (case zqD => assumption); (case zqS => walk_at "v_sees"); (case zqC => assumption); (case zqz => omega)); intro _ _ _ _ _ _ _ _ _; (try k_sweep))
  k_with "compareOp In int ref" => (k_here; k_dflt (refine' edict_in_b ?zqS ?zqD ?zqb ?_; (case zqD => assumption); (case zqb => assumption); (case zqS => walk_at "v_sees")))
  k_with "compareOp NotIn int ref" => (k_here; k_dflt (refine' edict_notin_b ?zqS ?zqD ?zqb ?_; (case zqD => assumption); (case zqb => assumption); (case zqS => walk_at "v_sees")))
  k_with "v_sees" => first | exact Sees.keep (by assumption) (Fr.keep (by k_asm)) | exact Sees.sub (News.sees (by k_asm)) (fun _ h => by repeat (first | exact h | refine List.mem_cons_of_mem _ ?_))
  k_with "call ref" => (k_here; (with_reducible show wpAny _ _ (call (Value.ref 144) _) _ _ _); k_dflt (refine' draw_use ?zqR ?zqX ?zqT ?zqF ?zqN ?zqP ?zqU1 ?zqU2 ?zqne ?zqlo ?zqhi ?_; (case zqR => walk_at "rm_room"); (case zqX => k_asm); (case zqT => k_asm); (case zqF => k_asm); (case zqN => k_asm); (case zqP => assumption); (case zqU1 => k_updF); (case zqU2 => (intro o9; (try dsimp only); k_updF)); (case zqne => assumption); (case zqlo => omega); (case zqhi => omega)); intro _ _ _ _ _ _ _ _ _ _ _; rename_i N'; (try dsimp only at N'); (try k_sweep); revert N'; intro _)
  k_with "subscriptTail" => (k_here; (with_reducible show wpAny _ _ (subscriptTail _ _ (Value.ref _) (Value.int _ _)) _ _ _); k_dflt (refine' item_tupleT ?zqt ?zqlo ?zqhi ?zqj ?zqx ?_; (case zqt => exact IsTup.keeps (by assumption) (Fr.keep (by k_asm))); (case zqlo => decide); (case zqhi => decide); (case zqj => exact rfl); (case zqx => exact rfl)))
  k_with "compareOp NotEq ref ref" => (refine Held.use ?_)
  k_with "compareOp Eq ref ref" => (refine Held.use ?_)
  trivial
def usedRow (p : Int × Int) : PRow := (p.1, Str.ofString "used", 7 * p.1, p.2)
theorem law19 {w : World} {A : Around} {E : Value → Shared → Prop} {s : Shared} {Q : Flow → Shared → Prop} {g : Heap} {L fa : Addr} {cdv : Value} {sc : Scope} {l : List Str} {mg mb : Str → Option Value}
    (hsc : IsScope w sc) (R : Rm A 8 300) (X : (hd.heap_1 w.params).In g) (T : TopRead qv l mg mb g) (S : St21 w g L s)
    (K : ∀ (m : Str → Option Value) (h' : Heap) (tk : Nat), Fr g L h' m → Q (.ret (.bool true)) { s with heap := h', toks := tk }) :
    wpAny (model PR w) A (execs ((lawBody w).drop 21) (envOfC (Str.ofString "law") sc L fa cdv)) Q E s := by
  refine stage_cut (n := 21) (k := 1) (X := fun bd sc => (∀ (m : Str → Option Value) (h' : Heap) (tk : Nat), Fr g L h' m → Q (.ret (.bool true)) { s with heap := h', toks := tk }) → wpAny (model PR w) A (execs bd (envOfC (Str.ofString "law") sc L fa cdv)) Q E s) hsc (by k_is) (fun K => ?_) K
  simp only [List.drop_succ_cons, List.drop_zero, List.take_succ_cons, List.take_zero, List.cons_append, List.nil_append, Nat.zero_add]
  generalize List.drop 22 (lawBody w) = rest at K ⊢
  have hhA := R.hd
  obtain ⟨⟨cc, cg, cn, cs, cf, ce, cp⟩, pen, cells, p1, p2, tl, u, zch, zgn, znu, sp, fd, en, rl, ofd, kk, okvs, ⟨F, N, off, AP, P⟩, ⟨y1, y2, y3, y4, y5, y6, y7⟩, HR, hk4, HO, hov⟩ := S
  obtain ⟨⟨w0, w1, w2, w3, w4, w5, w6, w7⟩, ⟨v1, v2, v3, v4, v5, v6, v7⟩⟩ := AP.nat
  dsimp only [C7.led] at N y1 y2 y3 y4 y5 y6 y7
  dsimp only [adr9] at off
  have hrk : (rowsOf kk).length = kk := by simp [rowsOf]
  k_steps
  refine used_spec (fo := fun k => 7 * k) (R.less (by omega) (by omega)) ⟨X, l, mg, mb, T⟩ F.keep (Sees.sub (News.sees N) fun p hp => by first | walk_at "mm" | simp [hp]) HR HO hov (by omega) ((rows_keys kk).imp fun h => Int.ne_of_lt h) fun ud nw es h1 tk1 e1 B1 D hrow => ?_
  obtain ⟨F1, tl1, N1, off1, s1, t1⟩ := call_still (c := ⟨cc, cg, cn, cs, cf, ce, cp⟩) (o1 := p1) (o2 := p2) AP F N (by first | walk_at "sub" | exact (fun p hp => by (simp only [List.mem_cons, List.not_mem_nil, or_false] at hp ⊢; rcases hp with h | h | h | h | h | h | h | h | h <;> simp [h]))) (fun p hp => by first | walk_at "mm" | simp [hp]) off e1 B1
  dsimp only [C7.led] at N1
  dsimp only [adr9] at off1
  have D := D.mono s1
  have hrow : es.map rowOf = (rowsOf kk).map usedRow := hrow
  have hel : es.length = kk := by
    have := congrArg List.length hrow
    simpa [hrk] using this
  obtain ⟨vsr, nr, hrm, hrl, hrr⟩ := HR
  clear F N e1
  k_steps
  refine told_spec (R.less (by omega) (by omega)) ⟨X, l, mg, mb, T⟩ F1.keep (Sees.sub (News.sees N1) fun p hp => by first | walk_at "mm" | simp [hp]) D (by omega) fun r2 nl2 ks2 ys2 n2 h2 tk2 e2 B2 hks2 hso2 hr2 hD2 => ?_
  rw [told_order D.nodup hrow (by
    rw [List.map_map]
    exact (rows_keys kk).imp fun h => Int.le_of_lt h) hks2 hso2] at hD2
  obtain ⟨F2, tl2, N2, off2, s2, t2⟩ := call_still (c := ⟨cc, cg, cn, cs, cf, ce, cp⟩) (o1 := p1) (o2 := p2) AP F1 N1 (by first | walk_at "sub" | exact (fun p hp => by (simp only [List.mem_cons, List.not_mem_nil, or_false] at hp ⊢; rcases hp with h | h | h | h | h | h | h | h | h <;> simp [h]))) (fun p hp => by first | walk_at "mm" | simp [hp]) off1 e2 B2
  dsimp only [C7.led] at N2
  dsimp only [adr9] at off2
  have hD2 := hD2.mono s2
  have hr2 := s2 _ hr2
  have hrm := t2 _ (t1 _ hrm)
  have hrr := fun i p hi => (show ∃ a t u, vsr[i]? = some (.ref a) ∧ (a, ({ cls := .type "tuple", data := .seq #[.int p.1 t, .int p.2 u, .none] } : Obj)) ∈ tl2 from let ⟨a, t, u, q1, q2⟩ := hrr i p hi; ⟨a, t, u, q1, t2 _ (t1 _ q2)⟩)
  clear F1 N1 e2
  k_steps
  have hr0 := N2 (rl, W.listOf (List.toArray vsr) nr) (by first | walk_at "mm" | simp [hrm])
  have st0 : Sees tl2 h2 := Sees.sub (News.sees N2) fun p hp => by first | walk_at "mm" | simp [hp]
  refine list_comp (σ := Unit) (vs := vsr) (fun _ => []) [] (fun V _ i ys => DatAll V ys ((((rowsOf kk).take i).map usedRow).map datR)) () R.hd ⟨_, hr0.1, rfl, ⟨_, rfl⟩⟩ (fun q => nomatch q) (by omega) (fun _ => rfl) (fun p hp => nomatch hp) (fun V U c i ys h sub => h.mono sub) (fun V c i ys h => by
    have := h.length
    simp at this
    omega) .nil ?turn ?done
  case turn =>
    rintro c i v ys U tl' s' C h tk m g' rfl hC kp' hv hDt sub off' hx F3 N3
    have st' : g.StaysIn g' := fun a o e => kp' a o (F2.keep a o e) (fun q => nomatch q) fun q => by subst q; rw [hr0.2.2] at e; cases e
    have X := X.keeps st'
    have T := T.keeps st'
    have hi : i < (rowsOf kk).length := by rw [← hrl]; exact (List.getElem?_eq_some_iff.mp hv).1
    have hgi := List.getElem?_eq_getElem hi
    generalize (rowsOf kk)[i] = rw0 at hgi
    obtain ⟨a, t1, t2, q1, q2⟩ := hrr i rw0 hgi
    rw [hv] at q1
    have q1 := Option.some.inj q1
    subst q1
    have hta : IsTup g' a (List.toArray [.int rw0.1 t1, .int rw0.2 t2, .none]) := by
      refine ⟨_, kp' _ _ (st0 _ q2) (fun q => nomatch q) (fun q => ?_), rfl, 0, rfl⟩
      have z := st0 _ q2
      have q : a = rl := q
      rw [show ((a, ({ cls := .type "tuple", data := .seq #[.int rw0.1 t1, .int rw0.2 t2, .none] } : Obj)) : Addr × Obj).1 = a from rfl, q, hr0.1] at z
      exact absurd (congrArg Obj.cls (Option.some.inj z)) (fun z => by
        injection z with z
        exact absurd z (by decide))
    simp only [List.nil_append] at N3
    refine wpAny_tests_nil ?_
    simp only [if_true]
    k_steps
    rename_i T1 h5 l5 T2 h6 F6 N6 l6
    refine (fun (key : ∀ (ta tb : Tok), News g' C h6 ((T2, { cls := .type "tuple", data := .seq #[.int rw0.1 t1, .ref T1] }) :: (T1, { cls := .type "tuple", data := .seq #[.str (Str.ofString "used") ta, .int (7 * rw0.1) tb, .int rw0.2 t2] }) :: tl') → _) => key _ _ N6) (fun ta tb N6 => ?_)
    refine CTurnEnd.intro F6 N6 () ((T2, { cls := .type "tuple", data := .seq #[.int rw0.1 t1, .ref T1] }) :: (T1, { cls := .type "tuple", data := .seq #[.str (Str.ofString "used") ta, .int (7 * rw0.1) tb, .int rw0.2 t2] }) :: U) (fun p hp => nomatch hp) (fun p hp => List.mem_cons_of_mem _ (List.mem_cons_of_mem _ hp)) (fun p hp => ⟨?_, ?_, fun q => nomatch q⟩) ?_
    · rcases List.mem_cons.mp hp with rfl | hp
      · exact List.mem_cons_self
      · rcases List.mem_cons.mp hp with rfl | hp
        · exact List.mem_cons_of_mem _ List.mem_cons_self
        · exact List.mem_cons_of_mem _ (List.mem_cons_of_mem _ (sub _ hp))
    · rcases List.mem_cons.mp hp with rfl | hp
      · exact .inr fun q hq => Nat.ne_of_lt (ltN (AllLt.mem l6.2 q hq))
      · rcases List.mem_cons.mp hp with rfl | hp
        · exact .inr fun q hq => Nat.ne_of_lt (l5 q hq)
        · exact .inl hp
    · show DatAll _ _ _
      rw [List.take_add_one, hgi, List.map_append, List.map_append]
      refine DatAll.append (hDt.mono fun p hp => List.mem_cons_of_mem _ (List.mem_cons_of_mem _ hp)) (DatAll.one ?_)
      exact .tuple (n := 0) List.mem_cons_self (.cons (.int _ _) (.cons (.tuple (n := 0) (List.mem_cons_of_mem _ List.mem_cons_self) (.cons (.str _ _) (.cons (.int _ _) (.cons (.int _ _) .nil)))) .nil))
  case done =>
    rintro c U C D5 ys h tk s₂ hDt hE' hK hB hC hCD hVC ⟨o, rfl⟩
    intro h' sb
    obtain ⟨e1, b1⟩ := comp_close hE' hB hC sb (fun p hp => by
      rcases List.mem_cons.mp hp with rfl | hp
      · exact hCD.symm
      · exact hVC p hp)
    have N3 := news_app F2 N2 e1.keep b1
    have F3 := Fr.keeps F2 e1.keep
    rw [hrl, List.take_length] at hDt
    have hwo : ∀ r ∈ (rowsOf kk).map usedRow, PyData.strOk r.2.1 = true := fun r hr => by
      obtain ⟨z, _, rfl⟩ := List.mem_map.mp hr
      show PyData.strOk (Str.ofString "used") = true
      decide +kernel
    clear hE' hB
    k_steps
    refine ⟨kqd_eq (oa := W.listOf (List.toArray ys2) n2) (ob := lst ys) N3 (by first | walk_at "mm" | simp [hr2]) rfl rfl hD2 (fun p hp => by first | walk_at "mm" | simp [hp]) (by first | walk_at "mm" | simp) rfl rfl hDt (fun p hp => by first | walk_at "mm" | simp [hp]) (datR_ok hwo) (datR_ok hwo) (by have := R.un; omega) ?_⟩
    rw [dec_self]
    k_steps
    exact K _ _ _ F3
end S_OLaw19
section S_OJoin
theorem reg68 : True := by
  k_with_none
  k_with "mm" => ((repeat' (first | (with_reducible exact List.mem_cons_self) | (with_reducible assumption) | (with_reducible refine List.mem_cons_of_mem _ ?_))); done)
  k_with "sub" => ((repeat' (first | (with_reducible exact sub_nil _) | (with_reducible refine sub_cons ?_ ?_) | (with_reducible exact List.mem_cons_self) | (with_reducible refine List.mem_cons_of_mem _ ?_) | (with_reducible assumption) | (intro p9 hp9))); done)
  trivial
theorem scope_of {w : World} {name qual : Str} {params : Arguments} {body : List Stmt} {scope : Scope} {dV kV doc pm cdv ct oc : Value} {an od : Option Addr} {osl : Array (Option Value)}
    (ho : (hd.heap_1 w.params).lookup 175 = some ⟨oc, od, .func (fnOf name qual params body scope dV kV doc pm an cdv ct), osl⟩) : IsScope w scope ∧ lawBody w = body := by
  unfold IsScope lawBody
  rw [ho]
  exact ⟨rfl, rfl⟩
theorem law_all {w : World} {A : Around} {E : Value → Shared → Prop} {s : Shared} {Q : Flow → Shared → Prop} {g : Heap} {L fa sl : Addr} {cdv : Value} {c : C7} {m : Str → Option Value} {l : List Str} {mg mb : Str → Option Value} {vs : List Value} {ns : List Int}
    {name qual : Str} {params : Arguments} {body : List Stmt} {scope : Scope} {dV kV doc pm cdv' ct oc : Value} {an od : Option Addr} {osl : Array (Option Value)}
    (R : Rm A 8 300) (X : (hd.heap_1 w.params).In g) (T : TopRead qv l mg mb g)
    (F : Fr g L s.heap m) (N : News g L s.heap (c.led L [])) (H : c.Holds none none none none none none none) (hm : m (Str.ofString "script") = some (.ref sl)) (hl : g.IsList sl vs.toArray) (hi : IntsAre vs ns) (hz : ns.length ≤ 63)
    (K : ∀ (s' : Shared) (m : Str → Option Value), s'.os = s.os → s'.gens = s.gens → Fr g L s'.heap m → Q (.ret (.bool true)) s')
    (ho : (hd.heap_1 w.params).lookup 175 = some ⟨oc, od, .func (fnOf name qual params body scope dV kV doc pm an cdv' ct), osl⟩) :
    wpAny (model PR w) A (execs body (envOfC (Str.ofString "law") scope L fa cdv)) Q E s := by
  obtain ⟨hsc, hb⟩ := scope_of ho
  rw [← hb]
  clear ho hb
  have h0 := law1 (fa := fa) (cdv := cdv) (E := E) (Q := Q) hsc R X T F N H hm hl hi hz (fun s1 o1 g1 S1 => ?_)
  · rw [List.drop_zero] at h0
    exact h0
  refine law2 hsc R X T S1 fun s2 o2 g2 S2 => ?_
  refine law3 hsc R X T S2 fun s3 o3 g3 S3 => ?_
  refine law4 hsc R X T S3 fun s4 o4 g4 S4 => ?_
  refine law5 hsc R X T S4 fun s5 o5 g5 S5 => ?_
  refine law6 hsc R X T S5 fun s6 o6 g6 S6 => ?_
  refine law7 hsc R X T S6 fun s7 o7 g7 S7 => ?_
  refine law8 hsc R X T S7 fun s8 o8 g8 S8 => ?_
  refine law9 hsc R X T S8 fun s9 o9 g9 S9 => ?_
  refine law10 hsc R X T S9 fun s10 o10 g10 S10 => ?_
  refine law11 hsc R X T S10 fun s11 o11 g11 S11 => ?_
  refine law12 hsc R X T S11 fun s12 o12 g12 S12 => ?_
  refine law13 hsc R X T S12 fun s13 o13 g13 S13 => ?_
  refine law14 hsc R X T S13 fun s14 o14 g14 S14 => ?_
  refine law15 hsc R X T S14 fun s15 o15 g15 S15 => ?_
  refine law16 hsc R X T S15 fun s16 o16 g16 S16 => ?_
  refine law17 hsc R X T S16 fun s17 o17 g17 S17 => ?_
  refine law18 hsc R X T S17 fun s18 o18 g18 S18 => ?_
  refine law19 hsc R X T S18 fun m' h' tk F' => K _ m' ?_ ?_ F'
  · show s18.os = s.os
    rw [o18, o17, o16, o15, o14, o13, o12, o11, o10, o9, o8, o7, o6, o5, o4, o3, o2, o1]
  · show s18.gens = s.gens
    rw [g18, g17, g16, g15, g14, g13, g12, g11, g10, g9, g8, g7, g6, g5, g4, g3, g2, g1]
theorem joined : PySem.Challenge.rw_og0132_01.Holds := hd (by
  w_strict (k_go0)
  rename_i w s0 s1 mg mb G Y fa o pm doc ho hg KX X V GL T B TE TW M1 M2 M cd1 cd2 hcd ns hs hlay0 hL1 hr1 hl2 la lb sl vs lc hL ra w1 r0 hI hr hc1 hc2 K0 hD h1 tk1 F c7 c6 c5 c4 c3 c2 c1 l5 l4 l3 l2 l1 l0 rr N0 X0
  have TR := topRead_of T
  have RR : ∀ env : Env, Rm (callerA.deeper env) 8 300 := fun env => ⟨rfl, by show callerA.depth + 1 + 8 < _; decide, by show callerA.units + 3 + 300 < _; decide⟩
  change wpAny (model PR w) _ _ _ _ _
  refine law_all (c := ⟨c7, c6, c5, c4, c3, c2, c1⟩) (sl := sl) (vs := vs) (ns := ns) (w := w) (RR _) KX TR F N0 ⟨l5.trans (by rfl), l4.trans (by rfl), l3.trans (by rfl), l2.trans (by rfl), l1.trans (by rfl), l0.trans (by rfl), rr.trans (by rfl)⟩ (by rfl) hL hI (by omega) (fun s' m' ho' hg' F' => ?_) (by k_is)
  refine goodW_bool F' (hg'.trans hg) (raisesW_false ?hn) ?hp ho'
  case hn => wrow_none_raised
  case hp => wrow_post)
end S_OJoin
end Mine
theorem PySem.Challenge.cw_og0132_01_holds : PySem.Challenge.rw_og0132_01.Holds :=
  Mine.joined
