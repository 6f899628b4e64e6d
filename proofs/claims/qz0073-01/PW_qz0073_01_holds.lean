import PyProof.Rows.All
import Wide.All
import OpenK.AllK
import Wide.FinOn
import Lean
import PySem.Challenge.RW_qz0073_01
open PySem PySem.W PySem.Calls PyProof.Rows
set_option Elab.async false
set_option maxRecDepth 100000
set_option maxHeartbeats 8000000
namespace Mine
open_top hd for PySem.Challenge.rw_qz0073_01
theorem top_off : True := by
  w_top off
  trivial

section
theorem fillL1 (P : Params) : hd.heap_39 P = hd.heap_39 P ∧ PySem.Challenge.rw_qz0073_01 = PySem.Challenge.rw_qz0073_01 := by
  k_fill
  exact ⟨rfl, rfl⟩



def ab (x : Int) : Int := if x < 0 then -x else x
def pae (a b c : Int) : Int :=
  if ab (a + b - c - a) ≤ ab (a + b - c - b) ∧ ab (a + b - c - a) ≤ ab (a + b - c - c) then a
  else if ab (a + b - c - b) ≤ ab (a + b - c - c) then b else c
section
variable {a b c : Int}
theorem pae1 (h1 : (if a + b - c - a < 0 then -(a + b - c - a) else a + b - c - a) ≤ if a + b - c - b < 0 then -(a + b - c - b) else a + b - c - b) (h2 : (if a + b - c - a < 0 then -(a + b - c - a) else a + b - c - a) ≤ if a + b - c - c < 0 then -(a + b - c - c) else a + b - c - c) : a = pae a b c := (if_pos ⟨h1, h2⟩).symm
theorem pae2 (h1 : ¬(if a + b - c - a < 0 then -(a + b - c - a) else a + b - c - a) ≤ if a + b - c - b < 0 then -(a + b - c - b) else a + b - c - b) (h2 : (if a + b - c - b < 0 then -(a + b - c - b) else a + b - c - b) ≤ if a + b - c - c < 0 then -(a + b - c - c) else a + b - c - c) : b = pae a b c :=
  ((if_neg fun h => h1 h.1).trans (if_pos h2)).symm
theorem pae3 (h1 : ¬(if a + b - c - a < 0 then -(a + b - c - a) else a + b - c - a) ≤ if a + b - c - b < 0 then -(a + b - c - b) else a + b - c - b) (h2 : ¬(if a + b - c - b < 0 then -(a + b - c - b) else a + b - c - b) ≤ if a + b - c - c < 0 then -(a + b - c - c) else a + b - c - c) : c = pae a b c :=
  ((if_neg fun h => h1 h.1).trans (if_neg h2)).symm
theorem pae4 (h1 : (if a + b - c - a < 0 then -(a + b - c - a) else a + b - c - a) ≤ if a + b - c - b < 0 then -(a + b - c - b) else a + b - c - b) (h2 : ¬(if a + b - c - a < 0 then -(a + b - c - a) else a + b - c - a) ≤ if a + b - c - c < 0 then -(a + b - c - c) else a + b - c - c) : c = pae a b c :=
  ((if_neg fun h => h2 h.2).trans (if_neg fun h => h2 (Int.le_trans h1 h))).symm
end

def G0 (w : World) (h : Heap) : Prop :=
  (hd.heap_39 w.params).In h ∧ ∃ mean mg mb, Top hd.view_39 (looseW hd.view_39 [Str.ofString "PaperError"]) mean mg mb h

theorem G0.keeps {w : World} {h h' : Heap} (G : G0 w h) (k : ∀ b o, h.get? b = some o → h'.get? b = some o) : G0 w h' :=
  ⟨G.1.keeps k, let ⟨a, b, c, T⟩ := G.2; ⟨a, b, c, T.keeps k⟩⟩

theorem code_raw {prog : Program} {w : World} {A : Around} {s : Shared} {K : Frag} {R : Result → Shared → Prop} {name qual : Str} {params : Arguments} {body : List Stmt} {scope : Scope} {dV kV doc pm cdv ct oc : Value} {an od : Option Addr} {osl : Array (Option Value)} {f : Addr} {args : Args} {binds : List (Str × Value)}
    (X₀ : K.In s.heap) (hlim : s.heap.NoLimit)
    (ho : K.lookup f = some ⟨oc, od, .func (fnOf name qual params body scope dV kV doc pm an cdv ct), osl⟩) (hcd : codeIn K cdv qual = true) (hroom : A.depth < recursionLimit)
    (hbind : BindsTo s (fnOf name qual params body scope dV kV doc pm an cdv ct) args binds) (hloc : ∀ y ∈ binds, scope.names.lookup y.1 = some .local)
    (h : ∀ h₁, Fr s.heap s.heap.objs.size h₁ (fun y => binds.reverse.lookup y) → News s.heap s.heap.objs.size h₁ [] →
      wpAny (model prog w) (A.deeper (envOf qual scope s.heap.objs.size f cdv)) (execs body (envOf qual scope s.heap.objs.size f cdv))
        (fun fl s' => R (.ok (.ret (match fl with | .ret v => v | _ => .none))) s')
        (fun e s' => wpAny (model prog w) (A.deeper (envOf qual scope s.heap.objs.size f cdv)) (leaving (envOf qual scope s.heap.objs.size f cdv) e) (fun _ s'' => R (.error e) s'') (fun e' s'' => R (.error e') s'') s')
        { s with heap := h₁, toks := s.toks + binds.length })
    (hco : scope.isCoroutine = false) (hgen : scope.isGenerator = false) (hk : scope.kind = .function)
    (hcell : ∀ x ∈ scope.names, x.2 ≠ .cell) : codeAny (model prog w) A (.call (.ref f) args) R s :=
  codeAny_call_def hroom (X₀ _ _ ho) rfl hlim (codeRec_of X₀ hcd) rfl hbind hcell hloc
    (fun h₁ hns hk₁ => h h₁ ⟨hns, hk₁, Nat.le_refl _⟩ News.nil) hco hgen hk


abbrev Kept (h h' : Heap) : Prop := ∀ b o, h.get? b = some o → h'.get? b = some o
abbrev PRG : Program := PySem.Challenge.rw_qz0073_01.row.prog

theorem paeth_ok {w : World} {A : Around} {s : Shared} {Q E : Value → Shared → Prop} (a b c : Int) (ta tb tc : Tok)
    (hroom : A.depth + 1 < recursionLimit) (_hh : A.handled = none) (_hu : A.units + 8 < cLine) (G : G0 w s.heap)
    (hQ : ∀ (t : Tok) (h' : Heap) (tk : Nat), Kept s.heap h' → Q (.int (pae a b c) t) { s with heap := h', toks := tk }) :
    wpAny (model PySem.Challenge.rw_qz0073_01.row.prog w) A (PySem.call (.ref 94) [.int a ta, .int b tb, .int c tc]) Q E s := by
  have fin : ∀ (v : Int) (t : Tok) (h' : Heap) (tk : Nat) (m : Str → Option Value), Fr s.heap s.heap.objs.size h' m → v = pae a b c → Q (.int v t) { s with heap := h', toks := tk } := by
    intro v t h' tk m F e; subst e; exact hQ t h' tk F.keep
  obtain ⟨X, mean, mg, mb, T⟩ := G
  refine wpAny_call ?_
  (k_dflt (refine' code_raw ?k1 ?k2 ?k3 ?k4 ?k5 ?k6 ?k7 ?_ ?c1 ?c2 ?c3 ?c4; (case k1 => assumption); (case k2 => exact Top.nolimit (by assumption)); (case k3 => k_is); (case k4 => k_is); (case k5 => omega); (case k6 => exact BindsTo.of_eq rfl); (case k7 => exact locs rfl); (case c1 => exact rfl); (case c2 => exact rfl); (case c3 => exact rfl); (case c4 => decide); k_whole; intro h₁ F N; (try dsimp only)))
  k_steps
  all_goals (try dsimp only)
  all_goals refine fin _ _ _ _ _ (by assumption) ?_
  all_goals first | exact pae1 (a := a) (b := b) (c := c) (by assumption) (by assumption) | exact pae2 (a := a) (b := b) (c := c) (by assumption) (by assumption) | exact pae3 (a := a) (b := b) (c := c) (by assumption) (by assumption) | exact pae4 (a := a) (b := b) (c := c) (by assumption) (by assumption)

def gl (row : List Int) (at' step : Int) : Int := if step ≤ at' then row.getD (at' - step).toNat 0 else 0
def gu (above : List Int) (at' : Int) : Int := if at' < (above.length : Int) then above.getD at'.toNat 0 else 0
def gd (above : List Int) (at' step : Int) : Int := if step ≤ at' ∧ at' < above.length + step then above.getD (at' - step).toNat 0 else 0
def gue (row above : List Int) (at' step way : Int) : Int :=
  if way = 1 then gl row at' step
  else if way = 2 then gu above at'
  else if way = 3 then Int.fdiv (gl row at' step + gu above at') 2
  else if way = 4 then pae (gl row at' step) (gu above at') (gd above at' step)
  else 0
section
variable {row above : List Int} {at' step way : Int}
theorem gl_pos (h : step ≤ at') : gl row at' step = row.getD (at' - step).toNat 0 := if_pos h
theorem gl_neg (h : ¬step ≤ at') : gl row at' step = 0 := if_neg h
theorem gu_pos (h : at' < (above.length : Int)) : gu above at' = above.getD at'.toNat 0 := if_pos h
theorem gu_neg (h : ¬at' < (above.length : Int)) : gu above at' = 0 := if_neg h
theorem gd_pos (h : step ≤ at') (h' : at' < (above.length : Int) + step) : gd above at' step = above.getD (at' - step).toNat 0 := if_pos ⟨h, h'⟩
theorem gd_neg (h : ¬step ≤ at') : gd above at' step = 0 := if_neg fun q => h q.1
theorem gd_neg' (h : ¬at' < (above.length : Int) + step) : gd above at' step = 0 := if_neg fun q => h q.2
theorem gue_1 : gue row above at' step 1 = gl row at' step := rfl
theorem gue_2 : gue row above at' step 2 = gu above at' := rfl
theorem gue_3 : gue row above at' step 3 = Int.fdiv (gl row at' step + gu above at') 2 := rfl
theorem gue_4 : gue row above at' step 4 = pae (gl row at' step) (gu above at') (gd above at' step) := rfl
theorem e5 (h1 : way ≠ 1) (h2 : way ≠ 2) (h3 : way ≠ 3) (h4 : way ≠ 4) : 0 = gue row above at' step way := by rw [gue, if_neg h1, if_neg h2, if_neg h3, if_neg h4]
end

local macro_rules | `(tactic| walk_at "call ref") => `(tactic| (
  refine' paeth_ok _ _ _ _ _ _ ?p1 ?p2 ?p3 ?p4 ?_
  (case p1 => (simp only [depth_deeper]; omega))
  (case p2 => assumption)
  (case p3 => (simp only [units_deeper]; omega))
  (case p4 => exact G0.keeps (by assumption) (Fr.keep (by assumption)))
  intro t9 h9 tk9 k9
  have F9 := Fr.keeps (by assumption) k9
  have N9 := News.grown (by assumption) k9
  (try dsimp only)))

def IntPost (s : Shared) (x : Int) (v : Value) (s₂ : Shared) : Prop := ∃ t k, v = .int x t ∧ s₂ = { s with toks := k }
theorem IntPost.intro {s : Shared} {x y : Int} {t k : Tok} (e : y = x) : IntPost s x (.int y t) { s with toks := k } := ⟨t, k, by rw [e], rfl⟩
theorem join_int {M : Model} {A : Around} {E : Value → Shared → Prop} {s : Shared} {e : Expr} {env : Env} {Q : Value → Shared → Prop} {x : Int} (h : wpAny M A (eval e env) (IntPost s x) E s) (q : ∀ t k, Q (.int x t) { s with toks := k }) : wpAny M A (eval e env) Q E s :=
  wpAny_mono h (fun v s₂ ⟨t, k, e1, e2⟩ => by subst e1 e2; exact q t k) fun _ _ e => e
def Halt (p : Prop) : Prop := p
theorem Halt.of {p : Prop} (h : Halt p) : p := h
theorem Halt.mk {p : Prop} (h : p) : Halt p := h
local macro_rules | `(tactic| walk_at "eval Call") => `(tactic| (k_dflt refine Call_ ?_))
local macro_rules | `(tactic| walk_at "eval IfExp") => `(tactic| refine' Halt.of ?_)

theorem guess_list {w : World} {A : Around} {s : Shared} {Q E : Value → Shared → Prop} (r u : Addr) (rv uv : List Value) (row above : List Int) (at' step way : Int) (ta ts tw : Tok)
    (hroom : A.depth + 2 < recursionLimit) (hh : A.handled = none) (hu : A.units + 16 < cLine) (G : G0 w s.heap)
    (hr : s.heap.IsList r rv.toArray) (hri : IntsAre rv row) (hu' : s.heap.IsList u uv.toArray) (hui : IntsAre uv above)
    (h1 : 1 ≤ step) (h2 : 0 ≤ at') (h3 : at' < row.length) (h4 : row.length < 2 ^ 40) (h5 : above.length < 2 ^ 40)
    (hQ : ∀ (t : Tok) (h' : Heap) (tk : Nat), Kept s.heap h' → Q (.int (gue row above at' step way) t) { s with heap := h', toks := tk }) :
    wpAny (model PySem.Challenge.rw_qz0073_01.row.prog w) A (PySem.call (.ref 101) [.ref r, .ref u, .int at' ta, .int step ts, .int way tw]) Q E s := by
  have fin : ∀ (v : Int) (t : Tok) (h' : Heap) (tk : Nat) (m : Str → Option Value), Fr s.heap s.heap.objs.size h' m → v = gue row above at' step way → Q (.int v t) { s with heap := h', toks := tk } := by
    intro v t h' tk m F e; subst e; exact hQ t h' tk F.keep
  have GG := G
  obtain ⟨X, mean, mg, mb, T⟩ := G
  refine wpAny_call ?_
  (k_dflt (refine' code_raw ?k1 ?k2 ?k3 ?k4 ?k5 ?k6 ?k7 ?_ ?c1 ?c2 ?c3 ?c4; (case k1 => assumption); (case k2 => exact Top.nolimit (by assumption)); (case k3 => k_is); (case k4 => k_is); (case k5 => omega); (case k6 => exact BindsTo.of_eq rfl); (case k7 => exact locs rfl); (case c1 => exact rfl); (case c2 => exact rfl); (case c3 => exact rfl); (case c4 => decide); k_whole; intro h₁ F N; (try dsimp only)))
  k_steps
  refine Halt.mk (join_int (x := gl row at' step) (wpAny_IfExp ?_) fun tl kl => ?_)
  · k_steps
    · exact IntPost.intro (gl_pos (by assumption)).symm
    · exact IntPost.intro (gl_neg (by assumption)).symm
  k_steps
  refine Halt.mk (join_int (x := gu above at') (wpAny_IfExp ?_) fun tu ku => ?_)
  · k_steps
    · exact IntPost.intro (gu_pos (by assumption)).symm
    · exact IntPost.intro (gu_neg (by assumption)).symm
  k_steps
  · exact fin _ _ _ _ _ (by assumption) (by subst_vars; rfl)
  · exact fin _ _ _ _ _ (by assumption) (by subst_vars; rfl)
  · exact fin _ _ _ _ _ (by assumption) (by subst_vars; rfl)
  · refine Halt.mk (join_int (x := gd above at' step) (wpAny_IfExp ?_) fun td kd => ?_)
    · k_steps
      · exact IntPost.intro (gd_pos (by assumption) (by assumption)).symm
      · exact IntPost.intro (gd_neg' (by assumption)).symm
      · exact IntPost.intro (gd_neg (by assumption)).symm
    · k_steps
      exact fin _ _ _ _ _ (by assumption) (by subst_vars; rfl)
  · exact fin _ _ _ _ _ (by assumption) (e5 (by assumption) (by assumption) (by assumption) (by assumption))

theorem guess_bytes {w : World} {A : Around} {s : Shared} {Q E : Value → Shared → Prop} (rb ub : Array UInt8) (row above : List Int) (tr tu : Tok) (at' step way : Int) (ta ts tw : Tok)
    (hroom : A.depth + 2 < recursionLimit) (hh : A.handled = none) (hu : A.units + 16 < cLine) (G : G0 w s.heap)
    (hr : KBw.bInts rb = row) (hu' : KBw.bInts ub = above)
    (h1 : 1 ≤ step) (h2 : 0 ≤ at') (h3 : at' < row.length) (h4 : row.length ≤ 1000000) (h5 : above.length ≤ 1000000)
    (hQ : ∀ (t : Tok) (h' : Heap) (tk : Nat), Kept s.heap h' → Q (.int (gue row above at' step way) t) { s with heap := h', toks := tk }) :
    wpAny (model PySem.Challenge.rw_qz0073_01.row.prog w) A (PySem.call (.ref 101) [.bytes rb tr, .bytes ub tu, .int at' ta, .int step ts, .int way tw]) Q E s := by
  have fin : ∀ (v : Int) (t : Tok) (h' : Heap) (tk : Nat) (m : Str → Option Value), Fr s.heap s.heap.objs.size h' m → v = gue row above at' step way → Q (.int v t) { s with heap := h', toks := tk } := by
    intro v t h' tk m F e; subst e; exact hQ t h' tk F.keep
  have GG := G
  obtain ⟨X, mean, mg, mb, T⟩ := G
  refine wpAny_call ?_
  (k_dflt (refine' code_raw ?k1 ?k2 ?k3 ?k4 ?k5 ?k6 ?k7 ?_ ?c1 ?c2 ?c3 ?c4; (case k1 => assumption); (case k2 => exact Top.nolimit (by assumption)); (case k3 => k_is); (case k4 => k_is); (case k5 => omega); (case k6 => exact BindsTo.of_eq rfl); (case k7 => exact locs rfl); (case c1 => exact rfl); (case c2 => exact rfl); (case c3 => exact rfl); (case c4 => decide); k_whole; intro h₁ F N; (try dsimp only)))
  k_steps
  refine Halt.mk (join_int (x := gl row at' step) (wpAny_IfExp ?_) fun tl kl => ?_)
  · k_steps
    · exact IntPost.intro (gl_pos (by assumption)).symm
    · exact IntPost.intro (gl_neg (by assumption)).symm
  k_steps
  refine Halt.mk (join_int (x := gu above at') (wpAny_IfExp ?_) fun tu ku => ?_)
  · k_steps
    · exact IntPost.intro (gu_pos (by assumption)).symm
    · exact IntPost.intro (gu_neg (by assumption)).symm
  k_steps
  · exact fin _ _ _ _ _ (by assumption) (by subst_vars; rfl)
  · exact fin _ _ _ _ _ (by assumption) (by subst_vars; rfl)
  · exact fin _ _ _ _ _ (by assumption) (by subst_vars; rfl)
  · refine Halt.mk (join_int (x := gd above at' step) (wpAny_IfExp ?_) fun td kd => ?_)
    · k_steps
      · exact IntPost.intro (gd_pos (by assumption) (by assumption)).symm
      · exact IntPost.intro (gd_neg' (by assumption)).symm
      · exact IntPost.intro (gd_neg (by assumption)).symm
    · k_steps
      exact fin _ _ _ _ _ (by assumption) (by subst_vars; rfl)
  · exact fin _ _ _ _ _ (by assumption) (e5 (by assumption) (by assumption) (by assumption) (by assumption))
end
local macro_rules | `(tactic| walk_at "MY-PAD") => `(tactic| skip)
local macro_rules | `(tactic| walk_at "MY-PAD") => `(tactic| skip)
local macro_rules | `(tactic| walk_at "MY-PAD") => `(tactic| skip)
local macro_rules | `(tactic| walk_at "MY-PAD") => `(tactic| skip)

section

theorem code_rawC {prog : Program} {w : World} {A : Around} {s : Shared} {K : Frag} {R : Result → Shared → Prop} {name qual : Str} {params : Arguments} {body : List Stmt} {scope : Scope} {dV kV doc pm cdv ct oc : Value} {an od : Option Addr} {osl : Array (Option Value)} {f : Addr} {args : Args} {binds : List (Str × Value)}
    (X₀ : K.In s.heap) (hlim : s.heap.NoLimit)
    (ho : K.lookup f = some ⟨oc, od, .func (fnOf name qual params body scope dV kV doc pm an cdv ct), osl⟩) (hcd : codeIn K cdv qual = true) (hroom : A.depth < recursionLimit)
    (hbind : BindsTo s (fnOf name qual params body scope dV kV doc pm an cdv ct) args binds)
    (hkind : (binds.all fun y => scope.names.lookup y.1 == some .local || scope.names.lookup y.1 == some .cell) = true)
    (hnd : ((cellsFrom 0 scope.names []).map (·.1)).Nodup)
    (h : ∀ h₁ tk cells, Fr s.heap s.heap.objs.size h₁ (bindL (envOfC qual scope s.heap.objs.size f cdv).kindOf binds fun _ => none) → News s.heap s.heap.objs.size h₁ cells →
      CellsAre (bindC (envOfC qual scope s.heap.objs.size f cdv).kindOf binds fun _ => none) (cellsFrom (s.heap.objs.size + 1) scope.names []) cells →
      wpAny (model prog w) (A.deeper (envOfC qual scope s.heap.objs.size f cdv)) (execs body (envOfC qual scope s.heap.objs.size f cdv))
        (fun fl s' => R (.ok (.ret (match fl with | .ret v => v | _ => .none))) s')
        (fun e s' => wpAny (model prog w) (A.deeper (envOfC qual scope s.heap.objs.size f cdv)) (leaving (envOfC qual scope s.heap.objs.size f cdv) e) (fun _ s'' => R (.error e) s'') (fun e' s'' => R (.error e') s'') s')
        { s with heap := h₁, toks := tk })
    (hco : scope.isCoroutine = false) (hgen : scope.isGenerator = false) (hk : scope.kind = .function) : codeAny (model prog w) A (.call (.ref f) args) R s := by
  refine codeAny_call_function hroom (X₀ _ _ ho) rfl hco hgen rfl (codeRec_of X₀ hcd) (hbind _ _ _ _ ?_)
  refine wpAny_newFunctionEnv_cells hk (kindsX hkind _) fun env' he s' x => ?_
  subst he
  refine ⟨hlim.keeps x.toInCall.keep, codeAny_func ?_⟩
  obtain ⟨h₁, tk, rfl, _⟩ := x.done
  have hk₁ := x.toInCall.keep
  obtain ⟨cells, NC, Y⟩ := Cl.news (h₀ := s.heap) (Nat.le_refl _) fun n c hm => ⟨x.cell n c (lookup_of_mem_nodup (cellsFrom_names scope.names 0 (s.heap.objs.size + 1) [] [] rfl ▸ hnd) hm), x.above n c hm⟩
  exact h h₁ tk cells ⟨x.toInCall.ns, hk₁, Nat.le_refl _⟩ NC Y


def filt (row above : List Int) (step way : Int) : List Int :=
  (List.range row.length).map fun (i : Nat) => Int.fmod (row.getD i 0 - gue row above (i : Int) step way) 256

theorem filt_eq {rb : Array UInt8} {row above : List Int} {step way : Int} (hr : KBw.bInts rb = row) :
    (rangeKs 0 (((row.length : Nat) : Int) - 0).toNat).map (fun k' => if 0 ≤ row.getD k'.toNat 0 ∧ row.getD k'.toNat 0 < 256 then (row.getD k'.toNat 0 - gue row above k' step way).fmod 256 else k') = filt row above step way := by
  have hin : ∀ j : Nat, 0 ≤ row.getD j 0 ∧ row.getD j 0 < 256 := fun j => KBw.getD_in (ks := row) (j := j) fun k hk => KBw.ints_in (hr ▸ hk)
  unfold filt rangeKs
  rw [Int.sub_zero, Int.toNat_natCast, List.map_map]
  refine List.map_congr_left fun i _ => ?_
  simp only [Function.comp, Int.zero_add, Int.toNat_natCast]
  rw [if_pos (hin i)]

theorem rng_lt {k : Int} {n : Nat} (h : k < 0 + ((((n : Nat) : Int) - 0).toNat : Int)) : k < (n : Int) := by omega
local macro_rules | `(tactic| walk_at "call ref") => `(tactic| (
  refine' guess_bytes _ _ _ _ _ _ _ _ _ _ _ _ ?p1 ?p2 ?p3 ?p4 ?p5 ?p6 ?p7 ?p8 ?p9 ?p10 ?p11 ?_
  (case p1 => (simp only [depth_deeper]; (try dsimp only); omega))
  (case p2 => first | exact rfl | assumption)
  (case p3 => (simp only [units_deeper]; (try dsimp only); omega))
  (case p4 => exact G0.keeps (by assumption) (Fr.keep (by assumption)))
  (case p5 => assumption)
  (case p6 => assumption)
  (case p7 => first | exact rng_lt (by assumption) | omega)
  (case p8 => omega)
  (case p9 => omega)
  (case p10 => omega)
  (case p11 => omega)
  intro t9 h9 tk9 k9
  have F9 := Fr.keeps (by assumption) k9
  have N9 := News.grown (by assumption) k9
  (try dsimp only)))

theorem filtered_ok {w : World} {A : Around} {s : Shared} {Q E : Value → Shared → Prop} (rb ub : Array UInt8) (row above : List Int) (tr tu : Tok) (step way : Int) (ts tw : Tok)
    (hroom : A.depth + 3 < recursionLimit) (hh : A.handled = none) (hu : A.units + 24 < cLine) (G : G0 w s.heap)
    (hr : KBw.bInts rb = row) (hu' : KBw.bInts ub = above)
    (h1 : 1 ≤ step) (h4 : row.length ≤ 1000000) (h5 : above.length ≤ 1000000)
    (hQ : ∀ (D : Addr) (vs : List Value) (h' : Heap) (tk : Nat), Kept s.heap h' → s.heap.get? D = none → h'.get? D = some (LCg.lst vs) → IntsAre vs (filt row above step way) → Q (.ref D) { s with heap := h', toks := tk }) :
    wpAny (model PySem.Challenge.rw_qz0073_01.row.prog w) A (PySem.call (.ref 106) [.bytes rb tr, .bytes ub tu, .int step ts, .int way tw]) Q E s := by
  have GG := G
  obtain ⟨X, mean, mg, mb, T⟩ := G
  obtain ⟨hd', dep, frs, gds, un⟩ := A
  dsimp only at hh hroom hu
  subst hh
  refine wpAny_call ?_
  (k_dflt (refine' code_rawC ?k1 ?k2 ?k3 ?k4 ?k5 ?k6 ?k7 ?k8 ?_ ?c1 ?c2 ?c3; (case k1 => assumption); (case k2 => exact Top.nolimit (by assumption)); (case k3 => k_is); (case k4 => k_is); (case k5 => first | omega | (dsimp only; omega)); (case k6 => exact BindsTo.of_eq rfl); (case k7 => exact rfl); (case k8 => decide +kernel); (case c1 => exact rfl); (case c2 => exact rfl); (case c3 => exact rfl); k_whole; intro h₁ tk cells F' N' Y'; k_cells Y'; (try simp only [List.cons_append, List.nil_append] at N'); (try dsimp only)))
  k_steps
  (try dsimp only)
  rename Fr _ _ _ _ => Fz
  rename News _ _ _ _ => Nz
  rename IntsAre _ _ => hI
  exact hQ _ _ _ _ Fz.keep (Nz _ List.mem_cons_self).2.2 (Nz _ List.mem_cons_self).1 (filt_eq hr ▸ hI)
end
local macro_rules | `(tactic| walk_at "MY-PAD") => `(tactic| skip)
local macro_rules | `(tactic| walk_at "MY-PAD") => `(tactic| skip)

section

section
variable {prog : Program} {w : World} {A : Around} {E : Value → Shared → Prop} {s : Shared} {h₀ : Heap} {L : Addr} {m : Str → Option Value} {env : Env}

/-- the turns of a comprehension, by an invariant over the turn's number, the items made so far and the ledger -/
theorem rest_led {elt : Expr} {x : Str} {scope : Scope} {cl : List (Str × Addr)} {S : List (Addr × Obj) → Prop} {P : Nat → Value → Prop} {Fin : List Value → List (Addr × Obj) → Prop} {news : List (Addr × Obj)} {n : Nat}
    (J : Nat → List Value → List (Addr × Obj) → Prop) (h0 : J 0 [] news)
    (turn : ∀ i v I oI C oC D m₂ ys news h tk (E' : Value → Shared → Prop), i < n → P i v → J i ys news → LCg.NsObj oC m₂ → m₂ x = some v → Fr h₀ L h m → News h₀ L h ((I, oI) :: (C, oC) :: (D, LCg.lst ys) :: news) → LCg.Off3 I C D news → ((@Ne Nat I C) ∧ (@Ne Nat I D) ∧ (@Ne Nat C D)) →
      wpAny (model prog w) A (eval elt (compEnvC scope cl C env)) (LCg.CompEnd h₀ L m { s with heap := h, toks := tk } I oI C oC D (LCg.lst ys) S (fun y news' => J (i + 1) (ys ++ [y]) news')) E' { s with heap := h, toks := tk })
    (fin : ∀ ys news', J n ys news' → Fin ys news') : LCg.CompRest prog w A h₀ L m env elt x scope cl s S P Fin n 0 [] news := by
  have key : ∀ (j i : Nat) (ys : List Value) (news : List (Addr × Obj)), i + j = n → J i ys news → LCg.CompRest prog w A h₀ L m env elt x scope cl s S P Fin j i ys news := by
    intro j
    induction j with
    | zero =>
      intro i ys news hi hy
      have e : i = n := by omega
      subst e
      exact LCg.CompRest.zero (fin ys news hy)
    | succ j ih =>
      intro i ys news hi hy
      refine LCg.CompRest.succ ?_
      intro v I oI C oC D m₂ h tk E' hv hC hx F N off ne
      refine wpAny_mono (turn i v I oI C oC D m₂ ys news h tk E' (by omega) hv hy hC hx F N off ne) (fun y s₂ hq => ?_) fun _ _ e => e
      obtain ⟨h', tk', nw, e, F', N', off', hS, hn⟩ := hq
      exact ⟨h', tk', nw, e, F', N', off', hS, ih (i + 1) _ nw (by omega) hn⟩
  exact key n 0 [] news (by omega) h0

def StepSrc (prog : Program) (w : World) (A : Around) (h₀ : Heap) (L : Addr) (m : Str → Option Value) (env : Env) (elt : Expr) (x : Str) (scope : Scope) (cl : List (Str × Addr)) (Q : Value → Shared → Prop) (xv : Value) (s₁ : Shared) : Prop :=
  ∃ r a b c t u v n news, xv = .ref r ∧ A.handled = none ∧ Fr h₀ L s₁.heap m ∧ News h₀ L s₁.heap news ∧ IsRange s₁.heap r a b c t u v ∧ Builtin.Range.small a b c = true ∧ Builtin.Range.rangeSize a b c = ((n : Nat) : Int) ∧ n ≤ sizeLine ∧
      ∀ g, LCg.CompRest prog w A h₀ L m env elt x scope cl { s₁ with heap := g } (fun _ => True) (fun i v => ∃ t, v = .int (a + (i : Int) * c) t) (LCg.FinE h₀ L m { s₁ with heap := g } Q) n 0 [] news

/-- a list comprehension over a range of any step -/
theorem ListComp_step {elt iter : Expr} {x : Str} {px : Pos} {scope : Scope} {cl : List (Str × Addr)} {pos : Pos} {Q : Value → Shared → Prop} (_F₀ : Fr h₀ L s.heap m)
    (hclos : closureFor scope env = pure cl) (hcell : ∀ y ∈ scope.names, y.2 ≠ .cell) (hkind : scope.kind = .function)
    (hnames : ∀ y ∈ scope.names, y.2 = .local → scope.names.lookup y.1 = some .local) (hx : scope.names.lookup x = some .local)
    (h : wpAny (model prog w) A (eval iter env) (StepSrc prog w A h₀ L m env elt x scope cl Q) E s)
    (hs : ∀ x, foldedSetIterable iter env x = pure x := by intro _; rfl) :
    wpAny (model prog w) A (eval (.ListComp elt [⟨.Name x px, iter, [], 0⟩] scope pos) env) Q E s := by
  rw [eval_ListComp]
  refine wpAny_comprehension_free (use := none) rfl hs hclos hkind hnames (wpAny_mono h (fun xv s₁ h₁ => ?_) fun _ _ e => e)
  obtain ⟨r, a, b, c, t, u, v, n, news, rfl, hh, F, N, hr, hsm, hn, hsz, R⟩ := h₁
  refine wpAny_pyIter_range hr hsm ?_
  refine LCg.block_U (Walks.range hh s₁.heap.objs.size a c n) hsz (fun i h st => ⟨_, st⟩) (fun i h h' o nw st e e' _ _ _ => ?_) hcell hkind hx (by show IsRangeIter _ _ _ _ _; rw [hn]; simpa using Heap.get?_push_size _ rfl) (fun b hb => ?_)
    (F.keeps fun _ _ e => Heap.get?_push_of_some _ e) (N.grown fun _ _ e => Heap.get?_push_of_some _ e) (Nat.ne_of_lt F.ns.lt) (next_is_new F) (fun p hp => Nat.ne_of_lt (Heap.lt_size (N p hp).1)) trivial (R _) ?_
  · have st' : h.get? s₁.heap.objs.size = some _ := st
    show h'.get? _ = some _
    rw [e', ← e]; exact st'
  · rw [List.mem_singleton.mp hb]
    show s₁.heap.objs.size < (s₁.heap.push _).objs.size
    rw [Heap.size_push]; exact Nat.lt_succ_self _
  · intro D C h tk m' ys news' F' N' o1 hn hC₀ hD₀ hCL hDL hCD offC fin
    refine ⟨m', hn, fun h'' hs'' => fin D h'' tk (F'.change hs'' hCL hC₀) (fun p hp => ?_) o1⟩
    refine ⟨hs''.extBut _ _ ?_ (N' p hp).1, (N' p hp).2⟩
    rcases List.mem_cons.mp hp with rfl | hp
    · exact Ne.symm hCD
    · exact offC p hp
end

/-- bytes objects, by their ints -/
def BytesAre (vs : List Value) (rs : List (List Int)) : Prop := vs.length = rs.length ∧ ∀ (i : Nat) (v : Value), vs[i]? = some v → ∃ b t, v = .bytes b t ∧ rs[i]? = some (KBw.bInts b)

def chunks (size : Nat) (ks : List Int) : List (List Int) := (List.range ((ks.length + size - 1) / size)).map fun i => (ks.drop (i * size)).take size

def RowsTurn (ks : List Int) (size : Nat) (news : List (Addr × Obj)) (i : Nat) (ys : List Value) (news' : List (Addr × Obj)) : Prop :=
  news' = news ∧ ys.length = i ∧ ∀ (j : Nat) (v : Value), ys[j]? = some v → ∃ b t, v = .bytes b t ∧ KBw.bInts b = (ks.drop (j * size)).take size


local macro_rules | `(tactic| walk_at "eval ListComp") => `(tactic| (k_dflt (refine ListComp_step (by k_asm) (by with_unfolding_all rfl) (by decide) (by rfl) (by decide) (by rfl) ?_)))

theorem small_step {size n : Nat} (h1 : 1 ≤ size) (h2 : size ≤ 8) (h4 : n ≤ 1000) : Builtin.Range.small 0 (n : Int) (size : Int) = true := by
  have hd : ((n : Int) - 0 - 1) / (size : Int) ≤ 1000 := by
    rcases Nat.eq_zero_or_pos n with h | h
    · subst h
      have : ((0 : Nat) : Int) - 0 - 1 < 0 := by omega
      have := Int.ediv_neg_of_neg_of_pos this (b := (size : Int)) (by omega)
      omega
    · exact Int.le_trans (Int.ediv_le_self _ (by omega)) (by omega)
  have hd2 : 0 < n → 0 ≤ ((n : Int) - 0 - 1) / (size : Int) := fun h => Int.ediv_nonneg (by omega) (by omega)
  unfold Builtin.Range.small Builtin.Range.rangeSize
  simp only [Builtin.Range.rangeFitsLong, Bool.and_eq_true, Bool.or_eq_true, decide_eq_true_eq, beq_iff_eq, show (size : Int) > 0 by omega, if_true]
  generalize ((n : Int) - 0 - 1) / (size : Int) = q at *
  split <;> omega

theorem size_step {size n : Nat} (h1 : 1 ≤ size) : Builtin.Range.rangeSize 0 (n : Int) (size : Int) = (((n + size - 1) / size : Nat) : Int) := by
  unfold Builtin.Range.rangeSize
  rw [if_pos (by omega)]
  rcases Nat.eq_zero_or_pos n with h | h
  · subst h
    rw [if_neg (by omega), Nat.div_eq_of_lt (by omega)]
    rfl
  · rw [if_pos (by omega), show n + size - 1 = (n - 1) + size by omega, Nat.add_div_right _ (by omega)]
    have e : (n : Int) - 0 - 1 = ((n - 1 : Nat) : Int) := by omega
    rw [e]
    push_cast
    rfl

theorem rows_turn {ks : List Int} {size i : Nat} {ys : List Value} {b : Array UInt8} {t : Tok} {lo hi : Option Int} {news : List (Addr × Obj)} (h1 : ys.length = i)
    (h2 : ∀ (j : Nat) (v : Value), ys[j]? = some v → ∃ b t, v = .bytes b t ∧ KBw.bInts b = (ks.drop (j * size)).take size)
    (hk : KBw.bInts (KBy.picked b lo hi) = (ks.drop (clipAt ks.length (0 + (i : Int) * (size : Int)))).take (clipAt ks.length (0 + (i : Int) * (size : Int) + (size : Int)) - clipAt ks.length (0 + (i : Int) * (size : Int)))) :
    RowsTurn ks size news (i + 1) (ys ++ [.bytes (KBy.picked b lo hi) t]) news := by
  refine ⟨rfl, by simp [h1], fun j v hv => ?_⟩
  rcases Nat.lt_or_ge j ys.length with hj | hj
  · rw [List.getElem?_append_left hj] at hv
    exact h2 j v hv
  · rw [List.getElem?_append_right hj] at hv
    have hj0 : j - ys.length = 0 := by
      rcases Nat.eq_zero_or_pos (j - ys.length) with h | h
      · exact h
      · rw [List.getElem?_eq_none (by simp; omega)] at hv
        cases hv
    rw [hj0] at hv
    obtain rfl : Value.bytes (KBy.picked b lo hi) t = v := by simpa using hv
    have hji : j = i := by omega
    subst hji
    refine ⟨_, _, rfl, hk.trans ?_⟩
    have e1 : (0 + (j : Int) * (size : Int)) = ((j * size : Nat) : Int) := by push_cast; omega
    have e2 : (0 + (j : Int) * (size : Int) + (size : Int)) = ((j * size + size : Nat) : Int) := by push_cast; omega
    rw [e2, e1, clipAt_nat, clipAt_nat]
    generalize j * size = q
    rcases Nat.le_total q ks.length with h | h
    · rw [Nat.min_eq_left h]
      rcases Nat.le_total (q + size) ks.length with h' | h'
      · rw [Nat.min_eq_left h']; congr 1; omega
      · rw [Nat.min_eq_right h', List.take_of_length_le (by simp), List.take_of_length_le (by simp; omega)]
    · rw [Nat.min_eq_right h, List.drop_of_length_le h, List.drop_of_length_le (Nat.le_refl _)]
      simp

theorem rows_ok {w : World} {A : Around} {s : Shared} {Q E : Value → Shared → Prop} (b : Array UInt8) (ks : List Int) (tb ts : Tok) (size : Nat)
    (hroom : A.depth + 3 < recursionLimit) (hh : A.handled = none) (hu : A.units + 24 < cLine) (G : G0 w s.heap)
    (hb : KBw.bInts b = ks) (h1 : 1 ≤ size) (h2 : size ≤ 8) (h4 : ks.length ≤ 1000)
    (hQ : ∀ (D : Addr) (vs : List Value) (h' : Heap) (tk : Nat), Kept s.heap h' → s.heap.get? D = none → h'.IsList D vs.toArray → BytesAre vs (chunks size ks) → Q (.ref D) { s with heap := h', toks := tk }) :
    wpAny (model PySem.Challenge.rw_qz0073_01.row.prog w) A (PySem.call (.ref 87) [.bytes b tb, .int (size : Int) ts]) Q E s := by
  have GG := G
  obtain ⟨X, mean, mg, mb, T⟩ := G
  obtain ⟨hd', dep, frs, gds, un⟩ := A
  dsimp only at hh hroom hu
  subst hh
  refine wpAny_call ?_
  (k_dflt (refine' code_rawC ?k1 ?k2 ?k3 ?k4 ?k5 ?k6 ?k7 ?k8 ?_ ?c1 ?c2 ?c3; (case k1 => assumption); (case k2 => exact Top.nolimit (by assumption)); (case k3 => k_is); (case k4 => k_is); (case k5 => first | omega | (dsimp only; omega)); (case k6 => exact BindsTo.of_eq rfl); (case k7 => exact rfl); (case k8 => decide +kernel); (case c1 => exact rfl); (case c2 => exact rfl); (case c3 => exact rfl); k_whole; intro h₁ tk cells F' N' Y'; k_cells Y'; (try simp only [List.cons_append, List.nil_append] at N'); (try dsimp only)))
  k_steps
  rename IsRange _ _ _ _ _ _ _ _ => R1
  rename Fr _ _ _ _ => F1
  rename News _ _ _ _ => N1
  refine ⟨_, _, _, _, _, _, _, (ks.length + size - 1) / size, _, rfl, rfl, F1, N1, R1, ?_, ?_, ?_, fun g => rest_led (RowsTurn ks size _) ⟨rfl, rfl, fun _ _ h => by simp at h⟩ ?_ ?_⟩
  · exact small_step h1 h2 h4
  · exact size_step h1
  · rw [PySem.sizeLine_eq]
    exact Nat.le_trans (Nat.div_le_self _ _) (by omega)
  · rintro i v I oI C oC D m₂ ys news h tk E' hi ⟨t, rfl⟩ ⟨rfl, hy1, hy2⟩ hC hx F2 N2 off ne
    simp only [LCg.Off3, and_true] at off
    k_fold
    k_steps
    rename KBw.bInts (KBy.picked _ _ _) = _ => hk
    exact rows_turn hy1 hy2 hk
  · rintro ys news' ⟨rfl, hy1, hy2⟩
    intro D h tk F3 N3 o3
    refine hQ D ys h tk F3.keep (N3 _ List.mem_cons_self).2.2 (News.isList N3 List.mem_cons_self) ⟨by rw [hy1]; simp [chunks], fun i v hv => ?_⟩
    obtain ⟨b', t', rfl, e⟩ := hy2 i v hv
    refine ⟨b', t', rfl, ?_⟩
    have hi : i < (ks.length + size - 1) / size := by
      have := (List.getElem?_eq_some_iff.mp hv).1
      omega
    simp [chunks, hi, e]
end
local macro_rules | `(tactic| walk_at "MY-PAD") => `(tactic| skip)
local macro_rules | `(tactic| walk_at "MY-PAD") => `(tactic| skip)

section

/-- an instance of Shape: what its two sizes are -/
def IsShape (h : Heap) (x : Addr) (size step : Int) : Prop :=
  ∃ d es n t u, h.get? x = some (instObj 78 d) ∧ h.get? d = some (dictOf es n) ∧ getL "row_octets" es = some (some (.int size t)) ∧ getL "pixel_octets" es = some (some (.int step u))
theorem IsShape.keeps {h h' : Heap} {x : Addr} {size step : Int} (S : IsShape h x size step) (k : Kept h h') : IsShape h' x size step :=
  let ⟨d, es, n, t, u, a, b, c, e⟩ := S; ⟨d, es, n, t, u, k _ _ a, k _ _ b, c, e⟩


theorem shape_rows {w : World} {A : Around} {E : Value → Shared → Prop} {s : Shared} {h₀ : Heap} {L x : Addr} {m : Str → Option Value} {size step : Int} {ex : Bool} {Q : Value → Shared → Prop} (F : Fr h₀ L s.heap m) (X : (hd.heap_39 w.params).In h₀) (S : IsShape h₀ x size step)
    (h : ∀ t, Q (.int size t) { s with toks := s.toks + 1 }) : wpAny (model PySem.Challenge.rw_qz0073_01.row.prog w) A (getAttr (.ref x) (Str.ofString "row_octets") ex) Q E s := by
  obtain ⟨d, es, n, t, u, a, b, c, e⟩ := S
  k_dflt (refine' get_own (attr := none) F X (⟨F.keep _ _ a, rfl, rfl, F.keep _ _ b⟩ : InstAt s.heap x (instObj 78 d) 78 (some (dictOf es n))) ?_ ?_ ?_ ?_ c rfl (h t); (k_is); (k_is); (k_is); (k_is))

theorem shape_step {w : World} {A : Around} {E : Value → Shared → Prop} {s : Shared} {h₀ : Heap} {L x : Addr} {m : Str → Option Value} {size step : Int} {ex : Bool} {Q : Value → Shared → Prop} (F : Fr h₀ L s.heap m) (X : (hd.heap_39 w.params).In h₀) (S : IsShape h₀ x size step)
    (h : ∀ t, Q (.int step t) { s with toks := s.toks + 1 }) : wpAny (model PySem.Challenge.rw_qz0073_01.row.prog w) A (getAttr (.ref x) (Str.ofString "pixel_octets") ex) Q E s := by
  obtain ⟨d, es, n, t, u, a, b, c, e⟩ := S
  k_dflt (refine' get_own (attr := none) F X (⟨F.keep _ _ a, rfl, rfl, F.keep _ _ b⟩ : InstAt s.heap x (instObj 78 d) 78 (some (dictOf es n))) ?_ ?_ ?_ ?_ e rfl (h u); (k_is); (k_is); (k_is); (k_is))

local macro_rules | `(tactic| walk_at "getAttr ref") => `(tactic| (first | (refine' shape_rows ?q1 ?q2 ?q3 ?_; (case q1 => k_asm); (case q2 => assumption); (case q3 => assumption); intro _) | (refine' shape_step ?q1 ?q2 ?q3 ?_; (case q1 => k_asm); (case q2 => assumption); (case q3 => assumption); intro _)))

theorem news_ne {h₀ h : Heap} {L D : Addr} {news : List (Addr × Obj)} (N : News h₀ L h news) (o : h.get? D = none) : ∀ p ∈ news, p.1 ≠ D := fun p hp e => by
  have z := (N p hp).1
  rw [e, o] at z
  cases z
theorem fr_ne {h₀ h : Heap} {L D : Addr} {m : Str → Option Value} (F : Fr h₀ L h m) (o : h.get? D = none) : L ≠ D := fun e => by
  obtain ⟨oL, _, _, hL, _⟩ := F.ns
  rw [e, o] at hL
  cases hL

section
variable {prog : Program} {w : World} {A : Around} {E : Value → Shared → Prop} {s : Shared} {env : Env} {h₀ : Heap} {x : Str} {body : List Stmt} {Q : Flow → Shared → Prop}
/-- a loop over a list of any values, by an invariant -/
theorem iter_vals {l : Addr} {vs : List Value} {m₀ : Str → Option Value} {news : List (Addr × Obj)} (J : Nat → (Str → Option Value) → List (Addr × Obj) → Prop)
    (hh : A.handled = none) (hl : s.heap.IsList l vs.toArray) (hln : ∀ p ∈ news, p.1 ≠ l) (hlL : env.locals ≠ l) (F : Fr h₀ env.locals s.heap m₀) (N : News h₀ env.locals s.heap news) (hj : J 0 m₀ news)
    (turn : ∀ i v m₁ news₁ h tk own, i < vs.length → vs[i]? = some v → news₁.map (·.1) = news.map (·.1) → OwnOff own (news.map (·.1)) → J i m₁ news₁ → Fr h₀ env.locals h (fun y => if y = x then some v else m₁ y) → News h₀ env.locals h (news₁ ++ own) →
      wpAny (model prog w) A (execs body env) (InvPostN h₀ env.locals (J (i + 1)) own (news.map (·.1)) { s with heap := h, toks := tk } Q) E { s with heap := h, toks := tk })
    (done : ∀ m₁ news₁ h tk, J vs.length m₁ news₁ → Fr h₀ env.locals h m₁ → News h₀ env.locals h news₁ → Q .next { s with heap := h, toks := tk }) :
    wpAny (model prog w) A (pyIter (.ref l)) (fun it s₂ => LoopAtV prog w A h₀ env x body Q E it s₂) E s := by
  obtain ⟨ol, hol, _⟩ := id hl
  have hlt : l < s.heap.objs.size := Heap.lt_size hol
  have hne : l ≠ s.heap.objs.size := Nat.ne_of_lt hlt
  refine wpAny_pyIter_list hl ?_
  have W := Walks.list (prog := prog) (w := w) hh s.heap.objs.size l hne vs.toArray
  have hn : vs.toArray.size = vs.length := List.size_toArray
  rw [hn] at W
  refine loop_invN J W ?_ ?_ ?_ ?_ ⟨⟨_, Heap.get?_push_size _ rfl, rfl, rfl⟩, hl.at fun o e => Heap.get?_push_of_some _ e⟩ (F.push _) (fun p hp => ⟨Heap.get?_push_of_some _ (N p hp).1, (N p hp).2⟩) hj ?_ done
  · intro hm
    rcases List.mem_cons.mp hm with e | hm
    · exact absurd F.ns.lt (e ▸ Nat.lt_irrefl _)
    · exact hlL (List.mem_singleton.mp hm)
  · intro b hb
    rw [List.mem_singleton.mp hb]
    exact next_is_new F
  · intro p hp hI
    exact absurd (Heap.lt_size (N p hp).1) ((List.mem_singleton.mp hI) ▸ Nat.lt_irrefl _)
  · intro q hq hm
    rcases List.mem_cons.mp hm with e | hm
    · exact absurd (Heap.lt_size (N q hq).1) (e ▸ Nat.lt_irrefl _)
    · exact hln q hq (List.mem_singleton.mp hm)
  · intro i v m₁ news₁ h tk own hi hP ha ho hJ F₁ N₁
    exact turn i v m₁ news₁ h tk own hi (by simpa using hP) ha ho hJ F₁ N₁
end

local macro_rules | `(tactic| walk_at "call ref") => `(tactic| refine' Halt.of ?_)
theorem map4 {m : Str → Option Value} {a b c d : Str} {va vb vc vd : Value} (ha : m a = some va) (hb : m b = some vb) (hc : m c = some vc) (hd : m d = some vd) :
    m = fun y => if y = a then some va else if y = b then some vb else if y = c then some vc else if y = d then some vd else m y := by
  funext y
  by_cases h1 : y = a
  · subst h1; simp [ha]
  · by_cases h2 : y = b
    · subst h2; simp [h1, hb]
    · by_cases h3 : y = c
      · subst h3; simp [h1, h2, hc]
      · by_cases h4 : y = d
        · subst h4; simp [h1, h2, h3, hd]
        · simp [h1, h2, h3, h4]

def appStep (step way : Int) (σ : List Int × List Int) (row : List Int) : List Int × List Int := (σ.1 ++ (way :: filt row σ.2 step way), row)
def appSt (step way : Int) (rows : List (List Int)) : List Int × List Int := rows.foldl (appStep step way) ([], [])
theorem filt_length (row above : List Int) (step way : Int) : (filt row above step way).length = row.length := by simp [filt]
theorem appSt_bound {step way : Int} : ∀ (rows : List (List Int)) (σ : List Int × List Int), (∀ r ∈ rows, r.length ≤ 8) → σ.2.length ≤ 8 → (rows.foldl (appStep step way) σ).1.length ≤ σ.1.length + 9 * rows.length ∧ (rows.foldl (appStep step way) σ).2.length ≤ 8
  | [], σ, _, h => ⟨by simp, by simpa using h⟩
  | r :: rs, σ, hr, h => by
    have h1 := hr r List.mem_cons_self
    have h2 := appSt_bound (step := step) (way := way) rs (appStep step way σ r) (fun r' h' => hr r' (List.mem_cons_of_mem _ h')) h1
    rw [List.foldl_cons, List.length_cons]
    refine ⟨?_, h2.2⟩
    have h3 : (appStep step way σ r).1.length = σ.1.length + (r.length + 1) := by simp [appStep, filt_length]
    omega
theorem chunks_mem {size : Nat} {ks r : List Int} (h : r ∈ chunks size ks) : r.length ≤ size := by
  obtain ⟨i, _, rfl⟩ := List.mem_map.mp h
  rw [List.length_take]
  omega
theorem chunks_length (size : Nat) (ks : List Int) : (chunks size ks).length = (ks.length + size - 1) / size := by simp [chunks]
theorem appSt_len {step way : Int} {rows : List (List Int)} {ks : List Int} {size : Nat} (hr : rows = chunks size ks) (h2 : size ≤ 8) (i : Nat) : (appSt step way (rows.take i)).1.length ≤ 9 * (ks.length + 8) ∧ (appSt step way (rows.take i)).2.length ≤ 8 := by
  subst hr
  have h := appSt_bound (step := step) (way := way) ((chunks size ks).take i) ([], []) (fun r h => Nat.le_trans (chunks_mem (List.mem_of_mem_take h)) h2) (by simp)
  refine ⟨Nat.le_trans h.1 ?_, h.2⟩
  have h3 : ((chunks size ks).take i).length ≤ ks.length + size - 1 := by
    rw [List.length_take, chunks_length]
    exact Nat.le_trans (Nat.min_le_right _ _) (Nat.div_le_self _ _)
  simp only [List.length_nil]
  omega

def AppJ (rows : List (List Int)) (step way : Int) (f x : Addr) (tw : Tok) (i : Nat) (m : Str → Option Value) (nx : List (Addr × Obj)) : Prop :=
  ∃ fv k ub tu, nx = [(f, listOf fv.toArray k)] ∧ IntsAre fv (appSt step way (rows.take i)).1 ∧ KBw.bInts ub = (appSt step way (rows.take i)).2 ∧
    m (Str.ofString "found") = some (.ref f) ∧ m (Str.ofString "above") = some (.bytes ub tu) ∧ m (Str.ofString "shape") = some (.ref x) ∧ m (Str.ofString "way") = some (.int way tw)

section
variable {prog : Program} {w : World} {A : Around} {E : Value → Shared → Prop} {s : Shared} {h₀ : Heap} {L D b : Addr} {m : Str → Option Value} {rest : List (Addr × Obj)}
theorem ext_K {its its2 : Array Value} {n n2 : Nat} {Q : Value → Shared → Prop} (F : Fr h₀ L s.heap m) (N : News h₀ L s.heap ((D, listOf its n) :: rest)) (hoff : ∀ p ∈ rest, p.1 ≠ D) (hb : s.heap.get? b = some (listOf its2 n2))
    (hz : its.size + its2.size ≤ 1000000) (h : ∀ h' n', Fr h₀ L h' m → News h₀ L h' ((D, listOf (its ++ its2) n') :: rest) → Q .none { s with heap := h' }) : wpAny (model prog w) A (call (.builtin "list.extend") [.ref D, .ref b]) Q E s := by
  have z := N (D, listOf its n) List.mem_cons_self
  have hd : ¬(!its.isEmpty && Builtin.List.listTooLong (its.size + its2.size)) = true := by
    unfold Builtin.List.listTooLong
    simp only [Bool.and_eq_true, decide_eq_true_eq, not_and, Nat.not_lt, PySem.sizeLine_eq]
    intro _
    omega
  refine call_meets PySem.F.slot_list_extend ⟨_, z.1, rfl⟩ PySem.F.entry_list_extend (PySem.F.args_list_extend_2 _ _) (PySem.AutoSeq1.list_extend_list_list_0 D its n b its2 n2 hd (by rw [PySem.sizeLine_eq]; omega) (by rw [PySem.sizeLine_eq]; omega))
    ⟨z.1, hb, h _ (if (its ++ its2).size == its.size then n else n + 1) (F.change (Heap.SameBut.update ..) z.2.1 z.2.2) ?_⟩
  refine news_set (pre := []) N (fun _ h => nomatch h) hoff (Heap.SameBut.update ..) ?_
  exact PySem.IsL.update z.1 fun x => x ++ its2
end

local macro_rules | `(tactic| k_all) => `(tactic| assumption)

local macro_rules | `(tactic| walk_at "call builtin:list.extend") => `(tactic| refine' Halt.of ?_)


theorem app_in {rb : List Int} {σ : List Int × List Int} {step way : Int} (h : KBa.In σ.1) (h5 : 0 ≤ way) (h6 : way < 5) : KBa.In (appStep step way σ rb).1 := by
  intro n hn
  rcases List.mem_append.mp hn with hn | hn
  · exact h n hn
  · rcases List.mem_cons.mp hn with rfl | hn
    · omega
    · obtain ⟨i, _, rfl⟩ := List.mem_map.mp hn
      exact ⟨Int.fmod_nonneg_of_pos _ (by omega), Int.fmod_lt_of_pos _ (by omega)⟩
theorem app_all_in {step way : Int} (h5 : 0 ≤ way) (h6 : way < 5) : ∀ (rows : List (List Int)) (σ : List Int × List Int), KBa.In σ.1 → KBa.In (rows.foldl (appStep step way) σ).1
  | [], _, h => h
  | _ :: rs, _, h => app_all_in h5 h6 rs _ (app_in h h5 h6)
theorem appSt_snoc {step way : Int} {rows : List (List Int)} {i : Nat} {r : List Int} (h : rows[i]? = some r) : appSt step way (rows.take (i + 1)) = appStep step way (appSt step way (rows.take i)) r := by
  unfold appSt
  rw [List.take_add_one, h]
  simp

theorem app_end {h₀ h' : Heap} {L l x : Addr} {m' : Str → Option Value} {own : List (Addr × Obj)} {fv vs : List Value} {n' i : Nat} {step way : Int} {rows : List (List Int)} {tw tr : Tok} {rb : Array UInt8} {o : Obj} {s₁ : Shared} {tk : Nat}
    (F : Fr h₀ L h' m') (N : News h₀ L h' ((l, listOf (fv.toArray.push (.int way tw) ++ vs.toArray) n') :: own)) (hfv : IntsAre fv (appSt step way (rows.take i)).1) (hrb : rows[i]? = some (KBw.bInts rb))
    (i3 : IntsAre vs (filt (KBw.bInts rb) (appSt step way (rows.take i)).2 step way))
    (m1 : m' (Str.ofString "found") = some (.ref l)) (m2 : m' (Str.ofString "above") = some (.bytes rb tr)) (m3 : m' (Str.ofString "shape") = some (.ref x)) (m4 : m' (Str.ofString "way") = some (.int way tw)) :
    InvEndN h₀ L (AppJ rows step way l x tw (i + 1)) own (List.map (fun x => x.1) [(l, o)]) s₁ { s₁ with heap := h', toks := tk } := by
  have e : fv.toArray.push (.int way tw) ++ vs.toArray = (fv ++ .int way tw :: vs).toArray := by simp
  rw [e] at N
  refine InvEndN.intro (nx := [(l, listOf (fv ++ .int way tw :: vs).toArray n')]) F N ⟨_, _, rb, tr, rfl, ?_, ?_, m1, m2, m3, m4⟩ rfl (fun p hp => ?_) (fun p hp => List.mem_cons_of_mem _ hp)
  · rw [appSt_snoc hrb]
    simpa [appStep] using hfv.append (IntsAre.cons way tw i3)
  · rw [appSt_snoc hrb]
    rfl
  · rw [List.mem_singleton.mp hp]
    exact List.mem_cons_self

theorem applied_ok {w : World} {A : Around} {s : Shared} {Q E : Value → Shared → Prop} (b : Array UInt8) (ks : List Int) (tb tw : Tok) (x : Addr) (size : Nat) (step way : Int)
    (hroom : A.depth + 5 < recursionLimit) (hh : A.handled = none) (hu : A.units + 40 < cLine) (G : G0 w s.heap)
    (hb : KBw.bInts b = ks) (hS : IsShape s.heap x size step) (h1 : 1 ≤ size) (h2 : size ≤ 8) (h3 : 1 ≤ step) (h4 : ks.length ≤ 1000) (h5 : 0 ≤ way) (h6 : way < 5)
    (hQ : ∀ (r : Array UInt8) (t : Tok) (h' : Heap) (tk : Nat), Kept s.heap h' → KBw.bInts r = (appSt step way (chunks size ks)).1 → Q (.bytes r t) { s with heap := h', toks := tk }) :
    wpAny (model PySem.Challenge.rw_qz0073_01.row.prog w) A (PySem.call (.ref 123) [.bytes b tb, .ref x, .int way tw]) Q E s := by
  have GG := G
  obtain ⟨X, mean, mg, mb, T⟩ := G
  obtain ⟨hd', dep, frs, gds, un⟩ := A
  dsimp only at hh hroom hu
  subst hh
  refine wpAny_call ?_
  (k_dflt (refine' code_raw ?k1 ?k2 ?k3 ?k4 ?k5 ?k6 ?k7 ?_ ?c1 ?c2 ?c3 ?c4; (case k1 => assumption); (case k2 => exact Top.nolimit (by assumption)); (case k3 => k_is); (case k4 => k_is); (case k5 => first | omega | (dsimp only; omega)); (case k6 => exact BindsTo.of_eq rfl); (case k7 => exact locs rfl); (case c1 => exact rfl); (case c2 => exact rfl); (case c3 => exact rfl); (case c4 => decide); k_whole; intro h₁ F N; (try dsimp only)))
  k_steps
  refine Halt.mk ?_
  refine' rows_ok _ _ _ _ _ ?p1 ?p2 ?p3 ?p4 ?p5 ?p6 ?p7 ?p8 ?_
  (case p1 => (simp only [depth_deeper]; (try dsimp only); omega))
  (case p2 => first | exact rfl | assumption)
  (case p3 => (simp only [units_deeper]; (try dsimp only); omega))
  (case p4 => exact G0.keeps (by assumption) (Fr.keep (by assumption)))
  (case p5 => assumption)
  (case p6 => omega)
  (case p7 => omega)
  (case p8 => omega)
  intro D9 vs9 h9 tk9 k9 o9 l9 b9
  have q9 := news_ne (by assumption) o9
  have r9 := fr_ne (by assumption) o9
  have F9 := Fr.keeps (by assumption) k9
  have N9 := News.grown (by assumption) k9
  (try dsimp only)
  k_steps
  rename Fr _ _ _ _ => F1
  rename News _ _ _ _ => N1
  rename Heap.IsList _ _ _ => l1
  rename BytesAre _ _ => b1
  rename ∀ p ∈ _, _ ≠ _ => q1
  rename _ ≠ _ => r1
  refine iter_vals (AppJ (chunks size ks) step way _ x tw) rfl l1 (fun p hp => q1 p (List.mem_cons_of_mem _ hp)) r1 F1 (fun p hp => N1 p (List.mem_cons_of_mem _ hp)) ⟨_, _, _, _, rfl, IntsAre.nil, rfl, rfl, rfl, rfl, rfl⟩ ?_ ?_
  · rintro i v m₁ news₁ h tk own hi hv - hoff ⟨fv, kk, ub, tu, rfl, hfv, hub, m1, m2, m3, m4⟩ F2 N2
    rw [map4 m1 m2 m3 m4] at F2
    have hz1 := hfv.length
    have hz2 := appSt_len (step := step) (way := way) (rows := chunks size ks) (ks := ks) (size := size) rfl h2 i
    have hz3 : fv.toArray.size ≤ sizeLine := by rw [PySem.sizeLine_eq, List.size_toArray]; omega
    obtain ⟨rb, tr, rfl, hrb⟩ := b1.2 i v hv
    have hz4 : (KBw.bInts rb).length ≤ 8 := Nat.le_trans (chunks_mem (List.mem_of_getElem? hrb)) h2
    simp only [List.cons_append, List.nil_append] at N2
    have ho2 := hoff
    simp only [OwnOff, List.map_cons, List.map_nil, List.mem_singleton, forall_eq] at ho2
    k_unmd
    k_fold
    k_steps
    · exfalso; omega
    refine Halt.mk ?_
    refine' filtered_ok _ _ _ _ _ _ _ _ _ _ ?p1 ?p2 ?p3 ?p4 ?p5 ?p6 ?p7 ?p8 ?p9 ?_
    (case p1 => (simp only [depth_deeper]; (try dsimp only); omega))
    (case p2 => first | exact rfl | assumption)
    (case p3 => (simp only [units_deeper]; (try dsimp only); omega))
    (case p4 => exact G0.keeps (by assumption) (Fr.keep (by assumption)))
    (case p5 => exact rfl)
    (case p6 => assumption)
    (case p7 => omega)
    (case p8 => omega)
    (case p9 => omega)
    intro D9 vs9 h9 tk9 k9 o9 l9 b9
    have F9 := Fr.keeps (by assumption) k9
    have N9 := News.grown (by assumption) k9
    have v9 := IntsAre.length b9
    rw [filt_length] at v9
    (try dsimp only)
    k_steps
    refine Halt.mk ?_
    with_unfolding_all refine' ext_K ?k1 ?k2 ?k3 ?k4 ?k5 ?_
    (case k1 => k_asm)
    (case k2 => k_asm)
    (case k3 => assumption)
    (case k4 => assumption)
    (case k5 => (simp only [Array.size_push, List.size_toArray]; omega))
    intro h' n' F' N'
    k_steps
    rename Fr _ _ _ _ => F3
    rename News _ _ _ _ => N3
    rename IntsAre _ _ => i3
    exact app_end F3 N3 hfv hrb i3 rfl rfl rfl rfl
  · rintro m₁ news₁ h tk ⟨fv, kk, ub, tu, rfl, hfv, hub, m1, m2, m3, m4⟩ F2 N2
    rw [map4 m1 m2 m3 m4] at F2
    rw [b1.1, List.take_length] at hfv
    have hin : KBa.In (appSt step way (chunks size ks)).1 := app_all_in h5 h6 _ _ (fun _ h => nomatch h)
    have hz1 := hfv.length
    have hz2 := appSt_len (step := step) (way := way) (rows := chunks size ks) (ks := ks) (size := size) rfl h2 (chunks size ks).length
    rw [List.take_length] at hz2
    dsimp only
    k_steps
    rename Fr _ _ _ _ => F3
    exact hQ _ _ _ _ F3.keep (KBa.ints_make hin)
end
local macro_rules | `(tactic| walk_at "MY-PAD") => `(tactic| skip)
local macro_rules | `(tactic| walk_at "MY-PAD") => `(tactic| skip)
local macro_rules | `(tactic| walk_at "MY-PAD") => `(tactic| skip)
local macro_rules | `(tactic| walk_at "MY-PAD") => `(tactic| skip)
local macro_rules | `(tactic| walk_at "MY-PAD") => `(tactic| skip)

section

abbrev tup0 (vs : List Value) : Obj := { cls := .type "tuple", data := .seq vs.toArray }
/-- a fault as __new__ leaves it -/
abbrev exc0 (t : Addr) : Obj := { cls := .ref 59, data := .fields #[.ref t, .none, .none, .none, .bool false, .none] }

section
variable {w : World} {A : Around} {E : Value → Shared → Prop} {R : Result → Shared → Prop} {h : Heap} {g : Array GenState} {d : Drawn} {t : Nat} {os : OsState}

theorem fault_new {rest : List Value} (X : (hd.heap_39 w.params).In h) (hz : rest.length ≤ 100)
    (hq : R (.ok (.ret (.ref (h.objs.size + 1)))) ⟨(h.push (tup0 rest)).push (exc0 h.objs.size), g, d, t, os⟩) :
    codeAny (model PySem.Challenge.rw_qz0073_01.row.prog w) A (.call (.builtin "Exception.__new__") ⟨.ref 59 :: rest, []⟩) R ⟨h, g, d, t, os⟩ := by
  have F := PySem.F.excBase_Exception
  have hC := X 59 _ rfl
  have sE : Looks (model PySem.Challenge.rw_qz0073_01.row.prog w) h (isSubtype (.ref 59) (.type "Exception")) true := looks_mroIn X (by k_is)
  have sA : Looks (model PySem.Challenge.rw_qz0073_01.row.prog w) h (isSubtype (.ref 59) (.type "AttributeError")) false := looks_mroIn X (by k_is)
  have sN : Looks (model PySem.Challenge.rw_qz0073_01.row.prog w) h (isSubtype (.ref 59) (.type "NameError")) false := looks_mroIn X (by k_is)
  have m1 : Looks (model PySem.Challenge.rw_qz0073_01.row.prog w) h (Bind.madeBy (.ref 59)) (some "Exception.__new__") := by
    intro A Q E s k q
    obtain ⟨h', g', d', t', os'⟩ := s
    exact wpAny_madeBy_exc (k _ _ hC) q
  have m2 : Looks (model PySem.Challenge.rw_qz0073_01.row.prog w) h (Bind.staticBase (.ref 59)) (.ref 59) := by
    intro A Q E s k q
    obtain ⟨h', g', d', t', os'⟩ := s
    exact wpAny_staticBase_exc (k _ _ hC) q
  have m3 : Looks (model PySem.Challenge.rw_qz0073_01.row.prog w) h (Bind.madeHere "BaseException.__new__" (.ref 59)) () := by
    intro A Q E s k q
    obtain ⟨h', g', d', t', os'⟩ := s
    exact wpAny_madeHere_exc F.canon (k _ _ hC) q
  have m4 : Looks (model PySem.Challenge.rw_qz0073_01.row.prog w) h (isType (.ref 59)) true := by
    intro A Q E s k q
    obtain ⟨h', g', d', t', os'⟩ := s
    exact ks_wpAny_isType_cls (k _ _ hC) rfl q
  refine codeAny_call_builtin_code (Code.quiet_builtin _ F.quiet) ?_
  simp only [checkBuiltinCall, F.newKind, F.newSplit, F.newRow]
  repeat (first | simp only [bne_self_eq_false, Bool.false_eq_true, if_false, Bool.not_true] | lk)
  refine codeAny_builtinAt F.entry ?_
  unfold Builtin.«BaseException.__new__»
  refine PySem.wpAt_bind ?_
  show PySem.wpAt _ _ _ (stack >>= _) _ _ _
  refine PySem.wpAt_bind (PySem.wpAt_stack fun p below => PySem.wpAt_of_wpAny ?_)
  have hends := F.ends
  wp_walk
  refine PySem.wpAt_of_wpAny ?_
  rw [F.owner]
  repeat (first | simp only [bne_self_eq_false, Bool.false_eq_true, if_false, Bool.not_true] | lk)
  rw [if_neg (by rw [PySem.sizeLine_eq, List.size_toArray]; omega)]
  have hC1 := Heap.get?_push_of_some (tup0 rest) hC
  repeat (first | simp only [bne_self_eq_false, Bool.false_eq_true, if_false, Bool.not_true] | lk)
  refine nd_load (Heap.get?_push_of_some _ hC1) ?_
  repeat (first | simp only [bne_self_eq_false, Bool.false_eq_true, if_false, Bool.not_true] | lk)
  show R _ _
  rw [Heap.size_push]
  exact hq

theorem fault_core {rest : List Value} (X : (hd.heap_39 w.params).In h) (hz : rest.length ≤ 100)
    (hq : codeAny (model PySem.Challenge.rw_qz0073_01.row.prog w) (A.under (.builtin "type.__call__" ⟨.ref 59 :: rest, []⟩)) (.call (.ref 36) ⟨.ref (h.objs.size + 1) :: rest, []⟩) (InitBack (h.objs.size + 1) R) ⟨(h.push (tup0 rest)).push (exc0 h.objs.size), g, d, t, os⟩) :
    codeAny (model PySem.Challenge.rw_qz0073_01.row.prog w) A (.call (.ref 59) ⟨rest, []⟩) R ⟨h, g, d, t, os⟩ := by
  have hC := X 59 _ rfl
  have call : Looks (model PySem.Challenge.rw_qz0073_01.row.prog w) h (specialOf (.ref 59) "__call__") (some (.builtin "type.__call__")) := looks_specialIn X (by k_is)
  have typ : Looks (model PySem.Challenge.rw_qz0073_01.row.prog w) h (isInstance (.ref 59) (.type "type")) true := looks_instIn X (by k_is)
  have self : Looks (model PySem.Challenge.rw_qz0073_01.row.prog w) h (isSubtype (.ref 59) (.ref 59)) true := looks_mroIn X (by k_is)
  have hi : Looks (model PySem.Challenge.rw_qz0073_01.row.prog w) h (typeLookup (.ref 59) "__init__") (some (.ref 36)) := looks_findIn X (by k_is)
  have hb : ∀ v : Value, Looks (model PySem.Challenge.rw_qz0073_01.row.prog w) h (bindSpecial (.ref 36) v) (.ref 36, [v]) := fun v => bind_fn X v (by k_is)
  have made : Looks (model PySem.Challenge.rw_qz0073_01.row.prog w) h (Bind.madeBy (.ref 59)) (some "Exception.__new__") := by
    intro A Q E s k q
    obtain ⟨h', g', d', t', os'⟩ := s
    exact wpAny_madeBy_exc (k _ _ hC) q
  refine codeAny_of_tree ?_
  show wpAny _ _ (callAny (.ref 59) _) _ _ _
  refine nd_load hC ?_
  show wpAny _ _ (callAny.viaDunder (.ref 59) _) _ _ _
  unfold callAny.viaDunder
  refine wpAny_bind (call.at ?_)
  dsimp only
  rw [tc_bind]
  refine wpAny_bind (wpAny_pure (wpAny_bind (wpAny_pure ?_)))
  refine wpAny_pure (a := Fin.again (.call (.builtin "type.__call__") ⟨.ref 59 :: rest, []⟩)) (And.intro rfl ?_)
  refine codeAny_call_builtin_at (Code.quiet_builtin _ (by decide +kernel)) entry_typeCall (check_slot tc_kind tc_split typ (tc_args _ _ _) ?_)
  unfold Builtin.«type.__call__»
  have hm : Looks (model PySem.Challenge.rw_qz0073_01.row.prog w) h (mroOf (.ref 59)) [.ref 59, .ref 46, .type "Exception", .type "BaseException", .type "object"] := ((Looks.ld (part := none) hC).andThen .now).andThen .now
  repeat (first | simp only [List.isEmpty_cons, Bool.false_eq_true, if_false] | with_reducible refine wpAny_call ?_ | lk)
  refine fault_new X hz ?_
  have k : ∀ b o, h.get? b = some o → ((h.push (tup0 rest)).push (exc0 h.objs.size)).get? b = some o := fun b o e => Heap.get?_push_of_some _ (Heap.get?_push_of_some _ e)
  have hx : ((h.push (tup0 rest)).push (exc0 h.objs.size)).get? (h.objs.size + 1) = some (exc0 h.objs.size) := by heap_get
  have t1 : Looks (model PySem.Challenge.rw_qz0073_01.row.prog w) ((h.push (tup0 rest)).push (exc0 h.objs.size)) (typeOf (.ref (h.objs.size + 1))) (.ref 59) := (Looks.ld hx).andThen .now
  have s1 := self.keeps k
  have i1 := hi.keeps k
  have b1 := (hb (.ref (h.objs.size + 1))).keeps k
  unfold isInstance callSpecial? specialOf
  repeat (first | with_reducible refine wpAny_call ?_ | lk)
  refine codeAny_mono hq fun r s' z => ?_
  rcases r with e | (v | _ | _ | _) <;> first | exact z | exact z.elim | skip
  obtain ⟨rfl, z⟩ := z
  exact wpAny_pure (wpAny_pure z)
end
end

section

/-- a def is entered, some objects on the ledger -/
theorem code_rawL {prog : Program} {w : World} {A : Around} {s : Shared} {K : Frag} {R : Result → Shared → Prop} {name qual : Str} {params : Arguments} {body : List Stmt} {scope : Scope} {dV kV doc pm cdv ct oc : Value} {an od : Option Addr} {osl : Array (Option Value)} {f : Addr} {args : Args} {binds : List (Str × Value)}
    {hb : Heap} {news : List (Addr × Obj)} (kb : Kept hb s.heap) (N : ∀ p ∈ news, s.heap.get? p.1 = some p.2 ∧ hb.get? p.1 = none)
    (X₀ : K.In hb) (hlim : hb.NoLimit)
    (ho : K.lookup f = some ⟨oc, od, .func (fnOf name qual params body scope dV kV doc pm an cdv ct), osl⟩) (hcd : codeIn K cdv qual = true) (hroom : A.depth < recursionLimit)
    (hbind : BindsTo s (fnOf name qual params body scope dV kV doc pm an cdv ct) args binds) (hloc : ∀ y ∈ binds, scope.names.lookup y.1 = some .local)
    (h : ∀ g L h₁, Kept hb g → (∀ b o, g.get? b = some o → s.heap.get? b = some o) → (∀ b o, s.heap.get? b = some o → b ∉ news.map (·.1) → g.get? b = some o) → (∀ p ∈ news, p.1 < L) → Fr g L h₁ (fun y => binds.reverse.lookup y) → News g L h₁ news →
      wpAny (model prog w) (A.deeper (envOf qual scope L f cdv)) (execs body (envOf qual scope L f cdv))
        (fun fl s' => R (.ok (.ret (match fl with | .ret v => v | _ => .none))) s')
        (fun e s' => wpAny (model prog w) (A.deeper (envOf qual scope L f cdv)) (leaving (envOf qual scope L f cdv) e) (fun _ s'' => R (.error e) s'') (fun e' s'' => R (.error e') s'') s')
        { s with heap := h₁, toks := s.toks + binds.length })
    (hco : scope.isCoroutine = false) (hgen : scope.isGenerator = false) (hk : scope.kind = .function)
    (hcell : ∀ x ∈ scope.names, x.2 ≠ .cell) : codeAny (model prog w) A (.call (.ref f) args) R s :=
  codeAny_call_def hroom (kb _ _ (X₀ _ _ ho)) rfl (hlim.keeps kb) (codeRec_of (X₀.keeps kb) hcd) rfl hbind hcell hloc
    (fun h₁ hns hk₁ => h (hideAll s.heap (news.map (·.1))) _ h₁
      (fun b o e => hideAll_get _ (kb b o e) fun hm => by
        obtain ⟨p, hp, rfl⟩ := List.mem_map.mp hm
        rw [(N p hp).2] at e; cases e)
      (fun b o e => of_hideAll _ e) (fun b o e n => hideAll_get _ e n) (fun p hp => Heap.lt_size (N p hp).1)
      ⟨hns, fun b o e => hk₁ b o (of_hideAll _ e), Nat.le_of_eq (hideAll_size _ _)⟩
      (fun p hp => ⟨hk₁ _ _ (N p hp).1, Nat.ne_of_lt (Heap.lt_size (N p hp).1), hideAll_none _ (List.mem_map_of_mem hp)⟩)) hco hgen hk



section
variable {w : World} {A : Around} {E : Value → Shared → Prop} {R : Result → Shared → Prop} {s : Shared} {h₀ : Heap} {L e d : Addr} {m : Str → Option Value} {rest : List (Addr × Obj)} {ox : Obj}

theorem refuse_exc (self : Value) : refuseLoop self "__setattr__" [.ref 59, .ref 46, .type "Exception", .type "BaseException", .type "object"] = pure () := by
  rw [refuseLoop_ref, refuseLoop_ref]
  kernel_rfl

theorem osa_exc {name : Str} {tk : Tok} {v : Value} (X : (hd.heap_39 w.params).In s.heap) (he : s.heap.get? e = some ox) (hc : ox.cls = .ref 59) (ht : takerIn (hd.heap_39 w.params) 59 name = some none)
    (h : ∀ b, wpAny (model PySem.Challenge.rw_qz0073_01.row.prog w) A.in1 (PySem.Builtin.ObjectAttr.storeInOwnDict (.ref e) (.ref 59) (.str name tk) name v b)
      (fun fin s' => match fin with | .done f => R (.ok f) s' | .again c' => c'.quiet = true ∧ codeAny (model PySem.Challenge.rw_qz0073_01.row.prog w) A c' R s') (fun e s' => R (.error e) s') s) :
    codeAny (model PySem.Challenge.rw_qz0073_01.row.prog w) A (.call (.builtin "object.__setattr__") ⟨[.ref e, .str name tk, v], []⟩) R s := by
  have SF := PySem.F.store_object
  have hC := X 59 _ rfl
  have ty : Looks (model PySem.Challenge.rw_qz0073_01.row.prog w) s.heap (typeOf (.ref e)) (.ref 59) := hc ▸ (Looks.ld he).andThen .now
  have sub : Looks (model PySem.Challenge.rw_qz0073_01.row.prog w) s.heap (isInstance (.ref e) (.type "object")) true := ty.andThen (looks_mroIn X (by k_is))
  refine codeAny_call_builtin SF.slot.plain SF.entry (@check_slot (model PySem.Challenge.rw_qz0073_01.row.prog w) _ _ s "object.__setattr__" "object" "__setattr__" (.ref e) [.str name tk, v] [] _ SF.kind SF.split sub (SF.args (.ref e) (.str name tk) v) ?_)
  obtain ⟨attr, ha, hr⟩ := Option.bind_eq_some_iff.mp ht
  have hm : Looks (model PySem.Challenge.rw_qz0073_01.row.prog w) s.heap (mroOf (.ref 59)) [.ref 59, .ref 46, .type "Exception", .type "BaseException", .type "object"] := ((Looks.ld (part := none) hC).andThen .now).andThen .now
  have L3 : Looks (model PySem.Challenge.rw_qz0073_01.row.prog w) s.heap (PySem.Builtin.ObjectAttr.storeTaker? attr) none := by
    cases attr with
    | none => exact .now
    | some a =>
      obtain ⟨b, hb, hz⟩ := Option.map_eq_some_iff.mp hr
      refine (looks_takesIn X hb).andThen ?_
      cases b with
      | true => cases hz
      | false => exact .now
  rw [osa_eq, refuse_eq]
  refine wpAny_bind (wpAny_bind (ty.here (wpAny_bind (hm.here ?_))))
  rw [refuse_exc]
  refine wpAny_pure (wpAny_bind (ty.here (wpAny_bind ((looks_findIn X ha).here (wpAny_bind (L3.here ?_))))))
  exact h _
end


section
variable {w : World} {A : Around} {E : Value → Shared → Prop} {s : Shared} {h₀ : Heap} {L e d : Addr} {m : Str → Option Value} {rest : List (Addr × Obj)} {vs : Array Value} {sl : Array (Option Value)}

theorem store_dict {M : Model} {es : List DictEntry} {n : Nat} {name : Str} {tk : Tok} {v : Value} {Q : PySem.Fin → Shared → Prop} (D : s.heap.get? d = some (dictOf es n)) (hk : es.any (·.refKey) = false) (hz : es.length ≤ 100)
    (h : ∀ h', Heap.SameBut d s.heap h' → h'.get? d = some (dictOf (putL name (PyData.keyHash M.w.params name) (.str name s.toks) v es) (putN name es n)) → Q (.done (.ret .none)) { s with heap := h', toks := s.toks + 1 }) :
    wpAny M A (PySem.Builtin.ObjectAttr.storeInDict d (.str name tk) name v) Q E s := by
  have hl : (putL name (PyData.keyHash M.w.params name) (.str name s.toks) v es).length ≤ 101 := by
    have : ∀ es : List DictEntry, (putL name (PyData.keyHash M.w.params name) (.str name s.toks) v es).length ≤ es.length + 1 := by
      intro es
      induction es with
      | nil => simp [putL]
      | cons e r ih =>
        unfold putL
        split
        · simp
        · simp only [List.length_cons]; omega
    have := this es
    omega
  have D' : (s.heap.update d (Obj.putName name (PyData.keyHash M.w.params name) (.str name s.toks) v)).get? d = some (dictOf (putL name (PyData.keyHash M.w.params name) (.str name s.toks) v es) (putN name es n)) := by
    rw [← putName_dict]
    exact Heap.get?_update_self _ D (by rw [putName_dict]; rfl)
  unfold PySem.Builtin.ObjectAttr.storeInDict nsSet
  refine wpAny_bind (wpAny_pure (wpAny_bind ?_))
  refine wpAny_bind (wpAny_bind (wpAny_askSetting (wpAny_pure (wpAny_bind (wpAny_mkText (wpAny_bind (wpAny_loadPart D ?_)))))))
  dsimp only
  have c : aRefKeyMayBeTheName name es.toArray = false := by
    rw [aRefKeyMayBeTheName_at]
    simp only [List.any_toArray, hk, Bool.and_false]
  rw [c]
  refine wpAny_updatePart D ?_
  refine wpAny_bind (wpAny_lookBehind D' (pastItsLine_dict (by rw [List.size_toArray, PySem.sizeLine_eq]; omega)) ?_)
  exact wpAny_pure (h _ (Heap.SameBut.update ..) D')

theorem exc_set0 {name : Str} {v : Value} {Q : Unit → Shared → Prop} (F : Fr h₀ L s.heap m) (X : (hd.heap_39 w.params).In h₀) (N : News h₀ L s.heap ((e, ⟨.ref 59, none, .fields vs, sl⟩) :: rest)) (hoff : ∀ p ∈ rest, p.1 ≠ e)
    (ht : takerIn (hd.heap_39 w.params) 59 name = some none)
    (h : ∀ d h' tk tk' k, Fr h₀ L h' m → News h₀ L h' ((e, ⟨.ref 59, some d, .fields vs, sl⟩) :: (d, dictOf [⟨k, .str name tk, v⟩] 1) :: rest) → d ≠ e → (∀ p ∈ rest, p.1 ≠ d) → Q () { s with heap := h', toks := tk' }) :
    wpAny (model PySem.Challenge.rw_qz0073_01.row.prog w) A (setAttr (.ref e) name v) Q E s := by
  have X' := X.keeps F.keep
  have he := (N _ List.mem_cons_self).1
  have hC := X' 59 _ rfl
  k_dflt (refine set_plain X' (⟨he, rfl, rfl, trivial⟩ : InstAt s.heap e _ 59 none) (by k_is) ?_)
  refine osa_exc (s := { s with toks := s.toks + 1 }) X' he rfl ht fun b => ?_
  obtain ⟨hp, g, dr, t, os⟩ := s
  dsimp only at he hC
  unfold PySem.Builtin.ObjectAttr.storeInOwnDict
  generalize hsd : PySem.Builtin.ObjectAttr.storeInDict = SD
  repeat lk
  have he1 := Heap.get?_push_of_some { cls := .type "dict", data := .dict #[] } he
  have hne : hp.objs.size ≠ e := Nat.ne_of_gt (Heap.lt_size he)
  have hd1 : (hp.push { cls := .type "dict", data := .dict #[] }).get? hp.objs.size = some (dictOf [] 0) := Heap.get?_push_size _ rfl
  refine wpAny_update he1 ?_
  have he2 := Heap.get?_update_self (fun o => { cls := o.cls, dict := some hp.objs.size, data := o.data, slots := o.slots }) he1 rfl
  have hd2 := (Heap.get?_update_other (hp.push { cls := .type "dict", data := .dict #[] }) (fun o : Obj => { cls := o.cls, dict := some hp.objs.size, data := o.data, slots := o.slots }) (Ne.symm hne)).trans hd1
  repeat lk
  subst hsd
  refine store_dict (es := []) (n := 0) hd2 rfl (by simp) fun h' hs' D' => ?_
  have hne' : ∀ b o, hp.get? b = some o → b ≠ hp.objs.size := fun b o q => Nat.ne_of_lt (Heap.lt_size q)
  have hk : ∀ b o, b ≠ e → hp.get? b = some o → h'.get? b = some o := fun b o hb q => by
    refine hs'.extBut b o (hne' b o q) ?_
    rw [Heap.get?_update_other _ _ (Ne.symm hb)]
    exact Heap.get?_push_of_some _ q
  have he3 := hs'.extBut e _ (Ne.symm hne) he2
  have hd0 : h₀.get? hp.objs.size = none := by
    cases q : h₀.get? hp.objs.size with
    | none => rfl
    | some o => exact absurd rfl (hne' _ _ (F.keep _ o q))
  have hLe := (N _ List.mem_cons_self).2.1
  have D2 : h'.get? hp.objs.size = some (dictOf [⟨PyData.keyHash w.params name, .str name (t + 1), v⟩] 1) := D'
  refine h hp.objs.size h' (t + 1) _ (PyData.keyHash w.params name) ⟨F.ns.at' fun o q => hk _ o (Ne.symm hLe) q, fun b o q => hk b o (fun z => by
    have := (N _ List.mem_cons_self).2.2
    rw [← z, q] at this; cases this) (F.keep b o q), F.above⟩ (fun p hpm => ?_) hne (fun p hp' => hne' _ _ (N p (List.mem_cons_of_mem _ hp')).1)
  rcases List.mem_cons.mp hpm with rfl | hpm
  · exact ⟨he3, (N _ List.mem_cons_self).2⟩
  rcases List.mem_cons.mp hpm with rfl | hpm
  · exact ⟨D2, fun q => by
      have := F.ns.lt
      rw [← q] at this
      exact absurd this (Nat.lt_irrefl _), hd0⟩
  · have z := N p (List.mem_cons_of_mem _ hpm)
    exact ⟨hk _ _ (hoff p hpm) z.1, z.2⟩

theorem exc_set1 {name : Str} {v : Value} {es : List DictEntry} {n : Nat} {Q : Unit → Shared → Prop} (F : Fr h₀ L s.heap m) (X : (hd.heap_39 w.params).In h₀) (N : News h₀ L s.heap ((e, ⟨.ref 59, some d, .fields vs, sl⟩) :: (d, dictOf es n) :: rest)) (hde : d ≠ e) (hoff : ∀ p ∈ rest, p.1 ≠ d)
    (ht : takerIn (hd.heap_39 w.params) 59 name = some none) (hk : es.any (·.refKey) = false) (hz : es.length ≤ 100)
    (h : ∀ h' tk tk' k, Fr h₀ L h' m → News h₀ L h' ((e, ⟨.ref 59, some d, .fields vs, sl⟩) :: (d, dictOf (putL name k (.str name tk) v es) (putN name es n)) :: rest) → Q () { s with heap := h', toks := tk' }) :
    wpAny (model PySem.Challenge.rw_qz0073_01.row.prog w) A (setAttr (.ref e) name v) Q E s := by
  have X' := X.keeps F.keep
  have he := (N _ List.mem_cons_self).1
  have hD := (N _ (List.mem_cons_of_mem _ List.mem_cons_self)).1
  have hC := X' 59 _ rfl
  k_dflt (refine set_plain X' (⟨he, rfl, rfl, hD⟩ : InstAt s.heap e _ 59 (some (dictOf es n))) (by k_is) ?_)
  refine osa_exc (s := { s with toks := s.toks + 1 }) X' he rfl ht fun b => ?_
  obtain ⟨hp, g, dr, t, os⟩ := s
  dsimp only at he hC hD
  unfold PySem.Builtin.ObjectAttr.storeInOwnDict
  generalize hsd : PySem.Builtin.ObjectAttr.storeInDict = SD
  repeat lk
  subst hsd
  refine store_dict hD hk hz fun h' hs' D' => ?_
  have hD2 := (N _ (List.mem_cons_of_mem _ List.mem_cons_self)).2
  refine h h' (t + 1) _ (PyData.keyHash w.params name) (F.change hs' hD2.1 hD2.2) ?_
  exact news_set (pre := [(e, _)]) N (fun p hp => by rw [List.mem_singleton.mp hp]; exact Ne.symm hde) hoff hs' D'
end

theorem meta_Exc : typeOf (.type "Exception") = pure (.type "type") := by kernel_rfl

section
variable {w : World} {A : Around} {E : Value → Shared → Prop} {s : Shared} {h₀ : Heap} {L e t0 : Addr} {m : Str → Option Value} {rest : List (Addr × Obj)}
theorem exc_init {v : Value} {Q : Value → Shared → Prop} (F : Fr h₀ L s.heap m) (X : (hd.heap_39 w.params).In h₀) (N : News h₀ L s.heap ((e, exc0 t0) :: rest)) (hoff : ∀ p ∈ rest, p.1 ≠ e)
    (h : ∀ t1 h', Fr h₀ L h' m → News h₀ L h' ((e, exc0 t1) :: rest) → Q .none { s with heap := h' }) :
    wpAny (model PySem.Challenge.rw_qz0073_01.row.prog w) A (PySem.call (.builtin "Exception.__init__") [.ref e, v]) Q E s := by
  have FB := PySem.F.excBase_Exception
  have X' := X.keeps F.keep
  have he := (N _ List.mem_cons_self).1
  have ty : Looks (model PySem.Challenge.rw_qz0073_01.row.prog w) s.heap (typeOf (.ref e)) (.ref 59) := (Looks.ld he).andThen .now
  have sub : Looks (model PySem.Challenge.rw_qz0073_01.row.prog w) s.heap (isInstance (.ref e) (.type "Exception")) true := ty.andThen (looks_mroIn X' (by k_is))
  obtain ⟨hp, g, dr, t, os⟩ := s
  dsimp only at he
  refine wpAny_call (codeAny_call_builtin FB.init.plain FB.initEntry ?_)
  have hshort := FB.noStar
  simp only [checkBuiltinCall, FB.initKind, FB.initSplit, FB.initRow]
  refine wpAny_bind (sub.at ?_)
  simp only [Bool.not_true, Bool.false_eq_true, if_false]
  have hC := X' 59 _ rfl
  dsimp only at hC
  repeat lk
  have he1 := Heap.get?_push_of_some { cls := .type "tuple", data := .seq #[v] } he
  repeat lk
  refine wpAny_update he1 ?_
  repeat lk
  refine h hp.objs.size _ ?_ ?_
  · refine (F.push _).change (Heap.SameBut.update ..) (N _ List.mem_cons_self).2.1 (N _ List.mem_cons_self).2.2
  · refine news_set (pre := []) (fun p hp' => ⟨Heap.get?_push_of_some _ (N p hp').1, (N p hp').2⟩) (fun _ h => nomatch h) hoff (Heap.SameBut.update ..) ?_
    exact Heap.get?_update_self _ he1 rfl
end

/-- a fault: its place, its traceback; it is younger than hb -/
def FaultAt (hb h : Heap) (e : Addr) (at' : Int) (tb : Value) : Prop :=
  ∃ d t0 es n ta od, h.get? e = some ⟨.ref 59, some d, .fields #[.ref t0, tb, .none, .none, .bool false, .none], #[]⟩ ∧ h.get? d = some od ∧ od.data = .dict (List.toArray es) n ∧ getL (Str.ofString "at") es = some (some (.int at' ta)) ∧
    hb.get? e = none ∧ hb.get? d = none

local macro_rules | `(tactic| walk_at "getMethod type:Exception") => `(tactic| (k_here; refine' method_type ?F ?X ?m (by decide +kernel) ?e ?h ?_; (case F => k_asm); (case X => assumption); (case m => exact meta_Exc); (case e => k_dflt k_is); (case h => k_handed)))
local macro_rules | `(tactic| walk_at "call builtin:Exception.__init__") => `(tactic| (refine' exc_init ?F ?X ?N ?o ?_; (case F => k_asm); (case X => assumption); (case N => k_asm); (case o => first | exact List.forall_mem_nil _ | assumption); intro t1 h' F' N'))
local macro_rules | `(tactic| walk_at "setAttr ref") => `(tactic| (first | (refine' exc_set0 ?F ?X ?N ?o ?t ?_; (case F => k_asm); (case X => assumption); (case N => k_asm); (case o => first | exact List.forall_mem_nil _ | assumption); (case t => k_dflt k_is); intro d h' tk tk' k F' N' hde hdo) | (refine' exc_set1 ?F ?X ?N ?de ?o ?t ?k ?z ?_; (case F => k_asm); (case X => assumption); (case N => k_asm); (case de => assumption); (case o => first | exact List.forall_mem_nil _ | assumption); (case t => k_dflt k_is); (case k => rfl); (case z => exact Nat.le_of_ble_eq_true rfl); intro h' tk tk' k F' N')))

theorem fault_ok {w : World} {A : Around} {s : Shared} {Q E : Value → Shared → Prop} (x : Str) (u : Tok) (at' : Int) (ta : Tok)
    (hroom : A.depth + 5 < recursionLimit) (hh : A.handled = none) (hu : A.units + 40 < cLine) (G : G0 w s.heap)
    (hQ : ∀ (e : Addr) (h' : Heap) (tk : Nat), Kept s.heap h' → FaultAt s.heap h' e at' .none → Q (.ref e) { s with heap := h', toks := tk }) :
    wpAny (model PySem.Challenge.rw_qz0073_01.row.prog w) A (PySem.call (.ref 59) [.str x u, .int at' ta]) Q E s := by
  have GG := G
  obtain ⟨X, mean, mg, mb, T⟩ := G
  obtain ⟨hd', dep, frs, gds, un⟩ := A
  dsimp only at hh hroom hu
  subst hh
  obtain ⟨h, g, d, t, os⟩ := s
  refine wpAny_call ?_
  refine fault_core X (by simp) ?_
  have kb : Kept h ((h.push (tup0 [.str x u, .int at' ta])).push (exc0 h.objs.size)) := fun b o e => Heap.get?_push_of_some _ (Heap.get?_push_of_some _ e)
  have hx : ((h.push (tup0 [.str x u, .int at' ta])).push (exc0 h.objs.size)).get? (h.objs.size + 1) = some (exc0 h.objs.size) := by heap_get
  have hn : h.get? (h.objs.size + 1) = none := Heap.get?_none_of_le (Nat.le_succ _)
  have N0 : ∀ p ∈ [(h.objs.size + 1, exc0 h.objs.size)], ((h.push (tup0 [.str x u, .int at' ta])).push (exc0 h.objs.size)).get? p.1 = some p.2 ∧ h.get? p.1 = none := fun p hp => by
    rw [List.mem_singleton.mp hp]
    exact ⟨hx, hn⟩
  generalize ((h.push (tup0 [.str x u, .int at' ta])).push (exc0 h.objs.size)) = H at *
  generalize h.objs.size + 1 = e at *
  generalize h.objs.size = t0 at *
  have XH := X.keeps kb
  (k_dflt (refine' code_rawL ?k0 ?kN ?k1 ?k2 ?k3 ?k4 ?k5 ?k6 ?k7 ?_ ?c1 ?c2 ?c3 ?c4; (case k0 => assumption); (case kN => assumption); (case k1 => assumption); (case k2 => exact Top.nolimit (by assumption)); (case k3 => k_is); (case k4 => k_is); (case k5 => first | omega | (dsimp only; omega) | (simp only [depth_under_make]; (try dsimp only); omega)); (case k6 => first | exact BindsTo.of_eq rfl | exact binds_K (by assumption) rfl (by k_is) rfl rfl rfl); (case k7 => exact locs rfl); (case c1 => exact rfl); (case c2 => exact rfl); (case c3 => exact rfl); (case c4 => decide); k_whole; intro g' L' h₁ k1' k2' k3' l1' F' N'; (try dsimp only)))
  have X1 := X.keeps (by assumption)
  have T1 := T.keeps (by assumption)
  k_steps
  rename Fr _ _ _ _ => F9
  rename News _ _ _ _ => N9
  rename Kept h _ => K9
  refine ⟨rfl, ?_⟩
  have z1 := N9 _ List.mem_cons_self
  have z2 := N9 _ (List.mem_cons_of_mem _ List.mem_cons_self)
  refine hQ e _ _ (fun b o q => F9.keep b o (K9 b o q)) ⟨_, _, _, _, ta, _, z1.1, z2.1, rfl, by rfl, hn, fresh_of_stays K9 z2.2.2⟩
end
local macro_rules | `(tactic| walk_at "MY-PAD") => `(tactic| skip)
local macro_rules | `(tactic| walk_at "MY-PAD") => `(tactic| skip)
local macro_rules | `(tactic| walk_at "MY-PAD") => `(tactic| skip)
local macro_rules | `(tactic| walk_at "MY-PAD") => `(tactic| skip)

section

section
variable {w : World} {A : Around} {E : Value → Shared → Prop} {s : Shared} {env : Env}
theorem raise_exc {x : Sem Value} {Q : Flow → Shared → Prop} (hh : A.handled = none)
    (h : wpAny (model PySem.Challenge.rw_qz0073_01.row.prog w) A x (fun v s₁ => ∃ e hb at', v = .ref e ∧ (hd.heap_39 w.params).In s₁.heap ∧ FaultAt hb s₁.heap e at' .none ∧ E (.ref e) s₁) E s) :
    wpAny (model PySem.Challenge.rw_qz0073_01.row.prog w) A (raiseStmt env (some x) none) Q E s := by
  unfold raiseStmt
  refine wpAny_bind (wpAny_mono h (fun v s₁ h₁ => ?_) fun _ _ x => x)
  obtain ⟨e, hb, at', rfl, X, ⟨d, t0, es, n, ta, od, he, hd', hod, hg, f1, f2⟩, hE⟩ := h₁
  obtain ⟨hp, g, dr, t, os⟩ := s₁
  have hC := X 59 _ rfl
  have ty : Looks (model PySem.Challenge.rw_qz0073_01.row.prog w) hp (typeOf (.ref e)) (.ref 59) := (Looks.ld he).andThen .now
  have sB : Looks (model PySem.Challenge.rw_qz0073_01.row.prog w) hp (isSubtype (.ref 59) (.type "BaseException")) true := looks_mroIn X (by k_is)
  dsimp only at he hC
  repeat lk
  refine wpAny_handled ?_
  rw [hh]
  exact wpAny_throw hE

theorem Raise_ {x : Expr} {pos : Pos} {Q : Flow → Shared → Prop} (hh : A.handled = none)
    (h : wpAny (model PySem.Challenge.rw_qz0073_01.row.prog w) A (eval x env) (fun v s₁ => ∃ e hb at', v = .ref e ∧ (hd.heap_39 w.params).In s₁.heap ∧ FaultAt hb s₁.heap e at' .none ∧ E (.ref e) s₁) E s) :
    wpAny (model PySem.Challenge.rw_qz0073_01.row.prog w) A (exec (.Raise (some x) none pos) env) Q E s := by
  rw [arm_exec_Raise]
  refine wpAny_bind (wpAny_standAt ?_)
  exact raise_exc hh (wpAny_bind (wpAny_mono h (fun v s₃ h₃ => wpAny_bind (wpAny_standAt (wpAny_pure h₃))) fun _ _ x => x))
end

/-- a traceback, younger than hb, its flight fl -/
def TbAt (hb h : Heap) (T : Addr) (fl : Value) : Prop := ∃ oT ts, h.get? T = some oT ∧ oT.data = .fields ts ∧ ts[3]? = some fl ∧ hb.get? T = none
/-- all of hb stands, but for the slots of the frames fr -/
def KeptF (fr : List Addr) (hb h : Heap) : Prop := ∀ b o, hb.get? b = some o → (b ∉ fr → h.get? b = some o) ∧ ∃ sl, h.get? b = some { o with slots := sl }
theorem KeptF.refl (fr : List Addr) (h : Heap) : KeptF fr h h := fun _ o e => ⟨fun _ => e, o.slots, e⟩
theorem KeptF.of_kept {fr : List Addr} {h h' : Heap} (k : Kept h h') : KeptF fr h h' := fun _ o e => ⟨fun _ => k _ _ e, o.slots, k _ _ e⟩
theorem KeptF.trans {fr : List Addr} {h₁ h₂ h₃ : Heap} (x : KeptF fr h₁ h₂) (y : KeptF fr h₂ h₃) : KeptF fr h₁ h₃ := fun b o e => by
  obtain ⟨a, sl, c⟩ := x b o e
  refine ⟨fun hn => (y b o (a hn)).1 hn, ?_⟩
  obtain ⟨_, sl', c'⟩ := y b _ c
  exact ⟨sl', c'⟩

section
variable {M : Model} {A : Around} {E : Value → Shared → Prop} {s : Shared} {env : Env} {outer : List Env} {hb : Heap} {e L : Addr} {at' : Int}

theorem FaultAt.not_frame {h : Heap} {tb : Value} {l : List Env} (FA : FaultAt hb h e at' tb) (hl : h.FunFrames {} l) : e ∉ l.filterMap (·.frame) := fun hm => by
  obtain ⟨_, o, ho, hnf⟩ := hl.mem hm
  obtain ⟨d, t0, es, n, ta, od, he, _⟩ := FA
  rw [he] at ho
  obtain rfl := Option.some.inj ho
  exact hnf _ rfl

/-- the frame is noted in the fault's traceback -/
theorem note_new {tb : Value} {hadNext : Bool} {Q : Unit → Shared → Prop} (hfr : A.frames = some (env :: outer)) (hl : s.heap.FunFrames {} (env :: outer)) (hf : env.frame = some L)
    (FA : FaultAt hb s.heap e at' tb) (hk : KeptF ((env :: outer).filterMap (·.frame)) hb s.heap)
    (h : ∀ h' T, h'.FunFrames {} (env :: outer) → FaultAt hb h' e at' (.ref T) → TbAt hb h' T (rawInt L) → T ≠ e → KeptF ((env :: outer).filterMap (·.frame)) hb h' → Q () { s with heap := h' }) :
    wpAny M A (do let a ← frameOf env; let pl ← entryPlaceOf L hadNext; let b ← EntryCells.newEntry tb a .none (rawInt L) .none pl; setField (.ref e) 1 b) Q E s := by
  have hene := FA.not_frame hl
  obtain ⟨d, t0, es, n, ta, od, he, hd, hod, hg, f1, f2⟩ := FA
  refine wpAny_bind (wpAny_frameOf_fun hfr hl hf fun h₁ hs₁ => ?_)
  refine wpAny_bind (wpAny_entryPlaceOf fun pl hpl => ?_)
  unfold EntryCells.newEntry newFields
  refine wpAny_bind (wpAny_newObj_type ?_ (hpl.sizeOk5 _ _ _ _ _))
  have he₁ := (hs₁.2.1 e hene).trans he
  have he₂ := Heap.get?_push_of_some (h := h₁) { cls := .type "traceback", dict := none, data := .fields ([tb, .ref L, .none, rawInt L, .none] ++ (if pl.isEmpty then List.replicate 6 Value.none else pl)).toArray } he₁
  refine wpAny_setField he₂ rfl (Nat.le_of_ble_eq_true rfl) ?_
  have hTe : h₁.objs.size ≠ e := Nat.ne_of_gt (Heap.lt_size he₁)
  have he₃ := Heap.get?_update_self (Obj.mapFields (·.setIfInBounds 1 (Value.ref h₁.objs.size))) he₂ rfl
  have hT₃ := (Heap.get?_update_other (h₁.push { cls := .type "traceback", dict := none, data := .fields ([tb, .ref L, .none, rawInt L, .none] ++ (if pl.isEmpty then List.replicate 6 Value.none else pl)).toArray })
    (Obj.mapFields (·.setIfInBounds 1 (Value.ref h₁.objs.size))) (Ne.symm hTe)).trans (Heap.get?_push_size h₁ rfl)
  have keep : ∀ b o, b ≠ e → h₁.get? b = some o → ((h₁.push { cls := .type "traceback", dict := none, data := .fields ([tb, .ref L, .none, rawInt L, .none] ++ (if pl.isEmpty then List.replicate 6 Value.none else pl)).toArray }).update e
      (Obj.mapFields (·.setIfInBounds 1 (Value.ref h₁.objs.size)))).get? b = some o := fun b o hbe q => by
    rw [Heap.get?_update_other _ _ (Ne.symm hbe)]
    exact Heap.get?_push_of_some _ q
  have hde : d ≠ e := fun q => by
    rw [q, he] at hd
    obtain rfl := Option.some.inj hd
    cases hod
  have hTf : hb.get? h₁.objs.size = none := by
    cases q : hb.get? h₁.objs.size with
    | none => rfl
    | some o =>
      obtain ⟨_, sl, c⟩ := hk _ _ q
      obtain ⟨sl', c'⟩ := hs₁.2.2 _ _ c
      exact absurd (Heap.lt_size c') (Nat.lt_irrefl _)
  refine h _ h₁.objs.size ?_ ?_ ?_ hTe ?_
  · refine (hl.of_slotsOnly hs₁).of_keeps fun b o q hnf => ⟨o, keep b o (fun z => ?_) q, rfl⟩
    rw [z, he₁] at q
    obtain rfl := Option.some.inj q
    exact hnf _ rfl
  · obtain ⟨sl, hd'⟩ := hs₁.2.2 d od hd
    exact ⟨d, t0, es, n, ta, _, he₃, keep d _ hde hd', hod, hg, f1, f2⟩
  · exact ⟨_, _, hT₃, rfl, by simp, hTf⟩
  · intro b o q
    obtain ⟨a, sl, c⟩ := hk b o q
    have hbe : b ≠ e := fun z => by rw [z, f1] at q; cases q
    refine ⟨fun hn => keep b o hbe ((hs₁.2.1 b hn).trans (a hn)), ?_⟩
    obtain ⟨sl', c'⟩ := hs₁.2.2 b _ c
    exact ⟨sl', keep b _ hbe c'⟩

theorem FaultAt.traced_ne {h : Heap} {T : Addr} {fl tb : Value} (FA : FaultAt hb h e at' tb) (TB : TbAt hb h T fl) (hTe : T ≠ e) : ∀ b o, (∀ vs, o.data ≠ .fields vs) → h.get? b = some o → b ≠ T := fun b o hnf q z => by
  obtain ⟨oT, ts, hT, hd, _⟩ := TB
  rw [z, hT] at q
  obtain rfl := Option.some.inj q
  exact hnf _ hd

/-- the flight of the fault's traceback is set to none -/
theorem flight_none {T : Addr} {fl : Value} {fr : List Addr} {l : List Env} {Q : Unit → Shared → Prop} (hl : s.heap.FunFrames {} l)
    (FA : FaultAt hb s.heap e at' (.ref T)) (TB : TbAt hb s.heap T fl) (hTe : T ≠ e) (hk : KeptF fr hb s.heap)
    (h : ∀ h', h'.FunFrames {} l → FaultAt hb h' e at' (.ref T) → TbAt hb h' T .none → KeptF fr hb h' → (∀ b o, b ≠ T → s.heap.get? b = some o → h'.get? b = some o) → Q () { s with heap := h' }) :
    wpAny M A (setFlight (.ref e) none) Q E s := by
  have hn := FA.traced_ne TB hTe
  obtain ⟨d, t0, es, n, ta, od, he, hd, hod, hg, f1, f2⟩ := FA
  obtain ⟨oT, ts, hT, hdT, h3, fT⟩ := TB
  have hsz3 : 3 < ts.size := (Array.getElem?_eq_some_iff.mp h3).1
  have keep : ∀ b o, b ≠ T → s.heap.get? b = some o → (s.heap.update T (Obj.mapFields (·.setIfInBounds 3 ((none : Option Addr).elim Value.none fun f => rawInt f)))).get? b = some o := fun b o hbT q => by
    rw [Heap.get?_update_other _ _ (Ne.symm hbT)]
    exact q
  unfold setFlight
  refine wpAny_bind (wpAny_field he rfl (x := .ref T) rfl ?_)
  rw [if_pos (show (Value.ref T != Value.none) = true from by simp)]
  refine wpAny_setField hT hdT hsz3 (h _ ?_ ?_ ?_ ?_ keep)
  · exact hl.of_keeps fun b o q hnf => ⟨o, keep b o (hn b o hnf q) q, rfl⟩
  · exact ⟨d, t0, es, n, ta, od, keep e _ (Ne.symm hTe) he, keep d _ (hn d od (fun vs => by rw [hod]; intro z; cases z) hd) hd, hod, hg, f1, f2⟩
  · exact ⟨_, _, Heap.get?_update_self _ hT (Obj.isFreed_of_fields (Obj.data_mapFields hdT _)), Obj.data_mapFields hdT _, by simp [hsz3], fT⟩
  · intro b o q
    obtain ⟨a, sl, c⟩ := hk b o q
    have hbT : b ≠ T := fun z => by rw [z, fT] at q; cases q
    exact ⟨fun hn => keep b o hbT (a hn), sl, keep b _ hbT c⟩

/-- the fault leaves the frame in which it was raised -/
theorem leave_first {Q : Unit → Shared → Prop} (hfr : A.frames = some (env :: outer)) (hl : s.heap.FunFrames {} (env :: outer)) (hf : env.frame = some L)
    (FA : FaultAt hb s.heap e at' .none) (hk : KeptF ((env :: outer).filterMap (·.frame)) hb s.heap)
    (h : ∀ h' T, h'.FunFrames {} (env :: outer) → FaultAt hb h' e at' (.ref T) → TbAt hb h' T .none → T ≠ e → KeptF ((env :: outer).filterMap (·.frame)) hb h' → Q () { s with heap := h' }) :
    wpAny M A (leaving env (.ref e)) Q E s := by
  have FA' := FA
  obtain ⟨d, t0, es, n, ta, od, he, hd, hod, hg, f1, f2⟩ := FA
  unfold leaving noteFrame
  simp only [hf]
  refine wpAny_bind (wpAny_bind (wpAny_field he rfl (x := .none) rfl ?_))
  rw [if_neg (by decide)]
  refine note_new hfr hl hf FA' hk fun h₁ T k1 k2 k3 k4 k5 => ?_
  exact flight_none (s := { s with heap := h₁ }) k1 k2 k3 k4 k5 fun h₂ j1 j2 j3 j4 _ => h h₂ T j1 j2 j3 k4 j4

/-- the fault is noted in a frame that it comes to -/
theorem note_next {T0 : Addr} {Q : Unit → Shared → Prop} (hfr : A.frames = some (env :: outer)) (hl : s.heap.FunFrames {} (env :: outer)) (hf : env.frame = some L)
    (FA : FaultAt hb s.heap e at' (.ref T0)) (TB : TbAt hb s.heap T0 .none) (hTe : T0 ≠ e) (hk : KeptF ((env :: outer).filterMap (·.frame)) hb s.heap)
    (h : ∀ h' T, h'.FunFrames {} (env :: outer) → FaultAt hb h' e at' (.ref T) → TbAt hb h' T (rawInt L) → T ≠ e → KeptF ((env :: outer).filterMap (·.frame)) hb h' → Q () { s with heap := h' }) :
    wpAny M A (noteFrame (.ref e) env) Q E s := by
  have FA' := FA
  have TB' := TB
  have hn := FA.traced_ne TB hTe
  obtain ⟨d, t0, es, n, ta, od, he, hd, hod, hg, f1, f2⟩ := FA
  obtain ⟨oT, ts, hT, hdT, h3, fT⟩ := TB
  have hsz3 : 3 < ts.size := (Array.getElem?_eq_some_iff.mp h3).1
  unfold noteFrame
  simp only [hf]
  refine wpAny_bind (wpAny_field he rfl (x := .ref T0) rfl ?_)
  rw [if_pos (show (Value.ref T0 != Value.none) = true from by simp)]
  refine wpAny_bind (wpAny_field hT hdT h3 ?_)
  rw [if_neg (show ¬ ((Value.none == rawInt L) = true) from by simp [rawInt])]
  refine wpAny_bind (wpAny_setField hT hdT hsz3 ?_)
  have keep : ∀ b o, b ≠ T0 → s.heap.get? b = some o → (s.heap.update T0 (Obj.mapFields (·.setIfInBounds 3 Value.none))).get? b = some o := fun b o hbT q => by
    rw [Heap.get?_update_other _ _ (Ne.symm hbT)]
    exact q
  refine note_new (s := { s with heap := s.heap.update T0 (Obj.mapFields (·.setIfInBounds 3 Value.none)) }) hfr ?_ hf ?_ ?_ h
  · exact hl.of_keeps fun b o q hnf => ⟨o, keep b o (hn b o hnf q) q, rfl⟩
  · exact ⟨d, t0, es, n, ta, od, keep e _ (Ne.symm hTe) he, keep d _ (hn d od (fun vs => by rw [hod]; intro z; cases z) hd) hd, hod, hg, f1, f2⟩
  · intro b o q
    obtain ⟨a, sl, c⟩ := hk b o q
    have hbT : b ≠ T0 := fun z => by rw [z, fT] at q; cases q
    exact ⟨fun hn => keep b o hbT (a hn), sl, keep b _ hbT c⟩
end
end

section

def unStep (step way : Int) (above : List Int) (row : List Int) (o : Int) : List Int := row ++ [Int.fmod (o + gue (row ++ [o]) above (row.length : Int) step way) 256]
def unrow (step way : Int) (above enc : List Int) : List Int := enc.foldl (unStep step way above) []
def undo (size : Nat) (step : Int) : Nat → Int → List Int → List Int → List Int → Except Int (List Int)
  | 0, _, _, found, _ => .ok found
  | _ + 1, _, [], found, _ => .ok found
  | f + 1, at', way :: rest, found, above => if 4 < way then .error at' else undo size step f (at' + 1 + size) (rest.drop size) (found ++ unrow step way above (rest.take size)) (unrow step way above (rest.take size))

def bm : List (Str × Value) → (Str → Option Value) → Str → Option Value
  | [], m, y => m y
  | (a, v) :: r, m, y => if y = a then some v else bm r m y
theorem mapL : ∀ (bs : List (Str × Value)) {m : Str → Option Value}, (∀ p ∈ bs, m p.1 = some p.2) → m = bm bs m
  | [], _, _ => rfl
  | (a, v) :: r, m, h => by
    funext y
    show m y = if y = a then some v else bm r m y
    by_cases e : y = a
    · subst e; rw [if_pos rfl]; exact h _ List.mem_cons_self
    · rw [if_neg e]; exact congrFun (mapL r fun p hp => h p (List.mem_cons_of_mem _ hp)) y


def Stopped (p : Prop) : Prop := p
theorem Stopped.of {p : Prop} (h : Stopped p) : p := h
theorem Stopped.mk {p : Prop} (h : p) : Stopped p := h

def UnJ (b : Array UInt8) (tb : Tok) (x : Addr) (ks : List Int) (size : Nat) (step : Int) (res : Except Int (List Int)) (n : Nat) (m : Str → Option Value) (news : List (Addr × Obj)) : Prop :=
  ∃ (i : Nat) (fl al : Addr) (fv uv : List Value) (found above : List Int) (kf ku : Nat) (ta : Tok), news = [(fl, listOf fv.toArray kf), (al, listOf uv.toArray ku)] ∧ al ≠ fl ∧ IntsAre fv found ∧ IntsAre uv above ∧
    m (Str.ofString "octets") = some (.bytes b tb) ∧ m (Str.ofString "shape") = some (.ref x) ∧ m (Str.ofString "found") = some (.ref fl) ∧ m (Str.ofString "above") = some (.ref al) ∧ m (Str.ofString "at") = some (.int (i : Int) ta) ∧
    KBa.In found ∧ found.length ≤ i ∧ i ≤ ks.length + 8 ∧ above.length ≤ 8 ∧ ks.length ≤ n + i ∧ undo size step n (i : Int) (ks.drop i) found above = res

local macro_rules | `(tactic| walk_at "getAttr ref") => `(tactic| (first | (refine' shape_rows ?q1 ?q2 ?q3 ?_; (case q1 => k_asm); (case q2 => assumption); (case q3 => assumption); intro _) | (refine' shape_step ?q1 ?q2 ?q3 ?_; (case q1 => k_asm); (case q2 => assumption); (case q3 => assumption); intro _)))
local macro_rules | `(tactic| walk_at "call ref") => `(tactic| refine' Halt.of ?_)
def RaisePost (w : World) (E : Value → Shared → Prop) (v : Value) (s₁ : Shared) : Prop := ∃ e hb at', v = .ref e ∧ (hd.heap_39 w.params).In s₁.heap ∧ FaultAt hb s₁.heap e at' .none ∧ E (.ref e) s₁
theorem Raise2 {w : World} {A : Around} {E : Value → Shared → Prop} {s : Shared} {env : Env} {x : Expr} {pos : Pos} {Q : Flow → Shared → Prop} (hh : A.handled = none)
    (h : wpAny (model PySem.Challenge.rw_qz0073_01.row.prog w) A (eval x env) (RaisePost w E) E s) :
    wpAny (model PySem.Challenge.rw_qz0073_01.row.prog w) A (exec (.Raise (some x) none pos) env) Q E s := Raise_ hh h
local macro_rules | `(tactic| walk_at "exec Raise some none") => `(tactic| refine' Raise2 rfl ?_)
local macro_rules | `(tactic| walk_at "exec For") => `(tactic| (refine' For_invVF ?F (by rfl) (by rfl) ?_ (by intro _; rfl) ?hE; (case F => k_asm); (case hE => with_unfolding_all passes_own)))
local macro_rules | `(tactic| walk_at "pyIter bytes") => `(tactic| refine' Stopped.of ?_)
local macro_rules | `(tactic| walk_at "exec While Compare") => `(tactic| refine' Stopped.of ?_)

section
variable {prog : Program} {w : World} {A : Around} {E : Value → Shared → Prop} {s : Shared} {env : Env} {h₀ : Heap} {x : PySem.Str} {body : List Stmt} {Q : Flow → Shared → Prop} {b : Array UInt8} {tb : Tok} {ks : List Int}
  {m₀ : PySem.Str → Option Value} {news : List (Addr × Obj)}
theorem iter_bytesN (J : Nat → (PySem.Str → Option Value) → List (Addr × Obj) → Prop)
    (hk : KBw.bInts b = ks) (hh : A.handled = none) (F : Fr h₀ env.locals s.heap m₀) (N : News h₀ env.locals s.heap news) (hJ : J 0 m₀ news)
    (turn : ∀ i k t m₁ nx h tk own, ks[i]? = some k → 0 ≤ k → k < 256 → nx.map (·.1) = news.map (·.1) → OwnOff own (news.map (·.1)) → J i m₁ nx → Fr h₀ env.locals h (fun y => if y = x then some (.int k t) else m₁ y) → News h₀ env.locals h (nx ++ own) →
      wpAny (model prog w) A (execs body env) (InvPostN h₀ env.locals (J (i + 1)) own (news.map (·.1)) { s with heap := h, toks := tk } Q) E { s with heap := h, toks := tk })
    (done : ∀ m₁ nx h tk, J ks.length m₁ nx → Fr h₀ env.locals h m₁ → News h₀ env.locals h nx → Q .next { s with heap := h, toks := tk }) :
    wpAny (model prog w) A (pyIter (.bytes b tb)) (fun it s₂ => LoopAtV prog w A h₀ env x body Q E it s₂) E s := by
  subst hk
  refine KBw.pyIter_bytes ?_
  have W := KBw.walks (prog := prog) (w := w) hh s.heap.objs.size b tb
  have hn : b.size = (KBw.bInts b).length := (KBw.ints_length b).symm
  rw [hn] at W
  refine loop_invN J W ?_ ?_ ?_ ?_ ⟨_, Heap.get?_push_size _ rfl, rfl, rfl⟩ (F.push _) (fun p hp => ⟨Heap.get?_push_of_some _ (N p hp).1, (N p hp).2⟩) hJ ?_ done
  · intro hm
    exact absurd F.ns.lt ((List.mem_singleton.mp hm) ▸ Nat.lt_irrefl _)
  · intro b' hb
    rw [List.mem_singleton.mp hb]
    exact next_is_new F
  · intro p hp hI
    exact absurd (Heap.lt_size (N p hp).1) ((List.mem_singleton.mp hI) ▸ Nat.lt_irrefl _)
  · intro p hp hI
    exact absurd (Heap.lt_size (N p hp).1) ((List.mem_singleton.mp hI) ▸ Nat.lt_irrefl _)
  · rintro i v m₁ news₁ h tk own hi ⟨c, u, hc, rfl⟩ ha ho hJ F₁ N₁
    have hg := KBw.ints_get hc
    have hm := KBw.ints_in (List.mem_of_getElem? hg)
    exact turn i _ u m₁ news₁ h tk own hg hm.1 hm.2 ha ho hJ F₁ N₁
end

theorem unrow_snoc {step way : Int} {above enc : List Int} {i : Nat} {k : Int} (h : enc[i]? = some k) : unrow step way above (enc.take (i + 1)) = unStep step way above (unrow step way above (enc.take i)) k := by
  unfold unrow
  rw [List.take_add_one, h]
  simp
theorem unrow_length {step way : Int} {above : List Int} : ∀ (enc row : List Int), (enc.foldl (unStep step way above) row).length = row.length + enc.length
  | [], row => by simp
  | k :: r, row => by
    rw [List.foldl_cons, unrow_length r]
    simp [unStep]
    omega
theorem unrow_len {step way : Int} {above enc : List Int} : (unrow step way above enc).length = enc.length := by simp [unrow, unrow_length]
theorem unrow_in {step way : Int} {above : List Int} : ∀ (enc row : List Int), KBa.In row → KBa.In (enc.foldl (unStep step way above) row)
  | [], _, h => h
  | k :: r, row, h => by
    refine unrow_in r _ fun n hn => ?_
    rcases List.mem_append.mp hn with hn | hn
    · exact h n hn
    · rw [List.mem_singleton.mp hn]
      exact ⟨Int.fmod_nonneg_of_pos _ (by omega), Int.fmod_lt_of_pos _ (by omega)⟩

def RowJ (b : Array UInt8) (tb : Tok) (x fl al rl : Addr) (fv uv : List Value) (kf ku : Nat) (i : Int) (ta tw : Tok) (step way : Int) (above enc : List Int) (j : Nat) (m : Str → Option Value) (news : List (Addr × Obj)) : Prop :=
  ∃ (rv : List Value) (kr : Nat), news = [(rl, listOf rv.toArray kr), (fl, listOf fv.toArray kf), (al, listOf uv.toArray ku)] ∧ IntsAre rv (unrow step way above (enc.take j)) ∧
    m (Str.ofString "octets") = some (.bytes b tb) ∧ m (Str.ofString "shape") = some (.ref x) ∧ m (Str.ofString "found") = some (.ref fl) ∧ m (Str.ofString "above") = some (.ref al) ∧ m (Str.ofString "at") = some (.int i ta) ∧
    m (Str.ofString "way") = some (.int way tw) ∧ m (Str.ofString "row") = some (.ref rl)

theorem slice_row {ks : List Int} {i size : Nat} : List.take (clipAt ks.length ((i : Int) + 1 + (size : Int)) - clipAt ks.length ((i : Int) + 1)) (List.drop (clipAt ks.length ((i : Int) + 1)) ks) = (ks.drop (i + 1)).take size := by
  have e1 : ((i : Int) + 1) = ((i + 1 : Nat) : Int) := by omega
  have e2 : ((i : Int) + 1 + (size : Int)) = ((i + 1 + size : Nat) : Int) := by omega
  rw [e2, e1, clipAt_nat, clipAt_nat]
  generalize i + 1 = q
  rcases Nat.le_total q ks.length with h | h
  · rw [Nat.min_eq_left h]
    rcases Nat.le_total (q + size) ks.length with h' | h'
    · rw [Nat.min_eq_left h']; congr 1; omega
    · rw [Nat.min_eq_right h', List.take_of_length_le (by simp), List.take_of_length_le (by simp; omega)]
  · rw [Nat.min_eq_right h, List.drop_of_length_le h, List.drop_of_length_le (Nat.le_refl _)]
    simp
theorem ints_push {rv : List Value} {row : List Int} {k : Int} {t : Tok} (h : IntsAre rv row) : IntsAre (rv.toArray.push (.int k t)).toList (row ++ [k]) := by
  rw [Array.toList_push]
  exact h.append (IntsAre.cons k t IntsAre.nil)

theorem guess_arr {w : World} {A : Around} {s : Shared} {Q E : Value → Shared → Prop} (r u : Addr) (ra ua : Array Value) (kr ku : Nat) (row above : List Int) (at' step way : Int) (ta ts tw : Tok)
    (hroom : A.depth + 2 < recursionLimit) (hh : A.handled = none) (hu : A.units + 16 < cLine) (G : G0 w s.heap)
    (hr : s.heap.get? r = some (listOf ra kr)) (hri : IntsAre ra.toList row) (hu' : s.heap.get? u = some (listOf ua ku)) (hui : IntsAre ua.toList above)
    (h1 : 1 ≤ step) (h2 : 0 ≤ at') (h3 : at' < row.length) (h4 : row.length < 2 ^ 40) (h5 : above.length < 2 ^ 40)
    (hQ : ∀ (t : Tok) (h' : Heap) (tk : Nat), Kept s.heap h' → Q (.int (gue row above at' step way) t) { s with heap := h', toks := tk }) :
    wpAny (model PySem.Challenge.rw_qz0073_01.row.prog w) A (PySem.call (.ref 101) [.ref r, .ref u, .int at' ta, .int step ts, .int way tw]) Q E s :=
  guess_list r u ra.toList ua.toList row above at' step way ta ts tw hroom hh hu G ⟨_, hr, rfl, _, rfl⟩ hri ⟨_, hu', rfl, _, rfl⟩ hui h1 h2 h3 h4 h5 hQ


section
variable {prog : Program} {w : World} {A : Around} {E : Value → Shared → Prop} {s : Shared} {h₀ : Heap} {L D : Addr} {m : Str → Option Value} {rest : List (Addr × Obj)}
theorem set_last {its : Array Value} {a v : Value} {n : Nat} {t : Tok} {Q : Unit → Shared → Prop} (F : Fr h₀ L s.heap m) (N : News h₀ L s.heap ((D, listOf (its.push a) n) :: rest)) (hoff : ∀ p ∈ rest, p.1 ≠ D)
    (h : ∀ h' n', Fr h₀ L h' m → News h₀ L h' ((D, listOf (its.push v) n') :: rest) → Q () { s with heap := h' }) : wpAny (model prog w) A (setItem (.ref D) (.int (-1) t) v) Q E s := by
  have z := N (D, listOf (its.push a) n) List.mem_cons_self
  refine ki_setBack z.1 (by omega) (by rw [Array.size_push]; omega) (by omega) (h _ (if ((its.push a).setIfInBounds (-1 + ((its.push a).size : Int)).toNat v).size == (its.push a).size then n else n + 1) (F.change (Heap.SameBut.update ..) z.2.1 z.2.2) ?_)
  refine news_set (pre := []) N (fun _ h => nomatch h) hoff (Heap.SameBut.update ..) ?_
  have e : (its.push a).setIfInBounds (-1 + ((its.push a).size : Int)).toNat v = its.push v := by
    have : (-1 + ((its.push a).size : Int)).toNat = its.size := by rw [Array.size_push]; omega
    rw [this]
    apply Array.toList_inj.mp
    simp
  have u := PySem.IsL.update z.1 fun x => x.setIfInBounds (-1 + ((its.push a).size : Int)).toNat v
  rw [e] at u ⊢
  exact u
theorem len_arr {l : Addr} {items : Array Value} {k : Nat} {Q : Value → Shared → Prop} (hl : s.heap.get? l = some (listOf items k)) (hz : items.size ≤ 16384) (h : Q (.int items.size (s.toks + 1)) { s with toks := s.toks + 1 + 1 }) :
    wpAny (model prog w) A (call (.builtin "len") [.ref l]) Q E s := len_list ⟨_, hl, rfl, _, rfl⟩ (by omega) h
end
local macro_rules | `(tactic| walk_at "setItem ref int") => `(tactic| refine' Halt.of ?_)
local macro_rules | `(tactic| walk_at "call builtin:len") => `(tactic| (refine' len_arr ?N ?z ?_; (case N => exact (News.get (by assumption) (by k_memK))); (case z => (simp only [Array.size_push, List.size_toArray]; omega))))

theorem row_end {h₀ h' : Heap} {L x fl al rl : Addr} {m' : Str → Option Value} {own : List (Addr × Obj)} {rv fv uv : List Value} {n' kf ku j : Nat} {step way i k p : Int} {above enc : List Int} {b : Array UInt8} {tb ta tw tv : Tok} {o1 o2 o3 : Obj} {s₁ : Shared} {tk : Nat}
    (F : Fr h₀ L h' m') (N : News h₀ L h' ((rl, listOf (rv.toArray.push (.int ((k + gue (unrow step way above (enc.take j) ++ [k]) above p step way).fmod 256) tv)) n') :: (fl, listOf fv.toArray kf) :: (al, listOf uv.toArray ku) :: own))
    (hrv : IntsAre rv (unrow step way above (enc.take j))) (hj : enc[j]? = some k) (hp : p = ((unrow step way above (enc.take j)).length : Int))
    (m1 : m' (Str.ofString "octets") = some (.bytes b tb)) (m2 : m' (Str.ofString "shape") = some (.ref x)) (m3 : m' (Str.ofString "found") = some (.ref fl)) (m4 : m' (Str.ofString "above") = some (.ref al)) (m5 : m' (Str.ofString "at") = some (.int i ta))
    (m6 : m' (Str.ofString "way") = some (.int way tw)) (m7 : m' (Str.ofString "row") = some (.ref rl)) :
    InvEndN h₀ L (RowJ b tb x fl al rl fv uv kf ku i ta tw step way above enc (j + 1)) own (List.map (fun x => x.1) [(rl, o1), (fl, o2), (al, o3)]) s₁ { s₁ with heap := h', toks := tk } := by
  subst hp
  generalize hv : ((k + gue (unrow step way above (enc.take j) ++ [k]) above ((unrow step way above (enc.take j)).length : Int) step way).fmod 256) = v at N
  have e : rv.toArray.push (Value.int v tv) = (rv ++ [Value.int v tv]).toArray := by simp
  rw [e] at N
  refine InvEndN.intro (nx := [(rl, listOf (rv ++ [Value.int v tv]).toArray n'), (fl, listOf fv.toArray kf), (al, listOf uv.toArray ku)]) F N ⟨_, _, rfl, ?_, m1, m2, m3, m4, m5, m6, m7⟩ rfl (fun p hp => ?_) (fun p hp => ?_)
  · rw [unrow_snoc hj, unStep, hv]
    exact hrv.append (IntsAre.cons v tv IntsAre.nil)
  · exact List.mem_append_left own hp
  · exact List.mem_append_right [(rl, listOf (rv ++ [Value.int v tv]).toArray n'), (fl, listOf fv.toArray kf), (al, listOf uv.toArray ku)] hp

theorem news_swap {h₀ h : Heap} {L : Addr} {a b : Addr × Obj} {rest : List (Addr × Obj)} (N : News h₀ L h (a :: b :: rest)) : News h₀ L h (b :: a :: rest) := fun p hp => by
  refine N p ?_
  rcases List.mem_cons.mp hp with rfl | hp
  · exact .tail _ (.head _)
  · rcases List.mem_cons.mp hp with rfl | hp
    · exact .head _
    · exact .tail _ (.tail _ hp)

theorem FaultAt.base {hb0 hb h : Heap} {e : Addr} {a : Int} {tb : Value} (x : FaultAt hb h e a tb) (k : Kept hb0 hb) : FaultAt hb0 h e a tb :=
  let ⟨d, t0, es, n, ta, od, a1, a2, a3, a4, a5, a6⟩ := x
  ⟨d, t0, es, n, ta, od, a1, a2, a3, a4, fresh_of_stays k a5, fresh_of_stays k a6⟩
theorem KeptF.drop {hb h : Heap} {env : Env} {L : Addr} {l : List Env} (x : KeptF ((env :: l).filterMap (·.frame)) hb h) (hf : env.frame = some L) (hL : hb.get? L = none) : KeptF (l.filterMap (·.frame)) hb h := fun b o e => by
  obtain ⟨a, c⟩ := x b o e
  refine ⟨fun hn => a fun hm => ?_, c⟩
  rw [List.filterMap_cons, hf] at hm
  rcases List.mem_cons.mp hm with rfl | hm
  · rw [hL] at e; cases e
  · exact hn hm

theorem drop_way {ks : List Int} {i : Nat} (h : i < ks.length) : ks.drop i = ks.getD (i : Int).toNat 0 :: ks.drop (i + 1) := by
  rw [Int.toNat_natCast, List.drop_eq_getElem_cons h, List.getD_eq_getElem?_getD, List.getElem?_eq_getElem h]
  rfl
theorem undo_bad {size i n : Nat} {step : Int} {ks found above : List Int} {res : Except Int (List Int)} (h : undo size step n (i : Int) (ks.drop i) found above = res) (hi : i < ks.length) (hn : 0 < n) (hw : 4 < ks.getD (i : Int).toNat 0) : res = .error (i : Int) := by
  obtain ⟨n, rfl⟩ : ∃ n', n = n' + 1 := ⟨n - 1, by omega⟩
  rw [drop_way hi, undo, if_pos hw] at h
  exact h.symm
theorem undo_go {size i n : Nat} {step : Int} {ks found above : List Int} {res : Except Int (List Int)} (h : undo size step n (i : Int) (ks.drop i) found above = res) (hi : i < ks.length) (hn : 0 < n) (hw : ¬ 4 < ks.getD (i : Int).toNat 0) :
    undo size step (n - 1) ((i + 1 + size : Nat) : Int) (ks.drop (i + 1 + size)) (found ++ unrow step (ks.getD (i : Int).toNat 0) above ((ks.drop (i + 1)).take size)) (unrow step (ks.getD (i : Int).toNat 0) above ((ks.drop (i + 1)).take size)) = res := by
  obtain ⟨n, rfl⟩ : ∃ n', n = n' + 1 := ⟨n - 1, by omega⟩
  rw [drop_way hi, undo, if_neg hw, List.drop_drop] at h
  exact h
theorem undo_end {size i n : Nat} {step : Int} {ks found above : List Int} {res : Except Int (List Int)} (h : undo size step n (i : Int) (ks.drop i) found above = res) (hi : i ≥ ks.length) : res = .ok found := by
  rw [List.drop_of_length_le hi] at h
  cases n <;> exact h.symm

local macro_rules | `(tactic| walk_at "call builtin:list.extend") => `(tactic| refine' Halt.of ?_)

theorem while_end {h₀ g : Heap} {L x fl rl : Addr} {m' : Str → Option Value} {q : Addr × Obj} {fv rv : List Value} {n' kr n i size tk : Nat} {step : Int} {above found ks : List Int} {b : Array UInt8} {tb ta : Tok} {s₁ : Shared} {res : Except Int (List Int)} {Q : Flow → Shared → Prop}
    (F : Fr h₀ L g m') (N : News h₀ L g [(fl, listOf (fv.toArray ++ rv.toArray) n'), (rl, listOf rv.toArray kr), q]) (hne : rl ≠ fl)
    (hfv : IntsAre fv found) (hrv : IntsAre rv (unrow step (ks.getD (i : Int).toNat 0) above ((ks.drop (i + 1)).take size))) (hin : KBa.In found) (hz1 : found.length ≤ i) (h2 : size ≤ 8) (hlt : i < ks.length) (hz4 : ks.length ≤ n + i)
    (hres : undo size step n (i : Int) (ks.drop i) found above = res) (hw : ¬ 4 < ks.getD (i : Int).toNat 0)
    (m1 : m' (Str.ofString "octets") = some (.bytes b tb)) (m2 : m' (Str.ofString "shape") = some (.ref x)) (m3 : m' (Str.ofString "found") = some (.ref fl)) (m4 : m' (Str.ofString "above") = some (.ref rl)) (m5 : m' (Str.ofString "at") = some (.int ((i : Int) + 1 + (size : Int)) ta)) :
    WhileStep2 h₀ L s₁ (UnJ b tb x ks size step res) Q n .next { s₁ with heap := g, toks := tk } := by
  have e : fv.toArray ++ rv.toArray = (fv ++ rv).toArray := by simp
  have e2 : ((i : Int) + 1 + (size : Int)) = ((i + 1 + size : Nat) : Int) := by omega
  rw [e] at N
  rw [e2] at m5
  have hl : (unrow step (ks.getD (i : Int).toNat 0) above ((ks.drop (i + 1)).take size)).length ≤ size := by rw [unrow_len, List.length_take]; omega
  refine ⟨g, tk, m', [(fl, listOf (fv ++ rv).toArray n'), (rl, listOf rv.toArray kr)], n - 1, rfl, F, fun p hp => N p ?_, by omega, i + 1 + size, fl, rl, fv ++ rv, rv, _, _, _, _, _, rfl, hne, hfv.append hrv, hrv, m1, m2, m3, m4, m5, ?_, ?_, by omega, by omega, by omega, undo_go hres hlt (by omega) hw⟩
  · exact List.mem_append_left [q] hp
  · intro v hv
    rcases List.mem_append.mp hv with hv | hv
    · exact hin v hv
    · exact unrow_in _ [] (fun _ h => nomatch h) v hv
  · rw [List.length_append]; omega

theorem undone_ok {w : World} {A : Around} {s : Shared} {Q E : Value → Shared → Prop} (b : Array UInt8) (ks : List Int) (tb : Tok) (x : Addr) (size : Nat) (step : Int) (l : List Env)
    (hroom : A.depth + 8 < recursionLimit) (hh : A.handled = none) (hfr : A.frames = some l) (hu : A.units + 60 < cLine) (G : G0 w s.heap) (hl : s.heap.FunFrames {} l)
    (hb : KBw.bInts b = ks) (hS : IsShape s.heap x size step) (h1 : 1 ≤ size) (h2 : size ≤ 8) (h3 : 1 ≤ step) (h4 : ks.length ≤ 1000)
    (hQ : ∀ (r : Array UInt8) (t : Tok) (h' : Heap) (tk : Nat), Kept s.heap h' → undo size step ks.length 0 ks [] [] = .ok (KBw.bInts r) → Q (.bytes r t) { s with heap := h', toks := tk })
    (hE : ∀ (e T : Addr) (at' : Int) (h' : Heap) (tk : Nat), undo size step ks.length 0 ks [] [] = .error at' → h'.FunFrames {} l → FaultAt s.heap h' e at' (.ref T) → TbAt s.heap h' T .none → T ≠ e → KeptF (l.filterMap (·.frame)) s.heap h' → E (.ref e) { s with heap := h', toks := tk }) :
    wpAny (model PySem.Challenge.rw_qz0073_01.row.prog w) A (PySem.call (.ref 130) [.bytes b tb, .ref x]) Q E s := by
  have GG := G
  obtain ⟨X, mean, mg, mb, T⟩ := G
  obtain ⟨hd', dep, frs, gds, un⟩ := A
  dsimp only at hh hroom hu hfr
  subst hh
  subst hfr
  refine wpAny_call ?_
  (k_dflt (refine' code_raw ?k1 ?k2 ?k3 ?k4 ?k5 ?k6 ?k7 ?_ ?c1 ?c2 ?c3 ?c4; (case k1 => assumption); (case k2 => exact Top.nolimit (by assumption)); (case k3 => k_is); (case k4 => k_is); (case k5 => first | omega | (dsimp only; omega)); (case k6 => exact BindsTo.of_eq rfl); (case k7 => exact locs rfl); (case c1 => exact rfl); (case c2 => exact rfl); (case c3 => exact rfl); (case c4 => decide); k_whole; intro h₁ F N; (try dsimp only)))
  k_steps
  rename Fr _ _ _ _ => F1
  rename News _ _ _ _ => N1
  rename _ < _ ∧ _ < _ => l1
  rename _ < _ => l2
  refine Stopped.mk ?_
  refine While_inv2 (UnJ b tb x ks size step (undo size step ks.length 0 ks [] [])) (n₀ := ks.length) F1 (fun p hp => N1 p (List.mem_cons_of_mem _ (by simpa [or_comm] using hp))) ⟨0, _, _, [], [], [], [], _, _, _, rfl, ?_, IntsAre.nil, IntsAre.nil, rfl, rfl, rfl, rfl, rfl, ?_, ?_, ?_, ?_, ?_, ?_⟩ ?_
  · exact Nat.ne_of_gt l2
  · exact fun _ h => nomatch h
  · simp
  · simp
  · simp
  · simp
  · simp
  · rintro n m₁ news₁ g1 tk1 F2 N2 ⟨i, fl, al, fv, uv, found, above, kf, ku, ta, rfl, hne, hfv, huv, m1, m2, m3, m4, m5, hin, hz1, hz2, hz3, hz4, hres⟩
    have hz5 := hfv.length
    have hz6 := huv.length
    rw [mapL (m := m₁) [(Str.ofString "octets", .bytes b tb), (Str.ofString "shape", .ref x), (Str.ofString "found", .ref fl), (Str.ofString "above", .ref al), (Str.ofString "at", .int (i : Int) ta)] (by
      simp only [List.forall_mem_cons]
      exact ⟨m1, m2, m3, m4, m5, fun _ h => nomatch h⟩)] at F2
    simp only [bm] at F2
    rcases Nat.lt_or_ge i ks.length with hlt | hge
    · skip
      k_steps
      · refine Halt.mk ?_
        refine' fault_ok _ _ _ _ ?p1 ?p2 ?p3 ?p4 ?_
        (case p1 => (simp only [depth_deeper]; (try dsimp only); omega))
        (case p2 => first | exact rfl | assumption)
        (case p3 => (simp only [units_deeper]; (try dsimp only); omega))
        (case p4 => exact G0.keeps (by assumption) (Fr.keep (by assumption)))
        intro e9 h9 tk9 k9 f9
        have F9 := Fr.keeps (by assumption) k9
        have N9 := News.grown (by assumption) k9
        (try dsimp only)
        k_steps
        rename FaultAt _ _ _ _ _ => f9
        rename Fr _ _ _ _ => F9
        refine ⟨_, _, _, rfl, X.keeps F9.keep, f9, ?_⟩
        refine leave_first (L := s.heap.objs.size) (outer := l) rfl (Heap.FunFrames.cons (L := s.heap.objs.size) (show ScopeKind.function ≠ ScopeKind.module by decide) rfl F9.ns (by rfl) (hl.of_keeps fun b o q _ => ⟨o, F9.keep _ _ q, rfl⟩)) rfl (f9.base (Fr.keep (by assumption))) (KeptF.of_kept F9.keep) fun h' T k1 k2 k3 k4 k5 => hE _ T _ h' _ ?_ k1.2.2 k2 k3 k4 (k5.drop rfl (Heap.get?_none_of_le (Nat.le_refl _)))
        exact undo_bad hres hlt (by omega) (by assumption)
      rename KBw.bInts (KBy.picked _ _ _) = _ => hk
      rename News _ _ _ [_, _, _] => N3
      refine Stopped.mk ?_
      refine iter_bytesN (ks := (ks.drop (i + 1)).take size) (RowJ b tb x fl al _ fv uv kf ku i ta _ step (ks.getD (i : Int).toNat 0) above ((ks.drop (i + 1)).take size)) (hk.trans slice_row) rfl (by assumption) N3 ⟨[], _, rfl, IntsAre.nil, rfl, rfl, rfl, rfl, rfl, rfl, rfl⟩ ?_ ?_
      · rintro j k t m₂ nx h tk own hj hk0 hk1 - hoff ⟨rv, kr, rfl, hrv, c1, c2, c3, c4, c5, c6, c7⟩ F3 N3
        rw [mapL (m := m₂) [(Str.ofString "octets", .bytes b tb), (Str.ofString "shape", .ref x), (Str.ofString "found", .ref fl), (Str.ofString "above", .ref al), (Str.ofString "at", .int (i : Int) ta), (Str.ofString "way", _), (Str.ofString "row", .ref _)] (by
          simp only [List.forall_mem_cons]
          exact ⟨c1, c2, c3, c4, c5, c6, c7, fun _ h => nomatch h⟩)] at F3
        simp only [bm] at F3
        simp only [List.cons_append, List.nil_append] at N3
        simp only [OwnOff, List.map_cons, List.map_nil] at hoff
        have o1 := fun p hp => hoff p hp _ (List.Mem.head _)
        have hj8 : j < 8 := by
          have := (List.getElem?_eq_some_iff.mp hj).1
          rw [List.length_take] at this
          omega
        have hz0 := hrv.length
        have hz7 := hrv.length
        rw [unrow_len, List.length_take] at hz7
        have hz8 : rv.toArray.size ≤ sizeLine := by rw [PySem.sizeLine_eq, List.size_toArray]; omega
        have hpush := ints_push (k := k) (t := t) hrv
        k_unmd
        k_steps
        refine Halt.mk ?_
        refine' guess_arr _ _ _ _ _ _ _ _ _ _ _ _ _ _ ?p1 ?p2 ?p3 ?p4 ?p5 ?p6 ?p7 ?p8 ?p9 ?p10 ?p11 ?p12 ?p13 ?_
        (case p1 => (simp only [depth_deeper]; (try dsimp only); omega))
        (case p2 => first | exact rfl | assumption)
        (case p3 => (simp only [units_deeper]; (try dsimp only); omega))
        (case p4 => exact G0.keeps (by assumption) (Fr.keep (by assumption)))
        (case p5 => exact (News.get (by assumption) (by k_memK)))
        (case p6 => assumption)
        (case p7 => exact (News.get (by assumption) (by k_memK)))
        (case p8 => assumption)
        (case p9 => omega)
        (case p10 => ((try simp only [Array.size_push, List.size_toArray]); omega))
        (case p11 => ((try simp only [Array.size_push, List.size_toArray, List.length_append, List.length_cons, List.length_nil]); omega))
        (case p12 => ((try simp only [List.length_append, List.length_cons, List.length_nil, unrow_len, List.length_take]); omega))
        (case p13 => omega)
        intro t9 h9 tk9 k9
        have F9 := Fr.keeps (by assumption) k9
        have N9 := News.grown (by assumption) k9
        (try dsimp only)
        k_steps
        refine Halt.mk ?_
        refine' set_last ?F ?N ?o ?_
        (case F => k_asm)
        (case N => k_asm)
        (case o => (simp only [List.forall_mem_cons]; exact ⟨Nat.ne_of_lt (by omega), Nat.ne_of_lt (by omega), by assumption⟩))
        intro h' n' F' N'
        k_steps
        rename Fr _ _ _ _ => F8
        rename News _ _ _ _ => N8
        exact row_end F8 N8 hrv hj (by omega) rfl rfl rfl rfl rfl rfl rfl
      · rintro m₂ nx h tk ⟨rv, kr, rfl, hrv, c1, c2, c3, c4, c5, c6, c7⟩ F3 N3
        rw [List.take_length] at hrv
        rw [mapL (m := m₂) [(Str.ofString "octets", .bytes b tb), (Str.ofString "shape", .ref x), (Str.ofString "found", .ref fl), (Str.ofString "above", .ref al), (Str.ofString "at", .int (i : Int) ta), (Str.ofString "way", _), (Str.ofString "row", .ref _)] (by
          simp only [List.forall_mem_cons]
          exact ⟨c1, c2, c3, c4, c5, c6, c7, fun _ h => nomatch h⟩)] at F3
        simp only [bm] at F3
        have N4 := news_swap N3
        clear N3
        have hz0 := hrv.length
        rw [unrow_len, List.length_take] at hz0
        have hz8 : rv.toArray.size ≤ sizeLine := by rw [PySem.sizeLine_eq, List.size_toArray]; omega
        k_unmd
        k_steps
        refine Halt.mk ?_
        with_unfolding_all refine' ext_K ?k1 ?k2 ?k3 ?k4 ?k5 ?_
        (case k1 => k_asm)
        (case k2 => k_asm)
        (case k3 => (simp only [List.forall_mem_cons]; exact ⟨Nat.ne_of_gt (by omega), by assumption, fun _ h => nomatch h⟩))
        (case k4 => exact (News.get (by assumption) (by k_memK)))
        (case k5 => (simp only [List.size_toArray]; omega))
        intro h' n' F' N'
        k_steps
        rename Fr _ _ _ _ => F8
        rename News _ _ _ _ => N8
        exact while_end F8 N8 (Nat.ne_of_gt (by omega)) hfv hrv hin hz1 h2 hlt hz4 hres (by assumption) rfl rfl rfl rfl rfl
    · skip
      k_steps
      rename Fr _ _ _ _ => F8
      refine hQ _ _ _ _ F8.keep ?_
      rw [KBa.ints_make hin]
      exact undo_end hres hge
end
local macro_rules | `(tactic| walk_at "MY-PAD") => `(tactic| skip)
local macro_rules | `(tactic| walk_at "MY-PAD") => `(tactic| skip)
local macro_rules | `(tactic| walk_at "MY-PAD") => `(tactic| skip)
local macro_rules | `(tactic| walk_at "MY-PAD") => `(tactic| skip)
local macro_rules | `(tactic| walk_at "MY-PAD") => `(tactic| skip)
local macro_rules | `(tactic| walk_at "MY-PAD") => `(tactic| skip)
local macro_rules | `(tactic| walk_at "MY-PAD") => `(tactic| skip)
local macro_rules | `(tactic| walk_at "MY-PAD") => `(tactic| skip)
local macro_rules | `(tactic| walk_at "MY-PAD") => `(tactic| skip)
local macro_rules | `(tactic| walk_at "MY-PAD") => `(tactic| skip)

section

section
variable {w : World} {A : Around} {E : Value → Shared → Prop} {s : Shared} {env : Env} {hb : Heap} {e : Addr} {at' : Int} {tb : Value}
theorem exc_at {ex : Bool} {Q : Value → Shared → Prop} (X : (hd.heap_39 w.params).In s.heap) (FA : FaultAt hb s.heap e at' tb)
    (h : ∀ t, Q (.int at' t) { s with toks := s.toks + 1 }) : wpAny (model PySem.Challenge.rw_qz0073_01.row.prog w) A (getAttr (.ref e) (Str.ofString "at") ex) Q E s := by
  obtain ⟨d, t0, es, n, ta, od, he, hd', hod, hg, f1, f2⟩ := FA
  obtain ⟨hp, g, dr, t, os⟩ := s
  dsimp only at he hd' X
  have I : PySem.W.InstAt hp e _ 59 (some od) := ⟨he, rfl, rfl, hd'⟩
  have hl : lookIn (Str.ofString "at") od = some (some (.int at' ta)) := by
    unfold lookIn
    rw [hod]
    exact hg
  have hf : findObj (hd.heap_39 w.params) 59 (some od) (Str.ofString "at") = some (.value (.int at' ta)) := findObj_own (attr := none) (by k_is) (by k_is) (by k_is) hl
  have L0 : Looks (model PySem.Challenge.rw_qz0073_01.row.prog w) hp (typeOf (.ref e)) (.ref 59) := I.type
  have L1 : Looks (model PySem.Challenge.rw_qz0073_01.row.prog w) hp (typeLookup (.ref 59) "__getattribute__") (some (.builtin "BaseException.__getattribute__")) := looks_findIn X (by k_is)
  have L2 : Looks (model PySem.Challenge.rw_qz0073_01.row.prog w) hp (typeLookup (.ref 59) "__getattr__") none := looks_findIn X (by k_is)
  have L3 := looks_find (M := model PySem.Challenge.rw_qz0073_01.row.prog w) X I hf
  have sB : Looks (model PySem.Challenge.rw_qz0073_01.row.prog w) hp (isInstance (.ref e) (.type "BaseException")) true := L0.andThen (looks_mroIn X (by k_is))
  have hb1 : bindSpecial (.builtin "BaseException.__getattribute__") (.ref e) = pure (.builtin "BaseException.__getattribute__", [.ref e]) := PySem.F.attr_Exception.ga.bind _
  have hx0 : (ex && onTheHeap (Value.builtin "BaseException.__getattribute__")) = false := by cases ex <;> rfl
  have hx2 : (onTheHeap (Value.ref 59) && Value.builtin "BaseException.__getattribute__" == Value.builtin "object.__getattribute__") = false := by decide +kernel
  unfold getAttr getAttrBy
  refine wpAny_bind (wpAny_mkText (wpAny_holding (wpAny_bind (L0.at (wpAny_bind (L1.at ?_))))))
  dsimp only
  rw [hx2]
  rw [if_neg (by decide)]
  unfold getAttrByItsOwn hookBefore callGetattribute boundAndCalled
  rw [hx0]
  rw [if_pos (show onTheHeap (Value.ref 59) = true from rfl), if_neg (by decide), hb1]
  refine wpAny_bind (L2.at (wpAny_bind (wpAny_attempt (wpAny_holding (wpAny_bind (wpAny_pure ?_))))))
  refine wpAny_call ?_
  have hk : builtinKind "BaseException.__getattribute__" = some .slot := by decide +kernel
  have hsplit : splitId "BaseException.__getattribute__" = some ("BaseException", "__getattribute__") := by decide +kernel
  show codeAny _ _ (.call (.builtin "BaseException.__getattribute__") ⟨[.ref e, .str (Str.ofString "at") t], []⟩) _ _
  refine codeAny_call_builtin PySem.F.attr_Exception.ga.plain PySem.F.entry_bexc_ga ?_
  refine @check_slot _ _ _ _ "BaseException.__getattribute__" "BaseException" "__getattribute__" (.ref e) [.str (Str.ofString "at") t] [] _ hk hsplit sB (PySem.F.args_bexc_ga (.ref e) (.str (Str.ofString "at") t)) ?_
  unfold Builtin.«object.__getattribute__»
  refine wpAny_bind (wpAny_pure (a := ((.ref e : Value), [(.str (Str.ofString "at") t : Value)])) ?_)
  refine wpAny_bind (wpAny_pure (a := Str.ofString "at") ?_)
  refine wpAny_bind (L0.at (wpAny_bind (L3.at (wpAny_pure ?_))))
  show wpAny _ _ (handedOut (.int at' ta)) _ _ _
  rw [handedOut_of (by rfl)]
  exact wpAny_pure (h ta)
end
end

section


theorem KeptF.frames {fr : List Addr} {h h' hb : Heap} {l : List Env} (x : KeptF fr h h') (hl : h.FunFrames hb l) : h'.FunFrames hb l :=
  hl.of_keeps fun b o q _ => let ⟨_, sl, c⟩ := x b o q; ⟨_, c, rfl⟩
theorem KeptF.upTo {fr : List Addr} {h h' : Heap} (x : KeptF fr h h') : h.UpToSlots h' := fun b o q _ => (x b o q).2
theorem KeptF.after {fr : List Addr} {h₁ h₂ h₃ : Heap} (k : Kept h₁ h₂) (x : KeptF fr h₂ h₃) : KeptF fr h₁ h₃ := fun b o e => x b o (k b o e)
theorem KeptF.stays {fr : List Addr} {hb h h' : Heap} (k : Kept hb h) (x : KeptF fr h h') (hn : ∀ b ∈ fr, hb.get? b = none) : Kept hb h' := fun b o e => (x b o (k b o e)).1 fun hm => by
  rw [hn b hm] at e; cases e

theorem fr_based {hb h₀ h : Heap} {L : Addr} {m : Str → Option Value} (F : Fr h₀ L h m) (k : Kept hb h₀) (hz : hb.objs.size ≤ h₀.objs.size) : Fr hb L h m := ⟨F.ns, fun b o q => F.keep _ _ (k _ _ q), Nat.le_trans hz F.above⟩

local macro_rules | `(tactic| walk_at "bind") => `(tactic| ((with_reducible show wpAny _ _ (bindName _ _ _ >>= _) _ _ _); refine' Stopped.of ?_))
local macro_rules | `(tactic| walk_at "exec Try") => `(tactic| refine' wpAny_Try_except ?_)
theorem exc_match {w : World} {A : Around} {E : Value → Shared → Prop} {s : Shared} {hb : Heap} {e : Addr} {at' : Int} {tb : Value} {Q : Bool → Shared → Prop} (X : (hd.heap_39 w.params).In s.heap) (FA : FaultAt hb s.heap e at' tb) (h : Q true s) :
    wpAny (model PySem.Challenge.rw_qz0073_01.row.prog w) A (excMatches (.ref e) (.ref 59)) Q E s := by
  obtain ⟨d, t0, es, n, ta, od, he, _⟩ := FA
  obtain ⟨hp, g, dr, t, os⟩ := s
  exact wpAny_excMatches_sub_self (X 59 _ rfl) he rfl (by decide +kernel) h
theorem FaultAt.same {hb h h' : Heap} {e L : Addr} {at' : Int} {tb : Value} {oL : Obj} (x : FaultAt hb h e at' tb) (hs : Heap.SameBut L h h') (hL : hb.get? L = some oL) : FaultAt hb h' e at' tb := by
  obtain ⟨d, t0, es, n, ta, od, a1, a2, a3, a4, a5, a6⟩ := x
  refine ⟨d, t0, es, n, ta, od, (hs.2 e fun q => ?_).trans a1, (hs.2 d fun q => ?_).trans a2, a3, a4, a5, a6⟩
  · rw [q, hL] at a5; cases a5
  · rw [q, hL] at a6; cases a6
theorem KeptF.same {fr : List Addr} {hb h h' : Heap} {L : Addr} (x : KeptF fr hb h) (hs : Heap.SameBut L h h') (hL : hb.get? L = none) : KeptF fr hb h' := fun b o e => by
  have hne : b ≠ L := fun q => by rw [q, hL] at e; cases e
  obtain ⟨a, sl, c⟩ := x b o e
  exact ⟨fun hn => (hs.2 b hne).trans (a hn), sl, (hs.2 b hne).trans c⟩
local macro_rules | `(tactic| walk_at "getAttr ref") => `(tactic| (refine' exc_at (by assumption) (by assumption) ?_; intro t9; (try dsimp only)))

theorem law_undone_ok {w : World} {A : Around} {s : Shared} {Q E : Value → Shared → Prop} {hb : Heap} (b : Array UInt8) (ks : List Int) (tb : Tok) (x : Addr) (size : Nat) (step : Int) (l : List Env)
    (hroom : A.depth + 10 < recursionLimit) (hh : A.handled = none) (hu : A.units + 80 < cLine) (G : G0 w hb) (K : Below A hb l s.heap) (hsz : hb.objs.size ≤ s.heap.objs.size)
    (hb' : KBw.bInts b = ks) (hS : IsShape s.heap x size step) (h1 : 1 ≤ size) (h2 : size ≤ 8) (h3 : 1 ≤ step) (h4 : ks.length ≤ 1000)
    (hQ : ∀ (r : Array UInt8) (t : Tok) (h' : Heap) (tk : Nat), KeptF (l.filterMap (·.frame)) s.heap h' → undo size step ks.length 0 ks [] [] = .ok (KBw.bInts r) → Q (.bytes r t) { s with heap := h', toks := tk })
    (hE : ∀ (at' : Int) (t : Tok) (h' : Heap) (tk : Nat), KeptF (l.filterMap (·.frame)) s.heap h' → undo size step ks.length 0 ks [] [] = .error at' → Q (.int at' t) { s with heap := h', toks := tk }) :
    wpAny (model PySem.Challenge.rw_qz0073_01.row.prog w) A (PySem.call (.ref 144) [.bytes b tb, .ref x]) Q E s := by
  have GG := G
  obtain ⟨X, mean, mg, mb, T⟩ := G
  obtain ⟨hd', dep, frs, gds, un⟩ := A
  obtain ⟨hfr, kb, hl⟩ := K
  dsimp only at hh hroom hu hfr
  subst hh
  subst hfr
  refine wpAny_call ?_
  (k_dflt (refine' code_raw ?k1 ?k2 ?k3 ?k4 ?k5 ?k6 ?k7 ?_ ?c1 ?c2 ?c3 ?c4; (case k1 => exact Frag.In.keeps (by assumption) (by assumption)); (case k2 => exact Top.nolimit (Top.keeps (by assumption) (by assumption))); (case k3 => k_is); (case k4 => k_is); (case k5 => first | omega | (dsimp only; omega)); (case k6 => exact BindsTo.of_eq rfl); (case k7 => exact locs rfl); (case c1 => exact rfl); (case c2 => exact rfl); (case c3 => exact rfl); (case c4 => decide); k_whole; intro h₁ F0 N0; (try dsimp only)))
  rename Fr _ _ _ _ => F0
  rename News _ _ _ _ => N0
  clear N0
  have F := fr_based F0 kb hsz
  have hS1 := hS.keeps F0.keep
  have hl0 := hl.of_keeps fun b o q _ => ⟨o, F0.keep _ _ q, rfl⟩
  have hl1 := funFrames_base (base := {}) (fun _ _ q => by cases q) hl0
  have K0 := F0.keep
  k_steps
  refine' undone_ok b ks tb x size step _ ?p1 ?p2 ?p3 ?p4 ?p5 ?p6 hb' hS1 h1 h2 h3 h4 ?_ ?_
  case p1 => (simp only [depth_deeper]; (try dsimp only); omega)
  case p2 => exact rfl
  case p3 => exact rfl
  case p4 => (simp only [units_deeper]; (try dsimp only); omega)
  case p5 => exact GG.keeps F.keep
  case p6 => exact Heap.FunFrames.cons (show ScopeKind.function ≠ ScopeKind.module by decide) rfl F.ns (by rfl) hl1
  · intro r9 t9 h9 tk9 k9 u9
    exact hQ r9 t9 h9 tk9 (.of_kept fun b o q => k9 _ _ (K0 _ _ q)) u9
  · intro e9 T9 at9 h9 tk9 u9 g9 f9 b9 n9 k9
    refine note_next (outer := l) (L := s.heap.objs.size) rfl g9 rfl f9 b9 n9 k9 fun h2 T2 g2 f2 b2 n2 k2 => ?_
    refine flight_none g2 f2 b2 n2 k2 fun h3 g3 f3 b3 k3 _ => ?_
    have F3 := F.of_stays (KeptF.stays F.keep k3 fun b hm => by exact (Heap.FunFrames.mem (Heap.FunFrames.cons (L := s.heap.objs.size) (show ScopeKind.function ≠ ScopeKind.module by decide) rfl F.ns (Heap.get?_none_of_le hsz) hl0) hm).1) k3.upTo
    refine wpAny_handleBy_cons (codeAny_handlers_test ?_) (by intro q; cases q)
    k_steps
    refine exc_match (X.keeps F3.keep) f3 ?_
    refine codeAny_handlers_suite_as ?_
    refine flight_none g3 f3 b3 n2 k3 fun h4 g4 f4 b4 k4 _ => ?_
    have F4 := F.of_stays (KeptF.stays F.keep k4 fun b hm => by exact (Heap.FunFrames.mem (Heap.FunFrames.cons (L := s.heap.objs.size) (show ScopeKind.function ≠ ScopeKind.module by decide) rfl F.ns (Heap.get?_none_of_le hsz) hl0) hm).1) k4.upTo
    have q4 := (KeptF.after K0 k4).drop rfl (Heap.get?_none_of_le (Nat.le_refl _))
    refine wpAny_storeName_local (by rfl) F4.ns (fun h5 ns5 hs5 => ?_) (by rfl)
    have F5 := F4.set ns5 hs5
    have q5 := q4.same hs5 (Heap.get?_none_of_le (Nat.le_refl _))
    obtain ⟨oL, _, _, hoL, _⟩ := F0.ns
    have f5 := f4.same hs5 (hoL)
    have X5 := X.keeps F5.keep
    clear k4 k3 k2 k9 g2 g3 g4 g9 f9 b9 f2 b2 f3 b3 b4 F3 F4 f4 F0 F q4
    k_steps
    refine Stopped.mk ?_
    exact wpAny_nameGoes (by rfl) F5.ns (by rfl) fun h6 m6 ns6 hs6 => hE _ _ _ _ (q5.same hs6 (Heap.get?_none_of_le (Nat.le_refl _))) u9
end
local macro_rules | `(tactic| walk_at "MY-PAD") => `(tactic| skip)
local macro_rules | `(tactic| walk_at "MY-PAD") => `(tactic| skip)
local macro_rules | `(tactic| walk_at "MY-PAD") => `(tactic| skip)
local macro_rules | `(tactic| walk_at "MY-PAD") => `(tactic| skip)

section


abbrev handOf (l0 : Addr) (at' seed : Int) (ta ts : Tok) (k : Nat) : Obj := listOf #[.ref l0, .int at' ta, .int seed ts] k

theorem roll_ok {w : World} {A : Around} {s : Shared} {Q E : Value → Shared → Prop} {hb : Heap} (H l0 : Addr) (vs : List Value) (ns : List Int) (at' seed many : Int) (ta ts tm : Tok) (k : Nat)
    (hroom : A.depth + 4 < recursionLimit) (hh : A.handled = none) (hu : A.units + 30 < cLine) (G : G0 w hb) (kb : Kept hb s.heap)
    (hH : s.heap.get? H = some (handOf l0 at' seed ta ts k)) (hn : hb.get? H = none) (hl : s.heap.IsList l0 vs.toArray) (hl0 : l0 ≠ H) (hi : IntsAre vs ns) (hz : ns.length ≤ 50)
    (h1 : 0 ≤ at') (h2 : at' ≤ 1000000) (h3 : 0 ≤ seed) (h4 : seed ≤ 1000000) (h5 : 1 ≤ many) (h6 : many ≤ 1000)
    (hQ : ∀ (r : Int) (t : Tok) (seed' : Int) (t1 t2 : Tok) (k' : Nat) (h' : Heap) (tk : Nat), 0 ≤ r → r < many → 0 ≤ seed' → seed' ≤ 1000000 → (∀ b o, s.heap.get? b = some o → b ≠ H → h'.get? b = some o) → h'.get? H = some (handOf l0 (at' + 1) seed' t1 t2 k') → Q (.int r t) { s with heap := h', toks := tk }) :
    wpAny (model PySem.Challenge.rw_qz0073_01.row.prog w) A (PySem.call (.ref 137) [.ref H, .int many tm]) Q E s := by
  have GG := G
  obtain ⟨X, mean, mg, mb, T⟩ := G
  obtain ⟨hd', dep, frs, gds, un⟩ := A
  dsimp only at hh hroom hu
  subst hh
  refine wpAny_call ?_
  have N0 : ∀ p ∈ [(H, handOf l0 at' seed ta ts k)], s.heap.get? p.1 = some p.2 ∧ hb.get? p.1 = none := fun p hp => by
    rw [List.mem_singleton.mp hp]
    exact ⟨hH, hn⟩
  (k_dflt (refine' code_rawL ?k0 ?kN ?k1 ?k2 ?k3 ?k4 ?k5 ?k6 ?k7 ?_ ?c1 ?c2 ?c3 ?c4; (case k0 => assumption); (case kN => assumption); (case k1 => assumption); (case k2 => exact Top.nolimit (by assumption)); (case k3 => k_is); (case k4 => k_is); (case k5 => first | omega | (dsimp only; omega) | (simp only [depth_under_make]; (try dsimp only); omega)); (case k6 => first | exact BindsTo.of_eq rfl | exact binds_K (by assumption) rfl (by k_is) rfl rfl rfl); (case k7 => exact locs rfl); (case c1 => exact rfl); (case c2 => exact rfl); (case c3 => exact rfl); (case c4 => decide); k_whole; intro g' L' h₁ k1' k2' k3' l1' F' N'; (try dsimp only)))
  rename Kept hb _ => kbg
  rename ∀ b o, _ → b ∉ _ → _ => k3
  have X1 := X.keeps kbg
  have T1 := T.keeps kbg
  obtain ⟨ol, hol, hcl, hdl⟩ := hl
  have hl1 : Heap.IsList _ l0 vs.toArray := ⟨ol, k3 _ _ hol (by simpa using hl0), hcl, hdl⟩
  have hz1 := hi.length
  k_steps
  · rename Fr _ _ _ _ => F8
    rename News _ _ _ _ => N8
    exact hQ _ _ _ _ _ _ _ _ (Int.fmod_nonneg_of_pos _ (by omega)) (Int.fmod_lt_of_pos _ (by omega)) h3 h4 (fun b o q hne => F8.keep _ _ (k3 _ _ q (by simpa using hne))) (N8 _ List.mem_cons_self).1
  · rename Fr _ _ _ _ => F8
    rename News _ _ _ _ => N8
    exact hQ _ _ _ _ _ _ _ _ (Int.fmod_nonneg_of_pos _ (by omega)) (Int.fmod_lt_of_pos _ (by omega)) (Int.fmod_nonneg_of_pos _ (by omega)) (Int.le_trans (Int.le_of_lt (Int.fmod_lt_of_pos _ (by omega))) (by omega)) (fun b o q hne => F8.keep _ _ (k3 _ _ q (by simpa using hne))) (N8 _ List.mem_cons_self).1
end

section


theorem shape_fr {hb h h' : Heap} {L x d : Addr} {m : Str → Option Value} (F : Fr hb L h m) (n1 : x ≠ L) (n2 : d ≠ L) (hm : ∀ b o, hb.get? b = some o → b ≠ x ∧ b ≠ d) (kk : ∀ b o, h.get? b = some o → b ≠ x → b ≠ d → h'.get? b = some o) : Fr hb L h' m := by
  obtain ⟨⟨oL, es, ep, hL, r⟩, k, z⟩ := F
  exact ⟨⟨oL, es, ep, kk _ _ hL (Ne.symm n1) (Ne.symm n2), r⟩, fun b o q => kk _ _ (k _ _ q) (hm b o q).1 (hm b o q).2, z⟩
theorem shape_led {hb h h' : Heap} {L x d : Addr} {o1 o2 o1' o2' : Obj} {news : List (Addr × Obj)} (N : News hb L h ((x, o1) :: (d, o2) :: news)) (hx : h'.get? x = some o1') (hd' : h'.get? d = some o2') (kk : ∀ b o, h.get? b = some o → b ≠ x → b ≠ d → h'.get? b = some o)
    (lt1 : ∀ p ∈ news, p.1 < d) (lt2 : d < x) : News hb L h' ((x, o1') :: (d, o2') :: news) := by
  intro p hp
  rcases List.mem_cons.mp hp with rfl | hp
  · exact ⟨hx, (N _ (.head _)).2⟩
  · rcases List.mem_cons.mp hp with rfl | hp
    · exact ⟨hd', (N _ (.tail _ (.head _))).2⟩
    · have zp := N p (.tail _ (.tail _ hp))
      have lp := lt1 p hp
      exact ⟨kk _ _ zp.1 (Nat.ne_of_lt (Nat.lt_trans lp lt2)) (Nat.ne_of_lt lp), zp.2⟩
theorem shape_ok {w : World} {A : Around} {s : Shared} {Q E : Value → Shared → Prop} {hb : Heap} {L : Addr} {m : Str → Option Value} {news : List (Addr × Obj)} (step cols : Int) (t1 t2 t3 : Tok)
    (hroom : A.depth + 5 < recursionLimit) (hh : A.handled = none) (hu : A.units + 40 < cLine) (G : G0 w hb) (F : Fr hb L s.heap m) (N : News hb L s.heap news)
    (h1 : 1 ≤ step) (h2 : step ≤ 3) (h3 : 1 ≤ cols) (h4 : cols ≤ 8)
    (hQ : ∀ (x d : Addr) es n (t u : Tok) (h' : Heap) (tk : Nat), Fr hb L h' m → News hb L h' ((x, instObj 78 d) :: (d, dictOf es n) :: news) → (∀ p ∈ news, p.1 < d) → d < x → getL "row_octets" es = some (some (.int (Int.fdiv (step * 8 * cols + 7) 8) t)) → getL "pixel_octets" es = some (some (.int (Int.fdiv (step * 8 + 7) 8) u)) → Q (.ref x) { s with heap := h', toks := tk }) :
    wpAny (model PySem.Challenge.rw_qz0073_01.row.prog w) A (PySem.call (.ref 78) [.int step t1, .int 8 t2, .int cols t3]) Q E s := by
  have GG := G
  obtain ⟨X, mean, mg, mb, T⟩ := G
  obtain ⟨hd', dep, frs, gds, un⟩ := A
  dsimp only at hh hroom hu
  subst hh
  refine call_cls (fI := 75) F X N (by k_is) (by k_is) (by k_is) fun x dx hh F1 N1 lt1 lt2 => ?_
  have hx : x ≠ dx := Nat.ne_of_gt lt2
  have z1 := N1 _ (.head _)
  have z2 := N1 _ (.tail _ (.head _))
  have hmem : ∀ b o, hb.get? b = some o → b ∉ [x, dx] := fun b o q hm => by
    rcases List.mem_cons.mp hm with rfl | hm
    · rw [z1.2.2] at q; cases q
    · rw [List.mem_singleton.mp hm, z2.2.2] at q; cases q
  have kb0 : Kept hb (hideAll hh [x, dx]) := fun b o q => hideAll_get _ (F1.keep _ _ q) (hmem b o q)
  have kb : Kept (hideAll hh [x, dx]) hh := fun b o q => of_hideAll _ q
  have X2 := X.keeps kb0
  have T2 := T.keeps kb0
  have N0 : ∀ p ∈ [(x, instObj 78 dx), (dx, dictOf [] 0)], hh.get? p.1 = some p.2 ∧ (hideAll hh [x, dx]).get? p.1 = none := fun p hp => by
    rcases List.mem_cons.mp hp with rfl | hp
    · exact ⟨z1.1, hideAll_none _ (.head _)⟩
    · rw [List.mem_singleton.mp hp]
      exact ⟨z2.1, hideAll_none _ (.tail _ (.head _))⟩
  have keepAll : ∀ b o, hh.get? b = some o → b ≠ x → b ≠ dx → (hideAll hh [x, dx]).get? b = some o := fun b o q n1 n2 => hideAll_get _ q (by simp [n1, n2])
  generalize hideAll hh [x, dx] = HB at *
  (k_dflt (refine' code_rawL ?k0 ?kN ?k1 ?k2 ?k3 ?k4 ?k5 ?k6 ?k7 ?_ ?c1 ?c2 ?c3 ?c4; (case k0 => assumption); (case kN => assumption); (case k1 => assumption); (case k2 => exact Top.nolimit (by assumption)); (case k3 => k_is); (case k4 => k_is); (case k5 => first | omega | (dsimp only; omega) | (simp only [depth_under_make]; (try dsimp only); omega)); (case k6 => first | exact BindsTo.of_eq rfl | exact binds_K (by assumption) rfl (by k_is) rfl rfl rfl); (case k7 => exact locs rfl); (case c1 => exact rfl); (case c2 => exact rfl); (case c3 => exact rfl); (case c4 => decide); k_whole; intro g' L' h₁ k1' k2' k3' l1' F' N'; (try dsimp only)))
  rename Kept HB _ => kg
  have X3 := X2.keeps kg
  have T3 := T2.keeps kg
  clear X T GG kb0 X2 T2
  k_steps
  rename Fr _ _ _ _ => F9
  rename News _ _ _ _ => N9
  refine ⟨rfl, ?_⟩
  have y1 := N9 _ (.head _)
  have y2 := N9 _ (.tail _ (.head _))
  have kk : ∀ b o, hh.get? b = some o → b ≠ x → b ≠ dx → Heap.get? _ b = some o := fun b o q n1 n2 => F9.keep _ _ (kg _ _ (keepAll _ _ q n1 n2))
  exact hQ x dx _ _ _ _ _ _ (shape_fr F1 z1.2.1 z2.2.1 (fun b o q => ⟨fun e => hmem b o q (by simp [e]), fun e => hmem b o q (by simp [e])⟩) kk) (shape_led N1 y1.1 y2.1 kk lt1 lt2) lt1 lt2 (by rfl) (by rfl)
end

section

theorem fr_wr {h₀ h h' : Heap} {L : Addr} {m : Str → Option Value} {wr : List Addr} (F : Fr h₀ L h m) (hk : ∀ b o, b ∉ wr → h.get? b = some o → h'.get? b = some o) (h1 : L ∉ wr) (h2 : ∀ b ∈ wr, h₀.get? b = none) : Fr h₀ L h' m := by
  obtain ⟨⟨oL, es, ep, hL, r⟩, k, z⟩ := F
  refine ⟨⟨oL, es, ep, hk _ _ h1 hL, r⟩, fun b o q => hk _ _ (fun hm => ?_) (k _ _ q), z⟩
  rw [h2 b hm] at q
  cases q
theorem news_wr {h₀ h h' : Heap} {L : Addr} {news : List (Addr × Obj)} {wr : List Addr} (N : News h₀ L h news) (hk : ∀ b o, b ∉ wr → h.get? b = some o → h'.get? b = some o) (h1 : ∀ p ∈ news, p.1 ∉ wr) : News h₀ L h' news := fun p hp => ⟨hk _ _ (h1 p hp) (N p hp).1, (N p hp).2⟩

section
variable {prog : Program} {w : World} {A : Around} {E : Value → Shared → Prop} {s : Shared} {h₀ : Heap} {L : Addr} {m : Str → Option Value} {env : Env}

theorem block_Z {elt iter : Expr} {x x₂ : Str} {px px₂ tp : Pos} {tk} {scope : Scope} {cl : List (Str × Addr)} {pos : Pos} {s₂ : Shared} {z : Addr} {ad fp wr : List Addr} {n : Nat} {Pt : Nat → Array Value → Prop} {St : Nat → Heap → Prop} {Mid : Nat → Addr → Heap → Prop} {P : Nat → Value → Value → Prop} {news : List (Addr × Obj)}
    {RR : Value → Addr → Result → Shared → Prop} (J : Nat → List Value → Prop)
    (W : WalksU prog w A z fp wr n Pt St Mid) (hsz : n ≤ sizeLine)
    (hPt : ∀ i vals, Pt i vals → ∃ a b, vals = #[a, b] ∧ P i a b)
    (hobj : ∀ i h, St i h → ∃ (oz : Obj) (own : List (Addr × Obj)), h.get? z = some oz ∧ own.map (·.1) = ad ∧ ∀ p ∈ own, h.get? p.1 = some p.2)
    (hfp : ∀ b ∈ fp, b ∈ z :: ad ∨ ∃ o, (b, o) ∈ news) (hwr : ∀ b ∈ wr, b ∈ z :: ad)
    (hnew : ∀ b ∈ z :: ad, b < s₂.heap.objs.size ∧ h₀.get? b = none ∧ b ≠ L ∧ ∀ p ∈ news, p.1 ≠ b)
    (hza : z ∉ ad)
    (hcell : ∀ y ∈ scope.names, y.2 ≠ .cell) (hkind : scope.kind = .function) (hx : scope.names.lookup x = some .local) (hx₂ : scope.names.lookup x₂ = some .local) (hxx : x ≠ x₂) (hh : A.handled = none) (hst : St 0 s₂.heap)
    (F : Fr h₀ L s₂.heap m) (N : News h₀ L s₂.heap news) (hJ : J 0 [])
    (turn : ∀ i a b own oz C oC D m₂ ys h tk (E' : Value → Shared → Prop), i < n → P i a b → J i ys → ys.length = i → own.map (·.1) = ad → LCg.NsObj oC m₂ → m₂ x = some a → m₂ x₂ = some b → Fr h₀ L h m → News h₀ L h ((z, oz) :: (C, oC) :: (D, LCg.lst ys) :: (own ++ news)) → LCg.Off3 z C D (own ++ news) → ((@Ne Nat z C) ∧ (@Ne Nat z D) ∧ (@Ne Nat C D)) →
      wpAny (model prog w) A (eval elt (compEnvC scope cl C env)) (LCg.CompEnd h₀ L m { s₂ with heap := h, toks := tk } z oz C oC D (LCg.lst ys) (fun _ => True) (fun y news' => news' = own ++ news ∧ J (i + 1) (ys ++ [y]))) E' { s₂ with heap := h, toks := tk })
    (hRR : ∀ D C h tk m' ys, Fr h₀ L h m → News h₀ L h ((D, LCg.lst ys) :: news) → LCg.Off1 D news → h.Ns C m' → h₀.get? C = none → h₀.get? D = none → C ≠ L → D ≠ L → C ≠ D → (∀ p ∈ news, p.1 ≠ C) → J n ys → RR (.ref D) C (.ok .next) { s₂ with heap := h, toks := tk }) :
    wpAny (model prog w) A (newList []) (fun acc s₃ => wpAny (model prog w) A (newFunctionEnv scope env.globals cl [] env.qual none .none (some env)) (fun cenv s₄ =>
      codeAny (model prog w) A (.compStart (.ListComp elt [⟨.Tuple [.Name x px, .Name x₂ px₂] tk tp, iter, [], 0⟩] scope pos) 0 (.ref z) acc { cenv with scope := relabel scope env }) (RR acc cenv.locals) s₄) E s₃) E s₂ := by
  refine wpAny_newObj_type (wpAny_newFunctionEnv hcell (by intro y hy; simp at hy) (fun h₁ hns₁ hsb₁ => ?_) hkind)
  dsimp only at hns₁ hsb₁ ⊢
  generalize hH2 : s₂.heap.push { cls := .type "list", dict := none, data := .seq ([] : List Value).toArray } = H2 at hns₁ hsb₁ ⊢
  have hC : H2.objs.size = s₂.heap.objs.size + 1 := by rw [← hH2, Heap.size_push]
  have hDC : s₂.heap.objs.size ≠ H2.objs.size := by rw [hC]; exact Nat.ne_of_lt (Nat.lt_succ_self _)
  have below : ∀ b, b < s₂.heap.objs.size → b ≠ H2.objs.size ∧ b ≠ s₂.heap.objs.size := fun b hb => ⟨by rw [hC]; exact Nat.ne_of_lt (Nat.lt_succ_of_lt hb), Nat.ne_of_lt hb⟩
  have hNlt : ∀ p ∈ news, p.1 < s₂.heap.objs.size := fun p hp => Heap.lt_size (N p hp).1
  have hfplt : ∀ b ∈ fp, b < s₂.heap.objs.size := fun b hb => by
    rcases hfp b hb with h | ⟨o, h⟩
    · exact (hnew b h).1
    · exact hNlt _ h
  have hDf : s₂.heap.objs.size ∉ fp := fun hm => Nat.lt_irrefl _ (hfplt _ hm)
  have hCf : H2.objs.size ∉ fp := fun hm => by have := hfplt _ hm; rw [hC] at this; exact Nat.lt_irrefl _ (Nat.lt_of_succ_lt this)
  have hCwr : H2.objs.size ∉ wr := fun hm => (below _ (hnew _ (hwr _ hm)).1).1 rfl
  have hDwr : s₂.heap.objs.size ∉ wr := fun hm => (below _ (hnew _ (hwr _ hm)).1).2 rfl
  have old : ∀ b o, s₂.heap.get? b = some o → h₁.get? b = some o := fun b o e => hsb₁.extBut b o (below b (Heap.lt_size e)).1 (Heap.get?_push_of_some _ (hH2 ▸ Heap.get?_push_of_some _ e))
  have hacc : h₁.get? s₂.heap.objs.size = some (LCg.lst []) := hsb₁.extBut _ _ hDC (Heap.get?_push_of_some _ (hH2 ▸ Heap.get?_push_size _ rfl))
  have hst₁ : St 0 h₁ := W.frame _ _ _ hst fun b _ o e => old b o e
  have fresh : ∀ a, s₂.heap.objs.size ≤ a → s₂.heap.get? a = none := fun a ha => by
    cases e : s₂.heap.get? a with
    | none => rfl
    | some o' => exact absurd (Heap.lt_size e) (Nat.not_lt.mpr ha)
  have fresh₀ : ∀ a, s₂.heap.objs.size ≤ a → h₀.get? a = none := fun a ha => by
    cases e : h₀.get? a with
    | none => rfl
    | some o' => have := F.keep a o' e; rw [fresh a ha] at this; cases this
  have hD₀ : h₀.get? s₂.heap.objs.size = none := fresh₀ _ (Nat.le_refl _)
  have hC₀ : h₀.get? H2.objs.size = none := fresh₀ _ (by rw [hC]; exact Nat.le_succ _)
  have hLlt : L < s₂.heap.objs.size := F.ns.lt
  have hDL : s₂.heap.objs.size ≠ L := Ne.symm (below L hLlt).2
  have hCL : H2.objs.size ≠ L := Ne.symm (below L hLlt).1
  have hzlt := (hnew z (.head _)).1
  have hCI : z ≠ H2.objs.size := (below z hzlt).1
  have hDI : z ≠ s₂.heap.objs.size := (below z hzlt).2
  have hLwr : L ∉ wr := fun hm => (hnew _ (hwr _ hm)).2.2.1 rfl
  have h₀wr : ∀ b ∈ wr, h₀.get? b = none := fun b hm => (hnew _ (hwr _ hm)).2.1
  have hnwr : ∀ p ∈ news, p.1 ∉ wr := fun p hp hm => (hnew _ (hwr _ hm)).2.2.2 p hp rfl
  have hoff3 : ∀ own : List (Addr × Obj), own.map (·.1) = ad → LCg.Off3 z H2.objs.size s₂.heap.objs.size (own ++ news) := fun own ho => LCg.Off3.of fun p hp => by
    rcases List.mem_append.mp hp with hp | hp
    · have hpa : p.1 ∈ ad := ho ▸ List.mem_map_of_mem hp
      have hb := below p.1 (hnew _ (.tail _ hpa)).1
      exact ⟨fun q => hza (q ▸ hpa), hb.1, hb.2⟩
    · have hb := below p.1 (hNlt p hp)
      exact ⟨(hnew z (.head _)).2.2.2 p hp, hb.1, hb.2⟩
  have loop : ∀ s₃ : Shared, s₃ = { s₂ with heap := h₁, toks := s₂.toks + ([] : List (Str × Value)).length } →
      codeAny (model prog w) A (.compLoop (.ListComp elt [⟨.Tuple [.Name x px, .Name x₂ px₂] tk tp, iter, [], 0⟩] scope pos) 0 (.ref z) (.ref s₂.heap.objs.size) (compEnvC scope cl H2.objs.size env))
        (RR (.ref s₂.heap.objs.size) H2.objs.size) s₃ := by
    rintro s₃ rfl
    refine LCp.codeAny_compLoop_pair
      (fun k s' => ∃ h' tk i ys m', s' = { s₂ with heap := h', toks := tk } ∧ i ≤ n ∧ k = n + 1 - i ∧ ys.length = i ∧ St i h' ∧ Fr h₀ L h' m ∧ h'.Ns H2.objs.size m' ∧ News h₀ L h' ((s₂.heap.objs.size, LCg.lst ys) :: news) ∧ J i ys) ?_ (n + 1)
      ⟨h₁, _, 0, [], _, rfl, Nat.zero_le _, rfl, rfl, hst₁, F.keeps old, hns₁, fun p hp => ?_, hJ⟩
    · rintro k s' ⟨h', tk, i, ys, m', rfl, hi, rfl, hyl, hst', F', hn', N', hJ'⟩
      have hN'wr : ∀ p ∈ (s₂.heap.objs.size, LCg.lst ys) :: news, p.1 ∉ wr := fun p hp => by
        rcases List.mem_cons.mp hp with rfl | hp
        · exact hDwr
        · exact hnwr p hp
      by_cases hlt : i < n
      · refine W.item i _ _ _ hlt hst' fun T vals h₂ tk₂ hPv hT hMid hk₂ => ?_
        obtain ⟨a, b, rfl, hP⟩ := hPt i _ hPv
        refine W.go _ _ _ i T _ _ _ hMid fun h₃ hst₃ hk₃ => ?_
        have hT₃ : IsTup h₃ T #[a, b] := hT.at fun o e => hk₃ T o (W.apart i T _ hMid) e
        have N₃ := news_wr (news_wr N' hk₂ hN'wr) hk₃ hN'wr
        have F₃ := fr_wr (fr_wr F' hk₂ hLwr h₀wr) hk₃ hLwr h₀wr
        have hn₃ := (hn'.at' fun o e => hk₂ _ o hCwr e).at' fun o e => hk₃ _ o hCwr e
        refine assign_Tuple_tuple hh hT₃ rfl rfl fun h₅ he => ?_
        have he' : ∀ b o, h₃.get? b = some o → h₅.get? b = some o := fun b o e => he b o (Nat.ne_of_lt (Heap.lt_size e)) e
        refine assignInOrder_cons (wpAny_assign_Name (wpAny_storeName_local (lookup_relabel_local hx) (hn₃.at' fun o e => he' _ o e) (fun h₆ hn₆ hs₆ => ?_) (by simp [compEnvC, relabel, hkind])))
        refine assignInOrder_cons (wpAny_assign_Name (wpAny_storeName_local (lookup_relabel_local hx₂) hn₆ (fun h₇ hn₇ hs₇ => ?_) (by simp [compEnvC, relabel, hkind])))
        refine assignInOrder_nil ?_
        have old7 : ∀ b o, b ≠ H2.objs.size → h₃.get? b = some o → h₇.get? b = some o := fun b o hb e => hs₇.extBut b o hb (hs₆.extBut b o hb (he' b o e))
        have hst₇ : St (i + 1) h₇ := W.frame _ _ _ hst₃ fun b hb o e => old7 b o (fun q => hCf (by have q' : b = H2.objs.size := q; rw [← q']; exact hb)) e
        obtain ⟨oz, own, heI, hown, hog⟩ := hobj _ _ hst₇
        obtain ⟨oC, heC, hoC⟩ := LCg.ns_obj hn₇
        have F₇ : Fr h₀ L h₇ m := ((F₃.keeps he').change hs₆ hCL hC₀).change hs₇ hCL hC₀
        have N₇ : News h₀ L h₇ ((z, oz) :: (H2.objs.size, oC) :: (s₂.heap.objs.size, LCg.lst ys) :: (own ++ news)) := fun p hp => by
          rcases List.mem_cons.mp hp with rfl | hp
          · exact ⟨heI, (hnew z (.head _)).2.2.1, (hnew z (.head _)).2.1⟩
          · rcases List.mem_cons.mp hp with rfl | hp
            · exact ⟨heC, hCL, hC₀⟩
            · rcases List.mem_cons.mp hp with rfl | hp
              · have q := N₃ _ (List.mem_cons_self)
                exact ⟨old7 _ _ hDC q.1, q.2⟩
              · rcases List.mem_append.mp hp with hp | hp
                · have hpa : p.1 ∈ ad := hown ▸ List.mem_map_of_mem hp
                  exact ⟨hog p hp, (hnew _ (.tail _ hpa)).2.2.1, (hnew _ (.tail _ hpa)).2.1⟩
                · have q := N₃ p (List.mem_cons_of_mem _ hp)
                  exact ⟨old7 _ _ (below p.1 (hNlt p hp)).1 q.1, q.2⟩
        refine wpAny_mono (turn i a b own oz H2.objs.size oC s₂.heap.objs.size _ ys h₇ _ _ hlt hP hJ' hyl hown hoC (by simp [hxx]) (by simp) F₇ N₇ (hoff3 own hown) ⟨hCI, hDI, Ne.symm hDC⟩) (fun y s₄ h₄ => ?_) fun _ _ e => e
        obtain ⟨h₄, tk₄, news₄, rfl, F₄, N₄, off₄, _, rfl, hJ₄⟩ := h₄
        have zI := (N₄ (z, oz) List.mem_cons_self).1
        have zC := (N₄ (H2.objs.size, oC) (List.mem_cons_of_mem _ List.mem_cons_self)).1
        have zD := (N₄ (s₂.heap.objs.size, LCg.lst ys) (List.mem_cons_of_mem _ (List.mem_cons_of_mem _ List.mem_cons_self))).1
        have N₄' : News h₀ L h₄ (own ++ news) := fun p hp => N₄ p (List.mem_cons_of_mem _ (List.mem_cons_of_mem _ (List.mem_cons_of_mem _ hp)))
        have hst₄ : St (i + 1) h₄ := W.frame _ _ _ hst₇ fun b hb o e => by
          rcases hfp b hb with hb' | ⟨o', ho'⟩
          · rcases List.mem_cons.mp hb' with rfl | hb'
            · rw [heI] at e
              cases e
              exact zI
            · rw [← hown] at hb'
              obtain ⟨q, hq, rfl⟩ := List.mem_map.mp hb'
              rw [hog q hq] at e
              cases e
              exact (N₄' q (List.mem_append_left _ hq)).1
          · have q7 := (N₇ _ (List.mem_cons_of_mem _ (List.mem_cons_of_mem _ (List.mem_cons_of_mem _ (List.mem_append_right own ho'))))).1
            rw [q7] at e
            cases e
            exact (N₄' _ (List.mem_append_right own ho')).1
        refine append_at (hsz := by show ys.toArray.size ≤ sizeLine; rw [List.size_toArray, hyl]; exact Nat.le_trans hi hsz) zD fun h₈ hs₈ hD₈ => ?_
        refine ⟨n + 1 - (i + 1), by omega, h₈, tk₄, i + 1, ys ++ [y], _, rfl, hlt, rfl, by rw [List.length_append, List.length_singleton, hyl], W.frame _ _ _ hst₄ fun b hb o e => hs₈.extBut b o (fun q => hDf (q ▸ hb)) e, F₄.change hs₈ hDL hD₀,
          (hoC.ns zC).sameBut hs₈ (Ne.symm hDC), fun p hp => ?_, hJ₄⟩
        rcases List.mem_cons.mp hp with rfl | hp
        · exact ⟨hD₈.trans (congrArg some (LCg.lst_snoc ys y)), hDL, hD₀⟩
        · exact ⟨hs₈.extBut _ _ (below p.1 (hNlt p hp)).2 (N₄' p (List.mem_append_right own hp)).1, (N₄' p (List.mem_append_right own hp)).2⟩
      · obtain rfl : i = n := Nat.le_antisymm hi (Nat.not_lt.mp hlt)
        refine W.done _ _ _ hst' fun h₂ tk₂ hk₂ => ?_
        exact hRR _ _ h₂ tk₂ _ ys (fr_wr F' hk₂ hLwr h₀wr) (news_wr N' hk₂ hN'wr) (LCg.Off3.one (I := z) (C := H2.objs.size) (LCg.Off3.of fun p hp => ⟨(hnew z (.head _)).2.2.2 p hp, (below p.1 (hNlt p hp)).1, (below p.1 (hNlt p hp)).2⟩)) (hn'.at' fun o e => hk₂ _ o hCwr e) hC₀ hD₀ hCL hDL (Ne.symm hDC) (fun p hp => (below p.1 (hNlt p hp)).1) hJ'
    · rcases List.mem_cons.mp hp with rfl | hp
      · exact ⟨hacc, hDL, hD₀⟩
      · exact ⟨old _ _ (N p hp).1, (N p hp).2⟩
  exact codeAny_compStart_list (loop _ rfl) (W.self 0 _ _ _ hst₁ (loop _ rfl))

def ZipTurn (prog : Program) (w : World) (A : Around) (h₀ : Heap) (L : Addr) (m : Str → Option Value) (env : Env) (elt : Expr) (x x₂ : Str) (scope : Scope) (cl : List (Str × Addr)) (s₁ : Shared) (vs us : List Value) (news : List (Addr × Obj)) (J : Nat → List Value → Prop) : Prop :=
  ∀ i a b z oz TI oTI TO oTO i1 oi1 i2 oi2 C oC D m₂ ys h tk (E' : Value → Shared → Prop), vs[i]? = some a → us[i]? = some b → J i ys → LCg.NsObj oC m₂ → m₂ x = some a → m₂ x₂ = some b → Fr h₀ L h m → News h₀ L h ((z, oz) :: (C, oC) :: (D, LCg.lst ys) :: (TI, oTI) :: (TO, oTO) :: (i1, oi1) :: (i2, oi2) :: news) → LCg.Off3 z C D ((TI, oTI) :: (TO, oTO) :: (i1, oi1) :: (i2, oi2) :: news) → ((@Ne Nat z C) ∧ (@Ne Nat z D) ∧ (@Ne Nat C D)) →
    wpAny (model prog w) A (eval elt (compEnvC scope cl C env)) (LCg.CompEnd h₀ L m { s₁ with heap := h, toks := tk } z oz C oC D (LCg.lst ys) (fun _ => True) (fun y news' => news' = (TI, oTI) :: (TO, oTO) :: (i1, oi1) :: (i2, oi2) :: news ∧ J (i + 1) (ys ++ [y]))) E' { s₁ with heap := h, toks := tk }

def ZipAt (prog : Program) (w : World) (A : Around) (h₀ : Heap) (L : Addr) (m : Str → Option Value) (env : Env) (elt : Expr) (x x₂ : Str) (scope : Scope) (cl : List (Str × Addr)) (Q : Value → Shared → Prop) (xv : Value) (s₁ : Shared) : Prop :=
  ∃ (l1 l2 : Addr) (vs us : List Value) (n1 n2 : Nat) (news : List (Addr × Obj)) (J : Nat → List Value → Prop) (s : Shared), Fr h₀ L s.heap m ∧ News h₀ L s.heap news ∧ (l1, listOf vs.toArray n1) ∈ news ∧ (l2, listOf us.toArray n2) ∈ news ∧ A.handled = none ∧ min vs.length us.length ≤ sizeLine ∧ J 0 [] ∧
    (∃ h', s₁ = { s with heap := h' } ∧ xv = .ref (s.heap.objs.size + 4) ∧ IsZip h' (s.heap.objs.size + 4) (s.heap.objs.size + 2) (s.heap.objs.size + 3) .none ∧ IsPair h' (s.heap.objs.size + 2) (.ref s.heap.objs.size) (.ref (s.heap.objs.size + 1)) ∧
      IsPair h' (s.heap.objs.size + 3) .none .none ∧ h'.IsListIter s.heap.objs.size l1 0 ∧ h'.IsListIter (s.heap.objs.size + 1) l2 0 ∧ h'.objs.size = s.heap.objs.size + 5 ∧ (∀ c o, s.heap.get? c = some o → h'.get? c = some o)) ∧
    ZipTurn prog w A h₀ L m env elt x x₂ scope cl s vs us news J ∧
    (∀ D h tk ys, Fr h₀ L h m → News h₀ L h ((D, LCg.lst ys) :: news) → LCg.Off1 D news → J (min vs.length us.length) ys → Q (.ref D) { s with heap := h, toks := tk })

theorem zip_src {elt : Expr} {x x₂ : Str} {scope : Scope} {cl : List (Str × Addr)} {Q : Value → Shared → Prop} {l1 l2 : Addr} {vs us : List Value} {n1 n2 : Nat} {news : List (Addr × Obj)} (J : Nat → List Value → Prop) (hh : A.handled = none) (F : Fr h₀ L s.heap m) (N : News h₀ L s.heap news)
    (hm1 : (l1, listOf vs.toArray n1) ∈ news) (hm2 : (l2, listOf us.toArray n2) ∈ news) (hsz : min vs.length us.length ≤ sizeLine) (hJ : J 0 []) (turn : ZipTurn prog w A h₀ L m env elt x x₂ scope cl s vs us news J)
    (fin : ∀ D h tk ys, Fr h₀ L h m → News h₀ L h ((D, LCg.lst ys) :: news) → LCg.Off1 D news → J (min vs.length us.length) ys → Q (.ref D) { s with heap := h, toks := tk }) :
    wpAny (model prog w) A (call (.type "zip") [.ref l1, .ref l2]) (ZipAt prog w A h₀ L m env elt x x₂ scope cl Q) E s :=
  call_zip_2 ⟨_, (N _ hm1).1, rfl, _, rfl⟩ ⟨_, (N _ hm2).1, rfl, _, rfl⟩ fun h' a1 a2 a3 a4 a5 a6 a7 =>
    ⟨l1, l2, vs, us, n1, n2, news, J, s, F, N, hm1, hm2, hh, hsz, hJ, ⟨h', rfl, rfl, a1, a2, a3, a4, a5, a6, a7⟩, turn, fin⟩

theorem list4 {α : Type} {f : α → Addr} {l : List α} {a b c d : Addr} (h : l.map f = [a, b, c, d]) : ∃ p q r t, l = [p, q, r, t] ∧ f p = a ∧ f q = b ∧ f r = c ∧ f t = d := by
  match l, h with
  | [p, q, r, t], h =>
    simp only [List.map_cons, List.map_nil, List.cons.injEq, and_true] at h
    exact ⟨p, q, r, t, rfl, h.1, h.2.1, h.2.2.1, h.2.2.2⟩

theorem ListComp_zip {elt iter : Expr} {x x₂ : Str} {px px₂ tp : Pos} {tk : Nat} {scope : Scope} {cl : List (Str × Addr)} {pos : Pos} {Q : Value → Shared → Prop} (_F₀ : Fr h₀ L s.heap m)
    (hclos : closureFor scope env = pure cl) (hcell : ∀ y ∈ scope.names, y.2 ≠ .cell) (hkind : scope.kind = .function)
    (hnames : ∀ y ∈ scope.names, y.2 = .local → scope.names.lookup y.1 = some .local) (hx : scope.names.lookup x = some .local) (hx₂ : scope.names.lookup x₂ = some .local) (hxx : x ≠ x₂)
    (h : wpAny (model prog w) A (eval iter env) (ZipAt prog w A h₀ L m env elt x x₂ scope cl Q) E s)
    (hs : ∀ x, foldedSetIterable iter env x = pure x := by intro _; rfl) :
    wpAny (model prog w) A (eval (.ListComp elt [⟨.Tuple [.Name x px, .Name x₂ px₂] tk tp, iter, [], 0⟩] scope pos) env) Q E s := by
  rw [eval_ListComp]
  refine wpAny_comprehension_free (use := none) rfl hs hclos hkind hnames (wpAny_mono h (fun xv s₁ h₁ => ?_) fun _ _ e => e)
  obtain ⟨l1, l2, vs, us, n1, n2, news, J, s₀, F, N, hm1, hm2, hh, hsz, hJ, ⟨h', rfl, rfl, hz, hTI, hTO, hi1, hi2, hsize, hk⟩, turn, fin⟩ := h₁
  have hlt1 : l1 < s₀.heap.objs.size := Heap.lt_size (N _ hm1).1
  have hlt2 : l2 < s₀.heap.objs.size := Heap.lt_size (N _ hm2).1
  have hLs : L < s₀.heap.objs.size := F.ns.lt
  have D : ZipApart (s₀.heap.objs.size + 4) (s₀.heap.objs.size + 2) (s₀.heap.objs.size + 3) s₀.heap.objs.size (s₀.heap.objs.size + 1) l1 l2 := ktu_apart _ _ _ hlt1 hlt2
  have hl1 : s₀.heap.IsList l1 vs.toArray := ⟨_, (N _ hm1).1, rfl, _, rfl⟩
  have hl2 : s₀.heap.IsList l2 us.toArray := ⟨_, (N _ hm2).1, rfl, _, rfl⟩
  refine wpAny_pyIter_zip hz ?_
  have W := (WalksT.zip2 (prog := prog) (w := w) hh _ _ _ _ _ _ _ D vs.toArray us.toArray).toU
  have hmin : min vs.toArray.size us.toArray.size = min vs.length us.length := by simp
  rw [hmin] at W
  have hB : ∀ b o, s₀.heap.get? b = some o → b < s₀.heap.objs.size := fun b o e => Heap.lt_size e
  generalize s₀.heap.objs.size = B at *
  refine block_Z (P := fun i a b => vs[i]? = some a ∧ us[i]? = some b) (ad := [B + 2, B + 3, B, B + 1]) (news := news) J W hsz ?_ ?_ ?_ ?_ ?_ ?_ hcell hkind hx hx₂ hxx hh ?_ (F.keeps hk) (N.grown hk) hJ ?_ ?_
  · rintro i vals ⟨a, b, ha, hb, rfl⟩
    exact ⟨a, b, rfl, by simpa using ha, by simpa using hb⟩
  · rintro i h ⟨hz, hTI, ⟨a, b, hTO⟩, ⟨o1, ho1, _⟩, ⟨o2, ho2, _⟩, _⟩
    have e1 : ∃ o : Obj, h.get? (B + 4) = some o := ⟨_, hz⟩
    have e2 : ∃ o : Obj, h.get? (B + 2) = some o := ⟨_, hTI⟩
    have e3 : ∃ o : Obj, h.get? (B + 3) = some o := ⟨_, hTO⟩
    obtain ⟨q1, g1⟩ := e1
    obtain ⟨q2, g2⟩ := e2
    obtain ⟨q3, g3⟩ := e3
    refine ⟨q1, [(B + 2, q2), (B + 3, q3), (B, o1), (B + 1, o2)], g1, rfl, fun p hp => ?_⟩
    rcases List.mem_cons.mp hp with rfl | hp
    · exact g2
    rcases List.mem_cons.mp hp with rfl | hp
    · exact g3
    rcases List.mem_cons.mp hp with rfl | hp
    · exact ho1
    rw [List.mem_singleton.mp hp]
    exact ho2
  · intro b hb
    have hb' : b = B + 4 ∨ b = B + 2 ∨ b = B + 3 ∨ b = B ∨ b = B + 1 ∨ b = l1 ∨ b = l2 := by simpa using hb
    rcases hb' with rfl | rfl | rfl | rfl | rfl | rfl | rfl
    · exact .inl (by simp)
    · exact .inl (by simp)
    · exact .inl (by simp)
    · exact .inl (by simp)
    · exact .inl (by simp)
    · exact .inr ⟨_, hm1⟩
    · exact .inr ⟨_, hm2⟩
  · intro b hb
    have hb' : b = B + 4 ∨ b = B + 3 ∨ b = B ∨ b = B + 1 := by simpa using hb
    rcases hb' with rfl | rfl | rfl | rfl <;> simp
  · have key : ∀ b, B ≤ b → b < B + 5 → b < h'.objs.size ∧ h₀.get? b = none ∧ b ≠ L ∧ ∀ p ∈ news, p.1 ≠ b := fun b h1 h2 => by
      refine ⟨hsize ▸ h2, ?_, fun e => absurd hLs (Nat.not_lt.mpr (e ▸ h1)), fun p hp e => absurd (hB _ _ (N p hp).1) (Nat.not_lt.mpr (e ▸ h1))⟩
      cases e : h₀.get? b with
      | none => rfl
      | some o => exact absurd (hB _ _ (F.keep _ _ e)) (Nat.not_lt.mpr h1)
    intro b hb
    have hb' : b = B + 4 ∨ b = B + 2 ∨ b = B + 3 ∨ b = B ∨ b = B + 1 := by simpa using hb
    rcases hb' with e | e | e | e | e <;> rw [e] <;> exact key _ (by show @LE.le Nat _ _ _; omega) (by show @LT.lt Nat _ _ _; omega)
  · intro hm
    have hb' : B + 4 = B + 2 ∨ B + 4 = B + 3 ∨ B + 4 = B ∨ B + 4 = B + 1 := by simpa using hm
    have : ∀ B : Nat, ¬ (B + 4 = B + 2 ∨ B + 4 = B + 3 ∨ B + 4 = B ∨ B + 4 = B + 1) := fun B => by omega
    exact this B hb'
  · exact ⟨hz, hTI, ⟨_, _, hTO⟩, hi1, hi2, hl1.at fun o e => hk _ o e, hl2.at fun o e => hk _ o e⟩
  · rintro i a b own oz C oC D m₂ ys h tk E' hi ⟨ha, hb⟩ hj hyl hown hC h1 h2 F1 N1 off ne
    obtain ⟨⟨TI, oTI⟩, ⟨TO, oTO⟩, ⟨i1, oi1⟩, ⟨i2, oi2⟩, rfl, _⟩ := list4 hown
    exact turn i a b _ oz TI oTI TO oTO i1 oi1 i2 oi2 C oC D m₂ ys h tk E' ha hb hj hC h1 h2 F1 N1 off ne
  · intro D C h tk m' ys F1 N1 o1 hn hC₀ hD₀ hCL hDL hCD offC hj
    refine ⟨m', hn, fun h'' hs'' => fin D h'' tk ys (F1.change hs'' hCL hC₀) (fun p hp => ?_) o1 hj⟩
    refine ⟨hs''.extBut _ _ ?_ (N1 p hp).1, (N1 p hp).2⟩
    rcases List.mem_cons.mp hp with rfl | hp
    · exact Ne.symm hCD
    · exact offC p hp
end
end

section

theorem slot_join : Slot "bytes" "join" "bytes.join" :=
  .of (owner := "bytes") (n := "join") (by rw [typeLookup_type, builtinLookup_eq_fast]; kernel_rfl) (by decide +kernel) (by decide +kernel) (by decide +kernel)
    (by first | exact .inl (by decide +kernel) | exact .inr (by decide +kernel)) (by rw [isSubtype_type]; kernel_rfl)
theorem type_join : typeOf (.builtin "bytes.join") = pure (.type "method_descriptor") := by show builtinType _ = _; rw [builtinType_eq_fast]; kernel_rfl
theorem entry_join : entryFor table "bytes.join" = some Builtin.«bytes.join» := entryFor_of_tree (by kernel_rfl)
theorem args_join (a b : Value) : argsOk "bytes.join" ⟨[a, b], []⟩ := by
  unfold argsOk; kernel_rfl
theorem method_join {M : Model} {A : Around} {E : Value → Shared → Prop} {s : Shared} {b : Array UInt8} {t : Tok} {pl : Sem Bool} {Q : Value × List Value → Shared → Prop} (h : Q (.builtin "bytes.join", [.bytes b t]) s) : wpAny M A (getMethod (.bytes b t) "join" pl) Q E s :=
  KBd.method_of (.bytes b t) (typeIs_bytes _ _ _) slot_join type_join KBd.noRef h
end

section

open PySem.Builtin PySem.Builtin.Bytes
theorem sp_bytes (b : Array UInt8) (t : Tok) : specialOf (.bytes b t) "__buffer__" = pure (some (.builtin "bytes.__buffer__")) := by
  show typeLookup (.type "bytes") "__buffer__" = _
  rw [typeLookup_type, builtinLookup_eq_fast]
  kernel_rfl
theorem own_bytes (b : Array UInt8) (t : Tok) : slotIsOwn (.bytes b t) "__buffer__" = pure true := by kernel_rfl
theorem rel_bytes (b : Array UInt8) (t : Tok) : ownRelease (.bytes b t) = pure false := by kernel_rfl
theorem take_bytes (id : String) (b : Array UInt8) (t : Tok) : takeBuffer? id (.bytes b t) 0 = pure (some (b, none)) := by kernel_rfl
theorem quiet_bytes {prog : Program} {w : World} {hp : Heap} (id : String) (b : Array UInt8) (t : Tok) : Looks (model prog w) hp (takeBufferQuiet? id (.bytes b t) 0) (some (b, none)) := by
  intro A Q E s k q
  unfold takeBufferQuiet?
  rw [take_bytes]
  exact wpAny_bind (wpAny_attempt (wpAny_pure (wpAny_pure q)))

theorem forIn_inv {M : Model} {A : Around} {E : Value → Shared → Prop} {s : Shared} {β : Type} {f : Nat → β → Sem (ForInStep β)} {Q : β → Shared → Prop} (n : Nat) (st : Nat → β)
    (h : ∀ i, i < n → ∀ R : ForInStep β → Shared → Prop, R (.yield (st (i + 1))) s → wpAny M A (f i (st i)) R E s) (q : Q (st n) s) : wpAny M A (forIn (List.range' 0 n 1) (st 0) f) Q E s := by
  have key : ∀ (k i : Nat), i + k = n → wpAny M A (forIn (List.range' i k 1) (st i) f) Q E s := by
    intro k
    induction k with
    | zero =>
      intro i hi
      obtain rfl : i = n := by omega
      rw [List.range'_zero, List.forIn_nil]
      exact wpAny_pure q
    | succ k ih =>
      intro i hi
      rw [List.range'_succ, List.forIn_cons]
      exact wpAny_bind (h i (by omega) _ (ih (i + 1) (by omega)))
  exact key n 0 (by omega)

theorem joined_eq : ∀ (l : List (Array UInt8)) (k : Nat) (a : Array UInt8), (l.zipIdx k).foldl (fun out (x : Array UInt8 × Nat) => (if x.2 > 0 then out ++ (#[] : Array UInt8) else out) ++ x.1) a = l.foldl (· ++ ·) a
  | [], _, _ => rfl
  | b :: l, k, a => by
    rw [List.zipIdx_cons, List.foldl_cons, List.foldl_cons, joined_eq l]
    congr 1
    split <;> simp
theorem joined_fold (l : List (Array UInt8)) : joined #[] l = l.foldl (· ++ ·) #[] := joined_eq l 0 #[]
theorem joined_size (l : List (Array UInt8)) : (joined #[] l).size = (l.map (·.size)).sum := by
  rw [joined_fold]
  have : ∀ (l : List (Array UInt8)) (a : Array UInt8), (l.foldl (· ++ ·) a).size = a.size + (l.map (·.size)).sum := by
    intro l
    induction l with
    | nil => intro a; simp
    | cons b l ih => intro a; rw [List.foldl_cons, ih, List.map_cons, List.sum_cons, Array.size_append]; omega
  rw [this]; simp
theorem join_letgo {M : Model} {A : Around} {E : Value → Shared → Prop} {s : Shared} {Q : Unit → Shared → Prop} {α : Type} {f : α → Value} {keep : List Value} : ∀ {l : List α}, Q () s → wpAny M A (joinLetGo (l.map fun x => (f x, none)) keep) Q E s
  | [], q => wpAny_pure q
  | x :: l, q => by
    rw [List.map_cons]
    show wpAny M A (letGo [f x] _ >>= fun _ => joinLetGo (l.map fun x => (f x, none)) keep) Q E s
    exact wpAny_bind (wpAny_bind (wpAny_holding (wpAny_point (wpAny_pure (join_letgo q)))))
theorem join_many {prog : Program} {w : World} {A : Around} {E : Value → Shared → Prop} {s : Shared} {D : Addr} {n : Nat} {t : Tok} {p q : Array UInt8 × Tok} {r : List (Array UInt8 × Tok)} {Q : Value → Shared → Prop} (hD : s.heap.get? D = some (listOf ((p :: q :: r).map fun x => Value.bytes x.1 x.2).toArray n))
    (hz : ((p :: q :: r).map (·.1.size)).sum ≤ 1000)
    (h : ∀ t' tk, Q (.bytes (joined #[] ((p :: q :: r).map (·.1))) t') { s with toks := tk }) : wpAny (model prog w) A (call (.builtin "bytes.join") [.bytes #[] t, .ref D]) Q E s := by
  obtain ⟨hp, g, d, tk, os⟩ := s
  dsimp only at hD
  refine wpAny_call ?_
  refine codeAny_call_builtin slot_join.plain entry_join (slot_join.check _ _ _ _ _ _ _ _ (typeIs_bytes _ _ _) (args_join _ _) ?_)
  have L0 : Looks (model prog w) hp (typeOf (.ref D)) (.type "list") := (Looks.ld hD).andThen .now
  have L1 : Looks (model prog w) hp (seqItems? (.ref D)) (some ((p :: q :: r).map fun x => Value.bytes x.1 x.2).toArray) := (Looks.ld hD).andThen .now
  unfold Builtin.«bytes.join» joinM
  iterate 22 lk
  refine wpAny_bind ?_
  rw [Std.Legacy.Range.forIn_eq_forIn_range']
  have e : ([:((p :: q :: r).map fun x => Value.bytes x.1 x.2).toArray.size] : Std.Legacy.Range).size = (p :: q :: r).length := by simp [Std.Legacy.Range.size]
  rw [e]
  refine forIn_inv (p :: q :: r).length (fun i => ((((p :: q :: r).take i).map (·.1)).toArray, ((p :: q :: r).take i).map fun x => (Value.bytes x.1 x.2, none))) ?_ ?_
  · intro i hi R hR
    obtain ⟨x, hx⟩ : ∃ x, (p :: q :: r)[i]? = some x := ⟨_, List.getElem?_eq_getElem hi⟩
    have hget : ((p :: q :: r).map fun x => Value.bytes x.1 x.2).toArray.getD i .none = Value.bytes x.1 x.2 := by
      rw [Array.getD_eq_getD_getElem?, List.getElem?_toArray, List.getElem?_map, hx]
      rfl
    have hany : (((p :: q :: r).take i).map fun x => ((Value.bytes x.1 x.2, none) : Value × Option Value)).any (fun y => y.1.onHeap) = false := by
      rw [List.any_eq_false]
      intro y hy
      obtain ⟨z, _, rfl⟩ := List.mem_map.mp hy
      simp [Value.onHeap]
    dsimp only
    refine wpAny_bind (L1.at ?_)
    dsimp only
    rw [hget, hany]
    have h1 : (((p :: q :: r).take (i + 1)).map (·.1)).toArray = (((p :: q :: r).take i).map (·.1)).toArray.push x.1 := by
      rw [List.take_add_one, hx]; simp
    have h2 : (((p :: q :: r).take (i + 1)).map fun x => ((Value.bytes x.1 x.2, none) : Value × Option Value)) = (((p :: q :: r).take i).map fun x => ((Value.bytes x.1 x.2, none) : Value × Option Value)) ++ [(Value.bytes x.1 x.2, none)] := by
      rw [List.take_add_one, hx]; simp
    rw [h1, h2] at hR
    rw [if_neg (by decide)]
    refine wpAny_bind (wpAny_holding ((quiet_bytes _ _ _).at ?_))
    refine wpAny_bind (L1.at ?_)
    dsimp only
    rw [if_neg (by simp)]
    exact wpAny_pure hR
  · rw [List.take_length]
    refine wpAny_bind (wpAny_pure (a := (#[] : Array UInt8)) ?_)
    have ht : tooLong (Array.foldl (fun x1 x2 => x1 + x2.size) ((#[] : Array UInt8).size * ((((p :: q :: r).map (·.1)).toArray).size - 1)) (((p :: q :: r).map (·.1)).toArray)) = false := by
      have hs : ∀ (l : List (Array UInt8)) (a : Nat), l.foldl (fun x1 x2 => x1 + x2.size) a = a + (l.map (·.size)).sum := by
        intro l
        induction l with
        | nil => intro a; simp
        | cons b l ih => intro a; rw [List.foldl_cons, ih, List.map_cons, List.sum_cons]; omega
      rw [← Array.foldl_toList, hs]
      unfold tooLong
      rw [List.map_map]
      have : (List.map ((fun x => x.size) ∘ fun x => x.1) (p :: q :: r)).sum ≤ 1000 := hz
      simp only [List.size_toArray, List.length_nil, Nat.zero_mul, Nat.zero_add, decide_eq_false_iff_not, Nat.not_lt, PySem.sizeLine_eq]
      omega
    rw [ht]
    rw [if_neg (by decide)]
    refine wpAny_bind (wpAny_mkBytes ?_ (by
      rw [joined_size, List.map_map]
      have : (List.map ((fun x => x.size) ∘ fun x => x.1) (p :: q :: r)).sum ≤ 1000 := hz
      rw [PySem.sizeLine_eq]
      omega))
    refine wpAny_bind (wpAny_holding (wpAny_point ?_))
    refine wpAny_bind (join_letgo ?_)
    exact wpAny_pure (h _ _)
end

section

open PySem.Builtin PySem.Builtin.Bytes
theorem join_one {prog : Program} {w : World} {A : Around} {E : Value → Shared → Prop} {s : Shared} {D : Addr} {n : Nat} {t tb : Tok} {b : Array UInt8} {Q : Value → Shared → Prop} (hD : s.heap.get? D = some (listOf #[Value.bytes b tb] n))
    (h : Q (.bytes b tb) s) : wpAny (model prog w) A (call (.builtin "bytes.join") [.bytes #[] t, .ref D]) Q E s := by
  obtain ⟨hp, g, d, tk, os⟩ := s
  dsimp only at hD
  refine wpAny_call ?_
  refine codeAny_call_builtin slot_join.plain entry_join (slot_join.check _ _ _ _ _ _ _ _ (typeIs_bytes _ _ _) (args_join _ _) ?_)
  have L0 : Looks (model prog w) hp (typeOf (.ref D)) (.type "list") := (Looks.ld hD).andThen .now
  have L1 : Looks (model prog w) hp (seqItems? (.ref D)) (some #[Value.bytes b tb]) := (Looks.ld hD).andThen .now
  unfold Builtin.«bytes.join» joinM
  repeat lk
  exact h
end

section

open PySem.Builtin PySem.Builtin.Bytes
theorem joined_ints (l : List (Array UInt8)) : KBw.bInts (joined #[] l) = (l.map KBw.bInts).flatten := by
  rw [joined_fold]
  have : ∀ (l : List (Array UInt8)) (a : Array UInt8), KBw.bInts (l.foldl (· ++ ·) a) = KBw.bInts a ++ (l.map KBw.bInts).flatten := by
    intro l
    induction l with
    | nil => intro a; simp
    | cons b l ih => intro a; rw [List.foldl_cons, ih, KBw.ints_app rfl rfl, List.map_cons, List.flatten_cons, List.append_assoc]
  rw [this]; rfl
def bv (x : Array UInt8 × Tok) : Value := .bytes x.1 x.2
theorem join_any {prog : Program} {w : World} {A : Around} {E : Value → Shared → Prop} {s : Shared} {D : Addr} {t : Tok} {prs : List (Array UInt8 × Tok)} {Q : Value → Shared → Prop} (hD : s.heap.get? D = some (LCg.lst (prs.map bv)))
    (hp : 1 ≤ prs.length) (hz : (prs.map (·.1.size)).sum ≤ 1000)
    (h : ∀ b t' tk, KBw.bInts b = (prs.map fun x => KBw.bInts x.1).flatten → Q (.bytes b t') { s with toks := tk }) : wpAny (model prog w) A (call (.builtin "bytes.join") [.bytes #[] t, .ref D]) Q E s := by
  match prs, hp with
  | [p], _ => exact join_one hD (h p.1 p.2 s.toks (by simp))
  | p :: q :: r, _ => exact join_many hD hz fun t' tk => h _ t' tk (by rw [joined_ints, List.map_map]; rfl)
end

section

section
variable {w : World} {A : Around} {s : Shared} {Q E : Value → Shared → Prop} {hb : Heap} {L : Addr} {m : Str → Option Value} {news : List (Addr × Obj)} {env : Env}
theorem keptF_led {h h' : Heap} (F : Fr hb L h m) (N : News hb L h news) (hf : env.frame = some L) (k : KeptF ([env].filterMap (·.frame)) h h') : Fr hb L h' m ∧ News hb L h' news := by
  have e : [env].filterMap (·.frame) = [L] := by simp [hf]
  rw [e] at k
  have hL : hb.get? L = none := Heap.get?_none_of_le F.above
  refine ⟨F.of_stays (KeptF.stays F.keep k fun b hm => by rw [List.mem_singleton.mp hm]; exact hL) k.upTo, fun p hp => ⟨?_, (N p hp).2⟩⟩
  exact (k _ _ (N p hp).1).1 (by rw [List.mem_singleton]; exact (N p hp).2.1)
theorem undone_led (F : Fr hb L s.heap m) (N : News hb L s.heap news) (hA : A.frames = some [env]) (hf : env.frame = some L) (hke : env.scope.kind ≠ .module) (b : Array UInt8) (ks : List Int) (tb : Tok) (x : Addr) (size : Nat) (step : Int)
    (hroom : A.depth + 10 < recursionLimit) (hh : A.handled = none) (hu : A.units + 80 < cLine) (G : G0 w hb)
    (hb' : KBw.bInts b = ks) (hS : IsShape s.heap x size step) (h1 : 1 ≤ size) (h2 : size ≤ 8) (h3 : 1 ≤ step) (h4 : ks.length ≤ 1000)
    (hQ : ∀ (r : Array UInt8) (t : Tok) (h' : Heap) (tk : Nat), Fr hb L h' m → News hb L h' news → undo size step ks.length 0 ks [] [] = .ok (KBw.bInts r) → Q (.bytes r t) { s with heap := h', toks := tk })
    (hE : ∀ (at' : Int) (t : Tok) (h' : Heap) (tk : Nat), Fr hb L h' m → News hb L h' news → undo size step ks.length 0 ks [] [] = .error at' → Q (.int at' t) { s with heap := h', toks := tk }) :
    wpAny (model PySem.Challenge.rw_qz0073_01.row.prog w) A (PySem.call (.ref 144) [.bytes b tb, .ref x]) Q E s := by
  have hL : hb.get? L = none := Heap.get?_none_of_le F.above
  refine law_undone_ok b ks tb x size step [env] hroom hh hu G ⟨hA, F.keep, Heap.FunFrames.cons hke hf F.ns hL trivial⟩ (Nat.le_trans F.above (Nat.le_of_lt F.ns.lt)) hb' hS h1 h2 h3 h4 ?_ ?_
  · intro r t h' tk k u
    obtain ⟨F', N'⟩ := keptF_led F N hf k
    exact hQ r t h' tk F' N' u
  · intro a t h' tk k u
    obtain ⟨F', N'⟩ := keptF_led F N hf k
    exact hE a t h' tk F' N' u
theorem undone_bytes (F : Fr hb L s.heap m) (N : News hb L s.heap news) (hA : A.frames = some [env]) (hf : env.frame = some L) (hke : env.scope.kind ≠ .module) {b : Array UInt8} {ks : List Int} (tb : Tok) (x : Addr) {size : Nat} {step : Int}
    (hroom : A.depth + 10 < recursionLimit) (hh : A.handled = none) (hu : A.units + 80 < cLine) (G : G0 w hb)
    (hb' : KBw.bInts b = ks) (hS : IsShape s.heap x size step) (h1 : 1 ≤ size) (h2 : size ≤ 8) (h3 : 1 ≤ step) (h4 : ks.length ≤ 1000) {res : List Int} (hres : undo size step ks.length 0 ks [] [] = .ok res)
    (hQ : ∀ (r : Array UInt8) (t : Tok) (h' : Heap) (tk : Nat), Fr hb L h' m → News hb L h' news → KBw.bInts r = res → Q (.bytes r t) { s with heap := h', toks := tk }) :
    wpAny (model PySem.Challenge.rw_qz0073_01.row.prog w) A (PySem.call (.ref 144) [.bytes b tb, .ref x]) Q E s :=
  undone_led F N hA hf hke b ks tb x size step hroom hh hu G hb' hS h1 h2 h3 h4 (fun r t h' tk F' N' u => hQ r t h' tk F' N' (by rw [hres] at u; exact (Except.ok.inj u).symm)) (fun a t h' tk F' N' u => by rw [hres] at u; cases u)
theorem undone_int (F : Fr hb L s.heap m) (N : News hb L s.heap news) (hA : A.frames = some [env]) (hf : env.frame = some L) (hke : env.scope.kind ≠ .module) {b : Array UInt8} {ks : List Int} (tb : Tok) (x : Addr) {size : Nat} {step : Int}
    (hroom : A.depth + 10 < recursionLimit) (hh : A.handled = none) (hu : A.units + 80 < cLine) (G : G0 w hb)
    (hb' : KBw.bInts b = ks) (hS : IsShape s.heap x size step) (h1 : 1 ≤ size) (h2 : size ≤ 8) (h3 : 1 ≤ step) (h4 : ks.length ≤ 1000) {res : Int} (hres : undo size step ks.length 0 ks [] [] = .error res)
    (hQ : ∀ (t : Tok) (h' : Heap) (tk : Nat), Fr hb L h' m → News hb L h' news → Q (.int res t) { s with heap := h', toks := tk }) :
    wpAny (model PySem.Challenge.rw_qz0073_01.row.prog w) A (PySem.call (.ref 144) [.bytes b tb, .ref x]) Q E s :=
  undone_led F N hA hf hke b ks tb x size step hroom hh hu G hb' hS h1 h2 h3 h4 (fun r t h' tk F' N' u => by rw [hres] at u; cases u) (fun a t h' tk F' N' u => by
    rw [hres] at u
    obtain rfl := Except.error.inj u
    exact hQ t h' tk F' N')
end
end

section

section
variable {size : Nat} {step : Int}
theorem undo_fuel : ∀ (n n' : Nat) (a : Int) (l f b : List Int), l.length ≤ n → l.length ≤ n' → undo size step n a l f b = undo size step n' a l f b
  | 0, 0, _, _, _, _, _, _ => rfl
  | 0, n' + 1, a, l, f, b, h, _ => by
    obtain rfl : l = [] := List.length_eq_zero_iff.mp (by omega)
    rfl
  | n + 1, 0, a, l, f, b, _, h => by
    obtain rfl : l = [] := List.length_eq_zero_iff.mp (by omega)
    rfl
  | n + 1, n' + 1, a, [], f, b, _, _ => rfl
  | n + 1, n' + 1, a, k :: l, f, b, h, h' => by
    rw [List.length_cons] at h h'
    unfold undo
    split
    · rfl
    · exact undo_fuel n n' _ _ _ _ (by rw [List.length_drop]; omega) (by rw [List.length_drop]; omega)
def undoT (size : Nat) (step a : Int) (l f b : List Int) : Except Int (List Int) := undo size step l.length a l f b
theorem undoT_nil {a : Int} {f b : List Int} : undoT size step a [] f b = .ok f := rfl
theorem undoT_bad {a k : Int} {l f b : List Int} (h : 4 < k) : undoT size step a (k :: l) f b = .error a := by
  unfold undoT
  rw [List.length_cons, undo, if_pos h]
theorem undoT_cons {a k : Int} {l f b : List Int} (h : k < 5) : undoT size step a (k :: l) f b = undoT size step (a + 1 + size) (l.drop size) (f ++ unrow step k b (l.take size)) (unrow step k b (l.take size)) := by
  unfold undoT
  rw [List.length_cons, undo, if_neg (by omega)]
  exact undo_fuel _ _ _ _ _ _ (by rw [List.length_drop]; omega) (Nat.le_refl _)

def flatE (ks : List Int) (rs : List (List Int)) : List Int := (List.zipWith List.cons ks rs).flatten
def dec (step : Int) : List Int → List Int → List (List Int) → List Int
  | b, k :: ks, r :: rs => unrow step k b r ++ dec step (unrow step k b r) ks rs
  | _, _, _ => []
def lastA (step : Int) : List Int → List Int → List (List Int) → List Int
  | b, k :: ks, r :: rs => lastA step (unrow step k b r) ks rs
  | b, _, _ => b
theorem flatE_cons {k : Int} {ks r : List Int} {rs : List (List Int)} : flatE (k :: ks) (r :: rs) = k :: (r ++ flatE ks rs) := by simp [flatE]
theorem undo_flat : ∀ (ks : List Int) (rs : List (List Int)) (a : Int) (tail f b : List Int), ks.length = rs.length → (∀ r ∈ rs, r.length = size) → (∀ k ∈ ks, 0 ≤ k ∧ k < 5) →
    undoT size step a (flatE ks rs ++ tail) f b = undoT size step (a + ((rs.length * (size + 1) : Nat) : Int)) tail (f ++ dec step b ks rs) (lastA step b ks rs)
  | [], [], a, tail, f, b, _, _, _ => by simp [flatE, dec, lastA]
  | k :: ks, r :: rs, a, tail, f, b, h, hr, hk => by
    have h1 := (hr r (.head _))
    have h2 := (hk k (.head _)).2
    rw [flatE_cons, List.cons_append, undoT_cons h2, List.append_assoc, List.take_left' h1, List.drop_left' h1,
      undo_flat ks rs _ tail _ _ (by simpa using h) (fun r' h' => hr r' (.tail _ h')) (fun k' h' => hk k' (.tail _ h'))]
    rw [dec, lastA, List.append_assoc]
    congr 1
    rw [List.length_cons]
    push_cast
    rw [Int.add_mul]
    omega
theorem dec_length : ∀ (ks : List Int) (rs : List (List Int)) (b : List Int), ks.length = rs.length → (∀ r ∈ rs, r.length = size) → (dec step b ks rs).length = rs.length * size
  | [], [], b, _, _ => by simp [dec]
  | k :: ks, r :: rs, b, h, hr => by
    rw [dec, List.length_append, dec_length ks rs _ (by simpa using h) (fun r' h' => hr r' (.tail _ h')), unrow_len, hr r (.head _), List.length_cons, Nat.add_mul]
    omega
theorem flatE_length : ∀ (ks : List Int) (rs : List (List Int)), ks.length = rs.length → (∀ r ∈ rs, r.length = size) → (flatE ks rs).length = rs.length * (size + 1)
  | [], [], _, _ => by simp [flatE]
  | k :: ks, r :: rs, h, hr => by
    rw [flatE_cons, List.length_cons, List.length_append, flatE_length ks rs (by simpa using h) (fun r' h' => hr r' (.tail _ h')), hr r (.head _), List.length_cons, Nat.add_mul]
    omega
theorem dec_in : ∀ (ks : List Int) (rs : List (List Int)) (b : List Int), KBa.In (dec step b ks rs)
  | [], _, b => by simp [dec, KBa.In]
  | k :: ks, [], b => by simp [dec, KBa.In]
  | k :: ks, r :: rs, b => by
    rw [dec]
    intro n hn
    rcases List.mem_append.mp hn with hn | hn
    · exact unrow_in _ [] (fun _ h => nomatch h) n hn
    · exact dec_in ks rs _ n hn

/-- what is undone of the whole -/
theorem law_whole {ks : List Int} {rs : List (List Int)} (h : ks.length = rs.length) (hr : ∀ r ∈ rs, r.length = size) (hk : ∀ k ∈ ks, 0 ≤ k ∧ k < 5) : undoT size step 0 (flatE ks rs) [] [] = .ok (dec step [] ks rs) := by
  have := undo_flat (step := step) ks rs 0 [] [] [] h hr hk
  rw [List.append_nil] at this
  rw [this, undoT_nil, List.nil_append]

theorem unrow_pre {k : Int} {b : List Int} : ∀ (enc row : List Int), ∃ t, enc.foldl (unStep step k b) row = row ++ t
  | [], row => ⟨[], by simp⟩
  | o :: enc, row => by
    obtain ⟨t, ht⟩ := unrow_pre enc (unStep step k b row o)
    rw [List.foldl_cons, ht]
    exact ⟨_, by rw [unStep, List.append_assoc]⟩
theorem unrow_take' {k : Int} {b : List Int} : ∀ (enc row : List Int) (j : Nat), (enc.take j).foldl (unStep step k b) row = (enc.foldl (unStep step k b) row).take (row.length + j)
  | [], row, j => by rw [List.take_nil, List.foldl_nil, List.take_of_length_le (by omega)]
  | o :: enc, row, 0 => by
    obtain ⟨t, ht⟩ := unrow_pre (step := step) (k := k) (b := b) (o :: enc) row
    rw [ht, List.take_zero, List.foldl_nil, Nat.add_zero, List.take_left]
  | o :: enc, row, j + 1 => by
    rw [List.take_succ_cons, List.foldl_cons, List.foldl_cons, unrow_take' enc _ j]
    congr 1
    simp [unStep]
    omega
theorem unrow_take {k : Int} {b : List Int} (enc : List Int) (j : Nat) : unrow step k b (enc.take j) = (unrow step k b enc).take j := by
  unfold unrow
  rw [unrow_take', List.length_nil, Nat.zero_add]

/-- the data cut at any place -/
theorem law_cut : ∀ (ks : List Int) (rs : List (List Int)) (a : Int) (f b : List Int) (c : Nat), ks.length = rs.length → (∀ r ∈ rs, r.length = size) → (∀ k ∈ ks, 0 ≤ k ∧ k < 5) →
    undoT size step a ((flatE ks rs).take c) f b = .ok (f ++ (dec step b ks rs).take (c / (size + 1) * size + (c % (size + 1) - 1)))
  | [], [], a, f, b, c, _, _, _ => by simp [flatE, dec, undoT_nil]
  | k :: ks, r :: rs, a, f, b, 0, _, _, _ => by simp [undoT_nil]
  | k :: ks, r :: rs, a, f, b, c + 1, h, hr, hk => by
    have h1 := (hr r (.head _))
    have h2 := (hk k (.head _)).2
    rw [flatE_cons, List.take_succ_cons, undoT_cons h2, dec]
    rcases Nat.lt_or_ge c (size + 1) with hc | hc
    · rcases Nat.lt_or_ge c size with hc' | hc'
      · have e1 : (c + 1) / (size + 1) = 0 := Nat.div_eq_of_lt (by omega)
        have e2 : (c + 1) % (size + 1) = c + 1 := Nat.mod_eq_of_lt (by omega)
        rw [e1, e2, List.take_append_of_le_length (by omega), List.take_append_of_le_length (by rw [unrow_len]; omega)]
        rw [List.take_of_length_le (l := r.take c) (by rw [List.length_take]; omega), List.drop_of_length_le (l := r.take c) (by rw [List.length_take]; omega), undoT_nil, unrow_take]
        simp
      · obtain rfl : c = size := by omega
        have e1 : (c + 1) / (c + 1) = 1 := Nat.div_self (by omega)
        have e2 : (c + 1) % (c + 1) = 0 := Nat.mod_self _
        rw [e1, e2, List.take_left' h1, List.take_of_length_le (by omega), List.drop_of_length_le (by omega), undoT_nil, List.take_left' (by rw [unrow_len, h1]; omega)]
    · obtain ⟨d, rfl⟩ : ∃ d, c = size + d := ⟨c - size, by omega⟩
      have e1 : (size + d + 1) / (size + 1) = d / (size + 1) + 1 := by rw [show size + d + 1 = d + (size + 1) by omega, Nat.add_div_right _ (by omega)]
      have e2 : (size + d + 1) % (size + 1) = d % (size + 1) := by rw [show size + d + 1 = d + (size + 1) by omega, Nat.add_mod_right]
      have e3 : (r ++ flatE ks rs).take (size + d) = r ++ (flatE ks rs).take d := by rw [← h1, List.take_length_add_append]
      rw [e1, e2, e3, List.take_left' h1, List.drop_left' h1, law_cut ks rs _ _ _ d (by simpa using h) (fun r' h' => hr r' (.tail _ h')) (fun k' h' => hk k' (.tail _ h'))]
      have e4 : (unrow step k b r ++ dec step (unrow step k b r) ks rs).take ((d / (size + 1) + 1) * size + (d % (size + 1) - 1)) = unrow step k b r ++ (dec step (unrow step k b r) ks rs).take (d / (size + 1) * size + (d % (size + 1) - 1)) := by
        rw [show (d / (size + 1) + 1) * size + (d % (size + 1) - 1) = (unrow step k b r).length + (d / (size + 1) * size + (d % (size + 1) - 1)) by rw [unrow_len, h1, Nat.add_mul]; omega, List.take_length_add_append]
      rw [e4, List.append_assoc]
end
end

section

section
variable {size : Nat} {step : Int}
theorem lastA_drop : ∀ (ks : List Int) (rs : List (List Int)) (b : List Int), 1 ≤ rs.length → ks.length = rs.length → (∀ r ∈ rs, r.length = size) → lastA step b ks rs = (dec step b ks rs).drop ((rs.length - 1) * size)
  | [], rs, b, h, h', _ => by
    rw [← h'] at h
    exact absurd h (by simp)
  | [k], [r], b, _, _, hr => by simp [lastA, dec]
  | k :: k' :: ks, r :: r' :: rs, b, _, h, hr => by
    have h1 := hr r (.head _)
    have ih := lastA_drop (k' :: ks) (r' :: rs) (unrow step k b r) (by simp) (by simpa using h) (fun r' h' => hr r' (.tail _ h'))
    rw [lastA, dec, ih]
    have e : (r :: r' :: rs).length - 1 = ((r' :: rs).length - 1) + 1 := by simp
    rw [e, Nat.add_mul, Nat.one_mul, Nat.add_comm]
    have e2 : size + ((r' :: rs).length - 1) * size = (unrow step k b r).length + ((r' :: rs).length - 1) * size := by rw [unrow_len, h1]
    rw [e2, List.drop_length_add_append]
theorem lastA_length (ks : List Int) (rs : List (List Int)) (b : List Int) (h1 : 1 ≤ rs.length) (h : ks.length = rs.length) (hr : ∀ r ∈ rs, r.length = size) : (lastA step b ks rs).length = size := by
  rw [lastA_drop ks rs b h1 h hr, List.length_drop, dec_length ks rs b h hr, ← Nat.sub_mul]
  have : rs.length - (rs.length - 1) = 1 := by omega
  rw [this, Nat.one_mul]
theorem lastA_in (ks : List Int) (rs : List (List Int)) (b : List Int) (h1 : 1 ≤ rs.length) (h : ks.length = rs.length) (hr : ∀ r ∈ rs, r.length = size) : KBa.In (lastA step b ks rs) := by
  rw [lastA_drop ks rs b h1 h hr]
  exact fun n hn => dec_in ks rs b n (List.mem_of_mem_drop hn)

theorem pae_mid (a b : Int) : pae a b a = b := by
  unfold pae ab
  (repeat' split) <;> omega
theorem gue2 {row b : List Int} {i : Nat} {o : Int} (hi : i < b.length) : gue (row ++ [o]) b (i : Int) step 2 = b.getD i 0 := by
  rw [gue_2, gu_pos (by omega), Int.toNat_natCast]
theorem gl_take {row : List Int} {i : Nat} {o : Int} (hs : 1 ≤ step) (hi : i < row.length) : gl (row.take i ++ [o]) (i : Int) step = gl row (i : Int) step := by
  by_cases h : step ≤ (i : Int)
  · have hj : ((i : Int) - step).toNat < i := by omega
    rw [gl_pos h, gl_pos h, List.getD_eq_getElem?_getD, List.getD_eq_getElem?_getD, List.getElem?_append_left (by rw [List.length_take]; omega), List.getElem?_take_of_lt hj]
  · rw [gl_neg h, gl_neg h]
theorem gue4 {b : List Int} {i : Nat} {o : Int} (hs : 1 ≤ step) (hi : i < b.length) : gue (b.take i ++ [o]) b (i : Int) step 4 = b.getD i 0 := by
  rw [gue_4, gu_pos (by omega), Int.toNat_natCast, gl_take hs hi]
  by_cases h : step ≤ (i : Int)
  · rw [gl_pos h, gd_pos h (by omega), pae_mid]
  · rw [gl_neg h, gd_neg h, pae_mid]
theorem nought_row {b : List Int} {way : Int} (hg : ∀ (i : Nat) (o : Int), i < b.length → gue (b.take i ++ [o]) b (i : Int) step way = b.getD i 0) (hin : KBa.In b) : ∀ (n i : Nat), i + n = b.length → (List.replicate n (0 : Int)).foldl (unStep step way b) (b.take i) = b
  | 0, i, h => by
    rw [List.replicate_zero, List.foldl_nil, List.take_of_length_le (by omega)]
  | n + 1, i, h => by
    rw [List.replicate_succ, List.foldl_cons]
    have hi : i < b.length := by omega
    have e : unStep step way b (b.take i) 0 = b.take (i + 1) := by
      have hl : (b.take i).length = i := by rw [List.length_take]; omega
      have hm := hin (b[i]) (List.getElem_mem hi)
      rw [unStep, hl, hg i 0 hi, Int.zero_add, List.getD_eq_getElem?_getD, List.getElem?_eq_getElem hi, Option.getD_some, Int.fmod_eq_emod_of_nonneg _ (by omega), Int.emod_eq_of_lt hm.1 (by omega)]
      exact List.take_append_getElem hi
    rw [e, nought_row hg hin n (i + 1) (by omega)]
/-- a row of noughts by way 2 or 4 is the row ahead again -/
theorem law_nought {ks : List Int} {rs : List (List Int)} {way : Int} (hw : way = 2 ∨ way = 4) (hs : 1 ≤ step) (h1 : 1 ≤ rs.length) (h : ks.length = rs.length) (hr : ∀ r ∈ rs, r.length = size) (hk : ∀ k ∈ ks, 0 ≤ k ∧ k < 5) :
    undoT size step 0 (flatE ks rs ++ way :: List.replicate size 0) [] [] = .ok (dec step [] ks rs ++ (dec step [] ks rs).drop ((rs.length - 1) * size)) := by
  have hl := lastA_length (step := step) ks rs [] h1 h hr
  have hin := lastA_in (step := step) ks rs [] h1 h hr
  rw [← lastA_drop ks rs [] h1 h hr, undo_flat ks rs 0 _ [] [] h hr hk, undoT_cons (by omega), List.take_of_length_le (by simp), List.drop_of_length_le (by simp), undoT_nil, List.nil_append]
  have e : unrow step way (lastA step [] ks rs) (List.replicate size 0) = lastA step [] ks rs := by
    refine nought_row ?_ hin size 0 (by omega)
    intro i o hi
    rcases hw with rfl | rfl
    · exact gue2 hi
    · exact gue4 hs hi
  rw [e]

/-- a way above 4, at the begin of a row -/
theorem law_bad {ks : List Int} {rs : List (List Int)} {i : Nat} {way : Int} {tail : List Int} (hw : 4 < way) (h : ks.length = rs.length) (hi : i ≤ rs.length) (hr : ∀ r ∈ rs, r.length = size) (hk : ∀ k ∈ ks, 0 ≤ k ∧ k < 5) :
    undoT size step 0 ((flatE ks rs).take (i * (size + 1)) ++ way :: tail) [] [] = .error ((i * (size + 1) : Nat) : Int) := by
  have e : ∀ (ks : List Int) (rs : List (List Int)) (i : Nat), ks.length = rs.length → i ≤ rs.length → (∀ r ∈ rs, r.length = size) → (flatE ks rs).take (i * (size + 1)) = flatE (ks.take i) (rs.take i) := by
    intro ks
    induction ks with
    | nil => intro rs i h hi hr; simp [flatE]
    | cons k ks ih =>
      intro rs i h hi hr
      match rs, i with
      | [], _ => simp [flatE]
      | r :: rs, 0 => simp [flatE]
      | r :: rs, i + 1 =>
        have h1 := hr r (.head _)
        rw [List.take_succ_cons, List.take_succ_cons, flatE_cons, flatE_cons, show (i + 1) * (size + 1) = (r.length + i * (size + 1)) + 1 by rw [h1, Nat.add_mul]; omega, List.take_succ_cons, List.take_length_add_append,
          ih rs i (by simpa using h) (by simpa using hi) (fun r' h' => hr r' (.tail _ h'))]
  rw [e ks rs i h hi hr, undo_flat _ _ 0 _ [] [] (by simp [h]) (fun r h' => hr r (List.mem_of_mem_take h')) (fun k h' => hk k (List.mem_of_mem_take h')), undoT_bad hw, List.length_take, Nat.min_eq_left hi, Int.zero_add]

/-! the round trip -/
theorem fmod_back {x g : Int} (h0 : 0 ≤ x) (h1 : x < 256) : Int.fmod (Int.fmod (x - g) 256 + g) 256 = x := by
  rw [Int.fmod_eq_emod_of_nonneg _ (by omega), Int.fmod_eq_emod_of_nonneg _ (by omega)]
  omega
theorem gue_take {row b : List Int} {i : Nat} {o way : Int} (hs : 1 ≤ step) (hi : i < row.length) : gue (row.take i ++ [o]) b (i : Int) step way = gue row b (i : Int) step way := by
  unfold gue
  rw [gl_take hs hi]
theorem unrow_filt {row b : List Int} {way : Int} (hs : 1 ≤ step) (hin : KBa.In row) : unrow step way b (filt row b step way) = row := by
  have key : ∀ n, n ≤ row.length → ((List.range n).map fun (i : Nat) => Int.fmod (row.getD i 0 - gue row b (i : Int) step way) 256).foldl (unStep step way b) [] = row.take n := by
    intro n
    induction n with
    | zero => intro _; simp
    | succ n ih =>
      intro h
      have hi : n < row.length := by omega
      have hm := hin (row[n]) (List.getElem_mem hi)
      rw [List.range_succ, List.map_append, List.foldl_append, ih (by omega), List.map_singleton, List.foldl_cons, List.foldl_nil, unStep, List.length_take, Nat.min_eq_left (by omega), gue_take hs hi, List.getD_eq_getElem?_getD, List.getElem?_eq_getElem hi, Option.getD_some, fmod_back hm.1 hm.2]
      exact List.take_append_getElem hi
  have := key row.length (Nat.le_refl _)
  rw [List.take_length] at this
  exact this
def encA (step way : Int) : List Int → List (List Int) → List Int
  | _, [] => []
  | b, r :: rs => (way :: filt r b step way) ++ encA step way r rs
theorem appSt_enc {way : Int} : ∀ (rows : List (List Int)) (σ : List Int × List Int), (rows.foldl (appStep step way) σ).1 = σ.1 ++ encA step way σ.2 rows
  | [], σ => by simp [encA]
  | r :: rs, σ => by
    rw [List.foldl_cons, appSt_enc rs]
    simp [appStep, encA]
def GoodR (size : Nat) : List (List Int) → Prop
  | [] => True
  | [r] => r.length ≤ size
  | r :: s :: rs => r.length = size ∧ GoodR size (s :: rs)
theorem enc_undone {way : Int} (hs : 1 ≤ step) (hw : way < 5) : ∀ (rows : List (List Int)) (a : Int) (f b : List Int), GoodR size rows → (∀ r ∈ rows, KBa.In r) → undoT size step a (encA step way b rows) f b = .ok (f ++ rows.flatten)
  | [], a, f, b, _, _ => by simp [encA, undoT_nil]
  | [r], a, f, b, hg, hin => by
    have hl : r.length ≤ size := hg
    rw [encA, encA, List.append_nil, undoT_cons hw, List.take_of_length_le (by rw [filt_length]; exact hl), List.drop_of_length_le (by rw [filt_length]; exact hl), undoT_nil, unrow_filt hs (hin r (.head _))]
    simp
  | r :: s :: rs, a, f, b, hg, hin => by
    have hl : r.length = size := hg.1
    have hf : (filt r b step way).length = size := by rw [filt_length, hl]
    rw [encA, List.cons_append, undoT_cons hw, List.take_left' hf, List.drop_left' hf, unrow_filt hs (hin r (.head _)), enc_undone hs hw (s :: rs) _ _ _ hg.2 (fun r' h' => hin r' (.tail _ h'))]
    simp
theorem chunks_nil (h1 : 1 ≤ size) : chunks size [] = [] := by
  unfold chunks
  rw [List.length_nil, Nat.zero_add, Nat.div_eq_of_lt (by omega)]
  rfl
theorem chunks_cons (h1 : 1 ≤ size) {ks : List Int} (h : ks ≠ []) : chunks size ks = ks.take size :: chunks size (ks.drop size) := by
  have hp : 1 ≤ ks.length := List.length_pos_iff.mpr h
  have e : (ks.length + size - 1) / size = ((ks.drop size).length + size - 1) / size + 1 := by
    rw [List.length_drop]
    rcases Nat.lt_or_ge ks.length size with h' | h'
    · rw [show ks.length - size = 0 by omega, Nat.zero_add, Nat.div_eq_of_lt (show size - 1 < size by omega), show ks.length + size - 1 = (ks.length - 1) + size by omega, Nat.add_div_right _ (by omega), Nat.div_eq_of_lt (by omega)]
    · rw [show ks.length + size - 1 = (ks.length - size + size - 1) + size by omega, Nat.add_div_right _ (by omega)]
  unfold chunks
  rw [e, List.range_succ_eq_map, List.map_cons, List.map_map]
  simp only [Nat.zero_mul, List.drop_zero]
  congr 1
  refine List.map_congr_left fun i _ => ?_
  show (ks.drop ((i + 1) * size)).take size = ((ks.drop size).drop (i * size)).take size
  rw [List.drop_drop, Nat.add_mul, Nat.one_mul, Nat.add_comm]
theorem chunks_good (h1 : 1 ≤ size) : ∀ (n : Nat) (ks : List Int), ks.length ≤ n → (chunks size ks).flatten = ks ∧ GoodR size (chunks size ks)
  | 0, ks, h => by
    obtain rfl : ks = [] := List.length_eq_zero_iff.mp (by omega)
    rw [chunks_nil h1]
    exact ⟨rfl, trivial⟩
  | n + 1, ks, h => by
    by_cases hn : ks = []
    · subst hn
      rw [chunks_nil h1]
      exact ⟨rfl, trivial⟩
    · have hp : 1 ≤ ks.length := List.length_pos_iff.mpr hn
      obtain ⟨ih1, ih2⟩ := chunks_good h1 n (ks.drop size) (by rw [List.length_drop]; omega)
      rw [chunks_cons h1 hn]
      refine ⟨by rw [List.flatten_cons, ih1, List.take_append_drop], ?_⟩
      by_cases hd : ks.drop size = []
      · rw [hd, chunks_nil h1]
        show (ks.take size).length ≤ size
        rw [List.length_take]; omega
      · have hl : (ks.take size).length = size := by
          have : 1 ≤ (ks.drop size).length := List.length_pos_iff.mpr hd
          rw [List.length_drop] at this
          rw [List.length_take]; omega
        rw [chunks_cons h1 hd] at ih2 ⊢
        exact ⟨hl, ih2⟩
/-- rows laid by one way are undone to what was laid -/
theorem law_round {short : List Int} {way : Int} (h1 : 1 ≤ size) (hs : 1 ≤ step) (hw : way < 5) (hin : KBa.In short) : undoT size step 0 (appSt step way (chunks size short)).1 [] [] = .ok short := by
  obtain ⟨e, g⟩ := chunks_good h1 short.length short (Nat.le_refl _)
  unfold appSt
  rw [appSt_enc, List.nil_append, enc_undone hs hw _ _ _ _ g, e, List.nil_append]
  intro r hr n hn
  obtain ⟨i, _, rfl⟩ := List.mem_map.mp hr
  exact hin n (List.mem_of_mem_drop (List.mem_of_mem_take hn))
end
end

section

def Stopped2 (p : Prop) : Prop := p
theorem Stopped2.of {p : Prop} (h : Stopped2 p) : p := h
theorem Stopped2.mk {p : Prop} (h : p) : Stopped2 p := h

/-- a fact that omega shall not see -/
def Hid (p : Prop) : Prop := p
theorem Hid.of {p : Prop} (h : Hid p) : p := h
theorem Hid.mk {p : Prop} (h : p) : Hid p := h
theorem mk_ne4 {h₀ h : Heap} {L a b c d : Addr} {oa ob oc od : Obj} (_ : News h₀ L h [(a, oa), (b, ob), (c, oc), (d, od)]) (h : @Ne Nat b a ∧ @Ne Nat c a ∧ @Ne Nat d a) : Hid (@Ne Nat b a) ∧ Hid (@Ne Nat c a) ∧ Hid (@Ne Nat d a) := h
theorem mk_ne6 {h₀ h : Heap} {L a b c d e f : Addr} {oa ob oc od oe of' : Obj} (_ : News h₀ L h [(a, oa), (b, ob), (c, oc), (d, od), (e, oe), (f, of')]) (h : @Ne Nat a c ∧ @Ne Nat b c) : Hid (@Ne Nat a c) ∧ Hid (@Ne Nat b c) := h
theorem news_prune {h₀ h : Heap} {L : Addr} {a b c d e f g : Addr × Obj} (N : News h₀ L h [a, b, c, d, e, f, g]) : News h₀ L h [a, d, f, g] := fun p hp => N p (by
  simp only [List.mem_cons, List.not_mem_nil, or_false] at hp ⊢
  rcases hp with h | h | h | h <;> simp [h])

theorem sum_977 : ∀ (l : List Int), 0 ≤ (l.map fun k' => (if k' < 0 then -k' else k').fmod 977).sum ∧ (l.map fun k' => (if k' < 0 then -k' else k').fmod 977).sum ≤ 977 * (l.length : Int)
  | [] => by simp
  | k :: r => by
    have h := sum_977 r
    have h1 := Int.fmod_nonneg_of_pos (if k < 0 then -k else k) (b := 977) (by omega)
    have h2 := Int.fmod_lt_of_pos (if k < 0 then -k else k) (b := 977) (by omega)
    rw [List.map_cons, List.sum_cons, List.length_cons]
    push_cast
    omega

section
variable {h₀ h h' : Heap} {L H : Addr} {o o' : Obj} {m : Str → Option Value} {news news' : List (Addr × Obj)}
theorem fr_but (F : Fr h₀ L h m) (hH : h.get? H = some o) (hLH : L ≠ H) (hn : h₀.get? H = none) (keep : ∀ b o, h.get? b = some o → b ≠ H → h'.get? b = some o) : Fr h₀ L h' m := by
  obtain ⟨⟨oL, es, ep, hL, r⟩, k, z⟩ := F
  refine ⟨⟨oL, es, ep, keep _ _ hL hLH, r⟩, fun b o q => keep _ _ (k _ _ q) fun e => ?_, z⟩
  rw [e, hn] at q
  cases q
theorem news_but (N : News h₀ L h news) (keep : ∀ b o, h.get? b = some o → b ≠ H → h'.get? b = some o) (hH' : h'.get? H = some o') (U : Upd H o o' news news') : News h₀ L h' news' := by
  obtain ⟨pre, post, rfl, rfl, a, b⟩ := U.split
  intro p hp
  rcases List.mem_append.mp hp with hp | hp
  · have z := N p (List.mem_append_left _ hp)
    exact ⟨keep _ _ z.1 (a p hp), z.2⟩
  · rcases List.mem_cons.mp hp with rfl | hp
    · have z := N (H, o) (List.mem_append_right _ List.mem_cons_self)
      exact ⟨hH', z.2⟩
    · have z := N p (List.mem_append_right _ (List.mem_cons_of_mem _ hp))
      exact ⟨keep _ _ z.1 (b p hp), z.2⟩
end

/-- the mark of the hand's state: what a roll may use -/
structure HandOk (at' seed : Int) : Prop where
  a0 : 0 ≤ at'
  s0 : 0 ≤ seed
  s1 : seed ≤ 1000000

theorem roll_led {w : World} {A : Around} {s : Shared} {Q E : Value → Shared → Prop} {hb : Heap} {L : Addr} {m : Str → Option Value} {news : List (Addr × Obj)} {H l0 : Addr} {vs : List Value} {ns : List Int} {at' seed many : Int} {ta ts tm : Tok} {k c : Nat}
    (hroom : A.depth + 4 < recursionLimit) (hh : A.handled = none) (hu : A.units + 30 < cLine) (G : G0 w hb) (F : Fr hb L s.heap m) (N : News hb L s.heap news)
    (hH : (H, handOf l0 at' seed ta ts k) ∈ news) (hl : (l0, listOf vs.toArray c) ∈ news) (hl0 : l0 ≠ H) (hi : IntsAre vs ns) (hz : ns.length ≤ 50)
    (hk : HandOk at' seed) (hat : at' ≤ 900) (h5 : 1 ≤ many) (h6 : many ≤ 1000)
    (hQ : ∀ (r : Nat) (t : Tok) (seed' : Int) (t1 t2 : Tok) (k' : Nat) (h' : Heap) (tk : Nat), (r : Int) < many → HandOk (at' + 1) seed' → Fr hb L h' m → (∀ news', Upd H (handOf l0 at' seed ta ts k) (handOf l0 (at' + 1) seed' t1 t2 k') news news' → News hb L h' news') → Q (.int (r : Int) t) { s with heap := h', toks := tk }) :
    wpAny (model PySem.Challenge.rw_qz0073_01.row.prog w) A (PySem.call (.ref 137) [.ref H, .int many tm]) Q E s := by
  have z := N _ hH
  refine roll_ok H l0 vs ns at' seed many ta ts tm k hroom hh hu G F.keep z.1 z.2.2 ⟨_, (N _ hl).1, rfl, _, rfl⟩ hl0 hi hz hk.a0 (by omega) hk.s0 hk.s1 h5 h6 fun r t seed' t1 t2 k' h' tk r0 r1 s0 s1 keep hH' => ?_
  obtain ⟨r, rfl⟩ := Int.eq_ofNat_of_zero_le r0
  exact hQ r t seed' t1 t2 k' h' tk r1 ⟨by have := hk.a0; omega, s0, s1⟩ (fr_but F z.1 (Ne.symm z.2.1) z.2.2 keep) fun news' U => news_but N keep hH' U

theorem fdiv8 {r : Nat} (h1 : (r : Int) < 3) : 1 ≤ Int.fdiv 8 (1 + (r : Int)) ∧ Int.fdiv 8 (1 + (r : Int)) ≤ 1000 ∧ (1 + (r : Int)) * Int.fdiv 8 (1 + (r : Int)) ≤ 8 := by
  have : r = 0 ∨ r = 1 ∨ r = 2 := by omega
  rcases this with rfl | rfl | rfl <;> decide
theorem fdiv8_cols {r c : Nat} (h1 : (r : Int) < 3) (h2 : (c : Int) < Int.fdiv 8 (1 + (r : Int))) : (1 + r) * (1 + c) ≤ 8 ∧ c < 8 := by
  have : r = 0 ∨ r = 1 ∨ r = 2 := by omega
  rcases this with rfl | rfl | rfl
  · have : (c : Int) < 8 := h2
    omega
  · have : (c : Int) < 4 := h2
    omega
  · have : (c : Int) < 2 := h2
    omega
theorem hand_start (l : List Int) (h : l.length ≤ 50) : HandOk 0 (1 + (l.map fun k' => (if k' < 0 then -k' else k').fmod 977).sum) := by
  have := sum_977 l
  exact ⟨by omega, by omega, by omega⟩

local macro_rules | `(tactic| walk_at "call ref") => `(tactic| refine' Stopped2.of ?_)
local macro_rules | `(tactic| walk_at "MY-NE") => `(tactic| (refine neN ?_; (try dsimp only); first | exact Hid.of (by assumption) | assumption | exact Ne.symm (Hid.of (by assumption)) | exact Ne.symm (by assumption) | omega))
local macro_rules | `(tactic| walk_at "MY-ALL") => `(tactic| first | exact List.forall_mem_nil _ | (refine' List.forall_mem_cons.mpr ⟨?ax, ?bx⟩; (case ax => walk_at "MY-NE"); (case bx => walk_at "MY-ALL")))
local macro_rules | `(tactic| walk_at "MY-UPD") => `(tactic| first | (refine' Upd.head ?ax; (case ax => walk_at "MY-ALL")) | (refine' Upd.tail ?ax ?bx; (case ax => walk_at "MY-NE"); (case bx => walk_at "MY-UPD")))
set_option hygiene false in
local macro_rules | `(tactic| walk_at "call ref") => `(tactic| (
  refine' roll_led ?p1 ?p2 ?p3 ?p4 ?pF ?pN ?pH ?pl ?p5 ?p6 ?p7 ?p8 ?p8b ?p9 ?p10 ?_
  (case pF => k_asm)
  (case pN => k_asm)
  (case pH => k_dflt k_memK)
  (case pl => k_dflt k_memK)
  (case p1 => with_unfolding_all exact (show (301 : Nat) + 1 + 4 < recursionLimit by decide))
  (case p2 => with_unfolding_all exact rfl)
  (case p3 => with_unfolding_all exact (show (4 : Nat) + 3 + 30 < cLine by decide))
  (case p4 => assumption)
  (case p5 => walk_at "MY-NE")
  (case p6 => assumption)
  (case p7 => exact List.length_take_le _ _)
  (case p8 => first | assumption | exact hand_start _ (List.length_take_le _ _))
  (case p8b => omega)
  (case p9 => first | decide | omega | exact (fdiv8 (by assumption)).1)
  (case p10 => first | decide | omega | exact (fdiv8 (by assumption)).2.1)
  intro r9 t9 seed9 t91 t92 k9 h9 tk9 r91 H9 F9 V9
  have N9 := V9 _ (by k_dflt walk_at "MY-UPD")
  clear V9
  (try dsimp only)))
local macro_rules | `(tactic| walk_at "eval ListComp") => `(tactic| ((with_reducible show wpAny _ _ (PySem.eval (Expr.ListComp (Expr.Call _ _ _ _) _ _ _) _) _ _ _); k_dflt (refine ListComp_step (by k_asm) (by with_unfolding_all rfl) (by decide) (by rfl) (by decide) (by rfl) ?_)))

theorem shape_led2 {w : World} {A : Around} {s : Shared} {Q E : Value → Shared → Prop} {hb : Heap} {L : Addr} {m : Str → Option Value} {news : List (Addr × Obj)} {r c : Nat} {t1 t2 t3 : Tok}
    (hroom : A.depth + 5 < recursionLimit) (hh : A.handled = none) (hu : A.units + 40 < cLine) (G : G0 w hb) (F : Fr hb L s.heap m) (N : News hb L s.heap news)
    (h1 : (r : Int) < 3) (h2 : (c : Int) < Int.fdiv 8 (1 + (r : Int)))
    (hQ : ∀ (x d : Addr) es n (t u : Tok) (h' : Heap) (tk : Nat) (sz : Nat), Fr hb L h' m → News hb L h' ((x, instObj 78 d) :: (d, dictOf es n) :: news) → (∀ p ∈ news, @LT.lt Nat instLTNat p.1 d) → (∀ p ∈ news, @LT.lt Nat instLTNat p.1 x) → @LT.lt Nat instLTNat d x → sz = (1 + r) * (1 + c) → 1 ≤ sz → sz ≤ 8 → getL "row_octets" es = some (some (.int (sz : Int) t)) → getL "pixel_octets" es = some (some (.int (1 + (r : Int)) u)) → Q (.ref x) { s with heap := h', toks := tk }) :
    wpAny (model PySem.Challenge.rw_qz0073_01.row.prog w) A (PySem.call (.ref 78) [.int (1 + (r : Int)) t1, .int 8 t2, .int (1 + (c : Int)) t3]) Q E s := by
  have hc := fdiv8_cols h1 h2
  refine shape_ok _ _ _ _ _ hroom hh hu G F N (by omega) (by omega) (by omega) (by omega) fun x d es n t u h' tk F' N' lt1 lt2 e1 e2 => ?_
  have a1 : Int.fdiv ((1 + (r : Int)) * 8 * (1 + (c : Int)) + 7) 8 = (((1 + r) * (1 + c) : Nat) : Int) := by
    have e : (1 + (r : Int)) * 8 * (1 + (c : Int)) = 8 * (((1 + r) * (1 + c) : Nat) : Int) := by
      push_cast
      rw [Int.mul_comm (1 + (r : Int)) 8, Int.mul_assoc]
    rw [e, Int.fdiv_eq_ediv_of_nonneg _ (by omega)]
    omega
  have a2 : Int.fdiv ((1 + (r : Int)) * 8 + 7) 8 = 1 + (r : Int) := by
    rw [Int.fdiv_eq_ediv_of_nonneg _ (by omega)]
    omega
  rw [a1] at e1
  rw [a2] at e2
  refine hQ x d es n t u h' tk _ F' N' lt1 (fun p hp => Nat.lt_trans (lt1 p hp) lt2) lt2 rfl ?_ hc.1 e1 e2
  exact Nat.succ_le_of_lt (Nat.mul_pos (by omega) (by omega))

theorem IsShape.of_news {hb h : Heap} {L x d : Addr} {es : List DictEntry} {n : Nat} {news : List (Addr × Obj)} {size step : Int} {t u : Tok} (N : News hb L h news) (h1 : (x, instObj 78 d) ∈ news) (h2 : (d, dictOf es n) ∈ news)
    (e1 : getL "row_octets" es = some (some (.int size t))) (e2 : getL "pixel_octets" es = some (some (.int step u))) : IsShape h x size step := ⟨d, es, n, t, u, (N _ h1).1, (N _ h2).1, e1, e2⟩
theorem shape_rows2 {w : World} {A : Around} {E : Value → Shared → Prop} {s : Shared} {h₀ : Heap} {L x : Addr} {m : Str → Option Value} {size step : Int} {ex : Bool} {Q : Value → Shared → Prop} (F : Fr h₀ L s.heap m) (X : (hd.heap_39 w.params).In h₀) (S : IsShape s.heap x size step)
    (h : ∀ t, Q (.int size t) { s with toks := s.toks + 1 }) : wpAny (model PySem.Challenge.rw_qz0073_01.row.prog w) A (getAttr (.ref x) (Str.ofString "row_octets") ex) Q E s := by
  obtain ⟨d, es, n, t, u, a, b, c, e⟩ := S
  k_dflt (refine' get_own (attr := none) F X (⟨a, rfl, rfl, b⟩ : InstAt s.heap x (instObj 78 d) 78 (some (dictOf es n))) ?_ ?_ ?_ ?_ c rfl (h t); (k_is); (k_is); (k_is); (k_is))

local macro_rules | `(tactic| walk_at "getAttr ref") => `(tactic| (refine' shape_rows2 ?q1 ?q2 ?q3 ?_; (case q1 => k_asm); (case q2 => assumption); (case q3 => exact IsShape.of_news (by k_asm) (by k_dflt k_memK) (by k_dflt k_memK) (by assumption) (by assumption)); intro _))
local macro_rules | `(tactic| walk_at "exec Assign cons ListComp") => `(tactic| ((with_reducible show wpAny _ _ (exec (Stmt.Assign _ (Expr.ListComp (Expr.Call _ _ _ _) _ _ _) _) _) _ _ _); k_dflt (refine LCg.Assign_ListComp_U (F₀ := by k_asm) (by rfl) (by with_unfolding_all rfl) (by with_unfolding_all rfl) (by decide) (by rfl) (by decide) (by rfl) (by rfl) (by rfl) ?_)))
local macro_rules | `(tactic| walk_at "CompSrc") => `(tactic| ((with_reducible show LCg.CompSrc _ _ _ _ _ _ _ (Expr.Call _ _ _ _) _ _ _ _ _ _); refine' Stopped2.of ?_))
theorem news_prune2 {h₀ h : Heap} {L : Addr} {a b c d e f g : Addr × Obj} (N : News h₀ L h [a, b, c, d, e, f, g]) : News h₀ L h [a, b, d, e, f, g] := fun p hp => N p (by
  simp only [List.mem_cons, List.not_mem_nil, or_false] at hp ⊢
  rcases hp with h | h | h | h | h | h <;> simp [h])
theorem range_one {n : Nat} (h : n ≤ 1000) : Builtin.Range.small 0 (1 + (n : Int)) 1 = true ∧ Builtin.Range.rangeSize 0 (1 + (n : Int)) 1 = ((1 + n : Nat) : Int) := by
  have e : (1 + (n : Int)) = ((1 + n : Nat) : Int) := by omega
  have h1 := size_step (size := 1) (n := 1 + n) (by omega)
  rw [Nat.add_sub_cancel, Nat.div_one] at h1
  rw [e]
  refine ⟨?_, h1⟩
  have : (1 + n : Nat) ≤ 1000 ∨ 1 + n = 1001 := by omega
  rcases this with h2 | h2
  · exact small_step (size := 1) (by omega) (by omega) h2
  · rw [h2]; decide
/-- the hand within the ledger; the ints made so far -/
def WaysJ (pre : List (Addr × Obj)) (H l0 : Addr) (post : List (Addr × Obj)) (a0 lim : Int) (i : Nat) (ys : List Value) (news : List (Addr × Obj)) : Prop :=
  ∃ (at' seed : Int) (t1 t2 : Tok) (k : Nat) (ks : List Int), news = pre ++ (H, handOf l0 at' seed t1 t2 k) :: post ∧ HandOk at' seed ∧ at' ≤ a0 + i ∧ IntsAre ys ks ∧ ks.length = i ∧ ∀ k ∈ ks, 0 ≤ k ∧ k < lim
theorem ways_turn {pre post : List (Addr × Obj)} {H l0 : Addr} {a0 lim at' seed : Int} {t1 t2 t : Tok} {k i r : Nat} {ys : List Value} {ks : List Int} (HH : HandOk at' seed) (hat : at' ≤ a0 + i + 1) (hys : IntsAre ys ks) (hlen : ks.length = i) (hlim : ∀ k ∈ ks, 0 ≤ k ∧ k < lim) (hr : (r : Int) < lim) :
    WaysJ pre H l0 post a0 lim (i + 1) (ys ++ [.int (r : Int) t]) (pre ++ (H, handOf l0 at' seed t1 t2 k) :: post) := by
  refine ⟨at', seed, t1, t2, k, ks ++ [(r : Int)], rfl, HH, by push_cast; omega, hys.append (IntsAre.cons _ t IntsAre.nil), by simp [hlen], fun k hk => ?_⟩
  rcases List.mem_append.mp hk with hk | hk
  · exact hlim k hk
  · rw [List.mem_singleton.mp hk]
    omega
def RowsJ (pre : List (Addr × Obj)) (H l0 : Addr) (post : List (Addr × Obj)) (a0 : Int) (sz : Nat) (i : Nat) (ys : List Value) (news : List (Addr × Obj)) : Prop :=
  ∃ (at' seed : Int) (t1 t2 : Tok) (k : Nat) (rs : List (List Int)), news = pre ++ (H, handOf l0 at' seed t1 t2 k) :: post ∧ HandOk at' seed ∧ at' ≤ a0 + 8 * i ∧ BytesAre ys rs ∧ rs.length = i ∧ ∀ r ∈ rs, r.length = sz

local macro_rules | `(tactic| walk_at "CompEnd") => `(tactic| ((rename G0 _ _ => gg9); refine' Stopped2.of ?_))
theorem off1_3 {D : Addr} {a b c : Addr × Obj} {r : List (Addr × Obj)} (h : LCg.Off1 D (a :: b :: c :: r)) : c.1 ≠ D := h.2.2.1
theorem off1_4 {D : Addr} {a b c d : Addr × Obj} {r : List (Addr × Obj)} (h : LCg.Off1 D (a :: b :: c :: d :: r)) : d.1 ≠ D := h.2.2.2.1
theorem BytesAre.snoc {vs : List Value} {rs : List (List Int)} {b : Array UInt8} {t : Tok} (h : BytesAre vs rs) : BytesAre (vs ++ [.bytes b t]) (rs ++ [KBw.bInts b]) := by
  refine ⟨by simp [h.1], fun i v hv => ?_⟩
  rcases Nat.lt_or_ge i vs.length with hi | hi
  · rw [List.getElem?_append_left hi] at hv
    obtain ⟨b', t', e1, e2⟩ := h.2 i v hv
    exact ⟨b', t', e1, by rw [List.getElem?_append_left (h.1 ▸ hi)]; exact e2⟩
  · rw [List.getElem?_append_right hi] at hv
    have hj0 : i - vs.length = 0 := by
      rcases Nat.eq_zero_or_pos (i - vs.length) with h' | h'
      · exact h'
      · rw [List.getElem?_eq_none (by simp; omega)] at hv
        cases hv
    rw [hj0] at hv
    obtain rfl : Value.bytes b t = v := by simpa using hv
    refine ⟨b, t, rfl, ?_⟩
    rw [List.getElem?_append_right (by rw [← h.1]; omega), ← h.1, hj0]
    rfl
theorem rows_turn2 {pre post : List (Addr × Obj)} {H l0 : Addr} {a0 at' seed : Int} {t1 t2 t : Tok} {k i sz : Nat} {zs : List Value} {rs : List (List Int)} {b : Array UInt8} {ks : List Int} (HH : HandOk at' seed) (hat : at' ≤ a0 + 8 * (i : Int) + 8) (hzs : BytesAre zs rs) (hlen : rs.length = i) (hlim : ∀ r ∈ rs, r.length = sz) (hb : KBw.bInts b = ks) (hk : ks.length = sz) :
    RowsJ pre H l0 post a0 sz (i + 1) (zs ++ [.bytes b t]) (pre ++ (H, handOf l0 at' seed t1 t2 k) :: post) := by
  refine ⟨at', seed, t1, t2, k, rs ++ [KBw.bInts b], rfl, HH, by push_cast; omega, hzs.snoc, by simp [hlen], fun r hr => ?_⟩
  rcases List.mem_append.mp hr with hr | hr
  · exact hlim r hr
  · rw [List.mem_singleton.mp hr, hb]
    exact hk
theorem bytes_nil : BytesAre [] [] := ⟨rfl, fun _ _ h => by simp at h⟩
theorem range_n {n : Nat} (h : n ≤ 1000) : Builtin.Range.small 0 (n : Int) 1 = true ∧ Builtin.Range.rangeSize 0 (n : Int) 1 = ((n : Nat) : Int) := by
  have h1 := size_step (size := 1) (n := n) (by omega)
  rw [Nat.add_sub_cancel, Nat.div_one] at h1
  exact ⟨small_step (size := 1) (by omega) (by omega) h, h1⟩
local macro_rules | `(tactic| walk_at "StepSrc") => `(tactic| refine' Stopped2.of ?_)
local macro_rules | `(tactic| walk_at "call type:zip") => `(tactic| refine' Stopped2.of ?_)
local macro_rules | `(tactic| walk_at "eval ListComp") => `(tactic| ((with_reducible show wpAny _ _ (PySem.eval (Expr.ListComp _ [Comprehension.mk (Expr.Tuple _ _ _) _ _ _] _ _) _) _ _ _); k_dflt (refine ListComp_zip (by k_asm) (by with_unfolding_all rfl) (by decide) (by rfl) (by decide) (by rfl) (by rfl) (by decide) ?_)))

local macro_rules | `(tactic| walk_at "getMethod bytes") => `(tactic| (refine' method_join ?_))
def JoinJ (ks : List Int) (rs : List (List Int)) (i : Nat) (ys : List Value) : Prop :=
  ∃ prs : List (Array UInt8 × Tok), ys = prs.map bv ∧ prs.length = i ∧ prs.map (fun x => KBw.bInts x.1) = (List.zipWith List.cons ks rs).take i
theorem join_turn {ks : List Int} {rs : List (List Int)} {i : Nat} {prs : List (Array UInt8 × Tok)} {b : Array UInt8} {t : Tok} {k : Int} {r : List Int} (h1 : prs.length = i) (h2 : prs.map (fun x => KBw.bInts x.1) = (List.zipWith List.cons ks rs).take i) (hk : ks[i]? = some k) (hr : rs[i]? = some r) (hb : KBw.bInts b = k :: r) :
    JoinJ ks rs (i + 1) (prs.map bv ++ [.bytes b t]) := by
  refine ⟨prs ++ [(b, t)], by simp [bv], by simp [h1], ?_⟩
  rw [List.map_append, h2, List.take_add_one, List.getElem?_zipWith, hk, hr]
  simp [hb]
theorem ints_item {vs : List Value} {ks : List Int} {i : Nat} {v : Value} (h : IntsAre vs ks) (hv : vs[i]? = some v) : ∃ k t, v = .int k t ∧ ks[i]? = some k := by
  induction h generalizing i with
  | nil => simp at hv
  | cons k t _ ih =>
    cases i with
    | zero => exact ⟨k, t, by simpa using hv.symm, by simp⟩
    | succ i => obtain ⟨k', t', e, e'⟩ := ih (by simpa using hv); exact ⟨k', t', e, by simpa using e'⟩
theorem byte_one {kk : Int} (h : 0 ≤ kk ∧ kk < 5) : KBw.bInts #[kk.toNat.toUInt8] = [kk] := KBa.ints_make (ns := [kk]) fun n hn => by rw [List.mem_singleton.mp hn]; omega
theorem data_ints {ys zs : List Value} {ks : List Int} {rs : List (List Int)} {prs : List (Array UInt8 × Tok)} {bd : Array UInt8} (h1 : IntsAre ys ks) (h2 : BytesAre zs rs) (hp : prs.map (fun x => KBw.bInts x.1) = (List.zipWith List.cons ks rs).take (min ys.length zs.length)) (hb : KBw.bInts bd = (prs.map fun x => KBw.bInts x.1).flatten) : KBw.bInts bd = flatE ks rs := by
  rw [hb, hp, List.take_of_length_le (by rw [List.length_zipWith, h1.length, h2.1]; exact Nat.le_refl _)]
  rfl
theorem parts_size {ks : List Int} {rs : List (List Int)} {prs : List (Array UInt8 × Tok)} {n sz : Nat} (hp : prs.map (fun x => KBw.bInts x.1) = (List.zipWith List.cons ks rs).take n) (hr : ∀ r ∈ rs, r.length = sz) (h1 : sz ≤ 8) (h2 : prs.length ≤ 5) : (prs.map (·.1.size)).sum ≤ 1000 := by
  have key : ∀ p ∈ prs, p.1.size ≤ 9 := by
    intro p hp'
    have hm : KBw.bInts p.1 ∈ (List.zipWith List.cons ks rs) := List.mem_of_mem_take (hp ▸ List.mem_map_of_mem hp')
    rw [← KBw.ints_length]
    obtain ⟨i, hi, e⟩ := List.mem_iff_getElem.mp hm
    rw [List.getElem_zipWith] at e
    rw [← e, List.length_cons, hr _ (List.getElem_mem _)]
    omega
  have : ∀ l : List (Array UInt8 × Tok), (∀ p ∈ l, p.1.size ≤ 9) → (l.map (·.1.size)).sum ≤ 9 * l.length := by
    intro l
    induction l with
    | nil => intro _; simp
    | cons p l ih =>
      intro h
      have h1 := h p (.head _)
      have h2 := ih fun q hq => h q (.tail _ hq)
      rw [List.map_cons, List.sum_cons, List.length_cons]
      omega
  have := this prs key
  omega
theorem flat_small {ks : List Int} {rs : List (List Int)} {sz : Nat} (h : ks.length = rs.length) (hr : ∀ r ∈ rs, r.length = sz) (h1 : sz ≤ 8) (h2 : rs.length ≤ 5) : (flatE ks rs).length ≤ 45 := by
  rw [flatE_length ks rs h hr]
  exact Nat.mul_le_mul h2 (Nat.succ_le_succ h1)
theorem whole_facts {step : Int} {ks : List Int} {rs : List (List Int)} {sz : Nat} {bw : Array UInt8} (h : ks.length = rs.length) (hr : ∀ r ∈ rs, r.length = sz) (h1 : sz ≤ 8) (h2 : rs.length ≤ 5) (hW : KBw.bInts bw = dec step [] ks rs) : ∃ W, W = dec step [] ks rs ∧ KBw.bInts bw = W ∧ W.length = rs.length * sz ∧ W.length ≤ 40 ∧ KBa.In W :=
  ⟨_, rfl, hW, dec_length ks rs [] h hr, by rw [dec_length ks rs [] h hr]; exact Nat.mul_le_mul h2 h1, dec_in ks rs []⟩
theorem count_size {W : List Int} {l sz n : Nat} (h : W.length = l * sz) (h2 : Hid (l = 1 + n)) : (1 + (n : Int)) * (sz : Int) = (W.length : Int) := by
  rw [h, h2.of]
  push_cast
  rfl
theorem range_n' {n : Nat} (h : n ≤ 1000) : Builtin.Range.small 0 (n : Int) 1 = true ∧ Builtin.Range.rangeSize 0 (n : Int) 1 = ((n : Nat) : Int) := range_n h
theorem cut_res {step : Int} {ks W : List Int} {rs : List (List Int)} {sz c : Nat} (hW : W = dec step [] ks rs) (h : ks.length = rs.length) (hr : ∀ r ∈ rs, r.length = sz) (hk : ∀ k ∈ ks, 0 ≤ k ∧ k < 5) (hc : c ≤ (flatE ks rs).length) :
    undo sz step (List.take (min c (flatE ks rs).length) (flatE ks rs)).length 0 (List.take (min c (flatE ks rs).length) (flatE ks rs)) [] [] = .ok (W.take (c / (sz + 1) * sz + (c % (sz + 1) - 1))) := by
  rw [Nat.min_eq_left hc, hW]
  exact law_cut ks rs 0 [] [] c h hr hk
theorem noughts_in {way : Int} (hw : 0 ≤ way ∧ way < 5) (sz : Nat) : KBa.In ([way] ++ (List.replicate (sz : Int).toNat [(0 : Int)]).flatten) := by
  intro n hn
  rcases List.mem_append.mp hn with hn | hn
  · rw [List.mem_singleton.mp hn]
    omega
  · obtain ⟨l, hl, hn⟩ := List.mem_flatten.mp hn
    rw [(List.mem_replicate.mp hl).2] at hn
    rw [List.mem_singleton.mp hn]
    omega
local macro_rules | `(tactic| walk_at "TurnPost") => `(tactic| refine' Stopped2.of ?_)
theorem bytes_inj {a b : Array UInt8} (h : KBw.bInts a = KBw.bInts b) : a.toList = b.toList := by
  unfold KBw.bInts at h
  exact (List.map_inj_right (fun x y e => by
    have : x.toNat = y.toNat := by omega
    exact UInt8.toNat_inj.mp this)).mp h
theorem bytes_ne {a b : Array UInt8} {x y : List Int} (ha : KBw.bInts a = x) (hb : KBw.bInts b = y) (e : x = y) (h : (a.toList != b.toList) = true) : False := by
  have := bytes_inj (ha.trans (e.trans hb.symm))
  rw [this] at h
  simp at h
theorem cut_many (c sz : Nat) (W : List Int) : W.take (c / (sz + 1) * sz + (c % (sz + 1) - 1)) = List.take (clipAt W.length (Int.fdiv (c : Int) ((sz : Int) + 1) * (sz : Int) + if 0 > Int.fmod (c : Int) ((sz : Int) + 1) - 1 then 0 else Int.fmod (c : Int) ((sz : Int) + 1) - 1)) W := by
  have e1 : Int.fdiv (c : Int) ((sz : Int) + 1) = ((c / (sz + 1) : Nat) : Int) := by
    rw [Int.fdiv_eq_ediv_of_nonneg _ (by omega)]
    push_cast
    rfl
  have e2 : Int.fmod (c : Int) ((sz : Int) + 1) = ((c % (sz + 1) : Nat) : Int) := by
    rw [Int.fmod_eq_emod_of_nonneg _ (by omega)]
    push_cast
    rfl
  have e3 : (if 0 > ((c % (sz + 1) : Nat) : Int) - 1 then 0 else ((c % (sz + 1) : Nat) : Int) - 1) = ((c % (sz + 1) - 1 : Nat) : Int) := by
    split <;> omega
  have e4 : ((c / (sz + 1) : Nat) : Int) * (sz : Int) + ((c % (sz + 1) - 1 : Nat) : Int) = ((c / (sz + 1) * sz + (c % (sz + 1) - 1) : Nat) : Int) := by
    push_cast
    rfl
  rw [e1, e2, e3, e4, clipAt_nat]
  generalize c / (sz + 1) * sz + (c % (sz + 1) - 1) = q
  rcases Nat.le_total q W.length with h | h
  · rw [Nat.min_eq_left h]
  · rw [Nat.min_eq_right h, List.take_of_length_le h, List.take_of_length_le (Nat.le_refl _)]
theorem turn_same {a b : Str} {va vb : Value} {u m : Str → Option Value} : ∀ y, y ≠ b → [a].contains y = false → (fun y => if y = a then some va else if y = b then some vb else if [a].contains y = true then u y else m y) y = m y := by
  intro y h1 h2
  have h3 : y ≠ a := fun e => by subst e; simp at h2
  have h4 : ¬ [a].contains y = true := by rw [h2]; simp
  show (if y = a then some va else if y = b then some vb else if [a].contains y = true then u y else m y) = m y
  rw [if_neg h3, if_neg h1, if_neg h4]
theorem noughts_eq (sz : Nat) : (List.replicate (sz : Int).toNat [(0 : Int)]).flatten = List.replicate sz 0 := by
  rw [Int.toNat_natCast]
  induction sz with
  | zero => rfl
  | succ n ih => rw [List.replicate_succ, List.replicate_succ, List.flatten_cons, ih]; rfl
theorem nought_len {D : List Int} {way : Int} {sz : Nat} (h : D.length ≤ 45) (h8 : sz ≤ 8) : (D ++ ([way] ++ (List.replicate (sz : Int).toNat [(0 : Int)]).flatten)).length ≤ 1000 := by
  rw [noughts_eq]
  simp
  omega
theorem nought_res {step way : Int} {ks W : List Int} {rs : List (List Int)} {sz : Nat} (hw : way = 2 ∨ way = 4) (hW : W = dec step [] ks rs) (hWl : W.length = rs.length * sz) (hs : 1 ≤ step) (h1 : 1 ≤ rs.length) (h : ks.length = rs.length) (hr : ∀ r ∈ rs, r.length = sz) (hk : ∀ k ∈ ks, 0 ≤ k ∧ k < 5) :
    undo sz step (flatE ks rs ++ ([way] ++ (List.replicate (sz : Int).toNat [(0 : Int)]).flatten)).length 0 (flatE ks rs ++ ([way] ++ (List.replicate (sz : Int).toNat [(0 : Int)]).flatten)) [] [] = .ok (W ++ W.drop (W.length - sz)) := by
  rw [noughts_eq]
  have e : W.length - sz = (rs.length - 1) * sz := by rw [hWl, Nat.sub_mul, Nat.one_mul]
  rw [e, hW]
  exact law_nought hw hs h1 h hr hk
theorem ne_same {prog : Program} {w : World} {A : Around} {E : Value → Shared → Prop} {s : Shared} {b c : Array UInt8} {t u : Tok} {Q : Value → Shared → Prop} (e : KBw.bInts b = KBw.bInts c) (h : Q (.bool false) s) : wpAny (model prog w) A (compareOp .NotEq (.bytes b t) (.bytes c u)) Q E s := by
  refine ne_bytes ?_
  rw [bytes_inj e]
  simpa using h
local macro_rules | `(tactic| walk_at "compareOp NotEq bytes bytes") => `(tactic| refine' Stopped2.of ?_)
theorem last_eq {W : List Int} {sz : Nat} (h : sz ≤ W.length) : W ++ List.drop (W.length - sz) W = W ++ List.take (W.length - clipAt W.length ((W.length : Int) - (sz : Int))) (List.drop (clipAt W.length ((W.length : Int) - (sz : Int))) W) := by
  have e : (W.length : Int) - (sz : Int) = ((W.length - sz : Nat) : Int) := by omega
  rw [e, clipAt_nat, Nat.min_eq_left (by omega), List.take_of_length_le (by rw [List.length_drop]; omega)]
theorem news_drop {h₀ h : Heap} {L : Addr} {news : List (Addr × Obj)} (n : Nat) (N : News h₀ L h news) : News h₀ L h (news.drop n) := fun p hp => N p (List.mem_of_mem_drop hp)
theorem short_facts {W : List Int} {e : Int} (h : KBa.In W) : ∃ S, S = List.take (clipAt W.length e) W ∧ KBa.In S ∧ S.length ≤ W.length :=
  ⟨_, rfl, fun n hn => h n (List.mem_of_mem_take hn), by rw [List.length_take]; omega⟩
theorem app_small {S : List Int} {step way : Int} {sz : Nat} (h : S.length ≤ 40) (h8 : sz ≤ 8) : (appSt step way (chunks sz S)).1.length ≤ 1000 := by
  have h1 := (appSt_len (step := step) (way := way) (rows := chunks sz S) (ks := S) (size := sz) rfl h8 (chunks sz S).length).1
  rw [List.take_length] at h1
  omega
theorem byte_of {r : Nat} (h : (r : Int) < 251) : List.map (fun c : UInt8 => ((c.toNat : Nat) : Int)) [(5 + (r : Int)).toNat.toUInt8] = [5 + (r : Int)] :=
  KBa.ints_make (ns := [5 + (r : Int)]) fun n hn => by rw [List.mem_singleton.mp hn]; omega
theorem bad_len {D : List Int} {a b c : Nat} {e : UInt8} (h : D.length ≤ 45) : (List.take a D ++ List.map (fun c : UInt8 => ((c.toNat : Nat) : Int)) [e] ++ List.take b (List.drop c D)).length ≤ 1000 := by
  simp only [List.length_append, List.length_take, List.length_map, List.length_cons, List.length_nil, List.length_drop]
  omega
theorem bad_res {step : Int} {ks tail : List Int} {rs : List (List Int)} {sz i r : Nat} (h251 : (r : Int) < 251) (h : ks.length = rs.length) (hi : i ≤ rs.length) (hr : ∀ r ∈ rs, r.length = sz) (hk : ∀ k ∈ ks, 0 ≤ k ∧ k < 5) :
    undo sz step (List.take (clipAt (flatE ks rs).length ((i : Int) * ((sz : Int) + 1))) (flatE ks rs) ++ List.map (fun c : UInt8 => ((c.toNat : Nat) : Int)) [(5 + (r : Int)).toNat.toUInt8] ++ tail).length 0
      (List.take (clipAt (flatE ks rs).length ((i : Int) * ((sz : Int) + 1))) (flatE ks rs) ++ List.map (fun c : UInt8 => ((c.toNat : Nat) : Int)) [(5 + (r : Int)).toNat.toUInt8] ++ tail) [] [] = .error ((i : Int) * ((sz : Int) + 1)) := by
  have e : (i : Int) * ((sz : Int) + 1) = ((i * (sz + 1) : Nat) : Int) := by push_cast; rfl
  have hl : i * (sz + 1) ≤ (flatE ks rs).length := by
    rw [flatE_length ks rs h hr]
    exact Nat.mul_le_mul_right _ hi
  rw [byte_of h251, e, clipAt_nat, Nat.min_eq_left hl, List.append_assoc]
  exact law_bad (by omega) h hi hr hk
theorem nat_lt_of {i n l : Nat} (h : (i : Int) < 1 + (n : Int)) (h2 : Hid (l = 1 + n)) : i ≤ l := by
  have := h2.of
  omega
theorem bad_form {ks : List Int} {rs : List (List Int)} {sz i r b c : Nat} {x : Array UInt8} (hx : KBw.bInts x = List.take (clipAt (flatE ks rs).length ((i : Int) * ((sz : Int) + 1))) (flatE ks rs) ++ List.map (fun c : UInt8 => ((c.toNat : Nat) : Int)) [(5 + (r : Int)).toNat.toUInt8] ++ List.take b (List.drop c (flatE ks rs)))
    (hD : (flatE ks rs).length ≤ 45) (h251 : (r : Int) < 251) (h : ks.length = rs.length) (hi : i ≤ rs.length) (hr : ∀ r ∈ rs, r.length = sz) (hk : ∀ k ∈ ks, 0 ≤ k ∧ k < 5) :
    ∃ L6, KBw.bInts x = L6 ∧ L6.length ≤ 1000 ∧ ∀ step : Int, undo sz step L6.length 0 L6 [] [] = .error ((i : Int) * ((sz : Int) + 1)) :=
  ⟨_, hx, bad_len hD, fun _ => bad_res h251 h hi hr hk⟩
theorem law0 : PySem.Challenge.rw_qz0073_01.Holds := by
  exact hd (by
    k_go0
    k_steps
    refine Stopped2.mk ?_
    rename Frag.In _ _ => KX
    rename Top _ _ _ _ _ _ => T1
    have GG : G0 _ _ := ⟨KX, _, _, _, T1⟩
    rename News _ _ _ _ => N1
    have N2 := news_prune N1
    clear N1
    obtain ⟨hn1, hn2, hn3⟩ := mk_ne4 N2 ⟨by omega, by omega, by omega⟩
    (repeat (rename _ ≠ _ ∧ _ => hx0; clear hx0))
    (repeat (rename List.length _ = List.length _ => hx0; clear hx0))
    (repeat (rename List.length _ = min _ _ => hx0; clear hx0))
    (repeat (rename List.length _ ≤ List.length _ => hx0; clear hx0))
    k_steps
    refine Stopped2.mk ?_
    refine' shape_led2 ?p1 ?p2 ?p3 ?p4 ?pF ?pN ?p5 ?p6 ?_
    (case pF => k_asm)
    (case pN => k_asm)
    (case p1 => with_unfolding_all exact (show (301 : Nat) + 1 + 5 < recursionLimit by decide))
    (case p2 => with_unfolding_all exact rfl)
    (case p3 => with_unfolding_all exact (show (4 : Nat) + 3 + 40 < cLine by decide))
    (case p4 => assumption)
    (case p5 => assumption)
    (case p6 => assumption)
    intro x9 d9 es9 n9 t9 u9 h9 tk9 sz F9 N9 lt9 lx9 ltx hsz hsz1 hsz8 e91 e92
    simp only [List.forall_mem_cons, List.not_mem_nil, false_imp_iff, implies_true, and_true] at lt9 lx9
    (try dsimp only)
    k_steps
    refine Stopped2.mk ?_
    rename IsRange _ _ _ _ _ _ _ _ => R1
    rename Fr _ _ _ _ => F1
    rename News _ _ _ _ => N1
    have N2 := news_prune2 N1
    obtain ⟨hn4, hn5⟩ := mk_ne6 N2 ⟨by omega, by omega⟩
    clear lt9 lx9 ltx hsz
    (repeat (rename @LT.lt _ _ _ _ ∧ _ => hx0; clear hx0))
    (rename (_ : Int) < Int.fdiv _ _ => hx0; clear hx0)
    (rename (_ : Int) < 3 => hx0; clear hx0)
    refine LCg.CompSrc.range rfl F1 N2 R1 (range_one (by omega)).1 (range_one (by omega)).2 (by rw [PySem.sizeLine_eq]; omega) fun g => rest_led (WaysJ [_, _] _ _ [_, _, _] 3 5) ⟨_, _, _, _, _, [], rfl, by assumption, by omega, IntsAre.nil, rfl, fun _ h => nomatch h⟩ ?_ ?_
    · rintro i v I oI C oC D m₂ ys news h tk E' hi ⟨t, rfl⟩ ⟨at', seed, t1, t2, k, ks, rfl, HH, hat, hys, hlen, hlim⟩ hC hx F2 N2 off ne
      simp only [List.cons_append, List.nil_append] at N2 off
      obtain ⟨oH1, oH2, oH3⟩ := LCg.Off3.mem off _ (List.Mem.tail _ (List.Mem.tail _ (List.Mem.head _)))
      k_fold
      k_steps
      refine Stopped2.mk ?_
      exact ⟨h9, tk9, _, rfl, F9, N9, off, trivial, ways_turn H9 (by omega) hys hlen hlim r91⟩
    · rintro ys news' ⟨at', seed, t1, t2, k, ks, rfl, HH, hat, hys, hlen, hlim⟩
      intro D h tk F3 N3 o3
      simp only [List.cons_append, List.nil_append] at N3 o3
      have oD := Hid.mk (off1_3 o3)
      have hat' : at' ≤ 8 := by omega
      clear hat
      dsimp only at F3
      clear N1 N2 F1 R1
      k_steps
      refine Stopped2.mk ?_
      rename IsRange _ _ _ _ _ _ _ _ => R1
      rename Fr _ _ _ _ => F1
      rename News _ _ _ _ => N1
      refine LCg.CompSrc.range rfl F1 N1 R1 (range_one (by omega)).1 (range_one (by omega)).2 (by rw [PySem.sizeLine_eq]; omega) fun g => rest_led (RowsJ [_, _, _] _ _ [_, _, _] 8 sz) ⟨_, _, _, _, _, [], rfl, by assumption, by omega, bytes_nil, rfl, fun _ h => nomatch h⟩ ?_ ?_
      · rintro i v I oI C oC D2 m₂ zs news h tk E' hi ⟨t, rfl⟩ ⟨at2, seed2, t12, t22, k2, rs, rfl, HH2, hat2, hzs, hlen2, hlim2⟩ hC hx F2 N2 off ne
        simp only [List.cons_append, List.nil_append] at N2 off
        obtain ⟨oH1, oH2, oH3⟩ := LCg.Off3.mem off _ (List.Mem.tail _ (List.Mem.tail _ (List.Mem.tail _ (List.Mem.head _))))
        k_fold
        k_steps
        refine Stopped2.mk ?_
        rename IsRange _ _ _ _ _ _ _ _ => R4
        rename Fr _ _ _ _ => F4
        rename News _ _ _ _ => N4
        refine ⟨_, _, _, _, _, _, _, sz, _, rfl, rfl, F4, N4, R4, (range_n (by omega)).1, (range_n (by omega)).2, (by rw [PySem.sizeLine_eq]; omega), fun g => rest_led (WaysJ [_, _, _, _, _, _] _ _ [_, _, _] (8 + 8 * (i : Int)) 256) ⟨_, _, _, _, _, [], rfl, HH2, by omega, IntsAre.nil, rfl, fun _ h => nomatch h⟩ ?_ ?_⟩
        · rintro j v2 I2 oI2 C2 oC2 D3 m₃ ys2 news2 h2 tk2 E2 hj ⟨t', rfl⟩ ⟨at3, seed3, t13, t23, k3, ks3, rfl, HH3, hat3, hys3, hlen3, hlim3⟩ hC2 hx2 F5 N5 off2 ne2
          simp only [List.cons_append, List.nil_append] at N5 off2
          obtain ⟨oH4, oH5, oH6⟩ := LCg.Off3.mem off2 _ (List.Mem.tail _ (List.Mem.tail _ (List.Mem.tail _ (List.Mem.tail _ (List.Mem.tail _ (List.Mem.tail _ (List.Mem.head _)))))))
          k_fold
          k_steps
          refine Stopped2.mk ?_
          exact ⟨h9, tk9, _, rfl, F9, N9, off2, trivial, ways_turn H9 (by omega) hys3 hlen3 hlim3 r91⟩
        · rintro ys2 news2 ⟨at3, seed3, t13, t23, k3, ks3, rfl, HH3, hat3, hys3, hlen3, hlim3⟩
          intro D4 h4 tk4 F5 N5 o5
          simp only [List.cons_append, List.nil_append] at N5 o5
          have hin : KBa.In ks3 := hlim3
          k_steps
          refine Stopped2.mk ?_
          rename Fr _ _ _ _ => F6
          rename News _ _ _ _ => N6
          exact ⟨_, _, _, rfl, F6, fun p hp => N6 p (.tail _ hp), off, trivial, rows_turn2 HH3 (by omega) hzs hlen2 hlim2 (KBa.ints_make hin) hlen3⟩
      · rintro zs news' ⟨at2, seed2, t12, t22, k2, rs, rfl, HH2, hat2, hzs, hlen2, hlim2⟩
        intro D2 h2 tk2 F5 N5 o5
        simp only [List.cons_append, List.nil_append] at N5 o5
        have oD2 := Hid.mk (off1_4 o5)
        have hat2' : at2 ≤ 48 := by omega
        have hkr : ks.length = rs.length := by omega
        have hr5 : rs.length ≤ 5 := by omega
        have hr1 : 1 ≤ rs.length := by omega
        have hr9 := Hid.mk hlen2
        clear hat2 hat' hlen hlen2
        dsimp only at F5
        clear N1 F1 R1
        k_steps
        refine Stopped2.mk ?_
        rename Fr _ _ _ _ => F1
        rename News _ _ _ _ => N1
        refine zip_src (JoinJ ks rs) rfl F1 N1 (.tail _ (.head _)) (.head _) (by rw [PySem.sizeLine_eq]; have := hys.length; omega) ⟨[], rfl, rfl, rfl⟩ ?_ ?_
        · rintro i a b z oz TI oTI TO oTO i1 oi1 i2 oi2 C oC D3 m₂ ys2 h3 tk3 E' ha hb ⟨prs, rfl, hp1, hp2⟩ hC hx1 hx2 F7 N7 off ne
          obtain ⟨kk, tt, rfl, hk1⟩ := ints_item hys ha
          obtain ⟨bb, tb, rfl, hr1⟩ := hzs.2 i b hb
          have hkk := hlim kk (List.mem_of_getElem? hk1)
          have hrr := hlim2 _ (List.mem_of_getElem? hr1)
          have hone := byte_one hkk
          generalize hbb : KBw.bInts bb = rr at hr1 hrr
          k_steps
          refine Stopped2.mk ?_
          rename Fr _ _ _ _ => F8
          rename News _ _ _ _ => N8
          rename KBw.bInts (_ ++ _) = _ => hcat
          exact ⟨_, _, _, rfl, F8, fun p hp => N8 p (.tail _ hp), off, trivial, rfl, join_turn hp1 hp2 hk1 hr1 hcat⟩
        · rintro D3 h3 tk3 ys3 F7 N7 o7 ⟨prs, rfl, hp1, hp2⟩
          k_steps
          have hcount : 1 ≤ prs.length ∧ prs.length ≤ 5 := by
            have := hys.length
            have := hzs.1
            omega
          clear hp1
          refine join_any (N7 _ (.head _)).1 hcount.1 (parts_size hp2 hlim2 hsz8 hcount.2) fun bd td tkd hbd => ?_
          have hD := data_ints hys hzs hp2 hbd
          have hDl := flat_small hkr hlim2 hsz8 hr5
          clear hbd hp2 hcount
          k_steps
          refine Stopped2.mk ?_
          rename Fr _ _ _ _ => F8
          rename News _ _ _ _ => N8
          refine undone_bytes F8 N8 rfl rfl (show ScopeKind.function ≠ ScopeKind.module by decide) _ _ ?p1 rfl ?p2 GG hD (IsShape.of_news N8 (by k_dflt k_memK) (by k_dflt k_memK) e91 e92) hsz1 hsz8 (by omega) (by omega) (law_whole hkr hlim2 hlim) ?_
          case p1 => with_unfolding_all exact (show (301 : Nat) + 1 + 10 < recursionLimit by decide)
          case p2 => with_unfolding_all exact (show (4 : Nat) + 3 + 80 < cLine by decide)
          intro bw tw hw tkw F10 N10 hW
          clear F8 N8
          obtain ⟨W, hWd, hW, hWl, hWb, hWin⟩ := whole_facts hkr hlim2 hsz8 hr5 hW
          have hWz := count_size hWl hr9
          have hszW : sz ≤ W.length := by
            rw [hWl]
            exact Nat.le_mul_of_pos_left sz hr1
          have hWl' := Hid.mk hWl
          clear hWl
          k_steps
          rename IsRange _ _ _ _ _ _ _ _ => R9
          rename Fr _ _ _ _ => F9
          rename News _ _ _ _ => N9
          refine iter_rangeLawO [Str.ofString "many"] rfl R9 (range_n' (n := (flatE ks rs).length + 1) (by omega)).1 (range_n' (n := (flatE ks rs).length + 1) (by omega)).2 F9 N9 ?_ ?_
          · intro k t u h9 tk9 o lt9 hk0 hk1 F11 N11
            obtain ⟨c, rfl⟩ := Int.eq_ofNat_of_zero_le hk0
            k_unmd
            k_steps
            refine Stopped2.mk ?_
            rename Fr _ _ _ _ => F12
            rename News _ _ _ _ => N12
            rename KBw.bInts (KBy.picked _ _ _) = _ => hcut
            refine undone_bytes F12 N12 rfl rfl (show ScopeKind.function ≠ ScopeKind.module by decide) _ _ ?p1 rfl ?p2 GG hcut (IsShape.of_news N12 (by k_dflt k_memK) (by k_dflt k_memK) e91 e92) hsz1 hsz8 (by omega) (by rw [List.length_take]; omega) (cut_res hWd hkr hlim2 hlim (by omega)) ?_
            case p1 => with_unfolding_all exact (show (301 : Nat) + 1 + 10 < recursionLimit by decide)
            case p2 => with_unfolding_all exact (show (4 : Nat) + 3 + 80 < cLine by decide)
            intro bc tc hc tkc F13 N13 hC
            clear F12 N12
            k_steps
            · refine Stopped2.mk ?_
              rename KBw.bInts (KBy.picked _ _ _) = _ => hpk
              refine ne_same (hC.trans ((cut_many c sz W).trans hpk.symm)) ?_
              k_steps
              refine Stopped2.mk ?_
              rename Fr _ _ _ _ => F14
              rename News _ _ _ _ => N14
              exact TurnEnd.intro F14 N14 (fun _ h => h) (turn_same (a := Str.ofString "many") (b := Str.ofString "cut"))
          · intro u h9 tk9 F11 N11
            clear hWz
            (rename (List.length _ : Int) = _ * _ => hx0; clear hx0)
            have hin2 := noughts_in (way := 2) (by omega) sz
            have hin4 := noughts_in (way := 4) (by omega) sz
            k_steps
            refine Stopped2.mk ?_
            rename Fr _ _ _ _ => F12
            rename News _ _ _ _ => N12
            rename KBw.bInts (_ ++ _) = _ => hcat
            refine undone_bytes F12 N12 rfl rfl (show ScopeKind.function ≠ ScopeKind.module by decide) _ _ ?p1 rfl ?p2 GG hcat (IsShape.of_news N12 (by k_dflt k_memK) (by k_dflt k_memK) e91 e92) hsz1 hsz8 (by omega) (nought_len hDl hsz8) (nought_res (.inl rfl) hWd hWl'.of (by omega) hr1 hkr hlim2 hlim) ?_
            case p1 => with_unfolding_all exact (show (301 : Nat) + 1 + 10 < recursionLimit by decide)
            case p2 => with_unfolding_all exact (show (4 : Nat) + 3 + 80 < cLine by decide)
            intro bc tc hc tkc F13 N13 hC
            clear F12 N12
            k_steps
            refine Stopped2.mk ?_
            rename KBw.bInts (KBy.picked _ _ _) = _ => hpk
            refine ne_same (hC.trans ?_) ?_
            · rename KBw.bInts (_ ++ _) = _ => hcat2
              exact (last_eq hszW).trans hcat2.symm
            have N20 := news_drop 4 N13
            simp only [List.drop_succ_cons, List.drop_zero] at N20
            clear N13
            (repeat (rename @LT.lt _ _ _ _ ∧ _ => hx0; clear hx0))
            (rename _ < (0 : Int) → _ => hx0; clear hx0)
            (rename (0 : Int) ≤ _ → _ => hx0; clear hx0)
            (rename List.length (List.flatten _) = _ => hx0; clear hx0)
            (rename (0 : Int) ≤ List.sum _ ∧ _ => hx0; clear hx0)
            k_steps
            refine Stopped2.mk ?_
            rename Fr _ _ _ _ => F12
            rename News _ _ _ _ => N12
            rename KBw.bInts (_ ++ _) = _ => hcat
            refine undone_bytes F12 N12 rfl rfl (show ScopeKind.function ≠ ScopeKind.module by decide) _ _ ?p1 rfl ?p2 GG hcat (IsShape.of_news N12 (by k_dflt k_memK) (by k_dflt k_memK) e91 e92) hsz1 hsz8 (by omega) (nought_len hDl hsz8) (nought_res (.inr rfl) hWd hWl'.of (by omega) hr1 hkr hlim2 hlim) ?_
            case p1 => with_unfolding_all exact (show (301 : Nat) + 1 + 10 < recursionLimit by decide)
            case p2 => with_unfolding_all exact (show (4 : Nat) + 3 + 80 < cLine by decide)
            intro bc4 tc4 hc4 tkc4 F13 N13 hC4
            clear F12 N12
            k_steps
            refine Stopped2.mk ?_
            rename KBw.bInts (KBy.picked _ _ _) = _ => hpk
            refine ne_same (hC4.trans ?_) ?_
            · rename KBw.bInts (_ ++ _) = _ => hcat2
              exact (last_eq hszW).trans hcat2.symm
            have N21 := news_drop 7 N13
            simp only [List.drop_succ_cons, List.drop_zero] at N21
            clear N13
            (repeat (rename @LT.lt _ _ _ _ ∧ _ => hx0; clear hx0))
            (rename _ < (0 : Int) → _ => hx0; clear hx0)
            (rename (0 : Int) ≤ _ → _ => hx0; clear hx0)
            (rename List.length (List.flatten _) = _ => hx0; clear hx0)
            (rename (0 : Int) ≤ List.sum _ ∧ _ => hx0; clear hx0)
            k_steps
            refine Stopped2.mk ?_
            rename Fr _ _ _ _ => F12
            rename News _ _ _ _ => N12
            rename KBw.bInts (KBy.picked _ _ _) = _ => hshort
            obtain ⟨S, hS, hSin, hSl⟩ := short_facts (W := W) (e := ((W.length : Int) - (r9 : Int))) hWin
            rw [← hS] at hshort
            have hSl2 : S.length ≤ 40 := by omega
            clear hSl
            (repeat (rename @LT.lt _ _ _ _ ∧ _ => hx0; clear hx0))
            refine applied_ok _ S _ _ x9 sz (1 + _) _ ?p1 rfl ?p2 (GG.keeps F12.keep) hshort (IsShape.of_news N12 (by k_dflt k_memK) (by k_dflt k_memK) e91 e92) hsz1 hsz8 (by omega) (by omega) (by omega) (by omega) ?_
            case p1 => with_unfolding_all exact (show (301 : Nat) + 1 + 5 < recursionLimit by decide)
            case p2 => with_unfolding_all exact (show (4 : Nat) + 3 + 40 < cLine by decide)
            intro ba ta ha tka ka hA
            have F13 := F12.keeps ka
            have N13 := N12.grown ka
            clear F12 N12
            k_steps
            refine Stopped2.mk ?_
            refine undone_bytes F13 N13 rfl rfl (show ScopeKind.function ≠ ScopeKind.module by decide) _ _ ?p1 rfl ?p2 GG hA (IsShape.of_news N13 (by k_dflt k_memK) (by k_dflt k_memK) e91 e92) hsz1 hsz8 (by omega) (app_small hSl2 hsz8) (law_round hsz1 (by omega) (by omega) hSin) ?_
            case p1 => with_unfolding_all exact (show (301 : Nat) + 1 + 10 < recursionLimit by decide)
            case p2 => with_unfolding_all exact (show (4 : Nat) + 3 + 80 < cLine by decide)
            intro bc5 tc5 hc5 tkc5 F14 N14 hC5
            clear F13 N13
            k_steps
            refine Stopped2.mk ?_
            refine ne_same (hC5.trans hshort.symm) ?_
            have N22 := news_drop 1 N14
            simp only [List.drop_succ_cons, List.drop_zero] at N22
            clear N14
            k_steps
            refine Stopped2.mk ?_
            rename Fr _ _ _ _ => F15
            rename News _ _ _ _ => N15
            rename KBw.bInts (_ ++ _) = _ => hcat6
            rename (_ : Int) < 1 + _ => hi6'
            have hi6 := nat_lt_of hi6' hr9
            obtain ⟨L6, hb6, hl6, hr6⟩ := bad_form hcat6 hDl r91 hkr hi6 hlim2 hlim
            clear hcat6
            refine undone_int F15 N15 rfl rfl (show ScopeKind.function ≠ ScopeKind.module by decide) _ _ ?p1 rfl ?p2 GG hb6 (IsShape.of_news N15 (by k_dflt k_memK) (by k_dflt k_memK) e91 e92) hsz1 hsz8 (by omega) hl6 (hr6 _) ?_
            case p1 => with_unfolding_all exact (show (301 : Nat) + 1 + 10 < recursionLimit by decide)
            case p2 => with_unfolding_all exact (show (4 : Nat) + 3 + 80 < cLine by decide)
            intro tc6 hc6 tkc6 F16 N16
            clear F15 N15
            k_steps)
end
local macro_rules | `(tactic| walk_at "MY-PAD") => `(tactic| skip)
local macro_rules | `(tactic| walk_at "MY-PAD") => `(tactic| skip)
local macro_rules | `(tactic| walk_at "MY-PAD") => `(tactic| skip)
local macro_rules | `(tactic| walk_at "MY-PAD") => `(tactic| skip)
local macro_rules | `(tactic| walk_at "MY-PAD") => `(tactic| skip)
local macro_rules | `(tactic| walk_at "MY-PAD") => `(tactic| skip)
local macro_rules | `(tactic| walk_at "MY-PAD") => `(tactic| skip)
local macro_rules | `(tactic| walk_at "MY-PAD") => `(tactic| skip)
local macro_rules | `(tactic| walk_at "MY-PAD") => `(tactic| skip)
local macro_rules | `(tactic| walk_at "MY-PAD") => `(tactic| skip)
local macro_rules | `(tactic| walk_at "MY-PAD") => `(tactic| skip)
local macro_rules | `(tactic| walk_at "MY-PAD") => `(tactic| skip)
local macro_rules | `(tactic| walk_at "MY-PAD") => `(tactic| skip)
local macro_rules | `(tactic| walk_at "MY-PAD") => `(tactic| skip)
local macro_rules | `(tactic| walk_at "MY-PAD") => `(tactic| skip)
local macro_rules | `(tactic| walk_at "MY-PAD") => `(tactic| skip)
local macro_rules | `(tactic| walk_at "MY-PAD") => `(tactic| skip)
end Mine

theorem PySem.Challenge.cw_qz0073_01_holds : PySem.Challenge.rw_qz0073_01.Holds := by
  exact Mine.law0
