import PyProof.Rows.All
import Wide.All
import OpenK.AllK
import Wide.FinOn
import Lean
import PySem.Challenge.RW_rh0265_01
open PySem PySem.W PySem.Calls PyProof.Rows
set_option Elab.async false
set_option maxRecDepth 100000
set_option maxHeartbeats 8000000
set_option linter.all false
namespace Mine
set_option maxRecDepth 100000 in
set_option maxHeartbeats 8000000 in
open_top hd for PySem.Challenge.rw_rh0265_01
-- part M1

/-- room for k more frames -/
structure Room (dp un k : Nat) : Prop where
  d : dp + k < recursionLimit
  u : un + 40 * k < cLine
theorem Room.sub {dp un k dp' un' : Nat} (r : Room dp un (k + 1)) (h1 : dp' ≤ dp + 1) (h2 : un' ≤ un + 40) : Room dp' un' k :=
  ⟨by have := r.d; omega, by have := r.u; omega⟩
theorem Room.one {dp un k : Nat} (r : Room dp un (k + 1)) : dp < recursionLimit := by have := r.d; omega

/-- (d, o) stands in the ledger, rest is the others, none of them at d -/
inductive Sel (d : Addr) (o : Obj) : List (Addr × Obj) → List (Addr × Obj) → Prop
  | head {r} : (∀ p ∈ r, p.1 ≠ d) → Sel d o ((d, o) :: r) r
  | tail {p r r'} : p.1 ≠ d → Sel d o r r' → Sel d o (p :: r) (p :: r')
theorem Sel.mem {d : Addr} {o : Obj} {l l' : List (Addr × Obj)} (h : Sel d o l l') : (d, o) ∈ l := by
  induction h with
  | head => exact .head _
  | tail _ _ ih => exact .tail _ ih
theorem Sel.sub {d : Addr} {o : Obj} {l l' : List (Addr × Obj)} (h : Sel d o l l') : ∀ p ∈ l', p ∈ l := by
  induction h with
  | head => exact fun p hp => .tail _ hp
  | tail _ _ ih =>
    intro p hp
    rcases List.mem_cons.mp hp with rfl | hp
    · exact .head _
    · exact .tail _ (ih p hp)
theorem Sel.ne {d : Addr} {o : Obj} {l l' : List (Addr × Obj)} (h : Sel d o l l') : ∀ p ∈ l', p.1 ≠ d := by
  induction h with
  | head h => exact h
  | tail h _ ih =>
    intro p hp
    rcases List.mem_cons.mp hp with rfl | hp
    · exact h
    · exact ih p hp

theorem news_app {h₀ h : Heap} {L : Addr} {l1 l2 : List (Addr × Obj)} (N1 : News h₀ L h l1) (N2 : News h₀ L h l2) : News h₀ L h (l1 ++ l2) :=
  fun p hp => (List.mem_append.mp hp).elim (N1 p) (N2 p)

section
variable {prog : Program} {w : World} {A₀ A : Around} {s : Shared} {base h₀ : Heap} {outer : List Env} {L : Addr} {m : Str → Option Value} {env : Env} {led rest : List (Addr × Obj)} {K : Frag}
  {p : Program} {loose : List Str} {mean : ExcName → Option Value} {mg mb : Str → Option Value}
  {R : Result → Shared → Prop} {name qual : Str} {params : Arguments} {body : List Stmt} {scope : Scope} {dV kV doc pm cdv ct oc : Value} {an od : Option Addr} {osl : Array (Option Value)} {f : Addr} {args : Args} {binds : List (Str × Value)}

theorem rest_kept {h₀ g h h' : Heap} {L L' : Addr} {m' : Str → Option Value} {rest : List (Addr × Obj)} (N : News h₀ L h rest) (F' : Fr g L' h' m') (hg : ∀ q ∈ rest, g.get? q.1 = some q.2) : News h₀ L h' rest :=
  fun q hq => ⟨F'.keep _ _ (hg q hq), (N q hq).2⟩

/-- a def is entered with a part of the ledger; the rest stands in its ground -/
theorem code_frame {mm : Str → Option Value} (B : Below A₀ base outer h₀) (F : Fr h₀ L s.heap m) (X₀ : K.In h₀) (N : News h₀ L s.heap (led ++ rest)) (T : Top p loose mean mg mb h₀)
    (hsep : ∀ q ∈ rest, ∀ a ∈ led, q.1 ≠ a.1) (hA : A.frames = some (env :: outer)) (hf : env.frame = some L) (hke : env.scope.kind = .function)
    (ho : K.lookup f = some ⟨oc, od, .func (fnOf name qual params body scope dV kV doc pm an cdv ct), osl⟩) (hcd : codeIn K cdv qual = true) (hroom : A.depth < recursionLimit)
    (hbind : BindsTo s (fnOf name qual params body scope dV kV doc pm an cdv ct) args binds) (hmm : (fun y => binds.reverse.lookup y) = mm) (hloc : ∀ y ∈ binds, scope.names.lookup y.1 = some .local)
    (h : ∀ g L' h₁, Fr h₀ L g m → Fr g L' h₁ mm → News g L' h₁ led → Below A base (env :: outer) g → K.In g → Top p loose mean mg mb g → (∀ q ∈ rest, g.get? q.1 = some q.2) → (∀ q ∈ led ++ rest, q.1 < L') →
      wpAny (model prog w) (A.deeper (envOf qual scope L' f cdv)) (execs body (envOf qual scope L' f cdv))
        (fun fl s' => LeaveK h₀ L m g (fun r s'' => News h₀ L s''.heap rest → R r s'') (match fl with | .ret v => v | _ => .none) s')
        (fun e s' => wpAny (model prog w) (A.deeper (envOf qual scope L' f cdv)) (leaving (envOf qual scope L' f cdv) e) (fun _ s'' => R (.error e) s'') (fun e' s'' => R (.error e') s'') s')
        { s with heap := h₁, toks := s.toks + binds.length })
    (hco : scope.isCoroutine = false) (hgen : scope.isGenerator = false) (hk : scope.kind = .function) (hcell : ∀ x ∈ scope.names, x.2 ≠ .cell) : codeAny (model prog w) A (.call (.ref f) args) R s := by
  subst hmm
  have NA : News h₀ L s.heap led := fun q hq => N q (List.mem_append_left _ hq)
  have NR : News h₀ L s.heap rest := fun q hq => N q (List.mem_append_right _ hq)
  obtain ⟨FG, BG, st, lv⟩ := groundX (R := R) B F NA hA hf hke
  have hrest : ∀ q ∈ rest, (hideAll s.heap (led.map (·.1))).get? q.1 = some q.2 := fun q hq => hideAll_get _ (NR q hq).1 fun hm => by
    obtain ⟨a, ha, e⟩ := List.mem_map.mp hm
    exact hsep q hq a ha e.symm
  refine codeAny_call_def (fd := fnOf name qual params body scope dV kV doc pm an cdv ct) (body := body) (binds := binds) hroom ((X₀.keeps F.keep) _ _ ho) rfl (T.nolimit.keeps F.keep) (codeRec_of (X₀.keeps F.keep) hcd) rfl hbind hcell hloc (fun h₁ hns hk₁ => ?_) hco hgen hk
  refine wpAny_mono (h _ s.heap.objs.size h₁ FG ⟨hns, fun b o e => hk₁ b o (of_hideAll _ e), Nat.le_of_eq (hideAll_size _ _)⟩
    (fun q hq => ⟨hk₁ _ _ (NA q hq).1, Nat.ne_of_lt (Heap.lt_size (NA q hq).1), hideAll_none _ (List.mem_map_of_mem hq)⟩) BG (X₀.keeps st) (T.keeps st) hrest (fun q hq => Heap.lt_size (N q hq).1)) (fun fl s' hl => ?_) fun _ _ y => y
  obtain ⟨L', m', news', F', N', k⟩ := hl
  exact lv _ _ ⟨L', m', news', F', N', fun F2 N2 => k F2 N2 (rest_kept NR F' hrest)⟩

theorem code_frameC {mm mc : Str → Option Value} (B : Below A₀ base outer h₀) (F : Fr h₀ L s.heap m) (X₀ : K.In h₀) (N : News h₀ L s.heap (led ++ rest)) (T : Top p loose mean mg mb h₀)
    (hsep : ∀ q ∈ rest, ∀ a ∈ led, q.1 ≠ a.1) (hA : A.frames = some (env :: outer)) (hf : env.frame = some L) (hke : env.scope.kind = .function)
    (ho : K.lookup f = some ⟨oc, od, .func (fnOf name qual params body scope dV kV doc pm an cdv ct), osl⟩) (hcd : codeIn K cdv qual = true) (hroom : A.depth < recursionLimit)
    (hbind : BindsTo s (fnOf name qual params body scope dV kV doc pm an cdv ct) args binds) (hmm : ∀ L', bindL (envOfC qual scope L' f cdv).kindOf binds (fun _ => none) = mm) (hmc : ∀ L', bindC (envOfC qual scope L' f cdv).kindOf binds (fun _ => none) = mc)
    (hkind : (binds.all fun y => scope.names.lookup y.1 == some .local || scope.names.lookup y.1 == some .cell) = true)
    (hnd : ((cellsFrom 0 scope.names []).map (·.1)).Nodup)
    (h : ∀ g L' h₁ tk cells, Fr h₀ L g m → Fr g L' h₁ mm → News g L' h₁ (cells ++ led) →
      CellsAre mc (cellsFrom (L' + 1) scope.names []) cells → Below A base (env :: outer) g → K.In g → Top p loose mean mg mb g → (∀ q ∈ rest, g.get? q.1 = some q.2) → (∀ q ∈ led ++ rest, q.1 < L') →
      wpAny (model prog w) (A.deeper (envOfC qual scope L' f cdv)) (execs body (envOfC qual scope L' f cdv))
        (fun fl s' => LeaveK h₀ L m g (fun r s'' => News h₀ L s''.heap rest → R r s'') (match fl with | .ret v => v | _ => .none) s')
        (fun e s' => wpAny (model prog w) (A.deeper (envOfC qual scope L' f cdv)) (leaving (envOfC qual scope L' f cdv) e) (fun _ s'' => R (.error e) s'') (fun e' s'' => R (.error e') s'') s')
        { s with heap := h₁, toks := tk })
    (hco : scope.isCoroutine = false) (hgen : scope.isGenerator = false) (hk : scope.kind = .function) : codeAny (model prog w) A (.call (.ref f) args) R s := by
  have NA : News h₀ L s.heap led := fun q hq => N q (List.mem_append_left _ hq)
  have NR : News h₀ L s.heap rest := fun q hq => N q (List.mem_append_right _ hq)
  obtain ⟨FG, BG, st, lv⟩ := groundX (R := R) B F NA hA hf hke
  have hrest : ∀ q ∈ rest, (hideAll s.heap (led.map (·.1))).get? q.1 = some q.2 := fun q hq => hideAll_get _ (NR q hq).1 fun hm => by
    obtain ⟨a, ha, e⟩ := List.mem_map.mp hm
    exact hsep q hq a ha e.symm
  refine codeAny_call_function hroom ((X₀.keeps F.keep) _ _ ho) rfl hco hgen rfl (codeRec_of (X₀.keeps F.keep) hcd) (hbind _ _ _ _ ?_)
  refine wpAny_newFunctionEnv_cells hk (kindsX hkind _) fun env' he s' x => ?_
  subst he
  refine ⟨(T.nolimit.keeps F.keep).keeps x.toInCall.keep, codeAny_func ?_⟩
  obtain ⟨h₁, tk, rfl, _⟩ := x.done
  have hk₁ := x.toInCall.keep
  obtain ⟨cells, NC, Y⟩ := Cl.news (h₀ := s.heap) (Nat.le_refl _) fun n c hm => ⟨x.cell n c (lookup_of_mem_nodup (cellsFrom_names scope.names 0 (s.heap.objs.size + 1) [] [] rfl ▸ hnd) hm), x.above n c hm⟩
  have Y' : CellsAre mc (cellsFrom (s.heap.objs.size + 1) scope.names []) cells := hmc s.heap.objs.size ▸ Y
  refine wpAny_mono (h _ s.heap.objs.size h₁ tk cells FG ⟨hmm s.heap.objs.size ▸ x.toInCall.ns, fun b o e => hk₁ b o (of_hideAll _ e), Nat.le_of_eq (hideAll_size _ _)⟩ (fun q hq => ?_) Y' BG (X₀.keeps st) (T.keeps st) hrest (fun q hq => Heap.lt_size (N q hq).1)) (fun fl s' hl => ?_) fun _ _ y => y
  · rcases List.mem_append.mp hq with hq | hq
    · refine ⟨(NC q hq).1, (NC q hq).2.1, ?_⟩
      cases e : (hideAll s.heap (led.map (·.1))).get? q.1 with
      | none => rfl
      | some o => have := of_hideAll _ e; rw [(NC q hq).2.2] at this; cases this
    · exact ⟨hk₁ _ _ (NA q hq).1, Nat.ne_of_lt (Heap.lt_size (NA q hq).1), hideAll_none _ (List.mem_map_of_mem hq)⟩
  · obtain ⟨L', m', news', F', N', k⟩ := hl
    exact lv _ _ ⟨L', m', news', F', N', fun F2 N2 => k F2 N2 (rest_kept NR F' hrest)⟩
end
/-- the posts and the rest of the state as letters: the terms stay small -/
theorem hide {α : Type} {M : Model} {A : Around} {t : Sem α} {Q : α → Shared → Prop} {E : Value → Shared → Prop} {h : Heap} {gn : Array GenState} {dr : Drawn} {tk : Nat} {os : OsState}
    (H : ∀ (Q' : α → Shared → Prop) (E' : Value → Shared → Prop) (g : Array GenState) (d : Drawn) (k : Nat) (o : OsState), (∀ v h' k', Q v ⟨h', gn, dr, k', os⟩ → Q' v ⟨h', g, d, k', o⟩) → (∀ e h' k', E e ⟨h', gn, dr, k', os⟩ → E' e ⟨h', g, d, k', o⟩) → wpAny M A t Q' E' ⟨h, g, d, k, o⟩) :
    wpAny M A t Q E ⟨h, gn, dr, tk, os⟩ := H Q E gn dr tk os (fun _ _ _ x => x) (fun _ _ _ x => x)
-- part M2
local macro_rules | `(tactic| walk_at $s:str) => `(tactic| k_extra $s)
noncomputable abbrev panO (p0 : Addr) (k : Int) (t : Tok) (n : Nat) : Obj := listOf #[.ref p0, .int k t] n

theorem map1 {x : Str} {v : Value} : (fun y => ([(x, v)] : List (Str × Value)).reverse.lookup y) = fun y => if y = x then some v else none := by
  funext y
  simp only [List.reverse_cons, List.reverse_nil, List.nil_append, List.lookup]
  by_cases h1 : y = x
  · subst h1; simp
  · rw [if_neg h1, beq_eq_false_iff_ne.mpr h1]
theorem map2 {x y : Str} {u v : Value} (_ : x ≠ y) : (fun z => ([(x, u), (y, v)] : List (Str × Value)).reverse.lookup z) = fun z => if z = y then some v else if z = x then some u else none := by
  funext z
  simp only [List.reverse_cons, List.reverse_nil, List.nil_append, List.cons_append, List.lookup]
  by_cases h1 : z = y
  · subst h1; simp
  · rw [if_neg h1, beq_eq_false_iff_ne.mpr h1]
    by_cases h2 : z = x
    · subst h2; simp
    · rw [if_neg h2, beq_eq_false_iff_ne.mpr h2]

theorem sep2 {rest r1 : List (Addr × Obj)} {a b : Addr} {oa ob : Obj} {news : List (Addr × Obj)} (h1 : Sel a oa news r1) (h2 : Sel b ob r1 rest) : ∀ q ∈ rest, ∀ x ∈ [(a, oa), (b, ob)], q.1 ≠ x.1 := by
  intro q hq x hx
  rcases List.mem_cons.mp hx with rfl | hx
  · exact h1.ne q (h2.sub q hq)
  · rw [List.mem_singleton.mp hx]; exact h2.ne q hq

section
variable {w : World} {dp un : Nat} {gd : Option (List Code)} {cn : Str} {cs : Scope} {a : Addr} {ccd : Value} {cl : List (Str × Addr)} {outer : List Env} {A₀ : Around} {base h₀ : Heap} {L : Addr} {m : Str → Option Value} {s : Shared}
    {loose : List Str} {mean : ExcName → Option Value} {mg mb : Str → Option Value} {Q E : Value → Shared → Prop}
    {pan p0 : Addr} {k many : Int} {t tm : Tok} {n0 n : Nat} {vs : List Value} {ns : List Int} {news r1 rest : List (Addr × Obj)}

theorem strewn_says 
    (B : Below A₀ base outer h₀) (F : Fr h₀ L s.heap m) (X : (Mine.hd.heap_39 w.params).In h₀) (N : News h₀ L s.heap news)
    (T : Top Mine.hd.view_39 loose mean mg mb h₀) (hk : cs.kind = .function)
    (S1 : Sel pan (panO p0 k t n) news r1) (S2 : Sel p0 (listOf vs.toArray n0) r1 rest) (hi : IntsAre vs ns)
    (h0 : 0 ≤ k) (hK : k < 1000) (hm : 0 < many) (hm2 : many < 1000) (hlen : ns.length ≤ 63)
    (hR : Room dp un 2)
    (ret : ∀ r t1 t' h' tk', 0 ≤ r → r < many → Fr h₀ L h' m → News h₀ L h' ((pan, panO p0 (k+1) t' n) :: (p0, listOf vs.toArray n0) :: rest) → Q (.int r t1) {s with heap := h', toks := tk'}) :
    wpAny (model PySem.Challenge.rw_rh0265_01.row.prog w) (ktrTop dp un gd cn cs L a ccd cl outer) (call (.ref 67) [.ref pan, .int many tm]) Q E s := by
  w_top off
  k_with_none
  k_with "my_frame" => (((case kA => exact rfl); (case kF => exact rfl); (case kK => assumption); (case ho => k_is); (case hcd => k_is); (case hroom => exact Room.one (by assumption)); (case hb => exact BindsTo.of_eq rfl); (case hloc => exact locs rfl); (case c2 => exact rfl); (case c3 => exact rfl); (case c4 => exact rfl); (case c5 => decide)))
  have hp0 : p0 ≠ pan := S1.ne _ S2.mem
  refine wpAny_call ?_
  k_dflt (refine' code_frame (led := [(pan, panO p0 k t n), (p0, listOf vs.toArray n0)]) (rest := rest) (binds := [(Str.ofString "pan", .ref pan), (Str.ofString "many", .int many tm)]) (mm := fun y => if y = Str.ofString "many" then some (.int many tm) else if y = Str.ofString "pan" then some (.ref pan) else none) B F X ?N T ?sep ?kA ?kF ?kK ?ho ?hcd ?hroom ?hb ?hmm ?hloc ?_ ?c2 ?c3 ?c4 ?c5; walk_at "my_frame")
  case sep => exact sep2 S1 S2
  case N => 
    intro p hp
    rcases List.mem_append.mp hp with hp | hp
    · rcases List.mem_cons.mp hp with rfl | hp
      · exact N _ S1.mem
      · rw [List.mem_singleton.mp hp]; exact N _ (S1.sub _ S2.mem)
    · exact N _ (S1.sub _ (S2.sub _ hp))
  case hmm => exact map2 (by decide)
  intro g' L' h' FG' F' N' B' X' T' R' lt'
  try dsimp only
  try k_fold
  refine hide (fun Qh Eh gh dh kh oh hQ hE => ?_)
  k_steps
  all_goals (refine hQ _ _ _ ?_; (try dsimp only); k_steps)
  all_goals exact ret _ _ _ _ _ (fmod_lo _ hm) (fmod_hi _ hm) (by assumption) (show News h₀ L _ ([(pan, _), (p0, _)] ++ rest) from news_app (by assumption) (by assumption))
end
-- part M3
/-- the text of these codes -/
noncomputable def textOf (cs : List Int) : Str := ⟨(cs.map Int.toNat).toArray⟩
noncomputable def kdName (kd : Nat) : Str := if kd = 0 then Str.ofString "name" else if kd = 1 then Str.ofString "text" else Str.ofString "raw"
/-- a piece of octets -/
inductive Pc where
  | word (i : Int)
  | sign (i : Int)
  | num (lo hi : Int)
  | txt (kd : Nat) (cs : List Int)
  | bad (os : List Int)
noncomputable def Pc.oct : Pc → List Int
  | .word i => [128 + i]
  | .sign i => [32 + i]
  | .num lo hi => [1, lo, hi]
  | .txt kd cs => ((kd : Int) + 2) :: (cs.length : Int) :: cs
  | .bad os => os
noncomputable def Pc.due : Pc → Dat
  | .word _ => .tuple [.str (Str.ofString "word"), .none]
  | .sign _ => .tuple [.str (Str.ofString "sign"), .none]
  | .num lo hi => .tuple [.str (Str.ofString "number"), .int (lo + 256 * hi)]
  | .txt kd cs => .tuple [.str (kdName kd), .str (textOf cs)]
  | .bad _ => .none
noncomputable def Pc.ok : Pc → Prop
  | .word i => 0 ≤ i ∧ i < 44
  | .sign i => 0 ≤ i ∧ i < 17
  | .num lo hi => 0 ≤ lo ∧ lo < 256 ∧ 0 ≤ hi ∧ hi < 256
  | .txt kd cs => kd < 3 ∧ cs.length ≤ 3 ∧ (∀ c ∈ cs, 65 ≤ c ∧ c < 91) ∧ (kd = 0 → cs ≠ [])
  | .bad os => os = [2, 0] ∨ os = [172] ∨ os = [255] ∨ os = [49] ∨ os = [127] ∨ os = [0] ∨ os = [5] ∨ os = [31]

/-- two addresses apart, unseen by omega -/
noncomputable def Apart (a b : Addr) : Prop := a ≠ b
theorem Apart.ne {a b : Addr} (h : Apart a b) : a ≠ b := h
theorem Apart.ne' {a b : Addr} (h : Apart a b) : b ≠ a := fun e => h e.symm
theorem Apart.eq (a b : Nat) : (a ≠ b) = Apart a b := rfl
-- the ledger's addresses: each fact apart, found by assumption
local macro_rules | `(tactic| k_lt $h) => `(tactic| ((replace $h := allLt_of $h); (simp only [AllLt, and_true] at $h:ident); (repeat (have hx := And.left $h; replace $h := And.right $h))))
local macro_rules | `(tactic| k_ne) => `(tactic| (refine neN ?_; (try dsimp only); first | assumption | exact Nat.ne_of_lt (by assumption) | exact Nat.ne_of_gt (by assumption) | exact Ne.symm (by assumption) | exact Apart.ne (by assumption) | exact Apart.ne' (by assumption)))
noncomputable abbrev below {x n : Int} (_ : x < n) : Int := x
theorem upto {n : Nat} {p : Int → Prop} (k : ∀ i : Fin n, p (i.1 : Int)) {r : Int} (h0 : 0 ≤ r) (h1 : r < n) : p r := by
  obtain ⟨j, rfl⟩ := Int.eq_ofNat_of_zero_le h0
  exact k ⟨j, Int.ofNat_lt.mp h1⟩
theorem nineW {r : Int} (h0 : 0 ≤ r) (h1 : r < 9) : r = 0 ∨ r = 1 ∨ r = 2 ∨ (3 ≤ r ∧ r < 6) ∨ r = 6 ∨ (7 ≤ r ∧ r < 9) := by
  have k : ∀ i : Fin 9, (i.1 : Int) = 0 ∨ (i.1 : Int) = 1 ∨ (i.1 : Int) = 2 ∨ (3 ≤ (i.1 : Int) ∧ (i.1 : Int) < 6) ∨ (i.1 : Int) = 6 ∨ (7 ≤ (i.1 : Int) ∧ (i.1 : Int) < 9) := by decide
  exact upto (p := fun r => r = 0 ∨ r = 1 ∨ r = 2 ∨ (3 ≤ r ∧ r < 6) ∨ r = 6 ∨ (7 ≤ r ∧ r < 9)) k h0 h1
theorem three {r : Int} (h0 : 0 ≤ r) (h1 : r < 3) : r = 0 ∨ r = 1 ∨ r = 2 := by omega
theorem seven {r : Int} (h0 : 0 ≤ r) (h1 : r < 7) : r = 0 ∨ r = 1 ∨ r = 2 ∨ r = 3 ∨ r = 4 ∨ r = 5 ∨ r = 6 := by
  have k : ∀ i : Fin 7, (i.1 : Int) = 0 ∨ (i.1 : Int) = 1 ∨ (i.1 : Int) = 2 ∨ (i.1 : Int) = 3 ∨ (i.1 : Int) = 4 ∨ (i.1 : Int) = 5 ∨ (i.1 : Int) = 6 := by decide
  exact upto (p := fun r => r = 0 ∨ r = 1 ∨ r = 2 ∨ r = 3 ∨ r = 4 ∨ r = 5 ∨ r = 6) k h0 h1

theorem in345 {prog : Program} {w : World} {A : Around} {E : Value → Shared → Prop} {s : Shared} {t : Addr} {items : Array Value} {x : Int} {u : Tok} {Q : Value → Shared → Prop} (ht : IsTup s.heap t items) (hi : IntsAre items.toList [3, 4, 5])
    (h : Q (.bool (decide (3 ≤ x ∧ x < 6))) s) : wpAny (model prog w) A (compareOp .In (.int x u) (.ref t)) Q E s := by
  refine in_tuple_ints ht hi ?_
  have e : ([3, 4, 5] : List Int).any (· == x) = decide (3 ≤ x ∧ x < 6) := by
    rw [Bool.eq_iff_iff]
    simp only [List.any_cons, List.any_nil, Bool.or_false, Bool.or_eq_true, beq_iff_eq, decide_eq_true_eq]
    omega
  rw [e]; exact h
noncomputable abbrev badL : List Int := [172, 255, 49, 127, 0, 5, 31]
theorem bad_ok {r : Int} (h0 : 0 ≤ r) (h1 : r < 7) : Pc.ok (.bad [badL.getD r.toNat 0]) := by
  rcases seven h0 h1 with e | e | e | e | e | e | e <;> subst e
  · exact .inr (.inl rfl)
  · exact .inr (.inr (.inl rfl))
  · exact .inr (.inr (.inr (.inl rfl)))
  · exact .inr (.inr (.inr (.inr (.inl rfl))))
  · exact .inr (.inr (.inr (.inr (.inr (.inl rfl)))))
  · exact .inr (.inr (.inr (.inr (.inr (.inr (.inl rfl))))))
  · exact .inr (.inr (.inr (.inr (.inr (.inr (.inr rfl))))))
noncomputable abbrev kdL : List Str := [Str.ofString "name", Str.ofString "text", Str.ofString "raw"]
theorem kd_dat {news : List (Addr × Obj)} {r : Int} {t : Tok} (h0 : 3 ≤ r) (h1 : r < 6) : DatIn news (.str (kdL.getD (r - 3).toNat Str.empty) t) (.str (kdName (r - 3).toNat)) := by
  have e : r = 3 ∨ r = 4 ∨ r = 5 := by omega
  rcases e with e | e | e <;> subst e <;> exact .str _ _
theorem txt_ok {r r' : Int} {cs : List Int} (h0 : 3 ≤ r) (h1 : r < 6) (g0 : 0 ≤ r') (g1 : r' < 3) (hl : cs.length = ((if (r == 3) = true then 1 else 0) + r' - 0).toNat) (hb : ∀ c ∈ cs, 65 ≤ c ∧ c < 91) : Pc.ok (.txt (r - 3).toNat cs) := by
  have hc : r = 3 ∨ r = 4 ∨ r = 5 := by omega
  rcases hc with e | e | e <;> subst e <;> simp at hl
  · exact ⟨by decide, by omega, hb, fun _ e => by rw [e, List.length_nil] at hl; omega⟩
  · exact ⟨by decide, by omega, hb, fun e => absurd e (by decide)⟩
  · exact ⟨by decide, by omega, hb, fun e => absurd e (by decide)⟩
theorem txt_iar {us : List Value} {r n : Int} {cs : List Int} (h0 : 3 ≤ r) (hn : n = cs.length) (hi : IntsAre us ((r - 1) :: n :: cs)) : IntsAre us (Pc.txt (r - 3).toNat cs).oct := by
  have e : (((r - 3).toNat : Nat) : Int) + 2 = r - 1 := by omega
  show IntsAre us (((((r - 3).toNat : Nat) : Int) + 2) :: (cs.length : Int) :: cs)
  rw [e, ← hn]; exact hi
theorem ints_snoc {y : Int} {t : Tok} : ∀ {vs : List Value} {ys : List Int}, IntsAre vs ys → IntsAre (vs ++ [.int y t]) (ys ++ [y])
  | _, _, .nil => .cons y t .nil
  | _, _, .cons z u r => .cons z u (ints_snoc r)
section
variable {prog : Program} {w : World} {A : Around} {h₀ : Heap} {L : Addr} {m : Str → Option Value} {env : Env} {elt : Expr} {x : Str} {scope : Scope} {cl : List (Str × Addr)} {s : Shared} {P : Nat → Value → Prop} {Fin : List Value → List (Addr × Obj) → Prop} {led : List (Addr × Obj)}
  {pan p0 : Addr} {nn : Nat}
/-- a list of draws by a comprehension: each turn draws once -/
theorem draws_rest {n : Nat} {k₀ : Int} {t₀ : Tok} (h0 : 0 ≤ k₀)
    (turn : ∀ k t v I oI C oC D m₂ ys h tk (E' : Value → Shared → Prop), k₀ ≤ k → k < k₀ + n → LCg.NsObj oC m₂ → m₂ x = some v → Fr h₀ L h m → News h₀ L h ((I, oI) :: (C, oC) :: (D, LCg.lst ys) :: (pan, panO p0 k t nn) :: led) → LCg.Off3 I C D ((pan, panO p0 k t nn) :: led) → ((@Ne Nat I C) ∧ (@Ne Nat I D) ∧ (@Ne Nat C D)) →
      wpAny (model prog w) A (eval elt (compEnvC scope cl C env)) (LCg.CompEnd h₀ L m { s with heap := h, toks := tk } I oI C oC D (LCg.lst ys) (fun _ => True) (fun y news' => ∃ c t1 t', y = .int c t1 ∧ 65 ≤ c ∧ c < 91 ∧ news' = (pan, panO p0 (k + 1) t' nn) :: led)) E' { s with heap := h, toks := tk })
    (fin : ∀ ys cs t', IntsAre ys cs → cs.length = n → (∀ c ∈ cs, 65 ≤ c ∧ c < 91) → Fin ys ((pan, panO p0 (k₀ + n) t' nn) :: led)) :
    LCg.CompRest prog w A h₀ L m env elt x scope cl s (fun _ => True) P Fin n 0 [] ((pan, panO p0 k₀ t₀ nn) :: led) := by
  have key : ∀ (j i : Nat) (ys : List Value) (cs : List Int) (t : Tok), i + j = n → IntsAre ys cs → cs.length = i → (∀ c ∈ cs, 65 ≤ c ∧ c < 91) →
      LCg.CompRest prog w A h₀ L m env elt x scope cl s (fun _ => True) P Fin j i ys ((pan, panO p0 (k₀ + i) t nn) :: led) := by
    intro j
    induction j with
    | zero =>
      intro i ys cs t hi hy hl hc
      have e : i = n := by omega
      subst e
      exact LCg.CompRest.zero (fin ys cs t hy hl hc)
    | succ j ih =>
      intro i ys cs t hi hy hl hc
      refine LCg.CompRest.succ ?_
      intro v I oI C oC D m₂ h tk E' hv hC hx F N off ne
      refine wpAny_mono (turn (k₀ + i) t v I oI C oC D m₂ ys h tk E' (by omega) (by omega) hC hx F N off ne) (fun y s₂ hq => ?_) fun _ _ e => e
      obtain ⟨h', tk', nw, e, F', N', off', hS, c, t1, t', rfl, l1, l2, rfl⟩ := hq
      refine ⟨h', tk', _, e, F', N', off', trivial, ?_⟩
      have := ih (i + 1) (ys ++ [.int c t1]) (cs ++ [c]) t' (by omega) (ints_snoc hy) (by simp [hl]) (fun z hz => by
        rcases List.mem_append.mp hz with hz | hz
        · exact hc z hz
        · rw [List.mem_singleton.mp hz]; exact ⟨l1, l2⟩)
      rw [show k₀ + ((i + 1 : Nat) : Int) = k₀ + i + 1 by omega] at this
      exact this
  have := key n 0 [] [] t₀ (by omega) .nil rfl (fun _ h => nomatch h)
  rw [show k₀ + ((0 : Nat) : Int) = k₀ by omega] at this
  exact this
end
-- a comprehension of draws
theorem chr_in {cs : List Int} {c : Int} (hb : ∀ c ∈ cs, 65 ≤ c ∧ c < 91) (hc : c ∈ cs) : 0 ≤ c ∧ c ≤ 1114111 := by have := hb c hc; omega

section
theorem news_pick {h₀ h : Heap} {L a : Addr} {o : Obj} {all r : List (Addr × Obj)} (N : News h₀ L h all) (hm : (a, o) ∈ all) (R : News h₀ L h r) : News h₀ L h ((a, o) :: r) := fun p hp => by
  rcases List.mem_cons.mp hp with rfl | hp
  · exact N _ hm
  · exact R p hp
theorem join_fold : ∀ (r : List Int) (acc : Array Nat), (r.map fun a => (⟨#[a.toNat]⟩ : Str)).foldl (fun acc p => acc ++ (Str.ofString "").cps ++ p.cps) acc = acc ++ (r.map Int.toNat).toArray
  | [], acc => by simp
  | c :: r, acc => by
    have e : (Str.ofString "").cps = #[] := by decide
    rw [List.map_cons, List.foldl_cons, join_fold r, e]
    simp
theorem join_codes (cs : List Int) : Txt.join (Str.ofString "") (cs.map fun a => (⟨#[a.toNat]⟩ : Str)) = textOf cs := by
  unfold Txt.join
  cases cs with
  | nil => rfl
  | cons c r =>
    show (⟨(r.map fun a => (⟨#[a.toNat]⟩ : Str)).foldl (fun acc p => acc ++ (Str.ofString "").cps ++ p.cps) #[c.toNat]⟩ : Str) = _
    rw [join_fold]
    unfold textOf
    simp
theorem dat_codes {news : List (Addr × Obj)} {cs : List Int} {t : Tok} : DatIn news (.str (Txt.join (Str.ofString "") (cs.map fun a => (⟨#[a.toNat]⟩ : Str))) t) (.str (textOf cs)) := join_codes cs ▸ .str _ _
section
variable {w : World} {dp un : Nat} {gd : Option (List Code)} {cn : Str} {cs : Scope} {a : Addr} {ccd : Value} {cl : List (Str × Addr)} {outer : List Env} {A₀ : Around} {base h₀ : Heap} {L : Addr} {m : Str → Option Value} {s : Shared}
    {loose : List Str} {mean : ExcName → Option Value} {mg mb : Str → Option Value} {Q E : Value → Shared → Prop}
    {pan p0 : Addr} {k : Int} {t : Tok} {n0 n : Nat} {vs : List Value} {ns : List Int} {news r1 rest : List (Addr × Obj)}

theorem piece_says
    (B : Below A₀ base outer h₀) (F : Fr h₀ L s.heap m) (X : (Mine.hd.heap_39 w.params).In h₀) (N : News h₀ L s.heap news)
    (T : Top Mine.hd.view_39 loose mean mg mb h₀) (hk : cs.kind = .function)
    (S1 : Sel pan (panO p0 k t n) news r1) (S2 : Sel p0 (listOf vs.toArray n0) r1 rest) (hi : IntsAre vs ns)
    (h0 : 0 ≤ k) (hK : k < 900) (hlen : ns.length ≤ 63) (hR : Room dp un 3)
    (ret : ∀ (P : Pc) tp oc tv us c extra (k' : Int) t' b h' tk', P.ok → IntsAre us P.oct → DatIn extra tv P.due → k ≤ k' → k' ≤ k + 8 → (∀ q ∈ (pan, panO p0 k t n) :: (p0, listOf vs.toArray n0) :: rest, q.1 < b) → b ≤ tp → b ≤ oc → (∀ e ∈ extra, b ≤ e.1) → tp ≠ oc →
      Fr h₀ L h' m → News h₀ L h' ((tp, { cls := .type "tuple", data := .seq #[.ref oc, tv] }) :: (oc, listOf us.toArray c) :: (extra ++ ((pan, panO p0 k' t' n) :: (p0, listOf vs.toArray n0) :: rest))) → Q (.ref tp) {s with heap := h', toks := tk'}) :
    wpAny (model PySem.Challenge.rw_rh0265_01.row.prog w) (ktrTop dp un gd cn cs L a ccd cl outer) (call (.ref 72) [.ref pan]) Q E s := by
  w_top off
  k_with "my_sel" => (first | (refine' Sel.head ?aw2; (case aw2 => k_all)) | (refine' Sel.tail ?aw2 ?bw2; (case aw2 => k_ne); (case bw2 => walk_at "my_sel")))
  k_with "ite" => ((k_closed; k_dflt (first | (refine' ite_pos ?hcw3 ?_; (case hcw3 => decide)) | (refine' ite_neg ?hcw3 ?_; (case hcw3 => decide)))))
  k_with "my_strewn" => ((k_dflt (refine' strewn_says ?k1w4 ?k2w4 ?k3w4 ?k4w4 ?k5w4 ?k6w4 ?S1w4 ?S2w4 ?kiw4 ?h0w4 ?hKw4 ?hmw4 ?hm2w4 ?hlenw4 ?hRw4 ?_; (case k1w4 => k_asm); (case k2w4 => k_asm); (case k3w4 => k_asm); (case k4w4 => k_asm); (case k5w4 => k_asm); (case k6w4 => first | exact rfl | assumption); (case S1w4 => walk_at "my_sel"); (case S2w4 => walk_at "my_sel"); (case kiw4 => assumption); (case h0w4 => omega); (case hKw4 => omega); (case hmw4 => decide); (case hm2w4 => decide); (case hlenw4 => assumption); (case hRw4 => exact Room.sub (by assumption) (Nat.le_refl _) (Nat.add_le_add_left (by decide) _)); k_whole)))
  k_with "call ref" => ((k_here; (with_reducible show wpAny _ _ (call (Value.ref 67) [Value.ref _, Value.int _ _]) _ _ _); walk_at "my_strewn"; intro r'w5 t1'w5 t'w5 h'w5 tk'w5 lo'w5 hi'w5 F'w5 N'w5; (try dsimp only); (try k_sweep)))
  k_with "call ref" => ((k_here; (with_reducible show wpAny _ _ (call (Value.ref 67) [Value.ref _, Value.int 9 _]) _ _ _); walk_at "my_strewn"; intro r'w6 t1'w6 t'w6 h'w6 tk'w6 lo'w6 hi'w6 F'w6 N'w6; (try dsimp only); (try k_sweep); (rcases nineW lo'w6 hi'w6 with e' | e' | e' | e' | e' | e' <;> (first | subst e' | (have lo2'w6 := e'.1; have hi2'w6 := e'.2; clear e')) <;> clear lo'w6 hi'w6)))
  k_with "newTuple" => ((k_here; k_dflt (refine' kup_newTuple ?Fw7 ?Nw7 ?_ ?zw7; (case Fw7 => k_asm); (case Nw7 => k_asm); (case zw7 => first | decide | kmk_size)); intro D'w7 h'w7 F'w7 N'w7 l1w7; (try k_lt l1w7); (try k_sweep)))
  k_with "my_frameC" => (((case kA => exact rfl); (case kF => exact rfl); (case kK => assumption); (case ho => k_is); (case hcd => k_is); (case hroom => exact Room.one (by assumption)); (case hb => exact BindsTo.of_eq rfl); (case hmm => exact fun _ => rfl); (case hmc => exact fun _ => rfl); (case hkd => exact rfl); (case hnd => decide +kernel); (case c2 => exact rfl); (case c3 => exact rfl); (case c4 => exact rfl)))
  k_with "exec Assign cons ListComp" => ((k_here; k_dflt (refine LCg.Assign_ListComp_U (F₀ := by k_asm) (by rfl) (by with_unfolding_all rfl) (by with_unfolding_all rfl) (by decide) (by rfl) (by decide) (by rfl) (by rfl) (by rfl) ?_)))
  k_with "eval ListComp" => ((k_here; k_dflt (refine LCg.ListComp_U (F₀ := by k_asm) (by with_unfolding_all rfl) (by decide) (by rfl) (by decide) (by rfl) ?_)))
  k_with "CompSrc" => ((k_here; k_dflt (refine LCg.CompSrc.ledger (by rfl) (by k_asm) (by k_asm) (by k_mem) (by size_fits) ?_; intro g'w11; (refine' kct_list (fun cw11 => (⟨#[cw11.toNat]⟩ : Str)) (by assumption) (fun k'w11 t'w11 I'w11 oI'w11 C'w11 oC'w11 D'w11 m'w11 ys'w11 h'w11 tk'w11 E'w11 hk'w11 hC'w11 hx'w11 F'w11 N'w11 off'w11 ne'w11 mk'w11 => ?_) ?_); (all_goals (try k_fold)))))
  k_with "CompSrc" => ((k_here; k_dflt (refine LCg.CompSrc.range (by rfl) (by k_asm) (by k_asm) (by assumption) (by exact small_one (by omega) (by omega) (by omega) (by omega)) (by exact rangeSize_nat _ _) (by rw [PySem.sizeLine_eq]; omega) ?_; intro g'w12; refine' draws_rest (by omega) (fun k'w12 t'w12 v'w12 I'w12 oI'w12 C'w12 oC'w12 D'w12 m'w12 ys'w12 h'w12 tk'w12 E'w12 lo'w12 hi'w12 hC'w12 hx'w12 F'w12 N'w12 off'w12 ne'w12 => ?_) (fun ys'w12 cs'w12 t'w12 is'w12 ln'w12 bd'w12 => ?_); (all_goals (try (have hxw12 := off'w12; simp only [LCg.Off3, and_true, Apart.eq] at hxw12; simp only [Apart.eq] at ne'w12; (repeat (have hyw12 := And.left hxw12; replace hxw12 := And.right hxw12; obtain ⟨_, _, _⟩ := hyw12)); obtain ⟨_, _, _⟩ := hxw12; obtain ⟨_, _, _⟩ := ne'w12))); (all_goals (try k_fold)))))
  k_with "CompEnd" => ((k_dflt (refine' LCg.CompEnd.intro ?Fw13 ?Nw13 _ ?subw13 ?offw13 True.intro ⟨_, _, _, rfl, ?aw13, ?bw13, rfl⟩; (case Fw13 => assumption); (case Nw13 => assumption); (case subw13 => lcg_sub); (case offw13 => assumption); (case aw13 => omega); (case bw13 => omega))))
  k_with "call builtin:chr" => ((refine chr_of_range (chr_in (by assumption) (by assumption)).1 (chr_in (by assumption) (by assumption)).2 ?_))
  k_with "call builtin:str.joinx" => ((k_here; k_dflt (refine' join_list ?hlw15 ?hiw15 ?hokw15 ?_; (case hlw15 => is_list); (case hiw15 => repeat constructor); (case hokw15 => decide); k_whole); intro t'w15 tk'w15; (try dsimp only)))
  k_with "CompEnd" => ((k_dflt (refine' LCg.CompEnd.intro ?Fw16 ?Nw16 _ ?subw16 ?offw16 ?srcw16 (kct_el rfl rfl rfl); (case Fw16 => assumption); (case Nw16 => assumption); (case subw16 => lcg_sub); (case offw16 => assumption); (case srcw16 => lcg_src))))
  k_with "ite" => ((k_dflt (first | (refine' ite_pos ?hcw17 ?_; (case hcw17 => (simp only [beq_iff_eq, decide_eq_true_eq]; omega))) | (refine' ite_neg ?hcw17 ?_; (case hcw17 => (simp only [beq_iff_eq, decide_eq_true_eq]; omega))))))
  k_with "compareOp In int ref" => ((k_here; k_dflt (refine' in345 ?tw18 ?iw18 ?_; (case tw18 => exact News.isTup (by k_asm) (by k_mem)); (case iw18 => repeat constructor))))
  k_with "subscriptTail" => ((k_here; (with_reducible show wpAny _ _ (subscriptTail (PySem.Expr.List _ _) _ (Value.ref _) (Value.int _ _)) _ _ _); k_dflt (refine' item_list_intsR (ns := badL) ?lw19 ?iw19 ?h0w19 ?h1w19 ?hfw19 ?_; (case lw19 => is_list); (case iw19 => repeat constructor); (case h0w19 => omega); (case h1w19 => (show _ < (7 : Int); omega)); (case hfw19 => omega)); intro t'w19))
  k_with "subscriptTail" => ((k_here; (with_reducible show wpAny _ _ (subscriptTail (PySem.Expr.List _ _) _ (Value.ref _) (Value.int _ _)) _ _ _); k_dflt (refine' item_strsR (ys := kdL) ?lw20 ?iw20 ?h0w20 ?h1w20 ?hfw20 ?_; (case lw20 => is_list); (case iw20 => repeat constructor); (case h0w20 => omega); (case h1w20 => (show _ < (3 : Int); omega)); (case hfw20 => omega)); intro t'w20))
  k_with "FinE" => (((unfold LCg.FinE); intro D'w21 h'w21 tk'w21 F'w21 N'w21 o1'w21; clear o1'w21; (try simp only [List.nil_append, List.cons_append] at N'w21); (try dsimp only)))
  k_with "FinA" => (((unfold LCg.FinA); intro D'w22 h'w22 tk'w22 F'w22 N'w22 o1'w22; clear o1'w22; (try simp only [List.nil_append, List.cons_append] at N'w22); (try dsimp only)))
  k_with "ite" => ((k_dflt (first | (refine' ite_pos ?hcw23 ?_; (case hcw23 => (simp only [beq_iff_eq, decide_eq_true_eq]; omega))) | (refine' ite_neg ?hcw23 ?_; (case hcw23 => (simp only [beq_iff_eq, decide_eq_true_eq]; omega))))))
  k_with "compareOp In int ref" => ((k_here; k_dflt (refine' in345 ?tw24 ?iw24 ?_; (case tw24 => exact News.isTup (by k_asm) (by k_mem)); (case iw24 => repeat constructor))))
  k_with "subscriptTail" => ((k_here; (with_reducible show wpAny _ _ (subscriptTail (PySem.Expr.List _ _) _ (Value.ref _) (Value.int _ _)) _ _ _); k_dflt (refine' item_list_intsR (ns := badL) ?lw25 ?iw25 ?h0w25 ?h1w25 ?hfw25 ?_; (case lw25 => is_list); (case iw25 => repeat constructor); (case h0w25 => omega); (case h1w25 => (show _ < (7 : Int); omega)); (case hfw25 => omega)); intro t'w25))
  k_with "subscriptTail" => ((k_here; (with_reducible show wpAny _ _ (subscriptTail (PySem.Expr.List _ _) _ (Value.ref _) (Value.int _ _)) _ _ _); k_dflt (refine' item_strsR (ys := kdL) ?lw26 ?iw26 ?h0w26 ?h1w26 ?hfw26 ?_; (case lw26 => is_list); (case iw26 => repeat constructor); (case h0w26 => omega); (case h1w26 => (show _ < (3 : Int); omega)); (case hfw26 => omega)); intro t'w26))
  k_with "FinE" => (((unfold LCg.FinE); intro D'w27 h'w27 tk'w27 F'w27 N'w27 o1'w27; clear o1'w27; (try simp only [List.nil_append, List.cons_append] at N'w27); (try dsimp only)))
  k_with "FinA" => (((unfold LCg.FinA); intro D'w28 h'w28 tk'w28 F'w28 N'w28 o1'w28; clear o1'w28; (try simp only [List.nil_append, List.cons_append] at N'w28); (try dsimp only)))
  have hp0 : p0 ≠ pan := S1.ne _ S2.mem
  refine wpAny_call ?_
  k_dflt (refine' code_frameC (led := [(pan, panO p0 k t n), (p0, listOf vs.toArray n0)]) (rest := rest) (binds := [(Str.ofString "pan", .ref pan)]) (mm := fun y => none) (mc := fun y => if y = Str.ofString "pan" then some (.ref pan) else none) B F X ?N T ?sep ?kA ?kF ?kK ?ho ?hcd ?hroom ?hb ?hmm ?hmc ?hkd ?hnd ?_ ?c2 ?c3 ?c4; walk_at "my_frameC")
  case sep => exact sep2 S1 S2
  case N => 
    intro p hp
    rcases List.mem_append.mp hp with hp | hp
    · rcases List.mem_cons.mp hp with rfl | hp
      · exact N _ S1.mem
      · rw [List.mem_singleton.mp hp]; exact N _ (S1.sub _ S2.mem)
    · exact N _ (S1.sub _ (S2.sub _ hp))
  intro g' L' h' tk' cells' FG' F' N' Y' B' X' T' R' lt'
  have l1 : ∀ q ∈ [(pan, panO p0 k t n), (p0, listOf vs.toArray n0)], q.1 < L' := fun q hq => lt' q (List.mem_append_left _ hq)
  k_lt l1
  clear N S1 S2 F R'
  obtain ⟨o', hE', d1'⟩ := CellsAre.one Y'
  subst hE'
  clear Y'
  simp only [List.cons_append, List.nil_append] at N'
  try dsimp only
  try k_fold
  refine hide (fun Qh Eh gh dh kh oh hQ hE => ?_)
  k_steps
  all_goals (refine hQ _ _ _ ?_; (try dsimp only); k_steps)
  · rename News _ _ _ _ => hRest
    rename News _ _ _ (_ :: _) => hN
    refine' ret (.word _) _ _ _ _ _ [(_, _)] _ _ L' _ _ ?ok ?iar ?dat ?k1 ?k2 lt' ?b1 ?b2 ?b3 ?ne (by assumption) (news_pick hN ?m1 (news_pick hN ?m2 (news_pick hN ?m3 (news_pick hN ?m4 (news_pick hN ?m5 hRest)))))
    case m1 => k_mem
    case m2 => k_mem
    case m3 => exact .tail _ (.head _)
    case m4 => k_mem
    case m5 => k_mem
    case iar => exact .cons _ _ .nil
    case dat => exact DatIn.tuple (List.Mem.head _) (.cons (.str _ _) (.cons .none .nil))
    case ok => exact ⟨by assumption, by assumption⟩
    case k1 => omega
    case k2 => omega
    case b1 => exact Nat.le_of_lt (Nat.lt_of_succ_lt (by assumption))
    case b2 => exact Nat.le_of_lt (Nat.lt_of_succ_lt (by assumption))
    case b3 => exact fun e he => by rw [List.mem_singleton.mp he]; exact Nat.le_of_lt (Nat.lt_of_succ_lt (by assumption))
    case ne => k_ne
  · rename News _ _ _ _ => hRest
    rename News _ _ _ (_ :: _) => hN
    refine' ret (.sign _) _ _ _ _ _ [(_, _)] _ _ L' _ _ ?ok ?iar ?dat ?k1 ?k2 lt' ?b1 ?b2 ?b3 ?ne (by assumption) (news_pick hN ?m1 (news_pick hN ?m2 (news_pick hN ?m3 (news_pick hN ?m4 (news_pick hN ?m5 hRest)))))
    case m1 => k_mem
    case m2 => k_mem
    case m3 => exact .tail _ (.head _)
    case m4 => k_mem
    case m5 => k_mem
    case iar => exact .cons _ _ .nil
    case dat => exact DatIn.tuple (List.Mem.head _) (.cons (.str _ _) (.cons .none .nil))
    case ok => exact ⟨by assumption, by assumption⟩
    case k1 => omega
    case k2 => omega
    case b1 => exact Nat.le_of_lt (Nat.lt_of_succ_lt (by assumption))
    case b2 => exact Nat.le_of_lt (Nat.lt_of_succ_lt (by assumption))
    case b3 => exact fun e he => by rw [List.mem_singleton.mp he]; exact Nat.le_of_lt (Nat.lt_of_succ_lt (by assumption))
    case ne => k_ne
  · rename News _ _ _ _ => hRest
    rename News _ _ _ (_ :: _) => hN
    rename _ < (256 : Int) => u2
    revert u2
    rename _ < (256 : Int) => u1
    intro u2
    refine' ret (.num (below u1) (below u2)) _ _ _ _ _ [(_, _)] _ _ L' _ _ ?ok ?iar ?dat ?k1 ?k2 lt' ?b1 ?b2 ?b3 ?ne (by assumption) (news_pick hN ?m1 (news_pick hN ?m2 (news_pick hN ?m3 (news_pick hN ?m4 (news_pick hN ?m5 hRest)))))
    case m1 => k_mem
    case m2 => k_mem
    case m3 => exact .tail _ (.head _)
    case m4 => k_mem
    case m5 => k_mem
    case iar => exact .cons _ _ (.cons _ _ (.cons _ _ .nil))
    case dat => exact DatIn.tuple (List.Mem.head _) (.cons (.str _ _) (.cons (.int _ _) .nil))
    case ok => exact ⟨by assumption, u1, by assumption, u2⟩
    case k1 => omega
    case k2 => omega
    case b1 => exact Nat.le_of_lt (Nat.lt_of_succ_lt (by assumption))
    case b2 => exact Nat.le_of_lt (Nat.lt_of_succ_lt (by assumption))
    case b3 => exact fun e he => by rw [List.mem_singleton.mp he]; exact Nat.le_of_lt (Nat.lt_of_succ_lt (by assumption))
    case ne => k_ne
  · rename News _ _ _ _ => hRest
    rename News _ _ _ (_ :: _) => hN
    rename List Int => cs2
    rename IntsAre _ (_ ++ _) => hIA
    rename List.length _ = Int.toNat _ => hLn
    rename ∀ c ∈ _, 65 ≤ c ∧ c < 91 => hBd
    rename (3 : Int) ≤ _ => lo2
    rename _ < (6 : Int) => hi2
    refine' ret (.txt (Int.toNat (below hi2 - 3)) cs2) _ _ _ _ _ [(_, _)] _ _ L' _ _ ?ok ?iar ?dat ?k1 ?k2 lt' ?b1 ?b2 ?b3 ?ne (by assumption) (news_pick hN ?m1 (news_pick hN ?m2 (news_pick hN ?m3 (news_pick hN ?m4 (news_pick hN ?m5 hRest)))))
    case m1 => k_mem
    case m2 => k_mem
    case m3 => exact .tail _ (.head _)
    case m4 => k_mem
    case m5 => k_mem
    case iar => exact txt_iar lo2 rfl hIA
    case dat => exact DatIn.tuple (List.Mem.head _) (.cons (kd_dat lo2 hi2) (.cons dat_codes .nil))
    case ok => exact txt_ok lo2 hi2 (by assumption) (by assumption) hLn hBd
    case k1 => omega
    case k2 => omega
    case b1 => exact Nat.le_of_lt (Nat.lt_of_succ_lt (by assumption))
    case b2 => exact Nat.le_of_lt (Nat.lt_of_succ_lt (by assumption))
    case b3 => exact fun e he => by rw [List.mem_singleton.mp he]; exact Nat.le_of_lt (Nat.lt_of_succ_lt (by assumption))
    case ne => k_ne
  · rename News _ _ _ _ => hRest
    rename News _ _ _ (_ :: _) => hN
    refine' ret (.bad [2, 0]) _ _ _ _ _ [] _ _ L' _ _ ?ok ?iar .none ?k1 ?k2 lt' ?b1 ?b2 ?b3 ?ne (by assumption) (news_pick hN ?m1 (news_pick hN ?m2 (news_pick hN ?m4 (news_pick hN ?m5 hRest))))
    case m1 => k_mem
    case m2 => k_mem
    case m4 => k_mem
    case m5 => k_mem
    case iar => exact .cons _ _ (.cons _ _ .nil)
    case ok => exact .inl rfl
    case k1 => omega
    case k2 => omega
    case b1 => exact Nat.le_of_lt (Nat.lt_of_succ_lt (by assumption))
    case b2 => exact Nat.le_of_lt (Nat.lt_of_succ_lt (by assumption))
    case b3 => exact fun e he => nomatch he
    case ne => k_ne
  · rename News _ _ _ _ => hRest
    rename News _ _ _ (_ :: _) => hN
    rename (7 : Int) ≤ _ => lo7
    clear lo7
    rename _ < (7 : Int) => hi7
    refine' ret (.bad [badL.getD (Int.toNat (below hi7)) 0]) _ _ _ _ _ [] _ _ L' _ _ ?ok ?iar .none ?k1 ?k2 lt' ?b1 ?b2 ?b3 ?ne (by assumption) (news_pick hN ?m1 (news_pick hN ?m2 (news_pick hN ?m4 (news_pick hN ?m5 hRest))))
    case m1 => k_mem
    case m2 => k_mem
    case m4 => k_mem
    case m5 => k_mem
    case iar => exact .cons _ _ .nil
    case ok => exact bad_ok (by assumption) hi7
    case k1 => omega
    case k2 => omega
    case b1 => exact Nat.le_of_lt (Nat.lt_of_succ_lt (by assumption))
    case b2 => exact Nat.le_of_lt (Nat.lt_of_succ_lt (by assumption))
    case b3 => exact fun e he => nomatch he
    case ne => k_ne
end
end
section
-- part M4a
section
variable {prog : Program} {w : World} {A : Around} {E : Value → Shared → Prop} {s : Shared} {h₀ : Heap} {L : Addr} {m : Str → Option Value} {env : Env} {news : List (Addr × Obj)}

theorem str_st {u : Str} {t : Tok} {I : Addr} {cls : String} : ∀ i (h h' : Heap) (o : Obj) (nw : List (Addr × Obj)), h.IsStrIter I cls u t i → h.get? I = some o → h'.get? I = some o → (∀ b o, h₀.get? b = some o → h'.get? b = some o) → News h₀ L h' nw → True → h'.IsStrIter I cls u t i :=
  fun i h h' o nw st e e' _ _ _ => by
    obtain ⟨o', q, r⟩ := st
    rw [e] at q
    cases q
    exact ⟨o, e', r⟩

/-- «y = [elt for x in text]»: the turns over a text's signs -/
theorem Assign_comp_text {elt iter : Expr} {x y : Str} {px py : Pos} {scope : Scope} {cl : List (Str × Addr)} {pos spos : Pos} {Q : Flow → Shared → Prop} (_F₀ : Fr h₀ L s.heap m) (hLe : env.locals = L)
    (hsw : swapsWith (.ListComp elt [⟨.Name x px, iter, [], 0⟩] scope pos) (some (.Name y py)) spos.line env = pure true)
    (hclos : closureFor scope env = pure cl) (hcell : ∀ z ∈ scope.names, z.2 ≠ .cell) (hkind : scope.kind = .function)
    (hnames : ∀ z ∈ scope.names, z.2 = .local → scope.names.lookup z.1 = some .local) (hx : scope.names.lookup x = some .local)
    (hy : env.kindOf y = some .local) (hp : (env.scope.kind == .class || (env.scope.kind == .module && env.locals != env.globals)) = false)
    (hs : ∀ x, foldedSetIterable iter env x = pure x)
    (h : wpAny (model prog w) A (eval iter env) (fun xv s₁ => ∃ u t news, xv = .str u t ∧ A.handled = none ∧ Fr h₀ L s₁.heap m ∧ News h₀ L s₁.heap news ∧ u.cps.size ≤ sizeLine ∧
      ∀ g, LCg.CompRest prog w A h₀ L m env elt x scope cl { s₁ with heap := g } (fun _ => True) (SignAt u) (LCg.FinA h₀ L m { s₁ with heap := g } y Q) u.cps.size 0 [] news) E s) :
    wpAny (model prog w) A (exec (.Assign [.Name y py] (.ListComp elt [⟨.Name x px, iter, [], 0⟩] scope pos) spos) env) Q E s := by
  subst hLe
  rw [exec_Assign_Name_used _ _ _ _ hsw]
  refine wpAny_bind (wpAny_standAt (wpAny_bind ?_))
  show wpAny _ A (do let _ ← comprehension (.ListComp elt [⟨.Name x px, iter, [], 0⟩] scope pos) scope env _ (newList []) false (eval iter env) (some (assign (.Name y py) env))) _ _ s
  refine wpAny_bind (wpAny_mono (wpAny_comprehension_free (use := some (assign (.Name y py) env)) (Q := fun _ s' => Q .next s') rfl hs hclos hkind hnames
    (wpAny_mono h (fun xv s₁ h₁ => ?_) fun _ _ e => e)) (fun _ s' hq => wpAny_pure (wpAny_pure hq)) fun _ _ e => e)
  obtain ⟨u, t, news, rfl, hh, F, N, hsz, R⟩ := h₁
  have go : ∀ (cls : String), Walks prog w A s₁.heap.objs.size [s₁.heap.objs.size] [s₁.heap.objs.size] u.cps.size (SignAt u) (fun i h => h.IsStrIter s₁.heap.objs.size cls u t i) →
      ∀ o : Obj, (s₁.heap.push o).IsStrIter s₁.heap.objs.size cls u t 0 → _ := fun cls W o st =>
    LCg.block_U (prog := prog) (w := w) (A := A) (E := E) (h₀ := h₀) (L := env.locals) (m := m) (env := env) (elt := elt) (iter := iter) (x := x) (px := px) (scope := scope) (cl := cl) (pos := pos) (s₂ := { s₁ with heap := s₁.heap.push o })
      (S := fun _ => True) (news := news) (Fin := LCg.FinA h₀ env.locals m { s₁ with heap := s₁.heap.push o } y Q)
      (RR := compPost (model prog w) A E (some (assign (.Name y py) env)) (fun _ s' => Q .next s')) W hsz (fun i h st => by obtain ⟨o, e, _⟩ := st; exact ⟨o, e⟩) str_st hcell hkind hx st
      (fun b hb => by
        show b < (s₁.heap.push o).objs.size
        rw [Heap.size_push, List.mem_singleton.mp hb]
        exact Nat.lt_succ_self _)
      (F.keeps fun _ _ e => Heap.get?_push_of_some _ e) (N.grown fun _ _ e => Heap.get?_push_of_some _ e) (Nat.ne_of_lt F.ns.lt) (next_is_new F) (fun p hp => Nat.ne_of_lt (Heap.lt_size (N p hp).1)) trivial (R _)
      (fun D C h' tk m' ys news' F' N' o1 hn hC₀ hD₀ hCL hDL hCD offC fin => by
        show wpAny _ A (assign (.Name y py) env (.ref D)) _ _ _
        refine wpAny_assign_Name (wpAny_storeName_local hy F'.ns (fun h₂ hn₂ hs₂ => ?_) hp)
        have hL₀ : h₀.get? env.locals = none := Heap.get?_none_of_le F'.above
        have F₂ : Fr h₀ env.locals h₂ (fun z => if z = y then some (.ref D) else m z) := ⟨hn₂, fun b o e => hs₂.extBut b o (fun q => by rw [q, hL₀] at e; cases e) (F'.keep b o e), F'.above⟩
        refine ⟨m', hn.sameBut hs₂ hCL, fun h'' hs'' => fin D h'' _ (F₂.change hs'' hCL hC₀) (fun p hp => ?_) o1⟩
        have z : h₂.get? p.1 = some p.2 := hs₂.extBut _ _ (N' p hp).2.1 (N' p hp).1
        refine ⟨hs''.extBut _ _ ?_ z, (N' p hp).2⟩
        rcases List.mem_cons.mp hp with rfl | hp
        · exact Ne.symm hCD
        · exact offC p hp)
  cases ha : u.cps.all (· < 128)
  · exact wpAny_pyIter_wide ha (go _ (Walks.strWide hh _ u t) _ ⟨_, Heap.get?_push_size _ rfl, rfl, rfl⟩)
  · exact wpAny_pyIter_ascii ha (go _ (Walks.strAscii hh _ u t) _ ⟨_, Heap.get?_push_size _ rfl, rfl, rfl⟩)

/-- the codes of a text's signs by a comprehension -/
theorem ords_rest {elt : Expr} {x : Str} {scope : Scope} {cl : List (Str × Addr)} {u : Str} {Fin : List Value → List (Addr × Obj) → Prop}
    (turn : ∀ c tt I oI C oC D m₂ ys h tk (E' : Value → Shared → Prop), LCg.NsObj oC m₂ → m₂ x = some (.str ⟨#[c]⟩ tt) → Fr h₀ L h m → News h₀ L h ((I, oI) :: (C, oC) :: (D, LCg.lst ys) :: news) → LCg.Off3 I C D news → ((@Ne Nat I C) ∧ (@Ne Nat I D) ∧ (@Ne Nat C D)) →
      wpAny (model prog w) A (eval elt (compEnvC scope cl C env)) (LCg.CompEnd h₀ L m { s with heap := h, toks := tk } I oI C oC D (LCg.lst ys) (fun _ => True) (fun y news' => ∃ t1, y = .int (c : Int) t1 ∧ news' = news)) E' { s with heap := h, toks := tk })
    (fin : ∀ ys, IntsAre ys (u.cps.toList.map Int.ofNat) → Fin ys news) :
    LCg.CompRest prog w A h₀ L m env elt x scope cl s (fun _ => True) (SignAt u) Fin u.cps.size 0 [] news := by
  have key : ∀ (j i : Nat) (ys : List Value), i + j = u.cps.size → IntsAre ys ((u.cps.toList.take i).map Int.ofNat) → LCg.CompRest prog w A h₀ L m env elt x scope cl s (fun _ => True) (SignAt u) Fin j i ys news := by
    intro j
    induction j with
    | zero =>
      intro i ys hi hy
      rw [List.take_of_length_le (by rw [Array.length_toList]; omega)] at hy
      exact LCg.CompRest.zero (fin ys hy)
    | succ j ih =>
      intro i ys hi hy
      refine LCg.CompRest.succ ?_
      intro v I oI C oC D m₂ h tk E' hv hC hx F N off ne
      obtain ⟨c, tt, hc, rfl⟩ := hv
      refine wpAny_mono (turn c tt I oI C oC D m₂ ys h tk E' hC hx F N off ne) (fun y s₂ hq => ?_) fun _ _ e => e
      obtain ⟨h', tk', nw, e, F', N', off', hS, t1, rfl, rfl⟩ := hq
      refine ⟨h', tk', _, e, F', N', off', trivial, ih (i + 1) _ (by omega) ?_⟩
      have hc' : u.cps.toList[i]? = some c := by rw [Array.getElem?_toList]; exact hc
      rw [List.take_add_one, hc', List.map_append]
      exact ints_snoc hy
  exact key _ 0 [] (by omega) (by simpa using IntsAre.nil)
end
theorem codes_textOf : ∀ {cs : List Int}, (∀ c ∈ cs, 0 ≤ c) → (textOf cs).cps.toList.map Int.ofNat = cs := by
  intro cs h
  unfold textOf
  simp only [List.toList_toArray, List.map_map]
  calc cs.map (Int.ofNat ∘ Int.toNat) = cs.map id := List.map_congr_left (fun c hc => by have := h c hc; simp only [Function.comp, id]; show ((c.toNat : Nat) : Int) = c; omega)
    _ = cs := List.map_id _
theorem size_textOf (cs : List Int) : (textOf cs).cps.size = cs.length := by unfold textOf; simp
theorem len_text {prog : Program} {w : World} {A : Around} {E : Value → Shared → Prop} {s : Shared} {cs : List Int} {t : Tok} {Q : Value → Shared → Prop} (hl : cs.length ≤ 255) (h : Q (.int (cs.length : Int) (s.toks + 1)) { s with toks := s.toks + 1 + 1 }) :
    wpAny (model prog w) A (call (.builtin "len") [.str (textOf cs) t]) Q E s := by
  have e : (textOf cs).length = cs.length := size_textOf cs
  exact P.len_str (by rw [e]; omega) (by rw [e]; exact h)

theorem bools_snoc {b : Bool} : ∀ {vs : List Value} {bs : List Bool}, LSm.BoolsAre vs bs → LSm.BoolsAre (vs ++ [.bool b]) (bs ++ [b])
  | _, _, .nil => .cons b .nil
  | _, _, .cons z r => .cons z (bools_snoc r)
section
variable {prog : Program} {w : World} {A : Around} {s : Shared} {h₀ : Heap} {L : Addr} {m : Str → Option Value} {env : Env} {news : List (Addr × Obj)}
theorem bools_rest {elt : Expr} {x : Str} {scope : Scope} {cl : List (Str × Addr)} {S : List (Addr × Obj) → Prop} {Fin : List Value → List (Addr × Obj) → Prop} {vs : List Value} {ks : List Int} (p : Int → Bool) (hi : IntsAre vs ks)
    (turn : ∀ k t I oI C oC D m₂ ys h tk (E' : Value → Shared → Prop), k ∈ ks → LCg.NsObj oC m₂ → m₂ x = some (.int k t) → Fr h₀ L h m → News h₀ L h ((I, oI) :: (C, oC) :: (D, LCg.lst ys) :: news) → LCg.Off3 I C D news → ((@Ne Nat I C) ∧ (@Ne Nat I D) ∧ (@Ne Nat C D)) →
      wpAny (model prog w) A (eval elt (compEnvC scope cl C env)) (LCg.CompEnd h₀ L m { s with heap := h, toks := tk } I oI C oC D (LCg.lst ys) S (fun y news' => y = .bool (p k) ∧ news' = news)) E' { s with heap := h, toks := tk })
    (fin : ∀ ys, LSm.BoolsAre ys (ks.map p) → Fin ys news) :
    LCg.CompRest prog w A h₀ L m env elt x scope cl s S (fun i v => vs.toArray[i]? = some v) Fin vs.toArray.size 0 [] news := by
  have hlen : vs.toArray.size = ks.length := by rw [List.size_toArray]; exact hi.length
  have key : ∀ (j i : Nat) (ys : List Value), i + j = vs.toArray.size → LSm.BoolsAre ys ((ks.take i).map p) → LCg.CompRest prog w A h₀ L m env elt x scope cl s S (fun i v => vs.toArray[i]? = some v) Fin j i ys news := by
    intro j
    induction j with
    | zero =>
      intro i ys hi' hy
      rw [List.take_of_length_le (by omega)] at hy
      exact LCg.CompRest.zero (fin ys hy)
    | succ j ih =>
      intro i ys hi' hy
      refine LCg.CompRest.succ ?_
      intro v I oI C oC D m₂ h tk E' hv hC hx F N off ne
      obtain ⟨k, t, rfl, hk⟩ := IntsAre.at hi i v (by simpa using hv)
      refine wpAny_mono (turn k t I oI C oC D m₂ ys h tk E' (List.mem_of_getElem? hk) hC hx F N off ne) (fun y s₂ hq => ?_) fun _ _ e => e
      obtain ⟨h', tk', nw, e, F', N', off', hS, rfl, rfl⟩ := hq
      refine ⟨h', tk', _, e, F', N', off', hS, ih (i + 1) _ (by omega) ?_⟩
      rw [List.take_add_one, hk, List.map_append]
      exact bools_snoc hy
  exact key _ 0 [] (by omega) (by simpa using LSm.BoolsAre.nil)
end
theorem any_small {ks : List Int} (h : ∀ c ∈ ks, 0 ≤ c ∧ c < 256) : (ks.map fun k => decide (255 < k)).any id = false := by
  rw [List.any_eq_false]
  intro b hb
  obtain ⟨c, hc, rfl⟩ := List.mem_map.mp hb
  have := h c hc
  simp only [id, decide_eq_true_eq]
  omega
theorem rest_ne {g h : Heap} {L D : Addr} {o : Obj} {led rest : List (Addr × Obj)} (R : ∀ q ∈ rest, g.get? q.1 = some q.2) (N : News g L h led) (hm : (D, o) ∈ led) : ∀ q ∈ rest, q.1 ≠ D := fun q hq e => by
  have := (N _ hm).2.2
  rw [← e, R q hq] at this
  cases this
end
section
-- part M6a

/-- every living object lives on with its class and its dict -/
noncomputable def DK (h h' : Heap) : Prop := ∀ b o, h.get? b = some o → ∃ o', h'.get? b = some o' ∧ o'.cls = o.cls ∧ o'.dict = o.dict
theorem DK.refl (h : Heap) : DK h h := fun b o e => ⟨o, e, rfl, rfl⟩
theorem DK.trans {h₁ h₂ h₃ : Heap} (x : DK h₁ h₂) (y : DK h₂ h₃) : DK h₁ h₃ := fun b o e => by
  obtain ⟨o1, e1, c1, d1⟩ := x b o e
  obtain ⟨o2, e2, c2, d2⟩ := y b o1 e1
  exact ⟨o2, e2, c2.trans c1, d2.trans d1⟩
theorem DK.push (h : Heap) (o : Obj) : DK h (h.push o) := fun b o' e => ⟨o', Heap.get?_push_of_some o e, rfl, rfl⟩
theorem DK.update (h : Heap) (a : Addr) (f : Obj → Obj) (hf : ∀ o, o.isFreed = false → (f o).isFreed = false ∧ (f o).cls = o.cls ∧ (f o).dict = o.dict) : DK h (h.update a f) := fun b o e => by
  by_cases hab : a = b
  · subst hab
    have q := hf o (Heap.get?_some_iff.mp e).2
    exact ⟨_, Heap.get?_update_self f e q.1, q.2⟩
  · exact ⟨o, (Heap.get?_update_other h f hab).trans e, rfl, rfl⟩

noncomputable def Mild {α : Type} (t : Sem α) : Prop := ∀ (M : Model) (Γ : Ctx) (Q : α → Pos → Shared → Prop) (E : Value → Pos → Shared → Prop) (p : Pos) (s : Shared),
  Sem.wp M Γ t Q E p s → Sem.wp M Γ t (fun a p' s' => Q a p' s' ∧ DK s.heap s'.heap) (fun e p' s' => E e p' s' ∧ DK s.heap s'.heap) p s

section
variable {α β : Type}
theorem Mild.pure (a : α) : Mild (Pure.pure a : Sem α) := fun M Γ Q E p s h => by
  rw [Sem.wp_pure'] at *; exact ⟨h, DK.refl _⟩
theorem Mild.unsupported (w : String) : Mild (PySem.unsupported w : Sem α) := fun M Γ Q E p s h => h.elim
theorem Mild.bind {m : Sem α} {f : α → Sem β} (hm : Mild m) (hf : ∀ a, Mild (f a)) : Mild (m >>= f) := fun M Γ Q E p s h => by
  rw [Sem.wp_bind'] at *
  have h2 := hm M Γ _ _ p s h
  refine Sem.wp_mono _ _ _ ?_ ?_ _ _ h2
  · intro a p' s' ⟨q, d⟩
    refine Sem.wp_mono _ _ _ ?_ ?_ _ _ (hf a M Γ _ _ p' s' q)
    · exact fun _ _ _ z => ⟨z.1, d.trans z.2⟩
    · exact fun _ _ _ z => ⟨z.1, d.trans z.2⟩
  · exact fun _ _ _ z => z
theorem Mild.load (a : Addr) : Mild (PySem.load a) := fun M Γ Q E p s h => by
  unfold PySem.load at *
  rw [Sem.wp_load] at *
  obtain ⟨o, ho, h⟩ := h
  exact ⟨o, ho, h, DK.refl _⟩
theorem Mild.update (a : Addr) (f : Obj → Obj) (hf : ∀ o, o.isFreed = false → (f o).isFreed = false ∧ (f o).cls = o.cls ∧ (f o).dict = o.dict) : Mild (PySem.update a f) := fun M Γ Q E p s h => by
  unfold PySem.update at *
  rw [Sem.wp_update] at *
  exact ⟨h.1, h.2, DK.update _ _ _ hf⟩
theorem Mild.stack : Mild PySem.stack := fun M Γ Q E p s h => by
  unfold PySem.stack at *
  rw [Sem.wp_stack] at *
  exact ⟨h, DK.refl _⟩
theorem Mild.alloc (o : Obj) : Mild (PySem.alloc o) := fun M Γ Q E p s h => by
  unfold PySem.alloc at *
  rw [Sem.wp_alloc] at *
  exact ⟨h, DK.push _ _⟩
theorem Mild.register (a : Addr) : Mild (PySem.register a) := fun M Γ Q E p s h => by
  unfold PySem.register at *
  rw [Sem.wp_register] at *
  exact h.elim

theorem mapFields_mild (g : Array Value → Array Value) (o : Obj) (h : o.isFreed = false) : (Obj.mapFields g o).isFreed = false ∧ (Obj.mapFields g o).cls = o.cls ∧ (Obj.mapFields g o).dict = o.dict := by
  rcases o with ⟨c, d, dat, sl⟩
  cases dat <;> first | exact ⟨rfl, rfl, rfl⟩ | (refine ⟨?_, rfl, rfl⟩; exact h)

theorem fieldsOf_mild (v : Value) : Mild (fieldsOf v) := by
  unfold fieldsOf
  cases v <;> first | exact Mild.unsupported _ | skip
  exact Mild.bind (Mild.load _) fun o => by split <;> first | exact Mild.pure _ | exact Mild.unsupported _
theorem field_mild (v : Value) (i : Nat) : Mild (field v i) := by
  unfold field
  exact Mild.bind (fieldsOf_mild _) fun o => by split <;> first | exact Mild.pure _ | exact Mild.unsupported _
theorem setField_mild (v : Value) (i : Nat) (x : Value) : Mild (setField v i x) := by
  unfold setField
  cases v <;> first | exact Mild.unsupported _ | skip
  unfold updateField
  refine Mild.bind (Mild.load _) fun o => ?_
  split
  · split
    · exact Mild.update _ _ (mapFields_mild _)
    · exact Mild.unsupported _
  · exact Mild.unsupported _
theorem setFlight_mild (e : Value) (f : Option Addr) : Mild (setFlight e f) := by
  unfold setFlight
  refine Mild.bind (field_mild _ _) fun tb => ?_
  split
  · exact setField_mild _ _ _
  · exact Mild.pure _
theorem newObj_mild (ty : String) (vs : List Value) : Mild (newFields ty vs) := by
  unfold newFields newObj newObjAsIs
  simp only
  split
  · exact Mild.bind (Mild.unsupported _) fun _ => Mild.bind (Mild.alloc _) fun _ => Mild.pure _
  · exact Mild.bind (Mild.alloc _) fun _ => Mild.pure _
theorem claims_mild : Mild underTheClaimsCaller := by
  unfold underTheClaimsCaller
  exact Mild.bind Mild.stack fun _ => Mild.pure _
theorem frameEnvs_mild : Mild frameEnvs := by
  unfold frameEnvs
  exact Mild.bind Mild.stack fun _ => Mild.pure _
theorem entryPlaceOf_mild (f : Addr) (b : Bool) : Mild (entryPlaceOf f b) := by
  unfold entryPlaceOf
  refine Mild.bind Mild.stack fun _ => ?_
  split <;> exact Mild.pure _
theorem keptBack_mild (env : Env) (b : Bool) (l : List Env) : Mild (keptBack env b l) := by
  cases l
  · unfold keptBack
    by_cases hc : (env.scope.isGenerator || env.scope.isCoroutine) = true
    · rw [if_pos hc]; exact Mild.pure _
    · rw [if_neg hc]; exact Mild.bind claims_mild fun _ => Mild.pure _
  · exact Mild.pure _
theorem behind_mild (env : Env) (l : List Env) : Mild (behindIsImport env l) := by
  unfold behindIsImport
  split
  · exact Mild.pure _
  · split
    · exact Mild.pure _
    · exact Mild.bind (field_mild _ _) fun _ => Mild.pure _
theorem ready_mild (l : List Env) : Mild (readyFrames l) := by
  induction l with
  | nil => exact Mild.pure _
  | cons env outer ih =>
    unfold readyFrames
    split
    · refine Mild.bind (Mild.load _) fun o => ?_
      split
      · exact Mild.pure _
      · refine Mild.bind (behind_mild _ _) fun _ => Mild.bind (keptBack_mild _ _ _) fun _ => Mild.bind (Mild.update _ _ fun o h => ⟨by rcases o with ⟨c, d, dat, sl⟩; cases dat <;> exact h, rfl, rfl⟩) fun _ => ih
    · exact Mild.unsupported _
theorem frameOf_mild (env : Env) : Mild (PySem.frameOf env) := by
  unfold PySem.frameOf
  refine Mild.bind frameEnvs_mild fun l => ?_
  refine Mild.bind ?_ fun r => ?_
  · generalize l.dropWhile _ = ll
    cases ll
    · exact Mild.pure _
    · unfold frameObject
      exact Mild.bind (ready_mild _) fun _ => Mild.pure _
  · split
    · exact Mild.pure _
    · exact Mild.unsupported _
theorem noteFrame_mild (e : Value) (env : Env) : Mild (noteFrame e env) := by
  unfold noteFrame EntryCells.newEntry
  split
  · refine Mild.bind (field_mild _ _) fun head => ?_
    simp only
    split
    · refine Mild.bind (field_mild _ _) fun _ => ?_
      split
      · exact Mild.pure _
      · exact Mild.bind (setField_mild _ _ _) fun _ => Mild.bind (frameOf_mild _) fun _ => Mild.bind (entryPlaceOf_mild _ _) fun _ => Mild.bind (newObj_mild _ _) fun _ => setField_mild _ _ _
    · exact Mild.bind (frameOf_mild _) fun _ => Mild.bind (entryPlaceOf_mild _ _) fun _ => Mild.bind (newObj_mild _ _) fun _ => setField_mild _ _ _
  · exact Mild.unsupported _
theorem leaving_mild (e : Value) (env : Env) : Mild (leaving env e) := by
  unfold leaving
  exact Mild.bind (noteFrame_mild _ _) fun _ => setFlight_mild _ _
end

/-- what a mild tree leaves, with the living objects' classes and dicts -/
theorem wpAny_mild {α : Type} {M : Model} {A : Around} {t : Sem α} {Q : α → Shared → Prop} {E : Value → Shared → Prop} {s : Shared} (ht : Mild t)
    (h : wpAny M A t (fun a s' => DK s.heap s'.heap → Q a s') E s) : wpAny M A t Q E s := fun Γ p hΓ =>
  Sem.wp_mono _ _ _ (fun _ _ _ z => z.1 z.2) (fun _ _ _ z => z.1) _ _ (ht M Γ _ _ p s (h Γ p hΓ))
end
section
-- part M6b

/-- e flies, with the dict dx, whose object od stands -/
noncomputable def RaisedD (base G : Heap) (l : List Env) (e dx : Addr) (od : Obj) (h : Heap) : Prop :=
  RaisedSN base G l e (.ref 33) [(dx, od)] h ∧ ∃ o, h.get? e = some o ∧ o.dict = some dx

section
variable {M : Model} {A : Around} {E : Value → Shared → Prop} {s' : Shared} {base g g₂ h : Heap} {outer : List Env} {L a e dx : Addr} {od : Obj} {m : Str → Option Value} {name : Str} {scope : Scope} {cd : Value} {Q : Unit → Shared → Prop} {news : List (Addr × Obj)}

theorem dict_on {h h' : Heap} (R : ∃ o, h.get? e = some o ∧ o.dict = some dx) (dk : DK h h') : ∃ o, h'.get? e = some o ∧ o.dict = some dx := by
  obtain ⟨o, ho, hd⟩ := R
  obtain ⟨o', ho', _, hd'⟩ := dk _ _ ho
  exact ⟨o', ho', hd'.trans hd⟩

theorem leave_firstD {oe : Obj} {t : Addr} (K : Below A base outer g) (F : Fr g L s'.heap m) (N : News g L s'.heap news) (he : (e, oe) ∈ news) (hd : (dx, od) ∈ news) (hne : dx ≠ e)
    (hcls : oe.cls = .ref 33) (hdict : oe.dict = some dx) (hdata : oe.data = .fields #[.ref t, .none, .none, .none, .bool false, .none])
    (hQ : ∀ h', RaisedD base g outer e dx od h' → g.UpToSlots h' → Q () { s' with heap := h' }) (hk : scope.kind = .function := by rfl) :
    wpAny M (A.deeper (envOf name scope L a cd)) (leaving (envOf name scope L a cd) (.ref e)) Q E s' := by
  have K' := K.push (name := name) (a := a) (cd := cd) F hk
  have hin : ∀ env ∈ (envOf name scope L a cd :: outer), ∀ b, env.frame = some b → b ∈ e :: (envOf name scope L a cd :: outer).filterMap (·.frame) := fun env he b hb => .tail _ (List.mem_filterMap.mpr ⟨env, he, hb⟩)
  have fresh : ∀ q ∈ news, q.1 ∉ (envOf name scope L a cd :: outer).filterMap (·.frame) := fun q hq hm => by
    rcases kts_mem hm with z | z
    · exact (N q hq).2.1 z
    · obtain ⟨o, ho, _⟩ := (K.frames.mem z).2
      rw [(N q hq).2.2] at ho; cases ho
  have st : base.StaysIn (hideAll s'.heap (e :: (envOf name scope L a cd :: outer).filterMap (·.frame))) := fun b o q => hideAll_get _ (K'.stays b o q) fun hm => by
    rcases List.mem_cons.mp hm with z | z
    · have := fresh_of_stays K.stays (N _ he).2.2
      rw [z, this] at q; cases q
    · rw [(K'.frames.mem z).1] at q; cases q
  have sg : ∀ b o, g.get? b = some o → b ∉ outer.filterMap (·.frame) → (hideAll s'.heap (e :: (envOf name scope L a cd :: outer).filterMap (·.frame))).get? b = some o := fun b o q nm => hideAll_get _ (F.keep b o q) fun hm => by
    rcases List.mem_cons.mp hm with z | z
    · have := (N _ he).2.2
      rw [z, this] at q; cases q
    · rcases kts_mem z with z | z
      · rw [z, kts_self F] at q; cases q
      · exact nm z
  have hl : ∀ q ∈ [(dx, od)], (hideAll s'.heap (e :: (envOf name scope L a cd :: outer).filterMap (·.frame))).get? q.1 = some q.2 ∧ g.get? q.1 = none ∧ base.get? q.1 = none := fun q hq => by
    rw [List.mem_singleton.mp hq]
    refine ⟨hideAll_get _ (N _ hd).1 fun hm => ?_, (N _ hd).2.2, fresh_of_stays K.stays (N _ hd).2.2⟩
    rcases List.mem_cons.mp hm with z | z
    · exact hne z
    · exact fresh _ hd z
  have hen : (hideAll s'.heap (e :: (envOf name scope L a cd :: outer).filterMap (·.frame))).get? e = none := hideAll_none _ (.head _)
  refine wpAny_mild (leaving_mild _ _) (wpAny_leaving_firstW (a0 := .ref t) K'.stack (funFrames_hide K'.frames hin) rfl (N _ he).1 (fun b o hb => of_hideAll _ hb) hen hdata rfl rfl fun h' hL => ?_)
  obtain ⟨k1, ⟨_, _, k2⟩, k3, k4⟩ := hL
  intro dk
  exact hQ h' ⟨⟨_, .ref t, st, sg, hl, k1, hen, k2, by rw [← hcls]; exact k3⟩, dict_on ⟨_, (N _ he).1, hdict⟩ dk⟩ ((Heap.UpToSlots.of_keeps F.keep).trans k4)

theorem leave_onD (K : Below A base outer g) (F : Fr g L g₂ m) (R : RaisedD base g₂ (envOf name scope L a cd :: outer) e dx od s'.heap) (hsm : g₂.UpToSlots s'.heap)
    (hQ : ∀ h', RaisedD base g outer e dx od h' → g.UpToSlots h' → Q () { s' with heap := h' }) :
    wpAny M (A.deeper (envOf name scope L a cd)) (leaving (envOf name scope L a cd) (.ref e)) Q E s' :=
  wpAny_mild (leaving_mild _ _) (leave_onSN K F R.1 hsm fun h' R' _ U dk => hQ h' ⟨R', dict_on R.2 dk⟩ U)
end

section
variable {prog : Program} {w : World} {A₀ : Around} {E : Value → Shared → Prop} {s' : Shared} {base g g₀ G : Heap} {outer : List Env} {L a e dx : Addr} {od : Obj} {m : Str → Option Value} {name : Str} {scope : Scope} {cd : Value}
  {n : Str} {b₀ : Stmt} {suite : List Stmt} {pos np : Pos} {rest : List ExceptHandler} {Q : Flow → Shared → Prop} {KF : Frag}
  {p : Program} {loose : List Str} {mean : ExcName → Option Value} {mg mb : Str → Option Value} {x : Str}

/-- the flying e is caught by «except X as n» of its own class -/
theorem caught_D (R : RaisedD base G (envOf name scope L a cd :: outer) e dx od s'.heap) (F : Fr g L G m) (K : Below A₀ base outer g) (hsm : G.UpToSlots s'.heap) (XB : KF.In base) (TB : Top p loose mean mg mb base)
    (D : KtsDicts (outer.filterMap (·.frame)) g) (ex : nsIn KF mainGlobals x = some (some (.ref 33))) (q : ktsIn KF 33 "BaseException" = true)
    (k : ∀ h' g' oe ws tk, KtsTurn (outer.filterMap (·.frame)) g g' → oe.cls = .ref 33 → oe.data = .fields ws → oe.dict = some dx → Fr g' L h' (fun y => if y = n then some (.ref e) else m y) → News g' L h' [(e, oe), (dx, od)] → Below A₀ base outer g' → KF.In g' → Top p loose mean mg mb g' → KtsDicts (outer.filterMap (·.frame)) g' →
      wpAny (model prog w) ((A₀.deeper (envOf name scope L a cd)).mark (some (.ref e))) (execs (b₀ :: suite) (envOf name scope L a cd))
        (fun f s₄ => wpAny (model prog w) (A₀.deeper (envOf name scope L a cd)) (do bindName (envOf name scope L a cd) n .none; unbindBehindTheSuite (envOf name scope L a cd) n pos) (fun _ s₅ => Q f s₅) E s₄)
        (AsSuiteRaised (model prog w) ((A₀.deeper (envOf name scope L a cd)).mark (some (.ref e))) (envOf name scope L a cd) n pos (notedBy (model prog w) ((A₀.deeper (envOf name scope L a cd)).mark (some (.ref e))) (envOf name scope L a cd) (cameBackBy (model prog w) (A₀.deeper (envOf name scope L a cd)) (envOf name scope L a cd) E)))
        { s' with heap := h', toks := tk })
    (hk : scope.kind = .function := by rfl) (hlo : (envOf name scope L a cd).kindOf n = some .local := by rfl) (hx : (envOf name scope L a cd).kindOf x = some .globalImplicit := by rfl) (hd : (x == ("__debug__" : Str)) = false := by decide) :
    wpAny (model prog w) (A₀.deeper (envOf name scope L a cd)) (noteFrame (.ref e) (envOf name scope L a cd))
      (fun _ s₂ => wpAny (model prog w) (A₀.deeper (envOf name scope L a cd)) (setFlight (.ref e) none) (fun _ s₃ =>
        wpAny (model prog w) (A₀.deeper (envOf name scope L a cd)) (handleBy (.ref e) (envOf name scope L a cd) (.ExceptHandler (some (.Name x np)) (some n) (b₀ :: suite) pos :: rest)) Q E s₃) E s₂) E s' := by
  obtain ⟨⟨B, a0, hB, hBG, hl, hfl⟩, hdict⟩ := R
  have hL : B.get? L = none := by
    obtain ⟨_, ⟨L', _, hf, hn', _⟩, _⟩ := hfl.2.2.1
    obtain rfl : L = L' := Option.some.inj hf
    exact hn'
  refine wpAny_mild (noteFrame_mild _ _) (wpAny_looks_onW (Around.frames_deeper K.stack) rfl hfl fun h₄ hheld₄ hsm₄ dk₄ => ?_)
  refine wpAny_mild (setFlight_mild _ _) (wpAny_landsW hheld₄ fun h₅ hheld hsm₅' dk₅ => ?_)
  have hsm₅ := hsm₄.trans hsm₅'
  have hdict₅ := dict_on (dict_on hdict dk₄) dk₅
  obtain ⟨g₅, T₅, F₅, K₅⟩ := kts_ground K F hBG hheld.1 (hsm.trans hsm₅)
  have X₅ : KF.In g₅ := XB.keeps K₅.stays
  have P₅ : TopRead p loose mg mb g₅ := topRead_of (TB.keeps K₅.stays)
  obtain ⟨ob, hob, hobc⟩ := hheld.there
  obtain ⟨nm, q', N, bs, bm, hdct, sn, sub, ab, col, dd, k0, k1, k2, k3, k5, newId, hC, hbase, hbT⟩ := kts_cls X₅ q
  have hC₅ := F₅.keep _ _ hC
  refine wpAny_handleBy_cons (codeAny_handlers_test (name_K F₅ X₅ P₅ ex ?_ hk hx hd)) (by intro q; cases q)
  refine wpAny_excMatches_sub_self hC₅ hob hobc hbase (codeAny_handlers_suite_as ?_)
  refine wpAny_mild (setFlight_mild _ _) (lands_againW hheld fun h₆ hfl₆ hsm₆ dk₆ => ?_)
  obtain ⟨g₆, T₆, F₆, K₆⟩ := kts_ground K F hBG hfl₆.1 ((hsm.trans hsm₅).trans hsm₆)
  obtain ⟨oe, hoe, hoedict⟩ := dict_on hdict₅ dk₆
  obtain ⟨_, _, _, oe', ws, _, _, _, hoe', ⟨hoec, _⟩, hoed, _⟩ := id hfl₆
  rw [hoe] at hoe'
  cases hoe'
  have ne₆ : g₆.get? e = none := T₆.none_ _ (kts_fresh F hBG hfl₆.2.1 fun o ho m => by
    obtain ⟨_, o', ho', hd⟩ := K.frames.mem m
    rw [ho] at ho'
    cases ho'
    obtain ⟨sl, hs⟩ := ((hsm.trans hsm₅).trans hsm₆) _ _ (F.keep _ _ ho) hd
    rw [hoe] at hs
    cases hs
    exact hd _ hoed)
  have Nl : News g₆ L h₆ [(dx, od)] := fun q hq => ⟨hfl₆.1 _ _ (hl q hq).1, (fun z => by have := (hl q hq).1; rw [z, hL] at this; cases this), T₆.none_ _ (kts_none F.keep (hl q hq).2.1)⟩
  have N₆ : News g₆ L h₆ [(e, oe), (dx, od)] := News.more F₆ Nl hoe (fun es n q => by rw [hoed] at q; cases q) ne₆
  have X₆ : KF.In g₆ := XB.keeps K₆.stays
  have P₆ : Top p loose mean mg mb g₆ := TB.keeps K₆.stays
  have D₆ : KtsDicts (outer.filterMap (·.frame)) g₆ := D.turn T₆
  refine stN F₆ N₆ (fun h₇ F₇ N₇ => ?_) hk hlo
  exact k h₇ g₆ oe ws _ T₆ hoec hoed hoedict F₇ N₇ K₆ X₆ P₆ D₆
end

section
variable {prog : Program} {w : World} {A₀ A : Around} {s : Shared} {base h₀ : Heap} {L a : Addr} {m : Str → Option Value} {cn : Str} {cs : Scope} {ccd : Value} {led rest : List (Addr × Obj)} {K : Frag}
  {p : Program} {loose : List Str} {mean : ExcName → Option Value} {mg mb : Str → Option Value}
  {R : Result → Shared → Prop} {name qual : Str} {params : Arguments} {body : List Stmt} {scope : Scope} {dV kV doc pm cdv ct oc : Value} {an od : Option Addr} {osl : Array (Option Value)} {f : Addr} {args : Args} {binds : List (Str × Value)}

/-- like code_frame, for a def that catches; its caller is the outermost -/
theorem code_frameS0 {mm : Str → Option Value} (B : Below A₀ base [] h₀) (F : Fr h₀ L s.heap m) (X₀ : K.In h₀) (N : News h₀ L s.heap (led ++ rest)) (T : Top p loose mean mg mb h₀)
    (hsep : ∀ q ∈ rest, ∀ a ∈ led, q.1 ≠ a.1) (hA : A.frames = some [envOf cn cs L a ccd]) (hck : cs.kind = .function)
    (ho : K.lookup f = some ⟨oc, od, .func (fnOf name qual params body scope dV kV doc pm an cdv ct), osl⟩) (hcd : codeIn K cdv qual = true) (hroom : A.depth < recursionLimit)
    (hbind : BindsTo s (fnOf name qual params body scope dV kV doc pm an cdv ct) args binds) (hmm : (fun y => binds.reverse.lookup y) = mm) (hloc : ∀ y ∈ binds, scope.names.lookup y.1 = some .local)
    (h : ∀ g L' h₁, Fr h₀ L g m → Fr g L' h₁ mm → News g L' h₁ led → Below A base [envOf cn cs L a ccd] g → K.In g → Top p loose mean mg mb g → KtsDicts ([envOf cn cs L a ccd].filterMap (·.frame)) g → (∀ q ∈ rest, g.get? q.1 = some q.2) → (∀ q ∈ led ++ rest, q.1 < L') →
      wpAny (model prog w) (A.deeper (envOf qual scope L' f cdv)) (execs body (envOf qual scope L' f cdv))
        (fun fl s' => LeaveS0 ([envOf cn cs L a ccd].filterMap (·.frame)) h₀ L m g (fun r s'' => News h₀ L s''.heap rest → R r s'') (match fl with | .ret v => v | _ => .none) s')
        (fun e s' => wpAny (model prog w) (A.deeper (envOf qual scope L' f cdv)) (leaving (envOf qual scope L' f cdv) e) (fun _ s'' => R (.error e) s'') (fun e' s'' => R (.error e') s'') s')
        { s with heap := h₁, toks := s.toks + binds.length })
    (hco : scope.isCoroutine = false) (hgen : scope.isGenerator = false) (hk : scope.kind = .function) (hcell : ∀ x ∈ scope.names, x.2 ≠ .cell) : codeAny (model prog w) A (.call (.ref f) args) R s := by
  subst hmm
  have NA : News h₀ L s.heap led := fun q hq => N q (List.mem_append_left _ hq)
  have NR : News h₀ L s.heap rest := fun q hq => N q (List.mem_append_right _ hq)
  have X := X₀.keeps F.keep
  have hrest : ∀ q ∈ rest, (hideAll s.heap (led.map (·.1))).get? q.1 = some q.2 := fun q hq => hideAll_get _ (NR q hq).1 fun hm => by
    obtain ⟨a, ha, e⟩ := List.mem_map.mp hm
    exact hsep q hq a ha e.symm
  refine codeAny_call_def (fd := fnOf name qual params body scope dV kV doc pm an cdv ct) (body := body) (binds := binds) hroom (X _ _ ho) rfl (T.nolimit.keeps F.keep) (codeRec_of X hcd) rfl hbind hcell hloc (fun h₁ hns hk₁ => ?_) hco hgen hk
  obtain ⟨oL, es, ep, hLg, hLd, hN, hNs, st, B₂⟩ := kts_enter B F NA hA hck
  refine wpAny_mono (h _ s.heap.objs.size h₁ ⟨hN _ hLg, st, F.above⟩ ⟨hns, fun b o e => hk₁ b o (of_hideAll _ e), Nat.le_of_eq (hideAll_size _ _)⟩
    (fun p hp => ⟨hk₁ _ _ (NA p hp).1, Nat.ne_of_lt (Heap.lt_size (NA p hp).1), hideAll_none _ (List.mem_map_of_mem hp)⟩) B₂ (X₀.keeps st) (T.keeps st) (fun b hb => by
      rcases kts_mem hb with rfl | z
      · exact ⟨oL, es, ep, hLg, hLd⟩
      · simp at z) hrest (fun q hq => Heap.lt_size (N q hq).1)) (fun fl s' hl => ?_) fun _ _ y => y
  obtain ⟨g', L', m', news', T', F', N', k⟩ := hl
  have nL₀ : h₀.get? L = none := kts_self F
  obtain ⟨sl, hs⟩ := T'.up hLg
  refine k ⟨hNs sl _ (F'.keep _ _ hs), fun b o e => F'.keep b o (T'.other b o (st b o e) (fun q => by
    rcases kts_mem q with z | z
    · rw [z, nL₀] at e
      cases e
    · simp at z)), F.above⟩ (fun p hp => ⟨(N' p hp).1, fun q => ?_, ?_⟩) fun q hq => ⟨F'.keep _ _ (T'.other _ _ (hrest q hq) fun z => ?_), (NR q hq).2⟩
  · have := (N' p hp).2.2; rw [q, hs] at this; cases this
  · cases q : h₀.get? p.1 with
    | none => rfl
    | some o =>
      obtain ⟨sl', hs'⟩ := T'.up (st _ _ q)
      have := (N' p hp).2.2
      rw [hs'] at this
      cases this
  · rcases kts_mem z with z | z
    · exact (NR q hq).2.1 z
    · simp at z
end
end
section
-- part M6c
section
open PySem.Builtin PySem.Builtin.ObjectAttr
variable {prog : Program} {w : World} {A : Around} {E : Value → Shared → Prop} {h : Heap} {g : Array GenState} {d : Drawn} {t : Nat} {os : OsState}
variable {nm q : Str} {C N x : Addr} {bs bm : List Value} {sn : List Str} {sub : List Value} {ab : Bool} {col : Option Bool} {dd : Option Addr} {k0 k1 k2 k3 k5 : Option Value} {B newId sa owner : String}
  {mN : Str → Option Value} {name : Str} {v : Value}

/-- the first attribute of an object: its dict is new -/
theorem store_first {Q : Unit → Shared → Prop} {o : Obj} (SF : StoreFacts B bm sa owner)
    (hC : h.get? C = some (excClassObj nm q C N bs bm true sn sub ab col dd k0 k1 k2 k3 k5 newId)) (hn : h.Ns N mN) (hns : mN "__setattr__" = none) (hna : mN name = none)
    (hB : typeLookup (.type B) name = pure none) (hx : h.get? x = some o) (hc : o.cls = .ref C) (hnc : ∀ c, o.data ≠ .cls c) (hdn : o.dict = none)
    (hq : ∀ h' tk' dx, h.get? dx = none → dx ≠ x → h'.Ns1 dx (fun y => if y = name then some v else none) → h'.get? x = some { o with dict := some dx } →
      (∀ b ob, b ≠ x → h.get? b = some ob → h'.get? b = some ob) → Q () ⟨h', g, d, tk', os⟩) :
    wpAny (model prog w) A (setAttr (.ref x) name v) Q E ⟨h, g, d, t, os⟩ := by
  have f3 := SF.slot.bind (.ref x)
  unfold setAttr callSpecial? specialOf
  repeat (any_goals (first | assumption | (with_reducible refine wpAny_loadPart_at hx ?_; rw [hc]) | (with_reducible refine wpAny_typeLookup_exc hC hn SF.mro SF.slot.lookup ?_; rw [hns]) | wp_step))
  refine codeAny_call_builtin SF.slot.plain SF.entry (wpAny_check_sa SF hC hx hc ?_)
  have hpass := SF.passes (.ref x)
  unfold Builtin.«object.__setattr__»
  repeat (first | rw [refuse_eq] | (rw [refuseLoop_ref, hpass]) | (with_reducible refine wpAny_loadPart_at hx ?_; rw [hc]) | with_reducible refine wpAny_mroOf_exc hC ?_ | (with_reducible refine wpAny_typeLookup_exc hC hn SF.mro hB ?_; rw [hna]) | wp_step)
  rw [hdn, if_neg (by simp [typeHasDict])]
  split
  · rename_i hcd; cases hcd
  split
  · rename_i c hcd; exact absurd hcd (hnc c)
  have hx1 : (h.push { cls := .type "dict", data := .dict #[] }).get? x = some o := Heap.get?_push_of_some _ hx
  have hxs : x ≠ h.objs.size := Nat.ne_of_lt (Heap.lt_size hx)
  refine wpAny_bind (wpAny_alloc' (wpAny_bind (wpAny_update' hx1 (wpAny_pure ?_))))
  have hgd : ((h.push { cls := .type "dict", data := .dict #[] }).update x fun o => { cls := o.cls, dict := some h.objs.size, data := o.data, slots := o.slots }).get? h.objs.size
      = some { cls := .type "dict", data := .dict #[] } := (Heap.get?_update_ne _ _ _ _ hxs.symm).trans (Heap.get?_push_at rfl rfl)
  have hnd : ((h.push { cls := .type "dict", data := .dict #[] }).update x fun o => { cls := o.cls, dict := some h.objs.size, data := o.data, slots := o.slots }).Ns h.objs.size (fun _ => none) :=
    ⟨_, #[], _, hgd, rfl, fun e he => absurd he (by simp), fun _ => rfl⟩
  have hxu : ((h.push { cls := .type "dict", data := .dict #[] }).update x fun o => { cls := o.cls, dict := some h.objs.size, data := o.data, slots := o.slots }).get? x
      = some { cls := o.cls, dict := some h.objs.size, data := o.data, slots := o.slots } := by
    refine Heap.get?_update_self _ hx1 ?_
    have hfr := (Heap.get?_some_iff.mp hx).2
    obtain ⟨oc, od, odt, osl⟩ := o
    cases odt <;> first | rfl | exact hfr
  show wpAny _ _ (storeInDict h.objs.size _ name v) _ _ _
  unfold storeInDict newKeyGuard
  refine wpAny_bind (wpAny_pure (wpAny_bind (wpAny_nsSet1 (Heap.Ns1.of_empty hnd) fun h' hn' hs => ?_)))
  obtain ⟨oD, esD, epD, hoD, hdD, hcD⟩ := hn'.count (Within.cons name v Within.nil)
  refine wpAny_bind (wpAny_lookBehind hoD (by rw [hdD]; exact pastItsLine_dict (Nat.le_trans hcD (by rw [List.length_cons, List.length_nil, sizeLine_eq]; omega))) ?_)
  wp_walk
  exact hq h' _ h.objs.size (Heap.get?_none_of_le (Nat.le_refl _)) hxs.symm hn' ((hs.2 x hxs).trans hxu)
    fun b ob hbx hb => (hs.2 b (Nat.ne_of_lt (Heap.lt_size hb))).trans ((Heap.get?_update_ne _ _ _ _ hbx).trans (Heap.get?_push_of_some _ hb))
end
end
section
-- part M6d

/-- a dict that says kind and nothing else -/
noncomputable def KindO (od : Obj) (v : Value) : Prop := ∀ (h : Heap) (dx : Addr), h.get? dx = some od → h.Ns1 dx (fun y => if y = Str.ofString "kind" then some v else none)
theorem kindO_of {h : Heap} {dx : Addr} {v : Value} (N : h.Ns1 dx (fun y => if y = Str.ofString "kind" then some v else none)) : ∃ od, h.get? dx = some od ∧ KindO od v := by
  obtain ⟨o, es, ep, e, d, k, u, f⟩ := N
  exact ⟨o, e, fun h' dx' e' => ⟨o, es, ep, e', d, k, u, f⟩⟩

theorem cls33 {prm : Params} {h : Heap} (X1 : (Mine.hd.heap_39 prm).In h) : ∃ nm q bs sn sub ab col dd k0 k1 k2 k3 k5 mN,
    h.get? 33 = some (excClassObj nm q 33 32 bs [.type "Exception", .type "BaseException", .type "object"] true sn sub ab col dd k0 k1 k2 k3 k5 "Exception.__new__") ∧ h.Ns 32 mN ∧
    mN (Str.ofString "__init__") = some (.ref 30) ∧ mN (Str.ofString "__setattr__") = none ∧ mN (Str.ofString "kind") = none ∧ mN (Str.ofString "__getattribute__") = none ∧ mN (Str.ofString "__getattr__") = none := by
  w_top off
  k_with_none
  k_with "my_frame" => (((case kA => exact rfl); (case kF => exact rfl); (case kK => assumption); (case ho => k_is); (case hcd => k_is); (case hroom => exact Room.one (by assumption)); (case hb => exact BindsTo.of_eq rfl); (case hloc => exact locs rfl); (case c2 => exact rfl); (case c3 => exact rfl); (case c4 => exact rfl); (case c5 => decide)))
  k_with "my_sel" => (first | (refine' Sel.head ?aw2; (case aw2 => k_all)) | (refine' Sel.tail ?aw2 ?bw2; (case aw2 => k_ne); (case bw2 => walk_at "my_sel")))
  k_with "ite" => ((k_closed; k_dflt (first | (refine' ite_pos ?hcw3 ?_; (case hcw3 => decide)) | (refine' ite_neg ?hcw3 ?_; (case hcw3 => decide)))))
  k_with "my_strewn" => ((k_dflt (refine' strewn_says ?k1w4 ?k2w4 ?k3w4 ?k4w4 ?k5w4 ?k6w4 ?S1w4 ?S2w4 ?kiw4 ?h0w4 ?hKw4 ?hmw4 ?hm2w4 ?hlenw4 ?hRw4 ?_; (case k1w4 => k_asm); (case k2w4 => k_asm); (case k3w4 => k_asm); (case k4w4 => k_asm); (case k5w4 => k_asm); (case k6w4 => first | exact rfl | assumption); (case S1w4 => walk_at "my_sel"); (case S2w4 => walk_at "my_sel"); (case kiw4 => assumption); (case h0w4 => omega); (case hKw4 => omega); (case hmw4 => decide); (case hm2w4 => decide); (case hlenw4 => assumption); (case hRw4 => exact Room.sub (by assumption) (Nat.le_refl _) (Nat.add_le_add_left (by decide) _)); k_whole)))
  k_with "call ref" => ((k_here; (with_reducible show wpAny _ _ (call (Value.ref 67) [Value.ref _, Value.int _ _]) _ _ _); walk_at "my_strewn"; intro r'w5 t1'w5 t'w5 h'w5 tk'w5 lo'w5 hi'w5 F'w5 N'w5; (try dsimp only); (try k_sweep)))
  k_with "call ref" => ((k_here; (with_reducible show wpAny _ _ (call (Value.ref 67) [Value.ref _, Value.int 9 _]) _ _ _); walk_at "my_strewn"; intro r'w6 t1'w6 t'w6 h'w6 tk'w6 lo'w6 hi'w6 F'w6 N'w6; (try dsimp only); (try k_sweep); (rcases nineW lo'w6 hi'w6 with e' | e' | e' | e' | e' | e' <;> (first | subst e' | (have lo2'w6 := e'.1; have hi2'w6 := e'.2; clear e')) <;> clear lo'w6 hi'w6)))
  k_with "newTuple" => ((k_here; k_dflt (refine' kup_newTuple ?Fw7 ?Nw7 ?_ ?zw7; (case Fw7 => k_asm); (case Nw7 => k_asm); (case zw7 => first | decide | kmk_size)); intro D'w7 h'w7 F'w7 N'w7 l1w7; (try k_lt l1w7); (try k_sweep)))
  have e32 := X1 32 _ (by k_is)
  have hok : h.isNs 32 = true := by unfold Heap.isNs; rw [e32]; dsimp only; rw [← Array.all_toList]; rfl
  have hn : h.Ns 32 (h.nsMap 32) := .of_isNs hok
  have hmap : ∀ y v, nsFind _ y = v → h.nsMap 32 y = v := fun y v hv => by
    obtain ⟨o, es, ep, e1, e2, _, e3⟩ := hn
    rw [e32] at e1
    cases e1
    cases e2
    rw [← e3]
    exact hv
  refine ⟨_, _, _, _, _, _, _, _, _, _, _, _, _, h.nsMap 32, X1 33 _ (by k_is), hn, hmap _ _ ?_, hmap _ _ ?_, hmap _ _ ?_, hmap _ _ ?_, hmap _ _ ?_⟩ <;> (unfold nsFind findBy; rw [← Array.find?_toList]; rfl)

section
variable {w : World} {A A₀ : Around} {base h₀ : Heap} {outer : List Env} {env : Env} {L : Addr} {m : Str → Option Value} {s : Shared}
    {loose : List Str} {mean : ExcName → Option Value} {mg mb : Str → Option Value} {Q E : Value → Shared → Prop} {news : List (Addr × Obj)}

theorem basic_call {k : Str} {tk0 : Tok} (B : Below A₀ base outer h₀) (F : Fr h₀ L s.heap m) (X : (Mine.hd.heap_39 w.params).In h₀) (N : News h₀ L s.heap news)
    (T : Top Mine.hd.view_39 loose mean mg mb h₀) (hA : A.frames = some (env :: outer)) (hf : env.frame = some L) (hke : env.scope.kind = .function) (hroom : (A.under (.builtin "type.__call__" ⟨[.ref 33, .str k tk0], []⟩)).depth < recursionLimit)
    (hq : ∀ e t dx od sl h' tk', dx ≠ e → KindO od (.str k tk0) → Fr h₀ L h' m →
      News h₀ L h' ((e, { cls := .ref 33, dict := some dx, data := .fields #[.ref t, .none, .none, .none, .bool false, .none], slots := sl }) :: (dx, od) :: news) → Q (.ref e) { s with heap := h', toks := tk' }) :
    wpAny (model PySem.Challenge.rw_rh0265_01.row.prog w) A (call (.ref 33) [.str k tk0]) Q E s := by
  w_top off
  have X1 := X.keeps F.keep
  have e30 := X1 30 _ (by k_is)
  obtain ⟨nm, q, bs, sn, sub, ab, col, dd, k0, k1, k2, k3, k5, mN, hC, hn, hi, -⟩ := cls33 X1
  refine' wpAny_call_exc_init PySem.F.excBase_Exception hC hn hi e30 ?hfc (fun h' e hm => ?_)
  case hfc => rfl
  obtain ⟨t, hte, _, _⟩ := hm.there
  have ne : h₀.get? e = none := by
    cases q : h₀.get? e with
    | none => rfl
    | some o => have := hm.new; rw [F.keep _ _ q] at this; cases this
  have F1 : Fr h₀ L h' m := F.of_stays (fun b o e => hm.keeps _ _ (F.keep _ _ e)) (Heap.UpToSlots.of_keeps hm.keeps)
  have N1 : News h₀ L h' ([(e, { cls := .ref 33, data := .fields #[.ref t, .none, .none, .none, .bool false, .none] })] ++ news) :=
    News.more F1 (fun q hq => ⟨hm.keeps _ _ (N q hq).1, (N q hq).2⟩) hte (fun es n q => by cases q) ne
  have sep : ∀ q ∈ news, q.1 ≠ e := fun q hq z => by
    have h1 := (N q hq).1
    rw [z, hm.new] at h1; cases h1
  refine wpAny_call ?_
  clear e30 hi hn hC
  k_dflt (refine' code_frame (s := ⟨h', s.gens, s.drawn, s.toks, s.os⟩) (env := env) (binds := [(Str.ofString "self", .ref e), (Str.ofString "kind", .str k tk0)]) (mm := fun y => if y = Str.ofString "kind" then some (.str k tk0) else if y = Str.ofString "self" then some (.ref e) else none) B F1 ?kK N1 T ?sep ?kA ?kF hke ?ho ?hcd ?hroom ?hb ?hmm ?hloc ?_ ?c2 ?c3 ?c4 ?c5; (case kA => exact hA); (case kF => exact hf); (case kK => assumption); (case ho => k_is); (case hcd => k_is); (case hroom => exact hroom); (case hb => exact BindsTo.of_eq rfl); (case hloc => exact locs rfl); (case c2 => exact rfl); (case c3 => exact rfl); (case c4 => exact rfl); (case c5 => decide))
  case hmm => exact map2 (by decide)
  case sep => exact fun q hq a ha => by rw [List.mem_singleton.mp ha]; exact sep q hq
  intro g' L' h1 FG' F' N' B' X' T' R' lt'
  try dsimp only
  try k_fold
  k_steps
  obtain ⟨nm, q, bs, sn, sub, ab, col, dd, k0, k1, k2, k3, k5, mN, hC, hn, _, hi2, hi3, -⟩ := cls33 (X'.keeps F'.keep)
  refine store_first PySem.F.store_Exception hC hn hi2 hi3 ?hB (N' _ (List.Mem.head _)).1 rfl (fun c z => by cases z) rfl (fun h2 tk2 dx dn dne dns hx2 keep2 => ?_)
  case hB => rw [typeLookup_type, builtinLookup_eq_fast]; kernel_rfl
  obtain ⟨od, hod, hkind⟩ := kindO_of dns
  have eL : e ≠ L' := (N' _ (List.Mem.head _)).2.1
  have F2 : Fr g' L' h2 (fun y => if y = Str.ofString "kind" then some (.str k tk0) else if y = Str.ofString "self" then some (.ref e) else none) := by
    obtain ⟨⟨o, es, ep, e1, e2⟩, kp, ab⟩ := F'
    refine ⟨⟨o, es, ep, keep2 _ _ (Ne.symm eL) e1, e2⟩, fun b ob hb => keep2 _ _ (fun z => ?_) (kp b ob hb), ab⟩
    have := (N' _ (List.Mem.head _)).2.2
    rw [z, this] at hb; cases hb
  have N2 : News g' L' h2 [(e, { cls := .ref 33, dict := some dx, data := .fields #[.ref t, .none, .none, .none, .bool false, .none] }), (dx, od)] := fun q hq => by
    rcases List.mem_cons.mp hq with z | z
    · rw [z]; exact ⟨hx2, eL, (N' _ (List.Mem.head _)).2.2⟩
    · rw [List.mem_singleton.mp z]
      refine ⟨hod, fun y => ?_, kts_none F'.keep dn⟩
      obtain ⟨o, es, ep, e1, e2⟩ := F'.ns
      rw [← y, dn] at e1; cases e1
  clear F' N' hn hC hx2 keep2 dns hod F1 N1 hm hte F N
  dsimp only
  k_steps
  exact hq e t dx od _ h2 tk2 dne hkind (by assumption) (news_app (l1 := [(e, _), (dx, od)]) (by assumption) (by assumption))
end
section
variable {M : Model} {A : Around} {E : Value → Shared → Prop} {s : Shared} {env : Env}
/-- what is raised: a BasicError that was not raised before -/
noncomputable def RaisableD (E : Value → Shared → Prop) (v : Value) (s₁ : Shared) : Prop :=
  ∃ prm e t dx sl, v = .ref e ∧ (Mine.hd.heap_39 prm).In s₁.heap ∧ s₁.heap.get? e = some { cls := .ref 33, dict := some dx, data := .fields #[.ref t, .none, .none, .none, .bool false, .none], slots := sl } ∧ E (.ref e) s₁
theorem Raise_mine {e₀ : Expr} {pos : Pos} {Q : Flow → Shared → Prop} (hh : A.handled = none) (h : wpAny M A (eval e₀ env) (RaisableD E) E s) :
    wpAny M A (exec (.Raise (some e₀) none pos) env) Q E s := by
  show wpAny M A (do standAt pos; raiseStmt env (some (do let v ← eval e₀ env; standAt pos; pure v)) none) Q E s
  refine wpAny_bind (wpAny_standAt ?_)
  unfold raiseStmt
  dsimp only
  refine wpAny_bind (wpAny_bind (wpAny_mono h (fun v s₁ h₁ => wpAny_bind (wpAny_standAt (wpAny_pure ?_))) fun _ _ x => x))
  obtain ⟨prm, e, t, dx, sl, rfl, X1, he, hE⟩ := h₁
  obtain ⟨nm, q, bs, sn, sub, ab, col, dd, k0, k1, k2, k3, k5, mN, hC, hn, hi, -⟩ := cls33 X1
  have hcB : (Value.ref 33 :: [Value.type "Exception", .type "BaseException", .type "object"]).contains (.type "BaseException") = true := by rfl
  obtain ⟨hp, g, d, tk, os⟩ := s₁
  repeat (first | with_reducible refine wpAny_loadPart_at he ?_ | with_reducible refine wpAny_loadPart_at hC ?_ | (with_reducible refine wpAny_isSubtype_exc hC ?_; rw [hcB]) | wp_step)
  exact wpAny_raiseNew_none hh hE
end
end
section
-- part M6e
theorem kga : typeLookup (.type "Exception") "__getattribute__" = pure (some (.builtin "BaseException.__getattribute__")) := by rw [typeLookup_type, builtinLookup_eq_fast]; kernel_rfl
theorem khook : typeLookup (.type "Exception") "__getattr__" = pure none := by rw [typeLookup_type, builtinLookup_eq_fast]; kernel_rfl
theorem kkind : typeLookup (.type "Exception") "kind" = pure none := by rw [typeLookup_type, builtinLookup_eq_fast]; kernel_rfl
theorem kmro : mroOf (.type "Exception") = pure [.type "Exception", .type "BaseException", .type "object"] := by kernel_rfl
theorem kslot : Slot "Exception" "__getattribute__" "BaseException.__getattribute__" := .of (owner := "BaseException") (n := "__getattribute__") (by rw [typeLookup_type, builtinLookup_eq_fast]; kernel_rfl) (by decide +kernel) (by decide +kernel) (by decide +kernel)
    (by first | exact .inl (by decide +kernel) | exact .inr (by decide +kernel)) (by rw [isSubtype_type]; kernel_rfl)
section
open PySem.Builtin PySem.Builtin.ObjectAttr
variable {prog : Program} {w : World} {A : Around} {E : Value → Shared → Prop} {h : Heap} {g : Array GenState} {d : Drawn} {t : Nat} {os : OsState}
variable {nm q : Str} {C N x : Addr} {bs : List Value} {sn : List Str} {sub : List Value} {ab : Bool} {col : Option Bool} {dd : Option Addr} {k0 k1 k2 k3 k5 : Option Value} {newId : String}
  {mN mA : Str → Option Value} {v : Value} {o : Obj} {dx : Addr}

theorem kind_entry {tk : Tok} {Q : Fin → Shared → Prop}
    (hC : h.get? C = some (excClassObj nm q C N bs [.type "Exception", .type "BaseException", .type "object"] true sn sub ab col dd k0 k1 k2 k3 k5 newId)) (hn : h.Ns N mN) (hna : mN (Str.ofString "kind") = none)
    (hx : h.get? x = some o) (hc : o.cls = .ref C) (hnc : ∀ c, o.data ≠ .cls c) (hdx : o.dict = some dx) (hns : h.Ns1 dx mA) (hv : mA (Str.ofString "kind") = some v) (hq : Q (.done (.ret v)) ⟨h, g, d, t, os⟩) :
    wpAny (model prog w) A (Builtin.«object.__getattribute__» ⟨[.ref x, .str (Str.ofString "kind") tk], []⟩) Q E ⟨h, g, d, t, os⟩ := by
  unfold Builtin.«object.__getattribute__»
  repeat (first | (with_reducible refine wpAny_loadPart_at hx ?_; rw [hc]) | (with_reducible refine wpAny_typeLookup_exc hC hn kmro kkind ?_; rw [hna]) | wp_step)
  split
  · rename_i c hcd
    exact absurd hcd (hnc c)
  unfold instanceDict
  repeat (first | (with_reducible refine wpAny_loadPart_at hx ?_; rw [hc]) | with_reducible refine wpAny_loadPart_at hC ?_ | wp_step)
  rw [hdx]
  repeat (first | (with_reducible refine wpAny_nsGet hns.ns ?_; rw [hv]) | wp_step)
  exact hq

theorem kind_check {M : Model} {nameV : Value} {Q : Unit → Shared → Prop}
    (hC : h.get? C = some (excClassObj nm q C N bs [.type "Exception", .type "BaseException", .type "object"] true sn sub ab col dd k0 k1 k2 k3 k5 newId))
    (hx : h.get? x = some o) (hc : o.cls = .ref C) (hq : Q () ⟨h, g, d, t, os⟩) : wpAny M A (checkBuiltinCall "BaseException.__getattribute__" ⟨[.ref x, nameV], []⟩) Q E ⟨h, g, d, t, os⟩ := by
  have hk : builtinKind "BaseException.__getattribute__" = some .slot := by decide +kernel
  have hsplit : splitId "BaseException.__getattribute__" = some ("BaseException", "__getattribute__") := by decide +kernel
  have hcB : (Value.ref C :: [Value.type "Exception", .type "BaseException", .type "object"]).contains (.type "BaseException") = true := by rfl
  have ha := PySem.F.args_bexc_ga (.ref x) nameV
  simp only [checkBuiltinCall, hk, hsplit]
  refine wpAny_bind ?_
  · unfold isInstance
    repeat (first | (with_reducible refine wpAny_loadPart_at hx ?_; rw [hc]) | (with_reducible refine wpAny_isSubtype_exc hC ?_; rw [hcB]) | wp_step)
    exact hq

theorem kind_attr {expr : Bool} {Q : Value → Shared → Prop}
    (hC : h.get? C = some (excClassObj nm q C N bs [.type "Exception", .type "BaseException", .type "object"] true sn sub ab col dd k0 k1 k2 k3 k5 newId)) (hn : h.Ns N mN) (hng : mN (Str.ofString "__getattribute__") = none) (hnh : mN (Str.ofString "__getattr__") = none) (hna : mN (Str.ofString "kind") = none)
    (hx : h.get? x = some o) (hc : o.cls = .ref C) (hnc : ∀ c, o.data ≠ .cls c) (hdx : o.dict = some dx) (hns : h.Ns1 dx mA) (hv : mA (Str.ofString "kind") = some v) (hh : handedOut v = pure v) (hq : Q v ⟨h, g, d, t + 1, os⟩) :
    wpAny (model prog w) A (getAttr (.ref x) (Str.ofString "kind") expr) Q E ⟨h, g, d, t, os⟩ := by
  have f3 := kslot.bind (.ref x)
  have hx0 : (expr && onTheHeap (Value.builtin "BaseException.__getattribute__")) = false := by cases expr <;> rfl
  have hx2 : (Value.builtin "BaseException.__getattribute__" == Value.builtin "object.__getattribute__") = false := by decide +kernel
  have hx1 : (onTheHeap (Value.ref C) && Value.builtin "BaseException.__getattribute__" == Value.builtin "object.__getattribute__") = false := by rw [hx2]; rfl
  unfold getAttr getAttrBy
  repeat (any_goals (first | assumption | (with_reducible refine wpAny_loadPart_at hx ?_; rw [hc]) | (with_reducible refine wpAny_typeLookup_exc hC hn kmro kslot.lookup ?_; rw [hng]) | (with_reducible refine wpAny_typeLookup_exc hC hn kmro khook ?_; rw [hnh]) | wp_step))
  refine codeAny_call_builtin kslot.plain PySem.F.entry_bexc_ga (kind_check hC hx hc (kind_entry hC hn hna hx hc hnc hdx hns hv ?_))
  repeat (any_goals (first | assumption | rw [hh] | wp_step))
end
end
theorem my_room {dp un : Nat} {gd : Option (List Code)} {cn : Str} {cs : Scope} {L a : Addr} {ccd : Value} {cl : List (Str × Addr)} {outer : List Env} {env : Env} {k : Str} {tk : Tok} (r : Room dp un 3) :
    (((ktrTop dp un gd cn cs L a ccd cl outer).deeper env).under (.builtin "type.__call__" ⟨[.ref 33, .str k tk], []⟩)).depth < recursionLimit := by
  have h1 := r.d
  have hw : (Code.builtin "type.__call__" ⟨[.ref 33, .str k tk], []⟩).weight = 1 := by first | rfl | kernel_rfl
  show dp + 1 + (Code.builtin "type.__call__" ⟨[.ref 33, .str k tk], []⟩).weight < recursionLimit
  omega
section
-- part M4




section
variable {w : World} {dp un : Nat} {gd : Option (List Code)} {cn : Str} {cs : Scope} {a : Addr} {ccd : Value} {cl : List (Str × Addr)} {outer : List Env} {A₀ : Around} {base h₀ : Heap} {L : Addr} {m : Str → Option Value} {s : Shared}
    {loose : List Str} {mean : ExcName → Option Value} {mg mb : Str → Option Value} {Q E : Value → Shared → Prop} {news : List (Addr × Obj)}

theorem marked_says {mk : Int} {tm tx : Tok} {x : List Int}
    (B : Below A₀ base outer h₀) (F : Fr h₀ L s.heap m) (X : (Mine.hd.heap_39 w.params).In h₀) (N : News h₀ L s.heap news)
    (T : Top Mine.hd.view_39 loose mean mg mb h₀) (hk : cs.kind = .function) (hR : Room dp un 3)
    (hx : x.length ≤ 255) (hb : ∀ c ∈ x, 0 ≤ c ∧ c < 256)
    (ret : ∀ D us c h' tk', IntsAre us (mk :: (x.length : Int) :: x) → (∀ q ∈ news, q.1 ≠ D) → Fr h₀ L h' m → News h₀ L h' ((D, listOf us.toArray c) :: news) → Q (.ref D) {s with heap := h', toks := tk'}) :
    wpAny (model PySem.Challenge.rw_rh0265_01.row.prog w) (ktrTop dp un gd cn cs L a ccd cl outer) (call (.ref 41) [.int mk tm, .str (textOf x) tx]) Q E s := by
  w_top off
  k_with "exec Assign cons ListComp" => ((k_here; k_dflt (refine' Assign_comp_text (cl := []) ?F0w29 ?hLew29 ?hsww29 ?hclosw29 ?hcellw29 ?hkindw29 ?hnamesw29 ?hxw29 ?hyw29 ?hpw29 ?hsw29 ?_; (case F0w29 => k_asm); (case hLew29 => rfl); (case hsww29 => with_unfolding_all rfl); (case hclosw29 => rfl); (case hcellw29 => decide); (case hkindw29 => rfl); (case hnamesw29 => decide); (case hxw29 => rfl); (case hyw29 => rfl); (case hpw29 => rfl); (case hsw29 => intro _; with_unfolding_all rfl))))
  k_with "Exists" => ((refine' ⟨_, _, _, rfl, rfl, ?Fw30, ?Nw30, ?zw30, fun gw30 => ?_⟩; (case Fw30 => assumption); (case Nw30 => assumption); (case zw30 => rw [size_textOf, PySem.sizeLine_eq]; omega); refine' ords_rest (fun c'w30 tt'w30 I'w30 oI'w30 C'w30 oC'w30 D'w30 m'w30 ys'w30 h'w30 tk'w30 E'w30 hC'w30 hx'w30 F'w30 N'w30 off'w30 ne'w30 => ?_) (fun ys'w30 is'w30 => ?_); (all_goals (try rw [codes_textOf (by assumption)] at is'w30)); (all_goals (try simp only [Apart.eq] at ne'w30)); (all_goals (try k_fold))))
  k_with "CompEnd" => ((k_dflt (refine' LCg.CompEnd.intro ?Fw31 ?Nw31 _ ?subw31 ?offw31 True.intro ⟨_, rfl, rfl⟩; (case Fw31 => assumption); (case Nw31 => assumption); (case subw31 => lcg_sub); (case offw31 => assumption))))
  k_with "FinA" => ((((unfold LCg.FinA); intro D'w32 h'w32 tk'w32 F'w32 N'w32 o1'w32; (try simp only [LCg.Off1, and_true] at o1'w32); (try simp only [List.nil_append, List.cons_append] at N'w32); (try dsimp only))))
  k_with "call builtin:len" => ((refine' len_text ?hlw33 ?_; (case hlw33 => assumption)))
  k_with "eval ListComp" => ((k_here; k_dflt (refine LCg.ListComp_U (F₀ := by k_asm) (by with_unfolding_all rfl) (by decide) (by rfl) (by decide) (by rfl) ?_)))
  k_with "CompSrc" => ((k_here; k_dflt (refine LCg.CompSrc.ledger (by rfl) (by k_asm) (by k_asm) (by k_mem) (by rw [PySem.sizeLine_eq, List.size_toArray]; have hl9w35 := IntsAre.length (by assumption); omega) ?_; intro g'w35; (refine' bools_rest (fun kw35 => decide (255 < kw35)) (by assumption) (fun k'w35 t'w35 I'w35 oI'w35 C'w35 oC'w35 D'w35 m'w35 ys'w35 h'w35 tk'w35 E'w35 hk'w35 hC'w35 hx'w35 F'w35 N'w35 off'w35 ne'w35 => ?_) (fun ys'w35 bs'w35 => ?_)); (all_goals (try simp only [Apart.eq] at ne'w35)); (all_goals (try k_fold)))))
  k_with "CompEnd" => ((k_dflt (refine' LCg.CompEnd.intro ?Fw36 ?Nw36 _ ?subw36 ?offw36 ?srcw36 ⟨rfl, rfl⟩; (case Fw36 => assumption); (case Nw36 => assumption); (case subw36 => lcg_sub); (case offw36 => assumption); (case srcw36 => lcg_src))))
  k_with "call builtin:any" => ((k_here; k_dflt (refine' LSm.any_bools ?Fw37 ?Nw37 ?hhw37 ?hlw37 ?hbw37 ?_; (case Fw37 => k_asm); (case Nw37 => k_asm); (case hhw37 => rfl); (case hlw37 => is_list); (case hbw37 => assumption); intro h'w37 tk'w37 F'w37 N'w37; rw [any_small (by assumption)]; (try dsimp only); (try k_sweep))))
  have hb0 : ∀ c ∈ x, 0 ≤ c := fun c hc => (hb c hc).1
  refine wpAny_call ?_
  k_dflt (refine' code_frame (led := []) (rest := news) (binds := [(Str.ofString "mark", .int mk tm), (Str.ofString "text", .str (textOf x) tx)]) (mm := fun y => if y = Str.ofString "text" then some (.str (textOf x) tx) else if y = Str.ofString "mark" then some (.int mk tm) else none) B F X ?N T ?sep ?kA ?kF ?kK ?ho ?hcd ?hroom ?hb ?hmm ?hloc ?_ ?c2 ?c3 ?c4 ?c5; walk_at "my_frame")
  case hmm => exact map2 (by decide)
  case sep => exact fun _ _ _ h => nomatch h
  case N => exact N
  intro g' L' h' FG' F' N' B' X' T' R' lt'
  clear F N
  try dsimp only
  try k_fold
  refine hide (fun Qh Eh gh dh kh oh hQ hE => ?_)
  k_steps
  all_goals (refine hQ _ _ _ ?_; (try dsimp only); k_steps)
  rename News _ _ _ news => hRest
  rename IntsAre _ (_ ++ _) => hIA
  rename News h₀ _ _ (_ :: _) => hN
  rename News g' _ _ (_ :: _) => hG
  exact ret _ _ _ _ _ hIA (rest_ne R' hG (List.Mem.head _)) (by assumption) (news_pick hN (List.Mem.head _) hRest)
end
-- part M11

structure Big (ks : List Int) : Prop where
  ex : ∃ c ∈ ks, 255 < c
theorem any_big {ks : List Int} (h : Big ks) : (ks.map fun k => decide (255 < k)).any id = true := by
  obtain ⟨c, hc, hb⟩ := h.ex
  rw [List.any_eq_true]
  exact ⟨true, List.mem_map.mpr ⟨c, hc, decide_eq_true hb⟩, rfl⟩
section
variable {w : World} {dp un : Nat} {gd : Option (List Code)} {cn : Str} {cs : Scope} {a : Addr} {ccd : Value} {cl : List (Str × Addr)} {outer : List Env} {A₀ : Around} {base h₀ : Heap} {L : Addr} {m : Str → Option Value} {s : Shared}
    {loose : List Str} {mean : ExcName → Option Value} {mg mb : Str → Option Value} {Q E : Value → Shared → Prop} {news : List (Addr × Obj)}



theorem marked_exc {mk : Int} {tm tx : Tok} {x : List Int}
    (B : Below A₀ base outer h₀) (F : Fr h₀ L s.heap m) (X : (Mine.hd.heap_39 w.params).In h₀) (N : News h₀ L s.heap news)
    (T : Top Mine.hd.view_39 loose mean mg mb h₀) (hk : cs.kind = .function) (hR : Room dp un 3)
    (hx : x.length ≤ 255) (hb0 : ∀ c ∈ x, 0 ≤ c) (hbig : Big x)
    (exc : ∀ e dx od tk g' h' tk', KindO od (.str (Str.ofString "ST") tk) → Fr h₀ L g' m → RaisedD base g' (envX cn cs L a ccd cl :: outer) e dx od h' → g'.UpToSlots h' → E (.ref e) {s with heap := h', toks := tk'}) :
    wpAny (model PySem.Challenge.rw_rh0265_01.row.prog w) (ktrTop dp un gd cn cs L a ccd cl outer) (call (.ref 41) [.int mk tm, .str (textOf x) tx]) Q E s := by
  w_top off
  k_with "call builtin:any" => ((k_here; k_dflt (refine' LSm.any_bools ?Fw38 ?Nw38 ?hhw38 ?hlw38 ?hbw38 ?_; (case Fw38 => k_asm); (case Nw38 => k_asm); (case hhw38 => rfl); (case hlw38 => is_list); (case hbw38 => assumption); intro h'w38 tk'w38 F'w38 N'w38; rw [any_big (by assumption)]; (try dsimp only); (try k_sweep))))
  k_with "exec Raise some none" => ((refine Raise_mine rfl ?_))
  refine wpAny_call ?_
  k_dflt (refine' code_frame (led := []) (rest := news) (binds := [(Str.ofString "mark", .int mk tm), (Str.ofString "text", .str (textOf x) tx)]) (mm := fun y => if y = Str.ofString "text" then some (.str (textOf x) tx) else if y = Str.ofString "mark" then some (.int mk tm) else none) B F X ?N T ?sep ?kA ?kF ?kK ?ho ?hcd ?hroom ?hb ?hmm ?hloc ?_ ?c2 ?c3 ?c4 ?c5; walk_at "my_frame")
  case hmm => exact map2 (by decide)
  case sep => exact fun _ _ _ h => nomatch h
  case N => exact N
  intro g' L' h' FG' F' N' B' X' T' R' lt'
  clear F N
  try dsimp only
  try k_fold
  refine hide (fun Qh Eh gh dh kh oh hQ hE => ?_)
  k_steps
  rename Fr g' _ _ _ => F2
  rename News g' _ _ _ => N2
  refine basic_call B' F2 X' N2 T' rfl rfl rfl ?hroom (fun e t dx od sl h' tk' dne hkind F3 N3 => ?_)
  case hroom => exact my_room hR
  exact ⟨_, e, t, dx, sl, rfl, X'.keeps F3.keep, (N3 _ (List.Mem.head _)).1, hE _ _ _ (leave_firstD B' F3 N3 (List.Mem.head _) (.tail _ (.head _)) dne rfl rfl rfl (fun h'' R3 U3 => exc e dx od _ g' h'' _ hkind FG' R3 U3))⟩
end
end
section
-- part M5

noncomputable def wordsL : List Str := [Str.ofString "END", Str.ofString "FOR", Str.ofString "NEXT", Str.ofString "DATA", Str.ofString "INPUT", Str.ofString "DIM", Str.ofString "READ", Str.ofString "LET", Str.ofString "GOTO", Str.ofString "RUN", Str.ofString "IF", Str.ofString "RESTORE", Str.ofString "GOSUB", Str.ofString "RETURN", Str.ofString "REM", Str.ofString "STOP", Str.ofString "ON", Str.ofString "PRINT", Str.ofString "LIST", Str.ofString "DELETE", Str.ofString "RENUM", Str.ofString "NEW", Str.ofString "CONT", Str.ofString "TO", Str.ofString "THEN", Str.ofString "ELSE", Str.ofString "STEP", Str.ofString "AND", Str.ofString "OR", Str.ofString "NOT", Str.ofString "MOD", Str.ofString "TAB", Str.ofString "SGN", Str.ofString "ABS", Str.ofString "LEN", Str.ofString "STR$", Str.ofString "VAL", Str.ofString "ASC", Str.ofString "CHR$", Str.ofString "LEFT$", Str.ofString "RIGHT$", Str.ofString "MID$", Str.ofString "RND", Str.ofString "INSTR"]
noncomputable def signsL : List Str := [Str.ofString "<=", Str.ofString ">=", Str.ofString "<>", Str.ofString "(", Str.ofString ")", Str.ofString ",", Str.ofString ";", Str.ofString ":", Str.ofString "=", Str.ofString "<", Str.ofString ">", Str.ofString "+", Str.ofString "-", Str.ofString "*", Str.ofString "/", Str.ofString "^", Str.ofString "#"]
noncomputable abbrev wordAt (i : Int) : Str := wordsL.getD i.toNat Str.empty
noncomputable abbrev signAt (i : Int) : Str := signsL.getD i.toNat Str.empty
/-- a token as data -/
inductive Tk where
  | word (i : Int)
  | sign (i : Int)
  | num (v : Int)
  | txt (kd : Nat) (cs : List Int)
noncomputable def Tk.dat : Tk → Dat
  | .word i => .tuple [.str (Str.ofString "word"), .str (wordAt i)]
  | .sign i => .tuple [.str (Str.ofString "sign"), .str (signAt i)]
  | .num v => .tuple [.str (Str.ofString "number"), .int v]
  | .txt kd cs => .tuple [.str (kdName kd), .str (textOf cs)]
noncomputable abbrev pairO (u v : Value) : Obj := { cls := .type "tuple", data := .seq #[u, v] }
structure Oct (a b : Int) : Prop where
  eq : a = b
theorem chr_sub {ns : List Int} {c : Int} {a b : Nat} (hb : ∀ c ∈ ns, 0 ≤ c ∧ c < 256) (hc : c ∈ (ns.drop b).take a) : 0 ≤ c ∧ c ≤ 1114111 := by
  have := hb c (List.mem_of_mem_drop (List.mem_of_mem_take hc)); omega
theorem or_shift {a b : Int} (a0 : 0 ≤ a) (a1 : a < 256) (b0 : 0 ≤ b) : Builtin.bitOr a (b * 2 ^ Int.toNat 8) = a + 256 * b := by
  rw [bitOr_and, bitAnd_pp a0 (by have : (0 : Int) ≤ 2 ^ Int.toNat 8 := by decide
                                  exact Int.mul_nonneg b0 this)]
  have hb : (b * 2 ^ Int.toNat 8).toNat = b.toNat * 256 := by
    have : (2 : Int) ^ Int.toNat 8 = 256 := by decide
    rw [this]; omega
  rw [hb]
  have h : a.toNat &&& (b.toNat * 256) = 0 := by
    apply Nat.eq_of_testBit_eq
    intro i
    rw [Nat.testBit_and, Nat.zero_testBit]
    by_cases hi : i < 8
    · rw [show b.toNat * 256 = 2 ^ 8 * b.toNat by omega, Nat.testBit_two_pow_mul]
      simp; omega
    · rw [Nat.testBit_lt_two_pow (x := a.toNat) (i := i)]
      · rfl
      · have : 2 ^ 8 ≤ 2 ^ i := Nat.pow_le_pow_right (by decide) (by omega)
        omega
  rw [h]
  have : (2 : Int) ^ Int.toNat 8 = 256 := by decide
  rw [this]; omega
section
variable {w : World} {dp un : Nat} {gd : Option (List Code)} {cn : Str} {cs : Scope} {a : Addr} {ccd : Value} {cl : List (Str × Addr)} {outer : List Env} {A₀ : Around} {base h₀ : Heap} {L : Addr} {m : Str → Option Value} {s : Shared}
    {loose : List Str} {mean : ExcName → Option Value} {mg mb : Str → Option Value} {Q E : Value → Shared → Prop} {news : List (Addr × Obj)}


theorem one_word {row : Addr} {at' : Int} {ta : Tok} {vs : List Value} {ns : List Int} {i : Int}
    (B : Below A₀ base outer h₀) (F : Fr h₀ L s.heap m) (X : (Mine.hd.heap_39 w.params).In h₀) (N : News h₀ L s.heap news)
    (T : Top Mine.hd.view_39 loose mean mg mb h₀) (hk : cs.kind = .function) (hR : Room dp un 3)
    (hl : h₀.IsList row vs.toArray) (hi : IntsAre vs ns) (hlen : ns.length ≤ 100) (h0 : 0 ≤ at') (h1 : at' < ns.length)
    (hv : ns.getD at'.toNat 0 = 128 + i) (i0 : 0 ≤ i) (i1 : i < 44)
    (ret : ∀ D tv u extra h' tk', DatIn extra tv (Tk.word i).dat → (∀ q ∈ news, q.1 ≠ D ∧ ∀ e ∈ extra, q.1 ≠ e.1) → Fr h₀ L h' m → News h₀ L h' ((D, pairO tv (.int (at' + 1) u)) :: (extra ++ news)) → Q (.ref D) {s with heap := h', toks := tk'}) :
    wpAny (model PySem.Challenge.rw_rh0265_01.row.prog w) (ktrTop dp un gd cn cs L a ccd cl outer) (call (.ref 53) [.ref row, .int at' ta]) Q E s := by
  w_top off
  k_with_none
  k_with "my_frame" => (((case kA => exact rfl); (case kF => exact rfl); (case kK => assumption); (case ho => k_is); (case hcd => k_is); (case hroom => exact Room.one (by assumption)); (case hb => exact BindsTo.of_eq rfl); (case hloc => exact locs rfl); (case c2 => exact rfl); (case c3 => exact rfl); (case c4 => exact rfl); (case c5 => decide)))
  k_with "my_sel" => (first | (refine' Sel.head ?aw2; (case aw2 => k_all)) | (refine' Sel.tail ?aw2 ?bw2; (case aw2 => k_ne); (case bw2 => walk_at "my_sel")))
  k_with "ite" => ((k_closed; k_dflt (first | (refine' ite_pos ?hcw3 ?_; (case hcw3 => decide)) | (refine' ite_neg ?hcw3 ?_; (case hcw3 => decide)))))
  k_with "my_strewn" => ((k_dflt (refine' strewn_says ?k1w4 ?k2w4 ?k3w4 ?k4w4 ?k5w4 ?k6w4 ?S1w4 ?S2w4 ?kiw4 ?h0w4 ?hKw4 ?hmw4 ?hm2w4 ?hlenw4 ?hRw4 ?_; (case k1w4 => k_asm); (case k2w4 => k_asm); (case k3w4 => k_asm); (case k4w4 => k_asm); (case k5w4 => k_asm); (case k6w4 => first | exact rfl | assumption); (case S1w4 => walk_at "my_sel"); (case S2w4 => walk_at "my_sel"); (case kiw4 => assumption); (case h0w4 => omega); (case hKw4 => omega); (case hmw4 => decide); (case hm2w4 => decide); (case hlenw4 => assumption); (case hRw4 => exact Room.sub (by assumption) (Nat.le_refl _) (Nat.add_le_add_left (by decide) _)); k_whole)))
  k_with "call ref" => ((k_here; (with_reducible show wpAny _ _ (call (Value.ref 67) [Value.ref _, Value.int _ _]) _ _ _); walk_at "my_strewn"; intro r'w5 t1'w5 t'w5 h'w5 tk'w5 lo'w5 hi'w5 F'w5 N'w5; (try dsimp only); (try k_sweep)))
  k_with "call ref" => ((k_here; (with_reducible show wpAny _ _ (call (Value.ref 67) [Value.ref _, Value.int 9 _]) _ _ _); walk_at "my_strewn"; intro r'w6 t1'w6 t'w6 h'w6 tk'w6 lo'w6 hi'w6 F'w6 N'w6; (try dsimp only); (try k_sweep); (rcases nineW lo'w6 hi'w6 with e' | e' | e' | e' | e' | e' <;> (first | subst e' | (have lo2'w6 := e'.1; have hi2'w6 := e'.2; clear e')) <;> clear lo'w6 hi'w6)))
  k_with "newTuple" => ((k_here; k_dflt (refine' kup_newTuple ?Fw7 ?Nw7 ?_ ?zw7; (case Fw7 => k_asm); (case Nw7 => k_asm); (case zw7 => first | decide | kmk_size)); intro D'w7 h'w7 F'w7 N'w7 l1w7; (try k_lt l1w7); (try k_sweep)))
  k_with "eval Dict" => ((k_here; k_dflt (refine' kdn_eval (knd := PySem.intKind _ _) ?Fw40 ?Nw40 ?bw40 ?aw40 ?lw40 ?ew40 ?nw40 ?_; (case Fw40 => k_asm); (case Nw40 => first | k_asm | exact News.nil); (case bw40 => exact Top.nolimit (by k_asm)); (case aw40 => rfl); (case lw40 => rfl); (case ew40 => exact List.cons_ne_nil _ _); (case nw40 => exact Nat.le_of_ble_eq_true rfl)); intro d'w40 h'w40 o'w40 F'w40 N'w40 l1w40 lo'w40 hd'w40; (try k_lt l1w40)))
  k_with "CompSrc" => ((k_here; k_dflt (refine LCg.CompSrc.ledger (by rfl) (by k_asm) (by k_asm) (by k_mem) (by size_fits) ?_; intro g'w41; (refine' kct_list (fun cw41 => (⟨#[cw41.toNat]⟩ : Str)) (by assumption) (fun k'w41 t'w41 I'w41 oI'w41 C'w41 oC'w41 D'w41 m'w41 ys'w41 h'w41 tk'w41 E'w41 hk'w41 hC'w41 hx'w41 F'w41 N'w41 off'w41 ne'w41 mk'w41 => ?_) ?_); (all_goals (try k_fold)))))
  k_with "call builtin:chr" => ((refine chr_of_range (chr_sub (by assumption) (by assumption)).1 (chr_sub (by assumption) (by assumption)).2 ?_))
  k_with "CompEnd" => ((k_dflt (refine' LCg.CompEnd.intro ?Fw43 ?Nw43 _ ?subw43 ?offw43 ?srcw43 (kct_el rfl rfl rfl); (case Fw43 => assumption); (case Nw43 => assumption); (case subw43 => lcg_sub); (case offw43 => assumption); (case srcw43 => lcg_src))))
  k_with "storeName" => ((k_dflt (have hxw44 := Oct.eq (by assumption); rw [hxw44]; clear hxw44)))
  refine wpAny_call ?_
  k_dflt (refine' code_frame (led := []) (rest := news) (binds := [(Str.ofString "row", .ref row), (Str.ofString "at", .int at' ta)]) (mm := fun y => if y = Str.ofString "at" then some (.int at' ta) else if y = Str.ofString "row" then some (.ref row) else none) B F X ?N T ?sep ?kA ?kF ?kK ?ho ?hcd ?hroom ?hb ?hmm ?hloc ?_ ?c2 ?c3 ?c4 ?c5; walk_at "my_frame")
  case hmm => exact map2 (by decide)
  case sep => exact fun _ _ _ h => nomatch h
  case N => exact N
  intro g' L' h' FG' F' N' B' X' T' R' lt'
  have hlg : g'.IsList row vs.toArray := stays_list FG'.keep hl
  clear F N
  try dsimp only
  try k_fold
  refine hide (fun Qh Eh gh dh kh oh hQ hE => ?_)
  k_steps
  all_goals (refine hQ _ _ _ ?_; (try dsimp only); k_steps)
  rename News _ _ _ news => hRest
  rename News h₀ _ _ (_ :: _) => hN
  rename News g' _ _ (_ :: _) => hG
  refine' ret _ _ _ [(_, _)] _ _ ?dat ?ne (by assumption) (news_pick hN (List.Mem.head _) (news_pick hN ?m2 hRest))
  case m2 => exact .tail _ (.head _)
  case dat => rw [show (Tk.word i).dat = (Tk.word (ns.getD at'.toNat 0 - 128)).dat from by rw [show ns.getD at'.toNat 0 - 128 = i by omega]]; exact DatIn.tuple (List.Mem.head _) (.cons (.str _ _) (.cons (.str _ _) .nil))
  case ne => exact fun q hq => ⟨rest_ne R' hG (List.Mem.head _) q hq, fun e he => by rw [List.mem_singleton.mp he]; exact rest_ne R' hG (List.Mem.tail _ (List.Mem.head _)) q hq⟩

theorem one_sign {row : Addr} {at' : Int} {ta : Tok} {vs : List Value} {ns : List Int} {i : Int}
    (B : Below A₀ base outer h₀) (F : Fr h₀ L s.heap m) (X : (Mine.hd.heap_39 w.params).In h₀) (N : News h₀ L s.heap news)
    (T : Top Mine.hd.view_39 loose mean mg mb h₀) (hk : cs.kind = .function) (hR : Room dp un 3)
    (hl : h₀.IsList row vs.toArray) (hi : IntsAre vs ns) (hlen : ns.length ≤ 100) (h0 : 0 ≤ at') (h1 : at' < ns.length)
    (hv : ns.getD at'.toNat 0 = 32 + i) (i0 : 0 ≤ i) (i1 : i < 17)
    (ret : ∀ D tv u extra h' tk', DatIn extra tv (Tk.sign i).dat → (∀ q ∈ news, q.1 ≠ D ∧ ∀ e ∈ extra, q.1 ≠ e.1) → Fr h₀ L h' m → News h₀ L h' ((D, pairO tv (.int (at' + 1) u)) :: (extra ++ news)) → Q (.ref D) {s with heap := h', toks := tk'}) :
    wpAny (model PySem.Challenge.rw_rh0265_01.row.prog w) (ktrTop dp un gd cn cs L a ccd cl outer) (call (.ref 53) [.ref row, .int at' ta]) Q E s := by
  w_top off
  refine wpAny_call ?_
  k_dflt (refine' code_frame (led := []) (rest := news) (binds := [(Str.ofString "row", .ref row), (Str.ofString "at", .int at' ta)]) (mm := fun y => if y = Str.ofString "at" then some (.int at' ta) else if y = Str.ofString "row" then some (.ref row) else none) B F X ?N T ?sep ?kA ?kF ?kK ?ho ?hcd ?hroom ?hb ?hmm ?hloc ?_ ?c2 ?c3 ?c4 ?c5; walk_at "my_frame")
  case hmm => exact map2 (by decide)
  case sep => exact fun _ _ _ h => nomatch h
  case N => exact N
  intro g' L' h' FG' F' N' B' X' T' R' lt'
  have hlg : g'.IsList row vs.toArray := stays_list FG'.keep hl
  clear F N
  try dsimp only
  try k_fold
  refine hide (fun Qh Eh gh dh kh oh hQ hE => ?_)
  k_steps
  all_goals (refine hQ _ _ _ ?_; (try dsimp only); k_steps)
  rename News _ _ _ news => hRest
  rename News h₀ _ _ (_ :: _) => hN
  rename News g' _ _ (_ :: _) => hG
  refine' ret _ _ _ [(_, _)] _ _ ?dat ?ne (by assumption) (news_pick hN (List.Mem.head _) (news_pick hN ?m2 hRest))
  case m2 => exact .tail _ (.head _)
  case dat => rw [show (Tk.sign i).dat = (Tk.sign (ns.getD at'.toNat 0 - 32)).dat from by rw [show ns.getD at'.toNat 0 - 32 = i by omega]]; exact DatIn.tuple (List.Mem.head _) (.cons (.str _ _) (.cons (.str _ _) .nil))
  case ne => exact fun q hq => ⟨rest_ne R' hG (List.Mem.head _) q hq, fun e he => by rw [List.mem_singleton.mp he]; exact rest_ne R' hG (List.Mem.tail _ (List.Mem.head _)) q hq⟩

theorem one_num {row : Addr} {at' : Int} {ta : Tok} {vs : List Value} {ns : List Int} {lo up : Int}
    (B : Below A₀ base outer h₀) (F : Fr h₀ L s.heap m) (X : (Mine.hd.heap_39 w.params).In h₀) (N : News h₀ L s.heap news)
    (T : Top Mine.hd.view_39 loose mean mg mb h₀) (hk : cs.kind = .function) (hR : Room dp un 3)
    (hl : h₀.IsList row vs.toArray) (hi : IntsAre vs ns) (hlen : ns.length ≤ 100) (h0 : 0 ≤ at') (h1 : at' < ns.length)
    (hv : Oct (ns.getD at'.toNat 0) 1) (h2 : at' + 2 < ns.length) (hlo : ns.getD (at' + 1).toNat 0 = lo) (hhi : ns.getD (at' + 2).toNat 0 = up) (l0 : 0 ≤ lo) (l1 : lo < 256) (u0 : 0 ≤ up) (u1 : up < 256)
    (ret : ∀ D tv u extra h' tk', DatIn extra tv (Tk.num (lo + 256 * up)).dat → (∀ q ∈ news, q.1 ≠ D ∧ ∀ e ∈ extra, q.1 ≠ e.1) → Fr h₀ L h' m → News h₀ L h' ((D, pairO tv (.int (at' + 3) u)) :: (extra ++ news)) → Q (.ref D) {s with heap := h', toks := tk'}) :
    wpAny (model PySem.Challenge.rw_rh0265_01.row.prog w) (ktrTop dp un gd cn cs L a ccd cl outer) (call (.ref 53) [.ref row, .int at' ta]) Q E s := by
  w_top off
  refine wpAny_call ?_
  k_dflt (refine' code_frame (led := []) (rest := news) (binds := [(Str.ofString "row", .ref row), (Str.ofString "at", .int at' ta)]) (mm := fun y => if y = Str.ofString "at" then some (.int at' ta) else if y = Str.ofString "row" then some (.ref row) else none) B F X ?N T ?sep ?kA ?kF ?kK ?ho ?hcd ?hroom ?hb ?hmm ?hloc ?_ ?c2 ?c3 ?c4 ?c5; walk_at "my_frame")
  case hmm => exact map2 (by decide)
  case sep => exact fun _ _ _ h => nomatch h
  case N => exact N
  intro g' L' h' FG' F' N' B' X' T' R' lt'
  have hlg : g'.IsList row vs.toArray := stays_list FG'.keep hl
  clear F N
  try dsimp only
  try k_fold
  refine hide (fun Qh Eh gh dh kh oh hQ hE => ?_)
  k_steps
  all_goals (refine hQ _ _ _ ?_; (try dsimp only); k_steps)
  rename News _ _ _ news => hRest
  rename News h₀ _ _ (_ :: _) => hN
  rename News g' _ _ (_ :: _) => hG
  refine' ret _ _ _ [(_, _)] _ _ ?dat ?ne (by assumption) (news_pick hN (List.Mem.head _) (news_pick hN ?m2 hRest))
  case m2 => exact .tail _ (.head _)
  case dat => rw [show (Tk.num (lo + 256 * up)).dat = (Tk.num (Builtin.bitOr (ns.getD (at' + 1).toNat 0) (ns.getD (at' + 2).toNat 0 * 2 ^ Int.toNat 8))).dat from by rw [hlo, hhi, or_shift l0 l1 u0]]; exact DatIn.tuple (List.Mem.head _) (.cons (.str _ _) (.cons (.int _ _) .nil))
  case ne => exact fun q hq => ⟨rest_ne R' hG (List.Mem.head _) q hq, fun e he => by rw [List.mem_singleton.mp he]; exact rest_ne R' hG (List.Mem.tail _ (List.Mem.head _)) q hq⟩

theorem one_txt0 {row : Addr} {at' : Int} {ta : Tok} {vs : List Value} {ns : List Int} {xs : List Int}
    (B : Below A₀ base outer h₀) (F : Fr h₀ L s.heap m) (X : (Mine.hd.heap_39 w.params).In h₀) (N : News h₀ L s.heap news)
    (T : Top Mine.hd.view_39 loose mean mg mb h₀) (hk : cs.kind = .function) (hR : Room dp un 3)
    (hl : h₀.IsList row vs.toArray) (hi : IntsAre vs ns) (hlen : ns.length ≤ 100) (h0 : 0 ≤ at') (h1 : at' < ns.length)
    (hv : Oct (ns.getD at'.toNat 0) 2) (h2 : at' + 1 < ns.length) (hb : ∀ c ∈ ns, 0 ≤ c ∧ c < 256) (k0 : 0 ≤ ns.getD (at' + 1).toNat 0) (kn : ns.getD (at' + 1).toNat 0 ≠ 0) (h3 : at' + 2 + ns.getD (at' + 1).toNat 0 ≤ ns.length) (hcs : (ns.drop (at' + 2).toNat).take (ns.getD (at' + 1).toNat 0).toNat = xs)
    (ret : ∀ D tv u extra h' tk', DatIn extra tv (Tk.txt 0 xs).dat → (∀ q ∈ news, q.1 ≠ D ∧ ∀ e ∈ extra, q.1 ≠ e.1) → Fr h₀ L h' m → News h₀ L h' ((D, pairO tv (.int (at' + 2 + ns.getD (at' + 1).toNat 0) u)) :: (extra ++ news)) → Q (.ref D) {s with heap := h', toks := tk'}) :
    wpAny (model PySem.Challenge.rw_rh0265_01.row.prog w) (ktrTop dp un gd cn cs L a ccd cl outer) (call (.ref 53) [.ref row, .int at' ta]) Q E s := by
  w_top off
  refine wpAny_call ?_
  k_dflt (refine' code_frame (led := []) (rest := news) (binds := [(Str.ofString "row", .ref row), (Str.ofString "at", .int at' ta)]) (mm := fun y => if y = Str.ofString "at" then some (.int at' ta) else if y = Str.ofString "row" then some (.ref row) else none) B F X ?N T ?sep ?kA ?kF ?kK ?ho ?hcd ?hroom ?hb ?hmm ?hloc ?_ ?c2 ?c3 ?c4 ?c5; walk_at "my_frame")
  case hmm => exact map2 (by decide)
  case sep => exact fun _ _ _ h => nomatch h
  case N => exact N
  intro g' L' h' FG' F' N' B' X' T' R' lt'
  have hlg : g'.IsList row vs.toArray := stays_list FG'.keep hl
  clear F N
  try dsimp only
  try k_fold
  refine hide (fun Qh Eh gh dh kh oh hQ hE => ?_)
  k_steps
  any_goals (exfalso; first | omega | contradiction)
  all_goals (refine hQ _ _ _ ?_; (try dsimp only); k_steps)
  rename News _ _ _ news => hRest
  rename News h₀ _ _ (_ :: _) => hN
  rename News g' _ _ (_ :: _) => hG
  refine' ret _ _ _ [(_, _)] _ _ ?dat ?ne (by assumption) (news_pick hN (List.Mem.head _) (news_pick hN ?m2 hRest))
  case m2 => exact .tail _ (.head _)
  case dat => rw [show xs = List.take (min (at' + 2 + ns.getD (at' + 1).toNat 0).toNat ns.length - (at' + 2).toNat) (List.drop (at' + 2).toNat ns) from by rw [← hcs]; congr 1; omega]; exact DatIn.tuple (List.Mem.head _) (.cons (.str _ _) (.cons dat_codes .nil))
  case ne => exact fun q hq => ⟨rest_ne R' hG (List.Mem.head _) q hq, fun e he => by rw [List.mem_singleton.mp he]; exact rest_ne R' hG (List.Mem.tail _ (List.Mem.head _)) q hq⟩

theorem one_txt1 {row : Addr} {at' : Int} {ta : Tok} {vs : List Value} {ns : List Int} {xs : List Int}
    (B : Below A₀ base outer h₀) (F : Fr h₀ L s.heap m) (X : (Mine.hd.heap_39 w.params).In h₀) (N : News h₀ L s.heap news)
    (T : Top Mine.hd.view_39 loose mean mg mb h₀) (hk : cs.kind = .function) (hR : Room dp un 3)
    (hl : h₀.IsList row vs.toArray) (hi : IntsAre vs ns) (hlen : ns.length ≤ 100) (h0 : 0 ≤ at') (h1 : at' < ns.length)
    (hv : Oct (ns.getD at'.toNat 0) 3) (h2 : at' + 1 < ns.length) (hb : ∀ c ∈ ns, 0 ≤ c ∧ c < 256) (k0 : 0 ≤ ns.getD (at' + 1).toNat 0) (h3 : at' + 2 + ns.getD (at' + 1).toNat 0 ≤ ns.length) (hcs : (ns.drop (at' + 2).toNat).take (ns.getD (at' + 1).toNat 0).toNat = xs)
    (ret : ∀ D tv u extra h' tk', DatIn extra tv (Tk.txt 1 xs).dat → (∀ q ∈ news, q.1 ≠ D ∧ ∀ e ∈ extra, q.1 ≠ e.1) → Fr h₀ L h' m → News h₀ L h' ((D, pairO tv (.int (at' + 2 + ns.getD (at' + 1).toNat 0) u)) :: (extra ++ news)) → Q (.ref D) {s with heap := h', toks := tk'}) :
    wpAny (model PySem.Challenge.rw_rh0265_01.row.prog w) (ktrTop dp un gd cn cs L a ccd cl outer) (call (.ref 53) [.ref row, .int at' ta]) Q E s := by
  w_top off
  refine wpAny_call ?_
  k_dflt (refine' code_frame (led := []) (rest := news) (binds := [(Str.ofString "row", .ref row), (Str.ofString "at", .int at' ta)]) (mm := fun y => if y = Str.ofString "at" then some (.int at' ta) else if y = Str.ofString "row" then some (.ref row) else none) B F X ?N T ?sep ?kA ?kF ?kK ?ho ?hcd ?hroom ?hb ?hmm ?hloc ?_ ?c2 ?c3 ?c4 ?c5; walk_at "my_frame")
  case hmm => exact map2 (by decide)
  case sep => exact fun _ _ _ h => nomatch h
  case N => exact N
  intro g' L' h' FG' F' N' B' X' T' R' lt'
  have hlg : g'.IsList row vs.toArray := stays_list FG'.keep hl
  clear F N
  try dsimp only
  try k_fold
  refine hide (fun Qh Eh gh dh kh oh hQ hE => ?_)
  k_steps
  all_goals (refine hQ _ _ _ ?_; (try dsimp only); k_steps)
  rename News _ _ _ news => hRest
  rename News h₀ _ _ (_ :: _) => hN
  rename News g' _ _ (_ :: _) => hG
  refine' ret _ _ _ [(_, _)] _ _ ?dat ?ne (by assumption) (news_pick hN (List.Mem.head _) (news_pick hN ?m2 hRest))
  case m2 => exact .tail _ (.head _)
  case dat => rw [show xs = List.take (min (at' + 2 + ns.getD (at' + 1).toNat 0).toNat ns.length - (at' + 2).toNat) (List.drop (at' + 2).toNat ns) from by rw [← hcs]; congr 1; omega]; exact DatIn.tuple (List.Mem.head _) (.cons (.str _ _) (.cons dat_codes .nil))
  case ne => exact fun q hq => ⟨rest_ne R' hG (List.Mem.head _) q hq, fun e he => by rw [List.mem_singleton.mp he]; exact rest_ne R' hG (List.Mem.tail _ (List.Mem.head _)) q hq⟩

theorem one_txt2 {row : Addr} {at' : Int} {ta : Tok} {vs : List Value} {ns : List Int} {xs : List Int}
    (B : Below A₀ base outer h₀) (F : Fr h₀ L s.heap m) (X : (Mine.hd.heap_39 w.params).In h₀) (N : News h₀ L s.heap news)
    (T : Top Mine.hd.view_39 loose mean mg mb h₀) (hk : cs.kind = .function) (hR : Room dp un 3)
    (hl : h₀.IsList row vs.toArray) (hi : IntsAre vs ns) (hlen : ns.length ≤ 100) (h0 : 0 ≤ at') (h1 : at' < ns.length)
    (hv : Oct (ns.getD at'.toNat 0) 4) (h2 : at' + 1 < ns.length) (hb : ∀ c ∈ ns, 0 ≤ c ∧ c < 256) (k0 : 0 ≤ ns.getD (at' + 1).toNat 0) (h3 : at' + 2 + ns.getD (at' + 1).toNat 0 ≤ ns.length) (hcs : (ns.drop (at' + 2).toNat).take (ns.getD (at' + 1).toNat 0).toNat = xs)
    (ret : ∀ D tv u extra h' tk', DatIn extra tv (Tk.txt 2 xs).dat → (∀ q ∈ news, q.1 ≠ D ∧ ∀ e ∈ extra, q.1 ≠ e.1) → Fr h₀ L h' m → News h₀ L h' ((D, pairO tv (.int (at' + 2 + ns.getD (at' + 1).toNat 0) u)) :: (extra ++ news)) → Q (.ref D) {s with heap := h', toks := tk'}) :
    wpAny (model PySem.Challenge.rw_rh0265_01.row.prog w) (ktrTop dp un gd cn cs L a ccd cl outer) (call (.ref 53) [.ref row, .int at' ta]) Q E s := by
  w_top off
  refine wpAny_call ?_
  k_dflt (refine' code_frame (led := []) (rest := news) (binds := [(Str.ofString "row", .ref row), (Str.ofString "at", .int at' ta)]) (mm := fun y => if y = Str.ofString "at" then some (.int at' ta) else if y = Str.ofString "row" then some (.ref row) else none) B F X ?N T ?sep ?kA ?kF ?kK ?ho ?hcd ?hroom ?hb ?hmm ?hloc ?_ ?c2 ?c3 ?c4 ?c5; walk_at "my_frame")
  case hmm => exact map2 (by decide)
  case sep => exact fun _ _ _ h => nomatch h
  case N => exact N
  intro g' L' h' FG' F' N' B' X' T' R' lt'
  have hlg : g'.IsList row vs.toArray := stays_list FG'.keep hl
  clear F N
  try dsimp only
  try k_fold
  refine hide (fun Qh Eh gh dh kh oh hQ hE => ?_)
  k_steps
  all_goals (refine hQ _ _ _ ?_; (try dsimp only); k_steps)
  rename News _ _ _ news => hRest
  rename News h₀ _ _ (_ :: _) => hN
  rename News g' _ _ (_ :: _) => hG
  refine' ret _ _ _ [(_, _)] _ _ ?dat ?ne (by assumption) (news_pick hN (List.Mem.head _) (news_pick hN ?m2 hRest))
  case m2 => exact .tail _ (.head _)
  case dat => rw [show xs = List.take (min (at' + 2 + ns.getD (at' + 1).toNat 0).toNat ns.length - (at' + 2).toNat) (List.drop (at' + 2).toNat ns) from by rw [← hcs]; congr 1; omega]; exact DatIn.tuple (List.Mem.head _) (.cons (.str _ _) (.cons dat_codes .nil))
  case ne => exact fun q hq => ⟨rest_ne R' hG (List.Mem.head _) q hq, fun e he => by rw [List.mem_singleton.mp he]; exact rest_ne R' hG (List.Mem.tail _ (List.Mem.head _)) q hq⟩
end
-- part M7
section
variable {w : World} {dp un : Nat} {gd : Option (List Code)} {cn : Str} {cs : Scope} {a : Addr} {ccd : Value} {cl : List (Str × Addr)} {outer : List Env} {A₀ : Around} {base h₀ : Heap} {L : Addr} {m : Str → Option Value} {s : Shared}
    {loose : List Str} {mean : ExcName → Option Value} {mg mb : Str → Option Value} {Q E : Value → Shared → Prop} {news : List (Addr × Obj)}



theorem one_badword {row : Addr} {at' : Int} {ta : Tok} {vs : List Value} {ns : List Int}
    (B : Below A₀ base outer h₀) (F : Fr h₀ L s.heap m) (X : (Mine.hd.heap_39 w.params).In h₀) (N : News h₀ L s.heap news)
    (T : Top Mine.hd.view_39 loose mean mg mb h₀) (hk : cs.kind = .function) (hR : Room dp un 3)
    (hl : h₀.IsList row vs.toArray) (hi : IntsAre vs ns) (hlen : ns.length ≤ 100) (h0 : 0 ≤ at') (h1 : at' < ns.length)
    (hv : 172 ≤ ns.getD at'.toNat 0)
    (exc : ∀ e dx od tk g' h' tk', KindO od (.str (Str.ofString "SN") tk) → Fr h₀ L g' m → RaisedD base g' (envX cn cs L a ccd cl :: outer) e dx od h' → g'.UpToSlots h' → E (.ref e) {s with heap := h', toks := tk'}) :
    wpAny (model PySem.Challenge.rw_rh0265_01.row.prog w) (ktrTop dp un gd cn cs L a ccd cl outer) (call (.ref 53) [.ref row, .int at' ta]) Q E s := by
  w_top off
  k_with "exec Raise some none" => ((refine Raise_mine rfl ?_))
  refine wpAny_call ?_
  k_dflt (refine' code_frame (led := []) (rest := news) (binds := [(Str.ofString "row", .ref row), (Str.ofString "at", .int at' ta)]) (mm := fun y => if y = Str.ofString "at" then some (.int at' ta) else if y = Str.ofString "row" then some (.ref row) else none) B F X ?N T ?sep ?kA ?kF ?kK ?ho ?hcd ?hroom ?hb ?hmm ?hloc ?_ ?c2 ?c3 ?c4 ?c5; walk_at "my_frame")
  case hmm => exact map2 (by decide)
  case sep => exact fun _ _ _ h => nomatch h
  case N => exact N
  intro g' L' h' FG' F' N' B' X' T' R' lt'
  have hlg : g'.IsList row vs.toArray := stays_list FG'.keep hl
  clear F N
  try dsimp only
  try k_fold
  refine hide (fun Qh Eh gh dh kh oh hQ hE => ?_)
  k_steps
  all_goals (
    rename Fr g' _ _ _ => F2
    rename News g' _ _ _ => N2
    refine basic_call B' F2 X' N2 T' rfl rfl rfl ?hroom (fun e t dx od sl h' tk' dne hkind F3 N3 => ?_)
    case hroom => exact my_room hR)
  all_goals (
    exact ⟨_, e, t, dx, sl, rfl, X'.keeps F3.keep, (N3 _ (List.Mem.head _)).1, hE _ _ _ (leave_firstD B' F3 N3 (List.Mem.head _) (.tail _ (.head _)) dne rfl rfl rfl (fun h'' R3 U3 => exc e dx od _ g' h'' _ hkind FG' R3 U3))⟩)

theorem one_badsign {row : Addr} {at' : Int} {ta : Tok} {vs : List Value} {ns : List Int}
    (B : Below A₀ base outer h₀) (F : Fr h₀ L s.heap m) (X : (Mine.hd.heap_39 w.params).In h₀) (N : News h₀ L s.heap news)
    (T : Top Mine.hd.view_39 loose mean mg mb h₀) (hk : cs.kind = .function) (hR : Room dp un 3)
    (hl : h₀.IsList row vs.toArray) (hi : IntsAre vs ns) (hlen : ns.length ≤ 100) (h0 : 0 ≤ at') (h1 : at' < ns.length)
    (hv : 49 ≤ ns.getD at'.toNat 0) (hv' : ns.getD at'.toNat 0 < 128)
    (exc : ∀ e dx od tk g' h' tk', KindO od (.str (Str.ofString "SN") tk) → Fr h₀ L g' m → RaisedD base g' (envX cn cs L a ccd cl :: outer) e dx od h' → g'.UpToSlots h' → E (.ref e) {s with heap := h', toks := tk'}) :
    wpAny (model PySem.Challenge.rw_rh0265_01.row.prog w) (ktrTop dp un gd cn cs L a ccd cl outer) (call (.ref 53) [.ref row, .int at' ta]) Q E s := by
  w_top off
  refine wpAny_call ?_
  k_dflt (refine' code_frame (led := []) (rest := news) (binds := [(Str.ofString "row", .ref row), (Str.ofString "at", .int at' ta)]) (mm := fun y => if y = Str.ofString "at" then some (.int at' ta) else if y = Str.ofString "row" then some (.ref row) else none) B F X ?N T ?sep ?kA ?kF ?kK ?ho ?hcd ?hroom ?hb ?hmm ?hloc ?_ ?c2 ?c3 ?c4 ?c5; walk_at "my_frame")
  case hmm => exact map2 (by decide)
  case sep => exact fun _ _ _ h => nomatch h
  case N => exact N
  intro g' L' h' FG' F' N' B' X' T' R' lt'
  have hlg : g'.IsList row vs.toArray := stays_list FG'.keep hl
  clear F N
  try dsimp only
  try k_fold
  refine hide (fun Qh Eh gh dh kh oh hQ hE => ?_)
  k_steps
  all_goals (
    rename Fr g' _ _ _ => F2
    rename News g' _ _ _ => N2
    refine basic_call B' F2 X' N2 T' rfl rfl rfl ?hroom (fun e t dx od sl h' tk' dne hkind F3 N3 => ?_)
    case hroom => exact my_room hR)
  all_goals (
    exact ⟨_, e, t, dx, sl, rfl, X'.keeps F3.keep, (N3 _ (List.Mem.head _)).1, hE _ _ _ (leave_firstD B' F3 N3 (List.Mem.head _) (.tail _ (.head _)) dne rfl rfl rfl (fun h'' R3 U3 => exc e dx od _ g' h'' _ hkind FG' R3 U3))⟩)

theorem one_zero {row : Addr} {at' : Int} {ta : Tok} {vs : List Value} {ns : List Int}
    (B : Below A₀ base outer h₀) (F : Fr h₀ L s.heap m) (X : (Mine.hd.heap_39 w.params).In h₀) (N : News h₀ L s.heap news)
    (T : Top Mine.hd.view_39 loose mean mg mb h₀) (hk : cs.kind = .function) (hR : Room dp un 3)
    (hl : h₀.IsList row vs.toArray) (hi : IntsAre vs ns) (hlen : ns.length ≤ 100) (h0 : 0 ≤ at') (h1 : at' < ns.length)
    (hv : Oct (ns.getD at'.toNat 0) 0)
    (exc : ∀ e dx od tk g' h' tk', KindO od (.str (Str.ofString "SN") tk) → Fr h₀ L g' m → RaisedD base g' (envX cn cs L a ccd cl :: outer) e dx od h' → g'.UpToSlots h' → E (.ref e) {s with heap := h', toks := tk'}) :
    wpAny (model PySem.Challenge.rw_rh0265_01.row.prog w) (ktrTop dp un gd cn cs L a ccd cl outer) (call (.ref 53) [.ref row, .int at' ta]) Q E s := by
  w_top off
  refine wpAny_call ?_
  k_dflt (refine' code_frame (led := []) (rest := news) (binds := [(Str.ofString "row", .ref row), (Str.ofString "at", .int at' ta)]) (mm := fun y => if y = Str.ofString "at" then some (.int at' ta) else if y = Str.ofString "row" then some (.ref row) else none) B F X ?N T ?sep ?kA ?kF ?kK ?ho ?hcd ?hroom ?hb ?hmm ?hloc ?_ ?c2 ?c3 ?c4 ?c5; walk_at "my_frame")
  case hmm => exact map2 (by decide)
  case sep => exact fun _ _ _ h => nomatch h
  case N => exact N
  intro g' L' h' FG' F' N' B' X' T' R' lt'
  have hlg : g'.IsList row vs.toArray := stays_list FG'.keep hl
  clear F N
  try dsimp only
  try k_fold
  refine hide (fun Qh Eh gh dh kh oh hQ hE => ?_)
  k_steps
  all_goals (
    rename Fr g' _ _ _ => F2
    rename News g' _ _ _ => N2
    refine basic_call B' F2 X' N2 T' rfl rfl rfl ?hroom (fun e t dx od sl h' tk' dne hkind F3 N3 => ?_)
    case hroom => exact my_room hR)
  all_goals (
    exact ⟨_, e, t, dx, sl, rfl, X'.keeps F3.keep, (N3 _ (List.Mem.head _)).1, hE _ _ _ (leave_firstD B' F3 N3 (List.Mem.head _) (.tail _ (.head _)) dne rfl rfl rfl (fun h'' R3 U3 => exc e dx od _ g' h'' _ hkind FG' R3 U3))⟩)

theorem one_five {row : Addr} {at' : Int} {ta : Tok} {vs : List Value} {ns : List Int}
    (B : Below A₀ base outer h₀) (F : Fr h₀ L s.heap m) (X : (Mine.hd.heap_39 w.params).In h₀) (N : News h₀ L s.heap news)
    (T : Top Mine.hd.view_39 loose mean mg mb h₀) (hk : cs.kind = .function) (hR : Room dp un 3)
    (hl : h₀.IsList row vs.toArray) (hi : IntsAre vs ns) (hlen : ns.length ≤ 100) (h0 : 0 ≤ at') (h1 : at' < ns.length)
    (hv : Oct (ns.getD at'.toNat 0) 5)
    (exc : ∀ e dx od tk g' h' tk', KindO od (.str (Str.ofString "SN") tk) → Fr h₀ L g' m → RaisedD base g' (envX cn cs L a ccd cl :: outer) e dx od h' → g'.UpToSlots h' → E (.ref e) {s with heap := h', toks := tk'}) :
    wpAny (model PySem.Challenge.rw_rh0265_01.row.prog w) (ktrTop dp un gd cn cs L a ccd cl outer) (call (.ref 53) [.ref row, .int at' ta]) Q E s := by
  w_top off
  refine wpAny_call ?_
  k_dflt (refine' code_frame (led := []) (rest := news) (binds := [(Str.ofString "row", .ref row), (Str.ofString "at", .int at' ta)]) (mm := fun y => if y = Str.ofString "at" then some (.int at' ta) else if y = Str.ofString "row" then some (.ref row) else none) B F X ?N T ?sep ?kA ?kF ?kK ?ho ?hcd ?hroom ?hb ?hmm ?hloc ?_ ?c2 ?c3 ?c4 ?c5; walk_at "my_frame")
  case hmm => exact map2 (by decide)
  case sep => exact fun _ _ _ h => nomatch h
  case N => exact N
  intro g' L' h' FG' F' N' B' X' T' R' lt'
  have hlg : g'.IsList row vs.toArray := stays_list FG'.keep hl
  clear F N
  try dsimp only
  try k_fold
  refine hide (fun Qh Eh gh dh kh oh hQ hE => ?_)
  k_steps
  all_goals (
    rename Fr g' _ _ _ => F2
    rename News g' _ _ _ => N2
    refine basic_call B' F2 X' N2 T' rfl rfl rfl ?hroom (fun e t dx od sl h' tk' dne hkind F3 N3 => ?_)
    case hroom => exact my_room hR)
  all_goals (
    exact ⟨_, e, t, dx, sl, rfl, X'.keeps F3.keep, (N3 _ (List.Mem.head _)).1, hE _ _ _ (leave_firstD B' F3 N3 (List.Mem.head _) (.tail _ (.head _)) dne rfl rfl rfl (fun h'' R3 U3 => exc e dx od _ g' h'' _ hkind FG' R3 U3))⟩)

theorem one_thirtyone {row : Addr} {at' : Int} {ta : Tok} {vs : List Value} {ns : List Int}
    (B : Below A₀ base outer h₀) (F : Fr h₀ L s.heap m) (X : (Mine.hd.heap_39 w.params).In h₀) (N : News h₀ L s.heap news)
    (T : Top Mine.hd.view_39 loose mean mg mb h₀) (hk : cs.kind = .function) (hR : Room dp un 3)
    (hl : h₀.IsList row vs.toArray) (hi : IntsAre vs ns) (hlen : ns.length ≤ 100) (h0 : 0 ≤ at') (h1 : at' < ns.length)
    (hv : Oct (ns.getD at'.toNat 0) 31)
    (exc : ∀ e dx od tk g' h' tk', KindO od (.str (Str.ofString "SN") tk) → Fr h₀ L g' m → RaisedD base g' (envX cn cs L a ccd cl :: outer) e dx od h' → g'.UpToSlots h' → E (.ref e) {s with heap := h', toks := tk'}) :
    wpAny (model PySem.Challenge.rw_rh0265_01.row.prog w) (ktrTop dp un gd cn cs L a ccd cl outer) (call (.ref 53) [.ref row, .int at' ta]) Q E s := by
  w_top off
  refine wpAny_call ?_
  k_dflt (refine' code_frame (led := []) (rest := news) (binds := [(Str.ofString "row", .ref row), (Str.ofString "at", .int at' ta)]) (mm := fun y => if y = Str.ofString "at" then some (.int at' ta) else if y = Str.ofString "row" then some (.ref row) else none) B F X ?N T ?sep ?kA ?kF ?kK ?ho ?hcd ?hroom ?hb ?hmm ?hloc ?_ ?c2 ?c3 ?c4 ?c5; walk_at "my_frame")
  case hmm => exact map2 (by decide)
  case sep => exact fun _ _ _ h => nomatch h
  case N => exact N
  intro g' L' h' FG' F' N' B' X' T' R' lt'
  have hlg : g'.IsList row vs.toArray := stays_list FG'.keep hl
  clear F N
  try dsimp only
  try k_fold
  refine hide (fun Qh Eh gh dh kh oh hQ hE => ?_)
  k_steps
  all_goals (
    rename Fr g' _ _ _ => F2
    rename News g' _ _ _ => N2
    refine basic_call B' F2 X' N2 T' rfl rfl rfl ?hroom (fun e t dx od sl h' tk' dne hkind F3 N3 => ?_)
    case hroom => exact my_room hR)
  all_goals (
    exact ⟨_, e, t, dx, sl, rfl, X'.keeps F3.keep, (N3 _ (List.Mem.head _)).1, hE _ _ _ (leave_firstD B' F3 N3 (List.Mem.head _) (.tail _ (.head _)) dne rfl rfl rfl (fun h'' R3 U3 => exc e dx od _ g' h'' _ hkind FG' R3 U3))⟩)

theorem one_numcut {row : Addr} {at' : Int} {ta : Tok} {vs : List Value} {ns : List Int}
    (B : Below A₀ base outer h₀) (F : Fr h₀ L s.heap m) (X : (Mine.hd.heap_39 w.params).In h₀) (N : News h₀ L s.heap news)
    (T : Top Mine.hd.view_39 loose mean mg mb h₀) (hk : cs.kind = .function) (hR : Room dp un 3)
    (hl : h₀.IsList row vs.toArray) (hi : IntsAre vs ns) (hlen : ns.length ≤ 100) (h0 : 0 ≤ at') (h1 : at' < ns.length)
    (hv : Oct (ns.getD at'.toNat 0) 1) (h2 : ¬ at' + 2 < ns.length)
    (exc : ∀ e dx od tk g' h' tk', KindO od (.str (Str.ofString "SN") tk) → Fr h₀ L g' m → RaisedD base g' (envX cn cs L a ccd cl :: outer) e dx od h' → g'.UpToSlots h' → E (.ref e) {s with heap := h', toks := tk'}) :
    wpAny (model PySem.Challenge.rw_rh0265_01.row.prog w) (ktrTop dp un gd cn cs L a ccd cl outer) (call (.ref 53) [.ref row, .int at' ta]) Q E s := by
  w_top off
  refine wpAny_call ?_
  k_dflt (refine' code_frame (led := []) (rest := news) (binds := [(Str.ofString "row", .ref row), (Str.ofString "at", .int at' ta)]) (mm := fun y => if y = Str.ofString "at" then some (.int at' ta) else if y = Str.ofString "row" then some (.ref row) else none) B F X ?N T ?sep ?kA ?kF ?kK ?ho ?hcd ?hroom ?hb ?hmm ?hloc ?_ ?c2 ?c3 ?c4 ?c5; walk_at "my_frame")
  case hmm => exact map2 (by decide)
  case sep => exact fun _ _ _ h => nomatch h
  case N => exact N
  intro g' L' h' FG' F' N' B' X' T' R' lt'
  have hlg : g'.IsList row vs.toArray := stays_list FG'.keep hl
  clear F N
  try dsimp only
  try k_fold
  refine hide (fun Qh Eh gh dh kh oh hQ hE => ?_)
  k_steps
  all_goals (
    rename Fr g' _ _ _ => F2
    rename News g' _ _ _ => N2
    refine basic_call B' F2 X' N2 T' rfl rfl rfl ?hroom (fun e t dx od sl h' tk' dne hkind F3 N3 => ?_)
    case hroom => exact my_room hR)
  all_goals (
    exact ⟨_, e, t, dx, sl, rfl, X'.keeps F3.keep, (N3 _ (List.Mem.head _)).1, hE _ _ _ (leave_firstD B' F3 N3 (List.Mem.head _) (.tail _ (.head _)) dne rfl rfl rfl (fun h'' R3 U3 => exc e dx od _ g' h'' _ hkind FG' R3 U3))⟩)

theorem one_nameless {row : Addr} {at' : Int} {ta : Tok} {vs : List Value} {ns : List Int}
    (B : Below A₀ base outer h₀) (F : Fr h₀ L s.heap m) (X : (Mine.hd.heap_39 w.params).In h₀) (N : News h₀ L s.heap news)
    (T : Top Mine.hd.view_39 loose mean mg mb h₀) (hk : cs.kind = .function) (hR : Room dp un 3)
    (hl : h₀.IsList row vs.toArray) (hi : IntsAre vs ns) (hlen : ns.length ≤ 100) (h0 : 0 ≤ at') (h1 : at' < ns.length)
    (hv : Oct (ns.getD at'.toNat 0) 2) (h2 : ns.getD (at' + 1).toNat 0 = 0)
    (exc : ∀ e dx od tk g' h' tk', KindO od (.str (Str.ofString "SN") tk) → Fr h₀ L g' m → RaisedD base g' (envX cn cs L a ccd cl :: outer) e dx od h' → g'.UpToSlots h' → E (.ref e) {s with heap := h', toks := tk'}) :
    wpAny (model PySem.Challenge.rw_rh0265_01.row.prog w) (ktrTop dp un gd cn cs L a ccd cl outer) (call (.ref 53) [.ref row, .int at' ta]) Q E s := by
  w_top off
  k_with "ite" => ((k_dflt (first | (refine' ite_pos ?hcw46 ?_; (case hcw46 => (simp only [beq_iff_eq]; omega))) | (refine' ite_neg ?hcw46 ?_; (case hcw46 => (simp only [beq_iff_eq]; omega))))))
  refine wpAny_call ?_
  k_dflt (refine' code_frame (led := []) (rest := news) (binds := [(Str.ofString "row", .ref row), (Str.ofString "at", .int at' ta)]) (mm := fun y => if y = Str.ofString "at" then some (.int at' ta) else if y = Str.ofString "row" then some (.ref row) else none) B F X ?N T ?sep ?kA ?kF ?kK ?ho ?hcd ?hroom ?hb ?hmm ?hloc ?_ ?c2 ?c3 ?c4 ?c5; walk_at "my_frame")
  case hmm => exact map2 (by decide)
  case sep => exact fun _ _ _ h => nomatch h
  case N => exact N
  intro g' L' h' FG' F' N' B' X' T' R' lt'
  have hlg : g'.IsList row vs.toArray := stays_list FG'.keep hl
  clear F N
  try dsimp only
  try k_fold
  refine hide (fun Qh Eh gh dh kh oh hQ hE => ?_)
  k_steps
  try any_goals (exfalso; first | omega | contradiction)
  all_goals (
    rename Fr g' _ _ _ => F2
    rename News g' _ _ _ => N2
    refine basic_call B' F2 X' N2 T' rfl rfl rfl ?hroom (fun e t dx od sl h' tk' dne hkind F3 N3 => ?_)
    case hroom => exact my_room hR)
  all_goals (
    exact ⟨_, e, t, dx, sl, rfl, X'.keeps F3.keep, (N3 _ (List.Mem.head _)).1, hE _ _ _ (leave_firstD B' F3 N3 (List.Mem.head _) (.tail _ (.head _)) dne rfl rfl rfl (fun h'' R3 U3 => exc e dx od _ g' h'' _ hkind FG' R3 U3))⟩)

theorem one_mark0 {row : Addr} {at' : Int} {ta : Tok} {vs : List Value} {ns : List Int}
    (B : Below A₀ base outer h₀) (F : Fr h₀ L s.heap m) (X : (Mine.hd.heap_39 w.params).In h₀) (N : News h₀ L s.heap news)
    (T : Top Mine.hd.view_39 loose mean mg mb h₀) (hk : cs.kind = .function) (hR : Room dp un 3)
    (hl : h₀.IsList row vs.toArray) (hi : IntsAre vs ns) (hlen : ns.length ≤ 100) (h0 : 0 ≤ at') (h1 : at' < ns.length)
    (hv : Oct (ns.getD at'.toNat 0) 2) (h2 : ¬ at' + 1 < ns.length)
    (exc : ∀ e dx od tk g' h' tk', KindO od (.str (Str.ofString "SN") tk) → Fr h₀ L g' m → RaisedD base g' (envX cn cs L a ccd cl :: outer) e dx od h' → g'.UpToSlots h' → E (.ref e) {s with heap := h', toks := tk'}) :
    wpAny (model PySem.Challenge.rw_rh0265_01.row.prog w) (ktrTop dp un gd cn cs L a ccd cl outer) (call (.ref 53) [.ref row, .int at' ta]) Q E s := by
  w_top off
  refine wpAny_call ?_
  k_dflt (refine' code_frame (led := []) (rest := news) (binds := [(Str.ofString "row", .ref row), (Str.ofString "at", .int at' ta)]) (mm := fun y => if y = Str.ofString "at" then some (.int at' ta) else if y = Str.ofString "row" then some (.ref row) else none) B F X ?N T ?sep ?kA ?kF ?kK ?ho ?hcd ?hroom ?hb ?hmm ?hloc ?_ ?c2 ?c3 ?c4 ?c5; walk_at "my_frame")
  case hmm => exact map2 (by decide)
  case sep => exact fun _ _ _ h => nomatch h
  case N => exact N
  intro g' L' h' FG' F' N' B' X' T' R' lt'
  have hlg : g'.IsList row vs.toArray := stays_list FG'.keep hl
  clear F N
  try dsimp only
  try k_fold
  refine hide (fun Qh Eh gh dh kh oh hQ hE => ?_)
  k_steps
  all_goals (
    rename Fr g' _ _ _ => F2
    rename News g' _ _ _ => N2
    refine basic_call B' F2 X' N2 T' rfl rfl rfl ?hroom (fun e t dx od sl h' tk' dne hkind F3 N3 => ?_)
    case hroom => exact my_room hR)
  all_goals (
    exact ⟨_, e, t, dx, sl, rfl, X'.keeps F3.keep, (N3 _ (List.Mem.head _)).1, hE _ _ _ (leave_firstD B' F3 N3 (List.Mem.head _) (.tail _ (.head _)) dne rfl rfl rfl (fun h'' R3 U3 => exc e dx od _ g' h'' _ hkind FG' R3 U3))⟩)

theorem one_mark1 {row : Addr} {at' : Int} {ta : Tok} {vs : List Value} {ns : List Int}
    (B : Below A₀ base outer h₀) (F : Fr h₀ L s.heap m) (X : (Mine.hd.heap_39 w.params).In h₀) (N : News h₀ L s.heap news)
    (T : Top Mine.hd.view_39 loose mean mg mb h₀) (hk : cs.kind = .function) (hR : Room dp un 3)
    (hl : h₀.IsList row vs.toArray) (hi : IntsAre vs ns) (hlen : ns.length ≤ 100) (h0 : 0 ≤ at') (h1 : at' < ns.length)
    (hv : Oct (ns.getD at'.toNat 0) 3) (h2 : ¬ at' + 1 < ns.length)
    (exc : ∀ e dx od tk g' h' tk', KindO od (.str (Str.ofString "SN") tk) → Fr h₀ L g' m → RaisedD base g' (envX cn cs L a ccd cl :: outer) e dx od h' → g'.UpToSlots h' → E (.ref e) {s with heap := h', toks := tk'}) :
    wpAny (model PySem.Challenge.rw_rh0265_01.row.prog w) (ktrTop dp un gd cn cs L a ccd cl outer) (call (.ref 53) [.ref row, .int at' ta]) Q E s := by
  w_top off
  refine wpAny_call ?_
  k_dflt (refine' code_frame (led := []) (rest := news) (binds := [(Str.ofString "row", .ref row), (Str.ofString "at", .int at' ta)]) (mm := fun y => if y = Str.ofString "at" then some (.int at' ta) else if y = Str.ofString "row" then some (.ref row) else none) B F X ?N T ?sep ?kA ?kF ?kK ?ho ?hcd ?hroom ?hb ?hmm ?hloc ?_ ?c2 ?c3 ?c4 ?c5; walk_at "my_frame")
  case hmm => exact map2 (by decide)
  case sep => exact fun _ _ _ h => nomatch h
  case N => exact N
  intro g' L' h' FG' F' N' B' X' T' R' lt'
  have hlg : g'.IsList row vs.toArray := stays_list FG'.keep hl
  clear F N
  try dsimp only
  try k_fold
  refine hide (fun Qh Eh gh dh kh oh hQ hE => ?_)
  k_steps
  all_goals (
    rename Fr g' _ _ _ => F2
    rename News g' _ _ _ => N2
    refine basic_call B' F2 X' N2 T' rfl rfl rfl ?hroom (fun e t dx od sl h' tk' dne hkind F3 N3 => ?_)
    case hroom => exact my_room hR)
  all_goals (
    exact ⟨_, e, t, dx, sl, rfl, X'.keeps F3.keep, (N3 _ (List.Mem.head _)).1, hE _ _ _ (leave_firstD B' F3 N3 (List.Mem.head _) (.tail _ (.head _)) dne rfl rfl rfl (fun h'' R3 U3 => exc e dx od _ g' h'' _ hkind FG' R3 U3))⟩)

theorem one_mark2 {row : Addr} {at' : Int} {ta : Tok} {vs : List Value} {ns : List Int}
    (B : Below A₀ base outer h₀) (F : Fr h₀ L s.heap m) (X : (Mine.hd.heap_39 w.params).In h₀) (N : News h₀ L s.heap news)
    (T : Top Mine.hd.view_39 loose mean mg mb h₀) (hk : cs.kind = .function) (hR : Room dp un 3)
    (hl : h₀.IsList row vs.toArray) (hi : IntsAre vs ns) (hlen : ns.length ≤ 100) (h0 : 0 ≤ at') (h1 : at' < ns.length)
    (hv : Oct (ns.getD at'.toNat 0) 4) (h2 : ¬ at' + 1 < ns.length)
    (exc : ∀ e dx od tk g' h' tk', KindO od (.str (Str.ofString "SN") tk) → Fr h₀ L g' m → RaisedD base g' (envX cn cs L a ccd cl :: outer) e dx od h' → g'.UpToSlots h' → E (.ref e) {s with heap := h', toks := tk'}) :
    wpAny (model PySem.Challenge.rw_rh0265_01.row.prog w) (ktrTop dp un gd cn cs L a ccd cl outer) (call (.ref 53) [.ref row, .int at' ta]) Q E s := by
  w_top off
  refine wpAny_call ?_
  k_dflt (refine' code_frame (led := []) (rest := news) (binds := [(Str.ofString "row", .ref row), (Str.ofString "at", .int at' ta)]) (mm := fun y => if y = Str.ofString "at" then some (.int at' ta) else if y = Str.ofString "row" then some (.ref row) else none) B F X ?N T ?sep ?kA ?kF ?kK ?ho ?hcd ?hroom ?hb ?hmm ?hloc ?_ ?c2 ?c3 ?c4 ?c5; walk_at "my_frame")
  case hmm => exact map2 (by decide)
  case sep => exact fun _ _ _ h => nomatch h
  case N => exact N
  intro g' L' h' FG' F' N' B' X' T' R' lt'
  have hlg : g'.IsList row vs.toArray := stays_list FG'.keep hl
  clear F N
  try dsimp only
  try k_fold
  refine hide (fun Qh Eh gh dh kh oh hQ hE => ?_)
  k_steps
  all_goals (
    rename Fr g' _ _ _ => F2
    rename News g' _ _ _ => N2
    refine basic_call B' F2 X' N2 T' rfl rfl rfl ?hroom (fun e t dx od sl h' tk' dne hkind F3 N3 => ?_)
    case hroom => exact my_room hR)
  all_goals (
    exact ⟨_, e, t, dx, sl, rfl, X'.keeps F3.keep, (N3 _ (List.Mem.head _)).1, hE _ _ _ (leave_firstD B' F3 N3 (List.Mem.head _) (.tail _ (.head _)) dne rfl rfl rfl (fun h'' R3 U3 => exc e dx od _ g' h'' _ hkind FG' R3 U3))⟩)

theorem one_short0 {row : Addr} {at' : Int} {ta : Tok} {vs : List Value} {ns : List Int}
    (B : Below A₀ base outer h₀) (F : Fr h₀ L s.heap m) (X : (Mine.hd.heap_39 w.params).In h₀) (N : News h₀ L s.heap news)
    (T : Top Mine.hd.view_39 loose mean mg mb h₀) (hk : cs.kind = .function) (hR : Room dp un 3)
    (hl : h₀.IsList row vs.toArray) (hi : IntsAre vs ns) (hlen : ns.length ≤ 100) (h0 : 0 ≤ at') (h1 : at' < ns.length)
    (hv : Oct (ns.getD at'.toNat 0) 2) (h2 : (ns.length : Int) < at' + 2 + ns.getD (at' + 1).toNat 0)
    (exc : ∀ e dx od tk g' h' tk', KindO od (.str (Str.ofString "SN") tk) → Fr h₀ L g' m → RaisedD base g' (envX cn cs L a ccd cl :: outer) e dx od h' → g'.UpToSlots h' → E (.ref e) {s with heap := h', toks := tk'}) :
    wpAny (model PySem.Challenge.rw_rh0265_01.row.prog w) (ktrTop dp un gd cn cs L a ccd cl outer) (call (.ref 53) [.ref row, .int at' ta]) Q E s := by
  w_top off
  refine wpAny_call ?_
  k_dflt (refine' code_frame (led := []) (rest := news) (binds := [(Str.ofString "row", .ref row), (Str.ofString "at", .int at' ta)]) (mm := fun y => if y = Str.ofString "at" then some (.int at' ta) else if y = Str.ofString "row" then some (.ref row) else none) B F X ?N T ?sep ?kA ?kF ?kK ?ho ?hcd ?hroom ?hb ?hmm ?hloc ?_ ?c2 ?c3 ?c4 ?c5; walk_at "my_frame")
  case hmm => exact map2 (by decide)
  case sep => exact fun _ _ _ h => nomatch h
  case N => exact N
  intro g' L' h' FG' F' N' B' X' T' R' lt'
  have hlg : g'.IsList row vs.toArray := stays_list FG'.keep hl
  clear F N
  try dsimp only
  try k_fold
  refine hide (fun Qh Eh gh dh kh oh hQ hE => ?_)
  k_steps
  all_goals (
    rename Fr g' _ _ _ => F2
    rename News g' _ _ _ => N2
    refine basic_call B' F2 X' N2 T' rfl rfl rfl ?hroom (fun e t dx od sl h' tk' dne hkind F3 N3 => ?_)
    case hroom => exact my_room hR)
  all_goals (
    exact ⟨_, e, t, dx, sl, rfl, X'.keeps F3.keep, (N3 _ (List.Mem.head _)).1, hE _ _ _ (leave_firstD B' F3 N3 (List.Mem.head _) (.tail _ (.head _)) dne rfl rfl rfl (fun h'' R3 U3 => exc e dx od _ g' h'' _ hkind FG' R3 U3))⟩)

theorem one_short1 {row : Addr} {at' : Int} {ta : Tok} {vs : List Value} {ns : List Int}
    (B : Below A₀ base outer h₀) (F : Fr h₀ L s.heap m) (X : (Mine.hd.heap_39 w.params).In h₀) (N : News h₀ L s.heap news)
    (T : Top Mine.hd.view_39 loose mean mg mb h₀) (hk : cs.kind = .function) (hR : Room dp un 3)
    (hl : h₀.IsList row vs.toArray) (hi : IntsAre vs ns) (hlen : ns.length ≤ 100) (h0 : 0 ≤ at') (h1 : at' < ns.length)
    (hv : Oct (ns.getD at'.toNat 0) 3) (h2 : (ns.length : Int) < at' + 2 + ns.getD (at' + 1).toNat 0)
    (exc : ∀ e dx od tk g' h' tk', KindO od (.str (Str.ofString "SN") tk) → Fr h₀ L g' m → RaisedD base g' (envX cn cs L a ccd cl :: outer) e dx od h' → g'.UpToSlots h' → E (.ref e) {s with heap := h', toks := tk'}) :
    wpAny (model PySem.Challenge.rw_rh0265_01.row.prog w) (ktrTop dp un gd cn cs L a ccd cl outer) (call (.ref 53) [.ref row, .int at' ta]) Q E s := by
  w_top off
  refine wpAny_call ?_
  k_dflt (refine' code_frame (led := []) (rest := news) (binds := [(Str.ofString "row", .ref row), (Str.ofString "at", .int at' ta)]) (mm := fun y => if y = Str.ofString "at" then some (.int at' ta) else if y = Str.ofString "row" then some (.ref row) else none) B F X ?N T ?sep ?kA ?kF ?kK ?ho ?hcd ?hroom ?hb ?hmm ?hloc ?_ ?c2 ?c3 ?c4 ?c5; walk_at "my_frame")
  case hmm => exact map2 (by decide)
  case sep => exact fun _ _ _ h => nomatch h
  case N => exact N
  intro g' L' h' FG' F' N' B' X' T' R' lt'
  have hlg : g'.IsList row vs.toArray := stays_list FG'.keep hl
  clear F N
  try dsimp only
  try k_fold
  refine hide (fun Qh Eh gh dh kh oh hQ hE => ?_)
  k_steps
  all_goals (
    rename Fr g' _ _ _ => F2
    rename News g' _ _ _ => N2
    refine basic_call B' F2 X' N2 T' rfl rfl rfl ?hroom (fun e t dx od sl h' tk' dne hkind F3 N3 => ?_)
    case hroom => exact my_room hR)
  all_goals (
    exact ⟨_, e, t, dx, sl, rfl, X'.keeps F3.keep, (N3 _ (List.Mem.head _)).1, hE _ _ _ (leave_firstD B' F3 N3 (List.Mem.head _) (.tail _ (.head _)) dne rfl rfl rfl (fun h'' R3 U3 => exc e dx od _ g' h'' _ hkind FG' R3 U3))⟩)

theorem one_short2 {row : Addr} {at' : Int} {ta : Tok} {vs : List Value} {ns : List Int}
    (B : Below A₀ base outer h₀) (F : Fr h₀ L s.heap m) (X : (Mine.hd.heap_39 w.params).In h₀) (N : News h₀ L s.heap news)
    (T : Top Mine.hd.view_39 loose mean mg mb h₀) (hk : cs.kind = .function) (hR : Room dp un 3)
    (hl : h₀.IsList row vs.toArray) (hi : IntsAre vs ns) (hlen : ns.length ≤ 100) (h0 : 0 ≤ at') (h1 : at' < ns.length)
    (hv : Oct (ns.getD at'.toNat 0) 4) (h2 : (ns.length : Int) < at' + 2 + ns.getD (at' + 1).toNat 0)
    (exc : ∀ e dx od tk g' h' tk', KindO od (.str (Str.ofString "SN") tk) → Fr h₀ L g' m → RaisedD base g' (envX cn cs L a ccd cl :: outer) e dx od h' → g'.UpToSlots h' → E (.ref e) {s with heap := h', toks := tk'}) :
    wpAny (model PySem.Challenge.rw_rh0265_01.row.prog w) (ktrTop dp un gd cn cs L a ccd cl outer) (call (.ref 53) [.ref row, .int at' ta]) Q E s := by
  w_top off
  refine wpAny_call ?_
  k_dflt (refine' code_frame (led := []) (rest := news) (binds := [(Str.ofString "row", .ref row), (Str.ofString "at", .int at' ta)]) (mm := fun y => if y = Str.ofString "at" then some (.int at' ta) else if y = Str.ofString "row" then some (.ref row) else none) B F X ?N T ?sep ?kA ?kF ?kK ?ho ?hcd ?hroom ?hb ?hmm ?hloc ?_ ?c2 ?c3 ?c4 ?c5; walk_at "my_frame")
  case hmm => exact map2 (by decide)
  case sep => exact fun _ _ _ h => nomatch h
  case N => exact N
  intro g' L' h' FG' F' N' B' X' T' R' lt'
  have hlg : g'.IsList row vs.toArray := stays_list FG'.keep hl
  clear F N
  try dsimp only
  try k_fold
  refine hide (fun Qh Eh gh dh kh oh hQ hE => ?_)
  k_steps
  all_goals (
    rename Fr g' _ _ _ => F2
    rename News g' _ _ _ => N2
    refine basic_call B' F2 X' N2 T' rfl rfl rfl ?hroom (fun e t dx od sl h' tk' dne hkind F3 N3 => ?_)
    case hroom => exact my_room hR)
  all_goals (
    exact ⟨_, e, t, dx, sl, rfl, X'.keeps F3.keep, (N3 _ (List.Mem.head _)).1, hE _ _ _ (leave_firstD B' F3 N3 (List.Mem.head _) (.tail _ (.head _)) dne rfl rfl rfl (fun h'' R3 U3 => exc e dx od _ g' h'' _ hkind FG' R3 U3))⟩)
end
end
section
-- part M8a

/-- a token begins at a place; the place behind it -/
inductive Step (ns : List Int) (at' : Int) : Int → Tk → Prop
  | word {i : Int} (hv : ns.getD at'.toNat 0 = 128 + i) (i0 : 0 ≤ i) (i1 : i < 44) : Step ns at' (at' + 1) (.word i)
  | sign {i : Int} (hv : ns.getD at'.toNat 0 = 32 + i) (i0 : 0 ≤ i) (i1 : i < 17) : Step ns at' (at' + 1) (.sign i)
  | num {lo up : Int} (hv : Oct (ns.getD at'.toNat 0) 1) (h2 : at' + 2 < ns.length) (hlo : ns.getD (at' + 1).toNat 0 = lo) (hhi : ns.getD (at' + 2).toNat 0 = up)
      (l0 : 0 ≤ lo) (l1 : lo < 256) (u0 : 0 ≤ up) (u1 : up < 256) : Step ns at' (at' + 3) (.num (lo + 256 * up))
  | txt {kd : Nat} {xs : List Int} (hkd : kd ≤ 2) (hv : Oct (ns.getD at'.toNat 0) (kd + 2)) (h2 : at' + 1 < ns.length) (k0 : 0 ≤ ns.getD (at' + 1).toNat 0) (kn : kd = 0 → ns.getD (at' + 1).toNat 0 ≠ 0)
      (h3 : at' + 2 + ns.getD (at' + 1).toNat 0 ≤ ns.length) (hcs : (ns.drop (at' + 2).toNat).take (ns.getD (at' + 1).toNat 0).toNat = xs) : Step ns at' (at' + 2 + ns.getD (at' + 1).toNat 0) (.txt kd xs)
/-- no token begins at a place -/
inductive Bad (ns : List Int) (at' : Int) : Prop
  | word (hv : 172 ≤ ns.getD at'.toNat 0)
  | sign (hv : 49 ≤ ns.getD at'.toNat 0) (hv' : ns.getD at'.toNat 0 < 128)
  | zero (hv : Oct (ns.getD at'.toNat 0) 0)
  | five (hv : Oct (ns.getD at'.toNat 0) 5)
  | thirtyone (hv : Oct (ns.getD at'.toNat 0) 31)
  | numcut (hv : Oct (ns.getD at'.toNat 0) 1) (h2 : ¬ at' + 2 < ns.length)
  | nameless (hv : Oct (ns.getD at'.toNat 0) 2) (h2 : ns.getD (at' + 1).toNat 0 = 0)
  | mark {kd : Nat} (hkd : kd ≤ 2) (hv : Oct (ns.getD at'.toNat 0) (kd + 2)) (h2 : ¬ at' + 1 < ns.length)
  | short {kd : Nat} (hkd : kd ≤ 2) (hv : Oct (ns.getD at'.toNat 0) (kd + 2)) (h2 : (ns.length : Int) < at' + 2 + ns.getD (at' + 1).toNat 0)
/-- the tokens from a place to the end -/
inductive Toks (ns : List Int) : Int → List Tk → Prop
  | nil {a : Int} : a = ns.length → Toks ns a []
  | cons {a b : Int} {tk : Tk} {l : List Tk} : 0 ≤ a → a < ns.length → Step ns a b tk → Toks ns b l → Toks ns a (tk :: l)
/-- from a place on something is no token -/
inductive TokBad (ns : List Int) : Int → Prop
  | here {a : Int} : 0 ≤ a → a < ns.length → Bad ns a → TokBad ns a
  | next {a b : Int} {tk : Tk} : 0 ≤ a → a < ns.length → Step ns a b tk → TokBad ns b → TokBad ns a
theorem Step.up {ns : List Int} {a b : Int} {tk : Tk} (h : Step ns a b tk) : a + 1 ≤ b := by
  cases h <;> omega
theorem loop_ind {W : Shared → Prop} {Inv : Nat → Shared → Prop} (h : ∀ n s, Inv n s → (∀ m s', m < n → Inv m s' → W s') → W s) {n : Nat} {s : Shared} (i : Inv n s) : W s := by
  induction n using Nat.strongRecOn generalizing s with
  | _ n ih => exact h n s i fun m s' hm hi => ih m hm hi
theorem fr_cast {g h : Heap} {L : Addr} {m m' : Str → Option Value} (F : Fr g L h m) (e : ∀ y, m y = m' y) : Fr g L h m' := (funext e : m = m') ▸ F
section
variable {w : World} {dp un : Nat} {gd : Option (List Code)} {cn : Str} {cs : Scope} {a : Addr} {ccd : Value} {cl : List (Str × Addr)} {outer : List Env} {A₀ : Around} {base h₀ : Heap} {L : Addr} {m : Str → Option Value} {s : Shared}
    {loose : List Str} {mean : ExcName → Option Value} {mg mb : Str → Option Value} {Q E : Value → Shared → Prop} {news : List (Addr × Obj)}



theorem one_ret {nxt : Int} {tk : Tk} {row : Addr} {at' : Int} {ta : Tok} {vs : List Value} {ns : List Int}
    (B : Below A₀ base outer h₀) (F : Fr h₀ L s.heap m) (X : (Mine.hd.heap_39 w.params).In h₀) (N : News h₀ L s.heap news)
    (T : Top Mine.hd.view_39 loose mean mg mb h₀) (hk : cs.kind = .function) (hR : Room dp un 3)
    (hl : h₀.IsList row vs.toArray) (hi : IntsAre vs ns) (hlen : ns.length ≤ 100) (h0 : 0 ≤ at') (h1 : at' < ns.length) (hb : ∀ c ∈ ns, 0 ≤ c ∧ c < 256) (hs : Step ns at' nxt tk)
    (ret : ∀ D tv u extra h' tk', DatIn extra tv tk.dat → (∀ q ∈ news, q.1 ≠ D ∧ ∀ e ∈ extra, q.1 ≠ e.1) → Fr h₀ L h' m → News h₀ L h' ((D, pairO tv (.int nxt u)) :: (extra ++ news)) → Q (.ref D) {s with heap := h', toks := tk'}) :
    wpAny (model PySem.Challenge.rw_rh0265_01.row.prog w) (ktrTop dp un gd cn cs L a ccd cl outer) (call (.ref 53) [.ref row, .int at' ta]) Q E s := by
  cases hs with
  | word hv i0 i1 => exact one_word B F X N T hk hR hl hi hlen h0 h1 hv i0 i1 ret
  | sign hv i0 i1 => exact one_sign B F X N T hk hR hl hi hlen h0 h1 hv i0 i1 ret
  | num hv h2 hlo hhi l0 l1 u0 u1 => exact one_num B F X N T hk hR hl hi hlen h0 h1 hv h2 hlo hhi l0 l1 u0 u1 ret
  | @txt kd xs hkd hv h2 k0 kn h3 hcs =>
    match kd, hkd, hv, kn, ret with
    | 0, _, hv, kn, ret => exact one_txt0 B F X N T hk hR hl hi hlen h0 h1 hv h2 hb k0 (kn rfl) h3 hcs ret
    | 1, _, hv, kn, ret => exact one_txt1 B F X N T hk hR hl hi hlen h0 h1 hv h2 hb k0 h3 hcs ret
    | 2, _, hv, kn, ret => exact one_txt2 B F X N T hk hR hl hi hlen h0 h1 hv h2 hb k0 h3 hcs ret
theorem one_exc {row : Addr} {at' : Int} {ta : Tok} {vs : List Value} {ns : List Int}
    (B : Below A₀ base outer h₀) (F : Fr h₀ L s.heap m) (X : (Mine.hd.heap_39 w.params).In h₀) (N : News h₀ L s.heap news)
    (T : Top Mine.hd.view_39 loose mean mg mb h₀) (hk : cs.kind = .function) (hR : Room dp un 3)
    (hl : h₀.IsList row vs.toArray) (hi : IntsAre vs ns) (hlen : ns.length ≤ 100) (h0 : 0 ≤ at') (h1 : at' < ns.length) (hs : Bad ns at')
    (exc : ∀ e dx od tk g' h' tk', KindO od (.str (Str.ofString "SN") tk) → Fr h₀ L g' m → RaisedD base g' (envX cn cs L a ccd cl :: outer) e dx od h' → g'.UpToSlots h' → E (.ref e) {s with heap := h', toks := tk'}) :
    wpAny (model PySem.Challenge.rw_rh0265_01.row.prog w) (ktrTop dp un gd cn cs L a ccd cl outer) (call (.ref 53) [.ref row, .int at' ta]) Q E s := by
  cases hs with
  | word hv => exact one_badword B F X N T hk hR hl hi hlen h0 h1 hv exc
  | sign hv hv' => exact one_badsign B F X N T hk hR hl hi hlen h0 h1 hv hv' exc
  | zero hv => exact one_zero B F X N T hk hR hl hi hlen h0 h1 hv exc
  | five hv => exact one_five B F X N T hk hR hl hi hlen h0 h1 hv exc
  | thirtyone hv => exact one_thirtyone B F X N T hk hR hl hi hlen h0 h1 hv exc
  | numcut hv h2 => exact one_numcut B F X N T hk hR hl hi hlen h0 h1 hv h2 exc
  | nameless hv h2 => exact one_nameless B F X N T hk hR hl hi hlen h0 h1 hv h2 exc
  | @mark kd hkd hv h2 =>
    match kd, hkd, hv with
    | 0, _, hv => exact one_mark0 B F X N T hk hR hl hi hlen h0 h1 hv h2 exc
    | 1, _, hv => exact one_mark1 B F X N T hk hR hl hi hlen h0 h1 hv h2 exc
    | 2, _, hv => exact one_mark2 B F X N T hk hR hl hi hlen h0 h1 hv h2 exc
  | @short kd hkd hv h2 =>
    match kd, hkd, hv with
    | 0, _, hv => exact one_short0 B F X N T hk hR hl hi hlen h0 h1 hv h2 exc
    | 1, _, hv => exact one_short1 B F X N T hk hR hl hi hlen h0 h1 hv h2 exc
    | 2, _, hv => exact one_short2 B F X N T hk hR hl hi hlen h0 h1 hv h2 exc
end
-- part M8

/-- a while loop's rest, hidden from the walker -/
noncomputable def MyRest (prog : Program) (w : World) (A : Around) (E : Value → Shared → Prop) (env : Env) (test : PySem.Expr) (body orelse : List Stmt) (Q : Flow → Shared → Prop) (s : Shared) : Prop :=
  WhlRest prog w A E env test body orelse Q 100 s
theorem my_start {prog : Program} {w : World} {A : Around} {E : Value → Shared → Prop} {s : Shared} {env : Env} {test : PySem.Expr} {body orelse : List Stmt} {Q : Flow → Shared → Prop} {pos : Pos}
    (h : MyRest prog w A E env test body orelse Q s) : wpAny (model prog w) A (exec (.While test body orelse pos) env) Q E s := whl_start 100 h
noncomputable def MyPost (prog : Program) (w : World) (A : Around) (E : Value → Shared → Prop) (env : Env) (test : PySem.Expr) (body orelse : List Stmt) (Q : Flow → Shared → Prop) (f : Flow) (s : Shared) : Prop :=
  match f with
  | .next => MyRest prog w A E env test body orelse Q s
  | .cont => MyRest prog w A E env test body orelse Q s
  | .brk => Q .next s
  | .ret v => Q (.ret v) s
theorem my_turn {prog : Program} {w : World} {A : Around} {E : Value → Shared → Prop} {s : Shared} {env : Env} {test : PySem.Expr} {body orelse : List Stmt} {Q : Flow → Shared → Prop} (hE : PassesOwn (model prog w) A env E)
    (h : wpAny (model prog w) A (isTrue test env (eval test env)) (fun b s₂ => WhlIf b (wpAny (model prog w) A (execs body env) (MyPost prog w A E env test body orelse Q) E s₂) (wpAny (model prog w) A (execs orelse env) Q E s₂)) E s) :
    MyRest prog w A E env test body orelse Q s := by
  refine whl_turn (k := 99) hE (wpAny_mono h (fun b s₂ h₂ => ?_) fun _ _ x => x)
  unfold WhlIf at h₂ ⊢
  split
  · rename_i hb
    rw [if_pos hb] at h₂
    refine wpAny_mono h₂ (fun f s₃ h₃ => ?_) fun _ _ x => x
    cases f <;> exact h₃
  · rename_i hb
    rw [if_neg hb] at h₂
    exact h₂
theorem fr_eq {g h : Heap} {L : Addr} {tv : Option Value} {va vf vr : Value} {m' : Str → Option Value} (F : Fr g L h m')
    (e1 : m' (Str.ofString "token") = tv) (e2 : m' (Str.ofString "at") = some va) (e3 : m' (Str.ofString "found") = some vf) (e4 : m' (Str.ofString "row") = some vr)
    (e : ∀ y, y ≠ Str.ofString "token" → y ≠ Str.ofString "at" → y ≠ Str.ofString "found" → y ≠ Str.ofString "row" → m' y = none) :
    Fr g L h (fun y => if y = Str.ofString "token" then tv else if y = Str.ofString "at" then some va else if y = Str.ofString "found" then some vf else if y = Str.ofString "row" then some vr else none) := by
  refine fr_cast F fun y => ?_
  split
  · rename_i h; rw [h]; exact e1
  split
  · rename_i h; rw [h]; exact e2
  split
  · rename_i h; rw [h]; exact e3
  split
  · rename_i h; rw [h]; exact e4
  · exact e y (by assumption) (by assumption) (by assumption) (by assumption)
theorem mem_swap {α : Type} {q x y : α} {l1 l2 : List α} (h : q ∈ x :: y :: (l1 ++ l2)) : q ∈ y :: (l1 ++ x :: l2) := by
  simp only [List.mem_cons, List.mem_append] at h ⊢
  rcases h with h | h | h | h
  · exact .inr (.inr (.inl h))
  · exact .inl h
  · exact .inr (.inl h)
  · exact .inr (.inr (.inr h))
noncomputable def ExpInv (g : Heap) (L row : Addr) (ns : List Int) (tks : List Tk) (s : Shared) (n : Nat) (s' : Shared) : Prop :=
  ∃ fa done left a t vals nn extra tv h' tk', s' = ⟨h', s.gens, s.drawn, tk', s.os⟩ ∧ left.length = n ∧ Toks ns a left ∧ (0 ≤ a ∧ (vals.length : Int) ≤ a) ∧ tks = done ++ left ∧ DatAll extra vals (done.map Tk.dat) ∧ (∀ e ∈ extra, e.1 ≠ fa) ∧
    Fr g L h' (fun y => if y = Str.ofString "token" then tv else if y = Str.ofString "at" then some (.int a t) else if y = Str.ofString "found" then some (.ref fa) else if y = Str.ofString "row" then some (.ref row) else none) ∧
    News g L h' ((fa, PySem.W.listOf vals.toArray nn) :: extra)
section
variable {w : World} {dp un : Nat} {gd : Option (List Code)} {cn : Str} {cs : Scope} {a : Addr} {ccd : Value} {cl : List (Str × Addr)} {outer : List Env} {A₀ : Around} {base h₀ : Heap} {L : Addr} {m : Str → Option Value} {s : Shared}
    {loose : List Str} {mean : ExcName → Option Value} {mg mb : Str → Option Value} {Q E : Value → Shared → Prop} {news : List (Addr × Obj)}



theorem expand_ret {row : Addr} {vs : List Value} {ns : List Int} {tks : List Tk}
    (B : Below A₀ base outer h₀) (F : Fr h₀ L s.heap m) (X : (Mine.hd.heap_39 w.params).In h₀) (N : News h₀ L s.heap news)
    (T : Top Mine.hd.view_39 loose mean mg mb h₀) (hk : cs.kind = .function) (hR : Room dp un 4)
    (hl : h₀.IsList row vs.toArray ∨ ∃ nr, (row, PySem.W.listOf vs.toArray nr) ∈ news) (hi : IntsAre vs ns) (hlen : ns.length ≤ 100) (hb : ∀ c ∈ ns, 0 ≤ c ∧ c < 256) (ht : Toks ns 0 tks)
    (ret : ∀ D vals nn extra h' tk', DatAll extra vals (tks.map Tk.dat) → (∀ q ∈ news, q.1 ≠ D ∧ ∀ e ∈ extra, q.1 ≠ e.1) → (∀ e ∈ extra, e.1 ≠ D) → Fr h₀ L h' m → News h₀ L h' ((D, PySem.W.listOf vals.toArray nn) :: (extra ++ news)) → Q (.ref D) {s with heap := h', toks := tk'}) :
    wpAny (model PySem.Challenge.rw_rh0265_01.row.prog w) (ktrTop dp un gd cn cs L a ccd cl outer) (call (.ref 60) [.ref row]) Q E s := by
  w_top off
  k_with_none
  k_with "my_frame" => (((case kA => exact rfl); (case kF => exact rfl); (case kK => assumption); (case ho => k_is); (case hcd => k_is); (case hroom => exact Room.one (by assumption)); (case hb => exact BindsTo.of_eq rfl); (case hloc => exact locs rfl); (case c2 => exact rfl); (case c3 => exact rfl); (case c4 => exact rfl); (case c5 => decide)))
  k_with "my_sel" => (first | (refine' Sel.head ?aw2; (case aw2 => k_all)) | (refine' Sel.tail ?aw2 ?bw2; (case aw2 => k_ne); (case bw2 => walk_at "my_sel")))
  k_with "ite" => ((k_closed; k_dflt (first | (refine' ite_pos ?hcw3 ?_; (case hcw3 => decide)) | (refine' ite_neg ?hcw3 ?_; (case hcw3 => decide)))))
  k_with "my_strewn" => ((k_dflt (refine' strewn_says ?k1w4 ?k2w4 ?k3w4 ?k4w4 ?k5w4 ?k6w4 ?S1w4 ?S2w4 ?kiw4 ?h0w4 ?hKw4 ?hmw4 ?hm2w4 ?hlenw4 ?hRw4 ?_; (case k1w4 => k_asm); (case k2w4 => k_asm); (case k3w4 => k_asm); (case k4w4 => k_asm); (case k5w4 => k_asm); (case k6w4 => first | exact rfl | assumption); (case S1w4 => walk_at "my_sel"); (case S2w4 => walk_at "my_sel"); (case kiw4 => assumption); (case h0w4 => omega); (case hKw4 => omega); (case hmw4 => decide); (case hm2w4 => decide); (case hlenw4 => assumption); (case hRw4 => exact Room.sub (by assumption) (Nat.le_refl _) (Nat.add_le_add_left (by decide) _)); k_whole)))
  k_with "call ref" => ((k_here; (with_reducible show wpAny _ _ (call (Value.ref 67) [Value.ref _, Value.int _ _]) _ _ _); walk_at "my_strewn"; intro r'w5 t1'w5 t'w5 h'w5 tk'w5 lo'w5 hi'w5 F'w5 N'w5; (try dsimp only); (try k_sweep)))
  k_with "call ref" => ((k_here; (with_reducible show wpAny _ _ (call (Value.ref 67) [Value.ref _, Value.int 9 _]) _ _ _); walk_at "my_strewn"; intro r'w6 t1'w6 t'w6 h'w6 tk'w6 lo'w6 hi'w6 F'w6 N'w6; (try dsimp only); (try k_sweep); (rcases nineW lo'w6 hi'w6 with e' | e' | e' | e' | e' | e' <;> (first | subst e' | (have lo2'w6 := e'.1; have hi2'w6 := e'.2; clear e')) <;> clear lo'w6 hi'w6)))
  k_with "newTuple" => ((k_here; k_dflt (refine' kup_newTuple ?Fw7 ?Nw7 ?_ ?zw7; (case Fw7 => k_asm); (case Nw7 => k_asm); (case zw7 => first | decide | kmk_size)); intro D'w7 h'w7 F'w7 N'w7 l1w7; (try k_lt l1w7); (try k_sweep)))
  k_with "exec While Compare" => ((refine my_start ?_))
  refine wpAny_call ?_
  k_dflt (refine' code_frame (led := []) (rest := news) (binds := [(Str.ofString "row", .ref row)]) (mm := fun y => if y = Str.ofString "row" then some (.ref row) else none) B F X ?N T ?sep ?kA ?kF ?kK ?ho ?hcd ?hroom ?hb ?hmm ?hloc ?_ ?c2 ?c3 ?c4 ?c5; walk_at "my_frame")
  case hmm => exact map1
  case sep => exact fun _ _ _ h => nomatch h
  case N => exact N
  intro g' L' h' FG' F' N' B' X' T' R' lt'
  have hlg : g'.IsList row vs.toArray := by
    rcases hl with hl | ⟨nr, hm⟩
    · exact stays_list FG'.keep hl
    · exact ⟨_, R' _ hm, rfl, _, rfl⟩
  clear F N
  try dsimp only
  try k_fold
  k_steps
  rename Fr g' _ _ _ => F2
  rename News g' _ _ _ => N2
  refine loop_ind (W := MyRest _ _ _ _ _ _ _ _ _) (Inv := ExpInv g' L' row ns tks s) ?step (n := tks.length)
    ⟨_, [], tks, 0, _, [], 0, [], none, _, _, rfl, rfl, ht, ⟨Int.le_refl _, Int.le_refl _⟩, rfl, .nil, fun _ h => (nomatch h), fr_eq F2 rfl rfl rfl rfl (fun y h1 h2 h3 h4 => by rw [if_neg h3, if_neg h2, if_neg h4]),
      fun q hq => N2 q (by rw [List.mem_singleton.mp hq]; exact .tail _ (.head _))⟩
  case step =>
    clear F2 N2
    rintro n _ ⟨fa, done, left, a, t, vals, nn, extra, tv, h', tk', rfl, hn, hT, ⟨ha, hva⟩, htk, hD, hne, F2, N2⟩ ih
    have F2N := N2
    refine my_turn ?hE ?_
    case hE => first | passes_own | with_unfolding_all passes_own
    cases hT with
    | nil he =>
      k_steps
      refine WhlIf.no (decide_eq_false (by omega)) ?_
      k_steps
      rename News h₀ _ _ (_ :: extra) => hN
      rename News h₀ _ _ news => hR2
      refine ret fa vals nn extra _ _ ?_ ?_ hne (by assumption) (news_app hN hR2)
      · rw [htk, List.append_nil]; exact hD
      · exact fun q hq => ⟨rest_ne R' F2N (List.Mem.head _) q hq, fun e he => rest_ne R' F2N (List.Mem.tail _ he) q hq⟩
    | @cons _ b tkn l ha0 ha1 hS hT =>
      k_steps
      refine WhlIf.yes (decide_eq_true ha1) ?_
      have hv100 : vals.length ≤ 100 := by omega
      k_steps
      k_dflt (refine' one_ret B' F2 X' N2 T' ?k6 ?hR hlg hi hlen ha0 ha1 hb hS ?_; (case k6 => exact rfl); (case hR => exact Room.sub hR (Nat.le_refl _) (Nat.add_le_add_left (by decide) _)))
      intro D tv2 u ex2 h2 tk2 hD2 hsep F3 N3
      replace N3 := fun q hq => N3 q (mem_swap hq)
      change News g' L' h2 _ at N3
      clear F2 N2
      k_steps
      rename News g' _ _ (_ :: _) => N4
      rename Fr g' _ _ _ => F4
      refine append_K F4 N4 (Upd.head fun p hp => ?hall) ?_ (by rw [List.size_toArray]; exact Nat.le_trans hv100 (by rw [sizeLine_eq]; decide))
      case hall =>
        rcases List.mem_cons.mp hp with z | z
        · rw [z]; exact Ne.symm (hsep _ (.head _)).1
        · rcases List.mem_append.mp z with z | z
          · exact Ne.symm ((hsep _ (.head _)).2 _ z)
          · exact hne _ z
      intro h5 F5 N5
      clear F4 N4
      k_steps
      refine ih l.length _ (by rw [← hn]; exact Nat.lt_succ_self _) ⟨fa, done ++ [tkn], l, b, _, vals ++ [tv2], nn + 1, (D, pairO tv2 (.int b u)) :: (ex2 ++ extra), some tv2, _, _, rfl, rfl, hT, ⟨?_, ?_⟩, ?_, ?_, ?_, fr_eq F5 rfl rfl rfl rfl ?_, ?_⟩
      · have := hS.up; omega
      · have := hS.up; rw [List.length_append]; simp; omega
      · rw [htk]; simp
      · rw [List.map_append]
        exact DatAll.append (hD.mono fun p hp => .tail _ (List.mem_append_right _ hp)) (.one (hD2.mono fun p hp => .tail _ (List.mem_append_left _ hp)))
      · intro p hp
        rcases List.mem_cons.mp hp with z | z
        · rw [z]; exact Ne.symm (hsep _ (.head _)).1
        · rcases List.mem_append.mp z with z | z
          · exact Ne.symm ((hsep _ (.head _)).2 _ z)
          · exact hne _ z
      · intro y h1 h2 h3 h4
        rw [if_neg h2, if_neg h1, if_neg h1, if_neg h2, if_neg h3, if_neg h4]
      · rw [← List.push_toArray]; exact N5

noncomputable def ExpBad (g : Heap) (L row : Addr) (ns : List Int) (s : Shared) (n : Nat) (s' : Shared) : Prop :=
  ∃ (fa : Addr) (a : Int) (t : Tok) (vals : List Value) (nn : Nat) (extra : List (Addr × Obj)) (tv : Option Value) (h' : Heap) (tk' : Nat), s' = ⟨h', s.gens, s.drawn, tk', s.os⟩ ∧ ((ns.length : Int) - a).toNat = n ∧ TokBad ns a ∧ (0 ≤ a ∧ (vals.length : Int) ≤ a) ∧ (∀ e ∈ extra, e.1 ≠ fa) ∧
    Fr g L h' (fun y => if y = Str.ofString "token" then tv else if y = Str.ofString "at" then some (.int a t) else if y = Str.ofString "found" then some (.ref fa) else if y = Str.ofString "row" then some (.ref row) else none) ∧
    News g L h' ((fa, PySem.W.listOf vals.toArray nn) :: extra)
theorem expand_exc {row : Addr} {vs : List Value} {ns : List Int}
    (B : Below A₀ base outer h₀) (F : Fr h₀ L s.heap m) (X : (Mine.hd.heap_39 w.params).In h₀) (N : News h₀ L s.heap news)
    (T : Top Mine.hd.view_39 loose mean mg mb h₀) (hk : cs.kind = .function) (hR : Room dp un 4)
    (hl : h₀.IsList row vs.toArray ∨ ∃ nr, (row, PySem.W.listOf vs.toArray nr) ∈ news) (hi : IntsAre vs ns) (hlen : ns.length ≤ 100) (hb : ∀ c ∈ ns, 0 ≤ c ∧ c < 256) (ht : TokBad ns 0)
    (exc : ∀ e dx od tk g' h' tk', KindO od (.str (Str.ofString "SN") tk) → Fr h₀ L g' m → RaisedD base g' (envX cn cs L a ccd cl :: outer) e dx od h' → g'.UpToSlots h' → E (.ref e) {s with heap := h', toks := tk'}) :
    wpAny (model PySem.Challenge.rw_rh0265_01.row.prog w) (ktrTop dp un gd cn cs L a ccd cl outer) (call (.ref 60) [.ref row]) Q E s := by
  w_top off
  refine wpAny_call ?_
  k_dflt (refine' code_frame (led := []) (rest := news) (binds := [(Str.ofString "row", .ref row)]) (mm := fun y => if y = Str.ofString "row" then some (.ref row) else none) B F X ?N T ?sep ?kA ?kF ?kK ?ho ?hcd ?hroom ?hb ?hmm ?hloc ?_ ?c2 ?c3 ?c4 ?c5; walk_at "my_frame")
  case hmm => exact map1
  case sep => exact fun _ _ _ h => nomatch h
  case N => exact N
  intro g' L' h' FG' F' N' B' X' T' R' lt'
  have hlg : g'.IsList row vs.toArray := by
    rcases hl with hl | ⟨nr, hm⟩
    · exact stays_list FG'.keep hl
    · exact ⟨_, R' _ hm, rfl, _, rfl⟩
  clear F N
  try dsimp only
  try k_fold
  k_steps
  rename Fr g' _ _ _ => F2
  rename News g' _ _ _ => N2
  refine loop_ind (W := MyRest _ _ _ _ _ _ _ _ _) (Inv := ExpBad g' L' row ns s) ?step (n := ((ns.length : Int) - 0).toNat)
    ⟨_, 0, _, [], 0, [], none, _, _, rfl, rfl, ht, ⟨Int.le_refl _, Int.le_refl _⟩, fun _ h => (nomatch h), fr_eq F2 rfl rfl rfl rfl (fun y h1 h2 h3 h4 => by rw [if_neg h3, if_neg h2, if_neg h4]),
      fun q hq => N2 q (by rw [List.mem_singleton.mp hq]; exact .tail _ (.head _))⟩
  case step =>
    clear F2 N2
    rintro n _ ⟨fa, a, t, vals, nn, extra, tv, h', tk', rfl, hn, hT, ⟨ha, hva⟩, hne, F2, N2⟩ ih
    refine my_turn ?hE ?_
    case hE => first | passes_own | with_unfolding_all passes_own
    cases hT with
    | here ha0 ha1 hB =>
      k_steps
      refine WhlIf.yes (decide_eq_true ha1) ?_
      k_steps
      k_dflt (refine' one_exc B' F2 X' N2 T' ?k6 ?hR hlg hi hlen ha0 ha1 hB ?_; (case k6 => exact rfl); (case hR => exact Room.sub hR (Nat.le_refl _) (Nat.add_le_add_left (by decide) _)))
      intro e dx od tk3 g2 h3 tk3' hK F3 R3 U3
      exact leave_onD B' F3 R3 U3 fun h4 R4 U4 => exc e dx od tk3 g' h4 _ hK FG' R4 U4
    | @next _ b tkn ha0 ha1 hS hT =>
      k_steps
      refine WhlIf.yes (decide_eq_true ha1) ?_
      have hv100 : vals.length ≤ 100 := by omega
      k_steps
      k_dflt (refine' one_ret B' F2 X' N2 T' ?k6 ?hR hlg hi hlen ha0 ha1 hb hS ?_; (case k6 => exact rfl); (case hR => exact Room.sub hR (Nat.le_refl _) (Nat.add_le_add_left (by decide) _)))
      intro D tv2 u ex2 h2 tk2 hD2 hsep F3 N3
      replace N3 := fun q hq => N3 q (mem_swap hq)
      change News g' L' h2 _ at N3
      clear F2 N2
      k_steps
      rename News g' _ _ (_ :: _) => N4
      rename Fr g' _ _ _ => F4
      refine append_K F4 N4 (Upd.head fun p hp => ?hall) ?_ (by rw [List.size_toArray]; exact Nat.le_trans hv100 (by rw [sizeLine_eq]; decide))
      case hall =>
        rcases List.mem_cons.mp hp with z | z
        · rw [z]; exact Ne.symm (hsep _ (.head _)).1
        · rcases List.mem_append.mp z with z | z
          · exact Ne.symm ((hsep _ (.head _)).2 _ z)
          · exact hne _ z
      intro h5 F5 N5
      clear F4 N4
      k_steps
      have hup := hS.up
      refine ih ((ns.length : Int) - b).toNat _ (by omega) ⟨fa, b, _, vals ++ [tv2], nn + 1, (D, pairO tv2 (.int b u)) :: (ex2 ++ extra), some tv2, _, _, rfl, rfl, hT, ⟨?_, ?_⟩, ?_, fr_eq F5 rfl rfl rfl rfl ?_, ?_⟩
      · omega
      · rw [List.length_append]; simp; omega
      · intro p hp
        rcases List.mem_cons.mp hp with z | z
        · rw [z]; exact Ne.symm (hsep _ (.head _)).1
        · rcases List.mem_append.mp z with z | z
          · exact Ne.symm ((hsep _ (.head _)).2 _ z)
          · exact hne _ z
      · intro y h1 h2 h3 h4
        rw [if_neg h2, if_neg h1, if_neg h1, if_neg h2, if_neg h3, if_neg h4]
      · rw [← List.push_toArray]; exact N5
end
end
section
-- part M9
section
variable {w : World} {dp un : Nat} {gd : Option (List Code)} {cn : Str} {cs : Scope} {a : Addr} {ccd : Value} {cl : List (Str × Addr)} {outer : List Env} {A₀ : Around} {base h₀ : Heap} {L : Addr} {m : Str → Option Value} {s : Shared}
    {loose : List Str} {mean : ExcName → Option Value} {mg mb : Str → Option Value} {Q E : Value → Shared → Prop} {news : List (Addr × Obj)}



theorem heard_ret {row : Addr} {vs : List Value} {ns : List Int} {nr : Nat} {tks : List Tk}
    (B : Below A₀ base outer h₀) (F : Fr h₀ L s.heap m) (X : (Mine.hd.heap_39 w.params).In h₀) (N : News h₀ L s.heap ((row, PySem.W.listOf vs.toArray nr) :: news)) (T : Top Mine.hd.view_39 loose mean mg mb h₀) (hk : cs.kind = .function) (hR : Room dp un 5)
    (hi : IntsAre vs ns) (hlen : ns.length ≤ 100) (hb : ∀ c ∈ ns, 0 ≤ c ∧ c < 256) (ht : Toks ns 0 tks)
    (ret : ∀ D vals nn extra h' tk', DatAll extra vals (tks.map Tk.dat) → (∀ q ∈ (row, PySem.W.listOf vs.toArray nr) :: news, q.1 ≠ D ∧ ∀ e ∈ extra, q.1 ≠ e.1) → (∀ e ∈ extra, e.1 ≠ D) → Fr h₀ L h' m →
      News h₀ L h' ((D, PySem.W.listOf vals.toArray nn) :: (extra ++ (row, PySem.W.listOf vs.toArray nr) :: news)) → Q (.ref D) {s with heap := h', toks := tk'}) :
    wpAny (model PySem.Challenge.rw_rh0265_01.row.prog w) (ktrTop dp un gd cn cs L a ccd cl outer) (call (.ref 79) [.ref row]) Q E s := by
  w_top off
  k_with_none
  k_with "my_frame" => (((case kA => exact rfl); (case kF => exact rfl); (case kK => assumption); (case ho => k_is); (case hcd => k_is); (case hroom => exact Room.one (by assumption)); (case hb => exact BindsTo.of_eq rfl); (case hloc => exact locs rfl); (case c2 => exact rfl); (case c3 => exact rfl); (case c4 => exact rfl); (case c5 => decide)))
  k_with "my_sel" => (first | (refine' Sel.head ?aw2; (case aw2 => k_all)) | (refine' Sel.tail ?aw2 ?bw2; (case aw2 => k_ne); (case bw2 => walk_at "my_sel")))
  k_with "ite" => ((k_closed; k_dflt (first | (refine' ite_pos ?hcw3 ?_; (case hcw3 => decide)) | (refine' ite_neg ?hcw3 ?_; (case hcw3 => decide)))))
  k_with "my_strewn" => ((k_dflt (refine' strewn_says ?k1w4 ?k2w4 ?k3w4 ?k4w4 ?k5w4 ?k6w4 ?S1w4 ?S2w4 ?kiw4 ?h0w4 ?hKw4 ?hmw4 ?hm2w4 ?hlenw4 ?hRw4 ?_; (case k1w4 => k_asm); (case k2w4 => k_asm); (case k3w4 => k_asm); (case k4w4 => k_asm); (case k5w4 => k_asm); (case k6w4 => first | exact rfl | assumption); (case S1w4 => walk_at "my_sel"); (case S2w4 => walk_at "my_sel"); (case kiw4 => assumption); (case h0w4 => omega); (case hKw4 => omega); (case hmw4 => decide); (case hm2w4 => decide); (case hlenw4 => assumption); (case hRw4 => exact Room.sub (by assumption) (Nat.le_refl _) (Nat.add_le_add_left (by decide) _)); k_whole)))
  k_with "call ref" => ((k_here; (with_reducible show wpAny _ _ (call (Value.ref 67) [Value.ref _, Value.int _ _]) _ _ _); walk_at "my_strewn"; intro r'w5 t1'w5 t'w5 h'w5 tk'w5 lo'w5 hi'w5 F'w5 N'w5; (try dsimp only); (try k_sweep)))
  k_with "call ref" => ((k_here; (with_reducible show wpAny _ _ (call (Value.ref 67) [Value.ref _, Value.int 9 _]) _ _ _); walk_at "my_strewn"; intro r'w6 t1'w6 t'w6 h'w6 tk'w6 lo'w6 hi'w6 F'w6 N'w6; (try dsimp only); (try k_sweep); (rcases nineW lo'w6 hi'w6 with e' | e' | e' | e' | e' | e' <;> (first | subst e' | (have lo2'w6 := e'.1; have hi2'w6 := e'.2; clear e')) <;> clear lo'w6 hi'w6)))
  k_with "newTuple" => ((k_here; k_dflt (refine' kup_newTuple ?Fw7 ?Nw7 ?_ ?zw7; (case Fw7 => k_asm); (case Nw7 => k_asm); (case zw7 => first | decide | kmk_size)); intro D'w7 h'w7 F'w7 N'w7 l1w7; (try k_lt l1w7); (try k_sweep)))
  refine wpAny_call ?_
  k_dflt (refine' code_frame (led := []) (rest := (row, PySem.W.listOf vs.toArray nr) :: news) (binds := [(Str.ofString "row", .ref row)]) (mm := fun y => if y = Str.ofString "row" then some (.ref row) else none) B F X ?N T ?sep ?kA ?kF ?kK ?ho ?hcd ?hroom ?hb ?hmm ?hloc ?_ ?c2 ?c3 ?c4 ?c5; walk_at "my_frame")
  case hmm => exact map1
  case sep => exact fun _ _ _ h => nomatch h
  case N => exact N
  intro g' L' h' FG' F' N' B' X' T' R' lt'
  have hlg : g'.IsList row vs.toArray := ⟨_, R' _ (.head _), rfl, _, rfl⟩
  clear F N
  try dsimp only
  try k_fold
  refine hide (fun Qh Eh gh dh kh oh hQ hE => ?_)
  k_steps
  k_dflt (refine' expand_ret B' F' X' N' T' ?k6 ?hR (.inl hlg) hi hlen hb ht ?_; (case k6 => exact rfl); (case hR => exact Room.sub hR (Nat.le_refl _) (Nat.add_le_add_left (by decide) _)))
  intro D vals nn extra h2 tk2 hD hsep hne F3 N3
  have N3' := N3
  k_steps
  all_goals (refine hQ _ _ _ ?_; (try dsimp only); k_steps)
  rename News h₀ _ _ ((row, _) :: _) => hR2
  rename News h₀ _ _ (_ :: (extra ++ _)) => hN
  refine ret D vals nn extra _ _ hD ?_ hne (by assumption) ?_
  · exact fun q hq => ⟨rest_ne R' N3' (List.Mem.head _) q hq, fun e he => rest_ne R' N3' (List.Mem.tail _ (List.mem_append_left _ he)) q hq⟩
  · exact fun q hq => by
      rcases List.mem_cons.mp hq with z | z
      · exact hN q (by rw [z]; exact .head _)
      · rcases List.mem_append.mp z with z | z
        · exact hN q (.tail _ (List.mem_append_left _ z))
        · exact hR2 q z

theorem heard_exc {row : Addr} {vs : List Value} {ns : List Int} {nr : Nat}
    (B : Below A₀ base [] h₀) (F : Fr h₀ L s.heap m) (X : (Mine.hd.heap_39 w.params).In h₀) (N : News h₀ L s.heap ((row, PySem.W.listOf vs.toArray nr) :: news)) (T : Top Mine.hd.view_39 loose mean mg mb h₀) (hk : cs.kind = .function) (hR : Room dp un 5)
    (hi : IntsAre vs ns) (hlen : ns.length ≤ 100) (hb : ∀ c ∈ ns, 0 ≤ c ∧ c < 256) (XB : (Mine.hd.heap_39 w.params).In base) (TB : Top Mine.hd.view_39 loose mean mg mb base) (ht : TokBad ns 0)
    (ret : ∀ tk h' tk', Fr h₀ L h' m → News h₀ L h' ((row, PySem.W.listOf vs.toArray nr) :: news) → Q (.str (Str.ofString "SN") tk) {s with heap := h', toks := tk'}) :
    wpAny (model PySem.Challenge.rw_rh0265_01.row.prog w) (ktrTop dp un gd cn cs L a ccd [] []) (call (.ref 79) [.ref row]) Q E s := by
  w_top off
  refine wpAny_call ?_
  k_dflt (refine' code_frameS0 (led := []) (rest := (row, PySem.W.listOf vs.toArray nr) :: news) (binds := [(Str.ofString "row", .ref row)]) (mm := fun y => if y = Str.ofString "row" then some (.ref row) else none) B F X ?N T ?sep ?kA hk ?ho ?hcd ?hroom ?hb ?hmm ?hloc ?_ ?c2 ?c3 ?c4 ?c5; (case kA => exact rfl); (case ho => k_is); (case hcd => k_is); (case hroom => exact Room.one (by assumption)); (case hb => exact BindsTo.of_eq rfl); (case hloc => exact locs rfl); (case c2 => exact rfl); (case c3 => exact rfl); (case c4 => exact rfl); (case c5 => decide))
  case hmm => exact map1
  case sep => exact fun _ _ _ h => nomatch h
  case N => exact N
  intro g' L' h' FG' F' N' B' X' T' D' R' lt'
  have hlg : g'.IsList row vs.toArray := ⟨_, R' _ (.head _), rfl, _, rfl⟩
  clear F N
  try dsimp only
  try k_fold
  refine hide (fun Qh Eh gh dh kh oh hQ hE => ?_)
  k_steps
  k_dflt (refine' expand_exc B' F' X' N' T' ?k6 ?hR (.inl hlg) hi hlen hb ht ?_; (case k6 => exact rfl); (case hR => exact Room.sub hR (Nat.le_refl _) (Nat.add_le_add_left (by decide) _)))
  intro e dx od tk3 g2 h3 tk3' hK F3 R3 U3
  try dsimp only
  k_dflt (refine' caught_D R3 F3 B' U3 XB TB D' ?ex ?q ?_; (case ex => k_is); (case q => kts_isx))
  intro h4 g4 oe ws tk4 T4 hcls hdata hdict F4 N4 B4 X4 T4' D4
  clear F'  N' F3
  k_steps
  obtain ⟨nm, q, bs, sn, sub, ab, col, dd, k0, k1, k2, k3, k5, mN, hC, hn, _, _, hi3, hi4, hi5⟩ := cls33 (prm := w.params) (h := h4) (X4.keeps F4.keep)
  refine' kind_attr (v := .str (Str.ofString "SN") tk3) hC hn hi4 hi5 hi3 (N4 (e, oe) (.head _)).1 hcls (fun c z => by rw [hdata] at z; cases z) hdict (hK _ _ (N4 (dx, od) (.tail _ (.head _))).1) ?hv rfl ?_
  case hv => rfl
  k_steps
  all_goals (refine hQ _ _ _ ?_; (try dsimp only); k_steps)
  exact ret _ _ _ (by assumption) (by assumption)
end
end
section
-- part M10a

section
variable {prog : Program} {w : World} {A : Around} {E : Value → Shared → Prop} {s : Shared} {env : Env} {h₀ : Heap} {target : Expr} {body : List Stmt} {Q : Flow → Shared → Prop}
/-- a for over a list of the ground, turn by turn -/
theorem iter_listG {ax : Addr} {lo : Obj} {vs : List Value} {n : Nat} {m₀ : Str → Option Value} {news : List (Addr × Obj)}
    (hh : A.handled = none) (F : Fr h₀ env.locals s.heap m₀) (N : News h₀ env.locals s.heap news) (hg : h₀.get? ax = some lo) (hc : lo.cls = .type "list") (hd : lo.data = .seq vs.toArray n)
    (rest₀ : ∀ I : Addr, (∀ p ∈ news, p.1 < I) → ItemsRest prog w A E h₀ env target body Q s [(I, "list_iterator")] [] (vs.map .val) m₀ news) :
    wpAny (model prog w) A (pyIter (.ref ax)) (fun it s₂ => TurnsAt prog w A h₀ env target body Q E it s₂) E s := by
  have hax : s.heap.get? ax = some lo := F.keep _ _ hg
  have hl : s.heap.IsList ax vs.toArray := ⟨lo, hax, hc, n, hd⟩
  have hne : ax ≠ s.heap.objs.size := Nat.ne_of_lt (Heap.lt_size hax)
  refine wpAny_pyIter_list hl (ktg_core (tk0 := s.toks) (keep := []) (KTurns.ofWalks (Walks.list hh s.heap.objs.size ax hne vs.toArray) fun i v s Q E st q => letGo_listiter st.1 q) (by simp) (fun i v h hp => ?_) (fun i h st => ?_) (fun b hb => ?_) (fun b hb => by simpa using hb) (fun b hb => ?_) ?_ (fun p hp hI => ?_) ?_ (F.push _) (fun p hp => ?_) trivial (rest₀ _ fun p hp => Heap.lt_size (N p hp).1))
  · have hp' : vs.toArray[i]? = some v := hp
    exact ⟨.val v, by simpa using hp', rfl⟩
  · obtain ⟨it, hit, hic, _⟩ := st.1
    exact ⟨[(s.heap.objs.size, it)], ⟨⟨rfl, hic⟩, trivial⟩, fun p hp => by rw [List.mem_singleton.mp hp]; exact hit⟩
  · have hb' : b = s.heap.objs.size := by simpa using hb
    rw [hb']
    exact ⟨List.mem_cons_self .., next_is_new F⟩
  · have hb' : b = s.heap.objs.size ∨ b = ax := by simpa using hb
    rcases hb' with e | e
    · exact .inl (by simp [e])
    · exact .inr (.inr ⟨lo, by rw [e]; exact hg⟩)
  · intro hI
    rcases List.mem_cons.mp hI with e | hI
    · exact absurd F.ns.lt (e ▸ Nat.lt_irrefl _)
    · have e : env.locals = ax := List.mem_singleton.mp hI
      exact absurd (Heap.lt_size hg) (Nat.not_lt.mpr (e ▸ F.above))
  · exact absurd (Heap.lt_size (N p hp).1) ((List.mem_singleton.mp hI) ▸ Nat.lt_irrefl _)
  · exact ⟨⟨_, Heap.get?_push_size _ rfl, rfl, rfl⟩, hl.at fun o e => Heap.get?_push_of_some _ e⟩
  · exact ⟨Heap.get?_push_of_some _ (N p hp).1, (N p hp).2⟩
end
noncomputable def strOf : Value → Option Str
  | .str x _ => some x
  | _ => none
/-- the place of a text in a list of texts -/
theorem index_strs {prog : Program} {w : World} {A : Around} {E : Value → Shared → Prop} {s : Shared} {l : Addr} {items : Array Value} {n : Nat} {x : Str} {t : Tok} {ws : List Str} {j : Nat} {Q : Value → Shared → Prop}
    (hl : s.heap.get? l = some { cls := .type "list", data := .seq items n }) (hi : items.toList.map strOf = ws.map some) (hj : j < ws.length) (hz : ws.length ≤ 1000)
    (hit : ws.getD j Str.empty = x) (hno : ∀ k < j, ((ws.getD k Str.empty).cps.toList == x.cps.toList) = false)
    (h : Q (.int j s.toks) { s with toks := s.toks + 1 }) : wpAny (model prog w) A (call (.builtin "list.index") [.ref l, .str x t]) Q E s := by
  have hlen : items.size = ws.length := by have := congrArg List.length hi; simpa using this
  have hat : ∀ k (hk : k < items.size), ∃ u, items[k] = .str (ws.getD k Str.empty) u := fun k hk => by
    have h1 : (items.toList.map strOf)[k]? = (ws.map some)[k]? := by rw [hi]
    have hk' : k < ws.length := by omega
    simp only [List.getElem?_map, Array.getElem?_toList, hk, Array.getElem?_eq_getElem, Option.map_some, List.getElem?_eq_getElem hk'] at h1
    have h2 : strOf items[k] = some ws[k] := Option.some.inj h1
    have h3 : ws.getD k Str.empty = ws[k] := by simp [List.getD, List.getElem?_eq_getElem hk']
    rw [h3]
    cases q : items[k] <;> rw [q] at h2 <;> simp [strOf] at h2
    exact ⟨_, by rw [h2]⟩
  refine call_meets PySem.F.slot_list_index ⟨_, hl, rfl⟩ PySem.F.entry_list_index (PySem.F.args_list_index_2 _ _)
    (MeetsSeq.list_index l items n (.str x t) (fun y => match y with | .str a _ => a.cps.toList == x.cps.toList | _ => false) (fun y hy => ?_) j (by omega) (by omega) ?_ (fun i hi hlt => ?_)) ⟨hl, h⟩
  · obtain ⟨k, hk, rfl⟩ := Array.mem_iff_getElem.mp hy
    obtain ⟨u, e⟩ := hat k hk
    rw [e]
    exact SeqRoads2.EqGives.str _ _ _ _
  · obtain ⟨u, e⟩ := hat j (by omega)
    rw [e]
    dsimp only
    rw [hit]
    exact beq_self_eq_true _
  · obtain ⟨u, e⟩ := hat i hi
    rw [e]
    exact hno i hlt
theorem words_apart : ∀ j : Fin 44, ∀ k : Fin 44, k.1 < j.1 → ((wordsL.getD k.1 Str.empty).cps.toList == (wordsL.getD j.1 Str.empty).cps.toList) = false := by decide +kernel
theorem signs_apart : ∀ j : Fin 17, ∀ k : Fin 17, k.1 < j.1 → ((signsL.getD k.1 Str.empty).cps.toList == (signsL.getD j.1 Str.empty).cps.toList) = false := by decide +kernel
section
variable {w : World} {A : Around} {E : Value → Shared → Prop} {s : Shared} {h₀ : Heap} {L : Addr} {m : Str → Option Value} {Q : Value → Shared → Prop} {t : Tok} {i : Int}
theorem words_index (F : Fr h₀ L s.heap m) (X : (Mine.hd.heap_39 w.params).In h₀) (i0 : 0 ≤ i) (i1 : i < 44) (h : Q (.int i s.toks) { s with toks := s.toks + 1 }) :
    wpAny (model PySem.Challenge.rw_rh0265_01.row.prog w) A (call (.builtin "list.index") [.ref 15, .str (wordAt i) t]) Q E s := by
  w_top off
  have e : s.heap.get? 15 = some _ := F.keep _ _ (X 15 _ (by k_is))
  refine index_strs (ws := wordsL) (j := i.toNat) e rfl (by show i.toNat < 44; omega) (by decide) rfl (fun k hk => words_apart ⟨i.toNat, by omega⟩ ⟨k, by omega⟩ hk) ?_
  rw [show ((i.toNat : Nat) : Int) = i by omega]
  exact h
theorem signs_index (F : Fr h₀ L s.heap m) (X : (Mine.hd.heap_39 w.params).In h₀) (i0 : 0 ≤ i) (i1 : i < 17) (h : Q (.int i s.toks) { s with toks := s.toks + 1 }) :
    wpAny (model PySem.Challenge.rw_rh0265_01.row.prog w) A (call (.builtin "list.index") [.ref 16, .str (signAt i) t]) Q E s := by
  w_top off
  have e : s.heap.get? 16 = some _ := F.keep _ _ (X 16 _ (by k_is))
  refine index_strs (ws := signsL) (j := i.toNat) e rfl (by show i.toNat < 17; omega) (by decide) rfl (fun k hk => signs_apart ⟨i.toNat, by omega⟩ ⟨k, by omega⟩ hk) ?_
  rw [show ((i.toNat : Nat) : Int) = i by omega]
  exact h
end
theorem hideQ {α : Type} {M : Model} {A : Around} {t : Sem α} {Q : α → Shared → Prop} {E : Value → Shared → Prop} {h : Heap} {gn : Array GenState} {dr : Drawn} {tk : Nat} {os : OsState}
    (H : ∀ (Q' : α → Shared → Prop) (g : Array GenState) (d : Drawn) (k : Nat) (o : OsState), (∀ v h' k', Q v ⟨h', gn, dr, k', os⟩ → Q' v ⟨h', g, d, k', o⟩) → wpAny M A t Q' E ⟨h, g, d, k, o⟩) :
    wpAny M A t Q E ⟨h, gn, dr, tk, os⟩ := H Q gn dr tk os (fun _ _ _ x => x)
-- part M10

section
variable {w : World} {A : Around} {E : Value → Shared → Prop} {s : Shared} {h₀ : Heap} {L : Addr} {m : Str → Option Value} {Q : Value × List Value → Shared → Prop} {pl : Sem Bool}
theorem words_method (F : Fr h₀ L s.heap m) (X : (Mine.hd.heap_39 w.params).In h₀) (h : Q (.builtin "list.index", [.ref 15]) s) :
    wpAny (model PySem.Challenge.rw_rh0265_01.row.prog w) A (getMethod (.ref 15) (Str.ofString "index") pl) Q E s := by
  w_top off
  k_with "exec For Tuple Name cons nil" => ((k_here; (rename Fr _ _ _ _ => lF'w48); (with_unfolding_all refine' For_turns lF'w48 ?_; k_whole)))
  have e : s.heap.get? 15 = some _ := F.keep _ _ (X 15 _ (by k_is))
  exact getMethod_builtin ⟨_, e, rfl⟩ PySem.F.plainAttrs_list PySem.F.slot_list_index PySem.F.type_list_index (fun a q => by cases q; exact ⟨_, e, rfl⟩) h
theorem signs_method (F : Fr h₀ L s.heap m) (X : (Mine.hd.heap_39 w.params).In h₀) (h : Q (.builtin "list.index", [.ref 16]) s) :
    wpAny (model PySem.Challenge.rw_rh0265_01.row.prog w) A (getMethod (.ref 16) (Str.ofString "index") pl) Q E s := by
  w_top off
  have e : s.heap.get? 16 = some _ := F.keep _ _ (X 16 _ (by k_is))
  exact getMethod_builtin ⟨_, e, rfl⟩ PySem.F.plainAttrs_list PySem.F.slot_list_index PySem.F.type_list_index (fun a q => by cases q; exact ⟨_, e, rfl⟩) h
end
inductive Tk.Ok : Tk → Prop
  | word {i : Int} : 0 ≤ i → i < 44 → Tk.Ok (.word i)
  | sign {i : Int} : 0 ≤ i → i < 17 → Tk.Ok (.sign i)
  | num {v : Int} : 0 ≤ v → v < 65536 → Tk.Ok (.num v)
  | txt {kd : Nat} {cs : List Int} : kd ≤ 2 → cs.length ≤ 255 → (∀ c ∈ cs, 0 ≤ c ∧ c < 256) → Tk.Ok (.txt kd cs)
noncomputable def Tk.oct : Tk → List Int
  | .word i => [128 + i]
  | .sign i => [32 + i]
  | .num v => [1, v % 256, v / 256]
  | .txt kd cs => ((kd : Int) + 2) :: (cs.length : Int) :: cs

section
variable {prog : Program} {w : World} {A : Around} {E : Value → Shared → Prop} {s : Shared} {h₀ : Heap} {L D b : Addr} {m : Str → Option Value} {news news' : List (Addr × Obj)} {us ws : List Value} {c n2 : Nat} {Q : Value → Shared → Prop}
theorem my_extend (F : Fr h₀ L s.heap m) (N : News h₀ L s.heap news) (hb : (b, PySem.W.listOf ws.toArray n2) ∈ news) (hne : 0 < ws.length)
    (U : Upd D (PySem.W.listOf us.toArray c) (PySem.W.listOf (us ++ ws).toArray (c + 1)) news news') (hz : us.length ≤ 1000) (hz2 : ws.length ≤ 1000)
    (h : ∀ h', Fr h₀ L h' m → News h₀ L h' news' → Q .none { s with heap := h' }) : wpAny (model prog w) A (call (.builtin "list.extend") [.ref D, .ref b]) Q E s := by
  have hs : sizeLine = 16777216 := sizeLine_eq
  have e1 : ws.toArray.toList.length ≠ 0 := by simp; intro h; rw [h] at hne; cases hne
  have e2 : Builtin.List.listTooLong (us.toArray.size + ws.toArray.size) = false := by
    unfold Builtin.List.listTooLong
    rw [List.size_toArray, List.size_toArray]
    exact decide_eq_false (by omega)
  exact kl_extend F N hb rfl e1 U (by rw [e2]; simp) (by show us.length ≤ _; omega) (by rw [List.size_toArray, List.size_toArray]; omega) h
end
theorem items_ind {W : List Itm → (Str → Option Value) → List (Addr × Obj) → Prop} {Inv : Nat → List Itm → (Str → Option Value) → List (Addr × Obj) → Prop}
    (h : ∀ n its m nw, Inv n its m nw → (∀ n' its' m' nw', n' < n → Inv n' its' m' nw' → W its' m' nw') → W its m nw) {n : Nat} {its : List Itm} {m : Str → Option Value} {nw : List (Addr × Obj)} (i : Inv n its m nw) : W its m nw := by
  induction n using Nat.strongRecOn generalizing its m nw with
  | _ n ih => exact h n its m nw i fun n' its' m' nw' hn hi => ih n' hn hi
noncomputable def CrInv (D fa : Addr) (news : List (Addr × Obj)) (tks : List Tk) (n : Nat) (its : List Itm) (m : Str → Option Value) (nw : List (Addr × Obj)) : Prop :=
  ∃ (vals1 : List Value) (tks1 done : List Tk) (us : List Value) (c : Nat), its = vals1.map .val ∧ vals1.length = n ∧ DatAll news vals1 (tks1.map Tk.dat) ∧ tks = done ++ tks1 ∧ IntsAre us (done.flatMap Tk.oct) ∧
    m (Str.ofString "found") = some (.ref fa) ∧ m (Str.ofString "tokens") = some (.ref D) ∧ (∀ y, y ≠ Str.ofString "value" → y ≠ Str.ofString "kind" → y ≠ Str.ofString "found" → y ≠ Str.ofString "tokens" → m y = none) ∧
    (fa, PySem.W.listOf us.toArray c) ∈ nw
theorem fr_cr {g h : Heap} {L : Addr} {vf vr : Value} {m' : Str → Option Value} (F : Fr g L h m')
    (e3 : m' (Str.ofString "found") = some vf) (e4 : m' (Str.ofString "tokens") = some vr)
    (e : ∀ y, y ≠ Str.ofString "value" → y ≠ Str.ofString "kind" → y ≠ Str.ofString "found" → y ≠ Str.ofString "tokens" → m' y = none) :
    Fr g L h (fun y => if y = Str.ofString "value" then m' (Str.ofString "value") else if y = Str.ofString "kind" then m' (Str.ofString "kind") else if y = Str.ofString "found" then some vf else if y = Str.ofString "tokens" then some vr else none) := by
  refine fr_cast F fun y => ?_
  split
  · rename_i h; rw [h]
  split
  · rename_i h; rw [h]
  split
  · rename_i h; rw [h]; exact e3
  split
  · rename_i h; rw [h]; exact e4
  · exact e y (by assumption) (by assumption) (by assumption) (by assumption)
theorem and_255 {v : Int} (h : 0 ≤ v) : Builtin.bitAnd v 255 = v % 256 := by
  rw [bitAnd_pp h (by decide)]
  have : (255 : Int).toNat = 2 ^ 8 - 1 := by decide
  rw [this, Nat.and_two_pow_sub_one_eq_mod]
  omega
theorem fdiv_256 {v : Int} (h : 0 ≤ v) : v.fdiv (2 ^ Int.toNat 8) = v / 256 := by
  have : (2 : Int) ^ Int.toNat 8 = 256 := by decide
  rw [this, Int.fdiv_eq_ediv_of_nonneg _ (by decide)]
theorem Tk.pair {news : List (Addr × Obj)} {v : Value} {tk : Tk} (h : DatIn news v tk.dat) : ∃ T n k x, v = .ref T ∧ (T, ({ cls := .type "tuple", data := .seq #[k, x] n } : Obj)) ∈ news ∧
    ∃ kd xd, tk.dat = .tuple [kd, xd] ∧ DatIn news k kd ∧ DatIn news x xd := by
  have key : ∀ d, tk.dat = d → DatIn news v d → ∃ T n k x, v = .ref T ∧ (T, ({ cls := .type "tuple", data := .seq #[k, x] n } : Obj)) ∈ news ∧ ∃ kd xd, tk.dat = .tuple [kd, xd] ∧ DatIn news k kd ∧ DatIn news x xd := by
    intro d hd hv
    have h2 : ∃ kd xd, tk.dat = .tuple [kd, xd] := by cases tk <;> exact ⟨_, _, rfl⟩
    obtain ⟨kd, xd, e2⟩ := h2
    rw [e2] at hd
    subst hd
    cases hv with
    | tuple hm ha =>
      cases ha with
      | cons h1 r =>
        cases r with
        | cons h2 r =>
          cases r
          exact ⟨_, _, _, _, rfl, hm, kd, xd, e2, h1, h2⟩
  exact key _ rfl h
section
variable {w : World} {dp un : Nat} {gd : Option (List Code)} {cn : Str} {cs : Scope} {a : Addr} {ccd : Value} {cl : List (Str × Addr)} {outer : List Env} {A₀ : Around} {base h₀ : Heap} {L : Addr} {m : Str → Option Value} {s : Shared}
    {loose : List Str} {mean : ExcName → Option Value} {mg mb : Str → Option Value} {Q E : Value → Shared → Prop} {news : List (Addr × Obj)}



theorem crunch_ret {D : Addr} {vals : List Value} {tks : List Tk} {nd : Nat}
    (B : Below A₀ base outer h₀) (F : Fr h₀ L s.heap m) (X : (Mine.hd.heap_39 w.params).In h₀) (N : News h₀ L s.heap news)
    (T : Top Mine.hd.view_39 loose mean mg mb h₀) (hk : cs.kind = .function) (hR : Room dp un 4)
    (hD : (D, PySem.W.listOf vals.toArray nd) ∈ news) (hA : DatAll news vals (tks.map Tk.dat)) (hok : ∀ tk ∈ tks, Tk.Ok tk) (hz : (tks.flatMap Tk.oct).length ≤ 1000)
    (ret : ∀ D' us nn h' tk', IntsAre us (tks.flatMap Tk.oct) → (∀ q ∈ news, q.1 ≠ D') → Fr h₀ L h' m → News h₀ L h' ((D', PySem.W.listOf us.toArray nn) :: news) → Q (.ref D') {s with heap := h', toks := tk'}) :
    wpAny (model PySem.Challenge.rw_rh0265_01.row.prog w) (ktrTop dp un gd cn cs L a ccd cl outer) (call (.ref 48) [.ref D]) Q E s := by
  w_top off
  k_with "getMethod ref" => ((k_here; (with_reducible show wpAny _ _ (getMethod (Value.ref 15) _ _) _ _ _); k_dflt (refine' words_method ?Fw49 ?Xw49 ?_; (case Fw49 => k_asm); (case Xw49 => k_asm))))
  k_with "getMethod ref" => ((k_here; (with_reducible show wpAny _ _ (getMethod (Value.ref 16) _ _) _ _ _); k_dflt (refine' signs_method ?Fw50 ?Xw50 ?_; (case Fw50 => k_asm); (case Xw50 => k_asm))))
  k_with "call builtin:list.index" => ((k_here; (with_reducible show wpAny _ _ (call (Value.builtin _) [Value.ref 15, _]) _ _ _); k_dflt (refine' words_index ?Fw51 ?Xw51 ?i0w51 ?i1w51 ?_; (case Fw51 => k_asm); (case Xw51 => k_asm); (case i0w51 => assumption); (case i1w51 => assumption))))
  k_with "call builtin:list.index" => ((k_here; (with_reducible show wpAny _ _ (call (Value.builtin _) [Value.ref 16, _]) _ _ _); k_dflt (refine' signs_index ?Fw52 ?Xw52 ?i0w52 ?i1w52 ?_; (case Fw52 => k_asm); (case Xw52 => k_asm); (case i0w52 => assumption); (case i1w52 => assumption))))
  k_with "call builtin:list.extend" => ((k_here; k_dflt (refine' my_extend ?Fw53 ?Nw53 ?bw53 ?new53 ?Uw53 ?zw53 ?z2w53 ?_; (case Fw53 => k_asm); (case Nw53 => k_asm); (case bw53 => k_mem); (case new53 => first | assumption | exact Nat.succ_pos _); (case Uw53 => k_upd); (case zw53 => assumption); (case z2w53 => first | assumption | exact Nat.le_of_ble_eq_true rfl)); intro h'w53 F'w53 N'w53; (try dsimp only at N'w53); (try k_sweep)))
  refine wpAny_call ?_
  k_dflt (refine' code_frame (led := []) (rest := news) (binds := [(Str.ofString "tokens", .ref D)]) (mm := fun y => if y = Str.ofString "tokens" then some (.ref D) else none) B F X ?N T ?sep ?kA ?kF ?kK ?ho ?hcd ?hroom ?hb ?hmm ?hloc ?_ ?c2 ?c3 ?c4 ?c5; walk_at "my_frame")
  case hmm => exact map1
  case sep => exact fun _ _ _ h => nomatch h
  case N => exact N
  intro g' L' h' FG' F' N' B' X' T' R' lt'
  clear F N
  try dsimp only
  try k_fold
  refine hideQ (fun Qh gh dh kh oh hQ => ?_)
  k_steps
  rename Fr g' _ _ _ => F2
  rename News g' _ _ _ => N2
  refine iter_listG rfl F2 N2 (R' _ hD) rfl rfl (fun I hI => ?_)
  have hfaI := hI _ (.head _)
  clear hI
  refine items_ind (W := ItemsRest _ _ _ _ _ _ _ _ _ _ _ _) (Inv := CrInv D _ news tks) ?step (n := vals.length) ⟨vals, tks, [], [], 0, rfl, rfl, hA, rfl, .nil, rfl, rfl, (fun y h1 h2 h3 h4 => by dsimp only; rw [if_neg h3, if_neg h4]), .head _⟩
  clear F2 N2
  rintro n its m2 nw ⟨vals1, tks1, done, us, c, rfl, hn, hA1, htk, hus, m3, m4, m5, hnw⟩ ih
  cases vals1 with
  | nil =>
    refine ItemsRest.zero fun h2 tk2 F2 N2 => ?_
    replace F2 := fr_cr F2 m3 m4 m5
    replace N2 : News g' _ h2 [(_, PySem.W.listOf us.toArray c)] := fun q hq => N2 q (by rw [List.mem_singleton.mp hq]; exact hnw)
    have N2' := N2
    k_steps
    all_goals (refine hQ _ _ _ ?_; (try dsimp only); k_steps)
    rename News h₀ _ _ news => hR2
    rename News h₀ _ _ [(_, _)] => hN
    have ht1 : tks1 = [] := by cases tks1 with | nil => rfl | cons _ _ => cases hA1
    refine ret _ us c _ _ ?_ ?_ (by assumption) (news_app (l1 := [(_, _)]) hN hR2)
    · rw [htk, ht1, List.append_nil]; exact hus
    · exact fun q hq => rest_ne R' N2' (List.Mem.head _) q hq
  | cons v r =>
    cases tks1 with
    | nil => cases hA1
    | cons tkn tl =>
      cases hA1 with
      | cons hv hr =>
      obtain ⟨TT, nt, kv, xv, rfl, hTm, kd, xd, htd, hkd, hxd⟩ := Tk.pair hv
      refine ItemsRest.val fun h2 tk2 F2 => AllObj.cons fun oI hoI => AllObj.nil fun N2 => ?_
      replace N2 : News g' _ h2 [(I, oI), (_, PySem.W.listOf us.toArray c)] := fun q hq => N2 q (by
        rcases List.mem_cons.mp hq with z | z
        · rw [z]; exact .head _
        · rw [List.mem_singleton.mp z]; exact List.mem_append_right _ hnw)
      replace F2 := fr_cr F2 m3 m4 m5
      refine unpackN_ F2 N2 ⟨_, F2.keep _ _ (R' _ hTm), rfl, _, rfl⟩ rfl rfl rfl (fun h3 F3 N3 => ?_)
      clear F2 N2
      have hul : us.length ≤ 1000 := by rw [hus.length]; rw [htk, List.flatMap_append, List.length_append] at hz; omega
      cases tkn with
      | word i =>
        cases htd; cases hkd; cases hxd
        obtain ⟨i0, i1⟩ : 0 ≤ i ∧ i < 44 := by cases hok _ (by rw [htk]; exact List.mem_append_right _ (.head _)) with | word a b => exact ⟨a, b⟩
        k_steps
        refine ih r.length _ _ _ (by rw [← hn]; exact Nat.lt_succ_self _) ⟨r, tl, done ++ [.word i], us ++ [.int (128 + i) _], _, rfl, rfl, hr, by rw [htk]; simp, ?_, ?_, ?_, ?_, by (rw [← List.push_toArray]; first | exact .head _ | exact .tail _ (.head _))⟩
        · rw [List.flatMap_append]; exact IntsAre.append hus (by simp only [List.flatMap_cons, List.flatMap_nil, List.append_nil]; exact .cons _ _ .nil)
        · rfl
        · rfl
        · intro y h1 h2 h3 h4
          dsimp only
          simp only [if_neg h1, if_neg h2, if_neg h3, if_neg h4]
      | sign i =>
        cases htd; cases hkd; cases hxd
        obtain ⟨i0, i1⟩ : 0 ≤ i ∧ i < 17 := by cases hok _ (by rw [htk]; exact List.mem_append_right _ (.head _)) with | sign a b => exact ⟨a, b⟩
        k_steps
        refine ih r.length _ _ _ (by rw [← hn]; exact Nat.lt_succ_self _) ⟨r, tl, done ++ [.sign i], us ++ [.int (32 + i) _], _, rfl, rfl, hr, by rw [htk]; simp, ?_, ?_, ?_, ?_, by (rw [← List.push_toArray]; first | exact .head _ | exact .tail _ (.head _))⟩
        · rw [List.flatMap_append]; exact IntsAre.append hus (by simp only [List.flatMap_cons, List.flatMap_nil, List.append_nil]; exact .cons _ _ .nil)
        · rfl
        · rfl
        · intro y h1 h2 h3 h4
          dsimp only
          simp only [if_neg h1, if_neg h2, if_neg h3, if_neg h4]
      | num v =>
        cases htd; cases hkd; cases hxd
        obtain ⟨i0, i1⟩ : 0 ≤ v ∧ v < 65536 := by cases hok _ (by rw [htk]; exact List.mem_append_right _ (.head _)) with | num a b => exact ⟨a, b⟩
        k_steps
        refine ih r.length _ _ _ (by rw [← hn]; exact Nat.lt_succ_self _) ⟨r, tl, done ++ [.num v], us ++ [.int 1 _, .int (Builtin.bitAnd v 255) _, .int (v.fdiv (2 ^ Int.toNat 8)) _], _, rfl, rfl, hr, by rw [htk]; simp, ?_, ?_, ?_, ?_, by first | exact .head _ | exact .tail _ (.head _)⟩
        · rw [List.flatMap_append]; exact IntsAre.append hus (by simp only [List.flatMap_cons, List.flatMap_nil, List.append_nil]; show IntsAre _ [1, v % 256, v / 256]; rw [← and_255 i0, ← fdiv_256 i0]; exact .cons _ _ (.cons _ _ (.cons _ _ .nil)))
        · rfl
        · rfl
        · intro y h1 h2 h3 h4
          dsimp only
          simp only [if_neg h1, if_neg h2, if_neg h3, if_neg h4]
      | txt kd xs =>
        cases htd; cases hkd; cases hxd
        obtain ⟨k2, hx, hxb⟩ : kd ≤ 2 ∧ xs.length ≤ 255 ∧ (∀ c ∈ xs, 0 ≤ c ∧ c < 256) := by cases hok _ (by rw [htk]; exact List.mem_append_right _ (.head _)) with | txt a b c => exact ⟨a, b, c⟩
        match kd, k2 with
        | 0, _ =>
          k_steps
          rename Fr g' _ _ _ => F4
          rename News g' _ _ _ => N4
          k_dflt (refine' marked_says B' F4 X' N4 T' ?k6 ?hR hx hxb ?_; (case k6 => exact rfl); (case hR => exact Room.sub hR (Nat.le_refl _) (Nat.add_le_add_left (by decide) _)))
          intro D2 us2 c2 h5 tk5 hi2 hsep2 F5 N5
          have hl2 : us2.length = xs.length + 2 := by rw [hi2.length]; rfl
          have hl3 : 0 < us2.length := by omega
          have hl4 : us2.length ≤ 1000 := by omega
          have hDf := Ne.symm (hsep2 _ (List.Mem.tail _ (List.Mem.tail _ (List.Mem.head _))))
          clear F4 N4
          k_steps
          rename Fr g' _ _ _ => F6
          rename News g' _ _ _ => N6
          refine UnrEndW.intro F6 N6 [(_, PySem.W.listOf (us ++ us2).toArray (c + 1))] ⟨.tail _ (.tail _ (.head _)), trivial⟩ ⟨.tail _ (.tail _ (.tail _ (.head _))), trivial⟩ ⟨⟨.inl (Nat.ne_of_lt hfaI), trivial⟩, trivial⟩ ⟨trivial, ?_⟩
          refine ih r.length _ _ _ (by rw [← hn]; exact Nat.lt_succ_self _) ⟨r, tl, done ++ [.txt 0 xs], us ++ us2, c + 1, rfl, rfl, hr, by rw [htk]; simp, ?_, ?_, ?_, ?_, ?_⟩
          · rw [List.flatMap_append]; exact IntsAre.append hus (by simp only [List.flatMap_cons, List.flatMap_nil, List.append_nil]; exact hi2)
          · rfl
          · rfl
          · intro y h1 h2 h3 h4
            dsimp only
            simp only [if_neg h1, if_neg h2, if_neg h3, if_neg h4]
          · exact .head _
        | 1, _ =>
          k_steps
          rename Fr g' _ _ _ => F4
          rename News g' _ _ _ => N4
          k_dflt (refine' marked_says B' F4 X' N4 T' ?k6 ?hR hx hxb ?_; (case k6 => exact rfl); (case hR => exact Room.sub hR (Nat.le_refl _) (Nat.add_le_add_left (by decide) _)))
          intro D2 us2 c2 h5 tk5 hi2 hsep2 F5 N5
          have hl2 : us2.length = xs.length + 2 := by rw [hi2.length]; rfl
          have hl3 : 0 < us2.length := by omega
          have hl4 : us2.length ≤ 1000 := by omega
          have hDf := Ne.symm (hsep2 _ (List.Mem.tail _ (List.Mem.tail _ (List.Mem.head _))))
          clear F4 N4
          k_steps
          rename Fr g' _ _ _ => F6
          rename News g' _ _ _ => N6
          refine UnrEndW.intro F6 N6 [(_, PySem.W.listOf (us ++ us2).toArray (c + 1))] ⟨.tail _ (.tail _ (.head _)), trivial⟩ ⟨.tail _ (.tail _ (.tail _ (.head _))), trivial⟩ ⟨⟨.inl (Nat.ne_of_lt hfaI), trivial⟩, trivial⟩ ⟨trivial, ?_⟩
          refine ih r.length _ _ _ (by rw [← hn]; exact Nat.lt_succ_self _) ⟨r, tl, done ++ [.txt 1 xs], us ++ us2, c + 1, rfl, rfl, hr, by rw [htk]; simp, ?_, ?_, ?_, ?_, ?_⟩
          · rw [List.flatMap_append]; exact IntsAre.append hus (by simp only [List.flatMap_cons, List.flatMap_nil, List.append_nil]; exact hi2)
          · rfl
          · rfl
          · intro y h1 h2 h3 h4
            dsimp only
            simp only [if_neg h1, if_neg h2, if_neg h3, if_neg h4]
          · exact .head _
        | 2, _ =>
          k_steps
          rename Fr g' _ _ _ => F4
          rename News g' _ _ _ => N4
          k_dflt (refine' marked_says B' F4 X' N4 T' ?k6 ?hR hx hxb ?_; (case k6 => exact rfl); (case hR => exact Room.sub hR (Nat.le_refl _) (Nat.add_le_add_left (by decide) _)))
          intro D2 us2 c2 h5 tk5 hi2 hsep2 F5 N5
          have hl2 : us2.length = xs.length + 2 := by rw [hi2.length]; rfl
          have hl3 : 0 < us2.length := by omega
          have hl4 : us2.length ≤ 1000 := by omega
          have hDf := Ne.symm (hsep2 _ (List.Mem.tail _ (List.Mem.tail _ (List.Mem.head _))))
          clear F4 N4
          k_steps
          rename Fr g' _ _ _ => F6
          rename News g' _ _ _ => N6
          refine UnrEndW.intro F6 N6 [(_, PySem.W.listOf (us ++ us2).toArray (c + 1))] ⟨.tail _ (.tail _ (.head _)), trivial⟩ ⟨.tail _ (.tail _ (.tail _ (.head _))), trivial⟩ ⟨⟨.inl (Nat.ne_of_lt hfaI), trivial⟩, trivial⟩ ⟨trivial, ?_⟩
          refine ih r.length _ _ _ (by rw [← hn]; exact Nat.lt_succ_self _) ⟨r, tl, done ++ [.txt 2 xs], us ++ us2, c + 1, rfl, rfl, hr, by rw [htk]; simp, ?_, ?_, ?_, ?_, ?_⟩
          · rw [List.flatMap_append]; exact IntsAre.append hus (by simp only [List.flatMap_cons, List.flatMap_nil, List.append_nil]; exact hi2)
          · rfl
          · rfl
          · intro y h1 h2 h3 h4
            dsimp only
            simp only [if_neg h1, if_neg h2, if_neg h3, if_neg h4]
          · exact .head _
end
-- part M12
section
variable {w : World} {dp un : Nat} {gd : Option (List Code)} {cn : Str} {cs : Scope} {a : Addr} {ccd : Value} {cl : List (Str × Addr)} {outer : List Env} {A₀ : Around} {base h₀ : Heap} {L : Addr} {m : Str → Option Value} {s : Shared}
    {loose : List Str} {mean : ExcName → Option Value} {mg mb : Str → Option Value} {Q E : Value → Shared → Prop} {news : List (Addr × Obj)}



theorem crunch_exc {D : Addr} {v : Value} {kd : Nat} {xs : List Int} {nd : Nat}
    (B : Below A₀ base outer h₀) (F : Fr h₀ L s.heap m) (X : (Mine.hd.heap_39 w.params).In h₀) (N : News h₀ L s.heap news)
    (T : Top Mine.hd.view_39 loose mean mg mb h₀) (hk : cs.kind = .function) (hR : Room dp un 4)
    (hD : (D, PySem.W.listOf [v].toArray nd) ∈ news) (hv : DatIn news v (Tk.txt kd xs).dat) (k2 : kd ≤ 2) (hx : xs.length ≤ 255) (hb0 : ∀ c ∈ xs, 0 ≤ c) (hbig : Big xs)
    (exc : ∀ e dx od tk g' h' tk', KindO od (.str (Str.ofString "ST") tk) → Fr h₀ L g' m → RaisedD base g' (envX cn cs L a ccd cl :: outer) e dx od h' → g'.UpToSlots h' → E (.ref e) {s with heap := h', toks := tk'}) :
    wpAny (model PySem.Challenge.rw_rh0265_01.row.prog w) (ktrTop dp un gd cn cs L a ccd cl outer) (call (.ref 48) [.ref D]) Q E s := by
  w_top off
  refine wpAny_call ?_
  k_dflt (refine' code_frame (led := []) (rest := news) (binds := [(Str.ofString "tokens", .ref D)]) (mm := fun y => if y = Str.ofString "tokens" then some (.ref D) else none) B F X ?N T ?sep ?kA ?kF ?kK ?ho ?hcd ?hroom ?hb ?hmm ?hloc ?_ ?c2 ?c3 ?c4 ?c5; walk_at "my_frame")
  case hmm => exact map1
  case sep => exact fun _ _ _ h => nomatch h
  case N => exact N
  intro g' L' h' FG' F' N' B' X' T' R' lt'
  clear F N
  try dsimp only
  try k_fold
  k_steps
  rename Fr g' _ _ _ => F2
  rename News g' _ _ _ => N2
  refine iter_listG rfl F2 N2 (R' _ hD) rfl rfl (fun I hI => ?_)
  have hfaI := hI _ (.head _)
  clear hI F2 N2
  obtain ⟨TT, nt, kv, xv, rfl, hTm, kd', xd, htd, hkd, hxd⟩ := Tk.pair hv
  refine ItemsRest.val fun h2 tk2 F2 => AllObj.cons fun oI hoI => AllObj.nil fun N2 => ?_
  replace N2 : News g' _ h2 [(I, oI), (_, PySem.W.listOf #[] 0)] := N2
  refine unpackN_ F2 N2 ⟨_, F2.keep _ _ (R' _ hTm), rfl, _, rfl⟩ rfl rfl rfl (fun h3 F3 N3 => ?_)
  clear F2 N2
  cases htd; cases hkd; cases hxd
  match kd, k2 with
  | 0, _ =>
    k_steps
    rename Fr g' _ _ _ => F4
    rename News g' _ _ _ => N4
    k_dflt (refine' marked_exc B' F4 X' N4 T' ?k6 ?hR hx hb0 hbig ?_; (case k6 => exact rfl); (case hR => exact Room.sub hR (Nat.le_refl _) (Nat.add_le_add_left (by decide) _)))
    intro e dx od tk3 g2 h5 tk3' hK F5 R5 U5
    exact leave_onD B' F5 R5 U5 fun h6 R6 U6 => exc e dx od tk3 g' h6 _ hK FG' R6 U6
  | 1, _ =>
    k_steps
    rename Fr g' _ _ _ => F4
    rename News g' _ _ _ => N4
    k_dflt (refine' marked_exc B' F4 X' N4 T' ?k6 ?hR hx hb0 hbig ?_; (case k6 => exact rfl); (case hR => exact Room.sub hR (Nat.le_refl _) (Nat.add_le_add_left (by decide) _)))
    intro e dx od tk3 g2 h5 tk3' hK F5 R5 U5
    exact leave_onD B' F5 R5 U5 fun h6 R6 U6 => exc e dx od tk3 g' h6 _ hK FG' R6 U6
  | 2, _ =>
    k_steps
    rename Fr g' _ _ _ => F4
    rename News g' _ _ _ => N4
    k_dflt (refine' marked_exc B' F4 X' N4 T' ?k6 ?hR hx hb0 hbig ?_; (case k6 => exact rfl); (case hR => exact Room.sub hR (Nat.le_refl _) (Nat.add_le_add_left (by decide) _)))
    intro e dx od tk3 g2 h5 tk3' hK F5 R5 U5
    exact leave_onD B' F5 R5 U5 fun h6 R6 U6 => exc e dx od tk3 g' h6 _ hK FG' R6 U6
end
end
section
-- part M13a

mutual
noncomputable def Dat.py : Dat → PyData
  | .none => .none
  | .bool b => .bool b
  | .int i => .int i
  | .str x => .str x
  | .bytes _ => .none
  | .tuple ds => .tuple (Dat.pys ds)
  | .list ds => .list (Dat.pys ds)
noncomputable def Dat.pys : List Dat → List PyData
  | [] => []
  | d :: r => Dat.py d :: Dat.pys r
end
mutual
noncomputable def Dat.plain : Dat → Bool
  | .bytes _ => false
  | .tuple ds => Dat.plains ds
  | .list ds => Dat.plains ds
  | _ => true
noncomputable def Dat.plains : List Dat → Bool
  | [] => true
  | d :: r => Dat.plain d && Dat.plains r
end
mutual
theorem datIn_reads {h : Heap} {news : List (Addr × Obj)} (N : ∀ q ∈ news, h.get? q.1 = some q.2) : ∀ {v : Value} {d : Dat}, DatIn news v d → Dat.plain d = true → ∃ as, Reads h v (Dat.py d) as
  | _, _, .none, _ => by rw [Dat.py]; exact ⟨_, .none⟩
  | _, _, .bool b, _ => by rw [Dat.py]; exact ⟨_, .bool b⟩
  | _, _, .int i t, _ => by rw [Dat.py]; exact ⟨_, .int i t⟩
  | _, _, .str x t, _ => by rw [Dat.py]; exact ⟨_, .str x t⟩
  | _, _, .bytes b t, hp => by rw [Dat.plain] at hp; cases hp
  | _, _, .tuple hm ha, hp => by
    rw [Dat.plain] at hp
    obtain ⟨as, r⟩ := datAll_reads N ha hp
    rw [Dat.py]
    exact ⟨_, .tuple (N _ hm) rfl rfl r⟩
  | _, _, .list hm ha, hp => by
    rw [Dat.plain] at hp
    obtain ⟨as, r⟩ := datAll_reads N ha hp
    rw [Dat.py]
    exact ⟨_, .list (N _ hm) rfl rfl r⟩
theorem datAll_reads {h : Heap} {news : List (Addr × Obj)} (N : ∀ q ∈ news, h.get? q.1 = some q.2) : ∀ {vs : List Value} {ds : List Dat}, DatAll news vs ds → Dat.plains ds = true → ∃ as, ReadsAll h vs (Dat.pys ds) as
  | _, _, .nil, _ => by rw [Dat.pys]; exact ⟨_, .nil⟩
  | _, _, .cons hv hr, hp => by
    rw [Dat.plains, Bool.and_eq_true] at hp
    obtain ⟨as, r⟩ := datIn_reads N hv hp.1
    obtain ⟨bs, r'⟩ := datAll_reads N hr hp.2
    rw [Dat.pys]
    exact ⟨_, .cons r r'⟩
end
theorem ints_reads {h : Heap} : ∀ {us : List Value} {ns : List Int}, IntsAre us ns → ∃ as, ReadsAll h us (ns.map .int) as
  | _, _, .nil => ⟨_, .nil⟩
  | _, _, .cons x t r => let ⟨_, q⟩ := ints_reads r; ⟨_, .cons (.int x t) q⟩
theorem list_reads {h : Heap} {a : Addr} {us : List Value} {n : Nat} {ds : List PyData} {as : List Addr} (hg : h.get? a = some (PySem.W.listOf us.toArray n)) (r : ReadsAll h us ds as) : Reads h (.ref a) (.list ds) (a :: as) := .list hg rfl rfl r

theorem tk_plain (tk : Tk) : Dat.plain tk.dat = true := by cases tk <;> rfl
theorem tks_plain : ∀ l : List Tk, Dat.plains (l.map Tk.dat) = true
  | [] => rfl
  | t :: r => by rw [List.map_cons, Dat.plains, tk_plain, tks_plain r]; rfl
theorem tk_depth (tk : Tk) : (Dat.py tk.dat).depth ≤ 1 := by cases tk <;> exact Nat.le_of_ble_eq_true rfl
theorem tks_depth : ∀ l : List Tk, PyData.depthAll (Dat.pys (l.map Tk.dat)) ≤ 1
  | [] => Nat.zero_le _
  | t :: r => by rw [List.map_cons, Dat.pys, PyData.depthAll]; exact Nat.max_le.mpr ⟨tk_depth t, tks_depth r⟩
theorem words_ok : ∀ x ∈ wordsL, PyData.strOk x = true := by decide +kernel
theorem signs_ok : ∀ x ∈ signsL, PyData.strOk x = true := by decide +kernel
theorem getD_ok {l : List Str} (h : ∀ x ∈ l, PyData.strOk x = true) (i : Nat) : PyData.strOk (l.getD i Str.empty) = true := by
  rw [List.getD_eq_getElem?_getD]
  cases q : l[i]? with
  | none => decide +kernel
  | some x => exact h x (List.mem_of_getElem? q)
theorem text_ok {cs : List Int} (h : ∀ c ∈ cs, 0 ≤ c ∧ c < 1114112) : PyData.strOk (textOf cs) = true := by
  unfold PyData.strOk textOf
  rw [← Array.all_toList, List.all_eq_true]
  intro x hx
  obtain ⟨c, hc, rfl⟩ := List.mem_map.mp (by simpa using hx)
  have := h c hc
  simp; omega
theorem kdName_ok (kd : Nat) : PyData.strOk (kdName kd) = true := by
  unfold kdName
  split
  · decide +kernel
  · split <;> decide +kernel
theorem tk_lay {tk : Tk} (h : Tk.Ok tk) : (Dat.py tk.dat).canLay0 = true := by
  cases h with
  | word => simp only [Tk.dat, Dat.py, Dat.pys, PyData.canLay0, PyData.canLayAll0]; rw [getD_ok words_ok]; decide +kernel
  | sign => simp only [Tk.dat, Dat.py, Dat.pys, PyData.canLay0, PyData.canLayAll0]; rw [getD_ok signs_ok]; decide +kernel
  | num => simp only [Tk.dat, Dat.py, Dat.pys, PyData.canLay0, PyData.canLayAll0]; decide +kernel
  | txt _ _ h => simp only [Tk.dat, Dat.py, Dat.pys, PyData.canLay0, PyData.canLayAll0]; rw [kdName_ok, text_ok fun c hc => ⟨(h c hc).1, by have := (h c hc).2; omega⟩]; rfl
theorem tks_lay : ∀ {l : List Tk}, (∀ tk ∈ l, Tk.Ok tk) → PyData.canLayAll0 (Dat.pys (l.map Tk.dat)) = true
  | [], _ => rfl
  | t :: r, h => by rw [List.map_cons, Dat.pys, PyData.canLayAll0, tk_lay (h t (.head _)), tks_lay fun x hx => h x (.tail _ hx)]; rfl
section
variable {prog : Program} {w : World} {A : Around} {E : Value → Shared → Prop} {s : Shared} {h₀ : Heap} {L : Addr} {Q : Value → Shared → Prop} {news : List (Addr × Obj)}
/-- two lists of tokens compared -/
theorem toks_eq {a b : Addr} {vs ws : List Value} {n1 n2 : Nat} {l : List Tk} (N : News h₀ L s.heap news) (ha : (a, PySem.W.listOf vs.toArray n1) ∈ news) (hb : (b, PySem.W.listOf ws.toArray n2) ∈ news)
    (h1 : DatAll news vs (l.map Tk.dat)) (h2 : DatAll news ws (l.map Tk.dat)) (hok : ∀ tk ∈ l, Tk.Ok tk) (hu : A.units + 10 < cLine) (h : Q (.bool true) s) : wpAny (model prog w) A (compareOp .Eq (.ref a) (.ref b)) Q E s := by
  obtain ⟨as, r1⟩ := datAll_reads (fun q hq => (N q hq).1) h1 (tks_plain l)
  obtain ⟨bs, r2⟩ := datAll_reads (fun q hq => (N q hq).1) h2 (tks_plain l)
  refine SeqAt.compareEq_reads (list_reads (N _ ha).1 r1) (list_reads (N _ hb).1 r2) ?_ ?_ ?_ ?_
  · exact tks_lay hok
  · exact tks_lay hok
  · have := tks_depth l
    simp only [PyData.depth]
    omega
  · rw [SeqAt.eqv_refl _ (by exact tks_lay hok)]; exact h
end

/-- a goal the walker does not see into -/
noncomputable def Held (P : Prop) : Prop := P
theorem held {P : Prop} (h : Held P) : P := h
end
section
-- part M13

theorem eight_in {r : Int} (h0 : 0 ≤ r) (h1 : r < 8) : 65 ≤ ([65, 127, 128, 255, 256, 321, 8364, 65535] : List Int).getD r.toNat 0 ∧ ([65, 127, 128, 255, 256, 321, 8364, 65535] : List Int).getD r.toNat 0 ≤ 65535 := by
  have k : ∀ i : Fin 8, 65 ≤ ([65, 127, 128, 255, 256, 321, 8364, 65535] : List Int).getD (i.1 : Int).toNat 0 ∧ ([65, 127, 128, 255, 256, 321, 8364, 65535] : List Int).getD (i.1 : Int).toNat 0 ≤ 65535 := by decide
  exact upto (p := fun r => 65 ≤ ([65, 127, 128, 255, 256, 321, 8364, 65535] : List Int).getD r.toNat 0 ∧ ([65, 127, 128, 255, 256, 321, 8364, 65535] : List Int).getD r.toNat 0 ≤ 65535) k h0 h1
theorem eight_chr {r : Int} (h0 : 0 ≤ r) (h1 : r < 8) : 0 ≤ ([65, 127, 128, 255, 256, 321, 8364, 65535] : List Int).getD r.toNat 0 ∧ ([65, 127, 128, 255, 256, 321, 8364, 65535] : List Int).getD r.toNat 0 ≤ 1114111 := by
  have := eight_in h0 h1; omega
theorem eight_ex {r : Int} (h0 : 0 ≤ r) (h1 : r < 8) : ∃ c, ([65, 127, 128, 255, 256, 321, 8364, 65535] : List Int).getD r.toNat 0 = c ∧ 65 ≤ c ∧ c ≤ 65535 := ⟨_, rfl, eight_in h0 h1⟩
theorem a_text {c : Int} : (Str.ofString "A" ++ (⟨#[c.toNat]⟩ : Str)) = textOf [65, c] := by
  show (⟨#[65] ++ #[c.toNat]⟩ : Str) = ⟨([65, c].map Int.toNat).toArray⟩
  simp
theorem one_toks {kd : Nat} {c : Int} (k2 : kd ≤ 2) : Toks (((kd : Int) + 2) :: 2 :: [65, c]) 0 [Tk.txt kd [65, c]] :=
  .cons (Int.le_refl _) (by simp) (Step.txt k2 ⟨rfl⟩ (by simp) (by show (0 : Int) ≤ 2; decide) (fun _ => by show (2 : Int) ≠ 0; decide) (by simp) rfl) (.nil rfl)
theorem kd_ex {r : Int} (h0 : 0 ≤ r) (h1 : r < 3) : ∃ kd : Nat, kd < 3 ∧ kdL.getD r.toNat Str.empty = kdName kd := by
  have e : r = 0 ∨ r = 1 ∨ r = 2 := by omega
  rcases e with e | e | e <;> subst e
  · exact ⟨0, by decide, rfl⟩
  · exact ⟨1, by decide, rfl⟩
  · exact ⟨2, by decide, rfl⟩
section
variable {w : World} {dp un : Nat} {gd : Option (List Code)} {cn : Str} {cs : Scope} {a : Addr} {ccd : Value} {cl : List (Str × Addr)} {outer : List Env} {A₀ : Around} {base h₀ : Heap} {L : Addr} {m : Str → Option Value} {s : Shared}
    {loose : List Str} {mean : ExcName → Option Value} {mg mb : Str → Option Value} {Q E : Value → Shared → Prop} {news : List (Addr × Obj)}



theorem signs_says {pan p0 : Addr} {k : Int} {t : Tok} {n n0 : Nat} {vs : List Value} {ns : List Int} {rest : List (Addr × Obj)}
    (B : Below A₀ base [] h₀) (F : Fr h₀ L s.heap m) (X : (Mine.hd.heap_39 w.params).In h₀) (N : News h₀ L s.heap ([(pan, panO p0 k t n), (p0, PySem.W.listOf vs.toArray n0)] ++ rest))
    (T : Top Mine.hd.view_39 loose mean mg mb h₀) (hk : cs.kind = .function) (hR : Room dp un 6) (XB : (Mine.hd.heap_39 w.params).In base) (TB : Top Mine.hd.view_39 loose mean mg mb base)
    (hsep : ∀ q ∈ rest, ∀ a ∈ [(pan, panO p0 k t n), (p0, PySem.W.listOf vs.toArray n0)], q.1 ≠ a.1) (hpp : Apart pan p0) (hi : IntsAre vs ns) (k0 : 0 ≤ k) (hK : k < 900) (hlen : ns.length ≤ 63)
    (ret : ∀ h' tk', Fr h₀ L h' m → News h₀ L h' rest → Q (.bool true) {s with heap := h', toks := tk'}) :
    wpAny (model PySem.Challenge.rw_rh0265_01.row.prog w) (ktrTop dp un gd cn cs L a ccd [] []) (call (.ref 86) [.ref pan]) Q E s := by
  w_top off
  k_with_none
  k_with "my_frame" => (((case kA => exact rfl); (case kF => exact rfl); (case kK => assumption); (case ho => k_is); (case hcd => k_is); (case hroom => exact Room.one (by assumption)); (case hb => exact BindsTo.of_eq rfl); (case hloc => exact locs rfl); (case c2 => exact rfl); (case c3 => exact rfl); (case c4 => exact rfl); (case c5 => decide)))
  k_with "my_sel" => (first | (refine' Sel.head ?aw2; (case aw2 => k_all)) | (refine' Sel.tail ?aw2 ?bw2; (case aw2 => k_ne); (case bw2 => walk_at "my_sel")))
  k_with "ite" => ((k_closed; k_dflt (first | (refine' ite_pos ?hcw3 ?_; (case hcw3 => decide)) | (refine' ite_neg ?hcw3 ?_; (case hcw3 => decide)))))
  k_with "my_strewn" => ((k_dflt (refine' strewn_says ?k1w4 ?k2w4 ?k3w4 ?k4w4 ?k5w4 ?k6w4 ?S1w4 ?S2w4 ?kiw4 ?h0w4 ?hKw4 ?hmw4 ?hm2w4 ?hlenw4 ?hRw4 ?_; (case k1w4 => k_asm); (case k2w4 => k_asm); (case k3w4 => k_asm); (case k4w4 => k_asm); (case k5w4 => k_asm); (case k6w4 => first | exact rfl | assumption); (case S1w4 => walk_at "my_sel"); (case S2w4 => walk_at "my_sel"); (case kiw4 => assumption); (case h0w4 => omega); (case hKw4 => omega); (case hmw4 => decide); (case hm2w4 => decide); (case hlenw4 => assumption); (case hRw4 => exact Room.sub (by assumption) (Nat.le_refl _) (Nat.add_le_add_left (by decide) _)); k_whole)))
  k_with "call ref" => ((k_here; (with_reducible show wpAny _ _ (call (Value.ref 67) [Value.ref _, Value.int _ _]) _ _ _); walk_at "my_strewn"; intro r'w5 t1'w5 t'w5 h'w5 tk'w5 lo'w5 hi'w5 F'w5 N'w5; (try dsimp only); (try k_sweep)))
  k_with "call ref" => ((k_here; (with_reducible show wpAny _ _ (call (Value.ref 67) [Value.ref _, Value.int 9 _]) _ _ _); walk_at "my_strewn"; intro r'w6 t1'w6 t'w6 h'w6 tk'w6 lo'w6 hi'w6 F'w6 N'w6; (try dsimp only); (try k_sweep); (rcases nineW lo'w6 hi'w6 with e' | e' | e' | e' | e' | e' <;> (first | subst e' | (have lo2'w6 := e'.1; have hi2'w6 := e'.2; clear e')) <;> clear lo'w6 hi'w6)))
  k_with "newTuple" => ((k_here; k_dflt (refine' kup_newTuple ?Fw7 ?Nw7 ?_ ?zw7; (case Fw7 => k_asm); (case Nw7 => k_asm); (case zw7 => first | decide | kmk_size)); intro D'w7 h'w7 F'w7 N'w7 l1w7; (try k_lt l1w7); (try k_sweep)))
  k_with "subscriptTail" => ((k_here; (with_reducible show wpAny _ _ (subscriptTail (PySem.Expr.List _ _) _ (Value.ref _) (Value.int _ _)) _ _ _); k_dflt (refine' item_strsR (ys := kdL) ?lw54 ?iw54 ?h0w54 ?h1w54 ?hfw54 ?_; (case lw54 => is_list); (case iw54 => repeat constructor); (case h0w54 => omega); (case h1w54 => (show _ < (3 : Int); omega)); (case hfw54 => omega)); intro t'w54))
  k_with "compareOp Eq ref ref" => ((refine held ?_))
  k_with "call builtin:chr" => ((refine chr_of_range (eight_chr (by assumption) (by assumption)).1 (eight_chr (by assumption) (by assumption)).2 ?_))
  refine wpAny_call ?_
  k_dflt (refine' code_frameS0 (led := [(pan, panO p0 k t n), (p0, PySem.W.listOf vs.toArray n0)]) (rest := rest) (binds := [(Str.ofString "pan", .ref pan)]) (mm := fun y => if y = Str.ofString "pan" then some (.ref pan) else none) B F X ?N T ?sep ?kA hk ?ho ?hcd ?hroom ?hb ?hmm ?hloc ?_ ?c2 ?c3 ?c4 ?c5; (case kA => exact rfl); (case ho => k_is); (case hcd => k_is); (case hroom => exact Room.one (by assumption)); (case hb => exact BindsTo.of_eq rfl); (case hloc => exact locs rfl); (case c2 => exact rfl); (case c3 => exact rfl); (case c4 => exact rfl); (case c5 => decide))
  case hmm => exact map1
  case sep => exact hsep
  case N => exact N
  intro g' L' h' FG' F' N' B' X' T' D' R' lt'
  clear F N
  have hR5 : Room dp un 5 := ⟨by have := hR.d; omega, by have := hR.u; omega⟩
  have hR3 : Room dp un 3 := ⟨by have := hR.d; omega, by have := hR.u; omega⟩
  try dsimp only
  try k_fold
  refine hide (fun Qh Eh gh dh kh oh hQ hE => ?_)
  k_steps
  · rename Fr g' _ _ _ => F2
    rename News g' _ _ _ => N2
    rename _ < (8 : Int) => hr8
    obtain ⟨c, hc, c1, c2⟩ := eight_ex (by assumption) hr8
    rw [hc] at N2 F2
    rename _ < (3 : Int) => hr3
    obtain ⟨kd, hkd, hkn⟩ := kd_ex (by assumption) hr3
    rw [hkn] at N2 F2
    rw [a_text] at N2
    by_cases hbig : c < 256
    · have hb : ∀ x ∈ [65, c], 0 ≤ x ∧ x < 256 := fun x hx => by
        rcases List.mem_cons.mp hx with z | z
        · rw [z]; decide
        · rw [List.mem_singleton.mp z]; omega
      k_dflt (refine' crunch_ret (vals := [_]) (tks := [Tk.txt kd [65, c]]) B' F2 X' N2 T' ?k6 ?hR (.head _) ?hA ?hok ?hz ?_; (case k6 => exact rfl); (case hR => exact Room.sub hR5 (Nat.le_refl _) (Nat.add_le_add_left (by decide) _)))
      case hA => exact .cons (DatIn.tuple (.tail _ (.head _)) (.cons (.str _ _) (.cons (.str _ _) .nil))) .nil
      case hok => exact fun x hx => by rw [List.mem_singleton.mp hx]; exact .txt (by omega) (by show 2 ≤ 255; decide) hb
      case hz => simp [Tk.oct]
      intro D2 us2 nn2 h2 tk2 hi2 hsep2 F3 N3
      have hi2' : IntsAre us2 (((kd : Int) + 2) :: 2 :: [65, c]) := hi2
      have hb2 : ∀ x ∈ (((kd : Int) + 2) :: 2 :: [65, c]), 0 ≤ x ∧ x < 256 := fun x hx => by
        rcases List.mem_cons.mp hx with z | z
        · rw [z]; omega
        · rcases List.mem_cons.mp z with z | z
          · rw [z]; decide
          · exact hb x z
      clear F2 N2
      k_steps
      rename Fr g' _ _ _ => F4
      rename News g' _ _ _ => N4
      k_dflt (refine' expand_ret B' F4 X' N4 T' ?k6 ?hR (.inr ⟨_, .head _⟩) hi2' ?hlen hb2 (one_toks (by omega)) ?_; (case k6 => exact rfl); (case hR => exact Room.sub hR5 (Nat.le_refl _) (Nat.add_le_add_left (by decide) _)))
      case hlen => show 4 ≤ 100; decide
      intro D3 vals nn3 extra h4 tk4 hD3 hsep3 hne3 F5 N5
      clear F4 N4
      k_steps
      rename News g' _ _ _ => N6
      rw [a_text] at N6
      unfold Held
      refine toks_eq (l := [Tk.txt kd [65, c]]) N6 (.tail _ (.tail _ (.head _))) (.head _) (hD3.mono fun p hp => .tail _ (.tail _ (.tail _ (List.mem_append_left _ hp))))
        (.cons (DatIn.tuple (.tail _ (.head _)) (.cons (.str _ _) (.cons (.str _ _) .nil))) .nil) (fun x hx => by rw [List.mem_singleton.mp hx]; exact .txt (by omega) (by show 2 ≤ 255; decide) hb) (by have := hR.u; show un + 3 + 10 < cLine; omega) ?_
      k_steps
      refine hQ _ _ _ ?_
      try dsimp only
      k_steps
      rw [show decide ((c.toNat : Int) < 256) = true from decide_eq_true (by omega)]
      exact ret _ _ (by assumption) (by assumption)
    · k_dflt (refine' crunch_exc (kd := kd) (xs := [65, c]) B' F2 X' N2 T' ?k6 ?hR (.head _) ?hv (by omega) ?hx ?hb0 ?hbig2 ?_; (case k6 => exact rfl); (case hR => exact Room.sub hR5 (Nat.le_refl _) (Nat.add_le_add_left (by decide) _)))
      case hv => exact DatIn.tuple (.tail _ (.head _)) (.cons (.str _ _) (.cons (.str _ _) .nil))
      case hx => show 2 ≤ 255; decide
      case hb0 =>
        intro x hx
        rcases List.mem_cons.mp hx with z | z
        · rw [z]; decide
        · rw [List.mem_singleton.mp z]; omega
      case hbig2 => exact ⟨c, .tail _ (.head _), by omega⟩
      intro e dx od tk3 g2 h3 tk3' hK F3 R3 U3
      try dsimp only
      k_dflt (refine' caught_D R3 F3 B' U3 XB TB D' ?ex ?q ?_; (case ex => k_is); (case q => kts_isx))
      intro h4 g4 oe ws tk4 T4 hcls hdata hdict F4 N4 B4 X4 T4' D4
      clear F2 N2 F3
      k_steps
      obtain ⟨nm, q, bs, sn, sub, ab, col, dd, k0, k1, k2, k3, k5, mN, hC, hn, _, _, hi3, hi4, hi5⟩ := cls33 (prm := w.params) (h := h4) (X4.keeps F4.keep)
      refine' kind_attr (v := .str (Str.ofString "ST") tk3) hC hn hi4 hi5 hi3 (N4 (e, oe) (.head _)).1 hcls (fun c z => by rw [hdata] at z; cases z) hdict (hK _ _ (N4 (dx, od) (.tail _ (.head _))).1) ?hv rfl ?_
      case hv => rfl
      k_steps
      refine hQ _ _ _ ?_
      try dsimp only
      k_steps
      rw [show decide ((255 : Int) < (c.toNat : Int)) = true from decide_eq_true (by omega)]
      exact ret _ _ (by assumption) (by assumption)
end
end
section
-- part M13b
noncomputable def Tk.due : Tk → Dat
  | .word _ => .tuple [.str (Str.ofString "word"), .none]
  | .sign _ => .tuple [.str (Str.ofString "sign"), .none]
  | .num v => .tuple [.str (Str.ofString "number"), .int v]
  | .txt kd cs => .tuple [.str (kdName kd), .str (textOf cs)]
/-- octets and what is due of them -/
structure Fine (ns : List Int) (ds : List Dat) : Prop where
  len : ns.length ≤ 30
  hb : ∀ c ∈ ns, 0 ≤ c ∧ c < 256
  dlen : ds.length ≤ 6
  say : (∃ l : List Tk, Toks ns 0 l ∧ ds = l.map Tk.due ∧ (∀ tk ∈ l, Tk.Ok tk) ∧ l.flatMap Tk.oct = ns) ∨ (TokBad ns 0 ∧ Dat.none ∈ ds ∧ ∀ d ∈ ds, d = Dat.none ∨ ∃ tk : Tk, Tk.Ok tk ∧ d = tk.due)
theorem oct_len {p : Pc} (h : p.ok) : p.oct.length ≤ 5 ∧ 0 < p.oct.length := by
  cases p with
  | word => exact ⟨by show 1 ≤ 5; decide, by show 0 < 1; decide⟩
  | sign => exact ⟨by show 1 ≤ 5; decide, by show 0 < 1; decide⟩
  | num => exact ⟨by show 3 ≤ 5; decide, by show 0 < 3; decide⟩
  | txt kd cs => have := h.2.1; exact ⟨by show cs.length + 2 ≤ 5; omega, Nat.succ_pos _⟩
  | bad os => rcases h with h | h | h | h | h | h | h | h <;> (rw [h]; decide)
theorem octs_len : ∀ {ps : List Pc}, (∀ p ∈ ps, p.ok) → (ps.flatMap Pc.oct).length ≤ 5 * ps.length
  | [], _ => Nat.zero_le _
  | p :: r, h => by
    have h1 := (oct_len (h p (.head _))).1
    have h2 := octs_len fun x hx => h x (.tail _ hx)
    rw [List.flatMap_cons, List.length_append, List.length_cons]
    omega
theorem oct_in {p : Pc} (h : p.ok) : ∀ c ∈ p.oct, 0 ≤ c ∧ c < 256 := by
  intro c hc
  cases p with
  | word i => rw [List.mem_singleton.mp hc]; have h1 := h.1; have h2 := h.2; omega
  | sign i => rw [List.mem_singleton.mp hc]; have h1 := h.1; have h2 := h.2; omega
  | num lo hi =>
    obtain ⟨h1, h2, h3, h4⟩ := h
    simp only [Pc.oct, List.mem_cons, List.not_mem_nil, or_false] at hc
    rcases hc with z | z | z <;> omega
  | txt kd cs =>
    obtain ⟨h1, h2, h3, _⟩ := h
    simp only [Pc.oct, List.mem_cons] at hc
    rcases hc with z | z | z
    · omega
    · omega
    · have := h3 c z; omega
  | bad os =>
    simp only [Pc.oct] at hc
    rcases h with h | h | h | h | h | h | h | h <;> (rw [h] at hc; simp at hc; omega)
theorem gd (pre l : List Int) (j : Nat) (z : Int) (hz : z = (pre.length : Int) + j) : (pre ++ l).getD z.toNat 0 = l.getD j 0 := by
  subst hz
  have e : ((pre.length : Int) + (j : Int)).toNat = pre.length + j := by omega
  rw [e, List.getD_eq_getElem?_getD, List.getD_eq_getElem?_getD, List.getElem?_append_right (Nat.le_add_right _ _), Nat.add_sub_cancel_left]
noncomputable def Pc.tk : Pc → Option Tk
  | .word i => some (.word i)
  | .sign i => some (.sign i)
  | .num lo hi => some (.num (lo + 256 * hi))
  | .txt kd cs => some (.txt kd cs)
  | .bad _ => none
theorem tk_facts {P : Pc} {t : Tk} (h : P.ok) (ht : P.tk = some t) : P.due = t.due ∧ Tk.Ok t ∧ t.oct = P.oct := by
  cases P with
  | word i => cases ht; exact ⟨rfl, .word h.1 h.2, rfl⟩
  | sign i => cases ht; exact ⟨rfl, .sign h.1 h.2, rfl⟩
  | num lo hi =>
    cases ht
    obtain ⟨h1, h2, h3, h4⟩ := h
    refine ⟨rfl, .num (by omega) (by omega), ?_⟩
    simp only [Tk.oct, Pc.oct]
    rw [show (lo + 256 * hi) % 256 = lo by omega, show (lo + 256 * hi) / 256 = hi by omega]
  | txt kd cs =>
    cases ht
    obtain ⟨h1, h2, h3, _⟩ := h
    exact ⟨rfl, .txt (by omega) (by omega) fun c hc => by have := h3 c hc; omega, rfl⟩
  | bad os => cases ht
theorem step_of {P : Pc} {t : Tk} (h : P.ok) (ht : P.tk = some t) (pre post : List Int) : Step (pre ++ (P.oct ++ post)) pre.length ((pre.length : Int) + (P.oct.length : Int)) t := by
  cases P with
  | word i =>
    cases ht
    exact Step.word ((gd pre _ 0 _ (by omega)).trans rfl) h.1 h.2
  | sign i =>
    cases ht
    exact Step.sign ((gd pre _ 0 _ (by omega)).trans rfl) h.1 h.2
  | num lo hi =>
    cases ht
    obtain ⟨h1, h2, h3, h4⟩ := h
    exact Step.num ⟨(gd pre _ 0 _ (by omega)).trans rfl⟩ (by simp [Pc.oct]; omega) ((gd pre _ 1 _ (by omega)).trans rfl) ((gd pre _ 2 _ (by omega)).trans rfl) h1 h2 h3 h4
  | txt kd cs =>
    cases ht
    obtain ⟨h1, h2, h3, h4⟩ := h
    have e : (pre ++ ((Pc.txt kd cs).oct ++ post)).getD ((pre.length : Int) + 1).toNat 0 = (cs.length : Int) := (gd pre _ 1 _ (by omega)).trans rfl
    have st : Step (pre ++ ((Pc.txt kd cs).oct ++ post)) pre.length _ (.txt kd cs) := Step.txt (kd := kd) (xs := cs) (by omega) ⟨(gd pre _ 0 _ (by omega)).trans rfl⟩ (by simp [Pc.oct]; omega) (by rw [e]; omega) (fun z => by
        rw [e]
        have := h4 z
        cases cs with
        | nil => exact absurd rfl this
        | cons a b => simp; omega) (by rw [e]; simp [Pc.oct]; omega) (by
        rw [e]
        have e2 : ((pre.length : Int) + 2).toNat = pre.length + 2 := by omega
        rw [e2, ← List.drop_drop, List.drop_left]
        show List.take (Int.toNat (cs.length : Int)) (cs ++ post) = cs
        rw [Int.toNat_natCast, List.take_left])
    rw [e] at st
    have e3 : (pre.length : Int) + ((Pc.txt kd cs).oct.length : Int) = (pre.length : Int) + 2 + (cs.length : Int) := by simp [Pc.oct]; omega
    rw [e3]
    exact st
  | bad os => cases ht
theorem bad_of {os : List Int} (h : (Pc.bad os).ok) (pre post : List Int) : Bad (pre ++ (os ++ post)) pre.length := by
  rcases h with h | h | h | h | h | h | h | h <;> subst h
  · exact .nameless ⟨(gd pre _ 0 _ (by omega)).trans rfl⟩ ((gd pre _ 1 _ (by omega)).trans rfl)
  · exact .word (by rw [gd pre _ 0 _ (by omega)]; show (172 : Int) ≤ 172; decide)
  · exact .word (by rw [gd pre _ 0 _ (by omega)]; show (172 : Int) ≤ 255; decide)
  · exact .sign (by rw [gd pre _ 0 _ (by omega)]; show (49 : Int) ≤ 49; decide) (by rw [gd pre _ 0 _ (by omega)]; show (49 : Int) < 128; decide)
  · exact .sign (by rw [gd pre _ 0 _ (by omega)]; show (49 : Int) ≤ 127; decide) (by rw [gd pre _ 0 _ (by omega)]; show (127 : Int) < 128; decide)
  · exact .zero ⟨(gd pre _ 0 _ (by omega)).trans rfl⟩
  · exact .five ⟨(gd pre _ 0 _ (by omega)).trans rfl⟩
  · exact .thirtyone ⟨(gd pre _ 0 _ (by omega)).trans rfl⟩
/-- a piece without its last octet is no token -/
theorem cut_of {P : Pc} (h : P.ok) (h1 : 1 < P.oct.length) (pre : List Int) : Bad (pre ++ P.oct.dropLast) pre.length := by
  cases P with
  | word i => exact absurd h1 (by show ¬ 1 < 1; decide)
  | sign i => exact absurd h1 (by show ¬ 1 < 1; decide)
  | num lo hi => exact .numcut ⟨(gd pre _ 0 _ (by omega)).trans rfl⟩ (by simp [Pc.oct])
  | txt kd cs =>
    obtain ⟨k1, k2, k3, k4⟩ := h
    cases cs with
    | nil => exact .mark (kd := kd) (by omega) ⟨(gd pre _ 0 _ (by omega)).trans rfl⟩ (by simp [Pc.oct])
    | cons a b =>
      have e : (pre ++ (Pc.txt kd (a :: b)).oct.dropLast).getD ((pre.length : Int) + 1).toNat 0 = ((a :: b).length : Int) := (gd pre _ 1 _ (by omega)).trans rfl
      exact .short (kd := kd) (by omega) ⟨(gd pre _ 0 _ (by omega)).trans rfl⟩ (by rw [e]; simp [Pc.oct]; omega)
  | bad os =>
    rcases h with h | h | h | h | h | h | h | h <;> subst h
    · exact .mark (kd := 0) (by omega) ⟨(gd pre _ 0 _ (by omega)).trans rfl⟩ (by simp [Pc.oct])
    all_goals exact absurd h1 (by show ¬ 1 < 1; decide)
theorem whole : ∀ {ps : List Pc}, (∀ p ∈ ps, p.ok) →
    (∃ l : List Tk, (∀ pre : List Int, Toks (pre ++ ps.flatMap Pc.oct) pre.length l) ∧ ps.map Pc.due = l.map Tk.due ∧ (∀ tk ∈ l, Tk.Ok tk) ∧ l.flatMap Tk.oct = ps.flatMap Pc.oct ∧
      ∀ pre r : List Int, TokBad (pre ++ (ps.flatMap Pc.oct ++ r)) ((pre.length : Int) + ((ps.flatMap Pc.oct).length : Int)) → TokBad (pre ++ (ps.flatMap Pc.oct ++ r)) pre.length) ∨
    ((∀ pre r : List Int, TokBad (pre ++ (ps.flatMap Pc.oct ++ r)) pre.length) ∧ Dat.none ∈ ps.map Pc.due)
  | [], _ => .inl ⟨[], fun pre => .nil (by simp), rfl, (fun _ h => nomatch h), rfl, fun pre r h => by simpa using h⟩
  | P :: ps, h => by
    have hP := h P (.head _)
    have hlen := (oct_len hP).2
    have ih := whole fun p hp => h p (.tail _ hp)
    have lt : ∀ pre X : List Int, (pre.length : Int) < ((pre ++ (P.oct ++ X)).length : Int) := fun pre X => by simp; omega
    cases htk : P.tk with
    | none =>
      cases P with
      | bad os =>
        refine .inr ⟨fun pre r => ?_, .head _⟩
        rw [List.flatMap_cons, List.append_assoc]
        exact .here (by omega) (lt pre _) (bad_of hP pre _)
      | word => cases htk
      | sign => cases htk
      | num => cases htk
      | txt => cases htk
    | some t =>
      obtain ⟨f1, f2, f3⟩ := tk_facts hP htk
      have as : ∀ pre X : List Int, pre ++ (P.oct ++ X) = (pre ++ P.oct) ++ X := fun pre X => (List.append_assoc _ _ _).symm
      have ln : ∀ pre : List Int, (pre.length : Int) + (P.oct.length : Int) = ((pre ++ P.oct).length : Int) := fun pre => by rw [List.length_append]; push_cast; rfl
      rcases ih with ⟨l, i1, i2, i3, i4, i5⟩ | ⟨i1, i2⟩
      · refine .inl ⟨t :: l, fun pre => ?_, by rw [List.map_cons, List.map_cons, f1, i2], fun x hx => ?_, by rw [List.flatMap_cons, List.flatMap_cons, f3, i4], fun pre r hb => ?_⟩
        · rw [List.flatMap_cons]
          refine .cons (by omega) (lt pre _) (step_of hP htk pre _) ?_
          rw [ln, as]
          exact i1 _
        · rcases List.mem_cons.mp hx with z | z
          · rw [z]; exact f2
          · exact i3 x z
        · rw [List.flatMap_cons, List.append_assoc] at hb ⊢
          refine .next (by omega) (lt pre _) (step_of hP htk pre _) ?_
          rw [ln, as] at *
          refine i5 _ r ?_
          have e : ((pre ++ P.oct).length : Int) + ((ps.flatMap Pc.oct).length : Int) = (pre.length : Int) + ((P.oct ++ ps.flatMap Pc.oct).length : Int) := by simp only [List.length_append]; push_cast; omega
          rw [e]
          exact hb
      · refine .inr ⟨fun pre r => ?_, .tail _ i2⟩
        rw [List.flatMap_cons, List.append_assoc]
        refine .next (by omega) (lt pre _) (step_of hP htk pre _) ?_
        rw [ln, as]
        exact i1 _ r
theorem due_all : ∀ {ps : List Pc}, (∀ p ∈ ps, p.ok) → ∀ d ∈ ps.map Pc.due, d = Dat.none ∨ ∃ tk : Tk, Tk.Ok tk ∧ d = tk.due := by
  intro ps h d hd
  obtain ⟨p, hp, rfl⟩ := List.mem_map.mp hd
  cases htk : p.tk with
  | none => cases p <;> first | exact .inl rfl | cases htk
  | some t =>
    obtain ⟨f1, f2, _⟩ := tk_facts (h p hp) htk
    exact .inr ⟨t, f2, f1⟩
theorem octs_in {ps : List Pc} (h : ∀ p ∈ ps, p.ok) : ∀ c ∈ ps.flatMap Pc.oct, 0 ≤ c ∧ c < 256 := fun c hc => by
  obtain ⟨p, hp, hcp⟩ := List.mem_flatMap.mp hc
  exact oct_in (h p hp) c hcp
theorem fine_whole {ps : List Pc} (hok : ∀ p ∈ ps, p.ok) (hl : ps.length ≤ 6) : Fine (ps.flatMap Pc.oct) (ps.map Pc.due) := by
  refine ⟨by have := octs_len hok; omega, octs_in hok, by rw [List.length_map]; exact hl, ?_⟩
  rcases whole hok with ⟨l, i1, i2, i3, i4, _⟩ | ⟨i1, i2⟩
  · exact .inl ⟨l, i1 [], i2, i3, i4⟩
  · have := i1 [] []
    rw [List.append_nil] at this
    exact .inr ⟨this, i2, due_all hok⟩
theorem fine_cut {pre : List Pc} {P : Pc} (hok : ∀ p ∈ pre ++ [P], p.ok) (hl : (pre ++ [P]).length ≤ 6) (h1 : 1 < P.oct.length) : Fine ((pre ++ [P]).flatMap Pc.oct).dropLast (((pre ++ [P]).map Pc.due).dropLast ++ [Dat.none]) := by
  have hP := hok P (List.mem_append_right _ (.head _))
  have hpre : ∀ p ∈ pre, p.ok := fun p hp => hok p (List.mem_append_left _ hp)
  have hne : P.oct ≠ [] := fun z => by rw [z] at h1; cases h1
  have e1 : ((pre ++ [P]).flatMap Pc.oct).dropLast = pre.flatMap Pc.oct ++ P.oct.dropLast := by
    rw [List.flatMap_append, List.flatMap_cons, List.flatMap_nil, List.append_nil, List.dropLast_append_of_ne_nil hne]
  have e2 : ((pre ++ [P]).map Pc.due).dropLast = pre.map Pc.due := by rw [List.map_append, List.map_cons, List.map_nil, List.dropLast_concat]
  have hlen := octs_len hok
  rw [e2]
  refine ⟨by rw [List.length_dropLast]; omega, fun c hc => octs_in hok c (List.dropLast_subset _ hc), ?_, .inr ⟨?_, List.mem_append_right _ (.head _), fun d hd => ?_⟩⟩
  · rw [List.length_append] at hl ⊢; simp at hl ⊢; omega
  · rw [e1]
    have hb : ∀ q : List Int, TokBad (q ++ P.oct.dropLast) q.length := fun q => .here (by omega) (by rw [List.length_append, List.length_dropLast]; omega) (cut_of hP h1 q)
    rcases whole hpre with ⟨l, _, _, _, _, i5⟩ | ⟨i1, _⟩
    · refine i5 [] _ ?_
      have := hb (pre.flatMap Pc.oct)
      simpa using this
    · exact i1 [] _
  · rcases List.mem_append.mp hd with z | z
    · exact due_all hpre d z
    · exact .inl (List.mem_singleton.mp z)
end
section
-- part M14

section
variable {prog : Program} {w : World} {A : Around} {E : Value → Shared → Prop} {s : Shared} {env : Env} {h₀ : Heap} {x : Str} {body : List Stmt} {Q : Flow → Shared → Prop}
/-- a for over a range, by an invariant -/
theorem my_range {r : Addr} {b₀ : Int} {t₀ u₀ v₀ : Tok} {n : Nat} {m₀ : Str → Option Value} {news : List (Addr × Obj)} (J : Nat → (Str → Option Value) → List (Addr × Obj) → Prop)
    {L : Addr} (hh : A.handled = none) (hr : IsRange s.heap r 0 b₀ 1 t₀ u₀ v₀) (hsmall : Builtin.Range.small 0 b₀ 1 = true) (hsz : Builtin.Range.rangeSize 0 b₀ 1 = (n : Int)) (F : Fr h₀ L s.heap m₀) (N : News h₀ L s.heap news) (hL : env.locals = L) (hj : J 0 m₀ news)
    (turn : ∀ i t m₁ nx h tk own, i < n → OwnOff own (nx.map (·.1)) → J i m₁ nx → Fr h₀ L h (fun y => if y = x then some (.int (i : Int) t) else m₁ y) → News h₀ L h (nx ++ own) →
      wpAny (model prog w) A (execs body env) (InvPostG h₀ L (J (i + 1)) own { s with heap := h, toks := tk } Q) E { s with heap := h, toks := tk })
    (done : ∀ m₁ nx h tk, J n m₁ nx → Fr h₀ L h m₁ → News h₀ L h nx → Q .next { s with heap := h, toks := tk }) :
    wpAny (model prog w) A (pyIter (.ref r)) (fun it s₂ => LoopAtV prog w A h₀ env x body Q E it s₂) E s := by
  subst hL
  refine wpAny_pyIter_range hr hsmall ?_
  have W : Walks prog w A s.heap.objs.size [s.heap.objs.size] [s.heap.objs.size] n (fun i v => i < n ∧ ∃ t, v = .int ((0 : Int) + i * 1) t)
      (fun i h => IsRangeIter h s.heap.objs.size ((0 : Int) + (i : Nat) * 1) ((n : Int) - (i : Nat)) 1) := (Walks.range hh _ 0 1 n).bound
  refine kdr_loop J W (fun _ h => h) (fun _ h => h) ?_ ?_ ?_ ?_ (by show IsRangeIter _ _ _ _ _; rw [hsz]; simpa using Heap.get?_push_size _ rfl) (F.push _) (fun p hp => ⟨Heap.get?_push_of_some _ (N p hp).1, (N p hp).2⟩) hj ?_ ?_
  · intro i h hi b hb
    rw [List.mem_singleton.mp hb]
    exact ⟨_, hi⟩
  · intro hm
    exact absurd F.ns.lt ((List.mem_singleton.mp hm) ▸ Nat.lt_irrefl _)
  · intro b hb
    rw [List.mem_singleton.mp hb]
    exact next_is_new F
  · intro p hp hI
    exact absurd (Heap.lt_size (N p hp).1) ((List.mem_singleton.mp hI) ▸ Nat.lt_irrefl _)
  · rintro i v m₁ nx h tk own hi ⟨_, t, rfl⟩ hoff hJ F₁ N₁
    have e1 : (0 : Int) + (i : Int) * 1 = (i : Int) := by omega
    rw [e1] at F₁
    exact turn i t m₁ nx h tk own hi hoff hJ F₁ N₁
  · exact done
end
noncomputable abbrev nm (x : String) : Str := Str.ofString x
noncomputable def LInv (pan p0 : Addr) (ys0 : List Value) (fb : Str → Option Value) (i : Nat) (m : Str → Option Value) (nx : List (Addr × Obj)) : Prop :=
  ∃ (ps : List Pc) (us : List Value) (c1 : Nat) (tvs : List Value) (c2 : Nat) (k : Int) (t : Tok) (row due : Addr) (extra : List (Addr × Obj)) (tl : Tok),
    ps.length = i ∧ (∀ p ∈ ps, p.ok) ∧ IntsAre us (ps.flatMap Pc.oct) ∧ DatAll extra tvs (ps.map Pc.due) ∧ (0 ≤ k ∧ k ≤ 1 + 8 * (i : Int)) ∧
    (m (Str.ofString "row") = some (.ref row) ∧ m (Str.ofString "due") = some (.ref due) ∧ m (Str.ofString "pan") = some (.ref pan) ∧ m (Str.ofString "last") = ps.getLast?.map (fun p => .int (p.oct.length : Int) tl)) ∧
    (∀ y, y ≠ Str.ofString "row" → y ≠ Str.ofString "due" → y ≠ Str.ofString "pan" → y ≠ Str.ofString "last" → y ≠ Str.ofString "turn" → y ≠ Str.ofString "octets" → y ≠ Str.ofString "token" → m y = fb y) ∧
    nx = (row, PySem.W.listOf us.toArray c1) :: (due, PySem.W.listOf tvs.toArray c2) :: (pan, panO p0 k t 0) :: (p0, PySem.W.listOf ys0.toArray ys0.length) :: extra ∧
    Apart p0 pan ∧ ∀ q ∈ (row, PySem.W.listOf us.toArray c1) :: (due, PySem.W.listOf tvs.toArray c2) :: extra, Apart q.1 pan ∧ Apart q.1 p0
theorem fr_law {g h : Heap} {L : Addr} {vr vd vp : Value} {lv : Option Value} {m' fb : Str → Option Value} (F : Fr g L h m')
    (e1 : m' (Str.ofString "row") = some vr) (e2 : m' (Str.ofString "due") = some vd) (e3 : m' (Str.ofString "pan") = some vp) (e4 : m' (Str.ofString "last") = lv)
    (e : ∀ y, y ≠ Str.ofString "row" → y ≠ Str.ofString "due" → y ≠ Str.ofString "pan" → y ≠ Str.ofString "last" → y ≠ Str.ofString "turn" → y ≠ Str.ofString "octets" → y ≠ Str.ofString "token" → m' y = fb y) :
    Fr g L h (fun y => if y = Str.ofString "row" then some vr else if y = Str.ofString "due" then some vd else if y = Str.ofString "pan" then some vp else if y = Str.ofString "last" then lv
      else if y = Str.ofString "turn" then m' (Str.ofString "turn") else if y = Str.ofString "octets" then m' (Str.ofString "octets") else if y = Str.ofString "token" then m' (Str.ofString "token") else fb y) := by
  refine fr_cast F fun y => ?_
  split
  · rename_i h; rw [h]; exact e1
  split
  · rename_i h; rw [h]; exact e2
  split
  · rename_i h; rw [h]; exact e3
  split
  · rename_i h; rw [h]; exact e4
  split
  · rename_i h; rw [h]
  split
  · rename_i h; rw [h]
  split
  · rename_i h; rw [h]
  · exact e y (by assumption) (by assumption) (by assumption) (by assumption) (by assumption) (by assumption) (by assumption)
section
variable {prog : Program} {w : World} {A : Around} {E : Value → Shared → Prop} {s : Shared} {h₀ : Heap} {L a b : Addr} {m : Str → Option Value} {news : List (Addr × Obj)} {Q : Value → Shared → Prop}
theorem add_mine {vs ws : List Value} {n1 n2 : Nat} (F : Fr h₀ L s.heap m) (N : News h₀ L s.heap news) (ha : (a, PySem.W.listOf vs.toArray n1) ∈ news) (hb : (b, PySem.W.listOf ws.toArray n2) ∈ news) (hz : vs.length + ws.length ≤ 1000)
    (h : ∀ D h', (∀ p ∈ news, p.1 < D) → Fr h₀ L h' m → News h₀ L h' ((D, PySem.W.listOf (vs ++ ws).toArray 0) :: news) → Q (.ref D) { s with heap := h' }) : wpAny (model prog w) A (binaryOp .Add (.ref a) (.ref b)) Q E s :=
  add_lists F N ⟨_, (N _ ha).1, rfl, _, rfl⟩ ⟨_, (N _ hb).1, rfl, _, rfl⟩ (fun h' F' N' => h _ h' (fun p hp => Heap.lt_size (N p hp).1) F' N') (by rw [sizeLine_eq]; omega)
end
theorem pick_cut (us : List Value) : kms_pick us none (some (-1)) = us.dropLast := by
  unfold kms_pick kms_lo kms_hi
  rw [List.dropLast_eq_take]
  simp
section
variable {prog : Program} {w : World} {A : Around} {E : Value → Shared → Prop} {s : Shared} {h₀ : Heap} {L l : Addr} {m : Str → Option Value} {news : List (Addr × Obj)} {value slice : PySem.Expr} {Q : Value → Shared → Prop}
theorem cut_mine {us : List Value} {n1 : Nat} {vu : Value} (F : Fr h₀ L s.heap m) (N : News h₀ L s.heap news) (ha : (l, PySem.W.listOf us.toArray n1) ∈ news) (pu : IsPart vu (some (-1))) (hz : us.length ≤ 1000)
    (h : ∀ D h', (∀ p ∈ news, p.1 < D) → Fr h₀ L h' m → News h₀ L h' ((D, PySem.W.listOf us.dropLast.toArray 0) :: news) → Q (.ref D) { s with heap := h' })
    (hs : subscripted slice false (.ref l) (.ref s.heap.objs.size) = operate [.ref s.heap.objs.size, .ref l] (getItem (.ref l) (.ref s.heap.objs.size))) (ht : ∀ r, letTemporaryGo value (.ref l) r = pure ()) :
    wpAny (model prog w) A (subscriptTail value slice (.ref l) (.ref s.heap.objs.size)) Q E { s with heap := s.heap.push { cls := .type "slice", data := .fields #[.none, vu, .none] } } :=
  kms_slice_lit F N ⟨_, (N _ ha).1, rfl, _, rfl⟩ .none pu (pick_cut us) (fun D h' F' N' l1 => h D h' l1 F' N') hs ht (by rw [List.size_toArray, sizeLine_eq]; omega)
end
theorem name4 {g h : Heap} {L D1 l3 l2 l1 D2 D3 : Addr} {o1 o3 : Obj} {t : Tok} {ys : List Value} (_ : News g L h [(D1, o1), (l3, PySem.W.listOf #[] 0), (l2, PySem.W.listOf #[] 0), (l1, PySem.W.listOf #[.ref D2, .int 0 t] 0), (D2, LCg.lst ys), (D3, o3)]) :
    ∃ due row pan p0 t' ys', due = l3 ∧ row = l2 ∧ pan = l1 ∧ p0 = D2 ∧ t' = t ∧ ys' = ys := ⟨_, _, _, _, _, _, rfl, rfl, rfl, rfl, rfl, rfl⟩
theorem six {c : Int} (h0 : 0 ≤ c) (h1 : c < 6) : Builtin.Range.rangeSize 0 (1 + c) 1 = (((1 + c).toNat : Nat) : Int) ∧ Builtin.Range.small 0 (1 + c) 1 = true := by
  have k : ∀ i : Fin 6, Builtin.Range.rangeSize 0 (1 + (i.1 : Int)) 1 = (((1 + (i.1 : Int)).toNat : Nat) : Int) ∧ Builtin.Range.small 0 (1 + (i.1 : Int)) 1 = true := by decide
  exact upto (p := fun c => Builtin.Range.rangeSize 0 (1 + c) 1 = (((1 + c).toNat : Nat) : Int) ∧ Builtin.Range.small 0 (1 + c) 1 = true) k h0 h1
theorem fr_name {g h : Heap} {L : Addr} {m : Str → Option Value} (_ : Fr g L h m) : ∃ m', m' = m := ⟨_, rfl⟩
noncomputable def LMid (h₀ : Heap) (L pan p0 : Addr) (ys0 : List Value) (fb : Str → Option Value) (s : Shared) (s' : Shared) : Prop :=
  ∃ (h' : Heap) (tk' : Nat) (m' : Str → Option Value) (row due : Addr) (us : List Value) (c1 : Nat) (tvs : List Value) (c2 : Nat) (k : Int) (t : Tok) (extra : List (Addr × Obj)) (ns : List Int) (ds : List Dat),
    s' = { s with heap := h', toks := tk' } ∧ IntsAre us ns ∧ DatAll extra tvs ds ∧ Fine ns ds ∧ (0 ≤ k ∧ k ≤ 60) ∧
    (m' (Str.ofString "row") = some (.ref row) ∧ m' (Str.ofString "due") = some (.ref due) ∧ m' (Str.ofString "pan") = some (.ref pan)) ∧
    (∀ y, y ≠ Str.ofString "row" → y ≠ Str.ofString "due" → y ≠ Str.ofString "pan" → y ≠ Str.ofString "last" → y ≠ Str.ofString "turn" → y ≠ Str.ofString "octets" → y ≠ Str.ofString "token" → m' y = fb y) ∧
    Fr h₀ L h' m' ∧ News h₀ L h' ((row, PySem.W.listOf us.toArray c1) :: (due, PySem.W.listOf tvs.toArray c2) :: (pan, panO p0 k t 0) :: (p0, PySem.W.listOf ys0.toArray ys0.length) :: extra)
theorem if_mid {prog : Program} {w : World} {A : Around} {E : Value → Shared → Prop} {s : Shared} {env : Env} {st : Stmt} {rest : List Stmt} {Q : Flow → Shared → Prop} {Mid : Shared → Prop}
    (h1 : wpAny (model prog w) A (exec st env) (fun f s' => f = .next ∧ Mid s') E s) (h2 : ∀ s', Mid s' → wpAny (model prog w) A (execs rest env) Q E s') : wpAny (model prog w) A (execs (st :: rest) env) Q E s := by
  refine wpAny_execs_cons (wpAny_mono h1 (fun f s' hf => ?_) fun _ _ x => x)
  obtain ⟨rfl, hm⟩ := hf
  exact h2 s' hm
theorem if_midF {prog : Program} {w : World} {A : Around} {E : Value → Shared → Prop} {s : Shared} {env : Env} {st : Stmt} {rest : List Stmt} {Q : Flow → Shared → Prop} {g h : Heap} {L : Addr} {m : Str → Option Value} (_F : Fr g L h m)
    (pan p0 : Addr) (ys0 : List Value) (fb : Str → Option Value) (h1 : wpAny (model prog w) A (exec st env) (fun f s' => f = .next ∧ Held (LMid g L pan p0 ys0 fb s s')) E s)
    (h2 : ∀ s', LMid g L pan p0 ys0 fb s s' → wpAny (model prog w) A (execs rest env) Q E s') : wpAny (model prog w) A (execs (st :: rest) env) Q E s := if_mid h1 h2
theorem ints_drop {us : List Value} {ns : List Int} (h : IntsAre us ns) : IntsAre us.dropLast ns.dropLast := by
  rw [List.dropLast_eq_take, List.dropLast_eq_take, h.length]
  exact h.take _
theorem dat_drop {nw : List (Addr × Obj)} : ∀ {vs : List Value} {ds : List Dat}, DatAll nw vs ds → DatAll nw vs.dropLast ds.dropLast
  | [], [], .nil => .nil
  | [_], [_], .cons _ .nil => .nil
  | _ :: _ :: _, _ :: _ :: _, .cons h (.cons h2 t) => .cons h (dat_drop (.cons h2 t))
theorem ints_lay : ∀ ns : List Int, PyData.canLayAll0 (ns.map PyData.int) = true
  | [] => rfl
  | x :: r => by rw [List.map_cons, PyData.canLayAll0, ints_lay r]; rfl
theorem ints_depth : ∀ ns : List Int, PyData.depthAll (ns.map PyData.int) = 0
  | [] => rfl
  | x :: r => by rw [List.map_cons, PyData.depthAll, ints_depth r]; rfl
section
variable {prog : Program} {w : World} {A : Around} {E : Value → Shared → Prop} {s : Shared} {h₀ : Heap} {L a b : Addr} {Q : Value → Shared → Prop} {news : List (Addr × Obj)} {vs ws : List Value} {n1 n2 : Nat} {ns : List Int}
theorem ints_eq_mine (N : News h₀ L s.heap news) (ha : (a, PySem.W.listOf vs.toArray n1) ∈ news) (hb : (b, PySem.W.listOf ws.toArray n2) ∈ news)
    (h1 : IntsAre vs ns) (h2 : IntsAre ws ns) (hu : A.units + 10 < cLine) (h : Q (.bool true) s) : wpAny (model prog w) A (compareOp .Eq (.ref a) (.ref b)) Q E s := by
  obtain ⟨as, r1⟩ := ints_reads (h := s.heap) h1
  obtain ⟨bs, r2⟩ := ints_reads (h := s.heap) h2
  refine SeqAt.compareEq_reads (list_reads (N _ ha).1 r1) (list_reads (N _ hb).1 r2) (ints_lay ns) (ints_lay ns) ?_ ?_
  · simp only [PyData.depth, ints_depth]; omega
  · rw [SeqAt.eqv_refl _ (by exact ints_lay ns)]; exact h
theorem ints_ne_mine (N : News h₀ L s.heap news) (ha : (a, PySem.W.listOf vs.toArray n1) ∈ news) (hb : (b, PySem.W.listOf ws.toArray n2) ∈ news)
    (h1 : IntsAre vs ns) (h2 : IntsAre ws ns) (hu : A.units + 10 < cLine) (h : Q (.bool false) s) : wpAny (model prog w) A (compareOp .NotEq (.ref a) (.ref b)) Q E s := by
  obtain ⟨as, r1⟩ := ints_reads (h := s.heap) h1
  obtain ⟨bs, r2⟩ := ints_reads (h := s.heap) h2
  refine SeqAt.compareNe_reads (list_reads (N _ ha).1 r1) (list_reads (N _ hb).1 r2) (ints_lay ns) (ints_lay ns) ?_ ?_
  · simp only [PyData.depth, ints_depth]; omega
  · rw [SeqAt.eqv_refl _ (by exact ints_lay ns)]; exact h
end
theorem dues_lay : ∀ {ds : List Dat}, (∀ d ∈ ds, d = Dat.none ∨ ∃ tk : Tk, Tk.Ok tk ∧ d = tk.due) → PyData.canLayAll0 (Dat.pys ds) = true ∧ Dat.plains ds = true ∧ PyData.depthAll (Dat.pys ds) ≤ 1
  | [], _ => ⟨rfl, rfl, Nat.zero_le _⟩
  | d :: r, h => by
    obtain ⟨h1, h2, h3⟩ := dues_lay fun x hx => h x (.tail _ hx)
    have hd : (Dat.py d).canLay0 = true ∧ Dat.plain d = true ∧ (Dat.py d).depth ≤ 1 := by
      rcases h d (.head _) with z | ⟨tk, hk, z⟩
      · rw [z]; exact ⟨rfl, rfl, Nat.zero_le _⟩
      · rw [z]
        cases hk with
        | word => exact ⟨by simp only [Tk.due, Dat.py, Dat.pys, PyData.canLay0, PyData.canLayAll0]; decide +kernel, rfl, Nat.le_of_ble_eq_true rfl⟩
        | sign => exact ⟨by simp only [Tk.due, Dat.py, Dat.pys, PyData.canLay0, PyData.canLayAll0]; decide +kernel, rfl, Nat.le_of_ble_eq_true rfl⟩
        | num => exact ⟨by simp only [Tk.due, Dat.py, Dat.pys, PyData.canLay0, PyData.canLayAll0]; decide +kernel, rfl, Nat.le_of_ble_eq_true rfl⟩
        | txt _ _ hb => exact ⟨by simp only [Tk.due, Dat.py, Dat.pys, PyData.canLay0, PyData.canLayAll0]; rw [kdName_ok, text_ok fun c hc => ⟨(hb c hc).1, by have := (hb c hc).2; omega⟩]; rfl, rfl, Nat.le_of_ble_eq_true rfl⟩
    rw [Dat.pys, PyData.canLayAll0, Dat.plains, PyData.depthAll, hd.1, h1, hd.2.1, h2]
    exact ⟨rfl, rfl, Nat.max_le.mpr ⟨hd.2.2, h3⟩⟩
theorem pys_map : ∀ ds : List Dat, Dat.pys ds = ds.map Dat.py
  | [] => rfl
  | d :: r => by rw [Dat.pys, List.map_cons, pys_map r]
section
variable {prog : Program} {w : World} {A : Around} {E : Value → Shared → Prop} {s : Shared} {h₀ : Heap} {L a : Addr} {Q : Value → Shared → Prop} {news extra : List (Addr × Obj)} {vs : List Value} {n1 : Nat} {ds : List Dat}
theorem none_in (N : News h₀ L s.heap news) (ha : (a, PySem.W.listOf vs.toArray n1) ∈ news) (hs : ∀ p ∈ extra, p ∈ news) (hd : DatAll extra vs ds) (hall : ∀ d ∈ ds, d = Dat.none ∨ ∃ tk : Tk, Tk.Ok tk ∧ d = tk.due)
    (hu : A.units + 10 < cLine) (h : Q (.bool ((Dat.pys ds).any fun y => PyData.eqv y .none)) s) : wpAny (model prog w) A (compareOp .In .none (.ref a)) Q E s := by
  obtain ⟨h1, h2, h3⟩ := dues_lay hall
  obtain ⟨as, r1⟩ := datAll_reads (fun q hq => (N q (hs q hq)).1) hd h2
  exact SeqAt.in_list_reads (list_reads (N _ ha).1 r1) .none h1 rfl (by simp only [PyData.depth]; omega) h
end
theorem none_yes {ds : List Dat} (h : Dat.none ∈ ds) : ((Dat.pys ds).any fun y => PyData.eqv y .none) = true := by
  rw [pys_map, List.any_eq_true]
  exact ⟨.none, List.mem_map.mpr ⟨Dat.none, h, rfl⟩, rfl⟩
theorem none_no (l : List Tk) : ((Dat.pys (l.map Tk.due)).any fun y => PyData.eqv y .none) = false := by
  rw [pys_map, List.any_eq_false]
  intro x hx
  obtain ⟨d, hd, rfl⟩ := List.mem_map.mp hx
  obtain ⟨t, _, rfl⟩ := List.mem_map.mp hd
  cases t <;> exact Bool.false_ne_true
theorem mem_mid {α : Type} {q x y : α} {l1 l2 l3 : List α} (h : q ∈ x :: y :: l2 ++ (l1 ++ l3)) : q ∈ x :: (l1 ++ y :: (l2 ++ l3)) := by
  simp only [List.mem_cons, List.mem_append] at h ⊢
  rcases h with (h | h | h) | h | h
  · exact .inl h
  · exact .inr (.inr (.inl h))
  · exact .inr (.inr (.inr (.inl h)))
  · exact .inr (.inl h)
  · exact .inr (.inr (.inr (.inr h)))
section
variable {prog : Program} {w : World} {A : Around} {E : Value → Shared → Prop} {s : Shared} {h₀ : Heap} {L a : Addr} {Q : Value → Shared → Prop} {news extra : List (Addr × Obj)} {vs : List Value} {n1 : Nat} {l : List Tk}
theorem toks_str {t : Tok} (N : News h₀ L s.heap news) (ha : (a, PySem.W.listOf vs.toArray n1) ∈ news) (hs : ∀ p ∈ extra, p ∈ news) (hd : DatAll extra vs (l.map Tk.dat)) (hok : ∀ tk ∈ l, Tk.Ok tk)
    (hu : A.units + 10 < cLine) (h : Q (.bool false) s) : wpAny (model prog w) A (compareOp .Eq (.ref a) (.str (Str.ofString "SN") t)) Q E s := by
  obtain ⟨as, r1⟩ := datAll_reads (fun q hq => (N q (hs q hq)).1) hd (tks_plain l)
  refine SeqAt.compareEq_reads (list_reads (N _ ha).1 r1) (.str _ _) (by exact tks_lay hok) (by simp only [PyData.canLay0]; decide +kernel) ?_ h
  have := tks_depth l
  simp only [PyData.depth]
  omega
end
section
variable {prog : Program} {w : World} {A : Around} {h₀ : Heap} {L : Addr} {m : Str → Option Value} {env : Env} {s : Shared}
theorem kinds_rest {elt : PySem.Expr} {x x₂ : Str} {scope : Scope} {cl : List (Str × Addr)} {S : List (Addr × Obj) → Prop} {Fin : List Value → List (Addr × Obj) → Prop} {vs : List Value} {ks : List Str} {news : List (Addr × Obj)}
    (hlen : vs.length = ks.length)
    (hp : ∀ (i : Nat) (v : Value) (k : Str), vs[i]? = some v → ks[i]? = some k → ∃ (t : Addr) (v₂ : Value) (nt : Nat) (tok : Tok), v = Value.ref t ∧ (t, ({ cls := .type "tuple", data := .seq #[.str k tok, v₂] nt } : Obj)) ∈ news)
    (turn : ∀ k tok v₂ I oI C oC D m₂ ys h tk (E' : Value → Shared → Prop), LCg.NsObj oC m₂ → m₂ x = some (.str k tok) → m₂ x₂ = some v₂ → Fr h₀ L h m → News h₀ L h ((I, oI) :: (C, oC) :: (D, LCg.lst ys) :: news) → LCg.Off3 I C D news → ((@Ne Nat I C) ∧ (@Ne Nat I D) ∧ (@Ne Nat C D)) →
      wpAny (model prog w) A (eval elt (compEnvC scope cl C env)) (LCg.CompEnd h₀ L m { s with heap := h, toks := tk } I oI C oC D (LCg.lst ys) S (fun y news' => y = .str k tok ∧ news' = news)) E' { s with heap := h, toks := tk })
    (fin : ∀ ys, ys.map strOf = ks.map some → Fin ys news) :
    LCp.CompRestP prog w A h₀ L m env elt x x₂ scope cl s S (fun i v => vs.toArray[i]? = some v) Fin vs.toArray.size 0 [] news := by
  have hsz : vs.toArray.size = ks.length := by rw [List.size_toArray]; exact hlen
  have key : ∀ (j i : Nat) (ys : List Value), i + j = vs.toArray.size → ys.map strOf = (ks.take i).map some → LCp.CompRestP prog w A h₀ L m env elt x x₂ scope cl s S (fun i v => vs.toArray[i]? = some v) Fin j i ys news := by
    intro j
    induction j with
    | zero =>
      intro i ys hi hy
      rw [List.take_of_length_le (by omega)] at hy
      exact LCp.CompRestP.zero (fin ys hy)
    | succ j ih =>
      intro i ys hi hy
      refine LCp.CompRestP.succ fun v hv => ?_
      have hv' : vs[i]? = some v := by simpa using hv
      have hik : i < ks.length := by omega
      have hk : ks[i]? = some ks[i] := List.getElem?_eq_getElem hik
      obtain ⟨t, v₂, nt, tok, rfl, hm⟩ := hp i v _ hv' hk
      refine ⟨t, _, _, v₂, nt, rfl, hm, rfl, rfl, fun I oI C oC D m₂ h tk E' hC hx hx2 F N off ne => ?_⟩
      refine wpAny_mono (turn _ tok v₂ I oI C oC D m₂ ys h tk E' hC hx hx2 F N off ne) (fun y s₂ hq => ?_) fun _ _ e => e
      obtain ⟨h', tk', nw, e, F', N', off', hS, rfl, rfl⟩ := hq
      refine ⟨h', tk', _, e, F', N', off', hS, ih (i + 1) _ (by omega) ?_⟩
      rw [List.take_add_one, hk, List.map_append, List.map_append, hy]
      rfl
  exact key _ 0 [] (by omega) rfl
end
theorem strs_reads {h : Heap} : ∀ {ys : List Value} {ks : List Str}, ys.map strOf = ks.map some → ∃ as, ReadsAll h ys (ks.map PyData.str) as
  | [], [], _ => ⟨_, .nil⟩
  | y :: r, k :: q, e => by
    rw [List.map_cons, List.map_cons] at e
    obtain ⟨e1, e2⟩ := List.cons.inj e
    obtain ⟨as, h2⟩ := strs_reads e2
    cases y <;> simp [strOf] at e1
    subst e1
    exact ⟨_, .cons (.str _ _) h2⟩
  | [], _ :: _, e => by simp at e
  | _ :: _, [], e => by simp at e
noncomputable def Tk.kind : Tk → Str
  | .word _ => Str.ofString "word"
  | .sign _ => Str.ofString "sign"
  | .num _ => Str.ofString "number"
  | .txt kd _ => kdName kd
theorem kind_ok (t : Tk) : PyData.strOk t.kind = true := by
  cases t
  · simp only [Tk.kind]; decide +kernel
  · simp only [Tk.kind]; decide +kernel
  · simp only [Tk.kind]; decide +kernel
  · exact kdName_ok _
theorem kinds_lay : ∀ l : List Tk, PyData.canLayAll0 ((l.map Tk.kind).map PyData.str) = true ∧ PyData.depthAll ((l.map Tk.kind).map PyData.str) = 0
  | [] => ⟨rfl, rfl⟩
  | t :: r => by
    obtain ⟨h1, h2⟩ := kinds_lay r
    rw [List.map_cons, List.map_cons, PyData.canLayAll0, PyData.depthAll, h1, h2, PyData.canLay0, kind_ok]
    exact ⟨rfl, rfl⟩
theorem pair_mem {news : List (Addr × Obj)} {v : Value} {a b : Dat} {x : Str} (h : DatIn news v (.tuple [.str x, b])) : ∃ (t : Addr) (v₂ : Value) (nt : Nat) (tok : Tok), v = Value.ref t ∧ (t, ({ cls := .type "tuple", data := .seq #[.str x tok, v₂] nt } : Obj)) ∈ news ∧ DatIn news v₂ b := by
  cases h with
  | tuple hm ha =>
    cases ha with
    | cons h1 r =>
      cases r with
      | cons h2 r =>
        cases r
        cases h1
        exact ⟨_, _, _, _, rfl, hm, h2⟩
theorem pairs_at {news : List (Addr × Obj)} {f : Tk → Dat} (hf : ∀ t : Tk, ∃ b, f t = .tuple [.str t.kind, b]) : ∀ {vs : List Value} {l : List Tk}, DatAll news vs (l.map f) → ∀ (i : Nat) (v : Value) (k : Str), vs[i]? = some v → (l.map Tk.kind)[i]? = some k →
    ∃ (t : Addr) (v₂ : Value) (nt : Nat) (tok : Tok), v = Value.ref t ∧ (t, ({ cls := .type "tuple", data := .seq #[.str k tok, v₂] nt } : Obj)) ∈ news
  | [], [], _, i, v, k, hv, _ => by simp at hv
  | w :: r, t :: q, h, i, v, k, hv, hk => by
    cases h with
    | cons h1 h2 =>
      cases i with
      | zero =>
        simp at hv hk
        subst hv hk
        obtain ⟨b, e⟩ := hf t
        rw [e] at h1
        obtain ⟨t', v₂, nt, tok, e', hm, _⟩ := pair_mem (a := b) h1
        exact ⟨t', v₂, nt, tok, e', hm⟩
      | succ i => exact pairs_at hf h2 i v k (by simpa using hv) (by simpa using hk)
section
variable {prog : Program} {w : World} {A : Around} {E : Value → Shared → Prop} {s : Shared} {h₀ : Heap} {L a b : Addr} {Q : Value → Shared → Prop} {news : List (Addr × Obj)} {ys zs : List Value} {l : List Tk}
theorem kinds_ne (N : News h₀ L s.heap news) (ha : (a, LCg.lst ys) ∈ news) (hb : (b, LCg.lst zs) ∈ news) (h1 : ys.map strOf = (l.map Tk.kind).map some) (h2 : zs.map strOf = (l.map Tk.kind).map some)
    (hu : A.units + 10 < cLine) (h : Q (.bool false) s) : wpAny (model prog w) A (compareOp .NotEq (.ref a) (.ref b)) Q E s := by
  obtain ⟨as, r1⟩ := strs_reads (h := s.heap) h1
  obtain ⟨bs, r2⟩ := strs_reads (h := s.heap) h2
  obtain ⟨k1, k2⟩ := kinds_lay l
  refine SeqAt.compareNe_reads (.list (N _ ha).1 rfl rfl r1) (.list (N _ hb).1 rfl rfl r2) k1 k1 ?_ ?_
  · simp only [PyData.depth, k2]; omega
  · rw [SeqAt.eqv_refl _ (by exact k1)]; exact h
end
theorem fr_three {g h : Heap} {L : Addr} {vf vr vp : Value} {m : Str → Option Value} (F : Fr g L h m) (e1 : m (Str.ofString "found") = some vf) (e2 : m (Str.ofString "row") = some vr) (e3 : m (Str.ofString "pan") = some vp) :
    Fr g L h (fun y => if y = Str.ofString "found" then some vf else if y = Str.ofString "row" then some vr else if y = Str.ofString "pan" then some vp else m y) := by
  refine fr_cast F fun y => ?_
  split
  · rename_i h; rw [h]; exact e1
  split
  · rename_i h; rw [h]; exact e2
  split
  · rename_i h; rw [h]; exact e3
  · rfl
noncomputable def EInv (D row pan : Addr) (tvs : List Value) (LED : List (Addr × Obj)) (n : Nat) (its : List Itm) (m : Str → Option Value) (nw : List (Addr × Obj)) : Prop :=
  ∃ i, its = enumItems i (tvs.drop i) ∧ n = (tvs.drop i).length ∧ m (Str.ofString "found") = some (.ref D) ∧ m (Str.ofString "row") = some (.ref row) ∧ m (Str.ofString "pan") = some (.ref pan) ∧ ∀ p ∈ LED, p ∈ nw
theorem likeF {g h h' : Heap} {L L' : Addr} {m m' : Str → Option Value} (_ : Fr g L h m) (F : Fr g L' h' m') (e : L' = L) : Fr g L h' m' := e ▸ F
theorem likeN {g h h' : Heap} {L L' : Addr} {m : Str → Option Value} {nw : List (Addr × Obj)} (_ : Fr g L h m) (N : News g L' h' nw) (e : L' = L) : News g L h' nw := e ▸ N
theorem due_of (tk : Tk) : tk.due = .tuple [.str tk.kind, .none] ∨ tk.due = tk.dat := by
  cases tk
  · exact .inl rfl
  · exact .inl rfl
  · exact .inr rfl
  · exact .inr rfl
theorem dat_pair (tk : Tk) : ∃ b, tk.dat = .tuple [.str tk.kind, b] ∧ ((∃ i, b = .int i) ∨ ∃ x, b = .str x) := by
  cases tk
  · exact ⟨_, rfl, .inr ⟨_, rfl⟩⟩
  · exact ⟨_, rfl, .inr ⟨_, rfl⟩⟩
  · exact ⟨_, rfl, .inl ⟨_, rfl⟩⟩
  · exact ⟨_, rfl, .inr ⟨_, rfl⟩⟩
section
variable {prog : Program} {w : World} {A : Around} {E : Value → Shared → Prop} {s : Shared} {h₀ : Heap} {L : Addr} {Q : Value → Shared → Prop} {news : List (Addr × Obj)} {a b : Addr} {va vb : Value} {tk : Tk}
theorem tok_ne (N : News h₀ L s.heap news) (ha : DatIn news va tk.dat) (hb : DatIn news vb tk.dat) (hok : Tk.Ok tk) (hu : A.units + 10 < cLine) (h : Q (.bool false) s) : wpAny (model prog w) A (compareOp .NotEq va vb) Q E s := by
  obtain ⟨as, r1⟩ := datIn_reads (fun q hq => (N q hq).1) ha (tk_plain tk)
  obtain ⟨bs, r2⟩ := datIn_reads (fun q hq => (N q hq).1) hb (tk_plain tk)
  refine SeqAt.compareNe_reads r1 r2 (tk_lay hok) (tk_lay hok) ?_ ?_
  · have := tk_depth tk; omega
  · rw [SeqAt.eqv_refl _ (tk_lay hok)]; exact h
end
theorem law_units {env : Env} : (callerA.deeper env).units + 10 < cLine := by first | decide | (show callerA.units + 3 + 10 < cLine; decide)
theorem law_room : Room (callerA.depth + 1) (callerA.units + 3) 7 := ⟨by decide, by decide⟩

theorem all_cons {α : Type} {p : α → Prop} {a : α} {l : List α} (h : p a) (t : ∀ q ∈ l, p q) : ∀ q ∈ a :: l, p q := List.forall_mem_cons.mpr ⟨h, t⟩
theorem all_app {α : Type} {p : α → Prop} {x y : List α} (h : ∀ q ∈ x, p q) (t : ∀ q ∈ y, p q) : ∀ q ∈ x ++ y, p q := List.forall_mem_append.mpr ⟨h, t⟩
theorem all_nil {α : Type} {p : α → Prop} : ∀ q ∈ ([] : List α), p q := List.forall_mem_nil p
theorem sub_cons {α : Type} {a : α} {l l2 : List α} (h : a ∈ l2) (t : ∀ q ∈ l, q ∈ l2) : ∀ q ∈ a :: l, q ∈ l2 := all_cons h t
theorem sub_app {α : Type} {x y l2 : List α} (h : ∀ q ∈ x, q ∈ l2) (t : ∀ q ∈ y, q ∈ l2) : ∀ q ∈ x ++ y, q ∈ l2 := all_app h t
theorem sub_nil {α : Type} {l2 : List α} : ∀ q ∈ ([] : List α), q ∈ l2 := all_nil
theorem news_sub {h₀ h : Heap} {L : Addr} {l1 l2 : List (Addr × Obj)} (N : News h₀ L h l2) (t : ∀ q ∈ l1, q ∈ l2) : News h₀ L h l1 := fun q hq => N q (t q hq)
theorem xlaw : PySem.Challenge.rw_rh0265_01.Holds := by
  w_top off
  k_with_none
  k_with "my_frame" => (((case kA => exact rfl); (case kF => exact rfl); (case kK => assumption); (case ho => k_is); (case hcd => k_is); (case hroom => exact Room.one (by assumption)); (case hb => exact BindsTo.of_eq rfl); (case hloc => exact locs rfl); (case c2 => exact rfl); (case c3 => exact rfl); (case c4 => exact rfl); (case c5 => decide)))
  k_with "my_sel" => (first | (refine' Sel.head ?aw2; (case aw2 => k_all)) | (refine' Sel.tail ?aw2 ?bw2; (case aw2 => k_ne); (case bw2 => walk_at "my_sel")))
  k_with "ite" => ((k_closed; k_dflt (first | (refine' ite_pos ?hcw3 ?_; (case hcw3 => decide)) | (refine' ite_neg ?hcw3 ?_; (case hcw3 => decide)))))
  k_with "my_strewn" => ((k_dflt (refine' strewn_says ?k1w4 ?k2w4 ?k3w4 ?k4w4 ?k5w4 ?k6w4 ?S1w4 ?S2w4 ?kiw4 ?h0w4 ?hKw4 ?hmw4 ?hm2w4 ?hlenw4 ?hRw4 ?_; (case k1w4 => k_asm); (case k2w4 => k_asm); (case k3w4 => k_asm); (case k4w4 => k_asm); (case k5w4 => k_asm); (case k6w4 => first | exact rfl | assumption); (case S1w4 => walk_at "my_sel"); (case S2w4 => walk_at "my_sel"); (case kiw4 => assumption); (case h0w4 => omega); (case hKw4 => omega); (case hmw4 => decide); (case hm2w4 => decide); (case hlenw4 => assumption); (case hRw4 => exact Room.sub (by assumption) (Nat.le_refl _) (Nat.add_le_add_left (by decide) _)); k_whole)))
  k_with "call ref" => ((k_here; (with_reducible show wpAny _ _ (call (Value.ref 67) [Value.ref _, Value.int _ _]) _ _ _); walk_at "my_strewn"; intro r'w5 t1'w5 t'w5 h'w5 tk'w5 lo'w5 hi'w5 F'w5 N'w5; (try dsimp only); (try k_sweep)))
  k_with "call ref" => ((k_here; (with_reducible show wpAny _ _ (call (Value.ref 67) [Value.ref _, Value.int 9 _]) _ _ _); walk_at "my_strewn"; intro r'w6 t1'w6 t'w6 h'w6 tk'w6 lo'w6 hi'w6 F'w6 N'w6; (try dsimp only); (try k_sweep); (rcases nineW lo'w6 hi'w6 with e' | e' | e' | e' | e' | e' <;> (first | subst e' | (have lo2'w6 := e'.1; have hi2'w6 := e'.2; clear e')) <;> clear lo'w6 hi'w6)))
  k_with "newTuple" => ((k_here; k_dflt (refine' kup_newTuple ?Fw7 ?Nw7 ?_ ?zw7; (case Fw7 => k_asm); (case Nw7 => k_asm); (case zw7 => first | decide | kmk_size)); intro D'w7 h'w7 F'w7 N'w7 l1w7; (try k_lt l1w7); (try k_sweep)))
  k_with "exec For Tuple Call cons nil" => ((refine held ?_))
  k_with "call type:enumerate" => ((refine held ?_))
  k_with "UnrEndW" => ((refine held ?_))
  k_with "assign Tuple" => (((with_reducible show wpAny _ _ (assign (Expr.Tuple [Expr.Name (Str.ofString "kind") _, _] _ _) _ (Value.ref _)) _ _ _); refine held ?_))
  k_with "subscriptTail" => (((with_reducible show wpAny _ _ (subscriptTail (Expr.Name (Str.ofString "found") _) _ (Value.ref _) (Value.int _ _)) _ _ _); refine held ?_))
  k_with "eval ListComp" => ((lcp_look; refine held ?_))
  k_with "SrcLP" => ((refine held ?_))
  k_with "compareOp NotEq ref ref" => ((refine held ?_))
  k_with "compareOp Eq ref ref" => ((refine held ?_))
  k_with "compareOp In none ref" => ((refine held ?_))
  k_with "subscriptTail Name Slice ref ref" => (((with_reducible show wpAny _ _ (subscriptTail _ (PySem.Expr.Slice none (some (PySem.Expr.BinOp _ _ _ _)) none _) (Value.ref _) (Value.ref _)) _ _ _); refine held ?_))
  k_with "call builtin:len" => ((refine held ?_))
  k_with "InvEndG" => ((refine held ?_))
  k_with "binaryOp Add ref ref" => ((refine held ?_))
  k_with "pyIter ref" => (((with_reducible show wpAny _ _ (pyIter _) (fun it s₂ => LoopAtV _ _ _ _ _ _ _ _ _ it s₂) _ _); refine held ?_))
  k_with "call ref" => ((refine held ?_))
  k_with "exec For Name Call cons nil" => ((k_here; (rename Fr _ _ _ _ => lF'w73); (with_unfolding_all refine' For_invVF lF'w73 ?k1w73 ?k2w73 ?_; (case k1w73 => exact rfl); (case k2w73 => exact rfl); k_whole)))
  k_with "execs cons" => (dsimp only)
  k_with "my_mem" => (first | with_reducible assumption | with_reducible exact List.mem_cons_self | (with_reducible refine List.mem_append_left _ ?maw75; (case maw75 => walk_at "my_mem")) | (with_reducible refine List.mem_append_right _ ?mbw75; (case mbw75 => walk_at "my_mem")) | (with_reducible refine List.mem_cons_of_mem _ ?mcw75; (case mcw75 => walk_at "my_mem")))
  k_with "my_sub" => (first | with_reducible exact sub_nil | (with_reducible refine' sub_cons ?saw76 ?sbw76; (case saw76 => walk_at "my_mem"); (case sbw76 => walk_at "my_sub")) | (with_reducible refine' sub_app ?scw76 ?sdw76; (case scw76 => walk_at "my_sub"); (case sdw76 => walk_at "my_sub")) | (intro q'w76 hq'w76; walk_at "my_mem"))
  k_with "my_neg" => (((try dsimp only); (repeat (refine (if_neg (by assumption)).trans ?_)); exact rfl))
  exact Mine.hd (by
    k_go0
    all_goals (refine hideQ (fun Qh gh dh kh oh hQ => ?_))
    k_steps
    rename Fr _ _ _ _ => F0
    rename News _ _ _ (_ :: _) => N0
    rename Below _ _ _ _ => B0
    rename Frag.In _ _ => X0
    rename Top _ _ _ _ _ _ => T0
    rename IntsAre _ (List.map _ _) => hI0
    obtain ⟨due, row, pan, p0, t0, ys0, rfl, rfl, rfl, rfl, rfl, rfl⟩ := name4 N0
    unfold Held
    have N1 : News _ _ _ [(pan, panO p0 0 t0 0), (p0, PySem.W.listOf ys0.toArray ys0.length), (row, PySem.W.listOf #[] 0), (due, PySem.W.listOf #[] 0)] := news_sub N0
      (sub_cons (.tail _ (.tail _ (.tail _ (.head _)))) (sub_cons (show ((p0, LCg.lst ys0) : Addr × Obj) ∈ (_ : List (Addr × Obj)) from .tail _ (.tail _ (.tail _ (.tail _ (.head _))))) (sub_cons (.tail _ (.tail _ (.head _))) (sub_cons (.tail _ (.head _)) sub_nil))))
    have a1 : p0 ≠ pan := Nat.ne_of_lt (by assumption)
    have a2 : row ≠ pan := Nat.ne_of_gt (by assumption)
    have a3 : due ≠ pan := Nat.ne_of_gt (by assumption)
    have a4 : row ≠ p0 := Nat.ne_of_gt (by assumption)
    have a5 : due ≠ p0 := Nat.ne_of_gt (by assumption)
    have a6 : row ≠ due := Nat.ne_of_lt (by assumption)
    rw [Apart.eq] at a1 a2 a3 a4 a5 a6
    have hlen := hI0.length
    rw [List.length_map, List.length_take] at hlen
    have hR7 := law_room
    have hR2 : Room (callerA.depth + 1) (callerA.units + 3) 2 := ⟨by have := hR7.d; omega, by have := hR7.u; omega⟩
    have hR6 : Room (callerA.depth + 1) (callerA.units + 3) 6 := ⟨by have := hR7.d; omega, by have := hR7.u; omega⟩
    have hR4 : Room (callerA.depth + 1) (callerA.units + 3) 4 := ⟨by have := hR7.d; omega, by have := hR7.u; omega⟩
    have hR5 : Room (callerA.depth + 1) (callerA.units + 3) 5 := ⟨by have := hR7.d; omega, by have := hR7.u; omega⟩
    have hR3 : Room (callerA.depth + 1) (callerA.units + 3) 3 := ⟨by have := hR7.d; omega, by have := hR7.u; omega⟩
    have s1 : ∀ q ∈ [(p0, PySem.W.listOf ys0.toArray ys0.length), (row, PySem.W.listOf #[] 0), (due, PySem.W.listOf #[] 0)], q.1 ≠ pan := all_cons a1.ne (all_cons a2.ne (all_cons a3.ne all_nil))
    have s2 : ∀ q ∈ [(row, PySem.W.listOf #[] 0), (due, PySem.W.listOf #[] 0)], q.1 ≠ p0 := all_cons a4.ne (all_cons a5.ne all_nil)
    k_dflt (refine' strewn_says B0 F0 X0 N1 T0 rfl (Sel.head s1) (Sel.head s2) hI0 ?h0 ?hK ?hm ?hm2 ?hlen hR2 ?_; (case h0 => decide); (case hK => decide); (case hm => decide); (case hm2 => decide); (case hlen => rw [List.length_map, List.length_take]; omega))
    intro cnt t1 t2 h1 tk1 cnt0 cnt6 F1 N2
    clear F0 N0 N1
    k_steps
    unfold Held
    rename IsRange _ _ _ _ _ _ _ _ => rg
    rename Fr _ _ _ _ => F3
    rename News _ _ _ _ => N3
    have N3' : News _ _ _ [(row, PySem.W.listOf [].toArray 0), (due, PySem.W.listOf [].toArray 0), (pan, panO p0 1 t2 0), (p0, PySem.W.listOf ys0.toArray ys0.length)] := news_sub N3 (sub_cons (.tail _ (.tail _ (.head _))) (sub_cons (.tail _ (.tail _ (.tail _ (.head _)))) (sub_cons (.head _) (sub_cons (.tail _ (.head _)) sub_nil))))
    obtain ⟨hsz, hsmall⟩ := six cnt0 cnt6
    obtain ⟨m3, hm3⟩ := fr_name F3
    rw [← hm3] at F3
    have hj : LInv pan p0 ys0 m3 0 m3 [(row, PySem.W.listOf [].toArray 0), (due, PySem.W.listOf [].toArray 0), (pan, panO p0 1 t2 0), (p0, PySem.W.listOf ys0.toArray ys0.length)] :=
      ⟨[], [], 0, [], 0, 1, t2, row, due, [], 0, rfl, (fun _ h => nomatch h), .nil, .nil, ⟨by decide, by decide⟩, ⟨by rw [hm3]; rfl, by rw [hm3]; rfl, by rw [hm3]; rfl, by rw [hm3]; rfl⟩, (fun _ _ _ _ _ _ _ _ => rfl), rfl, a1, all_cons ⟨a2, a4⟩ (all_cons ⟨a3, a5⟩ all_nil)⟩
    clear N3
    refine my_range (LInv pan p0 ys0 m3) rfl rg hsmall hsz F3 N3' rfl hj ?turn ?done
    case turn =>
      rintro i t m1 nx h tk own hin hoff ⟨ps, us, c1, tvs, c2, k, t', row', due', extra, tl, hps, hok, hus, htv, ⟨k0, k1⟩, ⟨e1, e2, e3, e4⟩, efb, rfl, a1', hap⟩ F4 N4
      replace F4 := fr_law F4 ((if_neg (by decide)).trans e1) ((if_neg (by decide)).trans e2) ((if_neg (by decide)).trans e3) ((if_neg (by decide)).trans e4) (fun y h1 h2 h3 h4 h5 h6 h7 => (if_neg h5).trans (efb y h1 h2 h3 h4 h5 h6 h7))
      have N5 : News _ _ h ((pan, panO p0 k t' 0) :: (p0, PySem.W.listOf ys0.toArray ys0.length) :: (row', PySem.W.listOf us.toArray c1) :: (due', PySem.W.listOf tvs.toArray c2) :: (extra ++ own)) := news_sub N4 (sub_cons (List.mem_append_left _ (.tail _ (.tail _ (.head _)))) (sub_cons (List.mem_append_left _ (.tail _ (.tail _ (.tail _ (.head _))))) (sub_cons (List.mem_append_left _ (.head _)) (sub_cons (List.mem_append_left _ (.tail _ (.head _)))
        (sub_app (fun q h => List.mem_append_left _ (.tail _ (.tail _ (.tail _ (.tail _ h))))) (fun q h => List.mem_append_right _ h))))))
      have ow1 : ∀ q ∈ own, q.1 ≠ pan := fun q hq => hoff q hq pan (.tail _ (.tail _ (.head _)))
      have ow2 : ∀ q ∈ own, q.1 ≠ p0 := fun q hq => hoff q hq p0 (.tail _ (.tail _ (.tail _ (.head _))))
      have hap1 : ∀ q ∈ (row', PySem.W.listOf us.toArray c1) :: (due', PySem.W.listOf tvs.toArray c2) :: (extra ++ own), q.1 ≠ pan ∧ q.1 ≠ p0 :=
        all_cons ⟨(hap _ (.head _)).1.ne, (hap _ (.head _)).2.ne⟩ (all_cons ⟨(hap _ (.tail _ (.head _))).1.ne, (hap _ (.tail _ (.head _))).2.ne⟩
          (all_app (fun q h => ⟨(hap q (.tail _ (.tail _ h))).1.ne, (hap q (.tail _ (.tail _ h))).2.ne⟩) (fun q h => ⟨ow1 q h, ow2 q h⟩)))
      have s1' : ∀ q ∈ (p0, PySem.W.listOf ys0.toArray ys0.length) :: (row', PySem.W.listOf us.toArray c1) :: (due', PySem.W.listOf tvs.toArray c2) :: (extra ++ own), q.1 ≠ pan := all_cons a1'.ne (fun q z => (hap1 q z).1)
      clear N4 N3' F3 hj
      refine hideQ (fun QA gA dA kAx oA hQA => ?_)
      k_steps
      rename Fr _ _ _ _ => F5
      unfold Held
      k_dflt (refine' piece_says B0 F5 X0 N5 T0 rfl (Sel.head s1') (Sel.head fun q hq => (hap1 q hq).2) hI0 k0 ?hK ?hlen hR3 ?_; (case hK => omega); (case hlen => rw [List.length_map, List.length_take]; omega))
      intro P tp oc tv us2 c3 extra2 k' t2' b h2 tk2 hPok hPi hPd hk1 hk2 hb1 hb2 hb3 hb4 hb5 F6 N6
      replace N6 : News _ _ h2 ((tp, { cls := .type "tuple", data := .seq #[.ref oc, tv] }) :: (oc, PySem.W.listOf us2.toArray c3) :: (row', PySem.W.listOf us.toArray c1) :: (due', PySem.W.listOf tvs.toArray c2) ::
          ((pan, panO p0 k' t2' 0) :: (p0, PySem.W.listOf ys0.toArray ys0.length) :: (extra2 ++ (extra ++ own)))) := news_sub N6 (by walk_at "my_sub")
      clear F5 N5
      have hl1 : us.length ≤ 30 := by rw [hus.length]; have := octs_len hok; omega
      have hl2 : us2.length ≤ 5 := by rw [hPi.length]; exact (oct_len hPok).1
      have hl3 : tvs.length ≤ 6 := by rw [htv.length, List.length_map]; omega
      k_steps
      rename Fr _ _ _ _ => F7
      rename News _ _ _ (_ :: _) => N7
      unfold Held
      refine add_mine F7 N7 (.tail _ (.tail _ (.head _))) (.tail _ (.head _)) (by omega) (fun R1 h3 lt1 F8 N8 => ?_)
      clear F7 N7
      k_steps
      rename Fr _ _ _ _ => F9
      rename News _ _ _ (_ :: _) => N9
      unfold Held
      refine add_mine (vs := tvs) (ws := [tv]) F9 N9 (.tail _ (.tail _ (.tail _ (.tail _ (.tail _ (.head _)))))) (.head _) (by simp only [List.length_cons, List.length_nil]; omega) (fun D1 h4 lt2 F10 N10 => ?_)
      clear F9 N9
      k_steps
      rename Fr _ _ _ _ => F11
      rename News _ _ _ (_ :: _) => N11
      unfold Held
      refine len_list (items := us2.toArray) ⟨_, (N11 (oc, PySem.W.listOf us2.toArray c3) (by walk_at "my_mem")).1, rfl, _, rfl⟩ (by rw [List.size_toArray]; omega) ?_
      have hs2 : us2.toArray.size = P.oct.length := by rw [List.size_toArray, hPi.length]
      rw [hs2]
      k_steps
      all_goals (refine hQA _ _ _ ?_; (try dsimp only); k_steps)
      unfold Held
      rename Fr _ _ _ _ => F12
      rename News _ _ _ (_ :: _) => N12
      have b1 : pan < R1 := lt1 (pan, panO p0 k' t2' 0) (by walk_at "my_mem")
      have b2 : p0 < R1 := lt1 (p0, PySem.W.listOf ys0.toArray ys0.length) (by walk_at "my_mem")
      have b3 : pan < D1 := lt2 (pan, panO p0 k' t2' 0) (by walk_at "my_mem")
      have b4 : p0 < D1 := lt2 (p0, PySem.W.listOf ys0.toArray ys0.length) (by walk_at "my_mem")
      have b5 : pan < b := hb1 (pan, panO p0 k t' 0) (by walk_at "my_mem")
      have b6 : p0 < b := hb1 (p0, PySem.W.listOf ys0.toArray ys0.length) (by walk_at "my_mem")
      refine' ⟨_, _, _, _, (R1, PySem.W.listOf (us ++ us2).toArray 0) :: (D1, PySem.W.listOf (tvs ++ [tv]).toArray 0) :: (pan, panO p0 k' t2' 0) :: (p0, PySem.W.listOf ys0.toArray ys0.length) :: (extra2 ++ extra), rfl, F12, N12, ?n1, ?n2, ?n3,
        ⟨ps ++ [P], us ++ us2, 0, tvs ++ [tv], 0, k', t2', R1, D1, extra2 ++ extra, ?tl, ?l1, ?l2, ?l3, ?l4, ⟨?l0, ?l5⟩, ⟨rfl, rfl, rfl, ?l6⟩, ?l7, rfl, a1', ?l8⟩⟩
      case n1 => walk_at "my_sub"
      case n2 => walk_at "my_sub"
      case n3 =>
        intro q hq c hc
        have lo1 : q.1 < R1 := lt1 q (by walk_at "my_mem")
        have lo2 : q.1 < D1 := lt2 q (by walk_at "my_mem")
        have lo3 : q.1 < b := hb1 q (by walk_at "my_mem")
        obtain ⟨e, he, rfl⟩ := List.mem_map.mp hc
        exact all_cons (p := fun e : Addr × Obj => q.1 ≠ e.1) (Nat.ne_of_lt lo1) (all_cons (Nat.ne_of_lt lo2) (all_cons (ow1 q hq) (all_cons (ow2 q hq) (all_app (fun e he => Nat.ne_of_lt (Nat.lt_of_lt_of_le lo3 (hb4 e he)))
          (fun e he => hoff q hq e.1 (List.mem_map_of_mem (.tail _ (.tail _ (.tail _ (.tail _ he)))))))))) e he
      case l1 => rw [List.length_append, hps]; rfl
      case l2 =>
        intro p hp
        rcases List.mem_append.mp hp with h | h
        · exact hok p h
        · rw [List.mem_singleton.mp h]; exact hPok
      case l3 => rw [List.flatMap_append]; exact IntsAre.append hus (by simp only [List.flatMap_cons, List.flatMap_nil, List.append_nil]; exact hPi)
      case l4 => rw [List.map_append]; exact DatAll.append (htv.mono fun p hp => List.mem_append_right _ hp) (.one (hPd.mono fun p hp => List.mem_append_left _ hp))
      case l0 => omega
      case l5 => push_cast; omega
      case l6 => rw [List.getLast?_concat]; rfl
      case l7 =>
        intro y h1 h2 h3 h4 h5 h6 h7
        walk_at "my_neg"
      case l8 =>
        exact all_cons ⟨Nat.ne_of_gt b1, Nat.ne_of_gt b2⟩ (all_cons ⟨Nat.ne_of_gt b3, Nat.ne_of_gt b4⟩
          (all_app (fun q h => ⟨Nat.ne_of_gt (Nat.lt_of_lt_of_le b5 (hb4 q h)), Nat.ne_of_gt (Nat.lt_of_lt_of_le b6 (hb4 q h))⟩) (fun q h => hap q (.tail _ (.tail _ h)))))
    case done =>
      rintro m1 nx h tk ⟨ps, us, c1, tvs, c2, k, t', row', due', extra, tl, hps, hok, hus, htv, ⟨k0, k1⟩, ⟨e1, e2, e3, e4⟩, efb, rfl, a1', hap⟩ F4 N4
      replace F4 := fr_law F4 e1 e2 e3 e4 efb
      have hne : ps ≠ [] := fun z => by rw [z] at hps; simp at hps; omega
      have hpl : ps.length ≤ 6 := by omega
      obtain ⟨pre, P, rfl⟩ : ∃ pre P, ps = pre ++ [P] := ⟨ps.dropLast, ps.getLast hne, (List.dropLast_concat_getLast hne).symm⟩
      rw [List.getLast?_concat] at F4
      clear N3' F3 hj
      dsimp only
      refine if_midF F4 pan p0 ys0 m3 ?cut ?rest
      case cut =>
        have N5 : News _ _ h ((pan, panO p0 k t' 0) :: (p0, PySem.W.listOf ys0.toArray ys0.length) :: (row', PySem.W.listOf us.toArray c1) :: (due', PySem.W.listOf tvs.toArray c2) :: extra) := news_sub N4 (sub_cons (.tail _ (.tail _ (.head _))) (sub_cons (.tail _ (.tail _ (.tail _ (.head _)))) (sub_cons (.head _) (sub_cons (.tail _ (.head _)) (fun q h => .tail _ (.tail _ (.tail _ (.tail _ h))))))))
        have s1' : ∀ q ∈ (p0, PySem.W.listOf ys0.toArray ys0.length) :: (row', PySem.W.listOf us.toArray c1) :: (due', PySem.W.listOf tvs.toArray c2) :: extra, q.1 ≠ pan := all_cons a1'.ne (fun q z => (hap q z).1.ne)
        by_cases hlast : 1 < P.oct.length
        · k_steps
          unfold Held
          k_dflt (refine' strewn_says B0 F4 X0 N5 T0 rfl (Sel.head s1') (Sel.head fun q hq => (hap q hq).2.ne) hI0 k0 ?hK ?hm ?hm2 ?hlen hR2 ?_; (case hK => omega); (case hm => decide); (case hm2 => decide); (case hlen => rw [List.length_map, List.length_take]; omega))
          intro r t3 t4 h2 tk2 r0 r4 F6 N6
          clear N5 N4
          have hl1 : us.length ≤ 30 := by rw [hus.length]; have := octs_len hok; omega
          have hl3 : tvs.length ≤ 6 := by rw [htv.length, List.length_map]; omega
          k_steps
          · unfold Held
            refine cut_mine F6 N6 (.tail _ (.tail _ (.head _))) (.int _ _) (by omega) (fun R1 h3 lt1 F7 N7 => ?_) ?hs ?ht
            case hs => with_unfolding_all rfl
            case ht => exact fun r => rfl
            have F6' := F6
            clear F6 N6
            k_steps
            unfold Held
            refine cut_mine F7 N7 (.tail _ (.tail _ (.tail _ (.tail _ (.head _))))) (.int _ _) (by omega) (fun R2 h4 lt2 F8 N8 => ?_) ?hs2 ?ht2
            case hs2 => with_unfolding_all rfl
            case ht2 => exact fun r => rfl
            clear F7 N7 F6'
            k_steps
            unfold Held
            rename Fr _ _ _ _ => F9
            rename News _ _ _ (_ :: _) => N9
            refine add_mine (vs := tvs.dropLast) (ws := [Value.none]) F9 N9 (.tail _ (.head _)) (.head _) (by simp only [List.length_dropLast, List.length_cons, List.length_nil]; omega) (fun D2 h5 lt3 F10 N10 => ?_)
            clear F9 N9
            k_steps
            try unfold Held
            rename Fr _ _ _ _ => F12
            rename News _ _ _ (_ :: _) => N12
            refine' ⟨_, _, _, R1, D2, us.dropLast, 0, tvs.dropLast ++ [Value.none], 0, k + 1, t4, extra, ((pre ++ [P]).flatMap Pc.oct).dropLast, ((pre ++ [P]).map Pc.due).dropLast ++ [Dat.none], rfl, ints_drop hus, DatAll.append (dat_drop htv) (.one .none), fine_cut hok hpl hlast, ⟨by omega, by omega⟩, ⟨rfl, rfl, rfl⟩, ?fb, F12, ?nn⟩
            case fb =>
              intro y h1 h2 h3 h4 h5 h6 h7
              walk_at "my_neg"
            case nn =>
              exact news_sub N12 (by walk_at "my_sub")
          · skip
            try unfold Held
            rename Fr _ _ _ _ => F12
            rename News _ _ _ (_ :: _) => N12
            refine' ⟨_, _, _, row', due', us, c1, tvs, c2, k + 1, t4, extra, (pre ++ [P]).flatMap Pc.oct, (pre ++ [P]).map Pc.due, rfl, hus, htv, fine_whole hok hpl, ⟨by omega, by omega⟩, ⟨rfl, rfl, rfl⟩, ?fb, F12, ?nn⟩
            case fb =>
              intro y h1 h2 h3 h4 h5 h6 h7
              walk_at "my_neg"
            case nn =>
              exact news_sub N12 (by walk_at "my_sub")
        · k_steps
          try unfold Held
          rename Fr _ _ _ _ => F12
          rename News _ _ _ (_ :: _) => N12
          refine' ⟨_, _, _, row', due', us, c1, tvs, c2, k, t', extra, (pre ++ [P]).flatMap Pc.oct, (pre ++ [P]).map Pc.due, rfl, hus, htv, fine_whole hok hpl, ⟨by omega, by omega⟩, ⟨rfl, rfl, rfl⟩, ?fb, F12, ?nn⟩
          case fb =>
            intro y h1 h2 h3 h4 h5 h6 h7
            walk_at "my_neg"
          case nn =>
            exact news_sub N12 (by walk_at "my_sub")
      case rest =>
        clear F4 N4 hus htv hok
        rintro _ ⟨h, tk, m', row, due, us, c1, tvs, c2, k, t, extra, ns, ds, rfl, hi, hda, hF, ⟨k0, k1⟩, ⟨e1, e2, e3⟩, efb, F4, N4⟩
        replace F4 := fr_law F4 e1 e2 e3 rfl efb
        subst hm3
        have hlen30 := hF.len
        rcases hF.say with ⟨l, ht, hds, hokl, hoct⟩ | ⟨hbad, hnone, hall⟩
        · k_steps
          unfold Held
          rename Fr _ _ _ _ => F5
          rename News _ _ _ (_ :: _) => N5
          k_dflt (refine' heard_ret B0 F5 X0 N5 T0 rfl hR5 hi ?hl hF.hb ht ?_; (case hl => omega))
          intro D vals nn extra2 h3 tk3 hD hsep hne2 F6 N6
          replace N6 := fun q hq => N6 q (mem_mid (l2 := [(row, PySem.W.listOf us.toArray c1), (due, PySem.W.listOf tvs.toArray c2), (pan, panO p0 k t 0), (p0, PySem.W.listOf ys0.toArray ys0.length)]) (l3 := extra) hq)
          change News _ _ h3 _ at N6
          simp only [List.cons_append, List.nil_append] at N6
          clear F5 N5
          k_steps
          unfold Held
          rename News _ _ _ (_ :: _) => N7
          refine ints_ne_mine N7 (.tail _ (.head _)) (.tail _ (.tail _ (.head _))) hi hi law_units ?_
          k_steps
          unfold Held
          rename News _ _ _ (_ :: _) => N8
          refine none_in N8 (.tail _ (.tail _ (.tail _ (.head _)))) (fun p hp => .tail _ (.tail _ (.tail _ (.tail _ (.tail _ (.tail _ (List.mem_append_right _ hp))))))) hda ?hall law_units ?_
          case hall => exact fun d hd => by rw [hds] at hd; obtain ⟨tk, h1, rfl⟩ := List.mem_map.mp hd; exact .inr ⟨tk, hokl tk h1, rfl⟩
          rw [hds, none_no]
          k_steps
          rename News _ _ _ (_ :: _) => N9
          refine toks_str N9 (.head _) (fun p hp => .tail _ (.tail _ (.tail _ (.tail _ (.tail _ (.tail _ (List.mem_append_left _ hp))))))) hD hokl law_units ?_
          k_steps
          unfold Held
          rename Fr _ _ _ _ => F9
          rename News _ _ _ (_ :: _) => N10
          refine LCp.ListComp_P (F₀ := F9) (by with_unfolding_all rfl) (by decide) (by rfl) (by decide) (by rfl) (by rfl) (by decide) ?_
          k_steps
          unfold Held
          refine LCp.SrcLP.ledger rfl F9 N10 (.head _) ?size (fun g' => kinds_rest (ks := l.map Tk.kind) ?kl (pairs_at (f := Tk.dat) ?pf (hD.mono ?sub)) ?tn ?fin)
          case size => rw [List.size_toArray, hD.length, List.length_map, sizeLine_eq]; have := hF.dlen; rw [hds, List.length_map] at this; omega
          case kl => rw [hD.length, List.length_map, List.length_map]
          case pf => exact fun t => by cases t <;> exact ⟨_, rfl⟩
          case sub => exact fun p hp => .tail _ (.tail _ (.tail _ (.tail _ (.tail _ (.tail _ (List.mem_append_left _ hp))))))
          case tn =>
            intro k9 tok9 v9 I9 oI9 C9 oC9 D9 m9 ys9 h9 tk9 E9 hC9 hx9 hx29 F99 N99 off9 ne9
            k_steps
            exact LCg.CompEnd.intro F99 N99 _ (fun p hp => hp) off9 (.inr ⟨_, .head _, rfl, _, rfl⟩) ⟨rfl, rfl⟩
          case fin =>
            intro kys1 hkys1
            unfold LCg.FinE
            intro KD1 h10 tk10 F10 N11 o10
            clear F9 N10
            k_steps
            unfold Held
            rename Fr _ _ _ _ => F11
            rename News _ _ _ (_ :: _) => N12
            refine LCp.ListComp_P (F₀ := F11) (by with_unfolding_all rfl) (by decide) (by rfl) (by decide) (by rfl) (by rfl) (by decide) ?_
            k_steps
            unfold Held
            refine LCp.SrcLP.ledger rfl F11 N12 (.tail _ (.tail _ (.tail _ (.tail _ (.head _))))) ?size (fun g' => kinds_rest (ks := l.map Tk.kind) ?kl (pairs_at (f := Tk.due) ?pf (hds ▸ hda.mono ?sub)) ?tn ?fin)
            case size => rw [List.size_toArray, hda.length, sizeLine_eq]; have := hF.dlen; omega
            case kl => rw [hda.length, hds, List.length_map, List.length_map]
            case pf => exact fun t => by cases t <;> exact ⟨_, rfl⟩
            case sub => exact fun p hp => .tail _ (.tail _ (.tail _ (.tail _ (.tail _ (.tail _ (.tail _ (List.mem_append_right _ hp)))))))
            case tn =>
              intro k9 tok9 v9 I9 oI9 C9 oC9 D9 m9 ys9 h9 tk9 E9 hC9 hx9 hx29 F99 N99 off9 ne9
              k_steps
              exact LCg.CompEnd.intro F99 N99 _ (fun p hp => hp) off9 (.inr ⟨_, .tail _ (.tail _ (.tail _ (.tail _ (.head _)))), rfl, _, rfl⟩) ⟨rfl, rfl⟩
            case fin =>
              intro kys2 hkys2
              unfold LCg.FinE
              intro KD2 h12 tk12 F13 N14 o12
              clear F11 N12
              k_steps
              unfold Held
              rename News _ _ _ (_ :: _) => N15
              refine kinds_ne N15 (.tail _ (.head _)) (.head _) hkys1 hkys2 law_units ?_
              k_steps
              unfold Held
              rename Fr _ _ _ _ => F14
              rename News _ _ _ (_ :: _) => N16
              replace F14 := fr_three F14 rfl rfl rfl
              obtain ⟨LED, hLED⟩ : ∃ LED, LED = (D, PySem.W.listOf vals.toArray nn) :: (row, PySem.W.listOf us.toArray c1) :: (due, PySem.W.listOf tvs.toArray c2) :: (pan, panO p0 k t 0) :: (p0, PySem.W.listOf ys0.toArray ys0.length) :: (extra2 ++ extra) := ⟨_, rfl⟩
              have NL : News _ _ _ LED := hLED ▸ news_sub N16 (sub_cons (.tail _ (.tail _ (.head _))) (fun q z => .tail _ (.tail _ (.tail _ (.tail _ z)))))
              have hdueL : (due, PySem.W.listOf tvs.toArray c2) ∈ LED := by rw [hLED]; exact .tail _ (.tail _ (.head _))
              have hDL : (D, PySem.W.listOf vals.toArray nn) ∈ LED := by rw [hLED]; exact .head _
              have hxL : ∀ p ∈ extra, p ∈ LED := fun p hp => by rw [hLED]; exact .tail _ (.tail _ (.tail _ (.tail _ (.tail _ (List.mem_append_right _ hp)))))
              have hx2L : ∀ p ∈ extra2, p ∈ LED := fun p hp => by rw [hLED]; exact .tail _ (.tail _ (.tail _ (.tail _ (.tail _ (List.mem_append_left _ hp)))))
              clear N16
              refine For_turns F14 ?_
              k_steps
              unfold Held
              refine ktu_enum rfl F14 NL hdueL rfl rfl rfl (fun I hI => ?_)
              refine items_ind (W := ItemsRest _ _ _ _ _ _ _ _ _ _ _ _) (Inv := EInv D row pan tvs LED) ?estep (n := tvs.length) ⟨0, rfl, rfl, rfl, rfl, rfl, fun _ h => h⟩
              rintro n its m2 nw ⟨i, rfl, rfl, g3, g4, g5, hnw⟩ ih
              cases hdrop : tvs.drop i with
              | nil =>
                rw [enumItems]
                refine ItemsRest.zero fun h15 tk15 F15 N17 => ?_
                replace F15 := likeF F14 (fr_three F15 g3 g4 g5) rfl
                replace N17 := likeN F14 N17 rfl
                replace N17 : News _ _ h15 LED := fun q hq => N17 q (hnw q hq)
                dsimp only
                k_steps
                unfold Held
                rename Fr _ _ _ _ => F16
                k_dflt (refine' crunch_ret B0 F16 X0 N17 T0 rfl hR4 hDL (hD.mono hx2L) hokl ?hz ?_; (case hz => rw [hoct]; omega))
                intro D9 us9 nn9 h17 tk17 hi9 hsep9 F17 N18
                rw [hoct] at hi9
                clear F16
                k_steps
                unfold Held
                rename News _ _ _ (_ :: _) => N19
                refine ints_eq_mine N19 (.head _) (.tail _ (by rw [hLED]; exact .tail _ (.head _))) hi9 hi law_units ?_
                k_steps
                unfold Held
                rename Fr _ _ _ _ => F18
                have N20 : News _ _ _ ([(pan, panO p0 k t 0), (p0, PySem.W.listOf ys0.toArray ys0.length)] ++ []) := news_sub N19 (by rw [hLED]; exact sub_cons (.tail _ (.tail _ (.tail _ (.tail _ (.head _))))) (sub_cons (.tail _ (.tail _ (.tail _ (.tail _ (.tail _ (.head _)))))) sub_nil))
                k_dflt (refine' signs_says B0 F18 X0 N20 T0 rfl hR6 X0 T0 (fun q hq => nomatch hq) (fun e => a1 e.symm) hI0 k0 ?hK ?hl ?_; (case hK => omega); (case hl => rw [List.length_map, List.length_take]; omega))
                intro h18 tk18 F20 N21
                clear F18 N19 N20
                k_steps
                all_goals (refine hQ _ _ _ ?_; (try dsimp only); k_steps)
              | cons v r =>
                rw [enumItems]
                have hvi : tvs[i]? = some v := by rw [← List.head?_drop, hdrop]; rfl
                have hr : tvs.drop (i + 1) = r := by rw [← List.tail_drop, hdrop]; rfl
                refine ItemsRest.pair fun TT tt h15 tk15 hT F15 => AllObj.cons fun o1 ho1 => AllObj.cons fun o2 ho2 => AllObj.nil fun N17 => ?_
                replace F15 := likeF F14 (fr_three F15 g3 g4 g5) rfl
                replace N17 := likeN F14 N17 rfl
                replace N17 : News _ _ h15 ((I + 1, o1) :: (I, o2) :: LED) := news_sub N17 (sub_cons (.head _) (sub_cons (.tail _ (.head _)) (fun q z => .tail _ (.tail _ (hnw q z)))))
                refine unpackN_ F15 N17 hT rfl rfl rfl (fun h16 F16 N18 => ?_)
                clear F15 N17
                have hil : i < l.length := by
                  have h1 := (List.getElem?_eq_some_iff.mp hvi).1
                  rw [hda.length, hds, List.length_map] at h1
                  exact h1
                have hdue : DatIn LED v (l[i]'hil).due := by
                  obtain ⟨v', hv', hd'⟩ := DatAll.get (hds ▸ hda) (k := i) (by rw [List.length_map]; exact hil)
                  rw [hvi] at hv'
                  cases hv'
                  rw [List.getElem_map] at hd'
                  exact hd'.mono hxL
                rcases due_of (l[i]'hil) with hk | hk
                · rw [hk] at hdue
                  obtain ⟨t2, v₂, nt2, tok2, rfl, hm2, hv2⟩ := pair_mem (a := .none) hdue
                  cases hv2
                  k_steps
                  dsimp only
                  unfold Held
                  rename Fr _ _ _ _ => F19
                  rename News _ _ _ _ => N19
                  refine unpackN_ F19 N19 ⟨_, (N19 _ (.tail _ (.tail _ hm2))).1, rfl, _, rfl⟩ rfl rfl rfl (fun h20 F20 N20 => ?_)
                  clear F19 N19
                  k_steps
                  unfold Held
                  rename Fr _ _ _ _ => F21
                  rename News _ _ _ (_ :: _) => N21
                  exact ⟨_, _, _, LED, rfl, F21, fun q hq => N21 q (hq), fun p hp q hq => by
                    have h1 := hI p hp
                    rcases List.mem_cons.mp hq with z | z
                    · rw [z]; exact Nat.ne_of_lt (Nat.lt_succ_of_lt h1)
                    · rw [List.mem_singleton.mp z]; exact Nat.ne_of_lt h1, ⟨hdueL, trivial⟩, ih r.length _ _ _ (by rw [hdrop]; exact Nat.lt_succ_self _) ⟨i + 1, by rw [hr], by rw [hr], rfl, rfl, rfl, fun _ h => h⟩⟩
                · obtain ⟨bb, hbb, hcase⟩ := dat_pair (l[i]'hil)
                  rw [hk] at hdue
                  have hdue' := hdue
                  rw [hbb] at hdue'
                  obtain ⟨t2, v₂, nt2, tok2, rfl, hm2, hv2⟩ := pair_mem (a := .none) hdue'
                  rcases hcase with ⟨ii, rfl⟩ | ⟨xx, rfl⟩
                  · cases hv2
                    k_steps
                    dsimp only
                    unfold Held
                    rename Fr _ _ _ _ => F19
                    rename News _ _ _ _ => N19
                    refine unpackN_ F19 N19 ⟨_, (N19 _ (.tail _ (.tail _ hm2))).1, rfl, _, rfl⟩ rfl rfl rfl (fun h20 F20 N20 => ?_)
                    clear F19 N19
                    k_steps
                    unfold Held
                    rename News _ _ _ _ => N22
                    refine kd_item N22 (.tail _ (.tail _ hDL)) (hD.mono hx2L) (by omega) (by rw [List.length_map]; omega) (by have := hF.dlen; rw [hds, List.length_map] at this; omega) (fun v3 d3 hv3 hd3 hin3 => ?_)
                    have hd3' : d3 = (l[i]'hil).dat := by
                      rw [Int.toNat_natCast, List.getElem?_map, List.getElem?_eq_getElem hil] at hv3
                      exact (Option.some.inj hv3).symm
                    rw [hd3'] at hin3
                    have hin4 := hin3
                    rw [hbb] at hin4
                    obtain ⟨t3, v3', nt3, tok3, rfl, hm3', hv3'⟩ := pair_mem (a := .none) hin4
                    k_steps
                    unfold Held
                    rename News _ _ _ (_ :: _) => N23
                    refine tok_ne (tk := l[i]'hil) N23 (hin3.mono fun p hp => .tail _ (.tail _ (.tail _ hp))) (by rw [hbb]; exact DatIn.tuple (.head _) (.cons (.str _ _) (.cons (.int _ _) .nil))) (hokl _ (List.getElem_mem hil)) law_units ?_
                    k_steps
                    unfold Held
                    rename Fr _ _ _ _ => F21
                    rename News _ _ _ (_ :: _) => N21
                    exact ⟨_, _, _, LED, rfl, F21, fun q hq => N21 q ((.tail _ hq)), fun p hp q hq => by
                      have h1 := hI p hp
                      rcases List.mem_cons.mp hq with z | z
                      · rw [z]; exact Nat.ne_of_lt (Nat.lt_succ_of_lt h1)
                      · rw [List.mem_singleton.mp z]; exact Nat.ne_of_lt h1, ⟨hdueL, trivial⟩, ih r.length _ _ _ (by rw [hdrop]; exact Nat.lt_succ_self _) ⟨i + 1, by rw [hr], by rw [hr], rfl, rfl, rfl, fun _ h => h⟩⟩
                  · cases hv2
                    k_steps
                    dsimp only
                    unfold Held
                    rename Fr _ _ _ _ => F19
                    rename News _ _ _ _ => N19
                    refine unpackN_ F19 N19 ⟨_, (N19 _ (.tail _ (.tail _ hm2))).1, rfl, _, rfl⟩ rfl rfl rfl (fun h20 F20 N20 => ?_)
                    clear F19 N19
                    k_steps
                    unfold Held
                    rename News _ _ _ _ => N22
                    refine kd_item N22 (.tail _ (.tail _ hDL)) (hD.mono hx2L) (by omega) (by rw [List.length_map]; omega) (by have := hF.dlen; rw [hds, List.length_map] at this; omega) (fun v3 d3 hv3 hd3 hin3 => ?_)
                    have hd3' : d3 = (l[i]'hil).dat := by
                      rw [Int.toNat_natCast, List.getElem?_map, List.getElem?_eq_getElem hil] at hv3
                      exact (Option.some.inj hv3).symm
                    rw [hd3'] at hin3
                    have hin4 := hin3
                    rw [hbb] at hin4
                    obtain ⟨t3, v3', nt3, tok3, rfl, hm3', hv3'⟩ := pair_mem (a := .none) hin4
                    k_steps
                    unfold Held
                    rename News _ _ _ (_ :: _) => N23
                    refine tok_ne (tk := l[i]'hil) N23 (hin3.mono fun p hp => .tail _ (.tail _ (.tail _ hp))) (by rw [hbb]; exact DatIn.tuple (.head _) (.cons (.str _ _) (.cons (.str _ _) .nil))) (hokl _ (List.getElem_mem hil)) law_units ?_
                    k_steps
                    unfold Held
                    rename Fr _ _ _ _ => F21
                    rename News _ _ _ (_ :: _) => N21
                    exact ⟨_, _, _, LED, rfl, F21, fun q hq => N21 q ((.tail _ hq)), fun p hp q hq => by
                      have h1 := hI p hp
                      rcases List.mem_cons.mp hq with z | z
                      · rw [z]; exact Nat.ne_of_lt (Nat.lt_succ_of_lt h1)
                      · rw [List.mem_singleton.mp z]; exact Nat.ne_of_lt h1, ⟨hdueL, trivial⟩, ih r.length _ _ _ (by rw [hdrop]; exact Nat.lt_succ_self _) ⟨i + 1, by rw [hr], by rw [hr], rfl, rfl, rfl, fun _ h => h⟩⟩
        · k_steps
          unfold Held
          rename Fr _ _ _ _ => F5
          rename News _ _ _ (_ :: _) => N5
          k_dflt (refine' heard_exc B0 F5 X0 N5 T0 rfl hR5 hi ?hl hF.hb X0 T0 hbad ?_; (case hl => omega))
          intro tk3 h3 tk3' F6 N6
          clear F5 N5
          k_steps
          unfold Held
          rename News _ _ _ (_ :: _) => N7
          refine ints_ne_mine N7 (.head _) (.tail _ (.head _)) hi hi law_units ?_
          k_steps
          unfold Held
          rename News _ _ _ (_ :: _) => N8
          refine none_in N8 (.tail _ (.tail _ (.head _))) (fun p hp => .tail _ (.tail _ (.tail _ (.tail _ (.tail _ hp))))) hda hall law_units ?_
          rw [none_yes hnone]
          k_steps
          all_goals (refine hQ _ _ _ ?_; (try dsimp only); k_steps))
end
end Mine

theorem PySem.Challenge.cw_rh0265_01_holds : PySem.Challenge.rw_rh0265_01.Holds := by
  exact Mine.xlaw
