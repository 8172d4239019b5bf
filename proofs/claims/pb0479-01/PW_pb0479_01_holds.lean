import PyProof.Rows.All
import Wide.All
import OpenK.AllK
import Wide.FinOn
import Lean
import PySem.Challenge.RW_pb0479_01
set_option Elab.async false
set_option maxRecDepth 100000
set_option maxHeartbeats 8000000
set_option linter.all false
set_option compiler.extract_closed false
open PySem PySem.W PyProof.Rows
namespace Mine
section
local macro_rules | `(tactic| o_head $_) => `(tactic| assumption)
/-- a triviality; its walk writes the heap's fragment down as a constant -/
theorem hd : PySem.Challenge.rw_pb0479_01.row.Holds → PySem.Challenge.rw_pb0479_01.row.Holds := by
  intro h
  k_head
end
end Mine
open PySem PySem.W PyProof.Rows PySem.Spec PySem.Calls
namespace Mine
local macro_rules | `(tactic| walk_at $s:str) => do let t := Lean.Syntax.mkStrLit ("Z" ++ s.getString); `(tactic| k_extra $t)
section -- C0
open PySem PySem.W PyProof.Rows PySem.Spec PySem.Calls
theorem ltVia {a b c : Nat} (h2 : b < c) (h1 : a < b) : a < c := Nat.lt_trans h1 h2
theorem unit2 (k : Nat) {u n m1 m2 C : Nat} (h : u + n < C) (hn : k + m1 + m2 ≤ n) : u + k + m1 + m2 < C := by omega
theorem roomZ {d n R : Nat} (h : d + n < R) : d < R := Nat.lt_of_le_of_lt (Nat.le_add_right d n) h
theorem roomZM {d e n R : Nat} (h : d + e + n < R) : d < R := Nat.lt_of_le_of_lt (Nat.le_trans (Nat.le_add_right d e) (Nat.le_add_right _ n)) h
theorem r_lt2 {r : Int} (a : 0 ≤ r) (b : r < 2) : r = 0 ∨ r = 1 := by omega
theorem r_lt3 {r : Int} (a : 0 ≤ r) (b : r < 3) : r = 0 ∨ r = 1 ∨ r = 2 := by omega
theorem r_lt4 {r : Int} (a : 0 ≤ r) (b : r < 4) : r = 0 ∨ r = 1 ∨ r = 2 ∨ r = 3 := by omega
theorem r_lt5 {r : Int} (a : 0 ≤ r) (b : r < 5) : r = 0 ∨ r = 1 ∨ r = 2 ∨ r = 3 ∨ r = 4 := by omega
theorem r_56 {r : Int} (b : r < 6) : r < 5 ∨ r = 5 := by omega
theorem r_26 {r : Int} (a : 2 ≤ r) (b : r < 6) : r = 2 ∨ r = 3 ∨ r = 4 ∨ r = 5 := by omega
theorem r_12 (r : Int) : r = 10 ∨ r = 11 ∨ (r ≠ 10 ∧ r ≠ 11) := by omega
theorem r_z (r : Int) : r ≠ 0 ∨ r = 0 := by omega
section
variable {k k1 k2 r d : Int} {n : Nat}
theorem ar_1 : k ≤ k + 1 := by omega
theorem ar_2 : k ≤ k + 1 + 1 := by omega
theorem ar_12 : k + 1 ≤ k + 2 := by omega
theorem ar_22 : k + 1 + 1 ≤ k + 2 := by omega
theorem ar_n : k + 1 + 1 ≤ k + ((4 + 3 * n : Nat) : Int) := by omega
theorem ar_a (h : k ≤ k1) : k ≤ k1 + 1 := by omega
theorem ar_b (h : k ≤ k1) : k ≤ k1 + 1 + 1 := by omega
theorem ar_c (h : k1 ≤ k + 2) : k1 + 1 ≤ k + 4 := by omega
theorem ar_d (h : k1 ≤ k + 2) : k1 + 1 + 1 ≤ k + 4 := by omega
theorem ar_e (a : 0 ≤ k) (b : k ≤ k1) : 0 ≤ k1 := Int.le_trans a b
theorem ar_f (a : 0 ≤ k) (b : k ≤ k1) : 0 ≤ k1 + 1 := by omega
theorem ar_g (a : 0 ≤ r) : 0 ≤ 1 + r := by omega
theorem ar_h (a : r < 3) : 1 + r ≤ 3 := by omega
theorem ar_i (a : 0 ≤ k) : 0 ≤ k + 1 := by omega
theorem ar_j (a : 0 ≤ k) : 0 ≤ k + 1 + 1 := by omega
end
theorem roomK (k : Nat) {d n R : Nat} (h : d + n < R) (hn : k ≤ n) : d + k < R := Nat.lt_of_le_of_lt (Nat.add_le_add_left hn d) h
theorem roomM (k : Nat) {d e n R : Nat} (h : d + e + n < R) (hn : k ≤ n) : d + k < R := Nat.lt_of_le_of_lt (Nat.add_le_add (Nat.le_add_right d e) hn) h
theorem unitK (k : Nat) {u n m C : Nat} (h : u + n < C) (hn : k + m ≤ n) : u + k + m < C := by
  rw [Nat.add_assoc]; exact Nat.lt_of_le_of_lt (Nat.add_le_add_left hn u) h
theorem unitM (k : Nat) {u e n m C : Nat} (h : u + e + n < C) (hn : k + m ≤ n) : u + k + m < C := by
  rw [Nat.add_assoc]; exact Nat.lt_of_le_of_lt (Nat.add_le_add (Nat.le_add_right u e) hn) h
/-- a mark that stops the walk -/
def Halt (P : Prop) : Prop := P
theorem halt {P : Prop} (h : Halt P) : P := h
theorem unhalt {P : Prop} (h : P) : Halt P := h

/-- all that stood stands, but for the addresses of S -/
structure Keeps (S : List Addr) (h h' : Heap) : Prop where
  keep : ∀ b o, h.get? b = some o → b ∉ S → h'.get? b = some o
  size : h.objs.size ≤ h'.objs.size

section
variable {h₀ h h' : Heap} {L : Addr} {m : Str → Option Value} {S : List Addr} {news : List (Addr × Obj)}
theorem fr_keeps (F : Fr h₀ L h m) (k : Keeps S h h') (hS : ∀ a ∈ S, a ≠ L ∧ h₀.get? a = none) : Fr h₀ L h' m := by
  obtain ⟨oL, es, ep, hL, r⟩ := F.ns
  refine ⟨⟨oL, es, ep, k.keep L oL hL fun q => (hS L q).1 rfl, r⟩, fun b o e => k.keep b o (F.keep b o e) fun q => ?_, F.above⟩
  rw [(hS b q).2] at e; cases e
theorem news_keeps (N : News h₀ L h news) (k : Keeps S h h') (hS : ∀ p ∈ news, p.1 ∉ S) : News h₀ L h' news :=
  fun p hp => ⟨k.keep _ _ (N p hp).1 (hS p hp), (N p hp).2⟩
theorem news_sub {news' : List (Addr × Obj)} (N : News h₀ L h news) (k : ∀ p ∈ news', p ∈ news) : News h₀ L h news' := fun p hp => N p (k p hp)
theorem news_updF {d : Addr} {o o' : Obj} {g : Obj → List (Addr × Obj)} (N : News h₀ L h news) (U : UpdF d o news g) (k : Keeps [d] h h') (ho : h'.get? d = some o') : News h₀ L h' (g o') := by
  obtain ⟨pre, post, rfl, hg, h1, h2⟩ := U.split
  rw [hg]
  intro p hp
  rcases List.mem_append.mp hp with hp | hp
  · have z := N p (List.mem_append_left _ hp)
    exact ⟨k.keep _ _ z.1 fun q => h1 p hp (List.mem_singleton.mp q), z.2⟩
  · rcases List.mem_cons.mp hp with rfl | hp
    · exact ⟨ho, (N (d, o) (List.mem_append_right _ (.head _))).2⟩
    · have z := N p (List.mem_append_right _ (.tail _ hp))
      exact ⟨k.keep _ _ z.1 fun q => h2 p hp (List.mem_singleton.mp q), z.2⟩
theorem updF_mem {d : Addr} {o : Obj} {g : Obj → List (Addr × Obj)} (U : UpdF d o news g) : (d, o) ∈ news := by
  obtain ⟨pre, post, rfl, _⟩ := U.split
  exact List.mem_append_right _ (.head _)
end

section
variable {prog : Program} {w : World} {A₀ A : Around} {s : Shared} {base h₀ : Heap} {outer : List Env} {L : Addr} {m mg mb : Str → Option Value} {env : Env} {K : Frag} {p : Program} {loose : List Str} {mean : ExcName → Option Value}
  {R : Result → Shared → Prop} {name qual : Str} {params : Arguments} {body : List Stmt} {scope : Scope} {cl : List (Str × Addr)} {dV kV doc pm cdv ct : Value} {an : Option Addr} {fo : Obj} {f : Addr} {args : Args} {binds : List (Str × Value)}

/-- the call of a def: what mu holds may change, all else is laid fast -/
theorem enterG (mu : List (Addr × Obj)) (B : Below A₀ base outer h₀) (F : Fr h₀ L s.heap m) (X : K.In h₀) (T : Top p loose mean mg mb h₀) (N : News h₀ L s.heap mu)
    (hA : A.frames = some (env :: outer)) (hf : env.frame = some L) (hke : env.scope.kind = .function)
    (ho : s.heap.get? f = some fo) (hd : fo.data = .func (fnX name qual params body scope cl dV kV doc pm an cdv ct)) (hcd : s.heap.CodeRec cdv qual) (hroom : A.depth < recursionLimit)
    (hbind : BindsTo s (fnX name qual params body scope cl dV kV doc pm an cdv ct) args binds) (hloc : ∀ y ∈ binds, scope.names.lookup y.1 = some .local)
    (h : ∀ g L' h₁, (∀ b o, s.heap.get? b = some o → b ∉ mu.map (·.1) → g.get? b = some o) → (∀ b o, g.get? b = some o → s.heap.get? b = some o) → (∀ b ∈ mu.map (·.1), g.get? b = none) → L' = s.heap.objs.size →
      Fr g L' h₁ (fun y => binds.reverse.lookup y) → News g L' h₁ mu → Below A base (env :: outer) g → K.In g → Top p loose mean mg mb g → (∀ p ∈ mu, p.1 < L') →
      wpAny (model prog w) (A.deeper (envX qual scope L' f cdv cl)) (execs body (envX qual scope L' f cdv cl))
        (fun fl s' => R (.ok (.ret (match fl with | .ret v => v | _ => .none))) s')
        (fun e s' => wpAny (model prog w) (A.deeper (envX qual scope L' f cdv cl)) (leaving (envX qual scope L' f cdv cl) e) (fun _ s'' => R (.error e) s'') (fun e' s'' => R (.error e') s'') s')
        { s with heap := h₁, toks := s.toks + binds.length })
    (hcell : ∀ x ∈ scope.names, x.2 ≠ .cell) (hco : scope.isCoroutine = false) (hgen : scope.isGenerator = false) (hk : scope.kind = .function) : codeAny (model prog w) A (.call (.ref f) args) R s := by
  obtain ⟨FG, BG, st, _⟩ := groundX (R := R) B F N hA hf hke
  refine codeAny_call_def (fd := fnX name qual params body scope cl dV kV doc pm an cdv ct) (body := body) (binds := binds) hroom ho hd (T.nolimit.keeps F.keep) hcd rfl hbind hcell hloc (fun h₁ hns hk₁ => ?_) hco hgen hk
  exact h (hideAll s.heap (mu.map (·.1))) s.heap.objs.size h₁ (fun b o e n => hideAll_get _ e n) (fun b o e => of_hideAll _ e) (fun b hb => hideAll_none _ hb) rfl
    ⟨hns, fun b o e => hk₁ b o (of_hideAll _ e), Nat.le_of_eq (hideAll_size _ _)⟩
    (fun p hp => ⟨hk₁ _ _ (N p hp).1, Nat.ne_of_lt (Heap.lt_size (N p hp).1), hideAll_none _ (List.mem_map_of_mem hp)⟩) BG (X.keeps fun b o e => st b o e) (T.keeps fun b o e => st b o e) (fun p hp => Heap.lt_size (N p hp).1)

/-- the call of a def of the written part -/
theorem enterK {oc : Value} {od : Option Addr} {osl : Array (Option Value)} (mu : List (Addr × Obj)) (B : Below A₀ base outer h₀) (F : Fr h₀ L s.heap m) (X : K.In h₀) (T : Top p loose mean mg mb h₀) (N : News h₀ L s.heap mu)
    (hA : A.frames = some (env :: outer)) (hf : env.frame = some L) (hke : env.scope.kind = .function)
    (ho : K.lookup f = some ⟨oc, od, .func (fnX name qual params body scope [] dV kV doc pm an cdv ct), osl⟩) (hcd : codeIn K cdv qual = true) (hroom : A.depth < recursionLimit)
    (hbind : BindsTo s (fnX name qual params body scope [] dV kV doc pm an cdv ct) args binds) (hloc : ∀ y ∈ binds, scope.names.lookup y.1 = some .local)
    (h : ∀ g L' h₁, (∀ b o, s.heap.get? b = some o → b ∉ mu.map (·.1) → g.get? b = some o) → (∀ b o, g.get? b = some o → s.heap.get? b = some o) → (∀ b ∈ mu.map (·.1), g.get? b = none) → L' = s.heap.objs.size →
      Fr g L' h₁ (fun y => binds.reverse.lookup y) → News g L' h₁ mu → Below A base (env :: outer) g → K.In g → Top p loose mean mg mb g → (∀ p ∈ mu, p.1 < L') →
      wpAny (model prog w) (A.deeper (envX qual scope L' f cdv [])) (execs body (envX qual scope L' f cdv []))
        (fun fl s' => R (.ok (.ret (match fl with | .ret v => v | _ => .none))) s')
        (fun e s' => wpAny (model prog w) (A.deeper (envX qual scope L' f cdv [])) (leaving (envX qual scope L' f cdv []) e) (fun _ s'' => R (.error e) s'') (fun e' s'' => R (.error e') s'') s')
        { s with heap := h₁, toks := s.toks + binds.length })
    (hcell : ∀ x ∈ scope.names, x.2 ≠ .cell) (hco : scope.isCoroutine = false) (hgen : scope.isGenerator = false) (hk : scope.kind = .function) : codeAny (model prog w) A (.call (.ref f) args) R s :=
  enterG mu B F X T N hA hf hke (F.keep _ _ (X _ _ ho)) rfl (codeRec_of (X.keeps F.keep) hcd) hroom hbind hloc h hcell hco hgen hk

/-- the call of a def of the written part whose locals are captured -/
theorem enterKC {oc : Value} {od : Option Addr} {osl : Array (Option Value)} (mu : List (Addr × Obj)) (B : Below A₀ base outer h₀) (F : Fr h₀ L s.heap m) (X : K.In h₀) (T : Top p loose mean mg mb h₀) (N : News h₀ L s.heap mu)
    (hA : A.frames = some (env :: outer)) (hf : env.frame = some L) (hke : env.scope.kind = .function)
    (ho : K.lookup f = some ⟨oc, od, .func (fnX name qual params body scope [] dV kV doc pm an cdv ct), osl⟩) (hcd : codeIn K cdv qual = true) (hroom : A.depth < recursionLimit)
    (hbind : BindsTo s (fnX name qual params body scope [] dV kV doc pm an cdv ct) args binds)
    (hkind : (binds.all fun y => scope.names.lookup y.1 == some .local || scope.names.lookup y.1 == some .cell) = true)
    (hnd : ((cellsFrom 0 scope.names []).map (·.1)).Nodup)
    (h : ∀ g L' h₁ tk cells, (∀ b o, s.heap.get? b = some o → b ∉ mu.map (·.1) → g.get? b = some o) → (∀ b o, g.get? b = some o → s.heap.get? b = some o) → (∀ b ∈ mu.map (·.1), g.get? b = none) → L' = s.heap.objs.size →
      Fr g L' h₁ (bindL (envOfC qual scope L' f cdv).kindOf binds fun _ => none) → News g L' h₁ (cells ++ mu) →
      CellsAre (bindC (envOfC qual scope L' f cdv).kindOf binds fun _ => none) (cellsFrom (L' + 1) scope.names []) cells → Below A base (env :: outer) g → K.In g → Top p loose mean mg mb g → (∀ p ∈ mu, p.1 < L') →
      wpAny (model prog w) (A.deeper (envOfC qual scope L' f cdv)) (execs body (envOfC qual scope L' f cdv))
        (fun fl s' => R (.ok (.ret (match fl with | .ret v => v | _ => .none))) s')
        (fun e s' => wpAny (model prog w) (A.deeper (envOfC qual scope L' f cdv)) (leaving (envOfC qual scope L' f cdv) e) (fun _ s'' => R (.error e) s'') (fun e' s'' => R (.error e') s'') s')
        { s with heap := h₁, toks := tk })
    (hco : scope.isCoroutine = false) (hgen : scope.isGenerator = false) (hk : scope.kind = .function) : codeAny (model prog w) A (.call (.ref f) args) R s := by
  obtain ⟨FG, BG, st, _⟩ := groundX (R := R) B F N hA hf hke
  refine codeAny_call_function hroom (F.keep _ _ (X _ _ ho)) rfl hco hgen rfl (codeRec_of (X.keeps F.keep) hcd) (hbind _ _ _ _ ?_)
  refine wpAny_newFunctionEnv_cells hk (kindsX hkind _) fun env' he s' x => ?_
  subst he
  refine ⟨(T.nolimit.keeps F.keep).keeps x.toInCall.keep, codeAny_func ?_⟩
  obtain ⟨h₁, tk, rfl, _⟩ := x.done
  have hk₁ := x.toInCall.keep
  obtain ⟨cells, NC, Y⟩ := Cl.news (h₀ := s.heap) (Nat.le_refl _) fun n c hm => ⟨x.cell n c (lookup_of_mem_nodup (cellsFrom_names scope.names 0 (s.heap.objs.size + 1) [] [] rfl ▸ hnd) hm), x.above n c hm⟩
  refine h (hideAll s.heap (mu.map (·.1))) s.heap.objs.size h₁ tk cells (fun b o e n => hideAll_get _ e n) (fun b o e => of_hideAll _ e) (fun b hb => hideAll_none _ hb) rfl
    ⟨x.toInCall.ns, fun b o e => hk₁ b o (of_hideAll _ e), Nat.le_of_eq (hideAll_size _ _)⟩ (fun p hp => ?_) Y BG (X.keeps fun b o e => st b o e) (T.keeps fun b o e => st b o e) (fun p hp => Heap.lt_size (N p hp).1)
  rcases List.mem_append.mp hp with hp | hp
  · refine ⟨(NC p hp).1, (NC p hp).2.1, ?_⟩
    cases q : (hideAll s.heap (mu.map (·.1))).get? p.1 with
    | none => rfl
    | some o => have := of_hideAll _ q; rw [(NC p hp).2.2] at this; cases this
  · exact ⟨hk₁ _ _ (N p hp).1, Nat.ne_of_lt (Heap.lt_size (N p hp).1), hideAll_none _ (List.mem_map_of_mem hp)⟩
end

/-- around a call, written -/
abbrev At (dp un : Nat) (gd : Option (List Code)) (env : Env) (outer : List Env) : Around := { handled := none, depth := dp, frames := some (env :: outer), guards := gd, units := un }

/-- what is known of the caller of a contract -/
structure Cx (K : Frag) (A₀ : Around) (base h₀ : Heap) (env : Env) (outer : List Env) (L : Addr) (m : Str → Option Value) (p : Program) (loose : List Str) (mean : ExcName → Option Value) (mg mb : Str → Option Value) (s : Shared) (news : List (Addr × Obj)) : Prop where
  B : Below A₀ base outer h₀
  F : Fr h₀ L s.heap m
  X : K.In h₀
  T : Top p loose mean mg mb h₀
  N : News h₀ L s.heap news
  hf : env.frame = some L
  hke : env.scope.kind = .function

/-- what a walked body leaves of the caller's heap -/
theorem keeps_back {mu : List (Addr × Obj)} {h g h' : Heap} {L' : Addr} {m' : Str → Option Value} (F' : Fr g L' h' m') (hg : ∀ b o, h.get? b = some o → b ∉ mu.map (·.1) → g.get? b = some o) (hL : L' = h.objs.size) : Keeps (mu.map (·.1)) h h' := by
  refine ⟨fun b o e n => F'.keep b o (hg b o e n), ?_⟩
  obtain ⟨oL, es, ep, e, _⟩ := F'.ns
  exact hL ▸ Nat.le_of_lt (Heap.lt_size e)
end
section -- K1
open PySem PySem.W PyProof.Rows PySem.Spec PySem.Calls
/-- a local's name or a written int or text: its value, the tokens behind it -/
noncomputable def simE (kind : Str → Option NameKind) (m : Str → Option Value) : PySem.Expr → Nat → Option (Value × Nat)
  | .Name x _, t => match kind x, m x with
    | some .local, some v => if (x == ("__debug__" : Str)) = true then none else some (v, t)
    | _, _ => none
  | .Constant (.int i) _ _, t => some (.int i t, t + 1)
  | .Constant (.str x) _ _, t => some (.str x t, t + 1)
  | .Constant .none _ _, t => some (.none, t)
  | _, _ => none
noncomputable def simA (kind : Str → Option NameKind) (m : Str → Option Value) : List PySem.Expr → Nat → Option (List Value × Nat)
  | [], t => some ([], t)
  | e :: r, t => match simE kind m e t with
    | some (v, t') => match simA kind m r t' with
      | some (vs, t2) => some (v :: vs, t2)
      | none => none
    | none => none
section
variable {M : Model} {A : Around} {E : Value → Shared → Prop} {K : Frag} {h₀ : Heap} {L a : Addr} {m mg mb : Str → Option Value} {cn : Str} {cs : Scope} {ccd : Value} {cl : List (Str × Addr)} {p : Program} {loose : List Str} {mean : ExcName → Option Value}
theorem eval_sim {s : Shared} {e : PySem.Expr} {v : Value} {t' : Nat} {Q : Value → Shared → Prop} (F : Fr h₀ L s.heap m) (hk : cs.kind = .function) (he : simE (envX cn cs L a ccd cl).kindOf m e s.toks = some (v, t')) (h : Q v { s with toks := t' }) : wpAny M A (eval e (envX cn cs L a ccd cl)) Q E s := by
  unfold simE at he
  split at he
  · rename_i x _
    split at he
    · rename_i v' h1 h2
      split at he
      · cases he
      · rename_i hd
        cases he
        exact nameX_L F h2 h hk h1 (by simpa using hd)
    · cases he
  · cases he; exact wpAny_Constant_int h
  · cases he; exact Constant_str h
  · cases he; exact wpAny_Constant_none h
  · cases he
theorem star_sim {e : PySem.Expr} {kind : Str → Option NameKind} {t : Nat} {r : Value × Nat} {env : Env} {rest : List PySem.Expr} (he : simE kind m e t = some r) : starEach (e :: rest) env = (false, eval e env) :: starEach rest env := by
  unfold simE at he
  split at he <;> first | rfl | cases he
theorem plain_sim {kind : Str → Option NameKind} {pos : Pos} {env : Env} : ∀ {es : List PySem.Expr} {t : Nat} {r : List Value × Nat}, simA kind m es t = some r → (backTo pos (starEach es env)).any (·.1) = false
  | [], _, _, _ => rfl
  | e :: es, t, r, h => by
    unfold simA at h
    split at h
    · rename_i v t' h1
      split at h
      · rename_i vs t2 h2
        rw [star_sim h1]
        show (false || (backTo pos (starEach es env)).any (·.1)) = false
        rw [plain_sim h2]; rfl
      · cases h
    · cases h
theorem args_sim {pos : Pos} (hk : cs.kind = .function) : ∀ {es : List PySem.Expr} {s : Shared} {vs : List Value} {t' : Nat} {Q : List Value → Shared → Prop}, Fr h₀ L s.heap m → simA (envX cn cs L a ccd cl).kindOf m es s.toks = some (vs, t') → Q vs { s with toks := t' } → wpAny M A (spliced (backTo pos (starEach es (envX cn cs L a ccd cl)))) Q E s
  | [], s, vs, t', Q, F, h, hQ => by cases h; exact args_nil hQ
  | e :: es, s, vs, t', Q, F, h, hQ => by
    unfold simA at h
    split at h
    · rename_i v t1 h1
      split at h
      · rename_i vs' t2 h2
        cases h
        exact args_cons (eval_sim F hk h1 (args_sim hk (s := { s with toks := t1 }) F h2 hQ)) (star_sim h1)
      · cases h
    · cases h
/-- a def of the written part called upon simple arguments -/
theorem call_sim {s : Shared} {x : Str} {px pos : Pos} {f : Value} {e : PySem.Expr} {rest : List PySem.Expr} {vs : List Value} {t' : Nat} {Q : Value → Shared → Prop} (F : Fr h₀ L s.heap m) (X : K.In h₀) (T : TopRead p loose mg mb h₀) (hx : nsIn K mainGlobals x = some (some f)) (hf : keepIn K f = true)
    (ha : simA (envX cn cs L a ccd cl).kindOf m (e :: rest) s.toks = some (vs, t')) (h : wpAny M A (call f vs) Q E { s with toks := t' })
    (hk : cs.kind = .function := by rfl) (hkx : (envX cn cs L a ccd cl).kindOf x = some .globalImplicit := by rfl) (hd : (x == ("__debug__" : Str)) = false := by decide) :
    wpAny M A (eval (.Call (.Name x px) (e :: rest) [] pos) (envX cn cs L a ccd cl)) Q E s := by
  refine Call_ (nameX_K F X T hx ?_ hk hkx hd)
  have h1 := ha
  unfold simA at h1
  split at h1
  · rename_i v t1 h2
    split at h1
    · rename_i vs' t2 h3
      exact callWith_K X hf (args_sim hk F ha ⟨X.keeps F.keep, h⟩) (star_sim h2) (plain_sim h3)
    · cases h1
  · cases h1
/-- a name or a written int, text or None: told by the letters alone -/
noncomputable def plainE : PySem.Expr → Bool
  | .Name _ _ => true
  | .Constant (.int _) _ _ => true
  | .Constant (.str _) _ _ => true
  | .Constant .none _ _ => true
  | _ => false
theorem args_simG {pos : Pos} {es : List PySem.Expr} {hp : Heap} {gn : Array GenState} {dr : Drawn} {tk : Nat} {os : OsState} {vs : List Value} {t' : Nat} {Q : List Value → Shared → Prop} (_ : es.all plainE = true) (hk : cs.kind = .function) (F : Fr h₀ L hp m) (ha : simA (envX cn cs L a ccd cl).kindOf m es tk = some (vs, t')) (h : Q vs ⟨hp, gn, dr, t', os⟩) :
    wpAny M A (spliced (backTo pos (starEach es (envX cn cs L a ccd cl)))) Q E ⟨hp, gn, dr, tk, os⟩ := args_sim (s := ⟨hp, gn, dr, tk, os⟩) hk F ha h
theorem call_simG {x : Str} {px pos : Pos} {f : Value} {e : PySem.Expr} {rest : List PySem.Expr} {hp : Heap} {gn : Array GenState} {dr : Drawn} {tk : Nat} {os : OsState} {vs : List Value} {t' : Nat} {Q : Value → Shared → Prop} (_ : (e :: rest).all plainE = true) (F : Fr h₀ L hp m) (X : K.In h₀) (T : TopRead p loose mg mb h₀) (hx : nsIn K mainGlobals x = some (some f)) (hf : keepIn K f = true)
    (ha : simA (envX cn cs L a ccd cl).kindOf m (e :: rest) tk = some (vs, t')) (h : wpAny M A (call f vs) Q E ⟨hp, gn, dr, t', os⟩)
    (hk : cs.kind = .function := by rfl) (hkx : (envX cn cs L a ccd cl).kindOf x = some .globalImplicit := by rfl) (hd : (x == ("__debug__" : Str)) = false := by decide) :
    wpAny M A (eval (.Call (.Name x px) (e :: rest) [] pos) (envX cn cs L a ccd cl)) Q E ⟨hp, gn, dr, tk, os⟩ := call_sim (s := ⟨hp, gn, dr, tk, os⟩) F X T hx hf ha h hk hkx hd
end
/-- a walk whose ends are no more than two letters -/
theorem opq {M : Model} {A : Around} {X : Sem Flow} {Q : Flow → Shared → Prop} {E : Value → Shared → Prop} {s : Shared} {env : Env} (hp : PassesOwn M A env E) (h : ∀ (Q9 : Flow → Shared → Prop) (E9 : Value → Shared → Prop), PassesOwn M A env E9 → (∀ v s', Q (.ret v) s' → Q9 (.ret v) s') → (∀ e s', E e s' → E9 e s') → wpAny M A X Q9 E9 s) : wpAny M A X Q E s :=
  wpAny_mono (h (fun f s' => match f with | .ret v => Q (.ret v) s' | f => Q f s') E hp (fun _ _ q => q) (fun _ _ q => q)) (fun f s' q => by cases f <;> exact q) (fun _ _ q => q)
end
section -- K5
open PySem PySem.W PyProof.Rows PySem.Spec PySem.Calls
section
variable {p : Program} {w : World} {A : Around} {E : Value → Shared → Prop} {s : Shared}
/-- the calls that have a contract of their own: the walk stops there -/
theorem halt_call {Q : Value → Shared → Prop} {a : Nat} {args : List Value} (hh : [327, 334, 379, 398, 404, 411, 418, 423, 435, 440, 445, 450, 457, 464].contains a = true)
    (h : Halt (wpAny (model p w) A (call (Value.ref a) args) Q E s)) : wpAny (model p w) A (call (Value.ref a) args) Q E s := h
theorem halt_int {Q : Value → Shared → Prop} {a : Addr} {i : Int} {t : Tok}
    (h : Halt (wpAny (model p w) A (call (Value.ref a) [Value.int i t]) Q E s)) : wpAny (model p w) A (call (Value.ref a) [Value.int i t]) Q E s := h
theorem halt_for (K : Prop) (k : K) {Q : Flow → Shared → Prop} {env : Env} {a b : PySem.Expr} {c d : List PySem.Stmt} {q : Pos} {r : List PySem.Stmt}
    (h : Halt (wpAny (model p w) A (execs (PySem.Stmt.For a b c d q :: r) env) Q E s)) : wpAny (model p w) A (execs (PySem.Stmt.For a b c d q :: r) env) Q E s := h
theorem halt_if (K : Prop) (k : K) {Q : Flow → Shared → Prop} {env : Env} {a : PySem.Expr} {c d : List PySem.Stmt} {q : Pos} {r : List PySem.Stmt}
    (h : Halt (wpAny (model p w) A (execs (PySem.Stmt.If a c d q :: r) env) Q E s)) : wpAny (model p w) A (execs (PySem.Stmt.If a c d q :: r) env) Q E s := h
theorem halt_two (K : Prop) (k : K) {Q : Flow → Shared → Prop} {env : Env} {n f m1 m2 q q1 q2 x1 x2 x3 x4} {r : List PySem.Stmt}
    (h : Halt (wpAny (model p w) A (execs (PySem.Stmt.Assign [PySem.Expr.Name n x1] (PySem.Expr.Call (PySem.Expr.Name f x2) [PySem.Expr.Name m1 x3, PySem.Expr.Name m2 x4] q1 q2) q :: r) env) Q E s)) : wpAny (model p w) A (execs (PySem.Stmt.Assign [PySem.Expr.Name n x1] (PySem.Expr.Call (PySem.Expr.Name f x2) [PySem.Expr.Name m1 x3, PySem.Expr.Name m2 x4] q1 q2) q :: r) env) Q E s := h
theorem halt_nul (K : Prop) (k : K) {Q : Flow → Shared → Prop} {env : Env} {n f q q1 q2 x1 x2} {r : List PySem.Stmt}
    (h : Halt (wpAny (model p w) A (execs (PySem.Stmt.Assign [PySem.Expr.Name n x1] (PySem.Expr.Call (PySem.Expr.Name f x2) [] q1 q2) q :: r) env) Q E s)) : wpAny (model p w) A (execs (PySem.Stmt.Assign [PySem.Expr.Name n x1] (PySem.Expr.Call (PySem.Expr.Name f x2) [] q1 q2) q :: r) env) Q E s := h
theorem halt_two1 (K : Prop) (k : K) {Q : Flow → Shared → Prop} {env : Env} {n f m1 m2 q q1 q2 x1 x2 x3 x4}
    (h : Halt (wpAny (model p w) A (exec (PySem.Stmt.Assign [PySem.Expr.Name n x1] (PySem.Expr.Call (PySem.Expr.Name f x2) [PySem.Expr.Name m1 x3, PySem.Expr.Name m2 x4] q1 q2) q) env) Q E s)) : wpAny (model p w) A (exec (PySem.Stmt.Assign [PySem.Expr.Name n x1] (PySem.Expr.Call (PySem.Expr.Name f x2) [PySem.Expr.Name m1 x3, PySem.Expr.Name m2 x4] q1 q2) q) env) Q E s := h
theorem halt_nul1 (K : Prop) (k : K) {Q : Flow → Shared → Prop} {env : Env} {n f q q1 q2 x1 x2}
    (h : Halt (wpAny (model p w) A (exec (PySem.Stmt.Assign [PySem.Expr.Name n x1] (PySem.Expr.Call (PySem.Expr.Name f x2) [] q1 q2) q) env) Q E s)) : wpAny (model p w) A (exec (PySem.Stmt.Assign [PySem.Expr.Name n x1] (PySem.Expr.Call (PySem.Expr.Name f x2) [] q1 q2) q) env) Q E s := h
theorem halt_tup (K : Prop) (k : K) {Q : Flow → Shared → Prop} {env : Env} {n x1 y q q1 q2}
    (h : Halt (wpAny (model p w) A (exec (PySem.Stmt.Return (some (PySem.Expr.Tuple [PySem.Expr.Name n x1, y] q1 q2)) q) env) Q E s)) : wpAny (model p w) A (exec (PySem.Stmt.Return (some (PySem.Expr.Tuple [PySem.Expr.Name n x1, y] q1 q2)) q) env) Q E s := h
theorem halt_odd (K : Prop) (k : K) {Q : Flow → Shared → Prop} {env : Env} {n x1 c1 c2 c3 c4 q}
    (h : Halt (wpAny (model p w) A (exec (PySem.Stmt.Assign [PySem.Expr.Name n x1] (PySem.Expr.Call c1 c2 c3 c4) q) env) Q E s)) : wpAny (model p w) A (exec (PySem.Stmt.Assign [PySem.Expr.Name n x1] (PySem.Expr.Call c1 c2 c3 c4) q) env) Q E s := h
theorem halt_cnt (K : Prop) (k : K) {Q : Flow → Shared → Prop} {env : Env} {n x1 c1 c2 c3 c4 q}
    (h : Halt (wpAny (model p w) A (exec (PySem.Stmt.Assign [PySem.Expr.Name n x1] (PySem.Expr.IfExp c1 c2 c3 c4) q) env) Q E s)) : wpAny (model p w) A (exec (PySem.Stmt.Assign [PySem.Expr.Name n x1] (PySem.Expr.IfExp c1 c2 c3 c4) q) env) Q E s := h
end
end
section -- K4
open PySem PySem.W PyProof.Rows PySem.Spec PySem.Calls
section
variable {prog : Program} {w : World} {A : Around} {E : Value → Shared → Prop} {K : Frag} {h₀ : Heap} {L a : Addr} {m mg mb : Str → Option Value} {cn : Str} {cs : Scope} {ccd : Value} {cl : List (Str × Addr)} {p : Program} {loose : List Str}
/-- isinstance of a local and a class of the text -/
theorem isinst_sim {x cnm : Str} {p1 p2 p3 pos : Pos} {v C : Value} {hp : Heap} {gn : Array GenState} {dr : Drawn} {tk : Nat} {os : OsState} {Q : Value → Shared → Prop}
    (F : Fr h₀ L hp m) (X : K.In h₀) (T : TopRead p loose mg mb h₀) (e1 : nsIn K mainGlobals (Str.ofString "isinstance") = some none) (hx : m x = some v) (e2 : nsIn K mainGlobals cnm = some (some C))
    (h : wpAny (model prog w) A (call (.builtin "isinstance") [v, C]) Q E ⟨hp, gn, dr, tk, os⟩)
    (hk : cs.kind = .function := by rfl) (hk1 : (envX cn cs L a ccd cl).kindOf (Str.ofString "isinstance") = some .globalImplicit := by rfl) (hkx : (envX cn cs L a ccd cl).kindOf x = some .local := by rfl) (hkc : (envX cn cs L a ccd cl).kindOf cnm = some .globalImplicit := by rfl)
    (hd : (x == ("__debug__" : Str)) = false := by decide) (hdc : (cnm == ("__debug__" : Str)) = false := by decide) :
    wpAny (model prog w) A (eval (.Call (.Name (Str.ofString "isinstance") p1) [.Name x p2, .Name cnm p3] [] pos) (envX cn cs L a ccd cl)) Q E ⟨hp, gn, dr, tk, os⟩ :=
  Call_ (nameX_B F X T e1 PyProof.Rows.boot_isinstance (by decide) (PyProof.Rows.callWith_builtin1 (args_cons (nameX_L F hx (args_cons (nameX_K F X T e2 (args_nil h) hk hkc hdc) rfl) hk hkx hd) rfl) rfl rfl) hk hk1 (by decide))
end
end
section -- R1
open PySem PySem.W PyProof.Rows PySem.Spec PySem.Calls
section
variable {prog : Program} {w : World} {A : Around} {E : Value → Shared → Prop} {R : Result → Shared → Prop} {h : Heap} {g : Array GenState} {d : Drawn} {t : Nat} {os : OsState}
variable {nm q nm2 q2 : Str} {C N C2 N2 : Addr} {bs bs2 bm bmB : List Value} {hdct hdct2 : Bool} {sn sn2 : List Str} {sub sub2 : List Value} {ab ab2 : Bool} {col col2 : Option Bool} {dd dd2 : Option Addr} {k0 k1 k2 k3 k5 j0 j1 j2 j3 j5 : Option Value} {B newId newId2 initId : String}

theorem own_check_new (F : ExcBaseFacts B newId initId bmB) (hb : bm.contains (.type B) = true) {rest : List Value} {Q : Unit → Shared → Prop} {M : Model} (hC : h.get? C = some (excClassObj nm q C N bs bm hdct sn sub ab col dd k0 k1 k2 k3 k5 newId))
    (hq : Q () ⟨h, g, d, t, os⟩) : wpAny M A (checkBuiltinCall newId ⟨.ref C :: rest, []⟩) Q E ⟨h, g, d, t, os⟩ := by
  have hcont : (Value.ref C :: bm).contains (.type B) = true := by rw [List.contains_cons, hb, Bool.or_true]
  have hstar := F.noStar
  simp only [checkBuiltinCall, F.newKind, F.newSplit, F.newRow]
  repeat (first | refine wpAny_loadPart_at hC ?_ | (refine wpAny_isSubtype_exc hC ?_; rw [hcont]) | refine wpAny_staticBase_exc hC ?_ | refine wpAny_madeBy_exc hC ?_ | simp only [bne_self_eq_false, Bool.false_eq_true, if_false] | wp_step)
  exact hq

theorem own_new (F : ExcBaseFacts B newId initId bmB) (hb : bm.contains (.type B) = true) (hA : bm.contains (.type "AttributeError") = false) (hN : bm.contains (.type "NameError") = false) {rest : List Value} (hC : h.get? C = some (excClassObj nm q C N bs bm hdct sn sub ab col dd k0 k1 k2 k3 k5 newId))
    (hq : R (.ok (.ret (.ref (h.objs.size + 1)))) ⟨(h.push { cls := .type "tuple", data := .seq rest.toArray }).push
      { cls := .ref C, data := .fields #[.ref h.objs.size, .none, .none, .none, .bool false, .none] }, g, d, t, os⟩) (hrest : rest.length ≤ sizeLine) :
    codeAny (model prog w) A (.builtin newId ⟨.ref C :: rest, []⟩) R ⟨h, g, d, t, os⟩ := by
  have hends := F.ends
  have hcB : (Value.ref C :: bm).contains (.type B) = true := by rw [List.contains_cons, hb, Bool.or_true]
  have hcA : (Value.ref C :: bm).contains (.type "AttributeError") = false := by rw [List.contains_cons, hA]; rfl
  have hcN : (Value.ref C :: bm).contains (.type "NameError") = false := by rw [List.contains_cons, hN]; rfl
  refine codeAny_builtinAt F.entry ?_
  unfold Builtin.«BaseException.__new__»
  refine PySem.wpAt_bind ?_
  show PySem.wpAt _ _ _ (stack >>= _) _ _ _
  refine PySem.wpAt_bind (PySem.wpAt_stack fun p below => PySem.wpAt_of_wpAny ?_)
  wp_walk
  refine PySem.wpAt_of_wpAny ?_
  rw [F.owner]
  repeat (first | with_reducible refine wpAny_madeHere_exc F.canon hC ?_ | with_reducible refine wpAny_loadPart_at hC ?_ | (with_reducible refine wpAny_isSubtype_exc hC ?_; first | rw [hcB] | rw [hcA] | rw [hcN]) | wp_step)
  show R _ _
  rw [Heap.size_push]
  exact hq

/-- a class over an own class over a built-in exception: the own __init__ of the class between -/
theorem call_own_init (F : ExcBaseFacts B newId initId bmB) (hbC : bm = .ref C2 :: bm.tail) (hb : bm.contains (.type B) = true) (hAt : bm.contains (.type "AttributeError") = false) (hNm : bm.contains (.type "NameError") = false) {mN mN2 : Str → Option Value} {rest : List Value} {f : Addr} {of_ : Obj} {Q : Value → Shared → Prop}
    (hC : h.get? C = some (excClassObj nm q C N bs bm hdct sn sub ab col dd k0 k1 k2 k3 k5 newId)) (hn : h.Ns N mN) (hni : mN "__init__" = none)
    (hC2 : h.get? C2 = some (excClassObj nm2 q2 C2 N2 bs2 bm.tail hdct2 sn2 sub2 ab2 col2 dd2 j0 j1 j2 j3 j5 newId2)) (hn2 : h.Ns N2 mN2) (hni2 : mN2 "__init__" = some (.ref f))
    (hf : h.get? f = some of_) (hfc : of_.cls = .type "function") (hrest : rest.length ≤ sizeLine)
    (hq : ∀ h' e tp, e = h.objs.size + 1 → tp = h.objs.size → (∀ b o, h.get? b = some o → h'.get? b = some o) → h.get? e = none → h.get? tp = none → h'.get? e = some { cls := .ref C, data := .fields #[.ref tp, .none, .none, .none, .bool false, .none] } → h'.get? tp = some { cls := .type "tuple", data := .seq rest.toArray } →
      codeAny (model prog w) (A.under (Code.builtin "type.__call__" ⟨.ref C :: rest, []⟩)) (.call (.ref f) ⟨.ref e :: rest, []⟩) (fun r s' => match r with | .ok (.ret v) => v = .none ∧ Q (.ref e) s' | .ok _ => False | .error e' => E e' s') ⟨h', g, d, t, os⟩) :
    wpAny (model prog w) A (call (.ref C) rest) Q E ⟨h, g, d, t, os⟩ := by
  have f1 := tc_lookup
  have f2 := tc_bind (.ref C)
  have hT : (⟨h, g, d, t, os⟩ : Shared).TypeIs (.ref C) "type" := ⟨_, hC, rfl⟩
  refine wpAny_call (codeAny_of_tree ?_)
  show wpAny _ _ (callAny (.ref C) _) _ _ _
  repeat (any_goals (first | assumption | with_reducible refine wpAny_loadPart_at hC ?_ | wp_step))
  refine ⟨rfl, ?_⟩
  refine codeAny_call_builtin_at (Code.quiet_builtin _ (by decide +kernel)) entry_typeCall (wpAny_check_type_call_sub hC ?_)
  repeat (first | with_reducible refine wpAny_loadPart_at hC ?_ | with_reducible refine wpAny_madeBy_exc hC ?_ | wp_step)
  refine codeAny_call_builtin_code (Code.quiet_builtin _ F.quiet) (own_check_new F hb hC ?_)
  refine own_new F hb hAt hNm hC ?_ hrest
  show wpAny _ _ _ _ _ _
  have kp : ∀ b o, h.get? b = some o → ((h.push { cls := .type "tuple", data := .seq rest.toArray }).push { cls := .ref C, data := .fields #[.ref h.objs.size, .none, .none, .none, .bool false, .none] }).get? b = some o :=
    fun b o e => Heap.get?_push_of_some _ (Heap.get?_push_of_some _ e)
  have hC₁ := kp _ _ hC
  have hn₁ := hn.keeps kp
  have hn₂ := hn2.keeps kp
  have hC₂ := kp _ _ hC2
  have hf₂ := kp _ _ hf
  have hget : ((h.push { cls := .type "tuple", data := .seq rest.toArray }).push
      { cls := .ref C, data := .fields #[.ref h.objs.size, .none, .none, .none, .bool false, .none] }).get? (h.objs.size + 1) = some
      { cls := .ref C, data := .fields #[.ref h.objs.size, .none, .none, .none, .bool false, .none] } := by heap_get
  have hcC : (Value.ref C :: bm).contains (.ref C) = true := by simp
  unfold isInstance
  repeat (first | refine wpAny_loadPart_at hget ?_ | (refine wpAny_isSubtype_exc hC₁ ?_; rw [hcC]) | wp_step)
  show wpAny _ _ (typeLookup (.ref C) _) _ _ _
  rw [typeLookup_eq]
  refine wpAny_bind (wpAny_mroOf_exc hC₁ ?_)
  rw [lookupAlong_cons]
  refine wpAny_bind (wpAny_classOwn_exc hC₁ hn₁ ?_)
  rw [hni, hbC]
  dsimp only
  rw [lookupAlong_cons]
  refine wpAny_bind (wpAny_classOwn_exc hC₂ hn₂ ?_)
  rw [hni2]
  dsimp only
  refine wpAny_pure ?_
  show wpAny _ _ (holding _ _) _ _ _
  refine wpAny_holding (wpAny_bind ?_)
  unfold bindSpecial
  repeat (first | (refine wpAny_loadPart_at hf₂ ?_; rw [hfc]) | wp_step)
  refine codeAny_mono (hq _ _ _ rfl rfl kp (Heap.get?_none_of_le (Nat.le_succ _)) (Heap.get?_none_of_le (Nat.le_refl _)) hget (Heap.get?_push_of_some _ (Heap.get?_push_size h rfl))) fun r s' hr => ?_
  match r, hr with
  | .ok (.ret v), hr =>
    obtain ⟨rfl, hr⟩ := hr
    refine wpAny_pure ?_
    show wpAny _ _ (ret _) _ _ _
    exact wpAny_pure hr
  | .error e', hr => exact hr
end
end
section -- R2
open PySem PySem.W PyProof.Rows PySem.Spec PySem.Calls
open Builtin Builtin.ObjectAttr
section
variable {prog : Program} {w : World} {A : Around} {E : Value → Shared → Prop} {h : Heap} {g : Array GenState} {d : Drawn} {t : Nat} {os : OsState}
variable {nm q nm2 q2 : Str} {C N C2 N2 x : Addr} {bs bs2 bm bmB : List Value} {hdct2 : Bool} {sn sn2 : List Str} {sub sub2 : List Value} {ab ab2 : Bool} {col col2 : Option Bool} {dd dd2 : Option Addr} {k0 k1 k2 k3 k5 j0 j1 j2 j3 j5 : Option Value} {B newId newId2 initId sa owner : String}
  {mN mN2 mA : Str → Option Value} {name : Str} {v : Value}

/-- a look along a class over an own class over a built-in one -/
theorem look2 {M : Model} {y : Option Value} {Q : Option Value → Shared → Prop} (hC : h.get? C = some (excClassObj nm q C N bs (.ref C2 :: bmB) true sn sub ab col dd k0 k1 k2 k3 k5 newId)) (hn : h.Ns N mN) (hna : mN name = none)
    (hC2 : h.get? C2 = some (excClassObj nm2 q2 C2 N2 bs2 bmB hdct2 sn2 sub2 ab2 col2 dd2 j0 j1 j2 j3 j5 newId2)) (hn2 : h.Ns N2 mN2) (hna2 : mN2 name = none) (hbm : mroOf (.type B) = pure bmB) (hB : typeLookup (.type B) name = pure y)
    (hq : Q y ⟨h, g, d, t, os⟩) : wpAny M A (typeLookup (.ref C) name) Q E ⟨h, g, d, t, os⟩ := by
  have hrest : lookupAlong bmB name = pure y := by rw [typeLookup_eq, hbm] at hB; exact hB
  rw [typeLookup_eq]
  refine wpAny_bind (wpAny_mroOf_exc hC ?_)
  rw [lookupAlong_cons]
  refine wpAny_bind (wpAny_classOwn_exc hC hn ?_)
  rw [hna]
  dsimp only
  rw [lookupAlong_cons]
  refine wpAny_bind (wpAny_classOwn_exc hC2 hn2 ?_)
  rw [hna2]
  dsimp only
  rw [hrest]
  exact wpAny_pure hq

theorem own_check_sa {M : Model} {o : Obj} {nameV : Value} {Q : Unit → Shared → Prop} (SF : StoreFacts B bmB sa owner)
    (hC : h.get? C = some (excClassObj nm q C N bs (.ref C2 :: bmB) true sn sub ab col dd k0 k1 k2 k3 k5 newId)) (hx : h.get? x = some o) (hc : o.cls = .ref C) (hq : Q () ⟨h, g, d, t, os⟩) :
    wpAny M A (checkBuiltinCall sa ⟨[.ref x, nameV, v], []⟩) Q E ⟨h, g, d, t, os⟩ := by
  have hcB : (Value.ref C :: .ref C2 :: bmB).contains (.type owner) = true := by rw [List.contains_cons, List.contains_cons, SF.hasOwner, Bool.or_true, Bool.or_true]
  have ha := SF.args (.ref x) nameV v
  simp only [checkBuiltinCall, SF.kind, SF.split]
  refine wpAny_bind ?_
  · unfold isInstance
    repeat (first | (with_reducible refine wpAny_loadPart_at hx ?_; rw [hc]) | (with_reducible refine wpAny_isSubtype_exc hC ?_; rw [hcB]) | wp_step)
    cases hsig : Manifest.signature? sa with
    | none => exact wpAny_pure hq
    | some sig =>
      simp only [argsOk, hsig] at ha
      have h2 : Bind.checkArgs sa sig ⟨[.ref x, nameV, v], []⟩ = pure () := ha
      show wpAny M A (Bind.checkArgs sa sig ⟨[.ref x, nameV, v], []⟩) Q E _
      rw [h2]; exact wpAny_pure hq

/-- what a store of a field leaves of an object of an own class -/
theorem own_store {Q : Unit → Shared → Prop} {ns : List Str} (SF : StoreFacts B bmB sa owner)
    (hC : h.get? C = some (excClassObj nm q C N bs (.ref C2 :: bmB) true sn sub ab col dd k0 k1 k2 k3 k5 newId)) (hn : h.Ns N mN) (hns : mN "__setattr__" = none) (hna : mN name = none)
    (hC2 : h.get? C2 = some (excClassObj nm2 q2 C2 N2 bs2 bmB hdct2 sn2 sub2 ab2 col2 dd2 j0 j1 j2 j3 j5 newId2)) (hn2 : h.Ns N2 mN2) (hns2 : mN2 "__setattr__" = none) (hna2 : mN2 name = none)
    (hB : typeLookup (.type B) name = pure none) (hxC : x ≠ C) (I : h.Inst x C mA)
    (hq : ∀ h' tk', h'.Inst x C (fun y => if y = name then some v else mA y) →
      (∀ b o, b ≠ x → (∀ o₀ dx, h.get? x = some o₀ → o₀.dict = some dx → b ≠ dx) → h.get? b = some o → h'.get? b = some o) →
      (∀ o₀, h.get? x = some o₀ → ∃ o₁, h'.get? x = some o₁ ∧ o₁.cls = o₀.cls ∧ o₁.data = o₀.data ∧ o₁.slots = o₀.slots ∧ ((∃ dx, o₀.dict = some dx ∧ o₁.dict = some dx) ∨ (o₀.dict = none ∧ o₁.dict = some h.objs.size))) → Q () ⟨h', g, d, tk', os⟩) (hw : Within mA ns := by within_ways) (hsz : ns.length ≤ sizeLine := by size_fits) :
    wpAny (model prog w) A (setAttr (.ref x) name v) Q E ⟨h, g, d, t, os⟩ := by
  obtain ⟨o, hx, hc, hnc, hd⟩ := I
  have f3 := SF.slot.bind (.ref x)
  have hpass := SF.passes (.ref x)
  unfold setAttr callSpecial? specialOf
  repeat (any_goals (first | assumption | (with_reducible refine wpAny_loadPart_at hx ?_; rw [hc]) | with_reducible refine look2 hC hn hns hC2 hn2 hns2 SF.mro SF.slot.lookup ?_ | wp_step))
  refine codeAny_call_builtin SF.slot.plain SF.entry (own_check_sa SF hC hx hc ?_)
  unfold Builtin.«object.__setattr__»
  repeat (first | rw [refuse_eq] | (rw [refuseLoop_ref, refuseLoop_ref, hpass]) | (with_reducible refine wpAny_loadPart_at hx ?_; rw [hc]) | with_reducible refine wpAny_mroOf_exc hC ?_ | with_reducible refine look2 hC hn hna hC2 hn2 hna2 SF.mro hB ?_ | wp_step)
  rcases hd with ⟨hdn, hmA⟩ | ⟨dx, hdx, hne, hns⟩
  · rw [hdn, if_neg (by simp [typeHasDict])]
    split
    · rename_i hcd
      cases hcd
    split
    · rename_i c hcd
      exact absurd hcd (hnc c)
    · have hx₁ : (h.push { cls := .type "dict", data := .dict #[] }).get? x = some o := Heap.get?_push_of_some _ hx
      have hxs : x ≠ h.objs.size := Nat.ne_of_lt (Heap.lt_size hx)
      refine wpAny_bind (wpAny_alloc' ?_)
      refine wpAny_bind (wpAny_update' hx₁ ?_)
      refine wpAny_pure ?_
      have hgd : ((h.push { cls := .type "dict", data := .dict #[] }).update x fun o => { cls := o.cls, dict := some h.objs.size, data := o.data, slots := o.slots }).get? h.objs.size
          = some { cls := .type "dict", data := .dict #[] } :=
        (Heap.get?_update_ne _ _ _ _ hxs.symm).trans (Heap.get?_push_at rfl rfl)
      have hnd : ((h.push { cls := .type "dict", data := .dict #[] }).update x fun o => { cls := o.cls, dict := some h.objs.size, data := o.data, slots := o.slots }).Ns h.objs.size (fun _ => none) :=
        ⟨_, #[], _, hgd, rfl, fun e he => absurd he (by simp), fun _ => rfl⟩
      show wpAny _ _ (storeInDict h.objs.size (.str name _) name v) _ _ _
      unfold storeInDict newKeyGuard
      refine wpAny_bind (wpAny_pure (wpAny_bind (wpAny_nsSet1 (Heap.Ns1.of_empty hnd) fun h' hn' hs => ?_)))
      obtain ⟨oD, esD, epD, hoD, hdD, hcD⟩ := hn'.count (Within.cons name v Within.nil)
      refine wpAny_bind (wpAny_lookBehind hoD (by rw [hdD]; exact pastItsLine_dict (Nat.le_trans hcD (by rw [List.length_cons, List.length_nil, sizeLine_eq]; omega))) ?_)
      wp_walk
      have hx' : h'.get? x = some { cls := o.cls, dict := some h.objs.size, data := o.data, slots := o.slots } := ?_
      refine hq h' _ ⟨{ cls := o.cls, dict := some h.objs.size, data := o.data, slots := o.slots }, hx', hc, hnc, .inr ⟨h.objs.size, rfl, hxs.symm, ?_⟩⟩ (fun b ob hbx _ hb => ?_)
        (fun o₀ h₀ => by obtain rfl : o = o₀ := Option.some.inj (hx.symm.trans h₀); exact ⟨_, hx', rfl, rfl, rfl, .inr ⟨hdn, rfl⟩⟩)
      · obtain ⟨o', es, ep, e1, e2, e3, eu, e4⟩ := hn'
        exact ⟨o', es, ep, e1, e2, e3, eu, fun y => by rw [e4 y]; by_cases hy : y = name <;> simp [hy, hmA]⟩
      · exact (hs.2 b (Nat.ne_of_lt (Heap.lt_size hb))).trans ((Heap.get?_update_ne _ _ _ _ hbx).trans (Heap.get?_push_of_some _ hb))
      · refine (hs.2 x hxs).trans (Heap.get?_update_self _ hx₁ ?_)
        have hfr := (Heap.get?_some_iff.mp hx).2
        obtain ⟨oc, od, odt, osl⟩ := o
        cases odt <;> first | rfl | exact hfr
  · rw [hdx]
    refine wpAny_pure ?_
    show wpAny _ _ (storeInDict dx (.str name _) name v) _ _ _
    unfold storeInDict newKeyGuard
    refine wpAny_bind (wpAny_pure (wpAny_bind (wpAny_nsSet1 hns fun h' hn' hs => ?_)))
    obtain ⟨oD, esD, epD, hoD, hdD, hcD⟩ := hn'.count (Within.cons name v hw)
    refine wpAny_bind (wpAny_lookBehind hoD (by rw [hdD]; exact pastItsLine_dict (Nat.le_trans hcD (by rw [List.length_cons]; omega))) ?_)
    wp_walk
    refine hq h' _ ⟨o, (hs.2 x hne.symm).trans hx, hc, hnc, .inr ⟨dx, hdx, hne, hn'⟩⟩ (fun b ob _ hbd hb => ?_)
      (fun o₀ h₀ => ⟨o₀, (hs.2 x hne.symm).trans h₀, rfl, rfl, rfl, .inl ⟨dx, by obtain rfl : o = o₀ := Option.some.inj (hx.symm.trans h₀); exact ⟨hdx, hdx⟩⟩⟩)
    exact (hs.2 b (hbd o dx hx hdx)).trans hb

theorem own_check_init (F : ExcBaseFacts B newId initId bmB) (hb : bm.contains (.type B) = true) {M : Model} {e : Addr} {oe : Obj} {rest : List Value} {Q : Unit → Shared → Prop} {hdct : Bool}
    (hC : h.get? C = some (excClassObj nm q C N bs bm hdct sn sub ab col dd k0 k1 k2 k3 k5 newId)) (he : h.get? e = some oe) (hcls : oe.cls = .ref C) (hq : Q () ⟨h, g, d, t, os⟩) :
    wpAny M A (checkBuiltinCall initId ⟨.ref e :: rest, []⟩) Q E ⟨h, g, d, t, os⟩ := by
  have hcB : (Value.ref C :: bm).contains (.type B) = true := by rw [List.contains_cons, hb, Bool.or_true]
  have hshort := F.noStar
  simp only [checkBuiltinCall, F.initKind, F.initSplit, F.initRow]
  repeat (first | (with_reducible refine wpAny_loadPart_at he ?_; rw [hcls]) | with_reducible refine wpAny_loadPart_at hC ?_ | (with_reducible refine wpAny_isSubtype_exc hC ?_; rw [hcB]) | wp_step)
  refine wpAny_onRaise ?_
  rw [show ∀ (a b : String) (n : Nat), Bind.check ⟨.positional, "*", B, .self, [⟨"args", .varPos, false⟩]⟩ a b n (List.map (fun x => x.fst) ({ pos := Value.ref e :: rest } : Args).kw) = pure () from
    fun a b n => check_star_args _ _ _ _ _ _]
  exact wpAny_pure hq

/-- the base's __init__, called by name on an object of an own class -/
theorem own_init (F : ExcBaseFacts B newId initId bmB) (hb : bm.contains (.type B) = true) {e t₀ : Addr} {rest : List Value} {Q : Value → Shared → Prop} {hdct : Bool}
    (hC : h.get? C = some (excClassObj nm q C N bs bm hdct sn sub ab col dd k0 k1 k2 k3 k5 newId)) (he : h.get? e = some { cls := .ref C, data := .fields #[.ref t₀, .none, .none, .none, .bool false, .none] }) (hrest : rest.length ≤ sizeLine)
    (hq : ∀ h', (∀ b o, b ≠ e → h.get? b = some o → h'.get? b = some o) → h'.get? e = some { cls := .ref C, data := .fields #[.ref h.objs.size, .none, .none, .none, .bool false, .none] } → Q .none ⟨h', g, d, t, os⟩) :
    wpAny (model prog w) A (call (.builtin initId) (.ref e :: rest)) Q E ⟨h, g, d, t, os⟩ := by
  refine wpAny_call (codeAny_call_builtin F.init.plain F.initEntry (own_check_init F hb hC he rfl ?_))
  wp_walk
  refine hq _ (fun b o hbe hb => ?_) ?_
  · rw [Heap.get?_update_other _ _ (Ne.symm hbe)]
    exact Heap.get?_push_of_some _ hb
  · rw [Heap.get?_update_self _ (Heap.get?_push_of_some _ he) rfl]
    rfl
end
end
section -- P1
open PySem PySem.W PyProof.Rows PySem.Spec PySem.Calls
theorem keys_list : typeLookup (.type "list") "keys" = pure none := by rw [typeLookup_type, builtinLookup_eq_fast]; kernel_rfl
section
variable {prog : Program} {w : World} {A : Around} {E : Value → Shared → Prop} {s : Shared}
theorem keys_miss {a : Addr} {xs : Array Value} {k : Nat} {Q : Option Value → Shared → Prop}
    (hx : s.heap.get? a = some { cls := .type "list", data := .seq xs k }) (hA : A.handled = none)
    (h : ∀ h' tk, (∀ b o, s.heap.get? b = some o → h'.get? b = some o) → Q none { s with heap := h', toks := tk }) :
    wpAny (model prog w) A (getAttr? (.ref a) "keys") Q E s := by
  obtain ⟨hp, g, d, tk, os⟩ := s
  have hT : ∀ tk', (⟨hp, g, d, tk', os⟩ : Shared).TypeIs (.ref a) "list" := fun _ => ⟨_, hx, rfl⟩
  have f1 := sub_AttributeError
  have f3 := F.slot_list_getattribute.lookup
  have f4 := F.slot_list_getattribute.bind (.ref a)
  have f5 := am_list_getattr_none
  unfold getAttr? getAttrBy? getAttrBy
  repeat (any_goals (first | assumption | exact hT _ | ((with_reducible show wpAny _ _ (call (Value.builtin "list.__getattribute__") _ _) _ _ _); refine call_meets F.slot_list_getattribute (hT _) am_entry_list_getattribute (F.args_list_getattribute_2 _ _) (meets_getattribute_miss_list a xs k #[] "keys" _ keys_list (by decide)) ⟨hx, hA, fun h' tk' e hx' => ?_⟩) | wp_step))
  obtain ⟨t', u', he⟩ := hx'.there
  show wpAny _ _ (getattributeRaised _ _ _ _ _ _ _) _ _ _
  unfold getattributeRaised
  repeat (any_goals (first | assumption | wp_step))
  exact h _ _ hx'.of.keeps

variable {K : Type} [_iK : DecidableEq K] {knd : KeyKind prog w K}
/-- the pairs, told one after the other -/
noncomputable def storedAll (kvs : List (K × Value)) : List (Addr × K × Value) → List (K × Value)
  | [] => kvs
  | p :: ps => storedAll (stored kvs p.2.1 p.2.2) ps
def PairAt (knd : KeyKind prog w K) (h : Heap) (p : Addr × K × Value) : Prop := ∃ key, knd.is p.2.1 key = true ∧ h.get? p.1 = some { cls := .type "tuple", data := .seq [key, p.2.2].toArray }
theorem PairAt.keeps {h h' : Heap} {p : Addr × K × Value} (a : PairAt knd h p) (k : ∀ o, h.get? p.1 = some o → h'.get? p.1 = some o) : PairAt knd h' p := let ⟨key, e, ho⟩ := a; ⟨key, e, k _ ho⟩

theorem entry_updl : entryFor table "dict.update.loop" = some Builtin.«dict.update.loop» := entryFor_of_tree (by kernel_rfl)
theorem upd_loop {l it d : Addr} {items : Array Value} {R : Result → Shared → Prop} (hhA : ∀ c, (A.under c).handled = none) (hli : l ≠ it) (hld : l ≠ d) (hid : it ≠ d) :
    ∀ (ps : List (Addr × K × Value)) (i : Nat) (s : Shared) (kvs : List (K × Value)), items.toList.drop i = ps.map (fun p => Value.ref p.1) → i + ps.length = items.size → kvs.length + ps.length ≤ 100 → s.heap.IsListIter it l i → s.heap.IsList l items → s.heap.DictOf knd d kvs →
      (∀ p ∈ ps, PairAt knd s.heap p ∧ p.1 ≠ it ∧ p.1 ≠ d) →
      (∀ h' tk, (∀ b o, b ≠ it → b ≠ d → s.heap.get? b = some o → h'.get? b = some o) → h'.DictOf knd d (storedAll kvs ps) → R (.ok (.ret .none)) { s with heap := h', toks := tk }) →
      codeAny (model prog w) A (.builtin "dict.update.loop" ⟨[.ref d, .ref it, rawInt i, .none], []⟩) R s := by
  intro ps
  induction ps with
  | nil =>
    intro i s kvs hdrop hsz hle hit hl hd hps fin
    have W := Walks.list (prog := prog) (w := w) (hhA (.builtin "dict.update.loop" ⟨[.ref d, .ref it, rawInt i, .none], []⟩)) it l hli items
    have hi : i = items.size := by simpa using hsz
    subst hi
    refine codeAny_builtin entry_updl ?_
    unfold Builtin.«dict.update.loop»
    refine wpAny_bind (W.done _ _ _ ⟨hit, hl⟩ fun h₂ tk₂ hk₂ => ?_)
    show wpAny _ _ (Builtin.Dict.addKeywords d [] >>= _) _ _ _
    refine wpAny_bind (wpAny_pure (wpAny_pure ?_))
    exact fin h₂ tk₂ (fun b o n1 _ e => hk₂ b o (by simpa using n1) e) (Heap.DictOf.at hd fun o e => hk₂ _ o (by simpa using Ne.symm hid) e)
  | cons p ps ih =>
    intro i s kvs hdrop hsz hle hit hl hd hps fin
    have W := Walks.list (prog := prog) (w := w) (hhA (.builtin "dict.update.loop" ⟨[.ref d, .ref it, rawInt i, .none], []⟩)) it l hli items
    have hi : i < items.size := by simp at hsz; omega
    refine codeAny_builtin entry_updl ?_
    unfold Builtin.«dict.update.loop»
    refine wpAny_bind (W.item i _ _ _ hi ⟨hit, hl⟩ fun v h₂ tk₂ hPv hst₂ hk₂ => ?_)
    have hv : v = .ref p.1 := by
      have e1 : (items.toList.drop i)[0]? = some v := by rw [List.getElem?_drop]; simpa using hPv
      rw [hdrop] at e1
      simpa using e1.symm
    subst hv
    obtain ⟨⟨key, hkey, ho⟩, n1, n2⟩ := hps p (.head _)
    have ho₂ : h₂.get? p.1 = some { cls := .type "tuple", data := .seq [key, p.2.2].toArray } := hk₂ _ _ (by simpa using n1) ho
    have hd₂ : Heap.DictOf knd h₂ d kvs := Heap.DictOf.at hd fun o e => hk₂ _ o (by simpa using Ne.symm hid) e
    have hT : (⟨h₂, s.gens, s.drawn, tk₂, s.os⟩ : Shared).TypeIs (.ref p.1) "tuple" := ⟨_, ho₂, rfl⟩
    show wpAny _ _ (holding [Value.ref p.1] _ >>= _) _ _ _
    refine wpAny_bind (wpAny_holding (wpAny_bind (wpAny_tryCatch ?_)))
    unfold Builtin.Dict.pairItems
    refine wpAny_bind (wpAny_typeOf hT ?_)
    rw [if_pos (by decide)]
    refine wpAny_bind (wpAny_seqItems ho₂ rfl ?_)
    refine wpAny_pure ?_
    show wpAny _ _ (holding [key, p.2.2] (dictSet d key p.2.2)) _ _ _
    refine wpAny_holding (wpAny_dictSet_pairs hkey hd₂ (fun h₃ hd₃ hs₃ => ?_) (Nat.le_trans (Nat.le_trans (Nat.le_add_right _ _) hle) (by decide)))
    refine wpAny_pure ⟨Code.quiet_builtin _ (by decide +kernel), ?_⟩
    have kp : ∀ b o, b ≠ it → b ≠ d → s.heap.get? b = some o → h₃.get? b = some o := fun b o m1 m2 e => hs₃.extBut b o m2 (hk₂ b o (by simpa using m1) e)
    have hlen : (stored kvs p.2.1 p.2.2).length ≤ kvs.length + 1 := by
      unfold stored; split
      · simp
      · simp
    refine ih (i + 1) _ (stored kvs p.2.1 p.2.2) ?_ (by simp at hsz; omega) (by simp at hle; omega) (hst₂.1.at fun o e => hs₃.extBut _ o hid e) (hst₂.2.at fun o e => hs₃.extBut _ o hld e) hd₃ (fun p' hp' => ?_) (fun h' tk k4 hd4 => ?_)
    · have := congrArg (List.drop 1) hdrop
      rw [List.drop_drop] at this
      simpa [Nat.add_comm] using this
    · obtain ⟨a, b, c⟩ := hps p' (.tail _ hp')
      exact ⟨a.keeps fun o e => kp _ o b c e, b, c⟩
    · exact fin h' tk (fun b o m1 m2 e => k4 b o m1 m2 (kp b o m1 m2 e)) hd4

theorem dict_pairs {l : Addr} {ps : List (Addr × K × Value)} {kx : Nat} {Q : Value → Shared → Prop} (hA : A.handled = none) (hl : s.heap.get? l = some { cls := .type "list", data := .seq (ps.map fun p => Value.ref p.1).toArray kx }) (hle : ps.length ≤ 100)
    (hps : ∀ p ∈ ps, PairAt knd s.heap p)
    (h : ∀ D h' tk, D = s.heap.objs.size → (∀ b o, s.heap.get? b = some o → h'.get? b = some o) → h'.DictOf knd D (storedAll [] ps) → Q (.ref D) { s with heap := h', toks := tk }) :
    wpAny (model prog w) A (call (.type "dict") [.ref l]) Q E s := by
  refine callType_codes (Q₁ := fun obj s₁ => obj = .ref s.heap.objs.size ∧ s₁ = { s with heap := s.heap.push { cls := .type "dict", data := .dict #[] } }) PySem.F.kt_called_dict (PySem.F.kt_typeCall_dict_1 _) PySem.F.entry_dict_init (kt_code_dict_new _ ⟨rfl, rfl⟩) ?_
  rintro obj s₁ ⟨rfl, rfl⟩
  have hnew : (s.heap.push { cls := .type "dict", data := .dict #[] }).DictOf knd s.heap.objs.size [] := Heap.DictOf.new s.heap
  have up : ∀ b o, s.heap.get? b = some o → (s.heap.push { cls := .type "dict", data := .dict #[] }).get? b = some o := fun b o e => Heap.get?_push_of_some _ e
  have hl' := up _ _ hl
  have hT : ({ s with heap := s.heap.push { cls := .type "dict", data := .dict #[] } } : Shared).TypeIs (.ref l) "list" := ⟨_, hl', rfl⟩
  refine ⟨hnew.typeIs, PySem.F.args_dict_init_2 _ _, ?_⟩
  unfold Builtin.«dict.__init__»
  refine wpAny_bind ?_
  unfold Builtin.Dict.selfAndRest
  refine wpAny_bind (wpAny_notOrdered_dict hnew.typeIs ?_)
  show wpAny _ _ (pure (s.heap.objs.size, [Value.ref l])) _ _ _
  refine wpAny_pure ?_
  show wpAny _ _ (Builtin.Dict.updateFrom "dict.__init__" s.heap.objs.size (.ref l) [] .none) _ _ _
  unfold Builtin.Dict.updateFrom
  refine wpAny_bind (wpAny_typeOf hT ?_)
  rw [if_pos (by decide)]
  refine wpAny_bind (keys_miss hl' hA fun h₁ tk₁ k₁ => ?_)
  have hl₁ : h₁.IsList l (ps.map fun p => Value.ref p.1).toArray := ⟨_, k₁ _ _ hl', rfl, kx, rfl⟩
  show wpAny _ _ (rule _ >>= _) _ _ _
  refine wpAny_bind (wpAny_rule (wpAny_bind (wpAny_pyIter_list hl₁ ?_)))
  refine wpAny_pure ⟨Code.quiet_builtin _ (by decide +kernel), ?_⟩
  have e0 : s.heap.get? s.heap.objs.size = none := Heap.get?_none_of_le (Nat.le_refl _)
  have lt0 : ∀ b o, s.heap.get? b = some o → b < s.heap.objs.size := fun b o e => Heap.lt_size e
  have hDo : (s.heap.push { cls := .type "dict", data := .dict #[] }).get? s.heap.objs.size = some { cls := .type "dict", data := .dict #[] } := Heap.get?_push_size _ rfl
  have hD1 : s.heap.objs.size < h₁.objs.size := Heap.lt_size (k₁ _ _ hDo)
  have hl1 : l < s.heap.objs.size := lt0 _ _ hl
  have up2 : ∀ b o, h₁.get? b = some o → (h₁.push { cls := .type "list_iterator", data := .fields #[.ref l, .int 0 0] }).get? b = some o := fun b o e => Heap.get?_push_of_some _ e
  refine upd_loop (knd := knd) (fun c => by show A.in1.handled = none; exact hA) (Nat.ne_of_lt (Nat.lt_trans hl1 hD1)) (Nat.ne_of_lt hl1) (Nat.ne_of_gt hD1) ps 0 _ [] (items := (ps.map fun p => Value.ref p.1).toArray) (by simp) (by simp) (by simpa using hle)
    ⟨_, Heap.get?_push_size _ rfl, rfl, rfl⟩ (hl₁.push _) ((Heap.DictOf.at hnew fun o e => up2 _ _ (k₁ _ _ e))) (fun p hp => ?_) (fun h' tk k4 hd4 => ?_)
  · obtain ⟨key, e1, e2⟩ := hps p hp
    have lp := lt0 _ _ e2
    exact ⟨⟨key, e1, up2 _ _ (k₁ _ _ (up _ _ e2))⟩, Nat.ne_of_lt (Nat.lt_trans lp hD1), Nat.ne_of_lt lp⟩
  · refine ⟨rfl, h _ h' tk rfl (fun b o e => ?_) hd4⟩
    have lb := lt0 _ _ e
    exact k4 b o (Nat.ne_of_lt (Nat.lt_trans lb hD1)) (Nat.ne_of_lt lb) (up2 _ _ (k₁ _ _ (up _ _ e)))
end
end
section -- S1
open PySem PySem.W PyProof.Rows PySem.Spec PySem.Calls
/-- what S held, and what is new since h -/
noncomputable def snap (S h h' : Heap) : Heap := hideAll h' ((List.range h.objs.size).filter fun a => (h.get? a).isSome && (S.get? a).isNone)
theorem snap_sub {S h h' : Heap} {b : Addr} {o : Obj} (e : (snap S h h').get? b = some o) : h'.get? b = some o := of_hideAll _ e
theorem snap_old {S h h' : Heap} {b : Addr} {o o' : Obj} (e : S.get? b = some o') (e' : h'.get? b = some o) : (snap S h h').get? b = some o :=
  hideAll_get _ e' fun m => by
    have := (List.mem_filter.mp m).2
    rw [e] at this
    simp at this
theorem snap_new {S h h' : Heap} {b : Addr} {o : Obj} (e : h.get? b = none) (e' : h'.get? b = some o) : (snap S h h').get? b = some o :=
  hideAll_get _ e' fun m => by
    have := (List.mem_filter.mp m).2
    rw [e] at this
    simp at this
theorem snap_cases {S h h' : Heap} {b : Addr} {o : Obj} (e : (snap S h h').get? b = some o) : (∃ o', S.get? b = some o') ∨ h.get? b = none := by
  cases hb : h.get? b with
  | none => exact .inr rfl
  | some o1 =>
    cases hs : S.get? b with
    | some o' => exact .inl ⟨o', rfl⟩
    | none =>
      have : b ∈ (List.range h.objs.size).filter fun a => (h.get? a).isSome && (S.get? a).isNone :=
        List.mem_filter.mpr ⟨List.mem_range.mpr (Heap.lt_size hb), by rw [hb, hs]; rfl⟩
      unfold snap at e
      rw [hideAll_none _ this] at e; cases e
/-- all of S that h₀ has not -/
noncomputable def darkOf (S h₀ : Heap) : List (Addr × Obj) := (List.range S.objs.size).filterMap fun a => match h₀.get? a with | some _ => none | none => (S.get? a).map fun o => (a, o)
theorem mem_dark {S h₀ : Heap} {b : Addr} {o : Obj} (e : S.get? b = some o) (n : h₀.get? b = none) : (b, o) ∈ darkOf S h₀ :=
  List.mem_filterMap.mpr ⟨b, List.mem_range.mpr (Heap.lt_size e), by rw [n, e]; rfl⟩
theorem of_dark {S h₀ : Heap} {p : Addr × Obj} (m : p ∈ darkOf S h₀) : S.get? p.1 = some p.2 ∧ h₀.get? p.1 = none := by
  obtain ⟨a, _, h⟩ := List.mem_filterMap.mp m
  cases hn : h₀.get? a with
  | some o => rw [hn] at h; cases h
  | none =>
    rw [hn] at h
    obtain ⟨o, ho, rfl⟩ := Option.map_eq_some_iff.mp h
    exact ⟨ho, hn⟩
end
section -- S2
open PySem PySem.W PyProof.Rows PySem.Spec PySem.Calls
/-- S' holds what S held and some of what is new since h -/
structure Snp (S h S' h' : Heap) : Prop where
  old : ∀ b o, S.get? b = some o → S'.get? b = some o
  sub : ∀ b o, S'.get? b = some o → h'.get? b = some o
  new : ∀ b o, S'.get? b = some o → (∃ o', S.get? b = some o') ∨ h.get? b = none
theorem snp_snap {S h h' : Heap} (k : ∀ b o, S.get? b = some o → h'.get? b = some o) : Snp S h (snap S h h') h' :=
  ⟨fun b o e => snap_old e (k b o e), fun b o e => snap_sub e, fun b o e => snap_cases e⟩
theorem Snp.off {S h S' h' : Heap} (z : Snp S h S' h') {a : Addr} {o : Obj} (e : S.get? a = none) (e' : h.get? a = some o) : S'.get? a = none := by
  cases q : S'.get? a with
  | none => rfl
  | some o' =>
    rcases z.new _ _ q with ⟨o2, h2⟩ | h2
    · rw [e] at h2; cases h2
    · rw [e'] at h2; cases h2
theorem snp_keeps {S h h' : Heap} {X : List Addr} (k : Keeps X h h') (kS : ∀ b o, S.get? b = some o → h.get? b = some o) (n : ∀ a ∈ X, S.get? a = none) : ∀ b o, S.get? b = some o → h'.get? b = some o :=
  fun b o e => k.keep b o (kS b o e) fun q => by rw [n b q] at e; cases e
section
variable {h₀ h h' S S' : Heap} {L : Addr} {m m' : Str → Option Value} {news : List (Addr × Obj)}
theorem fr_self {h₀ h : Heap} {L : Addr} {m : Str → Option Value} (F : Fr h₀ L h m) : ∃ o, h.get? L = some o := let ⟨o, _, _, e, _⟩ := F.ns; ⟨o, e⟩
theorem sub_pre {α : Type} (l : List α) {d1 d2 : List α} : ∀ p ∈ l ++ d2, p ∈ (l ++ d1) ++ d2 := fun _ hp => by
  rcases List.mem_append.mp hp with h | h
  · exact List.mem_append_left _ (List.mem_append_left _ h)
  · exact List.mem_append_right _ h
theorem news_pre (l : List (Addr × Obj)) {d1 d2 : List (Addr × Obj)} (N : News h₀ L h ((l ++ d1) ++ d2)) : News h₀ L h (l ++ d2) := fun p hp => N p (sub_pre l p hp)
theorem news_dark (F : Fr h₀ L h m) (N' : News h₀ L h' news) (z : Snp S h S' h') (LS : S.get? L = none) : News h₀ L h' (news ++ darkOf S' h₀) := by
  intro p hp
  rcases List.mem_append.mp hp with hp | hp
  · exact N' p hp
  · obtain ⟨e1, e2⟩ := of_dark hp
    obtain ⟨o, ho⟩ := fr_self F
    exact ⟨z.sub _ _ e1, (fun q => by have := z.off LS ho; rw [← q, e1] at this; cases this), e2⟩
/-- what was laid into the ledger stands -/
structure Laid (S h₀ : Heap) : Prop where
  ag : ∀ b o o1, S.get? b = some o → h₀.get? b = some o1 → o1 = o
theorem laid (k : ∀ b o, S.get? b = some o → h'.get? b = some o) (k₀ : ∀ b o, h₀.get? b = some o → h'.get? b = some o) : Laid S h₀ := ⟨fun b o o1 e e1 => by
  have a := k _ _ e; have b := k₀ _ _ e1; rw [a] at b; cases b; rfl⟩
theorem dark_in (z : Laid S h₀) (F : Fr h₀ L h m) (N : News h₀ L h news) (k : ∀ p ∈ darkOf S h₀, p ∈ news) : ∀ b o, S.get? b = some o → h.get? b = some o := by
  intro b o e
  cases q : h₀.get? b with
  | some o1 => rw [F.keep _ _ q, z.ag _ _ _ e q]
  | none => exact (N _ (k _ (mem_dark e q))).1
theorem dark_off {a : Addr} (e : S.get? a = none) : ∀ p ∈ darkOf S h₀, p.1 ≠ a := fun p hp q => by
  have := (of_dark hp).1
  rw [q, e] at this; cases this
end
theorem dark_nil {S g : Heap} (k : ∀ b o, S.get? b = some o → g.get? b = some o) : darkOf S g = [] := by
  cases q : darkOf S g with
  | nil => rfl
  | cons p r =>
    have := of_dark (S := S) (h₀ := g) (p := p) (by rw [q]; exact .head _)
    rw [k _ _ this.1] at this; cases this.2
theorem dark_none {S g : Heap} {a : Addr} (n : g.get? a = none) (h : ∀ p ∈ darkOf S g, p.1 ≠ a) : S.get? a = none := by
  cases q : S.get? a with
  | none => rfl
  | some o => exact absurd rfl (h _ (mem_dark q n))
/-- a snapshot that a walk carries: over Sn and what is new since hs; the walk's ground is g, its frame L', X is what it may change -/
structure Bld (Sn hs g : Heap) (L' : Addr) (X : List Addr) (S2 : Heap) : Prop where
  old : ∀ b o, Sn.get? b = some o → S2.get? b = some o
  new : ∀ b o, S2.get? b = some o → (∃ o', Sn.get? b = some o') ∨ hs.get? b = none
  lay : Laid S2 g
  offL : S2.get? L' = none
  offX : ∀ a ∈ X, S2.get? a = none
section
variable {Sn hs g S2 S' h h5 hz : Heap} {L' : Addr} {X : List Addr} {m : Str → Option Value} {nw : List (Addr × Obj)}
theorem Bld.init (kg : ∀ b o, Sn.get? b = some o → g.get? b = some o) (kh : ∀ b o, Sn.get? b = some o → hs.get? b = some o) (hL : L' = hs.objs.size) (nX : ∀ a ∈ X, Sn.get? a = none) : Bld Sn hs g L' X Sn :=
  ⟨fun _ _ e => e, fun _ o e => .inl ⟨o, e⟩, laid kg fun _ _ e => e, by
    cases q : Sn.get? L' with
    | none => rfl
    | some o =>
      have := Heap.lt_size (kh _ _ q)
      rw [hL] at this
      exact absurd this (Nat.lt_irrefl _), nX⟩
theorem Bld.next (b : Bld Sn hs g L' X S2) (F : Fr g L' h m) (hX : ∀ a ∈ X, ∃ o, h.get? a = some o) (hg1 : ∀ b o, hs.get? b = some o → b ∉ X → g.get? b = some o) (z : Snp S2 h S' h5) (k5 : ∀ b o, g.get? b = some o → h5.get? b = some o) : Bld Sn hs g L' X S' := by
  have oX : ∀ a ∈ X, S'.get? a = none := fun a ha => let ⟨o, ho⟩ := hX a ha; z.off (b.offX a ha) ho
  refine ⟨fun x o e => z.old x o (b.old x o e), fun x o e => ?_, laid z.sub k5, let ⟨o, ho⟩ := fr_self F; z.off b.offL ho, oX⟩
  rcases z.new x o e with ⟨o', e'⟩ | e'
  · exact b.new x o' e'
  · refine .inr ?_
    cases q : hs.get? x with
    | none => rfl
    | some o2 =>
      by_cases hx : x ∈ X
      · rw [oX x hx] at e; cases e
      · rw [F.keep _ _ (hg1 x o2 q hx)] at e'; cases e'
theorem Bld.up (b : Bld Sn hs g L' X S2) (k : ∀ b o, S2.get? b = some o → hz.get? b = some o) : ∀ x o, S2.get? x = some o → (snap Sn hs hz).get? x = some o := by
  intro x o e
  rcases b.new x o e with ⟨o', e'⟩ | e'
  · exact snap_old e' (k _ _ e)
  · exact snap_new e' (k _ _ e)
theorem Bld.isIn (b : Bld Sn hs g L' X S2) (F : Fr g L' h m) (N : News g L' h nw) (k : ∀ p ∈ darkOf S2 g, p ∈ nw) : ∀ x o, S2.get? x = some o → h.get? x = some o := dark_in b.lay F N k
theorem Bld.off3 (_b : Bld Sn hs g L' X S2) {I C D : Addr} {oI oC oD : Obj} (N : News g L' h ((I, oI) :: (C, oC) :: (D, oD) :: nw)) (off : LCg.Off3 I C D nw) (k : ∀ p ∈ darkOf S2 g, p ∈ nw) : S2.get? I = none ∧ S2.get? C = none ∧ S2.get? D = none :=
  ⟨dark_none (N _ (.head _)).2.2 fun p hp => (off.mem p (k p hp)).1, dark_none (N _ (.tail _ (.head _))).2.2 fun p hp => (off.mem p (k p hp)).2.1, dark_none (N _ (.tail _ (.tail _ (.head _)))).2.2 fun p hp => (off.mem p (k p hp)).2.2⟩
end
end
section
local macro_rules | `(tactic| k_room) => `(tactic| first | exact roomK 1 (by assumption) (by decide) | exact unitK 1 (by assumption) (by decide) | exact unit2 1 (by assumption) (by decide) | exact roomM 1 (by assumption) (by decide) | exact unitM 1 (by assumption) (by decide) | exact roomK 2 (by assumption) (by decide) | exact unitK 2 (by assumption) (by decide) | exact roomZ (by assumption) | exact roomZM (by assumption) | ((try simp only [depth_under_make, depth_under_kw, depth_in1, depth_deeper]); (try dsimp only); omega))
section -- R3
open PySem PySem.W PyProof.Rows PySem.Spec PySem.Calls
theorem ns_some_of {K : Frag} {h : Heap} {N : Addr} {mg : Str → Option Value} {n : Str} {v : Value} (X : K.In h) (G : h.Ns N mg) (e : nsIn K N n = some (some v)) : mg n = some v := by
  obtain ⟨o, es, ep, ho, hd, _, hf⟩ := G
  unfold nsIn at e
  split at e
  · rename_i c d es' n' sl q
    have := X _ _ q
    rw [ho] at this
    cases this
    cases hd
    split at e
    · rename_i en he
      cases e
      rw [← hf]
      unfold nsFind findBy
      rw [← Array.find?_toList, he]
      rfl
    · split at e <;> cases e
  · cases e
section
variable {w : World} {A₀ : Around} {s : Shared} {base h₀ : Heap} {outer : List Env} {L : Addr} {m mg mb : Str → Option Value} {env : Env} {p : Program} {loose : List Str} {mean : ExcName → Option Value}
  {E : Value → Shared → Prop} {Q : Value → Shared → Prop} {news : List (Addr × Obj)} {dp un : Nat} {gd : Option (List Code)}
theorem tf_call {msg : Str} {mt : Tok} (C : Cx (hd.heap_1 w.params) A₀ base h₀ env outer L m p loose mean mg mb s news) (hroom : dp + 6 < recursionLimit)
    (ret : ∀ h' e tk', (∀ b o, s.heap.get? b = some o → h'.get? b = some o) → s.heap.get? e = none → (∃ t d, h'.get? e = some { cls := .ref 59, dict := some d, data := .fields #[.ref t, .none, .none, .none, .bool false, .none] }) → Q (.ref e) { s with heap := h', toks := tk' }) :
    wpAny (model PySem.Challenge.rw_pb0479_01.row.prog w) (At dp un gd env outer) (call (.ref 59) [.str msg mt]) Q E s := by
  obtain ⟨B, F, X, T, N, hf, hke⟩ := C
  obtain ⟨hp, g, d, tk, os⟩ := s
  dsimp only at F N ret ⊢
  have XX := X.keeps F.keep
  have ns1 : hp.isNs 58 = true := isNs_of_in XX (by kernel_rfl)
  have ns2 : hp.isNs 45 = true := isNs_of_in XX (by kernel_rfl)
  have G1 := Heap.Ns.of_isNs ns1
  have G2 := Heap.Ns.of_isNs ns2
  refine call_own_init (w := w) (h := hp) PySem.F.excBase_Exception (C := 59) (C2 := 46) (bm := [.ref 46, .type "Exception", .type "BaseException", .type "object"]) rfl rfl rfl rfl (XX _ _ (by rfl)) G1 (ns_none_of XX G1 (by kernel_rfl)) (XX _ _ (by rfl)) G2 (f := 36) ?_ (XX 36 _ (by rfl)) rfl (by show 1 ≤ sizeLine; decide) ?_
  · exact ns_some_of XX G2 (by kernel_rfl)
  intro h' e tp he htp kh hne hntp hge hgt
  revert X
  k_fill
  intro X
  have F₁ : Fr h₀ L h' m := ⟨F.ns.keeps kh, fun b o q => kh b o (F.keep b o q), F.above⟩
  have N₁ : News h₀ L h' [(e, { cls := .ref 59, data := .fields #[.ref tp, .none, .none, .none, .bool false, .none] })] := fun p hp' => by
    obtain rfl := List.mem_singleton.mp hp'
    refine ⟨hge, fun q => ?_, ?_⟩
    · obtain ⟨oL, _, _, eL, _⟩ := F.ns
      rw [← q, hne] at eL; cases eL
    · cases q : h₀.get? e with
      | none => rfl
      | some o => have := F.keep _ _ q; rw [hne] at this; cases this
  refine' enterK [(e, _)] B F₁ X T N₁ rfl hf hke ?ho ?hcd ?hr ?hb ?hl ?_ ?hc ?h1 ?h2 ?h3
  case ho => k_dflt k_is
  case hcd => k_dflt k_is
  case hr => k_room
  case hb => exact binds_K (by k_in) rfl (by k_is) rfl rfl rfl
  case hl => exact locs rfl
  case hc => decide
  case h1 => rfl
  case h2 => rfl
  case h3 => rfl
  intro g' L' h₂ hg1 hg2 hg3 hL F' N' B' X' T' hlt
  have hlt := hlt _ (.head _)
  show wpAny _ _ _ _ _ _
  k_fold
  k_steps
  refine' method_type F' X' ?m1 (by decide +kernel) ?m2 ?m3 ?_
  case m1 => first | rfl | kernel_rfl
  case m2 => k_dflt k_is
  case m3 => k_handed
  k_steps
  have X₂ := X'.keeps F'.keep
  have hee : h₂.get? e = some { cls := .ref 59, data := .fields #[.ref tp, .none, .none, .none, .bool false, .none] } := (N' _ (.head _)).1
  have hgne : g'.get? e = none := (N' _ (.head _)).2.2
  have hneL : e ≠ L' := (N' _ (.head _)).2.1
  refine own_init (bm := [.ref 46, .type "Exception", .type "BaseException", .type "object"]) PySem.F.excBase_Exception rfl (X₂ 59 _ (by rfl)) hee (by show 1 ≤ sizeLine; decide) fun h₃ k₃ he₃ => ?_
  have F₃ : Fr g' L' h₃ _ := ⟨by
    obtain ⟨oL, es, ep, eL, r⟩ := F'.ns
    exact ⟨oL, es, ep, k₃ _ _ (Ne.symm hneL) eL, r⟩, fun b o q => k₃ b o (fun z => by rw [z, hgne] at q; cases q) (F'.keep b o q), F'.above⟩
  have N₃ : News g' L' h₃ [] := fun p hp => nomatch hp
  clear N' F'
  k_steps
  have hC59 : e ≠ 59 := fun z => by rw [z, X' 59 _ (by rfl)] at hgne; cases hgne
  have X₃ := X'.keeps F₃.keep
  have A1 := Heap.Ns.of_isNs (h := h₃) (isNs_of_in X₃ (N := 58) (by kernel_rfl))
  have A2 := Heap.Ns.of_isNs (h := h₃) (isNs_of_in X₃ (N := 45) (by kernel_rfl))
  refine own_store (mA := fun _ => none) (ns := []) PySem.F.store_Exception (X₃ 59 _ (by rfl)) A1 (ns_none_of X₃ A1 (by kernel_rfl)) (ns_none_of X₃ A1 (by kernel_rfl)) (X₃ 46 _ (by rfl)) A2 (ns_none_of X₃ A2 (by kernel_rfl)) (ns_none_of X₃ A2 (by kernel_rfl))
    (by rw [typeLookup_type, builtinLookup_eq_fast]; kernel_rfl) hC59 ⟨_, he₃, rfl, (fun c q => nomatch q), .inl ⟨rfl, fun _ => rfl⟩⟩ ?_ Within.nil (by size_fits)
  intro h₄ tk₄ I₄ k₄ s₄
  obtain ⟨o₄, he₄, c₄, d₄, sl₄, e₄⟩ := s₄ _ he₃
  have F₄ : Fr g' L' h₄ _ := ⟨by
    obtain ⟨oL, es, ep, eL, r⟩ := F₃.ns
    exact ⟨oL, es, ep, k₄ _ _ (Ne.symm hneL) (fun o₀ dx z1 z2 => by rw [he₃] at z1; cases z1; cases z2) eL, r⟩, fun b o q => k₄ b o (fun z => by rw [z, hgne] at q; cases q) (fun o₀ dx z1 z2 => by rw [he₃] at z1; cases z1; cases z2) (F₃.keep b o q), F₃.above⟩
  have N₄ : News g' L' h₄ [] := fun p hp => nomatch hp
  obtain ⟨dd₄, hd₄, hdg, hdL⟩ : ∃ dx, o₄.dict = some dx ∧ g'.get? dx = none ∧ dx ≠ L' := by
    rcases e₄ with ⟨dx, z, _⟩ | ⟨_, z⟩
    · cases z
    · refine ⟨_, z, ?_, ?_⟩
      · cases q : g'.get? h₃.objs.size with
        | none => rfl
        | some o => exact absurd (Heap.lt_size (F₃.keep _ _ q)) (Nat.lt_irrefl _)
      · intro q
        obtain ⟨oL, _, _, eL, _⟩ := F₃.ns
        rw [← q] at eL
        exact absurd (Heap.lt_size eL) (Nat.lt_irrefl _)
  clear N₃
  k_steps
  have X₄ := X'.keeps F₄.keep
  have G3 := Heap.Ns.of_isNs (h := h₄) (isNs_of_in X₄ (N := 58) (by kernel_rfl))
  have G4 := Heap.Ns.of_isNs (h := h₄) (isNs_of_in X₄ (N := 45) (by kernel_rfl))
  refine own_store (ns := ["what"]) PySem.F.store_Exception (X₄ 59 _ (by rfl)) G3 (ns_none_of X₄ G3 (by kernel_rfl)) (ns_none_of X₄ G3 (by kernel_rfl)) (X₄ 46 _ (by rfl)) G4 (ns_none_of X₄ G4 (by kernel_rfl)) (ns_none_of X₄ G4 (by kernel_rfl))
    (by rw [typeLookup_type, builtinLookup_eq_fast]; kernel_rfl) hC59 I₄ ?_ (Within.cons _ _ Within.nil) (by size_fits)
  intro h₅ tk₅ I₅ k₅ s₅
  obtain ⟨o₅, he₅, c₅, d₅, sl₅, e₅⟩ := s₅ _ he₄
  have F₅ : Fr g' L' h₅ _ := ⟨by
    obtain ⟨oL, es, ep, eL, r⟩ := F₄.ns
    exact ⟨oL, es, ep, k₅ _ _ (Ne.symm hneL) (fun o₀ dx z1 z2 => by rw [he₄] at z1; cases z1; rw [hd₄] at z2; cases z2; exact Ne.symm hdL) eL, r⟩,
    fun b o q => k₅ b o (fun z => by rw [z, hgne] at q; cases q) (fun o₀ dx z1 z2 => by rw [he₄] at z1; cases z1; rw [hd₄] at z2; cases z2; exact fun z => by rw [z, hdg] at q; cases q) (F₄.keep b o q), F₄.above⟩
  have N₅ : News g' L' h₅ [] := fun p hp => nomatch hp
  have hd₅ : o₅.dict = some dd₄ := by
    rcases e₅ with ⟨dx, z1, z2⟩ | ⟨z, _⟩
    · rw [hd₄] at z1; cases z1; exact z2
    · rw [hd₄] at z; cases z
  clear N₄
  k_steps
  refine ret _ _ _ (fun b o q => F₅.keep b o (hg1 b o (kh b o q) (fun z => by
    rw [List.mem_singleton.mp z] at q
    rw [hne] at q; cases q))) hne ⟨h₂.objs.size, dd₄, ?_⟩
  rw [he₅]
  obtain ⟨c5, dt5, dat5, sl5⟩ := o₅
  dsimp only at c₅ d₅ sl₅ hd₅
  rw [c₅, d₅, sl₅, hd₅, c₄, d₄, sl₄]
end
end
section -- R4
open PySem PySem.W PyProof.Rows PySem.Spec PySem.Calls
/-- the frames of a stack -/
abbrev frs (l : List Env) : List Addr := l.filterMap (·.frame)
/-- what stood at S and is no frame stands in h; the flying TreeFault e is none of it -/
def Raise (S : Heap) (l : List Env) (e : Addr) (fl : Value) (h : Heap) : Prop :=
  ∃ a0, (hideAll S (frs l)).StaysIn h ∧ (hideAll S (frs l)).get? e = none ∧ h.FunFrames (hideAll S (frs l)) l ∧ h.TracedAtW (hideAll S (frs l)) e (.ref 59) a0 fl ∧ S.UpToSlots h

theorem traced_base {base B h : Heap} {e : Addr} {cls a0 fl : Value} (k : base.StaysIn B) (x : h.TracedAtW B e cls a0 fl) : h.TracedAtW base e cls a0 fl := by
  obtain ⟨oe, vs, T, oT, ts, he, hc, hd, h1, hnT, r⟩ := x
  exact ⟨oe, vs, T, oT, ts, he, hc, hd, h1, fresh_of_stays k hnT, r⟩

/-- a weaker ground, a shorter stack -/
theorem Raise.down {S S' h : Heap} {l l' : List Env} {e : Addr} {fl : Value} (R : Raise S' l e fl h) (k : ∀ b o, S.get? b = some o → b ∉ frs l' → S'.get? b = some o ∧ b ∉ frs l) (u : S.UpToSlots S') (hl : ∃ p, l = p ++ l') : Raise S l' e fl h := by
  obtain ⟨a0, r1, r2, r3, r4, r5⟩ := R
  have st : (hideAll S (frs l')).StaysIn (hideAll S' (frs l)) := fun b o q => by
    have q1 := of_hideAll _ q
    have q2 : b ∉ frs l' := fun m => by rw [hideAll_none _ m] at q; cases q
    exact hideAll_get _ (k b o q1 q2).1 (k b o q1 q2).2
  obtain ⟨p, rfl⟩ := hl
  refine ⟨a0, fun b o q => r1 b o (st b o q), fresh_of_stays st r2, ?_, traced_base st r4, u.trans r5⟩
  have r3' := funFrames_base st r3
  clear r1 r2 r3 r4 st k
  induction p with
  | nil => exact r3'
  | cons a p ih => exact ih r3'.2.2

section
variable {M : Model} {A : Around} {E : Value → Shared → Prop} {s : Shared} {S : Heap} {env env' : Env} {outer : List Env} {L e : Addr} {fl : Value}

theorem noteFrame_frame (q : env'.frame = env.frame) (x : Value) : noteFrame x env' = noteFrame x env := by
  unfold noteFrame PySem.frameOf
  rw [q]

/-- the frame is noted, whatever was noted before -/
theorem note_any {Q : Unit → Shared → Prop} (hfr : A.frames = some (env :: outer)) (hf : env.frame = some L) (R : Raise S (env :: outer) e fl s.heap)
    (hQ : ∀ h', Raise S (env :: outer) e (rawInt L) h' → s.heap.UpToSlots h' → Q () { s with heap := h' }) : wpAny M A (noteFrame (.ref e) env) Q E s := by
  obtain ⟨a0, r1, r2, r3, r4, r5⟩ := R
  by_cases hfl : fl = rawInt L
  · subst hfl
    exact wpAny_noteFrame_againW hf r4 (hQ s.heap ⟨a0, r1, r2, r3, r4, r5⟩ (.refl _))
  · obtain ⟨oe, vs, T, oT, ts, he, ⟨hcls, h0⟩, hd, h1, hnT, hTe, hT, hdT, h3⟩ := r4
    unfold noteFrame
    simp only [hf]
    refine wpAny_bind (wpAny_field he hd h1 ?_)
    rw [if_pos (show (Value.ref T != Value.none) = true from by simp)]
    refine wpAny_bind (wpAny_field hT hdT h3 ?_)
    rw [if_neg (show ¬ ((fl == rawInt L) = true) from fun q => hfl (beq_iff_eq.mp q))]
    refine wpAny_bind (wpAny_setField hT hdT (Array.getElem?_eq_some_iff.mp h3).1 ?_)
    have other : ∀ b, b ≠ T → (s.heap.update T (Obj.mapFields (·.setIfInBounds 3 Value.none))).get? b = s.heap.get? b := fun b hb => Heap.get?_update_other _ _ (Ne.symm hb)
    have noRecord : ∀ b o, s.heap.get? b = some o → (∀ vs, o.data ≠ .fields vs) → b ≠ T := fun b o hb hnf q => by
      rw [q, hT] at hb; injection hb with hb; subst hb; exact hnf ts hdT
    refine wpAny_entryW hfr (r3.of_keeps fun b o hb hnf => ⟨o, (other b (noRecord b o hb hnf)).trans hb, rfl⟩) hf ((other e (Ne.symm hTe)).trans he)
      (fun b o hbo => (other b fun q => by rw [q, hnT] at hbo; cases hbo).trans (r1 b o hbo)) r2 hd (Array.getElem?_eq_some_iff.mp h1).1 h0
      fun h' ⟨x1, x2, x3, x4⟩ => ?_
    have u : s.heap.UpToSlots h' := fun b o hb hnf => x4 b o ((other b (noRecord b o hb hnf)).trans hb) hnf
    exact hQ h' ⟨a0, x1, r2, x2, by rw [← hcls]; exact x3, r5.trans u⟩ u

theorem land_any {Q : Unit → Shared → Prop} {l : List Env} (R : Raise S l e fl s.heap)
    (hQ : ∀ h', Raise S l e .none h' → s.heap.UpToSlots h' → Q () { s with heap := h' }) : wpAny M A (setFlight (.ref e) none) Q E s := by
  obtain ⟨a0, r1, r2, r3, r4, r5⟩ := R
  refine wpAny_setFlight_noneW r1 r3 r4 fun h' k1 k2 k3 k4 => ?_
  have u : s.heap.UpToSlots h' := fun b o hb hn => ⟨o.slots, k4 b o hb hn⟩
  exact hQ h' ⟨a0, k1, r2, k2, k3, r5.trans u⟩ u

/-- a frame is left by a raise -/
theorem leaving_any {Q : Unit → Shared → Prop} (hfr : A.frames = some (env :: outer)) (hf : env.frame = some L) (R : Raise S (env :: outer) e fl s.heap)
    (hQ : ∀ h', Raise S (env :: outer) e .none h' → Q () { s with heap := h' }) : wpAny M A (leaving env (.ref e)) Q E s := by
  unfold leaving
  refine wpAny_bind (note_any hfr hf R fun h₁ R₁ _ => ?_)
  exact land_any R₁ fun h₂ R₂ _ => hQ h₂ R₂

/-- what leaves a frame, told of the caller's ground -/
theorem Raise.left {g : Heap} {m : Str → Option Value} {h : Heap} (F : Fr g L S m) (hf : env.frame = some L) (R : Raise S (env :: outer) e fl h) : Raise g outer e fl h := by
  refine R.down (fun b o q n => ⟨F.keep b o q, fun mm => ?_⟩) (.of_keeps F.keep) ⟨[env], rfl⟩
  obtain ⟨a, ha, hb⟩ := List.mem_filterMap.mp mm
  rcases List.mem_cons.mp ha with rfl | ha
  · rw [hf] at hb
    cases hb
    rw [kts_self F] at q
    cases q
  · exact n (List.mem_filterMap.mpr ⟨a, ha, hb⟩)

/-- the first note: an exception just made -/
theorem note_first {A₀ : Around} {base g h : Heap} {m : Str → Option Value} {oe : Obj} {vs : Array Value} {a0 : Value} {Q : Unit → Shared → Prop} (hfr : A.frames = some (env :: outer)) (hf : env.frame = some L) (hk : env.scope.kind = .function) (K : Below A₀ base outer g) (F : Fr g L h m)
    (kh : ∀ b o, h.get? b = some o → s.heap.get? b = some o) (hn : h.get? e = none) (he : s.heap.get? e = some oe) (hc : oe.cls = .ref 59) (hd : oe.data = .fields vs) (h1 : vs[1]? = some .none) (h0 : vs[0]? = some a0)
    (hQ : ∀ h', Raise h (env :: outer) e .none h' → Q () { s with heap := h' }) : wpAny M A (leaving env (.ref e)) Q E s := by
  have fb : base.get? L = none := fresh_of_stays K.stays (kts_self F)
  have ff : h.FunFrames base (env :: outer) := by
    refine Heap.FunFrames.cons (by rw [hk]; exact fun q => nomatch q) hf F.ns fb (K.frames.of_keeps fun b o q _ => ⟨o, F.keep b o q, rfl⟩)
  have hin : ∀ x ∈ (env :: outer), ∀ a, x.frame = some a → a ∈ frs (env :: outer) := fun x hx a ha => List.mem_filterMap.mpr ⟨x, hx, ha⟩
  refine wpAny_leaving_firstW (base := hideAll h (frs (env :: outer))) (a0 := a0) hfr ((funFrames_hide ff hin).of_keeps fun b o q _ => ⟨o, kh b o q, rfl⟩) hf he (fun b o q => kh b o (of_hideAll _ q)) ?_ hd h1 h0 fun h' hL => ?_
  · cases q : (hideAll h (frs (env :: outer))).get? e with
    | none => rfl
    | some o => have := of_hideAll _ q; rw [hn] at this; cases this
  · obtain ⟨k1, k2, k3, k4⟩ := hL
    refine hQ h' ⟨a0, k1, ?_, k2, by rw [← hc]; exact k3, (Heap.UpToSlots.of_keeps kh).trans k4⟩
    cases q : (hideAll h (frs (env :: outer))).get? e with
    | none => rfl
    | some o => have := of_hideAll _ q; rw [hn] at this; cases this
end
end
section -- R5
open PySem PySem.W PyProof.Rows PySem.Spec PySem.Calls
theorem frames_but {h h' B : Heap} {C : Addr} : ∀ {l : List Env}, h.FunFrames B l → C ∉ frs l → h.SameBut C h' → h'.FunFrames B l
  | [], _, _, _ => trivial
  | env :: l, ⟨hk, ⟨L, o, hf, hn, ho, hd⟩, hr⟩, hC, hs => by
    have e : frs (env :: l) = L :: frs l := by show List.filterMap _ _ = _; rw [List.filterMap_cons, hf]
    rw [e] at hC
    refine ⟨hk, ⟨L, o, hf, hn, hs.extBut L o (fun q => hC (by rw [q]; exact .head _)) ho, hd⟩, frames_but hr (fun m => hC (.tail _ m)) hs⟩

/-- the loop's own names go, then the raise goes on -/
theorem Raise.but {S h h' : Heap} {l : List Env} {e C : Addr} {fl : Value} (R : Raise S l e fl h) (hs : h.SameBut C h') (hC : ∃ mC, S.Ns C mC) (hf : C ∉ frs l) : Raise (S.hide C) l e fl h' := by
  obtain ⟨a0, r1, r2, r3, r4, r5⟩ := R
  obtain ⟨mC, hN⟩ := hC
  obtain ⟨oC, es, ep, eC, dC, _⟩ := r5.ns hN
  have st : (hideAll (S.hide C) (frs l)).StaysIn (hideAll S (frs l)) := fun b o q => by
    have q1 := Heap.of_hide (of_hideAll _ q)
    exact hideAll_get _ q1 fun m => by rw [hideAll_none _ m] at q; cases q
  obtain ⟨oe, vs, T, oT, ts, he, hc, hd, h1, hnT, hTe, hT, hdT, h3⟩ := r4
  have neC : ∀ b o vs, h.get? b = some o → o.data = .fields vs → b ≠ C := fun b o vs q d z => by
    rw [z, eC] at q; cases q; rw [dC] at d; cases d
  refine ⟨a0, fun b o q => hs.extBut b o (fun z => ?_) (r1 b o (st b o q)), fresh_of_stays st r2, frames_but (funFrames_base st r3) hf hs,
    ⟨oe, vs, T, oT, ts, hs.extBut _ _ (neC _ _ _ he hd) he, hc, hd, h1, fresh_of_stays st hnT, hTe, hs.extBut _ _ (neC _ _ _ hT hdT) hT, hdT, h3⟩, fun b o q hn => ?_⟩
  · subst z
    have := of_hideAll _ q
    rw [Heap.hide_self] at this
    cases this
  · have hb := Heap.of_hide q
    obtain ⟨sl, e2⟩ := r5 b o hb hn
    refine ⟨sl, hs.extBut _ _ (fun z => ?_) e2⟩
    subst z
    rw [Heap.hide_self] at q
    cases q

section
variable {M : Model} {A : Around} {E : Value → Shared → Prop} {s : Shared} {S : Heap} {l : List Env} {e : Addr} {fl : Value}
theorem pass_on {cenv : Env} {Q : Value → Shared → Prop} {what : String} (R : Raise S l e fl s.heap) (hE : ∀ fl' h', Raise S l e fl' h' → E (.ref e) { s with heap := h' }) : wpAny M A (PySem.passOn what (.ref e) cenv : Sem Value) Q E s := by
  obtain ⟨a0, r1, r2, r3, r4, r5⟩ := R
  obtain ⟨oe, vs, T, oT, ts, he, hc, hd, h1, hnT, hTe, hT, hdT, h3⟩ := r4
  have hsz3 : 3 < ts.size := (Array.getElem?_eq_some_iff.mp h3).1
  unfold PySem.passOn
  refine wpAny_bind (wpAny_field he hd h1 ?_)
  rw [if_neg (show ¬ ((Value.ref T == Value.none) = true) from by simp)]
  unfold setFlight
  refine wpAny_bind (wpAny_bind (wpAny_field he hd h1 ?_))
  rw [if_pos (show (Value.ref T != Value.none) = true from by simp)]
  refine wpAny_setField hT hdT hsz3 (wpAny_throw ?_)
  generalize hx : (cenv.frame.elim Value.none fun f => rawInt f) = fl'
  have other : ∀ b, b ≠ T → (s.heap.update T (Obj.mapFields (·.setIfInBounds 3 fl'))).get? b = s.heap.get? b := fun b hb => Heap.get?_update_other _ _ (Ne.symm hb)
  have noRecord : ∀ b o, s.heap.get? b = some o → (∀ vs, o.data ≠ .fields vs) → b ≠ T := fun b o hb hnf q => by
    rw [q, hT] at hb; injection hb with hb; subst hb; exact hnf ts hdT
  refine hE fl' _ ⟨a0, fun b o hbo => (other b fun q => by rw [q, hnT] at hbo; cases hbo).trans (r1 b o hbo), r2, r3.of_keeps fun b o hb hnf => ⟨o, (other b (noRecord b o hb hnf)).trans hb, rfl⟩, ?_,
    r5.trans fun b o hb hn => ⟨o.slots, (other b (noRecord b o hb hn)).trans hb⟩⟩
  exact ⟨oe, vs, T, _, _, (other e (Ne.symm hTe)).trans he, hc, hd, h1, hnT, hTe, Heap.get?_update_self _ hT (Obj.isFreed_of_fields (Obj.data_mapFields hdT _)), Obj.data_mapFields hdT _, by simp [hsz3]⟩
end

section
open LCg
variable {prog : Program} {w : World} {A : Around} {E : Value → Shared → Prop} {s : Shared} {h₀ : Heap} {L : Addr} {m : Str → Option Value} {env : Env} {outer : List Env}

/-- a list's walk whose element may raise: what each turn needs -/
def TurnX (prog : Program) (w : World) (A : Around) (h₀ : Heap) (L : Addr) (m : Str → Option Value) (env : Env) (outer : List Env) (elt : PySem.Expr) (x : Str) (scope : Scope) (cl : List (Str × Addr)) (s : Shared) (its : Array Value) (G : Nat → Value → Prop) (XX : Prop) (news : List (Addr × Obj)) : Prop :=
  ∀ i v C oC I oI D oD m₂ h tk (E' : Value → Shared → Prop), its[i]? = some v → NsObj oC m₂ → m₂ x = some v → Fr h₀ L h m → News h₀ L h ((I, oI) :: (C, oC) :: (D, oD) :: news) →
    (∀ e fl S h' tk', XX → Raise S (env :: outer) e fl h' → Fr h₀ L S m → (∃ mC, S.Ns C mC) → E' (.ref e) { s with heap := h', toks := tk' }) →
    wpAny (model prog w) A (eval elt (compEnvC scope cl C env)) (fun y s' => Halt (∃ h' tk', s' = { s with heap := h', toks := tk' } ∧ Fr h₀ L h' m ∧ News h₀ L h' ((I, oI) :: (C, oC) :: (D, oD) :: news) ∧ G i y)) E' { s with heap := h, toks := tk }

theorem comp_X {elt iter : PySem.Expr} {x : Str} {px : Pos} {scope : Scope} {cl : List (Str × Addr)} {pos : Pos} {ax : Addr} {its : Array Value} {G : Nat → Value → Prop} {XX : Prop} {news : List (Addr × Obj)} {RR : Value → Addr → Result → Shared → Prop}
    (hh : A.handled = none) (hfr : A.frames = some (env :: outer)) (hfL : env.frame = some L) (hout : ∀ a ∈ frs outer, ∃ o, h₀.get? a = some o) (hsz : its.size ≤ sizeLine)
    (hcell : ∀ y ∈ scope.names, y.2 ≠ .cell) (hkind : scope.kind = .function) (hx : scope.names.lookup x = some .local)
    (F : Fr h₀ L s.heap m) (N : News h₀ L s.heap news) (hax : SrcAt h₀ ax its news)
    (T : ∀ g, TurnX prog w A h₀ L m env outer elt x scope cl { s with heap := g } its G XX news)
    (fin : ∀ D C ys h tk m', ys.length = its.size → (∀ i y, ys[i]? = some y → G i y) → Fr h₀ L h m → News h₀ L h ((D, lst ys) :: news) → h.Ns C m' → h₀.get? C = none → h₀.get? D = none → C ≠ L → D ≠ L → C ≠ D → (∀ p ∈ news, p.1 ≠ D) → (∀ p ∈ news, p.1 ≠ C) → RR (.ref D) C (.ok .next) { s with heap := h, toks := tk })
    (exc : ∀ D C e S h tk, XX → Raise S (env :: outer) e (rawInt L) h → Fr h₀ L S m → (∃ mC, S.Ns C mC) → h₀.get? C = none → C ≠ L → C ∉ frs (env :: outer) → RR (.ref D) C (.error (.ref e)) { s with heap := h, toks := tk }) :
    wpAny (model prog w) A (pyIter (.ref ax)) (fun it s₂ => wpAny (model prog w) A (newList []) (fun acc s₃ => wpAny (model prog w) A (newFunctionEnv scope env.globals cl [] env.qual none .none (some env)) (fun cenv s₄ =>
      codeAny (model prog w) A (.compStart (.ListComp elt [⟨.Name x px, iter, [], 0⟩] scope pos) 0 it acc { cenv with scope := relabel scope env }) (RR acc cenv.locals) s₄) E s₃) E s₂) E s := by
  have hl : s.heap.IsList ax its := hax.list F.keep N
  have hlt : ax < s.heap.objs.size := by obtain ⟨_, e, _⟩ := hl; exact Heap.lt_size e
  refine wpAny_pyIter_list hl ?_
  refine wpAny_newObj_type (wpAny_newFunctionEnv hcell (by intro y hy; simp at hy) (fun h₁ hns₁ hsb₁ => ?_) hkind)
  dsimp only at hns₁ hsb₁ ⊢
  generalize hH1 : s.heap.push { cls := .type "list_iterator", data := .fields #[.ref ax, .int 0 0] } = H1 at hns₁ hsb₁ ⊢
  generalize hH2 : H1.push { cls := .type "list", dict := none, data := .seq ([] : List Value).toArray } = H2 at hns₁ hsb₁ ⊢
  have z1 : H1.objs.size = s.heap.objs.size + 1 := by rw [← hH1, Heap.size_push]
  have z2 : H2.objs.size = s.heap.objs.size + 2 := by rw [← hH2, Heap.size_push, z1]
  have up1 : ∀ b o, s.heap.get? b = some o → H1.get? b = some o := fun b o e => hH1 ▸ Heap.get?_push_of_some _ e
  have up2 : ∀ b o, H1.get? b = some o → H2.get? b = some o := fun b o e => hH2 ▸ Heap.get?_push_of_some _ e
  have up3 : ∀ b o, H2.get? b = some o → h₁.get? b = some o := fun b o e => hsb₁.extBut b o (Nat.ne_of_lt (Heap.lt_size e)) (Heap.get?_push_of_some _ e)
  have old : ∀ b o, s.heap.get? b = some o → h₁.get? b = some o := fun b o e => up3 b o (up2 b o (up1 b o e))
  have eI : h₁.get? s.heap.objs.size = some { cls := .type "list_iterator", data := .fields #[.ref ax, .int 0 0] } := up3 _ _ (up2 _ _ (hH1 ▸ Heap.get?_push_size _ rfl))
  have eD : h₁.get? H1.objs.size = some (lst []) := up3 _ _ (hH2 ▸ Heap.get?_push_size _ rfl)
  have fresh₀ : ∀ a, s.heap.objs.size ≤ a → h₀.get? a = none := fun a ha => by
    cases e : h₀.get? a with
    | none => rfl
    | some o' => exact absurd (Heap.lt_size (F.keep a o' e)) (Nat.not_lt.mpr ha)
  have hLlt : L < s.heap.objs.size := F.ns.lt
  have nlt : ∀ p ∈ news, p.1 < s.heap.objs.size := fun p hp => Heap.lt_size (N p hp).1
  have hax₁ : ax < s.heap.objs.size := hlt
  have cur : ∀ a, h₀.get? a = none → a ≠ L → a ∉ frs (env :: outer) := fun a e ne q => by
    obtain ⟨x', hx', hb⟩ := List.mem_filterMap.mp q
    rcases List.mem_cons.mp hx' with rfl | hx'
    · rw [hfL] at hb; exact ne (Option.some.inj hb).symm
    · obtain ⟨o, ho⟩ := hout a (List.mem_filterMap.mpr ⟨x', hx', hb⟩)
      rw [e] at ho; cases ho
  have I₀ := fresh₀ s.heap.objs.size (Nat.le_refl _)
  have D₀ := fresh₀ H1.objs.size (by omega)
  have C₀ := fresh₀ H2.objs.size (by omega)
  have IL : s.heap.objs.size ≠ L := Nat.ne_of_gt hLlt
  have DL : H1.objs.size ≠ L := Nat.ne_of_gt (Nat.lt_of_lt_of_le hLlt (by omega))
  have CL : H2.objs.size ≠ L := Nat.ne_of_gt (Nat.lt_of_lt_of_le hLlt (by omega))
  have IC : s.heap.objs.size ≠ H2.objs.size := by omega
  have ID : s.heap.objs.size ≠ H1.objs.size := by omega
  have CD : H2.objs.size ≠ H1.objs.size := by omega
  have aI : ax ≠ s.heap.objs.size := Nat.ne_of_lt hlt
  have nI : ∀ p ∈ news, p.1 ≠ s.heap.objs.size := fun p hp => Nat.ne_of_lt (nlt p hp)
  have nD : ∀ p ∈ news, p.1 ≠ H1.objs.size := fun p hp => Nat.ne_of_lt (Nat.lt_of_lt_of_le (nlt p hp) (by omega))
  have nC : ∀ p ∈ news, p.1 ≠ H2.objs.size := fun p hp => Nat.ne_of_lt (Nat.lt_of_lt_of_le (nlt p hp) (by omega))
  have aD : ax ≠ H1.objs.size := Nat.ne_of_lt (Nat.lt_of_lt_of_le hlt (by omega))
  have aC : ax ≠ H2.objs.size := Nat.ne_of_lt (Nat.lt_of_lt_of_le hlt (by omega))
  have cC := cur _ C₀ CL
  have W := Walks.list (prog := prog) (w := w) hh s.heap.objs.size ax aI its
  have loop : ∀ s₃ : Shared, s₃ = { s with heap := h₁, toks := s.toks + ([] : List (Str × Value)).length } →
      codeAny (model prog w) A (.compLoop (.ListComp elt [⟨.Name x px, iter, [], 0⟩] scope pos) 0 (.ref s.heap.objs.size) (.ref H1.objs.size) (compEnvC scope cl H2.objs.size env))
        (RR (.ref H1.objs.size) H2.objs.size) s₃ := by
    rintro s₃ rfl
    refine codeAny_compLoop_list
      (fun k s' => ∃ h' tk i ys m', s' = { s with heap := h', toks := tk } ∧ i ≤ its.size ∧ k = its.size + 1 - i ∧ ys.length = i ∧ (h'.IsListIter s.heap.objs.size ax i ∧ h'.IsList ax its) ∧ Fr h₀ L h' m ∧ h'.Ns H2.objs.size m' ∧ News h₀ L h' ((H1.objs.size, lst ys) :: news) ∧
        ∀ j y, ys[j]? = some y → G j y) ?_ (its.size + 1)
      ⟨h₁, _, 0, [], _, rfl, Nat.zero_le _, rfl, rfl, ⟨⟨_, eI, rfl, rfl⟩, let ⟨o, e, r⟩ := hl; ⟨o, old _ _ e, r⟩⟩, F.keeps old, hns₁, fun p hp => ?_, fun j y q => by simp at q⟩
    · rintro k s' ⟨h', tk, i, ys, m', rfl, hi, rfl, hyl, hst', F', hn', N', G'⟩
      by_cases hlt' : i < its.size
      · refine W.item i _ _ _ hlt' hst' fun v h₂ tk₂ hPv hst₂ hk₂ => ?_
        refine wpAny_assign_Name (wpAny_storeName_local (lookup_relabel_local hx) (hn'.at' fun o e => hk₂ _ o (by simpa using Ne.symm IC) e) (fun h₃ hn₃ hs₃ => ?_) (by simp [compEnvC, relabel, hkind]))
        have F₃ : Fr h₀ L h₃ m := (fr_but F' hk₂ (Ne.symm IL) I₀).change hs₃ CL C₀
        have st₃ : h₃.IsListIter s.heap.objs.size ax (i + 1) ∧ h₃.IsList ax its := W.frame _ _ _ hst₂ fun b hb o e => hs₃.extBut b o (fun q => by
          rcases List.mem_cons.mp hb with rfl | hb
          · exact IC q
          · exact absurd ((List.mem_singleton.mp hb).symm.trans q) aC) e
        obtain ⟨oI, heI⟩ : ∃ oI, h₃.get? s.heap.objs.size = some oI := by obtain ⟨o, e, _⟩ := st₃.1; exact ⟨o, e⟩
        obtain ⟨oC, heC, hoC⟩ := ns_obj hn₃
        have N₂ : News h₀ L h₂ ((H1.objs.size, lst ys) :: news) := news_but N' hk₂ fun p hp => by
          rcases List.mem_cons.mp hp with rfl | hp
          · exact Ne.symm ID
          · exact nI p hp
        have N₃ : News h₀ L h₃ ((s.heap.objs.size, oI) :: (H2.objs.size, oC) :: (H1.objs.size, lst ys) :: news) := fun p hp => by
          rcases List.mem_cons.mp hp with rfl | hp
          · exact ⟨heI, IL, I₀⟩
          · rcases List.mem_cons.mp hp with rfl | hp
            · exact ⟨heC, CL, C₀⟩
            · have z := N₂ p hp
              refine ⟨hs₃.extBut _ _ ?_ z.1, z.2⟩
              rcases List.mem_cons.mp hp with rfl | hp
              · exact Ne.symm CD
              · exact nC p hp
        refine wpAny_mono (T s.heap i v H2.objs.size oC s.heap.objs.size oI H1.objs.size _ _ h₃ _ _ hPv hoC (by simp) F₃ N₃ ?_) (fun y s₄ h₄ => ?_) fun _ _ e => e
        · intro e fl S h₄ tk₄ xx R₄ FS nS
          show wpAny _ _ (noteFrame (.ref e) _) _ _ _
          rw [noteFrame_frame (env' := compEnvC scope cl H2.objs.size env) (env := env) rfl]
          refine note_any hfr hfL R₄ fun h₅ R₅ u₅ => ?_
          show RR _ _ _ _
          exact exc _ _ e S h₅ _ xx R₅ FS nS C₀ CL cC
        · obtain ⟨h₄, tk₄, rfl, F₄, N₄, G₄⟩ := h₄
          have zI := (N₄ (s.heap.objs.size, oI) List.mem_cons_self).1
          have zC := (N₄ (H2.objs.size, oC) (List.mem_cons_of_mem _ List.mem_cons_self)).1
          have zD := (N₄ (H1.objs.size, lst ys) (List.mem_cons_of_mem _ (List.mem_cons_of_mem _ List.mem_cons_self))).1
          have N₄' : News h₀ L h₄ news := fun p hp => N₄ p (List.mem_cons_of_mem _ (List.mem_cons_of_mem _ (List.mem_cons_of_mem _ hp)))
          refine append_at (hsz := by show ys.toArray.size ≤ sizeLine; rw [List.size_toArray, hyl]; exact Nat.le_trans hi hsz) zD fun h₅ hs₅ hD₅ => ?_
          have st₄ : h₄.IsListIter s.heap.objs.size ax (i + 1) := by
            obtain ⟨o', q, r⟩ := st₃.1
            rw [heI] at q; cases q
            exact ⟨oI, zI, r⟩
          refine ⟨its.size + 1 - (i + 1), by omega, h₅, tk₄, i + 1, ys ++ [y], _, rfl, hlt', rfl, by rw [List.length_append, List.length_singleton, hyl], ⟨st₄.at fun o e => hs₅.extBut _ o ID e, let ⟨o, e, r⟩ := hax.list F₄.keep N₄'; ⟨o, hs₅.extBut _ _ aD e, r⟩⟩, F₄.change hs₅ DL D₀,
            (hoC.ns zC).sameBut hs₅ CD, fun p hp => ?_, fun j y' q => ?_⟩
          · rcases List.mem_cons.mp hp with rfl | hp
            · exact ⟨hD₅.trans (congrArg some (lst_snoc ys y)), DL, D₀⟩
            · exact ⟨hs₅.extBut _ _ (nD p hp) (N₄' p hp).1, (N₄' p hp).2⟩
          · by_cases hj : j < ys.length
            · rw [List.getElem?_append_left hj] at q
              exact G' j y' q
            · rw [List.getElem?_append_right (Nat.not_lt.mp hj)] at q
              cases hjj : j - ys.length with
              | zero =>
                rw [hjj] at q
                simp only [List.getElem?_cons_zero, Option.some.injEq] at q
                subst q
                have : j = i := by omega
                subst this
                exact G₄
              | succ k => rw [hjj] at q; simp at q
      · obtain rfl : i = its.size := Nat.le_antisymm hi (Nat.not_lt.mp hlt')
        refine W.done _ _ _ hst' fun h₂ tk₂ hk₂ => ?_
        have F₂ := fr_but F' hk₂ (Ne.symm IL) I₀
        have N₂ : News h₀ L h₂ ((H1.objs.size, lst ys) :: news) := news_but N' hk₂ fun p hp => by
          rcases List.mem_cons.mp hp with rfl | hp
          · exact Ne.symm ID
          · exact nI p hp
        exact fin _ _ ys h₂ tk₂ _ hyl G' F₂ N₂ (hn'.at' fun o e => hk₂ _ o (by simpa using Ne.symm IC) e) C₀ D₀ CL DL CD nD nC
    · rcases List.mem_cons.mp hp with rfl | hp
      · exact ⟨eD, DL, D₀⟩
      · exact ⟨old _ _ (N p hp).1, (N p hp).2⟩
  exact codeAny_compStart_list (loop _ rfl) (W.self 0 _ _ _ ⟨⟨_, eI, rfl, rfl⟩, let ⟨o, e, r⟩ := hl; ⟨o, old _ _ e, r⟩⟩ (loop _ rfl))

/-- x = [element for ..], where an element may raise -/
theorem Assign_comp_X {elt iter : PySem.Expr} {x y : Str} {px py : Pos} {scope : Scope} {cl : List (Str × Addr)} {pos spos : Pos} {Q : Flow → Shared → Prop} (F₀ : Fr h₀ L s.heap m) (hLe : env.locals = L)
    (hsw : swapsWith (.ListComp elt [⟨.Name x px, iter, [], 0⟩] scope pos) (some (.Name y py)) spos.line env = pure true)
    (hclos : closureFor scope env = pure cl) (hcell : ∀ z ∈ scope.names, z.2 ≠ .cell) (hkind : scope.kind = .function)
    (hnames : ∀ z ∈ scope.names, z.2 = .local → scope.names.lookup z.1 = some .local) (hx : scope.names.lookup x = some .local)
    (hy : env.kindOf y = some .local) (hp : (env.scope.kind == .class || (env.scope.kind == .module && env.locals != env.globals)) = false)
    (hh : A.handled = none) (hfr : A.frames = some (env :: outer)) (hfL : env.frame = some L) (hout : ∀ a ∈ frs outer, ∃ o, h₀.get? a = some o)
    (h : wpAny (model prog w) A (eval iter env) (fun xv s₁ => Halt (∃ ax its news G XX, xv = .ref ax ∧ Fr h₀ L s₁.heap m ∧ News h₀ L s₁.heap news ∧ SrcAt h₀ ax its news ∧ its.size ≤ sizeLine ∧
      (∀ g, TurnX prog w A h₀ L m env outer elt x scope cl { s₁ with heap := g } its G XX news) ∧
      (∀ D ys h tk, ys.length = its.size → (∀ i y, ys[i]? = some y → G i y) → Fr h₀ L h (fun z => if z = y then some (.ref D) else m z) → News h₀ L h ((D, lst ys) :: news) → (∀ p ∈ news, p.1 ≠ D) → Q .next { s₁ with heap := h, toks := tk }) ∧
      (∀ e fl S h tk, XX → Raise S (env :: outer) e fl h → Fr h₀ L S m → E (.ref e) { s₁ with heap := h, toks := tk }))) E s)
    (hs : ∀ x, foldedSetIterable iter env x = pure x := by intro _; rfl) :
    wpAny (model prog w) A (exec (.Assign [.Name y py] (.ListComp elt [⟨.Name x px, iter, [], 0⟩] scope pos) spos) env) Q E s := by
  subst hLe
  rw [exec_Assign_Name_used _ _ _ _ hsw]
  refine wpAny_bind (wpAny_standAt (wpAny_bind ?_))
  show wpAny _ A (do let _ ← comprehension (.ListComp elt [⟨.Name x px, iter, [], 0⟩] scope pos) scope env _ (newList []) false (eval iter env) (some (assign (.Name y py) env))) _ _ s
  refine wpAny_bind (wpAny_mono (wpAny_comprehension_free (use := some (assign (.Name y py) env)) (Q := fun _ s' => Q .next s') rfl hs hclos hkind hnames
    (wpAny_mono h (fun xv s₁ h₁ => ?_) fun _ _ e => e)) (fun _ s' hq => wpAny_pure (wpAny_pure hq)) fun _ _ e => e)
  obtain ⟨ax, its, news, G, XX, rfl, F, N, hax, hsz, T, fin, exc⟩ := h₁
  refine comp_X hh hfr hfL hout hsz hcell hkind hx F N hax T (fun D C ys h' tk m' hl hG F' N' hn hC₀ hD₀ hCL hDL hCD offD offC => ?_) (fun D C e S h' tk xx R FS nS hC₀ hCL cC => ?_)
  · show wpAny _ A (assign (.Name y py) env (.ref D)) _ _ _
    refine wpAny_assign_Name (wpAny_storeName_local hy F'.ns (fun h₂ hn₂ hs₂ => ?_) hp)
    have hL₀ : h₀.get? env.locals = none := Heap.get?_none_of_le F'.above
    have F₂ : Fr h₀ env.locals h₂ (fun z => if z = y then some (.ref D) else m z) := ⟨hn₂, fun b o e => hs₂.extBut b o (fun q => by rw [q, hL₀] at e; cases e) (F'.keep b o e), F'.above⟩
    refine ⟨m', hn.sameBut hs₂ hCL, fun h'' hs'' => fin D ys h'' _ hl hG (F₂.change hs'' hCL hC₀) (fun p hp => ?_) offD⟩
    have z : h₂.get? p.1 = some p.2 := hs₂.extBut _ _ (N' p hp).2.1 (N' p hp).1
    refine ⟨hs''.extBut _ _ ?_ z, (N' p hp).2⟩
    rcases List.mem_cons.mp hp with rfl | hp
    · exact Ne.symm hCD
    · exact offC p hp
  · obtain ⟨mC, nS'⟩ := nS
    have up : S.UpToSlots h' := by obtain ⟨_, _, _, _, _, r5⟩ := R; exact r5
    exact ⟨mC, up.ns nS', fun h₆ hs₆ cenv' _ => pass_on (R.but hs₆ ⟨mC, nS'⟩ cC) fun fl' h₇ R₇ => exc e fl' _ h₇ _ xx R₇ ⟨FS.ns.at' fun o q => (Heap.hide_ne S (Ne.symm hCL)).trans q, fun b o q => (Heap.hide_ne S (fun z => by rw [z, hC₀] at q; cases q)).trans (FS.keep b o q), FS.above⟩⟩
end
end
section -- R6
open PySem PySem.W PyProof.Rows PySem.Spec PySem.Calls
/-- a TreeFault, just made -/
def FaultAt (h : Heap) (e : Addr) : Prop := ∃ t d, h.get? e = some { cls := .ref 59, dict := some d, data := .fields #[.ref t, .none, .none, .none, .bool false, .none] }
section
variable {w : World} {A : Around} {E : Value → Shared → Prop} {s : Shared} {env : Env}
theorem raise_tf {c : PySem.Expr} {pos : Pos} {Q : Flow → Shared → Prop} (hh : A.handled = none)
    (h : wpAny (model PySem.Challenge.rw_pb0479_01.row.prog w) A (eval c env) (fun v s₁ => Halt (∃ e, v = .ref e ∧ (hd.heap_1 w.params).In s₁.heap ∧ FaultAt s₁.heap e ∧ E (.ref e) s₁)) E s) :
    wpAny (model PySem.Challenge.rw_pb0479_01.row.prog w) A (exec (.Raise (some c) none pos) env) Q E s := by
  rw [arm_exec_Raise]
  refine wpAny_bind (wpAny_standAt ?_)
  show wpAny _ A (raiseStmt env (some (do let v ← eval c env; standAt pos; pure v)) none) _ _ _
  unfold raiseStmt
  refine wpAny_bind (wpAny_bind (wpAny_mono h (fun v s₁ h₁ => wpAny_bind (wpAny_standAt (wpAny_pure ?_))) fun _ _ x => x))
  obtain ⟨e, rfl, X, ⟨t, d, he⟩, hE⟩ := h₁
  obtain ⟨hp, g, dr, tk, os⟩ := s₁
  have hC := X 59 _ (by rfl)
  have hcB : ([.ref 59, .ref 46, .type "Exception", .type "BaseException", .type "object"] : List Value).contains (.type "BaseException") = true := by decide
  repeat (first | with_reducible refine wpAny_loadPart_at he ?_ | with_reducible refine wpAny_loadPart_at hC ?_ | (with_reducible refine wpAny_isSubtype_exc (bm := [.ref 46, .type "Exception", .type "BaseException", .type "object"]) hC ?_; rw [hcB]) | wp_step)
  exact wpAny_raiseNew_none hh hE
end
end
end
section
local macro_rules | `(tactic| tlg_ne) => `(tactic| first | with_reducible assumption | exact And.left (by with_reducible assumption) | exact And.right (by with_reducible assumption) | exact And.left (And.right (by with_reducible assumption)) | exact And.right (And.right (by with_reducible assumption)) | exact And.left (And.right (And.right (by with_reducible assumption))) | exact And.right (And.right (And.right (by with_reducible assumption))) | exact And.left (And.right (And.right (And.right (by with_reducible assumption)))) | exact And.right (And.right (And.right (And.right (by with_reducible assumption)))) | exact And.left (And.right (And.right (And.right (And.right (by with_reducible assumption))))) | exact And.right (And.right (And.right (And.right (And.right (by with_reducible assumption))))) | exact And.left (And.right (And.right (And.right (And.right (And.right (by with_reducible assumption)))))) | exact And.right (And.right (And.right (And.right (And.right (And.right (by with_reducible assumption)))))) | exact And.left (And.right (And.right (And.right (And.right (And.right (And.right (by with_reducible assumption))))))) | exact And.right (And.right (And.right (And.right (And.right (And.right (And.right (by with_reducible assumption))))))) | exact And.left (And.right (And.right (And.right (And.right (And.right (And.right (And.right (by with_reducible assumption)))))))) | exact And.left (And.right (And.right (And.right (And.right (And.right (And.right (And.right (And.right (by with_reducible assumption))))))))) | exact And.left (And.right (And.right (And.right (And.right (And.right (And.right (And.right (And.right (And.right (by with_reducible assumption)))))))))))
section
local macro_rules | `(tactic| lcg_off) => `(tactic| first | tlg_ne | (refine Nat.lt_trans ?_ (by with_reducible assumption); first | tlg_ne | (refine Nat.lt_trans ?_ (by with_reducible assumption); tlg_ne)) | (refine Nat.lt_succ_of_lt ?_; tlg_ne) | (refine Nat.lt_succ_of_lt (Nat.lt_succ_of_lt ?_); tlg_ne))
section
local macro_rules | `(tactic| k_ne) => `(tactic| (refine neN ?_; (try dsimp only); first | tlg_ne | exact Ne.symm (by tlg_ne) | exact Nat.ne_of_gt (by lcg_off) | exact Nat.ne_of_lt (by lcg_off)))
section -- C1
open PySem PySem.W PyProof.Rows PySem.Spec PySem.Calls
theorem lines_C1_1 : True := by
  k_with_none
  k_with "Zspliced" => (k_here; k_dflt (refine' args_simG (by rfl) (by rfl) (by k_asm) (by rfl) ?_; k_whole); (try dsimp only [List.cons_append, List.nil_append]))
  trivial

noncomputable def defAt (i : Nat) : Option Stmt := PySem.Challenge.pw_pb0479_01.main.body[i]?
noncomputable def stmtsOf : Option Stmt → List Stmt
  | some (.FunctionDef _ _ b _ _ _ _ _ _ _) => b
  | _ => []
noncomputable def paramsOf : Option Stmt → Arguments
  | some (.FunctionDef _ a _ _ _ _ _ _ _ _) => a
  | _ => ⟨[], [], none, [], [], none, []⟩
noncomputable def scopeOf : Option Stmt → Scope
  | some (.FunctionDef _ _ _ _ _ _ s _ _ _) => s
  | _ => default
noncomputable def takeStmt : Option Stmt := (stmtsOf (defAt 31))[3]?
noncomputable def takeParams : Arguments := paramsOf takeStmt
noncomputable def takeBody : List Stmt := stmtsOf takeStmt
noncomputable def takeScope : Scope := scopeOf takeStmt

/-- the function object of take, its two cells and the list of ints; the place cell's list is pl -/
inductive TakeAt (h : Heap) (f pl : Addr) (ns : List Int) : Prop
  | mk (qual : Str) (dc pm : Value) (c' : Addr) (ct : Value) (oc : Obj) (vs : Array Value) (t : Tok) (c1 c2 : Addr) (o1 o2 : Obj) (cl : Addr) (ws : List Value) (n : Nat)
      (e1 : h.get? f = some (fnMade (Str.ofString "take") qual takeParams takeBody takeScope [(Str.ofString "place", c1), (Str.ofString "cells", c2)] dc pm c' ct))
      (e2 : h.get? c' = some oc) (e3 : oc.data = .fields vs) (e4 : vs[1]? = some (.str qual t)) (e5 : h.get? c1 = some o1) (e6 : o1.data = .cell (some (.ref pl))) (e7 : h.get? c2 = some o2) (e8 : o2.data = .cell (some (.ref cl)))
      (e9 : h.get? cl = some (W.listOf ws.toArray n)) (e10 : cl ≠ pl) (e11 : IntsAre ws ns) (ne : ns ≠ []) (len : ns.length ≤ 63) : TakeAt h f pl ns

theorem ne_of_data {h : Heap} {a b : Addr} {oa ob : Obj} {its : Array Value} {n : Nat} (ha : h.get? a = some oa) (hb : h.get? b = some ob) (db : ob.data = .seq its n) (da : ∀ its n, oa.data ≠ .seq its n) : a ∉ [b] := by
  intro q
  rw [List.mem_singleton.mp q, hb] at ha
  cases ha
  exact da _ _ db
section
variable {M : Model} {A : Around} {E : Value → Shared → Prop} {s : Shared} {h₀ : Heap} {L a : Addr} {m : Str → Option Value} {cn : Str} {cs : Scope} {ccd : Value} {cl : List (Str × Addr)} {x : Str} {pos : Pos} {v : Value} {Q : Value → Shared → Prop} {c : Addr} {o : Obj}
theorem nameF_h (F : Fr h₀ L s.heap m) (hc : cl.lookup x = some c) (ho : h₀.get? c = some o) (hd : o.data = .cell (some v)) (h : Q v s)
    (hk : cs.kind = .function := by rfl) (hx : (envX cn cs L a ccd cl).kindOf x = some .free := by rfl) (hb : (x == ("__debug__" : Str)) = false := by decide) (hn : (x == ("__classdict__" : Str)) = false := by decide) :
    wpAny M A (eval (.Name x pos) (envX cn cs L a ccd cl)) Q E s := wpAny_Name (wpAny_loadName_free hk hx hc ⟨o, F.keep _ _ ho, hd⟩ h hn) hb
end
local macro_rules | `(tactic| k_room) => `(tactic| first | exact roomK 1 (by assumption) (by decide) | exact unitK 1 (by assumption) (by decide) | exact unit2 1 (by assumption) (by decide) | exact roomM 1 (by assumption) (by decide) | exact unitM 1 (by assumption) (by decide) | exact roomK 2 (by assumption) (by decide) | exact unitK 2 (by assumption) (by decide) | exact roomZ (by assumption) | exact roomZM (by assumption) | ((try simp only [depth_under_make, depth_under_kw, depth_in1, depth_deeper]); (try dsimp only); omega))

theorem lines_C1_2 : True := by
  k_with "Zeval Name" => (k_here; k_dflt (refine' nameF_h (by k_asm) (by rfl) (by k_asm) (by k_asm) ?_ (by rfl) (by rfl); k_whole))
  trivial
theorem pow7_pos (n : Nat) : (0 : Int) < 720720 ^ n := by
  induction n with
  | zero => decide
  | succ n ih => rw [Int.pow_succ]; omega
theorem pow7_ne (n : Nat) : (720720 : Int) ^ n ≠ 0 := Int.ne_of_gt (pow7_pos n)
theorem pow7_nat (n : Nat) : ((720720 : Int) ^ n).natAbs = 720720 ^ n := by
  rw [Int.natAbs_pow]; rfl
theorem pow7_log (n : Nat) (h : n ≤ 400) : ((720720 : Int) ^ n).natAbs.log2 < 9000 := by
  rw [pow7_nat]
  refine (Nat.log2_lt (Nat.ne_of_gt (Nat.pow_pos (by decide)))).mpr ?_
  have h1 : (720720 : Nat) ^ n ≤ (2 ^ 20) ^ n := Nat.pow_le_pow_left (by decide) n
  have h2 : ((2 : Nat) ^ 20) ^ n < 2 ^ 9000 := by
    rw [← Nat.pow_mul]
    exact Nat.pow_lt_pow_right (by decide) (by omega)
  exact Nat.lt_of_le_of_lt h1 h2
theorem level_bounds {k n : Int} (h0 : 0 ≤ k) (h1 : k < 400) (hn : 0 < n) : 0 ≤ k.fdiv n ∧ k.fdiv n ≤ 400 ∧ (k.fdiv n).toNat ≤ 400 ∧ 0 ≤ k.fmod n ∧ k.fmod n < n := by
  have e := Int.fdiv_eq_ediv_of_nonneg k (Int.le_of_lt hn)
  have e2 := Int.fmod_eq_emod_of_nonneg k (Int.le_of_lt hn)
  rw [e, e2]
  have a := Int.ediv_nonneg h0 (Int.le_of_lt hn)
  have b : k / n ≤ k := Int.ediv_le_self _ h0
  have c := Int.emod_nonneg k (Int.ne_of_gt hn)
  have d := Int.emod_lt_of_pos k hn
  refine ⟨a, by omega, by omega, c, d⟩

theorem lines_C1_3 : True := by
  k_with "ZbinaryOp Pow int int" => (k_here; (with_reducible refine pow_int_small (by assumption) (Int.le_trans (by assumption) (by decide)) (by decide) ?_))
  k_with "ZbinaryOp FloorDiv int int" => (k_here; (with_reducible refine floordiv_int (pow7_ne _) ?_ (Or.inl (PyProof.noPylong_of_log2 (pow7_log _ (by assumption))))))
  trivial
section
variable {w : World} {A₀ A : Around} {s : Shared} {base h₀ : Heap} {outer : List Env} {L : Addr} {m mg mb : Str → Option Value} {env : Env} {p : Program} {loose : List Str} {mean : ExcName → Option Value}
  {E : Value → Shared → Prop} {Q : Value → Shared → Prop} {news : List (Addr × Obj)} {g : Obj → List (Addr × Obj)}
theorem take_call {f pl : Addr} {ns : List Int} {k : Int} {tk0 : Tok} {n0 : Nat} {lim : Int} {tl : Tok}
    (B : Below A₀ base outer h₀) (F : Fr h₀ L s.heap m) (X : (hd.heap_1 w.params).In h₀) (T : Top p loose mean mg mb h₀) (N : News h₀ L s.heap news)
    (Tk : TakeAt s.heap f pl ns) (U : UpdF pl (W.listOf #[.int k tk0] n0) news g)
    (hA : A.frames = some (env :: outer)) (hf : env.frame = some L) (hke : env.scope.kind = .function) (hroom : A.depth + 2 < recursionLimit) (hun : A.units + 30 < cLine)
    (hk0 : 0 ≤ k) (hk1 : k < 400) (hl0 : 0 < lim) (hl1 : lim < 1000)
    (ret : ∀ r tr tk1 h' tk', 0 ≤ r → r < lim → Fr h₀ L h' m → News h₀ L h' (g (W.listOf #[.int (k + 1) tk1] n0)) → Keeps [pl] s.heap h' → Q (.int r tr) { s with heap := h', toks := tk' }) :
    wpAny (model PySem.Challenge.rw_pb0479_01.row.prog w) A (call (.ref f) [.int lim tl]) Q E s := by
  revert X
  k_fill
  intro X
  obtain ⟨qual, dc, pm, c', ct, oc, vs, t, c1, c2, o1, o2, cl, ws, n', e1, e2, e3, e4, e5, e6, e7, e8, e9, e10, e11, ne, len⟩ := Tk
  have Nm : News h₀ L s.heap [(pl, W.listOf #[.int k tk0] n0)] := news_sub N (fun q hq => by rw [List.mem_singleton.mp hq]; exact updF_mem U)
  refine wpAny_call ?_
  refine enterG _ B F X T Nm hA hf hke e1 rfl ⟨c', oc, vs, t, rfl, e2, e3, e4⟩ (by omega) (BindsTo.of_eq rfl) (locs rfl) ?_ (by decide) rfl rfl rfl
  intro g' L' h' hg1 hg2 hg3 hL F' N' B' X' T' hlt
  have e5' := hg1 _ _ e5 (by exact ne_of_data e5 (N _ (updF_mem U)).1 rfl (fun _ _ q => by rw [e6] at q; cases q))
  have e7' := hg1 _ _ e7 (by exact ne_of_data e7 (N _ (updF_mem U)).1 rfl (fun _ _ q => by rw [e8] at q; cases q))
  have e9' : g'.IsList cl ws.toArray := ⟨_, hg1 _ _ e9 (fun q => e10 (List.mem_singleton.mp q)), rfl, _, rfl⟩
  have F₀ := F
  have N₀ := N
  have hpl0 : ∀ a ∈ [pl], a ≠ L ∧ h₀.get? a = none := fun a ha => by rw [List.mem_singleton.mp ha]; exact (Nm _ (.head _)).2
  clear hg2 hg3 X N T F B e1 e2 e3 e4 e5 e7 e9 hf hke hA
  generalize hbd : takeBody = bd
  have hbd2 := hbd
  conv at hbd2 => lhs; whnf
  subst hbd2
  generalize hsc : takeScope = sc at *
  have hsc2 := hsc
  conv at hsc2 => lhs; whnf
  subst hsc2
  have hkk : [k].getD (Int.toNat 0) 0 = k := rfl
  have hpos : 0 < (ns.length : Int) := by have := List.length_pos_iff.mpr ne; omega
  have hlen9 : (ns.length : Int) ≤ 63 := by omega
  obtain ⟨hb1, hb2, hb3, hb4, hb5⟩ := level_bounds (k := [k].getD (Int.toNat 0) 0) hk0 hk1 hpos
  show wpAny _ _ _ _ _ _
  k_fold
  k_steps
  (with_reducible rename Fr _ _ _ _ => F')
  (with_reducible rename News _ _ _ _ => N')
  have kp := keeps_back F' hg1 hL
  refine ret _ _ _ _ _ (Int.fmod_nonneg_of_pos _ hl0) (Int.fmod_lt_of_pos _ hl0) (fr_keeps F₀ kp hpl0) (news_updF N₀ U kp (N' _ (.head _)).1) kp
end
end
section -- C2
open PySem PySem.W PyProof.Rows PySem.Spec PySem.Calls
theorem lines_C2_1 : True := by
  k_with_none
  k_with "Zspliced" => (k_here; k_dflt (refine' args_simG (by rfl) (by rfl) (by k_asm) (by rfl) ?_; k_whole); (try dsimp only [List.cons_append, List.nil_append]))
  trivial

abbrev PR : Program := PySem.Challenge.rw_pb0479_01.row.prog
abbrev ik (w : World) : KeyKind PR w Int := intKind PR w
abbrev sk (w : World) : KeyKind PR w Str := strKind PR w

theorem dictOf_keeps {w : World} {K : Type} [DecidableEq K] {knd : KeyKind PR w K} {h h' : Heap} {d : Addr} {kvs : List (K × Value)} (x : h.DictOf knd d kvs) (k : ∀ b o, h.get? b = some o → h'.get? b = some o) : h'.DictOf knd d kvs := by
  obtain ⟨o, ho, r⟩ := Heap.dictOf_iff.mp x
  exact Heap.dictOf_iff.mpr ⟨o, k _ _ ho, r⟩

/-- a dict that is not sys.modules -/
structure DctAt {w : World} {K : Type} [DecidableEq K] (knd : KeyKind PR w K) (h : Heap) (d : Addr) (kvs : List (K × Value)) : Prop where
  at_ : h.DictOf knd d kvs
  lo : (d == sysModules) = false

/-- an object of a class, its own dict -/
def InA (h : Heap) (x C dx : Addr) (es : List DictEntry) (n : Nat) : Prop := h.get? x = some (instObj C dx) ∧ h.get? dx = some (dictOf es n)

structure RefAt (h : Heap) (x : Addr) (n : Int) : Prop where
  ex : ∃ dx es k tn tg, InA h x 254 dx es k ∧ getL (Str.ofString "number") es = some (some (.int n tn)) ∧ getL (Str.ofString "generation") es = some (some (.int 0 tg))
structure NameAt (h : Heap) (x : Addr) (u : Str) : Prop where
  ex : ∃ dx es k t, InA h x 183 dx es k ∧ getL (Str.ofString "text") es = some (some (.str u t))
structure ShelfAt (h : Heap) (sh tb : Addr) : Prop where
  ex : ∃ dx es k, InA h sh 363 dx es k ∧ getL (Str.ofString "table") es = some (some (.ref tb)) ∧ getL (Str.ofString "fetch") es = some none ∧ getL (Str.ofString "get") es = some none ∧ getL (Str.ofString "add") es = some none

/-- no reference: what fetch hands on -/
inductive NotRef (h : Heap) : Value → Prop
  | none : NotRef h .none
  | int {i : Int} {t : Tok} : NotRef h (.int i t)
  | list {a : Addr} {o : Obj} : h.get? a = some o → o.cls = .type "list" → NotRef h (.ref a)
  | dict {a : Addr} {o : Obj} : h.get? a = some o → o.cls = .type "dict" → NotRef h (.ref a)
  | name {a dx : Addr} {es : List DictEntry} {n : Nat} : h.get? a = some (instObj 183 dx) → h.get? dx = some (dictOf es n) → NotRef h (.ref a)

/-- the table: number i + 1 is told vals[i] -/
structure TabObj (w : World) (h : Heap) (otb : Obj) (vals : List Value) : Prop where
  ex : ∃ kvs, otb.IsDictOf (ik w) kvs ∧ kvs.length = vals.length ∧ (∀ n : Int, ¬ (1 ≤ n ∧ n ≤ vals.length) → valueAt kvs n = none) ∧
    ∀ n : Int, ∀ v, 1 ≤ n → vals[(n - 1).toNat]? = some v → ∃ p t k, valueAt kvs n = some (.ref p) ∧ h.get? p = some ({ cls := .type "tuple", data := .seq #[.int 0 t, v] k } : Obj)
structure TabAt (w : World) (h : Heap) (tb : Addr) (vals : List Value) : Prop where
  ex : ∃ otb, h.get? tb = some otb ∧ TabObj w h otb vals
  lo : (tb == sysModules) = false
  not : ∀ v ∈ vals, NotRef h v

/-- the same at once: one case to open -/
inductive RefW (h : Heap) (x : Addr) (n : Int) : Prop
  | mk (dx : Addr) (es : List DictEntry) (q : Nat) (tn tg : Tok) (r1 : h.get? x = some (instObj 254 dx)) (r2 : h.get? dx = some (dictOf es q)) (r3 : getL (Str.ofString "number") es = some (some (.int n tn))) (r4 : getL (Str.ofString "generation") es = some (some (.int 0 tg)))
inductive NameW (h : Heap) (x : Addr) (u : Str) : Prop
  | mk (dx : Addr) (es : List DictEntry) (q : Nat) (t : Tok) (n1 : h.get? x = some (instObj 183 dx)) (n2 : h.get? dx = some (dictOf es q)) (n3 : getL (Str.ofString "text") es = some (some (.str u t)))
inductive ShelfW (h : Heap) (sh tb : Addr) : Prop
  | mk (dx : Addr) (es : List DictEntry) (q : Nat) (i1 : h.get? sh = some (instObj 363 dx)) (i2 : h.get? dx = some (dictOf es q)) (j1 : getL (Str.ofString "table") es = some (some (.ref tb))) (j2 : getL (Str.ofString "fetch") es = some none) (j3 : getL (Str.ofString "get") es = some none) (j4 : getL (Str.ofString "add") es = some none)
inductive TabW (w : World) (h : Heap) (tb : Addr) (vals : List Value) : Prop
  | mk (otb : Obj) (to : h.get? tb = some otb) (kvs : List (Int × Value)) (tk : otb.IsDictOf (ik w) kvs) (tl : kvs.length = vals.length) (tno : ∀ n : Int, ¬ (1 ≤ n ∧ n ≤ vals.length) → valueAt kvs n = none)
      (tye : ∀ n : Int, ∀ v, 1 ≤ n → vals[(n - 1).toNat]? = some v → ∃ p t k, valueAt kvs n = some (.ref p) ∧ h.get? p = some ({ cls := .type "tuple", data := .seq #[.int 0 t, v] k } : Obj)) (tlo : (tb == sysModules) = false) (tnr : ∀ v ∈ vals, NotRef h v)
theorem RefAt.w {h : Heap} {x : Addr} {n : Int} (a : RefAt h x n) : RefW h x n := let ⟨dr, er, qr, tn, tg, ⟨r1, r2⟩, r3, r4⟩ := a.ex; ⟨dr, er, qr, tn, tg, r1, r2, r3, r4⟩
theorem NameAt.w {h : Heap} {x : Addr} {u : Str} (a : NameAt h x u) : NameW h x u := let ⟨dn, en, qn, tn, ⟨n1, n2⟩, n3⟩ := a.ex; ⟨dn, en, qn, tn, n1, n2, n3⟩
theorem ShelfAt.w {h : Heap} {x tb : Addr} (a : ShelfAt h x tb) : ShelfW h x tb := let ⟨dx, es, q, ⟨i1, i2⟩, j1, j2, j3, j4⟩ := a.ex; ⟨dx, es, q, i1, i2, j1, j2, j3, j4⟩
theorem TabAt.w {w : World} {h : Heap} {tb : Addr} {vals : List Value} (a : TabAt w h tb vals) : TabW w h tb vals := let ⟨⟨otb, to, ⟨kvs, tk, tl, tno, tye⟩⟩, tlo, tnr⟩ := a; ⟨otb, to, kvs, tk, tl, tno, tye, tlo, tnr⟩

section
variable {h h' : Heap} (k : ∀ b o, h.get? b = some o → h'.get? b = some o)
include k
theorem NotRef.keeps {v : Value} (x : NotRef h v) : NotRef h' v := by
  cases x with
  | none => exact .none
  | int => exact .int
  | list a b => exact .list (k _ _ a) b
  | dict a b => exact .dict (k _ _ a) b
  | name a b => exact .name (k _ _ a) (k _ _ b)
theorem InA.keeps {x C dx : Addr} {es : List DictEntry} {n : Nat} (a : InA h x C dx es n) : InA h' x C dx es n := ⟨k _ _ a.1, k _ _ a.2⟩
theorem RefAt.keeps {x : Addr} {n : Int} (a : RefAt h x n) : RefAt h' x n := let ⟨dx, es, q, tn, tg, i, r⟩ := a.ex; ⟨⟨dx, es, q, tn, tg, i.keeps k, r⟩⟩
theorem NameAt.keeps {x : Addr} {u : Str} (a : NameAt h x u) : NameAt h' x u := let ⟨dx, es, q, t, i, r⟩ := a.ex; ⟨⟨dx, es, q, t, i.keeps k, r⟩⟩
theorem ShelfAt.keeps {x tb : Addr} (a : ShelfAt h x tb) : ShelfAt h' x tb := let ⟨dx, es, q, i, r⟩ := a.ex; ⟨⟨dx, es, q, i.keeps k, r⟩⟩
theorem TabObj.keeps {w : World} {otb : Obj} {vals : List Value} (a : TabObj w h otb vals) : TabObj w h' otb vals := by
  obtain ⟨kvs, a, b, c, d⟩ := a.ex
  exact ⟨kvs, a, b, c, fun n v h1 h2 => let ⟨p, t, q, e1, e2⟩ := d n v h1 h2; ⟨p, t, q, e1, k _ _ e2⟩⟩
theorem TabAt.keeps {w : World} {tb : Addr} {vals : List Value} (a : TabAt w h tb vals) : TabAt w h' tb vals := by
  obtain ⟨otb, e, t⟩ := a.ex
  exact ⟨⟨otb, k _ _ e, t.keeps k⟩, a.lo, fun v hv => (a.not v hv).keeps k⟩
theorem DctAt.keeps {w : World} {K : Type} [DecidableEq K] {knd : KeyKind PR w K} {d : Addr} {kvs : List (K × Value)} (a : DctAt knd h d kvs) : DctAt knd h' d kvs := ⟨dictOf_keeps a.at_ k, a.lo⟩
end

-- rules over what the base holds
section
variable {w : World} {A : Around} {E : Value → Shared → Prop} {s : Shared} {K : Frag} {x C dx L : Addr} {h₀ : Heap} {m : Str → Option Value} {od : Obj} {es : List DictEntry} {n : Nat} {name : Str} {v : Value}
theorem inst_base {h : Heap} (F : Fr h₀ L h m) (e1 : h₀.get? x = some (instObj C dx)) (e2 : h₀.get? dx = some od) : PySem.W.InstAt h x (instObj C dx) C (some od) := ⟨F.keep _ _ e1, rfl, rfl, F.keep _ _ e2⟩
theorem kitAt_base {h : Heap} {a : Addr} {o : Obj} {T : String} (F : Fr h₀ L h m) (e : h₀.get? a = some o) (hc : o.cls = .type T) : KitAt a T h := ⟨o, F.keep _ _ e, hc⟩
variable {KT : Type} {_iKT : DecidableEq KT} {knd : KeyKind PR w KT} {d : Addr} {kvs : List (KT × Value)} {key dflt : Value} {k : KT}
theorem dget_method {pl : Sem Bool} {Q : Value × List Value → Shared → Prop} (F : Fr h₀ L s.heap m) (hd : DctAt knd h₀ d kvs) (h : Q (.builtin "dict.get", [.ref d]) s) : wpAny (model PR w) A (getMethod (.ref d) (Str.ofString "get") pl) Q E s :=
  have hD := dictOf_keeps hd.at_ F.keep
  getMethod_builtin hD.typeIs PySem.F.plainAttrs_dict PySem.F.slot_dict_get PySem.F.type_dict_get hD.mapOf.noDict h
theorem dget1 {Q : Value → Shared → Prop} {y : Value} (F : Fr h₀ L s.heap m) (hd : DctAt knd h₀ d kvs) (hkey : knd.is k key = true) (hl : (valueAt kvs k).getD .none = y) (h : Q y { s with toks := s.toks + 1 }) :
    wpAny (model PR w) A (call (.builtin "dict.get") [.ref d, key]) Q E s :=
  have hD := dictOf_keeps hd.at_ F.keep
  call_meetsIn PySem.F.slot_dict_get hD.typeIs PySem.F.entry_dict_get (PySem.F.args_dict_get_2 _ _) (meets_dict_get knd d hkey hd.lo) ⟨_, hD.mapOf, by rw [hl]; exact h⟩
theorem dget2 {Q : Value → Shared → Prop} (F : Fr h₀ L s.heap m) (hd : DctAt knd h₀ d kvs) (hkey : knd.is k key = true) {x : Option Value} (hl : valueAt kvs k = x) (h : Q (x.getD dflt) { s with toks := s.toks + 1 }) :
    wpAny (model PR w) A (call (.builtin "dict.get") [.ref d, key, dflt]) Q E s :=
  have hD := dictOf_keeps hd.at_ F.keep
  call_meetsIn PySem.F.slot_dict_get hD.typeIs PySem.F.entry_dict_get (PySem.F.args_dict_get_3 _ _ _) (meets_dict_get_default knd d hkey hd.lo dflt) ⟨_, hD.mapOf, by rw [hl]; exact h⟩
end
local macro_rules | `(tactic| k_inst) => `(tactic| (refine' inst_base (by k_asm) (by assumption) (by assumption)))
local macro_rules | `(tactic| kit_at) => `(tactic| (refine' kitAt_base (by k_asm) (by assumption) (by assumption)))
theorem lines_C2_2 : True := by
  k_with "ZgetMethod ref" => (k_here; k_dflt (first | (refine' method_inst (by k_asm) (by k_asm) (by k_inst) (by k_is) (by k_is) (by k_is) (by assumption) ?_; k_whole) | (refine' dget_method (by k_asm) (by assumption) ?_; k_whole)))
  k_with "ZgetAttr ref" => (k_here; k_dflt (refine' get_own (by k_asm) (by k_asm) (by k_inst) (by k_is) (by k_is) (by k_is) (by k_is) (by assumption) (by k_handed) ?_; k_whole))
  k_with "Zcall builtin:dict.get" => (k_here; k_dflt (first | (refine' dget2 (by k_asm) (by assumption) (by first | exact strKind_is _ _ _ _ | exact intKind_is _ _ _ _) (by assumption) ?_; k_whole; (try dsimp only [Option.getD])) | (refine' dget1 (by k_asm) (by assumption) (by first | exact strKind_is _ _ _ _ | exact intKind_is _ _ _ _) (by assumption) ?_; k_whole; (try dsimp only [Option.getD]))))
  trivial
theorem tup_base {h₀ h : Heap} {L t : Addr} {m : Str → Option Value} {its : Array Value} {n : Nat} (F : Fr h₀ L h m) (e : h₀.get? t = some ({ cls := .type "tuple", data := .seq its n } : Obj)) : IsTup h t its := ⟨_, F.keep _ _ e, rfl, n, rfl⟩
local macro_rules | `(tactic| k_room) => `(tactic| first | exact roomK 1 (by assumption) (by decide) | exact unitK 1 (by assumption) (by decide) | exact unit2 1 (by assumption) (by decide) | exact roomM 1 (by assumption) (by decide) | exact unitM 1 (by assumption) (by decide) | exact roomK 2 (by assumption) (by decide) | exact unitK 2 (by assumption) (by decide) | exact roomZ (by assumption) | exact roomZM (by assumption) | ((try simp only [depth_under_make, depth_under_kw, depth_in1, depth_deeper]); (try dsimp only); omega))


theorem lines_C2_3 : True := by
  k_with "Zassign Tuple" => (k_here; (with_reducible show wpAny _ _ (assign (Expr.Tuple _ _ _) _ (Value.ref _)) _ _ _); k_dflt (refine' unpackN_ (by k_asm) (by k_asm) (tup_base (by k_asm) (by assumption)) (by exact rfl) (by exact rfl) (by exact rfl) ?_; k_whole); intro _ _ _; (try k_sweep))
  k_with "ZENTER" => (refine wpAny_call ?_; refine' enterK [] (by assumption) (by assumption) (by assumption) (by assumption) (fun _ h => nomatch h) rfl (by assumption) (by assumption) (by k_dflt k_is) (by k_dflt k_is) (by k_room) (BindsTo.of_eq rfl) (locs rfl) ?_ (by decide) (by rfl) (by rfl) (by rfl))
  trivial
section
variable {w : World} {A₀ : Around} {s : Shared} {base h₀ : Heap} {outer : List Env} {L : Addr} {m mg mb : Str → Option Value} {env : Env} {p : Program} {loose : List Str} {mean : ExcName → Option Value}
  {E : Value → Shared → Prop} {Q : Value → Shared → Prop} {news : List (Addr × Obj)} {dp un : Nat} {gd : Option (List Code)}

theorem pure_back {h g h' : Heap} {L' : Addr} {m' : Str → Option Value} (F : Fr h₀ L h m) (N : News h₀ L h news) (hg : ∀ b o, h.get? b = some o → b ∉ (([] : List (Addr × Obj)).map (·.1)) → g.get? b = some o) (hL : L' = h.objs.size) (F' : Fr g L' h' m') :
    Fr h₀ L h' m ∧ News h₀ L h' news ∧ Keeps [] h h' := by
  have k := keeps_back (mu := []) F' hg hL
  exact ⟨fr_keeps F k (fun _ h => nomatch h), news_keeps N k (fun _ _ q => nomatch q), k⟩
section
theorem lines_C2_4 : True := by
  k_with "ZpyIter ref" => (k_here; kf1_first)
  k_with "Zeval Call" => (k_here; (with_reducible show wpAny _ _ (eval (PySem.Expr.Call (PySem.Expr.Name (Str.ofString "isinstance") _) [PySem.Expr.Name _ _, PySem.Expr.Name _ _] [] _) _) _ _ _); k_dflt (refine' isinst_sim (by k_asm) (by k_asm) (by k_asm) (by k_is) (by exact rfl) (by k_is) ?_ (by rfl) (by rfl) (by rfl) (by rfl) (by decide) (by decide); k_whole))
  trivial
theorem isi_notref {w : World} {A : Around} {E : Value → Shared → Prop} {s : Shared} {h₀ : Heap} {L : Addr} {m mg mb : Str → Option Value} {p : Program} {loose : List Str} {mean : ExcName → Option Value} {v : Value} {Q : Value → Shared → Prop}
    (F : Fr h₀ L s.heap m) (X : (hd.heap_1 w.params).In h₀) (T : Top p loose mean mg mb h₀) (V : NotRef h₀ v) (h : ∀ tk', Q (.bool false) { s with toks := tk' }) : wpAny (model PySem.Challenge.rw_pb0479_01.row.prog w) A (call (.builtin "isinstance") [v, .ref 254]) Q E s := by
  revert X
  k_fill
  intro X
  cases V
  all_goals (
    k_steps
    all_goals exact h _)
theorem lines_C2_5 : True := by
  k_with "Zcall builtin:isinstance" => (k_here; k_dflt (refine' isi_notref (by k_asm) (by k_asm) (by k_asm) (by assumption) ?_; k_whole); intro _)
  trivial
theorem fetch_plain {sh tb : Addr} {v : Value} (C : Cx (hd.heap_1 w.params) A₀ base h₀ env outer L m p loose mean mg mb s news) (hroom : dp + 2 < recursionLimit)
    (S : ShelfAt s.heap sh tb) (V : NotRef s.heap v)
    (ret : ∀ h' tk', Fr h₀ L h' m → News h₀ L h' news → Keeps [] s.heap h' → Q v { s with heap := h', toks := tk' }) :
    wpAny (model PySem.Challenge.rw_pb0479_01.row.prog w) (At dp un gd env outer) (call (.ref 299) [.ref sh, v]) Q E s := by
  obtain ⟨B, F, X, T, N, hf, hke⟩ := C
  revert X
  k_fill
  intro X
  walk_at "ENTER"
  intro g' L' h' hg1 hg2 hg3 hL F' N' B' X' T' hlt
  have F₀ := F
  have N₀ := N
  have V' : NotRef g' v := V.keeps fun b o e => hg1 b o e (fun q => nomatch q)
  clear hg2 hg3 X N T F B hf hke V
  show wpAny _ _ _ _ _ _
  k_fold
  k_steps
  all_goals (
    (with_reducible rename Fr _ _ _ _ => Fz)
    have z := pure_back F₀ N₀ hg1 hL Fz
    exact ret _ _ z.1 z.2.1 z.2.2)
end

section
theorem lines_C2_6 : True := by
  k_with "ZpyIter ref" => (k_here; kf1_first)
  trivial
theorem fetch_miss {sh tb x : Addr} {vals : List Value} {n : Int} (C : Cx (hd.heap_1 w.params) A₀ base h₀ env outer L m p loose mean mg mb s news) (hroom : dp + 2 < recursionLimit)
    (S : ShelfAt s.heap sh tb) (T₀ : TabAt w s.heap tb vals) (R : RefAt s.heap x n) (h1 : ¬ (1 ≤ n ∧ n ≤ vals.length))
    (ret : ∀ h' tk', Fr h₀ L h' m → News h₀ L h' news → Keeps [] s.heap h' → Q .none { s with heap := h', toks := tk' }) :
    wpAny (model PySem.Challenge.rw_pb0479_01.row.prog w) (At dp un gd env outer) (call (.ref 299) [.ref sh, .ref x]) Q E s := by
  obtain ⟨B, F, X, T, N, hf, hke⟩ := C
  revert X
  k_fill
  intro X
  walk_at "ENTER"
  intro g' L' h' hg1 hg2 hg3 hL F' N' B' X' T' hlt
  have F₀ := F
  have N₀ := N
  have kg : ∀ b o, s.heap.get? b = some o → g'.get? b = some o := fun b o e => hg1 b o e (fun q => nomatch q)
  obtain ⟨dx, es, q, i1, i2, j1, j2, j3, j4⟩ := (S.keeps kg).w
  obtain ⟨dr, er, qr, tn, tg, r1, r2, r3, r4⟩ := (R.keeps kg).w
  obtain ⟨otb, to, kvs, tk, tl, tno, tye, tlo, tnr⟩ := (T₀.keeps kg).w
  have hno := tno n h1
  have hD : DctAt (ik w) g' tb kvs := ⟨Heap.dictOf_iff.mpr ⟨_, to, tk⟩, tlo⟩
  clear hg2 hg3 X N T F B hf hke S T₀ R tnr tye tno to tk h1
  show wpAny _ _ _ _ _ _
  k_fold
  k_steps
  all_goals (
    (with_reducible rename Fr _ _ _ _ => Fz)
    have z := pure_back F₀ N₀ hg1 hL Fz
    exact ret _ _ z.1 z.2.1 z.2.2)
end

/-- a loop over a range that leaves in its second turn at the latest -/
structure TwoMark : Prop where
def twoJ (x2 : Str) (r : Value) (m₀ : Str → Option Value) : Nat → (Str → Option Value) → List (Addr × Obj) → Prop
  | 0, m, nx => m = m₀ ∧ nx = []
  | 1, m, nx => (∃ u : Str → Option Value, m = fun y => if y = x2 then some r else u y) ∧ nx = []
  | _ + 2, _, _ => False
section
variable {A : Around} {body : List Stmt} {x : Str} {Q : Flow → Shared → Prop} {h₀ : Heap} {m : Str → Option Value} {s : Shared} {env : Env} {E : Value → Shared → Prop} {prog : Program}
theorem two_range {r : Addr} {a₀ b₀ : Int} {t₀ u₀ v₀ : Tok} {n : Nat} {m₀ : Str → Option Value} (x2 : Str) (rv : Value)
    (hh : A.handled = none) (hr : IsRange s.heap r a₀ b₀ 1 t₀ u₀ v₀) (hsmall : Builtin.Range.small a₀ b₀ 1 = true) (hn : Builtin.Range.rangeSize a₀ b₀ 1 = (n : Int)) (hpos : 1 < n) (F : Fr h₀ env.locals s.heap m₀) (N : News h₀ env.locals s.heap [])
    (turn0 : ∀ k t h tk own, Fr h₀ env.locals h (fun y => if y = x then some (.int k t) else m₀ y) → News h₀ env.locals h own →
      wpAny (model prog w) A (execs body env) (InvPostN h₀ env.locals (twoJ x2 rv m₀ 1) own [] { s with heap := h, toks := tk } Q) E { s with heap := h, toks := tk })
    (turn1 : TwoMark → ∀ k t (u : Str → Option Value) h tk own, Fr h₀ env.locals h (fun y => if y = x then some (.int k t) else if y = x2 then some rv else u y) → News h₀ env.locals h own →
      wpAny (model prog w) A (execs body env) (InvPostN h₀ env.locals (fun _ _ => False) own [] { s with heap := h, toks := tk } Q) E { s with heap := h, toks := tk }) :
    wpAny (model prog w) A (pyIter (.ref r)) (fun it s₂ => LoopAtV prog w A h₀ env x body Q E it s₂) E s := by
  refine kpr_invN (twoJ x2 rv m₀) hh hr hsmall hn F N ⟨rfl, rfl⟩ ?_ ?_
  · intro i k t m₁ nx h tk own hk hoff hJ F₁ N₁
    match i, hJ with
    | 0, hJ =>
      obtain ⟨rfl, rfl⟩ := hJ
      exact turn0 k t h tk own F₁ N₁
    | 1, hJ =>
      obtain ⟨⟨u, rfl⟩, rfl⟩ := hJ
      exact turn1 ⟨⟩ k t u h tk own F₁ N₁
    | i + 2, hJ => exact hJ.elim
  · intro m₁ nx h tk hJ F₁ N₁
    rw [rangeKs_length] at hJ
    match n, hpos, hJ with
    | 0, hpos, _ => omega
    | 1, hpos, _ => omega
    | n + 2, _, hJ => exact hJ.elim
theorem twoEnd {x2 : Str} {rv : Value} {m₀ m' : Str → Option Value} {L : Addr} {own news' : List (Addr × Obj)} {h' : Heap} {tk : Nat} {s₁ : Shared} (F : Fr h₀ L h' m') (N : News h₀ L h' news') (hm : m' x2 = some rv) (ho : ∀ p ∈ own, p ∈ news') :
    InvEndN h₀ L (twoJ x2 rv m₀ 1) own [] s₁ { s₁ with heap := h', toks := tk } :=
  ⟨h', tk, m', news', [], rfl, F, N, fun _ h => (nomatch h), ho, rfl, ⟨m', funext fun y => by
    by_cases q : y = x2
    · rw [if_pos q, q, hm]
    · rw [if_neg q]⟩, rfl⟩
end
section
theorem lines_C2_7 : True := by
  k_with "ZpyIter ref" => (k_here; (rename Fr _ _ _ _ => lF'); (rename News _ _ _ _ => lN'); (rename IsRange _ _ _ _ _ _ _ _ => rgX); (with_unfolding_all refine' two_range (Str.ofString "here") _ (by rfl) rgX (by first | decide | exact small_one (by l_bnd) (by l_bnd) (by l_bnd) (by l_bnd)) (by first | exact rangeSize_nat _ _ | rfl) (by first | decide | omega) lF' lN' ?_ ?_); (try clear lF' lN'); (all_goals (try (first | (intro (q' : TwoMark) k' t' u' h' tk' own' F' N'; (rename NotRef _ _ => Vq); cases Vq) | intro _ _ _ _ _ _ _))); (all_goals (try k_fold)))
  k_with "ZInvPostN" => (goal_has Mine.twoJ; (with_unfolding_all refine' twoEnd (by k_asm) (by k_asm) (by exact rfl) (by first | exact fun _ h => h | exact fun _ h => List.mem_cons_of_mem _ h)); walk_say "TWO")
  trivial
theorem fetch_hit {sh tb x : Addr} {vals : List Value} {n : Int} {v : Value} (C : Cx (hd.heap_1 w.params) A₀ base h₀ env outer L m p loose mean mg mb s news) (hroom : dp + 2 < recursionLimit)
    (S : ShelfAt s.heap sh tb) (T₀ : TabAt w s.heap tb vals) (R : RefAt s.heap x n) (h1 : 1 ≤ n) (hv : vals[(n - 1).toNat]? = some v)
    (ret : ∀ h' tk', Fr h₀ L h' m → News h₀ L h' news → Keeps [] s.heap h' → Q v { s with heap := h', toks := tk' }) :
    wpAny (model PySem.Challenge.rw_pb0479_01.row.prog w) (At dp un gd env outer) (call (.ref 299) [.ref sh, .ref x]) Q E s := by
  obtain ⟨B, F, X, T, N, hf, hke⟩ := C
  revert X
  k_fill
  intro X
  walk_at "ENTER"
  intro g' L' h' hg1 hg2 hg3 hL F' N' B' X' T' hlt
  have F₀ := F
  have N₀ := N
  have kg : ∀ b o, s.heap.get? b = some o → g'.get? b = some o := fun b o e => hg1 b o e (fun q => nomatch q)
  obtain ⟨dx, es, q, i1, i2, j1, j2, j3, j4⟩ := (S.keeps kg).w
  obtain ⟨dr, er, qr, tn, tg, r1, r2, r3, r4⟩ := (R.keeps kg).w
  obtain ⟨otb, to, kvs, tk, tl, tno, tye, tlo, tnr⟩ := (T₀.keeps kg).w
  obtain ⟨pt, tt, qt, u1, u2⟩ := tye n v h1 hv
  have V := tnr v (List.mem_of_getElem? hv)
  have hD : DctAt (ik w) g' tb kvs := ⟨Heap.dictOf_iff.mpr ⟨_, to, tk⟩, tlo⟩
  clear hg2 hg3 X N T F B hf hke S T₀ R tnr tye tno to tk
  show wpAny _ _ _ _ _ _
  k_fold
  k_steps
  all_goals (
    (with_reducible rename Fr _ _ _ _ => Fz)
    have z := pure_back F₀ N₀ hg1 hL Fz
    exact ret _ _ z.1 z.2.1 z.2.2)
end

/-- what fetch makes of a value -/
inductive Fet (h : Heap) (vals : List Value) : Value → Value → Prop
  | plain {v : Value} : NotRef h v → Fet h vals v v
  | hit {x : Addr} {n : Int} {v : Value} : RefAt h x n → 1 ≤ n → vals[(n - 1).toNat]? = some v → Fet h vals (.ref x) v
  | miss {x : Addr} {n : Int} : RefAt h x n → ¬ (1 ≤ n ∧ n ≤ vals.length) → Fet h vals (.ref x) .none
theorem Fet.keeps {h h' : Heap} {vals : List Value} {v r : Value} (x : Fet h vals v r) (k : ∀ b o, h.get? b = some o → h'.get? b = some o) : Fet h' vals v r := by
  cases x with
  | plain a => exact .plain (a.keeps k)
  | hit a b c => exact .hit (a.keeps k) b c
  | miss a b => exact .miss (a.keeps k) b
theorem fetch_call {sh tb : Addr} {vals : List Value} {v r : Value} (C : Cx (hd.heap_1 w.params) A₀ base h₀ env outer L m p loose mean mg mb s news) (hroom : dp + 2 < recursionLimit)
    (S : ShelfAt s.heap sh tb) (T₀ : TabAt w s.heap tb vals) (V : Fet s.heap vals v r)
    (ret : ∀ h' tk', Fr h₀ L h' m → News h₀ L h' news → Keeps [] s.heap h' → Q r { s with heap := h', toks := tk' }) :
    wpAny (model PySem.Challenge.rw_pb0479_01.row.prog w) (At dp un gd env outer) (call (.ref 299) [.ref sh, v]) Q E s := by
  cases V with
  | plain a => exact fetch_plain C hroom S a ret
  | hit a b c => exact fetch_hit C hroom S T₀ a b c ret
  | miss a b => exact fetch_miss C hroom S T₀ a b ret
end
end
section -- K3
open PySem PySem.W PyProof.Rows PySem.Spec PySem.Calls
section
variable {prog : Program} {w : World} {A : Around} {E : Value → Shared → Prop} {K : Frag} {h₀ : Heap} {L a : Addr} {m : Str → Option Value} {cn : Str} {cs : Scope} {ccd : Value} {cl : List (Str × Addr)}
/-- a method of a plain object called upon simple arguments -/
theorem meth_sim {x mth : Str} {ax px pos : Pos} {sh dx fn C : Addr} {esd : List DictEntry} {nq : Nat} {e : PySem.Expr} {rest : List PySem.Expr} {hp : Heap} {gn : Array GenState} {dr : Drawn} {tk : Nat} {os : OsState} {vs : List Value} {t' : Nat} {pl : Sem Bool} {Q : Value → Shared → Prop}
    (F : Fr h₀ L hp m) (X : K.In h₀) (hx : m x = some (.ref sh)) (i1 : h₀.get? sh = some (instObj C dx)) (i2 : h₀.get? dx = some (dictOf esd nq)) (hg : plainGet K C mth = true) (hf : findIn K (.ref C) mth = some (some (.ref fn))) (ht : isFn K (.ref fn) = true) (hl : getL mth esd = some none) (hkp : keepIn K (.ref fn) = true)
    (ha : simA (envX cn cs L a ccd cl).kindOf m (e :: rest) tk = some (vs, t')) (h : wpAny (model prog w) A (call (.ref fn) (.ref sh :: vs)) Q E ⟨hp, gn, dr, t', os⟩)
    (hk : cs.kind = .function := by rfl) (hkx : (envX cn cs L a ccd cl).kindOf x = some .local := by rfl) (hd : (x == ("__debug__" : Str)) = false := by decide)
    (he : eval (.Call (.Attribute (.Name x px) mth ax) (e :: rest) [] pos) (envX cn cs L a ccd cl) = (do
      let ov ← eval (.Name x px) (envX cn cs L a ccd cl)
      standAt ax.atName
      let (f, first) ← holding [ov] (getMethod ov mth pl)
      callWith pos f first (backTo pos (starEach (e :: rest) (envX cn cs L a ccd cl))) []) := by rfl) :
    wpAny (model prog w) A (eval (.Call (.Attribute (.Name x px) mth ax) (e :: rest) [] pos) (envX cn cs L a ccd cl)) Q E ⟨hp, gn, dr, tk, os⟩ := by
  refine MethodCall_ (pl := pl) (nameX_L F hx ?_ hk hkx hd) he
  refine method_inst F X (inst_base F i1 i2) hg hf ht hl ?_
  have h1 := ha
  unfold simA at h1
  split at h1
  · rename_i v t1 h2
    split at h1
    · rename_i vs' t2 h3
      exact callWith_K X hkp (args_sim hk F ha ⟨X.keeps F.keep, h⟩) (star_sim h2) (plain_sim h3)
    · cases h1
  · cases h1
end
end
section -- R7
open PySem PySem.W PyProof.Rows PySem.Spec PySem.Calls
section
open LCg
variable {w : World} {A : Around} {E : Value → Shared → Prop} {s : Shared} {h₀ : Heap} {L : Addr} {m : Str → Option Value} {env : Env}
/-- a list made over the keys of a dict of the ground -/
theorem ListComp_D {elt iter : PySem.Expr} {x : Str} {px : Pos} {scope : Scope} {cl : List (Str × Addr)} {pos : Pos} {Q : Value → Shared → Prop} (F₀ : Fr h₀ L s.heap m)
    (hclos : closureFor scope env = pure cl) (hcell : ∀ y ∈ scope.names, y.2 ≠ .cell) (hkind : scope.kind = .function)
    (hnames : ∀ y ∈ scope.names, y.2 = .local → scope.names.lookup y.1 = some .local) (hx : scope.names.lookup x = some .local)
    (h : wpAny (model PR w) A (eval iter env) (fun xv s₁ => Halt (∃ d kvs news, xv = .ref d ∧ A.handled = none ∧ Fr h₀ L s₁.heap m ∧ News h₀ L s₁.heap news ∧ DctAt (sk w) h₀ d kvs ∧ kvs.length ≤ sizeLine ∧
      ∀ g, CompRest PR w A h₀ L m env elt x scope cl { s₁ with heap := g } (fun _ => True) (fun i v => ∃ k y, kvs[i]? = some (k, y) ∧ (sk w).is k v = true) (FinE h₀ L m { s₁ with heap := g } Q) kvs.length 0 [] news)) E s)
    (hs : ∀ x, foldedSetIterable iter env x = pure x := by intro _; rfl) :
    wpAny (model PR w) A (eval (.ListComp elt [⟨.Name x px, iter, [], 0⟩] scope pos) env) Q E s := by
  rw [eval_ListComp]
  refine wpAny_comprehension_free (use := none) rfl hs hclos hkind hnames (wpAny_mono h (fun xv s₁ h₁ => ?_) fun _ _ e => e)
  obtain ⟨d, kvs, news, rfl, hh, F, N, D, hsz, R⟩ := h₁
  obtain ⟨o, es, ep, ho, r⟩ := D.at_
  have D₁ : s₁.heap.DictAt (sk w) d kvs ep := ⟨o, es, F.keep _ _ ho, r⟩
  have D₀ : h₀.DictAt (sk w) d kvs ep := ⟨o, es, ho, r⟩
  refine wpAny_pyIter_dict D.lo D₁ ?_
  have hlt : d < s₁.heap.objs.size := Heap.lt_size (F.keep _ _ ho)
  have up : ∀ b o, s₁.heap.get? b = some o → (s₁.heap.push { cls := .type "dict_keyiterator", data := .fields #[.ref d, .int 0 0, .int kvs.length 0, .int ep 0] }).get? b = some o := fun b o e => Heap.get?_push_of_some _ e
  refine block_U (Walks.dictKeys (knd := sk w) hh s₁.heap.objs.size d (Nat.ne_of_lt hlt) kvs ep) hsz (fun i h st => by obtain ⟨o, e, _⟩ := st.1; exact ⟨o, e⟩) (fun i h h' o nw st e e' k _ _ => ⟨?_, ?_⟩) hcell hkind hx ⟨⟨_, Heap.get?_push_size _ rfl, rfl, rfl⟩, D₁.at' fun o e => up _ _ e⟩ (fun b hb => ?_)
    (F.keeps up) (N.grown up) (Nat.ne_of_lt F.ns.lt) (next_is_new F) (fun p hp => Nat.ne_of_lt (Heap.lt_size (N p hp).1)) trivial (R _) ?_
  · obtain ⟨o', q, r'⟩ := st.1
    rw [e] at q; cases q
    exact ⟨o, e', r'⟩
  · exact D₀.at' fun o e => k _ _ e
  · show b < (s₁.heap.push _).objs.size
    rw [Heap.size_push]
    rcases List.mem_cons.mp hb with rfl | hb
    · exact Nat.lt_succ_self _
    · rw [List.mem_singleton.mp hb]; exact Nat.lt_succ_of_lt hlt
  · intro D C h tk m' ys news' F' N' o1 hn hC₀ hD₀ hCL hDL hCD offC fin
    refine ⟨m', hn, fun h'' hs'' => fin D h'' tk (F'.change hs'' hCL hC₀) (fun p hp => ?_) o1⟩
    refine ⟨hs''.extBut _ _ ?_ (N' p hp).1, (N' p hp).2⟩
    rcases List.mem_cons.mp hp with rfl | hp
    · exact Ne.symm hCD
    · exact offC p hp

theorem rest_ind {elt : PySem.Expr} {x : Str} {scope : Scope} {cl : List (Str × Addr)} {S : List (Addr × Obj) → Prop} {P : Nat → Value → Prop} {Fin : List Value → List (Addr × Obj) → Prop} {news : List (Addr × Obj)} {n : Nat} (Inv : Nat → List Value → List (Addr × Obj) → Prop)
    (h0 : Inv 0 [] news)
    (step : ∀ i, i < n → ∀ ys news, Inv i ys news → ∀ v I oI C oC D m₂ h tk (E' : Value → Shared → Prop), P i v → NsObj oC m₂ → m₂ x = some v → Fr h₀ L h m → News h₀ L h ((I, oI) :: (C, oC) :: (D, lst ys) :: news) → Off3 I C D news → ((@Ne Nat I C) ∧ (@Ne Nat I D) ∧ (@Ne Nat C D)) →
      wpAny (model PR w) A (eval elt (compEnvC scope cl C env)) (CompEnd h₀ L m { s with heap := h, toks := tk } I oI C oC D (lst ys) S (fun y news' => Inv (i + 1) (ys ++ [y]) news')) E' { s with heap := h, toks := tk })
    (fin : ∀ ys news, Inv n ys news → Fin ys news) : CompRest PR w A h₀ L m env elt x scope cl s S P Fin n 0 [] news := by
  have all : ∀ k i ys news, k + i = n → Inv i ys news → CompRest PR w A h₀ L m env elt x scope cl s S P Fin k i ys news := by
    intro k
    induction k with
    | zero => intro i ys news e hi; exact CompRest.zero (fin _ _ (by have : i = n := by omega
                                                                     rw [← this]; exact hi))
    | succ k ih =>
      intro i ys news e hi
      refine CompRest.succ fun v I oI C oC D m₂ h tk E' a1 a2 a3 a4 a5 a6 a7 => ?_
      refine wpAny_mono (step i (by omega) ys news hi v I oI C oC D m₂ h tk E' a1 a2 a3 a4 a5 a6 a7) (fun y s' q => ?_) fun _ _ z => z
      obtain ⟨h', tk', news', rfl, b1, b2, b3, b4, b5⟩ := q
      exact ⟨h', tk', news', rfl, b1, b2, b3, b4, ih (i + 1) _ _ (by omega) b5⟩
  exact all n 0 [] news (by omega) h0

theorem rest_ex {elt : PySem.Expr} {x : Str} {scope : Scope} {cl : List (Str × Addr)} {S : List (Addr × Obj) → Prop} {P : Nat → Value → Prop} {Fin : List Value → List (Addr × Obj) → Prop} {pre : List (Addr × Obj)} {n : Nat} (Inv : Nat → List Value → List (Addr × Obj) → Prop)
    (h0 : Inv 0 [] [])
    (step : ∀ i, i < n → ∀ ys ex, Inv i ys ex → ∀ v I oI C oC D m₂ h tk (E' : Value → Shared → Prop), P i v → NsObj oC m₂ → m₂ x = some v → Fr h₀ L h m → News h₀ L h ((I, oI) :: (C, oC) :: (D, lst ys) :: (pre ++ ex)) → Off3 I C D (pre ++ ex) → ((@Ne Nat I C) ∧ (@Ne Nat I D) ∧ (@Ne Nat C D)) →
      wpAny (model PR w) A (eval elt (compEnvC scope cl C env)) (CompEnd h₀ L m { s with heap := h, toks := tk } I oI C oC D (lst ys) S (fun y news' => ∃ ex', news' = pre ++ ex' ∧ Inv (i + 1) (ys ++ [y]) ex')) E' { s with heap := h, toks := tk })
    (fin : ∀ ys ex, Inv n ys ex → Fin ys (pre ++ ex)) : CompRest PR w A h₀ L m env elt x scope cl s S P Fin n 0 [] pre := by
  refine rest_ind (fun i ys news' => ∃ ex, news' = pre ++ ex ∧ Inv i ys ex) ⟨[], by simp, h0⟩ ?_ ?_
  · rintro i hi ys news' ⟨ex, rfl, hI⟩ v I oI C oC D m₂ h tk E' a1 a2 a3 a4 a5 a6 a7
    exact step i hi ys ex hI v I oI C oC D m₂ h tk E' a1 a2 a3 a4 a5 a6 a7
  · rintro ys news' ⟨ex, rfl, hI⟩
    exact fin ys ex hI
end
end
section -- C3
open PySem PySem.W PyProof.Rows PySem.Spec PySem.Calls
theorem lines_C3_1 : True := by
  k_with_none
  k_with "Zspliced" => (k_here; k_dflt (refine' args_simG (by rfl) (by rfl) (by k_asm) (by rfl) ?_; k_whole); (try dsimp only [List.cons_append, List.nil_append]))
  k_with "Zeval Call" => (k_here; (with_reducible show wpAny _ _ (eval (PySem.Expr.Call (PySem.Expr.Name _ _) (_ :: _) [] _) _) _ _ _); k_dflt (refine' call_simG (by rfl) (by k_asm) (by k_asm) (by k_asm) (by k_is) (by k_is) (by rfl) ?_ (by rfl) (by rfl); k_whole))
  trivial
local macro_rules | `(tactic| k_inst) => `(tactic| (refine' inst_base (by k_asm) (by assumption) (by assumption)))
local macro_rules | `(tactic| kit_at) => `(tactic| (refine' kitAt_base (by k_asm) (by assumption) (by assumption)))
local macro_rules | `(tactic| k_room) => `(tactic| first | exact roomK 1 (by assumption) (by decide) | exact unitK 1 (by assumption) (by decide) | exact unit2 1 (by assumption) (by decide) | exact roomM 1 (by assumption) (by decide) | exact unitM 1 (by assumption) (by decide) | exact roomK 2 (by assumption) (by decide) | exact unitK 2 (by assumption) (by decide) | exact roomZ (by assumption) | exact roomZM (by assumption) | ((try simp only [depth_under_make, depth_under_kw, depth_in1, depth_deeper]); (try dsimp only); omega))


theorem lines_C3_2 : True := by
  k_with "ZgetMethod ref" => (k_here; k_dflt (first | (refine' method_inst (by k_asm) (by k_asm) (by k_inst) (by k_is) (by k_is) (by k_is) (by assumption) ?_; k_whole) | (refine' dget_method (by k_asm) (by assumption) ?_; k_whole)))
  k_with "ZgetAttr ref" => (k_here; k_dflt (refine' get_own (by k_asm) (by k_asm) (by k_inst) (by k_is) (by k_is) (by k_is) (by k_is) (by assumption) (by k_handed) ?_; k_whole))
  k_with "Zcall builtin:dict.get" => (k_here; k_dflt (first | (refine' dget2 (by k_asm) (by assumption) (by first | exact strKind_is _ _ _ _ | exact intKind_is _ _ _ _) (by assumption) ?_; k_whole; (try dsimp only [Option.getD])) | (refine' dget1 (by k_asm) (by assumption) (by first | exact strKind_is _ _ _ _ | exact intKind_is _ _ _ _) (by assumption) ?_; k_whole; (try dsimp only [Option.getD]))))
  k_with "ZENTER" => (refine wpAny_call ?_; refine' enterK [] (by assumption) (by assumption) (by assumption) (by assumption) (fun _ h => nomatch h) rfl (by assumption) (by assumption) (by k_dflt k_is) (by k_dflt k_is) (by k_room) (BindsTo.of_eq rfl) (locs rfl) ?_ (by decide) (by rfl) (by rfl) (by rfl))
  k_with "Zeval Call Attribute" => (k_here; (with_reducible show wpAny _ _ (eval (PySem.Expr.Call (PySem.Expr.Attribute (PySem.Expr.Name _ _) _ _) (_ :: _) [] _) _) _ _ _); k_dflt (refine' meth_sim (by k_asm) (by k_asm) (by exact rfl) (by assumption) (by assumption) (by k_is) (by k_is) (by k_is) (by assumption) (by k_is) (by rfl) ?_ (by rfl) (by rfl) (by decide) (by rfl); k_whole))
  k_with "Zeval Call" => (k_here; (with_reducible show wpAny _ _ (eval (PySem.Expr.Call (PySem.Expr.Name (Str.ofString "isinstance") _) [PySem.Expr.Name _ _, PySem.Expr.Name _ _] [] _) _) _ _ _); k_dflt (refine' isinst_sim (by k_asm) (by k_asm) (by k_asm) (by k_is) (by exact rfl) (by k_is) ?_ (by rfl) (by rfl) (by rfl) (by rfl) (by decide) (by decide); k_whole))
  trivial
/-- a value that is neither a reference nor a name -/
inductive Oth (h : Heap) : Value → Prop
  | none : Oth h .none
  | int {i : Int} {t : Tok} : Oth h (.int i t)
  | list {a : Addr} {o : Obj} : h.get? a = some o → o.cls = .type "list" → Oth h (.ref a)
  | dict {a : Addr} {o : Obj} : h.get? a = some o → o.cls = .type "dict" → Oth h (.ref a)
theorem Oth.keeps {h h' : Heap} {v : Value} (x : Oth h v) (k : ∀ b o, h.get? b = some o → h'.get? b = some o) : Oth h' v := by
  cases x with
  | none => exact .none
  | int => exact .int
  | list a b => exact .list (k _ _ a) b
  | dict a b => exact .dict (k _ _ a) b
theorem Oth.notRef {h : Heap} {v : Value} (x : Oth h v) : NotRef h v := by
  cases x with
  | none => exact .none
  | int => exact .int
  | list a b => exact .list a b
  | dict a b => exact .dict a b
theorem NameAt.notRef {h : Heap} {x : Addr} {u : Str} (a : NameAt h x u) : NotRef h (.ref x) := let ⟨_, _, _, _, ⟨i, j⟩, _⟩ := a.ex; .name i j
/-- the word that word_at tells of what was found -/
inductive Wd (h : Heap) (df : Str) : Value → Str → Prop
  | name {x : Addr} {u : Str} : NameAt h x u → Wd h df (.ref x) u
  | oth {v : Value} : Oth h v → Wd h df v df
theorem Wd.keeps {h h' : Heap} {df u : Str} {v : Value} (x : Wd h df v u) (k : ∀ b o, h.get? b = some o → h'.get? b = some o) : Wd h' df v u := by
  cases x with
  | name a => exact .name (a.keeps k)
  | oth a => exact .oth (a.keeps k)
/-- whether a value is a reference to a group -/
inductive IsG (w : World) (h : Heap) (vals : List Value) : Value → Bool → Prop
  | plain {v : Value} : NotRef h v → IsG w h vals v false
  | miss {x : Addr} {n : Int} : RefAt h x n → ¬ (1 ≤ n ∧ n ≤ vals.length) → IsG w h vals (.ref x) false
  | list {x l : Addr} {n : Int} {o : Obj} : RefAt h x n → 1 ≤ n → vals[(n - 1).toNat]? = some (.ref l) → h.get? l = some o → o.cls = .type "list" → IsG w h vals (.ref x) false
  | dict {x d tx : Addr} {n : Int} {kvs : List (Str × Value)} {u : Str} {b : Bool} : RefAt h x n → 1 ≤ n → vals[(n - 1).toNat]? = some (.ref d) → DctAt (sk w) h d kvs → (valueAt kvs (Str.ofString "Type")).getD .none = .ref tx → NameAt h tx u →
      (u == Str.ofString "OCG") = b → IsG w h vals (.ref x) b
theorem IsG.keeps {w : World} {h h' : Heap} {vals : List Value} {v : Value} {b : Bool} (x : IsG w h vals v b) (k : ∀ b o, h.get? b = some o → h'.get? b = some o) : IsG w h' vals v b := by
  cases x with
  | plain a => exact .plain (a.keeps k)
  | miss a b => exact .miss (a.keeps k) b
  | list a b c d e => exact .list (a.keeps k) b c (k _ _ d) e
  | dict a b c d e f g => exact .dict (a.keeps k) b c (d.keeps k) e (f.keeps k) g
theorem dctAt_obj {w : World} {h : Heap} {d : Addr} {kvs : List (Str × Value)} (D : DctAt (sk w) h d kvs) : ∃ o, h.get? d = some o ∧ o.cls = .type "dict" := by
  obtain ⟨o, e, es, ep, x, _⟩ := Heap.dictOf_iff.mp D.at_
  exact ⟨o, e, x.1⟩
local macro_rules | `(tactic| kwd_rel) => `(tactic| exact ⟨by k_asm, by k_asm, by k_asm, by k_asm, by k_asm, rfl, rfl⟩)
theorem lines_C3_3 : True := by
  k_with "Zcall ref" => (k_here; (with_reducible show wpAny _ _ (call (Value.ref 299) [_, _]) _ _ _); k_dflt (refine' fetch_call (by kwd_rel) (by k_room) (ShelfAt.keeps (Fr.keep (by k_asm)) (by assumption)) (TabAt.keeps (Fr.keep (by k_asm)) (by assumption)) (Fet.keeps (by assumption) (Fr.keep (by k_asm))) ?_; k_whole); intro _ _ _ _ k'; (try clear k'); (try k_sweep); (try dsimp only))
  trivial
section
variable {w : World} {A₀ : Around} {s : Shared} {base h₀ : Heap} {outer : List Env} {L : Addr} {m mg mb : Str → Option Value} {env : Env} {p : Program} {loose : List Str} {mean : ExcName → Option Value}
  {E : Value → Shared → Prop} {Q : Value → Shared → Prop} {news : List (Addr × Obj)} {dp un : Nat} {gd : Option (List Code)}
theorem get_call {sh tb d : Addr} {vals : List Value} {kvs : List (Str × Value)} {key : Str} {kt : Tok} {y r : Value} (C : Cx (hd.heap_1 w.params) A₀ base h₀ env outer L m p loose mean mg mb s news) (hroom : dp + 4 < recursionLimit)
    (S : ShelfAt s.heap sh tb) (T₀ : TabAt w s.heap tb vals) (D : DctAt (sk w) s.heap d kvs) (hx : (valueAt kvs key).getD .none = y) (V : Fet s.heap vals y r)
    (ret : ∀ h' tk', Fr h₀ L h' m → News h₀ L h' news → Keeps [] s.heap h' → Q r { s with heap := h', toks := tk' }) :
    wpAny (model PySem.Challenge.rw_pb0479_01.row.prog w) (At dp un gd env outer) (call (.ref 306) [.ref sh, .ref d, .str key kt]) Q E s := by
  obtain ⟨B, F, X, T, N, hf, hke⟩ := C
  revert X
  k_fill
  intro X
  walk_at "ENTER"
  intro g' L' h' hg1 hg2 hg3 hL F' N' B' X' T' hlt
  have F₀ := F
  have N₀ := N
  have kg : ∀ b o, s.heap.get? b = some o → g'.get? b = some o := fun b o e => hg1 b o e (fun q => nomatch q)
  have S' := S.keeps kg
  obtain ⟨dx, es, q, i1, i2, j1, j2, j3, j4⟩ := S'.w
  have T₁ := T₀.keeps kg
  have D' := D.keeps kg
  have V' := V.keeps kg
  clear S T₀ D V
  clear hg2 hg3 X N T F B hf hke
  show wpAny _ _ _ _ _ _
  k_fold
  k_steps
  all_goals (
    (with_reducible rename Fr _ _ _ _ => Fz)
    have z := pure_back F₀ N₀ hg1 hL Fz
    exact ret _ _ z.1 z.2.1 z.2.2)
theorem lines_C3_4 : True := by
  k_with "Zcall ref" => (k_here; (with_reducible show wpAny _ _ (call (Value.ref 306) [_, _, _]) _ _ _); k_dflt (refine' get_call (by kwd_rel) (by k_room) (ShelfAt.keeps (Fr.keep (by k_asm)) (by assumption)) (TabAt.keeps (Fr.keep (by k_asm)) (by assumption)) (DctAt.keeps (Fr.keep (by k_asm)) (by assumption)) (by assumption) (Fet.keeps (by assumption) (Fr.keep (by k_asm))) ?_; k_whole); intro _ _ _ _ k'; (try clear k'); (try k_sweep); (try dsimp only))
  trivial
theorem isi_oth {w : World} {A : Around} {E : Value → Shared → Prop} {s : Shared} {h₀ : Heap} {L : Addr} {m mg mb : Str → Option Value} {p : Program} {loose : List Str} {mean : ExcName → Option Value} {v : Value} {Q : Value → Shared → Prop}
    (F : Fr h₀ L s.heap m) (X : (hd.heap_1 w.params).In h₀) (T : Top p loose mean mg mb h₀) (V : Oth h₀ v) (h : ∀ tk', Q (.bool false) { s with toks := tk' }) : wpAny (model PySem.Challenge.rw_pb0479_01.row.prog w) A (call (.builtin "isinstance") [v, .ref 183]) Q E s := by
  revert X
  k_fill
  intro X
  cases V
  all_goals (
    k_steps
    all_goals exact h _)
theorem lines_C3_5 : True := by
  k_with "Zcall builtin:isinstance" => (k_here; k_dflt (refine' isi_notref (by k_asm) (by k_asm) (by k_asm) (by assumption) ?_; k_whole); intro _)
  k_with "Zcall builtin:isinstance" => (k_here; k_dflt (refine' isi_oth (by k_asm) (by k_asm) (by k_asm) (by assumption) ?_; k_whole); intro _)
  trivial
theorem word_call {sh tb d : Addr} {vals : List Value} {kvs : List (Str × Value)} {key df u : Str} {kt dt : Tok} {y r : Value} (C : Cx (hd.heap_1 w.params) A₀ base h₀ env outer L m p loose mean mg mb s news) (hroom : dp + 6 < recursionLimit)
    (S : ShelfAt s.heap sh tb) (T₀ : TabAt w s.heap tb vals) (D : DctAt (sk w) s.heap d kvs) (hx : (valueAt kvs key).getD .none = y) (V : Fet s.heap vals y r) (W : Wd s.heap df r u)
    (ret : ∀ t h' tk', Fr h₀ L h' m → News h₀ L h' news → Keeps [] s.heap h' → Q (.str u t) { s with heap := h', toks := tk' }) :
    wpAny (model PySem.Challenge.rw_pb0479_01.row.prog w) (At dp un gd env outer) (call (.ref 372) [.ref sh, .ref d, .str key kt, .str df dt]) Q E s := by
  obtain ⟨B, F, X, T, N, hf, hke⟩ := C
  revert X
  k_fill
  intro X
  walk_at "ENTER"
  intro g' L' h' hg1 hg2 hg3 hL F' N' B' X' T' hlt
  have F₀ := F
  have N₀ := N
  have kg : ∀ b o, s.heap.get? b = some o → g'.get? b = some o := fun b o e => hg1 b o e (fun q => nomatch q)
  have S' := S.keeps kg
  obtain ⟨dx, es, q, i1, i2, j1, j2, j3, j4⟩ := S'.w
  have T₁ := T₀.keeps kg
  have D' := D.keeps kg
  have V' := V.keeps kg
  have W' := W.keeps kg
  clear S T₀ D V W
  clear hg2 hg3 X N T F B hf hke
  show wpAny _ _ _ _ _ _
  k_fold
  cases W' with
  | name a =>
    obtain ⟨dn, en, qn, tn, n1, n2, n3⟩ := a.w
    k_steps
    all_goals (
      (with_reducible rename Fr _ _ _ _ => Fz)
      have z := pure_back F₀ N₀ hg1 hL Fz
      exact ret _ _ _ z.1 z.2.1 z.2.2)
  | oth a =>
    k_steps
    all_goals (
      (with_reducible rename Fr _ _ _ _ => Fz)
      have z := pure_back F₀ N₀ hg1 hL Fz
      exact ret _ _ _ z.1 z.2.1 z.2.2)
theorem lines_C3_6 : True := by
  k_with "Zcall ref" => (k_here; (with_reducible show wpAny _ _ (call (Value.ref 372) [_, _, _, _]) _ _ _); k_dflt (refine' word_call (by kwd_rel) (by k_room) (ShelfAt.keeps (Fr.keep (by k_asm)) (by assumption)) (TabAt.keeps (Fr.keep (by k_asm)) (by assumption)) (DctAt.keeps (Fr.keep (by k_asm)) (by assumption)) (by assumption) (Fet.keeps (by assumption) (Fr.keep (by k_asm))) (Wd.keeps (by assumption) (Fr.keep (by k_asm))) ?_; k_whole); intro _ _ _ _ _ k'; (try clear k'); (try k_sweep); (try dsimp only))
  trivial
theorem isg_call {sh tb : Addr} {vals : List Value} {v : Value} {b : Bool} (C : Cx (hd.heap_1 w.params) A₀ base h₀ env outer L m p loose mean mg mb s news) (hroom : dp + 8 < recursionLimit)
    (S : ShelfAt s.heap sh tb) (T₀ : TabAt w s.heap tb vals) (G : IsG w s.heap vals v b)
    (ret : ∀ h' tk', Fr h₀ L h' m → News h₀ L h' news → Keeps [] s.heap h' → Q (.bool b) { s with heap := h', toks := tk' }) :
    wpAny (model PySem.Challenge.rw_pb0479_01.row.prog w) (At dp un gd env outer) (call (.ref 386) [.ref sh, v]) Q E s := by
  obtain ⟨B, F, X, T, N, hf, hke⟩ := C
  revert X
  k_fill
  intro X
  walk_at "ENTER"
  intro g' L' h' hg1 hg2 hg3 hL F' N' B' X' T' hlt
  have F₀ := F
  have N₀ := N
  have kg : ∀ b o, s.heap.get? b = some o → g'.get? b = some o := fun b o e => hg1 b o e (fun q => nomatch q)
  have S' := S.keeps kg
  obtain ⟨dx, es, q, i1, i2, j1, j2, j3, j4⟩ := S'.w
  have T₁ := T₀.keeps kg
  have G' := G.keeps kg
  clear S T₀ G
  clear hg2 hg3 X N T F B hf hke
  show wpAny _ _ _ _ _ _
  k_fold
  cases G' with
  | plain a =>
    have V1 : Fet g' vals v v := .plain a
    k_steps
    all_goals (
      (with_reducible rename Fr _ _ _ _ => Fz)
      have z := pure_back F₀ N₀ hg1 hL Fz
      exact ret _ _ z.1 z.2.1 z.2.2)
  | miss a b =>
    have V1 := Fet.miss a b
    obtain ⟨dr, er, qr, tn, tg, r1, r2, r3, r4⟩ := a.w
    k_steps
    all_goals (
      (with_reducible rename Fr _ _ _ _ => Fz)
      have z := pure_back F₀ N₀ hg1 hL Fz
      exact ret _ _ z.1 z.2.1 z.2.2)
  | list a b c d e =>
    have V1 := Fet.hit a b c
    obtain ⟨dr, er, qr, tn, tg, r1, r2, r3, r4⟩ := a.w
    k_steps
    all_goals (
      (with_reducible rename Fr _ _ _ _ => Fz)
      have z := pure_back F₀ N₀ hg1 hL Fz
      exact ret _ _ z.1 z.2.1 z.2.2)
  | dict a b c d e f q =>
    have V1 := Fet.hit a b c
    have V2 : Fet g' vals _ _ := .plain f.notRef
    have V3 := Wd.name (df := Str.ofString "") f
    obtain ⟨od, d1, d2⟩ := dctAt_obj d
    obtain ⟨dr, er, qr, tn, tg, r1, r2, r3, r4⟩ := a.w
    k_steps
    all_goals (
      (with_reducible rename Fr _ _ _ _ => Fz)
      have z := pure_back F₀ N₀ hg1 hL Fz
      rw [q]
      exact ret _ _ z.1 z.2.1 z.2.2)
end
end
section -- C4
open PySem PySem.W PyProof.Rows PySem.Spec PySem.Calls PySem.SeqAt
theorem lines_C4_1 : True := by
  k_with_none
  k_with "Zspliced" => (k_here; k_dflt (refine' args_simG (by rfl) (by rfl) (by k_asm) (by rfl) ?_; k_whole); (try dsimp only [List.cons_append, List.nil_append]))
  trivial
local macro_rules | `(tactic| k_inst) => `(tactic| (refine' inst_base (by k_asm) (by assumption) (by assumption)))
local macro_rules | `(tactic| kit_at) => `(tactic| (refine' kitAt_base (by k_asm) (by assumption) (by assumption)))
local macro_rules | `(tactic| k_room) => `(tactic| first | exact roomK 1 (by assumption) (by decide) | exact unitK 1 (by assumption) (by decide) | exact unit2 1 (by assumption) (by decide) | exact roomM 1 (by assumption) (by decide) | exact unitM 1 (by assumption) (by decide) | exact roomK 2 (by assumption) (by decide) | exact unitK 2 (by assumption) (by decide) | exact roomZ (by assumption) | exact roomZM (by assumption) | ((try simp only [depth_under_make, depth_under_kw, depth_in1, depth_deeper]); (try dsimp only); omega))

local macro_rules | `(tactic| kwd_rel) => `(tactic| exact ⟨by k_asm, by k_asm, by k_asm, by k_asm, by k_asm, rfl, rfl⟩)

theorem lines_C4_2 : True := by
  k_with "ZENTER" => (refine wpAny_call ?_; refine' enterK [] (by assumption) (by assumption) (by assumption) (by assumption) (fun _ h => nomatch h) rfl (by assumption) (by assumption) (by k_dflt k_is) (by k_dflt k_is) (by k_room) (BindsTo.of_eq rfl) (locs rfl) ?_ (by decide) (by rfl) (by rfl) (by rfl))
  trivial
theorem list_base {h₀ h : Heap} {L l : Addr} {m : Str → Option Value} {its : Array Value} (F : Fr h₀ L h m) (e : h₀.IsList l its) : h.IsList l its := let ⟨o, ho, r⟩ := e; ⟨o, F.keep _ _ ho, r⟩
theorem list_news {h₀ h : Heap} {L l : Addr} {its : Array Value} {n : Nat} {news : List (Addr × Obj)} (N : News h₀ L h news) (e : (l, W.listOf its n) ∈ news) : h.IsList l its := ⟨_, (N _ e).1, rfl, n, rfl⟩
section
variable {prog : Program} {w : World} {A : Around} {E : Value → Shared → Prop} {s : Shared} {Q : Value → Shared → Prop}
theorem eq_nil {l b : Addr} {its : Array Value} (hl : s.heap.IsList l its) (hb : s.heap.IsList b #[]) (hu : A.units < cLine) (h : Q (.bool (its.size == 0)) s) :
    wpAny (model prog w) A (compareOp .Eq (.ref l) (.ref b)) Q E s := by
  by_cases q : its.size = 0
  · refine eq_listAt (e := fun _ => true) hl hb (by simpa using q) hu (fun j _ h2 => absurd h2 (Nat.not_lt_zero j)) ?_
    have e : (its.size == 0) = true := by simpa using q
    rw [e] at h
    simpa [q] using h
  · refine eq_list_lengthsAt hl hb (by simpa using q) hu ?_
    have e : (its.size == 0) = false := by simpa using q
    rw [e] at h
    exact h
noncomputable def eqB (c : Bool) : Value → Bool
  | .bool b => b == c
  | _ => false
theorem any_eqB (c : Bool) (bs : List Bool) : ((bs.map Value.bool).toArray).any (eqB c) = bs.contains c := by
  rw [List.any_toArray, List.any_map]
  induction bs with
  | nil => rfl
  | cons b r ih =>
    rw [List.any_cons, List.contains_cons, ih]
    cases b <;> cases c <;> rfl
theorem eq_bools {A : Around} {s : Shared} (bs : List Bool) (c : Bool) : ∀ y, y ∈ (bs.map Value.bool).toArray → EqAt A s y (.bool c) (eqB c y) := by
  intro y hy
  have hy' : y ∈ bs.map Value.bool := by rw [← List.mem_toArray]; exact hy
  obtain ⟨b, _, rfl⟩ := List.mem_map.mp hy'
  exact EqAt.bool_bool b c
theorem in_bools {l : Addr} {bs : List Bool} {c : Bool} (hl : s.heap.IsList l (bs.map Value.bool).toArray) (h : Q (.bool (bs.contains c)) s) : wpAny (model prog w) A (compareOp .In (.bool c) (.ref l)) Q E s :=
  in_listAt (eqB c) hl (eq_bools bs c) (by rw [any_eqB]; exact h)
theorem notin_bools {l : Addr} {bs : List Bool} {c : Bool} (hl : s.heap.IsList l (bs.map Value.bool).toArray) (h : Q (.bool (!bs.contains c)) s) : wpAny (model prog w) A (compareOp .NotIn (.bool c) (.ref l)) Q E s :=
  notIn_listAt (eqB c) hl (eq_bools bs c) (by rw [any_eqB]; exact h)
end
noncomputable def pol (wd : Str) (bs : List Bool) : Bool :=
  if (bs.map Value.bool).toArray.size == 0 then true
  else if wd == Str.ofString "AllOn" then !bs.contains false
  else if wd == Str.ofString "AnyOff" then bs.contains false
  else if wd == Str.ofString "AllOff" then !bs.contains true
  else bs.contains true

local macro_rules | `(tactic| kwd_inv) => `(tactic| first | exact unitK 3 (by assumption) (by decide) | exact unitK 4 (by assumption) (by decide) | exact unitM 3 (by assumption) (by decide) | exact unit2 3 (by assumption) (by decide) | exact unitM 4 (by assumption) (by decide) | ((try simp only [units_in1, units_deeper]); (try dsimp only); omega))
local macro_rules | `(tactic| kfm_turns) => `(tactic| exact list_news (by k_asm) (by k_mem))
local macro_rules | `(tactic| kpt_turns) => `(tactic| exact list_base (by k_asm) (by assumption))
theorem lines_C4_3 : True := by
  k_with "ZcompareOp Eq ref ref" => (k_here; k_dflt (refine' eq_nil (by kpt_turns) (by kfm_turns) (by kwd_inv) ?_; k_whole))
  k_with "ZcompareOp In bool ref" => (k_here; k_dflt (refine' in_bools (by kpt_turns) ?_; k_whole))
  k_with "ZcompareOp NotIn bool ref" => (k_here; k_dflt (refine' notin_bools (by kpt_turns) ?_; k_whole))
  trivial
section
variable {w : World} {A₀ : Around} {s : Shared} {base h₀ : Heap} {outer : List Env} {L : Addr} {m mg mb : Str → Option Value} {env : Env} {p : Program} {loose : List Str} {mean : ExcName → Option Value}
  {E : Value → Shared → Prop} {Q : Value → Shared → Prop} {news : List (Addr × Obj)} {dp un : Nat} {gd : Option (List Code)}
theorem policy_call {l : Addr} {bs : List Bool} {wd : Str} {wt : Tok} (C : Cx (hd.heap_1 w.params) A₀ base h₀ env outer L m p loose mean mg mb s news) (hroom : dp + 2 < recursionLimit) (hun : un + 10 < cLine)
    (H : s.heap.IsList l (bs.map Value.bool).toArray)
    (ret : ∀ h' tk', Fr h₀ L h' m → News h₀ L h' news → Keeps [] s.heap h' → Q (.bool (pol wd bs)) { s with heap := h', toks := tk' }) :
    wpAny (model PySem.Challenge.rw_pb0479_01.row.prog w) (At dp un gd env outer) (call (.ref 393) [.str wd wt, .ref l]) Q E s := by
  obtain ⟨B, F, X, T, N, hf, hke⟩ := C
  revert X
  k_fill
  intro X
  walk_at "ENTER"
  intro g' L' h' hg1 hg2 hg3 hL F' N' B' X' T' hlt
  have F₀ := F
  have N₀ := N
  have kg : ∀ b o, s.heap.get? b = some o → g'.get? b = some o := fun b o e => hg1 b o e (fun q => nomatch q)
  have H' : g'.IsList l (bs.map Value.bool).toArray := let ⟨o, ho, r⟩ := H; ⟨o, kg _ _ ho, r⟩
  clear H
  clear hg2 hg3 X N T F B hf hke
  show wpAny _ _ _ _ _ _
  k_fold
  k_steps
  all_goals (
    (with_reducible rename Fr _ _ _ _ => Fz)
    have z := pure_back F₀ N₀ hg1 hL Fz
    have ret' : ∀ b h' tk', b = pol wd bs → Fr h₀ L h' m → News h₀ L h' news → Keeps [] s.heap h' → Q (.bool b) { s with heap := h', toks := tk' } := fun b h' tk' e => e ▸ ret h' tk'
    refine ret' _ _ _ ?_ z.1 z.2.1 z.2.2
    simp only [pol]
    simp_all)
end
end
section -- C5
open PySem PySem.W PyProof.Rows PySem.Spec PySem.Calls PySem.SeqAt
theorem lines_C5_1 : True := by
  k_with_none
  k_with "Zspliced" => (k_here; k_dflt (refine' args_simG (by rfl) (by rfl) (by k_asm) (by rfl) ?_; k_whole); (try dsimp only [List.cons_append, List.nil_append]))
  trivial
local macro_rules | `(tactic| k_inst) => `(tactic| (refine' inst_base (by k_asm) (by assumption) (by assumption)))
local macro_rules | `(tactic| kit_at) => `(tactic| (refine' kitAt_base (by k_asm) (by assumption) (by assumption)))
local macro_rules | `(tactic| k_room) => `(tactic| first | exact roomK 1 (by assumption) (by decide) | exact unitK 1 (by assumption) (by decide) | exact unit2 1 (by assumption) (by decide) | exact roomM 1 (by assumption) (by decide) | exact unitM 1 (by assumption) (by decide) | exact roomK 2 (by assumption) (by decide) | exact unitK 2 (by assumption) (by decide) | exact roomZ (by assumption) | exact roomZM (by assumption) | ((try simp only [depth_under_make, depth_under_kw, depth_in1, depth_deeper]); (try dsimp only); omega))

local macro_rules | `(tactic| kwd_rel) => `(tactic| exact ⟨by k_asm, by k_asm, by k_asm, by k_asm, by k_asm, rfl, rfl⟩)

theorem lines_C5_2 : True := by
  k_with "ZgetMethod ref" => (k_here; k_dflt (first | (refine' method_inst (by k_asm) (by k_asm) (by k_inst) (by k_is) (by k_is) (by k_is) (by assumption) ?_; k_whole) | (refine' dget_method (by k_asm) (by assumption) ?_; k_whole)))
  k_with "ZgetAttr ref" => (k_here; k_dflt (refine' get_own (by k_asm) (by k_asm) (by k_inst) (by k_is) (by k_is) (by k_is) (by k_is) (by assumption) (by k_handed) ?_; k_whole))
  k_with "Zcall builtin:dict.get" => (k_here; k_dflt (first | (refine' dget2 (by k_asm) (by assumption) (by first | exact strKind_is _ _ _ _ | exact intKind_is _ _ _ _) (by assumption) ?_; k_whole; (try dsimp only [Option.getD])) | (refine' dget1 (by k_asm) (by assumption) (by first | exact strKind_is _ _ _ _ | exact intKind_is _ _ _ _) (by assumption) ?_; k_whole; (try dsimp only [Option.getD]))))
  k_with "ZENTER" => (refine wpAny_call ?_; refine' enterK [] (by assumption) (by assumption) (by assumption) (by assumption) (fun _ h => nomatch h) rfl (by assumption) (by assumption) (by k_dflt k_is) (by k_dflt k_is) (by k_room) (BindsTo.of_eq rfl) (locs rfl) ?_ (by decide) (by rfl) (by rfl) (by rfl))
  k_with "Zcall ref" => (k_here; refine halt_call (by decide) ?_)
  k_with "Zcall ref" => (k_here; (with_reducible show wpAny _ _ (call (Value.ref 306) [_, _, _]) _ _ _); k_dflt (refine' get_call (by kwd_rel) (by k_room) (ShelfAt.keeps (Fr.keep (by k_asm)) (by assumption)) (TabAt.keeps (Fr.keep (by k_asm)) (by assumption)) (DctAt.keeps (Fr.keep (by k_asm)) (by assumption)) (by assumption) (Fet.keeps (by assumption) (Fr.keep (by k_asm))) ?_; k_whole); intro _ _ _ _ k'; (try clear k'); (try k_sweep); (try dsimp only))
  k_with "Zcall ref" => (k_here; (with_reducible show wpAny _ _ (call (Value.ref 386) [_, _]) _ _ _); k_dflt (refine' isg_call (by kwd_rel) (by k_room) (ShelfAt.keeps (Fr.keep (by k_asm)) (by assumption)) (TabAt.keeps (Fr.keep (by k_asm)) (by assumption)) (IsG.keeps (by assumption) (Fr.keep (by k_asm))) ?_; k_whole); intro _ _ _ _ k'; (try clear k'); (try k_sweep); (try dsimp only))
  k_with "ZENTERC" => (refine wpAny_call ?_; refine' enterKC [] (by assumption) (by assumption) (by assumption) (by assumption) (fun _ h => nomatch h) rfl (by assumption) (by assumption) (by k_dflt k_is) (by k_dflt k_is) (by k_room) (BindsTo.of_eq rfl) (by exact rfl) (by decide +kernel) ?_ (by rfl) (by rfl) (by rfl))
  k_with "Zeval Call Attribute" => (k_here; (with_reducible show wpAny _ _ (eval (PySem.Expr.Call (PySem.Expr.Attribute (PySem.Expr.Name _ _) _ _) (_ :: _) [] _) _) _ _ _); k_dflt (refine' meth_sim (by k_asm) (by k_asm) (by exact rfl) (by assumption) (by assumption) (by k_is) (by k_is) (by k_is) (by assumption) (by k_is) (by rfl) ?_ (by rfl) (by rfl) (by decide) (by rfl); k_whole))
  trivial
/-- the told states: a dict of ints and bools -/
structure StAt (w : World) (h : Heap) (st : Addr) (f : Int → Option Bool) : Prop where
  ex : ∃ kvs, DctAt (ik w) h st kvs ∧ ∀ n, valueAt kvs n = (f n).map Value.bool
theorem StAt.keeps {w : World} {h h' : Heap} {st : Addr} {f : Int → Option Bool} (k : ∀ b o, h.get? b = some o → h'.get? b = some o) (a : StAt w h st f) : StAt w h' st f := let ⟨kvs, d, e⟩ := a.ex; ⟨⟨kvs, d.keeps k, e⟩⟩
/-- what an item adds to the members -/
inductive ItemSt (w : World) (h : Heap) (vals : List Value) (f : Int → Option Bool) : Value → Option Bool → Prop
  | no {v : Value} : IsG w h vals v false → ItemSt w h vals f v none
  | group {x : Addr} {n : Int} : RefAt h x n → IsG w h vals (.ref x) true → ItemSt w h vals f (.ref x) (f n)
theorem ItemSt.keeps {w : World} {h h' : Heap} {vals : List Value} {f : Int → Option Bool} {v : Value} {o : Option Bool} (k : ∀ b o, h.get? b = some o → h'.get? b = some o) (a : ItemSt w h vals f v o) : ItemSt w h' vals f v o := by
  cases a with
  | no x => exact .no (x.keeps k)
  | group x y => exact .group (x.keeps k) (y.keeps k)
section
variable {w : World} {A : Around} {E : Value → Shared → Prop} {s : Shared} {L : Addr} {h₀ : Heap} {m : Str → Option Value} {KT : Type} {_iKT : DecidableEq KT} {knd : KeyKind PR w KT} {d : Addr} {kvs : List (KT × Value)} {key dflt v : Value} {k : KT}
theorem dget2y {Q : Value → Shared → Prop} {y : Value} (F : Fr h₀ L s.heap m) (hd : DctAt knd h₀ d kvs) (hkey : knd.is k key = true) (hl : (valueAt kvs k).getD dflt = y) (h : Q y { s with toks := s.toks + 1 }) :
    wpAny (model PR w) A (call (.builtin "dict.get") [.ref d, key, dflt]) Q E s := dget2 F hd hkey rfl (by rw [hl]; exact h)
theorem din {Q : Value → Shared → Prop} {b : Bool} (F : Fr h₀ L s.heap m) (hd : DctAt knd h₀ d kvs) (hkey : knd.is k key = true) (hb : (valueAt kvs k).isSome = b) (h : Q (.bool b) { s with toks := s.toks + 1 }) :
    wpAny (model PR w) A (compareOp .In key (.ref d)) Q E s := wpAny_in_of hkey hd.lo (dictOf_keeps hd.at_ F.keep).mapOf (by rw [hb]; exact h)
theorem ditem {value slice : PySem.Expr} {Q : Value → Shared → Prop} (F : Fr h₀ L s.heap m) (hd : DctAt knd h₀ d kvs) (hkey : knd.is k key = true) (hl : valueAt kvs k = some v) (h : Q v { s with toks := s.toks + 1 })
    (hs : subscripted slice false (.ref d) key = operate [.ref d, key] (getItem (.ref d) key) := by with_unfolding_all rfl) (hg : ∀ r, letTemporaryGo value (.ref d) r = pure () := by intro _; with_unfolding_all rfl) :
    wpAny (model PR w) A (subscriptTail value slice (.ref d) key) Q E s :=
  have hD := dictOf_keeps hd.at_ F.keep
  subscriptTail_builtin hD.typeIs slot_dict_getitem.lookup (wpAny_getItem_of hkey hD.mapOf hl h) hs hg
end

theorem fresh_back {h g h' : Heap} {L' a : Addr} {o : Obj} {news' : List (Addr × Obj)} (N' : News g L' h' news') (hq : (a, o) ∈ news') (kg : ∀ b o, h.get? b = some o → g.get? b = some o) : h.get? a = none ∧ h'.get? a = some o := by
  refine ⟨?_, (N' _ hq).1⟩
  cases e : h.get? a with
  | none => rfl
  | some o' => have := kg _ _ e; rw [(N' _ hq).2.2] at this; cases this
theorem news_cons {h₀ h h' : Heap} {L D : Addr} {m : Str → Option Value} {o : Obj} {news : List (Addr × Obj)} (F₀ : Fr h₀ L h m) (N₀ : News h₀ L h news) (N : News h₀ L h' news) (hn : h.get? D = none) (ho : h'.get? D = some o) :
    News h₀ L h' ((D, o) :: news) ∧ ∀ p ∈ news, p.1 ≠ D := by
  refine ⟨fun p hp => ?_, fun p hp q => ?_⟩
  · rcases List.mem_cons.mp hp with rfl | hp
    · refine ⟨ho, fun q => ?_, ?_⟩
      · obtain ⟨oL, _, _, e, _⟩ := F₀.ns
        rw [← q, hn] at e; cases e
      · cases e : h₀.get? D with
        | none => rfl
        | some o' => have := F₀.keep _ _ e; rw [hn] at this; cases this
    · exact N p hp
  · have := (N₀ p hp).1
    rw [q, hn] at this; cases this
theorem fm_bools (gs : List (Option Bool)) : (gs.map (·.map Value.bool)).filterMap id = (gs.filterMap id).map Value.bool := by
  induction gs with
  | nil => rfl
  | cons o r ih => cases o <;> simp_all
section
open LCt LCg
variable {prog : Program} {w : World} {A : Around} {s : Shared} {h₀ : Heap} {L : Addr} {m : Str → Option Value} {env : Env}
theorem restT_ind {ct elt : PySem.Expr} {x : Str} {scope : Scope} {cl : List (Str × Addr)} {S : List (Addr × Obj) → Prop} {P : Nat → Value → Prop} {Fin : List Value → List (Addr × Obj) → Prop} {news : List (Addr × Obj)} {n : Nat} (vs : List Value) (os : List (Option Value)) (R : Value → Option Value → Prop)
    (hnv : n = vs.length) (hlen : os.length = vs.length) (hR : ∀ (i : Nat) v o, vs[i]? = some v → os[i]? = some o → R v o)
    (hP : ∀ i v, P i v → vs[i]? = some v) (hS : S news)
    (step : ∀ v o, R v o → ∀ ys I oI C oC D m₂ h tk (E' : Value → Shared → Prop) (R1 : Value → List (Addr × Obj) → Prop) (R0 : List (Addr × Obj) → Prop), (∀ y, o = some y → R1 y news) → (o = none → R0 news) → S news →
      NsObj oC m₂ → m₂ x = some v → Fr h₀ L h m → News h₀ L h ((I, oI) :: (C, oC) :: (D, lst ys) :: news) → Off3 I C D news → ((@Ne Nat I C) ∧ (@Ne Nat I D) ∧ (@Ne Nat C D)) →
      wpAny (model prog w) A (isTrue ct (compEnvC scope cl C env) (eval ct (compEnvC scope cl C env))) (fun ok s' => if ok = true then
        wpAny (model prog w) A (eval elt (compEnvC scope cl C env)) (CompEnd h₀ L m { s with heap := h, toks := tk } I oI C oC D (lst ys) S R1) E' s'
        else CompEnd h₀ L m { s with heap := h, toks := tk } I oI C oC D (lst ys) S (fun _ => R0) Value.none s') E' { s with heap := h, toks := tk })
    (fin : Fin (os.filterMap id) news) : CompRestT prog w A h₀ L m env ct elt x scope cl s S P Fin n 0 [] news := by
  subst hnv
  have all : ∀ k i ys, k + i = vs.length → ys = (os.take i).filterMap id → CompRestT prog w A h₀ L m env ct elt x scope cl s S P Fin k i ys news := by
    intro k
    induction k with
    | zero =>
      intro i ys hk hy
      have : i = os.length := by omega
      subst this
      rw [List.take_length] at hy
      subst hy
      exact fin
    | succ k ih =>
      intro i ys hk hy
      refine CompRestT.succ fun v I oI C oC D m₂ h tk E' hv hC hx F N off ne => ?_
      have hvi := hP i v hv
      have hio : i < os.length := by omega
      have hoi : os[i]? = some os[i] := List.getElem?_eq_getElem hio
      have ht : os.take (i + 1) = os.take i ++ [os[i]] := by rw [List.take_succ, hoi]; rfl
      refine step v os[i] (hR i v _ hvi hoi) ys I oI C oC D m₂ h tk E' _ _ (fun y hy' => ?_) (fun hn => ?_) hS hC hx F N off ne
      · refine ih (i + 1) _ (by omega) ?_
        rw [ht, List.filterMap_append, ← hy]
        simp [hy']
      · refine ih (i + 1) _ (by omega) ?_
        rw [ht, List.filterMap_append, ← hy]
        simp [hn]
  exact all vs.length 0 [] (by omega) (by simp)
end

local macro_rules | `(tactic| kwd_inv) => `(tactic| first | exact unitK 3 (by assumption) (by decide) | exact unitK 4 (by assumption) (by decide) | exact unitM 3 (by assumption) (by decide) | exact unit2 3 (by assumption) (by decide) | exact unitM 4 (by assumption) (by decide) | ((try simp only [units_in1, units_deeper]); (try dsimp only); omega))
local macro_rules | `(tactic| kfm_turns) => `(tactic| exact list_news (by k_asm) (by k_mem))
local macro_rules | `(tactic| kpt_turns) => `(tactic| exact list_base (by k_asm) (by assumption))

theorem lines_C5_3 : True := by
  k_with "ZcompareOp In int ref" => (k_here; k_dflt (refine' din (by k_asm) (by assumption) (intKind_is _ _ _ _) (by assumption) ?_; k_whole))
  k_with "ZsubscriptTail" => (k_here; (with_reducible show wpAny _ _ (subscriptTail _ _ (Value.ref _) (Value.int _ _)) _ _ _); k_dflt (refine' ditem (by k_asm) (by assumption) (intKind_is _ _ _ _) (by assumption) ?_; k_whole))
  trivial
section
variable {w : World} {A₀ : Around} {s : Shared} {base h₀ : Heap} {outer : List Env} {L : Addr} {m mg mb : Str → Option Value} {env : Env} {p : Program} {loose : List Str} {mean : ExcName → Option Value}
  {E : Value → Shared → Prop} {Q : Value → Shared → Prop} {news : List (Addr × Obj)} {dp un : Nat} {gd : Option (List Code)}
theorem items_list {sh tb d l : Addr} {vals : List Value} {kvs : List (Str × Value)} {key : Str} {kt : Tok} {y : Value} {o : Obj} (C : Cx (hd.heap_1 w.params) A₀ base h₀ env outer L m p loose mean mg mb s news) (hroom : dp + 6 < recursionLimit)
    (S : ShelfAt s.heap sh tb) (T₀ : TabAt w s.heap tb vals) (D : DctAt (sk w) s.heap d kvs) (hx : (valueAt kvs key).getD .none = y) (V : Fet s.heap vals y (.ref l)) (H : s.heap.get? l = some o) (hc : o.cls = .type "list")
    (ret : ∀ h' tk', Fr h₀ L h' m → News h₀ L h' news → Keeps [] s.heap h' → Q (.ref l) { s with heap := h', toks := tk' }) :
    wpAny (model PySem.Challenge.rw_pb0479_01.row.prog w) (At dp un gd env outer) (call (.ref 379) [.ref sh, .ref d, .str key kt]) Q E s := by
  obtain ⟨B, F, X, T, N, hf, hke⟩ := C
  revert X
  k_fill
  intro X
  walk_at "ENTER"
  intro g' L' h' hg1 hg2 hg3 hL F' N' B' X' T' hlt
  have F₀ := F
  have N₀ := N
  have kg : ∀ b o, s.heap.get? b = some o → g'.get? b = some o := fun b o e => hg1 b o e (fun q => nomatch q)
  have S' := S.keeps kg
  obtain ⟨dx, es, q, i1, i2, j1, j2, j3, j4⟩ := S'.w
  have T₁ := T₀.keeps kg
  have D' := D.keeps kg
  have V' := V.keeps kg
  have H' := kg _ _ H
  clear S T₀ D V H
  clear hg2 hg3 X N T F B hf hke
  show wpAny _ _ _ _ _ _
  k_fold
  k_steps
  all_goals (
    (with_reducible rename Fr _ _ _ _ => Fz)
    have z := pure_back F₀ N₀ hg1 hL Fz
    exact ret _ _ z.1 z.2.1 z.2.2)
theorem items_none {sh tb d : Addr} {vals : List Value} {kvs : List (Str × Value)} {key : Str} {kt : Tok} {y r : Value} (C : Cx (hd.heap_1 w.params) A₀ base h₀ env outer L m p loose mean mg mb s news) (hroom : dp + 6 < recursionLimit)
    (S : ShelfAt s.heap sh tb) (T₀ : TabAt w s.heap tb vals) (D : DctAt (sk w) s.heap d kvs) (hx : (valueAt kvs key).getD .none = y) (V : Fet s.heap vals y r) (hr : r = .none ∨ ∃ a o, r = .ref a ∧ s.heap.get? a = some o ∧ o.cls = .type "dict")
    (ret : ∀ D h' tk', Fr h₀ L h' m → News h₀ L h' ((D, W.listOf #[] 0) :: news) → (∀ p ∈ news, p.1 ≠ D) → Keeps [] s.heap h' → Q (.ref D) { s with heap := h', toks := tk' }) :
    wpAny (model PySem.Challenge.rw_pb0479_01.row.prog w) (At dp un gd env outer) (call (.ref 379) [.ref sh, .ref d, .str key kt]) Q E s := by
  obtain ⟨B, F, X, T, N, hf, hke⟩ := C
  revert X
  k_fill
  intro X
  walk_at "ENTER"
  intro g' L' h' hg1 hg2 hg3 hL F' N' B' X' T' hlt
  have F₀ := F
  have N₀ := N
  have kg : ∀ b o, s.heap.get? b = some o → g'.get? b = some o := fun b o e => hg1 b o e (fun q => nomatch q)
  have S' := S.keeps kg
  obtain ⟨dx, es, q, i1, i2, j1, j2, j3, j4⟩ := S'.w
  have T₁ := T₀.keeps kg
  have D' := D.keeps kg
  have V' := V.keeps kg
  clear S T₀ D V
  clear hg2 hg3 X N T F B hf hke
  show wpAny _ _ _ _ _ _
  k_fold
  rcases hr with rfl | ⟨a, o, rfl, ho, hc⟩
  · k_steps
    (with_reducible rename Fr _ _ _ _ => Fz)
    (with_reducible rename News _ _ _ _ => Nz)
    have z := pure_back F₀ N₀ hg1 hL Fz
    have y := fresh_back Nz (by k_mem) kg
    have x := news_cons F₀ N₀ z.2.1 y.1 y.2
    exact ret _ _ _ z.1 x.1 x.2 z.2.2
  · have ho' := kg _ _ ho
    clear ho
    k_steps
    (with_reducible rename Fr _ _ _ _ => Fz)
    (with_reducible rename News _ _ _ _ => Nz)
    have z := pure_back F₀ N₀ hg1 hL Fz
    have y := fresh_back Nz (by k_mem) kg
    have x := news_cons F₀ N₀ z.2.1 y.1 y.2
    exact ret _ _ _ z.1 x.1 x.2 z.2.2


theorem lines_C5_4 : True := by
  k_with "ZCompEnd" => (k_dflt (refine' LCg.CompEnd.intro (by k_asm) (by k_asm) _ (by first | exact fun _ h => h | lcg_sub) (by assumption) (by assumption) (by assumption)))
  k_with "ZCompSrcT" => (k_here; k_dflt (first | (refine LCt.CompSrcT.ledger (by rfl) (by k_asm) (by k_asm) (by k_mem) (by first | size_fits | exact Nat.le_of_ble_eq_true rfl) ?_; intro g') | (refine LCt.CompSrcT.base (by rfl) (by k_asm) (by k_asm) (by assumption) (by first | assumption | size_fits | exact Nat.le_of_ble_eq_true rfl) ?_; intro _)); refine halt ?_)
  trivial
theorem mem_items {sh tb st d l : Addr} {vals : List Value} {f : Int → Option Bool} {kvs : List (Str × Value)} {v : Value} {vs : List Value} {gs : List (Option Bool)} (C : Cx (hd.heap_1 w.params) A₀ base h₀ env outer L m p loose mean mg mb s news) (hroom : dp + 10 < recursionLimit)
    (S : ShelfAt s.heap sh tb) (T₀ : TabAt w s.heap tb vals) (D : DctAt (sk w) s.heap d kvs) (St : StAt w s.heap st f) (hx : (valueAt kvs (Str.ofString "OCGs")).getD .none = v) (G : IsG w s.heap vals v false) (V : Fet s.heap vals v (.ref l)) (H : s.heap.IsList l vs.toArray) (hn : vs.toArray.size ≤ sizeLine) (hgs : gs.length = vs.length) (It : ∀ (i : Nat) v ob, vs[i]? = some v → gs[i]? = some ob → ItemSt w s.heap vals f v ob)
    (ret : ∀ D k h' tk', Fr h₀ L h' m → News h₀ L h' ((D, W.listOf ((gs.filterMap id).map Value.bool).toArray k) :: news) → (∀ p ∈ news, p.1 ≠ D) → Keeps [] s.heap h' → Q (.ref D) { s with heap := h', toks := tk' }) :
    wpAny (model PySem.Challenge.rw_pb0479_01.row.prog w) (At dp un gd env outer) (call (.ref 398) [.ref sh, .ref st, .ref d]) Q E s := by
  obtain ⟨B, F, X, T, N, hf, hke⟩ := C
  revert X
  k_fill
  intro X
  walk_at "ENTERC"
  intro g' L' h' tk0 cells hg1 hg2 hg3 hL F' N' Y' B' X' T' hlt
  k_cells Y'
  (try simp only [List.cons_append, List.nil_append, List.append_nil] at N')
  have F₀ := F
  have N₀ := N
  have kg : ∀ b o, s.heap.get? b = some o → g'.get? b = some o := fun b o e => hg1 b o e (fun q => nomatch q)
  have S' := S.keeps kg
  have T₁ := T₀.keeps kg
  obtain ⟨dx, es, q, i1, i2, j1, j2, j3, j4⟩ := S'.w
  have D' := D.keeps kg
  obtain ⟨skv, sd, sf⟩ := (St.keeps kg).ex
  have G' := G.keeps kg
  replace It : ∀ (i : Nat) v ob, vs[i]? = some v → gs[i]? = some ob → ItemSt w g' vals f v ob := fun i v ob a b => (It i v ob a b).keeps kg
  have V' := V.keeps kg
  have H' : g'.IsList l vs.toArray := let ⟨o, ho, r⟩ := H; ⟨o, kg _ _ ho, r⟩
  obtain ⟨ol, hol, hoc, _⟩ := id H'
  clear S T₀ D St G V H
  clear hg2 hg3 X N T F B hf hke
  show wpAny _ _ _ _ _ _
  k_fold
  k_steps
  refine unhalt ?_
  k_dflt (refine' items_list (by kwd_rel) (by k_room) (ShelfAt.keeps (Fr.keep (by k_asm)) (by assumption)) (TabAt.keeps (Fr.keep (by k_asm)) (by assumption)) (DctAt.keeps (Fr.keep (by k_asm)) (by assumption)) (by assumption) (Fet.keeps (by assumption) (Fr.keep (by k_asm))) (Fr.keep (by k_asm) _ _ (by assumption)) (by assumption) ?_; k_whole)
  intro _ _ _ _ k9
  clear k9
  (try k_sweep); (try dsimp only)
  k_steps
  refine unhalt ?_
  have hos : (gs.map (·.map Value.bool)).length = vs.length := by rw [List.length_map]; exact hgs
  refine restT_ind vs (gs.map (·.map Value.bool)) (fun v o => ∃ ob, ItemSt w g' vals f v ob ∧ o = ob.map Value.bool) (by simp) hos ?_ ?_ ?_ ?_ ?_
  · intro i v o h1 h2
    rw [List.getElem?_map] at h2
    obtain ⟨ob, h3, rfl⟩ := Option.map_eq_some_iff.mp h2
    exact ⟨ob, It i v ob h1 h3, rfl⟩
  · intro i v hv
    simpa using hv
  · exact Or.inl (by assumption)
  · intro v o hR ys I oI C oC Dd m₂ h tk E' R1 R0 h1 h0 hS hC hx F N off ne
    (with_reducible rename Fr _ _ _ _ => Fzz)
    obtain ⟨ob, hi, rfl⟩ := hR
    cases hi with
    | no G2 =>
      have q0 := h0 rfl
      k_steps
    | group R G2 =>
      obtain ⟨dr, er, qr, tn, tg, r1, r2, r3, r4⟩ := R.w
      rename_i n
      have sfn := sf n
      cases hfn : f n with
      | none =>
        have q0 := h0 (by rw [hfn]; rfl)
        rw [hfn] at sfn
        have hb : (valueAt skv n).isSome = false := by rw [sfn]; rfl
        k_steps
      | some b =>
        have q1 := h1 (.bool b) (by rw [hfn]; rfl)
        rw [hfn] at sfn
        have hb : (valueAt skv n).isSome = true := by rw [sfn]; rfl
        have hv' : valueAt skv n = some (.bool b) := sfn
        k_steps
  · k_steps
    all_goals (
      (with_reducible rename Fr _ _ _ _ => Fz)
      (with_reducible rename News _ _ _ _ => Nz)
      have z := pure_back F₀ N₀ hg1 hL Fz
      have y := fresh_back Nz (by k_mem) kg
      have x := news_cons F₀ N₀ z.2.1 y.1 y.2
      rw [fm_bools] at x
      exact ret _ _ _ _ z.1 x.1 x.2 z.2.2)
theorem mem_group {sh tb st d x : Addr} {n : Int} {vals : List Value} {f : Int → Option Bool} {kvs : List (Str × Value)} (C : Cx (hd.heap_1 w.params) A₀ base h₀ env outer L m p loose mean mg mb s news) (hroom : dp + 10 < recursionLimit)
    (S : ShelfAt s.heap sh tb) (T₀ : TabAt w s.heap tb vals) (D : DctAt (sk w) s.heap d kvs) (St : StAt w s.heap st f) (hx : (valueAt kvs (Str.ofString "OCGs")).getD .none = .ref x) (R : RefAt s.heap x n) (G : IsG w s.heap vals (.ref x) true)
    (ret : ∀ D k h' tk', Fr h₀ L h' m → News h₀ L h' ((D, W.listOf (([f n].filterMap id).map Value.bool).toArray k) :: news) → (∀ p ∈ news, p.1 ≠ D) → Keeps [] s.heap h' → Q (.ref D) { s with heap := h', toks := tk' }) :
    wpAny (model PySem.Challenge.rw_pb0479_01.row.prog w) (At dp un gd env outer) (call (.ref 398) [.ref sh, .ref st, .ref d]) Q E s := by
  obtain ⟨B, F, X, T, N, hf, hke⟩ := C
  revert X
  k_fill
  intro X
  walk_at "ENTERC"
  intro g' L' h' tk0 cells hg1 hg2 hg3 hL F' N' Y' B' X' T' hlt
  k_cells Y'
  (try simp only [List.cons_append, List.nil_append, List.append_nil] at N')
  have F₀ := F
  have N₀ := N
  have kg : ∀ b o, s.heap.get? b = some o → g'.get? b = some o := fun b o e => hg1 b o e (fun q => nomatch q)
  have S' := S.keeps kg
  have T₁ := T₀.keeps kg
  obtain ⟨dx, es, q, i1, i2, j1, j2, j3, j4⟩ := S'.w
  have D' := D.keeps kg
  obtain ⟨skv, sd, sf⟩ := (St.keeps kg).ex
  have G' := G.keeps kg
  have R' := R.keeps kg
  clear S T₀ D St G R
  clear hg2 hg3 X N T F B hf hke
  show wpAny _ _ _ _ _ _
  k_fold
  k_steps
  refine unhalt ?_
  have hos : ([f n].map (·.map Value.bool)).length = [Value.ref x].length := rfl
  refine restT_ind [Value.ref x] ([f n].map (·.map Value.bool)) (fun v o => v = .ref x ∧ o = (f n).map Value.bool) (by simp) hos ?_ ?_ ?_ ?_ ?_
  · intro i v o h1 h2
    match i, h1, h2 with
    | 0, h1, h2 =>
      cases h1; cases h2
      exact ⟨rfl, rfl⟩
  · intro i v hv
    simpa using hv
  · exact Or.inr ⟨_, by k_mem, rfl, _, rfl⟩
  · intro v o hR ys I oI C oC Dd m₂ h tk E' R1 R0 h1 h0 hS hC hx F N off ne
    (with_reducible rename Fr _ _ _ _ => Fzz)
    obtain ⟨rfl, rfl⟩ := hR
    obtain ⟨dr, er, qr, tn, tg, r1, r2, r3, r4⟩ := R'.w
    have sfn := sf n
    cases hfn : f n with
    | none =>
      have q0 := h0 (by rw [hfn]; rfl)
      rw [hfn] at sfn
      have hb : (valueAt skv n).isSome = false := by rw [sfn]; rfl
      k_steps
    | some b =>
      have q1 := h1 (.bool b) (by rw [hfn]; rfl)
      rw [hfn] at sfn
      have hb : (valueAt skv n).isSome = true := by rw [sfn]; rfl
      have hv' : valueAt skv n = some (.bool b) := sfn
      k_steps
  · k_steps
    all_goals (
      (with_reducible rename Fr _ _ _ _ => Fz)
      (with_reducible rename News _ _ _ _ => Nz)
      have z := pure_back F₀ N₀ hg1 hL Fz
      have y := fresh_back Nz (by k_mem) kg
      have x := news_cons F₀ N₀ z.2.1 y.1 y.2
      rw [fm_bools] at x
      exact ret _ _ _ _ z.1 x.1 x.2 z.2.2)
theorem hr_keeps {h h' : Heap} {L : Addr} {m : Str → Option Value} {r : Value} (F : Fr h L h' m) (a : r = .none ∨ ∃ a o, r = .ref a ∧ h.get? a = some o ∧ o.cls = .type "dict") : r = .none ∨ ∃ a o, r = .ref a ∧ h'.get? a = some o ∧ o.cls = .type "dict" := a.imp id fun ⟨a, o, e, h1, h2⟩ => ⟨a, o, e, F.keep _ _ h1, h2⟩

theorem mem_none {sh tb st d : Addr} {vals : List Value} {f : Int → Option Bool} {kvs : List (Str × Value)} {v : Value} {r : Value} (C : Cx (hd.heap_1 w.params) A₀ base h₀ env outer L m p loose mean mg mb s news) (hroom : dp + 10 < recursionLimit)
    (S : ShelfAt s.heap sh tb) (T₀ : TabAt w s.heap tb vals) (D : DctAt (sk w) s.heap d kvs) (St : StAt w s.heap st f) (hx : (valueAt kvs (Str.ofString "OCGs")).getD .none = v) (G : IsG w s.heap vals v false) (V : Fet s.heap vals v r) (hr : r = .none ∨ ∃ a o, r = .ref a ∧ s.heap.get? a = some o ∧ o.cls = .type "dict")
    (ret : ∀ D k h' tk', Fr h₀ L h' m → News h₀ L h' ((D, W.listOf ((([] : List (Option Bool)).filterMap id).map Value.bool).toArray k) :: news) → (∀ p ∈ news, p.1 ≠ D) → Keeps [] s.heap h' → Q (.ref D) { s with heap := h', toks := tk' }) :
    wpAny (model PySem.Challenge.rw_pb0479_01.row.prog w) (At dp un gd env outer) (call (.ref 398) [.ref sh, .ref st, .ref d]) Q E s := by
  obtain ⟨B, F, X, T, N, hf, hke⟩ := C
  revert X
  k_fill
  intro X
  walk_at "ENTERC"
  intro g' L' h' tk0 cells hg1 hg2 hg3 hL F' N' Y' B' X' T' hlt
  k_cells Y'
  (try simp only [List.cons_append, List.nil_append, List.append_nil] at N')
  have F₀ := F
  have N₀ := N
  have kg : ∀ b o, s.heap.get? b = some o → g'.get? b = some o := fun b o e => hg1 b o e (fun q => nomatch q)
  have S' := S.keeps kg
  have T₁ := T₀.keeps kg
  obtain ⟨dx, es, q, i1, i2, j1, j2, j3, j4⟩ := S'.w
  have D' := D.keeps kg
  obtain ⟨skv, sd, sf⟩ := (St.keeps kg).ex
  have G' := G.keeps kg
  have V' := V.keeps kg
  replace hr : r = .none ∨ ∃ a o, r = .ref a ∧ g'.get? a = some o ∧ o.cls = .type "dict" := hr.imp id fun ⟨a, o, e, h1, h2⟩ => ⟨a, o, e, kg _ _ h1, h2⟩
  clear S T₀ D St G V
  clear hg2 hg3 X N T F B hf hke
  show wpAny _ _ _ _ _ _
  k_fold
  k_steps
  refine unhalt ?_
  k_dflt (refine' items_none (by kwd_rel) (by k_room) (ShelfAt.keeps (Fr.keep (by k_asm)) (by assumption)) (TabAt.keeps (Fr.keep (by k_asm)) (by assumption)) (DctAt.keeps (Fr.keep (by k_asm)) (by assumption)) (by assumption) (Fet.keeps (by assumption) (Fr.keep (by k_asm))) (hr_keeps (by k_asm) (by assumption)) ?_; k_whole)
  intro _ _ _ _ _ _ k9
  clear k9
  (try k_sweep); (try dsimp only)
  k_steps
  refine unhalt ?_
  have hos : (([] : List (Option Bool)).map (·.map Value.bool)).length = ([] : List Value).length := rfl
  refine restT_ind [] (([] : List (Option Bool)).map (·.map Value.bool)) (fun _ _ => False) (by simp) hos ?_ ?_ ?_ ?_ ?_
  · intro i v o h1 h2
    exact nomatch h1
  · intro i v hv
    simpa using hv
  · exact Or.inr ⟨_, by k_mem, rfl, _, rfl⟩
  · intro v o hR
    exact hR.elim
  · k_steps
    all_goals (
      (with_reducible rename Fr _ _ _ _ => Fz)
      (with_reducible rename News _ _ _ _ => Nz)
      have z := pure_back F₀ N₀ hg1 hL Fz
      have y := fresh_back Nz (by k_mem) kg
      have x := news_cons F₀ N₀ z.2.1 y.1 y.2
      rw [fm_bools] at x
      exact ret _ _ _ _ z.1 x.1 x.2 z.2.2)
end
end
section -- C6
open PySem PySem.W PyProof.Rows PySem.Spec PySem.Calls PySem.SeqAt
theorem lines_C6_1 : True := by
  k_with_none
  k_with "ZsubscriptTail Name Constant ref int" => (k_here; walk_at "subscriptTail")
  k_with "Zspliced" => (k_here; k_dflt (refine' args_simG (by rfl) (by rfl) (by k_asm) (by rfl) ?_; k_whole); (try dsimp only [List.cons_append, List.nil_append]))
  k_with "Zeval Call" => (k_here; (with_reducible show wpAny _ _ (eval (PySem.Expr.Call (PySem.Expr.Name _ _) (_ :: _) [] _) _) _ _ _); k_dflt (refine' call_simG (by rfl) (by k_asm) (by k_asm) (by k_asm) (by k_is) (by k_is) (by rfl) ?_ (by rfl) (by rfl); k_whole))
  trivial
local macro_rules | `(tactic| k_inst) => `(tactic| (refine' inst_base (by k_asm) (by assumption) (by assumption)))
local macro_rules | `(tactic| kit_at) => `(tactic| (refine' kitAt_base (by k_asm) (by assumption) (by assumption)))
local macro_rules | `(tactic| k_room) => `(tactic| first | exact roomK 1 (by assumption) (by decide) | exact unitK 1 (by assumption) (by decide) | exact unit2 1 (by assumption) (by decide) | exact roomM 1 (by assumption) (by decide) | exact unitM 1 (by assumption) (by decide) | exact roomK 2 (by assumption) (by decide) | exact unitK 2 (by assumption) (by decide) | exact roomZ (by assumption) | exact roomZM (by assumption) | ((try simp only [depth_under_make, depth_under_kw, depth_in1, depth_deeper]); (try dsimp only); omega))

local macro_rules | `(tactic| kwd_rel) => `(tactic| exact ⟨by k_asm, by k_asm, by k_asm, by k_asm, by k_asm, rfl, rfl⟩)

local macro_rules | `(tactic| kwd_inv) => `(tactic| first | exact unitK 3 (by assumption) (by decide) | exact unitK 4 (by assumption) (by decide) | exact unitM 3 (by assumption) (by decide) | exact unit2 3 (by assumption) (by decide) | exact unitM 4 (by assumption) (by decide) | ((try simp only [units_in1, units_deeper]); (try dsimp only); omega))
local macro_rules | `(tactic| kfm_turns) => `(tactic| exact list_news (by k_asm) (by k_mem))
local macro_rules | `(tactic| kpt_turns) => `(tactic| exact list_base (by k_asm) (by assumption))


theorem lines_C6_2 : True := by
  k_with "ZgetMethod ref" => (k_here; k_dflt (first | (refine' method_inst (by k_asm) (by k_asm) (by k_inst) (by k_is) (by k_is) (by k_is) (by assumption) ?_; k_whole) | (refine' dget_method (by k_asm) (by assumption) ?_; k_whole)))
  k_with "ZgetAttr ref" => (k_here; k_dflt (refine' get_own (by k_asm) (by k_asm) (by k_inst) (by k_is) (by k_is) (by k_is) (by k_is) (by assumption) (by k_handed) ?_; k_whole))
  k_with "Zcall ref" => (k_here; (with_reducible show wpAny _ _ (call (Value.ref 299) [_, _]) _ _ _); k_dflt (refine' fetch_call (by kwd_rel) (by k_room) (ShelfAt.keeps (Fr.keep (by k_asm)) (by assumption)) (TabAt.keeps (Fr.keep (by k_asm)) (by assumption)) (Fet.keeps (by assumption) (Fr.keep (by k_asm))) ?_; k_whole); intro _ _ _ _ k'; (try clear k'); (try k_sweep); (try dsimp only))
  k_with "Zcall ref" => (k_here; (with_reducible show wpAny _ _ (call (Value.ref 386) [_, _]) _ _ _); k_dflt (refine' isg_call (by kwd_rel) (by k_room) (ShelfAt.keeps (Fr.keep (by k_asm)) (by assumption)) (TabAt.keeps (Fr.keep (by k_asm)) (by assumption)) (IsG.keeps (by assumption) (Fr.keep (by k_asm))) ?_; k_whole); intro _ _ _ _ k'; (try clear k'); (try k_sweep); (try dsimp only))
  k_with "Zcall builtin:dict.get" => (k_here; k_dflt (refine' dget2y (by k_asm) (by assumption) (by first | exact strKind_is _ _ _ _ | exact intKind_is _ _ _ _) (by assumption) ?_; k_whole))
  k_with "Zeval Call" => (k_here; (with_reducible show wpAny _ _ (eval (PySem.Expr.Call (PySem.Expr.Name (Str.ofString "isinstance") _) [PySem.Expr.Name _ _, PySem.Expr.Name _ _] [] _) _) _ _ _); k_dflt (refine' isinst_sim (by k_asm) (by k_asm) (by k_asm) (by k_is) (by exact rfl) (by k_is) ?_ (by rfl) (by rfl) (by rfl) (by rfl) (by decide) (by decide); k_whole))
  trivial
/-- an expression of groups -/
inductive Tree
  | group (n : Int)
  | node (w : Str) (cs : List Tree)

/-- what a word makes of its parts -/
noncomputable def joinT (wd : Str) (bs : List Bool) : Option Bool :=
  if bs.length == 0 then none
  else if wd == Str.ofString "And" then some (!bs.contains false)
  else if wd == Str.ofString "Or" then some (bs.contains true)
  else if wd == Str.ofString "Not" && bs.length == 1 then some (!bs.headD false)
  else none

mutual
/-- what an expression tells -/
noncomputable def truthT (f : Int → Option Bool) : Tree → Option Bool
  | .group n => if n < 5 then some ((f n).getD true) else none
  | .node wd cs => (truthL f cs).bind (joinT wd)
noncomputable def truthL (f : Int → Option Bool) : List Tree → Option (List Bool)
  | [] => some []
  | c :: cs => (truthT f c).bind fun b => (truthL f cs).bind fun bs => some (b :: bs)
end

/-- a value that stands for an expression, at most k deep -/
inductive ObjAt (w : World) (h : Heap) (vals : List Value) : Nat → Value → Tree → Prop
  | group {k : Nat} {x : Addr} {n : Int} : n < 5 → RefAt h x n → IsG w h vals (.ref x) true → ObjAt w h vals k (.ref x) (.group n)
  | lost {k : Nat} {v : Value} {n : Int} : ¬ n < 5 → IsG w h vals v false → Fet h vals v .none → ObjAt w h vals k v (.group n)
  | node {k l nx : Nat} {v : Value} {wd : Str} {items : List Value} {cs : List Tree} {kx : Nat} : IsG w h vals v false → Fet h vals v (.ref l) → h.get? l = some { cls := .type "list", data := .seq (.ref nx :: items).toArray kx } → NameAt h nx wd →
      items.length = cs.length → items.length ≤ 10 → (∀ (i : Nat) (v' : Value) (c : Tree), items[i]? = some v' → cs[i]? = some c → ObjAt w h vals k v' c) → ObjAt w h vals (k + 1) v (.node wd cs)
theorem ObjAt.keeps {w : World} {h h' : Heap} {vals : List Value} {k : Nat} {v : Value} {t : Tree} (a : ObjAt w h vals k v t) (kp : ∀ b o, h.get? b = some o → h'.get? b = some o) : ObjAt w h' vals k v t := by
  induction a with
  | group a b c => exact .group a (b.keeps kp) (c.keeps kp)
  | lost a b c => exact .lost a (b.keeps kp) (c.keeps kp)
  | node a b c d e f g ih => exact .node (a.keeps kp) (b.keeps kp) (kp _ _ c) (d.keeps kp) e f ih

theorem slice_tail {a : Value} {l : List Value} : slicePick (a :: l).toArray (some 1) none none = l.toArray := by
  have e : sliceBounds (some 1) none none (a :: l).toArray.size = (((1 : Nat) : Int), (((l.length + 1) : Nat) : Int), 1) := by
    simp [sliceBounds]
    omega
  rw [kmk_pick_nat _ e]
  simp
theorem truthL_some {f : Int → Option Bool} : ∀ {cs : List Tree} {bs : List Bool}, bs.length = cs.length → (∀ (i : Nat) b, bs[i]? = some b → ∃ c, cs[i]? = some c ∧ truthT f c = some b) → truthL f cs = some bs
  | [], [], _, _ => rfl
  | c :: cs, b :: bs, hl, h => by
    obtain ⟨c', h1, h2⟩ := h 0 b rfl
    cases h1
    have ih := truthL_some (f := f) (cs := cs) (bs := bs) (by simpa using hl) fun i b' hb => by
      obtain ⟨c', h3, h4⟩ := h (i + 1) b' (by simpa using hb)
      exact ⟨c', by simpa using h3, h4⟩
    show (truthT f c).bind _ = _
    rw [h2]
    show (truthL f cs).bind _ = _
    rw [ih]
    rfl
theorem parts_of {f : Int → Option Bool} {cs : List Tree} {ys : List Value} (hl : ys.length = cs.length) (h : ∀ (i : Nat) y, ys[i]? = some y → ∃ c b, cs[i]? = some c ∧ truthT f c = some b ∧ y = .bool b) :
    ∃ bs : List Bool, ys = bs.map Value.bool ∧ truthL f cs = some bs := by
  have key : ∀ ys : List Value, (∀ y ∈ ys, ∃ b, y = Value.bool b) → ∃ bs : List Bool, ys = bs.map Value.bool := by
    intro ys
    induction ys with
    | nil => intro _; exact ⟨[], rfl⟩
    | cons y ys ih =>
      intro h
      obtain ⟨b, rfl⟩ := h y (.head _)
      obtain ⟨bs, rfl⟩ := ih fun y' hy => h y' (.tail _ hy)
      exact ⟨b :: bs, rfl⟩
  obtain ⟨bs, rfl⟩ := key ys fun y hy => by
    obtain ⟨i, hi⟩ := List.getElem?_of_mem hy
    obtain ⟨c, b, _, _, e⟩ := h i y hi
    exact ⟨b, e⟩
  refine ⟨bs, rfl, truthL_some (by simpa using hl) fun i b hb => ?_⟩
  obtain ⟨c, b', h1, h2, h3⟩ := h i (.bool b) (by rw [List.getElem?_map, hb]; rfl)
  cases h3
  exact ⟨c, h1, h2⟩
theorem truthL_none {f : Int → Option Bool} : ∀ {cs : List Tree} {i : Nat} {c : Tree}, cs[i]? = some c → truthT f c = none → truthL f cs = none
  | [], i, c, h, _ => by simp at h
  | c' :: cs, 0, c, h, hn => by
    cases h
    show (truthT f c').bind _ = _
    rw [hn]; rfl
  | c' :: cs, i + 1, c, h, hn => by
    have ih := truthL_none (f := f) (cs := cs) (i := i) (by simpa using h) hn
    show (truthT f c').bind _ = _
    cases truthT f c' with
    | none => rfl
    | some b =>
      show (truthL f cs).bind _ = _
      rw [ih]; rfl
theorem truth_none {f : Int → Option Bool} {wd : Str} {cs : List Tree} {i : Nat} {c : Tree} (h : cs[i]? = some c) (hn : truthT f c = none) : truthT f (.node wd cs) = none := by
  show (truthL f cs).bind _ = _
  rw [truthL_none h hn]; rfl

section
variable {wd : Str} {b0 b1 : Bool} {bs : List Bool}
theorem joinT_and (h : (wd == Str.ofString "And") = true) : joinT wd (b0 :: bs) = some (!(b0 :: bs).contains false) := by unfold joinT; rw [if_neg (by simp), if_pos h]
theorem joinT_or (h : (wd == Str.ofString "And") = false) (h2 : (wd == Str.ofString "Or") = true) : joinT wd (b0 :: bs) = some ((b0 :: bs).contains true) := by unfold joinT; rw [if_neg (by simp), if_neg (by simp [h]), if_pos h2]
theorem joinT_not (h : (wd == Str.ofString "And") = false) (h2 : (wd == Str.ofString "Or") = false) (h3 : (wd == Str.ofString "Not") = true) : joinT wd [b0] = some (!b0) := by
  unfold joinT; rw [if_neg (by simp), if_neg (by simp [h]), if_neg (by simp [h2]), if_pos (by simp [h3])]; rfl
theorem joinT_odd (h : (wd == Str.ofString "And") = false) (h2 : (wd == Str.ofString "Or") = false) (h3 : (wd == Str.ofString "Not") = false) : joinT wd (b0 :: bs) = none := by
  unfold joinT; rw [if_neg (by simp), if_neg (by simp [h]), if_neg (by simp [h2]), if_neg (by simp [h3])]
theorem joinT_many (h : (wd == Str.ofString "And") = false) (h2 : (wd == Str.ofString "Or") = false) : joinT wd (b0 :: b1 :: bs) = none := by
  unfold joinT; rw [if_neg (by simp), if_neg (by simp [h]), if_neg (by simp [h2]), if_neg (by simp)]
end

theorem lines_C6_3 : True := by
  k_with "ZcompareOp In bool ref" => (k_here; k_dflt (refine' in_bools (by kfm_turns) ?_; k_whole))
  k_with "ZcompareOp NotIn bool ref" => (k_here; k_dflt (refine' notin_bools (by kfm_turns) ?_; k_whole))
  k_with "Zexec Assign cons ListComp" => (k_here; k_dflt (refine' Assign_comp_X (by k_asm) rfl (by with_unfolding_all rfl) (by with_unfolding_all rfl) (by decide) (by rfl) (by decide) (by rfl) (by rfl) (by rfl) rfl rfl rfl (by assumption) ?_; k_whole))
  k_with "Zcall ref" => (k_here; (with_reducible show wpAny _ _ (call (Value.ref 404) [_, _, _, _]) _ _ _); (refine halt ?_))
  k_with "Zcall builtin:len" => (k_here; (with_reducible show wpAny _ _ (call (Value.builtin "len") [Value.ref _]) _ _ _); k_dflt (refine' kun_lenL (by first | (refine' list_base (by k_asm) (by assumption)) | exact News.isList (by k_asm) (by k_mem)) (by assumption) (by first | decide | omega) ?_; k_whole))
  k_with "Zexec Raise some none" => (k_here; k_dflt (refine' raise_tf rfl ?_))
  k_with "Zcall ref" => (k_here; (with_reducible show wpAny _ _ (call (Value.ref 59) [_]) _ _ _); k_dflt (refine' tf_call (by kwd_rel) (by k_room) ?_; k_whole); intro _ _ _ _ _ _)
  trivial
def FnB (w : World) (a : Addr) (args : List Value) (binds : List (Str × Value)) : Prop := ∀ (s' : Shared) (o : Obj) (fd : FuncData), (hd.heap_1 w.params).In s'.heap → (hd.heap_1 w.params).lookup a = some o → o.data = .func fd → BindsTo s' fd ⟨args, []⟩ binds
noncomputable def exprB (sh st : Addr) (v : Value) (d : Int) (td : Tok) : List (Str × Value) := [(Str.ofString "shelf", .ref sh), (Str.ofString "states", .ref st), (Str.ofString "value", v), (Str.ofString "depth", .int d td)]
theorem via {K : Frag} {a : Addr} {o ob : Obj} {P : Obj → Prop} (ho : K.lookup a = some o) (e : K.lookup a = some ob) (r : P ob) : P o := by
  rw [e] at ho
  cases ho
  exact r
theorem fnB4 {w : World} {sh st : Addr} {v : Value} {d : Int} {td : Tok} : FnB w 404 [.ref sh, .ref st, v, .int d td] (exprB sh st v d td) := by
  suffices h : PySem.Challenge.rw_pb0479_01 = PySem.Challenge.rw_pb0479_01 → FnB w 404 [.ref sh, .ref st, v, .int d td] (exprB sh st v d td) from h rfl
  unfold FnB
  k_fill
  intro _ s' o fd X ho
  revert fd
  refine' via (P := fun o => ∀ fd : FuncData, o.data = Data.func fd → BindsTo s' fd _ _) ho ?e ?r
  case e => k_dflt k_is
  case r =>
    intro fd hq
    cases hq
    exact binds_K X rfl (by k_is) rfl rfl rfl
theorem fnB3 {w : World} {sh st : Addr} {v : Value} : ∃ td, FnB w 404 [.ref sh, .ref st, v] (exprB sh st v 0 td) := by
  suffices h : PySem.Challenge.rw_pb0479_01 = PySem.Challenge.rw_pb0479_01 → ∃ td, FnB w 404 [.ref sh, .ref st, v] (exprB sh st v 0 td) from h rfl
  unfold FnB
  k_fill
  intro _
  refine' ⟨693, ?h⟩
  case h =>
    intro s' o fd X ho
    revert fd
    refine' via (P := fun o => ∀ fd : FuncData, o.data = Data.func fd → BindsTo s' fd _ _) ho ?e ?r
    case e => k_dflt k_is
    case r =>
      intro fd hq
      cases hq
      exact binds_K X rfl (by k_is) rfl rfl rfl
section
variable {prog : Program} {w : World} {A : Around} {E : Value → Shared → Prop} {h₀ : Heap} {L a : Addr} {m : Str → Option Value} {cn : Str} {cs : Scope} {ccd : Value} {cl : List (Str × Addr)}
/-- a local text held against a written one -/
theorem streq_sim {x : Str} {px pc pos : Pos} {c wd : Str} {kd : Nat} {tw : Tok} {whole : Sem Value} {hp : Heap} {gn : Array GenState} {dr : Drawn} {tk : Nat} {os : OsState} {Q : Bool → Shared → Prop} (F : Fr h₀ L hp m) (hx : m x = some (.str wd tw)) (h : Q (wd == c) ⟨hp, gn, dr, tk + 1, os⟩)
    (hk : cs.kind = .function := by rfl) (hkx : (envX cn cs L a ccd cl).kindOf x = some .local := by rfl) (hd : (x == ("__debug__" : Str)) = false := by decide) :
    wpAny (model prog w) A (isTrue (.Compare (.Name x px) [.Eq] [.Constant (.str c) kd pc] pos) (envX cn cs L a ccd cl) whole) Q E ⟨hp, gn, dr, tk, os⟩ :=
  wpAny_isTrue_Compare1 (nameX_L F hx (Constant_str (PyProof.Rows.eq_str (wpAny_truthy_bool h))) hk hkx hd)
end
theorem lines_C6_4 : True := by
  k_with "ZisTrue Compare" => (k_here; (with_reducible show wpAny _ _ (isTrue (PySem.Expr.Compare (PySem.Expr.Name _ _) [PySem.CmpOp.Eq] [PySem.Expr.Constant (PySem.Const.str _) _ _] _) _ _) _ _ _); k_dflt (refine' streq_sim (by k_asm) (by exact rfl) ?_ (by rfl) (by rfl) (by decide); k_whole))
  trivial
theorem expr_call {h : Heap} {vals : List Value} {f : Int → Option Bool} {dk : Nat} {v : Value} {t : Tree} {w : World} (ob : ObjAt w h vals dk v t) : ∀ {A₀ : Around} {s : Shared} {base h₀ : Heap} {outer : List Env} {L : Addr} {m mg mb : Str → Option Value} {env : Env} {p : Program} {loose : List Str} {mean : ExcName → Option Value}
    {E : Value → Shared → Prop} {Q : Value → Shared → Prop} {news : List (Addr × Obj)} {dp un : Nat} {gd : Option (List Code)} {sh tb st : Addr} {d : Int} {td : Tok} {args : List Value} (hb : FnB w 404 args (exprB sh st v d td)) (C : Cx (hd.heap_1 w.params) A₀ base h₀ env outer L m p loose mean mg mb s news) (hroom : dp + 20 * dk + 40 < recursionLimit) (hdp : d + dk ≤ 20)
    (k₀ : ∀ b o, h.get? b = some o → s.heap.get? b = some o) (S : ShelfAt s.heap sh tb) (T₀ : TabAt w s.heap tb vals) (St : StAt w s.heap st f)
    (ret : ∀ b, truthT f t = some b → ∀ h' tk', Fr h₀ L h' m → News h₀ L h' news → Keeps [] s.heap h' → Q (.bool b) { s with heap := h', toks := tk' })
    (exc : truthT f t = none → ∀ e fl h' tk', Raise s.heap (env :: outer) e fl h' → E (.ref e) { s with heap := h', toks := tk' }),
    wpAny (model PySem.Challenge.rw_pb0479_01.row.prog w) (At dp un gd env outer) (call (.ref 404) args) Q E s := by
  induction ob with
  | group hn R G =>
    intro A₀ s base h₀ outer L m mg mb env p loose mean E Q news dp un gd sh tb st d td args hb C hroom hdp k₀ S T₀ St ret exc
    rename_i dk x n
    obtain ⟨B, F, X, T, N, hf, hke⟩ := C
    revert X
    k_fill
    intro X
    refine wpAny_call ?_
    refine' enterKC [] B F X T (fun _ h => nomatch h) rfl hf hke ?ho ?hcd ?hr (hb _ _ _ (X.keeps F.keep) ?ho rfl) ?hl ?hn ?_ ?h1 ?h2 ?h3
    case ho => k_dflt k_is
    case hcd => k_dflt k_is
    case hr => k_room
    case hl => exact rfl
    case hn => decide +kernel
    case h1 => rfl
    case h2 => rfl
    case h3 => rfl
    clear hb
    intro g' L' h' tk0 cells hg1 hg2 hg3 hL F' N' Y' B' X' T' hlt
    k_cells Y'
    (try simp only [List.cons_append, List.nil_append, List.append_nil] at N')
    have F₀ := F
    have N₀ := N
    have kg : ∀ b o, s.heap.get? b = some o → g'.get? b = some o := fun b o e => hg1 b o e (fun q => nomatch q)
    have kg₀ : ∀ b o, h.get? b = some o → g'.get? b = some o := fun b o e => kg b o (k₀ b o e)
    have S' := S.keeps kg
    have T₁ := T₀.keeps kg
    obtain ⟨dx, es, q, i1, i2, j1, j2, j3, j4⟩ := S'.w
    have St' := St.keeps kg
    have G' := G.keeps kg₀
    have R' := R.keeps kg₀
    obtain ⟨dr, er, qr, tn, tg, r1, r2, r3, r4⟩ := R'.w
    obtain ⟨skv, sd, sf⟩ := St'.ex
    have sv : (valueAt skv n).getD (.bool true) = .bool ((f n).getD true) := by rw [sf n]; cases f n <;> rfl
    have tt : truthT f (.group n) = some ((f n).getD true) := by show (if n < 5 then _ else _) = _; rw [if_pos hn]
    clear S T₀ St G R
    clear hg2 hg3 X N T F B hf hke
    show wpAny _ _ _ _ _ _
    k_fold
    k_steps
    all_goals (
      (with_reducible rename Fr _ _ _ _ => Fz)
      have z := pure_back F₀ N₀ hg1 hL Fz
      exact ret _ tt _ _ z.1 z.2.1 z.2.2)
  | lost hn G V =>
    intro A₀ s base h₀ outer L m mg mb env p loose mean E Q news dp un gd sh tb st d td args hb C hroom hdp k₀ S T₀ St ret exc
    rename_i dk v n
    obtain ⟨B, F, X, T, N, hf, hke⟩ := C
    revert X
    k_fill
    intro X
    refine wpAny_call ?_
    refine' enterKC [] B F X T (fun _ h => nomatch h) rfl hf hke ?ho ?hcd ?hr (hb _ _ _ (X.keeps F.keep) ?ho rfl) ?hl ?hn ?_ ?h1 ?h2 ?h3
    case ho => k_dflt k_is
    case hcd => k_dflt k_is
    case hr => k_room
    case hl => exact rfl
    case hn => decide +kernel
    case h1 => rfl
    case h2 => rfl
    case h3 => rfl
    clear hb
    intro g' L' h' tk0 cells hg1 hg2 hg3 hL F' N' Y' B' X' T' hlt
    k_cells Y'
    (try simp only [List.cons_append, List.nil_append, List.append_nil] at N')
    have F₀ := F
    have N₀ := N
    have kg : ∀ b o, s.heap.get? b = some o → g'.get? b = some o := fun b o e => hg1 b o e (fun q => nomatch q)
    have kg₀ : ∀ b o, h.get? b = some o → g'.get? b = some o := fun b o e => kg b o (k₀ b o e)
    have S' := S.keeps kg
    have T₁ := T₀.keeps kg
    obtain ⟨dx, es, q, i1, i2, j1, j2, j3, j4⟩ := S'.w
    have St' := St.keeps kg
    have G' := G.keeps kg₀
    have V' := V.keeps kg₀
    have tt : truthT f (.group n) = none := by show (if n < 5 then _ else _) = _; rw [if_neg hn]
    clear S T₀ St G V
    clear hg2 hg3 X N T F B hf hke
    show wpAny _ _ _ _ _ _
    k_fold
    k_steps
    rename_i h₁ e' tk' kh' hn' he'
    refine unhalt ?_
    refine ⟨_, rfl, ?_, he', ?_⟩
    · exact X'.keeps fun b o q => kh' b o (Fr.keep (by assumption) b o q)
    · obtain ⟨ttt, dd, hee⟩ := he'
      show wpAny _ _ (leaving _ _) _ _ _
      (with_reducible rename Fr _ _ _ _ => Fz)
      refine note_first rfl rfl rfl B' Fz kh' hn' hee rfl rfl rfl rfl fun h'' R => ?_
      exact exc tt _ _ _ _ ((R.left Fz rfl).down (fun b o q n => ⟨kg b o q, n⟩) (.of_keeps kg) ⟨[], rfl⟩)
  | node G V H NM hlen hten hcs ih =>
    intro A₀ s base h₀ outer L m mg mb env p loose mean E Q news dp un gd sh tb st d td args hb C hroom hdp k₀ S T₀ St ret exc
    rename_i dk l nx v wd items cs kx
    obtain ⟨B, F, X, T, N, hf, hke⟩ := C
    revert X
    k_fill
    intro X
    refine wpAny_call ?_
    refine' enterKC [] B F X T (fun _ h => nomatch h) rfl hf hke ?ho ?hcd ?hr (hb _ _ _ (X.keeps F.keep) ?ho rfl) ?hl ?hn ?_ ?h1 ?h2 ?h3
    case ho => k_dflt k_is
    case hcd => k_dflt k_is
    case hr => k_room
    case hl => exact rfl
    case hn => decide +kernel
    case h1 => rfl
    case h2 => rfl
    case h3 => rfl
    clear hb
    intro g' L' h' tk0 cells hg1 hg2 hg3 hL F' N' Y' B' X' T' hlt
    k_cells Y'
    (try simp only [List.cons_append, List.nil_append, List.append_nil] at N')
    have F₀ := F
    have N₀ := N
    have kg : ∀ b o, s.heap.get? b = some o → g'.get? b = some o := fun b o e => hg1 b o e (fun q => nomatch q)
    have kg₀ : ∀ b o, h.get? b = some o → g'.get? b = some o := fun b o e => kg b o (k₀ b o e)
    have S' := S.keeps kg
    have T₁ := T₀.keeps kg
    obtain ⟨dx, es, q, i1, i2, j1, j2, j3, j4⟩ := S'.w
    have St' := St.keeps kg
    have G' := G.keeps kg₀
    have V' := V.keeps kg₀
    have H' := kg₀ _ _ H
    have NM' := NM.keeps kg₀
    obtain ⟨ndx, nes, nq, nt, n1, n2, n3⟩ := NM'.w
    have St₁ := St'.ex
    have VN : Fet g' vals (.ref nx) (.ref nx) := .plain (.name n1 n2)
    clear S T₀ St G V H NM
    have hfs : ∀ a ∈ frs (env :: outer), ∃ o, g'.get? a = some o := fun a ha => let ⟨_, o, ho, _⟩ := B'.frames.mem ha; ⟨o, ho⟩
    clear hg2 hg3 X N T F B hf hke
    show wpAny _ _ _ _ _ _
    k_fold
    cases items with
    | nil =>
      have HL : g'.IsList l #[Value.ref nx] := ⟨_, H', rfl, _, rfl⟩
      obtain ⟨ol, hol, hoc, _⟩ := id HL
      have hsz : ((#[Value.ref nx]).size : Int) = 1 := rfl
      have ht : truthT f (.node wd cs) = none := by
        have : cs = [] := List.eq_nil_of_length_eq_zero hlen.symm
        subst this; rfl
      k_steps
      rename_i h₁ e' tk' kh' hn' he'
      refine unhalt ?_
      refine ⟨_, rfl, ?_, he', ?_⟩
      · exact X'.keeps fun b o q => kh' b o (Fr.keep (by assumption) b o q)
      · obtain ⟨tt, dd, hee⟩ := he'
        show wpAny _ _ (leaving _ _) _ _ _
        (with_reducible rename Fr _ _ _ _ => Fz)
        refine note_first rfl rfl rfl B' Fz kh' hn' hee rfl rfl rfl rfl fun h'' R => ?_
        exact exc ht _ _ _ _ ((R.left Fz rfl).down (fun b o q n => ⟨kg b o q, n⟩) (.of_keeps kg) ⟨[], rfl⟩)
    | cons it0 items =>
      have HL : g'.IsList l (Value.ref nx :: it0 :: items).toArray := ⟨_, H', rfl, _, rfl⟩
      obtain ⟨ol, hol, hoc, _⟩ := id HL
      have hsz' : ((Value.ref nx :: it0 :: items).toArray.size : Int) = items.length + 2 := by simp; omega
      obtain ⟨ln, hsz, hl2, hl10⟩ : ∃ ln : Int, ((Value.ref nx :: it0 :: items).toArray.size : Int) = ln ∧ 2 ≤ ln ∧ ln ≤ 12 := ⟨_, hsz', by omega, by simp at hten; omega⟩
      k_steps
      refine unhalt ?_
      refine ⟨_, _, _, fun i y => ∃ c b, cs[i]? = some c ∧ truthT f c = some b ∧ y = .bool b, ∃ (i : Nat) (c : Tree), cs[i]? = some c ∧ truthT f c = none, rfl, by k_asm, by k_asm, Or.inr ⟨_, by k_mem, rfl, _, rfl⟩, ?_, ?_, ?_, ?_⟩
      · rw [slice_tail]
        exact Nat.le_trans (by simpa using hten) (by decide : 10 ≤ sizeLine)
      · intro g2 i v' Cc oC Ii oI Dd oD m₂ hh tk2 E' hv hC hx Ft Nt hE
        rw [slice_tail] at hv
        have hv1 : (it0 :: items)[i]? = some v' := by simpa using hv
        have hi : i < cs.length := by rw [← hlen]; exact (List.getElem?_eq_some_iff.mp hv1).1
        have hc1 : cs[i]? = some cs[i] := List.getElem?_eq_getElem hi
        k_steps
        refine unhalt ?_
        refine' ih i v' cs[i] hv1 hc1 fnB4 ⟨?B, ?F, ?X, ?T, ?N, rfl, rfl⟩ ?r ?dp2 ?k2 ?S ?T2 ?St ?ret ?exc
        case B => k_asm
        case F => k_asm
        case X => k_asm
        case T => k_asm
        case N => k_asm
        case r => k_room
        case dp2 => omega
        case k2 => exact fun b o q => Ft.keep b o (kg₀ b o q)
        case S => exact S'.keeps Ft.keep
        case T2 => exact T₁.keeps Ft.keep
        case St => exact St'.keeps Ft.keep
        case ret =>
          intro b hb h5 tk5 F5 N5 k5
          exact unhalt ⟨_, _, rfl, F5, N5, _, b, hc1, hb, rfl⟩
        case exc =>
          intro hb e fl h5 tk5 R5
          exact hE e fl _ h5 tk5 ⟨i, _, hc1, hb⟩ R5 Ft ⟨_, hC.ns (Nt (Cc, oC) (.tail _ (.head _))).1⟩
      · intro D ys h3 tk3 hl3 hG3 F3 N3 hD3
        rw [slice_tail] at hl3 hD3 N3
        obtain ⟨bs, rfl, hbs⟩ := parts_of (by simpa using hl3.trans (by simpa using hlen)) hG3
        have hbl : bs.length = items.length + 1 := by simpa using hl3
        have tt : truthT f (.node wd cs) = joinT wd bs := by
          show (truthL f cs).bind _ = _
          rw [hbs]; rfl
        clear hbs ih hcs hG3 hl3
        match bs, hbl with
        | [b0], hbl =>
          have hpn : (([b0].map Value.bool).toArray.size : Int) = 1 := rfl
          k_steps
          all_goals first
            | (exfalso; omega)
            | ((with_reducible rename Fr _ _ _ _ => Fz)
               have z := pure_back F₀ N₀ hg1 hL Fz
               exact ret _ (tt.trans (by first | exact joinT_and (by assumption) | exact joinT_or (by assumption) (by assumption) | exact joinT_not (by assumption) (by assumption) (by assumption))) _ _ z.1 z.2.1 z.2.2)
            | (rename_i h₁ e' tk' kh' hn' he'
               have ht : truthT f (.node wd cs) = none := tt.trans (by first | exact joinT_odd (by assumption) (by assumption) (by assumption) | exact joinT_many (by assumption) (by assumption))
               refine unhalt ?_
               refine ⟨_, rfl, ?_, he', ?_⟩
               · exact X'.keeps fun b o q => kh' b o (Fr.keep (by assumption) b o q)
               · obtain ⟨tt, dd, hee⟩ := he'
                 show wpAny _ _ (leaving _ _) _ _ _
                 (with_reducible rename Fr _ _ _ _ => Fz)
                 refine note_first rfl rfl rfl B' Fz kh' hn' hee rfl rfl rfl rfl fun h'' R => ?_
                 exact exc ht _ _ _ _ ((R.left Fz rfl).down (fun b o q n => ⟨kg b o q, n⟩) (.of_keeps kg) ⟨[], rfl⟩))
        | b0 :: b1 :: bs, hbl =>
          obtain ⟨pn, hpn, hp2, hp10⟩ : ∃ pn : Int, (((b0 :: b1 :: bs).map Value.bool).toArray.size : Int) = pn ∧ 2 ≤ pn ∧ pn ≤ 12 := ⟨_, rfl, by simp; omega, by simp at hten hbl ⊢; omega⟩
          k_steps
          all_goals first
            | (exfalso; omega)
            | ((with_reducible rename Fr _ _ _ _ => Fz)
               have z := pure_back F₀ N₀ hg1 hL Fz
               exact ret _ (tt.trans (by first | exact joinT_and (by assumption) | exact joinT_or (by assumption) (by assumption) | exact joinT_not (by assumption) (by assumption) (by assumption))) _ _ z.1 z.2.1 z.2.2)
            | (rename_i h₁ e' tk' kh' hn' he'
               have ht : truthT f (.node wd cs) = none := tt.trans (by first | exact joinT_odd (by assumption) (by assumption) (by assumption) | exact joinT_many (by assumption) (by assumption))
               refine unhalt ?_
               refine ⟨_, rfl, ?_, he', ?_⟩
               · exact X'.keeps fun b o q => kh' b o (Fr.keep (by assumption) b o q)
               · obtain ⟨tt, dd, hee⟩ := he'
                 show wpAny _ _ (leaving _ _) _ _ _
                 (with_reducible rename Fr _ _ _ _ => Fz)
                 refine note_first rfl rfl rfl B' Fz kh' hn' hee rfl rfl rfl rfl fun h'' R => ?_
                 exact exc ht _ _ _ _ ((R.left Fz rfl).down (fun b o q n => ⟨kg b o q, n⟩) (.of_keeps kg) ⟨[], rfl⟩))
      · intro e fl S h3 tk3 hx R FS
        obtain ⟨i, c, hc, hn⟩ := hx
        have ht : truthT f (.node wd cs) = none := truth_none hc hn
        show wpAny _ _ (leaving _ _) _ _ _
        refine leaving_any rfl rfl R fun h'' R' => ?_
        exact exc ht _ _ _ _ ((R'.left FS rfl).down (fun b o q n => ⟨kg b o q, n⟩) (.of_keeps kg) ⟨[], rfl⟩)
end
section -- S3
open PySem PySem.W PyProof.Rows PySem.Spec PySem.Calls
/-- groups that a tree d deep makes at most; draws of _law_object too -/
noncomputable def ob : Nat → Nat
  | 0 => 0
  | d + 1 => 1 + 3 * ob d
/-- the table, its values no references, groups 1 to 4 -/
structure Tab (w : World) (S : Heap) (otb : Obj) (vals : List Value) : Prop where
  tab : TabObj w S otb vals
  nr : ∀ v ∈ vals, NotRef S v
  grp : ∀ n : Int, 1 ≤ n → n < 5 → ∃ d tx kvs, vals[(n - 1).toNat]? = some (.ref d) ∧ DctAt (sk w) S d kvs ∧ (valueAt kvs (Str.ofString "Type")).getD .none = .ref tx ∧ NameAt S tx (Str.ofString "OCG")
  font : ∃ d tx kvs u, vals[4]? = some (.ref d) ∧ DctAt (sk w) S d kvs ∧ (valueAt kvs (Str.ofString "Type")).getD .none = .ref tx ∧ NameAt S tx u ∧ (u == Str.ofString "OCG") = false
theorem pre_get {α : Type} {l l' : List α} {i : Nat} {v : α} (p : l <+: l') (e : l[i]? = some v) : l'[i]? = some v := by
  obtain ⟨r, rfl⟩ := p
  have hi := (List.getElem?_eq_some_iff.mp e).1
  rw [List.getElem?_append_left hi]; exact e
section
variable {w : World} {S S' : Heap} {otb otb' : Obj} {vals vals' vals₂ : List Value}
theorem Tab.keeps (T : Tab w S otb vals) (k : ∀ b o, S.get? b = some o → S'.get? b = some o) : Tab w S' otb vals :=
  ⟨T.tab.keeps k, fun v hv => (T.nr v hv).keeps k, fun n h1 h5 => let ⟨d, tx, kvs, a, b, c, e⟩ := T.grp n h1 h5; ⟨d, tx, kvs, a, b.keeps k, c, e.keeps k⟩, let ⟨d, tx, kvs, u, a, b, c, e, z⟩ := T.font; ⟨d, tx, kvs, u, a, b.keeps k, c, e.keeps k, z⟩⟩
theorem Tab.add {v : Value} (T : Tab w S otb vals) (T' : TabObj w S' otb' (vals ++ [v])) (k : ∀ b o, S.get? b = some o → S'.get? b = some o) (n : NotRef S' v) : Tab w S' otb' (vals ++ [v]) :=
  ⟨T', fun x hx => by
    rcases List.mem_append.mp hx with hx | hx
    · exact (T.nr x hx).keeps k
    · rw [List.mem_singleton.mp hx]; exact n, fun m h1 h5 => let ⟨d, tx, kvs, a, b, c, e⟩ := T.grp m h1 h5; ⟨d, tx, kvs, pre_get (List.prefix_append _ _) a, b.keeps k, c, e.keeps k⟩, let ⟨d, tx, kvs, u, a, b, c, e, z⟩ := T.font; ⟨d, tx, kvs, u, pre_get (List.prefix_append _ _) a, b.keeps k, c, e.keeps k, z⟩⟩
theorem Tab.isG {x : Addr} {n : Int} (T : Tab w S otb vals) (p : vals <+: vals') (R : RefAt S x n) (h1 : 1 ≤ n) (h5 : n < 5) : IsG w S vals' (.ref x) true := by
  obtain ⟨d, tx, kvs, a, b, c, e⟩ := T.grp n h1 h5
  exact IsG.dict R h1 (pre_get p a) b c e rfl
/-- a value that stands for a tree, now and as the table grows -/
def ObjE (w : World) (S : Heap) (vals : List Value) (k : Nat) (v : Value) (t : Tree) : Prop := ∀ vals', vals <+: vals' → vals'.length ≤ 45 → ObjAt w S vals' k v t
theorem ObjE.keeps {k : Nat} {v : Value} {t : Tree} (O : ObjE w S vals k v t) (kp : ∀ b o, S.get? b = some o → S'.get? b = some o) : ObjE w S' vals k v t := fun v' p l => (O v' p l).keeps kp
theorem ObjE.grow {k : Nat} {v : Value} {t : Tree} (O : ObjE w S vals k v t) (p : vals <+: vals₂) : ObjE w S vals₂ k v t := fun v' q l => O v' (List.IsPrefix.trans p q) l
end
section
variable {h₀ h h' : Heap} {L : Addr} {news : List (Addr × Obj)}
theorem updF_cases {d : Addr} {o o' : Obj} {l : List (Addr × Obj)} {g : Obj → List (Addr × Obj)} (U : UpdF d o l g) {p : Addr × Obj} (hp : p ∈ g o') : p = (d, o') ∨ (p ∈ l ∧ p.1 ≠ d) := by
  obtain ⟨pre, post, rfl, hg, a, b⟩ := U.split
  rw [hg] at hp
  rcases List.mem_append.mp hp with hp | hp
  · exact .inr ⟨List.mem_append_left _ hp, a p hp⟩
  · rcases List.mem_cons.mp hp with rfl | hp
    · exact .inl rfl
    · exact .inr ⟨List.mem_append_right _ (.tail _ hp), b p hp⟩
theorem updF_same {d : Addr} {o : Obj} {l : List (Addr × Obj)} {g : Obj → List (Addr × Obj)} (U : UpdF d o l g) : g o = l := by
  obtain ⟨pre, post, rfl, hg, a, b⟩ := U.split
  exact hg o
theorem upd2_mem {pl tb : Addr} {o1 o2 : Obj} {u1 : Obj → List (Addr × Obj)} {u2 : Obj → Obj → List (Addr × Obj)} (U1 : UpdF pl o1 news u1) (U2 : ∀ o, UpdF tb o2 (u1 o) (u2 o)) : (tb, o2) ∈ news := by
  have := updF_mem (U2 o1)
  rw [updF_same U1] at this; exact this
theorem news_upd2 {pl tb : Addr} {o1 o2 o1' o2' : Obj} {u1 : Obj → List (Addr × Obj)} {u2 : Obj → Obj → List (Addr × Obj)} (N : News h₀ L h news) (U1 : UpdF pl o1 news u1) (U2 : ∀ o, UpdF tb o2 (u1 o) (u2 o)) (k : Keeps [pl, tb] h h') (h1 : h'.get? pl = some o1') (h2 : h'.get? tb = some o2') : News h₀ L h' (u2 o1' o2') := by
  intro p hp
  rcases updF_cases (U2 o1') hp with rfl | ⟨hp, n2⟩
  · exact ⟨h2, (N _ (upd2_mem U1 U2)).2⟩
  · rcases updF_cases U1 hp with rfl | ⟨hp, n1⟩
    · exact ⟨h1, (N _ (updF_mem U1)).2⟩
    · refine ⟨k.keep _ _ (N p hp).1 fun q => ?_, (N p hp).2⟩
      simp only [List.mem_cons, List.not_mem_nil, or_false] at q
      rcases q with q | q
      · exact n1 q
      · exact n2 q
theorem mu2 {pl tb : Addr} {o1 o2 : Obj} {u1 : Obj → List (Addr × Obj)} {u2 : Obj → Obj → List (Addr × Obj)} (N : News h₀ L h news) (U1 : UpdF pl o1 news u1) (U2 : ∀ o, UpdF tb o2 (u1 o) (u2 o)) : News h₀ L h [(pl, o1), (tb, o2)] := by
  intro p hp
  simp only [List.mem_cons, List.not_mem_nil, or_false] at hp
  rcases hp with rfl | rfl
  · exact N _ (updF_mem U1)
  · exact N _ (upd2_mem U1 U2)
theorem two_none {S : Heap} {pl tb : Addr} (a : S.get? pl = none) (b : S.get? tb = none) : ∀ x ∈ [pl, tb], S.get? x = none := by
  intro x hx
  simp only [List.mem_cons, List.not_mem_nil, or_false] at hx
  rcases hx with rfl | rfl
  · exact a
  · exact b
theorem two_ne {x pl tb : Addr} (a : x ≠ pl) (b : x ≠ tb) : ∀ y ∈ [pl, tb], x ≠ y := by
  intro y hy
  simp only [List.mem_cons, List.not_mem_nil, or_false] at hy
  rcases hy with rfl | rfl
  · exact a
  · exact b
theorem two_all {P : Addr → Prop} {pl tb : Addr} (a : P pl) (b : P tb) : ∀ y ∈ [pl, tb], P y := by
  intro y hy
  simp only [List.mem_cons, List.not_mem_nil, or_false] at hy
  rcases hy with rfl | rfl
  · exact a
  · exact b
end
end
section -- C7
open PySem PySem.W PyProof.Rows PySem.Spec PySem.Calls PySem.SeqAt
theorem lines_C7_1 : True := by
  k_with_none
  trivial
local macro_rules | `(tactic| k_inst) => `(tactic| (refine' inst_base (by k_asm) (by assumption) (by assumption)))
local macro_rules | `(tactic| kit_at) => `(tactic| (refine' kitAt_base (by k_asm) (by assumption) (by assumption)))
local macro_rules | `(tactic| k_room) => `(tactic| first | exact roomK 1 (by assumption) (by decide) | exact unitK 1 (by assumption) (by decide) | exact unit2 1 (by assumption) (by decide) | exact roomM 1 (by assumption) (by decide) | exact unitM 1 (by assumption) (by decide) | exact roomK 2 (by assumption) (by decide) | exact unitK 2 (by assumption) (by decide) | exact roomZ (by assumption) | exact roomZM (by assumption) | ((try simp only [depth_under_make, depth_under_kw, depth_in1, depth_deeper]); (try dsimp only); omega))

local macro_rules | `(tactic| kwd_rel) => `(tactic| exact ⟨by k_asm, by k_asm, by k_asm, by k_asm, by k_asm, rfl, rfl⟩)

local macro_rules | `(tactic| kwd_inv) => `(tactic| first | exact unitK 3 (by assumption) (by decide) | exact unitK 4 (by assumption) (by decide) | exact unitM 3 (by assumption) (by decide) | exact unit2 3 (by assumption) (by decide) | exact unitM 4 (by assumption) (by decide) | ((try simp only [units_in1, units_deeper]); (try dsimp only); omega))
local macro_rules | `(tactic| kfm_turns) => `(tactic| exact list_news (by k_asm) (by k_mem))
local macro_rules | `(tactic| kpt_turns) => `(tactic| exact list_base (by k_asm) (by assumption))



/-- the members' states that a membership's dict tells -/
inductive MemOf (w : World) (h : Heap) (vals : List Value) (f : Int → Option Bool) (kvs : List (Str × Value)) : List Bool → Prop
  | group {x : Addr} {n : Int} : (valueAt kvs (Str.ofString "OCGs")).getD .none = .ref x → RefAt h x n → IsG w h vals (.ref x) true → MemOf w h vals f kvs ([f n].filterMap id)
  | items {v : Value} {l : Addr} {vs : List Value} {gs : List (Option Bool)} : (valueAt kvs (Str.ofString "OCGs")).getD .none = v → IsG w h vals v false → Fet h vals v (.ref l) → h.IsList l vs.toArray → vs.toArray.size ≤ sizeLine → gs.length = vs.length →
      (∀ (i : Nat) v ob, vs[i]? = some v → gs[i]? = some ob → ItemSt w h vals f v ob) → MemOf w h vals f kvs (gs.filterMap id)
  | none {v r : Value} : (valueAt kvs (Str.ofString "OCGs")).getD .none = v → IsG w h vals v false → Fet h vals v r → (r = .none ∨ ∃ a o, r = .ref a ∧ h.get? a = some o ∧ o.cls = .type "dict") → MemOf w h vals f kvs []
theorem MemOf.keeps {w : World} {h h' : Heap} {vals : List Value} {f : Int → Option Bool} {kvs : List (Str × Value)} {bs : List Bool} (a : MemOf w h vals f kvs bs) (k : ∀ b o, h.get? b = some o → h'.get? b = some o) : MemOf w h' vals f kvs bs := by
  cases a with
  | group a b c => exact .group a (b.keeps k) (c.keeps k)
  | items a b c d e g i => exact .items a (b.keeps k) (c.keeps k) (let ⟨o, ho, r⟩ := d; ⟨o, k _ _ ho, r⟩) e g fun j v ob h1 h2 => (i j v ob h1 h2).keeps k
  | none a b c d => exact .none a (b.keeps k) (c.keeps k) (d.imp id fun ⟨a, o, e, h1, h2⟩ => ⟨a, o, e, k _ _ h1, h2⟩)
/-- what state_of is due to tell of a value -/
inductive StateOf (w : World) (h : Heap) (vals : List Value) (f : Int → Option Bool) : Value → Option Bool → Prop
  | group {x : Addr} {n : Int} : RefAt h x n → IsG w h vals (.ref x) true → StateOf w h vals f (.ref x) (some ((f n).getD true))
  | plain {v r : Value} : IsG w h vals v false → Fet h vals v r → (r = .none ∨ ∃ i t, r = .int i t) → StateOf w h vals f v (some true)
  | other {v ty tr : Value} {d : Addr} {kvs : List (Str × Value)} {u : Str} : IsG w h vals v false → Fet h vals v (.ref d) → DctAt (sk w) h d kvs → (valueAt kvs (Str.ofString "Type")).getD .none = ty → Fet h vals ty tr → Wd h (Str.ofString "") tr u →
      (u == Str.ofString "OCMD") = false → StateOf w h vals f v (some true)
  | told {v px pr : Value} {d tx : Addr} {kvs : List (Str × Value)} {wd : Str} {bs : List Bool} : IsG w h vals v false → Fet h vals v (.ref d) → DctAt (sk w) h d kvs → (valueAt kvs (Str.ofString "Type")).getD .none = .ref tx → NameAt h tx (Str.ofString "OCMD") →
      (valueAt kvs (Str.ofString "VE")).getD .none = .none → (valueAt kvs (Str.ofString "P")).getD .none = px → Fet h vals px pr → Wd h (Str.ofString "AnyOn") pr wd → MemOf w h vals f kvs bs → StateOf w h vals f v (some (pol wd bs))
  | tree {v vv : Value} {d tx : Addr} {k : Nat} {kvs : List (Str × Value)} {wd : Str} {cs : List Tree} : IsG w h vals v false → Fet h vals v (.ref d) → DctAt (sk w) h d kvs → (valueAt kvs (Str.ofString "Type")).getD .none = .ref tx → NameAt h tx (Str.ofString "OCMD") →
      valueAt kvs (Str.ofString "VE") = some vv → ObjAt w h vals k vv (.node wd cs) → k ≤ 20 → StateOf w h vals f v (truthT f (.node wd cs))
theorem StateOf.keeps {w : World} {h h' : Heap} {vals : List Value} {f : Int → Option Bool} {v : Value} {o : Option Bool} (a : StateOf w h vals f v o) (k : ∀ b o, h.get? b = some o → h'.get? b = some o) : StateOf w h' vals f v o := by
  cases a with
  | group a b => exact .group (a.keeps k) (b.keeps k)
  | plain a b c => exact .plain (a.keeps k) (b.keeps k) c
  | other a b c d e g i => exact .other (a.keeps k) (b.keeps k) (c.keeps k) d (e.keeps k) (g.keeps k) i
  | told a b c d e g i j l m => exact .told (a.keeps k) (b.keeps k) (c.keeps k) d (e.keeps k) g i (j.keeps k) (l.keeps k) (m.keeps k)
  | tree a b c d e g i j => exact .tree (a.keeps k) (b.keeps k) (c.keeps k) d (e.keeps k) g (i.keeps k) j
section
variable {w : World} {A₀ : Around} {s : Shared} {base h₀ : Heap} {outer : List Env} {L : Addr} {m mg mb : Str → Option Value} {env : Env} {p : Program} {loose : List Str} {mean : ExcName → Option Value}
  {E : Value → Shared → Prop} {Q : Value → Shared → Prop} {news : List (Addr × Obj)} {dp un : Nat} {gd : Option (List Code)}
theorem expr_call3 {h : Heap} {vals : List Value} {f : Int → Option Bool} {dk l nx kx : Nat} {v : Value} {wd : Str} {items : List Value} {cs : List Tree} {sh tb st : Addr} (C : Cx (hd.heap_1 w.params) A₀ base h₀ env outer L m p loose mean mg mb s news) (hroom : dp + 20 * (dk + 1) + 40 < recursionLimit) (hdp : 0 + (dk + 1) ≤ 20)
    (G : IsG w h vals v false) (V : Fet h vals v (.ref l)) (H : h.get? l = some { cls := .type "list", data := .seq (.ref nx :: items).toArray kx }) (NM : NameAt h nx wd)
    (hlen : items.length = cs.length) (hten : items.length ≤ 10) (hcs : ∀ (i : Nat) (v' : Value) (c : Tree), items[i]? = some v' → cs[i]? = some c → ObjAt w h vals dk v' c)
    (k₀ : ∀ b o, h.get? b = some o → s.heap.get? b = some o) (S : ShelfAt s.heap sh tb) (T₀ : TabAt w s.heap tb vals) (St : StAt w s.heap st f)
    (ret : ∀ b, truthT f (.node wd cs) = some b → ∀ h' tk', Fr h₀ L h' m → News h₀ L h' news → Keeps [] s.heap h' → Q (.bool b) { s with heap := h', toks := tk' })
    (exc : truthT f (.node wd cs) = none → ∀ e fl h' tk', Raise s.heap (env :: outer) e fl h' → E (.ref e) { s with heap := h', toks := tk' }) :
    wpAny (model PySem.Challenge.rw_pb0479_01.row.prog w) (At dp un gd env outer) (call (.ref 404) [.ref sh, .ref st, v]) Q E s := by
  obtain ⟨td, hb⟩ := fnB3 (w := w) (sh := sh) (st := st) (v := v)
  exact expr_call (.node G V H NM hlen hten hcs) hb C hroom (by omega) k₀ S T₀ St ret exc
end
end
section -- C8
open PySem PySem.W PyProof.Rows PySem.Spec PySem.Calls PySem.SeqAt
theorem lines_C8_1 : True := by
  k_with_none
  k_with "Zspliced" => (k_here; k_dflt (refine' args_simG (by rfl) (by rfl) (by k_asm) (by rfl) ?_; k_whole); (try dsimp only [List.cons_append, List.nil_append]))
  k_with "Zeval Call" => (k_here; (with_reducible show wpAny _ _ (eval (PySem.Expr.Call (PySem.Expr.Name _ _) (_ :: _) [] _) _) _ _ _); k_dflt (refine' call_simG (by rfl) (by k_asm) (by k_asm) (by k_asm) (by k_is) (by k_is) (by rfl) ?_ (by rfl) (by rfl); k_whole))
  trivial
local macro_rules | `(tactic| k_inst) => `(tactic| (refine' inst_base (by k_asm) (by assumption) (by assumption)))
local macro_rules | `(tactic| kit_at) => `(tactic| (refine' kitAt_base (by k_asm) (by assumption) (by assumption)))
local macro_rules | `(tactic| k_room) => `(tactic| first | exact roomK 1 (by assumption) (by decide) | exact unitK 1 (by assumption) (by decide) | exact unit2 1 (by assumption) (by decide) | exact roomM 1 (by assumption) (by decide) | exact unitM 1 (by assumption) (by decide) | exact roomK 2 (by assumption) (by decide) | exact unitK 2 (by assumption) (by decide) | exact roomZ (by assumption) | exact roomZM (by assumption) | ((try simp only [depth_under_make, depth_under_kw, depth_in1, depth_deeper]); (try dsimp only); omega))

local macro_rules | `(tactic| kwd_rel) => `(tactic| exact ⟨by k_asm, by k_asm, by k_asm, by k_asm, by k_asm, rfl, rfl⟩)

local macro_rules | `(tactic| kwd_inv) => `(tactic| first | exact unitK 3 (by assumption) (by decide) | exact unitK 4 (by assumption) (by decide) | exact unitM 3 (by assumption) (by decide) | exact unit2 3 (by assumption) (by decide) | exact unitM 4 (by assumption) (by decide) | ((try simp only [units_in1, units_deeper]); (try dsimp only); omega))
local macro_rules | `(tactic| kfm_turns) => `(tactic| exact list_news (by k_asm) (by k_mem))
local macro_rules | `(tactic| kpt_turns) => `(tactic| exact list_base (by k_asm) (by assumption))



theorem lines_C8_2 : True := by
  k_with "ZgetMethod ref" => (k_here; k_dflt (first | (refine' method_inst (by k_asm) (by k_asm) (by k_inst) (by k_is) (by k_is) (by k_is) (by assumption) ?_; k_whole) | (refine' dget_method (by k_asm) (by assumption) ?_; k_whole)))
  k_with "ZgetAttr ref" => (k_here; k_dflt (refine' get_own (by k_asm) (by k_asm) (by k_inst) (by k_is) (by k_is) (by k_is) (by k_is) (by assumption) (by k_handed) ?_; k_whole))
  k_with "ZENTER" => (refine wpAny_call ?_; refine' enterK [] (by assumption) (by assumption) (by assumption) (by assumption) (fun _ h => nomatch h) rfl (by assumption) (by assumption) (by k_dflt k_is) (by k_dflt k_is) (by k_room) (BindsTo.of_eq rfl) (locs rfl) ?_ (by decide) (by rfl) (by rfl) (by rfl))
  k_with "Zcall ref" => (k_here; (with_reducible show wpAny _ _ (call (Value.ref 299) [_, _]) _ _ _); k_dflt (refine' fetch_call (by kwd_rel) (by k_room) (ShelfAt.keeps (Fr.keep (by k_asm)) (by assumption)) (TabAt.keeps (Fr.keep (by k_asm)) (by assumption)) (Fet.keeps (by assumption) (Fr.keep (by k_asm))) ?_; k_whole); intro _ _ _ _ k'; (try clear k'); (try k_sweep); (try dsimp only))
  k_with "Zcall ref" => (k_here; (with_reducible show wpAny _ _ (call (Value.ref 306) [_, _, _]) _ _ _); k_dflt (refine' get_call (by kwd_rel) (by k_room) (ShelfAt.keeps (Fr.keep (by k_asm)) (by assumption)) (TabAt.keeps (Fr.keep (by k_asm)) (by assumption)) (DctAt.keeps (Fr.keep (by k_asm)) (by assumption)) (by assumption) (Fet.keeps (by assumption) (Fr.keep (by k_asm))) ?_; k_whole); intro _ _ _ _ k'; (try clear k'); (try k_sweep); (try dsimp only))
  k_with "Zcall ref" => (k_here; (with_reducible show wpAny _ _ (call (Value.ref 372) [_, _, _, _]) _ _ _); k_dflt (refine' word_call (by kwd_rel) (by k_room) (ShelfAt.keeps (Fr.keep (by k_asm)) (by assumption)) (TabAt.keeps (Fr.keep (by k_asm)) (by assumption)) (DctAt.keeps (Fr.keep (by k_asm)) (by assumption)) (by assumption) (Fet.keeps (by assumption) (Fr.keep (by k_asm))) (Wd.keeps (by assumption) (Fr.keep (by k_asm))) ?_; k_whole); intro _ _ _ _ _ k'; (try clear k'); (try k_sweep); (try dsimp only))
  k_with "Zcall ref" => (k_here; (with_reducible show wpAny _ _ (call (Value.ref 386) [_, _]) _ _ _); k_dflt (refine' isg_call (by kwd_rel) (by k_room) (ShelfAt.keeps (Fr.keep (by k_asm)) (by assumption)) (TabAt.keeps (Fr.keep (by k_asm)) (by assumption)) (IsG.keeps (by assumption) (Fr.keep (by k_asm))) ?_; k_whole); intro _ _ _ _ k'; (try clear k'); (try k_sweep); (try dsimp only))
  k_with "Zcall builtin:dict.get" => (k_here; k_dflt (refine' dget2y (by k_asm) (by assumption) (by first | exact strKind_is _ _ _ _ | exact intKind_is _ _ _ _) (by assumption) ?_; k_whole))
  k_with "Zcall ref" => (k_here; (with_reducible show wpAny _ _ (call (Value.ref 404) [_, _, _]) _ _ _); (refine halt ?_))
  k_with "Zeval Call Attribute" => (k_here; (with_reducible show wpAny _ _ (eval (PySem.Expr.Call (PySem.Expr.Attribute (PySem.Expr.Name _ _) _ _) (_ :: _) [] _) _) _ _ _); k_dflt (refine' meth_sim (by k_asm) (by k_asm) (by exact rfl) (by assumption) (by assumption) (by k_is) (by k_is) (by k_is) (by assumption) (by k_is) (by rfl) ?_ (by rfl) (by rfl) (by decide) (by rfl); k_whole))
  trivial
theorem ne_str_f {prog : Program} {w : World} {A : Around} {E : Value → Shared → Prop} {s : Shared} {a b : Str} {t u : Tok} {Q : Value → Shared → Prop} (e : (a == b) = false) (h : Q (.bool true) s) : wpAny (model prog w) A (compareOp .NotEq (.str a t) (.str b u)) Q E s :=
  ne_str (by rw [show (a != b) = true by simp [bne, e]]; exact h)


theorem lines_C8_3 : True := by
  k_with "ZcompareOp NotEq str str" => (k_here; k_dflt (refine' ne_str_f (by assumption) ?_; k_whole))
  k_with "Zcall ref" => (k_here; (with_reducible show wpAny _ _ (call (Value.ref 398) [_, _, _]) _ _ _); (refine halt ?_))
  k_with "ZsubscriptTail" => (k_here; (with_reducible show wpAny _ _ (subscriptTail _ _ (Value.ref _) (Value.str _ _)) _ _ _); k_dflt (refine' ditem (by k_asm) (by assumption) (strKind_is _ _ _ _) (by assumption) ?_; k_whole))
  k_with "Zcall ref" => (k_here; (with_reducible show wpAny _ _ (call (Value.ref 393) [_, _]) _ _ _); k_dflt (refine' policy_call (by kwd_rel) (by k_room) (by kwd_inv) (by kfm_turns) ?_; k_whole); intro _ _ _ _ k'; (try clear k'); (try k_sweep); (try dsimp only))
  trivial
section
variable {w : World} {A₀ : Around} {s : Shared} {base h₀ : Heap} {outer : List Env} {L : Addr} {m mg mb : Str → Option Value} {env : Env} {p : Program} {loose : List Str} {mean : ExcName → Option Value}
  {E : Value → Shared → Prop} {Q : Value → Shared → Prop} {news : List (Addr × Obj)} {dp un : Nat} {gd : Option (List Code)}
theorem mem_call {sh tb st d : Addr} {vals : List Value} {f : Int → Option Bool} {kvs : List (Str × Value)} {bs : List Bool} (C : Cx (hd.heap_1 w.params) A₀ base h₀ env outer L m p loose mean mg mb s news) (hroom : dp + 10 < recursionLimit)
    (S : ShelfAt s.heap sh tb) (T₀ : TabAt w s.heap tb vals) (D : DctAt (sk w) s.heap d kvs) (St : StAt w s.heap st f) (M : MemOf w s.heap vals f kvs bs)
    (ret : ∀ D k h' tk', Fr h₀ L h' m → News h₀ L h' ((D, W.listOf (bs.map Value.bool).toArray k) :: news) → (∀ p ∈ news, p.1 ≠ D) → Keeps [] s.heap h' → Q (.ref D) { s with heap := h', toks := tk' }) :
    wpAny (model PySem.Challenge.rw_pb0479_01.row.prog w) (At dp un gd env outer) (call (.ref 398) [.ref sh, .ref st, .ref d]) Q E s := by
  cases M with
  | group a b c => exact mem_group C hroom S T₀ D St a b c ret
  | items a b c d e g i => exact mem_items C hroom S T₀ D St a b c d e g i ret
  | none a b c d => exact mem_none C hroom S T₀ D St a b c d ret
end

section
variable {w : World} {A₀ : Around} {s : Shared} {base h₀ : Heap} {outer : List Env} {L : Addr} {m mg mb : Str → Option Value} {env : Env} {p : Program} {loose : List Str} {mean : ExcName → Option Value}
  {E : Value → Shared → Prop} {Q : Value → Shared → Prop} {news : List (Addr × Obj)} {dp un : Nat} {gd : Option (List Code)}
theorem state_call {sh tb st : Addr} {vals : List Value} {f : Int → Option Bool} {v : Value} {o : Option Bool} (C : Cx (hd.heap_1 w.params) A₀ base h₀ env outer L m p loose mean mg mb s news) (hroom : dp + 500 < recursionLimit) (hun : un + 20 < cLine)
    (S : ShelfAt s.heap sh tb) (T₀ : TabAt w s.heap tb vals) (St : StAt w s.heap st f) (O : StateOf w s.heap vals f v o)
    (ret : ∀ b, o = some b → ∀ h' tk', Fr h₀ L h' m → News h₀ L h' news → Keeps [] s.heap h' → Q (.bool b) { s with heap := h', toks := tk' })
    (exc : o = none → ∀ e fl h' tk', Raise s.heap (env :: outer) e fl h' → E (.ref e) { s with heap := h', toks := tk' }) :
    wpAny (model PySem.Challenge.rw_pb0479_01.row.prog w) (At dp un gd env outer) (call (.ref 411) [.ref sh, .ref st, v]) Q E s := by
  obtain ⟨B, F, X, T, N, hf, hke⟩ := C
  revert X
  k_fill
  intro X
  walk_at "ENTER"
  intro g' L' h' hg1 hg2 hg3 hL F' N' B' X' T' hlt
  refine opq (env := envX _ _ _ _ _ _) (by passes_own) ?_
  intro Q9 E9 hP9 hQ9 hE9
  have back : ∀ b, o = some b → ∀ h2 tk2 m2, Fr g' L' h2 m2 → Q9 (.ret (.bool b)) { s with heap := h2, toks := tk2 } := fun b hb h2 tk2 m2 Fz => hQ9 _ _ (let z := pure_back F N hg1 hL Fz; ret b hb h2 tk2 z.1 z.2.1 z.2.2)
  have kg : ∀ b o, s.heap.get? b = some o → g'.get? b = some o := fun b o e => hg1 b o e (fun q => nomatch q)
  have S' := S.keeps kg
  have T₁ := T₀.keeps kg
  obtain ⟨dx, es, q, i1, i2, j1, j2, j3, j4⟩ := S'.w
  have St' := St.keeps kg
  have O' := O.keeps kg
  clear S T₀ St O hQ9 ret
  clear hg2 hg3 X N T F B hf hke
  show wpAny _ _ _ _ _ _
  cases O' with
  | group R' G' =>
    rename_i x n
    obtain ⟨dr, er, qr, tn, tg, r1, r2, r3, r4⟩ := R'.w
    obtain ⟨skv, sd, sf⟩ := St'.ex
    have sv : (valueAt skv n).getD (.bool true) = .bool ((f n).getD true) := by rw [sf n]; cases f n <;> rfl
    k_steps
    all_goals (
      (with_reducible rename Fr _ _ _ _ => Fz)
      exact back _ rfl _ _ _ Fz)
  | plain G' V' hr =>
    rename_i r
    rcases hr with rfl | ⟨i, t, rfl⟩
    · k_steps
      all_goals (
        (with_reducible rename Fr _ _ _ _ => Fz)
        exact back _ rfl _ _ _ Fz)
    · k_steps
      all_goals (
        (with_reducible rename Fr _ _ _ _ => Fz)
        exact back _ rfl _ _ _ Fz)
  | other G' V' D' ht Vt' Wt' hu =>
    rename_i ty tr d kvs u
    obtain ⟨od, hod, hodc⟩ := dctAt_obj D'
    k_steps
    all_goals (
      (with_reducible rename Fr _ _ _ _ => Fz)
      exact back _ rfl _ _ _ Fz)
  | told G' V' D' ht NT' hve hp Vp' Wp' M' =>
    rename_i px pr d tx kvs wd bs
    have Wt' : Wd g' (Str.ofString "") (.ref tx) (Str.ofString "OCMD") := .name NT'
    have Vt' : Fet g' vals (.ref tx) (.ref tx) := .plain NT'.notRef
    have Vv' : Fet g' vals .none .none := .plain .none
    obtain ⟨od, hod, hodc⟩ := dctAt_obj D'
    k_steps
    refine unhalt ?_
    refine' mem_call ⟨?B, ?F, ?X, ?T, ?N, rfl, rfl⟩ ?r ?S ?T2 ?D ?St ?M ?ret
    case B => k_asm
    case F => k_asm
    case X => k_asm
    case T => k_asm
    case N => k_asm
    case r => k_room
    case S => exact S'.keeps (Fr.keep (by k_asm))
    case T2 => exact T₁.keeps (Fr.keep (by k_asm))
    case D => exact D'.keeps (Fr.keep (by k_asm))
    case St => exact St'.keeps (Fr.keep (by k_asm))
    case M => exact M'.keeps (Fr.keep (by k_asm))
    case ret =>
      intro Dm km h5 tk5 F5 N5 nD5 k5
      clear k5
      k_steps
      all_goals (
        (with_reducible rename Fr _ _ _ _ => Fz)
        exact back _ rfl _ _ _ Fz)
  | tree G' V' D' ht NT' hve ob' hk =>
    rename_i vv d tx k kvs wd cs
    have Wt' : Wd g' (Str.ofString "") (.ref tx) (Str.ofString "OCMD") := .name NT'
    have Vt' : Fet g' vals (.ref tx) (.ref tx) := .plain NT'.notRef
    have hve' : (valueAt kvs (Str.ofString "VE")).getD .none = vv := by rw [hve]; rfl
    obtain ⟨od, hod, hodc⟩ := dctAt_obj D'
    cases ob' with
    | node GV VV HV NMV hlen hten hcs =>
      rename_i k l nx items kx
      have hfs : ∀ a ∈ frs (env :: outer), ∃ o, g'.get? a = some o := fun a ha => let ⟨_, o, ho, _⟩ := B'.frames.mem ha; ⟨o, ho⟩
      k_steps
      refine unhalt ?_
      (with_reducible rename Fr _ _ _ _ => Fz)
      refine' expr_call3 ⟨?B, Fz, ?X, ?T, ?N, rfl, rfl⟩ ?r ?dp GV VV HV NMV hlen hten hcs Fz.keep (S'.keeps Fz.keep) (T₁.keeps Fz.keep) (St'.keeps Fz.keep) ?ret ?exc
      case B => k_asm
      case X => k_asm
      case T => k_asm
      case N => k_asm
      case r => k_room
      case dp => omega
      case ret =>
        intro b hb h5 tk5 F5 N5 k5
        exact back _ hb _ _ _ F5
      case exc =>
        intro hb e fl h5 tk5 R5
        refine hE9 _ _ ?_
        show wpAny _ _ (leaving _ _) _ _ _
        refine leaving_any rfl rfl R5 fun h'' R' => ?_
        exact exc hb _ _ _ _ ((R'.left Fz rfl).down (fun b o q n => ⟨kg b o q, n⟩) (.of_keeps kg) ⟨[], rfl⟩)
end
end
section -- C9
open PySem PySem.W PyProof.Rows PySem.Spec PySem.Calls PySem.SeqAt
theorem lines_C9_1 : True := by
  k_with_none
  k_with "Zspliced" => (k_here; k_dflt (refine' args_simG (by rfl) (by rfl) (by k_asm) (by rfl) ?_; k_whole); (try dsimp only [List.cons_append, List.nil_append]))
  trivial
local macro_rules | `(tactic| k_inst) => `(tactic| (refine' inst_base (by k_asm) (by assumption) (by assumption)))
local macro_rules | `(tactic| kit_at) => `(tactic| (refine' kitAt_base (by k_asm) (by assumption) (by assumption)))
local macro_rules | `(tactic| k_room) => `(tactic| first | exact roomK 1 (by assumption) (by decide) | exact unitK 1 (by assumption) (by decide) | exact unit2 1 (by assumption) (by decide) | exact roomM 1 (by assumption) (by decide) | exact unitM 1 (by assumption) (by decide) | exact roomK 2 (by assumption) (by decide) | exact unitK 2 (by assumption) (by decide) | exact roomZ (by assumption) | exact roomZM (by assumption) | ((try simp only [depth_under_make, depth_under_kw, depth_in1, depth_deeper]); (try dsimp only); omega))

local macro_rules | `(tactic| kwd_rel) => `(tactic| exact ⟨by k_asm, by k_asm, by k_asm, by k_asm, by k_asm, rfl, rfl⟩)

local macro_rules | `(tactic| kwd_inv) => `(tactic| first | exact unitK 3 (by assumption) (by decide) | exact unitK 4 (by assumption) (by decide) | exact unitM 3 (by assumption) (by decide) | exact unit2 3 (by assumption) (by decide) | exact unitM 4 (by assumption) (by decide) | ((try simp only [units_in1, units_deeper]); (try dsimp only); omega))
local macro_rules | `(tactic| kfm_turns) => `(tactic| exact list_news (by k_asm) (by k_mem))
local macro_rules | `(tactic| kpt_turns) => `(tactic| exact list_base (by k_asm) (by assumption))




theorem lines_C9_2 : True := by
  k_with "ZgetMethod ref" => (k_here; k_dflt (first | (refine' method_inst (by k_asm) (by k_asm) (by k_inst) (by k_is) (by k_is) (by k_is) (by assumption) ?_; k_whole) | (refine' dget_method (by k_asm) (by assumption) ?_; k_whole)))
  k_with "Zcall builtin:dict.get" => (k_here; k_dflt (first | (refine' dget2 (by k_asm) (by assumption) (by first | exact strKind_is _ _ _ _ | exact intKind_is _ _ _ _) (by assumption) ?_; k_whole; (try dsimp only [Option.getD])) | (refine' dget1 (by k_asm) (by assumption) (by first | exact strKind_is _ _ _ _ | exact intKind_is _ _ _ _) (by assumption) ?_; k_whole; (try dsimp only [Option.getD]))))
  k_with "ZENTER" => (refine wpAny_call ?_; refine' enterK [] (by assumption) (by assumption) (by assumption) (by assumption) (fun _ h => nomatch h) rfl (by assumption) (by assumption) (by k_dflt k_is) (by k_dflt k_is) (by k_room) (BindsTo.of_eq rfl) (locs rfl) ?_ (by decide) (by rfl) (by rfl) (by rfl))
  k_with "Zcall ref" => (k_here; (with_reducible show wpAny _ _ (call (Value.ref 306) [_, _, _]) _ _ _); k_dflt (refine' get_call (by kwd_rel) (by k_room) (ShelfAt.keeps (Fr.keep (by k_asm)) (by assumption)) (TabAt.keeps (Fr.keep (by k_asm)) (by assumption)) (DctAt.keeps (Fr.keep (by k_asm)) (by assumption)) (by assumption) (Fet.keeps (by assumption) (Fr.keep (by k_asm))) ?_; k_whole); intro _ _ _ _ k'; (try clear k'); (try k_sweep); (try dsimp only))
  k_with "ZENTERC" => (refine wpAny_call ?_; refine' enterKC [] (by assumption) (by assumption) (by assumption) (by assumption) (fun _ h => nomatch h) rfl (by assumption) (by assumption) (by k_dflt k_is) (by k_dflt k_is) (by k_room) (by first | exact binds_K (by k_in) rfl (by k_is) rfl rfl rfl | exact BindsTo.of_eq rfl) (by exact rfl) (by decide +kernel) ?_ (by rfl) (by rfl) (by rfl))
  k_with "ZsubscriptTail" => (k_here; (with_reducible show wpAny _ _ (subscriptTail _ _ (Value.ref _) (Value.str _ _)) _ _ _); k_dflt (refine' ditem (by k_asm) (by assumption) (strKind_is _ _ _ _) (by assumption) ?_; k_whole))
  k_with "Zcall ref" => (k_here; (with_reducible show wpAny _ _ (call (Value.ref 411) [_, _, _]) _ _ _); (refine halt ?_))
  k_with "ZCompEnd" => (refine halt ?_)
  k_with "Zeval ListComp" => (k_here; k_dflt (refine' ListComp_D (by k_asm) (by with_unfolding_all rfl) (by decide) (by rfl) (by decide) (by rfl) ?_; k_whole))
  k_with "Zcall type:dict" => (refine halt ?_)
  trivial
theorem sk_is {w : World} {k : Str} {v : Value} (h : (sk w).is k v = true) : ∃ t, v = .str k t := by
  exact Value.isStrOf_shape h
theorem DctAt.nodup {w : World} {K : Type} [DecidableEq K] {knd : KeyKind PR w K} {h : Heap} {d : Addr} {kvs : List (K × Value)} (D : DctAt knd h d kvs) : (kvs.map (·.1)).Nodup := by
  obtain ⟨_, _, _, _, _, _, _, _, n⟩ := D.at_
  exact n
theorem valueAt_get {K : Type} [DecidableEq K] : ∀ {kvs : List (K × Value)} {i : Nat} {k : K} {v : Value}, (kvs.map (·.1)).Nodup → kvs[i]? = some (k, v) → valueAt kvs k = some v
  | [], i, k, v, _, h => by simp at h
  | (k', v') :: kvs, 0, k, v, _, h => by
    cases h
    simp [valueAt]
  | (k', v') :: kvs, i + 1, k, v, n, h => by
    have h' : kvs[i]? = some (k, v) := by simpa using h
    have n' := List.nodup_cons.mp (show (k' :: kvs.map (·.1)).Nodup from n)
    have ne : k' ≠ k := fun e => n'.1 (by rw [e]; exact List.mem_map.mpr ⟨(k, v), List.mem_of_getElem? h', rfl⟩)
    have ih := valueAt_get n'.2 h'
    simpa [valueAt, List.find?_cons, ne] using ih

theorem storedAll_nodup {K : Type} [DecidableEq K] : ∀ (ps : List (Addr × K × Value)) (kvs : List (K × Value)), ((kvs.map (·.1)) ++ ps.map (·.2.1)).Nodup → storedAll kvs ps = kvs ++ ps.map (·.2)
  | [], kvs, _ => by simp [storedAll]
  | p :: ps, kvs, n => by
    have hn : p.2.1 ∉ kvs.map (·.1) := fun hm => by
      have := (List.nodup_append.mp n).2.2 _ hm _ (.head _)
      exact this rfl
    have e : stored kvs p.2.1 p.2.2 = kvs ++ [p.2] := by
      unfold stored
      rw [if_neg]
      intro ha
      obtain ⟨kv, h1, h2⟩ := List.any_eq_true.mp ha
      exact hn (List.mem_map.mpr ⟨kv, h1, by simpa using h2⟩)
    show storedAll (stored kvs p.2.1 p.2.2) ps = _
    rw [e, storedAll_nodup ps (kvs ++ [p.2]) (by simpa using n)]
    simp
theorem storedAll_of {fb : Str → Bool} {pkv : List (Str × Value)} {ps : List (Addr × Str × Value)} (n : (pkv.map (·.1)).Nodup) (hl : ps.length = pkv.length) (h : ∀ (j : Nat) p, ps[j]? = some p → ∃ kv, pkv[j]? = some kv ∧ p.2 = (kv.1, Value.bool (fb kv.1))) :
    storedAll [] ps = pkv.map (fun kv => (kv.1, Value.bool (fb kv.1))) := by
  have e : ps.map (·.2) = pkv.map (fun kv => (kv.1, Value.bool (fb kv.1))) := by
    refine List.ext_getElem? fun j => ?_
    rw [List.getElem?_map, List.getElem?_map]
    cases hj : ps[j]? with
    | none =>
      have : pkv.length ≤ j := by rw [← hl]; exact List.getElem?_eq_none_iff.mp hj
      rw [List.getElem?_eq_none_iff.mpr this]; rfl
    | some p =>
      obtain ⟨kv, h1, h2⟩ := h j p hj
      rw [h1]; simp [h2]
  have e2 : ps.map (·.2.1) = pkv.map (·.1) := by
    have := congrArg (List.map (·.1)) e
    simpa [List.map_map, Function.comp_def] using this
  rw [storedAll_nodup ps [] (by simpa [e2] using n)]
  simpa using e

section
variable {w : World} {A₀ : Around} {s : Shared} {base h₀ : Heap} {outer : List Env} {L : Addr} {m mg mb : Str → Option Value} {env : Env} {p : Program} {loose : List Str} {mean : ExcName → Option Value}
  {E : Value → Shared → Prop} {Q : Value → Shared → Prop} {news : List (Addr × Obj)} {dp un : Nat} {gd : Option (List Code)}
theorem shown_call {sh tb st d : Addr} {vals : List Value} {f : Int → Option Bool} {kvs : List (Str × Value)} {y : Value} {b : Bool} (C : Cx (hd.heap_1 w.params) A₀ base h₀ env outer L m p loose mean mg mb s news) (hroom : dp + 502 < recursionLimit) (hun : un + 40 < cLine)
    (S : ShelfAt s.heap sh tb) (T₀ : TabAt w s.heap tb vals) (St : StAt w s.heap st f) (D : DctAt (sk w) s.heap d kvs) (hx : (valueAt kvs (Str.ofString "OC")).getD .none = y) (O : StateOf w s.heap vals f y (some b))
    (ret : ∀ h' tk', Fr h₀ L h' m → News h₀ L h' news → Keeps [] s.heap h' → Q (.bool b) { s with heap := h', toks := tk' }) :
    wpAny (model PySem.Challenge.rw_pb0479_01.row.prog w) (At dp un gd env outer) (call (.ref 418) [.ref sh, .ref st, .ref d]) Q E s := by
  obtain ⟨B, F, X, T, N, hf, hke⟩ := C
  revert X
  k_fill
  intro X
  walk_at "ENTER"
  intro g' L' h' hg1 hg2 hg3 hL F' N' B' X' T' hlt
  have F₀ := F
  have N₀ := N
  have kg : ∀ b o, s.heap.get? b = some o → g'.get? b = some o := fun b o e => hg1 b o e (fun q => nomatch q)
  have S' := S.keeps kg
  have T₁ := T₀.keeps kg
  obtain ⟨dx, es, q, i1, i2, j1, j2, j3, j4⟩ := S'.w
  have St' := St.keeps kg
  have O' := O.keeps kg
  have D' := D.keeps kg
  clear S T₀ St O D
  clear hg2 hg3 X N T F B hf hke
  show wpAny _ _ _ _ _ _
  k_fold
  k_steps
  refine unhalt ?_
  refine' state_call ⟨?B, ?F, ?X, ?T, ?N, rfl, rfl⟩ ?r ?u ?S ?T2 ?St ?O ?ret ?exc
  case B => k_asm
  case F => k_asm
  case S => exact S'.keeps (Fr.keep (by k_asm))
  case T2 => exact T₁.keeps (Fr.keep (by k_asm))
  case St => exact St'.keeps (Fr.keep (by k_asm))
  case O => exact O'.keeps (Fr.keep (by k_asm))
  case X => k_asm
  case T => k_asm
  case N => k_asm
  case r => k_room
  case u => kwd_inv
  case ret =>
    intro b' hb h5 tk5 F5 N5 k5
    cases hb
    have z := pure_back F₀ N₀ hg1 hL F5
    exact ret _ _ z.1 z.2.1 z.2.2
  case exc => intro hb; cases hb
theorem names_call0 {sh tb st d : Addr} {vals : List Value} {f : Int → Option Bool} {kvs : List (Str × Value)} (C : Cx (hd.heap_1 w.params) A₀ base h₀ env outer L m p loose mean mg mb s news) (hroom : dp + 502 < recursionLimit) (hun : un + 40 < cLine)
    (S : ShelfAt s.heap sh tb) (T₀ : TabAt w s.heap tb vals) (St : StAt w s.heap st f) (D : DctAt (sk w) s.heap d kvs) (hx : (valueAt kvs (Str.ofString "Properties")).getD .none = .none)
    (ret : ∀ D o h' tk', Fr h₀ L h' m → News h₀ L h' ((D, o) :: news) → (∀ p ∈ news, p.1 ≠ D) → o.IsDictOf (sk w) [] → (D == sysModules) = false → Keeps [] s.heap h' → Q (.ref D) { s with heap := h', toks := tk' }) :
    wpAny (model PySem.Challenge.rw_pb0479_01.row.prog w) (At dp un gd env outer) (call (.ref 423) [.ref sh, .ref d, .ref st]) Q E s := by
  obtain ⟨B, F, X, T, N, hf, hke⟩ := C
  revert X
  k_fill
  intro X
  walk_at "ENTERC"
  intro g' L' h' tk0 cells hg1 hg2 hg3 hL F' N' Y' B' X' T' hlt
  k_cells Y'
  (try simp only [List.cons_append, List.nil_append, List.append_nil] at N')
  have F₀ := F
  have N₀ := N
  have kg : ∀ b o, s.heap.get? b = some o → g'.get? b = some o := fun b o e => hg1 b o e (fun q => nomatch q)
  have S' := S.keeps kg
  have T₁ := T₀.keeps kg
  obtain ⟨dx, es, q, i1, i2, j1, j2, j3, j4⟩ := S'.w
  have St' := St.keeps kg
  have D' := D.keeps kg
  have V' : Fet g' vals .none .none := .plain .none
  clear S T₀ St D
  clear hg2 hg3 X N T F B hf hke
  show wpAny _ _ _ _ _ _
  k_fold
  k_steps
  all_goals (
    (with_reducible rename Fr _ _ _ _ => Fz)
    (with_reducible rename News _ _ _ _ => Nz)
    have z := pure_back F₀ N₀ hg1 hL Fz
    have y := fresh_back Nz (by k_mem) kg
    have x := news_cons F₀ N₀ z.2.1 y.1 y.2
    exact ret _ _ _ _ z.1 x.1 x.2 (by assumption) (by assumption) z.2.2)
theorem names_call {sh tb st d pd : Addr} {vals : List Value} {f : Int → Option Bool} {kvs pkv : List (Str × Value)} (C : Cx (hd.heap_1 w.params) A₀ base h₀ env outer L m p loose mean mg mb s news) (hroom : dp + 502 < recursionLimit) (hun : un + 40 < cLine)
    (S : ShelfAt s.heap sh tb) (T₀ : TabAt w s.heap tb vals) (St : StAt w s.heap st f) (D : DctAt (sk w) s.heap d kvs) (hx : (valueAt kvs (Str.ofString "Properties")).getD .none = .ref pd) (P : DctAt (sk w) s.heap pd pkv) (hpl : pkv.length ≤ 50)
    (fb : Str → Bool) (hfb : ∀ kv ∈ pkv, StateOf w s.heap vals f kv.2 (some (fb kv.1)))
    (ret : ∀ D o h' tk', Fr h₀ L h' m → News h₀ L h' ((D, o) :: news) → (∀ p ∈ news, p.1 ≠ D) → o.IsDictOf (sk w) (pkv.map fun kv => (kv.1, Value.bool (fb kv.1))) → (D == sysModules) = false → Keeps [] s.heap h' → Q (.ref D) { s with heap := h', toks := tk' }) :
    wpAny (model PySem.Challenge.rw_pb0479_01.row.prog w) (At dp un gd env outer) (call (.ref 423) [.ref sh, .ref d, .ref st]) Q E s := by
  obtain ⟨B, F, X, T, N, hf, hke⟩ := C
  revert X
  k_fill
  intro X
  walk_at "ENTERC"
  intro g' L' h' tk0 cells hg1 hg2 hg3 hL F' N' Y' B' X' T' hlt
  k_cells Y'
  (try simp only [List.cons_append, List.nil_append, List.append_nil] at N')
  have F₀ := F
  have N₀ := N
  have kg : ∀ b o, s.heap.get? b = some o → g'.get? b = some o := fun b o e => hg1 b o e (fun q => nomatch q)
  have S' := S.keeps kg
  have T₁ := T₀.keeps kg
  obtain ⟨dx, es, q, i1, i2, j1, j2, j3, j4⟩ := S'.w
  have St' := St.keeps kg
  have D' := D.keeps kg
  have P' := P.keeps kg
  obtain ⟨od, hod, hodc⟩ := dctAt_obj P'
  have V' : Fet g' vals (.ref pd) (.ref pd) := .plain (.dict hod hodc)
  clear S T₀ St D P
  clear hg2 hg3 X N T F B hf hke
  show wpAny _ _ _ _ _ _
  k_fold
  k_steps
  refine unhalt ?_
  (with_reducible rename Fr _ _ _ _ => Fz)
  (with_reducible rename News _ _ _ _ => Nz)
  refine ⟨pd, pkv, _, rfl, rfl, Fz, Nz, P', Nat.le_trans hpl (by decide), fun g2 => ?_⟩
  refine rest_ex (fun i ys ex => ∃ ps : List (Addr × Str × Value), ys = ps.map (fun p => Value.ref p.1) ∧ ps.length = i ∧ (∀ (j : Nat) p, ps[j]? = some p → ∃ kv, pkv[j]? = some kv ∧ p.2 = (kv.1, Value.bool (fb kv.1))) ∧ ∀ p ∈ ps, ∃ key, (sk w).is p.2.1 key = true ∧ (p.1, ({ cls := .type "tuple", data := .seq [key, p.2.2].toArray } : Obj)) ∈ ex) ?_ ?_ ?_
  · exact ⟨[], rfl, rfl, fun j p q => by simp at q, fun p q => nomatch q⟩
  · rintro i hi ys ex ⟨ps, rfl, hps, hkv, htu⟩ v I oI Cc oC Dd m₂ hh tk2 E' ⟨kk, yy, hkk, hisk⟩ hC hx2 Ft Nt off ne
    simp only [List.cons_append, List.nil_append] at Nt off
    clear Nz
    obtain ⟨vt, rfl⟩ := sk_is hisk
    have hval : valueAt pkv kk = some yy := valueAt_get P'.nodup hkk
    have O' : StateOf w g' vals f yy (some (fb kk)) := (hfb (kk, yy) (List.mem_of_getElem? hkk)).keeps kg
    k_steps
    refine unhalt ?_
    refine' state_call ⟨?B, ?F, ?X, ?T, ?N, rfl, rfl⟩ ?r ?u ?S ?T2 ?St ?O ?ret ?exc
    case B => k_asm
    case F => k_asm
    case S => exact S'.keeps (Fr.keep (by k_asm))
    case T2 => exact T₁.keeps (Fr.keep (by k_asm))
    case St => exact St'.keeps (Fr.keep (by k_asm))
    case O => exact O'.keeps (Fr.keep (by k_asm))
    case X => k_asm
    case T => k_asm
    case N => k_asm
    case r => k_room
    case u => kwd_inv
    case ret =>
      intro b' hb h5 tk5 F5 N5 k5
      cases hb
      clear k5
      k_steps
      refine unhalt ?_
      (with_reducible rename Fr _ _ _ _ => F6)
      (with_reducible rename News _ _ _ _ => N6)
      rename_i D6 h6 l6
      obtain ⟨a1, a2, a3, a4, a5, a6, a7⟩ := l6
      change LCg.CompEnd _ _ _ _ _ _ _ _ _ _ _ _ _ _
      refine' LCg.CompEnd.intro F6 N6 _ ?sub ?off ?S ?r
      case r =>
        refine' ⟨(D6, { cls := .type "tuple", data := .seq [Value.str kk vt, Value.bool (fb kk)].toArray }) :: ex, rfl, ps ++ [(D6, kk, .bool (fb kk))], ?i1, ?i2, ?i3, ?i4⟩
        case i1 => exact (List.map_append (f := fun p : Addr × Str × Value => Value.ref p.1) (l₁ := ps) (l₂ := [(_, kk, Value.bool (fb kk))])).symm
        case i4 =>
          intro p hp
          rcases List.mem_append.mp hp with hp | hp
          · obtain ⟨key, e1, e2⟩ := htu p hp
            exact ⟨key, e1, .tail _ e2⟩
          · obtain rfl := List.mem_singleton.mp hp
            exact ⟨.str kk vt, hisk, .head _⟩
        case i2 => rw [List.length_append, hps]; rfl
        case i3 =>
          intro j p hj
          by_cases hlt2 : j < ps.length
          · rw [List.getElem?_append_left hlt2] at hj
            exact hkv j p hj
          · rw [List.getElem?_append_right (Nat.not_lt.mp hlt2)] at hj
            cases hjj : j - ps.length with
            | zero =>
              rw [hjj] at hj
              simp only [List.getElem?_cons_zero, Option.some.injEq] at hj
              subst hj
              have : j = i := by omega
              subst this
              exact ⟨_, hkk, rfl⟩
            | succ k => rw [hjj] at hj; simp at hj
      case S => trivial
      case sub =>
        intro p hp
        simp only [List.mem_cons, List.cons_append, List.nil_append] at hp ⊢
        rcases hp with h | h | h | h | h | h | h | h <;> simp [h]
      case off => exact ⟨off.1, off.2.1, off.2.2.1, ⟨Nat.ne_of_gt a1, Nat.ne_of_gt a2, Nat.ne_of_gt a3⟩, off.2.2.2⟩
    case exc => intro hb; cases hb
  · rintro ys ex ⟨ps, rfl, hps, hkv, htu⟩
    intro Dl h3 tk3 F3 N3 off3
    simp only [List.cons_append, List.nil_append] at N3 off3
    clear Nz
    k_steps
    refine unhalt ?_
    have hA3 : ∀ p ∈ ps, PairAt (sk w) h3 p := fun p hp => by
      obtain ⟨key, e1, e2⟩ := htu p hp
      exact ⟨key, e1, (N3 _ (.tail _ (.tail _ (.tail _ (.tail _ e2))))).1⟩
    refine dict_pairs (knd := sk w) rfl (N3 _ (.head _)).1 (by rw [hps]; omega) hA3 fun D5 h5 tk5 fr5 k5 hd5 => ?_
    have e5 : storedAll [] ps = pkv.map (fun kv => (kv.1, Value.bool (fb kv.1))) := storedAll_of P'.nodup hps hkv
    rw [e5] at hd5
    obtain ⟨o5, ho5, hi5⟩ := Heap.dictOf_iff.mp hd5
    have F5 := F3.keeps k5
    have z := pure_back F₀ N₀ hg1 hL F5
    have f5 : s.heap.get? D5 = none := by
      cases q : s.heap.get? D5 with
      | none => rfl
      | some o => have := F3.keep _ _ (kg _ _ q); rw [fr5, Heap.get?_none_of_le (Nat.le_refl _)] at this; cases this
    have x := news_cons F₀ N₀ z.2.1 f5 ho5
    exact ret _ _ _ _ z.1 x.1 x.2 hi5 (by rw [fr5]; exact F3.notModules (modules_low T'.nolimit)) z.2.2
end
end
section -- C10
open PySem PySem.W PyProof.Rows PySem.Spec PySem.Calls PySem.SeqAt
theorem lines_C10_1 : True := by
  k_with_none
  k_with "Zeval Call" => (k_here; (with_reducible show wpAny _ _ (eval (PySem.Expr.Call (PySem.Expr.Name _ _) (_ :: _) [] _) _) _ _ _); k_dflt (refine' call_simG (by rfl) (by k_asm) (by k_asm) (by k_asm) (by k_is) (by k_is) (by rfl) ?_ (by rfl) (by rfl); k_whole))
  trivial
local macro_rules | `(tactic| k_inst) => `(tactic| (refine' inst_base (by k_asm) (by assumption) (by assumption)))
local macro_rules | `(tactic| kit_at) => `(tactic| (refine' kitAt_base (by k_asm) (by assumption) (by assumption)))
local macro_rules | `(tactic| k_room) => `(tactic| first | exact roomK 1 (by assumption) (by decide) | exact unitK 1 (by assumption) (by decide) | exact unit2 1 (by assumption) (by decide) | exact roomM 1 (by assumption) (by decide) | exact unitM 1 (by assumption) (by decide) | exact roomK 2 (by assumption) (by decide) | exact unitK 2 (by assumption) (by decide) | exact roomZ (by assumption) | exact roomZM (by assumption) | ((try simp only [depth_under_make, depth_under_kw, depth_in1, depth_deeper]); (try dsimp only); omega))

local macro_rules | `(tactic| kwd_rel) => `(tactic| exact ⟨by k_asm, by k_asm, by k_asm, by k_asm, by k_asm, rfl, rfl⟩)

local macro_rules | `(tactic| kwd_inv) => `(tactic| first | exact unitK 3 (by assumption) (by decide) | exact unitK 4 (by assumption) (by decide) | exact unitM 3 (by assumption) (by decide) | exact unit2 3 (by assumption) (by decide) | exact unitM 4 (by assumption) (by decide) | ((try simp only [units_in1, units_deeper]); (try dsimp only); omega))
local macro_rules | `(tactic| kfm_turns) => `(tactic| exact list_news (by k_asm) (by k_mem))
local macro_rules | `(tactic| kpt_turns) => `(tactic| exact list_base (by k_asm) (by assumption))




theorem lines_C10_2 : True := by
  k_with "ZENTER" => (refine wpAny_call ?_; refine' enterK [] (by assumption) (by assumption) (by assumption) (by assumption) (fun _ h => nomatch h) rfl (by assumption) (by assumption) (by k_dflt k_is) (by k_dflt k_is) (by k_room) (BindsTo.of_eq rfl) (locs rfl) ?_ (by decide) (by rfl) (by rfl) (by rfl))
  k_with "Zcall ref" => (k_here; (with_reducible show wpAny _ _ (call (Value.ref 411) [_, _, _]) _ _ _); (refine halt ?_))
  k_with "Zexec Try" => (k_here; k_dflt (refine wpAny_Try_except ?_))
  trivial
section
variable {w : World} {A₀ : Around} {s : Shared} {base h₀ : Heap} {outer : List Env} {L : Addr} {m mg mb : Str → Option Value} {env : Env} {p : Program} {loose : List Str} {mean : ExcName → Option Value}
  {E : Value → Shared → Prop} {Q : Value → Shared → Prop} {news : List (Addr × Obj)} {dp un : Nat} {gd : Option (List Code)}
theorem found_call {sh tb st : Addr} {vals : List Value} {f : Int → Option Bool} {v : Value} {o : Option Bool} (C : Cx (hd.heap_1 w.params) A₀ h₀ h₀ env [] L m p loose mean mg mb s news) (hroom : dp + 510 < recursionLimit) (hun : un + 60 < cLine)
    (S : ShelfAt s.heap sh tb) (T₀ : TabAt w s.heap tb vals) (St : StAt w s.heap st f) (O : StateOf w s.heap vals f v o)
    (ret : ∀ h' tk', Fr h₀ L h' m → News h₀ L h' news → (∀ b ob, s.heap.get? b = some ob → b ≠ L → h'.get? b = some ob) → Q (o.elim .none .bool) { s with heap := h', toks := tk' }) :
    wpAny (model PySem.Challenge.rw_pb0479_01.row.prog w) (At dp un gd env []) (call (.ref 464) [.ref sh, .ref st, v]) Q E s := by
  obtain ⟨B, F, X, T, N, hf, hke⟩ := C
  revert X
  k_fill
  intro X
  walk_at "ENTER"
  intro g' L' h' hg1 hg2 hg3 hL F' N' B' X' T' hlt
  have F₀ := F
  have N₀ := N
  have kg : ∀ b o, s.heap.get? b = some o → g'.get? b = some o := fun b o e => hg1 b o e (fun q => nomatch q)
  have S' := S.keeps kg
  have T₁ := T₀.keeps kg
  obtain ⟨dx, es, q, i1, i2, j1, j2, j3, j4⟩ := S'.w
  have St' := St.keeps kg
  have O' := O.keeps kg
  clear S T₀ St O
  have XB := X
  have TB := T
  clear hg2 hg3 X N T F
  show wpAny _ _ _ _ _ _
  k_fold
  k_steps
  have Fz := F'
  refine unhalt ?_
  refine' state_call ⟨?B, ?F, ?X, ?T, ?N, rfl, rfl⟩ ?r ?u ?S ?T2 ?St ?O ?ret ?exc
  case B => k_asm
  case F => k_asm
  case S => exact S'.keeps (Fr.keep (by k_asm))
  case T2 => exact T₁.keeps (Fr.keep (by k_asm))
  case St => exact St'.keeps (Fr.keep (by k_asm))
  case O => exact O'.keeps (Fr.keep (by k_asm))
  case X => k_asm
  case T => k_asm
  case N => k_asm
  case r => k_room
  case u => kwd_inv
  case ret =>
    intro b' hb h5 tk5 F5 N5 k5
    subst hb
    have z := pure_back F₀ N₀ hg1 hL F5
    exact ret _ _ z.1 z.2.1 (fun b ob q _ => z.2.2.keep b ob q (fun q => nomatch q))
  case exc =>
    intro hb e fl h5 tk5 R5
    subst hb
    have hL0 : h₀.get? L = none := kts_self F₀
    have hfs : frs [env] = [L] := by show List.filterMap _ _ = _; rw [List.filterMap_cons, hf]; rfl
    refine note_any rfl rfl R5 fun h6 R6 u6 => ?_
    refine land_any R6 fun h7 R7 u7 => ?_
    obtain ⟨a0, r1, r2, r3, r4, r5⟩ := R7
    have hDk : KtsDicts (List.filterMap (·.frame) [env]) g' := fun b hb => by
      have hb' : b ∈ frs [env] := hb
      rw [hfs] at hb'
      obtain rfl := List.mem_singleton.mp hb'
      obtain ⟨o, es, ep, ho, hd, _⟩ := F₀.ns
      exact ⟨o, es, ep, kg _ _ ho, hd⟩
    refine hit_SN0 (base := h₀) (news := []) (g₀ := g') ⟨_, a0, ?hb, fun b o q n => hideAll_get _ q n, (fun q hq => nomatch hq), r1, r2, r3, r4⟩ Fz B' r5 XB TB hDk KtsTurn.refl (test_name (c := .ref 59) (.inl (by kernel_rfl)) (by kernel_rfl) rfl rfl rfl) (fun h8 g8 T8 F8 N8 B8 X8 P8 D8 => ?_)
    case hb =>
      intro b ob q
      refine hideAll_get _ (Fz.keep _ _ (B'.stays b ob q)) fun mm => ?_
      rcases kts_mem mm with z | z
      · rw [z] at q
        have := B'.stays _ _ q
        rw [kts_self Fz] at this; cases this
      · have z' : b ∈ frs [env] := z
        rw [hfs] at z'
        rw [List.mem_singleton.mp z', hL0] at q; cases q
    have T9 : ∀ b ob, g'.get? b = some ob → b ≠ L → h8.get? b = some ob := fun b ob q n => F8.keep _ _ (T8.other b ob q fun mm => n (by
      have mm' : b ∈ frs [env] := mm
      rw [hfs] at mm'
      exact List.mem_singleton.mp mm'))
    have FL : Fr h₀ L h8 m := by
      obtain ⟨o, es, ep, ho, hd, r⟩ := F₀.ns
      obtain ⟨sl, hs⟩ := T8.up (kg _ _ ho)
      exact ⟨⟨_, es, ep, F8.keep _ _ hs, hd, r⟩, fun b ob q => T9 b ob (kg _ _ (F₀.keep b ob q)) (fun z => by rw [z, hL0] at q; cases q), F₀.above⟩
    have NL : News h₀ L h8 news := fun pp hp => ⟨T9 _ _ (kg _ _ (N₀ pp hp).1) (N₀ pp hp).2.1, (N₀ pp hp).2⟩
    show wpAny _ _ _ _ _ _
    k_fold
    k_steps
    exact ret _ _ FL NL (fun b ob q n => T9 b ob (kg _ _ q) n)
end
end
section -- C11
open PySem PySem.W PyProof.Rows PySem.Spec PySem.Calls PySem.SeqAt
theorem lines_C11_1 : True := by
  k_with_none
  k_with "Zspliced" => (k_here; k_dflt (refine' args_simG (by rfl) (by rfl) (by k_asm) (by rfl) ?_; k_whole); (try dsimp only [List.cons_append, List.nil_append]))
  trivial
local macro_rules | `(tactic| k_inst) => `(tactic| (refine' inst_base (by k_asm) (by assumption) (by assumption)))
local macro_rules | `(tactic| kit_at) => `(tactic| (refine' kitAt_base (by k_asm) (by assumption) (by assumption)))
local macro_rules | `(tactic| k_room) => `(tactic| first | exact roomK 1 (by assumption) (by decide) | exact unitK 1 (by assumption) (by decide) | exact unit2 1 (by assumption) (by decide) | exact roomM 1 (by assumption) (by decide) | exact unitM 1 (by assumption) (by decide) | exact roomK 2 (by assumption) (by decide) | exact unitK 2 (by assumption) (by decide) | exact roomZ (by assumption) | exact roomZM (by assumption) | ((try simp only [depth_under_make, depth_under_kw, depth_in1, depth_deeper]); (try dsimp only); omega))


local macro_rules | `(tactic| kwd_inv) => `(tactic| first | exact unitK 3 (by assumption) (by decide) | exact unitK 4 (by assumption) (by decide) | exact unitM 3 (by assumption) (by decide) | exact unit2 3 (by assumption) (by decide) | exact unitM 4 (by assumption) (by decide) | ((try simp only [units_in1, units_deeper]); (try dsimp only); omega))
local macro_rules | `(tactic| kfm_turns) => `(tactic| exact list_news (by k_asm) (by k_mem))
local macro_rules | `(tactic| kpt_turns) => `(tactic| exact list_base (by k_asm) (by assumption))


theorem lines_C11_2 : True := by
  k_with "ZENTER" => (refine wpAny_call ?_; refine' enterK [] (by assumption) (by assumption) (by assumption) (by assumption) (fun _ h => nomatch h) rfl (by assumption) (by assumption) (by k_dflt k_is) (by k_dflt k_is) (by k_room) (BindsTo.of_eq rfl) (locs rfl) ?_ (by decide) (by rfl) (by rfl) (by rfl))
  k_with "ZcompareOp Eq ref ref" => (k_here; k_dflt (refine' eq_nil (by kpt_turns) (by kfm_turns) (by kwd_inv) ?_; k_whole))
  k_with "ZCompSrcT" => (k_here; k_dflt (first | (refine LCt.CompSrcT.ledger (by rfl) (by k_asm) (by k_asm) (by k_mem) (by first | size_fits | exact Nat.le_of_ble_eq_true rfl) ?_; intro g') | (refine LCt.CompSrcT.base (by rfl) (by k_asm) (by k_asm) (by assumption) (by first | assumption | size_fits | exact Nat.le_of_ble_eq_true rfl) ?_; intro _)); refine halt ?_)
  k_with "ZCompEnd" => (k_dflt (refine' LCg.CompEnd.intro (by k_asm) (by k_asm) _ (by first | exact fun _ h => h | lcg_sub) (by assumption) (by assumption) (by assumption)))
  k_with "Zcall builtin:len" => (k_here; (with_reducible show wpAny _ _ (call (Value.builtin "len") [Value.ref _]) _ _ _); k_dflt (refine' kun_lenL (by first | (refine' list_base (by k_asm) (by assumption)) | exact News.isList (by k_asm) (by k_mem)) (by assumption) (by first | decide | omega) ?_; k_whole))
  trivial
noncomputable def cnt (bs : List Bool) : Nat := ((bs.map fun b => if b = true then some (Value.bool b) else none).filterMap id).length
theorem cnt_facts : ∀ bs : List Bool, cnt bs ≤ bs.length ∧ (bs.contains false = decide (cnt bs < bs.length)) ∧ (bs.contains true = decide (0 < cnt bs))
  | [] => by simp [cnt]
  | b :: bs => by
    obtain ⟨h1, h2, h3⟩ := cnt_facts bs
    cases b with
    | true =>
      have e : cnt (true :: bs) = cnt bs + 1 := by simp [cnt]
      rw [e]
      refine ⟨by simp; omega, ?_, ?_⟩
      · rw [List.contains_cons, h2]; simp
      · rw [List.contains_cons, h3]; simp
    | false =>
      have e : cnt (false :: bs) = cnt bs := by simp [cnt]
      rw [e]
      refine ⟨by simp; omega, ?_, ?_⟩
      · rw [List.contains_cons, h2]; simp; omega
      · rw [List.contains_cons, h3]; simp
theorem poll_get {wd : Str} {v : Value} {a b c d : Bool} {t1 t2 t3 : Tok} (h : PyProof.V.Flat v ((Spec.lookup (PyData.str wd) (strData [(.str (Str.ofString "AllOn") t1, .bool a), (.str (Str.ofString "AnyOff") t2, .bool b), (.str (Str.ofString "AllOff") t3, .bool c)])).getD (.bool d))) :
    v = .bool (if wd == Str.ofString "AllOn" then a else if wd == Str.ofString "AnyOff" then b else if wd == Str.ofString "AllOff" then c else d) := by
  simp only [strData, Spec.lookup] at h
  have sm : ∀ x : Str, Spec.same (PyData.str x) (PyData.str wd) = (wd == x) := fun x => by
    have : Spec.same (PyData.str x) (PyData.str wd) = (x == wd) := rfl
    rw [this]; exact Bool.beq_comm
  rw [sm, sm, sm] at h
  cases h1 : (wd == Str.ofString "AllOn") with
  | true => rw [h1] at h; exact h.bool_inv
  | false =>
    cases h2 : (wd == Str.ofString "AnyOff") with
    | true => rw [h1, h2] at h; exact h.bool_inv
    | false =>
      cases h3 : (wd == Str.ofString "AllOff") with
      | true => rw [h1, h2, h3] at h; exact h.bool_inv
      | false => rw [h1, h2, h3] at h; exact h.bool_inv
theorem poll_eq {wd : Str} {bs : List Bool} {ml on : Int} (hne : ((bs.map Value.bool).toArray.size == 0) = false) (hml : ((bs.map Value.bool).toArray.size : Int) = ml) (hon : ((((bs.map fun b => if b = true then some (Value.bool b) else none)).filterMap id).toArray.size : Int) = on) :
    (if wd == Str.ofString "AllOn" then (ml - on == 0) else if wd == Str.ofString "AnyOff" then decide (0 < ml - on) else if wd == Str.ofString "AllOff" then (on == 0) else decide (0 < on)) = pol wd bs := by
  obtain ⟨h1, h2, h3⟩ := cnt_facts bs
  have e1 : ml = bs.length := by rw [← hml]; simp
  have e2 : on = cnt bs := by rw [← hon]; simp [cnt]
  unfold pol
  rw [hne, h2, h3, e1, e2]
  simp only [Bool.false_eq_true, if_false]
  cases a1 : (wd == Str.ofString "AllOn") with
  | true =>
    simp only [if_true]
    rw [Bool.eq_iff_iff]
    simp
    omega
  | false =>
    simp only [Bool.false_eq_true, if_false]
    cases a2 : (wd == Str.ofString "AnyOff") with
    | true =>
      simp only [if_true]
      rw [Bool.eq_iff_iff]
      simp
      (try omega)
    | false =>
      simp only [Bool.false_eq_true, if_false]
      cases a3 : (wd == Str.ofString "AllOff") with
      | true =>
        simp only [if_true]
        rw [Bool.eq_iff_iff]
        simp
      | false =>
        simp only [Bool.false_eq_true, if_false]
        rw [Bool.eq_iff_iff]
        simp

section
variable {w : World} {A₀ : Around} {s : Shared} {base h₀ : Heap} {outer : List Env} {L : Addr} {m mg mb : Str → Option Value} {env : Env} {p : Program} {loose : List Str} {mean : ExcName → Option Value}
  {E : Value → Shared → Prop} {Q : Value → Shared → Prop} {news : List (Addr × Obj)} {dp un : Nat} {gd : Option (List Code)}
theorem poll_call {l : Addr} {bs : List Bool} {wd : Str} {wt : Tok} (C : Cx (hd.heap_1 w.params) A₀ base h₀ env outer L m p loose mean mg mb s news) (hroom : dp + 4 < recursionLimit) (hun : un + 30 < cLine)
    (H : s.heap.IsList l (bs.map Value.bool).toArray) (hn : bs.length ≤ 10)
    (ret : ∀ h' tk', Fr h₀ L h' m → News h₀ L h' news → Keeps [] s.heap h' → Q (.bool (pol wd bs)) { s with heap := h', toks := tk' }) :
    wpAny (model PySem.Challenge.rw_pb0479_01.row.prog w) (At dp un gd env outer) (call (.ref 450) [.str wd wt, .ref l]) Q E s := by
  obtain ⟨B, F, X, T, N, hf, hke⟩ := C
  revert X
  k_fill
  intro X
  walk_at "ENTER"
  intro g' L' h' hg1 hg2 hg3 hL F' N' B' X' T' hlt
  have F₀ := F
  have N₀ := N
  have kg : ∀ b o, s.heap.get? b = some o → g'.get? b = some o := fun b o e => hg1 b o e (fun q => nomatch q)
  have H' : g'.IsList l (bs.map Value.bool).toArray := let ⟨o, ho, r⟩ := H; ⟨o, kg _ _ ho, r⟩
  clear H
  clear hg2 hg3 X N T F B hf hke
  show wpAny _ _ _ _ _ _
  k_fold
  k_steps
  refine unhalt ?_
  have hos : (bs.map fun b => if b = true then some (Value.bool b) else none).length = (bs.map Value.bool).length := by simp
  obtain ⟨ml, hml, hml0, hml2⟩ : ∃ ml : Int, ((bs.map Value.bool).toArray.size : Int) = ml ∧ 0 ≤ ml ∧ ml ≤ 12 := ⟨_, rfl, by omega, by simp; omega⟩
  obtain ⟨on, hon, hon0, hon2⟩ : ∃ on : Int, ((((bs.map fun b => if b = true then some (Value.bool b) else none)).filterMap id).toArray.size : Int) = on ∧ 0 ≤ on ∧ on ≤ 12 := ⟨_, rfl, by omega, by
    have := List.length_filterMap_le id (bs.map fun b => if b = true then some (Value.bool b) else none)
    simp at this ⊢; omega⟩
  refine restT_ind (bs.map Value.bool) (bs.map fun b => if b = true then some (Value.bool b) else none) (fun v o => ∃ b : Bool, v = .bool b ∧ o = if b = true then some (Value.bool b) else none) (by simp) hos ?_ ?_ ?_ ?_ ?_
  · intro i v o h1 h2
    rw [List.getElem?_map] at h1 h2
    obtain ⟨b, h3, rfl⟩ := Option.map_eq_some_iff.mp h1
    rw [h3] at h2
    cases h2
    exact ⟨b, rfl, rfl⟩
  · intro i v hv
    simpa using hv
  · exact Or.inl (by assumption)
  · intro v o hR ys I oI C oC Dd m₂ h tk E' R1 R0 h1 h0 hS hC hx F N off ne
    obtain ⟨b, rfl, rfl⟩ := hR
    cases b with
    | true =>
      have q1 := h1 (.bool true) rfl
      k_steps
    | false =>
      have q0 := h0 rfl
      k_steps
  · k_steps
    · rename_i hz
      (with_reducible rename Fr _ _ _ _ => Fz)
      have z := pure_back F₀ N₀ hg1 hL Fz
      have e : true = pol wd bs := by unfold pol; rw [if_pos hz]
      have ret' : ∀ b h' tk', b = pol wd bs → Fr h₀ L h' m → News h₀ L h' news → Keeps [] s.heap h' → Q (.bool b) { s with heap := h', toks := tk' } := fun b h' tk' e => e ▸ ret h' tk'
      exact ret' _ _ _ e z.1 z.2.1 z.2.2
    · (with_reducible rename Fr _ _ _ _ => Fz)
      have z := pure_back F₀ N₀ hg1 hL Fz
      have e := poll_get (by assumption)
      subst e
      have ret' : ∀ b h' tk', b = pol wd bs → Fr h₀ L h' m → News h₀ L h' news → Keeps [] s.heap h' → Q (.bool b) { s with heap := h', toks := tk' } := fun b h' tk' e => e ▸ ret h' tk'
      exact ret' _ _ _ (poll_eq (by assumption) hml hon) z.1 z.2.1 z.2.2
end
end
section -- C12
open PySem PySem.W PyProof.Rows PySem.Spec PySem.Calls PySem.SeqAt
theorem lines_C12_1 : True := by
  k_with_none
  k_with "ZsubscriptTail Name Constant ref int" => (k_here; walk_at "subscriptTail")
  k_with "Zspliced" => (k_here; k_dflt (refine' args_simG (by rfl) (by rfl) (by k_asm) (by rfl) ?_; k_whole); (try dsimp only [List.cons_append, List.nil_append]))
  trivial
local macro_rules | `(tactic| k_inst) => `(tactic| (refine' inst_base (by k_asm) (by assumption) (by assumption)))
local macro_rules | `(tactic| kit_at) => `(tactic| (refine' kitAt_base (by k_asm) (by assumption) (by assumption)))
local macro_rules | `(tactic| k_room) => `(tactic| first | exact roomK 1 (by assumption) (by decide) | exact unitK 1 (by assumption) (by decide) | exact unit2 1 (by assumption) (by decide) | exact roomM 1 (by assumption) (by decide) | exact unitM 1 (by assumption) (by decide) | exact roomK 2 (by assumption) (by decide) | exact unitK 2 (by assumption) (by decide) | exact roomZ (by assumption) | exact roomZM (by assumption) | ((try simp only [depth_under_make, depth_under_kw, depth_in1, depth_deeper]); (try dsimp only); omega))


local macro_rules | `(tactic| kwd_inv) => `(tactic| first | exact unitK 3 (by assumption) (by decide) | exact unitK 4 (by assumption) (by decide) | exact unitM 3 (by assumption) (by decide) | exact unit2 3 (by assumption) (by decide) | exact unitM 4 (by assumption) (by decide) | ((try simp only [units_in1, units_deeper]); (try dsimp only); omega))
local macro_rules | `(tactic| kfm_turns) => `(tactic| exact list_news (by k_asm) (by k_mem))
local macro_rules | `(tactic| kpt_turns) => `(tactic| exact list_base (by k_asm) (by assumption))


local macro_rules | `(tactic| kwd_rel) => `(tactic| exact ⟨by k_asm, by k_asm, by k_asm, by k_asm, by k_asm, rfl, rfl⟩)

theorem lines_C12_2 : True := by
  k_with "ZgetMethod ref" => (k_here; k_dflt (first | (refine' method_inst (by k_asm) (by k_asm) (by k_inst) (by k_is) (by k_is) (by k_is) (by assumption) ?_; k_whole) | (refine' dget_method (by k_asm) (by assumption) ?_; k_whole)))
  k_with "ZENTERC" => (refine wpAny_call ?_; refine' enterKC [] (by assumption) (by assumption) (by assumption) (by assumption) (fun _ h => nomatch h) rfl (by assumption) (by assumption) (by k_dflt k_is) (by k_dflt k_is) (by k_room) (by first | exact binds_K (by k_in) rfl (by k_is) rfl rfl rfl | exact BindsTo.of_eq rfl) (by exact rfl) (by decide +kernel) ?_ (by rfl) (by rfl) (by rfl))
  k_with "Zcall builtin:dict.get" => (k_here; k_dflt (refine' dget2y (by k_asm) (by assumption) (by first | exact strKind_is _ _ _ _ | exact intKind_is _ _ _ _) (by assumption) ?_; k_whole))
  k_with "Zexec Assign cons ListComp" => (k_here; k_dflt (refine' Assign_comp_X (by k_asm) rfl (by with_unfolding_all rfl) (by with_unfolding_all rfl) (by decide) (by rfl) (by decide) (by rfl) (by rfl) (by rfl) rfl rfl rfl (by assumption) ?_; k_whole))
  k_with "Zcall builtin:len" => (k_here; (with_reducible show wpAny _ _ (call (Value.builtin "len") [Value.ref _]) _ _ _); k_dflt (refine' kun_lenL (by first | (refine' list_base (by k_asm) (by assumption)) | exact News.isList (by k_asm) (by k_mem)) (by assumption) (by first | decide | omega) ?_; k_whole))
  k_with "Zcall ref" => (k_here; refine halt_call (by decide) ?_)
  k_with "ZCompSrcT" => (k_here; k_dflt (first | (refine LCt.CompSrcT.ledger (by rfl) (by k_asm) (by k_asm) (by k_mem) (by first | size_fits | exact Nat.le_of_ble_eq_true rfl) ?_; intro g') | (refine LCt.CompSrcT.base (by rfl) (by k_asm) (by k_asm) (by assumption) (by first | assumption | size_fits | exact Nat.le_of_ble_eq_true rfl) ?_; intro _)); refine halt ?_)
  k_with "ZCompEnd" => (k_dflt (refine' LCg.CompEnd.intro (by k_asm) (by k_asm) _ (by first | exact fun _ h => h | lcg_sub) (by assumption) (by assumption) (by assumption)))
  trivial
/-- the words of the law's expressions -/
def wordOk (wd : Str) : Prop := wd = Str.ofString "And" ∨ wd = Str.ofString "Or" ∨ wd = Str.ofString "Not" ∨ wd = Str.ofString "Xor"
/-- a tuple that tells an expression -/
inductive TreeAt (h : Heap) : Nat → Value → Tree → Prop
  | group {k : Nat} {x : Addr} {n : Int} {t1 tn : Tok} : h.get? x = some { cls := .type "tuple", data := .seq #[.str (Str.ofString "group") t1, .int n tn] } → 1 ≤ n → n ≤ 5 → TreeAt h k (.ref x) (.group n)
  | node {k : Nat} {x l : Addr} {wd : Str} {tw : Tok} {items : List Value} {cs : List Tree} {kx : Nat} : h.get? x = some { cls := .type "tuple", data := .seq #[.str wd tw, .ref l] } → h.get? l = some { cls := .type "list", data := .seq items.toArray kx } → wordOk wd → items.length = cs.length → items.length ≤ 3 →
      (∀ (i : Nat) (v' : Value) (c : Tree), items[i]? = some v' → cs[i]? = some c → TreeAt h k v' c) → TreeAt h (k + 1) (.ref x) (.node wd cs)
theorem TreeAt.keeps {h h' : Heap} {k : Nat} {v : Value} {t : Tree} (a : TreeAt h k v t) (kp : ∀ b o, h.get? b = some o → h'.get? b = some o) : TreeAt h' k v t := by
  induction a with
  | group a b c => exact .group (kp _ _ a) b c
  | node a b c d e f ih => exact .node (kp _ _ a) (kp _ _ b) c d e ih
/-- a truth or None -/
noncomputable def ov (o : Option Bool) : Value := o.elim .none .bool
theorem ne_nil2 {prog : Program} {w : World} {A : Around} {E : Value → Shared → Prop} {s : Shared} {Q : Value → Shared → Prop} {l b : Addr} {its : Array Value} {z : Bool} (hl : s.heap.IsList l its) (hb : s.heap.IsList b #[]) (hu : A.units < cLine) (hz : (its.size == 0) = z) (h : Q (.bool (!z)) s) :
    wpAny (model prog w) A (compareOp .NotEq (.ref l) (.ref b)) Q E s := by
  by_cases q : its.size = 0
  · refine RcNeAt.lists (e := fun _ => true) hl hb (by simpa using q) hu (fun j _ h2 => absurd h2 (Nat.not_lt_zero j)) prog w E Q ?_
    have e : (its.size == 0) = true := by simpa using q
    rw [e] at hz
    subst hz
    simpa [q] using h
  · refine RcNeAt.lists_lengths hl hb (by simpa using q) hu prog w E Q ?_
    have e : (its.size == 0) = false := by simpa using q
    rw [e] at hz
    subst hz
    exact h
theorem tup_item0 {prog : Program} {w : World} {A : Around} {E : Value → Shared → Prop} {s : Shared} {value slice : PySem.Expr} {t : Addr} {a b : Value} {u : Tok} {Q : Value → Shared → Prop} (ht : IsTup s.heap t #[a, b]) (h : Q a s)
    (hs : subscripted slice false (.ref t) (.int 0 u) = operate [.ref t, .int 0 u] (getItem (.ref t) (.int 0 u)) := by with_unfolding_all rfl) (hg : ∀ r, letTemporaryGo value (.ref t) r = pure () := by intro _; with_unfolding_all rfl) :
    wpAny (model prog w) A (subscriptTail value slice (.ref t) (.int 0 u)) Q E s := item_tuple (j := 0) (x := a) ht (by decide) (by decide) rfl rfl h hs hg
theorem tup_item1 {prog : Program} {w : World} {A : Around} {E : Value → Shared → Prop} {s : Shared} {value slice : PySem.Expr} {t : Addr} {a b : Value} {u : Tok} {Q : Value → Shared → Prop} (ht : IsTup s.heap t #[a, b]) (h : Q b s)
    (hs : subscripted slice false (.ref t) (.int 1 u) = operate [.ref t, .int 1 u] (getItem (.ref t) (.int 1 u)) := by with_unfolding_all rfl) (hg : ∀ r, letTemporaryGo value (.ref t) r = pure () := by intro _; with_unfolding_all rfl) :
    wpAny (model prog w) A (subscriptTail value slice (.ref t) (.int 1 u)) Q E s := item_tuple (j := 1) (x := b) ht (by decide) (by decide) rfl rfl h hs hg
theorem eq_str_k {prog : Program} {w : World} {A : Around} {E : Value → Shared → Prop} {s : Shared} {a b : Str} {t u : Tok} {z : Bool} {Q : Value → Shared → Prop} (e : (a == b) = z) (h : Q (.bool z) s) : wpAny (model prog w) A (compareOp .Eq (.str a t) (.str b u)) Q E s :=
  eq_str (by rw [e]; exact h)
section
variable {prog : Program} {w : World} {A : Around} {E : Value → Shared → Prop} {h₀ : Heap} {L a : Addr} {m : Str → Option Value} {cn : Str} {cs : Scope} {ccd : Value} {cl : List (Str × Addr)}
/-- the word of a pair held against a written one -/
theorem subeq_simz {x : Str} {px pc pk ps pos : Pos} {c wd : Str} {kd kd2 kk : Nat} {t : Addr} {tw : Tok} {b : Value} {whole : Sem Value} {hp : Heap} {gn : Array GenState} {dr : Drawn} {tk : Nat} {os : OsState} {z : Bool} {Q : Bool → Shared → Prop} (F : Fr h₀ L hp m) (hx : m x = some (.ref t)) (ht : h₀.get? t = some { cls := .type "tuple", data := .seq #[.str wd tw, b] kk }) (e : (wd == c) = z) (h : Q z ⟨hp, gn, dr, tk + 1 + 1, os⟩)
    (hk : cs.kind = .function := by rfl) (hkx : (envX cn cs L a ccd cl).kindOf x = some .local := by rfl) (hd : (x == ("__debug__" : Str)) = false := by decide) :
    wpAny (model prog w) A (isTrue (.Compare (.Subscript (.Name x px) (.Constant (.int 0) kd pk) ps) [.Eq] [.Constant (.str c) kd2 pc] pos) (envX cn cs L a ccd cl) whole) Q E ⟨hp, gn, dr, tk, os⟩ :=
  wpAny_isTrue_Compare1 (PyProof.Rows.Subscript_ (nameX_L F hx (wpAny_Constant_int (tup_item0 (a := .str wd tw) (b := b) (tup_base F ht) (Constant_str (PyProof.Rows.eq_str (wpAny_truthy_bool (by rw [e]; exact h)))))) hk hkx hd))
end
noncomputable def eqN : Value → Bool
  | .none => true
  | _ => false
theorem eq_ovs {A : Around} {s : Shared} (os : List (Option Bool)) : ∀ y, y ∈ (os.map ov).toArray → EqAt A s y .none (eqN y) := by
  intro y hy
  have hy' : y ∈ os.map ov := by rw [← List.mem_toArray]; exact hy
  obtain ⟨o, _, rfl⟩ := List.mem_map.mp hy'
  cases o with
  | none => exact EqAt.same _
  | some b => exact EqAt.bool_none b
theorem in_none {prog : Program} {w : World} {A : Around} {E : Value → Shared → Prop} {s : Shared} {Q : Value → Shared → Prop} {l : Addr} {os : List (Option Bool)} {its : Array Value} {z : Bool} (hl : s.heap.IsList l its) (e : its = (os.map ov).toArray) (hz : (os.map ov).toArray.any eqN = z) (h : Q (.bool z) s) :
    wpAny (model prog w) A (compareOp .In .none (.ref l)) Q E s := by
  subst e
  exact in_listAt eqN hl (eq_ovs os) (by rw [hz]; exact h)
theorem eq_nil2 {prog : Program} {w : World} {A : Around} {E : Value → Shared → Prop} {s : Shared} {Q : Value → Shared → Prop} {l b : Addr} {its : Array Value} {z : Bool} (hl : s.heap.IsList l its) (hb : s.heap.IsList b #[]) (hu : A.units < cLine) (hz : (its.size == 0) = z) (h : Q (.bool z) s) :
    wpAny (model prog w) A (compareOp .Eq (.ref l) (.ref b)) Q E s := eq_nil hl hb hu (by rw [hz]; exact h)

theorem ovs_of {f : Int → Option Bool} {cs : List Tree} {ys : List Value} (hl : ys.length = cs.length) (h : ∀ (i : Nat) y, ys[i]? = some y → ∃ c, cs[i]? = some c ∧ y = ov (truthT f c)) : ys = (cs.map (truthT f)).map ov := by
  refine List.ext_getElem? fun i => ?_
  rw [List.getElem?_map, List.getElem?_map]
  cases hy : ys[i]? with
  | none =>
    have : cs.length ≤ i := by rw [← hl]; exact List.getElem?_eq_none_iff.mp hy
    rw [List.getElem?_eq_none_iff.mpr this]; rfl
  | some y =>
    obtain ⟨c, h1, h2⟩ := h i y hy
    rw [h1, h2]; rfl
theorem truthL_cases (f : Int → Option Bool) : ∀ cs : List Tree, ((((cs.map (truthT f)).map ov).toArray.any eqN = true) ∧ truthL f cs = none) ∨ ∃ bs : List Bool, cs.map (truthT f) = bs.map some ∧ truthL f cs = some bs
  | [] => .inr ⟨[], rfl, rfl⟩
  | c :: cs => by
    have e : truthL f (c :: cs) = (truthT f c).bind fun b => (truthL f cs).bind fun bs => some (b :: bs) := rfl
    cases hc : truthT f c with
    | none =>
      refine .inl ⟨?_, by rw [e, hc]; rfl⟩
      simp [hc, ov, eqN]
    | some b =>
      rcases truthL_cases f cs with ⟨h1, h2⟩ | ⟨bs, h1, h2⟩
      · refine .inl ⟨?_, by rw [e, hc, h2]; rfl⟩
        simp only [List.any_toArray] at h1 ⊢
        simp only [List.map_cons, List.any_cons, h1, Bool.or_true]
      · exact .inr ⟨b :: bs, by simp [hc, h1], by rw [e, hc, h2]; rfl⟩

theorem beq_w {wd : Str} {a : Str} (h : (wd == a) = true) : wd = a := eq_of_beq h
theorem joinT_none {wd : Str} {bs : List Bool} (h : bs = [] ∨ (wd == Str.ofString "Xor") = true ∨ ((wd == Str.ofString "Not") = true ∧ 2 ≤ bs.length)) : joinT wd bs = none := by
  rcases h with rfl | h | ⟨h, h2⟩
  · rfl
  · obtain rfl := beq_w h
    unfold joinT
    split
    · rfl
    · rw [if_neg (by decide), if_neg (by decide), if_neg (by rw [show (Str.ofString "Xor" == Str.ofString "Not") = false by decide]; simp)]
  · obtain rfl := beq_w h
    unfold joinT
    rw [if_neg (by intro q; have := eq_of_beq q; omega), if_neg (by decide), if_neg (by decide), if_neg (by simp; omega)]
theorem cntA : ∀ bs : List Bool, (((bs.map fun b => if b = true then none else some (Value.bool b)).filterMap id).toArray.size == 0) = !bs.contains false
  | [] => rfl
  | true :: bs => by
    have := cntA bs
    simp only [List.size_toArray] at this ⊢
    simp only [List.map_cons, if_true, List.filterMap_cons, id, List.contains_cons]
    rw [this]; simp
  | false :: bs => by simp
theorem cntO : ∀ bs : List Bool, (((bs.map fun b => if b = true then some (Value.bool b) else none).filterMap id).toArray.size == 0) = !bs.contains true
  | [] => rfl
  | false :: bs => by
    have := cntO bs
    simp only [List.size_toArray] at this ⊢
    simp only [List.map_cons, Bool.false_eq_true, if_false, List.filterMap_cons, id, List.contains_cons]
    rw [this]; simp
  | true :: bs => by simp

theorem lines_C12_3 : True := by
  k_with "ZsubscriptTail" => (k_here; (with_reducible show wpAny _ _ (subscriptTail _ _ (Value.ref _) (Value.int 1 _)) _ _ _); k_dflt (refine' tup_item1 (tup_base (by k_asm) (by assumption)) ?_; k_whole))
  k_with "ZsubscriptTail Name Constant ref int" => (k_here; (with_reducible show wpAny _ _ (subscriptTail _ _ (Value.ref _) (Value.int 1 _)) _ _ _); k_dflt (refine' tup_item1 (tup_base (by k_asm) (by assumption)) ?_; k_whole))
  k_with "ZcompareOp NotEq ref ref" => (k_here; k_dflt (refine' ne_nil2 (by kfm_turns) (by kfm_turns) (by kwd_inv) (by assumption) ?_; k_whole))
  k_with "ZcompareOp In none ref" => (k_here; k_dflt (refine' in_none (by kfm_turns) (by first | rfl | assumption) (by assumption) ?_; k_whole))
  k_with "ZcompareOp Eq ref ref" => (k_here; k_dflt (refine' eq_nil2 (by kfm_turns) (by kfm_turns) (by kwd_inv) (by assumption) ?_; k_whole))
  k_with "ZisTrue Compare" => (k_here; (with_reducible show wpAny _ _ (isTrue (PySem.Expr.Compare (PySem.Expr.Subscript _ _ _) [PySem.CmpOp.Eq] [PySem.Expr.Constant (PySem.Const.str _) _ _] _) _ _) _ _ _); k_dflt (refine' subeq_simz (by k_asm) (by exact rfl) (by assumption) rfl ?_ (by rfl) (by rfl) (by decide); k_whole))
  k_with "ZisTrue Compare" => (k_here; (with_reducible show wpAny _ _ (isTrue (PySem.Expr.Compare (PySem.Expr.Subscript _ _ _) [PySem.CmpOp.Eq] [PySem.Expr.Constant (PySem.Const.str _) _ _] _) _ _) _ _ _); k_dflt (refine' subeq_simz (by k_asm) (by exact rfl) (by assumption) (by assumption) ?_ (by rfl) (by rfl) (by decide); k_whole))
  trivial
theorem lawtruth_call {h : Heap} {f : Int → Option Bool} {dk : Nat} {v : Value} {t : Tree} {w : World} (ob : TreeAt h dk v t) : ∀ {A₀ : Around} {s : Shared} {base h₀ : Heap} {outer : List Env} {L : Addr} {m mg mb : Str → Option Value} {env : Env} {p : Program} {loose : List Str} {mean : ExcName → Option Value}
    {E : Value → Shared → Prop} {Q : Value → Shared → Prop} {news : List (Addr × Obj)} {dp un : Nat} {gd : Option (List Code)} {st : Addr} (C : Cx (hd.heap_1 w.params) A₀ base h₀ env outer L m p loose mean mg mb s news) (hroom : dp + 20 * dk + 40 < recursionLimit) (hun : un + 20 * dk + 40 < cLine)
    (k₀ : ∀ b o, h.get? b = some o → s.heap.get? b = some o) (St : StAt w s.heap st f)
    (ret : ∀ h' tk', Fr h₀ L h' m → News h₀ L h' news → Keeps [] s.heap h' → Q (ov (truthT f t)) { s with heap := h', toks := tk' }),
    wpAny (model PySem.Challenge.rw_pb0479_01.row.prog w) (At dp un gd env outer) (call (.ref 440) [.ref st, v]) Q E s := by
  induction ob with
  | group hx h1 h5 =>
    intro A₀ s base h₀ outer L m mg mb env p loose mean E Q news dp un gd st C hroom hun k₀ St ret
    rename_i dk x n t1 tn
    obtain ⟨B, F, X, T, N, hf, hke⟩ := C
    revert X
    k_fill
    intro X
    walk_at "ENTERC"
    intro g' L' h' tk0 cells hg1 hg2 hg3 hL F' N' Y' B' X' T' hlt
    k_cells Y'
    (try simp only [List.cons_append, List.nil_append, List.append_nil] at N')
    have F₀ := F
    have N₀ := N
    have kg : ∀ b o, s.heap.get? b = some o → g'.get? b = some o := fun b o e => hg1 b o e (fun q => nomatch q)
    have kg₀ : ∀ b o, h.get? b = some o → g'.get? b = some o := fun b o e => kg b o (k₀ b o e)
    have St' := St.keeps kg
    have hx' := kg₀ _ _ hx
    obtain ⟨skv, sd, sf⟩ := St'.ex
    have sv : (valueAt skv n).getD (.bool true) = .bool ((f n).getD true) := by rw [sf n]; cases f n <;> rfl
    clear St
    clear hg2 hg3 X N T F B hf hke
    show wpAny _ _ _ _ _ _
    k_fold
    k_steps
    all_goals (
      have z := pure_back F₀ N₀ hg1 hL F'
      have ret' : ∀ v h' tk', v = ov (truthT f (.group n)) → Fr h₀ L h' m → News h₀ L h' news → Keeps [] s.heap h' → Q v { s with heap := h', toks := tk' } := fun b h' tk' e => e ▸ ret h' tk'
      refine ret' _ _ _ ?_ z.1 z.2.1 z.2.2
      show _ = ov (if n < 5 then _ else _)
      first | (rw [if_pos (by omega)]; rfl) | (rw [if_neg (by omega)]; rfl))
  | node hx hl hw hlen hten hcs ih =>
    intro A₀ s base h₀ outer L m mg mb env p loose mean E Q news dp un gd st C hroom hun k₀ St ret
    rename_i dk x l wd tw items cs kx
    obtain ⟨B, F, X, T, N, hf, hke⟩ := C
    revert X
    k_fill
    intro X
    walk_at "ENTERC"
    intro g' L' h' tk0 cells hg1 hg2 hg3 hL F' N' Y' B' X' T' hlt
    k_cells Y'
    (try simp only [List.cons_append, List.nil_append, List.append_nil] at N')
    have F₀ := F
    have N₀ := N
    have kg : ∀ b o, s.heap.get? b = some o → g'.get? b = some o := fun b o e => hg1 b o e (fun q => nomatch q)
    have kg₀ : ∀ b o, h.get? b = some o → g'.get? b = some o := fun b o e => kg b o (k₀ b o e)
    have St' := St.keeps kg
    have hx' := kg₀ _ _ hx
    have hl' := kg₀ _ _ hl
    have hfs : ∀ a ∈ frs (env :: outer), ∃ o, g'.get? a = some o := fun a ha => let ⟨_, o, ho, _⟩ := B'.frames.mem ha; ⟨o, ho⟩
    have hwg : (wd == Str.ofString "group") = false := by rcases hw with rfl | rfl | rfl | rfl <;> decide
    clear St
    clear hg2 hg3 X N T F B hf hke
    show wpAny _ _ _ _ _ _
    k_fold
    k_steps
    refine unhalt ?_
    refine ⟨_, _, _, fun i y => ∃ c, cs[i]? = some c ∧ y = ov (truthT f c), False, rfl, by k_asm, by k_asm, Or.inl ⟨_, hl', rfl, _, rfl⟩, ?_, ?_, ?_, fun e fl S h tk hF => hF.elim⟩
    · exact Nat.le_trans (by simpa using hten) (by decide : 3 ≤ sizeLine)
    · intro g2 i v' Cc oC Ii oI Dd oD m₂ hh tk2 E' hv hC hx2 Ft Nt hE
      have hv1 : items[i]? = some v' := by simpa using hv
      have hi : i < cs.length := by rw [← hlen]; exact (List.getElem?_eq_some_iff.mp hv1).1
      have hc1 : cs[i]? = some cs[i] := List.getElem?_eq_getElem hi
      k_steps
      refine unhalt ?_
      refine' ih i v' cs[i] hv1 hc1 ⟨?B, ?F, ?X, ?T, ?N, rfl, rfl⟩ ?r ?u ?k2 ?St ?ret
      case B => k_asm
      case F => k_asm
      case X => k_asm
      case T => k_asm
      case N => k_asm
      case r => k_room
      case u => kwd_inv
      case k2 => exact fun b o q => Ft.keep b o (kg₀ b o q)
      case St => exact St'.keeps Ft.keep
      case ret =>
        intro h5 tk5 F5 N5 k5
        exact unhalt ⟨_, _, rfl, F5, N5, _, hc1, rfl⟩
    · intro D ys h3 tk3 hl3 hG3 F3 N3 hD3
      have hys : ys = (cs.map (truthT f)).map ov := ovs_of (by simpa [hlen] using hl3) hG3
      clear hG3 hcs ih hl3
      have ret' : ∀ v h' tk', v = ov (truthT f (.node wd cs)) → Fr h₀ L h' m → News h₀ L h' news → Keeps [] s.heap h' → Q v { s with heap := h', toks := tk' } := fun b h' tk' e => e ▸ ret h' tk'
      clear ret
      rcases truthL_cases f cs with ⟨hz, hn⟩ | ⟨bs, hb, hn⟩
      · subst hys
        have tt : truthT f (.node wd cs) = none := by show (truthL f cs).bind _ = _; rw [hn]; rfl
        k_steps
        have z := pure_back F₀ N₀ hg1 hL F3
        exact ret' _ _ _ (by rw [tt]; rfl) z.1 z.2.1 z.2.2
      · have hz : ((cs.map (truthT f)).map ov).toArray.any eqN = false := by rw [hb]; simp [List.any_map, eqN, ov, Function.comp_def]
        rw [hb] at hys
        have hlen2 : cs.map (truthT f) = bs.map some := hb
        have hys2 : ys = bs.map Value.bool := by rw [hys]; simp [ov, Function.comp_def]
        have tt : truthT f (.node wd cs) = joinT wd bs := by show (truthL f cs).bind _ = _; rw [hn]; rfl
        rw [hb] at hz
        subst hys2
        have hos : (bs.map Value.bool).toArray = ((bs.map some).map ov).toArray := by simp [ov, Function.comp_def]
        clear hys hb hn
        cases bs with
        | nil =>
          have hs0 : ((([] : List Bool).map Value.bool).toArray.size == 0) = true := rfl
          k_steps
          (with_reducible rename Fr _ _ _ _ => Fz)
          have z := pure_back F₀ N₀ hg1 hL Fz
          exact ret' _ _ _ (by rw [tt]; first | rfl | (rw [joinT_none (.inr (.inl (by assumption)))]; rfl)) z.1 z.2.1 z.2.2
        | cons b0 br =>
          have hs0 : (((b0 :: br).map Value.bool).toArray.size == 0) = false := by simp
          obtain ⟨pn, hpn, hp1, hp10⟩ : ∃ pn : Int, (((b0 :: br).map Value.bool).toArray.size : Int) = pn ∧ 1 ≤ pn ∧ pn ≤ 12 := ⟨_, rfl, by simp; omega, by have := congrArg List.length hlen2; simp at this hten hlen ⊢; omega⟩
          rcases hw with rfl | rfl | rfl | rfl
          · skip
            k_steps
            refine unhalt ?_
            have hos2 : ((b0 :: br).map fun b => if b = true then none else some (Value.bool b)).length = ((b0 :: br).map Value.bool).length := by simp
            have hzz : ((((b0 :: br).map fun b => if b = true then none else some (Value.bool b)).filterMap id).toArray.size == 0) = !(b0 :: br).contains false := cntA _
            refine restT_ind ((b0 :: br).map Value.bool) ((b0 :: br).map fun b => if b = true then none else some (Value.bool b)) (fun v o => ∃ b : Bool, v = .bool b ∧ o = if b = true then none else some (Value.bool b)) (by simp) hos2 ?_ ?_ ?_ ?_ ?_
            · intro i v o h1 h2
              rw [List.getElem?_map] at h1 h2
              obtain ⟨b, h3, rfl⟩ := Option.map_eq_some_iff.mp h1
              rw [h3] at h2
              cases h2
              exact ⟨b, rfl, rfl⟩
            · intro i v hv
              simpa using hv
            · exact Or.inr ⟨_, by k_mem, rfl, _, rfl⟩
            · intro v o hR ys I oI C oC Dd m₂ h tk E' R1 R0 h1 h0 hS hC hx F N off ne
              obtain ⟨b, rfl, rfl⟩ := hR
              cases b with
              | true =>
                have q0 := h0 rfl
                k_steps
              | false =>
                have q1 := h1 (.bool false) rfl
                k_steps
            · k_steps
              (with_reducible rename Fr _ _ _ _ => Fz)
              have z := pure_back F₀ N₀ hg1 hL Fz
              exact ret' _ _ _ (by rw [tt, joinT_and rfl]; rfl) z.1 z.2.1 z.2.2
          · skip
            k_steps
            refine unhalt ?_
            have hos2 : ((b0 :: br).map fun b => if b = true then some (Value.bool b) else none).length = ((b0 :: br).map Value.bool).length := by simp
            have hzz : ((((b0 :: br).map fun b => if b = true then some (Value.bool b) else none).filterMap id).toArray.size == 0) = !(b0 :: br).contains true := cntO _
            refine restT_ind ((b0 :: br).map Value.bool) ((b0 :: br).map fun b => if b = true then some (Value.bool b) else none) (fun v o => ∃ b : Bool, v = .bool b ∧ o = if b = true then some (Value.bool b) else none) (by simp) hos2 ?_ ?_ ?_ ?_ ?_
            · intro i v o h1 h2
              rw [List.getElem?_map] at h1 h2
              obtain ⟨b, h3, rfl⟩ := Option.map_eq_some_iff.mp h1
              rw [h3] at h2
              cases h2
              exact ⟨b, rfl, rfl⟩
            · intro i v hv
              simpa using hv
            · exact Or.inr ⟨_, by k_mem, rfl, _, rfl⟩
            · intro v o hR ys I oI C oC Dd m₂ h tk E' R1 R0 h1 h0 hS hC hx F N off ne
              obtain ⟨b, rfl, rfl⟩ := hR
              cases b with
              | true =>
                have q1 := h1 (.bool true) rfl
                k_steps
              | false =>
                have q0 := h0 rfl
                k_steps
            · k_steps
              (with_reducible rename Fr _ _ _ _ => Fz)
              have z := pure_back F₀ N₀ hg1 hL Fz
              exact ret' _ _ _ (by rw [tt, joinT_or (by decide) rfl]; first | rfl | simp [ov]) z.1 z.2.1 z.2.2
          · cases br with
            | nil =>
              have hpn : (([b0].map Value.bool).toArray.size : Int) = 1 := rfl
              k_steps
              (with_reducible rename Fr _ _ _ _ => Fz)
              have z := pure_back F₀ N₀ hg1 hL Fz
              exact ret' _ _ _ (by rw [tt]; rfl) z.1 z.2.1 z.2.2
            | cons b1 bs =>
              obtain ⟨pn, hpn, hp2, hp10⟩ : ∃ pn : Int, (((b0 :: b1 :: bs).map Value.bool).toArray.size : Int) = pn ∧ 2 ≤ pn ∧ pn ≤ 12 := ⟨_, rfl, by simp; omega, by have := congrArg List.length hlen2; simp at this hten hlen ⊢; omega⟩
              k_steps
              all_goals first
                | (exfalso; omega)
                | ((with_reducible rename Fr _ _ _ _ => Fz)
                   have z := pure_back F₀ N₀ hg1 hL Fz
                   exact ret' _ _ _ (by rw [tt]; first | rfl | (rw [joinT_none (.inr (.inr ⟨by decide, by simp⟩))]; rfl)) z.1 z.2.1 z.2.2)
          · k_steps
            (with_reducible rename Fr _ _ _ _ => Fz)
            have z := pure_back F₀ N₀ hg1 hL Fz
            exact ret' _ _ _ (by rw [tt]; first | rfl | (rw [joinT_none (.inr (.inl (by assumption)))]; rfl) | (rw [joinT_none (.inl rfl)]; rfl)) z.1 z.2.1 z.2.2
end
section -- C13
open PySem PySem.W PyProof.Rows PySem.Spec PySem.Calls PySem.SeqAt
theorem lines_C13_1 : True := by
  k_with_none
  k_with "Zspliced" => (k_here; k_dflt (refine' args_simG (by rfl) (by rfl) (by k_asm) (by rfl) ?_; k_whole); (try dsimp only [List.cons_append, List.nil_append]))
  k_with "Zeval Call" => (k_here; (with_reducible show wpAny _ _ (eval (PySem.Expr.Call (PySem.Expr.Name _ _) (_ :: _) [] _) _) _ _ _); k_dflt (refine' call_simG (by rfl) (by k_asm) (by k_asm) (by k_asm) (by k_is) (by k_is) (by rfl) ?_ (by rfl) (by rfl); k_whole))
  trivial
local macro_rules | `(tactic| k_inst) => `(tactic| (refine' inst_base (by k_asm) (by assumption) (by assumption)))
local macro_rules | `(tactic| kit_at) => `(tactic| (refine' kitAt_base (by k_asm) (by assumption) (by assumption)))
local macro_rules | `(tactic| k_room) => `(tactic| first | exact roomK 1 (by assumption) (by decide) | exact unitK 1 (by assumption) (by decide) | exact unit2 1 (by assumption) (by decide) | exact roomM 1 (by assumption) (by decide) | exact unitM 1 (by assumption) (by decide) | exact roomK 2 (by assumption) (by decide) | exact unitK 2 (by assumption) (by decide) | exact roomZ (by assumption) | exact roomZM (by assumption) | ((try simp only [depth_under_make, depth_under_kw, depth_in1, depth_deeper]); (try dsimp only); omega))


theorem lines_C13_2 : True := by
  k_with "ZgetAttr ref" => (k_here; k_dflt (refine' get_own (by k_asm) (by k_asm) (by k_inst) (by k_is) (by k_is) (by k_is) (by k_is) (by assumption) (by k_handed) ?_; k_whole))
  trivial
theorem any_none {K : Type} [DecidableEq K] : ∀ {kvs : List (K × Value)} {k : K}, valueAt kvs k = none → kvs.any (fun kv => kv.1 = k) = false
  | [], k, _ => rfl
  | kv :: kvs, k, h => by
    unfold valueAt at h
    rw [List.find?_cons] at h
    by_cases e : kv.1 = k
    · rw [show decide (kv.1 = k) = true by simpa using e] at h; cases h
    · rw [show decide (kv.1 = k) = false by simpa using e] at h
      have ih := any_none (kvs := kvs) (k := k) h
      simp only [List.any_cons, ih, Bool.or_false]
      simpa using e
theorem valueAt_snoc {K : Type} [DecidableEq K] {kvs : List (K × Value)} {k j : K} {v : Value} : valueAt (kvs ++ [(k, v)]) j = (valueAt kvs j).orElse fun _ => if k = j then some v else none := by
  unfold valueAt
  rw [List.find?_append]
  cases h : kvs.find? (fun kv => kv.1 = j) with
  | some x => simp
  | none =>
    by_cases e : k = j
    · simp [e]
    · simp [e]
theorem tab_put {w : World} {h h' : Heap} {otb otb' : Obj} {vals : List Value} {kvs : List (Int × Value)} {nn : Int} {p : Addr} {v : Value} {t : Tok} {kk : Nat}
    (k : ∀ b o, h.get? b = some o → o.cls = .type "tuple" → h'.get? b = some o) (hn : nn = vals.length + 1) (hl : kvs.length = vals.length) (h0 : ∀ n : Int, ¬ (1 ≤ n ∧ n ≤ vals.length) → valueAt kvs n = none)
    (h1 : ∀ n : Int, ∀ v, 1 ≤ n → vals[(n - 1).toNat]? = some v → ∃ p t k, valueAt kvs n = some (.ref p) ∧ h.get? p = some ({ cls := .type "tuple", data := .seq #[.int 0 t, v] k } : Obj))
    (hd : otb'.IsDictOf (ik w) (stored kvs nn (.ref p))) (hp : h'.get? p = some ({ cls := .type "tuple", data := .seq #[.int 0 t, v] kk } : Obj)) : TabObj w h' otb' (vals ++ [v]) := by
  have hnone : valueAt kvs nn = none := h0 nn (by omega)
  have hs : stored kvs nn (.ref p) = kvs ++ [(nn, .ref p)] := by unfold stored; rw [if_neg (by rw [any_none hnone]; simp)]
  rw [hs] at hd
  refine ⟨_, hd, by simp [hl], fun n hn' => ?_, fun n v' hn1 hv' => ?_⟩
  · rw [valueAt_snoc, h0 n (by simp at hn'; omega)]
    have : ¬ nn = n := by simp at hn'; omega
    simp [this]
  · by_cases e : (n - 1).toNat < vals.length
    · rw [List.getElem?_append_left e] at hv'
      obtain ⟨p', t', k', a, b⟩ := h1 n v' hn1 hv'
      exact ⟨p', t', k', by rw [valueAt_snoc, a]; rfl, k _ _ b rfl⟩
    · rw [List.getElem?_append_right (Nat.not_lt.mp e)] at hv'
      have e2 : (n - 1).toNat - vals.length = 0 := by
        cases q : (n - 1).toNat - vals.length with
        | zero => rfl
        | succ j => rw [q] at hv'; simp at hv'
      rw [e2] at hv'
      simp only [List.getElem?_cons_zero, Option.some.injEq] at hv'
      subst hv'
      have e3 : n = nn := by omega
      subst e3
      exact ⟨p, t, kk, by rw [valueAt_snoc, hnone]; simp, hp⟩

theorem fresh_mu {h g h' : Heap} {L' a : Addr} {o : Obj} {news' mu : List (Addr × Obj)} (N' : News g L' h' news') (hq : (a, o) ∈ news') (kg : ∀ b o, h.get? b = some o → b ∉ mu.map (·.1) → g.get? b = some o) (n : ∀ b ∈ mu.map (·.1), a ≠ b) : h.get? a = none := by
  cases e : h.get? a with
  | none => rfl
  | some o' =>
    have := kg _ _ e (fun q => n a q rfl)
    rw [(N' _ hq).2.2] at this; cases this
theorem lines_C13_3 : True := by
  k_with "ZsetItem ref int" => (k_here; k_dflt (refine' kda_set (knd := ik _) (by k_asm) (by k_asm) (by k_updF) (by assumption) (intKind_is _ _ _ _) (by assumption) ?_); intro _ _ _ N' hd'; (try dsimp only at N'); revert N' hd'; intro _ _)
  trivial
section
variable {w : World} {A₀ : Around} {s : Shared} {base h₀ : Heap} {outer : List Env} {L : Addr} {m mg mb : Str → Option Value} {env : Env} {p : Program} {loose : List Str} {mean : ExcName → Option Value}
  {E : Value → Shared → Prop} {Q : Value → Shared → Prop} {news : List (Addr × Obj)} {dp un : Nat} {gd : Option (List Code)}
theorem put_call {Sn : Heap} {sh tb : Addr} {vals : List Value} {otb : Obj} {nn : Int} {tn tg : Tok} {v : Value} {u : Obj → List (Addr × Obj)} (C : Cx (hd.heap_1 w.params) A₀ base h₀ env outer L m p loose mean mg mb s news) (hroom : dp + 4 < recursionLimit)
    (kS : ∀ b o, Sn.get? b = some o → s.heap.get? b = some o) (nS : Sn.get? tb = none) (S : ShelfAt Sn sh tb) (U : UpdF tb otb news u) (TB : TabObj w Sn otb vals) (hn : nn = vals.length + 1) (hv : vals.length ≤ 100)
    (ret : ∀ otb' S' h' tk', Snp Sn s.heap S' h' → TabObj w S' otb' (vals ++ [v]) → Fr h₀ L h' m → News h₀ L h' (u otb') → Keeps [tb] s.heap h' → Q .none { s with heap := h', toks := tk' }) :
    wpAny (model PySem.Challenge.rw_pb0479_01.row.prog w) (At dp un gd env outer) (call (.ref 327) [.ref sh, .int nn tn, .int 0 tg, v]) Q E s := by
  obtain ⟨B, F, X, T, N, hf, hke⟩ := C
  have Nm : News h₀ L s.heap [(tb, otb)] := news_sub N (fun q hq => by rw [List.mem_singleton.mp hq]; exact updF_mem U)
  revert X
  k_fill
  intro X
  refine wpAny_call ?_
  refine' enterK [(tb, otb)] B F X T Nm rfl hf hke ?ho ?hcd ?hr ?hb ?hl ?_ ?hc ?h1 ?h2 ?h3
  case ho => k_dflt k_is
  case hcd => k_dflt k_is
  case hr => k_room
  case hb => exact BindsTo.of_eq rfl
  case hl => exact locs rfl
  case hc => decide
  case h1 => rfl
  case h2 => rfl
  case h3 => rfl
  intro g' L' h' hg1 hg2 hg3 hL F' N' B' X' T' hlt
  have kg : ∀ b o, Sn.get? b = some o → g'.get? b = some o := fun b o e => hg1 b o (kS b o e) (fun q => by
    rw [List.mem_singleton.mp q, nS] at e; cases e)
  obtain ⟨dx, es, q, i1, i2, j1, j2, j3, j4⟩ := (S.keeps kg).w
  obtain ⟨kvs, tbd, tbl, tb0, tb1⟩ := TB.ex
  have hz : kvs.length ≤ sizeLine := by rw [tbl]; exact Nat.le_trans hv (by decide)
  have F₀ := F
  have N₀ := N
  show wpAny _ _ _ _ _ _
  k_fold
  clear N F Nm
  k_steps
  (with_reducible rename News _ _ _ _ => Nz)
  (with_reducible rename Fr _ _ _ _ => Fz)
  (with_reducible rename Obj.IsDictOf _ _ _ => hdz)
  have kp := keeps_back (mu := [(tb, otb)]) Fz hg1 hL
  have hsn := snp_keeps kp kS (fun a ha => by rw [List.mem_singleton.mp ha]; exact nS)
  have hq := hlt _ (.head _)
  refine ret _ _ _ _ (snp_snap hsn) (tab_put (otb := otb) (fun b o e _ => snap_old e (hsn b o e)) hn tbl tb0 tb1 hdz (snap_new ?_ (Nz _ (.head _)).1)) (fr_keeps F₀ kp ?_) (news_updF N₀ U kp (Nz _ (.tail _ (.head _))).1) kp
  · exact fresh_mu (mu := [(tb, otb)]) Nz (.head _) hg1 (fun a ha => by
      rw [List.mem_singleton.mp ha]
      k_ne)
  · exact fun a ha => by rw [List.mem_singleton.mp ha]; exact (N₀ _ (updF_mem U)).2
end

theorem over {x : Str} {a b : Option Value} {f : Str → Option Value} : (fun y => if y = x then a else if y = x then b else f y) = fun y => if y = x then a else f y := by
  funext y
  by_cases e : y = x
  · rw [if_pos e, if_pos e]
  · rw [if_neg e, if_neg e, if_neg e]
theorem lines_C13_4 : True := by
  k_with "Zexec While Compare" => (k_here; (with_reducible show wpAny _ _ (exec (Stmt.While _ _ _ _) _) _ _ _); (refine halt ?_))
  k_with "ZcompareOp In int ref" => (k_here; k_dflt (refine' kda_in (knd := ik _) (by k_asm) (by k_mem) (by assumption) (by assumption) (intKind_is _ _ _ _) _ (by assumption) ?_; k_whole))
  trivial
section
variable {w : World} {A₀ : Around} {s : Shared} {base h₀ : Heap} {outer : List Env} {L : Addr} {m mg mb : Str → Option Value} {env : Env} {p : Program} {loose : List Str} {mean : ExcName → Option Value}
  {E : Value → Shared → Prop} {Q : Value → Shared → Prop} {news : List (Addr × Obj)} {dp un : Nat} {gd : Option (List Code)}
theorem add_call {Sn : Heap} {sh tb : Addr} {vals : List Value} {otb : Obj} {v : Value} {u : Obj → List (Addr × Obj)} (C : Cx (hd.heap_1 w.params) A₀ base h₀ env outer L m p loose mean mg mb s news) (hroom : dp + 6 < recursionLimit)
    (kS : ∀ b o, Sn.get? b = some o → s.heap.get? b = some o) (nS : Sn.get? tb = none) (S : ShelfAt Sn sh tb) (U : UpdF tb otb news u) (TB : TabObj w Sn otb vals) (hv : vals.length ≤ 100) (lo : (tb == sysModules) = false)
    (ret : ∀ x otb' S' h' tk', Snp Sn s.heap S' h' → RefAt S' x (vals.length + 1) → TabObj w S' otb' (vals ++ [v]) → Fr h₀ L h' m → News h₀ L h' (u otb') → Keeps [tb] s.heap h' → Q (.ref x) { s with heap := h', toks := tk' }) :
    wpAny (model PySem.Challenge.rw_pb0479_01.row.prog w) (At dp un gd env outer) (call (.ref 334) [.ref sh, v]) Q E s := by
  obtain ⟨B, F, X, T, N, hf, hke⟩ := C
  have Nm : News h₀ L s.heap [(tb, otb)] := news_sub N (fun q hq => by rw [List.mem_singleton.mp hq]; exact updF_mem U)
  revert X
  k_fill
  intro X
  refine wpAny_call ?_
  refine' enterK [(tb, otb)] B F X T Nm rfl hf hke ?ho ?hcd ?hr ?hb ?hl ?_ ?hc ?h1 ?h2 ?h3
  case ho => k_dflt k_is
  case hcd => k_dflt k_is
  case hr => k_room
  case hb => exact BindsTo.of_eq rfl
  case hl => exact locs rfl
  case hc => decide
  case h1 => rfl
  case h2 => rfl
  case h3 => rfl
  intro g' L' h' hg1 hg2 hg3 hL F' N' B' X' T' hlt
  have kg : ∀ b o, Sn.get? b = some o → g'.get? b = some o := fun b o e => hg1 b o (kS b o e) (fun q => by
    rw [List.mem_singleton.mp q, nS] at e; cases e)
  obtain ⟨dx, es, q, i1, i2, j1, j2, j3, j4⟩ := (S.keeps kg).w
  obtain ⟨kvs, tbd, tbl, tb0, tb1⟩ := TB.ex
  have hz : kvs.length ≤ sizeLine := by rw [tbl]; exact Nat.le_trans hv (by decide)
  have F₀ := F
  have N₀ := N
  show wpAny _ _ _ _ _ _
  k_fold
  clear N F Nm
  k_steps
  refine unhalt ?_
  (with_reducible rename Fr _ _ _ _ => F9)
  (with_reducible rename News _ _ _ _ => N9)
  refine While_inv (n₀ := vals.length + 1) (fun n mm nw => ∃ (i : Int) (ti : Tok), mm = (fun y => if y = Str.ofString "number" then some (Value.int i ti) else List.lookup y [("value", v), ("self", Value.ref sh)]) ∧ nw = [(tb, otb)] ∧ 1 ≤ i ∧ i + n = vals.length + 2 ∧ 1 ≤ n) F9 N9 ⟨1, _, rfl, rfl, by omega, by omega, by omega⟩ ?_
  clear N9 F9
  rintro n mm nw h1 tk1 F9 N9 ⟨i, ti, rfl, rfl, hi1, hin, hn1⟩
  change wpAny _ _ _ (fun b s₂ => WhlIf b _ _) _ _
  by_cases hle : i ≤ vals.length
  · obtain ⟨pp, tp, kp, hva, _⟩ := tb1 i vals[(i - 1).toNat] hi1 (List.getElem?_eq_getElem (by omega))
    have hin2 : (valueAt kvs i).isSome = true := by rw [hva]; rfl
    k_steps
    (with_reducible rename Fr _ _ _ _ => Fz)
    (with_reducible rename News _ _ _ _ => Nz)
    exact WhileStep.intro (n' := n - 1) Fz Nz (by omega) ⟨i + 1, _, over, rfl, by omega, by omega, by omega⟩
  · have hin2 : (valueAt kvs i).isSome = false := by rw [tb0 i (by omega)]; rfl
    k_steps
    (with_reducible rename Fr _ _ _ _ => Fz)
    (with_reducible rename News _ _ _ _ => Nz)
    (with_reducible rename Obj.IsDictOf _ _ _ => hdz)
    have hi : i = vals.length + 1 := by omega
    subst hi
    have kp := keeps_back (mu := [(tb, otb)]) Fz hg1 hL
    have hsn := snp_keeps kp kS (fun a ha => by rw [List.mem_singleton.mp ha]; exact nS)
    have hq := hlt _ (.head _)
    have fr : ∀ {a : Addr} {o : Obj}, (a, o) ∈ _ → (∀ b ∈ [tb], a ≠ b) → s.heap.get? a = none := fun {a o} hm n => fresh_mu (mu := [(tb, otb)]) (a := a) (o := o) Nz hm hg1 n
    refine ret _ _ _ _ _ (snp_snap hsn) ⟨⟨_, _, _, _, _, ⟨snap_new (fr (.head _) ?_) (Nz _ (.head _)).1, snap_new (fr (.tail _ (.head _)) ?_) (Nz _ (.tail _ (.head _))).1⟩, rfl, rfl⟩⟩
      (tab_put (otb := otb) (fun b o e _ => snap_old e (hsn b o e)) rfl tbl tb0 tb1 hdz (snap_new (fr (.tail _ (.tail _ (.head _))) ?_) (Nz _ (.tail _ (.tail _ (.head _)))).1)) (fr_keeps F₀ kp ?_) (news_updF N₀ U kp (Nz _ (.tail _ (.tail _ (.tail _ (.head _))))).1) kp
    · exact fun a ha => by rw [List.mem_singleton.mp ha]; k_ne
    · exact fun a ha => by rw [List.mem_singleton.mp ha]; k_ne
    · exact fun a ha => by rw [List.mem_singleton.mp ha]; k_ne
    · exact fun a ha => by rw [List.mem_singleton.mp ha]; exact (N₀ _ (updF_mem U)).2
end
end
section -- S4
open PySem PySem.W PyProof.Rows PySem.Spec PySem.Calls
/-- the snapshot at h: what Sn held, what is new since hs; not the frame, not X -/
noncomputable def cmp (Sn hs h : Heap) (L' : Addr) (X : List Addr) : Heap := hideAll (snap Sn hs h) (L' :: X)
section
variable {Sn hs g h S1 : Heap} {L' : Addr} {X X1 : List Addr} {m : Str → Option Value} {nw : List (Addr × Obj)}
theorem cmp_sub {b : Addr} {o : Obj} (e : (cmp Sn hs h L' X).get? b = some o) : h.get? b = some o := snap_sub (of_hideAll _ e)
theorem cmp_new {b : Addr} {o : Obj} (e : h.get? b = some o) (n : hs.get? b = none) (hL : b ≠ L') (hX : b ∉ X) : (cmp Sn hs h L' X).get? b = some o :=
  hideAll_get _ (snap_new n e) fun q => by
    rcases List.mem_cons.mp q with q | q
    · exact hL q
    · exact hX q
theorem Bld.cmp (bl : Bld Sn hs g L' X1 S1) (F : Fr g L' h m) (in1 : ∀ b o, S1.get? b = some o → h.get? b = some o) (nX : ∀ a ∈ X, S1.get? a = none) :
    Bld Sn hs g L' X (cmp Sn hs h L' X) ∧ ∀ b o, S1.get? b = some o → (Mine.cmp Sn hs h L' X).get? b = some o := by
  have up : ∀ b o, S1.get? b = some o → (Mine.cmp Sn hs h L' X).get? b = some o := fun b o e => hideAll_get _ (bl.up in1 b o e) fun q => by
    rcases List.mem_cons.mp q with rfl | q
    · rw [bl.offL] at e; cases e
    · rw [nX b q] at e; cases e
  refine ⟨⟨fun b o e => up b o (bl.old b o e), fun b o e => ?_, laid (fun b o e => cmp_sub e) F.keep, hideAll_none _ (.head _), fun a ha => hideAll_none _ (.tail _ ha)⟩, up⟩
  exact snap_cases (of_hideAll _ e)
theorem news_cmp (F : Fr g L' h m) (N : News g L' h nw) : News g L' h (nw ++ darkOf (Mine.cmp Sn hs h L' X) g) := by
  intro p hp
  rcases List.mem_append.mp hp with hp | hp
  · exact N p hp
  · obtain ⟨e1, e2⟩ := of_dark hp
    refine ⟨cmp_sub e1, fun q => ?_, e2⟩
    have z : (Mine.cmp Sn hs h L' X).get? L' = none := hideAll_none _ (.head _)
    have e3 := e1
    rw [q] at e3
    rw [z] at e3; cases e3
end
theorem five_ne {x a b c d e : Addr} (h1 : x ≠ a) (h2 : x ≠ b) (h3 : x ≠ c) (h4 : x ≠ d) (h5 : x ≠ e) : ∀ y ∈ [a, b, c, d, e], x ≠ y := by
  intro y hy
  simp only [List.mem_cons, List.not_mem_nil, or_false] at hy
  rcases hy with rfl | rfl | rfl | rfl | rfl <;> assumption
theorem not_mem_of_ne {x : Addr} {l : List Addr} (h : ∀ y ∈ l, x ≠ y) : x ∉ l := fun q => h x q rfl
theorem five_all {P : Addr → Prop} {a b c d e : Addr} (h1 : P a) (h2 : P b) (h3 : P c) (h4 : P d) (h5 : P e) : ∀ y ∈ [a, b, c, d, e], P y := by
  intro y hy
  simp only [List.mem_cons, List.not_mem_nil, or_false] at hy
  rcases hy with rfl | rfl | rfl | rfl | rfl <;> assumption
theorem news5 {g h : Heap} {L a b c d e : Addr} {oa ob oc od oe : Obj} {dk : List (Addr × Obj)} (ha : h.get? a = some oa ∧ a ≠ L ∧ g.get? a = none) (hb : h.get? b = some ob ∧ b ≠ L ∧ g.get? b = none) (hc : h.get? c = some oc ∧ c ≠ L ∧ g.get? c = none)
    (hd : h.get? d = some od ∧ d ≠ L ∧ g.get? d = none) (he : h.get? e = some oe ∧ e ≠ L ∧ g.get? e = none) (hk : ∀ p ∈ dk, h.get? p.1 = some p.2 ∧ p.1 ≠ L ∧ g.get? p.1 = none) : News g L h ((a, oa) :: (b, ob) :: (c, oc) :: (d, od) :: (e, oe) :: dk) := by
  intro p hp
  simp only [List.mem_cons] at hp
  rcases hp with rfl | rfl | rfl | rfl | rfl | hp
  · exact ha
  · exact hb
  · exact hc
  · exact hd
  · exact he
  · exact hk p hp
theorem Bld.weak {Sn hs g S2 : Heap} {L' : Addr} {X X' : List Addr} (b : Bld Sn hs g L' X S2) (k : ∀ a ∈ X', a ∈ X) : Bld Sn hs g L' X' S2 := ⟨b.old, b.new, b.lay, b.offL, fun a ha => b.offX a (k a ha)⟩
theorem nameAt_of {S : Heap} {x dx : Addr} {es : List DictEntry} {n : Nat} {t : Tok} {u : Str} (a : S.get? x = some (instObj 183 dx)) (b : S.get? dx = some (dictOf es n)) (c : getL (Str.ofString "text") es = some (some (.str u t))) : NameAt S x u := ⟨⟨_, _, _, _, ⟨a, b⟩, c⟩⟩
theorem refAt_of {S : Heap} {x dx : Addr} {es : List DictEntry} {k : Nat} {n : Int} {tn tg : Tok} (a : S.get? x = some (instObj 254 dx)) (b : S.get? dx = some (dictOf es k)) (c : getL (Str.ofString "number") es = some (some (.int n tn))) (d : getL (Str.ofString "generation") es = some (some (.int 0 tg))) : RefAt S x n := ⟨⟨_, _, _, _, _, ⟨a, b⟩, c, d⟩⟩

/-- the end of a turn of a loop over a range whose ledger is free -/
def FreeEnd (h₀ : Heap) (L I : Addr) (own : List (Addr × Obj)) (J : (Str → Option Value) → List (Addr × Obj) → Prop) (s₁ : Shared) (Q : Flow → Shared → Prop) (f : Flow) (s₂ : Shared) : Prop :=
  match f with
  | .ret v => Q (.ret v) s₂
  | .brk => Q .next s₂
  | _ => ∃ h' tk m' nx', s₂ = { s₁ with heap := h', toks := tk } ∧ Fr h₀ L h' m' ∧ News h₀ L h' (own ++ nx') ∧ (∀ p ∈ nx', p.1 ≠ I) ∧ J m' nx'
theorem range_free {prog : Program} {w : World} {A : Around} {E : Value → Shared → Prop} {s : Shared} {env : Env} {h₀ : Heap} {x : Str} {body : List Stmt} {Q : Flow → Shared → Prop} {r : Addr} {a₀ b₀ : Int} {t₀ u₀ v₀ : Tok} {n : Nat} {m₀ : Str → Option Value} {news : List (Addr × Obj)} (J : Nat → (Str → Option Value) → List (Addr × Obj) → Prop)
    (hh : A.handled = none) (hr : IsRange s.heap r a₀ b₀ 1 t₀ u₀ v₀) (hsmall : Builtin.Range.small a₀ b₀ 1 = true) (hn : Builtin.Range.rangeSize a₀ b₀ 1 = (n : Int)) (F : Fr h₀ env.locals s.heap m₀) (N : News h₀ env.locals s.heap news) (hj : J 0 m₀ news)
    (turn : ∀ (i : Nat) t m₁ nx h tk I own, i < n → J i m₁ nx → h₀.get? I = none → (∀ p ∈ own, p.1 = I) → (∀ p ∈ nx, p.1 ≠ I) → (∃ o, (I, o) ∈ own) → Fr h₀ env.locals h (fun y => if y = x then some (.int (a₀ + i) t) else m₁ y) → News h₀ env.locals h (own ++ nx) →
      wpAny (model prog w) A (execs body env) (FreeEnd h₀ env.locals I own (J (i + 1)) { s with heap := h, toks := tk } Q) E { s with heap := h, toks := tk })
    (done : ∀ m₁ nx h tk, J n m₁ nx → Fr h₀ env.locals h m₁ → News h₀ env.locals h nx → Q .next { s with heap := h, toks := tk }) :
    wpAny (model prog w) A (pyIter (.ref r)) (fun it s₂ => LoopAtV prog w A h₀ env x body Q E it s₂) E s := by
  refine wpAny_pyIter_range hr hsmall ?_
  have W : Walks prog w A s.heap.objs.size [s.heap.objs.size] [s.heap.objs.size] n (fun i v => i < n ∧ ∃ t, v = .int (a₀ + i * 1) t)
      (fun i h => IsRangeIter h s.heap.objs.size (a₀ + (i : Nat) * 1) ((n : Int) - (i : Nat)) 1) := (Walks.range hh _ a₀ 1 n).bound
  have hI₀ : h₀.get? s.heap.objs.size = none := next_is_new F
  refine ⟨_, _, _, n, _, _, m₀, news, J, rfl, W, ?_, ?_, ?_, (by show IsRangeIter _ _ _ _ _; rw [hn]; simpa using Heap.get?_push_size _ rfl), F.push _, (fun p hp => ⟨Heap.get?_push_of_some _ (N p hp).1, (N p hp).2⟩), hj, ?_, ?_⟩
  · intro hm
    exact absurd F.ns.lt ((List.mem_singleton.mp hm) ▸ Nat.lt_irrefl _)
  · intro b hb
    rw [List.mem_singleton.mp hb]
    exact hI₀
  · intro p hp hI
    exact absurd (Heap.lt_size (N p hp).1) ((List.mem_singleton.mp hI) ▸ Nat.lt_irrefl _)
  · rintro i v m₁ nx s₁ own ⟨h, tk, rfl⟩ hi ⟨_, t, rfl⟩ hJ hoff hown _ hall hst F' N'
    simp only [Int.mul_one] at F'
    have hst' : IsRangeIter h s.heap.objs.size _ _ _ := hst
    refine wpAny_mono (turn i t m₁ nx h tk s.heap.objs.size own hi hJ hI₀ (fun p hp => List.mem_singleton.mp (hown p hp)) (fun p hp q => hoff p hp (by rw [q]; exact .head _)) ⟨_, hall _ (.head _) hI₀ _ hst'⟩ F' N') (fun f s₂ q => ?_) fun _ _ e => e
    have fin : (∃ h' tk' m' nx', s₂ = { ({ s with heap := h, toks := tk } : Shared) with heap := h', toks := tk' } ∧ Fr h₀ env.locals h' m' ∧ News h₀ env.locals h' (own ++ nx') ∧ (∀ p ∈ nx', p.1 ≠ s.heap.objs.size) ∧ J (i + 1) m' nx') →
        LoopStepU h₀ env.locals [s.heap.objs.size] own (J (i + 1)) { s with heap := h, toks := tk } .next s₂ := by
      rintro ⟨h', tk', m', nx', e, F₂, N₂, hn', hJ'⟩
      exact ⟨rfl, h', tk', m', nx', e, F₂, N₂, fun p hp z => hn' p hp (List.mem_singleton.mp z), hJ'⟩
    cases f with
    | ret v => exact .ret q
    | brk => exact .brk q
    | next => exact .next (fin q)
    | cont => exact .cont (fin q)
  · rintro h' tk m' news' F' N' _ hJ
    exact done m' news' h' tk hJ F' N'
end
section -- S5
open PySem PySem.W PyProof.Rows PySem.Spec PySem.Calls
inductive ItV (S : Heap) (fs : Int → Option Bool) : Value → Option Bool → Prop
  | ref {x : Addr} {n : Int} : RefAt S x n → (1 ≤ n ∧ n ≤ 5 ∨ n = 60) → ItV S fs (.ref x) (fs n)
  | none : ItV S fs .none none
  | seven {i : Int} {t : Tok} : ItV S fs (.int i t) none
theorem ItV.keeps {S S' : Heap} {fs : Int → Option Bool} {v : Value} {g : Option Bool} (a : ItV S fs v g) (k : ∀ b o, S.get? b = some o → S'.get? b = some o) : ItV S' fs v g := by
  cases a with
  | ref a b => exact .ref (a.keeps k) b
  | none => exact .none
  | seven => exact .seven
theorem stored_none {K : Type} [DecidableEq K] {kvs : List (K × Value)} {k : K} {v : Value} (h : valueAt kvs k = none) : stored kvs k v = kvs ++ [(k, v)] := by
  unfold stored; rw [if_neg (by rw [any_none h]; simp)]
def HeadQ (S : Heap) (kvs : List (Str × Value)) (wd : Str) (oc : Option Value) : Prop := kvs.length ≤ 3 ∧ (∃ tx, valueAt kvs (Str.ofString "Type") = some (.ref tx) ∧ NameAt S tx (Str.ofString "OCMD")) ∧ valueAt kvs (Str.ofString "VE") = none ∧ valueAt kvs (Str.ofString "OCGs") = oc ∧
  ((valueAt kvs (Str.ofString "P") = none ∧ wd = Str.ofString "") ∨ ∃ y, valueAt kvs (Str.ofString "P") = some (.ref y) ∧ NameAt S y wd)
theorem HeadQ.keeps {S S' : Heap} {kvs : List (Str × Value)} {wd : Str} {oc : Option Value} (h : HeadQ S kvs wd oc) (k : ∀ b o, S.get? b = some o → S'.get? b = some o) : HeadQ S' kvs wd oc := by
  obtain ⟨a, ⟨tx, b, c⟩, d, e, f⟩ := h
  exact ⟨a, ⟨tx, b, c.keeps k⟩, d, e, f.imp id fun ⟨y, q, r⟩ => ⟨y, q, r.keeps k⟩⟩
theorem HeadQ.snoc {S : Heap} {kvs : List (Str × Value)} {wd : Str} {v : Value} (h : HeadQ S kvs wd none) (hl : kvs.length ≤ 2) : HeadQ S (kvs ++ [(Str.ofString "OCGs", v)]) wd (some v) := by
  obtain ⟨a, ⟨tx, b, c⟩, d, e, f⟩ := h
  refine ⟨by simp; omega, ⟨tx, by rw [valueAt_snoc, b]; rfl, c⟩, by rw [valueAt_snoc, d]; rfl, by rw [valueAt_snoc, e]; rfl, f.imp (fun ⟨q, r⟩ => ⟨by rw [valueAt_snoc, q]; rfl, r⟩) fun ⟨y, q, r⟩ => ⟨y, by rw [valueAt_snoc, q]; rfl, r⟩⟩
/-- the members that a head tells, now and as the table grows -/
def MemE (w : World) (S : Heap) (vals : List Value) (fs : Int → Option Bool) (oc : Option Value) (bs : List Bool) : Prop := ∀ kvs, valueAt kvs (Str.ofString "OCGs") = oc → ∀ vals', vals <+: vals' → vals'.length ≤ 45 → MemOf w S vals' fs kvs bs
section
variable {w : World} {S : Heap} {otb : Obj} {vals vals' : List Value} {fs : Int → Option Bool}
theorem Tab.fontG {x : Addr} (T : Tab w S otb vals) (p : vals <+: vals') (R : RefAt S x 5) : IsG w S vals' (.ref x) false := by
  obtain ⟨d, tx, kvs, u, a, b, c, e, z⟩ := T.font
  exact IsG.dict R (by decide) (pre_get p a) b c e z
theorem Tab.fontF {x : Addr} (T : Tab w S otb vals) (p : vals <+: vals') (R : RefAt S x 5) : ∃ d o, Fet S vals' (.ref x) (.ref d) ∧ S.get? d = some o ∧ o.cls = .type "dict" := by
  obtain ⟨d, tx, kvs, u, a, b, c, e, z⟩ := T.font
  obtain ⟨o, h1, h2⟩ := dctAt_obj b
  exact ⟨d, o, .hit R (by decide) (pre_get p a), h1, h2⟩
theorem ItV.item {v : Value} {g : Option Bool} (I : ItV S fs v g) (T : Tab w S otb vals) (hf : ∀ n : Int, ¬ (1 ≤ n ∧ n ≤ 4) → fs n = Option.none) (p : vals <+: vals') (hl : vals'.length ≤ 45) : ItemSt w S vals' fs v g := by
  cases I with
  | none => exact .no (.plain .none)
  | seven => exact .no (.plain .int)
  | @ref x n R hn =>
    by_cases h4 : 1 ≤ n ∧ n ≤ 4
    · exact .group R (T.isG p R h4.1 (by omega))
    · rw [hf n h4]
      rcases hn with hn | hn
      · have : n = 5 := by omega
        subst this
        exact .no (T.fontG p R)
      · exact .no (.miss R (by omega))
theorem memE_none (w : World) (S : Heap) (vals : List Value) (fs : Int → Option Bool) : MemE w S vals fs none [] := fun kvs e vals' _ _ => .none (v := .none) (r := .none) (by rw [e]; rfl) (.plain .none) (.plain .none) (.inl rfl)
theorem memE_ref {x : Addr} {n : Int} (T : Tab w S otb vals) (hf : ∀ n : Int, ¬ (1 ≤ n ∧ n ≤ 4) → fs n = none) (R : RefAt S x n) (hn : 1 ≤ n ∧ n ≤ 5 ∨ n = 60) : MemE w S vals fs (some (.ref x)) ([fs n].filterMap id) := by
  intro kvs e vals' p hl
  by_cases h4 : 1 ≤ n ∧ n ≤ 4
  · exact .group (by rw [e]; rfl) R (T.isG p R h4.1 (by omega))
  · rw [hf n h4]
    rcases hn with hn | hn
    · have : n = 5 := by omega
      subst this
      obtain ⟨d, o, h1, h2, h3⟩ := T.fontF p R
      exact .none (v := .ref x) (by rw [e]; rfl) (T.fontG p R) h1 (.inr ⟨d, o, rfl, h2, h3⟩)
    · exact .none (v := .ref x) (by rw [e]; rfl) (.miss R (by omega)) (.miss R (by omega)) (.inl rfl)
theorem memE_list {l : Addr} {vs : List Value} {gs : List (Option Bool)} {c : Nat} (T : Tab w S otb vals) (hf : ∀ n : Int, ¬ (1 ≤ n ∧ n ≤ 4) → fs n = none) (hl : S.get? l = some (W.listOf vs.toArray c)) (hv : vs.length ≤ 10) (hg : gs.length = vs.length)
    (hi : ∀ (j : Nat) v g, vs[j]? = some v → gs[j]? = some g → ItV S fs v g) : MemE w S vals fs (some (.ref l)) (gs.filterMap id) := by
  intro kvs e vals' p hle
  exact .items (v := .ref l) (by rw [e]; rfl) (.plain (.list hl rfl)) (.plain (.list hl rfl)) ⟨_, hl, rfl, _, rfl⟩ (Nat.le_trans (by simpa using hv) (by decide : 10 ≤ sizeLine)) hg fun j v ob h1 h2 => (hi j v ob h1 h2).item T hf p hle
theorem memE_shelf {x l : Addr} {n : Int} {vs : List Value} {gs : List (Option Bool)} {c : Nat} (T : Tab w S otb vals) (hf : ∀ n : Int, ¬ (1 ≤ n ∧ n ≤ 4) → fs n = none) (R : RefAt S x n) (h1 : 1 ≤ n) (hx : vals[(n - 1).toNat]? = some (.ref l)) (hl : S.get? l = some (W.listOf vs.toArray c)) (hv : vs.length ≤ 10) (hg : gs.length = vs.length)
    (hi : ∀ (j : Nat) v g, vs[j]? = some v → gs[j]? = some g → ItV S fs v g) : MemE w S vals fs (some (.ref x)) (gs.filterMap id) := by
  intro kvs e vals' p hle
  exact .items (v := .ref x) (by rw [e]; rfl) (.list R h1 (pre_get p hx) hl rfl) (.hit R h1 (pre_get p hx)) ⟨_, hl, rfl, _, rfl⟩ (Nat.le_trans (by simpa using hv) (by decide : 10 ≤ sizeLine)) hg fun j v ob h1 h2 => (hi j v ob h1 h2).item T hf p hle
theorem pol_none (bs : List Bool) : pol (Str.ofString "") bs = pol (Str.ofString "AnyOn") bs := by
  unfold pol
  rfl
/-- what a value tells, now and as the table grows -/
def StateE (w : World) (S : Heap) (vals : List Value) (fs : Int → Option Bool) (v : Value) (o : Option Bool) : Prop := ∀ vals', vals <+: vals' → vals'.length ≤ 45 → StateOf w S vals' fs v o
/-- a head of a membership: what it tells whoever comes by it, and its type -/
structure HeadE (w : World) (S : Heap) (vals : List Value) (fs : Int → Option Bool) (d : Addr) (o : Option Bool) : Prop where
  told : ∀ S', (∀ b o, S.get? b = some o → S'.get? b = some o) → ∀ vals', vals <+: vals' → vals'.length ≤ 45 → ∀ v, IsG w S' vals' v false → Fet S' vals' v (.ref d) → StateOf w S' vals' fs v o
  ocmd : ∃ kvs tx, DctAt (sk w) S d kvs ∧ (valueAt kvs (Str.ofString "Type")).getD .none = .ref tx ∧ NameAt S tx (Str.ofString "OCMD")
theorem HeadE.keeps {S' : Heap} {d : Addr} {o : Option Bool} (a : HeadE w S vals fs d o) (k : ∀ b o, S.get? b = some o → S'.get? b = some o) : HeadE w S' vals fs d o :=
  ⟨fun S2 k2 v' p l v hg hf => a.told S2 (fun b o e => k2 b o (k b o e)) v' p l v hg hf, let ⟨kvs, tx, x, y, z⟩ := a.ocmd; ⟨kvs, tx, x.keeps k, y, z.keeps k⟩⟩
theorem HeadE.grow {d : Addr} {o : Option Bool} (a : HeadE w S vals fs d o) (p : vals <+: vals') : HeadE w S vals' fs d o := ⟨fun S2 k2 v' q l v hg hf => a.told S2 k2 v' (List.IsPrefix.trans p q) l v hg hf, a.ocmd⟩
theorem HeadE.self {d : Addr} {o : Option Bool} (a : HeadE w S vals fs d o) : StateE w S vals fs (.ref d) o := by
  intro v' p l
  obtain ⟨kvs, tx, D, _, _⟩ := a.ocmd
  obtain ⟨od, h1, h2⟩ := dctAt_obj D
  exact a.told S (fun _ _ e => e) v' p l _ (.plain (.dict h1 h2)) (.plain (.dict h1 h2))
theorem HeadE.place {d x : Addr} {n : Int} {o : Option Bool} (a : HeadE w S vals fs d o) (R : RefAt S x n) (h1 : 1 ≤ n) (hx : vals[(n - 1).toNat]? = some (.ref d)) : StateE w S vals fs (.ref x) o := by
  intro v' p l
  obtain ⟨kvs, tx, D, b, c⟩ := a.ocmd
  exact a.told S (fun _ _ e => e) v' p l _ (.dict R h1 (pre_get p hx) D b c rfl) (.hit R h1 (pre_get p hx))
theorem headE_told {d : Addr} {od : Obj} {kvs : List (Str × Value)} {wd : Str} {oc : Option Value} {bs : List Bool} (hd : S.get? d = some od) (ho : od.IsDictOf (sk w) kvs) (lo : (d == sysModules) = false) (H : HeadQ S kvs wd oc) (M : MemE w S vals fs oc bs) : HeadE w S vals fs d (some (pol wd bs)) := by
  obtain ⟨a, ⟨tx, b, c⟩, e, f, g⟩ := H
  have D : DctAt (sk w) S d kvs := ⟨Heap.dictOf_iff.mpr ⟨_, hd, ho⟩, lo⟩
  refine ⟨?_, kvs, tx, D, by rw [b]; rfl, c⟩
  intro S' k vals' p hl v hg hF
  rcases g with ⟨g1, rfl⟩ | ⟨y, g1, g2⟩
  · rw [pol_none]
    exact .told hg hF (D.keeps k) (by rw [b]; rfl) (c.keeps k) (by rw [e]; rfl) (px := .none) (pr := .none) (by rw [g1]; rfl) (.plain .none) (.oth .none) ((M kvs f vals' p hl).keeps k)
  · exact .told hg hF (D.keeps k) (by rw [b]; rfl) (c.keeps k) (by rw [e]; rfl) (px := .ref y) (pr := .ref y) (by rw [g1]; rfl) (.plain (g2.keeps k).notRef) (.name (g2.keeps k)) ((M kvs f vals' p hl).keeps k)
theorem headE_tree {d : Addr} {od : Obj} {kvs : List (Str × Value)} {wd wd' : Str} {oc : Option Value} {vv : Value} {k : Nat} {cs : List Tree} (hd : S.get? d = some od) (ho : od.IsDictOf (sk w) (kvs ++ [(Str.ofString "VE", vv)])) (lo : (d == sysModules) = false) (H : HeadQ S kvs wd oc) (O : ObjE w S vals (k + 1) vv (.node wd' cs)) (hk : k + 1 ≤ 20) : HeadE w S vals fs d (truthT fs (.node wd' cs)) := by
  obtain ⟨a, ⟨tx, b, c⟩, e, f, g⟩ := H
  have D : DctAt (sk w) S d (kvs ++ [(Str.ofString "VE", vv)]) := ⟨Heap.dictOf_iff.mpr ⟨_, hd, ho⟩, lo⟩
  refine ⟨?_, _, tx, D, by rw [valueAt_snoc, b]; rfl, c⟩
  intro S' kk vals' p hl v hg hF
  exact .tree hg hF (D.keeps kk) (by rw [valueAt_snoc, b]; rfl) (c.keeps kk) (by rw [valueAt_snoc, e]; rfl) ((O vals' p hl).keeps kk) hk
end
end
section -- N1
open PySem PySem.W PyProof.Rows PySem.Spec PySem.Calls PySem.SeqAt
theorem lines_N1_1 : True := by
  k_with_none
  trivial
local macro_rules | `(tactic| k_inst) => `(tactic| (refine' inst_base (by k_asm) (by assumption) (by assumption)))
local macro_rules | `(tactic| kit_at) => `(tactic| (refine' kitAt_base (by k_asm) (by assumption) (by assumption)))
local macro_rules | `(tactic| k_room) => `(tactic| first | exact roomK 1 (by assumption) (by decide) | exact unitK 1 (by assumption) (by decide) | exact unit2 1 (by assumption) (by decide) | exact roomM 1 (by assumption) (by decide) | exact unitM 1 (by assumption) (by decide) | exact roomK 2 (by assumption) (by decide) | exact unitK 2 (by assumption) (by decide) | exact roomZ (by assumption) | exact roomZM (by assumption) | ((try simp only [depth_under_make, depth_under_kw, depth_in1, depth_deeper]); (try dsimp only); omega))


theorem news_two {g h : Heap} {L a b : Addr} {oa ob : Obj} {news : List (Addr × Obj)} (ha : h.get? a = some oa ∧ a ≠ L ∧ g.get? a = none) (hb : h.get? b = some ob ∧ b ≠ L ∧ g.get? b = none) (hn : News g L h news) : News g L h ((a, oa) :: (b, ob) :: news) := by
  intro p hp
  simp only [List.mem_cons] at hp
  rcases hp with rfl | rfl | hp
  · exact ha
  · exact hb
  · exact hn p hp
section
variable {w : World} {A₀ : Around} {s : Shared} {base h₀ : Heap} {outer : List Env} {L : Addr} {m mg mb : Str → Option Value} {env : Env} {p : Program} {loose : List Str} {mean : ExcName → Option Value}
  {E : Value → Shared → Prop} {Q : Value → Shared → Prop} {news : List (Addr × Obj)} {dp un : Nat} {gd : Option (List Code)}
theorem ref_new {n : Int} {tn tg : Tok} (C : Cx (hd.heap_1 w.params) A₀ base h₀ env outer L m p loose mean mg mb s news) (hroom : dp + 4 < recursionLimit)
    (ret : ∀ x dx es k h' tk', Fr h₀ L h' m → News h₀ L h' ((x, instObj 254 dx) :: (dx, dictOf es k) :: news) → getL (Str.ofString "number") es = some (some (.int n tn)) → getL (Str.ofString "generation") es = some (some (.int 0 tg)) → (∀ p ∈ news, p.1 < dx) → dx < x → Q (.ref x) { s with heap := h', toks := tk' }) :
    wpAny (model PySem.Challenge.rw_pb0479_01.row.prog w) (At dp un gd env outer) (call (.ref 254) [.int n tn, .int 0 tg]) Q E s := by
  obtain ⟨B, F, X, T, N, hf, hke⟩ := C
  revert X
  k_fill
  intro X
  refine' call_cls F X N ?q1 ?q2 ?q3 ?_
  case q1 => k_is
  case q2 => k_is
  case q3 => k_is
  intro x dx h1 F1 N1 l1 l2
  have l3 : @LT.lt Nat instLTNat dx x := l2
  refine' enterK (s := { s with heap := h1 }) [(x, instObj 254 dx), (dx, dictOf [] 0)] (A := (At dp un gd env outer).under _) B F1 X T (news_sub N1 (fun p hp => ?_)) rfl hf hke ?ho ?hcd ?hr ?hb ?hl ?_ ?hc ?h1 ?h2 ?h3
  case ho => k_dflt k_is
  case hcd => k_dflt k_is
  case hr => k_room
  case hb => exact BindsTo.of_eq rfl
  case hl => exact locs rfl
  case hc => decide
  case h1 => rfl
  case h2 => rfl
  case h3 => rfl
  · simp only [List.mem_cons, List.not_mem_nil, or_false] at hp ⊢
    rcases hp with h | h <;> simp [h]
  intro g' L' h' hg1 hg2 hg3 hL F' N' B' X' T' hlt
  have F₀ := F1
  have N₀ := N1
  show wpAny _ _ _ _ _ _
  k_fold
  clear N F F1 N1
  k_steps
  (with_reducible rename Fr _ _ _ _ => Fz)
  (with_reducible rename News _ _ _ _ => Nz)
  have kp := keeps_back (mu := [(x, _), (dx, _)]) Fz hg1 hL
  have Fb := fr_keeps F₀ kp (two_all (N₀ (x, _) (.head _)).2 (N₀ (dx, _) (.tail _ (.head _))).2)
  dsimp only [InitBack]
  refine ⟨rfl, ?_⟩
  have e2 := Nz (dx, dictOf _ _) (.tail _ (.head _))
  dsimp only at e2
  have hrest : News h₀ L _ news := fun p hp => ⟨kp.keep _ _ (N₀ p (.tail _ (.tail _ hp))).1 (not_mem_of_ne (two_ne (fun q => by
      have l4 : @LT.lt Nat instLTNat p.1 dx := l1 p hp
      have q' : @Eq Nat p.1 x := q
      omega) (fun q => by
      have l4 : @LT.lt Nat instLTNat p.1 dx := l1 p hp
      have q' : @Eq Nat p.1 dx := q
      omega))), (N₀ p (.tail _ (.tail _ hp))).2⟩
  exact ret x dx _ _ _ _ Fb (news_two ⟨(Nz (x, _) (.head _)).1, (N₀ (x, _) (.head _)).2⟩ ⟨e2.1, (N₀ (dx, _) (.tail _ (.head _))).2⟩ hrest) rfl rfl l1 l2
theorem name_new {u : Str} {t : Tok} (C : Cx (hd.heap_1 w.params) A₀ base h₀ env outer L m p loose mean mg mb s news) (hroom : dp + 4 < recursionLimit)
    (ret : ∀ x dx es k h' tk', Fr h₀ L h' m → News h₀ L h' ((x, instObj 183 dx) :: (dx, dictOf es k) :: news) → getL (Str.ofString "text") es = some (some (.str u t)) → (∀ p ∈ news, p.1 < dx) → dx < x → Q (.ref x) { s with heap := h', toks := tk' }) :
    wpAny (model PySem.Challenge.rw_pb0479_01.row.prog w) (At dp un gd env outer) (call (.ref 183) [.str u t]) Q E s := by
  obtain ⟨B, F, X, T, N, hf, hke⟩ := C
  revert X
  k_fill
  intro X
  refine' call_cls F X N ?q1 ?q2 ?q3 ?_
  case q1 => k_is
  case q2 => k_is
  case q3 => k_is
  intro x dx h1 F1 N1 l1 l2
  have l3 : @LT.lt Nat instLTNat dx x := l2
  refine' enterK (s := { s with heap := h1 }) [(x, instObj 183 dx), (dx, dictOf [] 0)] (A := (At dp un gd env outer).under _) B F1 X T (news_sub N1 (fun p hp => ?_)) rfl hf hke ?ho ?hcd ?hr ?hb ?hl ?_ ?hc ?h1 ?h2 ?h3
  case ho => k_dflt k_is
  case hcd => k_dflt k_is
  case hr => k_room
  case hb => exact BindsTo.of_eq rfl
  case hl => exact locs rfl
  case hc => decide
  case h1 => rfl
  case h2 => rfl
  case h3 => rfl
  · simp only [List.mem_cons, List.not_mem_nil, or_false] at hp ⊢
    rcases hp with h | h <;> simp [h]
  intro g' L' h' hg1 hg2 hg3 hL F' N' B' X' T' hlt
  have F₀ := F1
  have N₀ := N1
  show wpAny _ _ _ _ _ _
  k_fold
  clear N F F1 N1
  k_steps
  (with_reducible rename Fr _ _ _ _ => Fz)
  (with_reducible rename News _ _ _ _ => Nz)
  have kp := keeps_back (mu := [(x, _), (dx, _)]) Fz hg1 hL
  have Fb := fr_keeps F₀ kp (two_all (N₀ (x, _) (.head _)).2 (N₀ (dx, _) (.tail _ (.head _))).2)
  dsimp only [InitBack]
  refine ⟨rfl, ?_⟩
  have e2 := Nz (dx, dictOf _ _) (.tail _ (.head _))
  dsimp only at e2
  have hrest : News h₀ L _ news := fun p hp => ⟨kp.keep _ _ (N₀ p (.tail _ (.tail _ hp))).1 (not_mem_of_ne (two_ne (fun q => by
      have l4 : @LT.lt Nat instLTNat p.1 dx := l1 p hp
      have q' : @Eq Nat p.1 x := q
      omega) (fun q => by
      have l4 : @LT.lt Nat instLTNat p.1 dx := l1 p hp
      have q' : @Eq Nat p.1 dx := q
      omega))), (N₀ p (.tail _ (.tail _ hp))).2⟩
  exact ret x dx _ _ _ _ Fb (news_two ⟨(Nz (x, _) (.head _)).1, (N₀ (x, _) (.head _)).2⟩ ⟨e2.1, (N₀ (dx, _) (.tail _ (.head _))).2⟩ hrest) rfl l1 l2

end
end
end
end
end
section
local macro_rules | `(tactic| tb_start) => `(tactic| first | with_reducible assumption | exact And.left (by with_reducible assumption) | exact And.left (And.right (by with_reducible assumption)) | exact And.right (by with_reducible assumption) | exact And.left (And.right (And.right (by with_reducible assumption))) | exact And.right (And.right (by with_reducible assumption)) | exact And.left (And.right (And.right (And.right (by with_reducible assumption)))) | exact And.right (And.right (And.right (by with_reducible assumption))) | exact And.left (And.right (And.right (And.right (And.right (by with_reducible assumption))))) | exact And.left (And.right (And.right (And.right (And.right (And.right (by with_reducible assumption)))))) | exact And.left (And.right (And.right (And.right (And.right (And.right (And.right (by with_reducible assumption))))))) | exact And.left (And.right (And.right (And.right (And.right (And.right (And.right (And.right (by with_reducible assumption)))))))) | fail "tb")
section
local macro_rules | `(tactic| k_ne) => `(tactic| (refine neN ?_; (try dsimp only); first | tb_start | exact Ne.symm (by tb_start) | exact Nat.ne_of_gt (by tb_start) | exact Nat.ne_of_lt (by tb_start) | exact Nat.ne_of_gt (Nat.lt_succ_of_lt (by tb_start)) | exact Nat.ne_of_gt (Nat.lt_succ_of_lt (Nat.lt_succ_of_lt (by tb_start))) | exact Nat.ne_of_gt (ltVia (by with_reducible assumption) (by tb_start)) | exact Nat.ne_of_lt (ltVia (by with_reducible assumption) (by tb_start)) | fail "ne"))
section -- C14
open PySem PySem.W PyProof.Rows PySem.Spec PySem.Calls PySem.SeqAt
theorem lines_C14_1 : True := by
  k_with_none
  k_with "Zspliced" => (k_here; k_dflt (refine' args_simG (by rfl) (by rfl) (by k_asm) (by rfl) ?_; k_whole); (try dsimp only [List.cons_append, List.nil_append]))
  trivial
local macro_rules | `(tactic| k_inst) => `(tactic| (refine' inst_base (by k_asm) (by assumption) (by assumption)))
local macro_rules | `(tactic| kit_at) => `(tactic| (refine' kitAt_base (by k_asm) (by assumption) (by assumption)))
local macro_rules | `(tactic| k_room) => `(tactic| first | exact roomK 1 (by assumption) (by decide) | exact unitK 1 (by assumption) (by decide) | exact unit2 1 (by assumption) (by decide) | exact roomM 1 (by assumption) (by decide) | exact unitM 1 (by assumption) (by decide) | exact roomK 2 (by assumption) (by decide) | exact unitK 2 (by assumption) (by decide) | exact roomZ (by assumption) | exact roomZM (by assumption) | ((try simp only [depth_under_make, depth_under_kw, depth_in1, depth_deeper]); (try dsimp only); omega))


/-- draws that a tree d deep takes at most -/
noncomputable def dr : Nat → Nat
  | 0 => 2
  | d + 1 => 4 + 3 * dr d
theorem TakeAt.mono {h h' : Heap} {f pl : Addr} {ns : List Int} (T : TakeAt h f pl ns) (k : ∀ b o, h.get? b = some o → h'.get? b = some o) : TakeAt h' f pl ns := by
  obtain ⟨qual, dc, pm, c', ct, oc, vs, t, c1, c2, o1, o2, cl, ws, n', e1, e2, e3, e4, e5, e6, e7, e8, e9, e10, e11, ne, len⟩ := T
  exact ⟨qual, dc, pm, c', ct, oc, vs, t, c1, c2, o1, o2, cl, ws, n', k _ _ e1, k _ _ e2, e3, e4, k _ _ e5, e6, k _ _ e7, e8, k _ _ e9, e10, e11, ne, len⟩
def FnIn (f : Addr) (h : Heap) : Prop := ∃ o fd, h.get? f = some o ∧ o.data = .func fd
theorem TakeAt.fn {h₀ h : Heap} {f pl L : Addr} {ns : List Int} {m : Str → Option Value} (T : TakeAt h₀ f pl ns) (F : Fr h₀ L h m) : FnIn f h := by
  obtain ⟨qual, dc, pm, c', ct, oc, vs, t, c1, c2, o1, o2, cl, ws, n', e1, _, _, _, _, _, _, _, _, _, _, _, _⟩ := T
  exact ⟨_, _, F.keep _ _ e1, rfl⟩
theorem keeps_fn {M : Model} {f : Addr} (h : Heap) (X : FnIn f h) : ∃ k, (k = Keeper.frame ∨ k = Keeper.machine ∨ k = Keeper.boundFrame) ∧ Looks M h (keeperOf (.ref f)) k := by
  obtain ⟨o, fd, e, hd⟩ := X
  obtain ⟨c, d, da, sl⟩ := o
  cases hd
  exact ⟨.frame, .inl rfl, (Looks.ld (part := none) e).andThen .now⟩
theorem callWith_fn {M : Model} {A : Around} {E : Value → Shared → Prop} {s : Shared} {env : Env} {pos : Pos} {first : List Value} {Q : Value → Shared → Prop} {f pl : Addr} {ns : List Int} {h₀ : Heap} {L : Addr} {m : Str → Option Value} {e : PySem.Expr} {rest : List PySem.Expr} (_F : Fr h₀ L s.heap m) (_T : TakeAt h₀ f pl ns)
    (h : wpAny M A (spliced (backTo pos (starEach (e :: rest) env))) (fun vs s₁ => FnIn f s₁.heap ∧ wpAny M A (call (.ref f) (first ++ vs)) Q E s₁) E s)
    (he : starEach (e :: rest) env = (false, eval e env) :: starEach rest env := by rfl) (hplain : (backTo pos (starEach rest env)).any (·.1) = false := by rfl) :
    wpAny M A (callWith pos (.ref f) first (backTo pos (starEach (e :: rest) env)) []) Q E s := by
  rw [he] at h ⊢
  exact callWith_of (by show ((false || (backTo pos (starEach rest env)).any (·.1)) || false) = false; rw [hplain]; rfl) keeps_fn (evalArgs_plain h)
theorem lines_C14_3 : True := by
  k_with "ZcallWith ref" => (k_here; k_dflt (refine' callWith_fn (by k_asm) (by assumption) ?_; k_whole))
  k_with "ZAnd" => ((with_reducible show FnIn _ _ ∧ _); refine ⟨TakeAt.fn (by assumption) (by k_asm), ?_⟩; try dsimp only [List.nil_append, List.cons_append])
  k_with "Zcall ref" => (k_here; refine halt_call (by decide) ?_)
  k_with "Zcall ref" => (k_here; refine halt_int ?_)
  trivial
structure RetMark : Prop where
theorem merge {M : Model} {A : Around} {α : Type} {X : Sem α} {Q : α → Shared → Prop} {E : Value → Shared → Prop} {s : Shared} {G : Prop} (P : Heap → Prop)
    (main : (∀ h1 tkk, P h1 → wpAny M A X Q E { s with heap := h1, toks := tkk }) → G) (tail : ∀ h1 tkk, P h1 → wpAny M A X Q E { s with heap := h1, toks := tkk }) : G := main tail
theorem fr_two {g h : Heap} {L : Addr} {mz : Str → Option Value} {x1 x2 : Str} {a b : Value} (F : Fr g L h mz) (e1 : mz x1 = some a) (e2 : mz x2 = some b) : Fr g L h (fun y => if y = x1 then some a else if y = x2 then some b else mz y) := by
  have e : mz = fun y => if y = x1 then some a else if y = x2 then some b else mz y := by
    funext y
    by_cases h1 : y = x1
    · rw [if_pos h1, h1, e1]
    · rw [if_neg h1]
      by_cases h2 : y = x2
      · rw [if_pos h2, h2, e2]
      · rw [if_neg h2]
  rw [← e]; exact F
theorem news3 {g h : Heap} {L a b c : Addr} {oa ob oc : Obj} (ha : h.get? a = some oa ∧ a ≠ L ∧ g.get? a = none) (hb : h.get? b = some ob ∧ b ≠ L ∧ g.get? b = none) (hc : h.get? c = some oc ∧ c ≠ L ∧ g.get? c = none) : News g L h [(a, oa), (b, ob), (c, oc)] := by
  intro p hp
  simp only [List.mem_cons, List.not_mem_nil, or_false] at hp
  rcases hp with rfl | rfl | rfl
  · exact ha
  · exact hb
  · exact hc
local macro_rules | `(tactic| k_all) => `(tactic| exact dark_off (by assumption))
theorem lines_C14_4 : True := by
  k_with "ZCompSrc" => (k_here; refine halt ?_)
  k_with "Zeval ListComp" => (k_here; k_dflt (refine LCg.ListComp_U (F₀ := by k_asm) (by with_unfolding_all rfl) (by decide) (by rfl) (by decide) (by rfl) ?_))
  trivial
structure CntMark : Prop where
structure OddMark : Prop where
theorem fr_one {g h : Heap} {L : Addr} {mz : Str → Option Value} {x1 : Str} {a : Value} (F : Fr g L h mz) (e1 : mz x1 = some a) : Fr g L h (fun y => if y = x1 then some a else mz y) := by
  have e : mz = fun y => if y = x1 then some a else mz y := by
    funext y
    by_cases h1 : y = x1
    · rw [if_pos h1, h1, e1]
    · rw [if_neg h1]
  rw [← e]; exact F
/-- _law_tree with its word picked -/
inductive TreeWd (g : Heap) (L pl : Addr) (oa ob : Obj) (n0 : Nat) (k : Int) (tk : Tok) (h1 : Heap) : Prop
  | mk (wd : Str) (tw : Tok) (m1 : Str → Option Value) (hw : wordOk wd) (hn : wd = Str.ofString "Not" ∨ (wd == Str.ofString "Not") = false)
      (F : Fr g L h1 (fun y => if y = Str.ofString "word" then some (.str wd tw) else m1 y)) (N : News g L h1 [(L + 1 + 1, oa), (L + 1, ob), (pl, W.listOf #[.int k tk] n0)])
/-- _law_tree with its word and its count -/
inductive TreeMid (g : Heap) (L pl : Addr) (oa ob : Obj) (n0 : Nat) (k hi : Int) (h1 : Heap) : Prop
  | mk (wd : Str) (tw : Tok) (c : Int) (tc : Tok) (m1 : Str → Option Value) (k1 : Int) (tk1 : Tok) (hw : wordOk wd) (c0 : 0 ≤ c) (c3 : c ≤ 3) (a : k ≤ k1) (b : k1 ≤ hi)
      (F : Fr g L h1 (fun y => if y = Str.ofString "count" then some (Value.int c tc) else if y = Str.ofString "word" then some (Value.str wd tw) else m1 y)) (N : News g L h1 [(L + 1 + 1, oa), (L + 1, ob), (pl, W.listOf #[.int k1 tk1] n0)])
/-- the invariant of the parts' comprehension -/
inductive TreeJ (Sn hs g : Heap) (L pl : Addr) (oa ob : Obj) (n0 : Nat) (k1 : Int) (dk : Nat) (i : Nat) (ys : List Value) : List (Addr × Obj) → Prop
  | mk (k2 : Int) (tk2 : Tok) (S2 : Heap) (ts : List Tree) (bl : Bld Sn hs g L [pl] S2) (a : k1 ≤ k2) (b : k2 ≤ k1 + i * dr dk) (hy : ys.length = i) (ht : ts.length = i) (tr : ∀ (j : Nat) v t, ys[j]? = some v → ts[j]? = some t → TreeAt S2 dk v t) :
      TreeJ Sn hs g L pl oa ob n0 k1 dk i ys ((L + 1 + 1, oa) :: (L + 1, ob) :: (pl, W.listOf #[.int k2 tk2] n0) :: darkOf S2 g)
theorem TreeJ.add {Sn hs g S2 S5 h5' : Heap} {L pl : Addr} {oa ob : Obj} {n0 : Nat} {k1 k2 k5 : Int} {tk5 : Tok} {dk i : Nat} {ys : List Value} {ts : List Tree} {v5 : Value} {t5 : Tree} {h9 : Heap} (bl : Bld Sn hs g L [pl] S5) (a : k1 ≤ k5) (b : k5 ≤ k2 + dr dk) (b2 : k2 ≤ k1 + i * dr dk)
    (hys : ys.length = i) (hts : ts.length = i) (htr : ∀ (j : Nat) v t, ys[j]? = some v → ts[j]? = some t → TreeAt S2 dk v t) (z : Snp S2 h9 S5 h5') (hT : TreeAt S5 dk v5 t5) :
    TreeJ Sn hs g L pl oa ob n0 k1 dk (i + 1) (ys ++ [v5]) ((L + 1 + 1, oa) :: (L + 1, ob) :: (pl, W.listOf #[.int k5 tk5] n0) :: darkOf S5 g) := by
  have e : ((i + 1 : Nat) : Int) * (dr dk : Int) = i * dr dk + dr dk := by
    rw [Int.natCast_add, Int.add_mul]; simp
  refine .mk k5 tk5 S5 (ts ++ [t5]) bl a (by rw [e]; omega) (by simp [hys]) (by simp [hts]) fun j v t h1 h2 => ?_
  by_cases hj : j < i
  · rw [List.getElem?_append_left (by omega)] at h1 h2
    exact (htr j v t h1 h2).keeps z.old
  · rw [List.getElem?_append_right (by omega)] at h1 h2
    rw [hys] at h1
    rw [hts] at h2
    cases q : j - i with
    | zero =>
      rw [q] at h1 h2
      cases h1; cases h2
      exact hT
    | succ n => rw [q] at h1; cases h1
theorem three_dr' {i dk : Nat} (h : i ≤ 3) : (i : Int) * dr dk ≤ 3 * dr dk := Int.mul_le_mul_of_nonneg_right (Int.ofNat_le.mpr h) (Int.natCast_nonneg _)
theorem three_dr {i dk : Nat} (h : i ≤ 2) : (i : Int) * dr dk + dr dk ≤ 3 * dr dk := by
  have e := three_dr' (dk := dk) (Nat.succ_le_succ h)
  rwa [Int.natCast_succ, Int.add_mul, Int.one_mul] at e
theorem tj_end {k k1 k2 x : Int} {n : Nat} (a : k2 ≤ k1 + x) (b : x ≤ 3 * (n : Int)) (c : k1 ≤ k + 4) : k2 ≤ k + ((4 + 3 * n : Nat) : Int) := by omega
theorem tj_k4 {k k1 k2 x : Int} {n : Nat} (a : k + (4 + 3 * (n : Int)) ≤ 400) (b : k1 ≤ k + 4) (c : k2 ≤ k1 + x) (d : x + (n : Int) ≤ 3 * n) : k2 + (n : Int) ≤ 400 := by omega
theorem tj_k1 {k : Int} {n : Nat} (a : k + (4 + 3 * (n : Int)) ≤ 400) : k + 1 < 400 := by omega
theorem tj_r {d k R : Nat} (h : d + 20 * (k + 1) + 40 < R) : d + 1 + 20 * k + 40 < R := by omega
theorem tj_u {d k R : Nat} (h : d + 20 * (k + 1) + 80 < R) : d + 3 + 20 * k + 80 < R := by omega
theorem small_c {c : Int} (c0 : 0 ≤ c) (c3 : c ≤ 3) : Builtin.Range.small 0 c 1 = true ∧ Builtin.Range.rangeSize 0 c 1 = ((c.toNat : Nat) : Int) ∧ c.toNat ≤ 3 := by
  rcases r_lt4 c0 (Int.lt_add_one_of_le c3) with rfl | rfl | rfl | rfl <;> decide
/-- what lies behind a leaf -/
theorem leaf_k {r : Int} : 1 ≤ 1 + Int.fmod r 5 ∧ 1 + Int.fmod r 5 ≤ 5 := by
  have a := Int.fmod_nonneg_of_pos r (by decide : (0 : Int) < 5)
  have b := Int.fmod_lt_of_pos r (by decide : (0 : Int) < 5)
  omega
local macro_rules | `(tactic| kwd_inv) => `(tactic| first | exact unitK 3 (by assumption) (by decide) | exact unitK 4 (by assumption) (by decide) | exact unitM 3 (by assumption) (by decide) | exact unit2 3 (by assumption) (by decide) | exact unitM 4 (by assumption) (by decide) | ((try simp only [units_in1, units_deeper]); (try dsimp only); omega))

theorem lines_C14_5 : True := by
  k_with "Zexec Assign" => (k_here; (with_reducible refine halt_cnt CntMark (by assumption) ?_))
  k_with "Zexec Assign" => (k_here; (with_reducible refine halt_odd OddMark (by assumption) ?_))
  k_with "Zexec Return some" => (k_here; (with_reducible refine halt_tup RetMark (by assumption) ?_))
  k_with "ZTAKE" => (refine unhalt ?_; refine' take_call (by k_asm) (by k_asm) (by k_asm) (by k_asm) (by k_asm) (TakeAt.mono (by assumption) (Fr.keep (by k_asm))) (by k_updF) rfl rfl rfl (by k_room) (by kwd_inv) (by first | assumption | omega) (by first | assumption | omega) (by decide) (by decide) ?_)
  trivial
section
theorem tree_call {w : World} : ∀ (dk : Nat) {A₀ : Around} {s : Shared} {base h₀ : Heap} {outer : List Env} {L : Addr} {m mg mb : Str → Option Value} {env : Env} {p : Program} {loose : List Str} {mean : ExcName → Option Value}
    {E : Value → Shared → Prop} {Q : Value → Shared → Prop} {news : List (Addr × Obj)} {dp un : Nat} {gd : Option (List Code)} {Sn : Heap} {f pl : Addr} {ns : List Int} {k : Int} {tk0 : Tok} {n0 : Nat} {u : Obj → List (Addr × Obj)} {d : Int} {td : Tok}
    (C : Cx (hd.heap_1 w.params) A₀ base h₀ env outer L m p loose mean mg mb s news) (hroom : dp + 20 * dk + 40 < recursionLimit) (hun : un + 20 * dk + 80 < cLine)
    (kS : ∀ b o, Sn.get? b = some o → s.heap.get? b = some o) (nS : Sn.get? pl = none) (Tk : TakeAt Sn f pl ns) (U : UpdF pl (W.listOf #[.int k tk0] n0) news u) (hk : 0 ≤ k) (hk4 : k + dr dk ≤ 400) (hd : d = dk)
    (ret : ∀ v t k' tk1 S' h' tk', TreeAt S' dk v t → Snp Sn s.heap S' h' → k ≤ k' → k' ≤ k + dr dk → Fr h₀ L h' m → News h₀ L h' (u (W.listOf #[.int k' tk1] n0)) → Keeps [pl] s.heap h' → Q v { s with heap := h', toks := tk' }),
    wpAny (model PySem.Challenge.rw_pb0479_01.row.prog w) (At dp un gd env outer) (call (.ref 435) [.ref f, .int d td]) Q E s := by
  intro dk
  induction dk with
  | zero =>
    intro A₀ s base h₀ outer L m mg mb env p loose mean E Q news dp un gd Sn f pl ns k tk0 n0 u d td C hroom hun kS nS Tk U hk hk4 hd ret
    subst hd
    obtain ⟨B, F, X, T, N, hf, hke⟩ := C
    have Nm : News h₀ L s.heap [(pl, W.listOf #[.int k tk0] n0)] := news_sub N (fun q hq => by rw [List.mem_singleton.mp hq]; exact updF_mem U)
    revert X
    k_fill
    intro X
    refine wpAny_call ?_
    refine' enterKC [(pl, W.listOf #[.int k tk0] n0)] B F X T Nm rfl hf hke ?ho ?hcd ?hr ?hb ?hl ?hn ?_ ?h1 ?h2 ?h3
    case ho => k_dflt k_is
    case hcd => k_dflt k_is
    case hr => k_room
    case hb => first | exact binds_K (by k_in) rfl (by k_is) rfl rfl rfl | exact BindsTo.of_eq rfl
    case hl => exact rfl
    case hn => decide +kernel
    case h1 => rfl
    case h2 => rfl
    case h3 => rfl
    intro g' L' h' tk0 cells hg1 hg2 hg3 hL F' N' Y' B' X' T' hlt
    k_cells Y'
    rename_i oa ob da db
    (try simp only [List.cons_append, List.nil_append, List.append_nil] at N')
    have kg : ∀ b o, Sn.get? b = some o → g'.get? b = some o := fun b o e => hg1 b o (kS b o e) (fun q => by
      rw [List.mem_singleton.mp q, nS] at e; cases e)
    have Tk' := Tk.mono kg
    have hq : @LT.lt Nat instLTNat pl L' := hlt (pl, _) (.head _)
    have hk5 : k + 2 ≤ 400 := hk4
    have F₀ := F
    have N₀ := N
    show wpAny _ _ _ _ _ _
    k_fold
    clear N F Nm
    k_steps
    walk_at "TAKE"
    intro r tr tk1 h5 tk5 hr0 hr1 F5 N5 k5
    clear k5
    k_steps

    (with_reducible rename Fr _ _ _ _ => Fz)
    (with_reducible rename News _ _ _ _ => Nz)
    have kp := keeps_back (mu := [(pl, _)]) Fz hg1 hL
    have hsn := snp_keeps kp kS (fun a ha => by rw [List.mem_singleton.mp ha]; exact nS)
    have fr : ∀ {a : Addr} {o : Obj}, (a, o) ∈ _ → (∀ b ∈ [pl], a ≠ b) → s.heap.get? a = none := fun {a o} hm n => fresh_mu (mu := [(pl, _)]) (a := a) (o := o) Nz hm hg1 n
    refine ret _ (.group _) _ _ _ _ _ (TreeAt.group (snap_new (fr (.head _) ?_) (Nz _ (.head _)).1) leaf_k.1 leaf_k.2) (snp_snap hsn) ?_ ?_ (fr_keeps F₀ kp ?_) (news_updF N₀ U kp (Nz (pl, _) (by k_mem)).1) kp
    · exact fun a ha => by rw [List.mem_singleton.mp ha]; k_ne
    · exact ar_1
    · exact ar_12
    · exact fun a ha => by rw [List.mem_singleton.mp ha]; exact (N₀ _ (updF_mem U)).2

  | succ dk ih =>
    intro A₀ s base h₀ outer L m mg mb env p loose mean E Q news dp un gd Sn f pl ns k tk0 n0 u d td C hroom hun kS nS Tk U hk hk4 hd ret
    have hk5 : k + (4 + 3 * dr dk) ≤ 400 := by have := hk4; unfold dr at this; omega
    have hk6 := tj_k1 hk5
    have hd0 : 0 < d := by omega
    obtain ⟨B, F, X, T, N, hf, hke⟩ := C
    have Nm : News h₀ L s.heap [(pl, W.listOf #[.int k tk0] n0)] := news_sub N (fun q hq => by rw [List.mem_singleton.mp hq]; exact updF_mem U)
    revert X
    k_fill
    intro X
    refine wpAny_call ?_
    refine' enterKC [(pl, W.listOf #[.int k tk0] n0)] B F X T Nm rfl hf hke ?ho ?hcd ?hr ?hb ?hl ?hn ?_ ?h1 ?h2 ?h3
    case ho => k_dflt k_is
    case hcd => k_dflt k_is
    case hr => k_room
    case hb => first | exact binds_K (by k_in) rfl (by k_is) rfl rfl rfl | exact BindsTo.of_eq rfl
    case hl => exact rfl
    case hn => decide +kernel
    case h1 => rfl
    case h2 => rfl
    case h3 => rfl
    intro g' L' h' tk0 cells hg1 hg2 hg3 hL F' N' Y' B' X' T' hlt
    k_cells Y'
    rename_i oa ob da db
    (try simp only [List.cons_append, List.nil_append, List.append_nil] at N')
    have kg : ∀ b o, Sn.get? b = some o → g'.get? b = some o := fun b o e => hg1 b o (kS b o e) (fun q => by
      rw [List.mem_singleton.mp q, nS] at e; cases e)
    have Tk' := Tk.mono kg
    have hq : @LT.lt Nat instLTNat pl L' := hlt (pl, _) (.head _)
    have F₀ := F
    have N₀ := N
    show wpAny _ _ _ _ _ _
    k_fold
    clear N F Nm
    refine' merge (s := s) (TreeMid g' L' pl oa ob n0 k (k + 4)) ?main ?tail
    case main =>
      intro tail
      k_steps
      walk_at "TAKE"
      intro r tr tk1 h5 tk5 hr0 hr1 F5 N5 k5
      clear k5
      rcases Int.lt_or_le r 2 with hr2 | hr2
      · k_steps
        all_goals (try (exfalso; omega))
        all_goals (
          walk_at "TAKE"
          intro r tr tk1 h5 tk5 hr0 hr1 F5 N5 k5
          clear k5
          k_steps
          (with_reducible rename Fr _ _ _ _ => Fz)
          (with_reducible rename News _ _ _ _ => Nz)
          have kp := keeps_back (mu := [(pl, _)]) Fz hg1 hL
          have hsn := snp_keeps kp kS (fun a ha => by rw [List.mem_singleton.mp ha]; exact nS)
          have fr : ∀ {a : Addr} {o : Obj}, (a, o) ∈ _ → (∀ b ∈ [pl], a ≠ b) → s.heap.get? a = none := fun {a o} hm n => fresh_mu (mu := [(pl, _)]) (a := a) (o := o) Nz hm hg1 n
          refine ret _ (.group _) _ _ _ _ _ (TreeAt.group (snap_new (fr (.head _) ?_) (Nz _ (.head _)).1) leaf_k.1 leaf_k.2) (snp_snap hsn) ?_ ?_ (fr_keeps F₀ kp ?_) (news_updF N₀ U kp (Nz (pl, _) (by k_mem)).1) kp
          · exact fun a ha => by rw [List.mem_singleton.mp ha]; k_ne
          · exact ar_2
          · exact ar_n
          · exact fun a ha => by rw [List.mem_singleton.mp ha]; exact (N₀ _ (updF_mem U)).2
        )
      · refine' merge (s := s) (TreeWd g' L' pl oa ob n0 (k + 1) tk1) ?mw ?tw
        case mw =>
          intro tlw
          have hcm : CntMark := ⟨⟩
          rcases r_26 hr2 hr1 with rfl | rfl | rfl | rfl
          all_goals (
            k_steps
            refine unhalt ?_
            (with_reducible rename Fr _ _ _ _ => Fz)
            (with_reducible rename News _ _ _ _ => Nz)
            refine tlw _ _ (.mk _ _ _ ?_ ?_ (fr_one Fz rfl) (news3 (Nz (L' + 1 + 1, oa) (by k_mem)) (Nz (L' + 1, ob) (by k_mem)) (Nz (pl, _) (by k_mem))))
            · first | exact .inl rfl | exact .inr (.inl rfl) | exact .inr (.inr (.inl rfl)) | exact .inr (.inr (.inr rfl))
            · first | exact .inl rfl | exact .inr (by decide))
        case tw =>
          rintro h1 tkk ⟨wd, tw, m1, hw, hn, F1, N1⟩
          clear F5 N5
          refine' merge (s := s) (TreeMid g' L' pl oa ob n0 k (k + 2)) ?mc ?tc
          case mc =>
            intro tlc
            have hom : OddMark := ⟨⟩
            rcases hn with rfl | hn
            · k_steps
              refine unhalt ?_
              (with_reducible rename Fr _ _ _ _ => Fz)
              (with_reducible rename News _ _ _ _ => Nz)
              refine tlc _ _ (.mk _ _ _ _ _ _ _ hw ?_ ?_ ?_ ?_ (fr_two Fz rfl rfl) (news3 (Nz (L' + 1 + 1, oa) (by k_mem)) (Nz (L' + 1, ob) (by k_mem)) (Nz (pl, _) (by k_mem))))
              all_goals first | decide | exact ar_1 | exact ar_2 | exact ar_12 | exact ar_22 | exact ar_n | exact ar_a (by assumption) | exact ar_b (by assumption) | exact ar_c (by assumption) | exact ar_d (by assumption) | exact ar_g (by assumption) | exact ar_h (by assumption) | omega
            · k_steps
              walk_at "TAKE"
              intro r2 tr2 tk2 h6 tk6 hs0 hs1 F6 N6 k6
              clear k6
              k_steps
              refine unhalt ?_
              (with_reducible rename Fr _ _ _ _ => Fz)
              (with_reducible rename News _ _ _ _ => Nz)
              refine tlc _ _ (.mk _ _ _ _ _ _ _ hw ?_ ?_ ?_ ?_ (fr_two Fz rfl rfl) (news3 (Nz (L' + 1 + 1, oa) (by k_mem)) (Nz (L' + 1, ob) (by k_mem)) (Nz (pl, _) (by k_mem))))
              all_goals first | decide | exact ar_1 | exact ar_2 | exact ar_12 | exact ar_22 | exact ar_n | exact ar_a (by assumption) | exact ar_b (by assumption) | exact ar_c (by assumption) | exact ar_d (by assumption) | exact ar_g (by assumption) | exact ar_h (by assumption) | omega
          case tc =>
            rintro h1 tkk ⟨wd, tw, c, tc, m1, k1, tk1, hw, hc0, hc3, hk1, hk1', F1, N1⟩
            have hmark : RetMark := ⟨⟩
            k_steps
            walk_at "TAKE"
            intro r2 tr2 tk2 h6 tk6 hs0 hs1 F6 N6 k6
            clear k6
            rcases r_12 r2 with rfl | rfl | ⟨n10, n11⟩
            · k_steps
              refine unhalt ?_
              (with_reducible rename Fr _ _ _ _ => Fz)
              (with_reducible rename News _ _ _ _ => Nz)
              refine tail _ _ (.mk _ _ _ _ _ _ _ (.inr (.inr (.inr rfl))) hc0 hc3 ?_ ?_ (fr_two Fz rfl rfl) (news3 (Nz (L' + 1 + 1, oa) (by k_mem)) (Nz (L' + 1, ob) (by k_mem)) (Nz (pl, _) (by k_mem))))
              all_goals first | decide | exact ar_1 | exact ar_2 | exact ar_12 | exact ar_22 | exact ar_n | exact ar_a (by assumption) | exact ar_b (by assumption) | exact ar_c (by assumption) | exact ar_d (by assumption) | exact ar_g (by assumption) | exact ar_h (by assumption) | omega
            · k_steps
              walk_at "TAKE"
              intro r3 tr3 tk3 h7 tk7 ht0 ht1 F7 N7 k7
              clear k7
              rcases r_lt2 ht0 ht1 with rfl | rfl
              all_goals (
                k_steps
                refine unhalt ?_
                (with_reducible rename Fr _ _ _ _ => Fz)
                (with_reducible rename News _ _ _ _ => Nz)
                refine tail _ _ (.mk _ _ _ _ _ _ _ hw ?_ ?_ ?_ ?_ (fr_two Fz rfl rfl) (news3 (Nz (L' + 1 + 1, oa) (by k_mem)) (Nz (L' + 1, ob) (by k_mem)) (Nz (pl, _) (by k_mem))))
                all_goals first | decide | exact ar_1 | exact ar_2 | exact ar_12 | exact ar_22 | exact ar_n | exact ar_a (by assumption) | exact ar_b (by assumption) | exact ar_c (by assumption) | exact ar_d (by assumption) | exact ar_g (by assumption) | exact ar_h (by assumption) | omega)
            · k_steps
              all_goals (try (exfalso; omega))
              all_goals (
                refine unhalt ?_
                (with_reducible rename Fr _ _ _ _ => Fz)
                (with_reducible rename News _ _ _ _ => Nz)
                refine tail _ _ (.mk _ _ _ _ _ _ _ hw hc0 hc3 ?_ ?_ (fr_two Fz rfl rfl) (news3 (Nz (L' + 1 + 1, oa) (by k_mem)) (Nz (L' + 1, ob) (by k_mem)) (Nz (pl, _) (by k_mem))))
                all_goals first | decide | exact ar_1 | exact ar_2 | exact ar_12 | exact ar_22 | exact ar_n | exact ar_a (by assumption) | exact ar_b (by assumption) | exact ar_c (by assumption) | exact ar_d (by assumption) | exact ar_g (by assumption) | exact ar_h (by assumption) | omega)
    case tail =>
      rintro h1 tkk ⟨wd, tw, c, tc, m1, k1, tk1, hw, hc0, hc3, hk1, hk1', F1, N1⟩
      clear F' N'
      obtain ⟨hsm, hrs, hc33⟩ := small_c hc0 hc3
      k_steps
      refine unhalt ?_
      (with_reducible rename Fr _ _ _ _ => F2)
      (with_reducible rename News _ _ _ _ => N2)
      refine LCg.CompSrc.range (n := c.toNat) rfl F2 N2 (by assumption) hsm hrs ?_ fun g2 => ?_
      · exact Nat.le_trans hc33 (by decide)
      clear F2 N2
      refine rest_ind (TreeJ Sn s.heap g' L' pl oa ob n0 k1 dk) ?_ ?_ ?_
      · have z := TreeJ.mk (oa := oa) (ob := ob) (n0 := n0) (dk := dk) (i := 0) (ys := []) k1 tk1 Sn [] (Bld.init kg kS hL (fun a ha => by rw [List.mem_singleton.mp ha]; exact nS)) (Int.le_refl _) (by simp) rfl rfl (fun j v t e => by simp at e)
        rw [dark_nil kg] at z
        exact z
      · rintro i hi ys nw ⟨k2, tk2, S2, ts, bl, hk2, hk2', hys, hts, htr⟩ v I oI Cc oC Dd m₂ hh tk3 E' hv hC hx2 Ft Nt off ne
        obtain ⟨nI, nC, nD⟩ := bl.off3 Nt off (fun p hp => .tail _ (.tail _ (.tail _ hp)))
        have o3 := off.2.2.1
        dsimp only at o3
        have hpl := bl.offX pl (.head _)
        have hi3 := three_dr (dk := dk) (i := i) (by first | exact Nat.le_of_lt_succ (Nat.lt_of_lt_of_le hi hc33) | omega)
        k_steps
        refine unhalt ?_
        refine' ih ⟨?B, ?F, ?X, ?T, ?N, rfl, rfl⟩ ?r ?u ?kS hpl (Tk.mono bl.old) ?U ?k0 ?k4 ?d ?ret
        case B => k_asm
        case F => exact Ft
        case X => k_asm
        case T => k_asm
        case N => exact Nt
        case r => first | exact tj_r (by assumption) | k_room
        case u => first | exact tj_u (by assumption) | kwd_inv
        case kS => exact bl.isIn Ft Nt (fun p hp => .tail _ (.tail _ (.tail _ (.tail _ (.tail _ (.tail _ hp))))))
        case U => k_updF
        case k0 => exact ar_e hk (Int.le_trans hk1 hk2)
        case k4 => first | exact tj_k4 hk5 hk1' hk2' hi3 | omega
        case d => omega
        case ret =>
          intro v5 t5 k5 tk5 S5 h5 tk6 hT z hk5a hk5b F5 N5 kp5
          have N6 := news_dark Ft N5 z bl.offL
          have b5 := bl.next Ft (fun a ha => by rw [List.mem_singleton.mp ha]; exact ⟨_, (Nt (pl, _) (by k_mem)).1⟩) (fun b o e n => hg1 b o e n) z F5.keep
          k_steps
          change LCg.CompEnd _ _ _ _ _ _ _ _ _ _ _ _ _ _
          refine LCg.CompEnd.intro F5 N6 ((L' + 1 + 1, oa) :: (L' + 1, ob) :: (pl, W.listOf #[.int k5 tk5] n0) :: darkOf S5 g') ?sub ?off trivial ?r
          case sub => exact sub_pre [_, _, _, _, _, _]
          case off => exact ⟨off.1, off.2.1, off.2.2.1, LCg.Off3.of fun p hp => ⟨dark_off (z.off nI (Nt _ (.head _)).1) p hp, dark_off (z.off nC (Nt _ (.tail _ (.head _))).1) p hp, dark_off (z.off nD (Nt _ (.tail _ (.tail _ (.head _)))).1) p hp⟩⟩
          case r => exact TreeJ.add b5 (by omega) hk5b hk2' hys hts htr z hT
      · rintro ys nw ⟨k2, tk2, S2, ts, bl, hk2, hk2', hys, hts, htr⟩ Dl h3 tk3 F3 N3 off3
        have hc9 := three_dr' (dk := dk) hc33
        k_steps
        (with_reducible rename Fr _ _ _ _ => Fz)
        (with_reducible rename News _ _ _ _ => Nz)
        have kp := keeps_back (mu := [(pl, _)]) Fz hg1 hL
        have hsn := snp_keeps kp kS (fun a ha => by rw [List.mem_singleton.mp ha]; exact nS)
        have hin := bl.isIn Fz Nz (fun p hp => .tail _ (.tail _ (.tail _ (.tail _ (.tail _ hp)))))
        have fr : ∀ {a : Addr} {o : Obj}, (a, o) ∈ _ → (∀ b ∈ [pl], a ≠ b) → s.heap.get? a = none := fun {a o} hm n => fresh_mu (mu := [(pl, _)]) (a := a) (o := o) Nz hm hg1 n
        have o1 := off3.2.2.1
        dsimp only at o1
        refine ret _ (.node wd ts) k2 tk2 _ _ _ (TreeAt.node (snap_new (fr (.head _) ?_) (Nz _ (.head _)).1) (snap_new (fr (.tail _ (.head _)) ?_) (Nz _ (.tail _ (.head _))).1) hw (by first | exact hys.trans hts.symm | exact hts.trans hys.symm | exact Nat.le_of_eq_of_le hts hc33 | omega) (by first | exact hys.trans hts.symm | exact hts.trans hys.symm | exact Nat.le_of_eq_of_le hts hc33 | exact Nat.le_of_eq_of_le hys hc33 | omega) fun i v c h1 h2 => (htr i v c h1 h2).keeps (bl.up hin)) (snp_snap hsn) ?_ ?_ (fr_keeps F₀ kp ?_) (news_updF N₀ U kp (Nz (pl, _) (by k_mem)).1) kp
        · exact fun a ha => by rw [List.mem_singleton.mp ha]; k_ne
        · exact fun a ha => by rw [List.mem_singleton.mp ha]; k_ne
        · first | exact Int.le_trans hk1 hk2 | omega
        · show _ ≤ k + ((4 + 3 * dr dk : Nat) : Int); first | exact tj_end hk2' hc9 hk1' | omega
        · exact fun a ha => by rw [List.mem_singleton.mp ha]; exact (N₀ _ (updF_mem U)).2
end
end
section -- C15
open PySem PySem.W PyProof.Rows PySem.Spec PySem.Calls PySem.SeqAt
theorem lines_C15_1 : True := by
  k_with_none
  k_with "Zspliced" => (k_here; k_dflt (refine' args_simG (by rfl) (by rfl) (by k_asm) (by rfl) ?_; k_whole); (try dsimp only [List.cons_append, List.nil_append]))
  trivial
local macro_rules | `(tactic| k_inst) => `(tactic| (refine' inst_base (by k_asm) (by assumption) (by assumption)))
local macro_rules | `(tactic| kit_at) => `(tactic| (refine' kitAt_base (by k_asm) (by assumption) (by assumption)))
local macro_rules | `(tactic| k_room) => `(tactic| first | exact roomK 1 (by assumption) (by decide) | exact unitK 1 (by assumption) (by decide) | exact unit2 1 (by assumption) (by decide) | exact roomM 1 (by assumption) (by decide) | exact unitM 1 (by assumption) (by decide) | exact roomK 2 (by assumption) (by decide) | exact unitK 2 (by assumption) (by decide) | exact roomZ (by assumption) | exact roomZM (by assumption) | ((try simp only [depth_under_make, depth_under_kw, depth_in1, depth_deeper]); (try dsimp only); omega))


local macro_rules | `(tactic| k_all) => `(tactic| exact dark_off (by assumption))
local macro_rules | `(tactic| kwd_inv) => `(tactic| first | exact unitK 3 (by assumption) (by decide) | exact unitK 4 (by assumption) (by decide) | exact unitM 3 (by assumption) (by decide) | exact unit2 3 (by assumption) (by decide) | exact unitM 4 (by assumption) (by decide) | ((try simp only [units_in1, units_deeper]); (try dsimp only); omega))

theorem lines_C15_2 : True := by
  k_with "ZgetMethod ref" => (k_here; k_dflt (first | (refine' method_inst (by k_asm) (by k_asm) (by k_inst) (by k_is) (by k_is) (by k_is) (by assumption) ?_; k_whole) | (refine' dget_method (by k_asm) (by assumption) ?_; k_whole)))
  k_with "ZsubscriptTail" => (k_here; (with_reducible show wpAny _ _ (subscriptTail _ _ (Value.ref _) (Value.int 0 _)) _ _ _); k_dflt (refine' tup_item0 (tup_base (by k_asm) (by assumption)) ?_; k_whole))
  k_with "ZsubscriptTail Name Constant ref int" => (k_here; (with_reducible show wpAny _ _ (subscriptTail _ _ (Value.ref _) (Value.int 0 _)) _ _ _); k_dflt (refine' tup_item0 (tup_base (by k_asm) (by assumption)) ?_; k_whole))
  k_with "ZsubscriptTail" => (k_here; (with_reducible show wpAny _ _ (subscriptTail _ _ (Value.ref _) (Value.int 1 _)) _ _ _); k_dflt (refine' tup_item1 (tup_base (by k_asm) (by assumption)) ?_; k_whole))
  k_with "ZsubscriptTail Name Constant ref int" => (k_here; (with_reducible show wpAny _ _ (subscriptTail _ _ (Value.ref _) (Value.int 1 _)) _ _ _); k_dflt (refine' tup_item1 (tup_base (by k_asm) (by assumption)) ?_; k_whole))
  k_with "ZcompareOp Eq str str" => (k_here; k_dflt (refine' eq_str_k (by assumption) ?_; k_whole))
  k_with "ZcallWith ref" => (k_here; k_dflt (refine' callWith_fn (by k_asm) (by assumption) ?_; k_whole))
  k_with "ZAnd" => ((with_reducible show FnIn _ _ ∧ _); refine ⟨TakeAt.fn (by assumption) (by k_asm), ?_⟩; try dsimp only [List.nil_append, List.cons_append])
  k_with "Zcall ref" => (k_here; refine halt_call (by decide) ?_)
  k_with "Zcall ref" => (k_here; refine halt_int ?_)
  k_with "ZCompSrc" => (k_here; refine halt ?_)
  k_with "Zeval ListComp" => (k_here; k_dflt (refine LCg.ListComp_U (F₀ := by k_asm) (by with_unfolding_all rfl) (by decide) (by rfl) (by decide) (by rfl) ?_))
  k_with "ZTAKE" => (refine unhalt ?_; refine' take_call (by k_asm) (by k_asm) (by k_asm) (by k_asm) (by k_asm) (TakeAt.mono (by assumption) (Fr.keep (by k_asm))) (by k_updF) rfl rfl rfl (by k_room) (by kwd_inv) (by first | assumption | omega) (by first | assumption | omega) (by decide) (by decide) ?_)
  trivial
/-- the invariant of the parts' comprehension of _law_object -/
inductive ObjJ (w : World) (Sn hs g : Heap) (L pl tb : Addr) (oa ob1 : Obj) (n0 : Nat) (x9 d9 l9 : Addr) (es9 : List DictEntry) (ne9 : Nat) (vals : List Value) (k : Int) (dk : Nat) (cs : List Tree) (i : Nat) (ys : List Value) : List (Addr × Obj) → Prop
  | mk (k2 : Int) (tk2 : Tok) (S2 : Heap) (otb2 : Obj) (vals2 : List Value) (bl : Bld Sn hs g L [pl, tb] S2) (a : k ≤ k2) (b : k2 ≤ k + i * ob dk) (pre : vals <+: vals2) (vl : (vals2.length : Int) ≤ vals.length + i * ob dk) (TB : Tab w S2 otb2 vals2)
      (hy : ys.length = i) (tr : ∀ (j : Nat) v c, ys[j]? = some v → cs[j]? = some c → ObjE w S2 vals2 dk v c) :
      ObjJ w Sn hs g L pl tb oa ob1 n0 x9 d9 l9 es9 ne9 vals k dk cs i ys
        ((l9, W.listOf #[.ref x9] 0) :: (x9, instObj 183 d9) :: (d9, dictOf es9 ne9) :: (L + 1 + 1, oa) :: (L + 1, ob1) :: (pl, W.listOf #[.int k2 tk2] n0) :: (tb, otb2) :: darkOf S2 g)
theorem ObjJ.add {w : World} {Sn hs g S2 S5 h8 h9 : Heap} {L pl tb : Addr} {oa ob1 : Obj} {n0 : Nat} {x9 d9 l9 : Addr} {es9 : List DictEntry} {ne9 : Nat} {vals vals2 vals5 : List Value} {k k2 k5 : Int} {tk5 : Tok} {dk : Nat} {cs : List Tree} {c5 : Tree} {i : Nat} {ys : List Value} {y5 : Value} {otb5 : Obj}
    (b5 : Bld Sn hs g L [pl, tb] S5) (a : k ≤ k2) (a5 : k2 ≤ k5) (e5 : k5 ≤ k2 + ob dk) (b : k2 ≤ k + i * ob dk) (pre : vals <+: vals2) (p5 : vals2 <+: vals5) (l5 : vals5.length ≤ vals2.length + ob dk) (vl : (vals2.length : Int) ≤ vals.length + i * ob dk) (TB : Tab w S5 otb5 vals5)
    (hy : ys.length = i) (tr : ∀ (j : Nat) v c, ys[j]? = some v → cs[j]? = some c → ObjE w S2 vals2 dk v c) (z : Snp S2 h8 S5 h9) (hc1 : cs[i]? = some c5) (hO : ObjE w S5 vals5 dk y5 c5) :
    ObjJ w Sn hs g L pl tb oa ob1 n0 x9 d9 l9 es9 ne9 vals k dk cs (i + 1) (ys ++ [y5]) ((l9, W.listOf #[.ref x9] 0) :: (x9, instObj 183 d9) :: (d9, dictOf es9 ne9) :: (L + 1 + 1, oa) :: (L + 1, ob1) :: (pl, W.listOf #[.int k5 tk5] n0) :: (tb, otb5) :: darkOf S5 g) := by
  have e : ((i + 1 : Nat) : Int) * (ob dk : Int) = i * ob dk + ob dk := by
    rw [Int.natCast_add, Int.add_mul]; simp
  refine .mk k5 tk5 S5 otb5 vals5 b5 (by omega) (by rw [e]; omega) (List.IsPrefix.trans pre p5) (by rw [e]; omega) TB (by simp [hy]) fun j v c h1 h2 => ?_
  by_cases hj : j < i
  · rw [List.getElem?_append_left (by omega)] at h1
    exact ((tr j v c h1 h2).keeps z.old).grow p5
  · rw [List.getElem?_append_right (by omega)] at h1
    rw [hy] at h1
    cases q : j - i with
    | zero =>
      rw [q] at h1
      have : j = i := by omega
      subst this
      rw [hc1] at h2
      cases h1; cases h2
      exact hO
    | succ n => rw [q] at h1; cases h1
/-- the bounds that the turns need -/
inductive ObjB (items : List Value) (cs : List Tree) (i dk : Nat) (k k2 : Int) (vals vals2 : List Value) : Prop
  | mk (k0 : 0 ≤ k2) (k4 : k2 + ob dk ≤ 399) (hv : vals2.length + ob dk ≤ 44) (hi : i < cs.length)
theorem objB {items : List Value} {cs : List Tree} {i dk : Nat} {k k2 : Int} {vals vals2 : List Value} (hlen : items.length = cs.length) (hten : items.length ≤ 3) (hi : i < items.length) (hk : 0 ≤ k) (hk4 : k + ob (dk + 1) ≤ 399) (hv : vals.length + ob (dk + 1) ≤ 44) (a : k ≤ k2) (b : k2 ≤ k + i * ob dk) (vl : (vals2.length : Int) ≤ vals.length + i * ob dk) :
    ObjB items cs i dk k k2 vals vals2 := by
  have hi3 : (i : Int) * ob dk + ob dk ≤ 3 * ob dk := by
    have e : ((i + 1 : Nat) : Int) * (ob dk : Int) ≤ 3 * ob dk := Int.mul_le_mul_of_nonneg_right (Int.ofNat_le.mpr (Nat.lt_of_lt_of_le hi hten)) (Int.natCast_nonneg _)
    rwa [Int.natCast_succ, Int.add_mul, Int.one_mul] at e
  have hob : ob (dk + 1) = 1 + 3 * ob dk := rfl
  exact ⟨ar_e hk a, by omega, by omega, hlen ▸ hi⟩
/-- the bounds behind the turns -/
inductive ObjF (n : Nat) (dk : Nat) (k k2 : Int) (vals vals2 : List Value) : Prop
  | mk (k0 : 0 ≤ k2) (a : k ≤ k2 + 1) (b : k2 + 1 ≤ k + ob (dk + 1)) (c : vals2.length ≤ vals.length + ob (dk + 1)) (d : vals2.length + 1 ≤ vals.length + ob (dk + 1)) (e : vals2.length ≤ 100) (f : k2 ≤ 400)
theorem objF {n dk : Nat} {k k2 : Int} {vals vals2 : List Value} (hn : n ≤ 3) (hk : 0 ≤ k) (hk4 : k + ob (dk + 1) ≤ 399) (hv : vals.length + ob (dk + 1) ≤ 44) (a : k ≤ k2) (b : k2 ≤ k + n * ob dk) (vl : (vals2.length : Int) ≤ vals.length + n * ob dk) : ObjF n dk k k2 vals vals2 := by
  have hc9 : (n : Int) * ob dk ≤ 3 * ob dk := Int.mul_le_mul_of_nonneg_right (Int.ofNat_le.mpr hn) (Int.natCast_nonneg _)
  have hob : ob (dk + 1) = 1 + 3 * ob dk := rfl
  have h4 : vals2.length + 1 ≤ vals.length + ob (dk + 1) := by omega
  have h2 : k2 + 1 ≤ k + ob (dk + 1) := by omega
  exact ⟨ar_e hk a, ar_a a, h2, Nat.le_of_succ_le h4, h4, Nat.le_trans (Nat.le_of_succ_le h4) (Nat.le_trans hv (by decide)), Int.le_trans (Int.le_trans ar_1 h2) (Int.le_trans hk4 (by decide))⟩
theorem rn1 {d k n R : Nat} (h : d + 20 * (k + 1) + n < R) : d + 1 + 20 * k + n < R := by omega
theorem rn3 {d k n R : Nat} (h : d + 20 * (k + 1) + n < R) : d + 3 + 20 * k + n < R := by omega
theorem rn2 {d m n R : Nat} (h : d + m + n < R) (hn : 2 ≤ n) : d + 1 + 1 < R := by omega
theorem ys_len {ys items : List Value} {cs : List Tree} (hy : ys.length = items.toArray.size) (hlen : items.length = cs.length) (hten : items.length ≤ 3) : ys.length = cs.length ∧ ys.length ≤ 10 := by
  have e : ys.length = items.length := hy.trans (by simp)
  exact ⟨e.trans hlen, Nat.le_trans (Nat.le_of_eq e) (Nat.le_trans hten (by decide))⟩
theorem get_tail {vals2 : List Value} {v : Value} : (vals2 ++ [v])[((vals2.length : Int) + 1 - 1).toNat]? = some v := by
  have e : ((vals2.length : Int) + 1 - 1).toNat = vals2.length := by rw [Int.add_sub_cancel]; rfl
  rw [e]; simp
theorem len_one {vals2 vals : List Value} {v : Value} {n : Nat} (h : vals2.length + 1 ≤ vals.length + n) : (vals2 ++ [v]).length ≤ vals.length + n := by simpa using h
section
theorem obj_call {w : World} {St : Heap} {dk : Nat} {v : Value} {t : Tree} (ob9 : TreeAt St dk v t) : ∀ {A₀ : Around} {s : Shared} {base h₀ : Heap} {outer : List Env} {L : Addr} {m mg mb : Str → Option Value} {env : Env} {p : Program} {loose : List Str} {mean : ExcName → Option Value}
    {E : Value → Shared → Prop} {Q : Value → Shared → Prop} {news : List (Addr × Obj)} {dp un : Nat} {gd : Option (List Code)} {Sn : Heap} {f pl sh tb : Addr} {ns : List Int} {vals : List Value} {otb : Obj} {k : Int} {tk0 : Tok} {n0 : Nat} {u1 : Obj → List (Addr × Obj)} {u2 : Obj → Obj → List (Addr × Obj)}
    (C : Cx (hd.heap_1 w.params) A₀ base h₀ env outer L m p loose mean mg mb s news) (hroom : dp + 20 * dk + 60 < recursionLimit) (hun : un + 20 * dk + 80 < cLine)
    (kT : ∀ b o, St.get? b = some o → Sn.get? b = some o) (kS : ∀ b o, Sn.get? b = some o → s.heap.get? b = some o) (nP : Sn.get? pl = none) (nT : Sn.get? tb = none) (nep : pl ≠ tb) (Tk : TakeAt Sn f pl ns) (S : ShelfAt Sn sh tb) (lo : (tb == sysModules) = false) (TB : Tab w Sn otb vals)
    (U1 : UpdF pl (W.listOf #[.int k tk0] n0) news u1) (U2 : ∀ o, UpdF tb otb (u1 o) (u2 o)) (hk : 0 ≤ k) (hk4 : k + ob dk ≤ 399) (hv : vals.length + ob dk ≤ 44)
    (ret : ∀ y vals' otb' k' tk1 S' h' tk', ObjE w S' vals' dk y t → vals <+: vals' → vals'.length ≤ vals.length + ob dk → Tab w S' otb' vals' → Snp Sn s.heap S' h' → k ≤ k' → k' ≤ k + ob dk → Fr h₀ L h' m → News h₀ L h' (u2 (W.listOf #[.int k' tk1] n0) otb') → Keeps [pl, tb] s.heap h' → Q y { s with heap := h', toks := tk' }),
    wpAny (model PySem.Challenge.rw_pb0479_01.row.prog w) (At dp un gd env outer) (call (.ref 445) [.ref f, .ref sh, v]) Q E s := by
  induction ob9 with
  | group hx h1 h5 =>
    intro A₀ s base h₀ outer L m mg mb env p loose mean E Q news dp un gd Sn f pl sh tb ns vals otb k tk0 n0 u1 u2 C hroom hun kT kS nP nT nep Tk S lo TB U1 U2 hk hk4 hv ret
    rename_i dk x n t1 tn
    obtain ⟨B, F, X, T, N, hf, hke⟩ := C
    have Nm := mu2 N U1 U2
    revert X
    k_fill
    intro X
    refine wpAny_call ?_
    refine' enterKC [(pl, W.listOf #[.int k tk0] n0), (tb, otb)] B F X T Nm rfl hf hke ?ho ?hcd ?hr ?hb ?hl ?hn ?_ ?h1 ?h2 ?h3
    case ho => k_dflt k_is
    case hcd => k_dflt k_is
    case hr => first | exact rn2 (by assumption) (by decide) | k_room
    case hb => first | exact binds_K (by k_in) rfl (by k_is) rfl rfl rfl | exact BindsTo.of_eq rfl
    case hl => exact rfl
    case hn => decide +kernel
    case h1 => rfl
    case h2 => rfl
    case h3 => rfl
    intro g' L' h' tk9 cells hg1 hg2 hg3 hL F' N' Y' B' X' T' hlt
    k_cells Y'
    rename_i oa ob₁ da db
    (try simp only [List.cons_append, List.nil_append, List.append_nil] at N')
    have kg : ∀ b o, Sn.get? b = some o → g'.get? b = some o := fun b o e => hg1 b o (kS b o e) (fun q => by
      have := two_none nP nT b q
      rw [this] at e; cases e)
    have Tk' := Tk.mono kg
    have S' := S.keeps kg
    obtain ⟨dx, es, q, i1, i2, j1, j2, j3, j4⟩ := S'.w
    have hq : @LT.lt Nat instLTNat pl L' := hlt (pl, _) (.head _)
    have hqt : @LT.lt Nat instLTNat tb L' := hlt (tb, _) (.tail _ (.head _))
    have hx' := kg _ _ (kT _ _ hx)
    have nep1 : @Ne Nat pl tb := nep
    have F₀ := F
    have N₀ := N
    show wpAny _ _ _ _ _ _
    k_fold
    clear N F Nm
    k_steps
    all_goals (
      (with_reducible rename Fr _ _ _ _ => Fz)
      (with_reducible rename News _ _ _ _ => Nz)
      have kp := keeps_back (mu := [(pl, _), (tb, _)]) Fz hg1 hL
      have hsn := snp_keeps kp kS (two_none nP nT)
      have fr : ∀ {a : Addr} {o : Obj}, (a, o) ∈ _ → (∀ b ∈ [pl, tb], a ≠ b) → s.heap.get? a = none := fun {a o} hm n => fresh_mu (mu := [(pl, _), (tb, _)]) (a := a) (o := o) Nz hm hg1 n
      have TB' : Tab w (snap Sn s.heap _) otb vals := TB.keeps (fun b o e => snap_old e (hsn b o e))
      have f1 := fr (.head _) (two_ne (by k_ne) (by k_ne))
      have f2 := fr (.tail _ (.head _)) (two_ne (by k_ne) (by k_ne))
      refine ret _ vals otb k _ _ _ _ (fun vals' p l => ?_) (List.prefix_refl _) (by first | exact Nat.le_add_right _ _ | exact Int.le_refl _ | exact Int.le_add_of_nonneg_right (Int.natCast_nonneg _) | omega) TB' (snp_snap hsn) (by first | exact Nat.le_add_right _ _ | exact Int.le_refl _ | exact Int.le_add_of_nonneg_right (Int.natCast_nonneg _) | omega) (by first | exact Nat.le_add_right _ _ | exact Int.le_refl _ | exact Int.le_add_of_nonneg_right (Int.natCast_nonneg _) | omega) (fr_keeps F₀ kp (two_all (N₀ _ (updF_mem U1)).2 (N₀ _ (upd2_mem U1 U2)).2)) (news_upd2 N₀ U1 U2 kp (Nz (pl, _) (by k_mem)).1 (Nz (tb, _) (by k_mem)).1) kp
      first
        | exact .group (by omega) ⟨⟨_, _, _, _, _, ⟨snap_new f1 (Nz _ (.head _)).1, snap_new f2 (Nz _ (.tail _ (.head _))).1⟩, rfl, rfl⟩⟩ (TB'.isG p ⟨⟨_, _, _, _, _, ⟨snap_new f1 (Nz _ (.head _)).1, snap_new f2 (Nz _ (.tail _ (.head _))).1⟩, rfl, rfl⟩⟩ h1 (by omega))
        | exact .lost (by omega) (.miss (n := 50) ⟨⟨_, _, _, _, _, ⟨snap_new f1 (Nz _ (.head _)).1, snap_new f2 (Nz _ (.tail _ (.head _))).1⟩, rfl, rfl⟩⟩ (by omega)) (.miss (n := 50) ⟨⟨_, _, _, _, _, ⟨snap_new f1 (Nz _ (.head _)).1, snap_new f2 (Nz _ (.tail _ (.head _))).1⟩, rfl, rfl⟩⟩ (by omega)))
  | node hx hl hw hlen hten hcs ih =>
    intro A₀ s base h₀ outer L m mg mb env p loose mean E Q news dp un gd Sn f pl sh tb ns vals otb k tk0 n0 u1 u2 C hroom hun kT kS nP nT nep Tk S lo TB U1 U2 hk hk4 hv ret
    rename_i dk x l wd tw items cs kx
    obtain ⟨B, F, X, T, N, hf, hke⟩ := C
    have Nm := mu2 N U1 U2
    revert X
    k_fill
    intro X
    refine wpAny_call ?_
    refine' enterKC [(pl, W.listOf #[.int k tk0] n0), (tb, otb)] B F X T Nm rfl hf hke ?ho ?hcd ?hr ?hb ?hl ?hn ?_ ?h1 ?h2 ?h3
    case ho => k_dflt k_is
    case hcd => k_dflt k_is
    case hr => first | exact rn2 (by assumption) (by decide) | k_room
    case hb => first | exact binds_K (by k_in) rfl (by k_is) rfl rfl rfl | exact BindsTo.of_eq rfl
    case hl => exact rfl
    case hn => decide +kernel
    case h1 => rfl
    case h2 => rfl
    case h3 => rfl
    intro g' L' h' tk9 cells hg1 hg2 hg3 hL F' N' Y' B' X' T' hlt
    k_cells Y'
    rename_i oa ob₁ da db
    (try simp only [List.cons_append, List.nil_append, List.append_nil] at N')
    have kg : ∀ b o, Sn.get? b = some o → g'.get? b = some o := fun b o e => hg1 b o (kS b o e) (fun q => by
      have := two_none nP nT b q
      rw [this] at e; cases e)
    have Tk' := Tk.mono kg
    have S' := S.keeps kg
    obtain ⟨dx, es, q, i1, i2, j1, j2, j3, j4⟩ := S'.w
    have hq : @LT.lt Nat instLTNat pl L' := hlt (pl, _) (.head _)
    have hqt : @LT.lt Nat instLTNat tb L' := hlt (tb, _) (.tail _ (.head _))
    have hx' := kg _ _ (kT _ _ hx)
    have nep1 : @Ne Nat pl tb := nep
    have F₀ := F
    have N₀ := N
    have hl' := kg _ _ (kT _ _ hl)
    have hwg : (wd == Str.ofString "group") = false := by rcases hw with rfl | rfl | rfl | rfl <;> decide
    show wpAny _ _ _ _ _ _
    k_fold
    clear N F Nm
    k_steps
    rename_i x9 d9 _ lx1 lx2 _ _ _ _ _ _ _ _ _ _ _ l9 h9 Fz Nz lx3
    obtain ⟨es9, ne9, tt9, Nz', hgt⟩ : ∃ es ne tt, News g' L' h9 [(l9, W.listOf #[.ref x9] 0), (x9, instObj 183 d9), (d9, dictOf es ne), (L' + 1 + 1, oa), (L' + 1, ob₁), (pl, W.listOf #[.int k tk0] n0), (tb, otb)] ∧ getL (Str.ofString "text") es = some (some (.str wd tt)) := ⟨_, _, _, Nz, rfl⟩
    refine unhalt ?_
    have hsz : items.toArray.size ≤ sizeLine := Nat.le_trans (by simpa using hten) (by decide : 3 ≤ sizeLine)
    refine LCg.CompSrc.base rfl Fz Nz' ⟨_, hl', rfl, _, rfl⟩ hsz fun g2 => ?_
    clear Nz
    refine rest_ind (ObjJ w Sn s.heap g' L' pl tb oa ob₁ n0 x9 d9 l9 es9 ne9 vals k dk cs) ?_ ?_ ?_
    · have z := ObjJ.mk (w := w) (oa := oa) (ob1 := ob₁) (n0 := n0) (x9 := x9) (d9 := d9) (l9 := l9) (es9 := es9) (ne9 := ne9) (dk := dk) (cs := cs) (i := 0) (ys := []) k tk0 Sn otb vals (Bld.init kg kS hL (two_none nP nT)) (Int.le_refl _) (by simp) (List.prefix_refl _) (by simp) TB rfl (fun j v c e => by simp at e)
      rw [dark_nil kg] at z
      exact z
    · rintro i hi ys nw ⟨k2, tk2, S2, otb2, vals2, bl, hk2, hk2', hpre, hvl, TB2, hys, htr⟩ v I oI Cc oC Dd m₂ hh tk3 E' hv5 hC hx2 Ft Nt off ne
      have hv1 : items[i]? = some v := by simpa using hv5
      obtain ⟨b0, b4, bv, bi⟩ := objB hlen hten (List.getElem?_eq_some_iff.mp hv1).1 hk hk4 hv hk2 hk2' hvl
      have hc1 : cs[i]? = some cs[i] := List.getElem?_eq_getElem bi
      obtain ⟨nI, nC, nD⟩ := bl.off3 Nt off (fun p hp => .tail _ (.tail _ (.tail _ (.tail _ (.tail _ (.tail _ (.tail _ hp)))))))
      have o6 := off.2.2.2.2.2.1
      have o7 := off.2.2.2.2.2.2.1
      dsimp only at o6 o7
      have hpl := bl.offX pl (.head _)
      have htb := bl.offX tb (.tail _ (.head _))
      k_steps
      refine unhalt ?_
      refine' ih i v cs[i] hv1 hc1 ⟨?B, ?F, ?X, ?T, ?N, rfl, rfl⟩ ?r ?u (fun b o e => bl.old b o (kT b o e)) ?kS hpl htb nep (Tk.mono bl.old) (S.keeps bl.old) lo TB2 ?U1 ?U2 ?k0 ?k4 ?hv ?ret
      case B => k_asm
      case F => exact Ft
      case X => k_asm
      case T => k_asm
      case N => exact Nt
      case r => first | exact rn1 (by assumption) | k_room
      case u => first | exact rn3 (by assumption) | kwd_inv
      case kS => exact bl.isIn Ft Nt (fun p hp => .tail _ (.tail _ (.tail _ (.tail _ (.tail _ (.tail _ (.tail _ (.tail _ (.tail _ (.tail _ hp))))))))))
      case U1 => k_updF
      case U2 => intro o; k_updF
      case k0 => exact b0
      case k4 => exact b4
      case hv => exact bv
      case ret =>
        intro y5 vals5 otb5 k5 tk5 S5 h5 tk6 hO hp5 hl5 TB5 z hk5a hk5b F5 N5 kp5
        (try dsimp only at N5)
        have N6 := news_dark Ft N5 z bl.offL
        have b5 := bl.next Ft (two_all ⟨_, (Nt (pl, _) (by k_mem)).1⟩ ⟨_, (Nt (tb, _) (by k_mem)).1⟩) (fun b o e n => hg1 b o e n) z F5.keep
        k_steps
        change LCg.CompEnd _ _ _ _ _ _ _ _ _ _ _ _ _ _
        refine LCg.CompEnd.intro F5 N6 ((l9, W.listOf #[.ref x9] 0) :: (x9, instObj 183 d9) :: (d9, dictOf es9 ne9) :: (L' + 1 + 1, oa) :: (L' + 1, ob₁) :: (pl, W.listOf #[.int k5 tk5] n0) :: (tb, otb5) :: darkOf S5 g') ?sub ?off (Or.inl ⟨_, hl', rfl, _, rfl⟩) ?r
        case sub => exact sub_pre [_, _, _, _, _, _, _, _, _, _]
        case off => exact ⟨off.1, off.2.1, off.2.2.1, off.2.2.2.1, off.2.2.2.2.1, off.2.2.2.2.2.1, off.2.2.2.2.2.2.1, LCg.Off3.of fun p hp => ⟨dark_off (z.off nI (Nt _ (.head _)).1) p hp, dark_off (z.off nC (Nt _ (.tail _ (.head _))).1) p hp, dark_off (z.off nD (Nt _ (.tail _ (.tail _ (.head _)))).1) p hp⟩⟩
        case r => exact ObjJ.add b5 hk2 hk5a hk5b hk2' hpre hp5 hl5 hvl TB5 hys htr z hc1 hO
    · rintro ys nw ⟨k2, tk2, S2, otb2, vals2, bl, hk2, hk2', hpre, hvl, TB2, hys, htr⟩ Dl h3 tk3 F3 N3 off3
      obtain ⟨c0, c1, c2, c3, c4, c5, c6⟩ := objF (by simpa using hten) hk hk4 hv hk2 hk2' hvl
      obtain ⟨yl1, yl2⟩ := ys_len hys hlen hten
      have hpl := bl.offX pl (.head _)
      have htb := bl.offX tb (.tail _ (.head _))
      have o6 := off3.2.2.2.2.2.1
      have o7 := off3.2.2.2.2.2.2.1
      dsimp only at o6 o7
      clear Fz Nz'
      have sz1 : @LT.lt Nat instLTNat pl h3.objs.size := Heap.lt_size (N3 (pl, _) (by k_mem)).1
      have sz2 : @LT.lt Nat instLTNat tb h3.objs.size := Heap.lt_size (N3 (tb, _) (by k_mem)).1
      k_steps
      (with_reducible rename Fr _ _ _ _ => Fz)
      (with_reducible rename News _ _ _ _ => Nz)
      dsimp only at Fz Nz
      walk_at "TAKE"
      intro r tr tk1 h5 tk5 hr0 hr1 F5 N5 k5
      clear k5
      rcases Decidable.em (r = 0) with rfl | hr
      · k_steps
        refine unhalt ?_
        have hS2 := bl.isIn F5 N5 (fun p hp => .tail _ (.tail _ (.tail _ (.tail _ (.tail _ (.tail _ (.tail _ (.tail _ (.tail _ hp)))))))))
        refine' add_call ⟨?B, ?F, ?X, ?T, ?N, rfl, rfl⟩ ?r hS2 htb (S.keeps bl.old) ?U TB2.tab ?hv lo ?ret
        case B => k_asm
        case F => exact F5
        case X => k_asm
        case T => k_asm
        case N => exact N5
        case r => k_room
        case U => k_updF
        case hv => exact c5
        intro x2 otb3 S3 h6 tk6 z3 R3 T3 F6 N6 k6
        (try dsimp only at N6)
        have b3 := bl.next F5 (two_all ⟨_, (N5 (pl, _) (by k_mem)).1⟩ ⟨_, (N5 (tb, _) (by k_mem)).1⟩) (fun b o e n => hg1 b o e n) z3 F6.keep
        k_steps
        have kp := keeps_back (mu := [(pl, _), (tb, _)]) F6 hg1 hL
        have hsn := snp_keeps kp kS (two_none nP nT)
        have fr : ∀ {a : Addr} {o : Obj}, (a, o) ∈ _ → (∀ b ∈ [pl, tb], a ≠ b) → s.heap.get? a = none := fun {a o} hm n => fresh_mu (mu := [(pl, _), (tb, _)]) (a := a) (o := o) N6 hm hg1 n
        have f1 := fr (.head _) (two_ne (by k_ne) (by k_ne))
        have f2 := fr (.tail _ (.tail _ (.tail _ (.head _)))) (two_ne (by k_ne) (by k_ne))
        have f3 := fr (.tail _ (.tail _ (.tail _ (.tail _ (.head _))))) (two_ne (by k_ne) (by k_ne))
        have hrow : (snap Sn s.heap h6).get? h3.objs.size = some { cls := .type "list", data := .seq (.ref x9 :: ys).toArray } := snap_new f1 (N6 _ (.head _)).1
        have hnm : NameAt (snap Sn s.heap h6) x9 wd := ⟨⟨d9, es9, ne9, tt9, ⟨snap_new f2 (N6 _ (.tail _ (.tail _ (.tail _ (.head _))))).1, snap_new f3 (N6 _ (.tail _ (.tail _ (.tail _ (.tail _ (.head _)))))).1⟩, hgt⟩⟩
        have up3 := b3.up z3.sub
        have hR := R3.keeps up3
        have hget : (vals2 ++ [Value.ref h3.objs.size])[((vals2.length : Int) + 1 - 1).toNat]? = some (.ref h3.objs.size) := get_tail
        refine ret _ (vals2 ++ [.ref h3.objs.size]) otb3 (k2 + 1) tk1 _ _ _ (fun vals' p l => ?_) (List.IsPrefix.trans hpre (List.prefix_append _ _)) ?_ (TB2.add (T3.keeps up3) (fun b o e => up3 b o (z3.old b o e)) (.list hrow rfl)) (snp_snap hsn) c1 c2 (fr_keeps F₀ kp (two_all (N₀ _ (updF_mem U1)).2 (N₀ _ (upd2_mem U1 U2)).2)) (news_upd2 N₀ U1 U2 kp (N6 (pl, _) (by k_mem)).1 (N6 (tb, _) (by k_mem)).1) kp
        · exact .node (.list hR (by omega) (pre_get p hget) hrow rfl) (.hit hR (by omega) (pre_get p hget)) hrow hnm yl1 yl2 fun i v c h1 h2 => (htr i v c h1 h2 vals' (List.IsPrefix.trans (List.prefix_append _ _) p) l).keeps fun b o e => up3 b o (z3.old b o e)
        · exact len_one c4
      · k_steps
        all_goals (try (exfalso; omega))
        have hS2 := bl.isIn F5 N5 (fun p hp => .tail _ (.tail _ (.tail _ (.tail _ (.tail _ (.tail _ (.tail _ (.tail _ (.tail _ hp)))))))))
        have kp := keeps_back (mu := [(pl, _), (tb, _)]) F5 hg1 hL
        have hsn := snp_keeps kp kS (two_none nP nT)
        have fr : ∀ {a : Addr} {o : Obj}, (a, o) ∈ _ → (∀ b ∈ [pl, tb], a ≠ b) → s.heap.get? a = none := fun {a o} hm n => fresh_mu (mu := [(pl, _), (tb, _)]) (a := a) (o := o) N5 hm hg1 n
        have f1 := fr (.head _) (two_ne (by k_ne) (by k_ne))
        have f2 := fr (.tail _ (.tail _ (.tail _ (.head _)))) (two_ne (by k_ne) (by k_ne))
        have f3 := fr (.tail _ (.tail _ (.tail _ (.tail _ (.head _))))) (two_ne (by k_ne) (by k_ne))
        have hrow : (snap Sn s.heap h5).get? h3.objs.size = some { cls := .type "list", data := .seq (.ref x9 :: ys).toArray } := snap_new f1 (N5 _ (.head _)).1
        have hnm : NameAt (snap Sn s.heap h5) x9 wd := ⟨⟨d9, es9, ne9, tt9, ⟨snap_new f2 (N5 _ (.tail _ (.tail _ (.tail _ (.head _))))).1, snap_new f3 (N5 _ (.tail _ (.tail _ (.tail _ (.tail _ (.head _)))))).1⟩, hgt⟩⟩
        have up3 := bl.up hS2
        refine ret _ vals2 otb2 (k2 + 1) tk1 _ _ _ (fun vals' p l => ?_) hpre c3 (TB2.keeps up3) (snp_snap hsn) c1 c2 (fr_keeps F₀ kp (two_all (N₀ _ (updF_mem U1)).2 (N₀ _ (upd2_mem U1 U2)).2)) (news_upd2 N₀ U1 U2 kp (N5 (pl, _) (by k_mem)).1 (N5 (tb, _) (by k_mem)).1) kp
        exact .node (.plain (.list hrow rfl)) (.plain (.list hrow rfl)) hrow hnm yl1 yl2 fun i v c h1 h2 => (htr i v c h1 h2 vals' p l).keeps up3
end
end
section -- L0
open PySem PySem.W PyProof.Rows PySem.Spec PySem.Calls PySem.SeqAt
structure SubMark : Prop where
structure DueMark : Prop where
noncomputable def lay (kv : List (Str × Value)) (u : Str → Option Value) : Str → Option Value := fun y => (List.lookup y kv).orElse fun _ => u y
theorem lay_norm {kv : List (Str × Value)} {mz : Str → Option Value} (h : ∀ p ∈ kv, mz p.1 = some p.2) : mz = lay kv mz := by
  funext y
  unfold lay
  cases q : List.lookup y kv with
  | none => rfl
  | some v =>
    obtain ⟨l1, l2, e, _⟩ := List.lookup_eq_some_iff.mp q
    have := h (y, v) (by rw [e]; simp)
    rw [this]; rfl
/-- what a frame tells of the names of kv -/
inductive LayOk (m : Str → Option Value) : List (Str × Value) → Prop
  | nil : LayOk m []
  | cons {a : Str} {v : Value} {l : List (Str × Value)} (h : m a = some v) (t : LayOk m l) : LayOk m ((a, v) :: l)
theorem LayOk.all {m : Str → Option Value} {kv : List (Str × Value)} (e : LayOk m kv) : ∀ p ∈ kv, m p.1 = some p.2 := by
  induction e with
  | nil => exact fun _ h => nomatch h
  | cons h _ ih =>
    intro p hp
    rcases List.mem_cons.mp hp with rfl | hp
    · exact h
    · exact ih p hp
theorem fr_lay {g h : Heap} {L : Addr} {kv : List (Str × Value)} {mz : Str → Option Value} (F : Fr g L h mz) (e : ∀ p ∈ kv, mz p.1 = some p.2) : Fr g L h (lay kv mz) := by
  have q := lay_norm e
  rw [← q]; exact F
theorem fr_layI {g h : Heap} {L : Addr} {kv : List (Str × Value)} {mz : Str → Option Value} (F : Fr g L h mz) (e : LayOk mz kv) : Fr g L h (lay kv mz) := fr_lay F e.all
theorem three_ne {x a b c : Addr} (h1 : x ≠ a) (h2 : x ≠ b) (h3 : x ≠ c) : ∀ y ∈ [a, b, c], x ≠ y := by
  intro y hy
  simp only [List.mem_cons, List.not_mem_nil, or_false] at hy
  rcases hy with rfl | rfl | rfl <;> assumption
theorem three_of {P : Addr → Prop} {a b c d e : Addr} (h : ∀ x ∈ [a, b, c, d, e], P x) : ∀ y ∈ [a, b, c], P y := fun y hy => h y (by
  simp only [List.mem_cons, List.not_mem_nil, or_false] at hy ⊢
  rcases hy with h | h | h <;> simp [h])
theorem news3d {g h : Heap} {L a b c : Addr} {oa ob oc : Obj} {dk : List (Addr × Obj)} (ha : h.get? a = some oa ∧ a ≠ L ∧ g.get? a = none) (hb : h.get? b = some ob ∧ b ≠ L ∧ g.get? b = none) (hc : h.get? c = some oc ∧ c ≠ L ∧ g.get? c = none)
    (hk : ∀ p ∈ dk, h.get? p.1 = some p.2 ∧ p.1 ≠ L ∧ g.get? p.1 = none) : News g L h ((a, oa) :: (b, ob) :: (c, oc) :: dk) := by
  intro p hp
  simp only [List.mem_cons] at hp
  rcases hp with rfl | rfl | rfl | hp
  · exact ha
  · exact hb
  · exact hc
  · exact hk p hp
structure TreeMark : Prop where
theorem three_all {P : Addr → Prop} {a b c : Addr} (h1 : P a) (h2 : P b) (h3 : P c) : ∀ y ∈ [a, b, c], P y := by
  intro y hy
  simp only [List.mem_cons, List.not_mem_nil, or_false] at hy
  rcases hy with rfl | rfl | rfl <;> assumption
theorem tup_dark {S h : Heap} {t : Addr} {its : Array Value} {n : Nat} (k : ∀ b o, S.get? b = some o → h.get? b = some o) (e : S.get? t = some ({ cls := .type "tuple", data := .seq its n } : Obj)) : IsTup h t its := ⟨_, k _ _ e, rfl, n, rfl⟩
structure ItemMark : Prop where
theorem list_item0 {prog : Program} {w : World} {A : Around} {E : Value → Shared → Prop} {s : Shared} {value slice : PySem.Expr} {l : Addr} {a : Value} {r : List Value} {u : Tok} {Q : Value → Shared → Prop} (ht : s.heap.IsList l (a :: r).toArray) (h : Q a s)
    (hs : subscripted slice false (.ref l) (.int 0 u) = operate [.ref l, .int 0 u] (getItem (.ref l) (.int 0 u)) := by with_unfolding_all rfl) (hg : ∀ r, letTemporaryGo value (.ref l) r = pure () := by intro _; with_unfolding_all rfl) :
    wpAny (model prog w) A (subscriptTail value slice (.ref l) (.int 0 u)) Q E s := item_listL (x := a) ht (by decide) (by decide) rfl h hs hg
theorem inst_dark {S h : Heap} {x C dx : Addr} {od : Obj} (k : ∀ b o, S.get? b = some o → h.get? b = some o) (e1 : S.get? x = some (instObj C dx)) (e2 : S.get? dx = some od) : PySem.W.InstAt h x (instObj C dx) C (some od) := ⟨k _ _ e1, rfl, rfl, k _ _ e2⟩
theorem six_none {S : Heap} {a b c d e f : Addr} (h : ∀ x ∈ [a, b, c, d, e], S.get? x = none) (n : S.get? f = none) : ∀ x ∈ [a, b, c, d, e, f], S.get? x = none := by
  intro x hx
  simp only [List.mem_cons, List.not_mem_nil, or_false] at hx h
  rcases hx with q | q | q | q | q | q
  · exact h x (.inl q)
  · exact h x (.inr (.inl q))
  · exact h x (.inr (.inr (.inl q)))
  · exact h x (.inr (.inr (.inr (.inl q))))
  · exact h x (.inr (.inr (.inr (.inr q))))
  · rw [q]; exact n
theorem none_up {S h : Heap} {a : Addr} (k : ∀ b o, S.get? b = some o → h.get? b = some o) (n : h.get? a = none) : S.get? a = none := by
  cases q : S.get? a with
  | none => rfl
  | some o => rw [k _ _ q] at n; cases n
theorem tup_sym {prog : Program} {w : World} {A : Around} {E : Value → Shared → Prop} {s : Shared} {value slice : PySem.Expr} {t : Addr} {l : List Value} {k : Int} {u : Tok} {x : Value} {Q : Value → Shared → Prop} (ht : IsTup s.heap t l.toArray)
    (h0 : 0 ≤ k) (h1 : k < 100) (hx : l[k.toNat]? = some x) (h : Q x s)
    (hs : subscripted slice false (.ref t) (.int k u) = operate [.ref t, .int k u] (getItem (.ref t) (.int k u)) := by with_unfolding_all rfl) :
    wpAny (model prog w) A (subscriptTail value slice (.ref t) (.int k u)) Q E s := by
  have hlt := (List.getElem?_eq_some_iff.mp hx).1
  refine item_tupleT (j := k.toNat) ht (by omega) (by omega) ?_ hx h hs
  unfold seqIndex?
  have e : ¬ k < 0 := by omega
  simp only [e, if_false]
  rw [if_pos]
  simp only [Bool.and_eq_true, decide_eq_true_eq]
  omega
theorem tup_pick {prog : Program} {w : World} {A : Around} {E : Value → Shared → Prop} {s : Shared} {value slice : PySem.Expr} {t : Addr} {a1 a2 a3 a4 a5 a6 a7 a8 : Value} {k : Int} {u : Tok} {Q : Value → Shared → Prop} (ht : IsTup s.heap t [a1, a2, a3, a4, a5, a6, a7, a8].toArray)
    (h0 : 0 ≤ k) (h1 : k < 8) (P : Value → Prop) (p1 : k = 0 → P a1) (p2 : k = 1 → P a2) (p3 : k = 2 → P a3) (p4 : k = 3 → P a4) (p5 : k = 4 → P a5) (p6 : k = 5 → P a6) (p7 : k = 6 → P a7) (p8 : k = 7 → P a8) (h : ∀ x, P x → Q x s)
    (hs : subscripted slice false (.ref t) (.int k u) = operate [.ref t, .int k u] (getItem (.ref t) (.int k u)) := by with_unfolding_all rfl) :
    wpAny (model prog w) A (subscriptTail value slice (.ref t) (.int k u)) Q E s := by
  obtain ⟨x, hx, px⟩ : ∃ x, [a1, a2, a3, a4, a5, a6, a7, a8][k.toNat]? = some x ∧ P x := by
    rcases (by omega : k = 0 ∨ k = 1 ∨ k = 2 ∨ k = 3 ∨ k = 4 ∨ k = 5 ∨ k = 6 ∨ k = 7) with e | e | e | e | e | e | e | e
    · exact ⟨a1, by rw [e]; rfl, p1 e⟩
    · exact ⟨a2, by rw [e]; rfl, p2 e⟩
    · exact ⟨a3, by rw [e]; rfl, p3 e⟩
    · exact ⟨a4, by rw [e]; rfl, p4 e⟩
    · exact ⟨a5, by rw [e]; rfl, p5 e⟩
    · exact ⟨a6, by rw [e]; rfl, p6 e⟩
    · exact ⟨a7, by rw [e]; rfl, p7 e⟩
    · exact ⟨a8, by rw [e]; rfl, p8 e⟩
  exact tup_sym ht h0 (by omega) hx (h x px) hs

section
variable {M : Model} {A : Around} {E : Value → Shared → Prop} {h₀ : Heap} {L a : Addr} {m : Str → Option Value} {cn : Str} {cs : Scope} {ccd : Value} {cl : List (Str × Addr)}
/-- a local function made, called upon simple arguments -/
theorem callfn_sim {x : Str} {px pos : Pos} {f : Addr} {e : PySem.Expr} {rest : List PySem.Expr} {hp : Heap} {gn : Array GenState} {dr : Drawn} {tk : Nat} {os : OsState} {vs : List Value} {t' : Nat} {Q : Value → Shared → Prop} (F : Fr h₀ L hp m) (hx : m x = some (.ref f)) (T : FnIn f hp)
    (ha : simA (envX cn cs L a ccd cl).kindOf m (e :: rest) tk = some (vs, t')) (h : wpAny M A (call (.ref f) vs) Q E ⟨hp, gn, dr, t', os⟩)
    (hk : cs.kind = .function := by rfl) (hkx : (envX cn cs L a ccd cl).kindOf x = some .local := by rfl) (hd : (x == ("__debug__" : Str)) = false := by decide) :
    wpAny M A (eval (.Call (.Name x px) (e :: rest) [] pos) (envX cn cs L a ccd cl)) Q E ⟨hp, gn, dr, tk, os⟩ := by
  refine Call_ (nameX_L F hx ?_ hk hkx hd)
  have h1 := ha
  unfold simA at h1
  split at h1
  · rename_i v t1 h2
    split at h1
    · rename_i vs' t2 h3
      have he := star_sim (env := envX cn cs L a ccd cl) (rest := rest) h2
      have z := args_sim (M := M) (A := A) (E := E) (pos := pos) (s := ⟨hp, gn, dr, tk, os⟩) (Q := fun vs s₁ => FnIn f s₁.heap ∧ wpAny M A (call (.ref f) ([] ++ vs)) Q E s₁) hk F ha ⟨T, h⟩
      rw [he] at z ⊢
      exact callWith_of (by show ((false || (backTo pos (starEach rest (envX cn cs L a ccd cl))).any (·.1)) || false) = false; rw [plain_sim h3]; rfl) keeps_fn (evalArgs_plain z)
    · cases h1
  · cases h1
end
section
variable {prog : Program} {w : World} {A : Around} {E : Value → Shared → Prop} {h₀ : Heap} {L a : Addr} {m : Str → Option Value} {cn : Str} {cs : Scope} {ccd : Value} {cl : List (Str × Addr)}
/-- a local int held against a written one -/
theorem eqt_sim {x : Str} {px pc pos : Pos} {whole : Sem Value} {c i : Int} {kd : Nat} {t : Tok} {hp : Heap} {gn : Array GenState} {dr : Drawn} {tk : Nat} {os : OsState} {Q : Bool → Shared → Prop} (F : Fr h₀ L hp m) (hx : m x = some (.int i t)) (h : Q (i == c) ⟨hp, gn, dr, tk + 1, os⟩)
    (hk : cs.kind = .function := by rfl) (hkx : (envX cn cs L a ccd cl).kindOf x = some .local := by rfl) (hd : (x == ("__debug__" : Str)) = false := by decide) :
    wpAny (model prog w) A (isTrue (.Compare (.Name x px) [.Eq] [.Constant (.int c) kd pc] pos) (envX cn cs L a ccd cl) whole) Q E ⟨hp, gn, dr, tk, os⟩ :=
  wpAny_isTrue_Compare1 (nameX_L F hx (wpAny_Constant_int (PyProof.Rows.eq_int (wpAny_truthy_bool h))) hk hkx hd)
end
end
section -- L1
open PySem PySem.W PyProof.Rows PySem.Spec PySem.Calls PySem.SeqAt
structure LMark : Prop where


theorem Bld.ground {g h : Heap} {L' : Addr} {X : List Addr} {m : Str → Option Value} (F : Fr g L' h m) (nX : ∀ a ∈ X, g.get? a = none) : Bld g g g L' X g :=
  ⟨fun _ _ e => e, fun _ o e => .inl ⟨o, e⟩, laid (fun _ _ e => e) (fun _ _ e => e), kts_self F, nX⟩
theorem cn_law {g h : Heap} {L' : Addr} {nw : List (Addr × Obj)} {X : List Addr} {a : Addr} {o : Obj} (N : News g L' h nw) (hm : (a, o) ∈ nw) (n : ∀ y ∈ X, a ≠ y) : (cmp g g h L' X).get? a = some o := cmp_new (N _ hm).1 (N _ hm).2.2 (N _ hm).2.1 (not_mem_of_ne n)
theorem one_ne {x a : Addr} (h : x ≠ a) : ∀ y ∈ [a], x ≠ y := fun y hy => by rw [List.mem_singleton.mp hy]; exact h
theorem one_none {S : Heap} {a : Addr} (h : S.get? a = none) : ∀ y ∈ [a], S.get? y = none := fun y hy => by rw [List.mem_singleton.mp hy]; exact h
theorem news1 {g h : Heap} {L a : Addr} {oa : Obj} {dk : List (Addr × Obj)} (ha : h.get? a = some oa ∧ a ≠ L ∧ g.get? a = none) (hk : ∀ p ∈ dk, h.get? p.1 = some p.2 ∧ p.1 ≠ L ∧ g.get? p.1 = none) : News g L h ((a, oa) :: dk) := by
  intro p hp
  rcases List.mem_cons.mp hp with rfl | hp
  · exact ha
  · exact hk p hp
theorem takeAt_of {h : Heap} {f pl : Addr} {ns : List Int} {qual : Str} {P : Arguments} {B : List Stmt} {Sc : Scope} {dc pm ct : Value} {c' c1 c2 cl : Addr} {oc o1 o2 : Obj} {vs : Array Value} {t : Tok} {ws : List Value} {n : Nat}
    (e1 : h.get? f = some (fnMade (Str.ofString "take") qual P B Sc [(Str.ofString "place", c1), (Str.ofString "cells", c2)] dc pm c' ct)) (hP : takeParams = P) (hB : takeBody = B) (hS : takeScope = Sc)
    (e2 : h.get? c' = some oc) (e3 : oc.data = .fields vs) (e4 : vs[1]? = some (.str qual t)) (e5 : h.get? c1 = some o1) (e6 : o1.data = .cell (some (.ref pl))) (e7 : h.get? c2 = some o2) (e8 : o2.data = .cell (some (.ref cl)))
    (e9 : h.get? cl = some (W.listOf ws.toArray n)) (e10 : cl ≠ pl) (e11 : IntsAre ws ns) (ne : ns ≠ []) (len : ns.length ≤ 63) : TakeAt h f pl ns := by
  subst hP hB hS
  exact ⟨_, _, _, _, _, _, _, _, _, _, _, _, _, _, _, e1, e2, e3, e4, e5, e6, e7, e8, e9, e10, e11, ne, len⟩
theorem ints_one {t : Tok} : IntsAre [.int 1 t] [1] := by
  exact .cons 1 t .nil
theorem lo_gt {d : Addr} (h : @LT.lt Nat instLTNat 1 d) : (d == sysModules) = false := by
  have : @Ne Nat d 1 := by omega
  exact beq_eq_false_iff_ne.mpr this
theorem get_last {l : List Value} {a : Value} : (l ++ [a])[l.length]? = some a := by simp
theorem tabObj_nil {w : World} {S : Heap} {otb : Obj} (h : otb.IsDictOf (ik w) []) : TabObj w S otb [] := ⟨⟨[], h, rfl, fun n _ => rfl, fun n v _ h2 => by simp at h2⟩⟩
theorem allLt_mem {d : Nat} {l : List (Addr × Obj)} (h : AllLt d l) {p : Addr × Obj} (hp : p ∈ l) : @LT.lt Nat instLTNat p.1 d := by
  induction l with
  | nil => cases hp
  | cons q r ih =>
    rcases List.mem_cons.mp hp with e | hp
    · rw [e]; exact h.1
    · exact ih h.2 hp
theorem news2d {g h : Heap} {L a b : Addr} {oa ob : Obj} {dk : List (Addr × Obj)} (ha : h.get? a = some oa ∧ a ≠ L ∧ g.get? a = none) (hb : h.get? b = some ob ∧ b ≠ L ∧ g.get? b = none)
    (hk : ∀ p ∈ dk, h.get? p.1 = some p.2 ∧ p.1 ≠ L ∧ g.get? p.1 = none) : News g L h ((a, oa) :: (b, ob) :: dk) := by
  intro p hp
  simp only [List.mem_cons] at hp
  rcases hp with rfl | rfl | hp
  · exact ha
  · exact hb
  · exact hk p hp


noncomputable def lawBody : List Stmt := stmtsOf (defAt 38)
noncomputable def lawScope : Scope := scopeOf (defAt 38)
theorem tabAt_news {w : World} {g h S : Heap} {L tb : Addr} {nw : List (Addr × Obj)} {otb : Obj} {vals : List Value} (N : News g L h nw) (m : (tb, otb) ∈ nw) (TB : Tab w S otb vals) (k : ∀ b o, S.get? b = some o → h.get? b = some o) (lo : (tb == sysModules) = false) : TabAt w h tb vals := ⟨⟨otb, (N _ m).1, TB.tab.keeps k⟩, lo, fun v hv => (TB.nr v hv).keeps k⟩
theorem StateE.at_ {w : World} {S h : Heap} {vals : List Value} {fs : Int → Option Bool} {v : Value} {o : Option Bool} (a : StateE w S vals fs v o) (hl : vals.length ≤ 45) (k : ∀ b o, S.get? b = some o → h.get? b = some o) : StateOf w h vals fs v o := (a vals (List.prefix_refl _) hl).keeps k
theorem stateE_none {w : World} {S : Heap} {vals : List Value} {fs : Int → Option Bool} : StateE w S vals fs .none (some true) := fun _ _ _ => .plain (.plain .none) (.plain .none) (.inl rfl)
theorem stateE_int {w : World} {S : Heap} {vals : List Value} {fs : Int → Option Bool} {i : Int} {t : Tok} : StateE w S vals fs (.int i t) (some true) := fun _ _ _ => .plain (.plain .int) (.plain .int) (.inr ⟨_, _, rfl⟩)
theorem dct_news {w : World} {g h : Heap} {L d : Addr} {nw : List (Addr × Obj)} {o : Obj} {kvs : List (Str × Value)} (N : News g L h nw) (m : (d, o) ∈ nw) (hd : o.IsDictOf (sk w) kvs) (lo : (d == sysModules) = false) : DctAt (sk w) h d kvs := ⟨Heap.dictOf_iff.mpr ⟨o, (N _ m).1, hd⟩, lo⟩


structure StageMark : Prop where
theorem TakeAt.fnd {S h : Heap} {f pl : Addr} {ns : List Int} (T : TakeAt S f pl ns) (k : ∀ b o, S.get? b = some o → h.get? b = some o) : FnIn f h := by
  obtain ⟨qual, dc, pm, c', ct, oc, vs, t, c1, c2, o1, o2, cl, ws, n', e1, _, _, _, _, _, _, _, _, _, _, _, _⟩ := T
  exact ⟨_, _, k _ _ e1, rfl⟩
theorem callWith_fnd {M : Model} {A : Around} {E : Value → Shared → Prop} {s : Shared} {env : Env} {pos : Pos} {first : List Value} {Q : Value → Shared → Prop} {f pl : Addr} {ns : List Int} {S : Heap} {e : PySem.Expr} {rest : List PySem.Expr} (_T : TakeAt S f pl ns)
    (h : wpAny M A (spliced (backTo pos (starEach (e :: rest) env))) (fun vs s₁ => FnIn f s₁.heap ∧ wpAny M A (call (.ref f) (first ++ vs)) Q E s₁) E s)
    (he : starEach (e :: rest) env = (false, eval e env) :: starEach rest env := by rfl) (hplain : (backTo pos (starEach rest env)).any (·.1) = false := by rfl) :
    wpAny M A (callWith pos (.ref f) first (backTo pos (starEach (e :: rest) env)) []) Q E s := by
  rw [he] at h ⊢
  exact callWith_of (by show ((false || (backTo pos (starEach rest env)).any (·.1)) || false) = false; rw [hplain]; rfl) keeps_fn (evalArgs_plain h)
theorem own_back {g h : Heap} {L I st tb pl : Addr} {oI o1 o2 o3 : Obj} {own dk : List (Addr × Obj)} (ho : ∀ p ∈ own, p = (I, oI)) (N : News g L h ((st, o1) :: (tb, o2) :: (pl, o3) :: (I, oI) :: dk)) : News g L h (own ++ ((st, o1) :: (tb, o2) :: (pl, o3) :: dk)) := by
  intro p hp
  refine N p ?_
  rcases List.mem_append.mp hp with hp | hp
  · rw [ho p hp]; simp
  · simp only [List.mem_cons] at hp ⊢
    rcases hp with h | h | h | h <;> simp [h]
theorem off4 {I a b c : Addr} {o1 o2 o3 : Obj} {dk : List (Addr × Obj)} (h1 : a ≠ I) (h2 : b ≠ I) (h3 : c ≠ I) (hd : ∀ p ∈ dk, p.1 ≠ I) : ∀ p ∈ (a, o1) :: (b, o2) :: (c, o3) :: dk, p.1 ≠ I := by
  intro p hp
  simp only [List.mem_cons] at hp
  rcases hp with rfl | rfl | rfl | hp
  · exact h1
  · exact h2
  · exact h3
  · exact hd p hp
theorem st_val {kvs : List (Int × Value)} {fs : Int → Option Bool} {k : Int} {b : Bool} (h : ∀ n, valueAt kvs n = (fs n).map Value.bool) (hn : valueAt kvs k = none) : ∀ n, valueAt (kvs ++ [(k, .bool b)]) n = (if n = k then some b else fs n).map Value.bool := by
  intro n
  rw [valueAt_snoc]
  by_cases e : n = k
  · subst e; rw [hn]; simp
  · rw [if_neg e, h n]
    have : ¬ k = n := fun q => e q.symm
    cases fs n <;> simp [this]



section
variable {w : World} {A : Around} {E : Value → Shared → Prop} {s : Shared} {KT : Type} {_iKT : DecidableEq KT} {knd : KeyKind PR w KT} {d : Addr} {kvs : List (KT × Value)} {key dflt : Value} {k : KT}
theorem dget_method_h {pl : Sem Bool} {Q : Value × List Value → Shared → Prop} (hd : DctAt knd s.heap d kvs) (h : Q (.builtin "dict.get", [.ref d]) s) : wpAny (model PR w) A (getMethod (.ref d) (Str.ofString "get") pl) Q E s :=
  getMethod_builtin hd.at_.typeIs PySem.F.plainAttrs_dict PySem.F.slot_dict_get PySem.F.type_dict_get hd.at_.mapOf.noDict h
theorem dget2y_h {Q : Value → Shared → Prop} {y : Value} (hd : DctAt knd s.heap d kvs) (hkey : knd.is k key = true) (hl : (valueAt kvs k).getD dflt = y) (h : Q y { s with toks := s.toks + 1 }) :
    wpAny (model PR w) A (call (.builtin "dict.get") [.ref d, key, dflt]) Q E s :=
  call_meetsIn PySem.F.slot_dict_get hd.at_.typeIs PySem.F.entry_dict_get (PySem.F.args_dict_get_3 _ _ _) (meets_dict_get_default knd d hkey hd.lo dflt) ⟨_, hd.at_.mapOf, by subst hl; exact h⟩
end


structure FontM (w : World) (S : Heap) (vals : List Value) : Prop where
  ex : ∃ d tx kvs u, vals[4]? = some (.ref d) ∧ DctAt (sk w) S d kvs ∧ (valueAt kvs (Str.ofString "Type")).getD .none = .ref tx ∧ NameAt S tx u ∧ (u == Str.ofString "OCMD") = false
theorem FontM.keeps {w : World} {S S' : Heap} {vals : List Value} (a : FontM w S vals) (k : ∀ b o, S.get? b = some o → S'.get? b = some o) : FontM w S' vals := let ⟨d, tx, kvs, u, x, y, z, n, m⟩ := a.ex; ⟨⟨d, tx, kvs, u, x, y.keeps k, z, n.keeps k, m⟩⟩
theorem state_num {w : World} {h : Heap} {otb : Obj} {vals : List Value} {fs : Int → Option Bool} {x : Addr} {n : Int} (TB : Tab w h otb vals) (FM : FontM w h vals) (hf5 : ∀ n : Int, ¬ (1 ≤ n ∧ n ≤ 4) → fs n = none) (hv : vals.length = 5) (R : RefAt h x n) (h1 : 1 ≤ n) (h6 : n ≤ 6) : StateOf w h vals fs (.ref x) (some ((fs n).getD true)) := by
  by_cases h4 : n ≤ 4
  · exact .group R (TB.isG (List.prefix_refl _) R h1 (by omega))
  · rw [hf5 n (by omega)]
    rcases (by omega : n = 5 ∨ n = 6) with rfl | rfl
    · obtain ⟨d, tx, kvs, u, a, b, c, e, z⟩ := FM.ex
      exact .other (TB.fontG (List.prefix_refl _) R) (.hit R (by decide) a) b c (.plain e.notRef) (.name e) z
    · exact .plain (.miss R (by omega)) (.miss R (by omega)) (.inl rfl)
theorem FontM.grow {w : World} {S : Heap} {vals vals' : List Value} (a : FontM w S vals) (p : vals <+: vals') : FontM w S vals' := let ⟨d, tx, kvs, u, x, y, z, n, m⟩ := a.ex; ⟨⟨d, tx, kvs, u, pre_get p x, y, z, n, m⟩⟩
theorem state_grp {w : World} {h : Heap} {otb : Obj} {vals : List Value} {fs : Int → Option Bool} {x : Addr} {n : Int} (TB : Tab w h otb vals) (R : RefAt h x n) (h1 : 1 ≤ n) (h4 : n < 5) : StateOf w h vals fs (.ref x) (some ((fs n).getD true)) := .group R (TB.isG (List.prefix_refl _) R h1 h4)
theorem state_font {w : World} {h : Heap} {otb : Obj} {vals : List Value} {fs : Int → Option Bool} {x : Addr} (TB : Tab w h otb vals) (FM : FontM w h vals) (R : RefAt h x 5) : StateOf w h vals fs (.ref x) (some true) := by
  obtain ⟨d, tx, kvs, u, a, b, c, e, z⟩ := FM.ex
  exact .other (TB.fontG (List.prefix_refl _) R) (.hit R (by decide) a) b c (.plain e.notRef) (.name e) z
section
variable {prog : Program} {w : World} {A : Around} {E : Value → Shared → Prop} {s : Shared} {Q : Value → Shared → Prop} {b : Bool}
theorem ne_bool_self (h : Q (.bool false) s) : wpAny (model prog w) A (compareOp .NotEq (.bool b) (.bool b)) Q E s := ne_bool (by cases b <;> exact h)
theorem eq_bool_self (h : Q (.bool true) s) : wpAny (model prog w) A (compareOp .Eq (.bool b) (.bool b)) Q E s := eq_bool (by cases b <;> exact h)
end
theorem tab5 {w : World} {S : Heap} {otb : Obj} {vals : List Value} {d tx : Addr} {kvs : List (Str × Value)} (T6 : TabObj w S otb (vals ++ [.ref d])) (hv4 : vals.length = 4) (hnr : ∀ v ∈ vals, NotRef S v)
    (hgr : ∀ j : Nat, j < 4 → ∃ d tx kvs, vals[j]? = some (.ref d) ∧ DctAt (sk w) S d kvs ∧ (valueAt kvs (Str.ofString "Type")).getD .none = .ref tx ∧ NameAt S tx (Str.ofString "OCG"))
    (D : DctAt (sk w) S d kvs) (ht : (valueAt kvs (Str.ofString "Type")).getD .none = .ref tx) (hn : NameAt S tx (Str.ofString "Font")) : Tab w S otb (vals ++ [.ref d]) ∧ FontM w S (vals ++ [.ref d]) := by
  have e4 : (vals ++ [Value.ref d])[4]? = some (.ref d) := by rw [← hv4]; exact get_last
  refine ⟨⟨T6, fun v hv => (List.mem_append.mp hv).elim (fun hv => hnr v hv) (fun hv => by
      rw [List.mem_singleton.mp hv]
      obtain ⟨o, h1, h2⟩ := dctAt_obj D
      exact .dict h1 h2), fun n h1 h5 => ?_, ⟨d, tx, kvs, _, e4, D, ht, hn, by decide⟩⟩, ⟨⟨d, tx, kvs, _, e4, D, ht, hn, by decide⟩⟩⟩
  obtain ⟨d, tx, kvs, a1, a2, a3, a4⟩ := hgr (n - 1).toNat (by omega)
  exact ⟨d, tx, kvs, pre_get (List.prefix_append _ _) a1, a2, a3, a4⟩
end
section -- M0
open PySem PySem.W PyProof.Rows PySem.Spec PySem.Calls PySem.SeqAt
/-- a walk whose body and scope are written out -/
theorem lit {M : Model} {A0 : Around} {bd bd' : List Stmt} {sc sc' : Scope} (mk : Scope → Env) {Q : Flow → Shared → Prop} {E : Value → Shared → Prop} {s : Shared} (h1 : bd = bd') (h2 : sc = sc') (h : wpAny M (A0.deeper (mk sc')) (execs bd' (mk sc')) Q E s) : wpAny M (A0.deeper (mk sc)) (execs bd (mk sc)) Q E s := by
  subst h1 h2
  exact h
noncomputable def membBody : List Stmt := stmtsOf (defAt 36)
noncomputable def membScope : Scope := scopeOf (defAt 36)
/-- what stands all through _law_membership -/
structure MC (w : World) (Sn hs g' : Heap) (L' f pl sh tb st : Addr) (ns : List Int) (fs : Int → Option Bool) (vals : List Value) (otb : Obj) : Prop where
  hg1 : ∀ b o, hs.get? b = some o → b ∉ [pl, tb] → g'.get? b = some o
  hL : L' = hs.objs.size
  kS : ∀ b o, Sn.get? b = some o → hs.get? b = some o
  nP : Sn.get? pl = none
  nT : Sn.get? tb = none
  nep : pl ≠ tb
  Tk : TakeAt Sn f pl ns
  S : ShelfAt Sn sh tb
  lo : (tb == sysModules) = false
  TB : Tab w Sn otb vals
  St : StAt w Sn st fs
  hv : vals.length = 5
  hf5 : ∀ n : Int, ¬ (1 ≤ n ∧ n ≤ 4) → fs n = none
  hpl : @LT.lt Nat instLTNat pl L'
  htb : @LT.lt Nat instLTNat tb L'
section
variable {w : World} {Sn hs g' h : Heap} {L' f pl sh tb st : Addr} {ns : List Int} {fs : Int → Option Bool} {vals : List Value} {otb : Obj} {nw : List (Addr × Obj)} {X : List Addr} {a d : Addr} {o : Obj}
theorem MC.kg (C : MC w Sn hs g' L' f pl sh tb st ns fs vals otb) : ∀ b o, Sn.get? b = some o → g'.get? b = some o := fun b o e => C.hg1 b o (C.kS b o e) (fun q => by
  have := two_none C.nP C.nT b q
  rw [this] at e; cases e)
theorem MC.bi (C : MC w Sn hs g' L' f pl sh tb st ns fs vals otb) : Bld Sn hs g' L' [pl, tb] Sn := Bld.init C.kg C.kS C.hL (two_none C.nP C.nT)
theorem MC.fr (C : MC w Sn hs g' L' f pl sh tb st ns fs vals otb) (N : News g' L' h nw) (hm : (a, o) ∈ nw) (n : ∀ y ∈ pl :: tb :: X, a ≠ y) : hs.get? a = none :=
  fresh_mu (mu := [(pl, o), (tb, o)]) N hm C.hg1 (two_ne (n pl (.head _)) (n tb (.tail _ (.head _))))
theorem MC.cn (C : MC w Sn hs g' L' f pl sh tb st ns fs vals otb) (N : News g' L' h nw) (hm : (a, o) ∈ nw) (n : ∀ y ∈ pl :: tb :: X, a ≠ y) : (cmp Sn hs h L' (pl :: tb :: X)).get? a = some o :=
  cmp_new (N _ hm).1 (C.fr N hm n) (N _ hm).2.1 (not_mem_of_ne n)
theorem MC.no (C : MC w Sn hs g' L' f pl sh tb st ns fs vals otb) (N : News g' L' h nw) (hm : (a, o) ∈ nw) (n1 : a ≠ pl) (n2 : a ≠ tb) : Sn.get? a = none := none_up C.kS (C.fr (X := []) N hm (two_ne n1 n2))
theorem MC.cb (C : MC w Sn hs g' L' f pl sh tb st ns fs vals otb) (N : News g' L' h nw) (hm : (a, o) ∈ nw) (hX : ∀ y ∈ pl :: tb :: X, @LT.lt Nat instLTNat y d) (hd : @LE.le Nat instLENat d a) : (cmp Sn hs h L' (pl :: tb :: X)).get? a = some o :=
  C.cn N hm fun y hy => Nat.ne_of_gt (Nat.lt_of_lt_of_le (hX y hy) hd)
theorem MC.out (C : MC w Sn hs g' L' f pl sh tb st ns fs vals otb) {Y : List Addr} (n : ∀ b, b ∈ [pl, tb] → b ∈ Y) : ∀ b o, hs.get? b = some o → b ∉ Y → g'.get? b = some o := fun b o e q => C.hg1 b o e fun m => q (n b m)
end
theorem two_in {a b : Addr} {l : List Addr} : ∀ y, y ∈ [a, b] → y ∈ a :: b :: l := by
  intro y hy
  simp only [List.mem_cons, List.not_mem_nil, or_false] at hy ⊢
  rcases hy with h | h <;> simp [h]
theorem own_back5 {g h : Heap} {L I a b c d e : Addr} {oI oa ob oc od oe : Obj} {own dk : List (Addr × Obj)} (ho : ∀ p ∈ own, p = (I, oI)) (N : News g L h ((a, oa) :: (b, ob) :: (c, oc) :: (d, od) :: (e, oe) :: (I, oI) :: dk)) : News g L h (own ++ ((a, oa) :: (b, ob) :: (c, oc) :: (d, od) :: (e, oe) :: dk)) := by
  intro p hp
  refine N p ?_
  rcases List.mem_append.mp hp with hp | hp
  · rw [ho p hp]; simp
  · simp only [List.mem_cons] at hp ⊢
    rcases hp with h | h | h | h | h | h <;> simp [h]
theorem own_front5 {g h : Heap} {L I a b c d e : Addr} {oI oa ob oc od oe : Obj} {own dk : List (Addr × Obj)} (ho : (I, oI) ∈ own) (N : News g L h (own ++ ((a, oa) :: (b, ob) :: (c, oc) :: (d, od) :: (e, oe) :: dk))) : News g L h ((a, oa) :: (b, ob) :: (c, oc) :: (d, od) :: (e, oe) :: (I, oI) :: dk) := by
  intro p hp
  refine N p ?_
  simp only [List.mem_cons, List.mem_append] at hp ⊢
  rcases hp with h | h | h | h | h | h | h
  · simp [h]
  · simp [h]
  · simp [h]
  · simp [h]
  · simp [h]
  · exact .inl (h ▸ ho)
  · simp [h]
theorem own_one {g h : Heap} {L I : Addr} {oI : Obj} {own nx : List (Addr × Obj)} (hown : ∀ p ∈ own, p.1 = I) (hoI : (I, oI) ∈ own) (N : News g L h (own ++ nx)) : ∀ p ∈ own, p = (I, oI) := fun p hp => by
  have e1 := (N p (List.mem_append_left _ hp)).1
  have e2 := (N (I, oI) (List.mem_append_left _ hoI)).1
  rw [hown p hp] at e1
  have e3 : some p.2 = some oI := by rw [← e1]; exact e2
  exact Prod.ext (hown p hp) (Option.some.inj e3)
theorem off5 {I a b c d e : Addr} {oa ob oc od oe : Obj} {dk : List (Addr × Obj)} (h1 : a ≠ I) (h2 : b ≠ I) (h3 : c ≠ I) (h4 : d ≠ I) (h5 : e ≠ I) (hd : ∀ p ∈ dk, p.1 ≠ I) : ∀ p ∈ (a, oa) :: (b, ob) :: (c, oc) :: (d, od) :: (e, oe) :: dk, p.1 ≠ I := by
  intro p hp
  simp only [List.mem_cons] at hp
  rcases hp with rfl | rfl | rfl | rfl | rfl | hp
  · exact h1
  · exact h2
  · exact h3
  · exact h4
  · exact h5
  · exact hd p hp
theorem itv_snoc {S S' : Heap} {fs : Int → Option Bool} {vs : List Value} {gs : List (Option Bool)} {v0 : Value} {g0 : Option Bool} (hl : gs.length = vs.length) (hit : ∀ (j : Nat) v g, vs[j]? = some v → gs[j]? = some g → ItV S fs v g) (up : ∀ b o, S.get? b = some o → S'.get? b = some o) (h0 : ItV S' fs v0 g0) :
    ∀ (j : Nat) v g, (vs ++ [v0])[j]? = some v → (gs ++ [g0])[j]? = some g → ItV S' fs v g := by
  intro j v g h1 h2
  by_cases hj : j < vs.length
  · rw [List.getElem?_append_left hj] at h1
    rw [List.getElem?_append_left (hl ▸ hj)] at h2
    exact (hit j v g h1 h2).keeps up
  · have hj' : vs.length ≤ j := Nat.not_lt.mp hj
    rw [List.getElem?_append_right hj'] at h1
    rw [List.getElem?_append_right (hl ▸ hj'), hl] at h2
    cases q : j - vs.length with
    | zero =>
      rw [q] at h1 h2
      cases h1; cases h2
      exact h0
    | succ n => rw [q] at h1; cases h1
theorem FreeEnd.fin {h₀ : Heap} {L I : Addr} {own : List (Addr × Obj)} {J : (Str → Option Value) → List (Addr × Obj) → Prop} {s₁ : Shared} {Q : Flow → Shared → Prop} {h' : Heap} {gn : Array GenState} {dr : Drawn} {tk : Nat} {os : OsState} {m' : Str → Option Value} {nx' : List (Addr × Obj)} (e1 : gn = s₁.gens) (e2 : dr = s₁.drawn) (e3 : os = s₁.os) (F : Fr h₀ L h' m') (N : News h₀ L h' (own ++ nx')) (n : ∀ p ∈ nx', p.1 ≠ I) (hJ : J m' nx') : FreeEnd h₀ L I own J s₁ Q .next ⟨h', gn, dr, tk, os⟩ := by
  subst e1 e2 e3
  exact ⟨h', tk, m', nx', rfl, F, N, n, hJ⟩
/-- the loop of _law_membership, turn by turn -/
inductive MJ2 (fs : Int → Option Bool) (Sn hs g' S2 : Heap) (L' pl tb hd9 itl mel st sh f : Addr) (wd : Str) (wt : Tok) (oh otb : Obj) (n0 : Nat) (k : Int) : Nat → (Str → Option Value) → List (Addr × Obj) → Prop
  | mk (i : Nat) (u : Str → Option Value) (k2 : Int) (tk2 : Tok) (S3 : Heap) (vs : List Value) (gs : List (Option Bool)) (cI cM : Nat) : Bld Sn hs g' L' [pl, tb, hd9, itl, mel] S3 → (∀ b o, S2.get? b = some o → S3.get? b = some o) →
    k2 = k + 2 + i → vs.length = i → gs.length = vs.length → (∀ (j : Nat) v g, vs[j]? = some v → gs[j]? = some g → ItV S3 fs v g) →
    MJ2 fs Sn hs g' S2 L' pl tb hd9 itl mel st sh f wd wt oh otb n0 k i (lay [(Str.ofString "members", Value.ref mel), (Str.ofString "items", Value.ref itl), (Str.ofString "word", Value.str wd wt), (Str.ofString "head", Value.ref hd9), (Str.ofString "states", Value.ref st), (Str.ofString "shelf", Value.ref sh), (Str.ofString "take", Value.ref f)] u)
      ((itl, W.listOf vs.toArray cI) :: (mel, W.listOf ((gs.filterMap id).map Value.bool).toArray cM) :: (hd9, oh) :: (pl, W.listOf #[.int k2 tk2] n0) :: (tb, otb) :: darkOf S3 g')
theorem itv_split {S G : Heap} {fs : Int → Option Bool} {v : Value} {g : Option Bool} (a : ItV S fs v g) : (∃ x n, v = .ref x ∧ g = fs n ∧ RefAt S x n ∧ (1 ≤ n ∧ n ≤ 5 ∨ n = 60)) ∨ (NotRef G v ∧ g = none) := by
  cases a with
  | ref a b => exact .inl ⟨_, _, rfl, rfl, a, b⟩
  | none => exact .inr ⟨.none, rfl⟩
  | seven => exact .inr ⟨.int, rfl⟩
theorem fm_none {gs : List (Option Bool)} : ((gs ++ [none]).filterMap id).map Value.bool = (gs.filterMap id).map Value.bool := by simp
theorem fm_some {gs : List (Option Bool)} {b : Bool} : ((gs ++ [some b]).filterMap id).map Value.bool = (gs.filterMap id).map Value.bool ++ [Value.bool b] := by simp
theorem fm_size {gs : List (Option Bool)} (h : gs.length ≤ 4) : (((gs.filterMap id).map Value.bool).toArray).size ≤ sizeLine := by
  have := List.length_filterMap_le id gs
  simp only [List.size_toArray, List.length_map]
  exact Nat.le_trans (Nat.le_trans this h) (by decide)
theorem range4 {r : Int} (h0 : 0 ≤ r) (h4 : r < 4) : Builtin.Range.small 0 r 1 = true ∧ Builtin.Range.rangeSize 0 r 1 = ((r.toNat : Nat) : Int) := by
  rcases (by omega : r = 0 ∨ r = 1 ∨ r = 2 ∨ r = 3) with h | h | h | h <;> rw [h] <;> decide
theorem six_lt {d a b c e f g : Addr} (h1 : @LT.lt Nat instLTNat a d) (h2 : @LT.lt Nat instLTNat b d) (h3 : @LT.lt Nat instLTNat c d) (h4 : @LT.lt Nat instLTNat e d) (h5 : @LT.lt Nat instLTNat f d) (h6 : @LT.lt Nat instLTNat g d) : ∀ y ∈ [a, b, c, e, f, g], @LT.lt Nat instLTNat y d := by
  intro y hy
  simp only [List.mem_cons, List.not_mem_nil, or_false] at hy
  rcases hy with rfl | rfl | rfl | rfl | rfl | rfl <;> assumption
theorem off_all {S g : Heap} {X : List Addr} (n : ∀ a ∈ X, S.get? a = none) {a : Addr} (h : a ∈ X) : ∀ p ∈ darkOf S g, p.1 ≠ a := dark_off (n a h)
/-- the ledger laid into a snapshot -/
inductive End3 (Sn hs g' h : Heap) (L' pl tb hd9 : Addr) (S3 : Heap) (nw : List (Addr × Obj)) : Prop
  | mk (S5 : Heap) (bl5 : Bld Sn hs g' L' [pl, tb, hd9] S5) (up5 : ∀ b o, S3.get? b = some o → S5.get? b = some o) (d5 : ∀ p ∈ darkOf S5 g', h.get? p.1 = some p.2 ∧ p.1 ≠ L' ∧ g'.get? p.1 = none) (c5 : ∀ {a : Addr} {o : Obj}, (a, o) ∈ nw → a ≠ pl → a ≠ tb → a ≠ hd9 → S5.get? a = some o)
inductive EndI (Sn hs g' h : Heap) (L' : Addr) (X : List Addr) (S3 : Heap) (nw : List (Addr × Obj)) (d1 : Addr) : Prop
  | mk (S4 : Heap) (bl6 : Bld Sn hs g' L' X S4) (up4 : ∀ b o, S3.get? b = some o → S4.get? b = some o) (d4 : ∀ p ∈ darkOf S4 g', h.get? p.1 = some p.2 ∧ p.1 ≠ L' ∧ g'.get? p.1 = none) (c4 : ∀ {a : Addr} {o : Obj}, (a, o) ∈ nw → @LE.le Nat instLENat d1 a → S4.get? a = some o)
/-- the thing that a turn of the loop picks -/
inductive PickJ (fs : Int → Option Bool) (S : Heap) (r : Int) (v : Value) : Prop
  | mk (g : Option Bool) (hv : ItV S fs v g) (a : r < 4 → g = fs (r + 1)) (b : 4 ≤ r → g = none)
inductive End4 (Sn hs g' h : Heap) (L' pl tb : Addr) (S3 : Heap) (nw : List (Addr × Obj)) : Prop
  | mk (S5 : Heap) (bl5 : Bld Sn hs g' L' [pl, tb] S5) (up5 : ∀ b o, S3.get? b = some o → S5.get? b = some o) (d5 : ∀ b o, S5.get? b = some o → h.get? b = some o) (c5 : ∀ {a : Addr} {o : Obj}, (a, o) ∈ nw → a ≠ pl → a ≠ tb → S5.get? a = some o)
theorem MC.end3 {w : World} {Sn hs g' h : Heap} {L' f pl sh tb st hd9 itl mel : Addr} {ns : List Int} {fs : Int → Option Bool} {vals : List Value} {otb : Obj} {nw : List (Addr × Obj)} {m : Str → Option Value} {S3 : Heap} (C : MC w Sn hs g' L' f pl sh tb st ns fs vals otb) (bl3 : Bld Sn hs g' L' [pl, tb, hd9, itl, mel] S3) (Fz : Fr g' L' h m) (Nz : News g' L' h nw) (hin : ∀ b o, S3.get? b = some o → h.get? b = some o) :
    End3 Sn hs g' h L' pl tb hd9 S3 nw :=
  ⟨_, (bl3.cmp Fz hin (three_of bl3.offX)).1, (bl3.cmp Fz hin (three_of bl3.offX)).2, fun p hp => news_cmp Fz Nz p (List.mem_append_right _ hp), fun {a o} hm n1 n2 n3 => C.cn Nz hm (three_ne n1 n2 n3)⟩
theorem MC.end4 {w : World} {Sn hs g' h : Heap} {L' f pl sh tb st hd9 : Addr} {ns : List Int} {fs : Int → Option Bool} {vals : List Value} {otb : Obj} {nw : List (Addr × Obj)} {m : Str → Option Value} {S3 : Heap} (C : MC w Sn hs g' L' f pl sh tb st ns fs vals otb) (bl3 : Bld Sn hs g' L' [pl, tb, hd9] S3) (Fz : Fr g' L' h m) (Nz : News g' L' h nw) (hin : ∀ b o, S3.get? b = some o → h.get? b = some o) :
    End4 Sn hs g' h L' pl tb S3 nw :=
  ⟨_, (bl3.cmp Fz hin (fun a ha => bl3.offX a (two_in a ha))).1, (bl3.cmp Fz hin (fun a ha => bl3.offX a (two_in a ha))).2, fun _ _ e => cmp_sub e, fun {a o} hm n1 n2 => C.cn Nz hm (two_ne n1 n2)⟩
theorem MemE.keeps {w : World} {S S' : Heap} {vals : List Value} {fs : Int → Option Bool} {oc : Option Value} {bs : List Bool} (a : MemE w S vals fs oc bs) (k : ∀ b o, S.get? b = some o → S'.get? b = some o) : MemE w S' vals fs oc bs := fun kvs e v p l => (a kvs e v p l).keeps k
theorem news_pair {g h : Heap} {L a b : Addr} {oa ob : Obj} (ha : h.get? a = some oa ∧ a ≠ L ∧ g.get? a = none) (hb : h.get? b = some ob ∧ b ≠ L ∧ g.get? b = none) : News g L h [(a, oa), (b, ob)] := by
  intro p hp
  simp only [List.mem_cons, List.not_mem_nil, or_false] at hp
  rcases hp with rfl | rfl
  · exact ha
  · exact hb
theorem get_app {vals : List Value} {v : Value} : (vals ++ [v])[((vals.length : Int) + 1 - 1).toNat]? = some v := by
  have e : ((vals.length : Int) + 1 - 1).toNat = vals.length := by omega
  rw [e]; simp
theorem fm_len {gs : List (Option Bool)} {n : Nat} (h : gs.length ≤ n) : (gs.filterMap id).length ≤ n := Nat.le_trans (List.length_filterMap_le id gs) h
end
section -- D56
open PySem PySem.W PyProof.Rows PySem.Spec PySem.Calls PySem.SeqAt
/-- the states loop, turn by turn -/
inductive SJ5 (w : World) (g0 S : Heap) (st tb pl sh f : Addr) (otb : Obj) : Nat → (Str → Option Value) → List (Addr × Obj) → Prop
  | mk (i : Nat) (u : Str → Option Value) (ost : Obj) (kvs : List (Int × Value)) (fs : Int → Option Bool) (k2 : Int) (tk2 : Tok) : ost.IsDictOf (ik w) kvs → kvs.length ≤ i → (∀ n, valueAt kvs n = (fs n).map Value.bool) → (∀ n : Int, ¬ (1 ≤ n ∧ n ≤ i) → fs n = none) → k2 = i →
    SJ5 w g0 S st tb pl sh f otb i (lay [(Str.ofString "states", Value.ref st), (Str.ofString "shelf", Value.ref sh), (Str.ofString "take", Value.ref f)] u) ((st, ost) :: (tb, otb) :: (pl, W.listOf #[.int k2 tk2] 0) :: darkOf S g0)
/-- the check loop, turn by turn -/
inductive SJ6 (g0 S : Heap) (st tb pl sh f : Addr) (otb opl : Obj) : Nat → (Str → Option Value) → List (Addr × Obj) → Prop
  | mk (i : Nat) (u : Str → Option Value) : SJ6 g0 S st tb pl sh f otb opl i (lay [(Str.ofString "states", Value.ref st), (Str.ofString "shelf", Value.ref sh), (Str.ofString "take", Value.ref f)] u) ((tb, otb) :: (pl, opl) :: darkOf S g0)
theorem own_front3 {g h : Heap} {L I a b c : Addr} {oI oa ob oc : Obj} {own dk : List (Addr × Obj)} (ho : (I, oI) ∈ own) (N : News g L h (own ++ ((a, oa) :: (b, ob) :: (c, oc) :: dk))) : News g L h ((a, oa) :: (b, ob) :: (c, oc) :: (I, oI) :: dk) := by
  intro p hp
  refine N p ?_
  simp only [List.mem_cons, List.mem_append] at hp ⊢
  rcases hp with h | h | h | h | h
  · simp [h]
  · simp [h]
  · simp [h]
  · exact .inl (h ▸ ho)
  · simp [h]
theorem own_front2 {g h : Heap} {L I a b : Addr} {oI oa ob : Obj} {own dk : List (Addr × Obj)} (ho : (I, oI) ∈ own) (N : News g L h (own ++ ((a, oa) :: (b, ob) :: dk))) : News g L h ((a, oa) :: (b, ob) :: (I, oI) :: dk) := by
  intro p hp
  refine N p ?_
  simp only [List.mem_cons, List.mem_append] at hp ⊢
  rcases hp with h | h | h | h
  · simp [h]
  · simp [h]
  · exact .inl (h ▸ ho)
  · simp [h]
theorem off2 {I a b : Addr} {oa ob : Obj} {dk : List (Addr × Obj)} (h1 : a ≠ I) (h2 : b ≠ I) (hd : ∀ p ∈ dk, p.1 ≠ I) : ∀ p ∈ (a, oa) :: (b, ob) :: dk, p.1 ≠ I := by
  intro p hp
  simp only [List.mem_cons] at hp
  rcases hp with rfl | rfl | hp
  · exact h1
  · exact h2
  · exact hd p hp
theorem own_back2 {g h : Heap} {L I a b : Addr} {oI oa ob : Obj} {own dk : List (Addr × Obj)} (ho : ∀ p ∈ own, p = (I, oI)) (N : News g L h ((a, oa) :: (b, ob) :: (I, oI) :: dk)) : News g L h (own ++ ((a, oa) :: (b, ob) :: dk)) := by
  intro p hp
  refine N p ?_
  rcases List.mem_append.mp hp with hp | hp
  · rw [ho p hp]; simp
  · simp only [List.mem_cons] at hp ⊢
    rcases hp with h | h | h <;> simp [h]
end
section -- D2L
open PySem PySem.W PyProof.Rows PySem.Spec PySem.Calls PySem.SeqAt
structure Grp (w : World) (S : Heap) (vals : List Value) (i : Nat) : Prop where
  len : vals.length = i
  nr : ∀ v ∈ vals, NotRef S v
  grp : ∀ j : Nat, j < i → ∃ d tx kvs, vals[j]? = some (.ref d) ∧ DctAt (sk w) S d kvs ∧ (valueAt kvs (Str.ofString "Type")).getD .none = .ref tx ∧ NameAt S tx (Str.ofString "OCG")
theorem Grp.snoc {w : World} {S S' : Heap} {vals : List Value} {i : Nat} {d tx : Addr} {kvs : List (Str × Value)} (G : Grp w S vals i) (up : ∀ b o, S.get? b = some o → S'.get? b = some o) (D : DctAt (sk w) S' d kvs) (ht : (valueAt kvs (Str.ofString "Type")).getD .none = .ref tx) (hn : NameAt S' tx (Str.ofString "OCG")) : Grp w S' (vals ++ [.ref d]) (i + 1) := by
  refine ⟨by simp [G.len], fun v hv => ?_, fun j hj => ?_⟩
  · rcases List.mem_append.mp hv with hv | hv
    · exact (G.nr v hv).keeps up
    · rw [List.mem_singleton.mp hv]
      obtain ⟨o, h1, h2⟩ := dctAt_obj D
      exact .dict h1 h2
  · by_cases hji : j < i
    · obtain ⟨d, tx, kvs, a1, a2, a3, a4⟩ := G.grp j hji
      exact ⟨d, tx, kvs, by rw [List.getElem?_append_left (by rw [G.len]; exact hji)]; exact a1, a2.keeps up, a3, a4.keeps up⟩
    · have hje : j = vals.length := by rw [G.len]; omega
      exact ⟨d, tx, kvs, by rw [hje]; exact get_last, D, ht, hn⟩
/-- the put loop, turn by turn -/
inductive SJ2 (w : World) (g0 S2 : Heap) (L0 tb pl sh f : Addr) (opl : Obj) : Nat → (Str → Option Value) → List (Addr × Obj) → Prop
  | mk (i : Nat) (u : Str → Option Value) (otb : Obj) (vals : List Value) (S3 : Heap) : Bld g0 g0 g0 L0 [pl, tb] S3 → (∀ b o, S2.get? b = some o → S3.get? b = some o) → TabObj w S3 otb vals → Grp w S3 vals i →
    SJ2 w g0 S2 L0 tb pl sh f opl i (lay [(Str.ofString "shelf", Value.ref sh), (Str.ofString "take", Value.ref f)] u) ((tb, otb) :: (pl, opl) :: darkOf S3 g0)
end
section
local macro_rules | `(tactic| k_room) => `(tactic| first | exact roomK 1 (by assumption) (by decide) | exact unitK 1 (by assumption) (by decide) | exact unit2 1 (by assumption) (by decide) | exact roomM 1 (by assumption) (by decide) | exact unitM 1 (by assumption) (by decide) | exact roomK 2 (by assumption) (by decide) | exact unitK 2 (by assumption) (by decide) | exact roomZ (by assumption) | exact roomZM (by assumption) | ((try simp only [depth_under_make, depth_under_kw, depth_in1, depth_deeper]); (try dsimp only); omega))
section
local macro_rules | `(tactic| k_inst) => `(tactic| (refine' inst_base (by k_asm) (by assumption) (by assumption)))
section
local macro_rules | `(tactic| kit_at) => `(tactic| (refine' kitAt_base (by k_asm) (by assumption) (by assumption)))
section
local macro_rules | `(tactic| k_all) => `(tactic| exact dark_off (by assumption))
section
local macro_rules | `(tactic| kwd_rel) => `(tactic| exact ⟨by k_asm, by k_asm, by k_asm, by k_asm, by k_asm, rfl, rfl⟩)
section
local macro_rules | `(tactic| kwd_inv) => `(tactic| first | exact unitK 3 (by assumption) (by decide) | exact unitK 4 (by assumption) (by decide) | exact unitM 3 (by assumption) (by decide) | exact unit2 3 (by assumption) (by decide) | exact unitM 4 (by assumption) (by decide) | ((try simp only [units_in1, units_deeper]); (try dsimp only); omega))
section
local macro_rules | `(tactic| kpc_turns) => `(tactic| exact Bld.isIn (by assumption) (by k_asm) (by k_asm) (fun p hp => by walk_at "TAILS"))
section
local macro_rules | `(tactic| kfm_turns) => `(tactic| exact list_news (by k_asm) (by k_mem))
section
local macro_rules | `(tactic| k_inst) => `(tactic| (refine' inst_dark ?k9 (by assumption) (by assumption); kpc_turns))
section
local macro_rules | `(tactic| k_all) => `(tactic| assumption)
section -- M3
open PySem PySem.W PyProof.Rows PySem.Spec PySem.Calls PySem.SeqAt
theorem lines_M3_1 : True := by
  k_with_none
  k_with "ZgetMethod ref" => (k_here; k_dflt (first | (refine' method_inst (by k_asm) (by k_asm) (by k_inst) (by k_is) (by k_is) (by k_is) (by assumption) ?_; k_whole) | (refine' dget_method (by k_asm) (by assumption) ?_; k_whole)))
  k_with "ZgetAttr ref" => (k_here; k_dflt (refine' get_own (by k_asm) (by k_asm) (by k_inst) (by k_is) (by k_is) (by k_is) (by k_is) (by assumption) (by k_handed) ?_; k_whole))
  k_with "Zcall ref" => (k_here; refine halt_call (by decide) ?_)
  k_with "Zcall ref" => (k_here; refine halt_int ?_)
  k_with "ZcompareOp In int ref" => (k_here; k_dflt (refine' din (by k_asm) (by assumption) (intKind_is _ _ _ _) (by assumption) ?_; k_whole))
  k_with "ZsubscriptTail" => (k_here; (with_reducible show wpAny _ _ (subscriptTail _ _ (Value.ref _) (Value.int _ _)) _ _ _); k_dflt (refine' ditem (by k_asm) (by assumption) (intKind_is _ _ _ _) (by assumption) ?_; k_whole))
  k_with "ZsubscriptTail Name Constant ref int" => (k_here; (with_reducible show wpAny _ _ (subscriptTail _ _ (Value.ref _) (Value.int _ _)) _ _ _); k_dflt (refine' ditem (by k_asm) (by assumption) (intKind_is _ _ _ _) (by assumption) ?_; k_whole))
  k_with "ZTAKE" => (refine unhalt ?_; refine' take_call (by k_asm) (by k_asm) (by k_asm) (by k_asm) (by k_asm) (TakeAt.mono (by assumption) (Fr.keep (by k_asm))) (by k_updF) rfl rfl rfl (by k_room) (by kwd_inv) (by first | assumption | omega) (by first | assumption | omega) (by decide) (by decide) ?_)
  k_with "ZsubscriptTail" => (k_here; (with_reducible show wpAny _ _ (subscriptTail _ _ (Value.ref _) (Value.int 0 _)) _ _ _); (have hm9 : ItemMark := by assumption); (clear hm9); k_dflt (refine' list_item0 (by kfm_turns) ?_; k_whole))
  k_with "ZsubscriptTail Name Constant ref int" => (k_here; (with_reducible show wpAny _ _ (subscriptTail _ _ (Value.ref _) (Value.int 0 _)) _ _ _); (have hm9 : ItemMark := by assumption); (clear hm9); k_dflt (refine' list_item0 (by kfm_turns) ?_; k_whole))
  k_with "ZsetItem ref str" => (k_here; k_dflt (refine' kda_set (knd := sk _) (by k_asm) (by k_asm) (by k_updF) (by assumption) (strKind_is _ _ _ _) (by assumption) ?_); intro _ _ _ N' hd'; (try dsimp only at N'); revert N' hd'; intro _ _)
  k_with "ZcompareOp NotEq ref ref" => (k_here; k_dflt (refine' ne_nil2 (by kfm_turns) (by kfm_turns) (by kwd_inv) (by assumption) ?_; k_whole))
  k_with "Zcall builtin:isinstance" => (k_here; k_dflt (refine' isi_notref (by k_asm) (by k_asm) (by k_asm) (by assumption) ?_; k_whole); intro _)
  k_with "ZTAILS" => (first | (with_reducible assumption) | (with_reducible refine List.mem_cons_of_mem _ ?_; walk_at "TAILS"))
  k_with "Zexecs cons" => (k_here; (with_reducible refine halt_two StageMark (by assumption) ?_))
  k_with "Zspliced" => (k_here; k_dflt (refine' args_simG (by rfl) (by rfl) (by k_asm) (by rfl) ?_; k_whole); (try dsimp only [List.cons_append, List.nil_append]))
  k_with "Zeval Call" => (k_here; (with_reducible show wpAny _ _ (eval (PySem.Expr.Call (PySem.Expr.Name _ _) (_ :: _) [] _) _) _ _ _); k_dflt (refine' callfn_sim (by k_asm) (by exact rfl) (TakeAt.fn (by assumption) (by k_asm)) (by rfl) ?_ (by rfl) (by rfl) (by decide); k_whole))
  k_with "ZisTrue Compare" => (k_here; (with_reducible show wpAny _ _ (isTrue (PySem.Expr.Compare (PySem.Expr.Name _ _) [PySem.CmpOp.Eq] [PySem.Expr.Constant (PySem.Const.int _) _ _] _) _ _) _ _ _); k_dflt (refine' eqt_sim (by k_asm) (by exact rfl) ?_ (by rfl) (by rfl) (by decide); k_whole))
  trivial
section
theorem memb3 {w : World} {s : Shared} {base hs g' Sn : Heap} {outer : List Env} {L' : Addr} {cd : Value} {mg mb u : Str → Option Value} {env : Env} {p : Program} {loose : List Str} {mean : ExcName → Option Value}
    {E : Value → Shared → Prop} {Q : Flow → Shared → Prop} {dp un : Nat} {gd : Option (List Code)} {f pl sh tb st : Addr} {ns : List Int} {fs : Int → Option Bool} {vals : List Value} {otb : Obj} {n0 : Nat} {k : Int} {hd9 itl mel : Addr} {wd : Str} {wt tk2 : Tok} {oh : Obj} {kvs : List (Str × Value)} {S3 : Heap} {vs : List Value} {gs : List (Option Bool)} {cI cM : Nat} {k2 : Int}
    (C : MC w Sn hs g' L' f pl sh tb st ns fs vals otb) (X' : (hd.heap_1 w.params).In g') (T' : Top p loose mean mg mb g') (B' : Below (At dp un gd env outer) base (env :: outer) g') (hroom : dp + 300 < recursionLimit) (hun : un + 300 < cLine) (hk : 0 ≤ k) (hk4 : k ≤ 100)
    (F : Fr g' L' s.heap (lay [(Str.ofString "members", Value.ref mel), (Str.ofString "items", Value.ref itl), (Str.ofString "word", Value.str wd wt), (Str.ofString "head", Value.ref hd9), (Str.ofString "states", Value.ref st), (Str.ofString "shelf", Value.ref sh), (Str.ofString "take", Value.ref f)] u)) (N : News g' L' s.heap ((itl, W.listOf vs.toArray cI) :: (mel, W.listOf ((gs.filterMap id).map Value.bool).toArray cM) :: (hd9, oh) :: (pl, W.listOf #[.int k2 tk2] n0) :: (tb, otb) :: darkOf S3 g')) (bl3 : Bld Sn hs g' L' [pl, tb, hd9, itl, mel] S3)
    (hod : oh.IsDictOf (sk w) kvs) (hH3 : HeadQ S3 kvs wd none) (hkl : kvs.length ≤ 2) (hgs : gs.length = vs.length) (hit : ∀ (j : Nat) v g, vs[j]? = some v → gs[j]? = some g → ItV S3 fs v g) (hk2 : k + 2 ≤ k2) (hk3 : k2 ≤ k + 5) (hvs3 : vs.length ≤ 3)
    (q1 : @LT.lt Nat instLTNat pl hd9) (q2 : @LT.lt Nat instLTNat tb hd9) (q3 : @LT.lt Nat instLTNat hd9 itl) (q4 : @LT.lt Nat instLTNat itl mel)
    (hE : PassesOwn (model PySem.Challenge.rw_pb0479_01.row.prog w) ((At dp un gd env outer).deeper (envX (Str.ofString "_law_membership") membScope L' 457 cd [])) (envX (Str.ofString "_law_membership") membScope L' 457 cd []) E)
    (next : ∀ (mel' : Addr) (bs : List Bool) (cM' : Nat) (k3 : Int) (tk3 : Tok) (oh' : Obj) (kvs' : List (Str × Value)) (oc : Option Value) (otb' : Obj) (vals' : List Value) (S5 : Heap) (u' : Str → Option Value) h2 tk2', Fr g' L' h2 (lay [(Str.ofString "members", Value.ref mel'), (Str.ofString "word", Value.str wd wt), (Str.ofString "head", Value.ref hd9), (Str.ofString "states", Value.ref st), (Str.ofString "shelf", Value.ref sh), (Str.ofString "take", Value.ref f)] u') → News g' L' h2 ((hd9, oh') :: (pl, W.listOf #[.int k3 tk3] n0) :: (tb, otb') :: darkOf S5 g') → Bld Sn hs g' L' [pl, tb, hd9] S5 → oh'.IsDictOf (sk w) kvs' → HeadQ S5 kvs' wd oc → Tab w S5 otb' vals' → vals <+: vals' → vals'.length ≤ 6 →
      MemE w S5 vals' fs oc bs → S5.get? mel' = some (W.listOf (bs.map Value.bool).toArray cM') → bs.length ≤ 4 → k ≤ k3 → k3 ≤ k + 6 → wpAny (model PySem.Challenge.rw_pb0479_01.row.prog w) ((At dp un gd env outer).deeper (envX (Str.ofString "_law_membership") membScope L' 457 cd [])) (execs (membBody.drop 8) (envX (Str.ofString "_law_membership") membScope L' 457 cd [])) Q E { s with heap := h2, toks := tk2' }) :
    wpAny (model PySem.Challenge.rw_pb0479_01.row.prog w) ((At dp un gd env outer).deeper (envX (Str.ofString "_law_membership") membScope L' 457 cd [])) (execs (membBody.drop 6) (envX (Str.ofString "_law_membership") membScope L' 457 cd [])) Q E s := by
  revert X'
  k_fill
  intro X'
  generalize hbn : membBody.drop 8 = bn at next
  refine' lit (fun sc => envX (Str.ofString "_law_membership") sc L' 457 cd []) ?lit1 ?lit2 ?_
  case lit1 =>
    show membBody.drop 6 = _
    conv => lhs; whnf
  case lit2 =>
    show membScope = _
    conv => lhs; whnf
  have kg := C.kg
  have Tk' := C.Tk.mono kg
  obtain ⟨dx, es, q, i1, i2, j1, j2, j3, j4⟩ := (C.S.keeps kg).w
  have hq := C.hpl
  have hqt := C.htb
  have nep1 : @Ne Nat pl tb := C.nep
  obtain ⟨skv, sd, sf⟩ := (C.St.keeps kg).ex
  have F' := F
  have N' := N
  clear F N
  show wpAny _ _ _ _ _ _
  have lo := C.lo
  have o1 := off_all (g := g') bl3.offX (a := pl) (by first | exact .head _ | exact .tail _ (.head _) | exact .tail _ (.tail _ (.head _)) | simp)
  have o2 := off_all (g := g') bl3.offX (a := tb) (by first | exact .head _ | exact .tail _ (.head _) | exact .tail _ (.tail _ (.head _)) | simp)
  have o3 := off_all (g := g') bl3.offX (a := hd9) (by first | exact .head _ | exact .tail _ (.head _) | exact .tail _ (.tail _ (.head _)) | simp)
  have o4 := off_all (g := g') bl3.offX (a := itl) (by first | exact .head _ | exact .tail _ (.head _) | exact .tail _ (.tail _ (.head _)) | simp)
  have o5 := off_all (g := g') bl3.offX (a := mel) (by first | exact .head _ | exact .tail _ (.head _) | exact .tail _ (.tail _ (.head _)) | simp)
  have hks : kvs.length ≤ sizeLine := Nat.le_trans hkl (by decide)
  subst hbn
  have im : ItemMark := ⟨⟩
  k_steps
  walk_at "TAKE"
  intro rw9 trw tkw h5 tk5 hr0 hr1 F5 N5 k5
  clear k5
  have stm : StageMark := ⟨⟩
  rcases r_lt4 hr0 hr1 with rfl | rfl | rfl | rfl
  · cases vs with
    | nil =>
      have hz : (([] : List Value).toArray.size == 0) = true := rfl
      k_steps
      refine unhalt ?_
      (with_reducible rename Fr _ _ _ _ => Fz)
      (with_reducible rename News _ _ _ _ => Nz)
      obtain ⟨S5, bl5, up5, d5, c5⟩ := C.end3 bl3 Fz Nz (bl3.isIn Fz Nz (fun p hp => by walk_at "TAILS"))
      have up8 : ∀ b o, S3.get? b = some o → S5.get? b = some o := fun b o e => up5 b o (e)
      have T5 := (C.TB.keeps bl3.old).keeps up5
      exact next _ [] _ _ _ _ _ none _ vals S5 _ _ _ (fr_layI Fz (by exact .cons rfl (.cons rfl (.cons rfl (.cons rfl (.cons rfl (.cons rfl .nil))))))) (news3d (Nz (hd9, _) (by k_mem)) (Nz (pl, _) (by k_mem)) (Nz (tb, _) (by k_mem)) d5) bl5 hod (hH3.keeps up8) T5 (List.prefix_refl _) (by rw [C.hv]; decide) (memE_none w S5 vals fs) (c5 (by k_mem) (by k_ne) (by k_ne) (by k_ne)) (Nat.zero_le _) (by omega) (by omega)
    | cons v0 vr =>
      have hz : ((v0 :: vr).toArray.size == 0) = false := by simp
      cases gs with
      | nil => simp at hgs
      | cons g0 gr =>
        have h0 := hit 0 v0 g0 rfl rfl
        rcases itv_split (G := g') h0 with ⟨x0, n, rfl, rfl, R0, hn0⟩ | ⟨nr, hgn⟩
        rotate_left
        · clear hgn
          k_steps
          refine unhalt ?_
          (with_reducible rename Fr _ _ _ _ => Fz)
          (with_reducible rename News _ _ _ _ => Nz)
          obtain ⟨S5, bl5, up5, d5, c5⟩ := C.end3 bl3 Fz Nz (bl3.isIn Fz Nz (fun p hp => by walk_at "TAILS"))
          have up8 : ∀ b o, S3.get? b = some o → S5.get? b = some o := fun b o e => up5 b o (e)
          have T5 := (C.TB.keeps bl3.old).keeps up5
          exact next _ [] _ _ _ _ _ none _ vals S5 _ _ _ (fr_layI Fz (by exact .cons rfl (.cons rfl (.cons rfl (.cons rfl (.cons rfl (.cons rfl .nil))))))) (news3d (Nz (hd9, _) (by k_mem)) (Nz (pl, _) (by k_mem)) (Nz (tb, _) (by k_mem)) d5) bl5 hod (hH3.keeps up8) T5 (List.prefix_refl _) (by rw [C.hv]; decide) (memE_none w S5 vals fs) (c5 (by k_mem) (by k_ne) (by k_ne) (by k_ne)) (Nat.zero_le _) (by omega) (by omega)
        · skip
          obtain ⟨dxr, er, qr, tnr, tgr, rr1, rr2, rr3, rr4⟩ := R0.w
          cases hfs : fs n with
          | none =>
            have hin9 : (valueAt skv n).isSome = false := by rw [sf, hfs]; rfl
            k_steps
            refine unhalt ?_
            (with_reducible rename Fr _ _ _ _ => Fz)
            (with_reducible rename News _ _ _ _ => Nz)
            (with_reducible rename Obj.IsDictOf _ _ _ => hdz)
            rw [stored_none hH3.2.2.2.1] at hdz
            obtain ⟨S5, bl5, up5, d5, c5⟩ := C.end3 bl3 Fz Nz (bl3.isIn Fz Nz (fun p hp => by walk_at "TAILS"))
            have up8 : ∀ b o, S3.get? b = some o → S5.get? b = some o := fun b o e => up5 b o (e)
            have T5 := (C.TB.keeps bl3.old).keeps up5
            exact next _ ([none].filterMap id) _ _ _ _ _ (some (.ref x0)) _ vals S5 _ _ _ (fr_layI Fz (by exact .cons rfl (.cons rfl (.cons rfl (.cons rfl (.cons rfl (.cons rfl .nil))))))) (news3d (Nz (hd9, _) (by k_mem)) (Nz (pl, _) (by k_mem)) (Nz (tb, _) (by k_mem)) d5) bl5 hdz ((hH3.keeps up8).snoc hkl) T5 (List.prefix_refl _) (by rw [C.hv]; decide) (by have q := memE_ref T5 C.hf5 (R0.keeps up5) hn0; rw [hfs] at q; exact q) (c5 (by k_mem) (by k_ne) (by k_ne) (by k_ne)) (Nat.le_of_ble_eq_true rfl) (by omega) (by omega)
          | some b =>
            have hin9 : (valueAt skv n).isSome = true := by rw [sf, hfs]; rfl
            have hit9 : valueAt skv n = some (.bool b) := by rw [sf, hfs]; rfl
            k_steps
            refine unhalt ?_
            (with_reducible rename Fr _ _ _ _ => Fz)
            (with_reducible rename News _ _ _ _ => Nz)
            (with_reducible rename Obj.IsDictOf _ _ _ => hdz)
            rw [stored_none hH3.2.2.2.1] at hdz
            obtain ⟨S5, bl5, up5, d5, c5⟩ := C.end3 bl3 Fz Nz (bl3.isIn Fz Nz (fun p hp => by walk_at "TAILS"))
            have up8 : ∀ b o, S3.get? b = some o → S5.get? b = some o := fun b o e => up5 b o (e)
            have T5 := (C.TB.keeps bl3.old).keeps up5
            exact next _ ([some b].filterMap id) _ _ _ _ _ (some (.ref x0)) _ vals S5 _ _ _ (fr_layI Fz (by exact .cons rfl (.cons rfl (.cons rfl (.cons rfl (.cons rfl (.cons rfl .nil))))))) (news3d (Nz (hd9, _) (by k_mem)) (Nz (pl, _) (by k_mem)) (Nz (tb, _) (by k_mem)) d5) bl5 hdz ((hH3.keeps up8).snoc hkl) T5 (List.prefix_refl _) (by rw [C.hv]; decide) (by have q := memE_ref T5 C.hf5 (R0.keeps up5) hn0; rw [hfs] at q; exact q) (c5 (by k_mem) (by k_ne) (by k_ne) (by k_ne)) (Nat.le_of_ble_eq_true rfl) (by omega) (by omega)
  · k_steps
    refine unhalt ?_
    (with_reducible rename Fr _ _ _ _ => F7)
    (with_reducible rename News _ _ _ _ => N7)
    have hin3 := bl3.isIn F7 N7 (fun p hp => by walk_at "TAILS")
    refine' add_call ⟨?aB, ?aF, ?aX, ?aT, ?aN, rfl, rfl⟩ ?ar hin3 (bl3.offX tb (by first | exact .head _ | exact .tail _ (.head _) | exact .tail _ (.tail _ (.head _)) | simp)) (C.S.keeps bl3.old) ?aU (C.TB.keeps bl3.old).tab ?ahv lo ?aret
    case aB => k_asm
    case aF => exact F7
    case aX => k_asm
    case aT => k_asm
    case aN => exact N7
    case ar => k_room
    case aU => k_updF
    case ahv => rw [C.hv]; decide
    case aret =>
      intro x2 otb3 S6 h6 tk6 z6 R6 T6 F6 N6 k6
      clear k6
      have b6 := bl3.next F7 (five_all ⟨_, (N7 (pl, _) (by k_mem)).1⟩ ⟨_, (N7 (tb, _) (by k_mem)).1⟩ ⟨_, (N7 (hd9, _) (by k_mem)).1⟩ ⟨_, (N7 (itl, _) (by k_mem)).1⟩ ⟨_, (N7 (mel, _) (by k_mem)).1⟩) (C.out two_in) z6 F6.keep
      have N8 : News g' L' h6 ((itl, W.listOf vs.toArray cI) :: (mel, W.listOf ((gs.filterMap id).map Value.bool).toArray cM) :: (hd9, oh) :: (pl, W.listOf #[.int (k2 + 1) tkw] n0) :: (tb, otb3) :: darkOf S6 g') := news_pre [_, _, _, _, _] (news_dark F7 N6 z6 bl3.offL)
      clear N6
      have p1 := off_all (g := g') b6.offX (a := pl) (by first | exact .head _ | exact .tail _ (.head _) | exact .tail _ (.tail _ (.head _)) | simp)
      have p2 := off_all (g := g') b6.offX (a := tb) (by first | exact .head _ | exact .tail _ (.head _) | exact .tail _ (.tail _ (.head _)) | simp)
      have p3 := off_all (g := g') b6.offX (a := hd9) (by first | exact .head _ | exact .tail _ (.head _) | exact .tail _ (.tail _ (.head _)) | simp)
      k_steps
      refine unhalt ?_
      (with_reducible rename Fr _ _ _ _ => Fz)
      (with_reducible rename News _ _ _ _ => Nz)
      (with_reducible rename Obj.IsDictOf _ _ _ => hdz)
      rw [stored_none hH3.2.2.2.1] at hdz
      obtain ⟨S5, bl5, up5, d5, c5⟩ := C.end3 b6 Fz Nz (b6.isIn Fz Nz (fun p hp => by walk_at "TAILS"))
      have up8 : ∀ b o, S3.get? b = some o → S5.get? b = some o := fun b o e => up5 b o (z6.old b o e)
      have T5 := (C.TB.keeps bl3.old).add (T6.keeps up5) (fun b o e => up5 b o (z6.old b o e)) (.list (c5 (by k_mem) (by k_ne) (by k_ne) (by k_ne)) rfl)
      exact next _ (gs.filterMap id) _ _ _ _ _ (some (.ref x2)) _ (vals ++ [Value.ref itl]) S5 _ _ _ (fr_layI Fz (by exact .cons rfl (.cons rfl (.cons rfl (.cons rfl (.cons rfl (.cons rfl .nil))))))) (news3d (Nz (hd9, _) (by k_mem)) (Nz (pl, _) (by k_mem)) (Nz (tb, _) (by k_mem)) d5) bl5 hdz ((hH3.keeps up8).snoc hkl) T5 (List.prefix_append _ _) (by simp [C.hv]) (memE_shelf T5 C.hf5 (R6.keeps up5) (by omega) get_app (c5 (by k_mem) (by k_ne) (by k_ne) (by k_ne)) (by omega) hgs (fun j v g h1 h2 => (hit j v g h1 h2).keeps up8)) (c5 (by k_mem) (by k_ne) (by k_ne) (by k_ne)) (fm_len (by omega)) (by omega) (by omega)
  · k_steps
    refine unhalt ?_
    (with_reducible rename Fr _ _ _ _ => Fz)
    (with_reducible rename News _ _ _ _ => Nz)
    (with_reducible rename Obj.IsDictOf _ _ _ => hdz)
    rw [stored_none hH3.2.2.2.1] at hdz
    obtain ⟨S5, bl5, up5, d5, c5⟩ := C.end3 bl3 Fz Nz (bl3.isIn Fz Nz (fun p hp => by walk_at "TAILS"))
    have up8 : ∀ b o, S3.get? b = some o → S5.get? b = some o := fun b o e => up5 b o (e)
    have T5 := (C.TB.keeps bl3.old).keeps up5
    exact next _ (gs.filterMap id) _ _ _ _ _ (some (.ref itl)) _ vals S5 _ _ _ (fr_layI Fz (by exact .cons rfl (.cons rfl (.cons rfl (.cons rfl (.cons rfl (.cons rfl .nil))))))) (news3d (Nz (hd9, _) (by k_mem)) (Nz (pl, _) (by k_mem)) (Nz (tb, _) (by k_mem)) d5) bl5 hdz ((hH3.keeps up8).snoc hkl) T5 (List.prefix_refl _) (by rw [C.hv]; decide) (memE_list T5 C.hf5 (c5 (by k_mem) (by k_ne) (by k_ne) (by k_ne)) (by omega) hgs (fun j v g h1 h2 => (hit j v g h1 h2).keeps up8)) (c5 (by k_mem) (by k_ne) (by k_ne) (by k_ne)) (fm_len (by omega)) (by omega) (by omega)
  · k_steps
    refine unhalt ?_
    (with_reducible rename Fr _ _ _ _ => Fz)
    (with_reducible rename News _ _ _ _ => Nz)
    obtain ⟨S5, bl5, up5, d5, c5⟩ := C.end3 bl3 Fz Nz (bl3.isIn Fz Nz (fun p hp => by walk_at "TAILS"))
    have up8 : ∀ b o, S3.get? b = some o → S5.get? b = some o := fun b o e => up5 b o (e)
    have T5 := (C.TB.keeps bl3.old).keeps up5
    exact next _ [] _ _ _ _ _ none _ vals S5 _ _ _ (fr_layI Fz (by exact .cons rfl (.cons rfl (.cons rfl (.cons rfl (.cons rfl (.cons rfl .nil))))))) (news3d (Nz (hd9, _) (by k_mem)) (Nz (pl, _) (by k_mem)) (Nz (tb, _) (by k_mem)) d5) bl5 hod (hH3.keeps up8) T5 (List.prefix_refl _) (by rw [C.hv]; decide) (memE_none w S5 vals fs) (c5 (by k_mem) (by k_ne) (by k_ne) (by k_ne)) (Nat.zero_le _) (by omega) (by omega)
end
end
section -- D11
open PySem PySem.W PyProof.Rows PySem.Spec PySem.Calls PySem.SeqAt
theorem lines_D11_1 : True := by
  k_with_none
  k_with "Zcall ref" => (k_here; refine halt_call (by decide) ?_)
  k_with "Zcall ref" => (k_here; (with_reducible show wpAny _ _ (call (Value.ref 254) [Value.int _ _, Value.int _ _]) _ _ _); k_dflt (refine' ref_new (by kwd_rel) (by k_room) ?_; k_whole); intro _ _ _ _ _ _ _ _ _ _ l1' l2'; (try k_lt l1'); (try k_lt2 l2'); (first | (revert l1' l2'; intro _ _) | (revert l2'; intro _) | (revert l1'; intro _) | skip); (try k_sweep))
  k_with "ZTAILS" => (first | (with_reducible assumption) | (with_reducible refine List.mem_cons_of_mem _ ?_; walk_at "TAILS"))
  k_with "ZgetMethod ref" => (k_here; k_dflt (refine' dget_method_h (DctAt.keeps (by kpc_turns) (by assumption)) ?_; k_whole))
  k_with "Zcall builtin:dict.get" => (k_here; k_dflt (refine' dget2y_h (DctAt.keeps (by kpc_turns) (by assumption)) (intKind_is _ _ _ _) (by assumption) ?_; k_whole))
  k_with "ZcompareOp Eq bool bool" => (k_here; k_dflt (refine eq_bool_self ?_))
  k_with "ZcompareOp NotEq ref ref" => (k_here; (refine halt ?_))
  k_with "Zspliced" => (k_here; k_dflt (refine' args_simG (by rfl) (by rfl) (by k_asm) (by rfl) ?_; k_whole); (try dsimp only [List.cons_append, List.nil_append]))
  k_with "Zeval Call" => (k_here; (with_reducible show wpAny _ _ (eval (PySem.Expr.Call (PySem.Expr.Name _ _) (_ :: _) [] _) _) _ _ _); k_dflt (refine' call_simG (by rfl) (by k_asm) (by k_asm) (by k_asm) (by k_is) (by k_is) (by rfl) ?_ (by rfl) (by rfl); k_whole))
  trivial
section
theorem stage11 {w : World} {s : Shared} {g0 : Heap} {L0 fa : Addr} {cd : Value} {p : Program} {loose : List Str} {mean : ExcName → Option Value} {mg mb u : Str → Option Value} {E : Value → Shared → Prop} {Q : Flow → Shared → Prop}
    {sh tb st x7 : Addr} {fs : Int → Option Bool} {vals : List Value} {otb : Obj} {S : Heap} {b0 : Bool}
    (X : (hd.heap_1 w.params).In g0) (T : Top p loose mean mg mb g0) (B : Below callerA g0 [] g0)
    (F : Fr g0 L0 s.heap (lay [(Str.ofString "due", Value.bool b0), (Str.ofString "place", Value.ref x7), (Str.ofString "states", Value.ref st), (Str.ofString "shelf", Value.ref sh)] u)) (N : News g0 L0 s.heap ((tb, otb) :: darkOf S g0)) (bl : Bld g0 g0 g0 L0 [tb] S)
    (Sh : ShelfAt S sh tb) (lo : (tb == sysModules) = false) (TB : Tab w S otb vals) (FM : FontM w S vals) (hv : vals.length ≤ 45) (St : StAt w S st fs) (hP : StateE w S vals fs (.ref x7) (some b0))
    (hQ : ∀ h' tk' m', Fr g0 L0 h' m' → (∀ b o, S.get? b = some o → h'.get? b = some o) → Q (.ret (.bool true)) { s with heap := h', toks := tk' }) :
    wpAny (model PySem.Challenge.rw_pb0479_01.row.prog w) (callerA.deeper (envOf (Str.ofString "law") lawScope L0 fa cd)) (execs (lawBody.drop 11) (envOf (Str.ofString "law") lawScope L0 fa cd)) Q E s := by
  have o2 : ∀ p ∈ darkOf S g0, p.1 ≠ tb := dark_off (bl.offX tb (by first | exact .head _ | exact .tail _ (.head _) | exact .tail _ (.tail _ (.head _)) | simp))
  obtain ⟨skv, sd, sf⟩ := St.ex
  have hval : (valueAt skv 1).getD (.bool true) = .bool ((fs 1).getD true) := by rw [sf]; cases fs 1 <;> rfl
  obtain ⟨dx7, es7, qq7, i17, i27, j17, j27, j37, j47⟩ := Sh.w
  revert X
  k_fill
  intro X
  refine' lit (fun sc => envOf (Str.ofString "law") sc L0 fa cd) ?lit1 ?lit2 ?_
  case lit1 =>
    show lawBody.drop 11 = _
    conv => lhs; whnf
  case lit2 =>
    show lawScope = _
    conv => lhs; whnf
  show wpAny _ _ _ _ _ _
  k_steps
  refine unhalt ?_
  (with_reducible rename Fr _ _ _ _ => Fa)
  (with_reducible rename News _ _ _ _ => Na)
  have hin := bl.isIn Fa Na (fun p hp => by walk_at "TAILS")
  rename_i pd _ _ lop _ _ x1 d1 e1 n1 _ _ g11 g12 _ _ x5 d5 e5 n5 _ _ g51 g52 _ _ _ op hdp _ _ _ _ _ oq loq hdq _
  refine' names_call ⟨B, Fa, X, T, Na, rfl, rfl⟩ (Nat.le_of_ble_eq_true rfl) (Nat.le_of_ble_eq_true rfl) (Sh.keeps hin) (tabAt_news Na (by k_mem) TB hin lo) (St.keeps hin) (dct_news Na (.head _) hdq loq) (pd := pd) rfl (dct_news Na (by k_mem) hdp lop) (Nat.le_of_ble_eq_true rfl) (fun y => if y = Str.ofString "A" then (fs 1).getD true else if y = Str.ofString "B" then b0 else true) ?hfb ?ret
  case hfb =>
    intro kv hkv
    have hkv' : kv ∈ [(Str.ofString "A", Value.ref x1), (Str.ofString "B", Value.ref x7), (Str.ofString "C", Value.ref x5)] := hkv
    simp only [List.mem_cons, List.not_mem_nil, or_false] at hkv'
    rcases hkv' with rfl | rfl | rfl
    · exact state_grp (TB.keeps hin) (refAt_of (Na (x1, _) (by k_mem)).1 (Na (d1, _) (by k_mem)).1 g11 g12) (by decide) (by decide)
    · exact hP.at_ hv hin
    · exact state_font (TB.keeps hin) (FM.keeps hin) (refAt_of (Na (x5, _) (by k_mem)).1 (Na (d5, _) (by k_mem)).1 g51 g52)
  case ret =>
    intro D o h9 tk9 F9 N9 nD hd9 loD k9
    clear k9
    have hdD : o.IsDictOf (sk w) [(Str.ofString "A", Value.bool ((fs 1).getD true)), (Str.ofString "B", Value.bool b0), (Str.ofString "C", Value.bool true)] := hd9
    clear hd9
    k_steps
    refine unhalt ?_
    (with_reducible rename Fr _ _ _ _ => Fb)
    (with_reducible rename News _ _ _ _ => Nb)
    rename_i dl _ _ _ _ lol _ _ _ ol hdl _
    refine kne_pairs (knd := sk w) (r := true) Nb (by k_mem) (by k_mem) hdD hdl loD lol rfl (by k_units) ?hits ?h
    case hits =>
      show KeqHits _ _ _ _ (true && (true && (true && true)))
      exact .hit rfl (SeqAt.EqAt.same _) (.hit rfl (SeqAt.EqAt.same _) (.hit rfl (SeqAt.EqAt.same _) .nil))
    case h =>
      simp only [Bool.not_true]
      k_steps
      refine unhalt ?_
      (with_reducible rename Fr _ _ _ _ => Fc)
      (with_reducible rename News _ _ _ _ => Nc)
      have hinc := bl.isIn Fc Nc (fun p hp => by walk_at "TAILS")
      refine names_call0 ⟨B, Fc, X, T, Nc, rfl, rfl⟩ (Nat.le_of_ble_eq_true rfl) (Nat.le_of_ble_eq_true rfl) (Sh.keeps hinc) (tabAt_news Nc (by k_mem) TB hinc lo) (St.keeps hinc) (dct_news Nc (.head _) (kvs := []) (by assumption) (by assumption)) rfl ?_
      intro D2 o2 h10 tk10 F10 N10 nD2 hd10 lo10 k10
      clear k10
      k_steps
      refine unhalt ?_
      (with_reducible rename Fr _ _ _ _ => Fd)
      (with_reducible rename News _ _ _ _ => Nd)
      refine kne_pairs (knd := sk w) (kb := []) Nd (by k_mem) (.head _) hd10 (by assumption) lo10 (by assumption) rfl (by k_units) KeqHits.nil ?_
      simp only [Bool.not_true]
      k_steps
      refine unhalt ?_
      (with_reducible rename Fr _ _ _ _ => Fe)
      (with_reducible rename News _ _ _ _ => Ne)
      have hine := bl.isIn Fe Ne (fun p hp => by walk_at "TAILS")
      refine shown_call ⟨B, Fe, X, T, Ne, rfl, rfl⟩ (Nat.le_of_ble_eq_true rfl) (Nat.le_of_ble_eq_true rfl) (Sh.keeps hine) (tabAt_news Ne (by k_mem) TB hine lo) (St.keeps hine) (dct_news Ne (.head _) (kvs := [(Str.ofString "OC", Value.ref x7)]) (by assumption) (by assumption)) (y := .ref x7) rfl (hP.at_ hv hine) ?_
      intro h11 tk11 F11 N11 k11
      clear k11
      k_steps
      (with_reducible rename Fr _ _ _ _ => Fq)
      (with_reducible rename News _ _ _ _ => Nq)
      exact hQ _ _ _ Fq (bl.isIn Fq Nq (fun p hp => by walk_at "TAILS"))
end
end
section
local macro_rules | `(tactic| passes_own) => `(tactic| assumption)
section -- M1
open PySem PySem.W PyProof.Rows PySem.Spec PySem.Calls PySem.SeqAt
theorem lines_M1_1 : True := by
  k_with_none
  k_with "Zcall ref" => (k_here; refine halt_int ?_)
  k_with "Zcall ref" => (k_here; (with_reducible show wpAny _ _ (call (Value.ref 183) [Value.str _ _]) _ _ _); k_dflt (refine' name_new (by kwd_rel) (by k_room) ?_; k_whole); intro _ _ _ _ _ _ _ _ _ l1' l2'; (try k_lt l1'); (try k_lt2 l2'); (first | (revert l1' l2'; intro _ _) | (revert l2'; intro _) | (revert l1'; intro _) | skip); (try k_sweep))
  k_with "ZTAKE" => (refine unhalt ?_; refine' take_call (by k_asm) (by k_asm) (by k_asm) (by k_asm) (by k_asm) (TakeAt.mono (by assumption) (Fr.keep (by k_asm))) (by k_updF) rfl rfl rfl (by k_room) (by kwd_inv) (by first | assumption | omega) (by first | assumption | omega) (by decide) (by decide) ?_)
  k_with "ZsubscriptTail" => (k_here; (have hm9 : SubMark := by assumption); (clear hm9); (refine halt ?_))
  k_with "ZcompareOp NotEq str str" => (k_here; k_dflt (refine' ne_str_f (by assumption) ?_; k_whole))
  k_with "Zexecs cons" => (k_here; (with_reducible refine halt_for StageMark (by assumption) ?_))
  k_with "Zspliced" => (k_here; k_dflt (refine' args_simG (by rfl) (by rfl) (by k_asm) (by rfl) ?_; k_whole); (try dsimp only [List.cons_append, List.nil_append]))
  k_with "Zeval Call" => (k_here; (with_reducible show wpAny _ _ (eval (PySem.Expr.Call (PySem.Expr.Name _ _) (_ :: _) [] _) _) _ _ _); k_dflt (refine' call_simG (by rfl) (by k_asm) (by k_asm) (by k_asm) (by k_is) (by k_is) (by rfl) ?_ (by rfl) (by rfl); k_whole))
  k_with "Zeval Call" => (k_here; (with_reducible show wpAny _ _ (eval (PySem.Expr.Call (PySem.Expr.Name _ _) (_ :: _) [] _) _) _ _ _); k_dflt (refine' callfn_sim (by k_asm) (by exact rfl) (TakeAt.fn (by assumption) (by k_asm)) (by rfl) ?_ (by rfl) (by rfl) (by decide); k_whole))
  trivial
/-- one of the five words picked -/
theorem six_pick {prog : Program} {w : World} {A : Around} {E : Value → Shared → Prop} {s : Shared} {value slice : PySem.Expr} {t : Addr} {k : Int} {u t1 t2 t3 t4 t5 t6 : Tok} {Q : Value → Shared → Prop} (ht : IsTup s.heap t #[.str (Str.ofString "AllOn") t1, .str (Str.ofString "AnyOn") t2, .str (Str.ofString "AnyOff") t3, .str (Str.ofString "AllOff") t4, .str (Str.ofString "Most") t5, .str (Str.ofString "") t6])
    (h0 : 0 ≤ k) (h5 : k < 5) (h : ∀ wd tt, (wd == Str.ofString "") = false → Q (.str wd tt) s)
    (hs : subscripted slice false (.ref t) (.int k u) = operate [.ref t, .int k u] (getItem (.ref t) (.int k u)) := by with_unfolding_all rfl) :
    wpAny (model prog w) A (subscriptTail value slice (.ref t) (.int k u)) Q E s := by
  obtain ⟨wd, tt, hx9, hne⟩ : ∃ wd tt, ([.str (Str.ofString "AllOn") t1, .str (Str.ofString "AnyOn") t2, .str (Str.ofString "AnyOff") t3, .str (Str.ofString "AllOff") t4, .str (Str.ofString "Most") t5, .str (Str.ofString "") t6] : List Value)[k.toNat]? = some (.str wd tt) ∧ (wd == Str.ofString "") = false := by
    rcases r_lt5 h0 h5 with rfl | rfl | rfl | rfl | rfl <;> exact ⟨_, _, rfl, by decide⟩
  exact tup_sym (l := [.str (Str.ofString "AllOn") t1, .str (Str.ofString "AnyOn") t2, .str (Str.ofString "AnyOff") t3, .str (Str.ofString "AllOff") t4, .str (Str.ofString "Most") t5, .str (Str.ofString "") t6]) ht h0 (by omega) hx9 (h wd tt hne) hs
section
theorem memb1 {w : World} {s : Shared} {base hs g' Sn : Heap} {outer : List Env} {L' : Addr} {cd : Value} {mg mb u : Str → Option Value} {env : Env} {p : Program} {loose : List Str} {mean : ExcName → Option Value}
    {E : Value → Shared → Prop} {Q : Flow → Shared → Prop} {dp un : Nat} {gd : Option (List Code)} {f pl sh tb st : Addr} {ns : List Int} {fs : Int → Option Bool} {vals : List Value} {otb : Obj} {n0 : Nat} {k : Int} {tk0 : Tok}
    (C : MC w Sn hs g' L' f pl sh tb st ns fs vals otb) (X' : (hd.heap_1 w.params).In g') (T' : Top p loose mean mg mb g') (B' : Below (At dp un gd env outer) base (env :: outer) g') (hroom : dp + 300 < recursionLimit) (hun : un + 300 < cLine) (hk : 0 ≤ k) (hk4 : k ≤ 100)
    (F : Fr g' L' s.heap (lay [(Str.ofString "states", Value.ref st), (Str.ofString "shelf", Value.ref sh), (Str.ofString "take", Value.ref f)] u)) (N : News g' L' s.heap [(pl, W.listOf #[.int k tk0] n0), (tb, otb)])
    (hE : PassesOwn (model PySem.Challenge.rw_pb0479_01.row.prog w) ((At dp un gd env outer).deeper (envX (Str.ofString "_law_membership") membScope L' 457 cd [])) (envX (Str.ofString "_law_membership") membScope L' 457 cd []) E)
    (next : ∀ (hd9 itl mel : Addr) (wd : Str) (wt : Tok) (tk1 : Tok) (oh : Obj) (kvs : List (Str × Value)) (S2 : Heap) (u' : Str → Option Value) h2 tk2, Fr g' L' h2 (lay [(Str.ofString "members", Value.ref mel), (Str.ofString "items", Value.ref itl), (Str.ofString "word", Value.str wd wt), (Str.ofString "head", Value.ref hd9), (Str.ofString "states", Value.ref st), (Str.ofString "shelf", Value.ref sh), (Str.ofString "take", Value.ref f)] u') → News g' L' h2 ((itl, W.listOf #[] 0) :: (mel, W.listOf #[] 0) :: (hd9, oh) :: (pl, W.listOf #[.int (k + 1) tk1] n0) :: (tb, otb) :: darkOf S2 g') →
      Bld Sn hs g' L' [pl, tb, hd9, itl, mel] S2 → oh.IsDictOf (sk w) kvs → HeadQ S2 kvs wd none → kvs.length ≤ 2 → @LT.lt Nat instLTNat pl hd9 → @LT.lt Nat instLTNat tb hd9 → @LT.lt Nat instLTNat hd9 itl → @LT.lt Nat instLTNat itl mel → wpAny (model PySem.Challenge.rw_pb0479_01.row.prog w) ((At dp un gd env outer).deeper (envX (Str.ofString "_law_membership") membScope L' 457 cd [])) (execs (membBody.drop 5) (envX (Str.ofString "_law_membership") membScope L' 457 cd [])) Q E { s with heap := h2, toks := tk2 }) :
    wpAny (model PySem.Challenge.rw_pb0479_01.row.prog w) ((At dp un gd env outer).deeper (envX (Str.ofString "_law_membership") membScope L' 457 cd [])) (execs (membBody.drop 0) (envX (Str.ofString "_law_membership") membScope L' 457 cd [])) Q E s := by
  revert X'
  k_fill
  intro X'
  generalize hbn : membBody.drop 5 = bn at next
  refine' lit (fun sc => envX (Str.ofString "_law_membership") sc L' 457 cd []) ?lit1 ?lit2 ?_
  case lit1 =>
    show membBody.drop 0 = _
    conv => lhs; whnf
  case lit2 =>
    show membScope = _
    conv => lhs; whnf
  have kg := C.kg
  have Tk' := C.Tk.mono kg
  obtain ⟨dx, es, q, i1, i2, j1, j2, j3, j4⟩ := (C.S.keeps kg).w
  have hq := C.hpl
  have hqt := C.htb
  have nep1 : @Ne Nat pl tb := C.nep
  obtain ⟨skv, sd, sf⟩ := (C.St.keeps kg).ex
  have F' := F
  have N' := N
  clear F N
  show wpAny _ _ _ _ _ _
  k_steps
  walk_at "TAKE"
  intro r tr tk1 h5 tk5 hr0 hr1 F5 N5 k5
  clear k5
  subst hbn
  have stm : StageMark := ⟨⟩
  rcases r_56 hr1 with hr5 | rfl
  · have sm : SubMark := ⟨⟩
    k_steps
    clear sm
    refine unhalt ?_
    (with_reducible rename News _ _ _ _ => Nt)
    refine six_pick (News.isTup Nt (.head _)) hr0 hr5 fun wd tt hne => ?_
    k_steps
    refine unhalt ?_
    (with_reducible rename Fr _ _ _ _ => Fz)
    (with_reducible rename News _ _ _ _ => Nz)
    (with_reducible rename Obj.IsDictOf _ _ _ => hdz)
    refine' next _ _ _ _ _ _ _ _ (cmp Sn hs _ L' [pl, tb, _, _, _]) _ _ _ (fr_layI Fz (by exact .cons rfl (.cons rfl (.cons rfl (.cons rfl (.cons rfl (.cons rfl (.cons rfl .nil)))))))) (news5 (Nz (_, _) (by k_mem)) (Nz (_, _) (by k_mem)) (Nz (_, _) (by k_mem)) (Nz (pl, _) (by k_mem)) (Nz (tb, _) (by k_mem)) (fun p hp => news_cmp Fz Nz p (List.mem_append_right _ hp)))
      (C.bi.cmp Fz (C.bi.isIn Fz Nz (fun p hp => absurd hp (by rw [dark_nil C.kg]; exact List.not_mem_nil))) (five_all C.nP C.nT (C.no Nz (by k_mem) (by k_ne) (by k_ne)) (C.no Nz (by k_mem) (by k_ne) (by k_ne)) (C.no Nz (by k_mem) (by k_ne) (by k_ne)))).1 hdz ?hp (Nat.le_of_ble_eq_true rfl) (by omega) (by omega) (by omega) (by omega)
    refine ⟨Nat.le_of_ble_eq_true rfl, ⟨_, rfl, ?_⟩, rfl, rfl, ?_⟩
    · exact nameAt_of (C.cn Nz (by k_mem) (five_ne (by k_ne) (by k_ne) (by k_ne) (by k_ne) (by k_ne))) (C.cn Nz (by k_mem) (five_ne (by k_ne) (by k_ne) (by k_ne) (by k_ne) (by k_ne))) (by first | rfl | assumption)
    · first
      | exact .inl ⟨rfl, rfl⟩
      | (refine .inr ⟨_, rfl, ?_⟩
         exact nameAt_of (C.cn Nz (by k_mem) (five_ne (by k_ne) (by k_ne) (by k_ne) (by k_ne) (by k_ne))) (C.cn Nz (by k_mem) (five_ne (by k_ne) (by k_ne) (by k_ne) (by k_ne) (by k_ne))) (by first | rfl | assumption))
  · k_steps
    refine unhalt ?_
    (with_reducible rename Fr _ _ _ _ => Fz)
    (with_reducible rename News _ _ _ _ => Nz)
    (with_reducible rename Obj.IsDictOf _ _ _ => hdz)
    refine' next _ _ _ _ _ _ _ _ (cmp Sn hs _ L' [pl, tb, _, _, _]) _ _ _ (fr_layI Fz (by exact .cons rfl (.cons rfl (.cons rfl (.cons rfl (.cons rfl (.cons rfl (.cons rfl .nil)))))))) (news5 (Nz (_, _) (by k_mem)) (Nz (_, _) (by k_mem)) (Nz (_, _) (by k_mem)) (Nz (pl, _) (by k_mem)) (Nz (tb, _) (by k_mem)) (fun p hp => news_cmp Fz Nz p (List.mem_append_right _ hp)))
      (C.bi.cmp Fz (C.bi.isIn Fz Nz (fun p hp => absurd hp (by rw [dark_nil C.kg]; exact List.not_mem_nil))) (five_all C.nP C.nT (C.no Nz (by k_mem) (by k_ne) (by k_ne)) (C.no Nz (by k_mem) (by k_ne) (by k_ne)) (C.no Nz (by k_mem) (by k_ne) (by k_ne)))).1 hdz ?hp2 (Nat.le_of_ble_eq_true rfl) (by omega) (by omega) (by omega) (by omega)
    refine ⟨Nat.le_of_ble_eq_true rfl, ⟨_, rfl, ?_⟩, rfl, rfl, ?_⟩
    · exact nameAt_of (C.cn Nz (by k_mem) (five_ne (by k_ne) (by k_ne) (by k_ne) (by k_ne) (by k_ne))) (C.cn Nz (by k_mem) (five_ne (by k_ne) (by k_ne) (by k_ne) (by k_ne) (by k_ne))) (by first | rfl | assumption)
    · first
      | exact .inl ⟨rfl, rfl⟩
      | (refine .inr ⟨_, rfl, ?_⟩
         exact nameAt_of (C.cn Nz (by k_mem) (five_ne (by k_ne) (by k_ne) (by k_ne) (by k_ne) (by k_ne))) (C.cn Nz (by k_mem) (five_ne (by k_ne) (by k_ne) (by k_ne) (by k_ne) (by k_ne))) (by first | rfl | assumption))
end
end
section -- M2
open PySem PySem.W PyProof.Rows PySem.Spec PySem.Calls PySem.SeqAt
theorem lines_M2_1 : True := by
  k_with_none
  k_with "Zcall ref" => (k_here; refine halt_int ?_)
  k_with "Zcall ref" => (k_here; (with_reducible show wpAny _ _ (call (Value.ref 254) [Value.int _ _, Value.int _ _]) _ _ _); k_dflt (refine' ref_new (by kwd_rel) (by k_room) ?_; k_whole); intro _ _ _ _ _ _ _ _ _ _ l1' l2'; (try k_lt l1'); (try k_lt2 l2'); (first | (revert l1' l2'; intro _ _) | (revert l2'; intro _) | (revert l1'; intro _) | skip); (try k_sweep))
  k_with "ZcompareOp In int ref" => (k_here; k_dflt (refine' din (by k_asm) (by assumption) (intKind_is _ _ _ _) (by assumption) ?_; k_whole))
  k_with "ZsubscriptTail" => (k_here; (with_reducible show wpAny _ _ (subscriptTail _ _ (Value.ref _) (Value.int _ _)) _ _ _); k_dflt (refine' ditem (by k_asm) (by assumption) (intKind_is _ _ _ _) (by assumption) ?_; k_whole))
  k_with "ZTAKE" => (refine unhalt ?_; refine' take_call (by k_asm) (by k_asm) (by k_asm) (by k_asm) (by k_asm) (TakeAt.mono (by assumption) (Fr.keep (by k_asm))) (by k_updF) rfl rfl rfl (by k_room) (by kwd_inv) (by first | assumption | omega) (by first | assumption | omega) (by decide) (by decide) ?_)
  k_with "ZTAILS" => (first | (with_reducible assumption) | (with_reducible refine List.mem_cons_of_mem _ ?_; walk_at "TAILS"))
  k_with "ZsubscriptTail" => (k_here; (have hm9 : SubMark := by assumption); (clear hm9); (refine halt ?_))
  k_with "ZpyIter ref" => (k_here; (refine halt ?_))
  k_with "Zcall builtin:list.append" => (k_here; (with_reducible show wpAny _ _ (call (Value.builtin _) [Value.ref _, _]) _ _ _); k_dflt (refine' append_K (by k_asm) (by k_asm) (by k_upd) ?_ (by first | assumption | size_fits); k_whole); intro _ _ _; (try k_sweep))
  k_with "Zspliced" => (k_here; k_dflt (refine' args_simG (by rfl) (by rfl) (by k_asm) (by rfl) ?_; k_whole); (try dsimp only [List.cons_append, List.nil_append]))
  k_with "Zeval Call" => (k_here; (with_reducible show wpAny _ _ (eval (PySem.Expr.Call (PySem.Expr.Name _ _) (_ :: _) [] _) _) _ _ _); k_dflt (refine' call_simG (by rfl) (by k_asm) (by k_asm) (by k_asm) (by k_is) (by k_is) (by rfl) ?_ (by rfl) (by rfl); k_whole))
  k_with "Zeval Call" => (k_here; (with_reducible show wpAny _ _ (eval (PySem.Expr.Call (PySem.Expr.Name _ _) (_ :: _) [] _) _) _ _ _); k_dflt (refine' callfn_sim (by k_asm) (by exact rfl) (TakeAt.fn (by assumption) (by k_asm)) (by rfl) ?_ (by rfl) (by rfl) (by decide); k_whole))
  trivial
section
theorem m2_i {r : Int} {i : Nat} (a : r < 4) (b : i < r.toNat) : (i : Int) < 4 := by omega
theorem m2_0 {k k2 : Int} {i : Nat} (h : k2 = k + 2 + (i : Int)) (a : 0 ≤ k) : 0 ≤ k2 := by omega
theorem m2_1 {k k2 : Int} {i : Nat} (h : k2 = k + 2 + (i : Int)) (a : k ≤ 100) (b : (i : Int) < 4) : k2 < 400 := by omega
theorem m2_9 {k k2 : Int} {i : Nat} (h : k2 = k + 2 + (i : Int)) : k2 + 1 = k + 2 + ((i + 1 : Nat) : Int) := by omega
theorem m2_a {k k2 : Int} {i : Nat} (h : k2 = k + 2 + (i : Int)) : k + 2 ≤ k2 := by omega
theorem m2_b {k k2 r : Int} (h : k2 = k + 2 + (r.toNat : Int)) (a : 0 ≤ r) (b : r < 4) : k2 ≤ k + 5 := by omega
theorem m2_c {r : Int} {n : Nat} (h : n = r.toNat) (b : r < 4) : n ≤ 3 := by omega
theorem m2_g {a b i : Nat} (h1 : a = b) (h2 : b = i) (h : (i : Int) < 4) : a ≤ 4 := by omega
theorem memb2 {w : World} {s : Shared} {base hs g' Sn : Heap} {outer : List Env} {L' : Addr} {cd : Value} {mg mb u : Str → Option Value} {env : Env} {p : Program} {loose : List Str} {mean : ExcName → Option Value}
    {E : Value → Shared → Prop} {Q : Flow → Shared → Prop} {dp un : Nat} {gd : Option (List Code)} {f pl sh tb st : Addr} {ns : List Int} {fs : Int → Option Bool} {vals : List Value} {otb : Obj} {n0 : Nat} {k : Int} {hd9 itl mel : Addr} {wd : Str} {wt tk1 : Tok} {oh : Obj} {S2 : Heap}
    (C : MC w Sn hs g' L' f pl sh tb st ns fs vals otb) (X' : (hd.heap_1 w.params).In g') (T' : Top p loose mean mg mb g') (B' : Below (At dp un gd env outer) base (env :: outer) g') (hroom : dp + 300 < recursionLimit) (hun : un + 300 < cLine) (hk : 0 ≤ k) (hk4 : k ≤ 100)
    (F : Fr g' L' s.heap (lay [(Str.ofString "members", Value.ref mel), (Str.ofString "items", Value.ref itl), (Str.ofString "word", Value.str wd wt), (Str.ofString "head", Value.ref hd9), (Str.ofString "states", Value.ref st), (Str.ofString "shelf", Value.ref sh), (Str.ofString "take", Value.ref f)] u)) (N : News g' L' s.heap ((itl, W.listOf #[] 0) :: (mel, W.listOf #[] 0) :: (hd9, oh) :: (pl, W.listOf #[.int (k + 1) tk1] n0) :: (tb, otb) :: darkOf S2 g')) (bl : Bld Sn hs g' L' [pl, tb, hd9, itl, mel] S2)
    (q1 : @LT.lt Nat instLTNat pl hd9) (q2 : @LT.lt Nat instLTNat tb hd9) (q3 : @LT.lt Nat instLTNat hd9 itl) (q4 : @LT.lt Nat instLTNat itl mel)
    (hE : PassesOwn (model PySem.Challenge.rw_pb0479_01.row.prog w) ((At dp un gd env outer).deeper (envX (Str.ofString "_law_membership") membScope L' 457 cd [])) (envX (Str.ofString "_law_membership") membScope L' 457 cd []) E)
    (next : ∀ (vs : List Value) (gs : List (Option Bool)) (cI cM : Nat) (k2 : Int) (tk2 : Tok) (S3 : Heap) (u' : Str → Option Value) h2 tk2', Fr g' L' h2 (lay [(Str.ofString "members", Value.ref mel), (Str.ofString "items", Value.ref itl), (Str.ofString "word", Value.str wd wt), (Str.ofString "head", Value.ref hd9), (Str.ofString "states", Value.ref st), (Str.ofString "shelf", Value.ref sh), (Str.ofString "take", Value.ref f)] u') → News g' L' h2 ((itl, W.listOf vs.toArray cI) :: (mel, W.listOf ((gs.filterMap id).map Value.bool).toArray cM) :: (hd9, oh) :: (pl, W.listOf #[.int k2 tk2] n0) :: (tb, otb) :: darkOf S3 g') → Bld Sn hs g' L' [pl, tb, hd9, itl, mel] S3 → (∀ b o, S2.get? b = some o → S3.get? b = some o) → gs.length = vs.length → (∀ (j : Nat) v g, vs[j]? = some v → gs[j]? = some g → ItV S3 fs v g) → k + 2 ≤ k2 → k2 ≤ k + 5 → vs.length ≤ 3 →
      wpAny (model PySem.Challenge.rw_pb0479_01.row.prog w) ((At dp un gd env outer).deeper (envX (Str.ofString "_law_membership") membScope L' 457 cd [])) (execs (membBody.drop 6) (envX (Str.ofString "_law_membership") membScope L' 457 cd [])) Q E { s with heap := h2, toks := tk2' }) :
    wpAny (model PySem.Challenge.rw_pb0479_01.row.prog w) ((At dp un gd env outer).deeper (envX (Str.ofString "_law_membership") membScope L' 457 cd [])) (execs (membBody.drop 5) (envX (Str.ofString "_law_membership") membScope L' 457 cd [])) Q E s := by
  revert X'
  k_fill
  intro X'
  generalize hbn : membBody.drop 6 = bn at next
  refine' lit (fun sc => envX (Str.ofString "_law_membership") sc L' 457 cd []) ?lit1 ?lit2 ?_
  case lit1 =>
    show membBody.drop 5 = _
    conv => lhs; whnf
  case lit2 =>
    show membScope = _
    conv => lhs; whnf
  have kg := C.kg
  have Tk' := C.Tk.mono kg
  obtain ⟨dx, es, q, i1, i2, j1, j2, j3, j4⟩ := (C.S.keeps kg).w
  have hq := C.hpl
  have hqt := C.htb
  have nep1 : @Ne Nat pl tb := C.nep
  obtain ⟨skv, sd, sf⟩ := (C.St.keeps kg).ex
  have F' := F
  have N' := N
  clear F N
  show wpAny _ _ _ _ _ _
  have o1 := off_all (g := g') bl.offX (a := pl) (by first | exact .head _ | exact .tail _ (.head _) | exact .tail _ (.tail _ (.head _)) | simp)
  have o2 := off_all (g := g') bl.offX (a := tb) (by first | exact .head _ | exact .tail _ (.head _) | exact .tail _ (.tail _ (.head _)) | simp)
  have o3 := off_all (g := g') bl.offX (a := hd9) (by first | exact .head _ | exact .tail _ (.head _) | exact .tail _ (.tail _ (.head _)) | simp)
  have o4 := off_all (g := g') bl.offX (a := itl) (by first | exact .head _ | exact .tail _ (.head _) | exact .tail _ (.tail _ (.head _)) | simp)
  have o5 := off_all (g := g') bl.offX (a := mel) (by first | exact .head _ | exact .tail _ (.head _) | exact .tail _ (.tail _ (.head _)) | simp)
  k_steps
  walk_at "TAKE"
  intro r tr tk1 h5 tk5 hr0 hr1 F5 N5 k5
  clear k5
  have hb : Halt (0 ≤ r ∧ r < 4) := ⟨hr0, hr1⟩
  clear hr0 hr1
  k_steps
  refine unhalt ?_
  (with_reducible rename IsRange _ _ _ _ _ _ _ _ => rgX)
  (with_reducible rename Fr _ _ _ _ => Fl)
  (with_reducible rename News _ _ _ _ => Nl)
  obtain ⟨hb0, hb4⟩ : 0 ≤ r ∧ r < 4 := hb
  obtain ⟨hsm, hrs⟩ := range4 hb0 hb4
  with_unfolding_all refine range_free (n := r.toNat) (MJ2 fs Sn hs g' S2 L' pl tb hd9 itl mel st sh f wd wt oh otb n0 k) rfl rgX hsm hrs Fl Nl ?_ ?_ ?_
  · have q0 : k + 1 + 1 = k + 2 := by omega
    rw [q0]
    exact .mk 0 _ (k + 2) _ S2 [] [] _ _ bl (fun _ _ e => e) (by omega) rfl rfl (fun j v g e => by simp at e)
  · rintro i t m₁ nx h tk I own hi ⟨u, k2, tk2, S3, vs, gs, cI, cM, bl3, up3, hk2, hvs, hgs, hit⟩ hI0 hown hoff hIx Fz Nz
    have hi4 : (i : Int) < 4 := m2_i hb4 hi
    have hk20 : 0 ≤ k2 := by first | exact m2_0 hk2 (by assumption) | omega
    have hk24 : k2 < 400 := by first | exact m2_1 hk2 (by assumption) hi4 | omega
    obtain ⟨oI, hoI⟩ := hIx
    have hown2 := own_one hown hoI Nz
    have Nz2 := own_front5 hoI Nz
    have Fz2 : Fr g' L' h (fun y => if y = Str.ofString "turn" then some (.int (0 + i) t) else lay [(Str.ofString "members", Value.ref mel), (Str.ofString "items", Value.ref itl), (Str.ofString "word", Value.str wd wt), (Str.ofString "head", Value.ref hd9), (Str.ofString "states", Value.ref st), (Str.ofString "shelf", Value.ref sh), (Str.ofString "take", Value.ref f)] u y) := Fz
    have o1 := off_all (g := g') bl3.offX (a := pl) (by first | exact .head _ | exact .tail _ (.head _) | exact .tail _ (.tail _ (.head _)) | simp)
    have o2 := off_all (g := g') bl3.offX (a := tb) (by first | exact .head _ | exact .tail _ (.head _) | exact .tail _ (.tail _ (.head _)) | simp)
    have o3 := off_all (g := g') bl3.offX (a := hd9) (by first | exact .head _ | exact .tail _ (.head _) | exact .tail _ (.tail _ (.head _)) | simp)
    have o4 := off_all (g := g') bl3.offX (a := itl) (by first | exact .head _ | exact .tail _ (.head _) | exact .tail _ (.tail _ (.head _)) | simp)
    have o5 := off_all (g := g') bl3.offX (a := mel) (by first | exact .head _ | exact .tail _ (.head _) | exact .tail _ (.tail _ (.head _)) | simp)
    have y1 : @Ne Nat pl I := hoff (pl, _) (by k_mem)
    have y2 : @Ne Nat tb I := hoff (tb, _) (by k_mem)
    have y3 : @Ne Nat hd9 I := hoff (hd9, _) (by k_mem)
    have y4 : @Ne Nat itl I := hoff (itl, _) (by k_mem)
    have y5 : @Ne Nat mel I := hoff (mel, _) (by k_mem)
    clear Nz Fz Fl Nl next
    (try clear F5 N5)
    (try clear F' N')
    k_steps
    walk_at "TAKE"
    intro r8 tr8 tk8 h8 tk8' hr0 hr1 F8 N8 k8
    clear k8
    have sm : SubMark := ⟨⟩
    k_steps
    clear sm
    refine unhalt ?_
    (with_reducible rename Fr _ _ _ _ => F9)
    (with_reducible rename News _ _ _ _ => N9)
    have hin3 := bl3.isIn F9 N9 (fun p hp => by walk_at "TAILS")
    rename_i x1 d1 _ _ _ _ _ _ a1 b1 x2 d2 _ _ _ _ _ _ a2 b2 x3 d3 _ _ _ _ _ _ a3 b3 x4 d4x _ _ _ _ _ _ a4 b4 x5 d5 _ _ _ _ _ _ a5 b5 x6 d6 _ _ _ _ _ _ a6 b6 _ _ _
    have hX := six_lt (d := d1) (a := pl) (b := tb) (c := hd9) (e := itl) (f := mel) (g := I) (by first | tb_start | omega) (by first | tb_start | omega) (by first | tb_start | omega) (by first | tb_start | omega) (by first | tb_start | omega) (by first | tb_start | omega)
    obtain ⟨S4, bl6, up4, d4, c4⟩ : EndI Sn hs g' _ L' [pl, tb, hd9, itl, mel, I] S3 _ d1 :=
      ⟨_, (bl3.cmp F9 hin3 (six_none bl3.offX (dark_none hI0 (fun p hp => hoff p (by walk_at "TAILS"))))).1, (bl3.cmp F9 hin3 (six_none bl3.offX (dark_none hI0 (fun p hp => hoff p (by walk_at "TAILS"))))).2, fun p hp => news_cmp F9 N9 p (List.mem_append_right _ hp), fun {a o} hm n => C.cb N9 hm hX n⟩
    have l2 : @LT.lt Nat instLTNat d1 d2 := by first | tb_start | omega
    have l3 : @LT.lt Nat instLTNat d1 d3 := by first | tb_start | omega
    have l4 : @LT.lt Nat instLTNat d1 d4x := by first | tb_start | omega
    have l5 : @LT.lt Nat instLTNat d1 d5 := by first | tb_start | omega
    have l6 : @LT.lt Nat instLTNat d1 d6 := by first | tb_start | omega
    refine tup_pick (News.isTup N9 (.head _)) hr0 hr1 (PickJ fs S4 r8) ?_ ?_ ?_ ?_ ?_ ?_ ?_ ?_ ?_
    · exact fun e => ⟨fs 1, .ref (refAt_of (c4 (by k_mem) (Nat.le_of_lt (by first | assumption | omega))) (c4 (by k_mem) (Nat.le_refl _)) (by first | rfl | assumption) (by first | rfl | assumption)) (by decide), fun _ => (by rw [e]; rfl), fun h => absurd (e ▸ h) (by decide)⟩
    · exact fun e => ⟨fs 2, .ref (refAt_of (c4 (by k_mem) (Nat.le_of_lt (Nat.lt_trans l2 (by first | assumption | omega)))) (c4 (by k_mem) (Nat.le_of_lt l2)) (by first | rfl | assumption) (by first | rfl | assumption)) (by decide), fun _ => (by rw [e]; rfl), fun h => absurd (e ▸ h) (by decide)⟩
    · exact fun e => ⟨fs 3, .ref (refAt_of (c4 (by k_mem) (Nat.le_of_lt (Nat.lt_trans l3 (by first | assumption | omega)))) (c4 (by k_mem) (Nat.le_of_lt l3)) (by first | rfl | assumption) (by first | rfl | assumption)) (by decide), fun _ => (by rw [e]; rfl), fun h => absurd (e ▸ h) (by decide)⟩
    · exact fun e => ⟨fs 4, .ref (refAt_of (c4 (by k_mem) (Nat.le_of_lt (Nat.lt_trans l4 (by first | assumption | omega)))) (c4 (by k_mem) (Nat.le_of_lt l4)) (by first | rfl | assumption) (by first | rfl | assumption)) (by decide), fun _ => (by rw [e]; rfl), fun h => absurd (e ▸ h) (by decide)⟩
    · exact fun e => ⟨fs 5, .ref (refAt_of (c4 (by k_mem) (Nat.le_of_lt (Nat.lt_trans l5 (by first | assumption | omega)))) (c4 (by k_mem) (Nat.le_of_lt l5)) (by first | rfl | assumption) (by first | rfl | assumption)) (by decide), fun h => absurd (e ▸ h) (by decide), fun _ => C.hf5 _ (by decide)⟩
    · exact fun e => ⟨fs 60, .ref (refAt_of (c4 (by k_mem) (Nat.le_of_lt (Nat.lt_trans l6 (by first | assumption | omega)))) (c4 (by k_mem) (Nat.le_of_lt l6)) (by first | rfl | assumption) (by first | rfl | assumption)) (by decide), fun h => absurd (e ▸ h) (by decide), fun _ => C.hf5 _ (by decide)⟩
    · exact fun e => ⟨none, .none, fun h => absurd (e ▸ h) (by decide), fun h => rfl⟩
    · exact fun e => ⟨none, .seven, fun h => absurd (e ▸ h) (by decide), fun h => rfl⟩
    · rintro v9 ⟨g9, hv9, hg4, hgn⟩
      have bl4 : Bld Sn hs g' L' [pl, tb, hd9, itl, mel] S4 := bl6.weak (fun a ha => List.mem_append_left [I] ha)
      have N10 := news5 (dk := (I, oI) :: darkOf S4 g') (N9 (itl, _) (by k_mem)) (N9 (mel, _) (by k_mem)) (N9 (hd9, _) (by k_mem)) (N9 (pl, _) (by k_mem)) (N9 (tb, _) (by k_mem)) (fun p hp => (List.mem_cons.mp hp).elim (fun h => h ▸ N9 (I, oI) (by k_mem)) (d4 p))
      dsimp only at N10
      have hms := fm_size (gs := gs) (by first | exact m2_g hgs hvs hi4 | omega)
      have z1 := off_all (g := g') bl4.offX (a := pl) (by first | exact .head _ | exact .tail _ (.head _) | exact .tail _ (.tail _ (.head _)) | simp)
      have z2 := off_all (g := g') bl4.offX (a := tb) (by first | exact .head _ | exact .tail _ (.head _) | exact .tail _ (.tail _ (.head _)) | simp)
      have z3 := off_all (g := g') bl4.offX (a := hd9) (by first | exact .head _ | exact .tail _ (.head _) | exact .tail _ (.tail _ (.head _)) | simp)
      have z4 := off_all (g := g') bl4.offX (a := itl) (by first | exact .head _ | exact .tail _ (.head _) | exact .tail _ (.tail _ (.head _)) | simp)
      have z5 := off_all (g := g') bl4.offX (a := mel) (by first | exact .head _ | exact .tail _ (.head _) | exact .tail _ (.tail _ (.head _)) | simp)
      clear N9 hX c4
      have hk9 : k2 + 1 = k + 2 + ((i + 1 : Nat) : Int) := m2_9 hk2
      rcases Decidable.em (4 ≤ r8) with h4 | h4
      · have hg9 := hgn h4
        subst hg9
        k_steps
        all_goals (try (exfalso; omega))
        all_goals (
         (with_reducible rename Fr _ _ _ _ => Fe)
         (with_reducible rename News _ _ _ _ => Ne)
         simp only [List.push_toArray] at Ne
         have NeX := own_back5 hown2 Ne
         rw [← fm_none] at NeX
         exact .fin rfl rfl rfl (fr_layI Fe (by exact .cons rfl (.cons rfl (.cons rfl (.cons rfl (.cons rfl (.cons rfl (.cons rfl .nil)))))))) NeX (off5 y4 y5 y3 y1 y2 (dark_off (bl6.offX I (by first | exact .head _ | exact .tail _ (.head _) | exact .tail _ (.tail _ (.head _)) | simp)))) (.mk (i + 1) _ (k2 + 1) tk8 S4 (vs ++ [v9]) (gs ++ [none]) (cI + 1) cM bl4 (fun b o e => up4 b o (up3 b o e)) hk9 (by simp [hvs]) (by simp [hgs]) (itv_snoc hgs hit up4 hv9)))
      · have h4 : r8 < 4 := Int.not_le.mp h4
        have hg9 := hg4 h4
        cases hfs : fs (r8 + 1) with
        | none =>
          have hin9 : (valueAt skv (r8 + 1)).isSome = false := by rw [sf, hfs]; rfl
          rw [hfs] at hg9
          subst hg9
          k_steps
          all_goals (try (exfalso; omega))
          all_goals (
           (with_reducible rename Fr _ _ _ _ => Fe)
           (with_reducible rename News _ _ _ _ => Ne)
           simp only [List.push_toArray] at Ne
           have NeX := own_back5 hown2 Ne
           rw [← fm_none] at NeX
           exact .fin rfl rfl rfl (fr_layI Fe (by exact .cons rfl (.cons rfl (.cons rfl (.cons rfl (.cons rfl (.cons rfl (.cons rfl .nil)))))))) NeX (off5 y4 y5 y3 y1 y2 (dark_off (bl6.offX I (by first | exact .head _ | exact .tail _ (.head _) | exact .tail _ (.tail _ (.head _)) | simp)))) (.mk (i + 1) _ (k2 + 1) tk8 S4 (vs ++ [v9]) (gs ++ [none]) (cI + 1) cM bl4 (fun b o e => up4 b o (up3 b o e)) hk9 (by simp [hvs]) (by simp [hgs]) (itv_snoc hgs hit up4 hv9)))
        | some b =>
          have hin9 : (valueAt skv (r8 + 1)).isSome = true := by rw [sf, hfs]; rfl
          have hit9 : valueAt skv (r8 + 1) = some (.bool b) := by rw [sf, hfs]; rfl
          rw [hfs] at hg9
          subst hg9
          k_steps
          all_goals (try (exfalso; omega))
          all_goals (
           (with_reducible rename Fr _ _ _ _ => Fe)
           (with_reducible rename News _ _ _ _ => Ne)
           simp only [List.push_toArray] at Ne
           have NeX := own_back5 hown2 Ne
           rw [← fm_some] at NeX
           exact .fin rfl rfl rfl (fr_layI Fe (by exact .cons rfl (.cons rfl (.cons rfl (.cons rfl (.cons rfl (.cons rfl (.cons rfl .nil)))))))) NeX (off5 y4 y5 y3 y1 y2 (dark_off (bl6.offX I (by first | exact .head _ | exact .tail _ (.head _) | exact .tail _ (.tail _ (.head _)) | simp)))) (.mk (i + 1) _ (k2 + 1) tk8 S4 (vs ++ [v9]) (gs ++ [some b]) (cI + 1) (cM + 1) bl4 (fun b o e => up4 b o (up3 b o e)) hk9 (by simp [hvs]) (by simp [hgs]) (itv_snoc hgs hit up4 hv9)))
  · rintro m₁ nx h tk ⟨u, k2, tk2, S3, vs, gs, cI, cM, bl3, up3, hk2, hvs, hgs, hit⟩ Fz Nz
    subst hbn
    exact next vs gs cI cM k2 tk2 S3 u _ _ Fz Nz bl3 up3 hgs hit (by first | exact m2_a hk2 | exact m2_b hk2 hb0 hb4 | exact m2_c hvs hb4 | omega) (by first | exact m2_a hk2 | exact m2_b hk2 hb0 hb4 | exact m2_c hvs hb4 | omega) (by first | exact m2_a hk2 | exact m2_b hk2 hb0 hb4 | exact m2_c hvs hb4 | omega)
end
end
section -- M4
open PySem PySem.W PyProof.Rows PySem.Spec PySem.Calls PySem.SeqAt
theorem lines_M4_1 : True := by
  k_with_none
  k_with "Zcall ref" => (k_here; refine halt_call (by decide) ?_)
  k_with "Zcall ref" => (k_here; refine halt_int ?_)
  k_with "ZTAKE" => (refine unhalt ?_; refine' take_call (by k_asm) (by k_asm) (by k_asm) (by k_asm) (by k_asm) (TakeAt.mono (by assumption) (Fr.keep (by k_asm))) (by k_updF) rfl rfl rfl (by k_room) (by kwd_inv) (by first | assumption | omega) (by first | assumption | omega) (by decide) (by decide) ?_)
  k_with "ZsubscriptTail" => (k_here; (with_reducible show wpAny _ _ (subscriptTail _ _ (Value.ref _) (Value.int 0 _)) _ _ _); (have hm9 : TreeMark := by assumption); (clear hm9); k_dflt (refine' tup_item0 (by refine' tup_dark ?_ (by assumption); kpc_turns) ?_; k_whole))
  k_with "ZsetItem ref str" => (k_here; k_dflt (refine' kda_set (knd := sk _) (by k_asm) (by k_asm) (by k_updF) (by assumption) (strKind_is _ _ _ _) (by assumption) ?_); intro _ _ _ N' hd'; (try dsimp only at N'); revert N' hd'; intro _ _)
  k_with "ZTAILS" => (first | (with_reducible assumption) | (with_reducible refine List.mem_cons_of_mem _ ?_; walk_at "TAILS"))
  k_with "ZcompareOp NotEq str str" => (k_here; k_dflt (refine' ne_str_f (by assumption) ?_; k_whole))
  k_with "Zspliced" => (k_here; k_dflt (refine' args_simG (by rfl) (by rfl) (by k_asm) (by rfl) ?_; k_whole); (try dsimp only [List.cons_append, List.nil_append]))
  k_with "Zeval Call" => (k_here; (with_reducible show wpAny _ _ (eval (PySem.Expr.Call (PySem.Expr.Name _ _) (_ :: _) [] _) _) _ _ _); k_dflt (refine' call_simG (by rfl) (by k_asm) (by k_asm) (by k_asm) (by k_is) (by k_is) (by rfl) ?_ (by rfl) (by rfl); k_whole))
  k_with "Zeval Call" => (k_here; (with_reducible show wpAny _ _ (eval (PySem.Expr.Call (PySem.Expr.Name _ _) (_ :: _) [] _) _) _ _ _); k_dflt (refine' callfn_sim (by k_asm) (by exact rfl) (TakeAt.fn (by assumption) (by k_asm)) (by rfl) ?_ (by rfl) (by rfl) (by decide); k_whole))
  trivial
section
theorem m4_a {k k3 : Int} (h1 : k ≤ 100) (h2 : k3 ≤ k + 6) : k3 + 1 ≤ 390 := by omega
theorem m4_c {k k3 k7 : Int} (h : k ≤ k3) (h2 : k3 + 1 ≤ k7) : k ≤ k7 := by omega
theorem m4_d {k k3 k7 : Int} (h0 : 0 ≤ k) (h : k ≤ k3) (h2 : k3 + 1 ≤ k7) : 0 ≤ k7 := by omega
theorem m4_e {k k3 k7 : Int} (h1 : k ≤ 100) (h2 : k3 ≤ k + 6) (h3 : k7 ≤ k3 + 1 + ((106 : Nat) : Int)) : k7 ≤ 390 := by omega
theorem m4_f {k k3 k7 k8 : Int} (h : k ≤ k3) (h2 : k3 + 1 ≤ k7) (h4 : k7 ≤ k8) : k ≤ k8 := by omega
theorem m4_g {k k3 k7 k8 : Int} (h1 : k ≤ 100) (h2 : k3 ≤ k + 6) (h3 : k7 ≤ k3 + 1 + ((106 : Nat) : Int)) (h5 : k8 ≤ k7 + ((13 : Nat) : Int)) : k8 ≤ 390 := by omega
theorem memb4 {w : World} {s : Shared} {base hs g' Sn : Heap} {outer : List Env} {L' : Addr} {cd : Value} {mg mb u : Str → Option Value} {env : Env} {p : Program} {loose : List Str} {mean : ExcName → Option Value}
    {E : Value → Shared → Prop} {Q : Flow → Shared → Prop} {dp un : Nat} {gd : Option (List Code)} {f pl sh tb st : Addr} {ns : List Int} {fs : Int → Option Bool} {vals : List Value} {otb : Obj} {n0 : Nat} {k : Int} {hd9 mel : Addr} {wd : Str} {wt tk3 : Tok} {oh' : Obj} {kvs' : List (Str × Value)} {oc : Option Value} {otb' : Obj} {vals' : List Value} {S5 : Heap} {bs : List Bool} {cM' : Nat} {k3 : Int}
    (C : MC w Sn hs g' L' f pl sh tb st ns fs vals otb) (X' : (hd.heap_1 w.params).In g') (T' : Top p loose mean mg mb g') (B' : Below (At dp un gd env outer) base (env :: outer) g') (hroom : dp + 300 < recursionLimit) (hun : un + 300 < cLine) (hk : 0 ≤ k) (hk4 : k ≤ 100)
    (F : Fr g' L' s.heap (lay [(Str.ofString "members", Value.ref mel), (Str.ofString "word", Value.str wd wt), (Str.ofString "head", Value.ref hd9), (Str.ofString "states", Value.ref st), (Str.ofString "shelf", Value.ref sh), (Str.ofString "take", Value.ref f)] u)) (N : News g' L' s.heap ((hd9, oh') :: (pl, W.listOf #[.int k3 tk3] n0) :: (tb, otb') :: darkOf S5 g')) (bl5 : Bld Sn hs g' L' [pl, tb, hd9] S5) (hod' : oh'.IsDictOf (sk w) kvs') (hHQ : HeadQ S5 kvs' wd oc) (T5 : Tab w S5 otb' vals') (hp5 : vals <+: vals') (hl5 : vals'.length ≤ 6)
    (hME : MemE w S5 vals' fs oc bs) (hmel : S5.get? mel = some (W.listOf (bs.map Value.bool).toArray cM')) (hbs : bs.length ≤ 4) (hk3a : k ≤ k3) (hk3b : k3 ≤ k + 6) (q1 : @LT.lt Nat instLTNat pl hd9) (q2 : @LT.lt Nat instLTNat tb hd9)
    (hE : PassesOwn (model PySem.Challenge.rw_pb0479_01.row.prog w) ((At dp un gd env outer).deeper (envX (Str.ofString "_law_membership") membScope L' 457 cd [])) (envX (Str.ofString "_law_membership") membScope L' 457 cd []) E)
    (ret : ∀ D hd9 o kk vals9 otb9 k9 tk9 S9 m9 h9 tk9', Bld Sn hs g' L' [pl, tb] S9 → S9.get? D = some ({ cls := .type "tuple", data := .seq #[.ref hd9, ov o] kk } : Obj) → HeadE w S9 vals9 fs hd9 o → NotRef S9 (.ref hd9) → vals <+: vals9 → vals9.length ≤ 30 → Tab w S9 otb9 vals9 → k ≤ k9 → k9 ≤ 390 →
      Fr g' L' h9 m9 → News g' L' h9 [(pl, W.listOf #[.int k9 tk9] n0), (tb, otb9)] → (∀ b o, S9.get? b = some o → h9.get? b = some o) → Q (.ret (.ref D)) { s with heap := h9, toks := tk9' }) :
    wpAny (model PySem.Challenge.rw_pb0479_01.row.prog w) ((At dp un gd env outer).deeper (envX (Str.ofString "_law_membership") membScope L' 457 cd [])) (execs (membBody.drop 8) (envX (Str.ofString "_law_membership") membScope L' 457 cd [])) Q E s := by
  revert X'
  k_fill
  intro X'
  refine' lit (fun sc => envX (Str.ofString "_law_membership") sc L' 457 cd []) ?lit1 ?lit2 ?_
  case lit1 =>
    show membBody.drop 8 = _
    conv => lhs; whnf
  case lit2 =>
    show membScope = _
    conv => lhs; whnf
  have kg := C.kg
  have Tk' := C.Tk.mono kg
  obtain ⟨dx, es, q, i1, i2, j1, j2, j3, j4⟩ := (C.S.keeps kg).w
  have hq := C.hpl
  have hqt := C.htb
  have nep1 : @Ne Nat pl tb := C.nep
  obtain ⟨skv, sd, sf⟩ := (C.St.keeps kg).ex
  have F' := F
  have N' := N
  clear F N
  show wpAny _ _ _ _ _ _
  have lo := C.lo
  have nep := C.nep
  have lo9 : (hd9 == sysModules) = false := lo_gt (by omega)
  have z1 := off_all (g := g') bl5.offX (a := pl) (by first | exact .head _ | exact .tail _ (.head _) | exact .tail _ (.tail _ (.head _)) | simp)
  have z2 := off_all (g := g') bl5.offX (a := tb) (by first | exact .head _ | exact .tail _ (.head _) | exact .tail _ (.tail _ (.head _)) | simp)
  have z3 := off_all (g := g') bl5.offX (a := hd9) (by first | exact .head _ | exact .tail _ (.head _) | exact .tail _ (.tail _ (.head _)) | simp)
  k_steps
  refine unhalt ?_
  (with_reducible rename Fr _ _ _ _ => F5)
  (with_reducible rename News _ _ _ _ => N5)
  refine' poll_call ⟨?pB, ?pF, ?pX, ?pT, ?pN, rfl, rfl⟩ ?pr ?pu ⟨_, bl5.isIn F5 N5 (fun p hp => by walk_at "TAILS") _ _ hmel, rfl, _, rfl⟩ ?pn ?pret
  case pB => k_asm
  case pF => exact F5
  case pX => k_asm
  case pT => k_asm
  case pN => exact N5
  case pr => k_room
  case pu => kwd_inv
  case pn => omega
  case pret =>
    intro h6 tk6 F6 N6 k6
    clear k6
    k_steps
    walk_at "TAKE"
    intro r9 tr9 tk9 h9 tk9' hr90 hr91 F9 N9 k9
    clear k9
    rcases r_z r9 with hr9 | rfl
    · k_steps
      all_goals (try (exfalso; omega))
      all_goals (
       (with_reducible rename Fr _ _ _ _ => Fz)
       (with_reducible rename News _ _ _ _ => Nz)
       obtain ⟨S9, bl9, up9, in9, c9⟩ := C.end4 bl5 Fz Nz (bl5.isIn Fz Nz (fun p hp => by walk_at "TAILS"))
       have hhd := c9 (a := hd9) (by k_mem) (by k_ne) (by k_ne)
       exact ret _ hd9 (some (pol wd bs)) _ vals' otb' (k3 + 1) _ S9 _ _ _ bl9 (c9 (.head _) (by k_ne) (by k_ne)) (headE_told hhd hod' lo9 (hHQ.keeps up9) (hME.keeps up9)) (.dict hhd (let ⟨_, _, x, _⟩ := hod'; x.1)) hp5 (by first | exact ar_a (by assumption) | exact m4_a (by assumption) (by assumption) | exact m4_c hk3a (by assumption) | exact m4_e (by assumption) hk3b (by assumption) | exact m4_f hk3a (by assumption) (by assumption) | exact m4_g (by assumption) hk3b (by assumption) (by assumption) | omega) (T5.keeps up9) (by first | exact ar_a (by assumption) | exact m4_a (by assumption) (by assumption) | exact m4_c hk3a (by assumption) | exact m4_e (by assumption) hk3b (by assumption) | exact m4_f hk3a (by assumption) (by assumption) | exact m4_g (by assumption) hk3b (by assumption) (by assumption) | omega) (by first | exact ar_a (by assumption) | exact m4_a (by assumption) (by assumption) | exact m4_c hk3a (by assumption) | exact m4_e (by assumption) hk3b (by assumption) | exact m4_f hk3a (by assumption) (by assumption) | exact m4_g (by assumption) hk3b (by assumption) (by assumption) | omega) Fz (news_pair (Nz (pl, _) (by k_mem)) (Nz (tb, _) (by k_mem))) in9)
    · k_steps
      refine unhalt ?_
      (with_reducible rename Fr _ _ _ _ => Fa)
      (with_reducible rename News _ _ _ _ => Na)
      refine' tree_call 3 ⟨?tB, ?tF, ?tX, ?tT, ?tN, rfl, rfl⟩ ?tr ?tu (bl5.isIn Fa Na (fun p hp => by walk_at "TAILS")) (bl5.offX pl (by first | exact .head _ | exact .tail _ (.head _) | exact .tail _ (.tail _ (.head _)) | simp)) (C.Tk.mono bl5.old) ?tU ?t0 ?t4 rfl ?tret
      case tB => k_asm
      case tF => exact Fa
      case tX => k_asm
      case tT => k_asm
      case tN => exact Na
      case tr => k_room
      case tu => kwd_inv
      case tU => k_updF
      case t0 => first | exact ar_f (by assumption) hk3a | omega
      case t4 => show _ + ((106 : Nat) : Int) ≤ 400; omega
      case tret =>
        intro v7 t7 k7 tk7 S7 h7 tk7' hT z7 hk7a hk7b' F7 N7 kp7
        clear kp7
        have hk7b : k7 ≤ k3 + 1 + ((106 : Nat) : Int) := hk7b'
        have b7 := bl5.next Fa (three_all ⟨_, (Na (pl, _) (by k_mem)).1⟩ ⟨_, (Na (tb, _) (by k_mem)).1⟩ ⟨_, (Na (hd9, _) (by k_mem)).1⟩) (C.out two_in) z7 F7.keep
        have N8 : News g' L' h7 ((hd9, oh') :: (pl, W.listOf #[.int k7 tk7] n0) :: (tb, otb') :: darkOf S7 g') := news_pre [_, _, _] (news_dark Fa N7 z7 bl5.offL)
        clear N7
        have p1 := off_all (g := g') b7.offX (a := pl) (by first | exact .head _ | exact .tail _ (.head _) | exact .tail _ (.tail _ (.head _)) | simp)
        have p2 := off_all (g := g') b7.offX (a := tb) (by first | exact .head _ | exact .tail _ (.head _) | exact .tail _ (.tail _ (.head _)) | simp)
        have p3 := off_all (g := g') b7.offX (a := hd9) (by first | exact .head _ | exact .tail _ (.head _) | exact .tail _ (.tail _ (.head _)) | simp)
        have tm : TreeMark := ⟨⟩
        have hT0 := hT
        cases hT with
        | group hx7 h71 h75 =>
          k_steps
          (with_reducible rename Fr _ _ _ _ => Fz)
          (with_reducible rename News _ _ _ _ => Nz)
          obtain ⟨S9, bl9, up9, in9, c9⟩ := C.end4 b7 Fz Nz (b7.isIn Fz Nz (fun p hp => by walk_at "TAILS"))
          have hhd := c9 (a := hd9) (by k_mem) (by k_ne) (by k_ne)
          exact ret _ hd9 (some (pol wd bs)) _ vals' otb' k7 _ S9 _ _ _ bl9 (c9 (.head _) (by k_ne) (by k_ne)) (headE_told hhd hod' lo9 (hHQ.keeps (fun b o e => up9 b o (z7.old b o e))) (hME.keeps (fun b o e => up9 b o (z7.old b o e)))) (.dict hhd (let ⟨_, _, x, _⟩ := hod'; x.1)) hp5 (by first | exact ar_a (by assumption) | exact m4_a (by assumption) (by assumption) | exact m4_c hk3a (by assumption) | exact m4_e (by assumption) hk3b (by assumption) | exact m4_f hk3a (by assumption) (by assumption) | exact m4_g (by assumption) hk3b (by assumption) (by assumption) | omega) (T5.keeps (fun b o e => up9 b o (z7.old b o e))) (by first | exact ar_a (by assumption) | exact m4_a (by assumption) (by assumption) | exact m4_c hk3a (by assumption) | exact m4_e (by assumption) hk3b (by assumption) | exact m4_f hk3a (by assumption) (by assumption) | exact m4_g (by assumption) hk3b (by assumption) (by assumption) | omega) (by first | exact ar_a (by assumption) | exact m4_a (by assumption) (by assumption) | exact m4_c hk3a (by assumption) | exact m4_e (by assumption) hk3b (by assumption) | exact m4_f hk3a (by assumption) (by assumption) | exact m4_g (by assumption) hk3b (by assumption) (by assumption) | omega) Fz (news_pair (Nz (pl, _) (by k_mem)) (Nz (tb, _) (by k_mem))) in9
        | @node _ x7 l7 wd7 tw7 items7 cs kx7 hx7 hl7 hw7 hlen7 hten7 hcs7 =>
          have hwg : (wd7 == Str.ofString "group") = false := by rcases hw7 with rfl | rfl | rfl | rfl <;> decide
          k_steps
          first | walk_at "subscriptTail" | skip
          k_steps
          refine unhalt ?_
          (with_reducible rename Fr _ _ _ _ => Fb)
          (with_reducible rename News _ _ _ _ => Nb)
          refine' obj_call hT0 ⟨?oB, ?oF, ?oX, ?oT, ?oN, rfl, rfl⟩ ?or ?ou (fun _ _ e => e) ?okS (b7.offX pl (by first | exact .head _ | exact .tail _ (.head _) | exact .tail _ (.tail _ (.head _)) | simp)) (b7.offX tb (by first | exact .head _ | exact .tail _ (.head _) | exact .tail _ (.tail _ (.head _)) | simp)) nep (C.Tk.mono b7.old) (C.S.keeps b7.old) lo (T5.keeps z7.old) ?oU1 ?oU2 ?o0 ?o4 ?ov ?oret
          case okS => exact b7.isIn Fb Nb (fun p hp => by walk_at "TAILS")
          case oB => k_asm
          case oF => exact Fb
          case oX => k_asm
          case oT => k_asm
          case oN => exact Nb
          case or => k_room
          case ou => kwd_inv
          case oU1 => k_updF
          case oU2 => intro o; k_updF
          case o0 => first | exact m4_d (by assumption) hk3a (by assumption) | omega
          case o4 => show _ + ((13 : Nat) : Int) ≤ 399; omega
          case ov => show _ + 13 ≤ 44; omega
          case oret =>
            intro y8 vals8 otb8 k8 tk8 S8 h8 tk8' hO hp8 hl8' T8 z8 hk8a hk8b' F8 N8' kp8
            clear kp8
            have hk8b : k8 ≤ k7 + ((13 : Nat) : Int) := hk8b'
            have hl8 : vals8.length ≤ vals'.length + 13 := hl8'
            have b8 := b7.next Fb (three_all ⟨_, (Nb (pl, _) (by k_mem)).1⟩ ⟨_, (Nb (tb, _) (by k_mem)).1⟩ ⟨_, (Nb (hd9, _) (by k_mem)).1⟩) (C.out two_in) z8 F8.keep
            have Nc : News g' L' h8 ((hd9, oh') :: (pl, W.listOf #[.int k8 tk8] n0) :: (tb, otb8) :: darkOf S8 g') := news_pre [_, _, _] (news_dark Fb N8' z8 b7.offL)
            clear N8'
            have q5 := off_all (g := g') b8.offX (a := pl) (by first | exact .head _ | exact .tail _ (.head _) | exact .tail _ (.tail _ (.head _)) | simp)
            have q6 := off_all (g := g') b8.offX (a := tb) (by first | exact .head _ | exact .tail _ (.head _) | exact .tail _ (.tail _ (.head _)) | simp)
            have q7 := off_all (g := g') b8.offX (a := hd9) (by first | exact .head _ | exact .tail _ (.head _) | exact .tail _ (.tail _ (.head _)) | simp)
            have hks' : kvs'.length ≤ sizeLine := Nat.le_trans hHQ.1 (by decide)
            k_steps
            refine unhalt ?_
            (with_reducible rename Fr _ _ _ _ => Fd)
            (with_reducible rename News _ _ _ _ => Nd)
            (with_reducible rename Obj.IsDictOf _ _ _ => hod2)
            rw [stored_none hHQ.2.2.1] at hod2
            refine' lawtruth_call hT0 ⟨?lB, ?lF, ?lX, ?lT, ?lN, rfl, rfl⟩ ?lr ?lu (fun b o e => b8.isIn Fd Nd (fun p hp => by walk_at "TAILS") b o (z8.old b o e)) ((C.St.keeps C.kg).keeps Fd.keep) ?lret
            case lB => k_asm
            case lF => exact Fd
            case lX => k_asm
            case lT => k_asm
            case lN => exact Nd
            case lr => k_room
            case lu => kwd_inv
            case lret =>
              intro he tke Fe Ne ke
              clear ke
              k_steps
              (with_reducible rename Fr _ _ _ _ => Fz)
              (with_reducible rename News _ _ _ _ => Nz)
              obtain ⟨S9, bl9, up9, in9, c9⟩ := C.end4 b8 Fz Nz (b8.isIn Fz Nz (fun p hp => by walk_at "TAILS"))
              have hhd := c9 (a := hd9) (by k_mem) (by k_ne) (by k_ne)
              exact ret _ hd9 (truthT fs (.node wd7 cs)) _ vals8 otb8 k8 _ S9 _ _ _ bl9 (c9 (.head _) (by k_ne) (by k_ne)) (headE_tree hhd hod2 lo9 (((hHQ.keeps z7.old).keeps z8.old).keeps up9) (hO.keeps up9) (by first | exact ar_a (by assumption) | exact m4_a (by assumption) (by assumption) | exact m4_c hk3a (by assumption) | exact m4_e (by assumption) hk3b (by assumption) | exact m4_f hk3a (by assumption) (by assumption) | exact m4_g (by assumption) hk3b (by assumption) (by assumption) | omega)) (.dict hhd (let ⟨_, _, x, _⟩ := hod2; x.1)) (List.IsPrefix.trans hp5 hp8) (by first | exact ar_a (by assumption) | exact m4_a (by assumption) (by assumption) | exact m4_c hk3a (by assumption) | exact m4_e (by assumption) hk3b (by assumption) | exact m4_f hk3a (by assumption) (by assumption) | exact m4_g (by assumption) hk3b (by assumption) (by assumption) | omega) (T8.keeps up9) (by first | exact ar_a (by assumption) | exact m4_a (by assumption) (by assumption) | exact m4_c hk3a (by assumption) | exact m4_e (by assumption) hk3b (by assumption) | exact m4_f hk3a (by assumption) (by assumption) | exact m4_g (by assumption) hk3b (by assumption) (by assumption) | omega) (by first | exact ar_a (by assumption) | exact m4_a (by assumption) (by assumption) | exact m4_c hk3a (by assumption) | exact m4_e (by assumption) hk3b (by assumption) | exact m4_f hk3a (by assumption) (by assumption) | exact m4_g (by assumption) hk3b (by assumption) (by assumption) | omega) Fz (news_pair (Nz (pl, _) (by k_mem)) (Nz (tb, _) (by k_mem))) in9
end
end
section -- D1
open PySem PySem.W PyProof.Rows PySem.Spec PySem.Calls PySem.SeqAt
theorem lines_D1_1 : True := by
  k_with_none
  k_with "ZTAILS" => (first | (with_reducible assumption) | (with_reducible refine List.mem_cons_of_mem _ ?_; walk_at "TAILS"))
  k_with "Zexecs cons" => (k_here; (with_reducible refine halt_for StageMark (by assumption) ?_))
  trivial
section
theorem stage1 {w : World} {s : Shared} {g0 : Heap} {L0 fa : Addr} {cd : Value} {p : Program} {loose : List Str} {mean : ExcName → Option Value} {mg mb u : Str → Option Value} {E : Value → Shared → Prop} {Q : Flow → Shared → Prop}
    {f pl : Addr} {tk1 : Tok} {S1 : Heap}
    (X : (hd.heap_1 w.params).In g0) (T : Top p loose mean mg mb g0) (B : Below callerA g0 [] g0)
    (F : Fr g0 L0 s.heap (lay [(Str.ofString "take", Value.ref f)] u)) (N : News g0 L0 s.heap ((pl, W.listOf #[.int 0 tk1] 0) :: darkOf S1 g0)) (bl1 : Bld g0 g0 g0 L0 [pl] S1)
    (hE : PassesOwn (model PySem.Challenge.rw_pb0479_01.row.prog w) (callerA.deeper (envOf (Str.ofString "law") lawScope L0 fa cd)) (envOf (Str.ofString "law") lawScope L0 fa cd) E)
    (next : ∀ (sh tb dx : Addr) (es : List DictEntry) (q : Nat) (otb : Obj) (u2 : Str → Option Value) (S2 h2 : Heap) tk2, Fr g0 L0 h2 (lay [(Str.ofString "shelf", Value.ref sh), (Str.ofString "take", Value.ref f)] u2) → News g0 L0 h2 ((tb, otb) :: (pl, W.listOf #[.int 0 tk1] 0) :: darkOf S2 g0) → Bld g0 g0 g0 L0 [pl, tb] S2 → (∀ b o, S1.get? b = some o → S2.get? b = some o) →
      InA S2 sh 363 dx es q → getL (Str.ofString "table") es = some (some (.ref tb)) → getL (Str.ofString "fetch") es = some none → getL (Str.ofString "get") es = some none → getL (Str.ofString "add") es = some none → getL (Str.ofString "put") es = some none → otb.IsDictOf (ik w) [] → (tb == sysModules) = false → @LT.lt Nat instLTNat pl tb →
      wpAny (model PySem.Challenge.rw_pb0479_01.row.prog w) (callerA.deeper (envOf (Str.ofString "law") lawScope L0 fa cd)) (execs (lawBody.drop 2) (envOf (Str.ofString "law") lawScope L0 fa cd)) Q E { s with heap := h2, toks := tk2 }) :
    wpAny (model PySem.Challenge.rw_pb0479_01.row.prog w) (callerA.deeper (envOf (Str.ofString "law") lawScope L0 fa cd)) (execs (lawBody.drop 1) (envOf (Str.ofString "law") lawScope L0 fa cd)) Q E s := by
  have ap := bl1.offX pl (by first | exact .head _ | exact .tail _ (.head _) | exact .tail _ (.tail _ (.head _)) | simp)
  have v0 : ∀ p ∈ darkOf S1 g0, p.1 ≠ pl := dark_off ap
  generalize hbn : lawBody.drop 2 = bn at next
  revert X
  k_fill
  intro X
  refine' lit (fun sc => envOf (Str.ofString "law") sc L0 fa cd) ?lit1 ?lit2 ?_
  case lit1 =>
    show lawBody.drop 1 = _
    conv => lhs; whnf
  case lit2 =>
    show lawScope = _
    conv => lhs; whnf
  show wpAny _ _ _ _ _ _
  have sm : StageMark := ⟨⟩
  k_steps
  refine unhalt ?_
  (with_reducible rename Fr _ _ _ _ => Fz)
  (with_reducible rename News _ _ _ _ => Nz)
  rename_i sh od _ lx1 lx2 _ _ _ _ _ _ tb _ otb lot hts _ hti _ lx3 _ td _ otd _ _ _ _ _ lx4 _ _ _ _ _ _
  have hin := bl1.isIn Fz Nz (fun p hp => by walk_at "TAILS")
  obtain ⟨bl2, up2⟩ := bl1.cmp (X := [pl, tb]) Fz hin (two_none ap (dark_none (Nz (tb, otb) (by k_mem)).2.2 (fun p hp => by
    have l9 := lx3.2.2.2
    exact fun q => Nat.lt_irrefl _ (q ▸ allLt_mem l9 hp))))
  subst hbn
  exact next sh tb od _ _ otb _ _ _ _ (fr_layI Fz (by exact .cons rfl (.cons rfl .nil))) (news2d (Nz (tb, otb) (by k_mem)) (Nz (pl, _) (by k_mem)) (fun p hp => news_cmp Fz Nz p (List.mem_append_right _ hp))) bl2 up2
    ⟨cn_law Nz (by k_mem) (two_ne (by k_ne) (by k_ne)), cn_law Nz (by k_mem) (two_ne (by k_ne) (by k_ne))⟩ (by rfl) (by rfl) (by rfl) (by rfl) (by rfl) hti lot (by omega)
end
end
section -- D2
open PySem PySem.W PyProof.Rows PySem.Spec PySem.Calls PySem.SeqAt
theorem lines_D2_1 : True := by
  k_with_none
  k_with "ZgetMethod ref" => (k_here; k_dflt (first | (refine' method_inst (by k_asm) (by k_asm) (by k_inst) (by k_is) (by k_is) (by k_is) (by assumption) ?_; k_whole) | (refine' dget_method (by k_asm) (by assumption) ?_; k_whole)))
  k_with "Zcall ref" => (k_here; refine halt_call (by decide) ?_)
  k_with "Zcall ref" => (k_here; (with_reducible show wpAny _ _ (call (Value.ref 183) [Value.str _ _]) _ _ _); k_dflt (refine' name_new (by kwd_rel) (by k_room) ?_; k_whole); intro _ _ _ _ _ _ _ _ _ l1' l2'; (try k_lt l1'); (try k_lt2 l2'); (first | (revert l1' l2'; intro _ _) | (revert l2'; intro _) | (revert l1'; intro _) | skip); (try k_sweep))
  k_with "ZTAILS" => (first | (with_reducible assumption) | (with_reducible refine List.mem_cons_of_mem _ ?_; walk_at "TAILS"))
  k_with "ZpyIter ref" => (k_here; (refine halt ?_))
  k_with "Zspliced" => (k_here; k_dflt (refine' args_simG (by rfl) (by rfl) (by k_asm) (by rfl) ?_; k_whole); (try dsimp only [List.cons_append, List.nil_append]))
  k_with "Zeval Call" => (k_here; (with_reducible show wpAny _ _ (eval (PySem.Expr.Call (PySem.Expr.Name _ _) (_ :: _) [] _) _) _ _ _); k_dflt (refine' call_simG (by rfl) (by k_asm) (by k_asm) (by k_asm) (by k_is) (by k_is) (by rfl) ?_ (by rfl) (by rfl); k_whole))
  trivial
section
theorem stage2 {w : World} {s : Shared} {g0 : Heap} {L0 fa : Addr} {cd : Value} {p : Program} {loose : List Str} {mean : ExcName → Option Value} {mg mb u : Str → Option Value} {E : Value → Shared → Prop} {Q : Flow → Shared → Prop}
    {f pl sh tb dx : Addr} {es : List DictEntry} {q : Nat} {otb : Obj} {tk1 : Tok} {S2 : Heap}
    (X : (hd.heap_1 w.params).In g0) (T : Top p loose mean mg mb g0) (B : Below callerA g0 [] g0)
    (F : Fr g0 L0 s.heap (lay [(Str.ofString "shelf", Value.ref sh), (Str.ofString "take", Value.ref f)] u)) (N : News g0 L0 s.heap ((tb, otb) :: (pl, W.listOf #[.int 0 tk1] 0) :: darkOf S2 g0)) (bl2 : Bld g0 g0 g0 L0 [pl, tb] S2)
    (i1 : InA S2 sh 363 dx es q) (j1 : getL (Str.ofString "table") es = some (some (.ref tb))) (j2 : getL (Str.ofString "fetch") es = some none) (j3 : getL (Str.ofString "get") es = some none) (j4 : getL (Str.ofString "add") es = some none) (j5 : getL (Str.ofString "put") es = some none) (hodt : otb.IsDictOf (ik w) []) (lot : (tb == sysModules) = false) (hlt2 : @LT.lt Nat instLTNat pl tb)
    (hE : PassesOwn (model PySem.Challenge.rw_pb0479_01.row.prog w) (callerA.deeper (envOf (Str.ofString "law") lawScope L0 fa cd)) (envOf (Str.ofString "law") lawScope L0 fa cd) E)
    (next : ∀ (otb : Obj) (vals : List Value) (u2 : Str → Option Value) (S3 h2 : Heap) tk2, Fr g0 L0 h2 (lay [(Str.ofString "shelf", Value.ref sh), (Str.ofString "take", Value.ref f)] u2) → News g0 L0 h2 ((tb, otb) :: (pl, W.listOf #[.int 0 tk1] 0) :: darkOf S3 g0) → Bld g0 g0 g0 L0 [pl, tb] S3 → (∀ b o, S2.get? b = some o → S3.get? b = some o) →
      TabObj w S3 otb vals → Grp w S3 vals 4 → wpAny (model PySem.Challenge.rw_pb0479_01.row.prog w) (callerA.deeper (envOf (Str.ofString "law") lawScope L0 fa cd)) (execs (lawBody.drop 3) (envOf (Str.ofString "law") lawScope L0 fa cd)) Q E { s with heap := h2, toks := tk2 }) :
    wpAny (model PySem.Challenge.rw_pb0479_01.row.prog w) (callerA.deeper (envOf (Str.ofString "law") lawScope L0 fa cd)) (execs (lawBody.drop 2) (envOf (Str.ofString "law") lawScope L0 fa cd)) Q E s := by
  obtain ⟨i1, i2⟩ := i1
  have v1 := off_all (g := g0) bl2.offX (a := pl) (by first | exact .head _ | exact .tail _ (.head _) | exact .tail _ (.tail _ (.head _)) | simp)
  have v2 := off_all (g := g0) bl2.offX (a := tb) (by first | exact .head _ | exact .tail _ (.head _) | exact .tail _ (.tail _ (.head _)) | simp)
  generalize hbn : lawBody.drop 3 = bn at next
  revert X
  k_fill
  intro X
  refine' lit (fun sc => envOf (Str.ofString "law") sc L0 fa cd) ?lit1 ?lit2 ?_
  case lit1 =>
    show lawBody.drop 2 = _
    conv => lhs; whnf
  case lit2 =>
    show lawScope = _
    conv => lhs; whnf
  show wpAny _ _ _ _ _ _
  k_steps
  refine unhalt ?_
  (with_reducible rename IsRange _ _ _ _ _ _ _ _ => rgX)
  (with_reducible rename Fr _ _ _ _ => Fl)
  (with_reducible rename News _ _ _ _ => Nl)
  with_unfolding_all refine range_free (n := 4) (SJ2 w g0 S2 L0 tb pl sh f (W.listOf #[.int 0 tk1] 0)) rfl rgX (by decide) (by decide) Fl Nl ?_ ?_ ?_
  · exact .mk 0 _ otb [] S2 bl2 (fun _ _ e => e) (tabObj_nil hodt) ⟨rfl, (fun v hv => by simp at hv), fun j hj => absurd hj (Nat.not_lt_zero j)⟩
  · rintro i t m₁ nx h tk I own hi ⟨u, otb, vals, S3, bl3, up3, hT, hG⟩ hI0 hown hoff hIx Fz Nz
    obtain ⟨oI, hoI⟩ := hIx
    have hown2 := own_one hown hoI Nz
    have Nz2 := own_front2 hoI Nz
    have Fz2 : Fr g0 L0 h (fun y => if y = Str.ofString "number" then some (.int (1 + i) t) else lay [(Str.ofString "shelf", Value.ref sh), (Str.ofString "take", Value.ref f)] u y) := Fz
    have w1 := off_all (g := g0) bl3.offX (a := pl) (by first | exact .head _ | exact .tail _ (.head _) | exact .tail _ (.tail _ (.head _)) | simp)
    have w2 := off_all (g := g0) bl3.offX (a := tb) (by first | exact .head _ | exact .tail _ (.head _) | exact .tail _ (.tail _ (.head _)) | simp)
    have y1 : @Ne Nat pl I := hoff (pl, _) (by k_mem)
    have y2 : @Ne Nat tb I := hoff (tb, _) (by k_mem)
    have i1' := up3 _ _ i1
    have i2' := up3 _ _ i2
    clear Fz Nz
    k_steps
    refine unhalt ?_
    (with_reducible rename Fr _ _ _ _ => F7)
    (with_reducible rename News _ _ _ _ => N7)
    (with_reducible rename Obj.IsDictOf _ _ _ => hdn)
    refine' put_call ⟨?B1, ?F1, ?X1, ?T1, ?N1, rfl, rfl⟩ ?r1 (bl3.isIn F7 N7 (fun p hp => by walk_at "TAILS")) (bl3.offX tb (by first | exact .head _ | exact .tail _ (.head _) | exact .tail _ (.tail _ (.head _)) | simp)) ⟨⟨dx, es, q, ⟨i1', i2'⟩, j1, j2, j3, j4⟩⟩ ?U1 hT ?hn1 ?hv1 ?ret1
    case B1 => k_asm
    case F1 => exact F7
    case X1 => k_asm
    case T1 => k_asm
    case N1 => exact N7
    case r1 => k_room
    case U1 => k_updF
    case hn1 => rw [hG.len]; omega
    case hv1 => rw [hG.len]; omega
    case ret1 =>
      intro otb' S6 h6 tk6 z6 T6 F6 N6 k6
      clear k6
      have b6 := bl3.next F7 (two_all ⟨_, (N7 (pl, _) (by k_mem)).1⟩ ⟨_, (N7 (tb, _) (by k_mem)).1⟩) (fun b o e n => e) z6 F6.keep
      (try dsimp only at N6)
      have N8 := news_dark F7 N6 z6 bl3.offL
      simp only [List.cons_append] at N8
      clear N6
      k_steps
      (with_reducible rename Fr _ _ _ _ => Fe)
      (with_reducible rename News _ _ _ _ => Ne)
      have hI3 : S3.get? I = none := dark_none hI0 (fun p hp => hoff p (by walk_at "TAILS"))
      have hin6 := b6.isIn Fe Ne (fun p hp => by
        have hp2 : p ∈ darkOf S3 g0 ++ darkOf S6 g0 := List.mem_append_right _ hp
        walk_at "TAILS")
      obtain ⟨S5, ⟨bl5, up5⟩, d5, c5⟩ : ∃ S5, (Bld g0 g0 g0 L0 [pl, tb, I] S5 ∧ ∀ b o, S6.get? b = some o → S5.get? b = some o) ∧ (∀ p ∈ darkOf S5 g0, Heap.get? _ p.1 = some p.2 ∧ p.1 ≠ L0 ∧ Heap.get? g0 p.1 = none) ∧ ∀ {a : Addr} {o : Obj}, (a, o) ∈ _ → (∀ y ∈ [pl, tb, I], a ≠ y) → S5.get? a = some o :=
        ⟨_, b6.cmp Fe hin6 (three_all (b6.offX pl (by first | exact .head _ | exact .tail _ (.head _) | exact .tail _ (.tail _ (.head _)) | simp)) (b6.offX tb (by first | exact .head _ | exact .tail _ (.head _) | exact .tail _ (.tail _ (.head _)) | simp)) (z6.off hI3 (N7 (I, oI) (by k_mem)).1)), fun p hp => news_cmp Fe Ne p (List.mem_append_right _ hp), fun {a o} hm n => cn_law Ne hm n⟩
      have up9 : ∀ b o, S3.get? b = some o → S5.get? b = some o := fun b o e => up5 b o (z6.old b o e)
      exact .fin rfl rfl rfl (fr_layI Fe (by exact .cons rfl (.cons rfl .nil))) (own_back2 (dk := darkOf S5 g0) hown2 (news3d (Ne (tb, otb') (by k_mem)) (Ne (pl, _) (by k_mem)) (Ne (I, oI) (by k_mem)) d5)) (off2 y2 y1 (dark_off (bl5.offX I (by first | exact .head _ | exact .tail _ (.head _) | exact .tail _ (.tail _ (.head _)) | simp))))
        (.mk (i + 1) _ otb' (vals ++ [_]) S5 (bl5.weak (fun a ha => List.mem_append_left [I] ha)) (fun b o e => up9 b o (up3 b o e)) (T6.keeps up5)
          (hG.snoc up9 ⟨Heap.dictOf_iff.mpr ⟨_, c5 (by k_mem) (three_ne (by k_ne) (by k_ne) (by k_ne)), hdn⟩, lo_gt (by omega)⟩ rfl (nameAt_of (c5 (by k_mem) (three_ne (by k_ne) (by k_ne) (by k_ne))) (c5 (by k_mem) (three_ne (by k_ne) (by k_ne) (by k_ne))) (by assumption))))
  · rintro m₁ nx h tk ⟨u, otb, vals, S3, bl3, up3, hT, hG⟩ Fz Nz
    subst hbn
    exact next otb vals u S3 _ _ Fz Nz bl3 up3 hT hG
end
end
section -- D5
open PySem PySem.W PyProof.Rows PySem.Spec PySem.Calls PySem.SeqAt
theorem lines_D5_1 : True := by
  k_with_none
  k_with "Zcall ref" => (k_here; refine halt_int ?_)
  k_with "ZTAILS" => (first | (with_reducible assumption) | (with_reducible refine List.mem_cons_of_mem _ ?_; walk_at "TAILS"))
  k_with "ZpyIter ref" => (k_here; (refine halt ?_))
  k_with "ZTAKE" => (refine unhalt ?_; refine' take_call (by k_asm) (by k_asm) (by k_asm) (by k_asm) (by k_asm) (TakeAt.mono (by assumption) (by kpc_turns)) (by k_updF) rfl rfl rfl (Nat.le_of_ble_eq_true rfl) (Nat.le_of_ble_eq_true rfl) (by first | assumption | omega) (by first | assumption | omega) (by decide) (by decide) ?_)
  k_with "ZsetItem ref int" => (k_here; k_dflt (refine' kda_set (knd := ik _) (by k_asm) (by k_asm) (by k_updF) (by assumption) (intKind_is _ _ _ _) (by assumption) ?_); intro _ _ _ N' hd'; (try dsimp only at N'); revert N' hd'; intro _ _)
  k_with "Zspliced" => (k_here; k_dflt (refine' args_simG (by rfl) (by rfl) (by k_asm) (by rfl) ?_; k_whole); (try dsimp only [List.cons_append, List.nil_append]))
  k_with "Zeval Call" => (k_here; (with_reducible show wpAny _ _ (eval (PySem.Expr.Call (PySem.Expr.Name _ _) (_ :: _) [] _) _) _ _ _); k_dflt (refine' callfn_sim (by k_asm) (by exact rfl) (TakeAt.fnd (by assumption) (by kpc_turns)) (by rfl) ?_ (by rfl) (by rfl) (by decide); k_whole))
  trivial
section
theorem stage5 {w : World} {s : Shared} {g0 : Heap} {L0 fa : Addr} {cd : Value} {p : Program} {loose : List Str} {mean : ExcName → Option Value} {mg mb u : Str → Option Value} {E : Value → Shared → Prop} {Q : Flow → Shared → Prop}
    {sh tb st f pl : Addr} {ns : List Int} {otb ost : Obj} {tk0 : Tok} {S : Heap}
    (X : (hd.heap_1 w.params).In g0) (T : Top p loose mean mg mb g0) (B : Below callerA g0 [] g0)
    (F : Fr g0 L0 s.heap (lay [(Str.ofString "states", Value.ref st), (Str.ofString "shelf", Value.ref sh), (Str.ofString "take", Value.ref f)] u)) (N : News g0 L0 s.heap ((st, ost) :: (tb, otb) :: (pl, W.listOf #[.int 0 tk0] 0) :: darkOf S g0)) (bl : Bld g0 g0 g0 L0 [st, tb, pl] S)
    (Tk : TakeAt S f pl ns) (hos : ost.IsDictOf (ik w) []) (hlt : @LT.lt Nat instLTNat pl tb) (hlt2 : @LT.lt Nat instLTNat tb st)
    (hE : PassesOwn (model PySem.Challenge.rw_pb0479_01.row.prog w) (callerA.deeper (envOf (Str.ofString "law") lawScope L0 fa cd)) (envOf (Str.ofString "law") lawScope L0 fa cd) E)
    (next : ∀ (fs : Int → Option Bool) ost kvs tk1 u' h' tk', (∀ n : Int, ¬ (1 ≤ n ∧ n ≤ 4) → fs n = none) → ost.IsDictOf (ik w) kvs → (∀ n, valueAt kvs n = (fs n).map Value.bool) → Fr g0 L0 h' (lay [(Str.ofString "states", Value.ref st), (Str.ofString "shelf", Value.ref sh), (Str.ofString "take", Value.ref f)] u') → News g0 L0 h' ((st, ost) :: (tb, otb) :: (pl, W.listOf #[.int 4 tk1] 0) :: darkOf S g0) →
      wpAny (model PySem.Challenge.rw_pb0479_01.row.prog w) (callerA.deeper (envOf (Str.ofString "law") lawScope L0 fa cd)) (execs (lawBody.drop 6) (envOf (Str.ofString "law") lawScope L0 fa cd)) Q E { s with heap := h', toks := tk' }) :
    wpAny (model PySem.Challenge.rw_pb0479_01.row.prog w) (callerA.deeper (envOf (Str.ofString "law") lawScope L0 fa cd)) (execs (lawBody.drop 5) (envOf (Str.ofString "law") lawScope L0 fa cd)) Q E s := by
  have o1 : ∀ p ∈ darkOf S g0, p.1 ≠ pl := dark_off (bl.offX pl (by first | exact .head _ | exact .tail _ (.head _) | exact .tail _ (.tail _ (.head _)) | simp))
  have o2 : ∀ p ∈ darkOf S g0, p.1 ≠ tb := dark_off (bl.offX tb (by first | exact .head _ | exact .tail _ (.head _) | exact .tail _ (.tail _ (.head _)) | simp))
  have o3 : ∀ p ∈ darkOf S g0, p.1 ≠ st := dark_off (bl.offX st (by first | exact .head _ | exact .tail _ (.head _) | exact .tail _ (.tail _ (.head _)) | simp))
  generalize hbn : lawBody.drop 6 = bn at next
  revert X
  k_fill
  intro X
  refine' lit (fun sc => envOf (Str.ofString "law") sc L0 fa cd) ?lit1 ?lit2 ?_
  case lit1 =>
    show lawBody.drop 5 = _
    conv => lhs; whnf
  case lit2 =>
    show lawScope = _
    conv => lhs; whnf
  show wpAny _ _ _ _ _ _
  k_steps
  refine unhalt ?_
  (with_reducible rename IsRange _ _ _ _ _ _ _ _ => rgX)
  (with_reducible rename Fr _ _ _ _ => Fl)
  (with_reducible rename News _ _ _ _ => Nl)
  with_unfolding_all refine range_free (n := 4) (SJ5 w g0 S st tb pl sh f otb) rfl rgX (by decide) (by decide) Fl Nl ?_ ?_ ?_
  · exact .mk 0 _ ost [] (fun _ => none) 0 _ hos (Nat.le_refl _) (fun n => rfl) (fun n _ => rfl) rfl
  · rintro i t m₁ nx h tk I own hi ⟨u, ost, kvs, fs, k2, tk2, hd2, hlen, hval, hnone, hk2⟩ hI0 hown hoff hIx Fz Nz
    obtain ⟨oI, hoI⟩ := hIx
    have hown2 := own_one hown hoI Nz
    have Nz2 : News g0 L0 h ((st, ost) :: (tb, otb) :: (pl, W.listOf #[.int k2 tk2] 0) :: (I, oI) :: darkOf S g0) := own_front3 hoI Nz
    have Fz2 : Fr g0 L0 h (fun y => if y = Str.ofString "number" then some (.int (1 + i) t) else lay [(Str.ofString "states", Value.ref st), (Str.ofString "shelf", Value.ref sh), (Str.ofString "take", Value.ref f)] u y) := Fz
    have y1 : @Ne Nat pl I := hoff (pl, _) (by k_mem)
    have y2 : @Ne Nat tb I := hoff (tb, _) (by k_mem)
    have y3 : @Ne Nat st I := hoff (st, _) (by k_mem)
    have hoffd : ∀ p ∈ darkOf S g0, p.1 ≠ I := fun p hp => hoff p (by walk_at "TAILS")
    have hks : kvs.length ≤ sizeLine := Nat.le_trans (Nat.le_trans hlen (Nat.le_of_lt hi)) (by decide)
    have hno : valueAt kvs (1 + (i : Int)) = none := by rw [hval, hnone _ (by omega)]; rfl
    clear Fz Nz
    k_steps
    walk_at "TAKE"
    intro r tr tk5 h5 tk5' hr0 hr1 F5 N5 k5
    clear k5
    rcases r_lt3 hr0 hr1 with rfl | rfl | rfl
    · k_steps
      (with_reducible rename Fr _ _ _ _ => Fe)
      (with_reducible rename News _ _ _ _ => Ne)
      exact .fin rfl rfl rfl (fr_layI Fe (by exact .cons rfl (.cons rfl (.cons rfl .nil)))) (own_back hown2 Ne) (off4 y3 y2 y1 hoffd) (.mk (i + 1) _ ost kvs fs (k2 + 1) tk5 hd2 (by omega) hval (fun n hn => hnone n (by omega)) (by omega))
    · k_steps
      (with_reducible rename Fr _ _ _ _ => Fe)
      (with_reducible rename News _ _ _ _ => Ne)
      (with_reducible rename Obj.IsDictOf _ _ _ => hd3)
      rw [stored_none hno] at hd3
      exact .fin rfl rfl rfl (fr_layI Fe (by exact .cons rfl (.cons rfl (.cons rfl .nil)))) (own_back hown2 Ne) (off4 y3 y2 y1 hoffd) (.mk (i + 1) _ _ (kvs ++ [(1 + (i : Int), .bool true)]) (fun n => if n = 1 + (i : Int) then some true else fs n) (k2 + 1) tk5 hd3 (by simp; omega) (st_val hval hno) (fun n hn => by rw [if_neg (by omega)]; exact hnone n (by omega)) (by omega))
    · k_steps
      (with_reducible rename Fr _ _ _ _ => Fe)
      (with_reducible rename News _ _ _ _ => Ne)
      (with_reducible rename Obj.IsDictOf _ _ _ => hd3)
      rw [stored_none hno] at hd3
      exact .fin rfl rfl rfl (fr_layI Fe (by exact .cons rfl (.cons rfl (.cons rfl .nil)))) (own_back hown2 Ne) (off4 y3 y2 y1 hoffd) (.mk (i + 1) _ _ (kvs ++ [(1 + (i : Int), .bool false)]) (fun n => if n = 1 + (i : Int) then some false else fs n) (k2 + 1) tk5 hd3 (by simp; omega) (st_val hval hno) (fun n hn => by rw [if_neg (by omega)]; exact hnone n (by omega)) (by omega))
  · rintro m₁ nx h tk ⟨u, ost, kvs, fs, k2, tk2, hd2, hlen, hval, hnone, hk2⟩ Fz Nz
    subst hbn
    subst hk2
    exact next fs ost kvs tk2 u _ _ (fun n hn => hnone n (by omega)) hd2 hval Fz Nz
end
end
section -- D6
open PySem PySem.W PyProof.Rows PySem.Spec PySem.Calls PySem.SeqAt
theorem lines_D6_1 : True := by
  k_with_none
  k_with "Zcall ref" => (k_here; refine halt_call (by decide) ?_)
  k_with "Zcall ref" => (k_here; (with_reducible show wpAny _ _ (call (Value.ref 254) [Value.int _ _, Value.int _ _]) _ _ _); k_dflt (refine' ref_new (by kwd_rel) (by k_room) ?_; k_whole); intro _ _ _ _ _ _ _ _ _ _ l1' l2'; (try k_lt l1'); (try k_lt2 l2'); (first | (revert l1' l2'; intro _ _) | (revert l2'; intro _) | (revert l1'; intro _) | skip); (try k_sweep))
  k_with "ZTAILS" => (first | (with_reducible assumption) | (with_reducible refine List.mem_cons_of_mem _ ?_; walk_at "TAILS"))
  k_with "ZpyIter ref" => (k_here; (refine halt ?_))
  k_with "ZgetMethod ref" => (k_here; k_dflt (refine' dget_method_h (DctAt.keeps (by kpc_turns) (by assumption)) ?_; k_whole))
  k_with "Zcall builtin:dict.get" => (k_here; k_dflt (refine' dget2y_h (DctAt.keeps (by kpc_turns) (by assumption)) (intKind_is _ _ _ _) (by assumption) ?_; k_whole))
  k_with "Zspliced" => (k_here; k_dflt (refine' args_simG (by rfl) (by rfl) (by k_asm) (by rfl) ?_; k_whole); (try dsimp only [List.cons_append, List.nil_append]))
  k_with "Zeval Call" => (k_here; (with_reducible show wpAny _ _ (eval (PySem.Expr.Call (PySem.Expr.Name _ _) (_ :: _) [] _) _) _ _ _); k_dflt (refine' call_simG (by rfl) (by k_asm) (by k_asm) (by k_asm) (by k_is) (by k_is) (by rfl) ?_ (by rfl) (by rfl); k_whole))
  trivial
section
theorem stage6 {w : World} {s : Shared} {g0 : Heap} {L0 fa : Addr} {cd : Value} {p : Program} {loose : List Str} {mean : ExcName → Option Value} {mg mb u : Str → Option Value} {E : Value → Shared → Prop} {Q : Flow → Shared → Prop}
    {sh tb st f pl : Addr} {ns : List Int} {fs : Int → Option Bool} {vals : List Value} {otb : Obj} {k : Int} {tk0 : Tok} {S : Heap}
    (X : (hd.heap_1 w.params).In g0) (T : Top p loose mean mg mb g0) (B : Below callerA g0 [] g0)
    (F : Fr g0 L0 s.heap (lay [(Str.ofString "states", Value.ref st), (Str.ofString "shelf", Value.ref sh), (Str.ofString "take", Value.ref f)] u)) (N : News g0 L0 s.heap ((tb, otb) :: (pl, W.listOf #[.int k tk0] 0) :: darkOf S g0)) (bl : Bld g0 g0 g0 L0 [tb, pl] S)
    (Sh : ShelfAt S sh tb) (lo : (tb == sysModules) = false) (TB : Tab w S otb vals) (hv : vals.length = 5) (St : StAt w S st fs) (hf5 : ∀ n : Int, ¬ (1 ≤ n ∧ n ≤ 4) → fs n = none) (hFont : FontM w S vals)
    (hE : PassesOwn (model PySem.Challenge.rw_pb0479_01.row.prog w) (callerA.deeper (envOf (Str.ofString "law") lawScope L0 fa cd)) (envOf (Str.ofString "law") lawScope L0 fa cd) E)
    (next : ∀ u' h' tk', Fr g0 L0 h' (lay [(Str.ofString "states", Value.ref st), (Str.ofString "shelf", Value.ref sh), (Str.ofString "take", Value.ref f)] u') → News g0 L0 h' ((tb, otb) :: (pl, W.listOf #[.int k tk0] 0) :: darkOf S g0) →
      wpAny (model PySem.Challenge.rw_pb0479_01.row.prog w) (callerA.deeper (envOf (Str.ofString "law") lawScope L0 fa cd)) (execs (lawBody.drop 7) (envOf (Str.ofString "law") lawScope L0 fa cd)) Q E { s with heap := h', toks := tk' }) :
    wpAny (model PySem.Challenge.rw_pb0479_01.row.prog w) (callerA.deeper (envOf (Str.ofString "law") lawScope L0 fa cd)) (execs (lawBody.drop 6) (envOf (Str.ofString "law") lawScope L0 fa cd)) Q E s := by
  have o1 : ∀ p ∈ darkOf S g0, p.1 ≠ pl := dark_off (bl.offX pl (by first | exact .head _ | exact .tail _ (.head _) | exact .tail _ (.tail _ (.head _)) | simp))
  have o2 : ∀ p ∈ darkOf S g0, p.1 ≠ tb := dark_off (bl.offX tb (by first | exact .head _ | exact .tail _ (.head _) | exact .tail _ (.tail _ (.head _)) | simp))
  obtain ⟨skv, sd, sf⟩ := St.ex
  generalize hbn : lawBody.drop 7 = bn at next
  revert X
  k_fill
  intro X
  refine' lit (fun sc => envOf (Str.ofString "law") sc L0 fa cd) ?lit1 ?lit2 ?_
  case lit1 =>
    show lawBody.drop 6 = _
    conv => lhs; whnf
  case lit2 =>
    show lawScope = _
    conv => lhs; whnf
  show wpAny _ _ _ _ _ _
  k_steps
  refine unhalt ?_
  (with_reducible rename IsRange _ _ _ _ _ _ _ _ => rgX)
  (with_reducible rename Fr _ _ _ _ => Fl)
  (with_reducible rename News _ _ _ _ => Nl)
  with_unfolding_all refine range_free (n := 6) (SJ6 g0 S st tb pl sh f otb (W.listOf #[.int k tk0] 0)) rfl rgX (by decide) (by decide) Fl Nl ?_ ?_ ?_
  · exact .mk 0 _
  · rintro i t m₁ nx h tk I own hi ⟨u⟩ hI0 hown hoff hIx Fz Nz
    obtain ⟨oI, hoI⟩ := hIx
    have hown2 := own_one hown hoI Nz
    have Nz2 := own_front2 hoI Nz
    have Fz2 : Fr g0 L0 h (fun y => if y = Str.ofString "number" then some (.int (1 + i) t) else lay [(Str.ofString "states", Value.ref st), (Str.ofString "shelf", Value.ref sh), (Str.ofString "take", Value.ref f)] u y) := Fz
    clear Fz Nz
    have hval : (valueAt skv (1 + (i : Int))).getD (.bool true) = .bool ((fs (1 + (i : Int))).getD true) := by rw [sf]; cases fs (1 + (i : Int)) <;> rfl
    k_steps
    refine unhalt ?_
    (with_reducible rename Fr _ _ _ _ => Fa)
    (with_reducible rename News _ _ _ _ => Na)
    have hin := bl.isIn Fa Na (fun p hp => by walk_at "TAILS")
    have hT : TabAt w _ tb vals := ⟨⟨otb, (Na (tb, otb) (by k_mem)).1, TB.tab.keeps hin⟩, lo, fun v hv => (TB.nr v hv).keeps hin⟩
    have hR : RefAt _ _ (1 + (i : Int)) := refAt_of (Na (_, instObj 254 _) (.head _)).1 (Na (_, dictOf _ _) (.tail _ (.head _))).1 (by assumption) (by assumption)
    have hO := state_num (TB.keeps hin) (hFont.keeps hin) hf5 hv hR (by omega) (by omega)
    refine' state_call ⟨?B, ?F, ?X, ?T, ?N, rfl, rfl⟩ ?r ?u (Sh.keeps hin) hT (St.keeps hin) hO ?ret ?exc
    case B => exact B
    case F => exact Fa
    case X => exact X
    case T => exact T
    case N => exact Na
    case r => exact Nat.le_of_ble_eq_true rfl
    case u => exact Nat.le_of_ble_eq_true rfl
    case exc => intro hb; cases hb
    case ret =>
      intro b' hb h5 tk5 F5 N5 k5
      cases hb
      clear k5
      k_steps
      · exfalso
        exact absurd (by assumption) (by simp : ¬ (((fs (1 + (i : Int))).getD true != (fs (1 + (i : Int))).getD true) = true))
      · (with_reducible rename Fr _ _ _ _ => Fe)
        (with_reducible rename News _ _ _ _ => Ne)
        exact .fin rfl rfl rfl (fr_layI Fe (by exact .cons rfl (.cons rfl (.cons rfl .nil)))) (own_back2 hown2 (fun p hp => Ne p (.tail _ (.tail _ hp)))) hoff (.mk (i + 1) _)
  · rintro m₁ nx h tk ⟨u⟩ Fz Nz
    have Fz2 : Fr g0 L0 h (lay [(Str.ofString "states", Value.ref st), (Str.ofString "shelf", Value.ref sh), (Str.ofString "take", Value.ref f)] u) := Fz
    have Nz2 : News g0 L0 h ((tb, otb) :: (pl, W.listOf #[.int k tk0] 0) :: darkOf S g0) := Nz
    clear Fz Nz
    subst hbn
    exact next u _ _ Fz2 Nz2
end
end
end
end
end
end
end
end
end
end
section -- M5
open PySem PySem.W PyProof.Rows PySem.Spec PySem.Calls PySem.SeqAt
theorem lines_M5_1 : True := by
  k_with_none
  trivial
theorem membAll {w : World} {s : Shared} {base hs g' Sn : Heap} {outer : List Env} {L' : Addr} {cd : Value} {mg mb u : Str → Option Value} {env : Env} {p : Program} {loose : List Str} {mean : ExcName → Option Value}
    {E : Value → Shared → Prop} {Q : Flow → Shared → Prop} {dp un : Nat} {gd : Option (List Code)} {f pl sh tb st : Addr} {ns : List Int} {fs : Int → Option Bool} {vals : List Value} {otb : Obj} {n0 : Nat} {k : Int} {tk0 : Tok}
    (C : MC w Sn hs g' L' f pl sh tb st ns fs vals otb) (X' : (hd.heap_1 w.params).In g') (T' : Top p loose mean mg mb g') (B' : Below (At dp un gd env outer) base (env :: outer) g') (hroom : dp + 300 < recursionLimit) (hun : un + 300 < cLine) (hk : 0 ≤ k) (hk4 : k ≤ 100)
    (F : Fr g' L' s.heap (lay [(Str.ofString "states", Value.ref st), (Str.ofString "shelf", Value.ref sh), (Str.ofString "take", Value.ref f)] u)) (N : News g' L' s.heap [(pl, W.listOf #[.int k tk0] n0), (tb, otb)])
    (hE : PassesOwn (model PySem.Challenge.rw_pb0479_01.row.prog w) ((At dp un gd env outer).deeper (envX (Str.ofString "_law_membership") membScope L' 457 cd [])) (envX (Str.ofString "_law_membership") membScope L' 457 cd []) E)
    (ret : ∀ D hd9 o kk vals9 otb9 k9 tk9 S9 m9 h9 tk9', Bld Sn hs g' L' [pl, tb] S9 → S9.get? D = some ({ cls := .type "tuple", data := .seq #[.ref hd9, ov o] kk } : Obj) → HeadE w S9 vals9 fs hd9 o → NotRef S9 (.ref hd9) → vals <+: vals9 → vals9.length ≤ 30 → Tab w S9 otb9 vals9 → k ≤ k9 → k9 ≤ 390 →
      Fr g' L' h9 m9 → News g' L' h9 [(pl, W.listOf #[.int k9 tk9] n0), (tb, otb9)] → (∀ b o, S9.get? b = some o → h9.get? b = some o) → Q (.ret (.ref D)) { s with heap := h9, toks := tk9' }) :
    wpAny (model PySem.Challenge.rw_pb0479_01.row.prog w) ((At dp un gd env outer).deeper (envX (Str.ofString "_law_membership") membScope L' 457 cd [])) (execs (membBody.drop 0) (envX (Str.ofString "_law_membership") membScope L' 457 cd [])) Q E s := by
  refine memb1 C X' T' B' hroom hun hk hk4 F N hE fun hd9 itl mel wd wt tk1 oh kvs S2 u2 h2 tk2 F2 N2 bl2 hod hHQ hkl q1 q2 q3 q4 => ?_
  refine memb2 C X' T' B' hroom hun hk hk4 F2 N2 bl2 q1 q2 q3 q4 hE fun vs gs cI cM k2 tk2 S3 u3 h3 tk3 F3 N3 bl3 up3 hgs hit hk2 hk3 hvs => ?_
  refine memb3 C X' T' B' hroom hun hk hk4 F3 N3 bl3 hod (hHQ.keeps up3) hkl hgs hit hk2 hk3 hvs q1 q2 q3 q4 hE fun mel' bs cM' k3 tk3 oh' kvs' oc otb' vals' S5 u5 h5 tk5 F5 N5 bl5 hod5 hHQ5 T5 hp5 hl5 hME hmel hbs hk5 hk6 => ?_
  exact memb4 C X' T' B' hroom hun hk hk4 F5 N5 bl5 hod5 hHQ5 T5 hp5 hl5 hME hmel hbs hk5 hk6 q1 q2 hE ret
theorem membLit {w : World} {s : Shared} {base hs g' Sn : Heap} {outer : List Env} {L' : Addr} {cd : Value} {mg mb u : Str → Option Value} {env : Env} {p : Program} {loose : List Str} {mean : ExcName → Option Value}
    {E : Value → Shared → Prop} {Q : Flow → Shared → Prop} {dp un : Nat} {gd : Option (List Code)} {f pl sh tb st : Addr} {ns : List Int} {fs : Int → Option Bool} {vals : List Value} {otb : Obj} {n0 : Nat} {k : Int} {tk0 : Tok} {bd : List Stmt} {sc : Scope} (hbd : membBody = bd) (hsc : membScope = sc)
    (C : MC w Sn hs g' L' f pl sh tb st ns fs vals otb) (X' : (hd.heap_1 w.params).In g') (T' : Top p loose mean mg mb g') (B' : Below (At dp un gd env outer) base (env :: outer) g') (hroom : dp + 300 < recursionLimit) (hun : un + 300 < cLine) (hk : 0 ≤ k) (hk4 : k ≤ 100)
    (F : Fr g' L' s.heap (lay [(Str.ofString "states", Value.ref st), (Str.ofString "shelf", Value.ref sh), (Str.ofString "take", Value.ref f)] u)) (N : News g' L' s.heap [(pl, W.listOf #[.int k tk0] n0), (tb, otb)])
    (hE : PassesOwn (model PySem.Challenge.rw_pb0479_01.row.prog w) ((At dp un gd env outer).deeper (envX (Str.ofString "_law_membership") sc L' 457 cd [])) (envX (Str.ofString "_law_membership") sc L' 457 cd []) E)
    (ret : ∀ D hd9 o kk vals9 otb9 k9 tk9 S9 m9 h9 tk9', Bld Sn hs g' L' [pl, tb] S9 → S9.get? D = some ({ cls := .type "tuple", data := .seq #[.ref hd9, ov o] kk } : Obj) → HeadE w S9 vals9 fs hd9 o → NotRef S9 (.ref hd9) → vals <+: vals9 → vals9.length ≤ 30 → Tab w S9 otb9 vals9 → k ≤ k9 → k9 ≤ 390 →
      Fr g' L' h9 m9 → News g' L' h9 [(pl, W.listOf #[.int k9 tk9] n0), (tb, otb9)] → (∀ b o, S9.get? b = some o → h9.get? b = some o) → Q (.ret (.ref D)) { s with heap := h9, toks := tk9' }) :
    wpAny (model PySem.Challenge.rw_pb0479_01.row.prog w) ((At dp un gd env outer).deeper (envX (Str.ofString "_law_membership") sc L' 457 cd [])) (execs (bd) (envX (Str.ofString "_law_membership") sc L' 457 cd [])) Q E s := by
  subst hbd hsc
  exact membAll C X' T' B' hroom hun hk hk4 F N hE ret
theorem memb_call {w : World} {A₀ : Around} {s : Shared} {base h₀ : Heap} {outer : List Env} {L : Addr} {m mg mb : Str → Option Value} {env : Env} {p : Program} {loose : List Str} {mean : ExcName → Option Value}
    {E : Value → Shared → Prop} {Q : Value → Shared → Prop} {news : List (Addr × Obj)} {dp un : Nat} {gd : Option (List Code)} {Sn : Heap} {f pl sh tb st : Addr} {ns : List Int} {fs : Int → Option Bool} {vals : List Value} {otb : Obj} {k : Int} {tk0 : Tok} {n0 : Nat} {u1 : Obj → List (Addr × Obj)} {u2 : Obj → Obj → List (Addr × Obj)}
    (C : Cx (hd.heap_1 w.params) A₀ base h₀ env outer L m p loose mean mg mb s news) (hroom : dp + 300 < recursionLimit) (hun : un + 300 < cLine)
    (kS : ∀ b o, Sn.get? b = some o → s.heap.get? b = some o) (nP : Sn.get? pl = none) (nT : Sn.get? tb = none) (nep : pl ≠ tb) (Tk : TakeAt Sn f pl ns) (S : ShelfAt Sn sh tb) (lo : (tb == sysModules) = false) (TB : Tab w Sn otb vals) (St : StAt w Sn st fs)
    (U1 : UpdF pl (W.listOf #[.int k tk0] n0) news u1) (U2 : ∀ o, UpdF tb otb (u1 o) (u2 o)) (hk : 0 ≤ k) (hk4 : k ≤ 100) (hv : vals.length = 5) (hf5 : ∀ n : Int, ¬ (1 ≤ n ∧ n ≤ 4) → fs n = none)
    (ret : ∀ D hd9 o kk vals' otb' k' tk1 S' h' tk', S'.get? D = some ({ cls := .type "tuple", data := .seq #[.ref hd9, ov o] kk } : Obj) → HeadE w S' vals' fs hd9 o → NotRef S' (.ref hd9) → vals <+: vals' → vals'.length ≤ 30 → Tab w S' otb' vals' → Snp Sn s.heap S' h' → k ≤ k' → k' ≤ 390 → Fr h₀ L h' m → News h₀ L h' (u2 (W.listOf #[.int k' tk1] n0) otb') → Keeps [pl, tb] s.heap h' → Q (.ref D) { s with heap := h', toks := tk' }) :
    wpAny (model PySem.Challenge.rw_pb0479_01.row.prog w) (At dp un gd env outer) (call (.ref 457) [.ref f, .ref sh, .ref st]) Q E s := by
  obtain ⟨B, F, X, T, N, hf, hke⟩ := C
  have Nm := mu2 N U1 U2
  revert X
  k_fill
  intro X
  refine wpAny_call ?_
  refine' enterK [(pl, W.listOf #[.int k tk0] n0), (tb, otb)] B F X T Nm rfl hf hke ?ho ?hcd ?hr ?hb ?hl ?_ ?hc ?h1 ?h2 ?h3
  case ho => k_dflt k_is
  case hcd => k_dflt k_is
  case hr => k_room
  case hb => exact BindsTo.of_eq rfl
  case hl => exact locs rfl
  case hc => decide
  case h1 => rfl
  case h2 => rfl
  case h3 => rfl
  intro g' L' h' hg1 hg2 hg3 hL F' N' B' X' T' hlt
  have MCx : MC w Sn s.heap g' L' f pl sh tb st ns fs vals otb := ⟨hg1, hL, kS, nP, nT, nep, Tk, S, lo, TB, St, hv, hf5, hlt (pl, _) (.head _), hlt (tb, _) (.tail _ (.head _))⟩
  refine membLit (by rfl) (by rfl) MCx X' T' B' hroom hun hk hk4 (fr_layI F' (by exact .cons rfl (.cons rfl (.cons rfl .nil)))) N' ?hE ?hret
  case hE => passes_own
  case hret =>
    intro D hd9 o kk vals9 otb9 k9 tk9 S9 m9 h9 tk9' bl9 hD hH hNR hp hl hT hka hkb Fz Nz hin
    have kp := keeps_back (mu := [(pl, W.listOf #[.int k tk0] n0), (tb, otb)]) Fz hg1 hL
    exact ret D hd9 o kk vals9 otb9 k9 tk9 S9 h9 tk9' hD hH hNR hp hl hT ⟨bl9.old, hin, bl9.new⟩ hka hkb (fr_keeps F kp (two_all (N _ (updF_mem U1)).2 (N _ (upd2_mem U1 U2)).2)) (news_upd2 N U1 U2 kp (Nz (pl, _) (.head _)).1 (Nz (tb, _) (.tail _ (.head _))).1) kp
end
section
local macro_rules | `(tactic| k_all) => `(tactic| exact dark_off (by assumption))
section
local macro_rules | `(tactic| kwd_rel) => `(tactic| exact ⟨by k_asm, by k_asm, by k_asm, by k_asm, by k_asm, rfl, rfl⟩)
section
local macro_rules | `(tactic| kpc_turns) => `(tactic| exact Bld.isIn (by assumption) (by k_asm) (by k_asm) (fun p hp => by walk_at "TAILS"))
section
local macro_rules | `(tactic| kfm_turns) => `(tactic| exact list_news (by k_asm) (by k_mem))
section
local macro_rules | `(tactic| k_inst) => `(tactic| (refine' inst_dark ?k9 (by assumption) (by assumption); kpc_turns))
section
local macro_rules | `(tactic| kwd_inv) => `(tactic| first | exact unitK 3 (by assumption) (by decide) | exact unitK 4 (by assumption) (by decide) | exact unitM 3 (by assumption) (by decide) | exact unit2 3 (by assumption) (by decide) | exact unitM 4 (by assumption) (by decide) | ((try simp only [units_in1, units_deeper]); (try dsimp only); omega))
section
local macro_rules | `(tactic| k_all) => `(tactic| assumption)
section -- D7
open PySem PySem.W PyProof.Rows PySem.Spec PySem.Calls PySem.SeqAt
theorem lines_D7_1 : True := by
  k_with_none
  k_with "ZgetMethod ref" => (k_here; k_dflt (first | (refine' method_inst (by k_asm) (by k_asm) (by k_inst) (by k_is) (by k_is) (by k_is) (by assumption) ?_; k_whole) | (refine' dget_method (by k_asm) (by assumption) ?_; k_whole)))
  k_with "Zcall ref" => (k_here; refine halt_call (by decide) ?_)
  k_with "ZTAILS" => (first | (with_reducible assumption) | (with_reducible refine List.mem_cons_of_mem _ ?_; walk_at "TAILS"))
  k_with "Zassign Tuple" => (k_here; (with_reducible show wpAny _ _ (assign (PySem.Expr.Tuple _ _ _) _ (Value.ref _)) _ _ _); k_dflt (refine' unpackN_ (by k_asm) (by k_asm) (by refine' tup_dark ?_ (by assumption); kpc_turns) (by exact rfl) (by exact rfl) (by exact rfl) ?_; k_whole); intro _ _ _; (try k_sweep))
  k_with "ZFOUND" => (refine unhalt ?_; refine' found_call (by kwd_rel) (Nat.le_of_ble_eq_true rfl) (Nat.le_of_ble_eq_true rfl) (ShelfAt.keeps (by kpc_turns) (by assumption)) (tabAt_news (by k_asm) (.head _) (by assumption) (by kpc_turns) (by assumption)) (StAt.keeps (by kpc_turns) (by assumption)) (StateE.at_ (by assumption) (by assumption) (by kpc_turns)) ?_)
  k_with "ZSTATE" => (refine unhalt ?_; refine' state_call (by kwd_rel) (Nat.le_of_ble_eq_true rfl) (Nat.le_of_ble_eq_true rfl) (ShelfAt.keeps (by kpc_turns) (by assumption)) (tabAt_news (by k_asm) (by k_mem) (by assumption) (by kpc_turns) (by assumption)) (StAt.keeps (by kpc_turns) (by assumption)) (by first | exact StateE.at_ stateE_none (by assumption) (by kpc_turns) | exact StateE.at_ stateE_int (by assumption) (by kpc_turns) | exact StateE.at_ (by assumption) (by assumption) (by kpc_turns)) ?_ (by (intro hb; cases hb)))
  k_with "Zexecs cons" => (k_here; (with_reducible refine halt_if StageMark (by assumption) ?_))
  k_with "ZcompareOp NotEq bool bool" => (k_here; k_dflt (refine ne_bool_self ?_))
  k_with "Zspliced" => (k_here; k_dflt (refine' args_simG (by rfl) (by rfl) (by k_asm) (by rfl) ?_; k_whole); (try dsimp only [List.cons_append, List.nil_append]))
  k_with "Zeval Call" => (k_here; (with_reducible show wpAny _ _ (eval (PySem.Expr.Call (PySem.Expr.Name _ _) (_ :: _) [] _) _) _ _ _); k_dflt (refine' call_simG (by rfl) (by k_asm) (by k_asm) (by k_asm) (by k_is) (by k_is) (by rfl) ?_ (by rfl) (by rfl); k_whole))
  trivial
section
theorem stage7 {w : World} {s : Shared} {g0 : Heap} {L0 fa : Addr} {cd : Value} {p : Program} {loose : List Str} {mean : ExcName → Option Value} {mg mb u : Str → Option Value} {E : Value → Shared → Prop} {Q : Flow → Shared → Prop}
    {sh tb st f pl : Addr} {ns : List Int} {fs : Int → Option Bool} {vals : List Value} {otb : Obj} {k : Int} {tk0 : Tok} {S : Heap}
    (X : (hd.heap_1 w.params).In g0) (T : Top p loose mean mg mb g0) (B : Below callerA g0 [] g0)
    (F : Fr g0 L0 s.heap (lay [(Str.ofString "states", Value.ref st), (Str.ofString "shelf", Value.ref sh), (Str.ofString "take", Value.ref f)] u)) (N : News g0 L0 s.heap ((tb, otb) :: (pl, W.listOf #[.int k tk0] 0) :: darkOf S g0)) (bl : Bld g0 g0 g0 L0 [tb, pl] S)
    (Tk : TakeAt S f pl ns) (Sh : ShelfAt S sh tb) (lo : (tb == sysModules) = false) (TB : Tab w S otb vals) (hv : vals.length = 5) (St : StAt w S st fs) (hf5 : ∀ n : Int, ¬ (1 ≤ n ∧ n ≤ 4) → fs n = none) (hk : 0 ≤ k) (hk4 : k ≤ 100) (hlt : @LT.lt Nat instLTNat pl tb) (hFont : FontM w S vals)
    (next : ∀ (x7 : Addr) (otb7 : Obj) (vals7 : List Value) (S7 : Heap) (b0 : Bool) (u' : Str → Option Value) h' tk', Fr g0 L0 h' (lay [(Str.ofString "due", Value.bool b0), (Str.ofString "place", Value.ref x7), (Str.ofString "states", Value.ref st), (Str.ofString "shelf", Value.ref sh)] u') → News g0 L0 h' ((tb, otb7) :: darkOf S7 g0) → Bld g0 g0 g0 L0 [tb] S7 →
      ShelfAt S7 sh tb → Tab w S7 otb7 vals7 → FontM w S7 vals7 → vals7.length ≤ 45 → StAt w S7 st fs → StateE w S7 vals7 fs (.ref x7) (some b0) → (∀ b o, S.get? b = some o → S7.get? b = some o) →
      wpAny (model PySem.Challenge.rw_pb0479_01.row.prog w) (callerA.deeper (envOf (Str.ofString "law") lawScope L0 fa cd)) (execs (lawBody.drop 11) (envOf (Str.ofString "law") lawScope L0 fa cd)) Q E { s with heap := h', toks := tk' })
    (hQ : ∀ h' tk' m', Fr g0 L0 h' m' → (∀ b o, S.get? b = some o → h'.get? b = some o) → Q (.ret (.bool true)) { s with heap := h', toks := tk' }) :
    wpAny (model PySem.Challenge.rw_pb0479_01.row.prog w) (callerA.deeper (envOf (Str.ofString "law") lawScope L0 fa cd)) (execs (lawBody.drop 7) (envOf (Str.ofString "law") lawScope L0 fa cd)) Q E s := by
  revert X
  k_fill
  intro X
  have o1 : ∀ p ∈ darkOf S g0, p.1 ≠ pl := dark_off (bl.offX pl (by first | exact .head _ | exact .tail _ (.head _) | exact .tail _ (.tail _ (.head _)) | simp))
  have o2 : ∀ p ∈ darkOf S g0, p.1 ≠ tb := dark_off (bl.offX tb (by first | exact .head _ | exact .tail _ (.head _) | exact .tail _ (.tail _ (.head _)) | simp))
  generalize hbn : lawBody.drop 11 = bn at next
  refine' lit (fun sc => envOf (Str.ofString "law") sc L0 fa cd) ?lit1 ?lit2 ?_
  case lit1 =>
    show lawBody.drop 7 = _
    conv => lhs; whnf
  case lit2 =>
    show lawScope = _
    conv => lhs; whnf
  show wpAny _ _ _ _ _ _
  k_steps
  refine unhalt ?_
  (with_reducible rename Fr _ _ _ _ => Fa)
  (with_reducible rename News _ _ _ _ => Na)
  have hin := bl.isIn Fa Na (fun p hp => by walk_at "TAILS")
  refine' memb_call ⟨?mB, ?mF, ?mX, ?mT, ?mN, rfl, rfl⟩ ?mr ?mu hin (bl.offX pl (by first | exact .head _ | exact .tail _ (.head _) | exact .tail _ (.tail _ (.head _)) | simp)) (bl.offX tb (by first | exact .head _ | exact .tail _ (.head _) | exact .tail _ (.tail _ (.head _)) | simp)) ?mne Tk Sh lo TB St ?mU1 ?mU2 ?mk0 ?mk4 hv hf5 ?mret
  case mB => exact B
  case mF => exact Fa
  case mX => exact X
  case mT => exact T
  case mN => exact Na
  case mr => decide
  case mu => decide
  case mne => exact fun q => Nat.lt_irrefl _ (q ▸ hlt)
  case mU1 => k_updF
  case mU2 => intro o; k_updF
  case mk0 => omega
  case mk4 => omega
  case mret =>
    intro D hd9 o kk vals' otb' k' tk1 S6 h6 tk6 hD hSt hNr hpre hvl hTab z6 hk' hk390 F6 N6 k6
    clear k6
    (try dsimp only at N6)
    have b6 := bl.next Fa (two_all ⟨_, (Na (tb, _) (by k_mem)).1⟩ ⟨_, (Na (pl, _) (by k_mem)).1⟩) (fun b o e n => e) z6 F6.keep
    have N7 : News g0 L0 h6 ((tb, otb') :: (pl, W.listOf #[.int k' tk1] 0) :: darkOf S6 g0) := news_pre [_, _] (news_dark Fa N6 z6 bl.offL)
    clear N6
    have p1 : ∀ p ∈ darkOf S6 g0, p.1 ≠ pl := dark_off (b6.offX pl (by first | exact .head _ | exact .tail _ (.head _) | exact .tail _ (.tail _ (.head _)) | simp))
    have p2 : ∀ p ∈ darkOf S6 g0, p.1 ≠ tb := dark_off (b6.offX tb (by first | exact .head _ | exact .tail _ (.head _) | exact .tail _ (.tail _ (.head _)) | simp))
    obtain ⟨dx, es, q, i1, i2, j1, j2, j3, j4⟩ := (Sh.keeps z6.old).w
    k_steps
    refine unhalt ?_
    (with_reducible rename Fr _ _ _ _ => Fb)
    (with_reducible rename News _ _ _ _ => Nb)
    have hin6 := b6.isIn Fb Nb (fun p hp => by walk_at "TAILS")
    refine' add_call ⟨?aB, ?aF, ?aX, ?aT, ?aN, rfl, rfl⟩ ?ar hin6 (b6.offX tb (by first | exact .head _ | exact .tail _ (.head _) | exact .tail _ (.tail _ (.head _)) | simp)) (Sh.keeps z6.old) ?aU hTab.tab ?ahv lo ?aret
    case aB => exact B
    case aF => exact Fb
    case aX => exact X
    case aT => exact T
    case aN => exact Nb
    case ar => exact Nat.le_of_ble_eq_true rfl
    case aU => k_updF
    case ahv => omega
    case aret =>
     intro x7 otb7 S7 h7 tk7 z7 R7 T7 F7 N7 k7
     clear k7
     (try dsimp only at N7)
     have b7 := b6.next Fb (two_all ⟨_, (Nb (tb, _) (by k_mem)).1⟩ ⟨_, (Nb (pl, _) (by k_mem)).1⟩) (fun b o e n => e) z7 F7.keep
     have N8 : News g0 L0 h7 ((tb, otb7) :: (pl, W.listOf #[.int k' tk1] 0) :: darkOf S7 g0) := news_pre [_, _] (news_dark Fb N7 z7 b6.offL)
     clear N7
     have q1 : ∀ p ∈ darkOf S7 g0, p.1 ≠ pl := dark_off (b7.offX pl (by first | exact .head _ | exact .tail _ (.head _) | exact .tail _ (.tail _ (.head _)) | simp))
     have q2 : ∀ p ∈ darkOf S7 g0, p.1 ≠ tb := dark_off (b7.offX tb (by first | exact .head _ | exact .tail _ (.head _) | exact .tail _ (.tail _ (.head _)) | simp))
     have hget : (vals' ++ [Value.ref hd9])[((vals'.length : Int) + 1 - 1).toNat]? = some (.ref hd9) := by
       have e : ((vals'.length : Int) + 1 - 1).toNat = vals'.length := by omega
       rw [e]; simp
     have hTab7 := hTab.add T7 z7.old (hNr.keeps z7.old)
     have hHd7 := (hSt.keeps z7.old).grow (List.prefix_append vals' [Value.ref hd9])
     have hself := hHd7.self
     have hplace := hHd7.place R7 (by omega) hget
     have hStv := (St.keeps z6.old).keeps z7.old
     have hShv := (Sh.keeps z6.old).keeps z7.old
     obtain ⟨dx7, es7, qq7, i17, i27, j17, j27, j37, j47⟩ := hShv.w
     have hlen7 : (vals' ++ [Value.ref hd9]).length ≤ 45 := by simp; omega
     k_steps
     refine unhalt ?_
     (with_reducible rename Fr _ _ _ _ => Fc)
     (with_reducible rename News _ _ _ _ => Nc)
     have hin7 := b7.isIn Fc Nc (fun p hp => by walk_at "TAILS")
     refine' found_call ⟨?cB, ?cF, ?cX, ?cT, ?cN, rfl, rfl⟩ ?cr ?cu (hShv.keeps hin7) ⟨⟨otb7, (Nc (tb, otb7) (by k_mem)).1, hTab7.tab.keeps hin7⟩, lo, fun v hv => (hTab7.nr v hv).keeps hin7⟩ (hStv.keeps hin7) ((hself _ (List.prefix_refl _) hlen7).keeps hin7) ?cret
     case cB => exact B
     case cF => exact Fc
     case cX => exact X
     case cT => exact T
     case cN => exact Nc
     case cr => exact Nat.le_of_ble_eq_true rfl
     case cu => exact Nat.le_of_ble_eq_true rfl
     case cret =>
      intro h8 tk8 F8 N8 k8
      clear k8
      rcases o with _ | b0
      all_goals (dsimp only [ov, Option.elim] at F8)
      all_goals (try dsimp only [Option.elim, ov])
      all_goals k_steps
      all_goals (
        walk_at "FOUND"
        intro h9 tk9 F9 N9 k9
        clear k9
        (try dsimp only [Option.elim, ov])
        k_steps)
      all_goals (
        walk_at "STATE"
        intro b' hb h9 tk9 F9 N9 k9
        cases hb
        clear k9
        k_steps
        walk_at "STATE"
        intro b' hb h9 tk9 F9 N9 k9
        cases hb
        clear k9
        k_steps)
      all_goals (
        refine unhalt ?_
        (with_reducible rename Fr _ _ _ _ => Fs)
        (with_reducible rename News _ _ _ _ => Ns)
        have hins := b7.isIn Fs Ns (fun p hp => by walk_at "TAILS")
        refine shown_call ⟨B, Fs, X, T, Ns, rfl, rfl⟩ (Nat.le_of_ble_eq_true rfl) (Nat.le_of_ble_eq_true rfl) (hShv.keeps hins) (tabAt_news Ns (by k_mem) hTab7 hins lo) (hStv.keeps hins) (dct_news Ns (.head _) (kvs := []) (by assumption) (by assumption)) (y := .none) rfl (stateE_none.at_ hlen7 hins) ?_
        intro h9 tk9 F9 N9 k9
        clear k9)
      · k_steps
        (with_reducible rename Fr _ _ _ _ => Fq)
        (with_reducible rename News _ _ _ _ => Nq)
        exact hQ _ _ _ Fq fun b o e => b7.isIn Fq Nq (fun p hp => by walk_at "TAILS") b o (z7.old b o (z6.old b o e))
      · have sm : StageMark := ⟨⟩
        k_steps
        refine unhalt ?_
        (with_reducible rename Fr _ _ _ _ => Fq)
        (with_reducible rename News _ _ _ _ => Nq)
        subst hbn
        refine next x7 otb7 _ S7 b0 _ _ _ (fr_layI Fq (by exact .cons rfl (.cons rfl (.cons rfl (.cons rfl .nil))))) ?_ (b7.weak (by intro a ha; simp only [List.mem_cons, List.not_mem_nil, or_false] at ha ⊢; simp [ha])) hShv hTab7 ((((hFont.keeps z6.old).grow hpre).keeps z7.old).grow (List.prefix_append _ _)) hlen7 hStv hplace (fun b o e => z7.old b o (z6.old b o e))
        intro p hp
        rcases List.mem_cons.mp hp with h | hp
        · rw [h]; exact Nq _ (by k_mem)
        · exact Nq p (by walk_at "TAILS")
end
end
end
end
end
end
end
end
end
end
end
end
end
end
section
local macro_rules | `(tactic| k_room) => `(tactic| first | exact roomK 1 (by assumption) (by decide) | exact unitK 1 (by assumption) (by decide) | exact unit2 1 (by assumption) (by decide) | exact roomM 1 (by assumption) (by decide) | exact unitM 1 (by assumption) (by decide) | exact roomK 2 (by assumption) (by decide) | exact unitK 2 (by assumption) (by decide) | exact roomZ (by assumption) | exact roomZM (by assumption) | ((try simp only [depth_under_make, depth_under_kw, depth_in1, depth_deeper]); (try dsimp only); omega))
section
local macro_rules | `(tactic| k_inst) => `(tactic| (refine' inst_base (by k_asm) (by assumption) (by assumption)))
section
local macro_rules | `(tactic| kit_at) => `(tactic| (refine' kitAt_base (by k_asm) (by assumption) (by assumption)))
section
local macro_rules | `(tactic| k_all) => `(tactic| exact dark_off (by assumption))
section
local macro_rules | `(tactic| kwd_rel) => `(tactic| exact ⟨by k_asm, by k_asm, by k_asm, by k_asm, by k_asm, rfl, rfl⟩)
section
local macro_rules | `(tactic| kpc_turns) => `(tactic| exact Bld.isIn (by assumption) (by k_asm) (by k_asm) (fun p hp => by walk_at "TAILS"))
section
local macro_rules | `(tactic| kfm_turns) => `(tactic| exact list_news (by k_asm) (by k_mem))
section
local macro_rules | `(tactic| k_inst) => `(tactic| (refine' inst_dark ?k9 (by assumption) (by assumption); kpc_turns))
section
local macro_rules | `(tactic| kwd_inv) => `(tactic| first | exact unitK 3 (by assumption) (by decide) | exact unitK 4 (by assumption) (by decide) | exact unitM 3 (by assumption) (by decide) | exact unit2 3 (by assumption) (by decide) | exact unitM 4 (by assumption) (by decide) | ((try simp only [units_in1, units_deeper]); (try dsimp only); omega))
section
local macro_rules | `(tactic| k_all) => `(tactic| assumption)
section
local macro_rules | `(tactic| passes_own) => `(tactic| assumption)
section -- D3
open PySem PySem.W PyProof.Rows PySem.Spec PySem.Calls PySem.SeqAt
theorem lines_D3_1 : True := by
  k_with_none
  k_with "ZgetMethod ref" => (k_here; k_dflt (first | (refine' method_inst (by k_asm) (by k_asm) (by k_inst) (by k_is) (by k_is) (by k_is) (by assumption) ?_; k_whole) | (refine' dget_method (by k_asm) (by assumption) ?_; k_whole)))
  k_with "Zcall ref" => (k_here; refine halt_call (by decide) ?_)
  k_with "Zcall ref" => (k_here; (with_reducible show wpAny _ _ (call (Value.ref 183) [Value.str _ _]) _ _ _); k_dflt (refine' name_new (by kwd_rel) (by k_room) ?_; k_whole); intro _ _ _ _ _ _ _ _ _ l1' l2'; (try k_lt l1'); (try k_lt2 l2'); (first | (revert l1' l2'; intro _ _) | (revert l2'; intro _) | (revert l1'; intro _) | skip); (try k_sweep))
  k_with "ZTAILS" => (first | (with_reducible assumption) | (with_reducible refine List.mem_cons_of_mem _ ?_; walk_at "TAILS"))
  k_with "Zexecs cons" => (k_here; (with_reducible refine halt_for StageMark (by assumption) ?_))
  k_with "Zspliced" => (k_here; k_dflt (refine' args_simG (by rfl) (by rfl) (by k_asm) (by rfl) ?_; k_whole); (try dsimp only [List.cons_append, List.nil_append]))
  k_with "Zeval Call" => (k_here; (with_reducible show wpAny _ _ (eval (PySem.Expr.Call (PySem.Expr.Name _ _) (_ :: _) [] _) _) _ _ _); k_dflt (refine' call_simG (by rfl) (by k_asm) (by k_asm) (by k_asm) (by k_is) (by k_is) (by rfl) ?_ (by rfl) (by rfl); k_whole))
  trivial
section
theorem stage3 {w : World} {s : Shared} {g0 : Heap} {L0 fa : Addr} {cd : Value} {p : Program} {loose : List Str} {mean : ExcName → Option Value} {mg mb u : Str → Option Value} {E : Value → Shared → Prop} {Q : Flow → Shared → Prop}
    {f pl sh tb dx : Addr} {es : List DictEntry} {q : Nat} {otb : Obj} {vals : List Value} {tk1 : Tok} {S2 S3 : Heap}
    (X : (hd.heap_1 w.params).In g0) (T : Top p loose mean mg mb g0) (B : Below callerA g0 [] g0)
    (F : Fr g0 L0 s.heap (lay [(Str.ofString "shelf", Value.ref sh), (Str.ofString "take", Value.ref f)] u)) (N : News g0 L0 s.heap ((tb, otb) :: (pl, W.listOf #[.int 0 tk1] 0) :: darkOf S3 g0)) (bl3 : Bld g0 g0 g0 L0 [pl, tb] S3) (up3 : ∀ b o, S2.get? b = some o → S3.get? b = some o)
    (i1 : InA S2 sh 363 dx es q) (j1 : getL (Str.ofString "table") es = some (some (.ref tb))) (j2 : getL (Str.ofString "fetch") es = some none) (j3 : getL (Str.ofString "get") es = some none) (j4 : getL (Str.ofString "add") es = some none) (j5 : getL (Str.ofString "put") es = some none) (lot : (tb == sysModules) = false) (hlt2 : @LT.lt Nat instLTNat pl tb)
    (hT : TabObj w S3 otb vals) (hG : Grp w S3 vals 4)
    (hE : PassesOwn (model PySem.Challenge.rw_pb0479_01.row.prog w) (callerA.deeper (envOf (Str.ofString "law") lawScope L0 fa cd)) (envOf (Str.ofString "law") lawScope L0 fa cd) E)
    (next : ∀ (st : Addr) (ost otb : Obj) (vals : List Value) (u2 : Str → Option Value) (S5 h2 : Heap) tk2, Fr g0 L0 h2 (lay [(Str.ofString "states", Value.ref st), (Str.ofString "shelf", Value.ref sh), (Str.ofString "take", Value.ref f)] u2) → News g0 L0 h2 ((st, ost) :: (tb, otb) :: (pl, W.listOf #[.int 0 tk1] 0) :: darkOf S5 g0) → Bld g0 g0 g0 L0 [st, tb, pl] S5 → (∀ b o, S3.get? b = some o → S5.get? b = some o) →
      Tab w S5 otb vals → vals.length = 5 → FontM w S5 vals → ost.IsDictOf (ik w) [] → (st == sysModules) = false → @LT.lt Nat instLTNat tb st →
      wpAny (model PySem.Challenge.rw_pb0479_01.row.prog w) (callerA.deeper (envOf (Str.ofString "law") lawScope L0 fa cd)) (execs (lawBody.drop 5) (envOf (Str.ofString "law") lawScope L0 fa cd)) Q E { s with heap := h2, toks := tk2 }) :
    wpAny (model PySem.Challenge.rw_pb0479_01.row.prog w) (callerA.deeper (envOf (Str.ofString "law") lawScope L0 fa cd)) (execs (lawBody.drop 3) (envOf (Str.ofString "law") lawScope L0 fa cd)) Q E s := by
  obtain ⟨i1, i2⟩ := i1
  have i1' := up3 _ _ i1
  have i2' := up3 _ _ i2
  have w1 := off_all (g := g0) bl3.offX (a := pl) (by first | exact .head _ | exact .tail _ (.head _) | exact .tail _ (.tail _ (.head _)) | simp)
  have w2 := off_all (g := g0) bl3.offX (a := tb) (by first | exact .head _ | exact .tail _ (.head _) | exact .tail _ (.tail _ (.head _)) | simp)
  obtain ⟨hvl, hnr, hgr⟩ := hG
  generalize hbn : lawBody.drop 5 = bn at next
  revert X
  k_fill
  intro X
  refine' lit (fun sc => envOf (Str.ofString "law") sc L0 fa cd) ?lit1 ?lit2 ?_
  case lit1 =>
    show lawBody.drop 3 = _
    conv => lhs; whnf
  case lit2 =>
    show lawScope = _
    conv => lhs; whnf
  show wpAny _ _ _ _ _ _
  have hmark : StageMark := ⟨⟩
  k_steps
  refine unhalt ?_
  (with_reducible rename Fr _ _ _ _ => F7)
  (with_reducible rename News _ _ _ _ => N7)
  (with_reducible rename Obj.IsDictOf _ _ _ => hdn)
  refine' put_call ⟨?B2, ?F2, ?X2, ?T2, ?N2, rfl, rfl⟩ ?r2 (bl3.isIn F7 N7 (fun p hp => by walk_at "TAILS")) (bl3.offX tb (by first | exact .head _ | exact .tail _ (.head _) | exact .tail _ (.tail _ (.head _)) | simp)) ⟨⟨dx, es, q, ⟨i1', i2'⟩, j1, j2, j3, j4⟩⟩ ?U2 hT ?hn2 ?hv2 ?ret2
  case B2 => k_asm
  case F2 => exact F7
  case X2 => k_asm
  case T2 => k_asm
  case N2 => exact N7
  case r2 => k_room
  case U2 => k_updF
  case hn2 => omega
  case hv2 => omega
  case ret2 =>
    intro otb' S6 h6 tk6 z6 T6 F6 N6 k6
    clear k6
    have b6 := bl3.next F7 (two_all ⟨_, (N7 (pl, _) (by k_mem)).1⟩ ⟨_, (N7 (tb, _) (by k_mem)).1⟩) (fun b o e n => e) z6 F6.keep
    (try dsimp only at N6)
    have N8 := news_dark F7 N6 z6 bl3.offL
    simp only [List.cons_append] at N8
    clear N6
    k_steps
    refine unhalt ?_
    (with_reducible rename Fr _ _ _ _ => Fe)
    (with_reducible rename News _ _ _ _ => Ne)
    have hin6 := b6.isIn Fe Ne (fun p hp => by
      have hp2 : p ∈ darkOf S3 g0 ++ darkOf S6 g0 := List.mem_append_right _ hp
      walk_at "TAILS")
    rename_i st9 _ ost lo9 _ _ hi9 _ lx9 _
    have hstn : S6.get? st9 = none := dark_none (Ne (st9, ost) (by k_mem)).2.2 (fun p hp => fun qq => Nat.lt_irrefl _ (qq ▸ allLt_mem lx9.2.2.2.2.2 (List.mem_append_right _ hp)))
    obtain ⟨S5, ⟨bl5, up5⟩, d5, c5⟩ : ∃ S5, (Bld g0 g0 g0 L0 [st9, tb, pl] S5 ∧ ∀ b o, S6.get? b = some o → S5.get? b = some o) ∧ (∀ p ∈ darkOf S5 g0, Heap.get? _ p.1 = some p.2 ∧ p.1 ≠ L0 ∧ Heap.get? g0 p.1 = none) ∧ ∀ {a : Addr} {o : Obj}, (a, o) ∈ _ → (∀ y ∈ [st9, tb, pl], a ≠ y) → S5.get? a = some o :=
      ⟨_, b6.cmp Fe hin6 (three_all hstn (b6.offX tb (by first | exact .head _ | exact .tail _ (.head _) | exact .tail _ (.tail _ (.head _)) | simp)) (b6.offX pl (by first | exact .head _ | exact .tail _ (.head _) | exact .tail _ (.tail _ (.head _)) | simp))), fun p hp => news_cmp Fe Ne p (List.mem_append_right _ hp), fun {a o} hm n => cn_law Ne hm n⟩
    have up35 : ∀ b o, S3.get? b = some o → S5.get? b = some o := fun b o e => up5 b o (z6.old b o e)
    have hv4 : vals.length = 4 := hvl
    have hTF := tab5 (T6.keeps up5) hv4 (fun v hv => (hnr v hv).keeps up35) (fun j hj => let ⟨d, tx, kvs, a1, a2, a3, a4⟩ := hgr j hj; ⟨d, tx, kvs, a1, a2.keeps up35, a3, a4.keeps up35⟩) ⟨Heap.dictOf_iff.mpr ⟨_, c5 (by k_mem) (three_ne (by k_ne) (by k_ne) (by k_ne)), hdn⟩, lo_gt (by omega)⟩ rfl
      (nameAt_of (c5 (by k_mem) (three_ne (by k_ne) (by k_ne) (by k_ne))) (c5 (by k_mem) (three_ne (by k_ne) (by k_ne) (by k_ne))) (by assumption))
    subst hbn
    exact next st9 ost otb' _ _ S5 _ _ (fr_layI Fe (by exact .cons rfl (.cons rfl (.cons rfl .nil)))) (news3d (Ne (st9, ost) (by k_mem)) (Ne (tb, otb') (by k_mem)) (Ne (pl, _) (by k_mem)) d5) bl5 up35 hTF.1 (by simp [hv4]) hTF.2 hi9 lo9 (by omega)
end
end
section -- J
open PySem PySem.W PyProof.Rows PySem.Spec PySem.Calls PySem.SeqAt
theorem stageAll {w : World} {s : Shared} {g0 : Heap} {L0 fa : Addr} {cd : Value} {p : Program} {loose : List Str} {mean : ExcName → Option Value} {mg mb u : Str → Option Value} {E : Value → Shared → Prop} {Q : Flow → Shared → Prop}
    {f pl : Addr} {ns : List Int} {tk1 : Tok} {S1 : Heap}
    (X : (hd.heap_1 w.params).In g0) (T : Top p loose mean mg mb g0) (B : Below callerA g0 [] g0)
    (F : Fr g0 L0 s.heap (lay [(Str.ofString "take", Value.ref f)] u)) (N : News g0 L0 s.heap ((pl, W.listOf #[.int 0 tk1] 0) :: darkOf S1 g0)) (bl1 : Bld g0 g0 g0 L0 [pl] S1) (Tk : TakeAt S1 f pl ns)
    (hE : PassesOwn (model PySem.Challenge.rw_pb0479_01.row.prog w) (callerA.deeper (envOf (Str.ofString "law") lawScope L0 fa cd)) (envOf (Str.ofString "law") lawScope L0 fa cd) E)
    (hQ : ∀ h' tk' m', Fr g0 L0 h' m' → (∀ b o, S1.get? b = some o → h'.get? b = some o) → Q (.ret (.bool true)) { s with heap := h', toks := tk' }) :
    wpAny (model PySem.Challenge.rw_pb0479_01.row.prog w) (callerA.deeper (envOf (Str.ofString "law") lawScope L0 fa cd)) (execs (lawBody.drop 1) (envOf (Str.ofString "law") lawScope L0 fa cd)) Q E s := by
  refine stage1 X T B F N bl1 hE fun sh tb dx es q otb u2 S2 h2 tk2 F2 N2 bl2 up2 i j1 j2 j3 j4 j5 hodt lot hlt => ?_
  refine stage2 X T B F2 N2 bl2 i j1 j2 j3 j4 j5 hodt lot hlt hE fun otb3 vals3 u3 S3 h3 tk3 F3 N3 bl3 up3 hT hG => ?_
  refine stage3 X T B F3 N3 bl3 up3 i j1 j2 j3 j4 j5 lot hlt hT hG hE fun st ost otb5 vals5 u5 S5 h5 tk5 F5 N5 bl5 up5 hTab hv5 hFM host lost hlt5 => ?_
  have k5 : ∀ b o, S1.get? b = some o → S5.get? b = some o := fun b o e => up5 b o (up3 b o (up2 b o e))
  refine stage5 X T B F5 N5 bl5 (Tk.mono k5) host hlt hlt5 hE fun fs ost6 kvs tk6 u6 h6 tk6' hf5 hd6 hval6 F6 N6 => ?_
  have hin6 := bl5.isIn F6 N6 (fun p hp => .tail _ (.tail _ (.tail _ hp)))
  have nX : ∀ a ∈ [tb, pl], S5.get? a = none := fun a ha => bl5.offX a (by
    simp only [List.mem_cons, List.not_mem_nil, or_false] at ha ⊢
    rcases ha with h | h <;> simp [h])
  obtain ⟨bl6, up6⟩ := bl5.cmp (X := [tb, pl]) F6 hin6 nX
  have n6 : ∀ p ∈ darkOf (cmp g0 g0 h6 L0 [tb, pl]) g0, h6.get? p.1 = some p.2 ∧ p.1 ≠ L0 ∧ g0.get? p.1 = none := fun p hp => news_cmp F6 N6 p (List.mem_append_right _ hp)
  have st6 : StAt w (cmp g0 g0 h6 L0 [tb, pl]) st fs := ⟨⟨kvs, ⟨Heap.dictOf_iff.mpr ⟨ost6, cn_law N6 (.head _) (two_ne (fun q => Nat.lt_irrefl _ (q ▸ hlt5)) (fun q => Nat.lt_irrefl _ (q ▸ Nat.lt_trans hlt hlt5))), hd6⟩, lost⟩, hval6⟩⟩
  have sh6 : ShelfAt (cmp g0 g0 h6 L0 [tb, pl]) sh tb := ShelfAt.keeps (fun b o e => up6 b o (up5 b o (up3 b o e))) ⟨⟨dx, es, q, i, j1, j2, j3, j4⟩⟩
  have F6' := F6
  refine stage6 (ns := ns) X T B F6 (news2d (N6 _ (.tail _ (.head _))) (N6 _ (.tail _ (.tail _ (.head _)))) n6) bl6 sh6 lot (hTab.keeps up6) hv5 st6 hf5 (hFM.keeps up6) hE fun u7 h7 tk7 F7 N7 => ?_
  refine stage7 X T B F7 N7 bl6 ((Tk.mono k5).mono up6) sh6 lot (hTab.keeps up6) hv5 st6 hf5 (by decide) (by decide) hlt (hFM.keeps up6) (fun x7 otb7 vals7 S7 b0 u8 h8 tk8 F8 N8 bl8 sh8 tab8 fm8 hv8 st8 hp8 k8 => ?_) (fun h' tk' m' Fq kq => hQ h' tk' m' Fq fun b o e => kq b o (up6 b o (k5 b o e)))
  exact stage11 X T B F8 N8 bl8 sh8 lot tab8 fm8 hv8 st8 hp8 (fun h' tk' m' Fq kq => hQ h' tk' m' Fq fun b o e => kq b o (k8 b o (up6 b o (k5 b o e))))
theorem stageLit {w : World} {s : Shared} {g0 : Heap} {L0 fa : Addr} {cd : Value} {p : Program} {loose : List Str} {mean : ExcName → Option Value} {mg mb u : Str → Option Value} {E : Value → Shared → Prop} {Q : Flow → Shared → Prop}
    {f pl : Addr} {ns : List Int} {tk1 : Tok} {S1 : Heap} {bd : List Stmt} {sc : Scope} (hbd : lawBody.drop 1 = bd) (hsc : lawScope = sc)
    (X : (hd.heap_1 w.params).In g0) (T : Top p loose mean mg mb g0) (B : Below callerA g0 [] g0)
    (F : Fr g0 L0 s.heap (lay [(Str.ofString "take", Value.ref f)] u)) (N : News g0 L0 s.heap ((pl, W.listOf #[.int 0 tk1] 0) :: darkOf S1 g0)) (bl1 : Bld g0 g0 g0 L0 [pl] S1) (Tk : TakeAt S1 f pl ns)
    (hE : PassesOwn (model PySem.Challenge.rw_pb0479_01.row.prog w) (callerA.deeper (envOf (Str.ofString "law") sc L0 fa cd)) (envOf (Str.ofString "law") sc L0 fa cd) E)
    (hQ : ∀ h' tk' m', Fr g0 L0 h' m' → (∀ b o, S1.get? b = some o → h'.get? b = some o) → Q (.ret (.bool true)) { s with heap := h', toks := tk' }) :
    wpAny (model PySem.Challenge.rw_pb0479_01.row.prog w) (callerA.deeper (envOf (Str.ofString "law") sc L0 fa cd)) (execs bd (envOf (Str.ofString "law") sc L0 fa cd)) Q E s := by
  subst hbd hsc
  exact stageAll X T B F N bl1 Tk hE hQ
end
end
section
local macro_rules | `(tactic| tb_start) => `(tactic| first | with_reducible assumption | exact And.left (by with_reducible assumption) | exact And.left (And.right (by with_reducible assumption)) | exact And.right (by with_reducible assumption) | exact And.left (And.right (And.right (by with_reducible assumption))) | exact And.right (And.right (by with_reducible assumption)) | exact And.left (And.right (And.right (And.right (by with_reducible assumption)))) | exact And.right (And.right (And.right (by with_reducible assumption))) | exact And.left (And.right (And.right (And.right (And.right (by with_reducible assumption))))) | exact And.left (And.right (And.right (And.right (And.right (And.right (by with_reducible assumption)))))) | exact And.left (And.right (And.right (And.right (And.right (And.right (And.right (by with_reducible assumption))))))) | exact And.left (And.right (And.right (And.right (And.right (And.right (And.right (And.right (by with_reducible assumption)))))))) | fail "tb")
section
local macro_rules | `(tactic| k_ne) => `(tactic| (refine neN ?_; (try dsimp only); first | tb_start | exact Ne.symm (by tb_start) | exact Nat.ne_of_gt (by tb_start) | exact Nat.ne_of_lt (by tb_start) | exact Nat.ne_of_gt (Nat.lt_succ_of_lt (by tb_start)) | exact Nat.ne_of_gt (Nat.lt_succ_of_lt (Nat.lt_succ_of_lt (by tb_start))) | exact Nat.ne_of_gt (ltVia (by with_reducible assumption) (by tb_start)) | exact Nat.ne_of_lt (ltVia (by with_reducible assumption) (by tb_start)) | fail "ne"))
section -- H0
open PySem PySem.W PyProof.Rows PySem.Spec PySem.Calls PySem.SeqAt
theorem lines_H0_1 : True := by
  k_with_none
  k_with "Zexecs cons" => (k_here; (with_reducible refine halt_nul StageMark (by assumption) ?_))
  k_with "Zspliced" => (k_here; k_dflt (refine' args_simG (by rfl) (by rfl) (by k_asm) (by rfl) ?_; k_whole); (try dsimp only [List.cons_append, List.nil_append]))
  k_with "Zeval Call" => (k_here; (with_reducible show wpAny _ _ (eval (PySem.Expr.Call (PySem.Expr.Name _ _) (_ :: _) [] _) _) _ _ _); k_dflt (refine' call_simG (by rfl) (by k_asm) (by k_asm) (by k_asm) (by k_is) (by k_is) (by rfl) ?_ (by rfl) (by rfl); k_whole))
  trivial
/-- take is made -/
inductive LawTk (g0 : Heap) (L0 : Addr) (h1 : Heap) : Prop
  | mk (f pl : Addr) (ns : List Int) (tk1 : Tok) (u : Str → Option Value) (S1 : Heap) (ps : Array Value) (F : Fr g0 L0 h1 (lay [(Str.ofString "take", .ref f)] u)) (N : News g0 L0 h1 ((pl, W.listOf #[.int 0 tk1] 0) :: darkOf S1 g0)) (bl : Bld g0 g0 g0 L0 [pl] S1) (hps : S1.get? 425 = some (tabObj ps)) (Tk : TakeAt S1 f pl ns)
theorem law_try.tw710189893697058987 : True := trivial
theorem law_try.tw11141088894046975021 : True := trivial
theorem law_try.tw13084868341390255390 : True := trivial
theorem law_try.tw2532018819935852594 : True := trivial
theorem law_try.tw9306220863116689361 : True := trivial
theorem law_try.tw4850446846502400157 : True := trivial
theorem law_try.tw1950749935570817344 : True := trivial
theorem law_try.tw6091830957390213752 : True := trivial
theorem law_try.tw12612565482483724633 : True := trivial
theorem law_try.tw1227264972273140688 : True := trivial
theorem law_try.tw71488279707906349 : True := trivial
theorem law_try.tw13586726682262691231 : True := trivial
theorem law_try.tw359457258751740913 : True := trivial
theorem law_try.tw1800844955360873741 : True := trivial
theorem law_try.tw17968814595619109076 : True := trivial
theorem law_try.tw12732624842944595004 : True := trivial
theorem law_try.tw1262548304688622214 : True := trivial
theorem law_try.tw2255637153836317835 : True := trivial
theorem law_try.tw14492152235561710735 : True := trivial
theorem law_try.tw5833259187628833261 : True := trivial
theorem law_try.tw17944350489495343529 : True := trivial
theorem law_try.tw17542370923351477335 : True := trivial
theorem law_try.tw6092303685457885713 : True := trivial
theorem law_try.tw4000730500935045340 : True := trivial
theorem law_try.tw15034085404575804729 : True := trivial
theorem law_try.tw5803376265398183254 : True := trivial
theorem law_try.tw17561671675098419334 : True := trivial
theorem law_try.tw2262624913130676866 : True := trivial
theorem law_try.tw7389453848144921947 : True := trivial
theorem law_try.tw6645535045173224282 : True := trivial
theorem law_try.tw6350265401222753651 : True := trivial
theorem law_try.tw7554025736875396289 : True := trivial
theorem law_try.tw9006742178586825462 : True := trivial
theorem law_try.tw13004294495460959714 : True := trivial
theorem law_try.tw12403905002314849305 : True := trivial
theorem law_try.tw5906461540402698952 : True := trivial
theorem law_try.tw8544354766213118719 : True := trivial
theorem law_try.tw6209801744876180996 : True := trivial
theorem law_try.tw2705073364965977512 : True := trivial
theorem law_try.tw1141877713039735165 : True := trivial
theorem law_try.tw11567722412388426748 : True := trivial
theorem law_try.tw10615783343460822064 : True := trivial
theorem law_try.tw11037198737506441453 : True := trivial
theorem law_try.tw12417385148000322578 : True := trivial
theorem law_try.tw17551071247032061234 : True := trivial
theorem law_try.tw7147198523926530523 : True := trivial
theorem law_try.tw5394900669153458647 : True := trivial
theorem law_try.tw1419250166206798336 : True := trivial
theorem law_try.tw5720324927105834120 : True := trivial
theorem law_try.tw8073630039730464864 : True := trivial
theorem law_try.tw15330902388140986039 : True := trivial
theorem law_try.tw11288499709556767831 : True := trivial
theorem law_try.tw15385755208638674900 : True := trivial
theorem law_try.tw6265775659922957008 : True := trivial
theorem law_try.tw5772637552610446647 : True := trivial
theorem law_try.tw2840199881289785469 : True := trivial
theorem law_try.tw2132752957959296131 : True := trivial
theorem law_try.tw4762103705779736347 : True := trivial
theorem law_try.tw13026514723183961531 : True := trivial
theorem law_try.tw1778275726510449547 : True := trivial
theorem law_try.tw2444857686281633230 : True := trivial
theorem law_try.tw11969931015914665195 : True := trivial
theorem law_try.tw6074946428714015372 : True := trivial
theorem law_try.tw548970196848287710 : True := trivial
theorem law_try.tw16755321893209307109 : True := trivial
theorem law_try.tw17840802744502067329 : True := trivial
theorem law_try.tw8069819243415891231 : True := trivial
theorem law_try.tw18002335258793641861 : True := trivial
theorem law_try.tw4777568174959677041 : True := trivial
theorem law_try.tw16845444127295583666 : True := trivial
theorem law_try.tw18293610978824659953 : True := trivial
theorem law_try.tw748200194504485145 : True := trivial
theorem law_try.tw16276844167857056512 : True := trivial
theorem law_try.tw13454115426379467755 : True := trivial
theorem law_try.tw12563669651860211194 : True := trivial
theorem law_try.tw15969095871343644091 : True := trivial
theorem law_try.tw9726639048421662973 : True := trivial
theorem law_try.tw6363931984667247303 : True := trivial
theorem law_try.tw15657504226704396154 : True := trivial
theorem law_try.tw7908552022806685217 : True := trivial
theorem law_try.tw14655724645203015964 : True := trivial
theorem law_try.tw4347712283086833063 : True := trivial
theorem law_try.tw17991134108631862878 : True := trivial
theorem law_try.tw7082394150637657490 : True := trivial
theorem law_try.tw3461840061795674492 : True := trivial
theorem law_try.tw11592190674423753387 : True := trivial
theorem law_try.tw16314132363037738803 : True := trivial
theorem law_try.tw9012588651068387013 : True := trivial
theorem law_try.tw17896093064487255077 : True := trivial
theorem law_try.tw5231288067022803406 : True := trivial
theorem law_try.tw15412790383997487231 : True := trivial
theorem law_try.tw9281585839783099901 : True := trivial
theorem law_try.tw4866157760356441402 : True := trivial
theorem law_try.tw9651719801276549633 : True := trivial
theorem law_try.tw5116589790751177876 : True := trivial
theorem law_try.tw2700055198782196069 : True := trivial
theorem law_try.tw1110763115150893148 : True := trivial
theorem law_try.tw5910233938303260095 : True := trivial
theorem law_try.tw5299723250095883774 : True := trivial
theorem law_try.tw7437514047558282294 : True := trivial
theorem law_try.tw10623212498358505218 : True := trivial
theorem law_try.tw4222364173432093109 : True := trivial
theorem law_try.tw11766398316822146842 : True := trivial
theorem law_try.tw7322938094201341888 : True := trivial
theorem law_try.tw1399669959753810750 : True := trivial
theorem law_try.tw9094990332810555785 : True := trivial
theorem law_try.tw7834583458937546571 : True := trivial
theorem law_try.tw14107234981496835852 : True := trivial
theorem law_try.tw1002612227077669274 : True := trivial
theorem law_try.tw10449589875674740151 : True := trivial
theorem law_try.tw12548734866781823290 : True := trivial
theorem law_try.tw6709594491383458335 : True := trivial
theorem law_try.tw6522227788702017995 : True := trivial
theorem law_try.tw3658646286624989781 : True := trivial
theorem law_try.tw17094527189523876646 : True := trivial
theorem law_try.tw12847715464523499420 : True := trivial
theorem law_try.tw9162775782167727084 : True := trivial
theorem law_try.tw4524152839475542165 : True := trivial
theorem law_try.tw7328623621584298179 : True := trivial
theorem law_try.tw12936479313621102542 : True := trivial
theorem law_try.tw13451618835284714400 : True := trivial
theorem law_try.tw10676779290817207336 : True := trivial
theorem law_try.tw13366801051313020065 : True := trivial
theorem law_try.tw14899860974668807482 : True := trivial
theorem law_try.tw3783298767922269138 : True := trivial
theorem law_try.tw236378686099345639 : True := trivial
theorem law_try.tw13860987754424369421 : True := trivial
theorem law_try.tw4717353324927285678 : True := trivial
theorem law_try.tw13727509236584706188 : True := trivial
theorem law_try.tw13692544236447471008 : True := trivial
theorem law_try.tw9541541368608817160 : True := trivial
theorem law_try.tw6964143723591315251 : True := trivial
theorem law_try.tw3201460964073967640 : True := trivial
theorem law_try.tw3617315420782800113 : True := trivial
theorem law_try.tw7682114733888515550 : True := trivial
theorem law_try.tw13596764018723632376 : True := trivial
theorem law_try.tw6087890145947021202 : True := trivial
theorem law_try.tw657904532973733069 : True := trivial
theorem law_try.tw2983916338190733166 : True := trivial
theorem law_try.tw14774572590436081174 : True := trivial
theorem law_try.tw2075358803224663382 : True := trivial
theorem law_try.tw507352191969197338 : True := trivial
theorem law_try.tw8787871006753698161 : True := trivial
theorem law_try.tw16583361511214449586 : True := trivial
theorem law_try.tw15530142716400789594 : True := trivial
theorem law_try.tw16481790900945157629 : True := trivial
theorem law_try.tw16551861615780857380 : True := trivial
theorem law_try.tw7694531332130269892 : True := trivial
theorem law_try.tw3223615234239834184 : True := trivial
theorem law_try.tw6906258887672796511 : True := trivial
theorem law_try.tw3651384496995594833 : True := trivial
theorem law_try.tw9914462838240387825 : True := trivial
theorem law_try.tw2795182767077535679 : True := trivial
theorem law_try.tw4103025411064942973 : True := trivial
theorem law_try.tw11614290364446051891 : True := trivial
theorem law_try.tw4798853337774248786 : True := trivial
theorem law_try.tw11256399217375853599 : True := trivial
theorem law_try.tw2461303365729056272 : True := trivial
theorem law_try.tw7596778141831904561 : True := trivial
theorem law_try.tw17240354236854499504 : True := trivial
theorem law_try.tw13259854825996008583 : True := trivial
theorem law_try.tw2475455047294635443 : True := trivial
theorem law_try.tw15131598747203970307 : True := trivial
theorem law_try.tw4907836744617790386 : True := trivial
theorem law_try.tw8508291196734651852 : True := trivial
theorem law_try.tw11248142170111012056 : True := trivial
theorem law_try.tw15071002757758368871 : True := trivial
theorem law_try.tw11842609012645001509 : True := trivial
theorem law_try.tw7089088764652119861 : True := trivial
theorem law_try.tw10504665268272547056 : True := trivial
theorem law_try.tw9418834336880573731 : True := trivial
theorem law_try.tw15680552576709425538 : True := trivial
theorem law_try.tw2139178298456025258 : True := trivial
theorem law_try.tw15195185996410192018 : True := trivial
theorem law_try.tw7807765857815402239 : True := trivial
theorem law_try.tw8290917825855714292 : True := trivial
theorem law_try.tw7837500166748457088 : True := trivial
theorem law_try.tw1724930804293499040 : True := trivial
theorem law_try.tw17159526435607228089 : True := trivial
theorem law_try.tw16893036870315520420 : True := trivial
theorem law_try.tw1244229515621121767 : True := trivial
theorem law_try.tw7113061773280523406 : True := trivial
theorem law_try.tw14029689853376889947 : True := trivial
theorem law_try.tw9512626319338122646 : True := trivial
theorem law_try.tw3543185443973030404 : True := trivial
theorem law_try.tw2138777441946221560 : True := trivial
theorem law_try.tw6240455382672949118 : True := trivial
theorem law_try.tw4211786917219960242 : True := trivial
theorem law_try.tw10372020619864384622 : True := trivial
theorem law_try.tw4500541739537538553 : True := trivial
theorem law_try.tw17676459929551952461 : True := trivial
theorem law_try.tw4491081006287268328 : True := trivial
theorem law_try.tw6802809557592755241 : True := trivial
theorem law_try.tw16705686843197135930 : True := trivial
theorem law_try.tw4207116481689189846 : True := trivial
theorem law_try.tw10604359279800598382 : True := trivial
theorem law_try.tw13349184803819480935 : True := trivial
theorem law_try.tw4859100948984574062 : True := trivial
theorem law_try.tw11425679139735925577 : True := trivial
theorem law_try.tw13955931272365711395 : True := trivial
theorem law_try.tw8225350229334207637 : True := trivial
theorem law_try.tw12797883956705037206 : True := trivial
theorem law_try.tw10479389614275762636 : True := trivial
theorem law_try.tw11356819611808223014 : True := trivial
theorem law_try.tw15126258382774648230 : True := trivial
theorem law_try.tw1561983990900486697 : True := trivial
theorem law_try.tw4051699496971229271 : True := trivial
theorem law_try.tw2031508914933725762 : True := trivial
theorem law_try.tw4203086113144901780 : True := trivial
theorem law_try.tw10471649894682448347 : True := trivial
theorem law_try.tw6921640971416763871 : True := trivial
theorem law_try.tw3803819325811523474 : True := trivial
theorem law_try.tw4301714875137858101 : True := trivial
theorem law_try.tw1416553080450532341 : True := trivial
theorem law_try.tw12813742135697902547 : True := trivial
theorem law_try.tw7759365712706513028 : True := trivial
theorem law_try.tw15236746473689400192 : True := trivial
theorem law_try.tw8981968640936835692 : True := trivial
theorem law_try.tw14967407923348101634 : True := trivial
theorem law_try.tw17207612605564836443 : True := trivial
theorem law_try.tw9258806398558851059 : True := trivial
theorem law_try.tw16947056903232670393 : True := trivial
theorem law_try.tw6374158861958098128 : True := trivial
theorem law_try.tw4300939127727462343 : True := trivial
theorem law_try.tw11231287463295922510 : True := trivial
theorem law_try.tw9812807661988859620 : True := trivial
theorem law_try.tw8810821223321109644 : True := trivial
theorem law_try.tw6723683210556952549 : True := trivial
theorem law_try.tw13441169826759598669 : True := trivial
theorem law_try.tw11218469200955535270 : True := trivial
theorem law_try.tw3927610232915759402 : True := trivial
theorem law_try.tw13316847102240335506 : True := trivial
theorem law_try.tw2222022180976264377 : True := trivial
theorem law_try.tw13578092769001765258 : True := trivial
theorem law_try.tw201097399048829563 : True := trivial
theorem law_try.tw1717684936485165016 : True := trivial
theorem law_try.tw8121138890873148819 : True := trivial
theorem law_try.tw5309578852738329387 : True := trivial
theorem law_try.tw11884694102438529758 : True := trivial
theorem law_try.tw10367298507558246774 : True := trivial
theorem law_try.tw1187064911668637219 : True := trivial
theorem law_try.tw12938989600601564793 : True := trivial
theorem law_try.tw6621840338201566690 : True := trivial
theorem law_try.tw13009926029977678504 : True := trivial
theorem law_try.tw17232302776278761801 : True := trivial
theorem law_try.tw11029303090060999839 : True := trivial
theorem law_try.tw2592280007231697870 : True := trivial
theorem law_try.tw16919269864383730655 : True := trivial
theorem law_try.tw8742668359606298325 : True := trivial
theorem law_try.tw9273910593650320726 : True := trivial
theorem law_try.tw16015853161321473448 : True := trivial
theorem law_try.tw1398418177188235488 : True := trivial
theorem law_try.tw8423181579745362479 : True := trivial
theorem law_try.tw941619180485819187 : True := trivial
theorem law_try.tw9850148038104325756 : True := trivial
theorem law_try.tw2498544946713922327 : True := trivial
theorem law_try.tw3006169987629127520 : True := trivial
theorem law_try.tw4046675801177574225 : True := trivial
theorem law_try.tw1150506816110245197 : True := trivial
theorem law_try.tw10824957906745559888 : True := trivial
theorem law_try.tw8949901062995988438 : True := trivial
theorem law_try.tw4209909978091116560 : True := trivial
theorem law_try.tw1410063847003452527 : True := trivial
theorem law_try.tw16492252403343986738 : True := trivial
theorem law_try.tw12896319686462110597 : True := trivial
theorem law_try.tw12197457723428782539 : True := trivial
theorem law_try.tw18413696146240102893 : True := trivial
theorem law_try.tw6038817841247441833 : True := trivial
theorem law_try.tw18008214319072645788 : True := trivial
theorem law_try.tw14268023474668159211 : True := trivial
theorem law_try.tw3251790521738118139 : True := trivial
theorem law_try.tw10296574329699382675 : True := trivial
theorem law_try.tw17872349676426706665 : True := trivial
theorem law_try.tw7455834166801220153 : True := trivial
theorem law_try.tw9652271939283695341 : True := trivial
theorem law_try.tw9900811181698986376 : True := trivial
theorem law_try.tw11598001095837194607 : True := trivial
theorem law_try.tw17077474835151696955 : True := trivial
theorem law_try.tw18408444847944994223 : True := trivial
theorem law_try.tw17765030065523114130 : True := trivial
theorem law_try.tw14527295712146470485 : True := trivial
theorem law_try.tw4014145537265473836 : True := trivial
theorem law_try.tw4200180425514481710 : True := trivial
theorem law_try.tw14337681210331808037 : True := trivial
theorem law_try.tw10341315486575082149 : True := trivial
theorem law_try.tw14899986895664924575 : True := trivial
theorem law_try.tw14700596566122803974 : True := trivial
theorem law_try.tw18164713705152277218 : True := trivial
theorem law_try.tw16514556281729325041 : True := trivial
theorem law_try.tw860439889724617333 : True := trivial
theorem law_try.tw15884087580372972982 : True := trivial
theorem law_try.tw705058634740944801 : True := trivial
theorem law_try.tw14851425280110949299 : True := trivial
theorem law_try.tw15857461126893682959 : True := trivial
theorem law_try.tw6513932584888019598 : True := trivial
theorem law_try.tw432820421007205395 : True := trivial
theorem law_try.tw11617136565962207412 : True := trivial
theorem law_try.tw10088962661824601491 : True := trivial
theorem law_try.tw5690485960159058811 : True := trivial
theorem law_try.tw9120305013877993249 : True := trivial
theorem law_try.tw9858119064593222152 : True := trivial
theorem law_try.tw14475626175312763627 : True := trivial
theorem law_try.tw11183251402092342115 : True := trivial
theorem law_try.tw12257002997718467398 : True := trivial
theorem law_try.tw8944513125224006159 : True := trivial
theorem law_try.tw3776822321364985429 : True := trivial
theorem law_try.tw3726974551442643279 : True := trivial
theorem law_try.tw12014832746788648276 : True := trivial
theorem law_try.tw6620757441426939248 : True := trivial
theorem law_try.tw2991267447212767611 : True := trivial
theorem law_try.tw1314032790907888021 : True := trivial
theorem law_try.tw9054302300549779344 : True := trivial
theorem law_try.tw8991008198570700314 : True := trivial
theorem law_try.tw9261990072961419187 : True := trivial
theorem law_try.tw9155977908677192769 : True := trivial
theorem law_try.tw12149830630015496758 : True := trivial
theorem law_try.tw12311302862269875076 : True := trivial
theorem law_try.tw11668526853132293084 : True := trivial
theorem law_try.tw2337172459508448041 : True := trivial
theorem law_try.tw10277306925415492153 : True := trivial
theorem law_try.tw8456915739038182284 : True := trivial
theorem law_try.tw9052836867963766428 : True := trivial
theorem law_try.tw12358665643187215775 : True := trivial
theorem law_try.tw10267450694336352474 : True := trivial
theorem law_try.tw13906896096055529469 : True := trivial
theorem law_try.tw7125728251281244382 : True := trivial
theorem law_try.tw9939035463241935323 : True := trivial
theorem law_try.tw2619429271964977593 : True := trivial
theorem law_try.tw7473249526217623704 : True := trivial
theorem law_try.tw1161419369086534939 : True := trivial
theorem law_try.tw5882399566453175152 : True := trivial
theorem law_try.tw17153955579013225846 : True := trivial
theorem law_try.tw10245421094935058631 : True := trivial
theorem law_try.tw16558742795371197783 : True := trivial
theorem law_try.tw10353971930608864094 : True := trivial
theorem law_try.tw15350608810126222688 : True := trivial
theorem law_try.tw5001017500550706760 : True := trivial
theorem law_try.tw5279228575128376548 : True := trivial
theorem law_try.tw11675777751697812366 : True := trivial
theorem law_try.tw11460221648842619922 : True := trivial
theorem law_try.tw247607338669249813 : True := trivial
theorem law_try.tw14204790017796125946 : True := trivial
theorem law_try.tw12783578762759231572 : True := trivial
theorem law_try.tw9518088462803737455 : True := trivial
theorem law_try.tw17455495429327913211 : True := trivial
theorem law_try.tw15775802610172656921 : True := trivial
theorem law_try.tw1501692567057062298 : True := trivial
theorem law_try.tw14343785656596628015 : True := trivial
theorem law_try.tw15171042641828753805 : True := trivial
theorem law_try.tw7366476781995076583 : True := trivial
theorem law_try.tw4738228008550477252 : True := trivial
theorem law_try.tw2564581061182533154 : True := trivial
theorem law_try.tw9481486751896380455 : True := trivial
theorem law_try.tw13244513673332701363 : True := trivial
theorem law_try.tw17189403678859044831 : True := trivial
theorem law_try.tw7855809508729708831 : True := trivial
theorem law_try.tw283372802903590436 : True := trivial
theorem law_try.tw17198343199258411043 : True := trivial
theorem law_try.tw18429371368343311046 : True := trivial
theorem law_try.tw1014022461078677530 : True := trivial
theorem law_try.tw5319483437081139402 : True := trivial
theorem law_try.tw16390865121167341332 : True := trivial
theorem law_try.tw18160199262369663645 : True := trivial
theorem law_try.tw5841561540070076048 : True := trivial
theorem law_try.tw16891736731786709771 : True := trivial
theorem law_try.tw16605408988532041622 : True := trivial
theorem law_try.tw7439789731859675130 : True := trivial
theorem law_try.tw15416044960973236489 : True := trivial
theorem law_try.tw10448870640769956556 : True := trivial
theorem law_try.tw7227109742573494822 : True := trivial
theorem law_try.tw2643591465385988359 : True := trivial
theorem law_try.tw15948402739285295617 : True := trivial
theorem law_try.tw4972419526374156930 : True := trivial
theorem law_try.tw10160793995879365447 : True := trivial
theorem law_try.tw11243316400508436962 : True := trivial
theorem law_try.tw11307684446739740332 : True := trivial
theorem law_try.tw8052278078557172249 : True := trivial
theorem law_try.tw13391822926157917335 : True := trivial
theorem law_try.tw11262130218102190251 : True := trivial
theorem law_try.tw16479934925937020810 : True := trivial
theorem law_try.tw14154891534875865088 : True := trivial
theorem law_try.tw13441977526331744414 : True := trivial
theorem law_try.tw14811757913011332855 : True := trivial
theorem law_try.tw9113719080466120723 : True := trivial
theorem law_try.tw2992951233120788161 : True := trivial
theorem law_try.tw11055125637668168649 : True := trivial
theorem law_try.tw8853658715285860454 : True := trivial
theorem law_try.tw10870239057542136854 : True := trivial
theorem law_try.tw14272761792070570447 : True := trivial
theorem law_try.tw10453129588148424883 : True := trivial
theorem law_try.tw8726746711713344735 : True := trivial
theorem law_try.tw7190853599058818304 : True := trivial
theorem law_try.tw10351461966206462249 : True := trivial
theorem law_try.tw7747097220470513324 : True := trivial
theorem law_try.tw4357188906689833058 : True := trivial
theorem law_try.tw10547046449740088307 : True := trivial
theorem law_try.tw11895034638071364827 : True := trivial
theorem law_try.tw14124927336938490325 : True := trivial
theorem law_try.tw5536042124208183016 : True := trivial
theorem law_try.tw8222213633526213564 : True := trivial
theorem law_try.tw8418085653354912081 : True := trivial
theorem law_try.tw16771440293799094196 : True := trivial
theorem law_try.tw16193893354097226327 : True := trivial
theorem law_try.tw12528871235101126811 : True := trivial
theorem law_try.tw7534485690212714880 : True := trivial
theorem law_try.tw11918679927091777435 : True := trivial
theorem law_try.tw11541092851531817572 : True := trivial
theorem law_try.tw5584271408318453322 : True := trivial
theorem law_try.tw14033996050670240537 : True := trivial
theorem law_try.tw14887595008905140788 : True := trivial
theorem law_try.tw16438622111376673057 : True := trivial
theorem law_try.tw14764551938352093345 : True := trivial
theorem law_try.tw13296992900556055367 : True := trivial
theorem law_try.tw8849315756826048801 : True := trivial
theorem law_try.tw8780228197406059291 : True := trivial
theorem law_try.tw2522399983377384504 : True := trivial
theorem law_try.tw15502592794043273941 : True := trivial
theorem law_try.tw1707351852769814107 : True := trivial
theorem law_try.tw866885447319296094 : True := trivial
theorem law_try.tw1410396977563402692 : True := trivial
theorem law_try.tw13237623692692806849 : True := trivial
theorem law_try.tw3892197274839451846 : True := trivial
theorem law_try.tw15993225863296046040 : True := trivial
theorem law_try.tw17230163419254597473 : True := trivial
theorem law_try.tw17117970024427344497 : True := trivial
theorem law_try.tw12688234627357661166 : True := trivial
theorem law_try.tw8982839844736848269 : True := trivial
theorem law_try.tw15991440173045884758 : True := trivial
theorem law_try.tw17328786099508295370 : True := trivial
theorem law_try.tw7614595385678779219 : True := trivial
theorem law_try.tw6702612602741031199 : True := trivial
theorem law_try.tw14188404370297760239 : True := trivial
theorem law_try.tw3440819854303082462 : True := trivial
theorem law_try.tw9768433523357498642 : True := trivial
theorem law_try.tw4126451719596537301 : True := trivial
theorem law_try.tw9576700914153977535 : True := trivial
theorem law_try.tw15365399591340392968 : True := trivial
theorem law_try.tw12823113492219311108 : True := trivial
theorem law_try.tw13607738073533197289 : True := trivial
theorem law_try.tw2268744221369937461 : True := trivial
theorem law_try.tw14292501866984087727 : True := trivial
theorem law_try.tw17119578258433139575 : True := trivial
theorem law_try.tw4891585641749867127 : True := trivial
theorem law_try.tw7564380652567175800 : True := trivial
theorem law_try.tw12800667917102116809 : True := trivial
set_option Elab.async true in
theorem law_try : PySem.Challenge.rw_pb0479_01.Holds := by
  w_on
  o_law
  k_head
  (case hw => w_witness2)
  have hm : LMark := ⟨⟩
  have sm : StageMark := ⟨⟩
  k_go0
  all_goals try k_fold
  rename_i w9 s00 s1 mg9 mb9 _ _ _ _ _ _ _ _ _ _ _ _ _ _ _ _ _ scr _ _ _ _ _ _ _ lsA lsV _ _ _ _ _ hIs _ hlen _ _ h19 X0 T0 K0 F0 N0 l0
  clear hm
  refine' merge (s := s1) (LawTk (ghostOf s1.heap [(429, 425)]) s1.heap.objs.size) ?mn9 ?tl9
  case mn9 =>
    intro tail
    k_steps
    all_goals (
      refine unhalt ?_
      (with_reducible rename Fr _ _ _ _ => Fz)
      (with_reducible rename News _ _ _ _ => Nz)
      have bg := Bld.ground (X := []) Fz (fun a ha => nomatch ha)
      exact tail _ _ ⟨_, _, _, _, _, cmp _ _ _ _ [_], _, fr_layI Fz (by exact .cons rfl .nil),
        news1 (Nz (_, W.listOf #[.int 0 _] 0) (by k_mem)) (fun p hp => news_cmp Fz Nz p (List.mem_append_right _ hp)), (bg.cmp Fz Fz.keep (one_none (Nz (_, W.listOf #[.int 0 _] 0) (by k_mem)).2.2)).1,
        cn_law Nz (o := tabObj _) (by k_mem) (one_ne (by k_ne)),
        takeAt_of (cn_law Nz (.head _) (one_ne (by k_ne))) (by rfl) (by rfl) (by rfl) (cn_law Nz (by k_mem) (one_ne (by k_ne))) (by assumption) (by assumption) (cn_law Nz (by k_mem) (one_ne (by k_ne))) (by assumption) (cn_law Nz (by k_mem) (one_ne (by k_ne))) (by assumption) (cn_law Nz (by k_mem) (one_ne (by k_ne))) (by k_ne) (by first | assumption | exact ints_one) (by first | (simpa using ‹decide (List.take 63 _ = []) = false›) | simp) (by first | (rw [List.length_take]; omega) | decide)⟩)
  case tl9 =>
    rintro h1 tkk ⟨f, pl, ns, tk1, u, S1, ps, F1, N1, bl1, hps, Tk⟩
    clear F0 N0 sm
    refine stageLit (by rfl) (by rfl) X0 T0 K0 F1 N1 bl1 Tk ?hE ?hQ
    case hE => passes_own
    case hQ =>
      intro h' tk' m' F' kq
      refine ⟨?_, ⟨⟨ps, kq _ _ hps⟩, trivial⟩⟩
      (try dsimp only)
      wrow_close
end
end
end
end
end
end
end
end
end
end
end
end
end
end Mine
theorem PySem.Challenge.cw_pb0479_01_holds : PySem.Challenge.rw_pb0479_01.Holds :=
  Mine.law_try
