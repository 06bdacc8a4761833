import PyProof.Rows.All
import Wide.All
import OpenK.AllK
import Wide.FinOn
import PySem.Challenge.RW_sq0025_01
open PySem PySem.W PyProof.Rows
set_option Elab.async false
set_option maxRecDepth 100000
set_option maxHeartbeats 8000000
set_option compiler.extract_closed false
namespace Sq
open_top hd for PySem.Challenge.rw_sq0025_01
#check @Sq.hd
theorem fill0 : (fun (_ : OpenLaw) (_ : Params → Frag) => True) PySem.Challenge.rw_sq0025_01 hd.heap_39 := by k_fill; w_top off; trivial
theorem fresh_SqBase : True := by w_top off; trivial
open PySem PySem.W PyProof.Rows PySem.Calls
noncomputable abbrev prg : Program := PySem.Challenge.rw_sq0025_01.row.prog
noncomputable abbrev loose0 : List Str := [Str.ofString "PageError", Str.ofString "ESCAPE", Str.ofString "BEGIN", Str.ofString "END", Str.ofString "MATH",
      Str.ofString "TAB", Str.ofString "RETURN", Str.ofString "PARAMETER", Str.ofString "UP", Str.ofString "MOST_NAMES",
      Str.ofString "GREATEST_CODES", Str.ofString "TokenFeed", Str.ofString "_law_none"]
noncomputable abbrev looseS : List Str := looseW hd.view_39 loose0 ++ List.map (fun x => x.name) (recsOf hd.view_39) ++ List.map (fun x => x.fst) (litsOf hd.view_39) ++ List.map (fun x => x.name) (clssOf hd.view_39 (looseW hd.view_39 loose0))
noncomputable abbrev Arr (dp un : Nat) (gd : Option (List Code)) (outer : List Env) : Around := { handled := none, depth := dp, frames := some outer, guards := gd, units := un }
structure At (w : World) (mean : ExcName → Option Value) (mg mb : Str → Option Value) (dp un : Nat) (gd : Option (List Code)) (base : Heap) (outer : List Env) (h : Heap) : Prop where
  below : Below (Arr dp un gd outer) base outer h
  K : (hd.heap_39 w.params).In h
  T : Top topProg looseS mean mg mb h
section
variable {w : World} {mean : ExcName → Option Value} {mg mb : Str → Option Value} {dp un : Nat} {gd : Option (List Code)} {base : Heap} {outer : List Env} {s : Shared} {R : Result → Shared → Prop}
theorem enter {X : List (Addr × Obj)} {name qual : Str} {params : Arguments} {body : List Stmt} {scope : Scope} {dV kV doc pm cdv ct oc : Value} {an od : Option Addr} {osl : Array (Option Value)} {f : Addr} {args : Args} {binds : List (Str × Value)}
    (H : At w mean mg mb dp un gd base outer (hideAll s.heap (X.map (·.1)))) (hX : ∀ p ∈ X, s.heap.get? p.1 = some p.2)
    (ho : (hd.heap_39 w.params).lookup f = some ⟨oc, od, .func (fnOf name qual params body scope dV kV doc pm an cdv ct), osl⟩) (hcd : codeIn (hd.heap_39 w.params) cdv qual = true) (hroom : dp < recursionLimit)
    (hbind : BindsTo s (fnOf name qual params body scope dV kV doc pm an cdv ct) args binds) (hloc : ∀ y ∈ binds, scope.names.lookup y.1 = some .local)
    (h : ∀ g L' h₁, g = hideAll s.heap (X.map (·.1)) → L' = s.heap.objs.size → Fr g L' h₁ (fun y => binds.reverse.lookup y) → News g L' h₁ X → Below (Arr dp un gd outer) base outer g → (hd.heap_39 w.params).In g → Top topProg looseS mean mg mb g →
      wpAny (model prg w) ((Arr dp un gd outer).deeper (envOf qual scope L' f cdv)) (execs body (envOf qual scope L' f cdv))
        (fun fl s' => R (.ok (.ret (match fl with | .ret v => v | _ => .none))) s')
        (fun e s' => wpAny (model prg w) ((Arr dp un gd outer).deeper (envOf qual scope L' f cdv)) (leaving (envOf qual scope L' f cdv) e) (fun _ s'' => R (.error e) s'') (fun e' s'' => R (.error e') s'') s')
        { s with heap := h₁, toks := s.toks + binds.length })
    (hco : scope.isCoroutine = false) (hgen : scope.isGenerator = false) (hk : scope.kind = .function)
    (hcell : ∀ x ∈ scope.names, x.2 ≠ .cell) : codeAny (model prg w) (Arr dp un gd outer) (.call (.ref f) args) R s := by
  have st : (hideAll s.heap (X.map (·.1))).StaysIn s.heap := fun b o e => of_hideAll _ e
  refine codeAny_call_def (fd := fnOf name qual params body scope dV kV doc pm an cdv ct) (body := body) (binds := binds) hroom (st _ _ (H.K _ _ ho)) rfl (H.T.nolimit.keeps st) (codeRec_of (H.K.keeps st) hcd) rfl hbind hcell hloc (fun h₁ hns hk₁ => ?_) hco hgen hk
  exact h _ s.heap.objs.size h₁ rfl rfl ⟨hns, fun b o e => hk₁ b o (of_hideAll _ e), Nat.le_of_eq (hideAll_size _ _)⟩
    (fun p hp => ⟨hk₁ _ _ (hX p hp), Nat.ne_of_lt (Heap.lt_size (hX p hp)), hideAll_none _ (List.mem_map_of_mem hp)⟩) H.below H.K H.T
theorem enter0 {name qual : Str} {params : Arguments} {body : List Stmt} {scope : Scope} {dV kV doc pm cdv ct oc : Value} {an od : Option Addr} {osl : Array (Option Value)} {f : Addr} {args : Args} {binds : List (Str × Value)}
    (H : At w mean mg mb dp un gd base outer s.heap)
    (ho : (hd.heap_39 w.params).lookup f = some ⟨oc, od, .func (fnOf name qual params body scope dV kV doc pm an cdv ct), osl⟩) (hcd : codeIn (hd.heap_39 w.params) cdv qual = true) (hroom : dp < recursionLimit)
    (hbind : BindsTo s (fnOf name qual params body scope dV kV doc pm an cdv ct) args binds) (hloc : ∀ y ∈ binds, scope.names.lookup y.1 = some .local)
    (h : ∀ g L' h₁, g = s.heap → L' = s.heap.objs.size → Fr g L' h₁ (fun y => binds.reverse.lookup y) → News g L' h₁ [] → Below (Arr dp un gd outer) base outer g → (hd.heap_39 w.params).In g → Top topProg looseS mean mg mb g →
      wpAny (model prg w) ((Arr dp un gd outer).deeper (envOf qual scope L' f cdv)) (execs body (envOf qual scope L' f cdv))
        (fun fl s' => R (.ok (.ret (match fl with | .ret v => v | _ => .none))) s')
        (fun e s' => wpAny (model prg w) ((Arr dp un gd outer).deeper (envOf qual scope L' f cdv)) (leaving (envOf qual scope L' f cdv) e) (fun _ s'' => R (.error e) s'') (fun e' s'' => R (.error e') s'') s')
        { s with heap := h₁, toks := s.toks + binds.length })
    (hco : scope.isCoroutine = false) (hgen : scope.isGenerator = false) (hk : scope.kind = .function)
    (hcell : ∀ x ∈ scope.names, x.2 ≠ .cell) : codeAny (model prg w) (Arr dp un gd outer) (.call (.ref f) args) R s :=
  enter (X := []) H (fun _ hp => nomatch hp) ho hcd hroom hbind hloc h hco hgen hk hcell
end
section
variable {w : World} {mean : ExcName → Option Value} {mg mb : Str → Option Value} {dp un : Nat} {gd : Option (List Code)} {base g : Heap} {outer : List Env} {s : Shared} {L : Addr} {m : Str → Option Value} {env : Env} {news : List (Addr × Obj)}
theorem below_in (hf : env.frame = some L) (hk : env.scope.kind = .function) (K : Below (Arr dp un gd outer) base outer g) {h : Heap} (F : Fr g L h m) : Below (Arr (dp + 1) (un + 3) gd (env :: outer)) base (env :: outer) h := by
  have hnew : base.get? L = none := by
    cases hq : base.get? L with
    | none => rfl
    | some o => exact absurd (Nat.lt_of_lt_of_le (Heap.lt_size (K.stays L o hq)) F.above) (Nat.lt_irrefl _)
  refine ⟨rfl, fun b o e => F.keep b o (K.stays b o e), ?_⟩
  exact .cons (by rw [hk]; decide) hf F.ns hnew (K.frames.of_keeps fun b o e _ => ⟨o, F.keep b o e, rfl⟩)
theorem at_in (hf : env.frame = some L) (hk : env.scope.kind = .function) (B : Below (Arr dp un gd outer) base outer g) (F : Fr g L s.heap m) (X : (hd.heap_39 w.params).In g) (T : Top topProg looseS mean mg mb g) :
    At w mean mg mb (dp + 1) (un + 3) gd base (env :: outer) s.heap := ⟨below_in hf hk B F, X.keeps F.keep, T.keeps F.keep⟩
theorem at_hide (hf : env.frame = some L) (hk : env.scope.kind = .function) (B : Below (Arr dp un gd outer) base outer g) (F : Fr g L s.heap m) (N : News g L s.heap news) (X : (hd.heap_39 w.params).In g) (T : Top topProg looseS mean mg mb g) (Y : List Addr) (hY : ∀ a ∈ Y, ∃ o, (a, o) ∈ news) :
    At w mean mg mb (dp + 1) (un + 3) gd base (env :: outer) (hideAll s.heap Y) := by
  have nm : ∀ b o, g.get? b = some o → b ∉ Y := fun b o e q => by
    obtain ⟨o', hp⟩ := hY _ q
    rw [(N _ hp).2.2] at e; cases e
  have st : g.StaysIn (hideAll s.heap Y) := fun b o e => hideAll_get _ (F.keep b o e) (nm b o e)
  obtain ⟨oL, es, ep, hL, hLd, hLk, hLf⟩ := F.ns
  have nL : L ∉ Y := fun q => by
    obtain ⟨o', hp⟩ := hY _ q
    exact (N _ hp).2.1 rfl
  have F' : Fr g L (hideAll s.heap Y) m := ⟨⟨oL, es, ep, hideAll_get _ hL nL, hLd, hLk, hLf⟩, st, F.above⟩
  exact ⟨below_in hf hk B F', X.keeps st, T.keeps st⟩
theorem kitAt_tup {h₀ h : Heap} {L a : Addr} {m : Str → Option Value} {its : Array Value} (F : Fr h₀ L h m) (t : IsTup h₀ a its) : KitAt a "tuple" h := by
  obtain ⟨o, h1, h2, _⟩ := t
  exact ⟨o, F.keep _ _ h1, h2⟩
theorem len_tup2 {prog : Program} {A : Around} {E : Value → Shared → Prop} {Q : Value → Shared → Prop} {h₀ : Heap} {a : Addr} {v1 v2 : Value} (F : Fr h₀ L s.heap m) (t : IsTup h₀ a #[v1, v2])
    (h : ∀ tk, Q (.int 2 (s.toks + 1)) { s with toks := tk }) : wpAny (model prog w) A (call (.builtin "len") [.ref a]) Q E s :=
  PyProof.Rows.len_tuple (IsTup.keeps t F.keep) (by show ((2 : Nat) : Int) < 2 ^ 63; decide) (h _)
end
theorem ret_of {s : Shared} {R : Result → Shared → Prop} {v v' : Value} {L : Addr} {m : Str → Option Value} {h' : Heap} {gs : Array GenState} {dr : Drawn} {tk : Nat} {os : OsState} (hR : ∀ h' tk, (∀ b o, s.heap.get? b = some o → h'.get? b = some o) → R (.ok (.ret v)) { s with heap := h', toks := tk })
    (F : Fr s.heap L h' m) (hg : gs = s.gens) (hd : dr = s.drawn) (ho : os = s.os) (e : v' = v) : R (.ok (.ret v')) ⟨h', gs, dr, tk, os⟩ := by
  subst hg hd ho e; exact hR h' tk F.keep
theorem fresh_SqA : True := by w_top off; trivial
theorem stepI {P : Int → Prop} {c : Int} (k : Int) (h : k ≤ c) (a : P k) (r : k + 1 ≤ c → P c) : P c := by
  by_cases e : k = c
  · exact e ▸ a
  · exact r (by omega)
theorem and_r {a b P : Prop} (h : b → P) : a ∧ b → P := fun x => h x.2
theorem lt_via {x a b : Nat} {r : Prop} (h : x < b ∧ r) (k : (x < b ∧ r) → a < b) : a < b := k h
theorem room {a b c b' : Nat} (h : a + b < c) (e : b' ≤ b) : a + b' < c := Nat.lt_of_le_of_lt (Nat.add_le_add_left e a) h
theorem room2 {a b c x y : Nat} (h : a + b < c) (e : x + y ≤ b) : a + x + y < c := by rw [Nat.add_assoc]; exact room h e
theorem ne_via {x a b : Nat} {r : Prop} (h : x ≠ b ∧ r) (k : (x ≠ b ∧ r) → a ≠ b) : a ≠ b := k h
theorem atF (n : Nat) {M : Model} {A : Around} {E : Value → Shared → Prop} {s : Shared} {as : List Value} {Q : Value → Shared → Prop} (h : wpAny M A (call (.ref n) as) Q E s) : wpAny M A (call (.ref n) as) Q E s := h
theorem at0 {n : Nat} {M : Model} {A : Around} {E : Value → Shared → Prop} {s : Shared} {Q : Value → Shared → Prop} (h : wpAny M A (call (.ref n) []) Q E s) : wpAny M A (call (.ref n) []) Q E s := h
theorem atS (n : Nat) {M : Model} {A : Around} {E : Value → Shared → Prop} {s : Shared} {v sl : PySem.Expr} {u : Value} {Q : Value → Shared → Prop} (h : wpAny M A (subscriptTail v sl (.ref n) u) Q E s) : wpAny M A (subscriptTail v sl (.ref n) u) Q E s := h
theorem ne_nil {d : Addr} : ∀ q ∈ ([] : List (Addr × Obj)), q.1 ≠ d := fun _ h => nomatch h
theorem ne_cons {d a : Addr} {o : Obj} {l : List (Addr × Obj)} (h : @Ne Nat a d) (r : ∀ q ∈ l, q.1 ≠ d) : ∀ q ∈ (a, o) :: l, q.1 ≠ d := List.forall_mem_cons.mpr ⟨h, r⟩
theorem updT {d a : Addr} {o o' q : Obj} {r r' : List (Addr × Obj)} (h : @Ne Nat a d) (k : Upd d o o' r r') : Upd d o o' ((a, q) :: r) ((a, q) :: r') := .tail h k
def AllL (d : Nat) : List (Addr × Obj) → Prop
  | [] => True
  | [p] => @LT.lt Nat _ p.1 d
  | p :: q :: r => @LT.lt Nat _ p.1 d ∧ AllL d (q :: r)
theorem allL_of {d : Addr} : ∀ {l : List (Addr × Obj)}, (∀ p ∈ l, p.1 < d) → AllL d l
  | [], _ => trivial
  | [_], h => h _ (.head _)
  | _ :: _ :: _, h => ⟨h _ (.head _), allL_of fun _ hq => h _ (.tail _ hq)⟩
theorem mem1 {α : Type} {p a : α} {l : List α} : p ∈ a :: p :: l := .tail _ (.head _)
theorem mem2 {α : Type} {p a b : α} {l : List α} : p ∈ a :: b :: p :: l := .tail _ mem1
theorem mem3 {α : Type} {p a b c : α} {l : List α} : p ∈ a :: b :: c :: p :: l := .tail _ mem2
theorem mem4 {α : Type} {p a b c d : α} {l : List α} (h : p ∈ l) : p ∈ a :: b :: c :: d :: l := .tail _ (.tail _ (.tail _ (.tail _ h)))
local macro_rules | `(tactic| k_mem) => `(tactic| first | exact List.Mem.head _ | exact mem1 | exact mem2 | exact mem3 | (refine mem4 ?_; k_mem))
theorem and1 {a b r : Prop} (x : a ∧ b ∧ r) : b := x.2.1
theorem and2 {a b c r : Prop} (x : a ∧ b ∧ c ∧ r) : c := x.2.2.1
theorem and3 {a b c d r : Prop} (x : a ∧ b ∧ c ∧ d ∧ r) : d := x.2.2.2.1
theorem and4 {a b c d r P : Prop} (h : r → P) (x : a ∧ b ∧ c ∧ d ∧ r) : P := h x.2.2.2.2
local macro_rules | `(tactic| k_places) => `(tactic| first | exact And.left | exact and1 | exact and2 | exact and3 | exact id | (refine and4 ?_; k_places) | (refine and_r ?_; k_places))
local macro_rules | `(tactic| k_same) => `(tactic| first | (with_reducible assumption) | (refine lt_via (by with_reducible assumption) ?_; k_places))
local macro_rules | `(tactic| k_sizes) => `(tactic| first | (with_reducible assumption) | exact room (by with_reducible assumption) (by decide) | exact room2 (by with_reducible assumption) (by decide) | decide | (with_reducible show @LT.lt Nat _ _ _; k_same) | exact Nat.le_of_ble_eq_true rfl | exact Nat.le_trans (by with_reducible assumption) (by decide) | exact Nat.lt_of_le_of_lt (by with_reducible assumption) (by decide) | omega | (simp only [List.length_append, List.length_cons, List.length_nil, List.length_map, List.length_reverse, List.size_toArray]; omega))
local macro_rules | `(tactic| k_ne) => `(tactic| first | (with_reducible assumption) | (refine Ne.symm ?_; with_reducible assumption) | (refine Nat.ne_of_gt ?_; k_same) | (refine Nat.ne_of_lt ?_; k_same) | (refine ne_via (by with_reducible assumption) ?_; k_places) | (refine Ne.symm (ne_via (by with_reducible assumption) ?_); k_places) | (refine neN ?_; dsimp only; k_ne) | (refine neN ?_; omega))
local macro_rules | `(tactic| k_all) => `(tactic| first | exact ne_nil | (refine' ne_cons ?a ?b; (case a => k_ne); (case b => k_all)))
local macro_rules | `(tactic| k_upd) => `(tactic| first | (refine' Upd.head ?a; (case a => k_all)) | (refine' updT ?a ?b; (case a => k_ne); (case b => k_upd)))
local macro_rules | `(tactic| k_lt $h) => `(tactic| (replace $h := allL_of $h; dsimp only [AllL] at $h:ident))
local macro_rules | `(tactic| k_invgoal) => `(tactic| (intros; (try (rename News _ _ _ _ => N'; dsimp only at N')); (try dsimp only); (try k_sweep)))
local macro_rules | `(tactic| k_keys) => `(tactic| (intros; (rename_i l1); (try dsimp only); (try k_lt l1); (try k_sweep)))
local macro_rules | `(tactic| kct_fill) => `(tactic| k_dflt (first | (with_reducible assumption) | ((with_reducible show @LT.lt _ _ _ _); k_sizes) | ((with_reducible show @LE.le _ _ _ _); k_sizes) | ((with_reducible show @Eq _ _ _); first | k_is | k_get | rfl | decide | with_unfolding_all rfl) | ((with_reducible show @Membership.mem _ _ _ _ _); k_mem) | k_upd | (intro _; k_upd) | assumption | k_in | kmk_part | decide | (intro _; kct_fill) | exact Or.inl ⟨_, by assumption⟩ | exact Or.inr ⟨_, by k_mem⟩))
local macro_rules | `(‹_›) => `(by kct_fill)
local macro_rules | `(tactic| k_search $T) => `(tactic| (k_here; (with_reducible refine' $T); k_whole))
theorem propG {p : Prop} (h : p) : p := h
local macro_rules | `(tactic| kspl_eval $X) => `(tactic| (k_here; ((with_reducible apply $X) <;> (first | (case' h => skip) | kct_fill | (fail_if_success (refine propG ?_)))); k_whole))
local macro_rules | `(tactic| lcg_open $X) => `(tactic| (kspl_eval $X; kctr_lits))
local macro_rules | `(tactic| cb_end $X) => `(tactic| (kspl_eval $X; k_invgoal))
local macro_rules | `(tactic| ktf_call $T) => `(tactic| first | (with_reducible refine atF $T ?_) | (with_reducible refine atS $T ?_))
local macro_rules | `(tactic| kctr_lits) => `(tactic| (intros; (try dsimp only)))
section walks
theorem fresh_SqT2 : True := by w_top off; trivial
local macro_rules | `(tactic| k_units) => `(tactic| ktr_units)
local macro_rules | `(tactic| k_room) => `(tactic| ktr_room)
section
variable {w : World} {mean : ExcName → Option Value} {mg mb : Str → Option Value} {dp un : Nat} {gd : Option (List Code)} {base g : Heap} {outer : List Env} {s : Shared} {R : Result → Shared → Prop} {L : Addr} {m : Str → Option Value} {env : Env} {news : List (Addr × Obj)} {Q E : Value → Shared → Prop}
theorem is_whole_int {x lo hi : Int} {t1 t2 t3 : Tok} (H : At w mean mg mb dp un gd base outer s.heap) (hd : dp + 1 < recursionLimit) (hu : un + 8 < cLine)
   (hR : ∀ h' tk, (∀ b o, s.heap.get? b = some o → h'.get? b = some o) → R (.ok (.ret (.bool (decide (lo ≤ x) && decide (x ≤ hi))))) { s with heap := h', toks := tk }) :
   codeAny (model prg w) (Arr dp un gd outer) (.call (.ref 54) ⟨[.int x t1, .int lo t2, .int hi t3], []⟩) R s := by
  obtain ⟨hB, hK, hT⟩ := id H
  k_dflt (refine' enter0 (binds := [(Str.ofString "value", .int x t1), (Str.ofString "low", .int lo t2), (Str.ofString "high", .int hi t3)]) ?k1 ?k6 ?k7 ?k8 ?k9 ?kB ?_ ?c2 ?c3 ?c4 ?c5; (case k1 => assumption); (case k6 => k_is); (case k7 => k_is); (case k8 => ktr_room); (case k9 => exact BindsTo.of_eq rfl); (case c5 => decide); (case kB => exact locs rfl); (case c2 => exact rfl); (case c3 => exact rfl); (case c4 => exact rfl); k_whole)
  intro g L' h1 eg eL F N B X T
  subst eg eL
  (try dsimp only); (try k_fold)
  k_steps
  all_goals (refine ret_of hR (by assumption) rfl rfl rfl ?_; (try dsimp only); (try simp_all) <;> omega)
theorem use_whole {x lo hi : Int} {t1 t2 t3 : Tok} (B : Below (Arr dp un gd outer) base outer g) (F : Fr g L s.heap m) (N : News g L s.heap news) (X : (hd.heap_39 w.params).In g) (T : Top topProg looseS mean mg mb g) (hf : env.frame = some L) (hk : env.scope.kind = .function)
   (hd : dp + 2 < recursionLimit) (hu : un + 16 < cLine)
   (h : ∀ h' tk, Fr g L h' m → News g L h' news → Q (.bool (decide (lo ≤ x) && decide (x ≤ hi))) { s with heap := h', toks := tk }) :
   wpAny (model prg w) ((Arr dp un gd outer).deeper env) (call (.ref 54) [.int x t1, .int lo t2, .int hi t3]) Q E s :=
  wpAny_call (is_whole_int (dp := dp + 1) (un := un + 3) (at_in hf hk B F X T) (by k_sizes) (by k_sizes) fun h' tk hk => h h' tk (F.keeps hk) fun p hp => ⟨hk _ _ (N p hp).1, (N p hp).2⟩)
noncomputable def leastI (c : Int) : Int := if c = 5 ∨ c = 9 then 1 else 0
noncomputable def greatI (c : Int) : Int := if c = 0 then 1048575 else if c = 5 ∨ c = 9 then 9 else if c = 15 then 0 else 255
theorem cases16 {P : Int → Prop} {c : Int} (h0 : 0 ≤ c) (h1 : c ≤ 15) (a0 : P 0) (a1 : P 1) (a2 : P 2) (a3 : P 3) (a4 : P 4) (a5 : P 5) (a6 : P 6) (a7 : P 7) (a8 : P 8) (a9 : P 9) (a10 : P 10) (a11 : P 11) (a12 : P 12) (a13 : P 13) (a14 : P 14) (a15 : P 15) : P c :=
  stepI 0 h0 a0 fun k0 => stepI 1 k0 a1 fun k1 => stepI 2 k1 a2 fun k2 => stepI 3 k2 a3 fun k3 => stepI 4 k3 a4 fun k4 => stepI 5 k4 a5 fun k5 => stepI 6 k5 a6 fun k6 => stepI 7 k6 a7 fun k7 => stepI 8 k7 a8 fun k8 => stepI 9 k8 a9 fun k9 => stepI 10 k9 a10 fun k10 => stepI 11 k10 a11 fun k11 => stepI 12 k11 a12 fun k12 => stepI 13 k12 a13 fun k13 => stepI 14 k13 a14 fun k14 => stepI 15 k14 a15 fun k15 => absurd (Int.lt_of_lt_of_le (by decide : (15 : Int) < 15 + 1) k15) (Int.not_lt.mpr h1)
theorem least_item {A : Around} {value slice : PySem.Expr} {c : Int} {u : Tok} {h₀ : Heap} (F : Fr h₀ L s.heap m) (X : (hd.heap_39 w.params).In h₀) (h0 : 0 ≤ c) (h1 : c ≤ 15) (h : ∀ t, Q (.int (leastI c) t) s)
    (hs : ∀ c u, subscripted slice false (.ref 59) (.int c u) = operate [.ref 59, .int c u] (getItem (.ref 59) (.int c u))) :
    wpAny (model prg w) A (subscriptTail value slice (.ref 59) (.int c u)) Q E s := by
  have key : ∀ c : Int, 0 ≤ c → c ≤ 15 → ∃ t, ∃ j, seqIndex? c 16 = some j ∧ ([.int 0 266, .int 0 267, .int 0 268, .int 0 269, .int 0 270, .int 1 271, .int 0 272, .int 0 273, .int 0 274, .int 1 275, .int 0 276, .int 0 277, .int 0 278, .int 0 279, .int 0 280, .int 0 281] : List Value)[j]? = some (.int (leastI c) t) := by
    intro c h0 h1
    refine cases16 (P := fun c => ∃ t, ∃ j, seqIndex? c 16 = some j ∧ ([.int 0 266, .int 0 267, .int 0 268, .int 0 269, .int 0 270, .int 1 271, .int 0 272, .int 0 273, .int 0 274, .int 1 275, .int 0 276, .int 0 277, .int 0 278, .int 0 279, .int 0 280, .int 0 281] : List Value)[j]? = some (.int (leastI c) t)) h0 h1 ?_ ?_ ?_ ?_ ?_ ?_ ?_ ?_ ?_ ?_ ?_ ?_ ?_ ?_ ?_ ?_ <;> exact ⟨_, _, rfl, rfl⟩
  obtain ⟨t, j, e1, e2⟩ := key c h0 h1
  exact topTup_K (l := [.int 0 266, .int 0 267, .int 0 268, .int 0 269, .int 0 270, .int 1 271, .int 0 272, .int 0 273, .int 0 274, .int 1 275, .int 0 276, .int 0 277, .int 0 278, .int 0 279, .int 0 280, .int 0 281]) (n := 0) (dd := none) (sl := #[]) F X (by k_is) (by k_sizes) (by k_sizes) e1 e2 (h t) (hs c u)
theorem great_item {A : Around} {value slice : PySem.Expr} {c : Int} {u : Tok} {h₀ : Heap} (F : Fr h₀ L s.heap m) (X : (hd.heap_39 w.params).In h₀) (h0 : 0 ≤ c) (h1 : c ≤ 15) (h : ∀ t, Q (.int (greatI c) t) s)
    (hs : ∀ c u, subscripted slice false (.ref 60) (.int c u) = operate [.ref 60, .int c u] (getItem (.ref 60) (.int c u))) :
    wpAny (model prg w) A (subscriptTail value slice (.ref 60) (.int c u)) Q E s := by
  have key : ∀ c : Int, 0 ≤ c → c ≤ 15 → ∃ t, ∃ j, seqIndex? c 16 = some j ∧ ([.int 1048575 284, .int 255 285, .int 255 286, .int 255 287, .int 255 288, .int 9 289, .int 255 290, .int 255 291, .int 255 292, .int 9 293, .int 255 294, .int 255 295, .int 255 296, .int 255 297, .int 255 298, .int 0 299] : List Value)[j]? = some (.int (greatI c) t) := by
    intro c h0 h1
    refine cases16 (P := fun c => ∃ t, ∃ j, seqIndex? c 16 = some j ∧ ([.int 1048575 284, .int 255 285, .int 255 286, .int 255 287, .int 255 288, .int 9 289, .int 255 290, .int 255 291, .int 255 292, .int 9 293, .int 255 294, .int 255 295, .int 255 296, .int 255 297, .int 255 298, .int 0 299] : List Value)[j]? = some (.int (greatI c) t)) h0 h1 ?_ ?_ ?_ ?_ ?_ ?_ ?_ ?_ ?_ ?_ ?_ ?_ ?_ ?_ ?_ ?_ <;> exact ⟨_, _, rfl, rfl⟩
  obtain ⟨t, j, e1, e2⟩ := key c h0 h1
  exact topTup_K (l := [.int 1048575 284, .int 255 285, .int 255 286, .int 255 287, .int 255 288, .int 9 289, .int 255 290, .int 255 291, .int 255 292, .int 9 293, .int 255 294, .int 255 295, .int 255 296, .int 255 297, .int 255 298, .int 0 299]) (n := 0) (dd := none) (sl := #[]) F X (by k_is) (by k_sizes) (by k_sizes) e1 e2 (h t) (hs c u)
end
local macro_rules | `(tactic| walk_at "call builtin:isinstance") => `(tactic| (k_search (kia_one kitx_tuple ‹_› (kitAt_tup ‹_› ‹_›) (by kit_is) (by k_dflt kit_nb) ?_); intros))
local macro_rules | `(tactic| walk_at "call builtin:len") => `(tactic| lcg_open len_tup2)
local macro_rules | `(tactic| walk_at "call ref") => `(tactic| lcg_open use_whole)
local macro_rules | `(tactic| walk_at "subscriptTail") => `(tactic| first | lcg_open least_item | lcg_open great_item)
section
variable {w : World} {mean : ExcName → Option Value} {mg mb : Str → Option Value} {dp un : Nat} {gd : Option (List Code)} {base g : Heap} {outer : List Env} {s : Shared} {R : Result → Shared → Prop} {L : Addr} {m : Str → Option Value} {env : Env} {news : List (Addr × Obj)} {Q E : Value → Shared → Prop}
theorem is_whole_bool {x : Bool} {lo hi : Int} {t2 t3 : Tok} (H : At w mean mg mb dp un gd base outer s.heap) (hd : dp + 1 < recursionLimit) (hu : un + 8 < cLine)
   (hR : ∀ h' tk, (∀ b o, s.heap.get? b = some o → h'.get? b = some o) → R (.ok (.ret (.bool false))) { s with heap := h', toks := tk }) :
   codeAny (model prg w) (Arr dp un gd outer) (.call (.ref 54) ⟨[.bool x, .int lo t2, .int hi t3], []⟩) R s := by
  obtain ⟨hB, hK, hT⟩ := id H
  k_dflt (refine' enter0 (binds := [(Str.ofString "value", .bool x), (Str.ofString "low", .int lo t2), (Str.ofString "high", .int hi t3)]) ?k1 ?k6 ?k7 ?k8 ?k9 ?kB ?_ ?c2 ?c3 ?c4 ?c5; (case k1 => assumption); (case k6 => k_is); (case k7 => k_is); (case k8 => ktr_room); (case k9 => exact BindsTo.of_eq rfl); (case c5 => decide); (case kB => exact locs rfl); (case c2 => exact rfl); (case c3 => exact rfl); (case c4 => exact rfl); k_whole)
  intro g L' h1 eg eL F N B X T
  subst eg eL
  (try dsimp only); (try k_fold)
  k_steps
  all_goals (refine ret_of hR (by assumption) rfl rfl rfl ?_; (try dsimp only) <;> first | rfl | decide | (simp; omega))
theorem use_whole_bool {x : Bool} {lo hi : Int} {t2 t3 : Tok} (B : Below (Arr dp un gd outer) base outer g) (F : Fr g L s.heap m) (N : News g L s.heap news) (X : (hd.heap_39 w.params).In g) (T : Top topProg looseS mean mg mb g) (hf : env.frame = some L) (hk : env.scope.kind = .function)
   (hd : dp + 2 < recursionLimit) (hu : un + 16 < cLine)
   (h : ∀ h' tk, Fr g L h' m → News g L h' news → Q (.bool false) { s with heap := h', toks := tk }) :
   wpAny (model prg w) ((Arr dp un gd outer).deeper env) (call (.ref 54) [.bool x, .int lo t2, .int hi t3]) Q E s :=
  wpAny_call (is_whole_bool (dp := dp + 1) (un := un + 3) (at_in hf hk B F X T) (by k_sizes) (by k_sizes) fun h' tk hk => h h' tk (F.keeps hk) fun p hp => ⟨hk _ _ (N p hp).1, (N p hp).2⟩)
end
local macro_rules | `(tactic| walk_at "call ref") => `(tactic| lcg_open use_whole_bool)
section
variable {w : World} {mean : ExcName → Option Value} {mg mb : Str → Option Value} {dp un : Nat} {gd : Option (List Code)} {base g : Heap} {outer : List Env} {s : Shared} {R : Result → Shared → Prop} {L : Addr} {m : Str → Option Value} {env : Env} {news : List (Addr × Obj)} {Q E : Value → Shared → Prop}
def okTok (c d : Int) : Prop := 0 ≤ c ∧ c ≤ 15 ∧ leastI c ≤ d ∧ d ≤ greatI c
theorem is_token_in {a : Addr} {c d : Int} {t1 t2 : Tok} (H : At w mean mg mb dp un gd base outer s.heap) (hd : dp + 3 < recursionLimit) (hu : un + 24 < cLine)
   (ha : IsTup s.heap a #[.int c t1, .int d t2]) (c0 : 0 ≤ c) (c15 : c ≤ 15)
   (hR : ∀ h' tk, (∀ b o, s.heap.get? b = some o → h'.get? b = some o) → R (.ok (.ret (.bool (decide (leastI c ≤ d) && decide (d ≤ greatI c))))) { s with heap := h', toks := tk }) :
   codeAny (model prg w) (Arr dp un gd outer) (.call (.ref 67) ⟨[.ref a], []⟩) R s := by
  obtain ⟨hB, hK, hT⟩ := id H
  k_dflt (refine' enter0 (binds := [(Str.ofString "token", .ref a)]) ?k1 ?k6 ?k7 ?k8 ?k9 ?kB ?_ ?c2 ?c3 ?c4 ?c5; (case k1 => assumption); (case k6 => k_is); (case k7 => k_is); (case k8 => ktr_room); (case k9 => exact BindsTo.of_eq rfl); (case c5 => decide); (case kB => exact locs rfl); (case c2 => exact rfl); (case c3 => exact rfl); (case c4 => exact rfl); k_whole)
  intro g L' h1 eg eL F N B X T
  subst eg eL
  (try dsimp only); (try k_fold)
  k_steps
  all_goals (refine ret_of hR (by assumption) rfl rfl rfl ?_; (try dsimp only) <;> first | rfl | (simp_all; done) | (simp_all; omega) | omega)
theorem is_token_ok {a : Addr} {c d : Int} {t1 t2 : Tok} (H : At w mean mg mb dp un gd base outer s.heap) (hd : dp + 3 < recursionLimit) (hu : un + 24 < cLine)
   (ha : IsTup s.heap a #[.int c t1, .int d t2]) (ok : okTok c d)
   (hR : ∀ h' tk, (∀ b o, s.heap.get? b = some o → h'.get? b = some o) → R (.ok (.ret (.bool true))) { s with heap := h', toks := tk }) :
   codeAny (model prg w) (Arr dp un gd outer) (.call (.ref 67) ⟨[.ref a], []⟩) R s := by
  obtain ⟨c0, c15, d0, d1⟩ := ok
  refine is_token_in H hd hu ha c0 c15 fun h' tk k => ?_
  rw [decide_eq_true d0, decide_eq_true d1]
  exact hR h' tk k
noncomputable def badVs : List Value := [.ref 155, .ref 156, .ref 157, .ref 158, .ref 159, .ref 160, .none, .ref 161, .ref 162, .ref 163]
theorem is_token_bad {v : Value} (H : At w mean mg mb dp un gd base outer s.heap) (hd : dp + 3 < recursionLimit) (hu : un + 24 < cLine) (hv : v ∈ badVs)
   (hR : ∀ h' tk, (∀ b o, s.heap.get? b = some o → h'.get? b = some o) → R (.ok (.ret (.bool false))) { s with heap := h', toks := tk }) :
   codeAny (model prg w) (Arr dp un gd outer) (.call (.ref 67) ⟨[v], []⟩) R s := by
  obtain ⟨hB, hK, hT⟩ := id H
  simp only [badVs, List.mem_cons, List.not_mem_nil, or_false] at hv
  rcases hv with rfl | rfl | rfl | rfl | rfl | rfl | rfl | rfl | rfl | rfl
  · refine is_token_in (c := 5) (d := 0) H hd hu ⟨_, hK _ _ (by k_is), rfl, _, rfl⟩ (by decide) (by decide) fun h' tk k => ?_
    rw [show (decide (leastI 5 ≤ 0) && decide ((0 : Int) ≤ greatI 5)) = false from by decide]
    exact hR h' tk k
  · refine is_token_in (c := 9) (d := 10) H hd hu ⟨_, hK _ _ (by k_is), rfl, _, rfl⟩ (by decide) (by decide) fun h' tk k => ?_
    rw [show (decide (leastI 9 ≤ 10) && decide ((10 : Int) ≤ greatI 9)) = false from by decide]
    exact hR h' tk k
  · refine is_token_in (c := 11) (d := 256) H hd hu ⟨_, hK _ _ (by k_is), rfl, _, rfl⟩ (by decide) (by decide) fun h' tk k => ?_
    rw [show (decide (leastI 11 ≤ 256) && decide ((256 : Int) ≤ greatI 11)) = false from by decide]
    exact hR h' tk k
  · k_dflt (refine' enter0 (binds := [(Str.ofString "token", .ref 158)]) ?k1 ?k6 ?k7 ?k8 ?k9 ?kB ?_ ?c2 ?c3 ?c4 ?c5; (case k1 => assumption); (case k6 => k_is); (case k7 => k_is); (case k8 => ktr_room); (case k9 => exact BindsTo.of_eq rfl); (case c5 => decide); (case kB => exact locs rfl); (case c2 => exact rfl); (case c3 => exact rfl); (case c4 => exact rfl); k_whole)
    intro g L' h1 eg eL F N B X T
    subst eg eL
    (try dsimp only); (try k_fold)
    k_steps
    all_goals (refine ret_of hR (by assumption) rfl rfl rfl ?_; (try dsimp only) <;> first | rfl | decide | (simp; omega))
  · k_dflt (refine' enter0 (binds := [(Str.ofString "token", .ref 159)]) ?k1 ?k6 ?k7 ?k8 ?k9 ?kB ?_ ?c2 ?c3 ?c4 ?c5; (case k1 => assumption); (case k6 => k_is); (case k7 => k_is); (case k8 => ktr_room); (case k9 => exact BindsTo.of_eq rfl); (case c5 => decide); (case kB => exact locs rfl); (case c2 => exact rfl); (case c3 => exact rfl); (case c4 => exact rfl); k_whole)
    intro g L' h1 eg eL F N B X T
    subst eg eL
    (try dsimp only); (try k_fold)
    k_steps
    all_goals (refine ret_of hR (by assumption) rfl rfl rfl ?_; (try dsimp only) <;> first | rfl | decide | (simp; omega))
  · k_dflt (refine' enter0 (binds := [(Str.ofString "token", .ref 160)]) ?k1 ?k6 ?k7 ?k8 ?k9 ?kB ?_ ?c2 ?c3 ?c4 ?c5; (case k1 => assumption); (case k6 => k_is); (case k7 => k_is); (case k8 => ktr_room); (case k9 => exact BindsTo.of_eq rfl); (case c5 => decide); (case kB => exact locs rfl); (case c2 => exact rfl); (case c3 => exact rfl); (case c4 => exact rfl); k_whole)
    intro g L' h1 eg eL F N B X T
    subst eg eL
    (try dsimp only); (try k_fold)
    k_steps
    all_goals (refine ret_of hR (by assumption) rfl rfl rfl ?_; (try dsimp only) <;> first | rfl | decide | (simp; omega))
  · k_dflt (refine' enter0 (binds := [(Str.ofString "token", .none)]) ?k1 ?k6 ?k7 ?k8 ?k9 ?kB ?_ ?c2 ?c3 ?c4 ?c5; (case k1 => assumption); (case k6 => k_is); (case k7 => k_is); (case k8 => ktr_room); (case k9 => exact BindsTo.of_eq rfl); (case c5 => decide); (case kB => exact locs rfl); (case c2 => exact rfl); (case c3 => exact rfl); (case c4 => exact rfl); k_whole)
    intro g L' h1 eg eL F N B X T
    subst eg eL
    (try dsimp only); (try k_fold)
    k_steps
    all_goals (refine ret_of hR (by assumption) rfl rfl rfl ?_; (try dsimp only) <;> first | rfl | decide | (simp; omega))
  · refine is_token_in (c := 15) (d := 1) H hd hu ⟨_, hK _ _ (by k_is), rfl, _, rfl⟩ (by decide) (by decide) fun h' tk k => ?_
    rw [show (decide (leastI 15 ≤ 1) && decide ((1 : Int) ≤ greatI 15)) = false from by decide]
    exact hR h' tk k
  · k_dflt (refine' enter0 (binds := [(Str.ofString "token", .ref 162)]) ?k1 ?k6 ?k7 ?k8 ?k9 ?kB ?_ ?c2 ?c3 ?c4 ?c5; (case k1 => assumption); (case k6 => k_is); (case k7 => k_is); (case k8 => ktr_room); (case k9 => exact BindsTo.of_eq rfl); (case c5 => decide); (case kB => exact locs rfl); (case c2 => exact rfl); (case c3 => exact rfl); (case c4 => exact rfl); k_whole)
    intro g L' h1 eg eL F N B X T
    subst eg eL
    (try dsimp only); (try k_fold)
    k_steps
    all_goals (refine ret_of hR (by assumption) rfl rfl rfl ?_; (try dsimp only) <;> first | rfl | decide | (simp; omega))
  · refine is_token_in (c := 0) (d := -1) H hd hu ⟨_, hK _ _ (by k_is), rfl, _, rfl⟩ (by decide) (by decide) fun h' tk k => ?_
    rw [show (decide (leastI 0 ≤ -1) && decide ((-1 : Int) ≤ greatI 0)) = false from by decide]
    exact hR h' tk k
end
theorem fresh_SqT3 : True := by w_top off; trivial
theorem fdm {b k : Int} (h : 0 ≤ b) (h1 : 1 ≤ k) : 0 ≤ b.fdiv k ∧ b.fdiv k ≤ b := by
  rw [Int.fdiv_eq_ediv_of_nonneg _ (by k_sizes)]
  exact ⟨Int.ediv_nonneg h (by k_sizes), Int.ediv_le_self _ h⟩
theorem fmm {b k : Int} (h1 : 1 ≤ k) : 0 ≤ b.fmod k ∧ b.fmod k < k := by
  have hp : 0 < k := Int.lt_of_lt_of_le (by decide) h1
  rw [Int.fmod_eq_emod_of_nonneg _ (Int.le_of_lt hp)]
  exact ⟨Int.emod_nonneg _ (Int.ne_of_gt hp), Int.emod_lt_of_pos _ hp⟩
local macro_rules | `(tactic| walk_at "binaryOp Pow int int") => `(tactic| ((with_reducible refine pow_int_small ?_ ?_ ?_ ?_) <;> first | decide | ((simp only [List.getD_cons_zero, List.getD_cons_succ, Int.toNat]); omega) | skip))
section
variable {w : World} {mean : ExcName → Option Value} {mg mb : Str → Option Value} {dp un : Nat} {gd : Option (List Code)} {base g : Heap} {outer : List Env} {s : Shared} {R : Result → Shared → Prop} {L : Addr} {m : Str → Option Value} {env : Env} {news : List (Addr × Obj)} {Q E : Value → Shared → Prop}
noncomputable abbrev boxObj (b0 b1 b2 : Int) (t0 t1 t2 : Tok) (n : Nat) : Obj := listOf #[.int b0 t0, .int b1 t1, .int b2 t2] n
theorem take_code {box : Addr} {b0 b1 b2 many : Int} {t0 t1 t2 tm : Tok} {n : Nat} (H : At w mean mg mb dp un gd base outer (hideAll s.heap [box])) (hd : dp + 3 < recursionLimit) (hu : un + 24 < cLine)
   (hb : s.heap.get? box = some (boxObj b0 b1 b2 t0 t1 t2 n)) (p0 : 0 ≤ b0) (p1 : 0 ≤ b1) (q1 : b1 ≤ 1000000) (p2 : 0 ≤ b2) (q2 : b2 < 1000003) (m0 : 1 ≤ many) (m1 : many ≤ 16)
   (hR : ∀ h' tk d td b0' b1' u0 u1 n', (∀ b o, b ≠ box → s.heap.get? b = some o → h'.get? b = some o) → h'.get? box = some (boxObj b0' b1' b2 u0 u1 t2 n') → 0 ≤ b0' → b0' ≤ b0 → b1 ≤ b1' → b1' ≤ b1 + 1 → 0 ≤ d → d < many → R (.ok (.ret (.int d td))) { s with heap := h', toks := tk }) :
   codeAny (model prg w) (Arr dp un gd outer) (.call (.ref 176) ⟨[.ref box, .int many tm], []⟩) R s := by
  k_dflt (refine' enter (X := [(box, boxObj b0 b1 b2 t0 t1 t2 n)]) (binds := [(Str.ofString "box", .ref box), (Str.ofString "many", .int many tm)]) ?k1 ?kX ?k6 ?k7 ?k8 ?k9 ?kB ?_ ?c2 ?c3 ?c4 ?c5; (case k1 => assumption); (case kX => (intro p hp; cases List.mem_singleton.mp hp; exact hb)); (case k6 => k_is); (case k7 => k_is); (case k8 => ktr_room); (case k9 => exact BindsTo.of_eq rfl); (case c5 => decide); (case kB => exact locs rfl); (case c2 => exact rfl); (case c3 => exact rfl); (case c4 => exact rfl); k_whole)
  intro g L' h1 eg eL F N B X T
  subst eg eL
  (try dsimp only); (try k_fold)
  k_steps
  · rename Fr _ _ _ _ => FF
    rename News _ _ _ _ => NN
    exact hR _ _ _ _ _ _ _ _ _ (fun b o hne e => FF.keep b o (hideAll_get _ e (by simpa using hne))) (NN _ (.head _)).1 (fdm p0 m0).1 (fdm p0 m0).2 (Int.le_refl _) (by k_sizes) (fmm m0).1 (fmm m0).2
  · rename Fr _ _ _ _ => FF
    rename News _ _ _ _ => NN
    exact hR _ _ _ _ _ _ _ _ _ (fun b o hne e => FF.keep b o (hideAll_get _ e (by simpa using hne))) (NN _ (.head _)).1 p0 (Int.le_refl _) (by show b1 ≤ b1 + 1; omega) (Int.le_refl _) (fmm m0).1 (fmm m0).2
end
theorem fresh_SqT4 : True := by w_top off; trivial
open PySem PySem.W PyProof.Rows PySem.Calls Builtin.ObjectAttr
noncomputable abbrev mro45 : List Value := [.ref 45, .ref 32, .type "ValueError", .type "Exception", .type "BaseException", .type "object"]
theorem refuse45 (self : Value) : refuseLoop self "__setattr__" mro45 = pure () := by
  rw [refuseLoop_ref, refuseLoop_ref]
  kernel_rfl
section
variable {w : World} {A : Around} {base g : Heap} {outer : List Env} {s : Shared} {R : Result → Shared → Prop} {L : Addr} {m : Str → Option Value} {env : Env} {news : List (Addr × Obj)} 
theorem set_reason {e : Addr} {vs : Array Value} {v : Value} {Q : Unit → Shared → Prop} {E : Value → Shared → Prop} (X : (hd.heap_39 w.params).In s.heap) (he : s.heap.get? e = some { cls := .ref 45, data := .fields vs })
    (h : ∀ h' tk d, (∀ b o, b ≠ e → s.heap.get? b = some o → h'.get? b = some o) → h'.get? e = some { cls := .ref 45, dict := some d, data := .fields vs } → Q () { s with heap := h', toks := tk }) :
    wpAny (model prg w) A (setAttr (.ref e) (Str.ofString "reason") v) Q E s := by
  obtain ⟨hh, gs, dr, tk0, os⟩ := s
  dsimp only at X he h
  have I : InstAt hh e { cls := .ref 45, data := .fields vs } 45 none := ⟨he, rfl, rfl, trivial⟩
  refine set_plain X I (by k_is) ?_
  have SF := PySem.F.store_object
  have hc : ∃ cd, clsIn (hd.heap_39 w.params) 45 = some cd ∧ cd.mro = mro45 ∧ cd.hasDict = true := ⟨_, by k_is, rfl, rfl⟩
  obtain ⟨cd, hc, hm, hdi⟩ := hc
  have hmro : mroIn (hd.heap_39 w.params) 45 (.type "object") = some true := by k_is
  have sub : Looks (model prg w) hh (isInstance (.ref e) (.type "object")) true := I.type.andThen (looks_mroIn X hmro)
  refine codeAny_call_builtin SF.slot.plain SF.entry (@check_slot (model prg w) _ _ ⟨hh, gs, dr, tk0 + 1, os⟩ "object.__setattr__" "object" "__setattr__" (.ref e) [.str (Str.ofString "reason") tk0, v] [] _ SF.kind SF.split sub (SF.args (.ref e) (.str (Str.ofString "reason") tk0) v) ?_)
  have L2 : Looks (model prg w) hh (mroOf (.ref 45)) mro45 := hm ▸ (looks_clsIn X hc).andThen .now
  have ha : findIn (hd.heap_39 w.params) (.ref 45) (Str.ofString "reason") = some none := by k_is
  rw [osa_eq, refuse_eq]
  refine wpAny_bind (wpAny_bind (I.type.at (wpAny_bind (L2.at ?_))))
  rw [refuse45]
  refine wpAny_pure (wpAny_bind (I.type.at (wpAny_bind ((looks_findIn X ha).at (wpAny_bind (wpAny_pure ?_))))))
  show wpAny _ _ (storeInOwnDict (.ref e) (.ref 45) _ _ v false) _ _ _
  refine wpAny_bind (wpAny_pure (wpAny_bind (wpAny_bind (wpAny_loadPart he (wpAny_bind ((looks_clsIn X hc).at ?_))))))
  rw [hdi]
  show wpAny _ _ (alloc { cls := .type "dict", data := .dict #[] } >>= fun d => update e (fun o => { o with dict := some d }) >>= fun _ => pure (some d)) _ _ _
  refine wpAny_bind (wpAny_alloc ?_)
  have ne : e ≠ hh.objs.size := Nat.ne_of_lt (Heap.lt_size he)
  have he1 : (hh.push { cls := .type "dict", data := .dict #[] }).get? e = some { cls := .ref 45, data := .fields vs } := Heap.get?_push_of_some _ he
  refine wpAny_bind (wpAny_update he1 (wpAny_pure ?_))
  dsimp only
  generalize hH : (hh.push { cls := .type "dict", data := .dict #[] }).update e (fun o => { o with dict := some hh.objs.size }) = H2
  have D : H2.get? hh.objs.size = some { cls := .type "dict", data := .dict #[] } := by
    rw [← hH, Heap.get?_update_other _ _ ne]; exact Heap.get?_push_size _ rfl
  have hE : H2.get? e = some { cls := .ref 45, dict := some hh.objs.size, data := .fields vs } := by
    rw [← hH]; exact Heap.get?_update_self _ he1 rfl
  have hk : ∀ b o, b ≠ e → hh.get? b = some o → H2.get? b = some o := fun b o hb q => by
    rw [← hH, Heap.get?_update_other _ _ (Ne.symm hb)]; exact Heap.get?_push_of_some _ q
  refine wpAny_bind (wpAny_pure (wpAny_bind ?_))
  unfold nsSet
  refine wpAny_bind (wpAny_bind (wpAny_askSetting (wpAny_pure (wpAny_bind (wpAny_mkText (wpAny_bind (wpAny_loadPart D ?_)))))))
  dsimp only
  refine wpAny_ite ?_
  rw [if_neg (by rw [aRefKeyMayBeTheName_at]; simp)]
  refine wpAny_updatePart D ?_
  generalize hx : (if (Str.ofString "reason").cps.isEmpty = true then 0 else reduceHash ((model prg w).w.params.strHash (Str.ofString "reason").cps)) = hsh
  have D' := Heap.get?_update_self (Obj.putName (Str.ofString "reason") hsh (.str (Str.ofString "reason") (tk0 + 1)) v) D (by
    rw [show ({ cls := .type "dict", data := .dict #[] } : Obj) = dictOf [] 0 from rfl, putName_dict]; rfl)
  rw [show (Obj.putName (Str.ofString "reason") hsh (.str (Str.ofString "reason") (tk0 + 1)) v { cls := .type "dict", data := .dict #[] }) = dictOf (putL (Str.ofString "reason") hsh (.str (Str.ofString "reason") (tk0 + 1)) v []) (putN (Str.ofString "reason") [] 0) from by
    rw [show ({ cls := .type "dict", data := .dict #[] } : Obj) = dictOf [] 0 from rfl, putName_dict]] at D'
  refine wpAny_bind (wpAny_lookBehind D' (pastItsLine_dict (by rw [List.size_toArray, sizeLine_eq]; show (1 : Nat) ≤ _; omega)) ?_)
  refine wpAny_pure (h _ _ hh.objs.size (fun b o hb q => ?_) ?_)
  · rw [Heap.get?_update_other _ _ (Ne.symm (Nat.ne_of_lt (Heap.lt_size q)))]; exact hk b o hb q
  · rw [Heap.get?_update_other _ _ (Ne.symm ne)]; exact hE
theorem ns_of_get {h h' : Heap} {L : Addr} {m : Str → Option Value} (n : h.Ns L m) (k : ∀ o, h.get? L = some o → h'.get? L = some o) : h'.Ns L m := by
  obtain ⟨o, es, ep, ho, r⟩ := n; exact ⟨o, es, ep, k _ ho, r⟩
theorem use_reason {e : Addr} {vs : Array Value} {v : Value} {Q : Unit → Shared → Prop} {E : Value → Shared → Prop} (F : Fr g L s.heap m) (N : News g L s.heap [(e, { cls := .ref 45, data := .fields vs })]) (X : (hd.heap_39 w.params).In g)
    (h : ∀ h' tk d, Fr g L h' m → News g L h' [(e, { cls := .ref 45, dict := some d, data := .fields vs })] → Q () { s with heap := h', toks := tk }) :
    wpAny (model prg w) A (setAttr (.ref e) (Str.ofString "reason") v) Q E s := by
  have n := N _ (.head _)
  refine set_reason (X.keeps F.keep) n.1 fun h' tk d hk he => h h' tk d ⟨ns_of_get F.ns fun o => hk _ o (Ne.symm n.2.1), fun b o q => hk b o (fun z => ?_) (F.keep b o q), F.above⟩ fun p hp => ?_
  · have := n.2.2; rw [← z, q] at this; cases this
  · cases List.mem_singleton.mp hp; exact ⟨he, n.2⟩
end
local macro_rules | `(tactic| walk_at "setAttr ref") => `(tactic| lcg_open use_reason)
section
variable {w : World} {mean : ExcName → Option Value} {mg mb : Str → Option Value} {dp un : Nat} {gd : Option (List Code)} {base g : Heap} {outer : List Env} {s : Shared} {R : Result → Shared → Prop} {L : Addr} {m : Str → Option Value} {env : Env} {news : List (Addr × Obj)} {Q E : Value → Shared → Prop}
theorem init29 {e : Addr} {vs : Array Value} {v : Value} (H : At w mean mg mb dp un gd base outer (hideAll s.heap [e])) (hd : dp + 3 < recursionLimit) (hu : un + 24 < cLine)
   (he : s.heap.get? e = some { cls := .ref 45, data := .fields vs })
   (hR : ∀ h' tk d, (∀ b o, b ≠ e → s.heap.get? b = some o → h'.get? b = some o) → h'.get? e = some { cls := .ref 45, dict := some d, data := .fields vs } → R (.ok (.ret .none)) { s with heap := h', toks := tk }) :
   codeAny (model prg w) (Arr dp un gd outer) (.call (.ref 29) ⟨[.ref e, v], []⟩) R s := by
  k_dflt (refine' enter (X := [(e, { cls := .ref 45, data := .fields vs })]) (binds := [(Str.ofString "self", .ref e), (Str.ofString "reason", v)]) ?k1 ?kX ?k6 ?k7 ?k8 ?k9 ?kB ?_ ?c2 ?c3 ?c4 ?c5; (case k1 => assumption); (case kX => (intro p hp; cases List.mem_singleton.mp hp; exact he)); (case k6 => k_is); (case k7 => k_is); (case k8 => ktr_room); (case k9 => exact binds_K (K := Sq.hd.heap_39 w.params) (H.K.keeps fun _ _ e => of_hideAll _ e) rfl (by k_is) rfl rfl rfl); (case c5 => decide); (case kB => exact locs rfl); (case c2 => exact rfl); (case c3 => exact rfl); (case c4 => exact rfl); k_whole)
  intro g L' h1 eg eL F N B X T
  subst eg eL
  (try dsimp only); (try k_fold)
  k_steps
  · rename Fr _ _ _ _ => FF
    rename News _ _ _ _ => NN
    exact hR _ _ _ (fun b o hne q => FF.keep b o (hideAll_get _ q (by simpa using hne))) (NN _ (.head _)).1
end
theorem fresh_SqT5 : True := by w_top off; trivial
noncomputable abbrev bm45 : List Value := [.ref 32, .type "ValueError", .type "Exception", .type "BaseException", .type "object"]
section
variable {M : Model} {A : Around} {E : Value → Shared → Prop} {h : Heap} {g : Array GenState} {d : Drawn} {t : Nat} {os : OsState}
variable {nm q : Str} {bs : List Value} {hdct : Bool} {sn : List Str} {sub : List Value} {ab : Bool} {col : Option Bool} {dd : Option Addr} {k0 k1 k2 k3 k5 : Option Value}
noncomputable abbrev obj45 (nm q : Str) (bs : List Value) (hdct : Bool) (sn : List Str) (sub : List Value) (ab : Bool) (col : Option Bool) (dd : Option Addr) (k0 k1 k2 k3 k5 : Option Value) : Obj := excClassObj nm q 45 44 bs bm45 hdct sn sub ab col dd k0 k1 k2 k3 k5 "ValueError.__new__"
theorem check_new45 {rest : List Value} {Q : Unit → Shared → Prop} (hC : h.get? 45 = some (obj45 nm q bs hdct sn sub ab col dd k0 k1 k2 k3 k5))
    (hq : Q () ⟨h, g, d, t, os⟩) : wpAny M A (checkBuiltinCall "ValueError.__new__" ⟨.ref 45 :: rest, []⟩) Q E ⟨h, g, d, t, os⟩ := by
  have Fn := PySem.F.excBase_ValueError
  have hcont : (Value.ref 45 :: bm45).contains (.type "ValueError") = true := by decide
  have hstar := Fn.noStar
  simp only [checkBuiltinCall, Fn.newKind, Fn.newSplit, Fn.newRow]
  repeat (first | refine wpAny_loadPart_at hC ?_ | (refine wpAny_isSubtype_exc hC ?_; rw [hcont]) | refine wpAny_staticBase_exc hC ?_ | refine wpAny_madeBy_exc hC ?_ | simp only [bne_self_eq_false, Bool.false_eq_true, if_false] | wp_step)
  exact hq
theorem new45 {prog : Program} {w : World} {R : Result → Shared → Prop} {rest : List Value} (hC : h.get? 45 = some (obj45 nm q bs hdct sn sub ab col dd k0 k1 k2 k3 k5))
    (hq : R (.ok (.ret (.ref (h.objs.size + 1)))) ⟨(h.push { cls := .type "tuple", data := .seq rest.toArray }).push
      { cls := .ref 45, data := .fields #[.ref h.objs.size, .none, .none, .none, .bool false, .none] }, g, d, t, os⟩) (hrest : rest.length ≤ sizeLine) :
    codeAny (model prog w) A (.builtin "ValueError.__new__" ⟨.ref 45 :: rest, []⟩) R ⟨h, g, d, t, os⟩ := by
  have Fn := PySem.F.excBase_ValueError
  have hends := Fn.ends
  have hcB : (Value.ref 45 :: bm45).contains (.type "ValueError") = true := by decide
  have hcA : (Value.ref 45 :: bm45).contains (.type "AttributeError") = false := by decide
  have hcN : (Value.ref 45 :: bm45).contains (.type "NameError") = false := by decide
  refine codeAny_builtinAt Fn.entry ?_
  unfold Builtin.«BaseException.__new__»
  refine PySem.wpAt_bind ?_
  show PySem.wpAt _ _ _ (stack >>= _) _ _ _
  refine PySem.wpAt_bind (PySem.wpAt_stack fun p below => PySem.wpAt_of_wpAny ?_)
  wp_walk
  refine PySem.wpAt_of_wpAny ?_
  rw [Fn.owner]
  repeat (first | with_reducible refine wpAny_madeHere_exc Fn.canon hC ?_ | with_reducible refine wpAny_loadPart_at hC ?_ | (with_reducible refine wpAny_isSubtype_exc hC ?_; first | rw [hcB] | rw [hcA] | rw [hcN]) | wp_step)
  show R _ _
  rw [Heap.size_push]
  exact hq
end
section
variable {w : World} {mean : ExcName → Option Value} {mg mb : Str → Option Value} {dp un : Nat} {gd : Option (List Code)} {base g : Heap} {outer : List Env} {R : Result → Shared → Prop} {L : Addr} {m : Str → Option Value} {env : Env} {news : List (Addr × Obj)} {Q E : Value → Shared → Prop}
theorem At.grow {h h' : Heap} {dp' un' : Nat} (H : At w mean mg mb dp un gd base outer h) (k : ∀ b o, h.get? b = some o → h'.get? b = some o) : At w mean mg mb dp' un' gd base outer h' :=
  ⟨⟨rfl, fun b o e => k _ _ (H.below.stays b o e), H.below.frames.of_keeps fun b o e _ => ⟨o, k _ _ e, rfl⟩⟩, H.K.keeps k, H.T.keeps k⟩
theorem call45 {v : Value} {s : Shared} (H : At w mean mg mb dp un gd base outer s.heap) (hd : dp + 10 < recursionLimit) (hu : un + 60 < cLine)
    (hq : ∀ h' tk e d tp, (∀ b o, s.heap.get? b = some o → h'.get? b = some o) → s.heap.get? e = none → h'.get? e = some { cls := .ref 45, dict := some d, data := .fields #[.ref tp, .none, .none, .none, .bool false, .none] } →
      Q (.ref e) { s with heap := h', toks := tk }) : wpAny (model prg w) (Arr dp un gd outer) (call (.ref 45) [v]) Q E s := by
  obtain ⟨h, g, d, t, os⟩ := s
  have X := H.K
  dsimp only at X
  have hC : ∃ nm q bs hdct sn sub ab col dd k0 k1 k2 k3 k5, h.get? 45 = some (obj45 nm q bs hdct sn sub ab col dd k0 k1 k2 k3 k5) := ⟨_, _, _, _, _, _, _, _, _, _, _, _, _, _, X _ _ (by k_is)⟩
  obtain ⟨nm, q, bs, hdct, sn, sub, ab, col, dd, k0, k1, k2, k3, k5, hC⟩ := hC
  have f1 := tc_lookup
  have f2 := tc_bind (.ref 45)
  have hT : (⟨h, g, d, t, os⟩ : Shared).TypeIs (.ref 45) "type" := ⟨_, hC, rfl⟩
  refine wpAny_call (codeAny_of_tree ?_)
  show wpAny _ _ (callAny (.ref 45) _) _ _ _
  repeat (any_goals (first | assumption | with_reducible refine wpAny_loadPart_at hC ?_ | wp_step))
  refine ⟨rfl, ?_⟩
  refine codeAny_call_builtin_at (Code.quiet_builtin _ (by decide +kernel)) entry_typeCall (wpAny_check_type_call_sub hC ?_)
  show wpAny _ (Arr (dp + 1) (un + 1) gd outer) (Builtin.«type.__call__» ⟨.ref 45 :: [v], []⟩) _ _ _
  repeat (first | with_reducible refine wpAny_loadPart_at hC ?_ | with_reducible refine wpAny_madeBy_exc hC ?_ | wp_step)
  refine codeAny_call_builtin_code (Code.quiet_builtin _ PySem.F.excBase_ValueError.quiet) (check_new45 hC ?_)
  refine new45 hC ?_ (by show (1 : Nat) ≤ _; rw [sizeLine_eq]; omega)
  show wpAny _ _ _ _ _ _
  generalize hH : (h.push { cls := .type "tuple", data := .seq [v].toArray }).push { cls := .ref 45, data := .fields #[.ref h.objs.size, .none, .none, .none, .bool false, .none] } = H1
  have hk1 : ∀ b o, h.get? b = some o → H1.get? b = some o := fun b o e => by rw [← hH]; exact Heap.get?_push_of_some _ (Heap.get?_push_of_some _ e)
  have hget : H1.get? (h.objs.size + 1) = some { cls := .ref 45, data := .fields #[.ref h.objs.size, .none, .none, .none, .bool false, .none] } := by rw [← hH]; heap_get
  have hnew : h.get? (h.objs.size + 1) = none := Heap.get?_none_of_le (Nat.le_succ _)
  have hC1 := hk1 _ _ hC
  have X1 := X.keeps hk1
  have hcC : (Value.ref 45 :: bm45).contains (.ref 45) = true := by decide
  unfold isInstance
  repeat (first | with_reducible refine wpAny_loadPart_at hget ?_ | (with_reducible refine wpAny_isSubtype_exc hC1 ?_; rw [hcC]) | wp_step)
  refine (looks_findIn X1 (name := Str.ofString "__init__") (show findIn (Sq.hd.heap_39 w.params) (.ref 45) (Str.ofString "__init__") = some (some (.ref 29)) by k_is)).at ?_
  refine wpAny_holding (wpAny_bind ((bind_fn X1 _ (by k_is)).at ?_))
  refine wpAny_bind (wpAny_call ?_)
  have hin : ∀ b o, h.get? b = some o → (hideAll H1 [h.objs.size + 1]).get? b = some o := fun b o e => hideAll_get _ (hk1 b o e) fun z => by
    cases List.mem_singleton.mp z; rw [hnew] at e; cases e
  refine init29 (dp := dp + 1) (un := un + 1) (s := ⟨H1, g, d, t, os⟩) (H.grow hin) (by k_sizes) (by k_sizes) hget fun h' tk dd hk he => ?_
  dsimp only
  refine wpAny_pure ?_
  show wpAny _ _ (if (Value.none != Value.none) = true then _ else ret (.ref (h.objs.size + 1))) _ _ _
  rw [if_neg (by decide)]
  exact wpAny_pure (hq _ _ _ _ _ (fun b o e => hk b o (fun z => by subst z; rw [hnew] at e; cases e) (hk1 b o e)) hnew he)
end
theorem fresh_SqT6 : True := by w_top off; trivial
noncomputable abbrev exc45 (d : Option Addr) (tp : Addr) : Obj := { cls := .ref 45, dict := d, data := .fields #[.ref tp, .none, .none, .none, .bool false, .none] }
def P45 (K : Frag) (E : Value → Shared → Prop) (v : Value) (s₁ : Shared) : Prop := ∃ a d tp, v = .ref a ∧ K.In s₁.heap ∧ s₁.heap.get? a = some (exc45 d tp) ∧ E (.ref a) s₁
section
variable {A : Around} {env : Env} {s : Shared} {w : World} {E : Value → Shared → Prop}
theorem Raise45 {e : Expr} {pos : Pos} {Q : Flow → Shared → Prop} (hh : A.handled = none)
    (h : wpAny (model prg w) A (eval e env) (P45 (hd.heap_39 w.params) E) E s) : wpAny (model prg w) A (exec (.Raise (some e) none pos) env) Q E s := by
  show wpAny (model prg w) A (do standAt pos; raiseStmt env (some (do let v ← eval e env; standAt pos; pure v)) none) Q E s
  refine wpAny_bind (wpAny_standAt ?_)
  have hcB : (Value.ref 45 :: bm45).contains (.type "BaseException") = true := by decide
  unfold raiseStmt
  refine wpAny_bind (wpAny_bind (wpAny_mono h (fun v s₁ h₁ => wpAny_bind (wpAny_standAt (wpAny_pure ?_))) fun _ _ x => x))
  obtain ⟨a, dd, tp, rfl, X, he, hE⟩ := h₁
  obtain ⟨hp, g, d, tk, os⟩ := s₁
  dsimp only at X
  have hC : ∃ nm q bs hdct sn sub ab col dd k0 k1 k2 k3 k5, hp.get? 45 = some (obj45 nm q bs hdct sn sub ab col dd k0 k1 k2 k3 k5) := ⟨_, _, _, _, _, _, _, _, _, _, _, _, _, _, X _ _ (by k_is)⟩
  obtain ⟨nm, q, bs, hdct, sn, sub, ab, col, dd', k0, k1, k2, k3, k5, hC⟩ := hC
  repeat (first | with_reducible refine wpAny_loadPart_at he ?_ | with_reducible refine wpAny_loadPart_at hC ?_ | (with_reducible refine wpAny_isSubtype_exc hC ?_; rw [hcB]) | wp_step)
  exact wpAny_raiseNew_none hh hE
end
def Flown (base : Heap) (outer : List Env) (h h' : Heap) (e : Addr) : Prop := ∃ a0, Heap.FlyingW base outer e (.ref 45) a0 h' ∧ h.UpToSlots h'
section
variable {w : World} {mean : ExcName → Option Value} {mg mb : Str → Option Value} {dp un : Nat} {gd : Option (List Code)} {base g : Heap} {outer : List Env} {s s' : Shared} {R : Result → Shared → Prop} {L : Addr} {m : Str → Option Value} {env : Env} {news : List (Addr × Obj)} {Q E : Value → Shared → Prop} {M : Model}
theorem leave45 {h : Heap} {e tp : Addr} {d : Option Addr} {Q : Unit → Shared → Prop} (hf : env.frame = some L) (hk : env.scope.kind = .function) (B : Below (Arr dp un gd outer) base outer g) (F : Fr g L h m)
    (k : ∀ b o, h.get? b = some o → s'.heap.get? b = some o) (hn : h.get? e = none) (he : s'.heap.get? e = some (exc45 d tp))
    (hQ : ∀ h', Flown base outer g h' e → Q () { s' with heap := h' }) : wpAny M ((Arr dp un gd outer).deeper env) (leaving env (.ref e)) Q E s' := by
  have B' := below_in hf hk B (F.keeps k)
  have hen : base.get? e = none := by
    cases q : base.get? e with
    | none => rfl
    | some o => have := F.keep _ _ (B.stays _ _ q); rw [hn] at this; cases this
  refine wpAny_leaving_firstW (a0 := .ref tp) rfl B'.frames hf he B'.stays hen rfl rfl rfl fun h' x => ?_
  obtain ⟨k1, ⟨_, _, k2⟩, k3, k4⟩ := x
  exact hQ h' ⟨_, ⟨k1, hen, k2, k3⟩, ((Heap.UpToSlots.of_keeps F.keep).trans (Heap.UpToSlots.of_keeps k)).trans k4⟩
theorem leaveOn {h : Heap} {e : Addr} {Q : Unit → Shared → Prop} (hf : env.frame = some L) (B : Below (Arr dp un gd outer) base outer g) (F : Fr g L h m)
    (R : Flown base (env :: outer) h s'.heap e)
    (hQ : ∀ h', Flown base outer g h' e → Q () { s' with heap := h' }) : wpAny M ((Arr dp un gd outer).deeper env) (leaving env (.ref e)) Q E s' := by
  obtain ⟨a0, fl, u⟩ := R
  exact wpAny_leaves_onW rfl hf fl fun h' x1 x2 => hQ h' ⟨a0, x1, ((Heap.UpToSlots.of_keeps F.keep).trans u).trans x2⟩
theorem use_call45 {v : Value} (B : Below (Arr dp un gd outer) base outer g) (F : Fr g L s.heap m) (N : News g L s.heap news) (X : (hd.heap_39 w.params).In g) (T : Top topProg looseS mean mg mb g) (hf : env.frame = some L) (hk : env.scope.kind = .function)
   (hd : dp + 11 < recursionLimit) (hu : un + 63 < cLine)
   (h : ∀ h' tk e d tp, Fr g L h' m → News g L h' news → (∀ b o, s.heap.get? b = some o → h'.get? b = some o) → s.heap.get? e = none → h'.get? e = some (exc45 (some d) tp) → Q (.ref e) { s with heap := h', toks := tk }) :
   wpAny (model prg w) ((Arr dp un gd outer).deeper env) (call (.ref 45) [v]) Q E s :=
  call45 (dp := dp + 1) (un := un + 3) (at_in hf hk B F X T) (by k_sizes) (by k_sizes) fun h' tk e d tp k hn he => h h' tk e d tp (F.keeps k) (fun p hp => ⟨k _ _ (N p hp).1, (N p hp).2⟩) k hn he
end
local macro_rules | `(tactic| walk_at "call ref") => `(tactic| lcg_open use_call45)
local macro_rules | `(tactic| walk_at "exec Raise some none") => `(tactic| kspl_eval Raise45)
section
variable {w : World} {mean : ExcName → Option Value} {mg mb : Str → Option Value} {dp un : Nat} {gd : Option (List Code)} {base g : Heap} {outer : List Env} {s s' : Shared} {R : Result → Shared → Prop} {L : Addr} {m : Str → Option Value} {env : Env} {news : List (Addr × Obj)} {Q E : Value → Shared → Prop} {M : Model}
def TokV (h : Heap) (v : Value) (p : Int × Int) : Prop := ∃ a t1 t2, v = .ref a ∧ IsTup h a #[.int p.1 t1, .int p.2 t2] ∧ okTok p.1 p.2
theorem TokV.keeps {h h' : Heap} {v : Value} {p : Int × Int} (x : TokV h v p) (k : ∀ b o, h.get? b = some o → h'.get? b = some o) : TokV h' v p := by
  obtain ⟨a, t1, t2, e, i, ok⟩ := x
  exact ⟨a, t1, t2, e, IsTup.keeps i k, ok⟩
theorem use_tok {v : Value} {p : Int × Int} (hv : TokV g v p) (B : Below (Arr dp un gd outer) base outer g) (F : Fr g L s.heap m) (N : News g L s.heap news) (X : (hd.heap_39 w.params).In g) (T : Top topProg looseS mean mg mb g) (hf : env.frame = some L) (hk : env.scope.kind = .function)
   (hd : dp + 4 < recursionLimit) (hu : un + 32 < cLine)
   (h : ∀ h' tk, Fr g L h' m → News g L h' news → Q (.bool true) { s with heap := h', toks := tk }) :
   wpAny (model prg w) ((Arr dp un gd outer).deeper env) (call (.ref 67) [v]) Q E s := by
  obtain ⟨a, t1, t2, e, i, ok⟩ := hv
  subst e
  exact wpAny_call (is_token_ok (dp := dp + 1) (un := un + 3) (at_in hf hk B F X T) (by k_sizes) (by k_sizes) (IsTup.keeps i F.keep) ok fun h' tk hk => h h' tk (F.keeps hk) fun p hp => ⟨hk _ _ (N p hp).1, (N p hp).2⟩)
theorem use_bad {v : Value} (hv : v ∈ badVs) (B : Below (Arr dp un gd outer) base outer g) (F : Fr g L s.heap m) (N : News g L s.heap news) (X : (hd.heap_39 w.params).In g) (T : Top topProg looseS mean mg mb g) (hf : env.frame = some L) (hk : env.scope.kind = .function)
   (hd : dp + 4 < recursionLimit) (hu : un + 32 < cLine)
   (h : ∀ h' tk, Fr g L h' m → News g L h' news → Q (.bool false) { s with heap := h', toks := tk }) :
   wpAny (model prg w) ((Arr dp un gd outer).deeper env) (call (.ref 67) [v]) Q E s :=
  wpAny_call (is_token_bad (dp := dp + 1) (un := un + 3) (at_in hf hk B F X T) (by k_sizes) (by k_sizes) hv fun h' tk hk => h h' tk (F.keeps hk) fun p hp => ⟨hk _ _ (N p hp).1, (N p hp).2⟩)
end
local macro_rules | `(tactic| walk_at "call ref") => `(tactic| first | lcg_open use_tok | lcg_open use_bad)
section
variable {w : World} {mean : ExcName → Option Value} {mg mb : Str → Option Value} {dp un : Nat} {gd : Option (List Code)} {base g : Heap} {outer : List Env} {s : Shared} {R : Result → Shared → Prop}
theorem back_bad {x : Addr} {v : Value} (H : At w mean mg mb dp un gd base outer s.heap) (hd : dp + 14 < recursionLimit) (hu : un + 80 < cLine) (hv : v ∈ badVs)
   (hR : ∀ h' tk e, Flown base outer s.heap h' e → R (.error (.ref e)) { s with heap := h', toks := tk }) :
   codeAny (model prg w) (Arr dp un gd outer) (.call (.ref 111) ⟨[.ref x, v], []⟩) R s := by
  obtain ⟨hB, hK, hT⟩ := id H
  k_dflt (refine' enter0 (binds := [(Str.ofString "self", .ref x), (Str.ofString "token", v)]) ?k1 ?k6 ?k7 ?k8 ?k9 ?kB ?_ ?c2 ?c3 ?c4 ?c5; (case k1 => assumption); (case k6 => k_is); (case k7 => k_is); (case k8 => ktr_room); (case k9 => exact BindsTo.of_eq rfl); (case c5 => decide); (case kB => exact locs rfl); (case c2 => exact rfl); (case c3 => exact rfl); (case c4 => exact rfl); k_whole)
  intro g L' h1 eg eL F N B X T
  subst eg eL
  (try dsimp only); (try k_fold)
  k_steps
  · rename Fr _ _ _ _ => FF
    rename _ = some (exc45 _ _) => oo
    rename _ = none => nn
    rename (∀ (b : Addr) (o : Obj), Heap.get? _ b = some o → Heap.get? _ b = some o) => kk
    exact ⟨_, _, _, rfl, X.keeps FF.keep, oo, leave45 rfl rfl B (by assumption) kk nn oo fun h' fl => hR _ _ _ fl⟩
end
theorem fresh_SqL : True := by w_top off; trivial
def SeqAt (h : Heap) (a : Addr) (vs : List Value) : Prop := h.IsList a vs.toArray ∨ h.IsTuple a vs.toArray
theorem SeqAt.keeps {h h' : Heap} {a : Addr} {vs : List Value} (x : SeqAt h a vs) (k : ∀ b o, h.get? b = some o → h'.get? b = some o) : SeqAt h' a vs := by
  rcases x with ⟨o, ho, r⟩ | ⟨o, ho, r⟩
  · exact .inl ⟨o, k _ _ ho, r⟩
  · exact .inr ⟨o, k _ _ ho, r⟩
section
variable {prog : Program} {w : World} {A : Around} {E : Value → Shared → Prop} {s : Shared} {env : Env} {h₀ : Heap} {x : Str} {body : List Stmt} {Q : Flow → Shared → Prop}
theorem iter_base {I l : Addr} {vs : List Value} {oi : Obj} {m₀ : Str → Option Value} {news : List (Addr × Obj)} {St : Nat → Heap → Prop} {h1 : Heap} (J : Nat → (Str → Option Value) → Prop)
    (W : Walks prog w A I [I, l] [I] vs.length (fun i v => vs[i]? = some v) St) (hol : ∃ o, h₀.get? l = some o) (hI : I = s.heap.objs.size) (hh1 : h1 = s.heap.push oi) (hst : St 0 h1)
    (F : Fr h₀ env.locals s.heap m₀) (N : News h₀ env.locals s.heap news) (hj : J 0 m₀)
    (turn : ∀ i v m₁ h tk own, vs[i]? = some v → J i m₁ → Fr h₀ env.locals h (fun y => if y = x then some v else m₁ y) → News h₀ env.locals h (own ++ news) →
      wpAny (model prog w) A (execs body env) (InvPost h₀ env.locals (J (i + 1)) (own ++ news) { s with heap := h, toks := tk } Q) E { s with heap := h, toks := tk })
    (done : ∀ m₁ h tk, J vs.length m₁ → Fr h₀ env.locals h m₁ → News h₀ env.locals h news → Q .next { s with heap := h, toks := tk }) :
    LoopAtV prog w A h₀ env x body Q E (.ref I) { s with heap := h1 } := by
  obtain ⟨ol, hol⟩ := hol
  have hlt : l < h₀.objs.size := Heap.lt_size hol
  subst hI hh1
  let J' : Nat → (Str → Option Value) → List (Addr × Obj) → Prop := fun i m₁ news₁ => news₁ = news ∧ J i m₁
  refine ⟨_, _, _, vs.length, _, _, m₀, news, J', rfl, W, ?_, ?_, ?_, hst, F.push _, (fun p hp => ⟨Heap.get?_push_of_some _ (N p hp).1, (N p hp).2⟩), ⟨rfl, hj⟩, ?_, ?_⟩
  · intro hm
    rcases List.mem_cons.mp hm with e | hm
    · exact absurd F.ns.lt (e ▸ Nat.lt_irrefl _)
    · exact absurd (Nat.lt_of_lt_of_le hlt F.above) ((List.mem_singleton.mp hm) ▸ Nat.lt_irrefl _)
  · intro b hb
    rw [List.mem_singleton.mp hb]
    exact next_is_new F
  · intro p hp hI
    exact absurd (Heap.lt_size (N p hp).1) ((List.mem_singleton.mp hI) ▸ Nat.lt_irrefl _)
  · rintro i v m₁ news₁ s₁ own ⟨hh', tk', rfl⟩ hin hP ⟨rfl, hJ⟩ hoff _ _ _ _ F₁ N₁
    refine wpAny_mono (turn i v m₁ hh' tk' own hP hJ F₁ N₁) (fun f s₂ p => ?_) fun _ _ e => e
    have fin : InvEnd h₀ env.locals (J (i + 1)) (own ++ news₁) { s with heap := hh', toks := tk' } s₂ → LoopStepU h₀ env.locals [s.heap.objs.size] own (J' (i + 1)) { s with heap := hh', toks := tk' } .next s₂ := by
      rintro ⟨h', tk, m', news', e, F', N', hn, hm⟩
      exact ⟨rfl, h', tk, m', news₁, e, F', fun p hp => N' p (hn p hp), hoff, rfl, hm⟩
    cases f with
    | ret v => exact .ret p
    | brk => exact .brk p
    | next => exact .next (fin p)
    | cont => exact .cont (fin p)
  · rintro h' tk m' news' F' N' _ ⟨rfl, hJ⟩
    exact done m' h' tk hJ F' N'
theorem iter_seq {l : Addr} {vs : List Value} {m₀ : Str → Option Value} {news : List (Addr × Obj)} (J : Nat → (Str → Option Value) → Prop)
    (hh : A.handled = none) (hl : SeqAt h₀ l vs) (F : Fr h₀ env.locals s.heap m₀) (N : News h₀ env.locals s.heap news) (hj : J 0 m₀)
    (turn : ∀ i v m₁ h tk own, vs[i]? = some v → J i m₁ → Fr h₀ env.locals h (fun y => if y = x then some v else m₁ y) → News h₀ env.locals h (own ++ news) →
      wpAny (model prog w) A (execs body env) (InvPost h₀ env.locals (J (i + 1)) (own ++ news) { s with heap := h, toks := tk } Q) E { s with heap := h, toks := tk })
    (done : ∀ m₁ h tk, J vs.length m₁ → Fr h₀ env.locals h m₁ → News h₀ env.locals h news → Q .next { s with heap := h, toks := tk }) :
    wpAny (model prog w) A (pyIter (.ref l)) (fun it s₂ => LoopAtV prog w A h₀ env x body Q E it s₂) E s := by
  have hne : ∀ o, h₀.get? l = some o → l ≠ s.heap.objs.size := fun o hol => Nat.ne_of_lt (Nat.lt_trans (Nat.lt_of_lt_of_le (Heap.lt_size hol) F.above) F.ns.lt)
  rcases hl with hl | hl
  · have hls : s.heap.IsList l vs.toArray := hl.at fun o e => F.keep l o e
    obtain ⟨ol, hol, _⟩ := id hl
    refine wpAny_pyIter_list hls ?_
    have W := Walks.list (prog := prog) (w := w) hh s.heap.objs.size l (hne _ hol) vs.toArray
    simp only [List.size_toArray, List.getElem?_toArray] at W
    exact iter_base J W ⟨_, hol⟩ rfl rfl ⟨⟨_, Heap.get?_push_size _ rfl, rfl, rfl⟩, hls.at fun o e => Heap.get?_push_of_some _ e⟩ F N hj turn done
  · have hls : s.heap.IsTuple l vs.toArray := hl.at fun o e => F.keep l o e
    obtain ⟨ol, hol, _⟩ := id hl
    refine wpAny_pyIter_tuple hls ?_
    have W := Walks.tuple (prog := prog) (w := w) hh s.heap.objs.size l (hne _ hol) vs.toArray
    simp only [List.size_toArray, List.getElem?_toArray] at W
    exact iter_base J W ⟨_, hol⟩ rfl rfl ⟨⟨_, Heap.get?_push_size _ rfl, rfl, rfl⟩, hls.at fun o e => Heap.get?_push_of_some _ e⟩ F N hj turn done
end
theorem fresh_SqT7 : True := by w_top off; trivial
local macro_rules | `(tactic| walk_at "exec For Name Name cons nil") => `(tactic| (k_here; (rename Fr _ _ _ _ => lF'); (with_unfolding_all refine' For_invVF lF' ?k1 ?k2 ?_; (case k1 => exact rfl); (case k2 => exact rfl); k_whole)))
section
variable {w : World} {mean : ExcName → Option Value} {mg mb : Str → Option Value} {dp un : Nat} {gd : Option (List Code)} {base g : Heap} {outer : List Env} {s : Shared} {R : Result → Shared → Prop}
theorem check_ok {l : Addr} {vs : List Value} (H : At w mean mg mb dp un gd base outer s.heap) (hd : dp + 6 < recursionLimit) (hu : un + 40 < cLine) (hl : SeqAt s.heap l vs) (ht : ∀ v ∈ vs, ∃ p, TokV s.heap v p)
   (hR : ∀ h' tk, (∀ b o, s.heap.get? b = some o → h'.get? b = some o) → R (.ok (.ret .none)) { s with heap := h', toks := tk }) :
   codeAny (model prg w) (Arr dp un gd outer) (.call (.ref 81) ⟨[.ref l], []⟩) R s := by
  obtain ⟨hB, hK, hT⟩ := id H
  k_dflt (refine' enter0 (binds := [(Str.ofString "tokens", .ref l)]) ?k1 ?k6 ?k7 ?k8 ?k9 ?kB ?_ ?c2 ?c3 ?c4 ?c5; (case k1 => assumption); (case k6 => k_is); (case k7 => k_is); (case k8 => ktr_room); (case k9 => exact BindsTo.of_eq rfl); (case c5 => decide); (case kB => exact locs rfl); (case c2 => exact rfl); (case c3 => exact rfl); (case c4 => exact rfl); k_whole)
  intro g L' h1 eg eL F N B X T
  subst eg eL
  (try dsimp only); (try k_fold)
  k_steps
  refine iter_seq (fun _ _ => True) rfl hl (by assumption) (by assumption) trivial ?_ ?_
  · intro i v m₁ h tk own hv _ F2 N2
    obtain ⟨p, hp⟩ := ht v (List.mem_of_getElem? hv)
    k_steps
    exact InvEnd.intro (by assumption) (by assumption) (fun _ h => h) trivial
  · intro m₁ h tk _ F2 N2
    (try dsimp only)
    k_steps
    exact hR _ _ F2.keep
theorem check_bad {l : Addr} {vs : List Value} {k : Nat} {b : Value} (H : At w mean mg mb dp un gd base outer s.heap) (hd : dp + 14 < recursionLimit) (hu : un + 80 < cLine) (hl : SeqAt s.heap l vs) (hk : vs[k]? = some b) (hb : b ∈ badVs)
   (ht : ∀ i v, i < k → vs[i]? = some v → ∃ p, TokV s.heap v p)
   (hR : ∀ h' tk e, Flown base outer s.heap h' e → R (.error (.ref e)) { s with heap := h', toks := tk }) :
   codeAny (model prg w) (Arr dp un gd outer) (.call (.ref 81) ⟨[.ref l], []⟩) R s := by
  obtain ⟨hB, hK, hT⟩ := id H
  k_dflt (refine' enter0 (binds := [(Str.ofString "tokens", .ref l)]) ?k1 ?k6 ?k7 ?k8 ?k9 ?kB ?_ ?c2 ?c3 ?c4 ?c5; (case k1 => assumption); (case k6 => k_is); (case k7 => k_is); (case k8 => ktr_room); (case k9 => exact BindsTo.of_eq rfl); (case c5 => decide); (case kB => exact locs rfl); (case c2 => exact rfl); (case c3 => exact rfl); (case c4 => exact rfl); k_whole)
  intro g L' h1 eg eL F N B X T
  subst eg eL
  (try dsimp only); (try k_fold)
  k_steps
  refine iter_seq (fun i _ => i ≤ k) rfl hl (by assumption) (by assumption) (Nat.zero_le _) ?_ ?_
  · intro i v m₁ h tk own hv hi F2 N2
    by_cases hik : i < k
    · obtain ⟨p, hp⟩ := ht i v hik hv
      k_steps
      exact InvEnd.intro (by assumption) (by assumption) (fun _ h => h) hik
    · obtain rfl : i = k := by omega
      obtain rfl : v = b := by rw [hk] at hv; exact (Option.some.inj hv).symm
      k_steps
      rename Fr _ _ _ _ => FF
      rename _ = some (exc45 _ _) => oo
      rename _ = none => nn
      rename (∀ (b : Addr) (o : Obj), Heap.get? _ b = some o → Heap.get? _ b = some o) => kk
      exact ⟨_, _, _, rfl, X.keeps FF.keep, oo, leave45 rfl rfl B (by assumption) kk nn oo fun h' fl => hR _ _ _ fl⟩
  · intro m₁ h tk hj F2 N2
    exfalso
    obtain ⟨hlt, _⟩ := List.getElem?_eq_some_iff.mp hk
    omega
end
theorem fresh_SqT8 : True := by w_top off; trivial
section
variable {w : World} {mean : ExcName → Option Value} {mg mb : Str → Option Value} {dp un : Nat} {gd : Option (List Code)} {base g : Heap} {outer : List Env} {s : Shared} {R : Result → Shared → Prop} {L : Addr} {m : Str → Option Value} {env : Env} {news : List (Addr × Obj)} {Q E : Value → Shared → Prop}
theorem use_check {l : Addr} {vs : List Value} (hl : SeqAt g l vs) (ht : ∀ v ∈ vs, ∃ p, TokV g v p) (B : Below (Arr dp un gd outer) base outer g) (F : Fr g L s.heap m) (N : News g L s.heap news) (X : (hd.heap_39 w.params).In g) (T : Top topProg looseS mean mg mb g) (hf : env.frame = some L) (hk : env.scope.kind = .function)
   (hd : dp + 7 < recursionLimit) (hu : un + 48 < cLine)
   (h : ∀ h' tk, Fr g L h' m → News g L h' news → Q .none { s with heap := h', toks := tk }) :
   wpAny (model prg w) ((Arr dp un gd outer).deeper env) (call (.ref 81) [.ref l]) Q E s :=
  wpAny_call (check_ok (dp := dp + 1) (un := un + 3) (at_in hf hk B F X T) (by k_sizes) (by k_sizes) (hl.keeps F.keep) (fun v hv => let ⟨p, hp⟩ := ht v hv; ⟨p, hp.keeps F.keep⟩) fun h' tk hk => h h' tk (F.keeps hk) fun p hp => ⟨hk _ _ (N p hp).1, (N p hp).2⟩)
theorem use_check_bad {l : Addr} {vs : List Value} {k : Nat} {b : Value} (hl : SeqAt g l vs) (hkb : vs[k]? = some b) (hb : b ∈ badVs) (ht : ∀ i v, i < k → vs[i]? = some v → ∃ p, TokV g v p) (B : Below (Arr dp un gd outer) base outer g) (F : Fr g L s.heap m) (X : (hd.heap_39 w.params).In g) (T : Top topProg looseS mean mg mb g) (hf : env.frame = some L) (hk : env.scope.kind = .function)
   (hd : dp + 16 < recursionLimit) (hu : un + 88 < cLine)
   (h : ∀ h' tk e, Flown base (env :: outer) s.heap h' e → E (.ref e) { s with heap := h', toks := tk }) :
   wpAny (model prg w) ((Arr dp un gd outer).deeper env) (call (.ref 81) [.ref l]) Q E s :=
  wpAny_call (check_bad (dp := dp + 1) (un := un + 3) (at_in hf hk B F X T) (by k_sizes) (by k_sizes) (hl.keeps F.keep) hkb hb (fun i v hi hv => let ⟨p, hp⟩ := ht i v hi hv; ⟨p, hp.keeps F.keep⟩) h)
theorem list_of_seq {l : Addr} {vs : List Value} {prog : Program} {A : Around} (hl : SeqAt g l vs) (F : Fr g L s.heap m) (N : News g L s.heap news)
    (h : ∀ D c h', Fr g L h' m → News g L h' ((D, listOf vs.toArray c) :: news) → (∀ q ∈ news, q.1 < D) → Q (.ref D) { s with heap := h' }) (hsz : vs.toArray.size ≤ sizeLine) :
    wpAny (model prog w) A (call (.type "list") [.ref l]) Q E s := by
  rcases hl.keeps F.keep with hl | hl
  · exact list_copyK F N hl h hsz
  · exact list_copyKT F N hl h hsz
theorem rev_slice {hp : Heap} {gs : Array GenState} {dn : Drawn} {tk : Nat} {os : OsState} {prog : Program} {A : Around} {l : Addr} {vs : List Value} {c : Nat} {vk : Value} {value slice : PySem.Expr} {ops : List Value} (F : Fr g L hp m) (N : News g L hp news) (hm : (l, listOf vs.toArray c) ∈ news) (pk : IsPart vk (some (-1)))
    (h : ∀ D h', Fr g L h' m → News g L h' ((D, listOf vs.reverse.toArray 0) :: news) → (∀ p ∈ news, p.1 < D) → Q (.ref D) ⟨h', gs, dn, tk, os⟩)
    (hs : subscripted slice false (.ref l) (.ref hp.objs.size) = operate ops (getItem (.ref l) (.ref hp.objs.size))) (ht : ∀ r, letTemporaryGo value (.ref l) r = pure ()) (hz : vs.length ≤ sizeLine) :
    wpAny (model prog w) A (subscriptTail value slice (.ref l) (.ref hp.objs.size)) Q E ⟨hp.push { cls := .type "slice", data := .fields #[.none, .none, vk] }, gs, dn, tk, os⟩ :=
  krv_lit (s := ⟨hp, gs, dn, tk, os⟩) F N ⟨_, (N _ hm).1, rfl, _, rfl⟩ pk rfl h hs ht hz
end
local macro_rules | `(tactic| walk_at "subscriptTail Name Slice ref ref") => `(tactic| (kspl_eval rev_slice; k_keys))
local macro_rules | `(tactic| walk_at "call ref") => `(tactic| lcg_open use_check)
local macro_rules | `(tactic| walk_at "call type:list") => `(tactic| (kspl_eval list_of_seq; k_keys))
section
variable {w : World} {mean : ExcName → Option Value} {mg mb : Str → Option Value} {dp un : Nat} {gd : Option (List Code)} {base g : Heap} {outer : List Env} {s : Shared} {R : Result → Shared → Prop} {L : Addr} {m : Str → Option Value} {env : Env} {news : List (Addr × Obj)} {Q E : Value → Shared → Prop}
theorem fresh_of_hide {h g : Heap} {D : Addr} {Y : List Addr} (eg : g = hideAll h Y) (n : g.get? D = none) (hY : D ∉ Y) : h.get? D = none := by
  cases q : h.get? D with
  | none => rfl
  | some o => rw [eg, hideAll_get _ q hY] at n; cases n
noncomputable abbrev feedDict (P : Params) (r o : Addr) (t1 t2 : Tok) : Obj := dictOf [{ hash := PyData.keyHash P (Str.ofString "rest"), key := .str (Str.ofString "rest") t1, val := .ref r }, { hash := PyData.keyHash P (Str.ofString "outers"), key := .str (Str.ofString "outers") t2, val := .ref o }] 2
theorem init97 {x dx l o : Addr} {vs : List Value} {os : Array Value} (H : At w mean mg mb dp un gd base outer (hideAll s.heap [x, dx])) (hd : dp + 9 < recursionLimit) (hu : un + 60 < cLine)
   (hx : s.heap.get? x = some (instObj 135 dx)) (hdx : s.heap.get? dx = some (dictOf [] 0)) (hxd : dx < x)
   (hl : SeqAt (hideAll s.heap [x, dx]) l vs) (ht : ∀ v ∈ vs, ∃ p, TokV (hideAll s.heap [x, dx]) v p) (hz : vs.length ≤ 1000) (ho : IsTup (hideAll s.heap [x, dx]) o os)
   (hR : ∀ h' tk r t1 t2, (∀ b o, b ≠ x → b ≠ dx → s.heap.get? b = some o → h'.get? b = some o) → h'.get? x = some (instObj 135 dx) → h'.get? dx = some (feedDict w.params r o t1 t2) → h'.get? r = some (listOf vs.reverse.toArray 0) →
     s.heap.get? r = none → x < r → R (.ok (.ret .none)) { s with heap := h', toks := tk }) :
   codeAny (model prg w) (Arr dp un gd outer) (.call (.ref 97) ⟨[.ref x, .ref l, .ref o], []⟩) R s := by
  have sl := sizeLine_eq
  k_dflt (refine' enter (X := [(x, instObj 135 dx), (dx, dictOf [] 0)]) (binds := [(Str.ofString "self", .ref x), (Str.ofString "tokens", .ref l), (Str.ofString "outers", .ref o)]) ?k1 ?kX ?k6 ?k7 ?k8 ?k9 ?kB ?_ ?c2 ?c3 ?c4 ?c5; (case k1 => assumption); (case kX => (intro p hp; rcases List.mem_cons.mp hp with rfl | hp; exact hx; cases List.mem_singleton.mp hp; exact hdx)); (case k6 => k_is); (case k7 => k_is); (case k8 => ktr_room); (case k9 => exact BindsTo.of_defaults rfl (of_hideAll _ (H.K _ _ (by k_is))) rfl rfl rfl); (case c5 => decide); (case kB => exact locs rfl); (case c2 => exact rfl); (case c3 => exact rfl); (case c4 => exact rfl); k_whole)
  intro g L' h1 eg eL F N B X T
  have hl' : SeqAt g l vs := eg ▸ hl
  have ht' : ∀ v ∈ vs, ∃ p, TokV g v p := eg ▸ ht
  have ho' : IsTup g o os := eg ▸ ho
  subst eL
  k_lt2 hxd
  (try dsimp only); (try k_fold)
  k_steps
  rename Fr _ _ _ _ => FF
  rename News _ _ _ _ => NN
  rename _ ∧ _ ∧ _ => ll
  have nr := (NN _ (.head _)).2.2
  refine hR _ _ _ _ _ (fun b o h1 h2 q => FF.keep b o ?_) (NN _ (.tail _ (.tail _ (.head _)))).1 (NN _ (.tail _ (.tail _ (.tail _ (.head _))))).1 (NN _ (.head _)).1 ?_ ll.2.1
  · rw [eg]; exact hideAll_get _ q (by simp [h1, h2])
  · refine fresh_of_hide eg nr fun hm => ?_
    simp only [List.map_cons, List.map_nil, List.mem_cons, List.not_mem_nil, or_false] at hm
    rcases hm with q | q
    · have := ll.2.1; rw [q] at this; exact Nat.lt_irrefl _ this
    · have := ll.2.2; rw [q] at this; exact Nat.lt_irrefl _ this
end
theorem fresh_SqT9 : True := by w_top off; trivial
section
variable {prog : Program} {w : World} {A : Around} {base g : Heap} {outer : List Env} {s : Shared} {L : Addr} {m : Str → Option Value} {env : Env} {news news' : List (Addr × Obj)} {Q E : Value → Shared → Prop}
theorem len_vals {a : Addr} {vs : List Value} {n : Nat} (F : Fr g L s.heap m) (N : News g L s.heap news) (hm : (a, listOf vs.toArray n) ∈ news) (hz : vs.length ≤ 1000000)
    (h : ∀ tk, Q (.int (vs.length : Int) (s.toks + 1)) { s with toks := tk }) : wpAny (model prog w) A (call (.builtin "len") [.ref a]) Q E s := by
  have hl : s.heap.IsList a vs.toArray := ⟨_, (N _ hm).1, rfl, _, rfl⟩
  have e : (List.toArray vs).size = vs.length := List.size_toArray ..
  exact call_len_list hl (by rw [e]; omega) (by rw [e]; exact h _)
theorem pop_vals {a : Addr} {us : List Value} {v : Value} {n : Nat} (F : Fr g L s.heap m) (N : News g L s.heap news) (U : Upd a (listOf (us ++ [v]).toArray n) (listOf us.toArray (n + 1)) news news') (hz : us.length ≤ 1000000)
    (h : ∀ h', Fr g L h' m → News g L h' news' → Q v { s with heap := h' }) : wpAny (model prog w) A (call (.builtin "list.pop") [.ref a]) Q E s :=
  kl_pop F N (kpa_last v us) U (by rw [sizeLine_eq]; simp; omega) h
theorem append_vals {a : Addr} {vs : List Value} {v : Value} {n : Nat} (F : Fr g L s.heap m) (N : News g L s.heap news) (U : Upd a (listOf vs.toArray n) (listOf (vs ++ [v]).toArray (n + 1)) news news') (hz : vs.length ≤ 1000000)
    (h : ∀ h', Fr g L h' m → News g L h' news' → Q .none { s with heap := h' }) : wpAny (model prog w) A (call (.builtin "list.append") [.ref a, v]) Q E s :=
  append_K F N (by rw [List.push_toArray]; exact U) h (by rw [List.size_toArray, sizeLine_eq]; omega)
theorem extend_vals {news' : Nat → List (Addr × Obj)} {a b : Addr} {vs us : List Value} {n c : Nat} (F : Fr g L s.heap m) (N : News g L s.heap news) (hb : (b, listOf us.toArray c) ∈ news) (U : ∀ k, Upd a (listOf vs.toArray n) (listOf (vs ++ us).toArray k) news (news' k)) (hz : vs.length ≤ 1000000) (hz2 : us.length ≤ 1000000)
    (h : ∀ h' k, Fr g L h' m → News g L h' (news' k) → Q .none { s with heap := h' }) : wpAny (model prog w) A (call (.builtin "list.extend") [.ref a, .ref b]) Q E s := by
  have hd : ¬(!vs.toArray.isEmpty && Builtin.List.listTooLong (vs.toArray.size + us.toArray.size)) = true := by
    rw [Bool.and_eq_true]
    rintro ⟨-, q⟩
    revert q
    simp only [List.size_toArray]
    unfold Builtin.List.listTooLong
    simp only [decide_eq_true_eq]
    have := sizeLine_eq
    omega
  by_cases hu : us = []
  · subst hu
    have U' := U n
    rw [List.append_nil] at U'
    exact kxn_extend F N hb (by simp) U' hd (by rw [sizeLine_eq]; simp; omega) (by rw [sizeLine_eq]; simp; omega) fun h' F' N' => h h' n F' N'
  · exact kl_extend (l := vs ++ us) F N hb (by simp) (by simp [hu]) (U (n + 1)) hd (by rw [sizeLine_eq]; simp; omega) (by rw [sizeLine_eq]; simp; omega) fun h' F' N' => h h' _ F' N'
theorem keep_of {h h' : Heap} {X Y : List (Addr × Obj)} {r : Addr} (eg : g = hideAll h (X.map (·.1))) (F : Fr g L h' m) (N : News g L h' Y) (hX : ∀ p ∈ X, h.get? p.1 = some p.2) (hY : ∀ p ∈ X, p.1 ≠ r → p ∈ Y) :
    ∀ b o, b ≠ r → h.get? b = some o → h'.get? b = some o := by
  intro b o hb q
  by_cases hm : b ∈ X.map (·.1)
  · obtain ⟨p, hp, rfl⟩ := List.mem_map.mp hm
    have := hX p hp
    rw [q] at this
    have e : o = p.2 := Option.some.inj this
    rw [e]; exact (N p (hY p hp hb)).1
  · exact F.keep b o (by rw [eg]; exact hideAll_get _ q hm)
theorem keep_all {h h' : Heap} {X Y : List (Addr × Obj)} (eg : g = hideAll h (X.map (·.1))) (F : Fr g L h' m) (N : News g L h' Y) (hX : ∀ p ∈ X, h.get? p.1 = some p.2) (hY : ∀ p ∈ X, p ∈ Y) :
    ∀ b o, h.get? b = some o → h'.get? b = some o := by
  intro b o q
  by_cases hm : b ∈ X.map (·.1)
  · obtain ⟨p, hp, rfl⟩ := List.mem_map.mp hm
    have := hX p hp
    rw [q] at this
    have e : o = p.2 := Option.some.inj this
    rw [e]; exact (N p (hY p hp)).1
  · exact F.keep b o (by rw [eg]; exact hideAll_get _ q hm)
end
local macro_rules | `(tactic| walk_at "call builtin:len") => `(tactic| lcg_open len_vals)
local macro_rules | `(tactic| walk_at "call builtin:list.pop") => `(tactic| cb_end pop_vals)
local macro_rules | `(tactic| walk_at "call builtin:list.append") => `(tactic| cb_end append_vals)
local macro_rules | `(tactic| walk_at "call builtin:list.extend") => `(tactic| cb_end extend_vals)
section
variable {w : World} {mean : ExcName → Option Value} {mg mb : Str → Option Value} {dp un : Nat} {gd : Option (List Code)} {base g : Heap} {outer : List Env} {s : Shared} {R : Result → Shared → Prop} {L : Addr} {m : Str → Option Value} {env : Env} {news : List (Addr × Obj)} {Q E : Value → Shared → Prop}
theorem next_some {x dx r o : Addr} {t1 t2 : Tok} {us : List Value} {v : Value} {n : Nat} (H : At w mean mg mb dp un gd base outer (hideAll s.heap [x, dx, r])) (hd : dp + 20 < recursionLimit) (hu : un + 100 < cLine)
   (hx : s.heap.get? x = some (instObj 135 dx)) (hdx : s.heap.get? dx = some (feedDict w.params r o t1 t2)) (hr : s.heap.get? r = some (listOf (us ++ [v]).toArray n)) (h1 : dx < x) (h2 : x < r) (hz : us.length ≤ 1000)
   (hR : ∀ h' tk, (∀ b o, b ≠ r → s.heap.get? b = some o → h'.get? b = some o) → h'.get? r = some (listOf us.toArray (n + 1)) → R (.ok (.ret v)) { s with heap := h', toks := tk }) :
   codeAny (model prg w) (Arr dp un gd outer) (.call (.ref 104) ⟨[.ref x], []⟩) R s := by
  have hX : ∀ p ∈ [(x, instObj 135 dx), (dx, feedDict w.params r o t1 t2), (r, listOf (us ++ [v]).toArray n)], s.heap.get? p.1 = some p.2 := List.forall_mem_cons.mpr ⟨hx, List.forall_mem_cons.mpr ⟨hdx, List.forall_mem_cons.mpr ⟨hr, fun _ hp => nomatch hp⟩⟩⟩
  have sl := sizeLine_eq
  k_dflt (refine' enter (X := [(x, instObj 135 dx), (dx, feedDict w.params r o t1 t2), (r, listOf (us ++ [v]).toArray n)]) (binds := [(Str.ofString "self", .ref x)]) ?k1 ?kX ?k6 ?k7 ?k8 ?k9 ?kB ?_ ?c2 ?c3 ?c4 ?c5; (case k1 => assumption); (case kX => exact hX); (case k6 => k_is); (case k7 => k_is); (case k8 => ktr_room); (case k9 => exact BindsTo.of_eq rfl); (case c5 => decide); (case kB => exact locs rfl); (case c2 => exact rfl); (case c3 => exact rfl); (case c4 => exact rfl); k_whole)
  intro g L' h1' eg eL F N B X T
  subst eL
  k_lt2 h1
  k_lt2 h2
  have hz' : (us ++ [v]).length ≤ 1001 := by simp; omega
  (try dsimp only); (try k_fold)
  k_steps
  · exfalso
    rename (_ : Int) = 0 => q
    simp at q
    omega
  · skip
    rename Fr _ _ _ _ => FF
    rename News _ _ _ _ => NN
    have kp := keep_of (r := r) eg FF NN hX (by
      intro p hp hz
      simp only [List.mem_cons, List.not_mem_nil, or_false] at hp ⊢
      rcases hp with rfl | rfl | rfl
      · simp
      · simp
      · exact absurd rfl hz)
    exact hR _ _ kp (NN _ (.tail _ (.tail _ (.head _)))).1
theorem next_none {x dx r o : Addr} {t1 t2 : Tok}  {n : Nat} (H : At w mean mg mb dp un gd base outer (hideAll s.heap [x, dx, r])) (hd : dp + 20 < recursionLimit) (hu : un + 100 < cLine)
   (hx : s.heap.get? x = some (instObj 135 dx)) (hdx : s.heap.get? dx = some (feedDict w.params r o t1 t2)) (hr : s.heap.get? r = some (listOf ([] : List Value).toArray n)) (h1 : dx < x) (h2 : x < r) 
   (hR : ∀ h' tk, (∀ b o, s.heap.get? b = some o → h'.get? b = some o) → R (.ok (.ret .none)) { s with heap := h', toks := tk }) :
   codeAny (model prg w) (Arr dp un gd outer) (.call (.ref 104) ⟨[.ref x], []⟩) R s := by
  have hX : ∀ p ∈ [(x, instObj 135 dx), (dx, feedDict w.params r o t1 t2), (r, listOf ([] : List Value).toArray n)], s.heap.get? p.1 = some p.2 := List.forall_mem_cons.mpr ⟨hx, List.forall_mem_cons.mpr ⟨hdx, List.forall_mem_cons.mpr ⟨hr, fun _ hp => nomatch hp⟩⟩⟩
  have sl := sizeLine_eq
  k_dflt (refine' enter (X := [(x, instObj 135 dx), (dx, feedDict w.params r o t1 t2), (r, listOf ([] : List Value).toArray n)]) (binds := [(Str.ofString "self", .ref x)]) ?k1 ?kX ?k6 ?k7 ?k8 ?k9 ?kB ?_ ?c2 ?c3 ?c4 ?c5; (case k1 => assumption); (case kX => exact hX); (case k6 => k_is); (case k7 => k_is); (case k8 => ktr_room); (case k9 => exact BindsTo.of_eq rfl); (case c5 => decide); (case kB => exact locs rfl); (case c2 => exact rfl); (case c3 => exact rfl); (case c4 => exact rfl); k_whole)
  intro g L' h1' eg eL F N B X T
  subst eL
  k_lt2 h1
  k_lt2 h2
  have hz' : ([] : List Value).length ≤ 1001 := by simp
  (try dsimp only); (try k_fold)
  k_steps
  · skip
    rename Fr _ _ _ _ => FF
    rename News _ _ _ _ => NN
    have kp := keep_all eg FF NN hX (by
      intro p hp
      simp only [List.mem_cons, List.not_mem_nil, or_false] at hp ⊢
      rcases hp with rfl | rfl | rfl <;> simp)
    exact hR _ _ kp
theorem back_ok {x dx r o : Addr} {t1 t2 : Tok} {us : List Value} {v : Value} {p : Int × Int} {n : Nat} (H : At w mean mg mb dp un gd base outer (hideAll s.heap [x, dx, r])) (hd : dp + 20 < recursionLimit) (hu : un + 100 < cLine)
   (hx : s.heap.get? x = some (instObj 135 dx)) (hdx : s.heap.get? dx = some (feedDict w.params r o t1 t2)) (hr : s.heap.get? r = some (listOf us.toArray n)) (h1 : dx < x) (h2 : x < r) (hz : us.length ≤ 1000) (hv : TokV (hideAll s.heap [x, dx, r]) v p)
   (hR : ∀ h' tk n', (∀ b o, b ≠ r → s.heap.get? b = some o → h'.get? b = some o) → h'.get? r = some (listOf (us ++ [v]).toArray n') → R (.ok (.ret .none)) { s with heap := h', toks := tk }) :
   codeAny (model prg w) (Arr dp un gd outer) (.call (.ref 111) ⟨[.ref x, v], []⟩) R s := by
  have hX : ∀ p ∈ [(x, instObj 135 dx), (dx, feedDict w.params r o t1 t2), (r, listOf us.toArray n)], s.heap.get? p.1 = some p.2 := List.forall_mem_cons.mpr ⟨hx, List.forall_mem_cons.mpr ⟨hdx, List.forall_mem_cons.mpr ⟨hr, fun _ hp => nomatch hp⟩⟩⟩
  have sl := sizeLine_eq
  k_dflt (refine' enter (X := [(x, instObj 135 dx), (dx, feedDict w.params r o t1 t2), (r, listOf us.toArray n)]) (binds := [(Str.ofString "self", .ref x), (Str.ofString "token", v)]) ?k1 ?kX ?k6 ?k7 ?k8 ?k9 ?kB ?_ ?c2 ?c3 ?c4 ?c5; (case k1 => assumption); (case kX => exact hX); (case k6 => k_is); (case k7 => k_is); (case k8 => ktr_room); (case k9 => exact BindsTo.of_eq rfl); (case c5 => decide); (case kB => exact locs rfl); (case c2 => exact rfl); (case c3 => exact rfl); (case c4 => exact rfl); k_whole)
  intro g L' h1' eg eL F N B X T
  subst eL
  k_lt2 h1
  k_lt2 h2
  have hv' : TokV g v p := eg ▸ hv
  (try dsimp only); (try k_fold)
  k_steps
  · skip
    rename Fr _ _ _ _ => FF
    rename News _ _ _ _ => NN
    have kp := keep_of (r := r) eg FF NN hX (by
      intro p hp hz
      simp only [List.mem_cons, List.not_mem_nil, or_false] at hp ⊢
      rcases hp with rfl | rfl | rfl
      · simp
      · simp
      · exact absurd rfl hz)
    exact hR _ _ _ kp (NN _ (.tail _ (.tail _ (.head _)))).1
theorem push_ok {x dx r o : Addr} {t1 t2 : Tok} {us vs : List Value} {l : Addr} {n : Nat} (H : At w mean mg mb dp un gd base outer (hideAll s.heap [x, dx, r])) (hd : dp + 20 < recursionLimit) (hu : un + 100 < cLine)
   (hx : s.heap.get? x = some (instObj 135 dx)) (hdx : s.heap.get? dx = some (feedDict w.params r o t1 t2)) (hr : s.heap.get? r = some (listOf us.toArray n)) (h1 : dx < x) (h2 : x < r) (hz : us.length ≤ 1000) (hz2 : vs.length ≤ 1000) (hl : SeqAt (hideAll s.heap [x, dx, r]) l vs) (ht : ∀ v ∈ vs, ∃ p, TokV (hideAll s.heap [x, dx, r]) v p)
   (hR : ∀ h' tk n', (∀ b o, b ≠ r → s.heap.get? b = some o → h'.get? b = some o) → h'.get? r = some (listOf (us ++ vs.reverse).toArray n') → R (.ok (.ret .none)) { s with heap := h', toks := tk }) :
   codeAny (model prg w) (Arr dp un gd outer) (.call (.ref 118) ⟨[.ref x, .ref l], []⟩) R s := by
  have hX : ∀ p ∈ [(x, instObj 135 dx), (dx, feedDict w.params r o t1 t2), (r, listOf us.toArray n)], s.heap.get? p.1 = some p.2 := List.forall_mem_cons.mpr ⟨hx, List.forall_mem_cons.mpr ⟨hdx, List.forall_mem_cons.mpr ⟨hr, fun _ hp => nomatch hp⟩⟩⟩
  have sl := sizeLine_eq
  k_dflt (refine' enter (X := [(x, instObj 135 dx), (dx, feedDict w.params r o t1 t2), (r, listOf us.toArray n)]) (binds := [(Str.ofString "self", .ref x), (Str.ofString "tokens", .ref l)]) ?k1 ?kX ?k6 ?k7 ?k8 ?k9 ?kB ?_ ?c2 ?c3 ?c4 ?c5; (case k1 => assumption); (case kX => exact hX); (case k6 => k_is); (case k7 => k_is); (case k8 => ktr_room); (case k9 => exact BindsTo.of_eq rfl); (case c5 => decide); (case kB => exact locs rfl); (case c2 => exact rfl); (case c3 => exact rfl); (case c4 => exact rfl); k_whole)
  intro g L' h1' eg eL F N B X T
  subst eL
  k_lt2 h1
  k_lt2 h2
  have hl' : SeqAt g l vs := eg ▸ hl
  have ht' : ∀ v ∈ vs, ∃ p, TokV g v p := eg ▸ ht
  (try dsimp only); (try k_fold)
  k_steps
  · skip
    rename Fr _ _ _ _ => FF
    rename News _ _ _ _ => NN
    have kp := keep_of (r := r) eg FF NN hX (by
      intro p hp hz
      simp only [List.mem_cons, List.not_mem_nil, or_false] at hp ⊢
      rcases hp with rfl | rfl | rfl
      · simp
      · simp
      · exact absurd rfl hz)
    exact hR _ _ _ kp (NN _ (.tail _ (.tail _ (.tail _ (.tail _ (.head _)))))).1
theorem left_ok {x dx r o : Addr} {t1 t2 : Tok} {us : List Value} {n : Nat} (H : At w mean mg mb dp un gd base outer (hideAll s.heap [x, dx, r])) (hd : dp + 20 < recursionLimit) (hu : un + 100 < cLine)
   (hx : s.heap.get? x = some (instObj 135 dx)) (hdx : s.heap.get? dx = some (feedDict w.params r o t1 t2)) (hr : s.heap.get? r = some (listOf us.toArray n)) (h1 : dx < x) (h2 : x < r) (hz : us.length ≤ 1000)
   (hR : ∀ h' tk D, (∀ b o, s.heap.get? b = some o → h'.get? b = some o) → s.heap.get? D = none → h'.get? D = some (listOf us.reverse.toArray 0) → R (.ok (.ret (.ref D))) { s with heap := h', toks := tk }) :
   codeAny (model prg w) (Arr dp un gd outer) (.call (.ref 125) ⟨[.ref x], []⟩) R s := by
  have hX : ∀ p ∈ [(x, instObj 135 dx), (dx, feedDict w.params r o t1 t2), (r, listOf us.toArray n)], s.heap.get? p.1 = some p.2 := List.forall_mem_cons.mpr ⟨hx, List.forall_mem_cons.mpr ⟨hdx, List.forall_mem_cons.mpr ⟨hr, fun _ hp => nomatch hp⟩⟩⟩
  have sl := sizeLine_eq
  k_dflt (refine' enter (X := [(x, instObj 135 dx), (dx, feedDict w.params r o t1 t2), (r, listOf us.toArray n)]) (binds := [(Str.ofString "self", .ref x)]) ?k1 ?kX ?k6 ?k7 ?k8 ?k9 ?kB ?_ ?c2 ?c3 ?c4 ?c5; (case k1 => assumption); (case kX => exact hX); (case k6 => k_is); (case k7 => k_is); (case k8 => ktr_room); (case k9 => exact BindsTo.of_eq rfl); (case c5 => decide); (case kB => exact locs rfl); (case c2 => exact rfl); (case c3 => exact rfl); (case c4 => exact rfl); k_whole)
  intro g L' h1' eg eL F N B X T
  subst eL
  k_lt2 h1
  k_lt2 h2
  (try dsimp only); (try k_fold)
  k_steps
  · skip
    rename Fr _ _ _ _ => FF
    rename News _ _ _ _ => NN
    have kp := keep_all eg FF NN hX (by
      intro p hp
      simp only [List.mem_cons, List.not_mem_nil, or_false] at hp ⊢
      rcases hp with rfl | rfl | rfl <;> simp)
    rename _ ∧ _ ∧ _ => ll
    refine hR _ _ _ kp (fresh_of_hide eg (NN _ (.head _)).2.2 fun hm => ?_) (NN _ (.head _)).1
    simp only [List.map_cons, List.map_nil, List.mem_cons, List.not_mem_nil, or_false] at hm
    rcases hm with q | q | q
    · have := ll.1; rw [q] at this; exact Nat.lt_irrefl _ this
    · have := ll.2.1; rw [q] at this; exact Nat.lt_irrefl _ this
    · have := ll.2.2; rw [q] at this; exact Nat.lt_irrefl _ this
end
theorem fresh_SqT10 : True := by w_top off; trivial
noncomputable def tokD (p : Int × Int) : PyData := .tuple [.int p.1, .int p.2]
theorem tokD_lay (p : Int × Int) : (tokD p).canLay0 = true := by simp [tokD, PyData.canLay0, PyData.canLayAll0]
theorem tokD_layAll : ∀ ps : List (Int × Int), PyData.canLayAll0 (ps.map tokD) = true
  | [] => by simp [PyData.canLayAll0]
  | p :: ps => by simp [PyData.canLayAll0, tokD_lay, tokD_layAll ps]
theorem tokD_depth (p : Int × Int) : (tokD p).depth = 1 := by simp [tokD, PyData.depth, PyData.depthAll]
theorem tokD_depthAll : ∀ ps : List (Int × Int), PyData.depthAll (ps.map tokD) ≤ 1
  | [] => by simp [PyData.depthAll]
  | p :: ps => by
    have := tokD_depthAll ps
    simp only [List.map_cons, PyData.depthAll, tokD_depth]
    omega
def TokL (h : Heap) : List Value → List (Int × Int) → Prop
  | [], [] => True
  | v :: vs, p :: ps => TokV h v p ∧ TokL h vs ps
  | _, _ => False
theorem TokV.reads {h : Heap} {v : Value} {p : Int × Int} (x : TokV h v p) : Reads h v (tokD p) [] := by
  obtain ⟨a, t1, t2, rfl, ⟨o, ho, hc, n, hd⟩, _⟩ := x
  exact .tuple ho hc hd (by simpa using ReadsAll.cons (.int p.1 t1) (ReadsAll.cons (.int p.2 t2) .nil))
theorem TokL.length {h : Heap} : ∀ {vs : List Value} {ps : List (Int × Int)}, TokL h vs ps → vs.length = ps.length
  | [], [], _ => rfl
  | _ :: _, _ :: _, ⟨_, r⟩ => by simp [r.length]
  | [], _ :: _, x => x.elim
  | _ :: _, [], x => x.elim
theorem TokL.reads {h : Heap} : ∀ {vs : List Value} {ps : List (Int × Int)}, TokL h vs ps → ReadsAll h vs (ps.map tokD) []
  | [], [], _ => .nil
  | _ :: _, _ :: _, ⟨a, r⟩ => by simpa using ReadsAll.cons a.reads r.reads
  | [], _ :: _, x => x.elim
  | _ :: _, [], x => x.elim
theorem TokL.keeps {h h' : Heap} (k : ∀ b o, h.get? b = some o → h'.get? b = some o) : ∀ {vs : List Value} {ps : List (Int × Int)}, TokL h vs ps → TokL h' vs ps
  | [], [], _ => trivial
  | _ :: _, _ :: _, ⟨a, r⟩ => ⟨a.keeps k, r.keeps k⟩
  | [], _ :: _, x => x.elim
  | _ :: _, [], x => x.elim
theorem TokL.all {h : Heap} : ∀ {vs : List Value} {ps : List (Int × Int)}, TokL h vs ps → ∀ v ∈ vs, ∃ p, TokV h v p
  | [], [], _, _, hv => nomatch hv
  | _ :: _, _ :: _, ⟨a, r⟩, v, hv => by
    rcases List.mem_cons.mp hv with rfl | hv
    · exact ⟨_, a⟩
    · exact r.all v hv
  | [], _ :: _, x, _, _ => x.elim
  | _ :: _, [], x, _, _ => x.elim
theorem TokL.append {h : Heap} {us : List Value} {qs : List (Int × Int)} (y : TokL h us qs) : ∀ {vs : List Value} {ps : List (Int × Int)}, TokL h vs ps → TokL h (vs ++ us) (ps ++ qs)
  | [], [], _ => y
  | _ :: _, _ :: _, ⟨a, r⟩ => ⟨a, TokL.append y r⟩
  | [], _ :: _, x => x.elim
  | _ :: _, [], x => x.elim
theorem TokL.of_all {h : Heap} : ∀ {vs : List Value}, (∀ v ∈ vs, ∃ p, TokV h v p) → ∃ ps, TokL h vs ps
  | [], _ => ⟨[], trivial⟩
  | v :: vs, x => by
    obtain ⟨p, hp⟩ := x v (.head _)
    obtain ⟨ps, hps⟩ := TokL.of_all (fun v hv => x v (.tail _ hv))
    exact ⟨p :: ps, hp, hps⟩
theorem TokL.list {h : Heap} {a : Addr} {vs : List Value} {ps : List (Int × Int)} {n : Nat} (x : TokL h vs ps) (e : h.get? a = some (listOf vs.toArray n)) : Reads h (.ref a) (.list (ps.map tokD)) [a] :=
  .list e rfl rfl (by simpa using x.reads)
theorem eqv_toks (ps : List (Int × Int)) : PyData.eqv (.list (ps.map tokD)) (.list (ps.map tokD)) = true := PySem.SeqAt.eqv_refl _ (by simp [PyData.canLay0, tokD_layAll])
section
variable {prog : Program} {w : World} {mean : ExcName → Option Value} {mg mb : Str → Option Value} {A : Around} {base g : Heap} {outer : List Env} {s : Shared} {L : Addr} {m : Str → Option Value} {env : Env} {news news' : List (Addr × Obj)} {Q E : Value → Shared → Prop}
theorem in_outers {o : Addr} {v : Value} {qs : List (Int × Int)} {p : Int × Int} (F : Fr g L s.heap m) (rc : Reads g (.ref o) (.tuple (qs.map tokD)) []) (rx : Reads g v (tokD p) []) (hu : A.units + 2 < cLine)
    (h : Q (.bool ((qs.map tokD).any fun y => PyData.eqv y (tokD p))) s) : wpAny (model prog w) A (compareOp .In v (.ref o)) Q E s :=
  PySem.SeqAt.in_tuple_reads (PyProof.Rows.Reads.keeps F.keep rc) (PyProof.Rows.Reads.keeps F.keep rx) (tokD_layAll _) (tokD_lay _) (by have := tokD_depth p; omega) h
end
local macro_rules | `(tactic| walk_at "compareOp In") => `(tactic| kspl_eval in_outers)
local macro_rules | `(tactic| walk_at "call ref") => `(tactic| lcg_open use_check_bad)
section
variable {w : World} {mean : ExcName → Option Value} {mg mb : Str → Option Value} {dp un : Nat} {gd : Option (List Code)} {base g : Heap} {outer : List Env} {s : Shared} {R : Result → Shared → Prop} {L : Addr} {m : Str → Option Value} {env : Env} {news : List (Addr × Obj)} {Q E : Value → Shared → Prop}
theorem is_outer_ok {x dx r o : Addr} {t1 t2 : Tok} {v : Value} {qs : List (Int × Int)} {p : Int × Int} (H : At w mean mg mb dp un gd base outer (hideAll s.heap [x, dx])) (hd : dp + 20 < recursionLimit) (hu : un + 100 < cLine)
   (hx : s.heap.get? x = some (instObj 135 dx)) (hdx : s.heap.get? dx = some (feedDict w.params r o t1 t2)) (h1 : dx < x)
   (rc : Reads (hideAll s.heap [x, dx]) (.ref o) (.tuple (qs.map tokD)) []) (rx : Reads (hideAll s.heap [x, dx]) v (tokD p) [])
   (hR : ∀ h' tk, (∀ b o, s.heap.get? b = some o → h'.get? b = some o) → R (.ok (.ret (.bool ((qs.map tokD).any fun y => PyData.eqv y (tokD p))))) { s with heap := h', toks := tk }) :
   codeAny (model prg w) (Arr dp un gd outer) (.call (.ref 132) ⟨[.ref x, v], []⟩) R s := by
  have hX : ∀ p ∈ [(x, instObj 135 dx), (dx, feedDict w.params r o t1 t2)], s.heap.get? p.1 = some p.2 := List.forall_mem_cons.mpr ⟨hx, List.forall_mem_cons.mpr ⟨hdx, fun _ hp => nomatch hp⟩⟩
  have sl := sizeLine_eq
  k_dflt (refine' enter (X := [(x, instObj 135 dx), (dx, feedDict w.params r o t1 t2)]) (binds := [(Str.ofString "self", .ref x), (Str.ofString "token", v)]) ?k1 ?kX ?k6 ?k7 ?k8 ?k9 ?kB ?_ ?c2 ?c3 ?c4 ?c5; (case k1 => assumption); (case kX => exact hX); (case k6 => k_is); (case k7 => k_is); (case k8 => ktr_room); (case k9 => exact BindsTo.of_eq rfl); (case c5 => decide); (case kB => exact locs rfl); (case c2 => exact rfl); (case c3 => exact rfl); (case c4 => exact rfl); k_whole)
  intro g L' h1' eg eL F N B X T
  have rc' : Reads g (.ref o) (.tuple (qs.map tokD)) [] := eg ▸ rc
  have rx' : Reads g v (tokD p) [] := eg ▸ rx
  subst eL
  k_lt2 h1
  (try dsimp only); (try k_fold)
  k_steps
  · skip
    rename Fr _ _ _ _ => FF
    rename News _ _ _ _ => NN
    have kp := keep_all eg FF NN hX (fun _ h => h)
    exact hR _ _ kp
theorem push_bad {x l : Addr} {vs : List Value} {k : Nat} {b : Value} (H : At w mean mg mb dp un gd base outer s.heap) (hd : dp + 20 < recursionLimit) (hu : un + 120 < cLine) (hl : SeqAt s.heap l vs) (hk : vs[k]? = some b) (hb : b ∈ badVs)
   (ht : ∀ i v, i < k → vs[i]? = some v → ∃ p, TokV s.heap v p)
   (hR : ∀ h' tk e, Flown base outer s.heap h' e → R (.error (.ref e)) { s with heap := h', toks := tk }) :
   codeAny (model prg w) (Arr dp un gd outer) (.call (.ref 118) ⟨[.ref x, .ref l], []⟩) R s := by
  obtain ⟨hB, hK, hT⟩ := id H
  k_dflt (refine' enter0 (binds := [(Str.ofString "self", .ref x), (Str.ofString "tokens", .ref l)]) ?k1 ?k6 ?k7 ?k8 ?k9 ?kB ?_ ?c2 ?c3 ?c4 ?c5; (case k1 => assumption); (case k6 => k_is); (case k7 => k_is); (case k8 => ktr_room); (case k9 => exact BindsTo.of_eq rfl); (case c5 => decide); (case kB => exact locs rfl); (case c2 => exact rfl); (case c3 => exact rfl); (case c4 => exact rfl); k_whole)
  intro g L' h1 eg eL F N B X T
  subst eg eL
  (try dsimp only); (try k_fold)
  k_steps
  rename Flown _ _ _ _ _ => fl
  exact leaveOn rfl B (by assumption) fl fun h' fl' => hR _ _ _ fl'
theorem init_bad {x l o : Addr} {vs : List Value} {k : Nat} {b : Value} (H : At w mean mg mb dp un gd base outer s.heap) (hd : dp + 20 < recursionLimit) (hu : un + 120 < cLine) (hl : SeqAt s.heap l vs) (hk : vs[k]? = some b) (hb : b ∈ badVs)
   (ht : ∀ i v, i < k → vs[i]? = some v → ∃ p, TokV s.heap v p)
   (hR : ∀ h' tk e, Flown base outer s.heap h' e → R (.error (.ref e)) { s with heap := h', toks := tk }) :
   codeAny (model prg w) (Arr dp un gd outer) (.call (.ref 97) ⟨[.ref x, .ref l], []⟩) R s := by
  obtain ⟨hB, hK, hT⟩ := id H
  k_dflt (refine' enter0 (binds := [(Str.ofString "self", .ref x), (Str.ofString "tokens", .ref l), (Str.ofString "outers", .ref 89)]) ?k1 ?k6 ?k7 ?k8 ?k9 ?kB ?_ ?c2 ?c3 ?c4 ?c5; (case k1 => assumption); (case k6 => k_is); (case k7 => k_is); (case k8 => ktr_room); (case k9 => exact BindsTo.of_defaults rfl (hK _ _ (by k_is)) rfl rfl rfl); (case c5 => decide); (case kB => exact locs rfl); (case c2 => exact rfl); (case c3 => exact rfl); (case c4 => exact rfl); k_whole)
  intro g L' h1 eg eL F N B X T
  subst eg eL
  (try dsimp only); (try k_fold)
  k_steps
  rename Flown _ _ _ _ _ => fl
  exact leaveOn rfl B (by assumption) fl fun h' fl' => hR _ _ _ fl'
end
theorem fresh_SqC : True := by w_top off; trivial
section
variable {w : World} {mean : ExcName → Option Value} {mg mb : Str → Option Value} {dp un : Nat} {gd : Option (List Code)} {base : Heap} {outer : List Env} {s : Shared} {R : Result → Shared → Prop}
theorem enterC {X : List (Addr × Obj)} {name qual : Str} {params : Arguments} {body : List Stmt} {scope : Scope} {dV kV doc pm cdv ct oc : Value} {an od : Option Addr} {osl : Array (Option Value)} {f : Addr} {args : Args} {binds : List (Str × Value)}
    (H : At w mean mg mb dp un gd base outer (hideAll s.heap (X.map (·.1)))) (hX : ∀ p ∈ X, s.heap.get? p.1 = some p.2)
    (ho : (hd.heap_39 w.params).lookup f = some ⟨oc, od, .func (fnOf name qual params body scope dV kV doc pm an cdv ct), osl⟩) (hcd : codeIn (hd.heap_39 w.params) cdv qual = true) (hroom : dp < recursionLimit)
    (hbind : BindsTo s (fnOf name qual params body scope dV kV doc pm an cdv ct) args binds) (hkind : (binds.all fun y => scope.names.lookup y.1 == some .local || scope.names.lookup y.1 == some .cell) = true)
    (hnd : ((cellsFrom 0 scope.names []).map (·.1)).Nodup)
    (h : ∀ g L' h₁ tk cells, g = hideAll s.heap (X.map (·.1)) → L' = s.heap.objs.size → Fr g L' h₁ (bindL (envOfC qual scope L' f cdv).kindOf binds fun _ => none) → News g L' h₁ (cells ++ X) →
      CellsAre (bindC (envOfC qual scope L' f cdv).kindOf binds fun _ => none) (cellsFrom (L' + 1) scope.names []) cells → Below (Arr dp un gd outer) base outer g → (hd.heap_39 w.params).In g → Top topProg looseS mean mg mb g → (∀ p ∈ X, p.1 < L') →
      wpAny (model prg w) ((Arr dp un gd outer).deeper (envOfC qual scope L' f cdv)) (execs body (envOfC qual scope L' f cdv))
        (fun fl s' => R (.ok (.ret (match fl with | .ret v => v | _ => .none))) s')
        (fun e s' => wpAny (model prg w) ((Arr dp un gd outer).deeper (envOfC qual scope L' f cdv)) (leaving (envOfC qual scope L' f cdv) e) (fun _ s'' => R (.error e) s'') (fun e' s'' => R (.error e') s'') s')
        { s with heap := h₁, toks := tk })
    (hco : scope.isCoroutine = false) (hgen : scope.isGenerator = false) (hk : scope.kind = .function) : codeAny (model prg w) (Arr dp un gd outer) (.call (.ref f) args) R s := by
  have st : (hideAll s.heap (X.map (·.1))).StaysIn s.heap := fun b o e => of_hideAll _ e
  refine codeAny_call_function (fd := fnOf name qual params body scope dV kV doc pm an cdv ct) hroom (st _ _ (H.K _ _ ho)) rfl hco hgen rfl (codeRec_of (H.K.keeps st) hcd) (hbind _ _ _ _ ?_)
  refine wpAny_newFunctionEnv_cells hk (kindsX hkind _) fun env' he s' x => ?_
  subst he
  refine ⟨(H.T.nolimit.keeps st).keeps x.toInCall.keep, codeAny_func ?_⟩
  obtain ⟨h₁, tk, rfl, _⟩ := x.done
  have hk₁ := x.toInCall.keep
  obtain ⟨cells, NC, Y⟩ := Cl.news (h₀ := s.heap) (Nat.le_refl _) fun n c hm => ⟨x.cell n c (lookup_of_mem_nodup (cellsFrom_names scope.names 0 (s.heap.objs.size + 1) [] [] rfl ▸ hnd) hm), x.above n c hm⟩
  refine h _ s.heap.objs.size h₁ tk cells rfl rfl ⟨x.toInCall.ns, fun b o e => hk₁ b o (of_hideAll _ e), Nat.le_of_eq (hideAll_size _ _)⟩ (fun p hp => ?_) Y H.below H.K H.T (fun p hp => Heap.lt_size (hX p hp))
  rcases List.mem_append.mp hp with hp | hp
  · refine ⟨(NC p hp).1, (NC p hp).2.1, ?_⟩
    cases q : (hideAll s.heap (X.map (·.1))).get? p.1 with
    | none => rfl
    | some o => have := of_hideAll _ q; rw [(NC p hp).2.2] at this; cases this
  · exact ⟨hk₁ _ _ (hX p hp), Nat.ne_of_lt (Heap.lt_size (hX p hp)), hideAll_none _ (List.mem_map_of_mem hp)⟩
end
theorem fresh_SqD : True := by w_top off; trivial
inductive BoxLoop (s : Shared) (St : Nat → Heap → Prop) (D C I bx : Addr) (F : Value → Prop) (G : Nat → Obj → Prop) (n k : Nat) (s' : Shared) : Prop
  | mk (h' : Heap) (tk : Nat) (m' : Str → Option Value) (o : Obj) (ys : Array Value) (e : s' = { s with heap := h', toks := tk }) (hs : St ys.size h') (ha : h'.PlainList D ys) (hn : h'.Ns C m') (hF : ∀ y ∈ ys.toList, F y) (hi : ys.size ≤ n) (hk : k = n + 1 - ys.size)
      (ho : ∀ b o, b ≠ C → b ≠ I → b ≠ D → b ≠ bx → s.heap.get? b = some o → h'.get? b = some o) (hb : h'.get? bx = some o) (hG : G ys.size o)
section
variable {prog : Program} {w : World} {A : Around} {R : Result → Shared → Prop} {E : Value → Shared → Prop} {s : Shared}
theorem compLoop_box {elt iter : PySem.Expr} {x : Str} {px : Pos} {scope : Scope} {pos : Pos} {I D bx : Addr} {n : Nat} {P : Nat → Value → Prop} {St : Nat → Heap → Prop} {cenv : Env} {m : Str → Option Value} {G : Nat → Obj → Prop}
    (W : Walks prog w A I [I] [I] n P St) (F : Value → Prop)
    (hx : cenv.kindOf x = some .local) (hp : (cenv.scope.kind == .class || (cenv.scope.kind == .module && cenv.locals != cenv.globals)) = false)
    (hDC : D ≠ cenv.locals) (hDI : D ≠ I) (hCI : cenv.locals ≠ I) (hDb : D ≠ bx) (hCb : cenv.locals ≠ bx) (hIb : bx ≠ I)
    (hst : St 0 s.heap) (hacc : s.heap.PlainList D #[]) (hn : s.heap.Ns cenv.locals m) (hb : ∃ o, s.heap.get? bx = some o ∧ G 0 o)
    (helt : ∀ i v s₂ m₂ o, i < n → P i v → s₂.heap.Ns cenv.locals m₂ → m₂ x = some v → (∀ b o, b ≠ cenv.locals → b ≠ I → b ≠ D → b ≠ bx → s.heap.get? b = some o → s₂.heap.get? b = some o) → s₂.heap.get? bx = some o → G i o →
      wpAny (model prog w) A (eval elt cenv) (fun y s₃ => F y ∧ ∃ h' tk o', s₃ = { s₂ with heap := h', toks := tk } ∧ (∀ b o, b ≠ bx → s₂.heap.get? b = some o → h'.get? b = some o) ∧ h'.get? bx = some o' ∧ G (i + 1) o') (notedBy (model prog w) A cenv fun e s' => R (.error e) s') s₂)
    (hR : ∀ h' tk m' (ys : Array Value) o, h'.Ns cenv.locals m' → h'.PlainList D ys → ys.size = n → (∀ y ∈ ys.toList, F y) → (∀ b o, b ≠ cenv.locals → b ≠ I → b ≠ D → b ≠ bx → s.heap.get? b = some o → h'.get? b = some o) → h'.get? bx = some o → G n o → R (.ok .next) { s with heap := h', toks := tk })
    (hsz : n ≤ sizeLine) : codeAny (model prog w) A (.compLoop (.ListComp elt [⟨.Name x px, iter, [], 0⟩] scope pos) 0 (.ref I) (.ref D) cenv) R s := by
  obtain ⟨ob, hob, hG0⟩ := hb
  refine codeAny_compLoop_list
    (BoxLoop s St D cenv.locals I bx F G n) ?_ (n + 1)
    ⟨s.heap, s.toks, m, ob, #[], rfl, hst, hacc, hn, by simp, Nat.zero_le _, rfl, fun _ _ _ _ _ _ e => e, hob, hG0⟩
  rintro k s' ⟨H, tk, m', o, ys, rfl, hst', hacc', hn', hF, hi, rfl, hk, hbo, hG⟩
  by_cases hlt : ys.size < n
  · refine W.item ys.size _ _ _ hlt hst' fun v h₁ tk₁ hPv hst₁ hk₁ => ?_
    refine wpAny_assign_Name (wpAny_storeName_local hx (hn'.at' fun o e => hk₁ _ o (by simpa using hCI) e) (fun h₂ hn₂ hs₂ => ?_) hp)
    have up₂ : ∀ b o, b ≠ cenv.locals → b ≠ I → H.get? b = some o → h₂.get? b = some o := fun b o hbC hbI e => hs₂.extBut b o hbC (hk₁ b o (by simpa using hbI) e)
    have hst₂ : St (ys.size + 1) h₂ := W.frame _ _ _ hst₁ fun b hb o e => hs₂.extBut b o (fun h => hCI (by rw [← h]; exact List.mem_singleton.mp hb)) e
    refine wpAny_mono (helt ys.size v _ _ o hlt hPv hn₂ (by simp) (fun b o h1 h2 h3 h4 e => up₂ b o h1 h2 (hk b o h1 h2 h3 h4 e)) (up₂ bx o (Ne.symm hCb) hIb hbo) hG) (fun y s₄ h₄ => ?_) fun _ _ e => e
    obtain ⟨hFy, h₄, tk₄, o', rfl, hk₄, hbo', hG'⟩ := h₄
    have hys : ys.size ≤ sizeLine := Nat.le_trans hi hsz
    refine wpAny_list_append_plain (hsz := hys) (hacc'.at fun o e => hk₄ _ o hDb (up₂ D o hDC hDI e)) fun h₅ hl₅ hs₅ => ?_
    refine ⟨n + 1 - (ys.size + 1), by omega, h₅, tk₄, _, o', ys.push y, rfl, ?_, hl₅, (hn₂.at' fun o e => hs₅.extBut _ o (Ne.symm hDC) (hk₄ _ o hCb e)), ?_, ?_, ?_, ?_, ?_, ?_⟩
    · have := W.frame _ _ h₅ hst₂ fun b hb o e => hs₅.extBut b o (fun h => hDI (by rw [← h]; exact List.mem_singleton.mp hb)) (hk₄ b o (fun h => hIb (by rw [← h]; exact List.mem_singleton.mp hb)) e)
      simpa using this
    · intro z hz
      simp only [Array.toList_push, List.mem_append, List.mem_singleton] at hz
      rcases hz with hz | rfl
      · exact hF z hz
      · exact hFy
    · simp; omega
    · simp
    · exact fun b o h1 h2 h3 h4 e => hs₅.extBut b o h3 (hk₄ b o h4 (up₂ b o h1 h2 (hk b o h1 h2 h3 h4 e)))
    · exact hs₅.extBut _ _ (Ne.symm hDb) hbo'
    · simpa using hG'
  · have hin : ys.size = n := by omega
    refine W.done _ _ _ (hin ▸ hst') fun h₁ tk₁ hk₁ => ?_
    exact hR h₁ tk₁ m' ys o (hn'.at' fun o e => hk₁ _ o (by simpa using hCI) e) (hacc'.at fun o e => hk₁ _ o (by simpa using hDI) e) hin hF (fun b o h1 h2 h3 h4 e => hk₁ b o (by simpa using h2) (hk b o h1 h2 h3 h4 e)) (hk₁ _ _ (by simpa using hIb) hbo) (hin ▸ hG)
theorem comp_block_box {env : Env} {elt iter : PySem.Expr} {x : Str} {px : Pos} {scope : Scope} {cl : List (Str × Addr)} {pos : Pos} {I bx : Addr} {n : Nat} {P : Nat → Value → Prop} {St : Nat → Heap → Prop} {G : Nat → Obj → Prop}
    (W : Walks prog w A I [I] [I] n P St) (F : Value → Prop) {RR : Value → Addr → Result → Shared → Prop}
    (hcell : ∀ y ∈ scope.names, y.2 ≠ .cell) (hkind : scope.kind = .function) (hx : scope.names.lookup x = some .local) (hst : St 0 s.heap) (hI : I < s.heap.objs.size) (hIb : bx ≠ I) (hb : ∃ o, s.heap.get? bx = some o ∧ G 0 o)
    (helt : ∀ C i v s₂ m₂ o E', s.heap.objs.size ≤ C → i < n → P i v → s₂.heap.Ns C m₂ → m₂ x = some v → (∀ b o, b ≠ I → b ≠ bx → s.heap.get? b = some o → s₂.heap.get? b = some o) → s₂.heap.get? bx = some o → G i o →
      wpAny (model prog w) A (eval elt (compEnvC scope cl C env)) (fun y s₃ => F y ∧ ∃ h' tk o', s₃ = { s₂ with heap := h', toks := tk } ∧ (∀ b o, b ≠ bx → s₂.heap.get? b = some o → h'.get? b = some o) ∧ h'.get? bx = some o' ∧ G (i + 1) o') E' s₂)
    (hRR : ∀ D C h' tk m' (ys : List Value) o k, s.heap.objs.size ≤ D → s.heap.get? C = none → D ≠ C → h'.Ns C m' → h'.get? D = some (listOf ys.toArray k) → ys.length = n → (∀ y ∈ ys, F y) →
      (∀ b o, b ≠ I → b ≠ bx → s.heap.get? b = some o → h'.get? b = some o) → h'.get? bx = some o → G n o → RR (.ref D) C (.ok .next) { s with heap := h', toks := tk })
    (hsz : n ≤ sizeLine) :
    wpAny (model prog w) A (newList []) (fun acc s₃ => wpAny (model prog w) A (newFunctionEnv scope env.globals cl [] env.qual none .none (some env)) (fun cenv s₄ =>
      codeAny (model prog w) A (.compStart (.ListComp elt [⟨.Name x px, iter, [], 0⟩] scope pos) 0 (.ref I) acc { cenv with scope := relabel scope env }) (RR acc cenv.locals) s₄) E s₃) E s := by
  obtain ⟨ob, hob, hG0⟩ := hb
  refine wpAny_newObj_type (wpAny_newFunctionEnv hcell (by intro y hy; simp at hy) (fun h₁ hns₁ hsb₁ => ?_) hkind)
  dsimp only at hns₁ hsb₁ ⊢
  generalize hH2 : s.heap.push { cls := .type "list", dict := none, data := .seq ([] : List Value).toArray } = H2 at hns₁ hsb₁ ⊢
  have hC : H2.objs.size = s.heap.objs.size + 1 := by rw [← hH2, Heap.size_push]
  have hDC : s.heap.objs.size ≠ H2.objs.size := by rw [hC]; exact Nat.ne_of_lt (Nat.lt_succ_self _)
  have hCle : s.heap.objs.size ≤ H2.objs.size := by rw [hC]; exact Nat.le_succ _
  have below : ∀ b, b < s.heap.objs.size → b ≠ H2.objs.size ∧ b ≠ s.heap.objs.size := fun b hb => ⟨by rw [hC]; exact Nat.ne_of_lt (Nat.lt_succ_of_lt hb), Nat.ne_of_lt hb⟩
  have hbxl := Heap.lt_size hob
  have old : ∀ b o, s.heap.get? b = some o → h₁.get? b = some o := fun b o e => hsb₁.extBut b o (below b (Heap.lt_size e)).1 (Heap.get?_push_of_some _ (hH2 ▸ Heap.get?_push_of_some _ e))
  have hacc : h₁.PlainList s.heap.objs.size #[] := ⟨_, hsb₁.extBut _ _ hDC (Heap.get?_push_of_some _ (hH2 ▸ Heap.get?_push_size _ rfl))⟩
  have hst₁ : St 0 h₁ := W.frame _ _ _ hst fun b _ o e => old b o e
  have fresh : ∀ a, s.heap.objs.size ≤ a → s.heap.get? a = none := fun a ha => by
    cases e : s.heap.get? a with
    | none => rfl
    | some o' => exact absurd (Heap.lt_size e) (Nat.not_lt.mpr ha)
  have loop : ∀ s₃ : Shared, s₃ = { s with heap := h₁, toks := s.toks + ([] : List (Str × Value)).length } →
      codeAny (model prog w) A (.compLoop (.ListComp elt [⟨.Name x px, iter, [], 0⟩] scope pos) 0 (.ref I) (.ref s.heap.objs.size) (compEnvC scope cl H2.objs.size env))
        (RR (.ref s.heap.objs.size) H2.objs.size) s₃ := by
    rintro s₃ rfl
    refine compLoop_box (hsz := hsz) (cenv := compEnvC scope cl H2.objs.size env) (G := G) (bx := bx) W F (lookup_relabel_local hx) (by simp [compEnvC, relabel, hkind]) hDC (Ne.symm (below I hI).2) (Ne.symm (below I hI).1) (Ne.symm (below bx hbxl).2) (Ne.symm (below bx hbxl).1) hIb hst₁ hacc hns₁ ⟨ob, old _ _ hob, hG0⟩
      (fun i v s₂ m₂ o hi hv hn hm hk hbo hG => helt _ i v s₂ m₂ o _ hCle hi hv hn hm (fun b o h1 h2 e => hk b o (below b (Heap.lt_size e)).1 h1 (below b (Heap.lt_size e)).2 h2 (old b o e)) hbo hG) fun h' tk m' ys o hn ⟨kk, ha⟩ hlen hF hk hbo hG => ?_
    exact hRR _ _ h' tk m' ys.toList o kk (Nat.le_refl _) (fresh _ (by rw [hC]; exact Nat.le_succ _)) hDC hn (by rw [Array.toArray_toList]; exact ha) (by simpa using hlen) hF (fun b o h1 h2 e => hk b o (below b (Heap.lt_size e)).1 h1 (below b (Heap.lt_size e)).2 h2 (old b o e)) hbo hG
  exact codeAny_compStart_list (loop _ rfl) (W.self 0 _ _ _ hst₁ (loop _ rfl))
end
theorem fresh_SqE : True := by w_top off; trivial
def BoxOk (k : Nat) (o : Obj) : Prop := ∃ b0 b1 b2 t0 t1 t2 n, o = boxObj b0 b1 b2 t0 t1 t2 n ∧ 0 ≤ b0 ∧ 0 ≤ b1 ∧ b1 ≤ (k : Int) ∧ 0 ≤ b2 ∧ b2 < 1000003
section
variable {prog : Program} {w : World} {mean : ExcName → Option Value} {mg mb : Str → Option Value} {A : Around} {dp un : Nat} {gd : Option (List Code)} {base g : Heap} {outer : List Env} {s : Shared} {L : Addr} {m : Str → Option Value} {env : Env} {news : List (Addr × Obj)} {Q E : Value → Shared → Prop}
theorem upd_mem {d : Addr} {o o' : Obj} {l l' : List (Addr × Obj)} (U : Upd d o o' l l') : (d, o) ∈ l := by
  obtain ⟨pre, post, rfl, rfl, _, _⟩ := U.split
  simp
theorem upd_news {h h' : Heap} {d : Addr} {o o' : Obj} {news news' : List (Addr × Obj)} (F : Fr g L h m) (N : News g L h news) (U : Upd d o o' news news') (k : ∀ b o, b ≠ d → h.get? b = some o → h'.get? b = some o) (e : h'.get? d = some o') :
    Fr g L h' m ∧ News g L h' news' := by
  have D := N _ (upd_mem U)
  obtain ⟨pre, post, rfl, rfl, h1, h2⟩ := U.split
  refine ⟨⟨ns_of_get F.ns fun o => k _ o (Ne.symm D.2.1), fun b o q => k b o (fun z => ?_) (F.keep b o q), F.above⟩, fun p hp => ?_⟩
  · have := D.2.2; rw [← z, q] at this; cases this
  · rcases List.mem_append.mp hp with q | q
    · have P := N p (List.mem_append_left _ q); exact ⟨k _ _ (h1 p q) P.1, P.2⟩
    · rcases List.mem_cons.mp q with rfl | q
      · exact ⟨e, D.2⟩
      · have P := N p (List.mem_append_right _ (.tail _ q)); exact ⟨k _ _ (h2 p q) P.1, P.2⟩
theorem all_news {h h' : Heap} {news : List (Addr × Obj)} (F : Fr g L h m) (N : News g L h news) (k : ∀ b o, h.get? b = some o → h'.get? b = some o) : Fr g L h' m ∧ News g L h' news :=
  ⟨F.keeps k, fun p hp => ⟨k _ _ (N p hp).1, (N p hp).2⟩⟩
theorem use_take {news' : Obj → List (Addr × Obj)} {box : Addr} {ob : Obj} {k : Nat} {many : Int} {tm : Tok} (hf : env.frame = some L) (hk : env.scope.kind = .function) (B : Below (Arr dp un gd outer) base outer g) (F : Fr g L s.heap m) (N : News g L s.heap news) (X : (hd.heap_39 w.params).In g) (T : Top topProg looseS mean mg mb g)
   (hob : BoxOk k ob) (hk1 : k < 1000000) (m0 : 1 ≤ many) (m1 : many ≤ 16) (U : ∀ o', Upd box ob o' news (news' o')) (hd : dp + 5 < recursionLimit) (hu : un + 32 < cLine)
   (h : ∀ h' tk d td ob', BoxOk (k + 1) ob' → 0 ≤ d → d < many → (∀ b o, b ≠ box → s.heap.get? b = some o → h'.get? b = some o) → h'.get? box = some ob' → Fr g L h' m → News g L h' (news' ob') → Q (.int d td) { s with heap := h', toks := tk }) :
   wpAny (model prg w) ((Arr dp un gd outer).deeper env) (call (.ref 176) [.ref box, .int many tm]) Q E s := by
  obtain ⟨b0, b1, b2, t0, t1, t2, n, rfl, p0, p1, q1, p2, q2⟩ := hob
  have hm := upd_mem (U (boxObj b0 b1 b2 t0 t1 t2 n))
  refine wpAny_call (take_code (dp := dp + 1) (un := un + 3) (at_hide hf hk B F N X T [box] (fun a ha => by cases List.mem_singleton.mp ha; exact ⟨_, hm⟩)) (by k_sizes) (by k_sizes) (N _ hm).1 p0 p1 (by k_sizes) p2 q2 m0 m1 fun h' tk d td b0' b1' u0 u1 n' kk e c0 _ _ c1 d0 d1 => ?_)
  obtain ⟨F', N'⟩ := upd_news F N (U (boxObj b0' b1' b2 u0 u1 t2 n')) kk e
  exact h _ _ _ _ _ ⟨_, _, _, _, _, _, _, rfl, c0, by omega, by push_cast; omega, p2, q2⟩ d0 d1 kk e F' N'
def CompRun (M : Model) (A : Around) (elt iter : PySem.Expr) (x : Str) (px : Pos) (scope : Scope) (cl : List (Str × Addr)) (pos : Pos) (env : Env) (E : Value → Shared → Prop) (RR : Value → Addr → Result → Shared → Prop) (it : Value) (s₂ : Shared) : Prop :=
  wpAny M A (newList []) (fun acc s₃ => wpAny M A (newFunctionEnv scope env.globals cl [] env.qual none .none (some env)) (fun cenv s₄ =>
    codeAny M A (.compStart (.ListComp elt [⟨.Name x px, iter, [], 0⟩] scope pos) 0 it acc { cenv with scope := relabel scope env }) (RR acc cenv.locals) s₄) E s₃) E s₂
theorem Assign_compU {elt iter : PySem.Expr} {x y : Str} {px py : Pos} {scope : Scope} {cl : List (Str × Addr)} {pos spos : Pos} {M : Model} {Q : Flow → Shared → Prop}
    (hsw : swapsWith (.ListComp elt [⟨.Name x px, iter, [], 0⟩] scope pos) (some (.Name y py)) spos.line env = pure true)
    (hclos : closureFor scope env = pure cl) (hkind : scope.kind = .function)
    (hnames : ∀ z ∈ scope.names, z.2 = .local → scope.names.lookup z.1 = some .local)
    (h : wpAny M A (eval iter env) (fun xv s₁ => wpAny M A (pyIter xv) (CompRun M A elt iter x px scope cl pos env E (compPost M A E (some (assign (.Name y py) env)) (fun _ s' => Q .next s'))) E s₁) E s)
    (hs : ∀ x, foldedSetIterable iter env x = pure x) :
    wpAny M A (exec (.Assign [.Name y py] (.ListComp elt [⟨.Name x px, iter, [], 0⟩] scope pos) spos) env) Q E s := by
  rw [exec_Assign_Name_used _ _ _ _ hsw]
  refine wpAny_bind (wpAny_standAt (wpAny_bind ?_))
  show wpAny _ A (do let _ ← comprehension (.ListComp elt [⟨.Name x px, iter, [], 0⟩] scope pos) scope env _ (newList []) false (eval iter env) (some (assign (.Name y py) env))) _ _ s
  exact wpAny_bind (wpAny_mono (wpAny_comprehension_free (use := some (assign (.Name y py) env)) (Q := fun _ s' => Q .next s') rfl hs hclos hkind hnames h) (fun _ s' hq => wpAny_pure (wpAny_pure hq)) fun _ _ e => e)
theorem eval_compU {elt iter : PySem.Expr} {x : Str} {px : Pos} {scope : Scope} {cl : List (Str × Addr)} {pos : Pos} {M : Model}
    (hclos : closureFor scope env = pure cl) (hkind : scope.kind = .function)
    (hnames : ∀ z ∈ scope.names, z.2 = .local → scope.names.lookup z.1 = some .local)
    (h : wpAny M A (eval iter env) (fun xv s₁ => wpAny M A (pyIter xv) (CompRun M A elt iter x px scope cl pos env E (compPost M A E none Q)) E s₁) E s)
    (hs : ∀ x, foldedSetIterable iter env x = pure x) :
    wpAny M A (eval (.ListComp elt [⟨.Name x px, iter, [], 0⟩] scope pos) env) Q E s := by
  rw [eval_ListComp]
  exact wpAny_comprehension_free (use := none) rfl hs hclos hkind hnames h
theorem cases14 {P : Int → Prop} {c : Int} (h0 : 0 ≤ c) (h1 : c < 14) (a0 : P 0) (a1 : P 1) (a2 : P 2) (a3 : P 3) (a4 : P 4) (a5 : P 5) (a6 : P 6) (a7 : P 7) (a8 : P 8) (a9 : P 9) (a10 : P 10) (a11 : P 11) (a12 : P 12) (a13 : P 13) : P c :=
  stepI 0 h0 a0 fun k0 => stepI 1 k0 a1 fun k1 => stepI 2 k1 a2 fun k2 => stepI 3 k2 a3 fun k3 => stepI 4 k3 a4 fun k4 => stepI 5 k4 a5 fun k5 => stepI 6 k5 a6 fun k6 => stepI 7 k6 a7 fun k7 => stepI 8 k7 a8 fun k8 => stepI 9 k8 a9 fun k9 => stepI 10 k9 a10 fun k10 => stepI 11 k10 a11 fun k11 => stepI 12 k11 a12 fun k12 => stepI 13 k12 a13 fun k13 => absurd h1 (Int.not_lt.mpr k13)
theorem tokV_K {h : Heap} {a : Addr} {c d : Int} {t1 t2 : Tok} {dd : Option Addr} {sl : Array (Option Value)} {n : Nat} (X : (hd.heap_39 w.params).In h) (e : (hd.heap_39 w.params).lookup a = some ⟨.type "tuple", dd, .seq #[.int c t1, .int d t2] n, sl⟩) (ok : okTok c d) : TokV h (.ref a) (c, d) :=
  ⟨a, t1, t2, rfl, ⟨_, X _ _ e, rfl, n, rfl⟩, ok⟩
theorem none_item {value slice : PySem.Expr} {d : Int} {u : Tok} (F : Fr g L s.heap m) (X : (hd.heap_39 w.params).In g) (h0 : 0 ≤ d) (h1 : d < 10) (h : ∀ v, v ∈ badVs → Q v s)
    (hs : ∀ c u, subscripted slice false (.ref 164) (.int c u) = operate [.ref 164, .int c u] (getItem (.ref 164) (.int c u))) :
    wpAny (model prog w) A (subscriptTail value slice (.ref 164) (.int d u)) Q E s := by
  have key : ∃ v j, seqIndex? d 10 = some j ∧ badVs[j]? = some v := by
    have c : ∀ k : Int, (∃ v j, seqIndex? k 10 = some j ∧ badVs[j]? = some v) → k ≤ d → (k + 1 ≤ d → ∃ v j, seqIndex? d 10 = some j ∧ badVs[j]? = some v) → ∃ v j, seqIndex? d 10 = some j ∧ badVs[j]? = some v :=
      fun k a h r => stepI (P := fun d => ∃ v j, seqIndex? d 10 = some j ∧ badVs[j]? = some v) k h a r
    exact c 0 ⟨_, _, rfl, rfl⟩ h0 fun k0 => c 1 ⟨_, _, rfl, rfl⟩ k0 fun k1 => c 2 ⟨_, _, rfl, rfl⟩ k1 fun k2 => c 3 ⟨_, _, rfl, rfl⟩ k2 fun k3 => c 4 ⟨_, _, rfl, rfl⟩ k3 fun k4 => c 5 ⟨_, _, rfl, rfl⟩ k4 fun k5 => c 6 ⟨_, _, rfl, rfl⟩ k5 fun k6 => c 7 ⟨_, _, rfl, rfl⟩ k6 fun k7 => c 8 ⟨_, _, rfl, rfl⟩ k7 fun k8 => c 9 ⟨_, _, rfl, rfl⟩ k8 fun k9 => absurd h1 (Int.not_lt.mpr k9)
  obtain ⟨v, j, e1, e2⟩ := key
  exact topTup_K (l := badVs) (n := 0) (dd := none) (sl := #[]) F X (by unfold badVs; k_is) (by k_sizes) (by k_sizes) e1 e2 (h v (List.mem_of_getElem? e2)) (hs d u)
end
theorem fresh_SqG : True := by w_top off; trivial
section
variable {prog : Program} {w : World} {mean : ExcName → Option Value} {mg mb : Str → Option Value} {A : Around} {dp un : Nat} {gd : Option (List Code)} {base g : Heap} {outer : List Env} {s : Shared} {L : Addr} {m : Str → Option Value} {env : Env} {news : List (Addr × Obj)} {E : Value → Shared → Prop}
theorem comp_range {FT : Value → Prop} {news' : Obj → List (Addr × Obj)} {RR : Value → Addr → Result → Shared → Prop} {elt iter : PySem.Expr} {x : Str} {px : Pos} {scope : Scope} {cl : List (Str × Addr)} {pos : Pos} {r box : Addr} {n k : Nat} {b₀ : Int} {t₀ u₀ v₀ : Tok} {ob : Obj}
    (hh : A.handled = none) (hr : IsRange s.heap r 0 b₀ 1 t₀ u₀ v₀) (hsmall : Builtin.Range.small 0 b₀ 1 = true) (hsz : Builtin.Range.rangeSize 0 b₀ 1 = (n : Int)) (F : Fr g L s.heap m) (N : News g L s.heap news) (U : ∀ o', Upd box ob o' news (news' o')) (hob : BoxOk k ob)
    (hcell : ∀ y ∈ scope.names, y.2 ≠ .cell) (hkind : scope.kind = .function) (hx : scope.names.lookup x = some .local) (hn : n ≤ sizeLine)
    (helt : ∀ C i (s₂ : Shared) m₂ o E', g.objs.size ≤ C → i < n → Fr g C s₂.heap m₂ → Fr g L s₂.heap m → News g L s₂.heap (news' o) → BoxOk (k + i) o →
      wpAny (model prog w) A (eval elt (compEnvC scope cl C env)) (fun y s₃ => FT y ∧ ∃ h' tk o', s₃ = { s₂ with heap := h', toks := tk } ∧ (∀ b o, b ≠ box → s₂.heap.get? b = some o → h'.get? b = some o) ∧ h'.get? box = some o' ∧ BoxOk (k + i + 1) o') E' s₂)
    (hRR : ∀ D C h' tk m' (ys : List Value) o kk, Fr g L h' m → News g L h' ((D, listOf ys.toArray kk) :: news' o) → (∀ p ∈ news, p.1 < D) → C ≠ L → (∀ p ∈ news, p.1 ≠ C) → D ≠ C → g.get? C = none → h'.Ns C m' → ys.length = n → (∀ y ∈ ys, FT y) → BoxOk (k + n) o →
      RR (.ref D) C (.ok .next) { s with heap := h', toks := tk }) :
    wpAny (model prog w) A (pyIter (.ref r)) (CompRun (model prog w) A elt iter x px scope cl pos env E RR) E s := by
  refine wpAny_pyIter_range hr hsmall ?_
  have hbm := N _ (upd_mem (U ob))
  have hbl := Heap.lt_size hbm.1
  have W : Walks prog w A s.heap.objs.size [s.heap.objs.size] [s.heap.objs.size] n (fun i v => i < n ∧ ∃ t, v = .int (0 + i * 1) t)
      (fun i h => IsRangeIter h s.heap.objs.size (0 + (i : Nat) * 1) ((n : Int) - (i : Nat)) 1) := (Walks.range hh _ 0 1 n).bound
  have hgL : g.get? L = none := Heap.get?_none_of_le F.above
  have hIL : L ≠ s.heap.objs.size := Nat.ne_of_lt F.ns.lt
  have up : ∀ h' o', (∀ b o, b ≠ s.heap.objs.size → b ≠ box → (s.heap.push { cls := .type "range_iterator", data := .fields #[.int 0 0, .int (Builtin.Range.rangeSize 0 b₀ 1) 0, .int 1 0] }).get? b = some o → h'.get? b = some o) → h'.get? box = some o' → Fr g L h' m ∧ News g L h' (news' o') := fun h' o' kk e =>
    upd_news F N (U o') (fun b o hb q => kk b o (Nat.ne_of_lt (Heap.lt_size q)) hb (Heap.get?_push_of_some _ q)) e
  have gs : g.objs.size ≤ s.heap.objs.size := Nat.le_trans F.above (Nat.le_of_lt F.ns.lt)
  have fresh : ∀ a, (s.heap.push { cls := .type "range_iterator", data := .fields #[.int 0 0, .int (Builtin.Range.rangeSize 0 b₀ 1) 0, .int 1 0] }).get? a = none → (∀ p ∈ news, p.1 ≠ a) ∧ a ≠ L ∧ g.get? a = none := fun a e => by
    refine ⟨fun p hp z => ?_, fun z => ?_, ?_⟩
    · have := Heap.get?_push_of_some { cls := .type "range_iterator", data := .fields #[.int 0 0, .int (Builtin.Range.rangeSize 0 b₀ 1) 0, .int 1 0] } (N p hp).1
      rw [z, e] at this; cases this
    · obtain ⟨o, _, _, ho, _⟩ := F.ns
      have := Heap.get?_push_of_some { cls := .type "range_iterator", data := .fields #[.int 0 0, .int (Builtin.Range.rangeSize 0 b₀ 1) 0, .int 1 0] } ho
      rw [← z, e] at this; cases this
    · cases q : g.get? a with
      | none => rfl
      | some o =>
        have := Heap.get?_push_of_some { cls := .type "range_iterator", data := .fields #[.int 0 0, .int (Builtin.Range.rangeSize 0 b₀ 1) 0, .int 1 0] } (F.keep _ _ q)
        rw [e] at this; cases this
  refine comp_block_box (s := { s with heap := _ }) (bx := box) (G := fun i o => BoxOk (k + i) o) W FT hcell hkind hx (by show IsRangeIter _ _ _ _ _; rw [hsz]; simpa using Heap.get?_push_size _ rfl) (by rw [Heap.size_push]; exact Nat.lt_succ_self _) (Nat.ne_of_lt hbl) ⟨ob, Heap.get?_push_of_some _ hbm.1, hob⟩ ?_ ?_ hn
  · intro C i v s₂ m₂ o E' hC hi _ hns _ kk hbo hB
    obtain ⟨F2, N2⟩ := up s₂.heap o kk hbo
    exact helt C i s₂ m₂ o E' (Nat.le_trans gs (Nat.le_trans (Nat.le_of_lt (by rw [Heap.size_push]; exact Nat.lt_succ_self _)) hC)) hi ⟨hns, F2.keep, Nat.le_trans gs (Nat.le_trans (Nat.le_of_lt (by rw [Heap.size_push]; exact Nat.lt_succ_self _)) hC)⟩ F2 N2 hB
  · intro D C h' tk m' ys o kk hD hC hDC hns hDo hlen hF kp hbo hB
    obtain ⟨F2, N2⟩ := up h' o kp hbo
    obtain ⟨_, fD2, fD3⟩ := fresh D (Heap.get?_none_of_le hD)
    have fD1 : ∀ p ∈ news, p.1 < D := fun p hp => Nat.lt_of_lt_of_le (Heap.lt_size (Heap.get?_push_of_some { cls := .type "range_iterator", data := .fields #[.int 0 0, .int (Builtin.Range.rangeSize 0 b₀ 1) 0, .int 1 0] } (N p hp).1)) hD
    obtain ⟨fC1, fC2, fC3⟩ := fresh C hC
    refine hRR D C h' tk m' ys o kk F2 (fun p hp => ?_) fD1 fC2 fC1 hDC fC3 hns hlen hF hB
    rcases List.mem_cons.mp hp with rfl | hp
    · exact ⟨hDo, fD2, fD3⟩
    · exact N2 p hp
theorem news_at {h h' : Heap} {C : Addr} (F : Fr g L h m) (N : News g L h news) (hL : C ≠ L) (hn : ∀ p ∈ news, p.1 ≠ C) (hC : g.get? C = none) (hs : Heap.SameBut C h h') : Fr g L h' m ∧ News g L h' news :=
  ⟨⟨ns_of_get F.ns fun o e => (hs.2 L (Ne.symm hL)).trans e, fun b o q => (hs.2 b (fun z => by rw [z, hC] at q; cases q)).trans (F.keep b o q), F.above⟩, fun p hp => ⟨(hs.2 p.1 (hn p hp)).trans (N p hp).1, (N p hp).2⟩⟩
theorem rr_none {FT : Value → Prop} {news' : Obj → List (Addr × Obj)} {Q : Value → Shared → Prop} {M : Model} {n k : Nat} {box : Addr} {ob : Obj} (U : ∀ o', Upd box ob o' news (news' o'))
    (hQ : ∀ D (ys : List Value) o kk h' tk, Fr g L h' m → News g L h' ((D, listOf ys.toArray kk) :: news' o) → (∀ p ∈ news, p.1 < D) → ys.length = n → (∀ y ∈ ys, FT y) → BoxOk (k + n) o → Q (.ref D) { s with heap := h', toks := tk }) :
    ∀ D C h' tk m' (ys : List Value) o kk, Fr g L h' m → News g L h' ((D, listOf ys.toArray kk) :: news' o) → (∀ p ∈ news, p.1 < D) → C ≠ L → (∀ p ∈ news, p.1 ≠ C) → D ≠ C → g.get? C = none → h'.Ns C m' → ys.length = n → (∀ y ∈ ys, FT y) → BoxOk (k + n) o →
      compPost M A E none Q (.ref D) C (.ok .next) { s with heap := h', toks := tk } := by
  intro D C h' tk m' ys o kk F N hD hCL hnC hDC hgC hns hlen hF hB
  refine ⟨m', hns, fun h'' hs => ?_⟩
  have hn2 : ∀ p ∈ (D, listOf ys.toArray kk) :: news' o, p.1 ≠ C := fun p hp => by
    rcases List.mem_cons.mp hp with rfl | hp
    · exact hDC
    · obtain ⟨pre, post, e1, e2, _, _⟩ := (U o).split
      rw [e2] at hp
      rcases List.mem_append.mp hp with q | q
      · exact hnC p (by rw [e1]; exact List.mem_append_left _ q)
      · rcases List.mem_cons.mp q with rfl | q
        · exact hnC (box, ob) (by rw [e1]; simp)
        · exact hnC p (by rw [e1]; exact List.mem_append_right _ (.tail _ q))
  obtain ⟨F2, N2⟩ := news_at F N hCL hn2 hgC hs
  exact hQ D ys o kk h'' tk F2 N2 hD hlen hF hB
theorem rr_local {FT : Value → Prop} {news' : Obj → List (Addr × Obj)} {Q : Value → Shared → Prop} {M : Model} {n k : Nat} {box : Addr} {ob : Obj} {y : Str} {py : Pos} (U : ∀ o', Upd box ob o' news (news' o')) (hL : env.locals = L)
    (hy : env.kindOf y = some .local) (hp : (env.scope.kind == .class || (env.scope.kind == .module && env.locals != env.globals)) = false)
    (hQ : ∀ D (ys : List Value) o kk h' tk, Fr g L h' (fun z => if z = y then some (.ref D) else m z) → News g L h' ((D, listOf ys.toArray kk) :: news' o) → (∀ p ∈ news, p.1 < D) → ys.length = n → (∀ y ∈ ys, FT y) → BoxOk (k + n) o → Q .none { s with heap := h', toks := tk }) :
    ∀ D C h' tk m' (ys : List Value) o kk, Fr g L h' m → News g L h' ((D, listOf ys.toArray kk) :: news' o) → (∀ p ∈ news, p.1 < D) → C ≠ L → (∀ p ∈ news, p.1 ≠ C) → D ≠ C → g.get? C = none → h'.Ns C m' → ys.length = n → (∀ y ∈ ys, FT y) → BoxOk (k + n) o →
      compPost M A E (some (assign (.Name y py) env)) Q (.ref D) C (.ok .next) { s with heap := h', toks := tk } := by
  intro D C h' tk m' ys o kk F N hD hCL hnC hDC hgC hns hlen hF hB
  subst hL
  show wpAny _ A (assign (.Name y py) env (.ref D)) _ _ _
  refine wpAny_assign_Name (wpAny_storeName_local hy F.ns (fun h₂ hn₂ hs₂ => ?_) hp)
  have F3 := F.set hn₂ hs₂
  have N3 := N.set hs₂
  refine ⟨m', hns.sameBut hs₂ hCL, fun h'' hs => ?_⟩
  have hn2 : ∀ p ∈ (D, listOf ys.toArray kk) :: news' o, p.1 ≠ C := fun p hp => by
    rcases List.mem_cons.mp hp with rfl | hp
    · exact hDC
    · obtain ⟨pre, post, e1, e2, _, _⟩ := (U o).split
      rw [e2] at hp
      rcases List.mem_append.mp hp with q | q
      · exact hnC p (by rw [e1]; exact List.mem_append_left _ q)
      · rcases List.mem_cons.mp q with rfl | q
        · exact hnC (box, ob) (by rw [e1]; simp)
        · exact hnC p (by rw [e1]; exact List.mem_append_right _ (.tail _ q))
  obtain ⟨F2, N2⟩ := news_at F3 N3 hCL hn2 hgC hs
  exact hQ D ys o kk h'' _ F2 N2 hD hlen hF hB
end
theorem fresh_SqH : True := by w_top off; trivial
def EltEnd (FT : Value → Prop) (box : Addr) (k : Nat) (s₂ : Shared) (y : Value) (s₃ : Shared) : Prop := FT y ∧ ∃ h' tk o', s₃ = { s₂ with heap := h', toks := tk } ∧ (∀ b o, b ≠ box → s₂.heap.get? b = some o → h'.get? b = some o) ∧ h'.get? box = some o' ∧ BoxOk k o'
section
variable {prog : Program} {w : World} {mean : ExcName → Option Value} {mg mb : Str → Option Value} {A : Around} {dp un : Nat} {gd : Option (List Code)} {base g : Heap} {outer : List Env} {s : Shared} {L : Addr} {m : Str → Option Value} {env : Env} {news : List (Addr × Obj)} {E : Value → Shared → Prop}
theorem comp_none (FT : Value → Prop) {news' : Obj → List (Addr × Obj)} {Q : Value → Shared → Prop} {elt iter : PySem.Expr} {x : Str} {px : Pos} {scope : Scope} {cl : List (Str × Addr)} {pos : Pos} {r box : Addr} {n k : Nat} {b₀ : Int} {t₀ u₀ v₀ : Tok} {ob : Obj}
    (hob : BoxOk k ob) (hh : A.handled = none) (hr : IsRange s.heap r 0 b₀ 1 t₀ u₀ v₀) (hsmall : Builtin.Range.small 0 b₀ 1 = true) (hsz : Builtin.Range.rangeSize 0 b₀ 1 = (n : Int)) (F : Fr g L s.heap m) (N : News g L s.heap news) (U : ∀ o', Upd box ob o' news (news' o'))
    (hcell : ∀ y ∈ scope.names, y.2 ≠ .cell) (hkind : scope.kind = .function) (hx : scope.names.lookup x = some .local) (hn : n ≤ sizeLine)
    (helt : ∀ C i (s₂ : Shared) m₂ o E', g.objs.size ≤ C → i < n → BoxOk (k + i) o → Fr g C s₂.heap m₂ → Fr g L s₂.heap m → News g L s₂.heap (news' o) →
      wpAny (model prog w) A (eval elt (compEnvC scope cl C env)) (EltEnd FT box (k + i + 1) s₂) E' s₂)
    (hQ : ∀ D (ys : List Value) o kk h' tk, Fr g L h' m → News g L h' ((D, listOf ys.toArray kk) :: news' o) → (∀ p ∈ news, p.1 < D) → ys.length = n → (∀ y ∈ ys, FT y) → BoxOk (k + n) o → Q (.ref D) { s with heap := h', toks := tk }) :
    wpAny (model prog w) A (pyIter (.ref r)) (CompRun (model prog w) A elt iter x px scope cl pos env E (compPost (model prog w) A E none Q)) E s :=
  comp_range hh hr hsmall hsz F N U hob hcell hkind hx hn (fun C i s₂ m₂ o E' hC hi F1 F2 N2 hb => helt C i s₂ m₂ o E' hC hi hb F1 F2 N2) (rr_none U hQ)
theorem comp_local (FT : Value → Prop) {news' : Obj → List (Addr × Obj)} {Q : Value → Shared → Prop} {y : Str} {py : Pos} {elt iter : PySem.Expr} {x : Str} {px : Pos} {scope : Scope} {cl : List (Str × Addr)} {pos : Pos} {r box : Addr} {n k : Nat} {b₀ : Int} {t₀ u₀ v₀ : Tok} {ob : Obj}
    (hob : BoxOk k ob) (hh : A.handled = none) (hr : IsRange s.heap r 0 b₀ 1 t₀ u₀ v₀) (hsmall : Builtin.Range.small 0 b₀ 1 = true) (hsz : Builtin.Range.rangeSize 0 b₀ 1 = (n : Int)) (F : Fr g L s.heap m) (N : News g L s.heap news) (U : ∀ o', Upd box ob o' news (news' o'))
    (hcell : ∀ y ∈ scope.names, y.2 ≠ .cell) (hkind : scope.kind = .function) (hx : scope.names.lookup x = some .local) (hn : n ≤ sizeLine) (hL : env.locals = L)
    (hy : env.kindOf y = some .local) (hp : (env.scope.kind == .class || (env.scope.kind == .module && env.locals != env.globals)) = false)
    (helt : ∀ C i (s₂ : Shared) m₂ o E', g.objs.size ≤ C → i < n → BoxOk (k + i) o → Fr g C s₂.heap m₂ → Fr g L s₂.heap m → News g L s₂.heap (news' o) →
      wpAny (model prog w) A (eval elt (compEnvC scope cl C env)) (EltEnd FT box (k + i + 1) s₂) E' s₂)
    (hQ : ∀ D (ys : List Value) o kk h' tk, Fr g L h' (fun z => if z = y then some (.ref D) else m z) → News g L h' ((D, listOf ys.toArray kk) :: news' o) → (∀ p ∈ news, p.1 < D) → ys.length = n → (∀ y ∈ ys, FT y) → BoxOk (k + n) o → Q .none { s with heap := h', toks := tk }) :
    wpAny (model prog w) A (pyIter (.ref r)) (CompRun (model prog w) A elt iter x px scope cl pos env E (compPost (model prog w) A E (some (assign (.Name y py) env)) Q)) E s :=
  comp_range hh hr hsmall hsz F N U hob hcell hkind hx hn (fun C i s₂ m₂ o E' hC hi F1 F2 N2 hb => helt C i s₂ m₂ o E' hC hi hb F1 F2 N2) (rr_local U hL hy hp hQ)
end
theorem fresh_SqI : True := by w_top off; trivial
def Turn (fs : List Addr) (h h' : Heap) : Prop := ∃ g', KtsTurn fs h g' ∧ ∀ b o, g'.get? b = some o → h'.get? b = some o
section
variable {w : World} {mean : ExcName → Option Value} {mg mb : Str → Option Value} {dp un : Nat} {gd : Option (List Code)} {base g : Heap} {outer : List Env} {s s' : Shared} {R : Result → Shared → Prop} {L : Addr} {m : Str → Option Value} {env : Env} {news : List (Addr × Obj)} {Q E : Value → Shared → Prop}
theorem fr_mem {b : Addr} (hf : env.frame = some L) (hm : b ∈ (env :: outer).filterMap (·.frame)) : b = L ∨ b ∈ outer.filterMap (·.frame) := by
  obtain ⟨e, he, hf'⟩ := List.mem_filterMap.mp hm
  rcases List.mem_cons.mp he with rfl | he
  · rw [hf] at hf'; exact .inl (Option.some.inj hf').symm
  · exact .inr (List.mem_filterMap.mpr ⟨e, he, hf'⟩)
theorem fr_in {b : Addr} (hm : b ∈ outer.filterMap (·.frame)) : b ∈ (env :: outer).filterMap (·.frame) := by
  obtain ⟨e, he, hf'⟩ := List.mem_filterMap.mp hm
  exact List.mem_filterMap.mpr ⟨e, .tail _ he, hf'⟩
theorem turn_caller {h h' : Heap} (hf : env.frame = some L) (B : Below (Arr dp un gd outer) base outer g) (F : Fr g L h m) (N : News g L h news) (T : Turn ((env :: outer).filterMap (·.frame)) h h') :
    ∃ g', KtsTurn (outer.filterMap (·.frame)) g g' ∧ Fr g' L h' m ∧ News g' L h' news ∧ Below (Arr dp un gd outer) base outer g' := by
  obtain ⟨G, TG, SG⟩ := T
  have gL : g.get? L = none := kts_self F
  have nf : ∀ b, g.get? b = none → b ∉ outer.filterMap (·.frame) := fun b e hm => by
    obtain ⟨_, o, ho, _⟩ := B.frames.mem hm
    rw [e] at ho; cases ho
  obtain ⟨T', S'⟩ := kts_turn_at (h := h') (fs := outer.filterMap (·.frame)) (g := g)
    (fun b hb => by obtain ⟨_, o, ho, _⟩ := B.frames.mem hb; exact ⟨o, ho⟩)
    (fun b o e nm => SG _ _ (TG.other b o (F.keep b o e) fun hm => by
      rcases fr_mem hf hm with z | z
      · rw [z, gL] at e; cases e
      · exact nm z))
    (fun b o e hm => by
      obtain ⟨sl, hs⟩ := TG.frame b o (F.keep b o e) (fr_in hm)
      exact ⟨sl, SG _ _ hs⟩)
  have hL : L ∈ (env :: outer).filterMap (·.frame) := List.mem_filterMap.mpr ⟨env, .head _, hf⟩
  refine ⟨_, T', ⟨?_, S', ?_⟩, fun p hp => ⟨?_, (N p hp).2.1, T'.none_ _ (N p hp).2.2⟩, ⟨rfl, fun b o q => ?_, ?_⟩⟩
  · obtain ⟨o, es, ep, ho, hd, r⟩ := F.ns
    obtain ⟨sl, hs⟩ := TG.frame L o ho hL
    exact ⟨_, es, ep, SG _ _ hs, hd, r⟩
  · rw [T'.size]; exact F.above
  · refine SG _ _ (TG.other _ _ (N p hp).1 fun hm => ?_)
    rcases fr_mem hf hm with z | z
    · exact (N p hp).2.1 z
    · exact nf _ (N p hp).2.2 z
  · refine T'.other b o (B.stays b o q) fun hm => ?_
    rw [(B.frames.mem hm).1] at q; cases q
  · refine B.frames.of_keeps fun b o e _ => ?_
    obtain ⟨sl, hs⟩ := T'.up e
    exact ⟨_, hs, rfl⟩
theorem dicts_in {h : Heap} (hf : env.frame = some L) (F : Fr g L h m) (D : KtsDicts (outer.filterMap (·.frame)) g) : KtsDicts ((env :: outer).filterMap (·.frame)) h := fun b hm => by
  rcases fr_mem hf hm with rfl | z
  · obtain ⟨o, es, ep, ho, hd, _⟩ := F.ns
    exact ⟨o, es, ep, ho, hd⟩
  · obtain ⟨o, es, n, ho, hd⟩ := D b z
    exact ⟨o, es, n, F.keep _ _ ho, hd⟩
theorem at_hide_base (hf : env.frame = some L) (hk : env.scope.kind = .function) (B : Below (Arr dp un gd outer) base outer g) (F : Fr g L s.heap m) (X : (hd.heap_39 w.params).In g) (T : Top topProg looseS mean mg mb g) :
    At w mean mg mb (dp + 1) (un + 3) gd (hideAll s.heap ((env :: outer).filterMap (·.frame))) (env :: outer) s.heap :=
  ⟨⟨rfl, fun b o q => of_hideAll _ q, funFrames_hide (below_in hf hk B F).frames fun e he b hb => List.mem_filterMap.mpr ⟨e, he, hb⟩⟩, X.keeps F.keep, T.keeps F.keep⟩
theorem use_deed {f : Addr} {cn : Str} {cs : Scope} {a : Addr} {cd : Value} (deed : ∀ b' (o' : List Env) (s' : Shared) R', At w mean mg mb (dp+1) (un+3) gd b' o' s'.heap → (∀ b o, g.get? b = some o → s'.heap.get? b = some o) →
      (∀ h' tk e, Flown b' o' s'.heap h' e → R' (.error (.ref e)) {s' with heap := h', toks := tk}) → codeAny (model prg w) (Arr (dp+1) (un+3) gd o') (.call (.ref f) ⟨[],[]⟩) R' s')
    (B : Below (Arr dp un gd outer) base outer g) (F : Fr g L s.heap m) (X : (hd.heap_39 w.params).In g) (T : Top topProg looseS mean mg mb g) (hk : cs.kind = .function)
    (h : ∀ h' tk e, RaisedSN base s.heap (envOf cn cs L a cd :: outer) e (.ref 45) [] h' → s.heap.UpToSlots h' → E (.ref e) { s with heap := h', toks := tk }) :
    wpAny (model prg w) ((Arr dp un gd outer).deeper (envOf cn cs L a cd)) (call (.ref f) []) Q E s := by
  have H := at_hide_base (env := envOf cn cs L a cd) rfl hk B F X T
  refine wpAny_call (deed _ _ s _ H F.keep fun h' tk e fl => ?_)
  obtain ⟨a0, fl, up⟩ := fl
  refine h h' tk e ⟨_, a0, fun b o q => hideAll_get _ (F.keep _ _ (B.stays b o q)) fun hm => ?_, fun b o q nm => hideAll_get _ q nm, (fun _ hq => nomatch hq), fl⟩ up
  rw [((below_in (env := envOf cn cs L a cd) rfl hk B F).frames.mem hm).1] at q; cases q
end
local macro_rules | `(tactic| walk_at "call ref") => `(tactic| lcg_open use_deed)
theorem fnAt_fr {f L : Addr} {g h : Heap} {m : Str → Option Value} (x : FnAt f g) (F : Fr g L h m) : FnAt f h := by
  obtain ⟨oc, od, fd, sl, e⟩ := x
  exact ⟨oc, od, fd, sl, F.keep _ _ e⟩
theorem at_nil {M : Model} {A : Around} {E : Value → Shared → Prop} {s : Shared} {Q : Value → Shared → Prop} {p q : Pos} {n : Nat} {f : List Value} {env : Env} {k : List (Option Str × Sem Value)} (h : wpAny M A (callWith p (.ref n) f (backTo q (starEach [] env)) k) Q E s) : wpAny M A (callWith p (.ref n) f (backTo q (starEach [] env)) k) Q E s := h
local macro_rules | `(tactic| walk_at "callWith ref") => `(tactic| ((with_reducible refine at_nil ?_); k_search (callWith_F0 (fnAt_fr (by with_reducible assumption) ‹_›) ?_); (try dsimp only [List.nil_append, List.cons_append])))
section
variable {w : World} {mean : ExcName → Option Value} {mg mb : Str → Option Value} {dp un : Nat} {gd : Option (List Code)} {base : Heap} {outer : List Env} {s : Shared} {R : Result → Shared → Prop}
theorem refused_true {f : Addr} (H : At w mean mg mb dp un gd base outer s.heap) (hdd : dp + 30 < recursionLimit) (hu : un + 200 < cLine) (fa : FnAt f s.heap) (XB : (hd.heap_39 w.params).In base) (TB : Top topProg looseS mean mg mb base) (D : KtsDicts (outer.filterMap (·.frame)) s.heap)
   (deed : ∀ b' (o' : List Env) (s' : Shared) R', At w mean mg mb (dp+1) (un+3) gd b' o' s'.heap → (∀ b o, s.heap.get? b = some o → s'.heap.get? b = some o) →
      (∀ h' tk e, Flown b' o' s'.heap h' e → R' (.error (.ref e)) {s' with heap := h', toks := tk}) → codeAny (model prg w) (Arr (dp+1) (un+3) gd o') (.call (.ref f) ⟨[],[]⟩) R' s')
   (hR : ∀ h' tk, Turn (outer.filterMap (·.frame)) s.heap h' → R (.ok (.ret (.bool true))) {s with heap := h', toks := tk}) :
   codeAny (model prg w) (Arr dp un gd outer) (.call (.ref 188) ⟨[.ref f], []⟩) R s := by
  obtain ⟨hB, hK, hT⟩ := id H
  k_dflt (refine' enter0 (binds := [(Str.ofString "deed", .ref f)]) ?k1 ?k6 ?k7 ?k8 ?k9 ?kB ?_ ?c2 ?c3 ?c4 ?c5; (case k1 => assumption); (case k6 => k_is); (case k7 => k_is); (case k8 => ktr_room); (case k9 => exact BindsTo.of_eq rfl); (case c5 => decide); (case kB => exact locs rfl); (case c2 => exact rfl); (case c3 => exact rfl); (case c4 => exact rfl); k_whole)
  intro g L' h1 eg eL F N B X T
  subst eL
  have fa' : FnAt f g := eg ▸ fa
  have deed' : ∀ b' (o' : List Env) (s' : Shared) R', At w mean mg mb (dp+1) (un+3) gd b' o' s'.heap → (∀ b o, g.get? b = some o → s'.heap.get? b = some o) →
      (∀ h' tk e, Flown b' o' s'.heap h' e → R' (.error (.ref e)) {s' with heap := h', toks := tk}) → codeAny (model prg w) (Arr (dp+1) (un+3) gd o') (.call (.ref f) ⟨[],[]⟩) R' s' := eg ▸ deed
  (try dsimp only); (try k_fold)
  k_steps
  rename RaisedSN _ _ _ _ _ _ _ => RR
  rename Heap.UpToSlots _ _ => UU
  have D' : KtsDicts (outer.filterMap (·.frame)) g := eg ▸ D
  rename Fr _ _ _ _ => FF
  refine kts_lookSN RR FF B UU D' fun h' R2 U2 => ?_
  refine hit_SN0 R2 FF B U2 XB TB D' KtsTurn.refl (test_name (c := .ref 45) (.inl (by k_is)) (by kts_exm) rfl rfl (by decide)) (fun h'' g' T' F' N' B' X' T2 D2 => ?_)
  k_steps
  exact hR _ _ ⟨g', eg ▸ T', F'.keep⟩
end
section
variable {w : World} {mean : ExcName → Option Value} {mg mb : Str → Option Value} {dp un : Nat} {gd : Option (List Code)} {base g : Heap} {outer : List Env} {s : Shared} {R : Result → Shared → Prop} {L : Addr} {m : Str → Option Value} {env : Env} {news : List (Addr × Obj)} {Q E : Value → Shared → Prop}
theorem use_deedF {f : Addr} (deed : ∀ b' (o' : List Env) (s' : Shared) R', At w mean mg mb (dp+1) (un+3) gd b' o' s'.heap → (∀ b o, g.get? b = some o → s'.heap.get? b = some o) →
      (∀ h' tk v, (∀ b o, s'.heap.get? b = some o → h'.get? b = some o) → R' (.ok (.ret v)) {s' with heap := h', toks := tk}) → codeAny (model prg w) (Arr (dp+1) (un+3) gd o') (.call (.ref f) ⟨[],[]⟩) R' s')
    (hf : env.frame = some L) (hk : env.scope.kind = .function) (B : Below (Arr dp un gd outer) base outer g) (F : Fr g L s.heap m) (N : News g L s.heap news) (X : (hd.heap_39 w.params).In g) (T : Top topProg looseS mean mg mb g)
    (h : ∀ h' tk v, Fr g L h' m → News g L h' news → Q v { s with heap := h', toks := tk }) :
    wpAny (model prg w) ((Arr dp un gd outer).deeper env) (call (.ref f) []) Q E s :=
  wpAny_call (deed _ _ s _ (at_in hf hk B F X T) F.keep fun h' tk v k => h h' tk v (all_news F N k).1 (all_news F N k).2)
end
local macro_rules | `(tactic| walk_at "call ref") => `(tactic| lcg_open use_deedF)
section
variable {w : World} {mean : ExcName → Option Value} {mg mb : Str → Option Value} {dp un : Nat} {gd : Option (List Code)} {base g : Heap} {outer : List Env} {s : Shared} {R : Result → Shared → Prop} {L : Addr} {m : Str → Option Value} {env : Env} {news : List (Addr × Obj)} {Q E : Value → Shared → Prop}
theorem refused_false {f : Addr} (H : At w mean mg mb dp un gd base outer s.heap) (hdd : dp + 30 < recursionLimit) (hu : un + 200 < cLine) (fa : FnAt f s.heap)
   (deed : ∀ b' (o' : List Env) (s' : Shared) R', At w mean mg mb (dp+1) (un+3) gd b' o' s'.heap → (∀ b o, s.heap.get? b = some o → s'.heap.get? b = some o) →
      (∀ h' tk v, (∀ b o, s'.heap.get? b = some o → h'.get? b = some o) → R' (.ok (.ret v)) {s' with heap := h', toks := tk}) → codeAny (model prg w) (Arr (dp+1) (un+3) gd o') (.call (.ref f) ⟨[],[]⟩) R' s')
   (hR : ∀ h' tk, (∀ b o, s.heap.get? b = some o → h'.get? b = some o) → R (.ok (.ret (.bool false))) {s with heap := h', toks := tk}) :
   codeAny (model prg w) (Arr dp un gd outer) (.call (.ref 188) ⟨[.ref f], []⟩) R s := by
  obtain ⟨hB, hK, hT⟩ := id H
  k_dflt (refine' enter0 (binds := [(Str.ofString "deed", .ref f)]) ?k1 ?k6 ?k7 ?k8 ?k9 ?kB ?_ ?c2 ?c3 ?c4 ?c5; (case k1 => assumption); (case k6 => k_is); (case k7 => k_is); (case k8 => ktr_room); (case k9 => exact BindsTo.of_eq rfl); (case c5 => decide); (case kB => exact locs rfl); (case c2 => exact rfl); (case c3 => exact rfl); (case c4 => exact rfl); k_whole)
  intro g L' h1 eg eL F N B X T
  subst eL
  have fa' : FnAt f g := eg ▸ fa
  have deed' : ∀ b' (o' : List Env) (s' : Shared) R', At w mean mg mb (dp+1) (un+3) gd b' o' s'.heap → (∀ b o, g.get? b = some o → s'.heap.get? b = some o) →
      (∀ h' tk v, (∀ b o, s'.heap.get? b = some o → h'.get? b = some o) → R' (.ok (.ret v)) {s' with heap := h', toks := tk}) → codeAny (model prg w) (Arr (dp+1) (un+3) gd o') (.call (.ref f) ⟨[],[]⟩) R' s' := eg ▸ deed
  (try dsimp only); (try k_fold)
  k_steps
  subst eg
  rename Fr _ _ _ _ => FF
  exact hR _ _ FF.keep
theorem enterE {name qual : Str} {params : Arguments} {body : Expr} {scope : Scope} {cl : List (Str × Addr)} {pm ctv : Value} {c' f : Addr}
    (H : At w mean mg mb dp un gd base outer s.heap) (ho : s.heap.get? f = some (kla_obj name qual params body scope cl pm c' ctv)) (hcd : s.heap.CodeRec (.ref c') qual) (hroom : dp < recursionLimit)
    (hbind : bindArgs (kla_fn name qual params body scope cl pm (.ref c') ctv) ⟨[], []⟩ = pure [])
    (h : ∀ g L' h₁, g = s.heap → L' = s.heap.objs.size → Fr g L' h₁ (fun _ => none) → News g L' h₁ [] → Below (Arr dp un gd outer) base outer g → (hd.heap_39 w.params).In g → Top topProg looseS mean mg mb g →
      wpAny (model prg w) ((Arr dp un gd outer).deeper (envX qual scope L' f (.ref c') cl)) (eval body (envX qual scope L' f (.ref c') cl))
        (fun v s' => R (.ok (.ret v)) s')
        (fun e s' => wpAny (model prg w) ((Arr dp un gd outer).deeper (envX qual scope L' f (.ref c') cl)) (leaving (envX qual scope L' f (.ref c') cl) e) (fun _ s'' => R (.error e) s'') (fun e' s'' => R (.error e') s'') s')
        { s with heap := h₁, toks := s.toks })
    (hco : scope.isCoroutine = false) (hgen : scope.isGenerator = false) (hk : scope.kind = .function)
    (hcell : ∀ x ∈ scope.names, x.2 ≠ .cell) : codeAny (model prg w) (Arr dp un gd outer) (.call (.ref f) ⟨[], []⟩) R s := by
  refine kla_callFunE hroom ho rfl hco hgen rfl hcd ?_
  rw [hbind]
  refine wpAny_pure (wpAny_newFunctionEnv hcell (fun y hy => nomatch hy) (fun h₁ hns hsb => ⟨(H.T.nolimit).fresh _ hsb, ?_⟩) hk)
  have hk₁ : ∀ b o, s.heap.get? b = some o → h₁.get? b = some o := fun b o e => hsb.extBut b o (Nat.ne_of_lt (Heap.lt_size e)) (Heap.get?_push_of_some _ e)
  exact kla_codeExpr (h _ s.heap.objs.size h₁ rfl rfl ⟨hns, hk₁, Nat.le_refl _⟩ (fun p hp => nomatch hp) H.below H.K H.T)
end
theorem fresh_SqJ : True := by w_top off; trivial
section
variable {w : World} {mean : ExcName → Option Value} {mg mb : Str → Option Value} {dp un : Nat} {gd : Option (List Code)} {base g : Heap} {outer : List Env} {s : Shared} {R : Result → Shared → Prop} {L : Addr} {m : Str → Option Value} {env : Env} {news : List (Addr × Obj)} {Q E : Value → Shared → Prop}
theorem init97d {x dx l : Addr} {vs : List Value} (H : At w mean mg mb dp un gd base outer (hideAll s.heap [x, dx])) (hd : dp + 9 < recursionLimit) (hu : un + 60 < cLine)
   (hx : s.heap.get? x = some (instObj 135 dx)) (hdx : s.heap.get? dx = some (dictOf [] 0)) (hxd : dx < x)
   (hl : SeqAt (hideAll s.heap [x, dx]) l vs) (ht : ∀ v ∈ vs, ∃ p, TokV (hideAll s.heap [x, dx]) v p) (hz : vs.length ≤ 1000)
   (hR : ∀ h' tk r t1 t2, (∀ b o, b ≠ x → b ≠ dx → s.heap.get? b = some o → h'.get? b = some o) → h'.get? x = some (instObj 135 dx) → h'.get? dx = some (feedDict w.params r 89 t1 t2) → h'.get? r = some (listOf vs.reverse.toArray 0) →
     s.heap.get? r = none → x < r → R (.ok (.ret .none)) { s with heap := h', toks := tk }) :
   codeAny (model prg w) (Arr dp un gd outer) (.call (.ref 97) ⟨[.ref x, .ref l], []⟩) R s := by
  have sl := sizeLine_eq
  k_dflt (refine' enter (X := [(x, instObj 135 dx), (dx, dictOf [] 0)]) (binds := [(Str.ofString "self", .ref x), (Str.ofString "tokens", .ref l), (Str.ofString "outers", .ref 89)]) ?k1 ?kX ?k6 ?k7 ?k8 ?k9 ?kB ?_ ?c2 ?c3 ?c4 ?c5; (case k1 => assumption); (case kX => (intro p hp; rcases List.mem_cons.mp hp with rfl | hp; exact hx; cases List.mem_singleton.mp hp; exact hdx)); (case k6 => k_is); (case k7 => k_is); (case k8 => ktr_room); (case k9 => exact BindsTo.of_defaults rfl (of_hideAll _ (H.K _ _ (by k_is))) rfl rfl rfl); (case c5 => decide); (case kB => exact locs rfl); (case c2 => exact rfl); (case c3 => exact rfl); (case c4 => exact rfl); k_whole)
  intro g L' h1 eg eL F N B X T
  have hl' : SeqAt g l vs := eg ▸ hl
  have ht' : ∀ v ∈ vs, ∃ p, TokV g v p := eg ▸ ht
  have ho' : IsTup g 89 #[] := ⟨_, X _ _ (by k_is), rfl, _, rfl⟩
  subst eL
  k_lt2 hxd
  (try dsimp only); (try k_fold)
  k_steps
  rename Fr _ _ _ _ => FF
  rename News _ _ _ _ => NN
  rename _ ∧ _ ∧ _ => ll
  have nr := (NN _ (.head _)).2.2
  refine hR _ _ _ _ _ (fun b o h1 h2 q => FF.keep b o ?_) (NN _ (.tail _ (.tail _ (.head _)))).1 (NN _ (.tail _ (.tail _ (.tail _ (.head _))))).1 (NN _ (.head _)).1 ?_ ll.2.1
  · rw [eg]; exact hideAll_get _ q (by simp [h1, h2])
  · refine fresh_of_hide eg nr fun hm => ?_
    simp only [List.map_cons, List.map_nil, List.mem_cons, List.not_mem_nil, or_false] at hm
    rcases hm with q | q
    · have := ll.2.1; rw [q] at this; exact Nat.lt_irrefl _ this
    · have := ll.2.2; rw [q] at this; exact Nat.lt_irrefl _ this
end
section
variable {w : World} {mean : ExcName → Option Value} {mg mb : Str → Option Value} {dp un : Nat} {gd : Option (List Code)} {base g : Heap} {outer : List Env} {s : Shared} {L : Addr} {m : Str → Option Value} {env : Env} {news : List (Addr × Obj)} {Q E : Value → Shared → Prop}
theorem use_feed {l o : Addr} {vs : List Value} {os : Array Value} (hf : env.frame = some L) (hk : env.scope.kind = .function) (B : Below (Arr dp un gd outer) base outer g) (F : Fr g L s.heap m) (N : News g L s.heap news) (X : (hd.heap_39 w.params).In g) (T : Top topProg looseS mean mg mb g)
   (hl : SeqAt s.heap l vs) (ht : ∀ v ∈ vs, ∃ p, TokV s.heap v p) (hz : vs.length ≤ 1000) (ho : IsTup s.heap o os) (hdd : dp + 15 < recursionLimit) (hu : un + 80 < cLine)
   (h : ∀ h' tk x dx r t1 t2, Fr g L h' m → News g L h' ((r, listOf vs.reverse.toArray 0) :: (x, instObj 135 dx) :: (dx, feedDict w.params r o t1 t2) :: news) → (∀ p ∈ news, p.1 < dx) → dx < x → x < r → (∀ b o, s.heap.get? b = some o → h'.get? b = some o) → Q (.ref x) { s with heap := h', toks := tk }) :
   wpAny (model prg w) ((Arr dp un gd outer).deeper env) (call (.ref 135) [.ref l, .ref o]) Q E s := by
  refine wpAny_call ?_
  obtain ⟨hh, gs, d, tk, os'⟩ := s
  dsimp only at F N hl ht ho h
  have st : ∀ b q, hh.get? b = some q → ((hh.push emptyDict).push (instObj 135 hh.objs.size)).get? b = some q := fun b q e => Heap.get?_push_of_some _ (Heap.get?_push_of_some _ e)
  have XK := X.keeps F.keep
  refine make_core (makes_of XK (by k_is)) (looks_findIn XK (by k_is)) (fun self => bind_fn XK self (by k_is)) (.inl rfl) ?_
  show codeAny (model prg w) (Arr (dp + 2) (un + 4) gd (env :: outer)) (.call (.ref 97) ⟨[.ref (hh.objs.size + 1), .ref l, .ref o], []⟩) _ _
  have sz : (hh.push emptyDict).objs.size = hh.objs.size + 1 := Heap.size_push ..
  have hx : ((hh.push emptyDict).push (instObj 135 hh.objs.size)).get? (hh.objs.size + 1) = some (instObj 135 hh.objs.size) := by rw [← sz]; exact Heap.get?_push_size _ rfl
  have hdx : ((hh.push emptyDict).push (instObj 135 hh.objs.size)).get? hh.objs.size = some (dictOf [] 0) := Heap.get?_push_of_some _ (Heap.get?_push_size _ rfl)
  have hin : ∀ b q, hh.get? b = some q → (hideAll ((hh.push emptyDict).push (instObj 135 hh.objs.size)) [hh.objs.size + 1, hh.objs.size]).get? b = some q := fun b q e => hideAll_get _ (st b q e) fun hm => by
    have := Heap.lt_size e
    simp only [List.mem_cons, List.not_mem_nil, or_false] at hm
    rcases hm with rfl | rfl
    · exact Nat.lt_irrefl _ (Nat.lt_of_succ_lt this)
    · exact Nat.lt_irrefl _ this
  refine init97 (dp := dp + 2) (un := un + 4) (s := ⟨_, gs, d, tk, os'⟩) ((at_in (s := ⟨hh, gs, d, tk, os'⟩) hf hk B F X T).grow hin) (by k_sizes) (by k_sizes) hx hdx (Nat.lt_succ_self _) (hl.keeps hin) (fun v hv => let ⟨p, hp⟩ := ht v hv; ⟨p, hp.keeps hin⟩) hz (IsTup.keeps ho hin) fun h' tk' r t1 t2 k1 k2 k3 k4 k5 k6 => ⟨rfl, ?_⟩
  have kk : ∀ b q, hh.get? b = some q → h'.get? b = some q := fun b q e => k1 b q (Nat.ne_of_lt (Nat.lt_succ_of_lt (Heap.lt_size e))) (Nat.ne_of_lt (Heap.lt_size e)) (st b q e)
  obtain ⟨F', N'⟩ := all_news F N kk
  have gs' : g.objs.size ≤ hh.objs.size := Nat.le_trans F.above (Nat.le_of_lt F.ns.lt)
  have Ll := F.ns.lt
  refine h h' tk' _ _ r t1 t2 F' (fun p hp => ?_) (fun p hp => Heap.lt_size (N p hp).1) (Nat.lt_succ_self _) k6 kk
  rcases List.mem_cons.mp hp with rfl | hp
  · exact ⟨k4, Nat.ne_of_gt (Nat.lt_trans (Nat.lt_succ_of_lt Ll) k6), Heap.get?_none_of_le (Nat.le_trans gs' (Nat.le_of_lt (Nat.lt_of_succ_lt k6)))⟩
  rcases List.mem_cons.mp hp with rfl | hp
  · exact ⟨k2, Nat.ne_of_gt (Nat.lt_succ_of_lt Ll), Heap.get?_none_of_le (Nat.le_succ_of_le gs')⟩
  rcases List.mem_cons.mp hp with rfl | hp
  · exact ⟨k3, Nat.ne_of_gt Ll, Heap.get?_none_of_le gs'⟩
  · exact N' p hp
theorem use_feed0 {l : Addr} {vs : List Value} (hf : env.frame = some L) (hk : env.scope.kind = .function) (B : Below (Arr dp un gd outer) base outer g) (F : Fr g L s.heap m) (N : News g L s.heap news) (X : (hd.heap_39 w.params).In g) (T : Top topProg looseS mean mg mb g)
   (hl : SeqAt s.heap l vs) (ht : ∀ v ∈ vs, ∃ p, TokV s.heap v p) (hz : vs.length ≤ 1000) (hdd : dp + 15 < recursionLimit) (hu : un + 80 < cLine)
   (h : ∀ h' tk x, Fr g L h' m → News g L h' news → (∀ b o, s.heap.get? b = some o → h'.get? b = some o) → Q (.ref x) { s with heap := h', toks := tk }) :
   wpAny (model prg w) ((Arr dp un gd outer).deeper env) (call (.ref 135) [.ref l]) Q E s := by
  refine wpAny_call ?_
  obtain ⟨hh, gs, d, tk, os'⟩ := s
  dsimp only at F N hl ht h
  have st : ∀ b q, hh.get? b = some q → ((hh.push emptyDict).push (instObj 135 hh.objs.size)).get? b = some q := fun b q e => Heap.get?_push_of_some _ (Heap.get?_push_of_some _ e)
  have XK := X.keeps F.keep
  refine make_core (makes_of XK (by k_is)) (looks_findIn XK (by k_is)) (fun self => bind_fn XK self (by k_is)) (.inl rfl) ?_
  show codeAny (model prg w) (Arr (dp + 2) (un + 4) gd (env :: outer)) (.call (.ref 97) ⟨[.ref (hh.objs.size + 1), .ref l], []⟩) _ _
  have sz : (hh.push emptyDict).objs.size = hh.objs.size + 1 := Heap.size_push ..
  have hx : ((hh.push emptyDict).push (instObj 135 hh.objs.size)).get? (hh.objs.size + 1) = some (instObj 135 hh.objs.size) := by rw [← sz]; exact Heap.get?_push_size _ rfl
  have hdx : ((hh.push emptyDict).push (instObj 135 hh.objs.size)).get? hh.objs.size = some (dictOf [] 0) := Heap.get?_push_of_some _ (Heap.get?_push_size _ rfl)
  have hin : ∀ b q, hh.get? b = some q → (hideAll ((hh.push emptyDict).push (instObj 135 hh.objs.size)) [hh.objs.size + 1, hh.objs.size]).get? b = some q := fun b q e => hideAll_get _ (st b q e) fun hm => by
    have := Heap.lt_size e
    simp only [List.mem_cons, List.not_mem_nil, or_false] at hm
    rcases hm with rfl | rfl
    · exact Nat.lt_irrefl _ (Nat.lt_of_succ_lt this)
    · exact Nat.lt_irrefl _ this
  refine init97d (dp := dp + 2) (un := un + 4) (s := ⟨_, gs, d, tk, os'⟩) ((at_in (s := ⟨hh, gs, d, tk, os'⟩) hf hk B F X T).grow hin) (by k_sizes) (by k_sizes) hx hdx (Nat.lt_succ_self _) (hl.keeps hin) (fun v hv => let ⟨p, hp⟩ := ht v hv; ⟨p, hp.keeps hin⟩) hz fun h' tk' r t1 t2 k1 k2 k3 k4 k5 k6 => ⟨rfl, ?_⟩
  have kk : ∀ b q, hh.get? b = some q → h'.get? b = some q := fun b q e => k1 b q (Nat.ne_of_lt (Nat.lt_succ_of_lt (Heap.lt_size e))) (Nat.ne_of_lt (Heap.lt_size e)) (st b q e)
  obtain ⟨F', N'⟩ := all_news F N kk
  exact h h' tk' _ F' N' kk
theorem use_feed_bad {l : Addr} {vs : List Value} {k : Nat} {b : Value} (hf : env.frame = some L) (hk : env.scope.kind = .function) (B : Below (Arr dp un gd outer) base outer g) (F : Fr g L s.heap m) (X : (hd.heap_39 w.params).In g) (T : Top topProg looseS mean mg mb g)
   (hl : SeqAt s.heap l vs) (hkb : vs[k]? = some b) (hb : b ∈ badVs) (ht : ∀ i v, i < k → vs[i]? = some v → ∃ p, TokV s.heap v p) (hdd : dp + 25 < recursionLimit) (hu : un + 140 < cLine)
   (h : ∀ h' tk e, Flown base (env :: outer) s.heap h' e → E (.ref e) { s with heap := h', toks := tk }) :
   wpAny (model prg w) ((Arr dp un gd outer).deeper env) (call (.ref 135) [.ref l]) Q E s := by
  refine wpAny_call ?_
  obtain ⟨hh, gs, d, tk, os'⟩ := s
  dsimp only at F hl ht h
  have st : ∀ b q, hh.get? b = some q → ((hh.push emptyDict).push (instObj 135 hh.objs.size)).get? b = some q := fun b q e => Heap.get?_push_of_some _ (Heap.get?_push_of_some _ e)
  have XK := X.keeps F.keep
  refine make_core (makes_of XK (by k_is)) (looks_findIn XK (by k_is)) (fun self => bind_fn XK self (by k_is)) (.inl rfl) ?_
  show codeAny (model prg w) (Arr (dp + 2) (un + 4) gd (env :: outer)) (.call (.ref 97) ⟨[.ref (hh.objs.size + 1), .ref l], []⟩) _ _
  refine init_bad (o := 0) (dp := dp + 2) (un := un + 4) (s := ⟨_, gs, d, tk, os'⟩) ((at_in (s := ⟨hh, gs, d, tk, os'⟩) hf hk B F X T).grow st) (by k_sizes) (by k_sizes) (hl.keeps st) hkb hb (fun i v hi hv => let ⟨p, hp⟩ := ht i v hi hv; ⟨p, hp.keeps st⟩) fun h' tk' e fl => ?_
  obtain ⟨a0, fl, up⟩ := fl
  exact h _ _ _ ⟨a0, fl, (Heap.UpToSlots.of_keeps st).trans up⟩
end
theorem fresh_SqK : True := by w_top off; trivial
def Wall (P : Prop) : Prop := P
theorem wall {P : Prop} (h : Wall P) : P := h
theorem wallF (n : Nat) {M : Model} {A : Around} {E : Value → Shared → Prop} {s : Shared} {as : List Value} {Q : Value → Shared → Prop} (h : Wall (wpAny M A (call (.ref n) as) Q E s)) : wpAny M A (call (.ref n) as) Q E s := h
section
variable {w : World} {mean : ExcName → Option Value} {mg mb : Str → Option Value} {dp un : Nat} {gd : Option (List Code)} {base g : Heap} {outer : List Env} {s : Shared} {L : Addr} {m : Str → Option Value} {env : Env} {news : List (Addr × Obj)} {Q E : Value → Shared → Prop}
theorem use_refused_true {f : Addr} (hf : env.frame = some L) (hk : env.scope.kind = .function) (B : Below (Arr dp un gd outer) base outer g) (F : Fr g L s.heap m) (N : News g L s.heap news) (X : (hd.heap_39 w.params).In g) (T : Top topProg looseS mean mg mb g)
   (XB : (hd.heap_39 w.params).In base) (TB : Top topProg looseS mean mg mb base) (D : KtsDicts (outer.filterMap (·.frame)) g) (fa : FnAt f s.heap) (hdd : dp + 40 < recursionLimit) (hu : un + 250 < cLine)
   (deed : ∀ b' (o' : List Env) (s' : Shared) R', At w mean mg mb (dp+2) (un+6) gd b' o' s'.heap → (∀ b o, s.heap.get? b = some o → s'.heap.get? b = some o) →
      (∀ h' tk e, Flown b' o' s'.heap h' e → R' (.error (.ref e)) {s' with heap := h', toks := tk}) → codeAny (model prg w) (Arr (dp+2) (un+6) gd o') (.call (.ref f) ⟨[],[]⟩) R' s')
   (h : ∀ h' tk g', KtsTurn (outer.filterMap (·.frame)) g g' → Fr g' L h' m → News g' L h' news → Below (Arr dp un gd outer) base outer g' → (hd.heap_39 w.params).In g' → Top topProg looseS mean mg mb g' → KtsDicts (outer.filterMap (·.frame)) g' → Q (.bool true) { s with heap := h', toks := tk }) :
   wpAny (model prg w) ((Arr dp un gd outer).deeper env) (call (.ref 188) [.ref f]) Q E s :=
  wpAny_call (refused_true (dp := dp + 1) (un := un + 3) (at_in hf hk B F X T) (by k_sizes) (by k_sizes) fa XB TB (dicts_in hf F D) deed fun h' tk tn => by
    obtain ⟨g', t1, t2, t3, t4⟩ := turn_caller hf B F N tn
    exact h h' tk g' t1 t2 t3 t4 (XB.keeps t4.stays) (TB.keeps t4.stays) (D.turn t1))
theorem use_refused_false {f : Addr} (hf : env.frame = some L) (hk : env.scope.kind = .function) (B : Below (Arr dp un gd outer) base outer g) (F : Fr g L s.heap m) (N : News g L s.heap news) (X : (hd.heap_39 w.params).In g) (T : Top topProg looseS mean mg mb g)
   (fa : FnAt f s.heap) (hdd : dp + 40 < recursionLimit) (hu : un + 250 < cLine)
   (deed : ∀ b' (o' : List Env) (s' : Shared) R', At w mean mg mb (dp+2) (un+6) gd b' o' s'.heap → (∀ b o, s.heap.get? b = some o → s'.heap.get? b = some o) →
      (∀ h' tk v, (∀ b o, s'.heap.get? b = some o → h'.get? b = some o) → R' (.ok (.ret v)) {s' with heap := h', toks := tk}) → codeAny (model prg w) (Arr (dp+2) (un+6) gd o') (.call (.ref f) ⟨[],[]⟩) R' s')
   (h : ∀ h' tk, Fr g L h' m → News g L h' news → Q (.bool false) { s with heap := h', toks := tk }) :
   wpAny (model prg w) ((Arr dp un gd outer).deeper env) (call (.ref 188) [.ref f]) Q E s :=
  wpAny_call (refused_false (dp := dp + 1) (un := un + 3) (at_in hf hk B F X T) (by k_sizes) (by k_sizes) fa deed fun h' tk k => h h' tk (all_news F N k).1 (all_news F N k).2)
theorem codes_itemB {value slice : PySem.Expr} {A A₁ : Around} {d : Int} {u : Tok} (_B : Below A₁ base outer g) (F : Fr g L s.heap m) (X : (hd.heap_39 w.params).In g) (XB : (hd.heap_39 w.params).In base) (h0 : 0 ≤ d) (h1 : d < 14) (h : ∀ v p, TokV base v p → Q v s)
    (hs : ∀ c u, subscripted slice false (.ref 154) (.int c u) = operate [.ref 154, .int c u] (getItem (.ref 154) (.int c u))) :
    wpAny (model prog w) A (subscriptTail value slice (.ref 154) (.int d u)) Q E s := by
  have key : ∃ v p j, seqIndex? d 14 = some j ∧ ([.ref 140, .ref 141, .ref 142, .ref 143, .ref 144, .ref 145, .ref 146, .ref 147, .ref 148, .ref 149, .ref 150, .ref 151, .ref 152, .ref 153] : List Value)[j]? = some v ∧ TokV base v p := by
    refine cases14 (P := fun d => ∃ v p j, seqIndex? d 14 = some j ∧ ([.ref 140, .ref 141, .ref 142, .ref 143, .ref 144, .ref 145, .ref 146, .ref 147, .ref 148, .ref 149, .ref 150, .ref 151, .ref 152, .ref 153] : List Value)[j]? = some v ∧ TokV base v p) h0 h1 ?_ ?_ ?_ ?_ ?_ ?_ ?_ ?_ ?_ ?_ ?_ ?_ ?_ ?_
    · exact ⟨_, _, _, rfl, rfl, tokV_K XB (by k_is) (by unfold okTok leastI greatI; decide)⟩
    · exact ⟨_, _, _, rfl, rfl, tokV_K XB (by k_is) (by unfold okTok leastI greatI; decide)⟩
    · exact ⟨_, _, _, rfl, rfl, tokV_K XB (by k_is) (by unfold okTok leastI greatI; decide)⟩
    · exact ⟨_, _, _, rfl, rfl, tokV_K XB (by k_is) (by unfold okTok leastI greatI; decide)⟩
    · exact ⟨_, _, _, rfl, rfl, tokV_K XB (by k_is) (by unfold okTok leastI greatI; decide)⟩
    · exact ⟨_, _, _, rfl, rfl, tokV_K XB (by k_is) (by unfold okTok leastI greatI; decide)⟩
    · exact ⟨_, _, _, rfl, rfl, tokV_K XB (by k_is) (by unfold okTok leastI greatI; decide)⟩
    · exact ⟨_, _, _, rfl, rfl, tokV_K XB (by k_is) (by unfold okTok leastI greatI; decide)⟩
    · exact ⟨_, _, _, rfl, rfl, tokV_K XB (by k_is) (by unfold okTok leastI greatI; decide)⟩
    · exact ⟨_, _, _, rfl, rfl, tokV_K XB (by k_is) (by unfold okTok leastI greatI; decide)⟩
    · exact ⟨_, _, _, rfl, rfl, tokV_K XB (by k_is) (by unfold okTok leastI greatI; decide)⟩
    · exact ⟨_, _, _, rfl, rfl, tokV_K XB (by k_is) (by unfold okTok leastI greatI; decide)⟩
    · exact ⟨_, _, _, rfl, rfl, tokV_K XB (by k_is) (by unfold okTok leastI greatI; decide)⟩
    · exact ⟨_, _, _, rfl, rfl, tokV_K XB (by k_is) (by unfold okTok leastI greatI; decide)⟩
  obtain ⟨v, p, j, e1, e2, tv⟩ := key
  exact topTup_K (l := [.ref 140, .ref 141, .ref 142, .ref 143, .ref 144, .ref 145, .ref 146, .ref 147, .ref 148, .ref 149, .ref 150, .ref 151, .ref 152, .ref 153]) (n := 0) (dd := none) (sl := #[]) F X (by k_is) (by k_sizes) (by k_sizes) e1 e2 (h v p tv) (hs d u)
theorem isList_news {h : Heap} {a : Addr} {vs : List Value} {n : Nat} (N : News g L h news) (hm : (a, listOf vs.toArray n) ∈ news) : h.IsList a vs.toArray := ⟨_, (N _ hm).1, rfl, _, rfl⟩
theorem isList_fr {h : Heap} {a : Addr} {vs : List Value} {n : Nat} (F : Fr g L h m) (e : g.get? a = some (listOf vs.toArray n)) : h.IsList a vs.toArray := ⟨_, F.keep _ _ e, rfl, _, rfl⟩
theorem nameG {M : Model} {A : Around} {cn x : Str} {cs : Scope} {a c : Addr} {ccd v : Value} {cl : List (Str × Addr)} {pos : Pos} {o : Obj} (F : Fr g L s.heap m) (hc : cl.lookup x = some c) (hg : g.get? c = some o) (hd : o.data = .cell (some v)) (h : Q v s)
    (hk : cs.kind = .function) (hx : (envX cn cs L a ccd cl).kindOf x = some .free) (hb : (x == ("__debug__" : Str)) = false) (hn : (x == ("__classdict__" : Str)) = false) :
    wpAny M A (eval (.Name x pos) (envX cn cs L a ccd cl)) Q E s := wpAny_Name (wpAny_loadName_free hk hx hc ⟨o, F.keep _ _ hg, hd⟩ h hn) hb
def LAt (g : Heap) (news : List (Addr × Obj)) (l : Addr) (vs : List Value) : Prop := (∃ n, g.get? l = some (listOf vs.toArray n)) ∨ ∃ n, (l, listOf vs.toArray n) ∈ news
theorem LAt.is {h : Heap} {a : Addr} {vs : List Value} (x : LAt g news a vs) (F : Fr g L h m) (N : News g L h news) : h.IsList a vs.toArray := x.elim (fun ⟨_, e⟩ => isList_fr F e) fun ⟨_, e⟩ => isList_news N e
theorem pick_mem {vs : List Value} {lo hi : Option Int} {v : Value} (h : v ∈ kms_pick vs lo hi) : v ∈ vs := List.mem_of_mem_drop (List.mem_of_mem_take h)
theorem pick_len {vs : List Value} {lo hi : Option Int} : (kms_pick vs lo hi).length ≤ vs.length := by
  unfold kms_pick
  exact Nat.le_trans (List.length_take_le' _ _) (by simp)
theorem slice_vals {prog : Program} {A : Around} {value slice : PySem.Expr} {l : Addr} {vs : List Value} {vl vu : Value} {lo hi : Option Int} (F : Fr g L s.heap m) (N : News g L s.heap news) (hl : s.heap.IsList l vs.toArray) (pl : IsPart vl lo) (pu : IsPart vu hi)
    (h : ∀ D h', Fr g L h' m → News g L h' ((D, listOf (kms_pick vs lo hi).toArray 0) :: news) → (∀ p ∈ news, p.1 < D) → Q (.ref D) { s with heap := h' })
    (hs : subscripted slice false (.ref l) (.ref s.heap.objs.size) = operate [.ref s.heap.objs.size, .ref l] (getItem (.ref l) (.ref s.heap.objs.size))) (ht : ∀ r, letTemporaryGo value (.ref l) r = pure ()) (hz : vs.length ≤ sizeLine) :
    wpAny (model prog w) A (subscriptTail value slice (.ref l) (.ref s.heap.objs.size)) Q E { s with heap := s.heap.push { cls := .type "slice", data := .fields #[vl, vu, .none] } } :=
  kms_slice_lit F N hl pl pu rfl h hs ht (by simpa using hz)
theorem add_vals {prog : Program} {A : Around} {l b : Addr} {vs us : List Value} (F : Fr g L s.heap m) (N : News g L s.heap news) (hl : s.heap.IsList l vs.toArray) (hb : s.heap.IsList b us.toArray)
    (h : ∀ D h', Fr g L h' m → News g L h' ((D, listOf (vs ++ us).toArray 0) :: news) → (∀ p ∈ news, p.1 < D) → Q (.ref D) { s with heap := h' }) (hz : vs.length + us.length ≤ sizeLine) :
    wpAny (model prog w) A (binaryOp .Add (.ref l) (.ref b)) Q E s :=
  add_lists F N hl hb (fun h' F' N' => h _ h' F' N' fun p hp => Heap.lt_size (N p hp).1) hz
theorem slice_at {hp : Heap} {gs : Array GenState} {dn : Drawn} {tk : Nat} {os : OsState} {prog : Program} {A : Around} {value slice : PySem.Expr} {l : Addr} {vs : List Value} {vl vu : Value} {lo hi : Option Int} (F : Fr g L hp m) (N : News g L hp news) (hl : LAt g news l vs) (pl : IsPart vl lo) (pu : IsPart vu hi)
    (h : ∀ D h', Fr g L h' m → News g L h' ((D, listOf (kms_pick vs lo hi).toArray 0) :: news) → (∀ p ∈ news, p.1 < D) → Q (.ref D) ⟨h', gs, dn, tk, os⟩)
    (hs : subscripted slice false (.ref l) (.ref hp.objs.size) = operate [.ref hp.objs.size, .ref l] (getItem (.ref l) (.ref hp.objs.size))) (ht : ∀ r, letTemporaryGo value (.ref l) r = pure ()) (hz : vs.length ≤ sizeLine) :
    wpAny (model prog w) A (subscriptTail value slice (.ref l) (.ref hp.objs.size)) Q E ⟨hp.push { cls := .type "slice", data := .fields #[vl, vu, .none] }, gs, dn, tk, os⟩ :=
  slice_vals (s := ⟨hp, gs, dn, tk, os⟩) F N (hl.is F N) pl pu h hs ht hz
theorem add_at {prog : Program} {A : Around} {l b : Addr} {vs us : List Value} (F : Fr g L s.heap m) (N : News g L s.heap news) (hl : LAt g news l vs) (hb : LAt g news b us)
    (h : ∀ D h', Fr g L h' m → News g L h' ((D, listOf (vs ++ us).toArray 0) :: news) → (∀ p ∈ news, p.1 < D) → Q (.ref D) { s with heap := h' }) (hz : vs.length + us.length ≤ sizeLine) :
    wpAny (model prog w) A (binaryOp .Add (.ref l) (.ref b)) Q E s := add_vals F N (hl.is F N) (hb.is F N) h hz
end
local macro_rules | `(tactic| kdo_acc) => `(tactic| k_search (wall ?_))
local macro_rules | `(tactic| walk_at "eval Name") => `(tactic| (name_kind "free"; kspl_eval nameG))
local macro_rules | `(tactic| walk_at "eval Name") => `(tactic| (name_kind "globalImplicit"; first | kspl_eval nameX_K | k_search (nameX_B ‹_› ‹_› ‹_› ‹_› (by k_dflt boot_fast) ‹_› ?_ ‹_› ‹_›)))
local macro_rules | `(tactic| walk_at "eval Name") => `(tactic| (name_kind "cell"; kspl_eval nameX_C))
local macro_rules | `(tactic| walk_at "eval Name") => `(tactic| (name_kind "local"; kspl_eval nameX_L))
local macro_rules | `(tactic| walk_at "callWith ref") => `(tactic| kspl_eval callWith_K)
theorem fresh_SqF : True := by w_top off; trivial
local macro_rules | `(tactic| walk_at "call ref") => `(tactic| first | cb_end use_take | k_search (wallF 188 ?_) | k_search (wallF 135 ?_))
local macro_rules | `(tactic| walk_at "exec Assign cons ListComp") => `(tactic| kspl_eval Assign_compU)
local macro_rules | `(tactic| walk_at "eval ListComp") => `(tactic| kspl_eval eval_compU)
local macro_rules | `(tactic| walk_at "subscriptTail") => `(tactic| first | lcg_open codes_itemB | lcg_open none_item)
local macro_rules | `(tactic| walk_at "subscriptTail Name Slice ref ref") => `(tactic| (kspl_eval slice_at; k_keys))
local macro_rules | `(tactic| walk_at "binaryOp Add ref ref") => `(tactic| (kspl_eval add_at; k_keys))
section
variable {w : World} {mean : ExcName → Option Value} {mg mb : Str → Option Value} {dp un : Nat} {gd : Option (List Code)} {base : Heap} {outer : List Env} {s : Shared} {R : Result → Shared → Prop}
theorem door {box : Addr} {ob : Obj} (H : At w mean mg mb dp un gd base outer (hideAll s.heap [box, 200])) (hdd : dp + 60 < recursionLimit) (hu : un + 400 < cLine)
   (XB : (hd.heap_39 w.params).In base) (TB : Top topProg looseS mean mg mb base) (D : KtsDicts (outer.filterMap (·.frame)) (hideAll s.heap [box, 200])) (hC : CodeHd base 202 200)
   (hob : s.heap.get? box = some ob) (hBox : BoxOk 0 ob) (h200 : s.heap.get? 200 = some (tabObj #[])) (hne : 200 < box)
   (hR : ∀ h' tk ps ob', Turn (outer.filterMap (·.frame)) (hideAll s.heap [box, 200]) h' → h'.get? 200 = some (tabObj ps) → h'.get? box = some ob' → R (.ok (.ret (.bool true))) { s with heap := h', toks := tk }) :
   codeAny (model prg w) (Arr dp un gd outer) (.call (.ref 203) ⟨[.ref box], []⟩) R s := by
  have sl := sizeLine_eq
  have hX : ∀ p ∈ [(box, ob), (200, tabObj #[])], s.heap.get? p.1 = some p.2 := List.forall_mem_cons.mpr ⟨hob, List.forall_mem_cons.mpr ⟨h200, fun _ hp => nomatch hp⟩⟩
  k_dflt (refine' enterC (X := [(box, ob), (200, tabObj #[])]) (binds := [(Str.ofString "box", .ref box)]) ?k1 ?kX ?k6 ?k7 ?k8 ?k9 ?kB ?kD ?_ ?c2 ?c3 ?c4; (case k1 => assumption); (case kX => exact hX); (case k6 => k_is); (case k7 => k_is); (case k8 => ktr_room); (case k9 => exact BindsTo.of_eq rfl); (case kB => rfl); (case kD => decide); (case c2 => exact rfl); (case c3 => exact rfl); (case c4 => exact rfl); k_whole)
  intro g L' h1' tk1 cells eg eL F N Y B X T l1
  subst eL
  k_lt l1
  k_cells Y
  (try simp only [List.cons_append, List.nil_append] at N)
  k_lt2 hne
  have k1_1 : @LT.lt Nat _ (box) (s.heap.objs.size + 1) := Nat.lt_succ_of_lt (by k_same)
  have k1_2 : @LT.lt Nat _ (200) (s.heap.objs.size + 1) := Nat.lt_succ_of_lt (by k_same)
  have k2_1 : @LT.lt Nat _ (s.heap.objs.size + 1) (s.heap.objs.size + 1 + 1) := Nat.lt_succ_self _
  have k2_2 : @LT.lt Nat _ (box) (s.heap.objs.size + 1 + 1) := Nat.lt_succ_of_lt (by k_same)
  have k2_3 : @LT.lt Nat _ (200) (s.heap.objs.size + 1 + 1) := Nat.lt_succ_of_lt (by k_same)
  have k3_1 : @LT.lt Nat _ (s.heap.objs.size + 1 + 1) (s.heap.objs.size + 1 + 1 + 1) := Nat.lt_succ_self _
  have k3_2 : @LT.lt Nat _ (s.heap.objs.size + 1) (s.heap.objs.size + 1 + 1 + 1) := Nat.lt_succ_of_lt (by k_same)
  have k3_3 : @LT.lt Nat _ (box) (s.heap.objs.size + 1 + 1 + 1) := Nat.lt_succ_of_lt (by k_same)
  have k3_4 : @LT.lt Nat _ (200) (s.heap.objs.size + 1 + 1 + 1) := Nat.lt_succ_of_lt (by k_same)
  have k4_1 : @LT.lt Nat _ (s.heap.objs.size + 1 + 1 + 1) (s.heap.objs.size + 1 + 1 + 1 + 1) := Nat.lt_succ_self _
  have k4_2 : @LT.lt Nat _ (s.heap.objs.size + 1 + 1) (s.heap.objs.size + 1 + 1 + 1 + 1) := Nat.lt_succ_of_lt (by k_same)
  have k4_3 : @LT.lt Nat _ (s.heap.objs.size + 1) (s.heap.objs.size + 1 + 1 + 1 + 1) := Nat.lt_succ_of_lt (by k_same)
  have k4_4 : @LT.lt Nat _ (box) (s.heap.objs.size + 1 + 1 + 1 + 1) := Nat.lt_succ_of_lt (by k_same)
  have k4_5 : @LT.lt Nat _ (200) (s.heap.objs.size + 1 + 1 + 1 + 1) := Nat.lt_succ_of_lt (by k_same)
  have k5_1 : @LT.lt Nat _ (s.heap.objs.size + 1 + 1 + 1 + 1) (s.heap.objs.size + 1 + 1 + 1 + 1 + 1) := Nat.lt_succ_self _
  have k5_2 : @LT.lt Nat _ (s.heap.objs.size + 1 + 1 + 1) (s.heap.objs.size + 1 + 1 + 1 + 1 + 1) := Nat.lt_succ_of_lt (by k_same)
  have k5_3 : @LT.lt Nat _ (s.heap.objs.size + 1 + 1) (s.heap.objs.size + 1 + 1 + 1 + 1 + 1) := Nat.lt_succ_of_lt (by k_same)
  have k5_4 : @LT.lt Nat _ (s.heap.objs.size + 1) (s.heap.objs.size + 1 + 1 + 1 + 1 + 1) := Nat.lt_succ_of_lt (by k_same)
  have k5_5 : @LT.lt Nat _ (box) (s.heap.objs.size + 1 + 1 + 1 + 1 + 1) := Nat.lt_succ_of_lt (by k_same)
  have k5_6 : @LT.lt Nat _ (200) (s.heap.objs.size + 1 + 1 + 1 + 1 + 1) := Nat.lt_succ_of_lt (by k_same)
  have k6_1 : @LT.lt Nat _ (s.heap.objs.size + 1 + 1 + 1 + 1 + 1) (s.heap.objs.size + 1 + 1 + 1 + 1 + 1 + 1) := Nat.lt_succ_self _
  have k6_2 : @LT.lt Nat _ (s.heap.objs.size + 1 + 1 + 1 + 1) (s.heap.objs.size + 1 + 1 + 1 + 1 + 1 + 1) := Nat.lt_succ_of_lt (by k_same)
  have k6_3 : @LT.lt Nat _ (s.heap.objs.size + 1 + 1 + 1) (s.heap.objs.size + 1 + 1 + 1 + 1 + 1 + 1) := Nat.lt_succ_of_lt (by k_same)
  have k6_4 : @LT.lt Nat _ (s.heap.objs.size + 1 + 1) (s.heap.objs.size + 1 + 1 + 1 + 1 + 1 + 1) := Nat.lt_succ_of_lt (by k_same)
  have k6_5 : @LT.lt Nat _ (s.heap.objs.size + 1) (s.heap.objs.size + 1 + 1 + 1 + 1 + 1 + 1) := Nat.lt_succ_of_lt (by k_same)
  have k6_6 : @LT.lt Nat _ (box) (s.heap.objs.size + 1 + 1 + 1 + 1 + 1 + 1) := Nat.lt_succ_of_lt (by k_same)
  have k6_7 : @LT.lt Nat _ (200) (s.heap.objs.size + 1 + 1 + 1 + 1 + 1 + 1) := Nat.lt_succ_of_lt (by k_same)
  have Dg : KtsDicts (outer.filterMap (·.frame)) g := eg ▸ D
  (try dsimp only); (try k_fold)
  k_steps
  refine comp_none (fun y => ∃ p, TokV base y p) (n := 4) (k := 0) (box := box) (ob := ob) hBox rfl (by assumption) rfl rfl (by assumption) (by assumption) (fun _ => by k_upd) (by decide) rfl rfl (by k_sizes) ?_ ?_
  · intro C₀ i s₂ m₂ o E' hC hi hb2 FC FL N2
    k_steps
    rename_i kk' e' _ _ _ _ tv'
    exact ⟨⟨_, tv'⟩, _, _, _, rfl, kk', e', by assumption⟩
  · intro D ys o kk h' tk F2 N2 hDl hlen hF hB
    (try dsimp only at N2); (try k_lt hDl); (try k_sweep); (try dsimp only)
    k_steps
    rename_i dP tdP obP hobP dP0 dP1 kkP eP hb5 tkb5 d2 td ob1 hob1 d20 d21 kkx ex v bv D1 h4 l1x h3 h2 o1 dd1 h1 o2 F1 N1 dd2 f c' oc vs' t' ct hL tkL FL NL e1 e2 la lb
    rename News _ _ _ _ => NN
    rename Fr _ _ _ _ => FF
    refine use_refused_true rfl rfl B FF NN X T XB TB Dg (FnAt.of NN (.head _)) (by k_sizes) (by k_sizes) ?_ ?_
    · intro b' o' s' R' H' kp hE
      have gl := kp _ _ (NN _ (.tail _ (.tail _ (.tail _ (.head _))))).1
      have g1 := kp _ _ (NN _ (.tail _ (.tail _ (.tail _ (.tail _ (.head _)))))).1
      have g2 := kp _ _ (NN _ (.tail _ (.tail _ (.tail _ (.tail _ (.tail _ (.head _))))))).1
      have g3 := kp _ _ (NN _ (.tail _ (.tail _ (.tail _ (.tail _ (.tail _ (.tail _ (.head _)))))))).1
      dsimp only at gl g1 g2 g3
      have pl1 := pick_len (vs := ys) (lo := none) (hi := some dP)
      have pl2 := pick_len (vs := ys) (lo := some dP) (hi := none)
      have hF' : ∀ y ∈ ys, ∃ p, TokV s'.heap y p := fun y hy => let ⟨p, hp⟩ := hF y hy; ⟨p, (hp.keeps (fun b o e => FF.keep _ _ (B.stays _ _ e))).keeps kp⟩
      refine enterE H' (kp _ _ (NN _ (.head _)).1) ⟨c', oc, vs', t', rfl, kp _ _ (NN _ (.tail _ (.head _))).1, e1, e2⟩ (by k_sizes) rfl ?_ rfl rfl rfl (by decide)
      clear NN N1 FF F1 T X B
      intro gx Lx hx egx eLx Fx Nx Bx Xx Tx
      subst egx eLx
      (try dsimp only); (try k_fold)
      k_steps
      rename News _ _ _ _ => NW
      rename Fr _ _ _ _ => FW
      refine use_feed_bad (k := (kms_pick ys none (some dP)).length) (b := v) rfl rfl Bx FW Xx Tx (.inl (isList_news NW (.head _))) ?_ bv ?_ (by k_sizes) (by k_sizes) fun h' tk e fl => ?_
      · simp
      · intro i u hi hu
        rw [List.append_assoc, List.getElem?_append_left hi] at hu
        obtain ⟨p, hp⟩ := hF' u (pick_mem (List.mem_of_getElem? hu))
        exact ⟨p, hp.keeps FW.keep⟩
      · exact leaveOn rfl Bx FW fl fun h' fl' => hE _ _ _ fl'
    · intro h5 tk5 g5 T5 F5 N5 B5 X5 TT5 D5
      (try dsimp only)
      clear NN N1 FF F1 T X B
      k_steps
      rename_i fB cB ocB vsB tB ctB hB2 tkB FB NB eB1 eB2 lB1 lB2
      rename News _ _ _ _ => NN
      rename Fr _ _ _ _ => FF
      refine use_refused_false rfl rfl B5 FF NN X5 TT5 (FnAt.of NN (.head _)) (by k_sizes) (by k_sizes) ?_ ?_
      · intro b' o' s' R' H' kp hE
        have gl := kp _ _ (NN _ (.tail _ (.tail _ (.tail _ (.tail _ (.tail _ (.head _))))))).1
        have g1 := kp _ _ (NN _ (.tail _ (.tail _ (.tail _ (.tail _ (.tail _ (.tail _ (.head _)))))))).1
        dsimp only at gl g1
        have hF' : ∀ y ∈ ys, ∃ p, TokV s'.heap y p := fun y hy => let ⟨p, hp⟩ := hF y hy; ⟨p, (hp.keeps (fun b o e => FF.keep _ _ (B5.stays _ _ e))).keeps kp⟩
        refine enterE H' (kp _ _ (NN _ (.head _)).1) ⟨cB, ocB, vsB, tB, rfl, kp _ _ (NN _ (.tail _ (.head _))).1, eB1, eB2⟩ (by k_sizes) rfl ?_ rfl rfl rfl (by decide)
        clear NN N5 FF F5 TT5 X5 B5
        intro gx Lx hx egx eLx Fx Nx Bx Xx Tx
        subst egx eLx
        (try dsimp only); (try k_fold)
        k_steps
        rename News _ _ _ _ => NW
        rename Fr _ _ _ _ => FW
        refine use_feed0 rfl rfl Bx FW NW Xx Tx (.inl (isList_fr FW gl)) (fun u hu => let ⟨p, hp⟩ := hF' u hu; ⟨p, hp.keeps FW.keep⟩) (by k_sizes) (by k_sizes) (by k_sizes) fun h' tk x F' N' k' => ?_
        exact hE _ _ _ F'.keep
      · intro h6 tk6 F6 N6
        (try dsimp only)
        clear NN N5 FF F5
        k_steps
        rename News _ _ _ _ => NN
        rename Fr _ _ _ _ => FF
        exact hR _ _ _ _ ⟨g5, eg ▸ T5, FF.keep⟩ (NN (200, _) (by k_mem)).1 (NN (box, _) (by k_mem)).1
end
theorem fresh_SqM : True := by w_top off; trivial
section
variable {prog : Program} {w : World} {A : Around} {R : Result → Shared → Prop} {s : Shared} {env : Env}
theorem loop_range {target : Expr} {body : List Stmt} {I : Addr} {n : Nat} (Inv : Nat → Shared → Prop) (hh : A.handled = none) (hI : ∀ i s, Inv i s → IsRangeIter s.heap I (i : Int) ((n : Int) - (i : Int)) 1)
    (turn : ∀ i (s : Shared) h₁, i < n → Inv i s → IsRangeIter h₁ I ((i : Int) + 1) ((n : Int) - (i : Int) - 1) 1 → Heap.SameBut I s.heap h₁ →
      wpAny (model prog w) A (assign target env (.int (i : Int) s.toks)) (fun _ s₂ => wpAny (model prog w) A (execs body env) (fun f s₃ => match f with
          | .next | .cont => Inv (i + 1) s₃
          | .brk => R (.ok .next) s₃
          | .ret v => R (.ok (.ret v)) s₃) (notedBy (model prog w) A env fun e s' => R (.error e) s') s₂) (notedBy (model prog w) A env fun e s' => R (.error e) s') { s with heap := h₁, toks := s.toks + 1 })
    (done : ∀ (s : Shared) h₁, Inv n s → Heap.ExtBut I s.heap h₁ → R (.ok .next) { s with heap := h₁ })
    (h0 : Inv 0 s) (ht : ∀ v, letOwnedTupleGo target (.ref I) v = pure ()) : codeAny (model prog w) A (.forLoop target (.ref I) body [] env) R s := by
  refine codeAny_forLoop (fun k s' => ∃ i, i ≤ n ∧ k = n + 1 - i ∧ Inv i s') ?_ (n + 1) ⟨0, Nat.zero_le _, rfl, h0⟩ ht
  rintro k s' ⟨i, hi, rfl, hv⟩
  by_cases hlt : i < n
  · refine wpAny_pyNext_range_item (hI i s' hv) (by k_sizes) fun h₁ hit₁ hs₁ => ?_
    refine wpAny_mono (turn i s' h₁ hlt hv hit₁ hs₁) (fun _ s₂ h₂ => wpAny_mono h₂ (fun f s₃ h₃ => ?_) fun _ _ e => e) fun _ _ e => e
    cases f with
    | next => exact ⟨n + 1 - (i + 1), by omega, i + 1, hlt, rfl, h₃⟩
    | cont => exact ⟨n + 1 - (i + 1), by omega, i + 1, hlt, rfl, h₃⟩
    | brk => exact h₃
    | ret v => exact h₃
  · have hin : i = n := by omega
    subst hin
    exact wpAny_pyNext_range_end hh (hI i s' hv) (by k_sizes) fun h₁ he₁ => wpAny_execs_nil (done s' h₁ hv he₁)
end
section
variable {w : World} {mean : ExcName → Option Value} {mg mb : Str → Option Value} {dp un : Nat} {gd : Option (List Code)} {base g : Heap} {outer : List Env} {s : Shared} {L : Addr} {m : Str → Option Value} {env : Env} {news : List (Addr × Obj)} {Q E : Value → Shared → Prop} {x dx r o : Addr} {t1 t2 : Tok} {n : Nat}
def Tk (base : Heap) (tA : Addr) (v : Value) : Prop := (∃ p, TokV base v p) ∨ v = .ref tA
noncomputable def tupA (u1 u2 : Tok) (n : Nat) : Obj := { cls := .type "tuple", data := .seq #[.int 11 u1, .int 120 u2] n }
theorem tk_tok {A : Around} {tA : Addr} {u1 u2 : Tok} {v : Value} (B : Below A base outer g) (F : Fr g L s.heap m) (N : News g L s.heap news) (hm : (tA, tupA u1 u2 n) ∈ news) (Y : List Addr) (hY : ∀ a ∈ Y, ∃ o, (a, o) ∈ news) (nY : tA ∉ Y) (hv : Tk base tA v) :
    ∃ p, TokV (hideAll s.heap Y) v p := by
  rcases hv with ⟨p, hp⟩ | rfl
  · refine ⟨p, hp.keeps fun b o e => hideAll_get _ (F.keep _ _ (B.stays _ _ e)) fun hm => ?_⟩
    obtain ⟨o', ho⟩ := hY b hm
    have := (N _ ho).2.2
    rw [B.stays _ _ e] at this; cases this
  · exact ⟨(11, 120), tA, u1, u2, rfl, ⟨_, hideAll_get _ (N _ hm).1 nY, rfl, _, rfl⟩, by unfold okTok leastI greatI; decide⟩
theorem hY3 {a b c : Addr} {oa ob oc : Obj} (ha : (a, oa) ∈ news) (hb : (b, ob) ∈ news) (hc : (c, oc) ∈ news) : ∀ y ∈ [a, b, c], ∃ o, (y, o) ∈ news := fun y hy => by
  simp only [List.mem_cons, List.not_mem_nil, or_false] at hy
  rcases hy with rfl | rfl | rfl
  · exact ⟨_, ha⟩
  · exact ⟨_, hb⟩
  · exact ⟨_, hc⟩
theorem use_next_cons {news' : Nat → List (Addr × Obj)} {v : Value} {us : List Value} (hf : env.frame = some L) (hk : env.scope.kind = .function) (B : Below (Arr dp un gd outer) base outer g) (F : Fr g L s.heap m) (N : News g L s.heap news) (X : (hd.heap_39 w.params).In g) (T : Top topProg looseS mean mg mb g)
   (hx : (x, instObj 135 dx) ∈ news) (hdx : (dx, feedDict w.params r o t1 t2) ∈ news) (U : ∀ k, Upd r (listOf (v :: us).reverse.toArray n) (listOf us.reverse.toArray k) news (news' k)) (h1 : dx < x) (h2 : x < r) (hz : us.length ≤ 999) (hdd : dp + 25 < recursionLimit) (hu : un + 110 < cLine)
   (h : ∀ h' tk k, Fr g L h' m → News g L h' (news' k) → Q v { s with heap := h', toks := tk }) :
   wpAny (model prg w) ((Arr dp un gd outer).deeper env) (call (.ref 104) [.ref x]) Q E s := by
  have hr := (N _ (upd_mem (U 0))).1
  rw [List.reverse_cons] at hr
  refine wpAny_call (next_some (dp := dp + 1) (un := un + 3) (at_hide hf hk B F N X T [x, dx, r] (hY3 hx hdx (upd_mem (U 0)))) (by k_sizes) (by k_sizes) (N _ hx).1 (N _ hdx).1 hr h1 h2 (by rw [List.length_reverse]; omega) fun h' tk k e => ?_)
  obtain ⟨F', N'⟩ := upd_news F N (U (n + 1)) k e
  exact h _ _ _ F' N'
theorem use_next_nil (hf : env.frame = some L) (hk : env.scope.kind = .function) (B : Below (Arr dp un gd outer) base outer g) (F : Fr g L s.heap m) (N : News g L s.heap news) (X : (hd.heap_39 w.params).In g) (T : Top topProg looseS mean mg mb g)
   (hx : (x, instObj 135 dx) ∈ news) (hdx : (dx, feedDict w.params r o t1 t2) ∈ news) (hr : (r, listOf ([] : List Value).reverse.toArray n) ∈ news) (h1 : dx < x) (h2 : x < r) (hdd : dp + 25 < recursionLimit) (hu : un + 110 < cLine)
   (h : ∀ h' tk, Fr g L h' m → News g L h' news → Q .none { s with heap := h', toks := tk }) :
   wpAny (model prg w) ((Arr dp un gd outer).deeper env) (call (.ref 104) [.ref x]) Q E s :=
  wpAny_call (next_none (dp := dp + 1) (un := un + 3) (at_hide hf hk B F N X T [x, dx, r] (hY3 hx hdx hr)) (by k_sizes) (by k_sizes) (N _ hx).1 (N _ hdx).1 (N _ hr).1 h1 h2 fun h' tk k => h _ _ (all_news F N k).1 (all_news F N k).2)
theorem use_back {news' : Nat → List (Addr × Obj)} {tA : Addr} {u1 u2 : Tok} {n2 : Nat} {v : Value} {us : List Value} (hf : env.frame = some L) (hk : env.scope.kind = .function) (B : Below (Arr dp un gd outer) base outer g) (F : Fr g L s.heap m) (N : News g L s.heap news) (X : (hd.heap_39 w.params).In g) (T : Top topProg looseS mean mg mb g)
   (hA : (tA, tupA u1 u2 n2) ∈ news) (hv : Tk base tA v) (hx : (x, instObj 135 dx) ∈ news) (hdx : (dx, feedDict w.params r o t1 t2) ∈ news) (U : ∀ k, Upd r (listOf us.reverse.toArray n) (listOf (v :: us).reverse.toArray k) news (news' k)) (h1 : dx < x) (h2 : x < r) (h3 : r < tA) (hz : us.length ≤ 999) (hdd : dp + 25 < recursionLimit) (hu : un + 110 < cLine)
   (h : ∀ h' tk k, Fr g L h' m → News g L h' (news' k) → Q .none { s with heap := h', toks := tk }) :
   wpAny (model prg w) ((Arr dp un gd outer).deeper env) (call (.ref 111) [.ref x, v]) Q E s := by
  have hY := hY3 hx hdx (upd_mem (U 0))
  have h2' := Nat.lt_trans h2 h3
  have h1' := Nat.lt_trans h1 h2'
  have nY : tA ∉ [x, dx, r] := fun hy => by
    simp only [List.mem_cons, List.not_mem_nil, or_false] at hy
    rcases hy with q | q | q
    · exact Nat.lt_irrefl _ (q ▸ h2')
    · exact Nat.lt_irrefl _ (q ▸ h1')
    · exact Nat.lt_irrefl _ (q ▸ h3)
  obtain ⟨p, hp⟩ := tk_tok B F N hA [x, dx, r] hY nY hv
  refine wpAny_call (back_ok (dp := dp + 1) (un := un + 3) (at_hide hf hk B F N X T [x, dx, r] hY) (by k_sizes) (by k_sizes) (N _ hx).1 (N _ hdx).1 (N _ (upd_mem (U 0))).1 h1 h2 (by rw [List.length_reverse]; omega) hp fun h' tk k kk e => ?_)
  rw [← List.reverse_cons] at e
  obtain ⟨F', N'⟩ := upd_news F N (U k) kk e
  exact h _ _ _ F' N'
theorem use_push {news' : Nat → List (Addr × Obj)} {tA l : Addr} {ol : Obj} {u1 u2 : Tok} {n2 : Nat} {us vs : List Value} (hf : env.frame = some L) (hk : env.scope.kind = .function) (B : Below (Arr dp un gd outer) base outer g) (F : Fr g L s.heap m) (N : News g L s.heap news) (X : (hd.heap_39 w.params).In g) (T : Top topProg looseS mean mg mb g)
   (hA : (tA, tupA u1 u2 n2) ∈ news) (hl : (l, ol) ∈ news) (hol : ol = listOf vs.toArray 0 ∨ ol = { cls := .type "tuple", data := .seq vs.toArray 0 }) (hv : ∀ v ∈ vs, Tk base tA v) (hx : (x, instObj 135 dx) ∈ news) (hdx : (dx, feedDict w.params r o t1 t2) ∈ news) (U : ∀ k, Upd r (listOf us.reverse.toArray n) (listOf (vs ++ us).reverse.toArray k) news (news' k)) (h1 : dx < x) (h2 : x < r) (h3 : r < tA) (h4 : r < l) (hz : us.length ≤ 999) (hz2 : vs.length ≤ 999) (hdd : dp + 25 < recursionLimit) (hu : un + 110 < cLine)
   (h : ∀ h' tk k, Fr g L h' m → News g L h' (news' k) → Q .none { s with heap := h', toks := tk }) :
   wpAny (model prg w) ((Arr dp un gd outer).deeper env) (call (.ref 118) [.ref x, .ref l]) Q E s := by
  have hY := hY3 hx hdx (upd_mem (U 0))
  have nn : ∀ a, r < a → a ∉ [x, dx, r] := fun a h3 hy => by
    have h2' := Nat.lt_trans h2 h3
    have h1' := Nat.lt_trans h1 h2'
    simp only [List.mem_cons, List.not_mem_nil, or_false] at hy
    rcases hy with q | q | q
    · exact Nat.lt_irrefl _ (q ▸ h2')
    · exact Nat.lt_irrefl _ (q ▸ h1')
    · exact Nat.lt_irrefl _ (q ▸ h3)
  have hs : SeqAt (hideAll s.heap [x, dx, r]) l vs := by
    have e := hideAll_get [x, dx, r] (N _ hl).1 (nn _ h4)
    rcases hol with rfl | rfl
    · exact .inl ⟨_, e, rfl, _, rfl⟩
    · exact .inr ⟨_, e, rfl, _, rfl⟩
  refine wpAny_call (push_ok (dp := dp + 1) (un := un + 3) (at_hide hf hk B F N X T [x, dx, r] hY) (by k_sizes) (by k_sizes) (N _ hx).1 (N _ hdx).1 (N _ (upd_mem (U 0))).1 h1 h2 (by rw [List.length_reverse]; omega) (by k_sizes) hs (fun v hq => tk_tok B F N hA [x, dx, r] hY (nn _ h3) (hv v hq)) fun h' tk k kk e => ?_)
  rw [← List.reverse_append] at e
  obtain ⟨F', N'⟩ := upd_news F N (U k) kk e
  exact h _ _ _ F' N'
def AllNe (d : Nat) : List (Addr × Obj) → Prop
  | [] => True
  | p :: r => @Ne Nat p.1 d ∧ AllNe d r
theorem allNe_of {d : Addr} : ∀ {l : List (Addr × Obj)}, (∀ p ∈ l, p.1 ≠ d) → AllNe d l
  | [], _ => trivial
  | p :: _, h => ⟨h p (.head _), allNe_of fun q hq => h q (.tail _ hq)⟩
theorem use_left {us : List Value} (hf : env.frame = some L) (hk : env.scope.kind = .function) (B : Below (Arr dp un gd outer) base outer g) (F : Fr g L s.heap m) (N : News g L s.heap news) (X : (hd.heap_39 w.params).In g) (T : Top topProg looseS mean mg mb g)
   (hx : (x, instObj 135 dx) ∈ news) (hdx : (dx, feedDict w.params r o t1 t2) ∈ news) (hr : (r, listOf us.reverse.toArray n) ∈ news) (h1 : dx < x) (h2 : x < r) (hz : us.length ≤ 999) (hdd : dp + 25 < recursionLimit) (hu : un + 110 < cLine)
   (h : ∀ h' tk D, Fr g L h' m → News g L h' ((D, listOf us.toArray 0) :: news) → (∀ p ∈ news, p.1 ≠ D) → Q (.ref D) { s with heap := h', toks := tk }) :
   wpAny (model prg w) ((Arr dp un gd outer).deeper env) (call (.ref 125) [.ref x]) Q E s := by
  refine wpAny_call (left_ok (dp := dp + 1) (un := un + 3) (at_hide hf hk B F N X T [x, dx, r] (hY3 hx hdx hr)) (by k_sizes) (by k_sizes) (N _ hx).1 (N _ hdx).1 (N _ hr).1 h1 h2 (by rw [List.length_reverse]; omega) fun h' tk D k nD e => ?_)
  rw [List.reverse_reverse] at e
  obtain ⟨F', N'⟩ := all_news F N k
  refine h _ _ _ F' (fun p hp => ?_) (fun p hp q => ?_)
  · rcases List.mem_cons.mp hp with rfl | hp
    · refine ⟨e, fun q => ?_, ?_⟩
      · obtain ⟨oL, _, _, ho, _⟩ := F.ns
        rw [← q, nD] at ho; cases ho
      · cases q : g.get? D with
        | none => rfl
        | some o => rw [F.keep _ _ q] at nD; cases nD
    · exact N' p hp
  · have := (N p hp).1
    rw [q, nD] at this; cases this
theorem use_is_outer {v : Value} {p : Int × Int} {qs : List (Int × Int)} (hf : env.frame = some L) (hk : env.scope.kind = .function) (B : Below (Arr dp un gd outer) base outer g) (F : Fr g L s.heap m) (N : News g L s.heap news) (X : (hd.heap_39 w.params).In g) (T : Top topProg looseS mean mg mb g)
   (hx : (x, instObj 135 dx) ∈ news) (hdx : (dx, feedDict w.params r o t1 t2) ∈ news) {oo : Obj} {vs : List Value} (ho : (o, oo) ∈ news) (hoo : oo = { cls := .type "tuple", data := .seq vs.toArray }) (hvs : TokL base vs qs) (hv : TokV base v p) (h1 : dx < x) (h3 : o < dx) (hdd : dp + 25 < recursionLimit) (hu : un + 110 < cLine)
   (h : ∀ h' tk, Fr g L h' m → News g L h' news → Q (.bool ((qs.map tokD).any fun y => PyData.eqv y (tokD p))) { s with heap := h', toks := tk }) :
   wpAny (model prg w) ((Arr dp un gd outer).deeper env) (call (.ref 132) [.ref x, v]) Q E s := by
  have hY : ∀ y ∈ [x, dx], ∃ o, (y, o) ∈ news := fun y hy => by
    simp only [List.mem_cons, List.not_mem_nil, or_false] at hy
    rcases hy with rfl | rfl
    · exact ⟨_, hx⟩
    · exact ⟨_, hdx⟩
  have kb : ∀ b q, base.get? b = some q → (hideAll s.heap [x, dx]).get? b = some q := fun b q e => hideAll_get _ (F.keep _ _ (B.stays _ _ e)) fun hm => by
    obtain ⟨o', ho⟩ := hY b hm
    have := (N _ ho).2.2
    rw [B.stays _ _ e] at this; cases this
  have no : o ∉ [x, dx] := fun hy => by
    simp only [List.mem_cons, List.not_mem_nil, or_false] at hy
    rcases hy with q | q
    · exact Nat.lt_irrefl _ (q ▸ Nat.lt_trans h3 h1)
    · exact Nat.lt_irrefl _ (q ▸ h3)
  subst hoo
  have rc : Reads (hideAll s.heap [x, dx]) (.ref o) (.tuple (qs.map tokD)) [] := .tuple (hideAll_get _ (N _ ho).1 no) rfl rfl (by simpa using (hvs.keeps kb).reads)
  exact wpAny_call (is_outer_ok (dp := dp + 1) (un := un + 3) (at_hide hf hk B F N X T [x, dx] hY) (by k_sizes) (by k_sizes) (N _ hx).1 (N _ hdx).1 h1 rc (hv.keeps kb).reads fun h' tk k => h _ _ (all_news F N k).1 (all_news F N k).2)
theorem in_outers_news {A A₁ : Around} {v : Value} {p : Int × Int} {qs : List (Int × Int)} {oo : Obj} {vs : List Value} (B : Below A₁ base outer g) (F : Fr g L s.heap m) (N : News g L s.heap news) (ho : (o, oo) ∈ news) (hoo : oo = { cls := .type "tuple", data := .seq vs.toArray }) (hvs : TokL base vs qs) (hv : TokV base v p) (hu : A.units + 2 < cLine)
    (h : Q (.bool ((qs.map tokD).any fun y => PyData.eqv y (tokD p))) s) : wpAny (model prg w) A (compareOp .In v (.ref o)) Q E s := by
  have kb : ∀ b q, base.get? b = some q → s.heap.get? b = some q := fun b q e => F.keep _ _ (B.stays _ _ e)
  subst hoo
  have rc : Reads s.heap (.ref o) (.tuple (qs.map tokD)) [] := .tuple (N _ ho).1 rfl rfl (by simpa using (hvs.keeps kb).reads)
  exact PySem.SeqAt.in_tuple_reads rc (hv.keeps kb).reads (tokD_layAll _) (tokD_lay _) (by have := tokD_depth p; omega) h
theorem tks_here {A : Around} {tA : Addr} {u1 u2 : Tok} {vs : List Value} (B : Below A base outer g) (F : Fr g L s.heap m) (N : News g L s.heap news) (hm : (tA, tupA u1 u2 n) ∈ news) (hv : ∀ v ∈ vs, Tk base tA v) : ∀ v ∈ vs, ∃ p, TokV s.heap v p := fun v h => by
  obtain ⟨p, hp⟩ := tk_tok B F N hm [] (fun _ h => nomatch h) (fun h => nomatch h) (hv v h)
  exact ⟨p, hp.keeps fun b o e => of_hideAll _ e⟩
theorem tks_base {A : Around} {vs : List Value} (B : Below A base outer g) (F : Fr g L s.heap m) (hv : ∀ v ∈ vs, ∃ p, TokV base v p) : ∀ v ∈ vs, ∃ p, TokV s.heap v p := fun v h => by
  obtain ⟨p, hp⟩ := hv v h
  exact ⟨p, hp.keeps fun b o e => F.keep _ _ (B.stays _ _ e)⟩
theorem lay_toks (ps : List (Int × Int)) : (PyData.list (ps.map tokD)).canLay0 = true := by simp [PyData.canLay0, tokD_layAll]
theorem depth_toks (ps : List (Int × Int)) : (PyData.list (ps.map tokD)).depth ≤ 2 := by
  have := tokD_depthAll ps
  simp only [PyData.depth]
  omega
theorem cmp_nil {A : Around} {D e : Addr} {vs : List Value} {k : Nat} (N : News g L s.heap news) (hD : (D, listOf vs.toArray n) ∈ news) (he : (e, listOf ([] : List Value).toArray k) ∈ news) (hv : ∀ v ∈ vs, ∃ p, TokV s.heap v p) (hu : A.units + 4 < cLine)
    (h1 : ∀ v us, vs = v :: us → Q (.bool true) s) (h2 : vs = [] → Q (.bool false) s) : wpAny (model prg w) A (compareOp .NotEq (.ref D) (.ref e)) Q E s := by
  obtain ⟨ps, tl⟩ := TokL.of_all hv
  refine PySem.SeqAt.compareNe_reads (tl.list (N _ hD).1) (TokL.list (vs := []) (ps := []) trivial (N _ he).1) (lay_toks _) (lay_toks _) (by have := depth_toks ps; omega) ?_
  cases vs with
  | nil =>
    cases ps with
    | nil => rw [eqv_toks]; exact h2 rfl
    | cons _ _ => exact tl.elim
  | cons v us =>
    cases ps with
    | nil => exact tl.elim
    | cons p ps =>
      have : PyData.eqv (.list ((p :: ps).map tokD)) (.list (([] : List (Int × Int)).map tokD)) = false := by simp [PyData.eqv, PyData.eqvAll]
      rw [this]
      exact h1 v us rfl
theorem cmp_lists_ne {A : Around} {D e : Addr} {vs : List Value} {k : Nat} (N : News g L s.heap news) (hD : (D, listOf vs.toArray n) ∈ news) (he : (e, listOf vs.toArray k) ∈ news) (hv : ∀ v ∈ vs, ∃ p, TokV s.heap v p) (hu : A.units + 4 < cLine)
    (h : Q (.bool false) s) : wpAny (model prg w) A (compareOp .NotEq (.ref D) (.ref e)) Q E s := by
  obtain ⟨ps, tl⟩ := TokL.of_all hv
  refine PySem.SeqAt.compareNe_reads (tl.list (N _ hD).1) (tl.list (N _ he).1) (lay_toks _) (lay_toks _) (by have := depth_toks ps; omega) ?_
  rw [eqv_toks]; exact h
theorem cmp_lists_eq {A : Around} {D e : Addr} {vs : List Value} {k : Nat} (N : News g L s.heap news) (hD : (D, listOf vs.toArray n) ∈ news) (he : (e, listOf vs.toArray k) ∈ news) (hv : ∀ v ∈ vs, ∃ p, TokV s.heap v p) (hu : A.units + 4 < cLine)
    (h : Q (.bool true) s) : wpAny (model prg w) A (compareOp .Eq (.ref D) (.ref e)) Q E s := by
  obtain ⟨ps, tl⟩ := TokL.of_all hv
  refine PySem.SeqAt.compareEq_reads (tl.list (N _ hD).1) (tl.list (N _ he).1) (lay_toks _) (lay_toks _) (by have := depth_toks ps; omega) ?_
  rw [eqv_toks]; exact h
theorem cmp_tok_ne {A : Around} {v : Value} (hv : ∃ p, TokV s.heap v p) (hu : A.units + 4 < cLine) (h : Q (.bool false) s) : wpAny (model prg w) A (compareOp .NotEq v v) Q E s := by
  obtain ⟨p, hp⟩ := hv
  refine PySem.SeqAt.compareNe_reads hp.reads hp.reads (tokD_lay _) (tokD_lay _) (by have := tokD_depth p; omega) ?_
  rw [PySem.SeqAt.eqv_refl _ (tokD_lay _)]; exact h
theorem BoxOk.mono {k k' : Nat} {o : Obj} (x : BoxOk k o) (h : k ≤ k') : BoxOk k' o := by
  obtain ⟨b0, b1, b2, t0, t1, t2, n, e, c0, c1, c2, c3, c4⟩ := x
  exact ⟨b0, b1, b2, t0, t1, t2, n, e, c0, c1, by omega, c3, c4⟩
end
theorem fresh_SqN : True := by w_top off; trivial
theorem among_snoc_ne {p q : Pos} {c : Value} (l : List Value) (h : TriplesOk l) (hn : ¬(q.line = p.line ∧ q.col = p.col)) :
    codeAmong p (l ++ [rawInt q.line, rawInt q.col, c]) = codeAmong p l := by
  fun_induction TriplesOk l with
  | case1 =>
    simp only [List.nil_append, codeAmong, rawInt]
    rw [if_neg]
    simp only [Bool.and_eq_true, beq_iff_eq]
    omega
  | case2 a t b u x rest ih =>
    simp only [List.cons_append, codeAmong]
    rw [ih h]
  | case3 l h1 h2 => exact h.elim
def Rec1 (qual : Str) (oc : Obj) : Prop := ∃ vs t, oc.data = .fields vs ∧ vs[1]? = some (.str qual t)
def Slot (pos : Pos) (qual : Str) (ps : Array Value) (c : Addr) (oc : Obj) : Prop :=
  TriplesOk ps.toList ∧ (codeAmong pos ps.toList = none ∨ (codeAmong pos ps.toList = some (.ref c) ∧ Rec1 qual oc))
section
variable {M : Model} {A : Around} {E : Value → Shared → Prop} {s : Shared} {h₀ : Heap} {L a c P : Addr} {m mg mb : Str → Option Value} {cn : Str} {cs : Scope} {ccd : Value} {cl : List (Str × Addr)} {news : List (Addr × Obj)} {g : Obj → List (Addr × Obj)}
  {p : Program} {loose : List Str} {mean : ExcName → Option Value} {name qual : Str} {params : Arguments} {body : Expr} {scope : Scope} {ps : Array Value} {pos : Pos} {firstLine : Nat} {clos : List (Str × Addr)}
theorem lam_slot {Q : Value → Shared → Prop} {c1 : Addr} {oc1 : Obj} (Pc : Addr → Prop) (F : Fr h₀ L s.heap m) (N : News h₀ L s.heap news) (T : Top p loose mean mg mb h₀) (C : CodeHd h₀ c P) (hcd : ccd = .ref c) (U : UpdF P (tabObj ps) news g) (S : Slot pos qual ps c1 oc1) (hc1 : (c1, oc1) ∈ news)
    (p1 : Pc c1) (p2 : ∀ c', (∀ q ∈ news, q.1 < c') → Pc c') (hcl : closureFor scope (envX cn cs L a ccd cl) = pure clos)
    (h : ∀ f c' oc' ctv ps' h' tk, Fr h₀ L h' m →
      News h₀ L h' ((f, kla_obj name qual params body scope clos ((mg "__name__").getD .none) c' ctv) :: (c', oc') :: g (tabObj ps')) →
      Slot pos qual ps' c' oc' → Rec1 qual oc' → (∀ pos2 qual2 c2 oc2, ¬(pos.line = pos2.line ∧ pos.col = pos2.col) → Slot pos2 qual2 ps c2 oc2 → Slot pos2 qual2 ps' c2 oc2) → Pc c' → (∀ q ∈ news, q.1 < f) → Q (.ref f) { s with heap := h', toks := tk }) :
    wpAny M A (makeFunction name qual params (.expr body) scope (envX cn cs L a ccd cl) [] [] [] pos firstLine) Q E s := by
  obtain ⟨ht, hs⟩ := S
  rcases hs with hn | ⟨hf, hr⟩
  · refine kla_nest F N T C hcd U ht hn hcl fun f c' oc vs t ctv h' tk F' N' d1 d2 l1 l2 => ?_
    have e : (ps ++ #[rawInt pos.line, rawInt pos.col, .ref c']).toList = ps.toList ++ [rawInt pos.line, rawInt pos.col, .ref c'] := by simp
    have hr : Rec1 qual oc := ⟨vs, t, d1, d2⟩
    have ht' : TriplesOk (ps ++ #[rawInt pos.line, rawInt pos.col, .ref c']).toList := by rw [e]; exact TriplesOk_snoc _ _ _ _ ht
    refine h f c' oc ctv _ h' tk F' N' ⟨ht', .inr ⟨by rw [e]; exact codeAmong_snoc _ ht hn, hr⟩⟩ hr (fun pos2 qual2 c2 oc2 ne S2 => ⟨ht', ?_⟩) (p2 c' l1) (fun q hq => Nat.lt_trans (l1 q hq) l2)
    rw [e, among_snoc_ne _ ht ne]
    exact S2.2
  · have eg : g (tabObj ps) = news := by
      obtain ⟨pre, post, e1, e2, _, _⟩ := U.split
      rw [e2, e1]
    have hP : (P, tabObj ps) ∈ news := by
      obtain ⟨pre, post, e1, e2, _, _⟩ := U.split
      rw [e1]; simp
    refine kla_hit F N T C hcd hP ht hf hcl fun f ctv h' tk F' N' l1 => ?_
    refine h f c1 oc1 ctv ps h' tk F' (fun q hq => ?_) ⟨ht, .inr ⟨hf, hr⟩⟩ hr (fun _ _ _ _ _ S2 => S2) p1 l1
    rcases List.mem_cons.mp hq with rfl | hq
    · exact N' _ (.head _)
    rcases List.mem_cons.mp hq with rfl | hq
    · exact N' _ (.tail _ hc1)
    · rw [eg] at hq; exact N' _ (.tail _ hq)
end
section
variable {w : World} {mean : ExcName → Option Value} {mg mb : Str → Option Value} {A : Around} {base g : Heap} {outer : List Env} {s : Shared} {L : Addr} {m : Str → Option Value} {env : Env} {news : List (Addr × Obj)} {Q E : Value → Shared → Prop}
theorem lo_nat {j n : Nat} (h : j ≤ n) : kms_lo (some (j : Int)) n = j := by
  show (if (j : Int) < 0 then n - (-(j : Int)).toNat else min (j : Int).toNat n) = j
  rw [if_neg (Int.not_lt.mpr (Int.natCast_nonneg j)), Int.toNat_natCast]; exact Nat.min_eq_left h
theorem hi_nat {j n : Nat} (h : j ≤ n) : kms_hi (some (j : Int)) n = j := lo_nat h
theorem pick_tail (v : Value) (us : List Value) : kms_pick (v :: us) (some 1) none = us := by
  have e1 : kms_lo (some 1) (v :: us).length = 1 := lo_nat (j := 1) (Nat.succ_le_succ (Nat.zero_le _))
  have e2 : kms_hi none (v :: us).length = us.length + 1 := by simp [kms_hi]
  unfold kms_pick
  rw [e1, e2]
  simp
theorem pick_nil (lo hi : Option Int) : kms_pick [] lo hi = [] := by unfold kms_pick; simp
theorem slice_valsE {prog : Program} {value slice : PySem.Expr} {l : Addr} {vs zs : List Value} {vl vu : Value} {lo hi : Option Int} (F : Fr g L s.heap m) (N : News g L s.heap news) (hl : s.heap.IsList l vs.toArray) (pl : IsPart vl lo) (pu : IsPart vu hi) (e : kms_pick vs lo hi = zs)
    (h : ∀ D h', Fr g L h' m → News g L h' ((D, listOf zs.toArray 0) :: news) → (∀ p ∈ news, p.1 < D) → Q (.ref D) { s with heap := h' })
    (hs : subscripted slice false (.ref l) (.ref s.heap.objs.size) = operate [.ref s.heap.objs.size, .ref l] (getItem (.ref l) (.ref s.heap.objs.size))) (ht : ∀ r, letTemporaryGo value (.ref l) r = pure ()) (hz : vs.length ≤ sizeLine) :
    wpAny (model prog w) A (subscriptTail value slice (.ref l) (.ref s.heap.objs.size)) Q E { s with heap := s.heap.push { cls := .type "slice", data := .fields #[vl, vu, .none] } } :=
  kms_slice_lit F N hl pl pu (by simpa using e) h hs ht (by simpa using hz)
theorem tuple_vals {prog : Program} {l : Addr} {vs : List Value} (F : Fr g L s.heap m) (N : News g L s.heap news) (hl : LAt g news l vs) (hz : vs.length ≤ 16384)
    (h : ∀ D h', Fr g L h' m → News g L h' ((D, ({ cls := .type "tuple", data := .seq vs.toArray } : Obj)) :: news) → (∀ p ∈ news, p.1 < D) → Q (.ref D) { s with heap := h' }) : wpAny (model prog w) A (call (.type "tuple") [.ref l]) Q E s :=
  kde_tupleOf F N (hl.is F N) (by simpa using hz) rfl h
theorem list_vals {prog : Program} {l : Addr} {vs : List Value} {n : Nat} (F : Fr g L s.heap m) (N : News g L s.heap news) (hm : (l, listOf vs.toArray n) ∈ news) (hz : vs.length ≤ 16384)
    (h : ∀ D c h', Fr g L h' m → News g L h' ((D, listOf vs.toArray c) :: news) → (∀ p ∈ news, p.1 < D) → Q (.ref D) { s with heap := h' }) : wpAny (model prog w) A (call (.type "list") [.ref l]) Q E s :=
  list_copyK F N (isList_news N hm) h (by rw [sizeLine_eq]; simp; omega)
def IfJ (g : Heap) (L : Addr) (m : Str → Option Value) (news' : Obj → List (Addr × Obj)) (k : Nat) (ys : List Value) (s : Shared) (v : Value) (s' : Shared) : Prop :=
  ∃ l h' tk ob', v = .ref l ∧ s' = { s with heap := h', toks := tk } ∧ Fr g L h' m ∧ News g L h' (news' ob') ∧ SeqAt h' l ys ∧ BoxOk k ob'
theorem if_join {prog : Program} {test body orelse : Expr} {pos : Pos} (news' : Obj → List (Addr × Obj)) (k : Nat) (ys : List Value) (F : Fr g L s.heap m)
    (h : wpAny (model prog w) A (isTrue test env (eval test env)) (fun b s₁ => if b then wpAny (model prog w) A (eval body env) (IfJ g L m news' k ys s) E s₁ else wpAny (model prog w) A (eval orelse env) (IfJ g L m news' k ys s) E s₁) E s)
    (hQ : ∀ l h' tk ob', Fr g L h' m → News g L h' (news' ob') → SeqAt h' l ys → BoxOk k ob' → Q (.ref l) { s with heap := h', toks := tk }) :
    wpAny (model prog w) A (eval (.IfExp test body orelse pos) env) Q E s :=
  wpAny_IfExp (wpAny_mono h (fun b s₁ hb => by
    cases b
    · exact wpAny_mono hb (fun v s' hJ => by obtain ⟨l, h', tk, ob', e1, e2, F', N', hl, hk⟩ := hJ; subst e1 e2; exact hQ l h' tk ob' F' N' hl hk) fun _ _ e => e
    · exact wpAny_mono hb (fun v s' hJ => by obtain ⟨l, h', tk, ob', e1, e2, F', N', hl, hk⟩ := hJ; subst e1 e2; exact hQ l h' tk ob' F' N' hl hk) fun _ _ e => e) fun _ _ e => e)
theorem range_small {d : Int} (h0 : 0 ≤ d) (h1 : d < 1000) : Builtin.Range.small 0 d 1 = true ∧ Builtin.Range.rangeSize 0 d 1 = d := by
  refine ⟨small_one (by decide) (by decide) (by k_sizes) (by k_sizes), ?_⟩
  rw [rangeSize_nat]; omega
end
theorem fresh_SqR : True := by w_top off; trivial
noncomputable def mm (own outers last : Value) (f : Str → Option Value) : Str → Option Value := fun z =>
  if z = Str.ofString "own" then some own else if z = Str.ofString "last" then some last else if z = Str.ofString "outers" then some outers else f z
theorem mm_self {own outers last : Value} {f : Str → Option Value} (h1 : f (Str.ofString "own") = some own) (h2 : f (Str.ofString "last") = some last) (h3 : f (Str.ofString "outers") = some outers) : f = mm own outers last f := by
  funext z
  unfold mm
  by_cases a : z = Str.ofString "own"
  · rw [if_pos a, a]; exact h1
  rw [if_neg a]
  by_cases b : z = Str.ofString "last"
  · rw [if_pos b, b]; exact h2
  rw [if_neg b]
  by_cases c : z = Str.ofString "outers"
  · rw [if_pos c, c]; exact h3
  rw [if_neg c]
noncomputable abbrev iterObj (i : Nat) : Obj := { cls := .type "range_iterator", dict := none, data := .fields #[rawInt (i : Int), rawInt ((16 : Nat) - (i : Int)), rawInt 1], slots := #[] }
noncomputable abbrev qualL : Str := (envOfC (Str.ofString "_law_feed_right") { kind := .function, names := [], isGenerator := false, isCoroutine := false, more := [] } 0 193 (Value.ref 192)).qual ++ Str.ofString "<lambda>"
noncomputable abbrev posP : Pos := { line := 114, col := 32, endLine := 114, endCol := 79 }
noncomputable abbrev posB : Pos := { line := 121, col := 75, endLine := 121, endCol := 113 }
def Far (L r I : Nat) (c : Nat) : Prop := L + 1 + 1 + 1 + 1 < c ∧ c ≠ r ∧ c ≠ I
inductive FeedSt (w : World) (mean : ExcName → Option Value) (mg mb : Str → Option Value) (A₀ : Around) (base : Heap) (outer : List Env) (g0 : Heap) (L box x dx r o tA I : Addr) (v1 v2 : Value) (t1 t2 u1 u2 : Tok) (i : Nat) (h : Heap)
    (g : Heap) (D : Addr) (ovs : List Value) (kD kr : Nat) (lv : Value) (f : Str → Option Value) (ob : Obj) (ps : Array Value) (oT oL oF oB : Obj) (c1 c2 : Addr) (oc1 oc2 : Obj) : Prop
  | mk
    (turn : KtsTurn (outer.filterMap (·.frame)) g0 g)
    (below : Below A₀ base outer g)
    (inK : (hd.heap_39 w.params).In g)
    (top : Top topProg looseS mean mg mb g)
    (dicts : KtsDicts (outer.filterMap (·.frame)) g)
    (fr : Fr g L h (mm (.ref D) (.ref o) lv f))
    (news : News g L h [(D, listOf ovs.toArray kD), (r, listOf ovs.reverse.toArray kr), (I, iterObj i), (tA, tupA u1 u2 0), (x, instObj 135 dx), (dx, feedDict w.params r o t1 t2), (o, { cls := .type "tuple", data := .seq #[v1, v2] }), (c1, oc1), (c2, oc2), (L + 1 + 1 + 1 + 1, oT), (L + 1 + 1 + 1, oL), (L + 1 + 1, oF), (L + 1, oB), (box, ob), (190, tabObj ps)])
    (boxOk : BoxOk (100 + 10 * i) ob)
    (slotP : Slot posP qualL ps c1 oc1)
    (slotB : Slot posB qualL ps c2 oc2)
    (farD : Far L r I D)
    (far1 : Far L r I c1)
    (far2 : Far L r I c2)
    (len : ovs.length ≤ 14 + 3 * i)
    (toks : ∀ v ∈ ovs, Tk base tA v)
    (last : Tk base tA lv)
    (cT : ∃ v, oT.data = .cell v)
    (cL : ∃ v, oL.data = .cell v)
    (cF : oF.data = .cell (some (.ref x)))
    (cB : oB.data = .cell (some (.ref box)))
inductive FeedInv (w : World) (mean : ExcName → Option Value) (mg mb : Str → Option Value) (A₀ : Around) (base : Heap) (outer : List Env) (g0 : Heap) (L box x dx r o tA I : Addr) (v1 v2 : Value) (t1 t2 u1 u2 : Tok) (s0 : Shared) (i : Nat) (s : Shared) : Prop
  | mk (h : Heap) (tk : Nat) (e : s = { s0 with heap := h, toks := tk }) (g : Heap) (D : Addr) (ovs : List Value) (kD kr : Nat) (lv : Value) (f : Str → Option Value) (ob : Obj) (ps : Array Value) (oT oL oF oB : Obj) (c1 c2 : Addr) (oc1 oc2 : Obj)
      (S : FeedSt w mean mg mb A₀ base outer g0 L box x dx r o tA I v1 v2 t1 t2 u1 u2 i h g D ovs kD kr lv f ob ps oT oL oF oB c1 c2 oc1 oc2)
section
variable {w : World} {mean : ExcName → Option Value} {mg mb : Str → Option Value} {A₀ : Around} {base : Heap} {outer : List Env} {g0 : Heap} {L box x dx r o tA I : Addr} {v1 v2 : Value} {t1 t2 u1 u2 : Tok} {s0 : Shared} {i : Nat} {gens : Array GenState} {drawn : Drawn} {tk : Nat} {os : OsState}
theorem inv_close {h g : Heap} {D : Addr} {ovs : List Value} {kD kr : Nat} {lv : Value} {F : Str → Option Value} {ob : Obj} {ps : Array Value} {oT oL oF oB : Obj} {c1 c2 : Addr} {oc1 oc2 : Obj} {news : List (Addr × Obj)} {vT vL : Option Value} {k : Nat}
    (eg : gens = s0.gens) (ed : drawn = s0.drawn) (eo : os = s0.os) (turn : KtsTurn (outer.filterMap (·.frame)) g0 g) (B : Below A₀ base outer g) (X : (hd.heap_39 w.params).In g) (T : Top topProg looseS mean mg mb g) (Dk : KtsDicts (outer.filterMap (·.frame)) g)
    (FF : Fr g L h F) (NN : News g L h news) (h1 : F (Str.ofString "own") = some (.ref D)) (h2 : F (Str.ofString "last") = some lv) (h3 : F (Str.ofString "outers") = some (.ref o))
    (m1 : (D, listOf ovs.toArray kD) ∈ news) (m2 : (r, listOf ovs.reverse.toArray kr) ∈ news) (m3 : (I, iterObj i) ∈ news) (m4 : (tA, tupA u1 u2 0) ∈ news) (m5 : (x, instObj 135 dx) ∈ news) (m6 : (dx, feedDict w.params r o t1 t2) ∈ news)
    (m7 : (o, ({ cls := .type "tuple", data := .seq #[v1, v2] } : Obj)) ∈ news) (m8 : (c1, oc1) ∈ news) (m9 : (c2, oc2) ∈ news) (m10 : (L + 1 + 1 + 1 + 1, oT) ∈ news) (m11 : (L + 1 + 1 + 1, oL) ∈ news) (m12 : (L + 1 + 1, oF) ∈ news) (m13 : (L + 1, oB) ∈ news) (m14 : (box, ob) ∈ news) (m15 : (190, tabObj ps) ∈ news)
    (hb : BoxOk k ob) (hk : k ≤ 100 + 10 * i) (s1 : Slot posP qualL ps c1 oc1) (s2 : Slot posB qualL ps c2 oc2) (f1 : Far L r I D) (f2 : Far L r I c1) (f3 : Far L r I c2) (len : ovs.length ≤ 14 + 3 * i) (tks : ∀ v ∈ ovs, Tk base tA v) (lst : Tk base tA lv)
    (d1 : oT.data = .cell vT) (d2 : oL.data = .cell vL) (d3 : oF.data = .cell (some (.ref x))) (d4 : oB.data = .cell (some (.ref box))) :
    FeedInv w mean mg mb A₀ base outer g0 L box x dx r o tA I v1 v2 t1 t2 u1 u2 s0 i ⟨h, gens, drawn, tk, os⟩ := by
  subst eg ed eo
  refine ⟨h, tk, rfl, g, D, ovs, kD, kr, lv, F, ob, ps, oT, oL, oF, oB, c1, c2, oc1, oc2, ⟨turn, B, X, T, Dk, mm_self h1 h2 h3 ▸ FF, fun p hp => ?_, hb.mono hk, s1, s2, f1, f2, f3, len, tks, lst, ⟨_, d1⟩, ⟨_, d2⟩, d3, d4⟩⟩
  simp only [List.mem_cons, List.not_mem_nil, or_false] at hp
  rcases hp with rfl | rfl | rfl | rfl | rfl | rfl | rfl | rfl | rfl | rfl | rfl | rfl | rfl | rfl | rfl
  all_goals (first | exact NN _ m1 | exact NN _ m2 | exact NN _ m3 | exact NN _ m4 | exact NN _ m5 | exact NN _ m6 | exact NN _ m7 | exact NN _ m8 | exact NN _ m9 | exact NN _ m10 | exact NN _ m11 | exact NN _ m12 | exact NN _ m13 | exact NN _ m14 | exact NN _ m15)
theorem inv_iter (j : Nat) (s : Shared) (H : FeedInv w mean mg mb A₀ base outer g0 L box x dx r o tA I v1 v2 t1 t2 u1 u2 s0 j s) : IsRangeIter s.heap I (j : Int) (((16 : Nat) : Int) - (j : Int)) 1 := by
  obtain ⟨h, tk, rfl, g, D, ovs, kD, kr, lv, f, ob, ps, oT, oL, oF, oB, c1, c2, oc1, oc2, S⟩ := H
  obtain ⟨_, _, _, _, _, _, NN, _⟩ := S
  exact (NN _ (.tail _ (.tail _ (.head _)))).1
theorem iter_next {h : Heap} {j : Nat} (H : IsRangeIter h I ((j : Int) + 1) (((16 : Nat) : Int) - (j : Int) - 1) 1) : h.get? I = some (iterObj (j + 1)) := by
  have e1 : (((j + 1 : Nat)) : Int) = (j : Int) + 1 := rfl
  have e2 : (((16 : Nat)) : Int) - ((j : Int) + 1) = ((16 : Nat) : Int) - (j : Int) - 1 := (Int.sub_sub _ _ _).symm
  show _ = some ({ cls := .type "range_iterator", dict := none, data := .fields #[rawInt ((j + 1 : Nat) : Int), rawInt ((16 : Nat) - ((j + 1 : Nat) : Int)), rawInt 1], slots := #[] } : Obj)
  rw [e1, e2]
  exact H
end
section
variable {g h h' : Heap} {L : Addr} {m : Str → Option Value} {news big : List (Addr × Obj)} {I : Addr}
theorem drop_news (F : Fr g L h m) (N : News g L h big) (hI : ∃ o, (I, o) ∈ big) (k : Heap.ExtBut I h h') (hs : ∀ p ∈ news, p ∈ big ∧ p.1 ≠ I) : Fr g L h' m ∧ News g L h' news := by
  obtain ⟨oI, hI⟩ := hI
  have nI := N _ hI
  refine ⟨⟨F.ns.extBut k nI.2.1.symm, fun b o e => k b o (fun z => by rw [z, nI.2.2] at e; cases e) (F.keep b o e), F.above⟩, fun p hp => ?_⟩
  obtain ⟨hb, ne⟩ := hs p hp
  exact ⟨k _ _ ne (N p hb).1, (N p hb).2⟩
end
theorem fresh_SqU : True := by w_top off; trivial
local macro_rules | `(tactic| walk_at "call type:list") => `(tactic| (kspl_eval list_vals; k_keys))
local macro_rules | `(tactic| walk_at "call type:tuple") => `(tactic| (kspl_eval tuple_vals; k_keys))
section
variable {M : Model} {A : Around} {E : Value → Shared → Prop} {s : Shared} {env : Env} {pos p1 p2 p3 : Pos} {Q : Value → Shared → Prop}
theorem wall_if1 {t b f : PySem.Expr} {as : List PySem.Expr} {ks : List Keyword} (_u : True) (h : Wall (wpAny M A (eval (.IfExp t b (.Call f as ks p1) pos) env) Q E s)) : wpAny M A (eval (.IfExp t b (.Call f as ks p1) pos) env) Q E s := h
theorem wall_if2 {l : PySem.Expr} {rs : List PySem.Expr} {x y : Str} (_u : True) (h : Wall (wpAny M A (eval (.IfExp (.Compare l [.Eq] rs p1) (.Name x p2) (.Name y p3) pos) env) Q E s)) : wpAny M A (eval (.IfExp (.Compare l [.Eq] rs p1) (.Name x p2) (.Name y p3) pos) env) Q E s := h
end
local macro_rules | `(tactic| walk_at "eval IfExp") => `(tactic| first | kspl_eval wall_if1 | kspl_eval wall_if2)
local macro_rules | `(tactic| walk_at "exec For Name Call cons nil") => `(tactic| kspl_eval wpAny_For)
section
end
section
variable {w : World} {mean : ExcName → Option Value} {mg mb : Str → Option Value} {dp un : Nat} {gd : Option (List Code)} {base g : Heap} {outer : List Env} {s : Shared} {L : Addr} {m : Str → Option Value} {env : Env} {news : List (Addr × Obj)} {Q E : Value → Shared → Prop} {x dx r o : Addr} {t1 t2 : Tok} {n : Nat}
theorem tk_ref {tA : Addr} {v : Value} (h : Tk base tA v) : ∃ a, v = .ref a := by
  rcases h with ⟨p, a, t1, t2, e, _⟩ | e
  · exact ⟨a, e⟩
  · exact ⟨tA, e⟩
theorem use_next_cons' {news' : Nat → List (Addr × Obj)} {v : Value} {us : List Value} (hf : env.frame = some L) (hk : env.scope.kind = .function) (B : Below (Arr dp un gd outer) base outer g) (F : Fr g L s.heap m) (N : News g L s.heap news) (X : (hd.heap_39 w.params).In g) (T : Top topProg looseS mean mg mb g)
   (hx : (x, instObj 135 dx) ∈ news) (hdx : (dx, feedDict w.params r o t1 t2) ∈ news) (U : ∀ k, Upd r (listOf (v :: us).reverse.toArray n) (listOf us.reverse.toArray k) news (news' k)) (h1 : dx < x) (h2 : x < r) (hz : (v :: us).length ≤ 999) (hdd : dp + 25 < recursionLimit) (hu : un + 110 < cLine)
   (h : ∀ h' tk k, Fr g L h' m → News g L h' (news' k) → Q v { s with heap := h', toks := tk }) :
   wpAny (model prg w) ((Arr dp un gd outer).deeper env) (call (.ref 104) [.ref x]) Q E s :=
  use_next_cons hf hk B F N X T hx hdx U h1 h2 (by simp only [List.length_cons] at hz; omega) hdd hu h
theorem cmp_nilT {A A₁ : Around} {tA : Addr} {u1 u2 : Tok} {n2 : Nat} {D e : Addr} {vs : List Value} {k : Nat} (B : Below A₁ base outer g) (F : Fr g L s.heap m) (N : News g L s.heap news) (hv : ∀ v ∈ vs, Tk base tA v) (hD : (D, listOf vs.toArray n) ∈ news) (he : (e, listOf ([] : List Value).toArray k) ∈ news) (hA : (tA, tupA u1 u2 n2) ∈ news) (hu : A.units + 4 < cLine)
    (h1 : ∀ a us, vs = .ref a :: us → Tk base tA (.ref a) → (∀ v ∈ us, Tk base tA v) → Q (.bool true) s) (h2 : vs = [] → Q (.bool false) s) : wpAny (model prg w) A (compareOp .NotEq (.ref D) (.ref e)) Q E s := by
  refine cmp_nil N hD he (tks_here B F N hA hv) hu (fun v us e => ?_) h2
  subst e
  obtain ⟨a, rfl⟩ := tk_ref (hv _ (.head _))
  exact h1 a us rfl (hv _ (.head _)) fun v h => hv v (.tail _ h)
theorem cmp_tokT {A A₁ : Around} {tA : Addr} {u1 u2 : Tok} {n2 : Nat} {v : Value} (B : Below A₁ base outer g) (F : Fr g L s.heap m) (N : News g L s.heap news) (hv : Tk base tA v) (hA : (tA, tupA u1 u2 n2) ∈ news) (hu : A.units + 4 < cLine)
    (h : Q (.bool false) s) : wpAny (model prg w) A (compareOp .NotEq v v) Q E s :=
  cmp_tok_ne (tks_here (vs := [v]) B F N hA (fun u hu => by rw [List.mem_singleton.mp hu]; exact hv) v (.head _)) hu h
theorem cmp_listsT {A A₁ : Around} {tA : Addr} {u1 u2 : Tok} {n2 : Nat} {D e : Addr} {vs : List Value} {k : Nat} (B : Below A₁ base outer g) (F : Fr g L s.heap m) (N : News g L s.heap news) (hv : ∀ v ∈ vs, Tk base tA v) (hD : (D, listOf vs.toArray n) ∈ news) (he : (e, listOf vs.toArray k) ∈ news) (hA : (tA, tupA u1 u2 n2) ∈ news) (hu : A.units + 4 < cLine)
    (h : Q (.bool false) s) : wpAny (model prg w) A (compareOp .NotEq (.ref D) (.ref e)) Q E s := cmp_lists_ne N hD he (tks_here B F N hA hv) hu h
theorem cmp_eqT {A A₁ : Around} {tA : Addr} {u1 u2 : Tok} {n2 : Nat} {D e : Addr} {vs : List Value} {k : Nat} (B : Below A₁ base outer g) (F : Fr g L s.heap m) (N : News g L s.heap news) (hv : ∀ v ∈ vs, Tk base tA v) (hD : (D, listOf vs.toArray n) ∈ news) (he : (e, listOf vs.toArray k) ∈ news) (hA : (tA, tupA u1 u2 n2) ∈ news) (hu : A.units + 4 < cLine)
    (h : Q (.bool true) s) : wpAny (model prg w) A (compareOp .Eq (.ref D) (.ref e)) Q E s := cmp_lists_eq N hD he (tks_here B F N hA hv) hu h
theorem head_item {A : Around} {prog : Program} {value slice : PySem.Expr} {D : Addr} {v : Value} {us : List Value} {u : Tok} (N : News g L s.heap news) (hD : (D, listOf (v :: us).toArray n) ∈ news) (h : Q v s)
    (hs : ∀ c u, subscripted slice false (.ref D) (.int c u) = operate [.ref D, .int c u] (getItem (.ref D) (.int c u))) :
    wpAny (model prog w) A (subscriptTail value slice (.ref D) (.int 0 u)) Q E s := by
  have hL : s.heap.IsList D (v :: us).toArray := isList_news N hD
  exact tail_any hL.typeIs slot_list_getitem.lookup (wpAny_getItem_list hL (by decide) (by decide) (by simp) h) (hs _ _)
theorem use_back_bad {v : Value} (hf : env.frame = some L) (hk : env.scope.kind = .function) (B : Below (Arr dp un gd outer) base outer g) (F : Fr g L s.heap m) (X : (hd.heap_39 w.params).In g) (T : Top topProg looseS mean mg mb g)
   (hv : v ∈ badVs) (hdd : dp + 25 < recursionLimit) (hu : un + 140 < cLine)
   (h : ∀ h' tk e, Flown base (env :: outer) s.heap h' e → E (.ref e) { s with heap := h', toks := tk }) :
   wpAny (model prg w) ((Arr dp un gd outer).deeper env) (call (.ref 111) [.ref x, v]) Q E s :=
  wpAny_call (back_bad (dp := dp + 1) (un := un + 3) (at_in hf hk B F X T) (by k_sizes) (by k_sizes) hv fun h' tk e fl => h h' tk e fl)
theorem use_push_bad {l : Addr} {vs : List Value} {k : Nat} {b : Value} (hf : env.frame = some L) (hk : env.scope.kind = .function) (B : Below (Arr dp un gd outer) base outer g) (F : Fr g L s.heap m) (X : (hd.heap_39 w.params).In g) (T : Top topProg looseS mean mg mb g)
   (hl : SeqAt s.heap l vs) (hkb : vs[k]? = some b) (hb : b ∈ badVs) (ht : ∀ i v, i < k → vs[i]? = some v → ∃ p, TokV s.heap v p) (hdd : dp + 25 < recursionLimit) (hu : un + 140 < cLine)
   (h : ∀ h' tk e, Flown base (env :: outer) s.heap h' e → E (.ref e) { s with heap := h', toks := tk }) :
   wpAny (model prg w) ((Arr dp un gd outer).deeper env) (call (.ref 118) [.ref x, .ref l]) Q E s :=
  wpAny_call (push_bad (dp := dp + 1) (un := un + 3) (at_in hf hk B F X T) (by k_sizes) (by k_sizes) hl hkb hb ht fun h' tk e fl => h h' tk e fl)
theorem inst_keeps {h h' : Heap} {ox : Obj} {C : Addr} {od : Option Obj} (I : PySem.W.InstAt h x ox C od) (k : ∀ b o, h.get? b = some o → h'.get? b = some o) : PySem.W.InstAt h' x ox C od := by
  refine ⟨k _ _ I.at_, I.cls, I.no, ?_⟩
  have d := I.dict
  cases e : ox.dict <;> cases od <;> rw [e] at d <;> first | exact d.elim | trivial | exact k _ _ d
theorem method_g {prog : Program} {A : Around} {K : Frag} {name : Str} {pl : Sem Bool} {Q : Value × List Value → Shared → Prop} {f C : Addr} {ox : Obj} {es : List DictEntry} (F : Fr g L s.heap m) (X₀ : K.In g) (I : PySem.W.InstAt g x ox C (some (dictOf es n))) (hg : plainGet K C name = true)
    (hf : findIn K (.ref C) name = some (some (.ref f))) (ht : isFn K (.ref f) = true) (hl : getL name es = some none) (h : Q (.ref f, [.ref x]) s) : wpAny (model prog w) A (getMethod (.ref x) name pl) Q E s :=
  method_inst F X₀ (inst_keeps I F.keep) hg hf ht hl h
theorem cmp_bool_ne {A : Around} {b : Bool} (hu : A.units + 4 < cLine) (h : Q (.bool false) s) : wpAny (model prg w) A (compareOp .NotEq (.bool b) (.bool b)) Q E s := by
  refine PySem.SeqAt.compareNe_reads (.bool b) (.bool b) rfl rfl (by show A.units + _ < _; simp only [PyData.depth]; omega) ?_
  rw [PySem.SeqAt.eqv_refl _ rfl]; exact h
theorem row_ok {tA : Addr} {v lv : Value} {p : Int × Int} (tv : TokV base v p) (lst : Tk base tA lv) (n : Int) : (kms_pick [v, lv, v] none (some n)).length ≤ 3 ∧ ∀ u ∈ kms_pick [v, lv, v] none (some n), Tk base tA u := by
  refine ⟨Nat.le_trans pick_len (by simp), fun u hu => ?_⟩
  have := pick_mem hu
  simp only [List.mem_cons, List.not_mem_nil, or_false] at this
  rcases this with rfl | rfl | rfl
  · exact .inl ⟨_, tv⟩
  · exact lst
  · exact .inl ⟨_, tv⟩
def RowJ (g : Heap) (L : Addr) (m : Str → Option Value) (news : List (Addr × Obj)) (r : Addr) (row : List Value) (s : Shared) (v : Value) (s' : Shared) : Prop :=
  ∃ l ol h' tk, v = .ref l ∧ s' = { s with heap := h', toks := tk } ∧ Fr g L h' m ∧ News g L h' ((l, ol) :: news) ∧ (ol = listOf row.toArray 0 ∨ ol = { cls := .type "tuple", data := .seq row.toArray 0 }) ∧ @LT.lt Nat _ r l ∧ @LT.lt Nat _ 190 l
theorem if_row {prog : Program} {A : Around} {test body orelse : PySem.Expr} {pos : Pos} {row : List Value} (F : Fr g L s.heap m) (N : News g L s.heap news)
    (h : wpAny (model prog w) A (isTrue test env (eval test env)) (fun b s₁ => if b then wpAny (model prog w) A (eval body env) (RowJ g L m news r row s) E s₁ else wpAny (model prog w) A (eval orelse env) (RowJ g L m news r row s) E s₁) E s)
    (hQ : ∀ l ol h' tk, Fr g L h' m → News g L h' ((l, ol) :: news) → (ol = listOf row.toArray 0 ∨ ol = { cls := .type "tuple", data := .seq row.toArray 0 }) → @LT.lt Nat _ r l → @LT.lt Nat _ 190 l → Q (.ref l) { s with heap := h', toks := tk }) :
    wpAny (model prog w) A (eval (.IfExp test body orelse pos) env) Q E s :=
  wpAny_IfExp (wpAny_mono h (fun b s₁ hb => by
    cases b
    · exact wpAny_mono hb (fun v s' hJ => by obtain ⟨l, ol, h', tk, e1, e2, F', N', h1, h2, h3⟩ := hJ; subst e1 e2; exact hQ l ol h' tk F' N' h1 h2 h3) fun _ _ e => e
    · exact wpAny_mono hb (fun v s' hJ => by obtain ⟨l, ol, h', tk, e1, e2, F', N', h1, h2, h3⟩ := hJ; subst e1 e2; exact hQ l ol h' tk F' N' h1 h2 h3) fun _ _ e => e) fun _ _ e => e)
def TokJ (g : Heap) (L : Addr) (m : Str → Option Value) (news : List (Addr × Obj)) (base : Heap) (tA : Addr) (s : Shared) (v : Value) (s' : Shared) : Prop :=
  ∃ h' tk, s' = { s with heap := h', toks := tk } ∧ Fr g L h' m ∧ News g L h' news ∧ Tk base tA v
theorem if_tok {prog : Program} {A : Around} {tA : Addr} {test body orelse : PySem.Expr} {pos : Pos} (F : Fr g L s.heap m) (N : News g L s.heap news)
    (h : wpAny (model prog w) A (isTrue test env (eval test env)) (fun b s₁ => if b then wpAny (model prog w) A (eval body env) (TokJ g L m news base tA s) E s₁ else wpAny (model prog w) A (eval orelse env) (TokJ g L m news base tA s) E s₁) E s)
    (hQ : ∀ v h' tk, Tk base tA v → Fr g L h' m → News g L h' news → Q v { s with heap := h', toks := tk }) :
    wpAny (model prog w) A (eval (.IfExp test body orelse pos) env) Q E s :=
  wpAny_IfExp (wpAny_mono h (fun b s₁ hb => by
    cases b
    · exact wpAny_mono hb (fun v s' hJ => by obtain ⟨h', tk, e2, F', N', h1⟩ := hJ; subst e2; exact hQ v h' tk h1 F' N') fun _ _ e => e
    · exact wpAny_mono hb (fun v s' hJ => by obtain ⟨h', tk, e2, F', N', h1⟩ := hJ; subst e2; exact hQ v h' tk h1 F' N') fun _ _ e => e) fun _ _ e => e)
theorem news_dup {h : Heap} {p : Addr × Obj} (N : News g L h news) (hm : p ∈ news) : News g L h (p :: news) := List.forall_mem_cons.mpr ⟨N p hm, N⟩
theorem far_of {L r I c : Nat} (a : L + 1 + 1 + 1 + 1 < c) (b : r < c) (d : I < c) : Far L r I c := ⟨a, Nat.ne_of_gt b, Nat.ne_of_gt d⟩
end
local macro_rules | `(tactic| walk_at "getMethod ref") => `(tactic| kspl_eval method_g)
local macro_rules | `(tactic| walk_at "compareOp NotEq bool bool") => `(tactic| kspl_eval cmp_bool_ne)
local macro_rules | `(tactic| walk_at "eval Lambda") => `(tactic| kdo_acc)
local macro_rules | `(tactic| walk_at "subscriptTail Name Constant ref int") => `(tactic| kspl_eval head_item)
local macro_rules | `(tactic| walk_at "call ref") => `(tactic| first
  | cb_end use_next_cons' | cb_end use_next_nil
  | ((rename PySem.W.InstAt _ _ _ _ _ => ig'); k_search (wallF 111 ?_))
  | cb_end use_back
  | k_search (wallF 118 ?_) | k_search (wallF 132 ?_)
  | (kspl_eval use_left; intros; (rename_i l'); (replace l' := allNe_of l'; simp only [AllNe, and_true] at l'); k_invgoal)
  | (dsimp only [List.nil_append, List.cons_append]; walk_at "call ref"))
local macro_rules | `(tactic| walk_at "compareOp In") => `(tactic| kdo_acc)
local macro_rules | `(tactic| walk_at "compareOp In ref ref") => `(tactic| kdo_acc)
local macro_rules | `(tactic| walk_at "compareOp NotEq ref ref") => `(tactic| first
  | kspl_eval cmp_tokT | kspl_eval cmp_listsT
  | (k_search (cmp_nilT ‹_› ‹_› ‹_› ‹_› ‹_› ‹_› ‹_› ‹_› ?_ ?_); all_goals (first | (intro a' us' e' tk' tks'; subst e') | (intro e'; subst e') | skip))
  | k_search (cmp_lists_ne ‹_› ‹_› ‹_› (tks_base ‹_› ‹_› ‹_›) ‹_› ?_))
local macro_rules | `(tactic| walk_at "compareOp Eq ref ref") => `(tactic| kspl_eval cmp_eqT)
theorem fresh_SqO : True := by w_top off; trivial
section
variable {w : World} {mean : ExcName → Option Value} {mg mb : Str → Option Value} {dp un : Nat} {gd : Option (List Code)} {base : Heap} {outer : List Env} {s : Shared} {R : Result → Shared → Prop}
theorem feed_right {box : Addr} {ob : Obj} (H : At w mean mg mb dp un gd base outer (hideAll s.heap [box, 190])) (hdd : dp + 60 < recursionLimit) (hu : un + 400 < cLine)
   (XB : (hd.heap_39 w.params).In base) (TB : Top topProg looseS mean mg mb base) (D : KtsDicts (outer.filterMap (·.frame)) (hideAll s.heap [box, 190])) (hC : CodeHd base 192 190)
   (hob : s.heap.get? box = some ob) (hBox : BoxOk 0 ob) (h190 : s.heap.get? 190 = some (tabObj #[])) (hne : 190 < box)
   (hR : ∀ h' tk ps ob', Turn (outer.filterMap (·.frame)) (hideAll s.heap [box, 190]) h' → h'.get? 190 = some (tabObj ps) → h'.get? box = some ob' → R (.ok (.ret (.bool true))) { s with heap := h', toks := tk }) :
   codeAny (model prg w) (Arr dp un gd outer) (.call (.ref 193) ⟨[.ref box], []⟩) R s := by
  have sl := sizeLine_eq
  have hX : ∀ p ∈ [(box, ob), (190, tabObj #[])], s.heap.get? p.1 = some p.2 := List.forall_mem_cons.mpr ⟨hob, List.forall_mem_cons.mpr ⟨h190, fun _ hp => nomatch hp⟩⟩
  k_dflt (refine' enterC (X := [(box, ob), (190, tabObj #[])]) (binds := [(Str.ofString "box", .ref box)]) ?k1 ?kX ?k6 ?k7 ?k8 ?k9 ?kB ?kD ?_ ?c2 ?c3 ?c4; (case k1 => assumption); (case kX => exact hX); (case k6 => k_is); (case k7 => k_is); (case k8 => ktr_room); (case k9 => exact BindsTo.of_eq rfl); (case kB => rfl); (case kD => decide); (case c2 => exact rfl); (case c3 => exact rfl); (case c4 => exact rfl); k_whole)
  intro g L' h1' tk1 cells eg eL F N Y B X T l1
  subst eL
  k_lt l1
  k_cells Y
  (try simp only [List.cons_append, List.nil_append] at N)
  k_lt2 hne
  have k1_1 : @LT.lt Nat _ (box) (s.heap.objs.size + 1) := Nat.lt_succ_of_lt (by k_same)
  have k1_2 : @LT.lt Nat _ (190) (s.heap.objs.size + 1) := Nat.lt_succ_of_lt (by k_same)
  have k2_1 : @LT.lt Nat _ (s.heap.objs.size + 1) (s.heap.objs.size + 1 + 1) := Nat.lt_succ_self _
  have k2_2 : @LT.lt Nat _ (box) (s.heap.objs.size + 1 + 1) := Nat.lt_succ_of_lt (by k_same)
  have k2_3 : @LT.lt Nat _ (190) (s.heap.objs.size + 1 + 1) := Nat.lt_succ_of_lt (by k_same)
  have k3_1 : @LT.lt Nat _ (s.heap.objs.size + 1 + 1) (s.heap.objs.size + 1 + 1 + 1) := Nat.lt_succ_self _
  have k3_2 : @LT.lt Nat _ (s.heap.objs.size + 1) (s.heap.objs.size + 1 + 1 + 1) := Nat.lt_succ_of_lt (by k_same)
  have k3_3 : @LT.lt Nat _ (box) (s.heap.objs.size + 1 + 1 + 1) := Nat.lt_succ_of_lt (by k_same)
  have k3_4 : @LT.lt Nat _ (190) (s.heap.objs.size + 1 + 1 + 1) := Nat.lt_succ_of_lt (by k_same)
  have k4_1 : @LT.lt Nat _ (s.heap.objs.size + 1 + 1 + 1) (s.heap.objs.size + 1 + 1 + 1 + 1) := Nat.lt_succ_self _
  have k4_2 : @LT.lt Nat _ (s.heap.objs.size + 1 + 1) (s.heap.objs.size + 1 + 1 + 1 + 1) := Nat.lt_succ_of_lt (by k_same)
  have k4_3 : @LT.lt Nat _ (s.heap.objs.size + 1) (s.heap.objs.size + 1 + 1 + 1 + 1) := Nat.lt_succ_of_lt (by k_same)
  have k4_4 : @LT.lt Nat _ (box) (s.heap.objs.size + 1 + 1 + 1 + 1) := Nat.lt_succ_of_lt (by k_same)
  have k4_5 : @LT.lt Nat _ (190) (s.heap.objs.size + 1 + 1 + 1 + 1) := Nat.lt_succ_of_lt (by k_same)
  have Dg : KtsDicts (outer.filterMap (·.frame)) g := eg ▸ D
  (try dsimp only); (try k_fold)
  k_steps
  rename_i oT oL oF oB q1 q2 q3 q4 hr1 tkr dn tdn ob1 hob1 dn0 dn1 kkr er Fr1 Nr1 hr2 tkr2 ta tb tc a1 a2 a3 a4
  have rs1 := (range_small dn0 (Int.lt_trans dn1 (by decide))).1
  have rs2 := (range_small dn0 (Int.lt_trans dn1 (by decide))).2
  have hdn : dn.toNat < 15 := by omega
  refine comp_local (fun y => ∃ p, TokV base y p) (n := dn.toNat) (k := 0 + 1) (box := box) (ob := ob1) hob1 rfl a1 rs1 (by rw [rs2]; omega) (by assumption) (by assumption) (fun _ => by k_upd) (by decide) rfl rfl (by k_sizes) rfl rfl rfl ?_ ?_
  · intro C₀ i s₂ m₂ o E' hC hi hb2 FC FL N2
    k_steps
    rename_i kk' e' _ _ _ _ tv'
    exact ⟨⟨_, tv'⟩, _, _, _, rfl, kk', e', by assumption⟩
  · intro D0 ys o kk h' tk F2 N2 hDl hlen hF hB
    (try dsimp only at N2); (try k_lt hDl); (try k_sweep); (try dsimp only)
    have hlen' : ys.length ≤ 14 := by omega
    k_steps
    rename_i v1 p1 tv1 hA tkA dA tdA obA hobA dA0 dA1 kkA eA v2 p2 tv2 Do hx1 l1x hx2 tkx Dh ch hx3 l1y hx4 FF NN
    show wpAny _ _ (eval _ _) _ _ _
    refine if_join (fun ob' => [(Dh, listOf ys.toArray ch), (Do, { cls := .type "tuple", data := .seq #[v1, v2] }), (D0, listOf ys.toArray kk), (s.heap.objs.size + 1 + 1 + 1 + 1, oT), (s.heap.objs.size + 1 + 1 + 1, oL), (s.heap.objs.size + 1 + 1, oF), (s.heap.objs.size + 1, oB), (box, ob'), (190, tabObj #[])]) 100 ys FF ?_ ?_
    · k_steps
      · rename News _ _ _ _ => NN2
        exact ⟨_, _, _, _, rfl, rfl, by assumption, NN2, .inl (isList_news NN2 (.head _)), BoxOk.mono (by assumption) (by k_sizes)⟩
      · rename News _ _ _ _ => NN2
        exact ⟨_, _, _, _, rfl, rfl, by assumption, fun p hp => NN2 p (.tail _ hp), .inr ⟨_, (NN2 _ (.head _)).1, rfl, _, rfl⟩, BoxOk.mono (by assumption) (by k_sizes)⟩
    · intro l h5 tk5 ob5 F5 N5 hl5 hB5
      clear FF NN
      (try dsimp only at N5); (try dsimp only)
      k_steps
      show wpAny _ _ (call (.ref 135) _) _ _ _
      rename News _ _ _ _ => NN
      rename Fr _ _ _ _ => FF
      refine use_feed (vs := ys) (os := #[v1, v2]) rfl rfl B FF NN X T hl5 (tks_base B FF hF) (by k_sizes) ⟨_, (NN _ (.tail _ (.head _))).1, rfl, _, rfl⟩ (by k_sizes) (by k_sizes) ?_
      intro h6 tk6 x dx r t1 t2 F6 N6 l1 l2 l3 _
      clear FF NN hl5
      k_lt l1
      k_lt2 l2
      k_lt2 l3
      have kx_1 : @LT.lt Nat _ (dx) (x) := l2
      have kx_2 : @LT.lt Nat _ (Do) (x) := Nat.lt_trans (by k_same) l2
      have kx_3 : @LT.lt Nat _ (s.heap.objs.size + 1 + 1 + 1 + 1) (x) := Nat.lt_trans (by k_same) l2
      have kx_4 : @LT.lt Nat _ (s.heap.objs.size + 1 + 1 + 1) (x) := Nat.lt_trans (by k_same) l2
      have kx_5 : @LT.lt Nat _ (s.heap.objs.size + 1 + 1) (x) := Nat.lt_trans (by k_same) l2
      have kx_6 : @LT.lt Nat _ (s.heap.objs.size + 1) (x) := Nat.lt_trans (by k_same) l2
      have kx_7 : @LT.lt Nat _ (box) (x) := Nat.lt_trans (by k_same) l2
      have kx_8 : @LT.lt Nat _ (190) (x) := Nat.lt_trans (by k_same) l2
      have kx_9 : @LT.lt Nat _ (D0) (x) := Nat.lt_trans (by k_same) l2
      have kx_10 : @LT.lt Nat _ (Dh) (x) := Nat.lt_trans (by k_same) l2
      have kr_1 : @LT.lt Nat _ (x) (r) := l3
      have kr_2 : @LT.lt Nat _ (dx) (r) := Nat.lt_trans l2 l3
      have kr_3 : @LT.lt Nat _ (Do) (r) := Nat.lt_trans (by k_same) l3
      have kr_4 : @LT.lt Nat _ (s.heap.objs.size + 1 + 1 + 1 + 1) (r) := Nat.lt_trans (by k_same) l3
      have kr_5 : @LT.lt Nat _ (s.heap.objs.size + 1 + 1 + 1) (r) := Nat.lt_trans (by k_same) l3
      have kr_6 : @LT.lt Nat _ (s.heap.objs.size + 1 + 1) (r) := Nat.lt_trans (by k_same) l3
      have kr_7 : @LT.lt Nat _ (s.heap.objs.size + 1) (r) := Nat.lt_trans (by k_same) l3
      have kr_8 : @LT.lt Nat _ (box) (r) := Nat.lt_trans (by k_same) l3
      have kr_9 : @LT.lt Nat _ (190) (r) := Nat.lt_trans (by k_same) l3
      have kr_10 : @LT.lt Nat _ (D0) (r) := Nat.lt_trans (by k_same) l3
      have kr_11 : @LT.lt Nat _ (Dh) (r) := Nat.lt_trans (by k_same) l3
      (try dsimp only)
      k_steps
      rename_i tA ha1 la1 DD ha2 la2 ha3 ha4 oFx dFx ha5 tkb D98 ha6 la3 ha7 Fold Nold hL tkL ta' tb' tc' rr FL NL kL
      clear Fold Nold
      have lI : ∀ p : Addr × Obj, p ∈ _ → p.1 < hL.objs.size := fun p hp => Heap.lt_size (NL p hp).1
      k_lt lI
      refine wpAny_pyIter_range rr rfl ?_
      refine loop_range (n := 16) (I := hL.objs.size) (FeedInv w mean mg mb (Arr dp un gd outer) base outer g s.heap.objs.size box x dx r Do tA hL.objs.size v1 v2 t1 t2 tk6 (tk6 + 1) s) rfl inv_iter ?_ ?_ ?_ (fun _ => rfl)
      · intro i s1 hI1 hin HI hIt hSB
        show wpAny _ _ _ _ _ _
        k_fold
        obtain ⟨hi, tki, rfl, gi, Di, ovs, kD, kr, lv, f, obi, ps, oTi, oLi, oFi, oBi, c1, c2, oc1, oc2, S⟩ := HI
        obtain ⟨turni, Bi, Xi, TTi, Dki, FF, NN, hbi, s1, s2, f1, f2, f3, len, tks, lst, ⟨vT, cT⟩, ⟨vL, cL⟩, cF, cB⟩ := S
        have f1a : s.heap.objs.size + 1 + 1 + 1 + 1 < Di := f1.1
        have f1b : @Ne Nat Di r := f1.2.1
        have f1c : @Ne Nat Di hL.objs.size := f1.2.2
        have f2a : s.heap.objs.size + 1 + 1 + 1 + 1 < c1 := f2.1
        have f2b : @Ne Nat c1 r := f2.2.1
        have f2c : @Ne Nat c1 hL.objs.size := f2.2.2
        have f3a : s.heap.objs.size + 1 + 1 + 1 + 1 < c2 := f3.1
        have f3b : @Ne Nat c2 r := f3.2.1
        have f3c : @Ne Nat c2 hL.objs.size := f3.2.2
        have kDi_1 : @LT.lt Nat _ (s.heap.objs.size + 1 + 1 + 1 + 1) (Di) := f1a
        have kDi_2 : @LT.lt Nat _ (s.heap.objs.size + 1 + 1 + 1) (Di) := Nat.lt_trans (by k_same) f1a
        have kDi_3 : @LT.lt Nat _ (s.heap.objs.size + 1 + 1) (Di) := Nat.lt_trans (by k_same) f1a
        have kDi_4 : @LT.lt Nat _ (s.heap.objs.size + 1) (Di) := Nat.lt_trans (by k_same) f1a
        have kDi_5 : @LT.lt Nat _ (box) (Di) := Nat.lt_trans (by k_same) f1a
        have kDi_6 : @LT.lt Nat _ (190) (Di) := Nat.lt_trans (by k_same) f1a
        have kc1_1 : @LT.lt Nat _ (s.heap.objs.size + 1 + 1 + 1 + 1) (c1) := f2a
        have kc1_2 : @LT.lt Nat _ (s.heap.objs.size + 1 + 1 + 1) (c1) := Nat.lt_trans (by k_same) f2a
        have kc1_3 : @LT.lt Nat _ (s.heap.objs.size + 1 + 1) (c1) := Nat.lt_trans (by k_same) f2a
        have kc1_4 : @LT.lt Nat _ (s.heap.objs.size + 1) (c1) := Nat.lt_trans (by k_same) f2a
        have kc1_5 : @LT.lt Nat _ (box) (c1) := Nat.lt_trans (by k_same) f2a
        have kc1_6 : @LT.lt Nat _ (190) (c1) := Nat.lt_trans (by k_same) f2a
        have kc2_1 : @LT.lt Nat _ (s.heap.objs.size + 1 + 1 + 1 + 1) (c2) := f3a
        have kc2_2 : @LT.lt Nat _ (s.heap.objs.size + 1 + 1 + 1) (c2) := Nat.lt_trans (by k_same) f3a
        have kc2_3 : @LT.lt Nat _ (s.heap.objs.size + 1 + 1) (c2) := Nat.lt_trans (by k_same) f3a
        have kc2_4 : @LT.lt Nat _ (s.heap.objs.size + 1) (c2) := Nat.lt_trans (by k_same) f3a
        have kc2_5 : @LT.lt Nat _ (box) (c2) := Nat.lt_trans (by k_same) f3a
        have kc2_6 : @LT.lt Nat _ (190) (c2) := Nat.lt_trans (by k_same) f3a
        have hz9 : ovs.length ≤ 999 := by omega
        have hbk : 100 + 10 * i + 900 < 1000000 := by omega
        have hb2 : 100 + 10 * i + 1 + 1 ≤ 100 + 10 * (i + 1) := by omega
        have hov : ovs.length ≤ 14 + 3 * (i + 1) := by omega
        obtain ⟨FI, NI⟩ := upd_news FF NN (U := by k_upd) hSB.extBut (iter_next hIt)
        clear FF NN F2 N2 FL NL B X T
        k_steps
        · rename Fr _ _ _ _ => FF
          rename News _ _ _ _ => NN
          rw [pick_tail] at NN
          refine inv_close rfl rfl rfl turni Bi Xi TTi Dki FF NN rfl rfl rfl (by k_mem) (by k_mem) (by k_mem) (by k_mem) (by k_mem) (by k_mem) (by k_mem) (by k_mem) (by k_mem) (by k_mem) (by k_mem) (by k_mem) (by k_mem) (by k_mem) (by k_mem) (by assumption) (by k_sizes) s1 s2 ?_ f2 f3 ?_ ?_ ?_ (by assumption) (by assumption) (by assumption) (by assumption)
          · exact far_of (by k_sizes) (by k_sizes) (by k_sizes)
          · simp only [List.length_cons] at len; omega
          · assumption
          · assumption
        · rename Fr _ _ _ _ => FF
          rename News _ _ _ _ => NN
          rw [pick_nil] at NN
          refine inv_close (ovs := []) rfl rfl rfl turni Bi Xi TTi Dki FF NN rfl rfl rfl (by k_mem) (by k_mem) (by k_mem) (by k_mem) (by k_mem) (by k_mem) (by k_mem) (by k_mem) (by k_mem) (by k_mem) (by k_mem) (by k_mem) (by k_mem) (by k_mem) (by k_mem) (by assumption) (by k_sizes) s1 s2 ?_ f2 f3 ?_ ?_ ?_ (by assumption) (by assumption) (by assumption) (by assumption)
          · exact far_of (by k_sizes) (by k_sizes) (by k_sizes)
          · simp
          · exact fun _ h => nomatch h
          · assumption
        · rename Fr _ _ _ _ => FF
          rename News _ _ _ _ => NN
          rename TokV _ _ _ => tv
          rename BoxOk _ _ => bk
          show wpAny _ _ (eval _ _) _ _ _
          refine if_tok (base := base) (tA := tA) FF NN ?_ ?_
          · k_steps
            · rename Fr _ _ _ _ => FF
              rename News _ _ _ _ => NN
              exact ⟨_, _, rfl, FF, NN, .inl ⟨_, tv⟩⟩
            · rename Fr _ _ _ _ => FF
              rename News _ _ _ _ => NN
              exact ⟨_, _, rfl, FF, NN, lst⟩
          · intro v7 h7 tk7 hv7 F7 N7
            clear FF NN
            (try dsimp only)
            k_steps
            rename Fr _ _ _ _ => FF
            rename News _ _ _ _ => NN
            refine inv_close (ovs := _ :: ovs) rfl rfl rfl turni Bi Xi TTi Dki FF NN rfl rfl rfl (by k_mem) (by k_mem) (by k_mem) (by k_mem) (by k_mem) (by k_mem) (by k_mem) (by k_mem) (by k_mem) (by k_mem) (by k_mem) (by k_mem) (by k_mem) (by k_mem) (by k_mem) bk (by k_sizes) s1 s2 ?_ f2 f3 ?_ ?_ ?_ (by assumption) (by assumption) (by assumption) (by assumption)
            · exact far_of (by k_sizes) (by k_sizes) (by k_sizes)
            · simp only [List.length_cons]; omega
            · exact List.forall_mem_cons.mpr ⟨hv7, tks⟩
            · exact lst
        · rename Fr _ _ _ _ => FF
          rename News _ _ _ _ => NN
          rename TokV _ _ _ => tv
          rename BoxOk _ _ => bk
          have ro := row_ok tv lst (Int.fmod ↑i 4)
          generalize kms_pick _ _ _ = row at NN ro
          have ro1 := ro.1
          have ro2 := ro.2
          clear ro
          show wpAny _ _ _ _ _ _
          refine if_row (r := r) (row := row) FF NN ?_ ?_
          · k_steps
            · rename Fr _ _ _ _ => FF
              rename News _ _ _ _ => NN
              exact ⟨_, _, _, _, rfl, rfl, FF, news_dup NN (by k_mem), .inl rfl, by k_sizes, by k_sizes⟩
            · rename Fr _ _ _ _ => FF
              rename News _ _ _ _ => NN
              exact ⟨_, _, _, _, rfl, rfl, FF, NN, .inr rfl, by k_sizes, by k_sizes⟩
          · intro l ol h7 tk7 F7 N7 hol lr l190
            clear FF NN
            (try dsimp only at N7)
            (try dsimp only)
            k_steps
            show wpAny _ _ _ _ _ _
            rename Fr _ _ _ _ => FF
            rename News _ _ _ _ => NN
            refine use_push (vs := row) (us := ovs) rfl rfl Bi FF NN Xi TTi (by k_mem) (.head _) hol ro2 (by k_mem) (by k_mem) (fun _ => by k_upd) l2 l3 (by show @LT.lt Nat _ _ _; k_sizes) (by show @LT.lt Nat _ _ _; k_sizes) (by k_sizes) (by k_sizes) (by k_sizes) (by k_sizes) ?_
            intro h8 tk8 k8 F8 N8
            clear FF NN
            (try dsimp only at N8)
            (try dsimp only)
            k_steps
            show wpAny _ _ _ _ _ _
            rename Fr _ _ _ _ => FF
            rename News _ _ _ _ => NN
            refine kla_eval rfl ?_
            refine lam_slot (Far s.heap.objs.size r hL.objs.size) FF NN TTi (by kn_code) rfl (by k_updF) s1 (by k_mem) f2 (fun c' l => by k_lt l; exact far_of (by k_sizes) (by k_sizes) (by k_sizes)) rfl ?_
            intro f9 c' oc' ctv ps' h9 tk9 F9 N9 S9 R9 oth P9 l9
            have s2' := oth posB qualL c2 oc2 (by decide) s2
            clear FF NN
            (try dsimp only at N9)
            (try dsimp only)
            k_steps
            show wpAny _ _ _ _ _ _
            rename Fr _ _ _ _ => FF
            rename News _ _ _ _ => NN
            refine use_refused_true rfl rfl Bi FF NN Xi TTi XB TB Dki (FnAt.of NN (.head _)) (by k_sizes) (by k_sizes) ?_ ?_
            · intro b' o' s' R' H' kp hE
              have gF := kp _ _ (NN (s.heap.objs.size + 1 + 1, _) (by k_mem)).1
              have gL := kp _ _ (NN (s.heap.objs.size + 1 + 1 + 1, _) (by k_mem)).1
              have gT := kp _ _ (NN (s.heap.objs.size + 1 + 1 + 1 + 1, _) (by k_mem)).1
              have IG : PySem.W.InstAt s'.heap x (instObj 135 dx) 135 (some (feedDict w.params r Do t1 t2)) := ⟨kp _ _ (NN (x, _) (by k_mem)).1, rfl, rfl, kp _ _ (NN (dx, _) (by k_mem)).1⟩
              dsimp only at gF gL gT
              have tv' := (tv.keeps (fun b o e => FF.keep _ _ (Bi.stays _ _ e))).keeps kp
              obtain ⟨vs', t', e1, e2⟩ := R9
              have fm0 : (0 : Int) ≤ Int.fmod ↑i 10 := Int.fmod_nonneg_of_pos _ (by decide)
              have fm1 : Int.fmod ↑i 10 < 10 := Int.fmod_lt_of_pos _ (by decide)
              refine enterE H' (kp _ _ (NN _ (.head _)).1) ⟨c', oc', vs', t', rfl, kp _ _ (NN _ (.tail _ (.head _))).1, e1, e2⟩ (by k_sizes) rfl ?_ rfl rfl rfl (by decide)
              clear NN FF TTi Xi Bi
              intro gx Lx hx egx eLx Fx Nx Bx Xx Tx
              subst egx eLx
              (try dsimp only); (try k_fold)
              k_steps
              show wpAny _ _ _ _ _ _
              rename Fr _ _ _ _ => FW
              rename News _ _ _ _ => NW
              rename _ ∈ badVs => bv
              refine use_push_bad (k := 1) rfl rfl Bx FW Xx Tx (.inl (isList_news NW (.head _))) rfl bv ?_ (by k_sizes) (by k_sizes) fun h' tk e fl => ?_
              · intro j u hj hu
                obtain rfl : j = 0 := by omega
                simp only [List.getElem?_cons_zero, Option.some.injEq] at hu
                subst hu
                exact ⟨_, tv'.keeps FW.keep⟩
              · exact leaveOn rfl Bx FW fl fun h' fl' => hE _ _ _ fl'
            · intro h10 tk10 g10 T10 F10 N10 B10 X10 TT10 D10
              (try dsimp only)
              clear FF NN Bi Xi TTi Dki
              k_steps
              rename Fr _ _ _ _ => FF
              rename News _ _ _ _ => NN
              refine inv_close (ovs := row ++ ovs) rfl rfl rfl (turni.trans T10) B10 X10 TT10 D10 FF NN rfl rfl rfl (by k_mem) (by k_mem) (by k_mem) (by k_mem) (by k_mem) (by k_mem) (by k_mem) (by k_mem) (by k_mem) (by k_mem) (by k_mem) (by k_mem) (by k_mem) (by k_mem) (by k_mem) bk (by k_sizes) S9 s2' ?_ P9 f3 ?_ ?_ ?_ (by assumption) (by assumption) (by assumption) (by assumption)
              · exact far_of (by k_sizes) (by k_sizes) (by k_sizes)
              · simp only [List.length_append]; omega
              · exact List.forall_mem_append.mpr ⟨ro2, tks⟩
              · exact lst
        · rename Fr _ _ _ _ => FF
          rename News _ _ _ _ => NN
          refine inv_close rfl rfl rfl turni Bi Xi TTi Dki FF NN rfl rfl rfl (by k_mem) (by k_mem) (by k_mem) (by k_mem) (by k_mem) (by k_mem) (by k_mem) (by k_mem) (by k_mem) (by k_mem) (by k_mem) (by k_mem) (by k_mem) (by k_mem) (by k_mem) (by assumption) (by k_sizes) s1 s2 ?_ f2 f3 ?_ ?_ ?_ (by assumption) (by assumption) (by assumption) (by assumption)
          · exact f1
          · exact hov
          · exact tks
          · exact lst
        · rename Fr _ _ _ _ => FF
          rename News _ _ _ _ => NN
          rename TokV _ _ _ => tv
          rename BoxOk _ _ => bk
          show wpAny _ _ _ _ _ _
          refine use_is_outer (vs := [v1, v2]) (qs := [p1, p2]) rfl rfl Bi FF NN Xi TTi (by k_mem) (by k_mem) (by k_mem) rfl ⟨tv1, tv2, trivial⟩ tv l2 (by show @LT.lt Nat _ _ _; k_sizes) (by k_sizes) (by k_sizes) ?_
          intro h8 tk8 F8 N8
          generalize eb : ((List.map tokD [p1, p2]).any fun y => PyData.eqv y (tokD _)) = b8
          clear FF NN
          (try dsimp only)
          k_steps
          show wpAny _ _ _ _ _ _
          refine in_outers_news (vs := [v1, v2]) (qs := [p1, p2]) Bi F8 N8 (by k_mem) rfl ⟨tv1, tv2, trivial⟩ tv (room2 hu (by decide)) ?_
          rw [eb]
          k_steps
          show wpAny _ _ _ _ _ _
          rename Fr _ _ _ _ => FF
          rename News _ _ _ _ => NN
          refine kla_eval rfl ?_
          refine lam_slot (Far s.heap.objs.size r hL.objs.size) FF NN TTi (by kn_code) rfl (by k_updF) s2 (by k_mem) f3 (fun c' l => by k_lt l; exact far_of (by k_sizes) (by k_sizes) (by k_sizes)) rfl ?_
          intro f9 c' oc' ctv ps' h9 tk9 F9 N9 S9 R9 oth P9 l9
          have s1' := oth posP qualL c1 oc1 (by decide) s1
          clear FF NN
          (try dsimp only at N9)
          (try dsimp only)
          k_steps
          show wpAny _ _ _ _ _ _
          rename Fr _ _ _ _ => FF
          rename News _ _ _ _ => NN
          refine use_refused_true rfl rfl Bi FF NN Xi TTi XB TB Dki (FnAt.of NN (.head _)) (by k_sizes) (by k_sizes) ?_ ?_
          · intro b' o' s' R' H' kp hE
            have gF := kp _ _ (NN (s.heap.objs.size + 1 + 1, _) (by k_mem)).1
            have gL := kp _ _ (NN (s.heap.objs.size + 1 + 1 + 1, _) (by k_mem)).1
            have gT := kp _ _ (NN (s.heap.objs.size + 1 + 1 + 1 + 1, _) (by k_mem)).1
            have IG : PySem.W.InstAt s'.heap x (instObj 135 dx) 135 (some (feedDict w.params r Do t1 t2)) := ⟨kp _ _ (NN (x, _) (by k_mem)).1, rfl, rfl, kp _ _ (NN (dx, _) (by k_mem)).1⟩
            dsimp only at gF gL gT
            obtain ⟨vs', t', e1, e2⟩ := R9
            have fm0 : (0 : Int) ≤ Int.fmod ↑i 10 := Int.fmod_nonneg_of_pos _ (by decide)
            have fm1 : Int.fmod ↑i 10 < 10 := Int.fmod_lt_of_pos _ (by decide)
            refine enterE H' (kp _ _ (NN _ (.head _)).1) ⟨c', oc', vs', t', rfl, kp _ _ (NN _ (.tail _ (.head _))).1, e1, e2⟩ (by k_sizes) rfl ?_ rfl rfl rfl (by decide)
            clear NN FF TTi Xi Bi
            intro gx Lx hx egx eLx Fx Nx Bx Xx Tx
            subst egx eLx
            (try dsimp only); (try k_fold)
            k_steps
            show wpAny _ _ _ _ _ _
            rename Fr _ _ _ _ => FW
            rename _ ∈ badVs => bv
            refine use_back_bad rfl rfl Bx FW Xx Tx bv (by k_sizes) (by k_sizes) fun h' tk e fl => ?_
            exact leaveOn rfl Bx FW fl fun h' fl' => hE _ _ _ fl'
          · intro h10 tk10 g10 T10 F10 N10 B10 X10 TT10 D10
            (try dsimp only)
            clear FF NN Bi Xi TTi Dki
            k_steps
            rename Fr _ _ _ _ => FF
            rename News _ _ _ _ => NN
            refine inv_close rfl rfl rfl (turni.trans T10) B10 X10 TT10 D10 FF NN rfl rfl rfl (by k_mem) (by k_mem) (by k_mem) (by k_mem) (by k_mem) (by k_mem) (by k_mem) (by k_mem) (by k_mem) (by k_mem) (by k_mem) (by k_mem) (by k_mem) (by k_mem) (by k_mem) bk (by k_sizes) s1' S9 ?_ f2 P9 ?_ ?_ ?_ (by assumption) (by assumption) (by assumption) (by assumption)
            · exact f1
            · exact hov
            · exact tks
            · exact lst
      · intro s1 h1 HI hx
        obtain ⟨hi, tki, rfl, gi, Di, ovs, kD, kr, lv, f, obi, ps, oTi, oLi, oFi, oBi, c1, c2, oc1, oc2, S⟩ := HI
        obtain ⟨turni, Bi, Xi, TTi, Dki, FF, NN, hbi, s1, s2, f1, f2, f3, len, tks, lst, ⟨vT, cT⟩, ⟨vL, cL⟩, cF, cB⟩ := S
        have f1b : @Ne Nat Di r := f1.2.1
        have f1c : @Ne Nat Di hL.objs.size := f1.2.2
        obtain ⟨FD, ND⟩ := drop_news (news := [(Di, listOf ovs.toArray kD), (r, listOf ovs.reverse.toArray kr), (tA, tupA tk6 (tk6 + 1) 0), (x, instObj 135 dx), (dx, feedDict w.params r Do t1 t2), (s.heap.objs.size + 1 + 1, oFi), (box, obi), (190, tabObj ps)]) FF NN ⟨_, .tail _ (.tail _ (.head _))⟩ hx (by
          refine List.forall_mem_cons.mpr ⟨⟨by k_mem, by show @Ne Nat _ _; k_ne⟩, List.forall_mem_cons.mpr ⟨⟨by k_mem, by show @Ne Nat _ _; k_ne⟩, List.forall_mem_cons.mpr ⟨⟨by k_mem, by show @Ne Nat _ _; k_ne⟩, List.forall_mem_cons.mpr ⟨⟨by k_mem, by show @Ne Nat _ _; k_ne⟩, List.forall_mem_cons.mpr ⟨⟨by k_mem, by show @Ne Nat _ _; k_ne⟩, List.forall_mem_cons.mpr ⟨⟨by k_mem, by show @Ne Nat _ _; k_ne⟩, List.forall_mem_cons.mpr ⟨⟨by k_mem, by show @Ne Nat _ _; k_ne⟩, List.forall_mem_cons.mpr ⟨⟨by k_mem, by show @Ne Nat _ _; k_ne⟩, fun _ h => nomatch h⟩⟩⟩⟩⟩⟩⟩⟩)
        clear FF NN F2 N2 FL NL B X T
        (try dsimp only)
        k_steps
        rename News _ _ _ _ => NN
        rename Fr _ _ _ _ => FF
        exact hR _ _ _ _ ⟨gi, eg ▸ turni, FF.keep⟩ (NN (190, _) (by k_mem)).1 (NN (box, _) (by k_mem)).1
      · refine inv_close (i := 0) (ps := #[]) rfl rfl rfl KtsTurn.refl B X T Dg (FL.push _) (NL.push FL _) rfl rfl rfl (by k_mem) (by k_mem) (.head _) (by k_mem) (by k_mem) (by k_mem) (by k_mem) (c1 := Do) (by k_mem) (c2 := Do) (by k_mem) (by k_mem) (by k_mem) (by k_mem) (by k_mem) (by k_mem) (by k_mem) hB5 (by k_sizes) ⟨trivial, .inl rfl⟩ ⟨trivial, .inl rfl⟩ ?_ ?_ ?_ ?_ ?_ (.inr rfl) q1 q2 dFx q4
        · exact ⟨by show @LT.lt Nat _ _ _; k_sizes, by show @Ne Nat _ _; k_ne, by show @Ne Nat _ _; k_ne⟩
        · exact ⟨by show @LT.lt Nat _ _ _; k_sizes, by show @Ne Nat _ _; k_ne, by show @Ne Nat _ _; k_ne⟩
        · exact ⟨by show @LT.lt Nat _ _ _; k_sizes, by show @Ne Nat _ _; k_ne, by show @Ne Nat _ _; k_ne⟩
        · omega
        · exact fun v hv => .inl (hF v hv)
end
theorem fresh_SqP1 : True := by w_top off; trivial
section
variable {prog : Program} {w : World} {A : Around} {E : Value → Shared → Prop} {s : Shared} {env : Env} {h₀ : Heap} {target : PySem.Expr} {body : List Stmt} {Q : Flow → Shared → Prop}
theorem turns_base {I l : Addr} {vs : List Value} {oi : Obj} {m₀ : Str → Option Value} {news : List (Addr × Obj)} {St : Nat → Heap → Prop} {h1 : Heap} (J : Nat → (Str → Option Value) → Prop)
    (W : Walks prog w A I [I, l] [I] vs.length (fun i v => vs[i]? = some v) St) (hgo : ∀ i v (s : Shared) (Q : Unit → Shared → Prop) (E : Value → Shared → Prop), St i s.heap → Q () s → wpAny (model prog w) A (letOwnedTupleGo target (.ref I) v) Q E s)
    (hol : ∃ o, h₀.get? l = some o) (hI : I = s.heap.objs.size) (hh1 : h1 = s.heap.push oi) (hst : St 0 h1)
    (F : Fr h₀ env.locals s.heap m₀) (N : News h₀ env.locals s.heap news) (hj : J 0 m₀)
    (turn : ∀ i v m₁ h tk own, vs[i]? = some v → J i m₁ → Fr h₀ env.locals h m₁ → News h₀ env.locals h (own ++ news) →
      wpAny (model prog w) A (assign target env v) (fun _ s₃ => wpAny (model prog w) A (execs body env) (InvPost h₀ env.locals (J (i + 1)) (own ++ news) { s with heap := h, toks := tk } Q) E s₃) E { s with heap := h, toks := tk })
    (done : ∀ m₁ h tk, J vs.length m₁ → Fr h₀ env.locals h m₁ → News h₀ env.locals h news → Q .next { s with heap := h, toks := tk }) :
    TurnsAt prog w A h₀ env target body Q E (.ref I) { s with heap := h1 } := by
  obtain ⟨ol, hol⟩ := hol
  have hlt : l < h₀.objs.size := Heap.lt_size hol
  subst hI hh1
  let J' : Nat → (Str → Option Value) → List (Addr × Obj) → Prop := fun i m₁ news₁ => news₁ = news ∧ J i m₁
  refine ⟨_, _, _, vs.length, _, _, _, m₀, news, J', rfl, KTurns.ofWalks W hgo, ?_, ?_, ?_, hst, F.push _, (fun p hp => ⟨Heap.get?_push_of_some _ (N p hp).1, (N p hp).2⟩), ⟨rfl, hj⟩, ?_, ?_⟩
  · intro hm
    rcases List.mem_cons.mp hm with e | hm
    · exact absurd F.ns.lt (e ▸ Nat.lt_irrefl _)
    · exact absurd (Nat.lt_of_lt_of_le hlt F.above) ((List.mem_singleton.mp hm) ▸ Nat.lt_irrefl _)
  · intro b hb
    rw [List.mem_singleton.mp hb]
    exact next_is_new F
  · intro p hp hI
    exact absurd (Heap.lt_size (N p hp).1) ((List.mem_singleton.mp hI) ▸ Nat.lt_irrefl _)
  · rintro i v m₁ news₁ hh' tk' own hin hP ⟨rfl, hJ⟩ hoff _ _ _ _ F₁ N₁
    refine wpAny_mono (turn i v m₁ hh' tk' own hP hJ F₁ N₁) (fun _ s₃ h₃ => wpAny_mono h₃ (fun f s₂ p => ?_) fun _ _ e => e) fun _ _ e => e
    have fin : InvEnd h₀ env.locals (J (i + 1)) (own ++ news₁) { s with heap := hh', toks := tk' } s₂ → LoopStepU h₀ env.locals [s.heap.objs.size] own (J' (i + 1)) { s with heap := hh', toks := tk' } .next s₂ := by
      rintro ⟨h', tk, m', news', e, F', N', hn, hm⟩
      exact ⟨rfl, h', tk, m', news₁, e, F', fun p hp => N' p (hn p hp), hoff, rfl, hm⟩
    cases f with
    | ret v => exact .ret p
    | brk => exact .brk p
    | next => exact .next (fin p)
    | cont => exact .cont (fin p)
  · rintro h' tk m' news' F' N' _ ⟨rfl, hJ⟩
    exact done m' h' tk hJ F' N'
theorem turns_seq {l : Addr} {vs : List Value} {m₀ : Str → Option Value} {news : List (Addr × Obj)} (J : Nat → (Str → Option Value) → Prop)
    (hh : A.handled = none) (hl : SeqAt h₀ l vs) (F : Fr h₀ env.locals s.heap m₀) (N : News h₀ env.locals s.heap news) (hj : J 0 m₀)
    (turn : ∀ i v m₁ h tk own, vs[i]? = some v → J i m₁ → Fr h₀ env.locals h m₁ → News h₀ env.locals h (own ++ news) →
      wpAny (model prog w) A (assign target env v) (fun _ s₃ => wpAny (model prog w) A (execs body env) (InvPost h₀ env.locals (J (i + 1)) (own ++ news) { s with heap := h, toks := tk } Q) E s₃) E { s with heap := h, toks := tk })
    (done : ∀ m₁ h tk, J vs.length m₁ → Fr h₀ env.locals h m₁ → News h₀ env.locals h news → Q .next { s with heap := h, toks := tk }) :
    wpAny (model prog w) A (pyIter (.ref l)) (fun it s₂ => TurnsAt prog w A h₀ env target body Q E it s₂) E s := by
  have hne : ∀ o, h₀.get? l = some o → l ≠ s.heap.objs.size := fun o hol => Nat.ne_of_lt (Nat.lt_trans (Nat.lt_of_lt_of_le (Heap.lt_size hol) F.above) F.ns.lt)
  rcases hl with hl | hl
  · have hls : s.heap.IsList l vs.toArray := hl.at fun o e => F.keep l o e
    obtain ⟨ol, hol, _⟩ := id hl
    refine wpAny_pyIter_list hls ?_
    have W := Walks.list (prog := prog) (w := w) hh s.heap.objs.size l (hne _ hol) vs.toArray
    simp only [List.size_toArray, List.getElem?_toArray] at W
    exact turns_base J W (fun i v s Q E st q => letGo_listiter st.1 q) ⟨_, hol⟩ rfl rfl ⟨⟨_, Heap.get?_push_size _ rfl, rfl, rfl⟩, hls.at fun o e => Heap.get?_push_of_some _ e⟩ F N hj turn done
  · have hls : s.heap.IsTuple l vs.toArray := hl.at fun o e => F.keep l o e
    obtain ⟨ol, hol, _⟩ := id hl
    refine wpAny_pyIter_tuple hls ?_
    have W := Walks.tuple (prog := prog) (w := w) hh s.heap.objs.size l (hne _ hol) vs.toArray
    simp only [List.size_toArray, List.getElem?_toArray] at W
    exact turns_base J W (fun i v s Q E st q => letGo_tupleiter st.1 q) ⟨_, hol⟩ rfl rfl ⟨⟨_, Heap.get?_push_size _ rfl, rfl, rfl⟩, hls.at fun o e => Heap.get?_push_of_some _ e⟩ F N hj turn done
end
noncomputable def bal (d : Int) : List (Int × Int) → Bool
  | [] => d == 0
  | p :: r => if p.1 = 1 then bal (d + 1) r else if p.1 = 2 then (if d - 1 < 0 then false else bal (d - 1) r) else bal d r
theorem TokL.get {h : Heap} : ∀ {vs : List Value} {ps : List (Int × Int)} {i : Nat} {v : Value}, TokL h vs ps → vs[i]? = some v → ∃ p, ps[i]? = some p ∧ TokV h v p ∧ ps.drop i = p :: ps.drop (i + 1)
  | [], _, _, _, _, e => by simp at e
  | _ :: _, [], _, _, t, _ => t.elim
  | _ :: vs, p :: ps, 0, _, t, e => by
    simp only [List.getElem?_cons_zero, Option.some.injEq] at e
    subst e
    exact ⟨p, rfl, t.1, rfl⟩
  | _ :: vs, p :: ps, i + 1, v, t, e => by
    simp only [List.getElem?_cons_succ] at e
    obtain ⟨q, e1, e2, e3⟩ := TokL.get t.2 e
    exact ⟨q, by simpa using e1, e2, by simpa using e3⟩
theorem TokL.len {h : Heap} : ∀ {vs : List Value} {ps : List (Int × Int)}, TokL h vs ps → vs.length = ps.length
  | [], [], _ => rfl
  | [], _ :: _, t => t.elim
  | _ :: _, [], t => t.elim
  | _ :: _, _ :: _, t => by simp [TokL.len t.2]
noncomputable def m1 (n : Str) (v : Value) (f : Str → Option Value) : Str → Option Value := fun z => if z = n then some v else f z
theorem m1_self {n : Str} {v : Value} {f : Str → Option Value} (h : f n = some v) : f = m1 n v f := by
  funext z
  unfold m1
  by_cases a : z = n
  · rw [if_pos a, a]; exact h
  · rw [if_neg a]
local macro_rules | `(tactic| walk_at "exec For Tuple Name cons nil") => `(tactic| (k_here; (rename Fr _ _ _ _ => lF'); (with_unfolding_all refine' For_turns lF' ?_); k_whole))
section
variable {w : World} {mean : ExcName → Option Value} {mg mb : Str → Option Value} {dp un : Nat} {gd : Option (List Code)} {base g : Heap} {outer : List Env} {s : Shared} {R : Result → Shared → Prop}
theorem balanced_ok {l : Addr} {vs : List Value} {ps : List (Int × Int)} (H : At w mean mg mb dp un gd base outer s.heap) (hdd : dp + 6 < recursionLimit) (hu : un + 40 < cLine) (hl : SeqAt s.heap l vs) (ht : TokL s.heap vs ps)
   (hR : ∀ h' tk, (∀ b o, s.heap.get? b = some o → h'.get? b = some o) → R (.ok (.ret (.bool (bal 0 ps)))) { s with heap := h', toks := tk }) :
   codeAny (model prg w) (Arr dp un gd outer) (.call (.ref 74) ⟨[.ref l], []⟩) R s := by
  obtain ⟨hB, hK, hT⟩ := id H
  k_dflt (refine' enter0 (binds := [(Str.ofString "tokens", .ref l)]) ?k1 ?k6 ?k7 ?k8 ?k9 ?kB ?_ ?c2 ?c3 ?c4 ?c5; (case k1 => assumption); (case k6 => k_is); (case k7 => k_is); (case k8 => ktr_room); (case k9 => exact BindsTo.of_eq rfl); (case c5 => decide); (case kB => exact locs rfl); (case c2 => exact rfl); (case c3 => exact rfl); (case c4 => exact rfl); k_whole)
  intro g L' h1 eg eL F N B X T
  subst eg eL
  (try dsimp only); (try k_fold)
  k_steps
  refine turns_seq (fun i m => ∃ d t, m (Str.ofString "depth") = some (.int d t) ∧ bal d (ps.drop i) = bal 0 ps) rfl hl (by assumption) (by assumption) ⟨_, _, rfl, rfl⟩ ?_ ?_
  · intro i v m₁ h tk own hv HJ F2 N2
    show wpAny _ _ _ _ _ _
    k_fold
    obtain ⟨d, t, hm, hb⟩ := HJ
    obtain ⟨p, hp, tp, ed⟩ := ht.get hv
    obtain ⟨a, u1, u2, rfl, it, ok⟩ := tp
    rw [m1_self hm] at F2
    rw [ed] at hb
    k_steps
    all_goals (try rename_i hq)
    all_goals (first
      | (exfalso; omega)
      | (refine InvEnd.intro (by assumption) (by assumption) (fun _ h => h) ⟨_, _, rfl, ?_⟩; rw [← hb]; (simp [bal, *]; done))
      | (have e : bal 0 ps = false := by (rw [← hb]; simp [bal, *])
         rw [e] at hR
         exact hR _ _ (by assumption : Fr _ _ _ _).keep))
  · intro m₁ h tk HJ F2 N2
    obtain ⟨d, t, hm, hb⟩ := HJ
    rw [m1_self hm] at F2
    rw [ht.len, List.drop_length] at hb
    (try dsimp only)
    k_steps
    rw [← hb] at hR
    exact hR _ _ F2.keep
end
theorem fresh_SqP2 : True := by w_top off; trivial
noncomputable def balI (d : Int) : List Int → Bool
  | [] => d == 0
  | c :: r => if c = 1 then balI (d + 1) r else if c = 2 then (if d - 1 < 0 then false else balI (d - 1) r) else balI d r
theorem bal_balI : ∀ (ps : List (Int × Int)) (d : Int), bal d ps = balI d (ps.map (·.1))
  | [], d => rfl
  | p :: r, d => by simp only [bal, balI, List.map_cons, bal_balI r]
noncomputable def isB (c : Int) : Bool := c == 1 || c == 2
theorem balI_filter : ∀ (cs : List Int) (d : Int), balI d (cs.filter isB) = balI d cs
  | [], d => rfl
  | c :: r, d => by
    by_cases h1 : c = 1
    · subst h1
      rw [List.filter_cons_of_pos (by decide)]
      simp only [balI, if_true, balI_filter r]
    · by_cases h2 : c = 2
      · subst h2
        rw [List.filter_cons_of_pos (by decide)]
        simp only [balI, balI_filter r]
      · rw [List.filter_cons_of_neg (by simp [isB, h1, h2])]
        simp only [balI, if_neg h1, if_neg h2, balI_filter r]
theorem balI_step (b : List Int) : ∀ (a : List Int) (d : Int), 0 ≤ d → balI d (a ++ 1 :: 2 :: b) = balI d (a ++ b)
  | [], d, hd => by
    show (if (1 : Int) = 1 then (if (2 : Int) = 1 then _ else if (2 : Int) = 2 then (if d + 1 - 1 < 0 then false else balI (d + 1 - 1) b) else _) else _) = balI d b
    rw [if_pos rfl, if_neg (by decide), if_pos rfl, Int.add_sub_cancel, if_neg (Int.not_lt.mpr hd)]
  | c :: r, d, hd => by
    show (if c = 1 then balI (d + 1) (r ++ 1 :: 2 :: b) else if c = 2 then (if d - 1 < 0 then false else balI (d - 1) (r ++ 1 :: 2 :: b)) else balI d (r ++ 1 :: 2 :: b)) =
      (if c = 1 then balI (d + 1) (r ++ b) else if c = 2 then (if d - 1 < 0 then false else balI (d - 1) (r ++ b)) else balI d (r ++ b))
    rw [balI_step b r (d + 1) (Int.add_nonneg hd (by decide)), balI_step b r d hd]
    by_cases h : d - 1 < 0
    · rw [if_pos h, if_pos h]
    · rw [if_neg h, if_neg h, balI_step b r (d - 1) (Int.not_lt.mp h)]
def NoPair (cs : List Int) : Prop := ∀ i : Nat, ¬ (cs[i]? = some 1 ∧ cs[i + 1]? = some 2)
theorem NoPair.tail {c : Int} {cs : List Int} (h : NoPair (c :: cs)) : NoPair cs := fun i ⟨h1, h2⟩ => h (i + 1) ⟨by simpa using h1, by simpa using h2⟩
theorem ones_false : ∀ (cs : List Int) (d : Int), 0 ≤ d → (∀ c ∈ cs, c = 1 ∨ c = 2) → NoPair (1 :: cs) → balI d (1 :: cs) = false
  | [], d, hd, _, _ => by
    show (if (1 : Int) = 1 then (d + 1 == 0) else _) = false
    rw [if_pos rfl]
    exact beq_false_of_ne (by k_sizes)
  | c :: r, d, hd, hc, hn => by
    rcases hc c (.head _) with rfl | rfl
    · show (if (1 : Int) = 1 then balI (d + 1) (1 :: r) else _) = false
      rw [if_pos rfl]
      exact ones_false r (d + 1) (by k_sizes) (fun x hx => hc x (.tail _ hx)) hn.tail
    · exact absurd ⟨rfl, rfl⟩ (hn 0)
theorem balI_done {cs : List Int} (hc : ∀ c ∈ cs, c = 1 ∨ c = 2) (hn : NoPair cs) : balI 0 cs = true ↔ cs = [] := by
  constructor
  · intro h
    cases cs with
    | nil => rfl
    | cons c r =>
      exfalso
      rcases hc c (.head _) with rfl | rfl
      · rw [ones_false r 0 (by decide) (fun x hx => hc x (.tail _ hx)) hn] at h; cases h
      · have : balI 0 (2 :: r) = false := by
          show (if (2 : Int) = 1 then _ else if (2 : Int) = 2 then (if (0 : Int) - 1 < 0 then false else _) else _) = false
          rw [if_neg (by decide), if_pos rfl, if_pos (by decide)]
        rw [this] at h; cases h
  · rintro rfl; rfl
theorem TokV.unique {h : Heap} {v : Value} {p q : Int × Int} (x : TokV h v p) (y : TokV h v q) : p = q := by
  obtain ⟨a, t1, t2, rfl, ⟨o, ho, _, n, hd⟩, _⟩ := x
  obtain ⟨a', t1', t2', e, ⟨o', ho', _, n', hd'⟩, _⟩ := y
  cases e
  rw [ho] at ho'
  cases ho'
  rw [hd] at hd'
  have e2 : #[Value.int p.1 t1, .int p.2 t2] = #[.int q.1 t1', .int q.2 t2'] := by injection hd'
  simp only [Array.mk.injEq, List.cons.injEq, Value.int.injEq] at e2
  exact Prod.ext e2.1.1 e2.2.1.1
noncomputable abbrev intsV (rs : List (Int × Tok)) : List Value := rs.map fun r => .int r.1 r.2
section
variable {prog : Program} {w : World} {A : Around} {E : Value → Shared → Prop} {env : Env} {g : Heap} {L : Addr} {m : Str → Option Value} {news : List (Addr × Obj)}
noncomputable def pB (g : Heap) (v : Value) : Bool := @decide (∃ q, TokV g v q ∧ isB q.1 = true) (Classical.propDecidable _)
theorem pB_eq {g : Heap} {v : Value} {q : Int × Int} (t : TokV g v q) : pB g v = isB q.1 := by
  unfold pB
  cases e : isB q.1 with
  | true => exact @decide_eq_true _ (Classical.propDecidable _) ⟨q, t, e⟩
  | false =>
    refine @decide_eq_false _ (Classical.propDecidable _) fun ⟨q', t', e'⟩ => ?_
    rw [t.unique t', e'] at e; cases e
def fB (fe : Int → Int) (g : Heap) (v y : Value) : Prop := ∃ q t, TokV g v q ∧ y = .int (fe q.1) t
theorem paired_rs {fe : Int → Int} {g : Heap} : ∀ {vs : List Value} {ps : List (Int × Int)} {ys : List Value}, TokL g vs ps → Paired (fB fe g) (vs.filter (pB g)) ys → ∃ rs : List (Int × Tok), ys = intsV rs ∧ rs.map (·.1) = ((ps.map (·.1)).filter isB).map fe
  | [], [], _, _, h => by
    cases h
    exact ⟨[], rfl, rfl⟩
  | [], _ :: _, _, t, _ => t.elim
  | _ :: _, [], _, t, _ => t.elim
  | v :: vs, p :: ps, ys, t, h => by
    by_cases e : isB p.1 = true
    · rw [List.filter_cons_of_pos (by rw [pB_eq t.1]; exact e)] at h
      cases h with
      | cons a b =>
        obtain ⟨q, tk, tq, rfl⟩ := a
        obtain ⟨rs, e1, e2⟩ := paired_rs t.2 b
        refine ⟨(fe q.1, tk) :: rs, by rw [e1]; rfl, ?_⟩
        rw [List.map_cons, List.map_cons, List.filter_cons_of_pos e, List.map_cons, e2, tq.unique t.1]
    · rw [List.filter_cons_of_neg (by rw [pB_eq t.1]; exact e)] at h
      obtain ⟨rs, e1, e2⟩ := paired_rs t.2 h
      exact ⟨rs, e1, by rw [e2, List.map_cons, List.filter_cons_of_neg e]⟩
theorem quiet_of {s : Shared} {fe : Int → Int} {elt c : PySem.Expr} {x : Str} {scope : Scope} {cl : List (Str × Addr)} {vs : List Value} {ps : List (Int × Int)} {wr : List Addr}
    (ht : TokL g vs ps) (hg : ∀ b o, g.get? b = some o → b ∉ wr ∧ s.heap.get? b = some o) (above : g.objs.size ≤ s.heap.objs.size)
    (htest : ∀ (C a : Addr) (q : Int × Int) (t1 t2 : Tok) (s₃ : Shared) m₃ E', IsTup g a #[.int q.1 t1, .int q.2 t2] → okTok q.1 q.2 → Fr g C s₃.heap m₃ → m₃ x = some (.ref a) →
      wpAny (model prog w) A (isTrue c (compEnvC scope cl C env) (eval c (compEnvC scope cl C env))) (fun ok s₄ => ok = isB q.1 ∧ Keeps s₃ s₄) E' s₃)
    (helt : ∀ (C a : Addr) (q : Int × Int) (t1 t2 : Tok) (s₃ : Shared) m₃ E', IsTup g a #[.int q.1 t1, .int q.2 t2] → okTok q.1 q.2 → Fr g C s₃.heap m₃ → m₃ x = some (.ref a) →
      wpAny (model prog w) A (eval elt (compEnvC scope cl C env)) (fun y s₄ => (∃ t, y = .int (fe q.1) t) ∧ Keeps s₃ s₄) E' s₃) :
    QuietOnC prog w A env scope cl x [c] elt wr (fun i v => vs[i]? = some v) (pB g) (fB fe g) s where
  tests := by
    intro C i v s₃ m₃ E' hC hP hn hm hk _
    obtain ⟨q, _, tq, _⟩ := ht.get hP
    obtain ⟨a, t1, t2, rfl, it, ok⟩ := id tq
    rw [pB_eq tq]
    exact wpAny_tests_one (htest C a q t1 t2 s₃ m₃ E' it ok ⟨hn, fun b o e => hk b o (hg b o e).1 (hg b o e).2, Nat.le_trans above hC⟩ hm)
  elt := by
    intro C i v s₃ m₃ E' hC hP _ hn hm hk _
    obtain ⟨q, _, tq, _⟩ := ht.get hP
    obtain ⟨a, t1, t2, rfl, it, ok⟩ := id tq
    refine wpAny_mono (helt C a q t1 t2 s₃ m₃ E' it ok ⟨hn, fun b o e => hk b o (hg b o e).1 (hg b o e).2, Nat.le_trans above hC⟩ hm) (fun y s₄ h => ⟨?_, h.2⟩) fun _ _ e => e
    obtain ⟨t, rfl⟩ := h.1
    exact ⟨q, t, tq, rfl⟩
theorem listIs_vs {vs us : List Value} (hl : us.length = vs.length) (h : ∀ (j : Nat) (v : Value), us[j]? = some v → vs[j]? = some v) : us = vs := by
  refine List.ext_getElem? fun j => ?_
  by_cases hj : j < us.length
  · rw [List.getElem?_eq_getElem hj]
    exact (h j _ (List.getElem?_eq_getElem hj)).symm
  · rw [List.getElem?_eq_none (Nat.le_of_not_lt hj), List.getElem?_eq_none (hl ▸ Nat.le_of_not_lt hj)]
theorem comp_pre {s : Shared} {l : Addr} {vs : List Value} {ps : List (Int × Int)} (hh : A.handled = none) (F : Fr g L s.heap m) (N : News g L s.heap news) (hl : s.heap.IsList l vs.toArray) (hlL : l ≠ L)
    {Q : Value → Shared → Prop} {fe : Int → Int} {elt c : PySem.Expr} {x : Str} {scope : Scope} {cl : List (Str × Addr)} (hL : env.locals = L) (ht : TokL g vs ps) (hn : vs.length ≤ sizeLine)
    (htest : ∀ (C a : Addr) (q : Int × Int) (t1 t2 : Tok) (s₃ : Shared) m₃ E', IsTup g a #[.int q.1 t1, .int q.2 t2] → okTok q.1 q.2 → Fr g C s₃.heap m₃ → m₃ x = some (.ref a) →
      wpAny (model prog w) A (isTrue c (compEnvC scope cl C env) (eval c (compEnvC scope cl C env))) (fun ok s₄ => ok = isB q.1 ∧ Keeps s₃ s₄) E' s₃)
    (helt : ∀ (C a : Addr) (q : Int × Int) (t1 t2 : Tok) (s₃ : Shared) m₃ E', IsTup g a #[.int q.1 t1, .int q.2 t2] → okTok q.1 q.2 → Fr g C s₃.heap m₃ → m₃ x = some (.ref a) →
      wpAny (model prog w) A (eval elt (compEnvC scope cl C env)) (fun y s₄ => (∃ t, y = .int (fe q.1) t) ∧ Keeps s₃ s₄) E' s₃)
    (h : ∀ I fp wr n P St m', Walks prog w A I fp wr n P St → n ≤ sizeLine → St 0 (s.heap.push { cls := .type "list_iterator", data := .fields #[.ref l, .int 0 0] }) → (∀ b ∈ fp, b < (s.heap.push { cls := .type "list_iterator", data := .fields #[.ref l, .int 0 0] }).objs.size) → env.locals ∉ wr →
      (s.heap.push { cls := .type "list_iterator", data := .fields #[.ref l, .int 0 0] }).Ns env.locals m' → QuietOnC prog w A env scope cl x [c] elt wr P (pB g) (fB fe g) { s with heap := s.heap.push { cls := .type "list_iterator", data := .fields #[.ref l, .int 0 0] } } →
      (∀ b o, s.heap.get? b = some o → b ∉ wr) → m' = m → (∀ (us ys : List Value), us.length = n → (∀ (j : Nat) (v : Value), us[j]? = some v → P j v) → Paired (fB fe g) (us.filter (pB g)) ys → ∃ rs : List (Int × Tok), ys = intsV rs ∧ rs.map (·.1) = ((ps.map (·.1)).filter isB).map fe) →
      Q (.ref I) { s with heap := s.heap.push { cls := .type "list_iterator", data := .fields #[.ref l, .int 0 0] } }) :
    wpAny (model prog w) A (pyIter (.ref l)) Q E s := by
  subst hL
  have hlt : l < s.heap.objs.size := by obtain ⟨_, e, _⟩ := hl; exact Heap.lt_size e
  have ni : ∀ b o, s.heap.get? b = some o → b ∉ [s.heap.objs.size] := fun b o e hb => by
    rw [List.mem_singleton.mp hb] at e; exact Nat.lt_irrefl _ (Heap.lt_size e)
  refine wpAny_pyIter_list hl ?_
  refine h s.heap.objs.size [s.heap.objs.size, l] [s.heap.objs.size] vs.toArray.size _ _ m (Walks.list hh _ l (Nat.ne_of_lt hlt) vs.toArray) (by simpa using hn) ⟨⟨_, Heap.get?_push_size _ rfl, rfl, rfl⟩, hl.at fun o e => Heap.get?_push_of_some _ e⟩ ?_ ?_ (F.push _).ns ?_ ni rfl ?_
  · intro b hb
    rw [Heap.size_push]
    rcases List.mem_cons.mp hb with rfl | hb
    · exact Nat.lt_succ_self _
    · rw [List.mem_singleton.mp hb]; exact Nat.lt_succ_of_lt hlt
  · intro hb
    rw [List.mem_singleton] at hb
    exact Nat.ne_of_lt F.ns.lt hb
  · have q := quiet_of (prog := prog) (w := w) (A := A) (env := env) (s := { s with heap := s.heap.push { cls := .type "list_iterator", data := .fields #[.ref l, .int 0 0] } }) (wr := [s.heap.objs.size]) ht
      (fun b o e => ⟨ni b o (F.keep _ _ e), Heap.get?_push_of_some _ (F.keep _ _ e)⟩) (Nat.le_trans F.above (Nat.le_trans (Nat.le_of_lt F.ns.lt) (by rw [Heap.size_push]; exact Nat.le_succ _))) htest helt
    simpa using q
  · intro us ys hl2 hP hp
    have e : us = vs := listIs_vs (by simpa using hl2) fun j v hj => by simpa using hP j v hj
    subst e
    exact paired_rs ht hp
def CompA (prog : Program) (w : World) (A : Around) (env : Env) (scope : Scope) (cl : List (Str × Addr)) (x y : Str) (c elt : PySem.Expr) (fe : Int → Int) (g : Heap) (Q : Flow → Shared → Prop) (it : Value) (s₂ : Shared) : Prop :=
  ∃ I fp wr n P St m, it = .ref I ∧ Walks prog w A I fp wr n P St ∧ n ≤ sizeLine ∧ St 0 s₂.heap ∧ (∀ b ∈ fp, b < s₂.heap.objs.size) ∧
      env.locals ∉ wr ∧ s₂.heap.Ns env.locals m ∧ QuietOnC prog w A env scope cl x [c] elt wr P (pB g) (fB fe g) s₂ ∧
      (∀ D h' tk ys (vs : List Value), s₂.heap.get? D = none → h'.IsList D ys → h'.PlainList D ys → vs.length = n → (∀ j v, vs[j]? = some v → P j v) → Paired (fB fe g) (vs.filter (pB g)) ys.toList →
        h'.Ns env.locals (fun z => if z = y then some (.ref D) else m z) → (∀ b o, b ≠ env.locals → b ∉ wr → s₂.heap.get? b = some o → h'.get? b = some o) → Q .next { s₂ with heap := h', toks := tk })
def CompV (prog : Program) (w : World) (A : Around) (env : Env) (scope : Scope) (cl : List (Str × Addr)) (x : Str) (c elt : PySem.Expr) (fe : Int → Int) (g : Heap) (Q : Value → Shared → Prop) (it : Value) (s₂ : Shared) : Prop :=
  ∃ I fp wr n P St, it = .ref I ∧ Walks prog w A I fp wr n P St ∧ n ≤ sizeLine ∧ St 0 s₂.heap ∧ (∀ b ∈ fp, b < s₂.heap.objs.size) ∧
      QuietOnC prog w A env scope cl x [c] elt wr P (pB g) (fB fe g) s₂ ∧
      (∀ D h' tk ys (vs : List Value), s₂.heap.get? D = none → h'.IsList D ys → h'.PlainList D ys → vs.length = n → (∀ j v, vs[j]? = some v → P j v) → Paired (fB fe g) (vs.filter (pB g)) ys.toList →
        (∀ b o, b ∉ wr → s₂.heap.get? b = some o → h'.get? b = some o) → Q (.ref D) { s₂ with heap := h', toks := tk })
theorem Assign_compF {s : Shared} (fe : Int → Int) (g : Heap) {elt iter c : PySem.Expr} {x y : Str} {px py : Pos} {scope : Scope} {cl : List (Str × Addr)} {pos spos : Pos} {Q : Flow → Shared → Prop}
    (hsw : swapsWith (.ListComp elt [⟨.Name x px, iter, [c], 0⟩] scope pos) (some (.Name y py)) spos.line env = pure true)
    (hclos : closureFor scope env = pure cl) (hcell : ∀ z ∈ scope.names, z.2 ≠ .cell) (hkind : scope.kind = .function)
    (hnames : ∀ z ∈ scope.names, z.2 = .local → scope.names.lookup z.1 = some .local) (hx : scope.names.lookup x = some .local)
    (hy : env.kindOf y = some .local) (hp : (env.scope.kind == .class || (env.scope.kind == .module && env.locals != env.globals)) = false)
    (h : wpAny (model prog w) A (eval iter env) (fun xv s₁ => wpAny (model prog w) A (pyIter xv) (CompA prog w A env scope cl x y c elt fe g Q) E s₁) E s)
    (hs : ∀ x, foldedSetIterable iter env x = pure x) :
    wpAny (model prog w) A (exec (.Assign [.Name y py] (.ListComp elt [⟨.Name x px, iter, [c], 0⟩] scope pos) spos) env) Q E s :=
  wpAny_Assign_ListComp_free (pB g) (fB fe g) hsw hclos hcell hkind hnames hx hy hp h hs
theorem eval_compF {s : Shared} (fe : Int → Int) (g : Heap) {elt iter c : PySem.Expr} {x : Str} {px : Pos} {scope : Scope} {cl : List (Str × Addr)} {pos : Pos} {Q : Value → Shared → Prop}
    (hclos : closureFor scope env = pure cl) (hcell : ∀ z ∈ scope.names, z.2 ≠ .cell) (hkind : scope.kind = .function)
    (hnames : ∀ z ∈ scope.names, z.2 = .local → scope.names.lookup z.1 = some .local) (hx : scope.names.lookup x = some .local)
    (h : wpAny (model prog w) A (eval iter env) (fun xv s₁ => wpAny (model prog w) A (pyIter xv) (CompV prog w A env scope cl x c elt fe g Q) E s₁) E s)
    (hs : ∀ x, foldedSetIterable iter env x = pure x) :
    wpAny (model prog w) A (eval (.ListComp elt [⟨.Name x px, iter, [c], 0⟩] scope pos) env) Q E s :=
  wpAny_ListComp_free (pB g) (fB fe g) hclos hcell hkind hnames hx h hs
theorem comp_assign {s : Shared} {l : Addr} {vs : List Value} {ps : List (Int × Int)} {Q : Flow → Shared → Prop} {fe : Int → Int} {elt c : PySem.Expr} {x y : Str} {scope : Scope} {cl : List (Str × Addr)} (hh : A.handled = none) (F : Fr g L s.heap m) (N : News g L s.heap news) (hl : s.heap.IsList l vs.toArray) (hlL : l ≠ L)
    (hL : env.locals = L) (ht : TokL g vs ps) (hn : vs.length ≤ sizeLine)
    (htest : ∀ (C a : Addr) (q : Int × Int) (t1 t2 : Tok) (s₃ : Shared) m₃ E', IsTup g a #[.int q.1 t1, .int q.2 t2] → okTok q.1 q.2 → Fr g C s₃.heap m₃ → m₃ x = some (.ref a) →
      wpAny (model prog w) A (isTrue c (compEnvC scope cl C env) (eval c (compEnvC scope cl C env))) (fun ok s₄ => ok = isB q.1 ∧ Keeps s₃ s₄) E' s₃)
    (helt : ∀ (C a : Addr) (q : Int × Int) (t1 t2 : Tok) (s₃ : Shared) m₃ E', IsTup g a #[.int q.1 t1, .int q.2 t2] → okTok q.1 q.2 → Fr g C s₃.heap m₃ → m₃ x = some (.ref a) →
      wpAny (model prog w) A (eval elt (compEnvC scope cl C env)) (fun y s₄ => (∃ t, y = .int (fe q.1) t) ∧ Keeps s₃ s₄) E' s₃)
    (hQ : ∀ D (rs : List (Int × Tok)) kk h' tk, Fr g L h' (fun z => if z = y then some (.ref D) else m z) → News g L h' ((D, listOf (intsV rs).toArray kk) :: news) → (∀ p ∈ news, p.1 ≠ D) → rs.map (·.1) = ((ps.map (·.1)).filter isB).map fe → Q .next { s with heap := h', toks := tk }) :
    wpAny (model prog w) A (pyIter (.ref l)) (CompA prog w A env scope cl x y c elt fe g Q) E s := by
  refine comp_pre hh F N hl hlL hL ht hn htest helt fun I fp wr n P St m' W hsz hst hfp hLw hns hq hk em fin => ?_
  subst em hL
  refine ⟨I, fp, wr, n, P, St, m', rfl, W, hsz, hst, hfp, hLw, hns, hq, fun D h' tk ys us hD _ hp hlen hP hF hn' hkeep => ?_⟩
  obtain ⟨rs, e1, e2⟩ := fin us ys.toList hlen hP hF
  obtain ⟨kk, hp⟩ := hp
  have ey : ys = (intsV rs).toArray := by rw [← e1]
  subst ey
  have fresh : ∀ b o, s.heap.get? b = some o → b ≠ D := fun b o e z => by
    have := Heap.get?_push_of_some { cls := .type "list_iterator", data := .fields #[.ref l, .int 0 0] } e
    rw [z, hD] at this; cases this
  have up : ∀ b o, b ≠ env.locals → s.heap.get? b = some o → h'.get? b = some o := fun b o hb e => hkeep b o hb (hk b o e) (Heap.get?_push_of_some _ e)
  refine hQ D rs kk h' tk ⟨hn', fun b o e => up b o (fun z => by rw [z, Heap.get?_none_of_le F.above] at e; cases e) (F.keep b o e), F.above⟩ (fun p hp' => ?_) (fun p hp' => fresh _ _ (N p hp').1) e2
  rcases List.mem_cons.mp hp' with rfl | hp'
  · refine ⟨hp, fun z => ?_, ?_⟩
    · obtain ⟨o, _, _, ho, _⟩ := F.ns
      exact fresh _ _ ho z.symm
    · cases q : g.get? D with
      | none => rfl
      | some o => exact absurd rfl (fresh _ _ (F.keep _ _ q))
  · exact ⟨up _ _ (N p hp').2.1 (N p hp').1, (N p hp').2⟩
theorem comp_value {s : Shared} {l : Addr} {vs : List Value} {ps : List (Int × Int)} {Q : Value → Shared → Prop} {fe : Int → Int} {elt c : PySem.Expr} {x : Str} {scope : Scope} {cl : List (Str × Addr)} (hh : A.handled = none) (F : Fr g L s.heap m) (N : News g L s.heap news) (hl : s.heap.IsList l vs.toArray) (hlL : l ≠ L)
    (hL : env.locals = L) (ht : TokL g vs ps) (hn : vs.length ≤ sizeLine)
    (htest : ∀ (C a : Addr) (q : Int × Int) (t1 t2 : Tok) (s₃ : Shared) m₃ E', IsTup g a #[.int q.1 t1, .int q.2 t2] → okTok q.1 q.2 → Fr g C s₃.heap m₃ → m₃ x = some (.ref a) →
      wpAny (model prog w) A (isTrue c (compEnvC scope cl C env) (eval c (compEnvC scope cl C env))) (fun ok s₄ => ok = isB q.1 ∧ Keeps s₃ s₄) E' s₃)
    (helt : ∀ (C a : Addr) (q : Int × Int) (t1 t2 : Tok) (s₃ : Shared) m₃ E', IsTup g a #[.int q.1 t1, .int q.2 t2] → okTok q.1 q.2 → Fr g C s₃.heap m₃ → m₃ x = some (.ref a) →
      wpAny (model prog w) A (eval elt (compEnvC scope cl C env)) (fun y s₄ => (∃ t, y = .int (fe q.1) t) ∧ Keeps s₃ s₄) E' s₃)
    (hQ : ∀ D (rs : List (Int × Tok)) kk h' tk, Fr g L h' m → News g L h' ((D, listOf (intsV rs).toArray kk) :: news) → (∀ p ∈ news, p.1 ≠ D) → rs.map (·.1) = ((ps.map (·.1)).filter isB).map fe → Q (.ref D) { s with heap := h', toks := tk }) :
    wpAny (model prog w) A (pyIter (.ref l)) (CompV prog w A env scope cl x c elt fe g Q) E s := by
  refine comp_pre hh F N hl hlL hL ht hn htest helt fun I fp wr n P St m' W hsz hst hfp hLw hns hq hk em fin => ?_
  subst em hL
  refine ⟨I, fp, wr, n, P, St, rfl, W, hsz, hst, hfp, hq, fun D h' tk ys us hD _ hp hlen hP hF hkeep => ?_⟩
  obtain ⟨rs, e1, e2⟩ := fin us ys.toList hlen hP hF
  obtain ⟨kk, hp⟩ := hp
  have ey : ys = (intsV rs).toArray := by rw [← e1]
  subst ey
  have fresh : ∀ b o, s.heap.get? b = some o → b ≠ D := fun b o e z => by
    have := Heap.get?_push_of_some { cls := .type "list_iterator", data := .fields #[.ref l, .int 0 0] } e
    rw [z, hD] at this; cases this
  have up : ∀ b o, s.heap.get? b = some o → h'.get? b = some o := fun b o e => hkeep b o (hk b o e) (Heap.get?_push_of_some _ e)
  refine hQ D rs kk h' tk ⟨F.ns.keeps up, fun b o e => up b o (F.keep b o e), F.above⟩ (fun p hp' => ?_) (fun p hp' => fresh _ _ (N p hp').1) e2
  rcases List.mem_cons.mp hp' with rfl | hp'
  · refine ⟨hp, fun z => ?_, ?_⟩
    · obtain ⟨o, _, _, ho, _⟩ := F.ns
      exact fresh _ _ ho z.symm
    · cases q : g.get? D with
      | none => rfl
      | some o => exact absurd rfl (fresh _ _ (F.keep _ _ q))
  · exact ⟨up _ _ (N p hp').1, (N p hp').2⟩
end
theorem fresh_SqP3 : True := by w_top off; trivial
theorem reads_ints {h : Heap} : ∀ rs : List (Int × Tok), ReadsAll h (intsV rs) (rs.map fun r => PyData.int r.1) []
  | [] => .nil
  | r :: rs => .cons (as := []) (bs := []) (.int _ _) (reads_ints rs)
theorem eqvAll_ints : ∀ (rs us : List (Int × Tok)), PyData.eqvAll (rs.map fun r => PyData.int r.1) (us.map fun r => PyData.int r.1) = decide (rs.map (·.1) = us.map (·.1))
  | [], [] => rfl
  | [], _ :: _ => by simp [PyData.eqvAll]
  | _ :: _, [] => by simp [PyData.eqvAll]
  | r :: rs, u :: us => by
    simp only [List.map_cons, PyData.eqvAll, PyData.eqv, eqvAll_ints rs us, List.cons.injEq, Bool.decide_and]
    rfl
theorem lay_ints : ∀ rs : List (Int × Tok), PyData.canLayAll0 (rs.map fun r => PyData.int r.1) = true
  | [] => rfl
  | r :: rs => by simp [PyData.canLayAll0, PyData.canLay0, lay_ints rs]
theorem depth_ints : ∀ rs : List (Int × Tok), PyData.depthAll (rs.map fun r => PyData.int r.1) ≤ 1
  | [] => by simp [PyData.depthAll]
  | r :: rs => by
    have := depth_ints rs
    simp only [List.map_cons, PyData.depthAll, PyData.depth]
    omega
section
variable {w : World} {A : Around} {E : Value → Shared → Prop} {s : Shared} {g : Heap} {L : Addr} {m : Str → Option Value} {news : List (Addr × Obj)} {Q : Value → Shared → Prop} {n k : Nat}
theorem cmp_ints {D e : Addr} {rs us : List (Int × Tok)} {b : Bool} (N : News g L s.heap news) (hD : (D, listOf (intsV rs).toArray n) ∈ news) (he : (e, listOf (intsV us).toArray k) ∈ news) (hu : A.units + 4 < cLine)
    (eb : decide (rs.map (·.1) = us.map (·.1)) = b) (h : Q (.bool b) s) : wpAny (model prg w) A (compareOp .Eq (.ref D) (.ref e)) Q E s := by
  have r1 : Reads s.heap (.ref D) (.list (rs.map fun r => PyData.int r.1)) [D] := .list (N _ hD).1 rfl rfl (by simpa using reads_ints rs)
  have r2 : Reads s.heap (.ref e) (.list (us.map fun r => PyData.int r.1)) [e] := .list (N _ he).1 rfl rfl (by simpa using reads_ints us)
  refine PySem.SeqAt.compareEq_reads r1 r2 (by simp [PyData.canLay0, lay_ints]) (by simp [PyData.canLay0, lay_ints]) (by have := depth_ints rs; simp only [PyData.depth]; omega) ?_
  show Q (.bool (PyData.eqvAll _ _)) s
  rw [eqvAll_ints, eb]; exact h
theorem tup_item0 {prog : Program} {value slice : PySem.Expr} {a : Addr} {v1 v2 : Value} {u : Tok} (F : Fr g L s.heap m) (t : IsTup g a #[v1, v2]) (h : Q v1 s)
    (hs : ∀ c u, subscripted slice false (.ref a) (.int c u) = operate [.ref a, .int c u] (getItem (.ref a) (.int c u))) :
    wpAny (model prog w) A (subscriptTail value slice (.ref a) (.int 0 u)) Q E s :=
  item_tupleT (l := [v1, v2]) (IsTup.keeps t F.keep) (by decide) (by decide) rfl rfl h (hs _ _)
theorem name_comp {M : Model} {C : Addr} {env : Env} {scope : Scope} {cl : List (Str × Addr)} {x : Str} {pos : Pos} {v : Value} (F : Fr g C s.heap m) (hv : m x = some v) (h : Q v s)
    (hk : scope.kind = .function) (hx : (compEnvC scope cl C env).kindOf x = some .local) (hb : (x == ("__debug__" : Str)) = false) :
    wpAny M A (eval (.Name x pos) (compEnvC scope cl C env)) Q E s := wpAny_Name (wpAny_loadName_local (by simpa [compEnvC, relabel] using hk) hx F.ns hv h) hb
theorem len_g {prog : Program} {l : Addr} {vs : List Value} (F : Fr g L s.heap m) (hl : g.IsList l vs.toArray) (hz : vs.length ≤ 999) (h : ∀ tk, Q (.int (vs.length : Nat) (s.toks + 1)) { s with toks := tk }) :
    wpAny (model prog w) A (call (.builtin "len") [.ref l]) Q E s :=
  PyProof.Rows.len_list (hl.at fun o e => F.keep _ _ e) (by simp; omega) (by simpa using h _)
theorem len_n {prog : Program} {l : Addr} {vs : List Value} (N : News g L s.heap news) (hl : (l, listOf vs.toArray n) ∈ news) (hz : vs.length ≤ 999) (h : ∀ tk, Q (.int (vs.length : Nat) (s.toks + 1)) { s with toks := tk }) :
    wpAny (model prog w) A (call (.builtin "len") [.ref l]) Q E s :=
  PyProof.Rows.len_list (isList_news N hl) (by simp; omega) (by simpa using h _)
theorem in_12 {prog : Program} {c : Int} {t t1 t2 : Tok} {h : Heap} {gs : Array GenState} {d : Drawn} {tk : Nat} {os : OsState} (hu : A.units + 4 < cLine)
    (h0 : Q (.bool (isB c)) ⟨h.push { cls := .type "tuple", data := .seq #[.int 1 t1, .int 2 t2] }, gs, d, tk, os⟩) :
    wpAny (model prog w) A (compareOp .In (.int c t) (.ref h.objs.size)) Q E ⟨h.push { cls := .type "tuple", data := .seq #[.int 1 t1, .int 2 t2] }, gs, d, tk, os⟩ := by
  have rc : Reads (h.push { cls := .type "tuple", data := .seq #[.int 1 t1, .int 2 t2] }) (.ref h.objs.size) (.tuple [.int 1, .int 2]) [] :=
    .tuple (Heap.get?_push_size _ rfl) rfl rfl (.cons (as := []) (bs := []) (.int _ _) (.cons (as := []) (bs := []) (.int _ _) .nil))
  refine PySem.SeqAt.in_tuple_reads rc (.int c t) rfl rfl (by show A.units + 1 + _ < _; simp only [PyData.depth, PyData.depthAll]; omega) ?_
  have e : ([PyData.int 1, PyData.int 2].any fun y => PyData.eqv y (.int c)) = isB c := by
    unfold isB
    simp only [List.any_cons, List.any_nil, PyData.eqv, Bool.or_false]
    rw [Bool.eq_iff_iff]
    simp only [Bool.or_eq_true, beq_iff_eq]
    exact or_congr ⟨Eq.symm, Eq.symm⟩ ⟨Eq.symm, Eq.symm⟩
  rw [e]; exact h0
end
theorem len_ints {rs : List (Int × Tok)} {j : Nat} (h : j ≤ rs.length) : j ≤ (intsV rs).length := by rw [List.length_map]; exact h
theorem pick_two {rs : List (Int × Tok)} {j : Nat} (hj : j + 1 < rs.length) : kms_pick (intsV rs) (some (j : Int)) (some ((j : Int) + 2)) = intsV ((rs.drop j).take 2) := by
  have e1 : kms_lo (some (j : Int)) (intsV rs).length = j := lo_nat (len_ints (Nat.le_of_lt (Nat.lt_of_succ_lt hj)))
  have e2 : kms_hi (some ((j : Int) + 2)) (intsV rs).length = j + 2 := hi_nat (j := j + 2) (len_ints hj)
  unfold kms_pick
  rw [e1, e2, Nat.add_sub_cancel_left]
  simp only [intsV, List.map_take, List.map_drop]
theorem pick_front {rs : List (Int × Tok)} {j : Nat} (hj : j + 1 < rs.length) : kms_pick (intsV rs) none (some (j : Int)) = intsV (rs.take j) := by
  have e2 : kms_hi (some (j : Int)) (intsV rs).length = j := hi_nat (len_ints (Nat.le_of_lt (Nat.lt_of_succ_lt hj)))
  unfold kms_pick
  rw [e2]
  simp [kms_lo, intsV, List.map_take]
theorem pick_rest {rs : List (Int × Tok)} {j : Nat} (hj : j + 1 < rs.length) : kms_pick (intsV rs) (some ((j : Int) + 2)) none = intsV (rs.drop (j + 2)) := by
  have e1 : kms_lo (some ((j : Int) + 2)) (intsV rs).length = j + 2 := lo_nat (j := j + 2) (len_ints hj)
  unfold kms_pick
  rw [e1]
  simp only [intsV, ← List.map_drop]
  exact List.take_of_length_le (by simp [kms_hi])
theorem two_at {rs : List (Int × Tok)} {j : Nat} (hj : j + 1 < rs.length) : ((rs.drop j).take 2).map (·.1) = [1, 2] ↔ ((rs.map (·.1))[j]? = some 1 ∧ (rs.map (·.1))[j + 1]? = some 2) := by
  rw [List.map_take, List.map_drop]
  generalize e : rs.map (·.1) = cs
  have hl : j + 1 < cs.length := by rw [← e]; simpa using hj
  have e2 : cs.drop j = cs[j] :: cs[j + 1] :: cs.drop (j + 2) := by rw [List.drop_eq_getElem_cons (Nat.lt_of_succ_lt hl), List.drop_eq_getElem_cons hl]
  rw [e2, List.getElem?_eq_getElem (Nat.lt_of_succ_lt hl), List.getElem?_eq_getElem hl]
  show [cs[j], cs[j + 1]] = [1, 2] ↔ _
  simp only [List.cons.injEq, and_true, Option.some.injEq]
theorem cut_two {rs : List (Int × Tok)} {j : Nat} (hj : j + 1 < rs.length) (h1 : (rs.map (·.1))[j]? = some 1) (h2 : (rs.map (·.1))[j + 1]? = some 2) :
    balI 0 ((rs.take j ++ rs.drop (j + 2)).map (·.1)) = balI 0 (rs.map (·.1)) ∧ (rs.take j ++ rs.drop (j + 2)).length + 2 = rs.length := by
  constructor
  · rw [List.map_append, List.map_take, List.map_drop]
    generalize rs.map (·.1) = cs at h1 h2 ⊢
    have e : cs = cs.take j ++ 1 :: 2 :: cs.drop (j + 2) := by
      obtain ⟨l1, g1⟩ := List.getElem?_eq_some_iff.mp h1
      obtain ⟨l2, g2⟩ := List.getElem?_eq_some_iff.mp h2
      have a : cs.drop j = 1 :: 2 :: cs.drop (j + 2) := by
        rw [List.drop_eq_getElem_cons l1, List.drop_eq_getElem_cons l2, g1, g2]
      rw [← a, List.take_append_drop]
    conv => rhs; rw [e]
    exact (balI_step _ _ 0 (Int.le_refl _)).symm
  · rw [List.length_append, List.length_take, List.length_drop, Nat.min_eq_left (Nat.le_of_lt (Nat.lt_of_succ_lt hj)), Nat.add_right_comm]
    exact Nat.add_sub_of_le hj
theorem cut_all {rs : List (Int × Tok)} {j : Nat} (h : ∀ c ∈ rs.map (·.1), c = 1 ∨ c = 2) : ∀ c ∈ (rs.take j ++ rs.drop (j + 2)).map (·.1), c = 1 ∨ c = 2 := by
  intro c hc
  obtain ⟨r, hr, rfl⟩ := List.mem_map.mp hc
  refine h _ (List.mem_map.mpr ⟨r, ?_, rfl⟩)
  rcases List.mem_append.mp hr with q | q
  · exact List.mem_of_mem_take q
  · exact List.mem_of_mem_drop q
noncomputable def iterN (n i : Nat) : Obj := { cls := .type "range_iterator", dict := none, data := .fields #[rawInt (i : Int), rawInt ((n : Int) - (i : Int)), rawInt 1], slots := #[] }
theorem iterN_next {h : Heap} {I n j : Nat} (H : IsRangeIter h I ((j : Int) + 1) ((n : Int) - (j : Int) - 1) 1) : h.get? I = some (iterN n (j + 1)) := by
  have e1 : (((j + 1 : Nat)) : Int) = (j : Int) + 1 := rfl
  have e2 : (n : Int) - ((j : Int) + 1) = (n : Int) - (j : Int) - 1 := (Int.sub_sub _ _ _).symm
  show _ = some ({ cls := .type "range_iterator", dict := none, data := .fields #[rawInt ((j + 1 : Nat) : Int), rawInt ((n : Int) - ((j + 1 : Nat) : Int)), rawInt 1], slots := #[] } : Obj)
  rw [e1, e2]
  exact H
inductive PInv (g : Heap) (L I n : Nat) (b : Bool) (s0 : Shared) (i : Nat) (s : Shared) : Prop
  | mk (h : Heap) (tk : Nat) (e : s = { s0 with heap := h, toks := tk }) (D : Addr) (rs : List (Int × Tok)) (kk : Nat) (f : Str → Option Value) (F : Fr g L h (m1 (Str.ofString "row") (.ref D) f)) (N : News g L h [(D, listOf (intsV rs).toArray kk), (I, iterN n i)]) (ne : @Ne Nat D I)
      (hc : ∀ c ∈ rs.map (·.1), c = 1 ∨ c = 2) (hb : balI 0 (rs.map (·.1)) = b) (hz : rs.length ≤ 999) (hl : rs.length + 2 * i ≤ n ∨ NoPair (rs.map (·.1)))
inductive QInv (g : Heap) (L I n i : Nat) (D : Addr) (rs : List (Int × Tok)) (kk : Nat) (J n' : Nat) (s0 : Shared) (j : Nat) (s : Shared) : Prop
  | mk (h : Heap) (tk : Nat) (e : s = { s0 with heap := h, toks := tk }) (f : Str → Option Value) (F : Fr g L h (m1 (Str.ofString "row") (.ref D) f)) (N : News g L h [(J, iterN n' j), (D, listOf (intsV rs).toArray kk), (I, iterN n i)])
      (hno : ∀ k, k < j → ¬ ((rs.map (·.1))[k]? = some 1 ∧ (rs.map (·.1))[k + 1]? = some 2))
section
variable {g : Heap} {L I n i : Nat} {b : Bool} {s0 : Shared} {gens : Array GenState} {drawn : Drawn} {tk : Nat} {os : OsState} {h : Heap} {D : Addr} {rs : List (Int × Tok)} {kk : Nat} {F : Str → Option Value} {news : List (Addr × Obj)}
theorem pinv_close (eg : gens = s0.gens) (ed : drawn = s0.drawn) (eo : os = s0.os) (FF : Fr g L h F) (h1 : F (Str.ofString "row") = some (.ref D)) (NN : News g L h news) (q1 : (D, listOf (intsV rs).toArray kk) ∈ news) (q2 : (I, iterN n i) ∈ news) (ne : @Ne Nat D I)
    (hc : ∀ c ∈ rs.map (·.1), c = 1 ∨ c = 2) (hb : balI 0 (rs.map (·.1)) = b) (hz : rs.length ≤ 999) (hl : rs.length + 2 * i ≤ n ∨ NoPair (rs.map (·.1))) : PInv g L I n b s0 i ⟨h, gens, drawn, tk, os⟩ := by
  subst eg ed eo
  refine ⟨h, tk, rfl, D, rs, kk, F, m1_self h1 ▸ FF, fun p hp => ?_, ne, hc, hb, hz, hl⟩
  simp only [List.mem_cons, List.not_mem_nil, or_false] at hp
  rcases hp with rfl | rfl
  · exact NN _ q1
  · exact NN _ q2
theorem qinv_close {J n' j : Nat} (eg : gens = s0.gens) (ed : drawn = s0.drawn) (eo : os = s0.os) (FF : Fr g L h F) (h1 : F (Str.ofString "row") = some (.ref D)) (NN : News g L h news) (q0 : (J, iterN n' j) ∈ news) (q1 : (D, listOf (intsV rs).toArray kk) ∈ news) (q2 : (I, iterN n i) ∈ news)
    (hno : ∀ k, k < j → ¬ ((rs.map (·.1))[k]? = some 1 ∧ (rs.map (·.1))[k + 1]? = some 2)) : QInv g L I n i D rs kk J n' s0 j ⟨h, gens, drawn, tk, os⟩ := by
  subst eg ed eo
  refine ⟨h, tk, rfl, F, m1_self h1 ▸ FF, fun p hp => ?_, hno⟩
  simp only [List.mem_cons, List.not_mem_nil, or_false] at hp
  rcases hp with rfl | rfl | rfl
  · exact NN _ q0
  · exact NN _ q1
  · exact NN _ q2
theorem noPair_of {rs : List (Int × Tok)} (h : ∀ k, k < rs.length - 1 → ¬ ((rs.map (·.1))[k]? = some 1 ∧ (rs.map (·.1))[k + 1]? = some 2)) : NoPair (rs.map (·.1)) := by
  intro k ⟨a, c⟩
  by_cases hk : k < rs.length - 1
  · exact h k hk ⟨a, c⟩
  · rw [List.getElem?_eq_none (by rw [List.length_map]; exact Nat.sub_le_iff_le_add.mp (Nat.le_of_not_lt hk))] at c; cases c
end
theorem rangeN (n : Nat) (h : n ≤ 999) : Builtin.Range.small 0 (n : Int) 1 = true ∧ Builtin.Range.rangeSize 0 (n : Int) 1 = (n : Int) := by
  obtain ⟨a, b⟩ := range_small (d := (n : Int)) (by k_sizes) (by k_sizes)
  exact ⟨a, b⟩
theorem rangeN1 (n : Nat) (h : n ≤ 999) : Builtin.Range.small 0 ((n : Int) - 1) 1 = true ∧ Builtin.Range.rangeSize 0 ((n : Int) - 1) 1 = ((n - 1 : Nat) : Int) := by
  refine ⟨small_one (by decide) (by decide) (by k_sizes) (by k_sizes), ?_⟩
  rw [rangeSize_nat]; omega
theorem fresh_SqP4 : True := by w_top off; trivial
def Mark : Prop := True
theorem mark : Mark := trivial
theorem wall_as {M : Model} {A : Around} {E : Value → Shared → Prop} {s : Shared} {env : Env} {pos p1 : Pos} {ts : List PySem.Expr} {el tg it c : PySem.Expr} {d : Int} {sc : Scope} {Q : Flow → Shared → Prop} (_u : True) (h : Wall (wpAny M A (exec (.Assign ts (.ListComp el [⟨tg, it, [c], d⟩] sc p1) pos) env) Q E s)) : wpAny M A (exec (.Assign ts (.ListComp el [⟨tg, it, [c], d⟩] sc p1) pos) env) Q E s := h
local macro_rules | `(tactic| walk_at "exec Assign cons ListComp") => `(tactic| kspl_eval wall_as)
local macro_rules | `(tactic| walk_at "newTuple") => `(tactic| ((rename Mark => mk'); kdo_acc))
local macro_rules | `(tactic| walk_at "subscriptTail Name Slice ref ref") => `(tactic| kdo_acc)
local macro_rules | `(tactic| walk_at "compareOp Eq ref ref") => `(tactic| kdo_acc)
local macro_rules | `(tactic| walk_at "binaryOp Add ref ref") => `(tactic| kdo_acc)
local macro_rules | `(tactic| walk_at "subscriptTail") => `(tactic| kspl_eval tup_item0)
local macro_rules | `(tactic| walk_at "eval Name") => `(tactic| kspl_eval name_comp)
local macro_rules | `(tactic| walk_at "call builtin:len") => `(tactic| first | lcg_open len_g | lcg_open len_n)
section
variable {w : World} {mean : ExcName → Option Value} {mg mb : Str → Option Value} {dp un : Nat} {gd : Option (List Code)} {base g : Heap} {outer : List Env} {s : Shared} {R : Result → Shared → Prop}
theorem paired_ok {l : Addr} {vs : List Value} {ps : List (Int × Int)} (H : At w mean mg mb dp un gd base outer s.heap) (hdd : dp + 6 < recursionLimit) (hu : un + 40 < cLine) (hl : s.heap.IsList l vs.toArray) (ht : TokL s.heap vs ps) (hz : vs.length ≤ 999)
   (hR : ∀ h' tk, (∀ b o, s.heap.get? b = some o → h'.get? b = some o) → R (.ok (.ret (.bool (bal 0 ps)))) { s with heap := h', toks := tk }) :
   codeAny (model prg w) (Arr dp un gd outer) (.call (.ref 181) ⟨[.ref l], []⟩) R s := by
  obtain ⟨hB, hK, hT⟩ := id H
  have sl := sizeLine_eq
  k_dflt (refine' enter0 (binds := [(Str.ofString "tokens", .ref l)]) ?k1 ?k6 ?k7 ?k8 ?k9 ?kB ?_ ?c2 ?c3 ?c4 ?c5; (case k1 => assumption); (case k6 => k_is); (case k7 => k_is); (case k8 => ktr_room); (case k9 => exact BindsTo.of_eq rfl); (case c5 => decide); (case kB => exact locs rfl); (case c2 => exact rfl); (case c3 => exact rfl); (case c4 => exact rfl); k_whole)
  intro g L' h1 eg eL F N B X T
  subst eg eL
  (try dsimp only); (try k_fold)
  k_steps
  show wpAny _ _ (exec _ _) _ _ _
  refine' Assign_compF (fun c => c) s.heap ?qsw ?qcl ?qce ?qk ?qn ?qx ?qy ?qp ?_ ?qs
  case qsw => with_unfolding_all rfl
  case qcl => with_unfolding_all rfl
  case qce => decide
  case qk => rfl
  case qn => decide
  case qx => rfl
  case qy => rfl
  case qp => rfl
  case qs => (intro _; rfl)
  k_steps
  have hlL : l ≠ s.heap.objs.size := by obtain ⟨_, e, _⟩ := hl; exact Nat.ne_of_lt (Heap.lt_size e)
  refine' comp_assign (vs := vs) (ps := ps) (fe := fun c => c) ?hh ?hF ?hN ?hl ?hlL ?hL ?ht ?hn ?_ ?_ ?_
  case hh => rfl
  case hF => exact F
  case hN => exact N
  case hl => exact hl.at fun o e => F.keep _ _ e
  case hlL => exact hlL
  case ht => exact ht
  case hL => rfl
  case hn => exact Nat.le_trans hz (by decide)
  · intro C a q t1 t2 s₃ m₃ E' it ok FC hm
    rw [m1_self hm] at FC
    have NC : News s.heap C s₃.heap [] := fun _ h => nomatch h
    have mk := mark
    k_steps
    show wpAny _ _ (newTuple _) _ _ _
    refine wpAny_newObj_type ?_
    refine in_12 (room2 hu (by decide)) ?_
    refine wpAny_truthy_bool ?_
    exact ⟨rfl, _, _, rfl, fun b o e => Heap.get?_push_of_some _ e⟩
  · intro C a q t1 t2 s₃ m₃ E' it ok FC hm
    rw [m1_self hm] at FC
    have NC : News s.heap C s₃.heap [] := fun _ h => nomatch h
    k_steps
    all_goals first | exact ⟨_, _, rfl, fun _ _ e => e⟩ | skip
  · intro D rs kk h' tk F2 N2 lD ers
    (try dsimp only)
    rw [List.map_id'] at ers
    have hlen : rs.length ≤ vs.length := by
      have a : (rs.map (·.1)).length ≤ (ps.map (·.1)).length := by rw [ers]; exact List.length_filter_le _ _
      rw [ht.len]; simpa using a
    have hcs : ∀ c ∈ rs.map (·.1), c = 1 ∨ c = 2 := by
      intro c hc
      rw [ers] at hc
      have := (List.mem_filter.mp hc).2
      simpa [isB] using this
    have hbal : balI 0 (rs.map (·.1)) = bal 0 ps := by rw [ers, balI_filter, bal_balI]
    clear lD
    k_steps
    rename_i Fo No tkl hr tkr t1 t2 t3 rr FR NR kR
    clear Fo No
    have lI : ∀ p : Addr × Obj, p ∈ _ → p.1 < hr.objs.size := fun p hp => Heap.lt_size (NR p hp).1
    k_lt lI
    obtain ⟨sm, sz⟩ := rangeN vs.length hz
    refine wpAny_pyIter_range rr sm ?_
    rw [sz]
    refine loop_range (n := vs.length) (I := hr.objs.size) (PInv s.heap s.heap.objs.size hr.objs.size vs.length (bal 0 ps) s) rfl ?_ ?_ ?_ ?_ (fun _ => rfl)
    · rintro i s' ⟨h, tk, rfl, D2, rs2, kk2, f, F2, N2, _⟩
      exact (N2 _ (.tail _ (.head _))).1
    · intro i s' hI1 hin HJ hIt hSB
      show wpAny _ _ _ _ _ _
      k_fold
      obtain ⟨h, tk, e, D2, rs2, kk2, f, F2, N2, nDI, hc, hb, hz2, hlen2⟩ := HJ
      subst e
      obtain ⟨F3, N3⟩ := upd_news F2 N2 (U := by k_upd) hSB.extBut (iterN_next hIt)
      clear F2 N2 FR NR
      (try dsimp only)
      k_steps
      rename_i Fo No tkq hJ tkJ t4 t5 t6 rJ FJ NJ kJ
      clear Fo No
      have lJ : ∀ p : Addr × Obj, p ∈ _ → p.1 < hJ.objs.size := fun p hp => Heap.lt_size (NJ p hp).1
      k_lt lJ
      simp only [List.length_map] at rJ
      obtain ⟨smJ, szJ⟩ := rangeN1 rs2.length hz2
      refine wpAny_pyIter_range rJ smJ ?_
      rw [szJ]
      refine loop_range (n := rs2.length - 1) (I := hJ.objs.size) (QInv s.heap s.heap.objs.size hr.objs.size vs.length (i + 1) D2 rs2 kk2 hJ.objs.size (rs2.length - 1) s) rfl ?_ ?_ ?_ ?_ (fun _ => rfl)
      · rintro j s' ⟨h, tk, rfl, f, F2, N2, _⟩
        exact (N2 _ (.head _)).1
      · intro j s'' hJ1 hjn HJ hItJ hSBJ
        show wpAny _ _ _ _ _ _
        k_fold
        obtain ⟨h, tk, e, f, F4, N4, hno⟩ := HJ
        subst e
        obtain ⟨F5, N5⟩ := upd_news F4 N4 (U := by k_upd) hSBJ.extBut (iterN_next hItJ)
        clear F4 N4 FJ NJ
        (try dsimp only)
        have hj2 : j + 1 < rs2.length := by omega
        k_steps
        rename Fr _ _ _ _ => FF
        rename News _ _ _ _ => NN
        show wpAny _ _ _ _ _ _
        refine' slice_valsE ?qF ?qN ?ql ?qp ?qq ?qe ?_ ?qs ?qt ?qz
        case qF => exact FF
        case qN => exact NN
        case ql => exact isList_news NN (by k_mem)
        case qp => kmk_part
        case qq => kmk_part
        case qe => exact pick_two hj2
        case qs => with_unfolding_all rfl
        case qt => kmk_pure
        case qz => exact Nat.le_trans (Nat.le_of_eq (List.length_map _)) (Nat.le_trans hz2 (by decide))
        intro S hS FS NS lS
        clear FF NN
        k_lt lS
        (try dsimp only)
        k_steps
        rename Fr _ _ _ _ => FF
        rename News _ _ _ _ => NN
        show wpAny _ _ _ _ _ _
        by_cases hp : ((rs2.drop j).take 2).map (·.1) = [1, 2]
        · refine cmp_ints (rs := (rs2.drop j).take 2) (us := [(1, _), (2, _)]) NN (by k_mem) (by k_mem) (room2 hu (by decide)) (decide_eq_true hp) ?_
          obtain ⟨p1, p2⟩ := (two_at hj2).mp hp
          obtain ⟨cb, cl⟩ := cut_two hj2 p1 p2
          k_steps
          show wpAny _ _ _ _ _ _
          refine' slice_valsE ?rF ?rN ?rl ?rp ?rq ?re ?_ ?rs ?rt ?rz
          case rF => exact FF
          case rN => exact NN
          case rl => exact isList_news NN (by k_mem)
          case rp => kmk_part
          case rq => kmk_part
          case re => exact pick_front hj2
          case rs => with_unfolding_all rfl
          case rt => kmk_pure
          case rz => exact Nat.le_trans (Nat.le_of_eq (List.length_map _)) (Nat.le_trans hz2 (by decide))
          intro S1 hS1 FS1 NS1 lS1
          clear FF NN
          k_lt lS1
          (try dsimp only)
          k_steps
          show wpAny _ _ _ _ _ _
          refine' slice_valsE ?uF ?uN ?ul ?up ?uq ?ue ?_ ?us ?ut ?uz
          case uF => exact FS1
          case uN => exact NS1
          case ul => exact isList_news NS1 (by k_mem)
          case up => kmk_part
          case uq => kmk_part
          case ue => exact pick_rest hj2
          case us => with_unfolding_all rfl
          case ut => kmk_pure
          case uz => exact Nat.le_trans (Nat.le_of_eq (List.length_map _)) (Nat.le_trans hz2 (by decide))
          intro S2 hS2 FS2 NS2 lS2
          clear FS1 NS1
          k_lt lS2
          (try dsimp only)
          k_steps
          show wpAny _ _ _ _ _ _
          refine add_vals FS2 NS2 (isList_news NS2 (by k_mem)) (isList_news NS2 (by k_mem)) ?_ (Nat.le_trans (Nat.add_le_add (Nat.le_trans (Nat.le_of_eq (List.length_map _)) (Nat.le_trans (List.take_sublist _ _).length_le hz2)) (Nat.le_trans (Nat.le_of_eq (List.length_map _)) (Nat.le_trans (List.drop_sublist _ _).length_le hz2))) (by decide))
          intro S3 hS3 FS3 NS3 lS3
          clear FS2 NS2
          k_lt lS3
          rw [← List.map_append] at NS3
          (try dsimp only)
          k_steps
          rename Fr _ _ _ _ => FF
          rename News _ _ _ _ => NN
          refine pinv_close (rs := rs2.take j ++ rs2.drop (j + 2)) rfl rfl rfl FF rfl NN (by k_mem) (by k_mem) (by show @Ne Nat _ _; k_ne) (cut_all hc) (cb.trans hb) (by k_sizes) (.inl ?_)
          rcases hlen2 with q | q
          · omega
          · exact absurd ⟨p1, p2⟩ (q j)
        · refine cmp_ints (rs := (rs2.drop j).take 2) (us := [(1, _), (2, _)]) NN (by k_mem) (by k_mem) (room2 hu (by decide)) (decide_eq_false hp) ?_
          have hno' : ∀ k, k < j + 1 → ¬ ((rs2.map (·.1))[k]? = some 1 ∧ (rs2.map (·.1))[k + 1]? = some 2) := by
            intro k hk
            rcases Nat.lt_or_eq_of_le (Nat.le_of_lt_succ hk) with q | q
            · exact hno k q
            · subst q; exact fun a => hp ((two_at hj2).mpr a)
          k_steps
          exact qinv_close rfl rfl rfl FF rfl NN (by k_mem) (by k_mem) (by k_mem) hno'
      · intro s'' h₁ HJ hx
        obtain ⟨h, tk, e, f, F4, N4, hno⟩ := HJ
        subst e
        obtain ⟨F5, N5⟩ := drop_news (news := [(D2, listOf (intsV rs2).toArray kk2), (hr.objs.size, iterN vs.length (i + 1))]) F4 N4 ⟨_, .head _⟩ hx (by
          refine List.forall_mem_cons.mpr ⟨⟨by k_mem, by show @Ne Nat _ _; k_ne⟩, List.forall_mem_cons.mpr ⟨⟨by k_mem, by show @Ne Nat _ _; k_ne⟩, fun _ h => nomatch h⟩⟩)
        clear F4 N4 FJ NJ
        (try dsimp only)
        k_steps
        exact pinv_close rfl rfl rfl F5 rfl N5 (by k_mem) (by k_mem) nDI hc hb hz2 (.inr (noPair_of hno))
      · exact qinv_close rfl rfl rfl (FJ.push _) rfl (NJ.push FJ _) (.head _) (by k_mem) (by k_mem) (fun _ h => absurd h (Nat.not_lt_zero _))
    · intro s' h₁ HJ hx
      obtain ⟨h, tk, e, D2, rs2, kk2, f, F2, N2, nDI, hc, hb, hz2, hlen2⟩ := HJ
      subst e
      obtain ⟨F3, N3⟩ := drop_news (news := [(D2, listOf (intsV rs2).toArray kk2)]) F2 N2 ⟨_, .tail _ (.head _)⟩ hx (by
        refine List.forall_mem_cons.mpr ⟨⟨by k_mem, nDI⟩, fun _ h => nomatch h⟩)
      clear F2 N2 FR NR
      have hnp : NoPair (rs2.map (·.1)) := by
        rcases hlen2 with q | q
        · have : rs2 = [] := List.eq_nil_of_length_eq_zero (by k_sizes)
          subst this
          exact fun i ⟨a, _⟩ => by simp at a
        · exact q
      (try dsimp only)
      k_steps
      rename Fr _ _ _ _ => FF
      rename News _ _ _ _ => NN
      show wpAny _ _ _ _ _ _
      have e : decide (rs2.map (·.1) = []) = bal 0 ps := by
        rw [← hb]
        by_cases q : balI 0 (rs2.map (·.1)) = true
        · rw [q, decide_eq_true ((balI_done hc hnp).mp q)]
        · rw [Bool.not_eq_true] at q
          rw [q, decide_eq_false]
          intro a
          rw [(balI_done hc hnp).mpr a] at q; cases q
      refine cmp_ints (rs := rs2) (us := []) NN (by k_mem) (by k_mem) (room2 hu (by decide)) e ?_
      exact hR _ _ FF.keep
    · exact pinv_close rfl rfl rfl (FR.push _) rfl (NR.push FR _) (by k_mem) (.head _) (by show @Ne Nat _ _; k_ne) hcs hbal (by k_sizes) (.inl (by k_sizes))
end
theorem fresh_SqP5 : True := by w_top off; trivial
theorem nums_ints : ∀ rs : List (Int × Tok), numsOf (intsV rs) = rs.map (·.1)
  | [] => rfl
  | r :: rs => by
    have := nums_ints rs
    simp only [intsV, List.map_cons] at this ⊢
    simp [numsOf, this]
theorem ints_are (rs : List (Int × Tok)) : IntsAre (intsV rs) (rs.map (·.1)) := by
  have := intsAre_ofList (intsV rs) fun v hv => by
    obtain ⟨r, _, rfl⟩ := List.mem_map.mp hv
    exact ⟨_, _, rfl⟩
  rwa [nums_ints] at this
theorem sum_pm : ∀ l : List Int, (∀ c ∈ l, c = 1 ∨ c = -1) → -(l.length : Int) ≤ l.sum ∧ l.sum ≤ (l.length : Int)
  | [], _ => by simp
  | c :: r, h => by
    have := sum_pm r fun x hx => h x (.tail _ hx)
    rcases h c (.head _) with rfl | rfl <;> simp only [List.sum_cons, List.length_cons] <;> omega
theorem sum_small {rs : List (Int × Tok)} {cs : List Int} (e : rs.map (·.1) = (cs.filter isB).map (fun c => 3 - 2 * c)) (h : cs.length ≤ 9) : -9 ≤ (rs.map (·.1)).sum ∧ (rs.map (·.1)).sum ≤ 9 := by
  have := sum_pm (rs.map (·.1)) (by
    rw [e]
    intro c hc
    obtain ⟨d, hd, rfl⟩ := List.mem_map.mp hc
    have := (List.mem_filter.mp hd).2
    simp only [isB, Bool.or_eq_true, beq_iff_eq] at this
    rcases this with rfl | rfl
    · exact .inl rfl
    · exact .inr rfl)
  have l : (rs.map (·.1)).length ≤ 9 := by
    rw [e, List.length_map]
    exact Nat.le_trans (List.length_filter_le _ _) h
  exact ⟨Int.le_trans (Int.neg_le_neg (Int.ofNat_le.mpr l)) this.1, Int.le_trans this.2 (Int.ofNat_le.mpr l)⟩
section
variable {w : World} {mean : ExcName → Option Value} {mg mb : Str → Option Value} {dp un : Nat} {gd : Option (List Code)} {base g : Heap} {outer : List Env} {s : Shared} {L : Addr} {m : Str → Option Value} {env : Env} {news : List (Addr × Obj)} {Q E : Value → Shared → Prop} {A : Around}
theorem sum_vals {prog : Program} {D : Addr} {rs : List (Int × Tok)} {k : Nat} (hh : A.handled = none) (F : Fr g L s.heap m) (N : News g L s.heap news) (hm : (D, listOf (intsV rs).toArray k) ∈ news)
    (h : ∀ h' tk t', Fr g L h' m → News g L h' news → Q (.int (rs.map (·.1)).sum t') { s with heap := h', toks := tk }) :
    wpAny (model prog w) A (call (.builtin "sum") [.ref D]) Q E s := by
  have hl : s.heap.IsList D (intsV rs).toArray := isList_news N hm
  have hi := ints_are rs
  obtain ⟨xs, hx⟩ := hi.allInts.items
  have hn : numsOf (intsV rs).toArray.toList = rs.map (·.1) := by rw [show (intsV rs).toArray.toList = intsV rs from rfl, hi.numsOf]
  rw [hx] at hl hn
  rw [nums_intItems] at hn
  refine sum_intListG hh hl fun h' tk t' hk => ?_
  have := h h' tk t' (F.keeps hk) (N.grown hk)
  rw [preSum_eq, List.take_of_length_le (by simp), hn]
  exact this
theorem mul_vals {prog : Program} {l : Addr} {v : Value} {x : Int} {u : Tok} {k : Nat} (F : Fr g L s.heap m) (N : News g L s.heap news) (hm : (l, listOf [v].toArray k) ∈ news) (hlo : -9 ≤ x) (hhi : x ≤ 9)
    (h : ∀ D h', Fr g L h' m → News g L h' ((D, listOf (List.replicate x.toNat v).toArray 0) :: news) → (∀ p ∈ news, p.1 < D) → Q (.ref D) { s with heap := h' }) : wpAny (model prog w) A (binaryOp .Mult (.ref l) (.int x u)) Q E s :=
  KMa.mul F N (isList_news N hm) (by k_sizes) (by k_sizes) (by simp; omega) (by simp) h
theorem use_balanced {l : Addr} {vs : List Value} {ps : List (Int × Int)} (hf : env.frame = some L) (hk : env.scope.kind = .function) (B : Below (Arr dp un gd outer) base outer g) (F : Fr g L s.heap m) (N : News g L s.heap news) (X : (hd.heap_39 w.params).In g) (T : Top topProg looseS mean mg mb g)
   (hl : SeqAt s.heap l vs) (ht : TokL s.heap vs ps) (hdd : dp + 25 < recursionLimit) (hu : un + 110 < cLine)
   (h : ∀ h' tk, Fr g L h' m → News g L h' news → Q (.bool (bal 0 ps)) { s with heap := h', toks := tk }) :
   wpAny (model prg w) ((Arr dp un gd outer).deeper env) (call (.ref 74) [.ref l]) Q E s :=
  wpAny_call (balanced_ok (dp := dp + 1) (un := un + 3) (at_in hf hk B F X T) (by k_sizes) (by k_sizes) hl ht fun h' tk k => h _ _ (all_news F N k).1 (all_news F N k).2)
theorem use_paired {l : Addr} {vs : List Value} {ps : List (Int × Int)} (hf : env.frame = some L) (hk : env.scope.kind = .function) (B : Below (Arr dp un gd outer) base outer g) (F : Fr g L s.heap m) (N : News g L s.heap news) (X : (hd.heap_39 w.params).In g) (T : Top topProg looseS mean mg mb g)
   (hl : s.heap.IsList l vs.toArray) (ht : TokL s.heap vs ps) (hz : vs.length ≤ 999) (hdd : dp + 25 < recursionLimit) (hu : un + 110 < cLine)
   (h : ∀ h' tk, Fr g L h' m → News g L h' news → Q (.bool (bal 0 ps)) { s with heap := h', toks := tk }) :
   wpAny (model prg w) ((Arr dp un gd outer).deeper env) (call (.ref 181) [.ref l]) Q E s :=
  wpAny_call (paired_ok (dp := dp + 1) (un := un + 3) (at_in hf hk B F X T) (by k_sizes) (by k_sizes) hl ht hz fun h' tk k => h _ _ (all_news F N k).1 (all_news F N k).2)
def TokR (base : Heap) (tC : Addr) (zs : List Value) (qs : List (Int × Int)) : Prop := ∃ ys ps n, zs = ys ++ List.replicate n (.ref tC) ∧ qs = ps ++ List.replicate n (2, 125) ∧ TokL base ys ps
theorem tokl_rep {h : Heap} {v : Value} {p : Int × Int} (t : TokV h v p) : ∀ n, TokL h (List.replicate n v) (List.replicate n p)
  | 0 => trivial
  | n + 1 => ⟨t, tokl_rep t n⟩
theorem tokl_base {A₁ : Around} {zs : List Value} {qs : List (Int × Int)} (B : Below A₁ base outer g) (F : Fr g L s.heap m) (t : TokL base zs qs) : TokL s.heap zs qs := t.keeps fun b o e => F.keep _ _ (B.stays _ _ e)
theorem tokr_now {A₁ : Around} {tC : Addr} {u1 u2 : Tok} {zs : List Value} {qs : List (Int × Int)} (B : Below A₁ base outer g) (F : Fr g L s.heap m) (N : News g L s.heap news) (t : TokR base tC zs qs)
    (hm : (tC, ({ cls := .type "tuple", data := .seq #[.int 2 u1, .int 125 u2] } : Obj)) ∈ news) : TokL s.heap zs qs := by
  obtain ⟨ys, ps, n, rfl, rfl, t⟩ := t
  exact TokL.append (tokl_rep ⟨tC, u1, u2, rfl, ⟨_, (N _ hm).1, rfl, _, rfl⟩, by unfold okTok leastI greatI; decide⟩ n) (tokl_base B F t)
def IntJ (g : Heap) (L : Addr) (m : Str → Option Value) (news' : Obj → List (Addr × Obj)) (k : Nat) (s : Shared) (v : Value) (s' : Shared) : Prop :=
  ∃ d t h' tk ob', v = .int d t ∧ 1 ≤ d ∧ d ≤ 14 ∧ s' = { s with heap := h', toks := tk } ∧ Fr g L h' m ∧ News g L h' (news' ob') ∧ BoxOk k ob'
theorem if_int {prog : Program} {test body orelse : PySem.Expr} {pos : Pos} (news' : Obj → List (Addr × Obj)) (k : Nat) (F : Fr g L s.heap m)
    (h : wpAny (model prog w) A (isTrue test env (eval test env)) (fun b s₁ => if b then wpAny (model prog w) A (eval body env) (IntJ g L m news' k s) E s₁ else wpAny (model prog w) A (eval orelse env) (IntJ g L m news' k s) E s₁) E s)
    (hQ : ∀ d t h' tk ob', 1 ≤ d → d ≤ 14 → Fr g L h' m → News g L h' (news' ob') → BoxOk k ob' → Q (.int d t) { s with heap := h', toks := tk }) :
    wpAny (model prog w) A (eval (.IfExp test body orelse pos) env) Q E s :=
  wpAny_IfExp (wpAny_mono h (fun b s₁ hb => by
    cases b
    · exact wpAny_mono hb (fun v s' hJ => by obtain ⟨d, t, h', tk, ob', e1, d1, d2, e2, F', N', hk⟩ := hJ; subst e1 e2; exact hQ d t h' tk ob' d1 d2 F' N' hk) fun _ _ e => e
    · exact wpAny_mono hb (fun v s' hJ => by obtain ⟨d, t, h', tk, ob', e1, d1, d2, e2, F', N', hk⟩ := hJ; subst e1 e2; exact hQ d t h' tk ob' d1 d2 F' N' hk) fun _ _ e => e) fun _ _ e => e)
end
inductive BrInv (g : Heap) (L I box : Nat) (s0 : Shared) (i : Nat) (s : Shared) : Prop
  | mk (h : Heap) (tk : Nat) (e : s = { s0 with heap := h, toks := tk }) (f : Str → Option Value) (ob oT oB : Obj) (vT : Option Value) (F : Fr g L h f) (N : News g L h [(I, iterN 6 i), (L + 1 + 1, oT), (L + 1, oB), (box, ob)]) (hb : BoxOk (20 * i) ob) (dT : oT.data = .cell vT) (dB : oB.data = .cell (some (.ref box)))
theorem br_close {g : Heap} {L I box i k : Nat} {s0 : Shared} {gens : Array GenState} {drawn : Drawn} {tk : Nat} {os : OsState} {h : Heap} {F : Str → Option Value} {news : List (Addr × Obj)} {ob oT oB : Obj} {vT : Option Value}
    (eg : gens = s0.gens) (ed : drawn = s0.drawn) (eo : os = s0.os) (FF : Fr g L h F) (NN : News g L h news) (q1 : (I, iterN 6 i) ∈ news) (q2 : (L + 1 + 1, oT) ∈ news) (q3 : (L + 1, oB) ∈ news) (q4 : (box, ob) ∈ news)
    (hb : BoxOk k ob) (hk : k ≤ 20 * i) (d1 : oT.data = .cell vT) (d2 : oB.data = .cell (some (.ref box))) : BrInv g L I box s0 i ⟨h, gens, drawn, tk, os⟩ := by
  subst eg ed eo
  refine ⟨h, tk, rfl, F, ob, oT, oB, vT, FF, fun p hp => ?_, hb.mono hk, d1, d2⟩
  simp only [List.mem_cons, List.not_mem_nil, or_false] at hp
  rcases hp with rfl | rfl | rfl | rfl
  · exact NN _ q1
  · exact NN _ q2
  · exact NN _ q3
  · exact NN _ q4
theorem fresh_SqP6 : True := by w_top off; trivial
section
variable {M : Model} {A : Around} {E : Value → Shared → Prop} {s : Shared} {env : Env} {pos p1 p2 : Pos} {Q : Value → Shared → Prop}
theorem wall_if3 {t : PySem.Expr} {a b : Const} {c d : Nat} (_u : True) (h : Wall (wpAny M A (eval (.IfExp t (.Constant a c p1) (.Constant b d p2) pos) env) Q E s)) : wpAny M A (eval (.IfExp t (.Constant a c p1) (.Constant b d p2) pos) env) Q E s := h
theorem wall_lc {el tg it c : PySem.Expr} {d : Int} {sc : Scope} (_u : True) (h : Wall (wpAny M A (eval (.ListComp el [⟨tg, it, [c], d⟩] sc pos) env) Q E s)) : wpAny M A (eval (.ListComp el [⟨tg, it, [c], d⟩] sc pos) env) Q E s := h
end
local macro_rules | `(tactic| walk_at "eval IfExp") => `(tactic| kspl_eval wall_if3)
local macro_rules | `(tactic| walk_at "eval ListComp") => `(tactic| kspl_eval wall_lc)
local macro_rules | `(tactic| walk_at "call builtin:sum") => `(tactic| cb_end sum_vals)
local macro_rules | `(tactic| walk_at "binaryOp Mult ref int") => `(tactic| (kspl_eval mul_vals; k_keys))
local macro_rules | `(tactic| kbo_open) => `(tactic| k_dflt (first | exact Or.inl (isList_news ‹_› ‹_›) | exact Or.inr ⟨_, (‹News _ _ _ _› _ ‹_›).1, rfl, _, rfl⟩ | exact tokl_base ‹_› ‹_› ‹_› | exact tokr_now ‹_› ‹_› ‹_› ‹_› ‹_›))
local macro_rules | `(tactic| walk_at "call ref") => `(tactic| ((first | (ktf_call 74; k_search (use_balanced ‹_› ‹_› ‹_› ‹_› ‹_› ‹_› ‹_› (by kbo_open) (by kbo_open) ‹_› ‹_› ?_)) | (ktf_call 181; k_search (use_paired ‹_› ‹_› ‹_› ‹_› ‹_› ‹_› ‹_› (isList_news ‹_› ‹_›) (by kbo_open) ‹_› ‹_› ‹_› ?_))); k_invgoal))
section
variable {w : World} {mean : ExcName → Option Value} {mg mb : Str → Option Value} {dp un : Nat} {gd : Option (List Code)} {base : Heap} {outer : List Env} {s : Shared} {R : Result → Shared → Prop}
theorem braces {box : Addr} {ob : Obj} (H : At w mean mg mb dp un gd base outer (hideAll s.heap [box])) (hdd : dp + 60 < recursionLimit) (hu : un + 400 < cLine)
   (XB : (hd.heap_39 w.params).In base) (hob : s.heap.get? box = some ob) (hBox : BoxOk 0 ob)
   (hR : ∀ h' tk ob', (∀ b o, (hideAll s.heap [box]).get? b = some o → h'.get? b = some o) → h'.get? box = some ob' → R (.ok (.ret (.bool true))) { s with heap := h', toks := tk }) :
   codeAny (model prg w) (Arr dp un gd outer) (.call (.ref 198) ⟨[.ref box], []⟩) R s := by
  have sl := sizeLine_eq
  have hX : ∀ p ∈ [(box, ob)], s.heap.get? p.1 = some p.2 := List.forall_mem_cons.mpr ⟨hob, fun _ hp => nomatch hp⟩
  k_dflt (refine' enterC (X := [(box, ob)]) (binds := [(Str.ofString "box", .ref box)]) ?k1 ?kX ?k6 ?k7 ?k8 ?k9 ?kB ?kD ?_ ?c2 ?c3 ?c4; (case k1 => assumption); (case kX => exact hX); (case k6 => k_is); (case k7 => k_is); (case k8 => ktr_room); (case k9 => exact BindsTo.of_eq rfl); (case kB => rfl); (case kD => decide); (case c2 => exact rfl); (case c3 => exact rfl); (case c4 => exact rfl); k_whole)
  intro g L' h1' tk1 cells eg eL F N Y B X T l1
  subst eL
  k_lt l1
  have k1 : @LT.lt Nat _ (box) (s.heap.objs.size + 1) := Nat.lt_succ_of_lt (by k_same)
  have k2_1 : @LT.lt Nat _ (s.heap.objs.size + 1) (s.heap.objs.size + 1 + 1) := Nat.lt_succ_self _
  have k2_2 : @LT.lt Nat _ (box) (s.heap.objs.size + 1 + 1) := Nat.lt_succ_of_lt (by k_same)
  k_cells Y
  (try simp only [List.cons_append, List.nil_append] at N)
  (try dsimp only); (try k_fold)
  k_steps
  rename_i Fo oT oB q1 q2 No hr tkr ta tb tc rr FR NR kR
  clear Fo No
  have lI : ∀ p : Addr × Obj, p ∈ _ → p.1 < hr.objs.size := fun p hp => Heap.lt_size (NR p hp).1
  k_lt lI
  refine wpAny_pyIter_range rr rfl ?_
  refine loop_range (n := 6) (I := hr.objs.size) (BrInv g s.heap.objs.size hr.objs.size box s) rfl ?_ ?_ ?_ ?_ (fun _ => rfl)
  · rintro i s' ⟨h, tk, rfl, f, obi, oTi, oBi, vT, F2, N2, _⟩
    exact (N2 _ (.head _)).1
  · intro i s' hI1 hin HJ hIt hSB
    show wpAny _ _ _ _ _ _
    k_fold
    obtain ⟨h, tk, e, f, obi, oTi, oBi, vT, F2, N2, hb, cT, cB⟩ := HJ
    subst e
    obtain ⟨F3, N3⟩ := upd_news F2 N2 (U := by k_upd) hSB.extBut (iterN_next hIt)
    clear F2 N2 FR NR
    (try dsimp only)
    have hbk : 20 * i + 900 < 1000000 := by omega
    k_steps
    rename Fr _ _ _ _ => FF
    rename News _ _ _ _ => NN
    rename_i many tmany obm bk m0 m1 km em
    show wpAny _ _ (eval _ _) _ _ _
    refine if_int (fun ob' => [(hr.objs.size, iterN 6 (i + 1)), (s.heap.objs.size + 1 + 1, oTi), (s.heap.objs.size + 1, oBi), (box, ob')]) (20 * i + 2) FF ?_ ?_
    · k_steps
      all_goals exact ⟨_, _, _, _, _, rfl, by decide, by decide, rfl, by assumption, by assumption, BoxOk.mono (by assumption) (by k_sizes)⟩
    · intro d t h5 tk5 ob5 d1 d2 F5 N5 b5
      clear FF NN
      (try dsimp only at N5); (try dsimp only)
      (try (show wpAny _ _ _ _ _ _; k_fold))
      k_steps
      rename_i Dt h9 lDt h10 h11 h12 oT2 Fo2 No2 dT2 hr2 tkr2 ta2 tb2 tc2 rr2 FR2 NR2 kR2
      clear Fo2 No2
      obtain ⟨rs1, rs2⟩ := range_small m0 (by k_sizes)
      refine comp_local (fun y => ∃ p, TokV base y p) (n := many.toNat) (k := 20 * i + 2) (box := box) (ob := ob5) b5 rfl rr2 rs1 (by rw [rs2]; omega) FR2 NR2 (fun _ => by k_upd) (by decide) rfl rfl (by k_sizes) rfl rfl rfl ?_ ?_
      · intro C₀ i2 s₂ m₂ o E' hC hi hb2 FC FL N2
        have hm2 : many.toNat < 10 := by omega
        k_steps
        rename_i kk' e' _ _ _ _ tv'
        exact ⟨⟨_, tv'⟩, _, _, _, rfl, kk', e', by assumption⟩
      · intro D0 ys o kk h' tk F2 N2 hDl hlen hF hB
        (try dsimp only at N2); (try k_lt hDl); (try k_sweep)
        have hlen' : ys.length ≤ 9 := by omega
        have hb20 : 20 * i + 2 + many.toNat + 1 ≤ 20 * (i + 1) := by omega
        have hlz : ys.length ≤ 999 := Nat.le_trans hlen' (by decide)
        have hlq : ys.length ≤ 16384 := Nat.le_trans hlen' (by decide)
        obtain ⟨ps, hps⟩ := TokL.of_all hF
        (try dsimp only)
        (try (show wpAny _ _ _ _ _ _; k_fold))
        k_steps
        · rename Fr _ _ _ _ => FF
          rename News _ _ _ _ => NN
          rename BoxOk _ _ => bk
          rename_i tC hC1 lC l5 h7 l5b
          show wpAny _ _ (eval _ _) _ _ _
          refine' eval_compF (fun c => 3 - 2 * c) g ?ecl ?ece ?ek ?en ?ex ?_ ?es
          case ecl => with_unfolding_all rfl
          case ece => decide
          case ek => rfl
          case en => decide
          case ex => rfl
          case es => (intro _; rfl)
          k_steps
          refine' comp_value (vs := ys) (ps := ps) (fe := fun c => 3 - 2 * c) ?vh ?vF ?vN ?vl ?vL ?vE ?vt ?vn ?_ ?_ ?_
          case vh => rfl
          case vF => exact FF
          case vN => exact NN
          case vl => exact isList_news NN (by k_mem)
          case vL => exact (NN (D0, _) (by k_mem)).2.1
          case vE => rfl
          case vt => exact hps.keeps fun b o e => B.stays _ _ e
          case vn => omega
          · intro C a q t1 t2 s₃ m₃ E' it ok FC hm
            rw [m1_self hm] at FC
            have NC : News g C s₃.heap [] := fun _ h => nomatch h
            clear FF NN
            have mk := mark
            k_steps
            show wpAny _ _ (newTuple _) _ _ _
            refine wpAny_newObj_type ?_
            refine in_12 (room2 hu (by decide)) ?_
            refine wpAny_truthy_bool ?_
            exact ⟨rfl, _, _, rfl, fun b o e => Heap.get?_push_of_some _ e⟩
          · intro C a q t1 t2 s₃ m₃ E' it ok FC hm
            rw [m1_self hm] at FC
            have NC : News g C s₃.heap [] := fun _ h => nomatch h
            clear FF NN
            k_steps
            all_goals first | exact ⟨_, _, rfl, fun _ _ e => e⟩ | skip
          · intro D5 rs kk5 h8 tk8 F8 N8 lD8 ers
            have sm := sum_small ers (by rw [List.length_map, ← hps.len]; exact hlen')
            have sm1 := sm.1
            have sm2 := sm.2
            clear FF NN lD8 sm ers
            (try dsimp only)
            (try (show wpAny _ _ _ _ _ _; k_fold))
            k_steps
            rename Fr _ _ _ _ => FF
            rename News _ _ _ _ => NN
            show wpAny _ _ _ _ _ _
            refine add_vals FF NN (isList_news NN (by k_mem)) (isList_news NN (by k_mem)) ?_ (by simp only [List.length_replicate]; omega)
            intro Dz hz Fz Nz lz
            k_lt lz
            clear FF NN
            obtain ⟨nz, enz⟩ : ∃ nz : Nat, nz = (List.sum (List.map (fun (x : Int × Tok) => x.1) rs)).toNat := ⟨_, rfl⟩
            have hn9 : nz ≤ 9 := by omega
            rw [← enz] at Nz
            obtain ⟨zs, ez⟩ : ∃ zs : List Value, zs = ys ++ List.replicate nz (.ref tC) := ⟨_, rfl⟩
            rw [← ez] at Nz
            have zl : zs.length ≤ 18 := by rw [ez, List.length_append, List.length_replicate]; omega
            have zlz : zs.length ≤ 999 := Nat.le_trans zl (by decide)
            have zlq : zs.length ≤ 16384 := Nat.le_trans zl (by decide)
            have tr : TokR base tC zs (ps ++ List.replicate nz (2, 125)) := ⟨ys, ps, nz, ez, rfl, hps⟩
            clear ez hps
            (try dsimp only)
            (try (show wpAny _ _ _ _ _ _; k_fold))
            k_steps
            rename Fr _ _ _ _ => FF
            rename News _ _ _ _ => NN
            exact br_close rfl rfl rfl FF NN (by k_mem) (by k_mem) (by k_mem) (by k_mem) bk (by k_sizes) dT2 cB
        · rename Fr _ _ _ _ => FF
          rename News _ _ _ _ => NN
          rename BoxOk _ _ => bk
          exact br_close rfl rfl rfl FF NN (by k_mem) (by k_mem) (by k_mem) (by k_mem) bk (by k_sizes) dT2 cB
  · intro s' h₁ HJ hx
    obtain ⟨h, tk, e, f, obi, oTi, oBi, vT, F2, N2, hb, cT, cB⟩ := HJ
    subst e
    obtain ⟨F3, N3⟩ := drop_news (news := [(box, obi)]) F2 N2 ⟨_, .head _⟩ hx (by
      refine List.forall_mem_cons.mpr ⟨⟨by k_mem, by show @Ne Nat _ _; k_ne⟩, fun _ h => nomatch h⟩)
    clear F2 N2 FR NR
    (try dsimp only)
    k_steps
    exact hR _ _ _ (eg ▸ F3.keep) (N3 _ (.head _)).1
  · exact br_close rfl rfl rfl (FR.push _) (NR.push FR _) (.head _) (by k_mem) (by k_mem) (by k_mem) hBox (by k_sizes) q1 q2
end
theorem fresh_SqQ : True := by w_top off; trivial
section
variable {w : World} {mean : ExcName → Option Value} {mg mb : Str → Option Value} {dp un : Nat} {gd : Option (List Code)} {base g : Heap} {s : Shared} {L : Addr} {m : Str → Option Value} {env : Env} {news n1 n2 : List (Addr × Obj)} {Q E : Value → Shared → Prop}
theorem hide_fr {Y : List Addr} (F : Fr g L s.heap m) (N : News g L s.heap news) (hY : ∀ a ∈ Y, ∃ o, (a, o) ∈ news) : Fr g L (hideAll s.heap Y) m := by
  have nm : ∀ b o, g.get? b = some o → b ∉ Y := fun b o e q => by
    obtain ⟨o', hp⟩ := hY _ q
    rw [(N _ hp).2.2] at e; cases e
  obtain ⟨oL, es, ep, hL, hLd, hLk, hLf⟩ := F.ns
  have nL : L ∉ Y := fun q => by
    obtain ⟨o', hp⟩ := hY _ q
    exact (N _ hp).2.1 rfl
  exact ⟨⟨oL, es, ep, hideAll_get _ hL nL, hLd, hLk, hLf⟩, fun b o e => hideAll_get _ (F.keep b o e) (nm b o e), F.above⟩
theorem turn_law {h' : Heap} {Y : List Addr} (hf : env.frame = some L) (F : Fr g L s.heap m) (N : News g L s.heap news) (hY : ∀ a ∈ Y, ∃ o, (a, o) ∈ news) (T : Turn ([env].filterMap (·.frame)) (hideAll s.heap Y) h') :
    Fr g L h' m ∧ ∀ p ∈ news, p.1 ∉ Y → h'.get? p.1 = some p.2 := by
  have FH := hide_fr F N hY
  obtain ⟨G, TG, SG⟩ := T
  have ef : [env].filterMap (·.frame) = [L] := by simp [hf]
  rw [ef] at TG
  have gL : g.get? L = none := kts_self F
  refine ⟨⟨?_, fun b o e => SG _ _ (TG.other b o (FH.keep b o e) fun hm => ?_), F.above⟩, fun p hp nY => SG _ _ (TG.other _ _ (hideAll_get _ (N p hp).1 nY) fun hm => (N p hp).2.1 (List.mem_singleton.mp hm))⟩
  · obtain ⟨o, es, ep, ho, hd, r⟩ := FH.ns
    obtain ⟨sl, hs⟩ := TG.frame L o ho (.head _)
    exact ⟨_, es, ep, SG _ _ hs, hd, r⟩
  · rw [List.mem_singleton.mp hm, gL] at e; cases e
theorem news_two {h h' : Heap} {a b : Addr} {oa oa' ob ob' : Obj} (N : News g L h news) (U1 : Upd a oa oa' news n1) (U2 : Upd b ob ob' n1 n2) (k : ∀ p ∈ news, p.1 ∉ [a, b] → h'.get? p.1 = some p.2) (ha : h'.get? a = some oa') (hb : h'.get? b = some ob') : News g L h' n2 := by
  obtain ⟨pre, post, rfl, rfl, _, _⟩ := U1.split
  obtain ⟨pre2, post2, e1, rfl, h1, h2⟩ := U2.split
  have step : ∀ p ∈ pre ++ (a, oa') :: post, p.1 ≠ b → h'.get? p.1 = some p.2 ∧ p.1 ≠ L ∧ g.get? p.1 = none := fun p hp nb => by
    by_cases ea : p.1 = a
    · have : p = (a, oa') ∨ p.1 ≠ a := by
        rename_i x1 x2
        rcases List.mem_append.mp hp with q | q
        · exact .inr (x1 p q)
        · rcases List.mem_cons.mp q with rfl | q
          · exact .inl rfl
          · exact .inr (x2 p q)
      rcases this with rfl | this
      · exact ⟨ha, (N (a, oa) (by simp)).2⟩
      · exact absurd ea this
    · have hp' : p ∈ pre ++ (a, oa) :: post := by
        rcases List.mem_append.mp hp with q | q
        · exact List.mem_append_left _ q
        · rcases List.mem_cons.mp q with rfl | q
          · exact absurd rfl ea
          · exact List.mem_append_right _ (.tail _ q)
      exact ⟨k p hp' (by simp [ea, nb]), (N p hp').2⟩
  have hbm : (b, ob) ∈ pre ++ (a, oa') :: post := by rw [e1]; simp
  intro p hp
  have hp1 : p = (b, ob') ∨ (p ∈ pre2 ++ (b, ob) :: post2 ∧ p.1 ≠ b) := by
    rcases List.mem_append.mp hp with q | q
    · exact .inr ⟨List.mem_append_left _ q, h1 p q⟩
    · rcases List.mem_cons.mp q with rfl | q
      · exact .inl rfl
      · exact .inr ⟨List.mem_append_right _ (.tail _ q), h2 p q⟩
  rcases hp1 with rfl | ⟨hp2, nb⟩
  · refine ⟨hb, ?_⟩
    by_cases ea : b = a
    · subst ea
      exact (N (b, oa) (by simp)).2
    · have hp' : (b, ob) ∈ pre ++ (a, oa) :: post := by
        rcases List.mem_append.mp hbm with q | q
        · exact List.mem_append_left _ q
        · rcases List.mem_cons.mp q with q | q
          · cases q; exact absurd rfl ea
          · exact List.mem_append_right _ (.tail _ q)
      exact (N _ hp').2
  · rw [← e1] at hp2
    exact step p hp2 nb
theorem two_mem {a b : Addr} {oa oa' ob ob' : Obj} (U1 : Upd a oa oa' news n1) (hb : (b, ob) ∈ news) : ∀ y ∈ [a, b], ∃ o, (y, o) ∈ news := fun y hy => by
  simp only [List.mem_cons, List.not_mem_nil, or_false] at hy
  rcases hy with rfl | rfl
  · exact ⟨_, upd_mem U1⟩
  · exact ⟨_, hb⟩
theorem law_feed {nx : Obj → List (Addr × Obj)} {ny : Obj → Array Value → List (Addr × Obj)} {box : Addr} {ob : Obj} (hf : env.frame = some L) (hk : env.scope.kind = .function) (B : Below callerA base [] g) (F : Fr g L s.heap m) (N : News g L s.heap news) (X : (hd.heap_39 w.params).In g) (T : Top topProg looseS mean mg mb g)
   (XB : (hd.heap_39 w.params).In base) (TB : Top topProg looseS mean mg mb base) (hC : CodeHd base 192 190) (ht : (190, tabObj #[]) ∈ news)
   (U1 : ∀ o', Upd box ob o' news (nx o')) (U2 : ∀ o' ps, Upd 190 (tabObj #[]) (tabObj ps) (nx o') (ny o' ps)) (hB : BoxOk 0 ob) (lt : @LT.lt Nat _ 190 box)
   (h : ∀ h' tk o' ps, Fr g L h' m → News g L h' (ny o' ps) → Q (.bool true) { s with heap := h', toks := tk }) :
   wpAny (model prg w) (callerA.deeper env) (call (.ref 193) [.ref box]) Q E s := by
  have hY := two_mem (oa' := ob) (ob' := tabObj #[]) (b := 190) (U1 ob) ht
  refine wpAny_call (feed_right (dp := 1 + claimMargin + 1) (un := 4 + 3) (gd := some []) (outer := [env]) (base := base) (at_hide (dp := 1 + claimMargin) (un := 4) (gd := some []) (outer := []) hf hk B F N X T [box, 190] hY) (by decide) (by decide) XB TB
    (dicts_in (outer := []) hf (hide_fr F N hY) ktsDicts_nil) hC (N _ (upd_mem (U1 ob))).1 hB (N _ ht).1 lt fun h' tk ps o' tn e1 e2 => ?_)
  obtain ⟨F', k⟩ := turn_law hf F N hY tn
  exact h h' tk o' ps F' (news_two N (U1 o') (U2 o' ps) k e2 e1)
theorem law_door {nx : Obj → List (Addr × Obj)} {ny : Obj → Array Value → List (Addr × Obj)} {box : Addr} {ob : Obj} (hf : env.frame = some L) (hk : env.scope.kind = .function) (B : Below callerA base [] g) (F : Fr g L s.heap m) (N : News g L s.heap news) (X : (hd.heap_39 w.params).In g) (T : Top topProg looseS mean mg mb g)
   (XB : (hd.heap_39 w.params).In base) (TB : Top topProg looseS mean mg mb base) (hC : CodeHd base 202 200) (ht : (200, tabObj #[]) ∈ news)
   (U1 : ∀ o', Upd box ob o' news (nx o')) (U2 : ∀ o' ps, Upd 200 (tabObj #[]) (tabObj ps) (nx o') (ny o' ps)) (hB : BoxOk 0 ob) (lt : @LT.lt Nat _ 200 box)
   (h : ∀ h' tk o' ps, Fr g L h' m → News g L h' (ny o' ps) → Q (.bool true) { s with heap := h', toks := tk }) :
   wpAny (model prg w) (callerA.deeper env) (call (.ref 203) [.ref box]) Q E s := by
  have hY := two_mem (oa' := ob) (ob' := tabObj #[]) (b := 200) (U1 ob) ht
  refine wpAny_call (door (dp := 1 + claimMargin + 1) (un := 4 + 3) (gd := some []) (outer := [env]) (base := base) (at_hide (dp := 1 + claimMargin) (un := 4) (gd := some []) (outer := []) hf hk B F N X T [box, 200] hY) (by decide) (by decide) XB TB
    (dicts_in (outer := []) hf (hide_fr F N hY) ktsDicts_nil) hC (N _ (upd_mem (U1 ob))).1 hB (N _ ht).1 lt fun h' tk ps o' tn e1 e2 => ?_)
  obtain ⟨F', k⟩ := turn_law hf F N hY tn
  exact h h' tk o' ps F' (news_two N (U1 o') (U2 o' ps) k e2 e1)
theorem law_braces {nx : Obj → List (Addr × Obj)} {box : Addr} {ob : Obj} (hf : env.frame = some L) (hk : env.scope.kind = .function) (B : Below callerA base [] g) (F : Fr g L s.heap m) (N : News g L s.heap news) (X : (hd.heap_39 w.params).In g) (T : Top topProg looseS mean mg mb g)
   (XB : (hd.heap_39 w.params).In base) (U1 : ∀ o', Upd box ob o' news (nx o')) (hB : BoxOk 0 ob)
   (h : ∀ h' tk o', Fr g L h' m → News g L h' (nx o') → Q (.bool true) { s with heap := h', toks := tk }) :
   wpAny (model prg w) (callerA.deeper env) (call (.ref 198) [.ref box]) Q E s := by
  have hY : ∀ y ∈ [box], ∃ o, (y, o) ∈ news := fun y hy => by rw [List.mem_singleton.mp hy]; exact ⟨_, upd_mem (U1 ob)⟩
  refine wpAny_call (braces (dp := 1 + claimMargin + 1) (un := 4 + 3) (gd := some []) (outer := [env]) (base := base) (at_hide (dp := 1 + claimMargin) (un := 4) (gd := some []) (outer := []) hf hk B F N X T [box] hY) (by decide) (by decide) XB
    (N _ (upd_mem (U1 ob))).1 hB fun h' tk o' kp e => ?_)
  obtain ⟨F', N'⟩ := upd_news F N (U1 o') (fun b o nb q => kp b o (hideAll_get _ q (by simpa using nb))) e
  exact h h' tk o' F' N'
end
end walks
theorem fresh_SqY1 : True := by w_top off; trivial
open PySem PySem.W PyProof.Rows PySem.Calls Builtin.ObjectAttr
def NewBox (s₂ : Shared) (y : Value) (s₃ : Shared) : Prop :=
  ∃ a o h' tk, y = .ref a ∧ s₃ = { s₂ with heap := h', toks := tk } ∧ (∀ b q, s₂.heap.get? b = some q → h'.get? b = some q) ∧ s₂.heap.get? a = none ∧ h'.get? a = some o ∧ BoxOk 0 o ∧ @LT.lt Nat _ 200 a
def Boxes (h0 : Heap) (av : List Addr) (bs : List (Addr × Obj)) (h : Heap) : Prop :=
  (∀ p ∈ bs, h.get? p.1 = some p.2 ∧ BoxOk 0 p.2 ∧ @LT.lt Nat _ 200 p.1 ∧ h0.get? p.1 = none ∧ p.1 ∉ av) ∧ (bs.map (·.1)).Nodup
theorem Boxes.snoc {h0 : Heap} {av : List Addr} {bs : List (Addr × Obj)} {h h' : Heap} {a : Addr} {o : Obj} (x : Boxes h0 av bs h) (k : ∀ p ∈ bs, h.get? p.1 = some p.2 → h'.get? p.1 = some p.2) (na : ∀ p ∈ bs, p.1 ≠ a)
    (e : h'.get? a = some o) (hb : BoxOk 0 o) (lt : @LT.lt Nat _ 200 a) (h0a : h0.get? a = none) (av' : a ∉ av) : Boxes h0 av (bs ++ [(a, o)]) h' := by
  refine ⟨fun p hp => ?_, ?_⟩
  · rcases List.mem_append.mp hp with q | q
    · exact ⟨k p q (x.1 p q).1, (x.1 p q).2⟩
    · rw [List.mem_singleton.mp q]; exact ⟨e, hb, lt, h0a, av'⟩
  · rw [List.map_append, List.nodup_append]
    refine ⟨x.2, by simp, fun c hc d hd => ?_⟩
    obtain ⟨p, hp, rfl⟩ := List.mem_map.mp hc
    rw [List.map_singleton, List.mem_singleton] at hd
    subst hd
    exact na p hp
theorem Boxes.move {h0 : Heap} {av : List Addr} {bs : List (Addr × Obj)} {h h' : Heap} (x : Boxes h0 av bs h) (k : ∀ p ∈ bs, h.get? p.1 = some p.2 → h'.get? p.1 = some p.2) : Boxes h0 av bs h' :=
  ⟨fun p hp => ⟨k p hp (x.1 p hp).1, (x.1 p hp).2⟩, x.2⟩
inductive NewsLoop (s : Shared) (St : Nat → Heap → Prop) (D C I : Addr) (n k : Nat) (s' : Shared) : Prop
  | mk (h' : Heap) (tk : Nat) (m' : Str → Option Value) (bs : List (Addr × Obj)) (e : s' = { s with heap := h', toks := tk }) (hs : St bs.length h') (ha : h'.PlainList D (bs.map fun p => Value.ref p.1).toArray) (hn : h'.Ns C m') (hB : Boxes s.heap [C, I, D] bs h') (hi : bs.length ≤ n) (hk : k = n + 1 - bs.length)
      (ho : ∀ b o, b ≠ C → b ≠ I → b ≠ D → s.heap.get? b = some o → h'.get? b = some o)
section
variable {prog : Program} {w : World} {A : Around} {R : Result → Shared → Prop} {E : Value → Shared → Prop} {s : Shared}
theorem compLoop_news {elt iter : PySem.Expr} {x : Str} {px : Pos} {scope : Scope} {pos : Pos} {I D : Addr} {n : Nat} {P : Nat → Value → Prop} {St : Nat → Heap → Prop} {cenv : Env} {m : Str → Option Value}
    (W : Walks prog w A I [I] [I] n P St) (hI : ∀ i h, St i h → ∃ o, h.get? I = some o)
    (hx : cenv.kindOf x = some .local) (hp : (cenv.scope.kind == .class || (cenv.scope.kind == .module && cenv.locals != cenv.globals)) = false)
    (hDC : D ≠ cenv.locals) (hDI : D ≠ I) (hCI : cenv.locals ≠ I)
    (hst : St 0 s.heap) (hacc : s.heap.PlainList D #[]) (hn : s.heap.Ns cenv.locals m)
    (helt : ∀ i v s₂ m₂, i < n → P i v → s₂.heap.Ns cenv.locals m₂ → m₂ x = some v → (∀ b o, b ≠ cenv.locals → b ≠ I → b ≠ D → s.heap.get? b = some o → s₂.heap.get? b = some o) →
      wpAny (model prog w) A (eval elt cenv) (NewBox s₂) (notedBy (model prog w) A cenv fun e s' => R (.error e) s') s₂)
    (hR : ∀ h' tk m' (bs : List (Addr × Obj)), h'.Ns cenv.locals m' → h'.PlainList D (bs.map fun p => Value.ref p.1).toArray → bs.length = n → Boxes s.heap [cenv.locals, I, D] bs h' → (∀ b o, b ≠ cenv.locals → b ≠ I → b ≠ D → s.heap.get? b = some o → h'.get? b = some o) → R (.ok .next) { s with heap := h', toks := tk })
    (hsz : n ≤ sizeLine) : codeAny (model prog w) A (.compLoop (.ListComp elt [⟨.Name x px, iter, [], 0⟩] scope pos) 0 (.ref I) (.ref D) cenv) R s := by
  refine codeAny_compLoop_list
    (NewsLoop s St D cenv.locals I n) ?_ (n + 1)
    ⟨s.heap, s.toks, m, [], rfl, hst, hacc, hn, ⟨fun _ h => (nomatch h), List.nodup_nil⟩, Nat.zero_le _, rfl, fun _ _ _ _ _ e => e⟩
  rintro k s' ⟨H, tk, m', bs, rfl, hst', hacc', hn', hB, hi, rfl, hk⟩
  have off : ∀ p ∈ bs, p.1 ≠ cenv.locals ∧ p.1 ≠ I ∧ p.1 ≠ D := fun p hp => by
    have := (hB.1 p hp).2.2.2.2
    simp only [List.mem_cons, List.not_mem_nil, or_false, not_or] at this
    exact this
  by_cases hlt : bs.length < n
  · refine W.item bs.length _ _ _ hlt hst' fun v h₁ tk₁ hPv hst₁ hk₁ => ?_
    refine wpAny_assign_Name (wpAny_storeName_local hx (hn'.at' fun o e => hk₁ _ o (by simpa using hCI) e) (fun h₂ hn₂ hs₂ => ?_) hp)
    have up₂ : ∀ b o, b ≠ cenv.locals → b ≠ I → H.get? b = some o → h₂.get? b = some o := fun b o hbC hbI e => hs₂.extBut b o hbC (hk₁ b o (by simpa using hbI) e)
    have hst₂ : St (bs.length + 1) h₂ := W.frame _ _ _ hst₁ fun b hb o e => hs₂.extBut b o (fun h => hCI (by rw [← h]; exact List.mem_singleton.mp hb)) e
    refine wpAny_mono (helt bs.length v _ _ hlt hPv hn₂ (by simp) (fun b o h1 h2 h3 e => up₂ b o h1 h2 (hk b o h1 h2 h3 e))) (fun y s₄ h₄ => ?_) fun _ _ e => e
    obtain ⟨a, o, h₄, tk₄, rfl, rfl, hk₄, fa, ea, hb, lt⟩ := h₄
    have hys : (bs.map fun p => Value.ref p.1).toArray.size ≤ sizeLine := by simpa using Nat.le_trans hi hsz
    have aC : a ≠ cenv.locals := fun z => by
      obtain ⟨oC, _, _, hC, _⟩ := hn₂
      rw [z, hC] at fa; cases fa
    have aI : a ≠ I := fun z => by
      obtain ⟨oI, hI'⟩ := hI _ _ hst₂
      rw [z, hI'] at fa; cases fa
    have aD : a ≠ D := fun z => by
      obtain ⟨kk, hD⟩ := hacc'
      have := up₂ D _ hDC hDI hD
      rw [z, this] at fa; cases fa
    have ab : ∀ p ∈ bs, p.1 ≠ a := fun p hp z => by
      have := up₂ p.1 p.2 (off p hp).1 (off p hp).2.1 (hB.1 p hp).1
      rw [z, fa] at this; cases this
    have a0 : s.heap.get? a = none := by
      cases q : s.heap.get? a with
      | none => rfl
      | some oo =>
        have := up₂ a oo aC aI (hk a oo aC aI aD q)
        rw [fa] at this; cases this
    refine wpAny_list_append_plain (hsz := hys) (hacc'.at fun o e => hk₄ _ o (up₂ D o hDC hDI e)) fun h₅ hl₅ hs₅ => ?_
    refine ⟨n + 1 - (bs.length + 1), by omega, h₅, tk₄, _, bs ++ [(a, o)], rfl, ?_, ?_, (hn₂.at' fun o e => hs₅.extBut _ o (Ne.symm hDC) (hk₄ _ o e)), ?_, ?_, ?_, ?_⟩
    · have := W.frame _ _ h₅ hst₂ fun b hb o e => hs₅.extBut b o (fun h => hDI (by rw [← h]; exact List.mem_singleton.mp hb)) (hk₄ b o e)
      simpa using this
    · simpa using hl₅
    · exact hB.snoc (fun p hp e => hs₅.extBut _ _ (off p hp).2.2 (hk₄ _ _ (up₂ _ _ (off p hp).1 (off p hp).2.1 e))) ab (hs₅.extBut _ _ aD ea) hb lt a0 (by simp [aC, aI, aD])
    · simp; omega
    · simp
    · exact fun b o h1 h2 h3 e => hs₅.extBut b o h3 (hk₄ b o (up₂ b o h1 h2 (hk b o h1 h2 h3 e)))
  · have hin : bs.length = n := by omega
    refine W.done _ _ _ (hin ▸ hst') fun h₁ tk₁ hk₁ => ?_
    exact hR h₁ tk₁ m' bs (hn'.at' fun o e => hk₁ _ o (by simpa using hCI) e) (hacc'.at fun o e => hk₁ _ o (by simpa using hDI) e) hin (hB.move fun p hp e => hk₁ _ _ (by simpa using (off p hp).2.1) e) (fun b o h1 h2 h3 e => hk₁ b o (by simpa using h2) (hk b o h1 h2 h3 e))
theorem comp_block_news {env : Env} {elt iter : PySem.Expr} {x : Str} {px : Pos} {scope : Scope} {cl : List (Str × Addr)} {pos : Pos} {I : Addr} {n : Nat} {P : Nat → Value → Prop} {St : Nat → Heap → Prop}
    (W : Walks prog w A I [I] [I] n P St) (hIx : ∀ i h, St i h → ∃ o, h.get? I = some o) {RR : Value → Addr → Result → Shared → Prop}
    (hcell : ∀ y ∈ scope.names, y.2 ≠ .cell) (hkind : scope.kind = .function) (hx : scope.names.lookup x = some .local) (hst : St 0 s.heap) (hI : I < s.heap.objs.size)
    (helt : ∀ C i v s₂ m₂ E', s.heap.objs.size ≤ C → i < n → P i v → s₂.heap.Ns C m₂ → m₂ x = some v → (∀ b o, b ≠ I → s.heap.get? b = some o → s₂.heap.get? b = some o) →
      wpAny (model prog w) A (eval elt (compEnvC scope cl C env)) (NewBox s₂) E' s₂)
    (hRR : ∀ D C h' tk m' (bs : List (Addr × Obj)) k, s.heap.objs.size ≤ D → s.heap.get? C = none → D ≠ C → h'.Ns C m' → h'.get? D = some (listOf (bs.map fun p => Value.ref p.1).toArray k) → bs.length = n → Boxes s.heap [C, I, D] bs h' →
      (∀ b o, b ≠ I → s.heap.get? b = some o → h'.get? b = some o) → RR (.ref D) C (.ok .next) { s with heap := h', toks := tk })
    (hsz : n ≤ sizeLine) :
    wpAny (model prog w) A (newList []) (fun acc s₃ => wpAny (model prog w) A (newFunctionEnv scope env.globals cl [] env.qual none .none (some env)) (fun cenv s₄ =>
      codeAny (model prog w) A (.compStart (.ListComp elt [⟨.Name x px, iter, [], 0⟩] scope pos) 0 (.ref I) acc { cenv with scope := relabel scope env }) (RR acc cenv.locals) s₄) E s₃) E s := by
  refine wpAny_newObj_type (wpAny_newFunctionEnv hcell (by intro y hy; simp at hy) (fun h₁ hns₁ hsb₁ => ?_) hkind)
  dsimp only at hns₁ hsb₁ ⊢
  generalize hH2 : s.heap.push { cls := .type "list", dict := none, data := .seq ([] : List Value).toArray } = H2 at hns₁ hsb₁ ⊢
  have hC : H2.objs.size = s.heap.objs.size + 1 := by rw [← hH2, Heap.size_push]
  have hDC : s.heap.objs.size ≠ H2.objs.size := by rw [hC]; exact Nat.ne_of_lt (Nat.lt_succ_self _)
  have hCle : s.heap.objs.size ≤ H2.objs.size := by rw [hC]; exact Nat.le_succ _
  have below : ∀ b, b < s.heap.objs.size → b ≠ H2.objs.size ∧ b ≠ s.heap.objs.size := fun b hb => ⟨by rw [hC]; exact Nat.ne_of_lt (Nat.lt_succ_of_lt hb), Nat.ne_of_lt hb⟩
  have old : ∀ b o, s.heap.get? b = some o → h₁.get? b = some o := fun b o e => hsb₁.extBut b o (below b (Heap.lt_size e)).1 (Heap.get?_push_of_some _ (hH2 ▸ Heap.get?_push_of_some _ e))
  have hacc : h₁.PlainList s.heap.objs.size #[] := ⟨_, hsb₁.extBut _ _ hDC (Heap.get?_push_of_some _ (hH2 ▸ Heap.get?_push_size _ rfl))⟩
  have hst₁ : St 0 h₁ := W.frame _ _ _ hst fun b _ o e => old b o e
  have fresh : ∀ a, s.heap.objs.size ≤ a → s.heap.get? a = none := fun a ha => by
    cases e : s.heap.get? a with
    | none => rfl
    | some o' => exact absurd (Heap.lt_size e) (Nat.not_lt.mpr ha)
  have fall : ∀ a, h₁.get? a = none → s.heap.get? a = none := fun a ha => by
    cases e : s.heap.get? a with
    | none => rfl
    | some o' => rw [old a o' e] at ha; cases ha
  have loop : ∀ s₃ : Shared, s₃ = { s with heap := h₁, toks := s.toks + ([] : List (Str × Value)).length } →
      codeAny (model prog w) A (.compLoop (.ListComp elt [⟨.Name x px, iter, [], 0⟩] scope pos) 0 (.ref I) (.ref s.heap.objs.size) (compEnvC scope cl H2.objs.size env))
        (RR (.ref s.heap.objs.size) H2.objs.size) s₃ := by
    rintro s₃ rfl
    refine compLoop_news (hsz := hsz) (cenv := compEnvC scope cl H2.objs.size env) W hIx (lookup_relabel_local hx) (by simp [compEnvC, relabel, hkind]) hDC (Ne.symm (below I hI).2) (Ne.symm (below I hI).1) hst₁ hacc hns₁
      (fun i v s₂ m₂ hi hv hn hm hk => helt _ i v s₂ m₂ _ hCle hi hv hn hm (fun b o h1 e => hk b o (below b (Heap.lt_size e)).1 h1 (below b (Heap.lt_size e)).2 (old b o e))) fun h' tk m' bs hn ⟨kk, ha⟩ hlen hB hk => ?_
    exact hRR _ _ h' tk m' bs kk (Nat.le_refl _) (fresh _ (by rw [hC]; exact Nat.le_succ _)) hDC hn ha hlen ⟨fun p hp => ⟨(hB.1 p hp).1, (hB.1 p hp).2.1, (hB.1 p hp).2.2.1, fall _ (hB.1 p hp).2.2.2.1, (hB.1 p hp).2.2.2.2⟩, hB.2⟩ (fun b o h1 e => hk b o (below b (Heap.lt_size e)).1 h1 (below b (Heap.lt_size e)).2 (old b o e))
  exact codeAny_compStart_list (loop _ rfl) (W.self 0 _ _ _ hst₁ (loop _ rfl))
end
section
variable {prog : Program} {w : World} {mean : ExcName → Option Value} {mg mb : Str → Option Value} {A : Around} {g : Heap} {s : Shared} {L : Addr} {m : Str → Option Value} {env : Env} {news : List (Addr × Obj)} {E : Value → Shared → Prop}
theorem comp_boxes {Q : Value → Shared → Prop} {y : Str} {py : Pos} {elt iter : PySem.Expr} {x : Str} {px : Pos} {scope : Scope} {cl : List (Str × Addr)} {pos : Pos} {r : Addr} {n : Nat} {b₀ : Int} {t₀ u₀ v₀ : Tok}
    (hh : A.handled = none) (hr : IsRange s.heap r 0 b₀ 1 t₀ u₀ v₀) (hsmall : Builtin.Range.small 0 b₀ 1 = true) (hsz : Builtin.Range.rangeSize 0 b₀ 1 = (n : Int)) (F : Fr g L s.heap m) (N : News g L s.heap news)
    (hcell : ∀ y ∈ scope.names, y.2 ≠ .cell) (hkind : scope.kind = .function) (hx : scope.names.lookup x = some .local) (hn : n ≤ sizeLine) (hL : env.locals = L)
    (hy : env.kindOf y = some .local) (hp : (env.scope.kind == .class || (env.scope.kind == .module && env.locals != env.globals)) = false)
    (helt : ∀ C i (s₂ : Shared) m₂ E' t, i < n → Fr g C s₂.heap m₂ → m₂ x = some (.int (i : Nat) t) → Fr g L s₂.heap m → News g L s₂.heap news →
      wpAny (model prog w) A (eval elt (compEnvC scope cl C env)) (NewBox s₂) E' s₂)
    (hQ : ∀ D (bs : List (Addr × Obj)) kk h' tk, Fr g L h' (fun z => if z = y then some (.ref D) else m z) → News g L h' (bs ++ (D, listOf (bs.map fun p => Value.ref p.1).toArray kk) :: news) → (∀ p ∈ news, p.1 < D) → bs.length = n → (∀ p ∈ bs, BoxOk 0 p.2 ∧ @LT.lt Nat _ 200 p.1 ∧ p.1 ≠ D ∧ ∀ q ∈ news, p.1 ≠ q.1) → (bs.map (·.1)).Nodup → Q .none { s with heap := h', toks := tk }) :
    wpAny (model prog w) A (pyIter (.ref r)) (CompRun (model prog w) A elt iter x px scope cl pos env E (compPost (model prog w) A E (some (assign (.Name y py) env)) Q)) E s := by
  refine wpAny_pyIter_range hr hsmall ?_
  subst hL
  have W : Walks prog w A s.heap.objs.size [s.heap.objs.size] [s.heap.objs.size] n (fun i v => i < n ∧ ∃ t, v = .int (0 + i * 1) t)
      (fun i h => IsRangeIter h s.heap.objs.size (0 + (i : Nat) * 1) ((n : Int) - (i : Nat)) 1) := (Walks.range hh _ 0 1 n).bound
  have up : ∀ h' : Heap, (∀ b o, b ≠ s.heap.objs.size → (s.heap.push { cls := .type "range_iterator", data := .fields #[.int 0 0, .int (Builtin.Range.rangeSize 0 b₀ 1) 0, .int 1 0] }).get? b = some o → h'.get? b = some o) → Fr g env.locals h' m ∧ News g env.locals h' news := fun h' kk =>
    all_news F N (fun b o q => kk b o (Nat.ne_of_lt (Heap.lt_size q)) (Heap.get?_push_of_some _ q))
  have gs : g.objs.size ≤ s.heap.objs.size := Nat.le_trans F.above (Nat.le_of_lt F.ns.lt)
  have fresh : ∀ a, (s.heap.push { cls := .type "range_iterator", data := .fields #[.int 0 0, .int (Builtin.Range.rangeSize 0 b₀ 1) 0, .int 1 0] }).get? a = none → (∀ p ∈ news, p.1 ≠ a) ∧ a ≠ env.locals ∧ g.get? a = none := fun a e => by
    refine ⟨fun p hp z => ?_, fun z => ?_, ?_⟩
    · have := Heap.get?_push_of_some { cls := .type "range_iterator", data := .fields #[.int 0 0, .int (Builtin.Range.rangeSize 0 b₀ 1) 0, .int 1 0] } (N p hp).1
      rw [z, e] at this; cases this
    · obtain ⟨o, _, _, ho, _⟩ := F.ns
      have := Heap.get?_push_of_some { cls := .type "range_iterator", data := .fields #[.int 0 0, .int (Builtin.Range.rangeSize 0 b₀ 1) 0, .int 1 0] } ho
      rw [← z, e] at this; cases this
    · cases q : g.get? a with
      | none => rfl
      | some o =>
        have := Heap.get?_push_of_some { cls := .type "range_iterator", data := .fields #[.int 0 0, .int (Builtin.Range.rangeSize 0 b₀ 1) 0, .int 1 0] } (F.keep _ _ q)
        rw [e] at this; cases this
  refine comp_block_news (s := { s with heap := _ }) W (fun i h e => ⟨_, e⟩) hcell hkind hx (by show IsRangeIter _ _ _ _ _; rw [hsz]; simpa using Heap.get?_push_size _ rfl) (by rw [Heap.size_push]; exact Nat.lt_succ_self _) ?_ ?_ hn
  · intro C i v s₂ m₂ E' hC hi hP hns hm kk
    obtain ⟨_, t, rfl⟩ := hP
    obtain ⟨F2, N2⟩ := up s₂.heap kk
    refine helt C i s₂ m₂ E' t hi ⟨hns, F2.keep, Nat.le_trans gs (Nat.le_trans (Nat.le_of_lt (by rw [Heap.size_push]; exact Nat.lt_succ_self _)) hC)⟩ ?_ F2 N2
    rw [hm]; congr 2; omega
  · intro D C h' tk m' bs kk hD hC hDC hns hDo hlen hB kp
    obtain ⟨F2, N2⟩ := up h' kp
    obtain ⟨fD1, fD2, fD3⟩ := fresh D (Heap.get?_none_of_le hD)
    have fD0 : ∀ p ∈ news, p.1 < D := fun p hp => Nat.lt_of_lt_of_le (Heap.lt_size (Heap.get?_push_of_some { cls := .type "range_iterator", data := .fields #[.int 0 0, .int (Builtin.Range.rangeSize 0 b₀ 1) 0, .int 1 0] } (N p hp).1)) hD
    obtain ⟨fC1, fC2, fC3⟩ := fresh C hC
    have off : ∀ p ∈ bs, p.1 ≠ C ∧ p.1 ≠ D := fun p hp => by
      have := (hB.1 p hp).2.2.2.2
      simp only [List.mem_cons, List.not_mem_nil, or_false, not_or] at this
      exact ⟨this.1, this.2.2⟩
    show wpAny _ A (assign (.Name y py) env (.ref D)) _ _ _
    refine wpAny_assign_Name (wpAny_storeName_local hy F2.ns (fun h₂ hn₂ hs₂ => ?_) hp)
    have F3 := F2.set hn₂ hs₂
    have N3 : News g env.locals h₂ (bs ++ (D, listOf (bs.map fun p => Value.ref p.1).toArray kk) :: news) := by
      intro p hp
      rcases List.mem_append.mp hp with q | q
      · obtain ⟨e, _, _, e0, _⟩ := hB.1 p q
        obtain ⟨_, f2, f3⟩ := fresh p.1 e0
        exact ⟨hs₂.extBut _ _ f2 e, f2, f3⟩
      · rcases List.mem_cons.mp q with rfl | q
        · exact ⟨hs₂.extBut _ _ fD2 hDo, fD2, fD3⟩
        · exact N2.set hs₂ p q
    refine ⟨m', hns.sameBut hs₂ fC2, fun h'' hs => ?_⟩
    have hn2 : ∀ p ∈ bs ++ (D, listOf (bs.map fun p => Value.ref p.1).toArray kk) :: news, p.1 ≠ C := fun p hp => by
      rcases List.mem_append.mp hp with q | q
      · exact (off p q).1
      · rcases List.mem_cons.mp q with rfl | q
        · exact hDC
        · exact fC1 p q
    obtain ⟨F4, N4⟩ := news_at F3 N3 fC2 hn2 fC3 hs
    exact hQ D bs kk h'' _ F4 N4 fD0 hlen (fun p hp => ⟨(hB.1 p hp).2.1, (hB.1 p hp).2.2.1, (off p hp).2, fun q hq => Ne.symm ((fresh p.1 (hB.1 p hp).2.2.2.1).1 q hq)⟩) hB.2
end
theorem fresh_SqY2 : True := by w_top off; trivial
def fA (v y : Value) : Prop := ∃ c t0 d t, v = .int c t0 ∧ y = .int d t
theorem paired_ints : ∀ {vs ys : List Value}, Paired fA vs ys → ∃ rs : List (Int × Tok), ys = intsV rs
  | _, _, .nil => ⟨[], rfl⟩
  | _, _, .cons a b => by
    obtain ⟨rs, e⟩ := paired_ints b
    obtain ⟨_, _, d, t, _, rfl⟩ := a
    exact ⟨(d, t) :: rs, by rw [e]; rfl⟩
def CompN (prog : Program) (w : World) (A : Around) (env : Env) (scope : Scope) (cl : List (Str × Addr)) (x : Str) (elt : PySem.Expr) (Q : Value → Shared → Prop) (it : Value) (s₂ : Shared) : Prop :=
  ∃ I fp wr n P St, it = .ref I ∧ Walks prog w A I fp wr n P St ∧ n ≤ sizeLine ∧ St 0 s₂.heap ∧ (∀ b ∈ fp, b < s₂.heap.objs.size) ∧
      QuietOnC prog w A env scope cl x [] elt wr P (fun _ => true) fA s₂ ∧
      (∀ D h' tk ys (vs : List Value), s₂.heap.get? D = none → h'.IsList D ys → h'.PlainList D ys → vs.length = n → (∀ j v, vs[j]? = some v → P j v) → Paired fA (vs.filter fun _ => true) ys.toList →
        (∀ b o, b ∉ wr → s₂.heap.get? b = some o → h'.get? b = some o) → Q (.ref D) { s₂ with heap := h', toks := tk })
section
variable {prog : Program} {w : World} {A : Around} {E : Value → Shared → Prop} {env : Env} {g : Heap} {L : Addr} {m : Str → Option Value} {news : List (Addr × Obj)}
theorem eval_compN {s : Shared} {elt iter : PySem.Expr} {x : Str} {px : Pos} {scope : Scope} {cl : List (Str × Addr)} {pos : Pos} {Q : Value → Shared → Prop}
    (hclos : closureFor scope env = pure cl) (hcell : ∀ z ∈ scope.names, z.2 ≠ .cell) (hkind : scope.kind = .function)
    (hnames : ∀ z ∈ scope.names, z.2 = .local → scope.names.lookup z.1 = some .local) (hx : scope.names.lookup x = some .local)
    (h : wpAny (model prog w) A (eval iter env) (fun xv s₁ => wpAny (model prog w) A (pyIter xv) (CompN prog w A env scope cl x elt Q) E s₁) E s)
    (hs : ∀ x, foldedSetIterable iter env x = pure x) :
    wpAny (model prog w) A (eval (.ListComp elt [⟨.Name x px, iter, [], 0⟩] scope pos) env) Q E s :=
  wpAny_ListComp_free (fun _ => true) fA hclos hcell hkind hnames hx h hs
theorem ints_get : ∀ {vs : List Value} {ns : List Int}, IntsAre vs ns → ∀ {i : Nat} {v : Value}, vs[i]? = some v → ∃ c t, v = .int c t := fun hi i v e => by
  obtain ⟨c, t, e'⟩ := hi.allInts v (by simpa using List.mem_of_getElem? e)
  exact ⟨c, t, e'⟩
theorem comp_ints {s : Shared} {l : Addr} {vs : List Value} {ns : List Int} {Q : Value → Shared → Prop} {elt : PySem.Expr} {x : Str} {scope : Scope} {cl : List (Str × Addr)} (hh : A.handled = none) (F : Fr g L s.heap m) (N : News g L s.heap news) (hl : s.heap.IsList l vs.toArray) (hi : IntsAre vs ns)
    (hL : env.locals = L) (hn : vs.length ≤ sizeLine)
    (helt : ∀ (C : Addr) (c : Int) (t0 : Tok) (s₃ : Shared) m₃ E', Fr g C s₃.heap m₃ → m₃ x = some (.int c t0) →
      wpAny (model prog w) A (eval elt (compEnvC scope cl C env)) (fun y s₄ => (∃ d t, y = .int d t) ∧ Keeps s₃ s₄) E' s₃)
    (hQ : ∀ D (rs : List (Int × Tok)) kk h' tk, Fr g L h' m → News g L h' ((D, listOf (intsV rs).toArray kk) :: news) → Q (.ref D) { s with heap := h', toks := tk }) :
    wpAny (model prog w) A (pyIter (.ref l)) (CompN prog w A env scope cl x elt Q) E s := by
  subst hL
  have hlt : l < s.heap.objs.size := by obtain ⟨_, e, _⟩ := hl; exact Heap.lt_size e
  have ni : ∀ b o, s.heap.get? b = some o → b ∉ [s.heap.objs.size] := fun b o e hb => by
    rw [List.mem_singleton.mp hb] at e; exact Nat.lt_irrefl _ (Heap.lt_size e)
  refine wpAny_pyIter_list hl ?_
  have up1 : ∀ b o, s.heap.get? b = some o → (s.heap.push { cls := .type "list_iterator", data := .fields #[.ref l, .int 0 0] }).get? b = some o := fun b o e => Heap.get?_push_of_some _ e
  refine ⟨s.heap.objs.size, [s.heap.objs.size, l], [s.heap.objs.size], vs.toArray.size, _, _, rfl, Walks.list hh _ l (Nat.ne_of_lt hlt) vs.toArray, by simpa using hn, ⟨⟨_, Heap.get?_push_size _ rfl, rfl, rfl⟩, hl.at fun o e => Heap.get?_push_of_some _ e⟩, ?_, ?_, ?_⟩
  · intro b hb
    rw [Heap.size_push]
    rcases List.mem_cons.mp hb with rfl | hb
    · exact Nat.lt_succ_self _
    · rw [List.mem_singleton.mp hb]; exact Nat.lt_succ_of_lt hlt
  · refine ⟨fun C i v s₃ m₃ E' hC hP hns hm hk _ => ?_, fun C i v s₃ m₃ E' hC hP _ hns hm hk _ => ?_⟩
    · simp only [List.forIn_nil]
      exact wpAny_pure ⟨rfl, _, _, rfl, fun _ _ e => e⟩
    · obtain ⟨c, t0, rfl⟩ := ints_get hi (by simpa using hP)
      have FC : Fr g C s₃.heap m₃ := ⟨hns, fun b o e => hk b o (ni b o (F.keep _ _ e)) (up1 b o (F.keep _ _ e)), Nat.le_trans (Nat.le_trans F.above (Nat.le_of_lt F.ns.lt)) (Nat.le_trans (by rw [Heap.size_push]; exact Nat.le_succ _) hC)⟩
      refine wpAny_mono (helt C c t0 s₃ m₃ E' FC hm) (fun y s₄ h => ⟨?_, h.2⟩) fun _ _ e => e
      obtain ⟨d, t, rfl⟩ := h.1
      exact ⟨c, t0, d, t, rfl, rfl⟩
  · intro D h' tk ys us hD _ hp _ _ hF hkeep
    rw [List.filter_eq_self.mpr (fun _ _ => rfl)] at hF
    obtain ⟨rs, e1⟩ := paired_ints hF
    obtain ⟨kk, hp⟩ := hp
    have ey : ys = (intsV rs).toArray := by rw [← e1]
    subst ey
    have fresh : ∀ b o, s.heap.get? b = some o → b ≠ D := fun b o e z => by
      have := up1 b o e
      rw [z, hD] at this; cases this
    have up : ∀ b o, s.heap.get? b = some o → h'.get? b = some o := fun b o e => hkeep b o (ni b o e) (up1 b o e)
    refine hQ D rs kk h' tk ⟨F.ns.keeps up, fun b o e => up b o (F.keep b o e), F.above⟩ (fun p hp' => ?_)
    rcases List.mem_cons.mp hp' with rfl | hp'
    · refine ⟨hp, fun z => ?_, ?_⟩
      · obtain ⟨o, _, _, ho, _⟩ := F.ns
        exact fresh _ _ ho z.symm
      · cases q : g.get? D with
        | none => rfl
        | some o => exact absurd rfl (fresh _ _ (F.keep _ _ q))
    · exact ⟨up _ _ (N p hp').1, (N p hp').2⟩
end
theorem wall_lc0 {M : Model} {A : Around} {E : Value → Shared → Prop} {s : Shared} {env : Env} {pos : Pos} {Q : Value → Shared → Prop} {el tg it : PySem.Expr} {d : Int} {sc : Scope} (_u : True) (h : Wall (wpAny M A (eval (.ListComp el [⟨tg, it, [], d⟩] sc pos) env) Q E s)) : wpAny M A (eval (.ListComp el [⟨tg, it, [], d⟩] sc pos) env) Q E s := h
section drop
local macro_rules | `(tactic| walk_at "eval ListComp") => `(tactic| kspl_eval wall_lc0)
local macro_rules | `(tactic| walk_at "eval Name") => `(tactic| kspl_eval name_comp)
local macro_rules | `(tactic| walk_at "call builtin:sum") => `(tactic| cb_end sum_vals)
section
variable {w : World} {mean : ExcName → Option Value} {mg mb : Str → Option Value} {dp un : Nat} {gd : Option (List Code)} {base g : Heap} {outer : List Env} {s : Shared} {R : Result → Shared → Prop} {L : Addr} {m : Str → Option Value} {env : Env} {news : List (Addr × Obj)} {Q E : Value → Shared → Prop}
theorem box_ok {c : Int} {t0 t1 t2 : Tok} (h : 0 ≤ c) : BoxOk 0 (listOf #[.int c t0, .int 0 t1, .int (c.fmod 1000003) t2] 0) :=
  ⟨c, 0, c.fmod 1000003, t0, t1, t2, 0, rfl, h, by omega, by omega, Int.fmod_nonneg_of_pos _ (by decide), Int.fmod_lt_of_pos _ (by decide)⟩
theorem box_code {l : Addr} {vs : List Value} {ns : List Int} {k : Int} {t : Tok} {o1 o2 : Obj} (H : At w mean mg mb dp un gd base outer (hideAll s.heap [200, 190])) (hdd : dp + 6 < recursionLimit) (hu : un + 40 < cLine) (h1 : s.heap.get? 200 = some o1) (h2 : s.heap.get? 190 = some o2)
   (hl : (hideAll s.heap [200, 190]).IsList l vs.toArray) (hi : IntsAre vs ns) (hz : vs.length ≤ 3) (hk0 : 0 ≤ k) (hk1 : k < 3)
   (hR : ∀ h' tk a o, (∀ b q, s.heap.get? b = some q → h'.get? b = some q) → s.heap.get? a = none → h'.get? a = some o → BoxOk 0 o → @LT.lt Nat _ 200 a → R (.ok (.ret (.ref a))) { s with heap := h', toks := tk }) :
   codeAny (model prg w) (Arr dp un gd outer) (.call (.ref 169) ⟨[.ref l, .int k t], []⟩) R s := by
  have sl := sizeLine_eq
  have hX : ∀ p ∈ [((200 : Addr), o1), (190, o2)], s.heap.get? p.1 = some p.2 := List.forall_mem_cons.mpr ⟨h1, List.forall_mem_cons.mpr ⟨h2, fun _ hp => nomatch hp⟩⟩
  k_dflt (refine' enter (X := [(200, o1), (190, o2)]) (binds := [(Str.ofString "script", .ref l), (Str.ofString "k", .int k t)]) ?k1 ?kX ?k6 ?k7 ?k8 ?k9 ?kB ?_ ?c2 ?c3 ?c4 ?c5; (case k1 => assumption); (case kX => exact hX); (case k6 => k_is); (case k7 => k_is); (case k8 => ktr_room); (case k9 => exact BindsTo.of_eq rfl); (case c5 => decide); (case kB => exact locs rfl); (case c2 => exact rfl); (case c3 => exact rfl); (case c4 => exact rfl); k_whole)
  intro g L' h1' eg eL F N B X T
  have lifted : g.IsList l vs.toArray := eg ▸ hl
  have hzn : ns.length ≤ 3 := by rw [← hi.length]; exact hz
  have hlt : @LT.lt Nat _ 200 L' := eL ▸ Heap.lt_size h1
  have fin : ∀ (h' : Heap) tk a o mm news, Fr g L' h' mm → News g L' h' news → ((200 : Addr), o1) ∈ news → ((190 : Addr), o2) ∈ news → (a, o) ∈ news → BoxOk 0 o → @LT.lt Nat _ 200 a → R (.ok (.ret (.ref a))) { s with heap := h', toks := tk } := by
    intro h' tk a o mm news FF NN m1 m2 ma hb lt
    refine hR h' tk a o (fun b q e => ?_) ?_ (NN _ ma).1 hb lt
    · by_cases e1 : b = 200
      · subst e1; rw [h1] at e; cases e; exact (NN _ m1).1
      · by_cases e2 : b = 190
        · subst e2; rw [h2] at e; cases e; exact (NN _ m2).1
        · exact FF.keep _ _ (eg ▸ hideAll_get _ e (by simp [e1, e2]))
    · cases q : s.heap.get? a with
      | none => rfl
      | some oo =>
        have n1 : a ≠ 200 := fun z => by rw [z] at lt; exact Nat.lt_irrefl _ lt
        have n2 : a ≠ 190 := fun z => by rw [z] at lt; exact absurd lt (by decide)
        have := (NN _ ma).2.2
        rw [eg, hideAll_get _ q (by simp [n1, n2])] at this; cases this
  (try dsimp only); (try k_fold)
  k_steps
  · rename_i l1
    rename Fr _ _ _ _ => FF
    rename News _ _ _ _ => NN
    exact fin _ _ _ _ _ _ FF NN (by k_mem) (by k_mem) (.head _) (box_ok (by split <;> omega)) l1.1
  · show wpAny _ _ (eval _ _) _ _ _
    refine' eval_compN ?ecl ?ece ?ek ?en ?ex ?_ ?es
    case ecl => with_unfolding_all rfl
    case ece => decide
    case ek => rfl
    case en => decide
    case ex => rfl
    case es => (intro _; rfl)
    k_steps
    refine' comp_ints (vs := vs) (ns := ns) ?vh ?vF ?vN ?vl ?vi ?vE ?vn ?_ ?_
    case vh => rfl
    case vF => exact F
    case vN => exact N
    case vl => exact lifted.at fun o e => F.keep _ _ e
    case vi => exact hi
    case vE => rfl
    case vn => omega
    · intro C c t0 s₃ m₃ E' FC hm
      rw [m1_self hm] at FC
      have NC : News g C s₃.heap [] := fun _ h => nomatch h
      k_steps
      all_goals first | exact ⟨_, _, rfl, fun _ _ e => e⟩ | skip
    · intro D5 rs kk5 h8 tk8 F8 N8
      clear F N
      (try dsimp only)
      k_steps
      rename_i l1
      rename Fr _ _ _ _ => FF
      rename News _ _ _ _ => NN
      exact fin _ _ _ _ _ _ FF NN (by k_mem) (by k_mem) (.head _) (box_ok (by have := Int.fmod_nonneg_of_pos (List.map (fun (x : Int × Tok) => x.1) rs).sum (by decide : (0 : Int) < 99991); omega)) l1.2.1
theorem use_box {l : Addr} {vs : List Value} {ns : List Int} {k : Int} {t : Tok} {o1 o2 ol : Obj} {n : Nat} (hf : env.frame = some L) (hk : env.scope.kind = .function) (B : Below callerA base [] g) (F : Fr g L s.heap m) (N : News g L s.heap news) (X : (hd.heap_39 w.params).In g) (T : Top topProg looseS mean mg mb g)
   (m1 : ((200 : Addr), o1) ∈ news) (m2 : ((190 : Addr), o2) ∈ news) (ml : (l, ol) ∈ news) (hol : ol = listOf vs.toArray n) (n1 : @Ne Nat l 200) (n2 : @Ne Nat l 190) (hi : IntsAre vs ns) (hz : vs.length ≤ 3) (hk0 : 0 ≤ k) (hk1 : k < 3)
   (h : ∀ h' tk a o, (∀ b q, s.heap.get? b = some q → h'.get? b = some q) → s.heap.get? a = none → h'.get? a = some o → BoxOk 0 o → @LT.lt Nat _ 200 a → Q (.ref a) { s with heap := h', toks := tk }) :
   wpAny (model prg w) (callerA.deeper env) (call (.ref 169) [.ref l, .int k t]) Q E s := by
  subst hol
  have hY : ∀ y ∈ [(200 : Addr), 190], ∃ o, (y, o) ∈ news := fun y hy => by
    simp only [List.mem_cons, List.not_mem_nil, or_false] at hy
    rcases hy with rfl | rfl
    · exact ⟨_, m1⟩
    · exact ⟨_, m2⟩
  exact wpAny_call (box_code (dp := 1 + claimMargin + 1) (un := 4 + 3) (gd := some []) (outer := [env]) (base := base) (at_hide (dp := 1 + claimMargin) (un := 4) (gd := some []) (outer := []) hf hk B F N X T [200, 190] hY) (by decide) (by decide) (N _ m1).1 (N _ m2).1
    ⟨_, hideAll_get _ (N _ ml).1 (by simp only [List.mem_cons, List.not_mem_nil, or_false, not_or]; exact ⟨n1, n2⟩), rfl, _, rfl⟩ hi hz hk0 hk1 h)
end
end drop
theorem fresh_SqZ : True := by w_top off; trivial
open PySem PySem.W PyProof.Rows PySem.Calls
local macro_rules | `(tactic| walk_at "call ref") => `(tactic| first
  | (ktf_call 193; (k_dflt (refine' law_feed ‹_› ‹_› ‹_› ‹_› ‹_› ‹_› ‹_› ‹_› ‹_› ‹_› ‹_› ‹_› ‹_› ‹_› ‹_› ?_)); k_whole; k_invgoal)
  | (ktf_call 203; (k_dflt (refine' law_door ‹_› ‹_› ‹_› ‹_› ‹_› ‹_› ‹_› ‹_› ‹_› ‹_› ‹_› ‹_› ‹_› ‹_› ‹_› ?_)); k_whole; k_invgoal)
  | (ktf_call 198; (k_dflt (refine' law_braces ‹_› ‹_› ‹_› ‹_› ‹_› ‹_› ‹_› ‹_› ‹_› ‹_› ?_)); k_whole; k_invgoal)
  | k_search (wallF 169 ?_))
local macro_rules | `(tactic| walk_at "exec Assign cons ListComp") => `(tactic| kspl_eval Assign_compU)
local macro_rules | `(tactic| walk_at "eval Name") => `(tactic| kspl_eval name_comp)
set_option maxRecDepth 100000 in
set_option maxHeartbeats 8000000 in
theorem law_all : PySem.Challenge.rw_sq0025_01.Holds :=
  Sq.hd (by
  w_strict (
    k_go0
    (all_goals try k_fold)
    k_steps
    rename_i XG TG KG cH1 l0 Ds wsv hs2 hIs hCs hLs lD hs1 oS Fo No dS hs tks t1 t2 t3 rr FR NR kR
    clear Fo No
    have sl := PySem.sizeLine_eq
    have wl : wsv.length ≤ 3 := by rw [hIs.length, hCs]; omega
    refine Sq.comp_boxes (n := 3) rfl rr rfl rfl FR NR (by decide) rfl rfl (by omega) rfl rfl rfl ?_ ?_
    · intro C i s₂ m₂ E' t hi FC hm FL N2
      rw [Sq.m1_self hm] at FC
      k_steps
      show wpAny _ _ _ _ _ _
      refine Sq.use_box rfl rfl KG FL N2 XG TG (by k_mem) (by k_mem) (by k_mem) rfl (by show @Ne Nat _ _; omega) (by show @Ne Nat _ _; omega) hIs wl (by omega) (by omega) ?_
      intro h' tk a o kp fa ea hb lt
      exact ⟨a, o, h', tk, rfl, rfl, kp, fa, ea, hb, lt⟩
    · intro D bs kk h' tk F2 N2 lD2 hlen hbs hnd
      (try dsimp only)
      (try (show wpAny _ _ _ _ _ _; k_fold))
      k_lt lD2
      obtain ⟨⟨a0, o0⟩, ⟨a1, o1⟩, ⟨a2, o2⟩, rfl⟩ : ∃ p0 p1 p2, bs = [p0, p1, p2] := by
        rcases bs with _ | ⟨p0, _ | ⟨p1, _ | ⟨p2, _ | ⟨_, _⟩⟩⟩⟩
        · simp at hlen
        · simp at hlen
        · simp at hlen
        · exact ⟨_, _, _, rfl⟩
        · simp at hlen
      obtain ⟨b0, g0, d0, n0⟩ := hbs _ (.head _)
      obtain ⟨b1, g1, d1, n1⟩ := hbs _ (.tail _ (.head _))
      obtain ⟨b2, g2, d2, n2⟩ := hbs _ (.tail _ (.tail _ (.head _)))
      replace n0 := Sq.allNe_of fun q hq => Ne.symm (n0 q hq)
      replace n1 := Sq.allNe_of fun q hq => Ne.symm (n1 q hq)
      replace n2 := Sq.allNe_of fun q hq => Ne.symm (n2 q hq)
      simp only [Sq.AllNe, and_true] at n0 n1 n2
      obtain ⟨n01, n02, n03, n04⟩ := n0
      obtain ⟨n11, n12, n13, n14⟩ := n1
      obtain ⟨n21, n22, n23, n24⟩ := n2
      have d0' : @Ne Nat a0 D := d0
      have d1' : @Ne Nat a1 D := d1
      have d2' : @Ne Nat a2 D := d2
      have m01 : @Ne Nat a0 a1 := fun z => by subst z; simp at hnd
      have m02 : @Ne Nat a0 a2 := fun z => by subst z; simp at hnd
      have m12 : @Ne Nat a1 a2 := fun z => by subst z; simp at hnd
      dsimp only at b0 b1 b2 g0 g1 g2
      simp only [List.map_cons, List.map_nil, List.cons_append, List.nil_append] at N2
      clear hbs hnd d0 d1 d2 FR NR
      (try dsimp only)
      k_steps))
end Sq
theorem PySem.Challenge.cw_sq0025_01_holds : PySem.Challenge.rw_sq0025_01.Holds :=
  Sq.law_all
