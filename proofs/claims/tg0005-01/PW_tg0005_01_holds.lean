import PyProof.Rows.All
import Wide.All
import OpenK.AllK
import Wide.FinOn
import PySem.Challenge.RW_tg0005_01
open PySem PySem.W PySem.Calls PyProof.Rows
set_option Elab.async false
-- part T5Head
namespace Mine
set_option maxRecDepth 100000 in
set_option maxHeartbeats 8000000 in
open_top hd for PySem.Challenge.rw_tg0005_01
end Mine
-- part T5Base
namespace Mine
def Ext (g h : Heap) : Prop := ∀ b o, g.get? b = some o → h.get? b = some o

abbrev Ar (dp un : Nat) (gd : Option (List Code)) (outs : List Env) : Around := { handled := none, depth := dp, frames := some outs, guards := gd, units := un }

def Con (w : World) (mean : ExcName → Option Value) (mg mb : Str → Option Value) (f : Addr) (dd : Nat) (vs : List Value) (Pre : Heap → Prop) (Post : Heap → Value → Heap → Prop) : Prop :=
  ∀ (dp un : Nat) (gd : Option (List Code)) (base : Heap) (outs : List Env) (s : Shared) (Q E : Value → Shared → Prop),
    Below (Ar dp un gd outs) base outs s.heap → (hd.heap_39 w.params).In s.heap → Top hd.view_39 (looseW hd.view_39 []) mean mg mb s.heap → dp + dd < recursionLimit → un + 8 * dd + 100 < cLine → Pre s.heap →
    (∀ r h' tk', Ext s.heap h' → Post s.heap r h' → Q r { s with heap := h', toks := tk' }) →
    wpAny (model PySem.Challenge.rw_tg0005_01.row.prog w) (Ar dp un gd outs) (call (.ref f) vs) Q E s

theorem enter {w : World} {mean : ExcName → Option Value} {mg mb : Str → Option Value} {dp un : Nat} {gd : Option (List Code)} {base : Heap} {outs : List Env} {s : Shared} {Q E : Value → Shared → Prop} {vs : List Value}
    {name qual : Str} {params : Arguments} {body : List Stmt} {scope : Scope} {dV kV doc pm cdv ct oc : Value} {an od : Option Addr} {osl : Array (Option Value)} {f : Addr} {binds : List (Str × Value)}
    (_B : Below (Ar dp un gd outs) base outs s.heap) (X : (hd.heap_39 w.params).In s.heap) (T : Top hd.view_39 (looseW hd.view_39 []) mean mg mb s.heap) (hroom : dp + 1 < recursionLimit)
    (ho : (hd.heap_39 w.params).lookup f = some ⟨oc, od, .func (fnOf name qual params body scope dV kV doc pm an cdv ct), osl⟩) (hcd : codeIn (hd.heap_39 w.params) cdv qual = true)
    (hbind : BindsTo s (fnOf name qual params body scope dV kV doc pm an cdv ct) ⟨vs, []⟩ binds) (hloc : ∀ y ∈ binds, scope.names.lookup y.1 = some .local)
    (hcell : ∀ x ∈ scope.names, x.2 ≠ .cell)
    (hco : scope.isCoroutine = false) (hgen : scope.isGenerator = false) (hk : scope.kind = .function)
    (h : ∀ h₁, Fr s.heap s.heap.objs.size h₁ (fun y => binds.reverse.lookup y) →
      wpAny (model PySem.Challenge.rw_tg0005_01.row.prog w) ((Ar dp un gd outs).deeper (envOf qual scope s.heap.objs.size f cdv)) (execs body (envOf qual scope s.heap.objs.size f cdv))
        (fun fl s' => Q (match fl with | .ret v => v | _ => .none) s')
        (fun e s' => wpAny (model PySem.Challenge.rw_tg0005_01.row.prog w) ((Ar dp un gd outs).deeper (envOf qual scope s.heap.objs.size f cdv)) (leaving (envOf qual scope s.heap.objs.size f cdv) e) (fun _ s'' => E e s'') (fun e' s'' => E e' s'') s')
        { s with heap := h₁, toks := s.toks + binds.length }) :
    wpAny (model PySem.Challenge.rw_tg0005_01.row.prog w) (Ar dp un gd outs) (call (.ref f) vs) Q E s := by
  refine wpAny_call ?_
  refine codeAny_call_def (fd := fnOf name qual params body scope dV kV doc pm an cdv ct) (body := body) (binds := binds) (Nat.lt_of_succ_lt hroom) (X _ _ ho) rfl T.nolimit (codeRec_of X hcd) rfl hbind hcell hloc (fun h₁ hns hk₁ => ?_) hco hgen hk
  exact h h₁ ⟨hns, hk₁, Nat.le_refl _⟩
end Mine
namespace Mine
theorem newsOf {g h : Heap} {L : Addr} {m : Str → Option Value} (_ : Fr g L h m) : News g L h [] := News.nil
abbrev tup (vs : Array Value) (c : Nat) : Obj := { cls := .type "tuple", data := .seq vs c }
/-- the pair (x, 1) at a -/
def IsQ (h : Heap) (a : Addr) (x : Int) : Prop := ∃ t u, IsTup h a #[.int x t, .int 1 u]
theorem IsQ.ext {g h : Heap} {a : Addr} {x : Int} (e : Ext g h) (q : IsQ g a x) : IsQ h a x := let ⟨t, u, i⟩ := q; ⟨t, u, i.keeps e⟩
theorem Ext.refl (g : Heap) : Ext g g := fun _ _ e => e
theorem Ext.trans {g h k : Heap} (a : Ext g h) (b : Ext h k) : Ext g k := fun _ _ e => b _ _ (a _ _ e)

theorem fr_ext {g h h' : Heap} {L : Addr} {m : Str → Option Value} (F : Fr g L h m) (e : Ext h h') : Fr g L h' m := ⟨F.ns.keeps e, fun b o q => e b o (F.keep b o q), F.above⟩
theorem news_ext {g h h' : Heap} {L : Addr} {news : List (Addr × Obj)} (N : News g L h news) (e : Ext h h') : News g L h' news := fun p hp => ⟨e _ _ (N p hp).1, (N p hp).2⟩
theorem news_new {g h h' : Heap} {L : Addr} {m : Str → Option Value} {news : List (Addr × Obj)} (F : Fr g L h m) (N : News g L h news) (e : Ext h h') {D : Addr} {o : Obj} (hn : h.get? D = none) (ho : h'.get? D = some o) : News g L h' ((D, o) :: news) := by
  intro p hp
  rcases List.mem_cons.mp hp with rfl | hp
  · refine ⟨ho, fun q => ?_, ?_⟩
    · obtain ⟨oL, _, _, hL, _⟩ := F.ns
      rw [← q] at hL
      rw [hn] at hL; cases hL
    · cases q : g.get? D with
      | none => rfl
      | some x => have := F.keep _ _ q; rw [hn] at this; cases this
  · exact news_ext N e p hp

/-- a call of a def that has a contract -/
theorem use {w : World} {mean : ExcName → Option Value} {mg mb : Str → Option Value} {f : Addr} {dd : Nat} {vs : List Value} {Pre : Heap → Prop} {Post : Heap → Value → Heap → Prop}
    (C : Con w mean mg mb f dd vs Pre Post) {dp un : Nat} {gd : Option (List Code)} {base g : Heap} {outs : List Env} {s : Shared} {Q E : Value → Shared → Prop} {env : Env} {L : Addr} {m : Str → Option Value} {news : List (Addr × Obj)}
    (B : Below (Ar dp un gd outs) base outs g) (F : Fr g L s.heap m) (N : News g L s.heap news) (X : (hd.heap_39 w.params).In g) (T : Top hd.view_39 (looseW hd.view_39 []) mean mg mb g)
    (hk : env.frame = some L ∧ env.scope.kind = .function) (hdp : dp + 1 + dd < recursionLimit) (hun : un + 3 + 8 * dd + 100 < cLine) (pre : Pre s.heap)
    (ret : ∀ r h' tk', Ext s.heap h' → Post s.heap r h' → Fr g L h' m → News g L h' news → Q r { s with heap := h', toks := tk' }) :
    wpAny (model PySem.Challenge.rw_tg0005_01.row.prog w) ((Ar dp un gd outs).deeper env) (call (.ref f) vs) Q E s :=
  C (dp + 1) (un + 3) gd base (env :: outs) s Q E (groundX (A := Ar (dp + 1) (un + 3) gd (env :: outs)) (R := fun _ _ => True) B F News.nil rfl hk.1 hk.2).2.1 (X.keeps F.keep) (T.keeps F.keep) hdp hun pre fun r h' tk' e p => ret r h' tk' e p (fr_ext F e) (news_ext N e)

theorem enterC {w : World} {mean : ExcName → Option Value} {mg mb : Str → Option Value} {dp un : Nat} {gd : Option (List Code)} {base : Heap} {outs : List Env} {s : Shared} {Q E : Value → Shared → Prop} {vs : List Value}
    {name qual : Str} {params : Arguments} {body : List Stmt} {scope : Scope} {dV kV doc pm cdv ct oc : Value} {an od : Option Addr} {osl : Array (Option Value)} {f : Addr} {binds : List (Str × Value)}
    (_B : Below (Ar dp un gd outs) base outs s.heap) (X : (hd.heap_39 w.params).In s.heap) (T : Top hd.view_39 (looseW hd.view_39 []) mean mg mb s.heap) (hroom : dp + 1 < recursionLimit)
    (ho : (hd.heap_39 w.params).lookup f = some ⟨oc, od, .func (fnOf name qual params body scope dV kV doc pm an cdv ct), osl⟩) (hcd : codeIn (hd.heap_39 w.params) cdv qual = true)
    (hbind : BindsTo s (fnOf name qual params body scope dV kV doc pm an cdv ct) ⟨vs, []⟩ binds) (hkind : (binds.all fun y => scope.names.lookup y.1 == some .local || scope.names.lookup y.1 == some .cell) = true)
    (hnd : ((cellsFrom 0 scope.names []).map (·.1)).Nodup)
    (hco : scope.isCoroutine = false) (hgen : scope.isGenerator = false) (hk : scope.kind = .function)
    (h : ∀ h₁ tk cells, Fr s.heap s.heap.objs.size h₁ (bindL (envOfC qual scope s.heap.objs.size f cdv).kindOf binds fun _ => none) → News s.heap s.heap.objs.size h₁ cells →
      CellsAre (bindC (envOfC qual scope s.heap.objs.size f cdv).kindOf binds fun _ => none) (cellsFrom (s.heap.objs.size + 1) scope.names []) cells →
      wpAny (model PySem.Challenge.rw_tg0005_01.row.prog w) ((Ar dp un gd outs).deeper (envOfC qual scope s.heap.objs.size f cdv)) (execs body (envOfC qual scope s.heap.objs.size f cdv))
        (fun fl s' => Q (match fl with | .ret v => v | _ => .none) s')
        (fun e s' => wpAny (model PySem.Challenge.rw_tg0005_01.row.prog w) ((Ar dp un gd outs).deeper (envOfC qual scope s.heap.objs.size f cdv)) (leaving (envOfC qual scope s.heap.objs.size f cdv) e) (fun _ s'' => E e s'') (fun e' s'' => E e' s'') s')
        { s with heap := h₁, toks := tk }) :
    wpAny (model PySem.Challenge.rw_tg0005_01.row.prog w) (Ar dp un gd outs) (call (.ref f) vs) Q E s := by
  refine wpAny_call ?_
  refine codeAny_call_function (Nat.lt_of_succ_lt hroom) (X _ _ ho) rfl hco hgen rfl (codeRec_of X hcd) (hbind _ _ _ _ ?_)
  refine wpAny_newFunctionEnv_cells hk (kindsX hkind _) fun env' he s' x => ?_
  subst he
  refine ⟨T.nolimit.keeps x.toInCall.keep, codeAny_func ?_⟩
  obtain ⟨h₁, tk, rfl, _⟩ := x.done
  obtain ⟨cells, NC, Y⟩ := Cl.news (h₀ := s.heap) (Nat.le_refl _) fun n c hm => ⟨x.cell n c (lookup_of_mem_nodup (cellsFrom_names scope.names 0 (s.heap.objs.size + 1) [] [] rfl ▸ hnd) hm), x.above n c hm⟩
  exact h h₁ tk cells ⟨x.toInCall.ns, x.toInCall.keep, Nat.le_refl _⟩ NC Y
end Mine
-- part T5Rat
namespace Mine
local macro_rules | `(tactic| walk_at "MY enter") => `(tactic| (
  k_dflt (refine' enter ?kB ?kX ?kT ?kr ?ho ?hcd ?hbind ?hloc ?c5 ?c2 ?c3 ?c4 ?_; (case kB => assumption); (case kX => assumption); (case kT => assumption); (case kr => omega); (case ho => k_is); (case hcd => k_is); (case hbind => exact BindsTo.of_eq rfl); (case hloc => exact locs rfl); (case c5 => decide); (case c2 => exact rfl); (case c3 => exact rfl); (case c4 => exact rfl));
  intro h1' F1'; have N1' := newsOf F1'; (try dsimp only); (try k_fold)))
local macro_rules | `(tactic| walk_at "MY use") => `(tactic| (
  (case kB => assumption); (case kF => assumption); (case kN => assumption); (case kX => assumption); (case kT => assumption); (case kk => exact ⟨rfl, rfl⟩); (case kd => omega); (case ku => omega)))
theorem fm1 (x : Int) : (x.fmod (if (1:Int) < 0 then -1 else 1) != 0) = false := by
  have : (if (1:Int) < 0 then (-1:Int) else 1) = 1 := by decide
  rw [this, Int.fmod_one]; rfl
local macro_rules | `(tactic| walk_at "WhlIf") => `(tactic| (refine WhlIf.no (fm1 _) ?_))

set_option maxRecDepth 100000 in
set_option maxHeartbeats 8000000 in
theorem gcd_con {w mean mg mb} (n : Int) (t u : Tok) : Con w mean mg mb 41 1 [.int n t, .int 1 u] (fun _ => True) (fun _ r _ => ∃ t', r = .int 1 t') := by
  w_on
  unfold Con
  k_fill
  intro dp un gd base outs s Q E B X T hdp hun _ hret
  walk_at "MY enter"
  k_steps
  all_goals ((try dsimp only); exact hret _ _ _ (Fr.keep (by assumption)) ⟨_, rfl⟩)

/-- a fresh pair (x, 1) -/
def New (g : Heap) (r : Value) (h : Heap) (x : Int) : Prop := ∃ D t u c, r = .ref D ∧ g.get? D = none ∧ h.get? D = some (tup #[.int x t, .int 1 u] c)
theorem New.of {g h : Heap} {L D : Addr} {news : List (Addr × Obj)} {x y z : Int} {t u : Tok} {c : Nat} (N : News g L h news) (hm : (D, tup #[.int y t, .int z u] c) ∈ news) (hy : y = x) (hz : z = 1) : New g (.ref D) h x := by
  subst hy hz
  exact ⟨D, t, u, c, rfl, N.fresh hm, N.get hm⟩
local macro_rules | `(tactic| walk_at "call ref") => `(tactic| (
  (with_reducible show wpAny _ _ (PySem.call (Value.ref 41) _ _) _ _ _);
  k_dflt (refine' use (gcd_con _ _ _) ?kB ?kF ?kN ?kX ?kT ?kk ?kd ?ku ?kp ?_; (walk_at "MY use"); (case kp => exact True.intro));
  intro r' h' tk' e' p' F' N'; obtain ⟨_, p'⟩ := p'; subst p'; clear e'; (try dsimp only); (try k_fold); k_sweep))
set_option maxRecDepth 100000 in
set_option maxHeartbeats 8000000 in
theorem rat_con {w mean mg mb} (n : Int) (t u : Tok) : Con w mean mg mb 57 2 [.int n t, .int 1 u] (fun _ => True) (fun g r h => New g r h n) := by
  w_on
  unfold Con
  k_fill
  intro dp un gd base outs s Q E B X T hdp hun _ hret
  walk_at "MY enter"
  k_steps
  all_goals ((try dsimp only); exact hret _ _ _ (Fr.keep (by assumption)) (New.of (by assumption) (by k_mem) (Int.fdiv_one _) rfl))

theorem rat_one {w mean mg mb} (n k : Int) (t u : Tok) (hk : k = 1) : Con w mean mg mb 57 2 [.int n t, .int k u] (fun _ => True) (fun g r h => New g r h n) := by
  subst hk; exact rat_con n t u

local macro_rules | `(tactic| walk_at "call ref") => `(tactic| (
  (with_reducible show wpAny _ _ (PySem.call (Value.ref 57) _ _) _ _ _);
  k_dflt (refine' use (rat_one _ _ _ _ ?ke) ?kB ?kF ?kN ?kX ?kT ?kk ?kd ?ku ?kp ?_; (walk_at "MY use"); (case ke => first | rfl | decide); (case kp => exact True.intro));
  intro r' h' tk' e' p' F' N'; obtain ⟨_, _, _, _, p1, p2, p3⟩ := p'; subst p1; have N2 := news_new (by assumption) (by assumption) e' p2 p3; clear e' p2 p3; (try dsimp only); (try k_fold); k_sweep))

theorem New.eq {g h : Heap} {r : Value} {x y : Int} (n : New g r h x) (e : x = y) : New g r h y := e ▸ n
set_option maxRecDepth 100000 in
set_option maxHeartbeats 8000000 in
theorem radd_con {w mean mg mb} (a b : Addr) (x y : Int) (hx : x.natAbs < 2 ^ 60) (hy : y.natAbs < 2 ^ 60) : Con w mean mg mb 64 3 [.ref a, .ref b] (fun h => IsQ h a x ∧ IsQ h b y) (fun g r h => New g r h (x + y)) := by
  w_on
  unfold Con
  k_fill
  intro dp un gd base outs s Q E B X T hdp hun pre hret
  obtain ⟨⟨_, _, ia⟩, ⟨_, _, ib⟩⟩ := pre
  walk_at "MY enter"
  k_steps
  all_goals ((try dsimp only); exact hret _ _ _ (Fr.keep (by assumption)) (New.of (by assumption) (by k_mem) (by omega) rfl))
set_option maxRecDepth 100000 in
set_option maxHeartbeats 8000000 in
theorem rsub_con {w mean mg mb} (a b : Addr) (x y : Int) (hx : x.natAbs < 2 ^ 60) (hy : y.natAbs < 2 ^ 60) : Con w mean mg mb 71 3 [.ref a, .ref b] (fun h => IsQ h a x ∧ IsQ h b y) (fun g r h => New g r h (x - y)) := by
  w_on
  unfold Con
  k_fill
  intro dp un gd base outs s Q E B X T hdp hun pre hret
  obtain ⟨⟨_, _, ia⟩, ⟨_, _, ib⟩⟩ := pre
  walk_at "MY enter"
  k_steps
  all_goals ((try dsimp only); exact hret _ _ _ (Fr.keep (by assumption)) (New.of (by assumption) (by k_mem) (by omega) rfl))
set_option maxRecDepth 100000 in
set_option maxHeartbeats 8000000 in
theorem rmul_con {w mean mg mb} (a b : Addr) (x y : Int) (hx : x.natAbs < 2 ^ 60) (hy : y.natAbs < 2 ^ 60) : Con w mean mg mb 78 3 [.ref a, .ref b] (fun h => IsQ h a x ∧ IsQ h b y) (fun g r h => New g r h (x * y)) := by
  w_on
  unfold Con
  k_fill
  intro dp un gd base outs s Q E B X T hdp hun pre hret
  obtain ⟨⟨_, _, ia⟩, ⟨_, _, ib⟩⟩ := pre
  walk_at "MY enter"
  k_steps
  all_goals ((try dsimp only); exact hret _ _ _ (Fr.keep (by assumption)) (New.of (by assumption) (by k_mem) (rfl) rfl))
set_option maxRecDepth 100000 in
set_option maxHeartbeats 8000000 in
theorem rdiv_con {w mean mg mb} (a b : Addr) (x y : Int) (hx : x.natAbs < 2 ^ 60) (hy : y = 1) : Con w mean mg mb 85 3 [.ref a, .ref b] (fun h => IsQ h a x ∧ IsQ h b y) (fun g r h => New g r h (x)) := by
  w_on
  unfold Con
  k_fill
  intro dp un gd base outs s Q E B X T hdp hun pre hret
  subst hy; obtain ⟨⟨_, _, ia⟩, ⟨_, _, ib⟩⟩ := pre
  walk_at "MY enter"
  k_steps
  all_goals ((try dsimp only); exact hret _ _ _ (Fr.keep (by assumption)) (New.of (by assumption) (by k_mem) (by omega) rfl))
end Mine
-- part T5Let
namespace Mine
local macro_rules | `(tactic| walk_at "MY enter") => `(tactic| (
  k_dflt (refine' enter ?kB ?kX ?kT ?kr ?ho ?hcd ?hbind ?hloc ?c5 ?c2 ?c3 ?c4 ?_; (case kB => assumption); (case kX => assumption); (case kT => assumption); (case kr => omega); (case ho => k_is); (case hcd => k_is); (case hbind => exact BindsTo.of_eq rfl); (case hloc => exact locs rfl); (case c5 => decide); (case c2 => exact rfl); (case c3 => exact rfl); (case c4 => exact rfl));
  intro h1' F1'; have N1' := newsOf F1'; (try dsimp only); (try k_fold)))
local macro_rules | `(tactic| walk_at "MY use") => `(tactic| (
  (case kB => assumption); (case kF => assumption); (case kN => assumption); (case kX => assumption); (case kT => assumption); (case kk => exact ⟨rfl, rfl⟩); (case kd => omega); (case ku => omega)))
set_option maxRecDepth 100000 in
set_option maxHeartbeats 8000000 in
theorem is_vast_con {w mean mg mb} (a : Addr) (x : Int) (hx : x.natAbs < 2 ^ 60) : Con w mean mg mb 92 3 [.ref a] (fun h => IsQ h a x) (fun _ r _ => r = .bool false) := by
  w_on
  unfold Con
  k_fill
  intro dp un gd base outs s Q E B X T hdp hun pre hret
  obtain ⟨_, _, ia⟩ := pre
  walk_at "MY enter"
  k_steps
  · exfalso; have h64 : (2 : Int) ^ Int.toNat 64 = 18446744073709551616 := by decide
    rename_i hh; rw [h64] at hh; omega
  · rename_i hh
    have hh := decide_eq_false hh
    rw [hh]
    exact hret _ _ _ (Fr.keep (by assumption)) rfl

local macro_rules | `(tactic| walk_at "call ref") => `(tactic| (
  (with_reducible show wpAny _ _ (PySem.call (Value.ref 92) _ _) _ _ _);
  k_dflt (refine' use (is_vast_con _ _ ?ke) ?kB ?kF ?kN ?kX ?kT ?kk ?kd ?ku ?kp ?_; (walk_at "MY use"); (case ke => assumption); (case kp => exact (IsQ.ext (Fr.keep (by assumption)) (by assumption))));
  intro r' h' tk' e' p' F' N'; subst p'; clear e'; (try dsimp only); (try k_fold); k_sweep))
set_option maxRecDepth 100000 in
set_option maxHeartbeats 8000000 in
theorem let_con {w mean mg mb} (a : Addr) (x : Int) (hx : x.natAbs < 2 ^ 60) : Con w mean mg mb 106 4 [.ref a] (fun h => IsQ h a x) (fun _ r _ => r = .ref a) := by
  w_on
  unfold Con
  k_fill
  intro dp un gd base outs s Q E B X T hdp hun pre hret
  walk_at "MY enter"
  k_steps
  all_goals ((try dsimp only); exact hret _ _ _ (Fr.keep (by assumption)) rfl)
theorem pick_upto {vs : List Value} {y : Int} (h : 0 ≤ y) : kms_pick vs.toArray.toList none (some y) = vs.take y.toNat := by
  unfold kms_pick kms_lo kms_hi
  simp only [if_neg (Int.not_lt.mpr h), List.drop_zero, Nat.sub_zero]
  rw [List.take_eq_take_iff]; simp
local macro_rules | `(tactic| walk_at "call builtin:len") => `(tactic| ((with_reducible show wpAny _ _ (call (Value.builtin "len") [Value.ref _]) _ _ _); (with_unfolding_all refine' len_list ?k1 ?k2 ?_; (case k1 => is_list); (case k2 => (simp only [List.size_toArray]; omega)); k_whole); (try simp only [List.size_toArray])))
theorem listOf_eq {h : Heap} {a : Addr} {x y : Array Value} (i : h.IsList a x) (e : x = y) : h.IsList a y := e ▸ i
theorem rep_one {n : Nat} {v : Value} : (List.replicate n [v]).flatten = List.replicate n v := by simp
local macro_rules | `(tactic| walk_at "subscriptTail Name Slice ref ref") => `(tactic| (k_dflt (refine' kms_slice_lit ?F ?N ?l ?p ?q ?e ?_ ?s ?t ?z; (case F => k_asm); (case N => k_asm); (case l => kmk_list); (case p => kmk_part); (case q => kmk_part); (case e => exact pick_upto (by assumption)); (case s => with_unfolding_all rfl); (case t => kmk_pure); (case z => (simp only [List.size_toArray, sizeLine_eq]; omega))); intro D' h' F' N' l1; (try k_lt l1); (try k_sweep)))
local macro_rules | `(tactic| walk_at "call type:list") => `(tactic| ((with_reducible show wpAny _ _ (call (Value.type _) [Value.ref _]) _ _ _); (with_unfolding_all
   (refine' list_copyK ?k1 ?k2 ?k3 ?_ ?z; (case k1 => k_asm); (case k2 => k_asm); (case k3 => is_list); (case z => (simp only [List.size_toArray, sizeLine_eq, List.length_take]; omega)); k_whole)); intro D' c' h' F' N' l1; (try k_lt l1); (try k_sweep)))
local macro_rules | `(tactic| walk_at "binaryOp Mult ref int") => `(tactic| ((with_reducible show wpAny _ _ (binaryOp Operator.Mult (Value.ref _) (Value.int _ _)) _ _ _); k_dflt (refine' KMa.mul ?F ?N ?l ?lo ?hi ?z ?e ?_; (case F => k_asm); (case N => k_asm); (case l => is_list); (case lo => (try simp only [List.size_toArray]); omega); (case hi => (try simp only [List.size_toArray]); omega); (case z => (simp only [List.length_cons, List.length_nil, List.size_toArray]; omega)); (case e => exact rep_one); k_whole); intro D' h' F' N' l1; (try k_lt l1); (try k_sweep)))
local macro_rules | `(tactic| walk_at "binaryOp Add ref ref") => `(tactic| ((with_reducible show wpAny _ _ (binaryOp _ (Value.ref _) (Value.ref _)) _ _ _); k_dflt (refine' kmk_add_lit ?F ?N ?a ?b ?e ?_ ?z; (case F => k_asm); (case N => k_asm); (case a => kmk_list); (case b => kmk_list); (case e => exact rfl); (case z => (simp only [List.toList_toArray, List.length_take, List.length_replicate, List.size_toArray, sizeLine_eq]; omega))); intro D' h' F' N' l1; (try k_lt l1); (try k_sweep)))
set_option maxRecDepth 100000 in
set_option maxHeartbeats 8000000 in
theorem cut_con {w mean mg mb} (a : Addr) (vs : List Value) (order : Int) (t : Tok) (h0 : 0 ≤ order) (h1 : order < 16) (h2 : vs.length < 16) : Con w mean mg mb 99 3 [.ref a, .int order t] (fun h => h.IsList a vs.toArray) (fun g r h => ∃ D, r = .ref D ∧ g.get? D = none ∧ h.IsList D (vs.take order.toNat ++ List.replicate (order.toNat - vs.length) (Value.ref 49)).toArray) := by
  w_on
  unfold Con
  k_fill
  intro dp un gd base outs s Q E B X T hdp hun pre hret
  walk_at "MY enter"
  k_steps
  all_goals ((try dsimp only); refine hret _ _ _ (Fr.keep (by assumption)) ⟨_, rfl, News.fresh (by assumption) (by k_mem), ?_⟩)
  all_goals (refine listOf_eq (News.isList (by assumption) (by k_mem)) ?_; simp)
end Mine
-- part T5Loop
namespace Mine
def PlainL (news : List (Addr × Obj)) : Prop := ∀ p ∈ news, ∀ vs, p.2.data ≠ .fields vs
theorem PlainL.nil : PlainL [] := fun _ h => nomatch h
theorem PlainL.cons {D : Addr} {o : Obj} {news : List (Addr × Obj)} (h : ∀ vs, o.data ≠ .fields vs) (p : PlainL news) : PlainL ((D, o) :: news) := fun q hq => by
  rcases List.mem_cons.mp hq with rfl | hq
  · exact h
  · exact p q hq

def NF (p : Addr × Obj) : Prop := ∀ vs, p.2.data ≠ .fields vs
/-- the end of a turn of a loop -/
def TurnEnd (h₀ : Heap) (L : Addr) (own news₁ : List (Addr × Obj)) (J : (Str → Option Value) → List (Addr × Obj) → Prop) (s₁ : Shared) (Q : Flow → Shared → Prop) (f : Flow) (s₂ : Shared) : Prop :=
  match f with
  | .ret v => Q (.ret v) s₂
  | .brk => Q .next s₂
  | _ => ∃ h' tk m₂ news₂, s₂ = { s₁ with heap := h', toks := tk } ∧ Fr h₀ L h' m₂ ∧ News h₀ L h' own ∧ News h₀ L h' news₂ ∧ (∀ p ∈ news₂, p ∈ news₁ ∨ NF p) ∧ J m₂ news₂

theorem loop_at {prog : Program} {w : World} {A : Around} {E : Value → Shared → Prop} {s₂ : Shared} {env : Env} {h₀ : Heap} {x : Str} {body : List Stmt} {Q : Flow → Shared → Prop}
    {I : Addr} {n : Nat} {P : Nat → Value → Prop} {St : Nat → Heap → Prop} {m₀ : Str → Option Value} {news₀ : List (Addr × Obj)}
    (J : Nat → (Str → Option Value) → List (Addr × Obj) → Prop) (W : Walks prog w A I [I] [I] n P St)
    (hc : ∀ i h, St i h → ∃ o, h.get? I = some o ∧ ∃ vs, o.data = .fields vs) (hI : h₀.get? I = none) (hL : env.locals ∉ [I])
    (hst : St 0 s₂.heap) (F : Fr h₀ env.locals s₂.heap m₀) (N : News h₀ env.locals s₂.heap news₀) (hp : ∀ p ∈ news₀, p.1 ∉ [I]) (hj : J 0 m₀ news₀)
    (turn : ∀ i v m₁ news₁ own h tk, i < n → P i v → J i m₁ news₁ → (∀ q ∈ own, ∀ p ∈ news₁, q.1 ≠ p.1) → Fr h₀ env.locals h (fun y => if y = x then some v else m₁ y) → News h₀ env.locals h (own ++ news₁) →
      wpAny (model prog w) A (execs body env) (TurnEnd h₀ env.locals own news₁ (J (i + 1)) { s₂ with heap := h, toks := tk } Q) E { s₂ with heap := h, toks := tk })
    (done : ∀ h' tk m' news', Fr h₀ env.locals h' m' → News h₀ env.locals h' news' → J n m' news' → Q .next { s₂ with heap := h', toks := tk }) :
    LoopAtV prog w A h₀ env x body Q E (.ref I) s₂ := by
  refine ⟨I, [I], [I], n, P, St, m₀, news₀, J, rfl, W, hL, ?_, hp, hst, F, N, hj, ?_, ?_⟩
  · intro b hb; rw [List.mem_singleton.mp hb]; exact hI
  · rintro i v m₁ news₁ s₁ own ⟨h, tk, rfl⟩ hi hP hJ hoff hsub _ hown hst' F' N'
    have hn : (I, _) ∈ own := hown I (List.mem_singleton.mpr rfl) hI _ (Classical.choose_spec (hc _ _ hst')).1
    have hcl := (Classical.choose_spec (hc _ _ hst')).2
    refine wpAny_mono (turn i v m₁ news₁ own h tk hi hP hJ (fun q hq p hp e => hoff p hp (e ▸ hsub q hq)) F' N') (fun f s₃ h₃ => ?_) fun _ _ e => e
    have fin : (∃ h' tk' m₂ news₂, s₃ = { s₂ with heap := h', toks := tk' } ∧ Fr h₀ env.locals h' m₂ ∧ News h₀ env.locals h' own ∧ News h₀ env.locals h' news₂ ∧ (∀ p ∈ news₂, p ∈ news₁ ∨ NF p) ∧ J (i + 1) m₂ news₂) →
        LoopStepU h₀ env.locals [I] own (J (i + 1)) { s₂ with heap := h, toks := tk } .next s₃ := by
      rintro ⟨h', tk', m₂, news₂, rfl, F2, No, N2, p2, j2⟩
      refine ⟨rfl, h', tk', m₂, news₂, rfl, F2, fun p hm => (List.mem_append.mp hm).elim (No p) (N2 p), ?_, j2⟩
      intro p hm hq
      rcases p2 p hm with hold | hnf
      · exact hoff p hold hq
      have e := (N2 p hm).1
      have e2 := (No _ hn).1
      rw [List.mem_singleton.mp hq] at e
      rw [e2] at e
      have e : _ = p.2 := Option.some.inj e
      dsimp only at e
      rw [e] at hcl
      obtain ⟨vs, hv⟩ := hcl
      exact hnf vs hv
    cases f with
    | ret v => exact .ret h₃
    | brk => exact .brk h₃
    | next => exact .next (fin h₃)
    | cont => exact .cont (fin h₃)
  · rintro h' tk m' news' F' N' _ j
    exact done h' tk m' news' F' N' j

theorem range_loop {prog : Program} {w : World} {A : Around} {E : Value → Shared → Prop} {s : Shared} {env : Env} {h₀ : Heap} {x : Str} {body : List Stmt} {Q : Flow → Shared → Prop}
    {r : Addr} {a b c : Int} {t u v : Tok} {m₀ : Str → Option Value} {news₀ : List (Addr × Obj)} (n : Nat) (J : Nat → (Str → Option Value) → List (Addr × Obj) → Prop)
    (hh : A.handled = none) (hr : IsRange s.heap r a b c t u v) (hsmall : Builtin.Range.small a b c = true) (hn : Builtin.Range.rangeSize a b c = (n : Int))
    (F : Fr h₀ env.locals s.heap m₀) (N : News h₀ env.locals s.heap news₀) (hj : J 0 m₀ news₀)
    (turn : ∀ i t m₁ news₁ own h tk, i < n → J i m₁ news₁ → (∀ q ∈ own, ∀ p ∈ news₁, q.1 ≠ p.1) → Fr h₀ env.locals h (fun y => if y = x then some (.int (a + (i : Nat) * c) t) else m₁ y) → News h₀ env.locals h (own ++ news₁) →
      wpAny (model prog w) A (execs body env) (TurnEnd h₀ env.locals own news₁ (J (i + 1)) { s with heap := h, toks := tk } Q) E { s with heap := h, toks := tk })
    (done : ∀ h' tk m' news', Fr h₀ env.locals h' m' → News h₀ env.locals h' news' → J n m' news' → Q .next { s with heap := h', toks := tk }) :
    wpAny (model prog w) A (pyIter (.ref r)) (fun it s₂ => LoopAtV prog w A h₀ env x body Q E it s₂) E s := by
  refine wpAny_pyIter_range hr hsmall ?_
  refine loop_at J (Walks.range hh s.heap.objs.size a c n) (fun i h st => ⟨_, st, _, rfl⟩) (next_is_new F) ?_ ?_ (F.push _) (fun p hp => ⟨Heap.get?_push_of_some _ (N p hp).1, (N p hp).2⟩) ?_ hj ?_ ?_
  · intro hm; exact absurd F.ns.lt ((List.mem_singleton.mp hm) ▸ Nat.lt_irrefl _)
  · show IsRangeIter _ _ _ _ _
    rw [hn]; simpa using Heap.get?_push_size _ rfl
  · intro p hp hI
    exact absurd (Heap.lt_size (N p hp).1) ((List.mem_singleton.mp hI) ▸ Nat.lt_irrefl _)
  · rintro i v m₁ news₁ own h tk hi ⟨t, rfl⟩ hJ hp1 F' N'
    exact turn i t m₁ news₁ own h tk hi hJ hp1 F' N'
  · exact done

/-- one name y is turned, x is the loop's own -/
def AccJ (m₀ : Str → Option Value) (x y : Str) (R : List (Addr × Obj) → Value → Prop) (m : Str → Option Value) (news : List (Addr × Obj)) : Prop := ∃ v, m y = some v ∧ R news v ∧ ∀ z, z ≠ x → z ≠ y → m z = m₀ z
theorem AccJ.map {m₀ m : Str → Option Value} {x y : Str} {v : Value} (hv : m y = some v) (hm : ∀ z, z ≠ x → z ≠ y → m z = m₀ z) (u : Option Value) : (fun z => if z = x then u else m z) = fun z => if z = x then u else if z = y then some v else m₀ z := by
  funext z
  by_cases h1 : z = x
  · simp [h1]
  · simp only [if_neg h1]
    by_cases h2 : z = y
    · subst h2; simp [hv]
    · simp only [if_neg h2]; exact hm z h1 h2
theorem self_map {m : Str → Option Value} {x : Str} : (fun z => if z = x then m x else m z) = m := by
  funext z; by_cases h : z = x
  · simp [h]
  · simp [h]

theorem range_acc {prog : Program} {w : World} {A : Around} {E : Value → Shared → Prop} {s : Shared} {env : Env} {h₀ : Heap} {x : Str} {body : List Stmt} {Q : Flow → Shared → Prop}
    {r : Addr} {a b : Int} {t u v : Tok} {m₀ : Str → Option Value} {news₀ : List (Addr × Obj)} (n : Nat) (y : Str) (R : Nat → List (Addr × Obj) → Value → Prop)
    (hh : A.handled = none) (hr : IsRange s.heap r a b 1 t u v) (hsmall : Builtin.Range.small a b 1 = true) (hn : Builtin.Range.rangeSize a b 1 = (n : Int))
    (F : Fr h₀ env.locals s.heap m₀) (N : News h₀ env.locals s.heap news₀) {v₀ : Value} (hy : m₀ y = some v₀) (hj : R 0 news₀ v₀)
    (turn : ∀ (i : Nat) (t : Tok) (v : Value) news₁ own h tk, i < n → R i news₁ v → (∀ q ∈ own, ∀ p ∈ news₁, q.1 ≠ p.1) → Fr h₀ env.locals h (fun z => if z = x then some (.int (a + i) t) else if z = y then some v else m₀ z) → News h₀ env.locals h (own ++ news₁) →
      wpAny (model prog w) A (execs body env) (TurnEnd h₀ env.locals own news₁ (AccJ m₀ x y (R (i + 1))) { s with heap := h, toks := tk } Q) E { s with heap := h, toks := tk })
    (done : ∀ (u : Option Value) (v : Value) h' tk news', Fr h₀ env.locals h' (fun z => if z = x then u else if z = y then some v else m₀ z) → News h₀ env.locals h' news' → R n news' v → Q .next { s with heap := h', toks := tk }) :
    wpAny (model prog w) A (pyIter (.ref r)) (fun it s₂ => LoopAtV prog w A h₀ env x body Q E it s₂) E s := by
  refine range_loop n (fun i m news => AccJ m₀ x y (R i) m news) hh hr hsmall hn F N ⟨v₀, hy, hj, fun _ _ _ => rfl⟩ ?_ ?_
  · rintro i t m₁ news₁ own h tk hi ⟨v, hv, hR, hm⟩ hp1 F1 N1
    rw [AccJ.map hv hm, Int.mul_one] at F1
    exact turn i t v news₁ own h tk hi hR hp1 F1 N1
  · rintro h' tk m' news' F1 N1 ⟨v, hv, hR, hm⟩
    refine done (m' x) v h' tk news' ?_ N1 hR
    rw [← AccJ.map hv hm, self_map]
    exact F1

theorem rsize (a b : Int) (n : Nat) (h : b - a = n) : Builtin.Range.rangeSize a b 1 = (n : Int) := by
  unfold Builtin.Range.rangeSize
  rw [if_pos (by decide)]
  split
  · simp; omega
  · omega
theorem rsmall (a b : Int) (h1 : -1000000 < a) (h2 : a < 1000000) (h3 : -1000000 < b) (h4 : b < 1000000) : Builtin.Range.small a b 1 = true := by
  have hs : Builtin.Range.rangeSize a b 1 = 0 ∨ Builtin.Range.rangeSize a b 1 = b - a := by
    unfold Builtin.Range.rangeSize
    rw [if_pos (by decide)]
    split
    · right; simp
    · left; rfl
  unfold Builtin.Range.small Builtin.Range.rangeFitsLong
  simp only [Bool.and_eq_true, Bool.or_eq_true, decide_eq_true_eq, beq_iff_eq]
  rw [if_pos (by decide : (1 : Int) > 0)]
  simp only [Bool.and_eq_true, decide_eq_true_eq]
  omega

/-- a goal that the walk leaves to me -/
def MyStop (P : Prop) : Prop := P
theorem MyStop.out {P : Prop} (h : MyStop P) : P := h
/-- the pair (x, 1) at D: of old, or in the ledger -/
def RQ (g : Heap) (news : List (Addr × Obj)) (D : Addr) (x : Int) : Prop := IsQ g D x ∨ ∃ t u c, (D, tup #[.int x t, .int 1 u] c) ∈ news
theorem RQ.isQ {g h : Heap} {L D : Addr} {m : Str → Option Value} {news : List (Addr × Obj)} {x : Int} (r : RQ g news D x) (F : Fr g L h m) (N : News g L h news) : IsQ h D x := by
  rcases r with r | ⟨t, u, c, hm⟩
  · exact r.ext F.keep
  · exact ⟨t, u, _, (N _ hm).1, rfl, _, rfl⟩
theorem RQ.mono {g : Heap} {D : Addr} {news news' : List (Addr × Obj)} {x : Int} (r : RQ g news D x) (h : ∀ p ∈ news, p ∈ news') : RQ g news' D x := by
  rcases r with r | ⟨t, u, c, hm⟩
  · exact .inl r
  · exact .inr ⟨t, u, c, h _ hm⟩

section
variable {h₀ h' : Heap} {L : Addr} {m : Str → Option Value} {own news₁ : List (Addr × Obj)} {q q2 : Addr × Obj} {J : (Str → Option Value) → List (Addr × Obj) → Prop} {s₁ : Shared} {Q : Flow → Shared → Prop} {tk : Nat}
theorem TurnEnd.zero (F : Fr h₀ L h' m) (N : News h₀ L h' (own ++ news₁)) (hj : J m news₁) : TurnEnd h₀ L own news₁ J s₁ Q .next { s₁ with heap := h', toks := tk } :=
  ⟨h', tk, m, news₁, rfl, F, fun p h => N p (List.mem_append.mpr (.inl h)), fun p h => N p (List.mem_append.mpr (.inr h)), fun _ h => .inl h, hj⟩
theorem TurnEnd.one (F : Fr h₀ L h' m) (N : News h₀ L h' (q :: (own ++ news₁))) (hq : NF q) (hj : J m (q :: news₁)) : TurnEnd h₀ L own news₁ J s₁ Q .next { s₁ with heap := h', toks := tk } :=
  ⟨h', tk, m, q :: news₁, rfl, F, fun p h => N p (.tail _ (List.mem_append.mpr (.inl h))), fun p h => N p ((List.mem_cons.mp h).elim (fun e => e ▸ .head _) fun h => .tail _ (List.mem_append.mpr (.inr h))),
    fun p h => (List.mem_cons.mp h).elim (fun e => .inr (e ▸ hq)) .inl, hj⟩
theorem TurnEnd.one2 (F : Fr h₀ L h' m) (N : News h₀ L h' (q :: q2 :: (own ++ news₁))) (hq : NF q) (hj : J m (q :: news₁)) : TurnEnd h₀ L own news₁ J s₁ Q .next { s₁ with heap := h', toks := tk } :=
  TurnEnd.one F (fun p h => N p ((List.mem_cons.mp h).elim (fun e => e ▸ .head _) fun h => .tail _ (.tail _ h))) hq hj
end

/-- the pair (x, 1) at D: R0, or in the ledger -/
def RZ (news : List (Addr × Obj)) (D : Addr) (x : Int) : Prop := (D = 49 ∧ x = 0) ∨ ∃ t u c, (D, tup #[.int x t, .int 1 u] c) ∈ news
theorem RZ.toRQ {g : Heap} {news : List (Addr × Obj)} {D : Addr} {x : Int} (r : RZ news D x) (r0 : IsQ g 49 0) : RQ g news D x := by
  rcases r with ⟨rfl, rfl⟩ | r
  · exact .inl r0
  · exact .inr r
theorem RZ.mono {news news' : List (Addr × Obj)} {D : Addr} {x : Int} (r : RZ news D x) (h : ∀ p ∈ news, p ∈ news') : RZ news' D x := by
  rcases r with r | ⟨t, u, c, hm⟩
  · exact .inl r
  · exact .inr ⟨t, u, c, h _ hm⟩
theorem RZ.head {D : Addr} {x y : Int} {t u : Tok} {c : Nat} {news : List (Addr × Obj)} (e : x = y) : RZ ((D, tup #[.int y t, .int 1 u] c) :: news) D x := by
  subst e; exact .inr ⟨t, u, c, .head _⟩
/-- what mixed hands back: R0 or a new pair -/
def MRes (g : Heap) (r : Value) (h : Heap) (x : Int) : Prop := (r = .ref 49 ∧ x = 0) ∨ New g r h x
theorem MRes.of {g h : Heap} {L : Addr} {m : Str → Option Value} {news : List (Addr × Obj)} {D : Addr} {x : Int} (r : RZ news D x) (_F : Fr g L h m) (N : News g L h news) : MRes g (.ref D) h x := by
  rcases r with ⟨rfl, rfl⟩ | ⟨t, u, c, hm⟩
  · exact .inl ⟨rfl, rfl⟩
  · exact .inr ⟨D, t, u, c, rfl, N.fresh hm, N.get hm⟩
theorem MRes.use {g h h' : Heap} {L : Addr} {m : Str → Option Value} {news : List (Addr × Obj)} {r : Value} {x : Int} (p : MRes h r h' x) (e : Ext h h') (F : Fr g L h m) (N : News g L h news) :
    ∃ D add, r = .ref D ∧ News g L h' (add ++ news) ∧ PlainL add ∧ (∀ q ∈ add, ∀ p ∈ news, q.1 ≠ p.1) ∧ RZ add D x := by
  rcases p with ⟨rfl, rfl⟩ | ⟨D, t, u, c, rfl, h1, h2⟩
  · exact ⟨49, [], rfl, news_ext N e, PlainL.nil, (fun _ h => by cases h), .inl ⟨rfl, rfl⟩⟩
  · refine ⟨D, [(D, tup #[.int x t, .int 1 u] c)], rfl, news_new F N e h1 h2, PlainL.cons (by intro _ h; cases h) PlainL.nil, fun q hq p hp he => ?_, .inr ⟨t, u, c, .head _⟩⟩
    rw [List.mem_singleton.mp hq] at he
    have := (N p hp).1
    rw [← he] at this
    dsimp only at this
    rw [h1] at this; cases this

theorem off3_of {I C D : Addr} : ∀ {l : List (Addr × Obj)}, (∀ p ∈ l, p.1 ≠ I ∧ p.1 ≠ C ∧ p.1 ≠ D) → LCg.Off3 I C D l
  | [], _ => trivial
  | p :: _, h => ⟨h p (.head _), off3_of fun q hq => h q (.tail _ hq)⟩
theorem off3_app {I C D : Addr} {add news : List (Addr × Obj)} {oI oC oD : Obj} (h : ∀ q ∈ add, ∀ p ∈ (I, oI) :: (C, oC) :: (D, oD) :: news, q.1 ≠ p.1) (o : LCg.Off3 I C D news) : LCg.Off3 I C D (add ++ news) :=
  off3_of fun p hp => (List.mem_append.mp hp).elim (fun hp => ⟨h p hp _ (.head _), h p hp _ (.tail _ (.head _)), h p hp _ (.tail _ (.tail _ (.head _)))⟩) fun hp => LCg.Off3.mem o p hp
section
variable {prog : Program} {w : World} {A : Around} {h₀ : Heap} {L : Addr} {m : Str → Option Value} {env : Env} {elt : Expr} {x : Str} {scope : Scope} {cl : List (Str × Addr)} {s : Shared} {S : List (Addr × Obj) → Prop} {P : Nat → Value → Prop} {Fin : List Value → List (Addr × Obj) → Prop} {news₀ : List (Addr × Obj)}
/-- a comprehension by a relation of its items -/
theorem comp_rel {n : Nat} (R : Nat → Value → List (Addr × Obj) → Prop) (mono : ∀ i y more more', R i y more → (∀ p ∈ more, p ∈ more') → R i y more')
    (turn : ∀ i v I oI C oC D m₂ ys h tk (E' : Value → Shared → Prop) more, i < n → P i v → LCg.NsObj oC m₂ → m₂ x = some v → Fr h₀ L h m → News h₀ L h ((I, oI) :: (C, oC) :: (D, LCg.lst ys) :: (more ++ news₀)) → LCg.Off3 I C D (more ++ news₀) → ((@Ne Nat I C) ∧ (@Ne Nat I D) ∧ (@Ne Nat C D)) → ys.length = i →
      wpAny (model prog w) A (eval elt (compEnvC scope cl C env)) (LCg.CompEnd h₀ L m { s with heap := h, toks := tk } I oI C oC D (LCg.lst ys) S (fun y news' => ∃ more', news' = more' ++ news₀ ∧ (∀ p ∈ more, p ∈ more') ∧ R i y more')) E' { s with heap := h, toks := tk })
    (fin : ∀ ys more, ys.length = n → (∀ i y, ys[i]? = some y → R i y more) → Fin ys (more ++ news₀)) : LCg.CompRest prog w A h₀ L m env elt x scope cl s S P Fin n 0 [] news₀ := by
  have key : ∀ (j i : Nat) (ys : List Value) (more : List (Addr × Obj)), i + j = n → ys.length = i → (∀ i y, ys[i]? = some y → R i y more) → LCg.CompRest prog w A h₀ L m env elt x scope cl s S P Fin j i ys (more ++ news₀) := by
    intro j
    induction j with
    | zero => intro i ys more hi hl hR; exact LCg.CompRest.zero (fin ys more (by omega) hR)
    | succ j ih =>
      intro i ys more hi hl hR
      refine LCg.CompRest.succ ?_
      intro v I oI C oC D m₂ h tk E' hv hC hx F N off ne
      refine wpAny_mono (turn i v I oI C oC D m₂ ys h tk E' more (by omega) hv hC hx F N off ne hl) (fun y s₂ hq => ?_) fun _ _ e => e
      obtain ⟨h', tk', news', e, F', N', off', hS, more', rfl, hs', hR'⟩ := hq
      refine ⟨h', tk', more' ++ news₀, e, F', N', off', hS, ih (i + 1) _ _ (by omega) (by simp [hl]) fun k z hz => ?_⟩
      by_cases hk : k < ys.length
      · rw [List.getElem?_append_left hk] at hz
        exact mono k z _ _ (hR k z hz) hs'
      · rw [List.getElem?_append_right (by omega)] at hz
        have : k - ys.length = 0 := by
          have := (List.getElem?_eq_some_iff.mp hz).1
          simp at this; omega
        rw [this] at hz
        simp at hz
        have hk' : k = i := by omega
        rw [← hz, hk']; exact hR'
  exact key n 0 [] [] (by omega) rfl (by simp)
end

theorem comp_local {M : Model} {A : Around} {E : Value → Shared → Prop} {s : Shared} {h₀ : Heap} {L C : Addr} {oC : Obj} {m₂ : Str → Option Value} {all : List (Addr × Obj)} {env : Env} {scope : Scope} {cl : List (Str × Addr)} {x : Str} {pos : Pos} {v : Value} {Q : Value → Shared → Prop}
    (hx : m₂ x = some v) (hC : LCg.NsObj oC m₂) (N : News h₀ L s.heap all) (hm : (C, oC) ∈ all) (hk : (compEnvC scope cl C env).scope.kind = .function) (hl : (compEnvC scope cl C env).kindOf x = some .local) (hd : (x == ("__debug__" : Str)) = false) (h : Q v s) :
    wpAny M A (eval (.Name x pos) (compEnvC scope cl C env)) Q E s := wpAny_Name (wpAny_loadName_local hk hl (hC.ns (N.get hm)) hx h) hd
theorem comp_cell {M : Model} {A : Around} {E : Value → Shared → Prop} {s : Shared} {h₀ : Heap} {L C c : Addr} {o : Obj} {all : List (Addr × Obj)} {env : Env} {scope : Scope} {cl : List (Str × Addr)} {y : Str} {pos : Pos} {v : Value} {Q : Value → Shared → Prop}
    (hc : cl.lookup y = some c) (hk : (compEnvC scope cl C env).scope.kind = .function) (hx : (compEnvC scope cl C env).kindOf y = some .cell) (hb : (y == ("__debug__" : Str)) = false) (hd : o.data = .cell (some v)) (N : News h₀ L s.heap all) (hm : (c, o) ∈ all) (h : Q v s) :
    wpAny M A (eval (.Name y pos) (compEnvC scope cl C env)) Q E s := wpAny_Name (wpAny_loadName_cell hk hx hc ⟨o, N.get hm, hd⟩ h) hb
def Fresh (g h : Heap) (add : List (Addr × Obj)) : Prop := ∀ p ∈ add, g.get? p.1 = none ∧ h.get? p.1 = some p.2
theorem Fresh.of {g h : Heap} {L : Addr} {news add : List (Addr × Obj)} (N : News g L h news) (hs : ∀ p ∈ add, p ∈ news) : Fresh g h add := fun p hp => ⟨(N p (hs p hp)).2.2, (N p (hs p hp)).1⟩
theorem Fresh.news {g h h' : Heap} {L : Addr} {m : Str → Option Value} {news add : List (Addr × Obj)} (f : Fresh h h' add) (e : Ext h h') (F : Fr g L h m) (N : News g L h news) : News g L h' (add ++ news) := by
  intro p hp
  rcases List.mem_append.mp hp with hp | hp
  · exact news_new F N e (f p hp).1 (f p hp).2 p (.head _)
  · exact news_ext N e p hp
theorem Fresh.ne {g h h' : Heap} {L : Addr} {news add : List (Addr × Obj)} (f : Fresh h h' add) (N : News g L h news) : ∀ q ∈ add, ∀ p ∈ news, q.1 ≠ p.1 := fun q hq p hp e => by
  have a := (f q hq).1
  rw [e, (N p hp).1] at a; cases a
theorem extend_my {prog : Program} {w : World} {A : Around} {E : Value → Shared → Prop} {s : Shared} {h₀ : Heap} {L D b : Addr} {m : Str → Option Value} {all rest : List (Addr × Obj)} {ys zs : List Value} {n n2 : Nat} {Q : Value → Shared → Prop}
    (F : Fr h₀ L s.heap m) (N : News h₀ L s.heap all) (hm : (D, W.listOf ys.toArray n) ∈ all) (hb : (b, W.listOf zs.toArray n2) ∈ all) (hsub : ∀ p ∈ rest, p ∈ all) (hne : ∀ p ∈ rest, p.1 ≠ D)
    (h : ∀ h' n', Fr h₀ L h' m → News h₀ L h' ((D, W.listOf (ys ++ zs).toArray n') :: rest) → Q .none { s with heap := h' }) (hsz : ys.length + zs.length ≤ sizeLine) :
    wpAny (model prog w) A (call (.builtin "list.extend") [.ref D, .ref b]) Q E s := by
  refine extend_in (own := []) (rest := rest) F (fun p hp => N p ((List.mem_cons.mp hp).elim (fun e => e ▸ hm) (hsub p))) (fun _ h => nomatch h) hne (N _ hb).1 (fun h' n' F' N' => h h' n' F' ?_) (by rw [List.size_toArray]; exact hsz)
  simpa using N'
/-- an entry of the ledger that is a pair (x, 1) -/
def TP (p : Addr × Obj) : Prop := ∃ x t u c, p.2 = tup #[.int x t, .int 1 u] c
theorem TP.nf {p : Addr × Obj} (h : TP p) : NF p := by
  obtain ⟨x, t, u, c, e⟩ := h
  intro vs hv; rw [e] at hv; cases hv
theorem TP.ne {g h : Heap} {L D : Addr} {o : Obj} {p : Addr × Obj} {news : List (Addr × Obj)} (t : TP p) (N : News g L h news) (hp : p ∈ news) (hD : (D, o) ∈ news) (ho : o.cls = .type "list") : p.1 ≠ D := by
  obtain ⟨x, t, u, c, e⟩ := t
  intro he
  have a := (N p hp).1
  have b := (N _ hD).1
  rw [he] at a
  rw [b] at a
  have a : o = p.2 := Option.some.inj a
  rw [a, e] at ho
  exact absurd (Value.type.inj ho) (by decide)
def AllTP (l : List (Addr × Obj)) : Prop := ∀ p ∈ l, TP p
theorem AllTP.nil : AllTP [] := fun _ h => nomatch h
theorem AllTP.cons {D : Addr} {x : Int} {t u : Tok} {c : Nat} {l : List (Addr × Obj)} (h : AllTP l) : AllTP ((D, tup #[.int x t, .int 1 u] c) :: l) := fun p hp => by
  rcases List.mem_cons.mp hp with rfl | hp
  · exact ⟨x, t, u, c, rfl⟩
  · exact h p hp

theorem tps_ex (l : List (Addr × Obj)) : ∃ k : List (Addr × Obj), AllTP k ∧ (∀ p ∈ k, p ∈ l) ∧ ∀ p ∈ l, TP p → p ∈ k := by
  induction l with
  | nil => exact ⟨[], AllTP.nil, fun _ h => h, fun _ h => nomatch h⟩
  | cons q l ih =>
    obtain ⟨k, h1, h2, h3⟩ := ih
    rcases Classical.em (TP q) with hq | hq
    · refine ⟨q :: k, fun p hp => ?_, fun p hp => ?_, fun p hp ht => ?_⟩
      · rcases List.mem_cons.mp hp with e | hp
        · exact e ▸ hq
        · exact h1 p hp
      · rcases List.mem_cons.mp hp with e | hp
        · exact e ▸ .head _
        · exact .tail _ (h2 p hp)
      · rcases List.mem_cons.mp hp with e | hp
        · exact e ▸ .head _
        · exact .tail _ (h3 p hp ht)
    · refine ⟨k, h1, fun p hp => .tail _ (h2 p hp), fun p hp ht => ?_⟩
      rcases List.mem_cons.mp hp with e | hp
      · exact absurd (e ▸ ht) hq
      · exact h3 p hp ht
/-- a new list of pairs (x, 1), its pairs in the ledger or R0 -/
def SL (add : List (Addr × Obj)) (ws : List Value) (xs : List Int) : Prop := ws.length = xs.length ∧ ∀ (i : Nat) (x : Int), xs[i]? = some x → ∃ D, ws[i]? = some (Value.ref D) ∧ RZ add D x
theorem SL.mono {add add' : List (Addr × Obj)} {ws : List Value} {xs : List Int} (h : SL add ws xs) (hs : ∀ p ∈ add, p ∈ add') : SL add' ws xs :=
  ⟨h.1, fun i x hp => let ⟨D, a, b⟩ := h.2 i x hp; ⟨D, a, b.mono hs⟩⟩
def SRes (g : Heap) (r : Value) (h : Heap) (xs : List Int) : Prop := ∃ D ws c add, r = .ref D ∧ Fresh g h ((D, W.listOf ws.toArray c) :: add) ∧ AllTP add ∧ SL add ws xs
theorem SRes.of {g h : Heap} {L D : Addr} {news : List (Addr × Obj)} {ws : List Value} {c : Nat} {xs : List Int} (N : News g L h news) (hm : (D, W.listOf ws.toArray c) ∈ news) (hl : ws.length = xs.length)
    (hR : ∀ (i : Nat) (x : Int), xs[i]? = some x → ∃ D, ws[i]? = some (Value.ref D) ∧ RZ news D x) : SRes g (.ref D) h xs := by
  obtain ⟨k, h1, h2, h3⟩ := tps_ex news
  refine ⟨D, ws, c, k, rfl, Fresh.of N fun p hp => ?_, h1, hl, fun i x hx => ?_⟩
  · rcases List.mem_cons.mp hp with e | hp
    · exact e ▸ hm
    · exact h2 p hp
  · obtain ⟨E, e1, e2⟩ := hR i x hx
    refine ⟨E, e1, ?_⟩
    rcases e2 with e | ⟨t, u, c, hm⟩
    · exact .inl e
    · exact .inr ⟨t, u, c, h3 _ hm ⟨x, t, u, c, rfl⟩⟩
end Mine
-- part T5Mix
namespace Mine
local macro_rules | `(tactic| walk_at "MY enter") => `(tactic| (
  k_dflt (refine' enter ?kB ?kX ?kT ?kr ?ho ?hcd ?hbind ?hloc ?c5 ?c2 ?c3 ?c4 ?_; (case kB => assumption); (case kX => assumption); (case kT => assumption); (case kr => omega); (case ho => k_is); (case hcd => k_is); (case hbind => exact BindsTo.of_eq rfl); (case hloc => exact locs rfl); (case c5 => decide); (case c2 => exact rfl); (case c3 => exact rfl); (case c4 => exact rfl));
  intro h1' F1'; have N1' := newsOf F1'; (try dsimp only); (try k_fold)))
local macro_rules | `(tactic| walk_at "MY use") => `(tactic| (
  (case kB => assumption); (case kF => assumption); (case kN => assumption); (case kX => assumption); (case kT => assumption); (case kk => exact ⟨rfl, rfl⟩); (case kd => omega); (case ku => omega)))
/-- the list at a bears the pairs (x, 1), x of xs -/
def QsAre (h : Heap) (vs : List Value) (xs : List Int) : Prop := vs.length = xs.length ∧ ∀ (i : Nat) (x : Int), xs[i]? = some x → ∃ D, vs[i]? = some (Value.ref D) ∧ IsQ h D x
def IsQs (h : Heap) (a : Addr) (xs : List Int) : Prop := ∃ vs : List Value, h.IsList a vs.toArray ∧ QsAre h vs xs
/-- the n-th coefficient's first k terms -/
def mixF (xs ys : List Int) (at' : Nat) : Nat → Int
  | 0 => 0
  | k + 1 => mixF xs ys at' k + xs.getD k 0 * ys.getD (at' - k) 0

theorem r0_is {w : World} {g : Heap} (X : (hd.heap_39 w.params).In g) : IsQ g 49 0 := by
  have e : ∃ o, (hd.heap_39 w.params).lookup 49 = some o ∧ o.cls = .type "tuple" ∧ ∃ t u n, o.data = .seq #[.int 0 t, .int 1 u] n := by
    refine' ⟨?o, ?h, ?c, ?d⟩
    case h => exact rfl
    case c => exact rfl
    case d => exact ⟨_, _, _, rfl⟩
  obtain ⟨o, h1, h2, t, u, n, h3⟩ := e
  exact ⟨t, u, o, X _ _ h1, h2, n, h3⟩
theorem r1_is {w : World} {g : Heap} (X : (hd.heap_39 w.params).In g) : IsQ g 50 1 := by
  have e : ∃ o, (hd.heap_39 w.params).lookup 50 = some o ∧ o.cls = .type "tuple" ∧ ∃ t u n, o.data = .seq #[.int 1 t, .int 1 u] n := by
    refine' ⟨?o, ?h, ?c, ?d⟩
    case h => exact rfl
    case c => exact rfl
    case d => exact ⟨_, _, _, rfl⟩
  obtain ⟨o, h1, h2, t, u, n, h3⟩ := e
  exact ⟨t, u, o, X _ _ h1, h2, n, h3⟩
theorem item_at {prog : Program} {w : World} {A : Around} {E : Value → Shared → Prop} {s : Shared} {value slice : PySem.Expr} {l : Addr} {vs : List Value} {i : Nat} {k : Int} {u : Tok} {v : Value} {Q : Value → Shared → Prop}
    (hl : s.heap.IsList l vs.toArray) (hx : vs[i]? = some v) (hk : k = i) (hi : (i : Int) < 2 ^ 62) (h : Q v s)
    (hs : subscripted slice false (.ref l) (.int k u) = operate [.ref l, .int k u] (getItem (.ref l) (.int k u))) :
    wpAny (model prog w) A (subscriptTail value slice (.ref l) (.int k u)) Q E s :=
  tail_any hl.typeIs slot_list_getitem.lookup (wpAny_getItem_list hl (by omega) (by omega) (by subst hk; simpa using hx) h) hs
local macro_rules | `(tactic| walk_at "subscriptTail") => `(tactic| ((with_reducible show wpAny _ _ (subscriptTail _ _ (Value.ref _) (Value.int _ _)) _ _ _); (with_unfolding_all refine' item_at ?l ?x ?k ?i ?_ ?s; (case l => is_list); (case x => assumption); (case k => omega); (case i => omega); (case s => with_unfolding_all rfl); k_whole)))
theorem reads_q {h : Heap} {a : Addr} {x : Int} {t u : Tok} (i : IsTup h a #[.int x t, .int 1 u]) : Reads h (.ref a) (.tuple [.int x, .int 1]) [] := by
  obtain ⟨o, h1, h2, n, h3⟩ := i
  exact .tuple h1 h2 h3 (.cons (as := []) (bs := []) (.int x t) (.cons (as := []) (bs := []) (.int 1 u) .nil))
theorem ne_q {prog : Program} {w : World} {A : Around} {E : Value → Shared → Prop} {s : Shared} {a b : Addr} {x y : Int} {t u t' u' : Tok} {Q : Value → Shared → Prop}
    (ia : IsTup s.heap a #[.int x t, .int 1 u]) (ib : IsTup s.heap b #[.int y t', .int 1 u']) (hu : A.units + 64 < cLine) (h : Q (.bool (x != y)) s) : wpAny (model prog w) A (compareOp .NotEq (.ref a) (.ref b)) Q E s := by
  refine ne_dataH (reads_q ia) (reads_q ib) rfl rfl hu ?_
  have : PyData.eqv (.tuple [.int x, .int 1]) (.tuple [.int y, .int 1]) = (x == y) := by simp [PyData.eqv, PyData.eqvAll]
  rw [this]
  exact h
local macro_rules | `(tactic| walk_at "compareOp NotEq ref ref") => `(tactic| (k_dflt (refine' ne_q ?a ?b ?u ?_; (case a => exact Fr.tup (by assumption) (by assumption)); (case b => exact Fr.tup (by assumption) (by assumption)); (case u => (dsimp only [Around.deeper, Ar]; omega)))))
theorem rq_head {g : Heap} {D : Addr} {x y : Int} {t u : Tok} {c : Nat} {news : List (Addr × Obj)} (e : x = y) : RQ g ((D, tup #[.int y t, .int 1 u] c) :: news) D x := by
  subst e; exact .inr ⟨t, u, c, .head _⟩
theorem isQ_sub {g h : Heap} {L D : Addr} {m : Str → Option Value} {news news' : List (Addr × Obj)} {x : Int} (r : RQ g news D x) (F : Fr g L h m) (N : News g L h news') (hs : ∀ p ∈ news, p ∈ news') : IsQ h D x := (r.mono hs).isQ F N
theorem isQ_news {g h : Heap} {L D : Addr} {news : List (Addr × Obj)} {x : Int} {t u : Tok} {c : Nat} (N : News g L h news) (hm : (D, tup #[.int x t, .int 1 u] c) ∈ news) : IsQ h D x := ⟨t, u, _, (N _ hm).1, rfl, _, rfl⟩
local macro_rules | `(tactic| walk_at "MY q") => `(tactic| (first
  | exact IsQ.ext (Fr.keep (by assumption)) (by assumption)
  | exact isQ_sub (by assumption) (by assumption) (by assumption) (fun p hp => by simp only [List.mem_append, List.mem_cons, hp, or_true, true_or])
  | exact isQ_news (by assumption) (by k_mem)))
local macro_rules | `(tactic| walk_at "call ref") => `(tactic| (
  (with_reducible show wpAny _ _ (PySem.call (Value.ref 78) _ _) _ _ _);
  k_dflt (refine' use (rmul_con _ _ _ _ ?hx ?hy) ?kB ?kF ?kN ?kX ?kT ?kk ?kd ?ku ?kp ?_; (walk_at "MY use"); (case kp => exact ⟨by walk_at "MY q", by walk_at "MY q"⟩); (case hx => first | assumption | omega); (case hy => first | assumption | omega));
  intro r' h' tk' e' p' F' N'; obtain ⟨_, _, _, _, p1, p2, p3⟩ := p'; subst p1; have N2 := news_new (by assumption) (by assumption) e' p2 p3; clear e' p2 p3 N'; (try dsimp only); (try k_fold); k_sweep))
local macro_rules | `(tactic| walk_at "call ref") => `(tactic| (
  (with_reducible show wpAny _ _ (PySem.call (Value.ref 64) _ _) _ _ _);
  k_dflt (refine' use (radd_con _ _ _ _ ?hx ?hy) ?kB ?kF ?kN ?kX ?kT ?kk ?kd ?ku ?kp ?_; (walk_at "MY use"); (case kp => exact ⟨by walk_at "MY q", by walk_at "MY q"⟩); (case hx => first | assumption | omega); (case hy => first | assumption | omega));
  intro r' h' tk' e' p' F' N'; obtain ⟨_, _, _, _, p1, p2, p3⟩ := p'; subst p1; have N2 := news_new (by assumption) (by assumption) e' p2 p3; clear e' p2 p3 N'; (try dsimp only); (try k_fold); k_sweep))
theorem mul_small {a b : Nat} (h1 : a < 1048576) (h2 : b < 1048576) : a * b ≤ 1099511627776 :=
  Nat.le_trans (Nat.mul_le_mul (Nat.le_of_lt h1) (Nat.le_of_lt h2)) (by decide)
theorem mix_small (xs ys : List Int) (at' : Nat) (hx : ∀ i : Nat, (xs.getD i 0).natAbs < 1048576) (hy : ∀ i : Nat, (ys.getD i 0).natAbs < 1048576) : ∀ k, (mixF xs ys at' k).natAbs ≤ k * 1099511627776
  | 0 => by simp [mixF]
  | k + 1 => by
    have ih := mix_small xs ys at' hx hy k
    have h1 := hx k
    have h2 := hy (at' - k)
    have h3 : (xs.getD k 0 * ys.getD (at' - k) 0).natAbs ≤ 1099511627776 := by
      rw [Int.natAbs_mul]; exact mul_small h1 h2
    unfold mixF
    have h4 := Int.natAbs_add_le (mixF xs ys at' k) (xs.getD k 0 * ys.getD (at' - k) 0)
    omega
local macro_rules | `(tactic| walk_at "pyIter ref") => `(tactic| ((with_reducible show wpAny _ _ (pyIter (Value.ref _)) (fun _ _ => LoopAtV _ _ _ _ _ _ _ _ _ _ _) _ _); refine MyStop.out ?_))
set_option maxRecDepth 100000 in
set_option maxHeartbeats 8000000 in
theorem mixed_con {w mean mg mb} (a b : Addr) (xs ys : List Int) (at' : Nat) (t : Tok) (h1 : at' < xs.length) (h2 : at' < ys.length) (h3 : xs.length < 16) (h4 : ys.length < 16)
    (hx : ∀ i : Nat, (xs.getD i 0).natAbs < 1048576) (hy : ∀ i : Nat, (ys.getD i 0).natAbs < 1048576) : Con w mean mg mb 113 5 [.ref a, .ref b, .int at' t] (fun h => IsQs h a xs ∧ IsQs h b ys) (fun g r h => MRes g r h (mixF xs ys at' (at' + 1))) := by
  w_on
  unfold Con
  k_fill
  intro dp un gd base outs s Q E B X T hdp hun pre hret
  obtain ⟨⟨va, la, na, qa⟩, ⟨vb, lb, nb, qb⟩⟩ := pre
  have r0 : IsQ s.heap 49 0 := r0_is X
  walk_at "MY enter"
  k_steps
  · unfold MyStop
    refine range_acc (at' + 1) (Str.ofString "found") (fun i news v => ∃ D, v = .ref D ∧ RZ news D (mixF xs ys at' i)) rfl (by assumption) (rsmall _ _ (by omega) (by omega) (by omega) (by omega)) (rsize _ _ _ (by omega)) (by assumption) (by assumption) rfl ⟨_, rfl, .inl ⟨rfl, rfl⟩⟩ ?_ ?_
    · rintro i t v news₁ own h tk hi ⟨D, rfl, hZ⟩ hp1 F1 N1
      have hR := hZ.toRQ r0
      have e1 : xs[i]? = some (xs.getD i 0) := by simp [List.getD, show i < xs.length by omega]
      have e2 : ys[at' - i]? = some (ys.getD (at' - i) 0) := by simp [List.getD, show at' - i < ys.length by omega]
      obtain ⟨Da, va1, ia⟩ := qa i _ e1
      obtain ⟨Db, vb1, ib⟩ := qb (at' - i) _ e2
      have b1 := hx i
      have b2 := hy (at' - i)
      have b3 := mix_small xs ys at' hx hy i
      have b4 := mix_small xs ys at' hx hy (i + 1)
      have b5 : (xs.getD i 0 * ys.getD (at' - i) 0).natAbs ≤ 1099511627776 := by
        rw [Int.natAbs_mul]; exact mul_small b1 b2
      have em : mixF xs ys at' (i + 1) = mixF xs ys at' i + xs.getD i 0 * ys.getD (at' - i) 0 := rfl
      generalize xs.getD i 0 = xi at *
      generalize ys.getD (at' - i) 0 = yi at *
      clear qa qb hx hy
      have ja := ia
      have jb := ib
      obtain ⟨ta, ua, ia⟩ := ia
      obtain ⟨tb, ub, ib⟩ := ib
      obtain ⟨t0, u0, r0⟩ := r0
      k_steps
      · refine TurnEnd.one2 (by assumption) (by assumption) (by intro _ h; cases h) ⟨_, rfl, ⟨_, rfl, RZ.head em⟩, fun z h1 h2 => ?_⟩
        · simp only [h1, h2, if_false]
      · rename_i hz
        refine TurnEnd.zero (by assumption) (by assumption) ⟨_, rfl, ⟨_, rfl, ?_⟩, fun z h1 h2 => ?_⟩
        · rw [em, hz, Int.mul_zero, Int.add_zero]; exact hZ
        · simp only [h1, h2, if_false]
      · rename_i hz
        refine TurnEnd.zero (by assumption) (by assumption) ⟨_, rfl, ⟨_, rfl, ?_⟩, fun z h1 h2 => ?_⟩
        · rw [em, hz, Int.zero_mul, Int.add_zero]; exact hZ
        · simp only [h1, h2, if_false]
    · intro u v h' tk news' F1 N1 hR
      obtain ⟨D, rfl, hR⟩ := hR
      k_steps
      dsimp only
      exact hret _ _ _ F1.keep (MRes.of hR F1 N1)
end Mine
-- part T5Smul
namespace Mine
local macro_rules | `(tactic| walk_at "MY enter") => `(tactic| (
  k_dflt (refine' enter ?kB ?kX ?kT ?kr ?ho ?hcd ?hbind ?hloc ?c5 ?c2 ?c3 ?c4 ?_; (case kB => assumption); (case kX => assumption); (case kT => assumption); (case kr => omega); (case ho => k_is); (case hcd => k_is); (case hbind => exact BindsTo.of_eq rfl); (case hloc => exact locs rfl); (case c5 => decide); (case c2 => exact rfl); (case c3 => exact rfl); (case c4 => exact rfl));
  intro h1' F1'; have N1' := newsOf F1'; (try dsimp only); (try k_fold)))
local macro_rules | `(tactic| walk_at "MY use") => `(tactic| (
  (case kB => assumption); (case kF => assumption); (case kN => assumption); (case kX => assumption); (case kT => assumption); (case kk => exact ⟨rfl, rfl⟩); (case kd => omega); (case ku => omega)))
local macro_rules | `(tactic| walk_at "MY enterC") => `(tactic| (
  k_dflt (refine' enterC ?kB ?kX ?kT ?kr ?ho ?hcd ?hbind ?hkind ?hnd ?c2 ?c3 ?c4 ?_; (case kB => assumption); (case kX => assumption); (case kT => assumption); (case kr => omega); (case ho => k_is); (case hcd => k_is); (case hbind => exact BindsTo.of_eq rfl); (case hkind => exact rfl); (case hnd => decide +kernel); (case c2 => exact rfl); (case c3 => exact rfl); (case c4 => exact rfl));
  intro h1' tk1' cells1' F1' N1' Y1'; k_cells Y1'; (try simp only [List.cons_append, List.nil_append] at N1'); (try dsimp only); (try k_fold)))
local macro_rules | `(tactic| walk_at "call builtin:len") => `(tactic| ((with_reducible show wpAny _ _ (call (Value.builtin "len") [Value.ref _]) _ _ _); (with_unfolding_all refine' len_list ?k1 ?k2 ?_; (case k1 => is_list); (case k2 => (simp only [List.size_toArray]; omega)); k_whole); (try simp only [List.size_toArray])))
local macro_rules | `(tactic| walk_at "CompSrc") => `(tactic| ((with_reducible show LCg.CompSrc _ _ _ _ _ _ _ _ _ _ _ _ _ _); refine MyStop.out ?_))
local macro_rules | `(tactic| walk_at "pyIter ref") => `(tactic| ((with_reducible show wpAny _ _ (pyIter (Value.ref _)) (fun _ _ => LoopAtV _ _ _ _ _ _ _ _ _ _ _) _ _); refine MyStop.out ?_))
local macro_rules | `(tactic| walk_at "MY mem") => `(tactic| first
  | exact .head _ | exact .tail _ (.head _) | exact .tail _ (.tail _ (.head _))
  | exact .tail _ (.tail _ (.tail _ (List.mem_append.mpr (.inr (.head _)))))
  | exact .tail _ (.tail _ (.tail _ (List.mem_append.mpr (.inr (.tail _ (.head _))))))
  | exact List.mem_append.mpr (.inr (.tail _ (.tail _ (.tail _ (List.mem_append.mpr (.inr (.head _)))))))
  | exact List.mem_append.mpr (.inr (.tail _ (.tail _ (.tail _ (List.mem_append.mpr (.inr (.tail _ (.head _)))))))))
local macro_rules | `(tactic| walk_at "eval Name") => `(tactic| ((with_reducible show wpAny _ _ (eval (Expr.Name _ _) (compEnvC _ _ _ _)) _ _ _); k_dflt (refine' comp_cell ?c ?k ?x ?b ?d ?N ?m ?_; (case k => exact rfl); (case x => exact rfl); (case c => exact rfl); (case b => decide); (case N => assumption); (case m => walk_at "MY mem"); (case d => assumption); k_whole)))
local macro_rules | `(tactic| walk_at "eval Name") => `(tactic| ((with_reducible show wpAny _ _ (eval (Expr.Name _ _) (compEnvC _ _ _ _)) _ _ _); k_dflt (refine' comp_local ?x ?C ?N ?m ?k ?l ?d ?_; (case k => exact rfl); (case l => exact rfl); (case d => decide); (case x => assumption); (case C => assumption); (case N => assumption); (case m => walk_at "MY mem"); k_whole)))
theorem IsQs.ext {g h : Heap} {a : Addr} {xs : List Int} (e : Ext g h) (q : IsQs g a xs) : IsQs h a xs := by
  obtain ⟨vs, l, n, q⟩ := q
  refine ⟨vs, l.at fun o h => e _ o h, n, fun i x hx => ?_⟩
  obtain ⟨D, h1, h2⟩ := q i x hx
  exact ⟨D, h1, h2.ext e⟩
theorem mem_mix {add news : List (Addr × Obj)} {a b c : Addr × Obj} : ∀ p ∈ a :: b :: c :: (add ++ news), p ∈ add ++ (a :: b :: c :: news) := by
  intro p hp
  simp only [List.mem_cons, List.mem_append] at hp ⊢
  rcases hp with h | h | h | h | h <;> simp [h]
theorem qs_of {g h : Heap} {L D : Addr} {m : Str → Option Value} {news : List (Addr × Obj)} {zs : List Value} {xs : List Int} (F : Fr g L h m) (N : News g L h news) (hm : (D, LCg.lst zs) ∈ news) (hl : zs.length = xs.length) (r0 : IsQ g 49 0)
    (hR : ∀ (i : Nat) (x : Int), xs[i]? = some x → ∃ D, zs[i]? = some (Value.ref D) ∧ RZ news D x) : IsQs h D xs :=
  ⟨zs, ⟨_, N.get hm, rfl, _, rfl⟩, hl, fun i x hx => let ⟨D, h1, h2⟩ := hR i x hx; ⟨D, h1, (h2.toRQ r0).isQ F N⟩⟩
set_option maxRecDepth 100000 in
set_option maxHeartbeats 1000000 in
theorem smul_con {w mean mg mb} (a b : Addr) (xs ys : List Int) (h1 : xs.length < 16) (h2 : ys.length = xs.length)
    (hsx : ∀ i : Nat, (xs.getD i 0).natAbs < 1048576) (hy : ∀ i : Nat, (ys.getD i 0).natAbs < 1048576) : Con w mean mg mb 118 6 [.ref a, .ref b] (fun h => IsQs h a xs ∧ IsQs h b ys) (fun g r h => SRes g r h ((List.range xs.length).map fun i => mixF xs ys i (i + 1))) := by
  w_on
  unfold Con
  k_fill
  intro dp un gd base outs s Q E B X T hdp hun pre hret
  have r0 : IsQ s.heap 49 0 := r0_is X
  obtain ⟨ja, jb⟩ := pre
  have ⟨va, la, na, _⟩ := ja
  have ⟨vb, lb, nb, _⟩ := jb
  k_dflt (refine' enterC ?kB ?kX ?kT ?kr ?ho ?hcd ?hbind ?hkind ?hnd ?c2 ?c3 ?c4 ?_; (case kB => assumption); (case kX => assumption); (case kT => assumption); (case kr => omega); (case ho => k_is); (case hcd => k_is); (case hbind => exact BindsTo.of_eq rfl); (case hkind => exact rfl); (case hnd => decide +kernel); (case c2 => exact rfl); (case c3 => exact rfl); (case c4 => exact rfl))
  intro h1' tk1' cells1' F1' N1' Y1'
  obtain ⟨o1, o2, hE, d1, d2⟩ := CellsAre.two Y1'
  subst hE
  clear Y1'
  replace d1 : o1.data = .cell (some (.ref b)) := d1
  replace d2 : o2.data = .cell (some (.ref a)) := d2
  try dsimp only
  try k_fold
  k_steps
  unfold MyStop
  refine LCg.CompSrc.range (n := xs.length) rfl (by assumption) (by assumption) (by assumption) (rsmall _ _ (by omega) (by omega) (by omega) (by omega)) (rsize _ _ _ (by omega)) (by rw [sizeLine_eq]; omega) (fun g => ?_)
  refine comp_rel (fun i y news => ∃ D, y = .ref D ∧ RZ news D (mixF xs ys i (i + 1))) ?_ ?_ ?_
  · rintro i y n1 n2 ⟨D, rfl, r⟩ hs
    exact ⟨D, rfl, r.mono hs⟩
  · rintro i v I oI C oC D m₂ zs h tk E' more hi ⟨t, rfl⟩ hC hx F N off ne hl
    rw [Int.zero_add] at hx
    k_steps
    refine use (mixed_con a b xs ys i t (by omega) (by omega) (by omega) (by omega) hsx hy) B F N X T ⟨rfl, rfl⟩ (by omega) (by omega) ⟨ja.ext F.keep, jb.ext F.keep⟩ ?_
    intro r h' tk' e p F' N'
    obtain ⟨Dm, add, hr, N2, pl, ne2, rz⟩ := p.use e F N
    subst hr
    clear N' p e
    try dsimp only
    k_steps
    have hm := mix_small xs ys i hsx hy (i + 1)
    refine use (let_con Dm _ (show (mixF xs ys i (i + 1)).natAbs < 2 ^ 60 by omega)) B F' N2 X T ⟨rfl, rfl⟩ (by omega) (by omega) (isQ_sub (rz.toRQ r0) F' N2 (fun p hp => List.mem_append.mpr (.inl hp))) ?_
    intro r h'' tk'' e p F'' N''
    subst p
    try dsimp only
    k_steps
    refine LCg.CompEnd.intro F'' N'' (add ++ (more ++ [(_, o1), (_, o2)])) mem_mix (off3_app ne2 off) trivial ⟨add ++ more, by simp, fun p hp => List.mem_append.mpr (.inr hp), Dm, rfl, rz.mono fun p hp => List.mem_append.mpr (.inl hp)⟩
  · intro zs more hl hR
    k_steps
    rename_i F3 N3 _
    refine hret _ _ _ F3.keep (SRes.of (c := zs.length) (ws := zs) N3 (.head _) (by simp [hl]) fun i x hx => ?_)
    have hi : i < xs.length := by have := (List.getElem?_eq_some_iff.mp hx).1; simpa using this
    obtain ⟨D, hy, r⟩ := hR i _ (List.getElem?_eq_getElem (by omega))
    refine ⟨D, by rw [← hy]; exact List.getElem?_eq_getElem (by omega), ?_⟩
    simp [hi] at hx
    rw [← hx]
    exact r.mono fun p hp => .tail _ (List.mem_append.mpr (.inl hp))
end Mine
-- part T5Inv
namespace Mine
local macro_rules | `(tactic| walk_at "MY enter") => `(tactic| (
  k_dflt (refine' enter ?kB ?kX ?kT ?kr ?ho ?hcd ?hbind ?hloc ?c5 ?c2 ?c3 ?c4 ?_; (case kB => assumption); (case kX => assumption); (case kT => assumption); (case kr => omega); (case ho => k_is); (case hcd => k_is); (case hbind => exact BindsTo.of_eq rfl); (case hloc => exact locs rfl); (case c5 => decide); (case c2 => exact rfl); (case c3 => exact rfl); (case c4 => exact rfl));
  intro h1' F1'; have N1' := newsOf F1'; (try dsimp only); (try k_fold)))
local macro_rules | `(tactic| walk_at "MY use") => `(tactic| (
  (case kB => assumption); (case kF => assumption); (case kN => assumption); (case kX => assumption); (case kT => assumption); (case kk => exact ⟨rfl, rfl⟩); (case kd => omega); (case ku => omega)))
local macro_rules | `(tactic| walk_at "MY enterC") => `(tactic| (
  k_dflt (refine' enterC ?kB ?kX ?kT ?kr ?ho ?hcd ?hbind ?hkind ?hnd ?c2 ?c3 ?c4 ?_; (case kB => assumption); (case kX => assumption); (case kT => assumption); (case kr => omega); (case ho => k_is); (case hcd => k_is); (case hbind => exact BindsTo.of_eq rfl); (case hkind => exact rfl); (case hnd => decide +kernel); (case c2 => exact rfl); (case c3 => exact rfl); (case c4 => exact rfl));
  intro h1' tk1' cells1' F1' N1' Y1'; k_cells Y1'; (try simp only [List.cons_append, List.nil_append] at N1'); (try dsimp only); (try k_fold)))
local macro_rules | `(tactic| walk_at "call builtin:len") => `(tactic| ((with_reducible show wpAny _ _ (call (Value.builtin "len") [Value.ref _]) _ _ _); (with_unfolding_all refine' len_list ?k1 ?k2 ?_; (case k1 => is_list); (case k2 => (simp only [List.size_toArray]; omega)); k_whole); (try simp only [List.size_toArray])))
local macro_rules | `(tactic| walk_at "CompSrc") => `(tactic| ((with_reducible show LCg.CompSrc _ _ _ _ _ _ _ _ _ _ _ _ _ _); refine MyStop.out ?_))
local macro_rules | `(tactic| walk_at "pyIter ref") => `(tactic| ((with_reducible show wpAny _ _ (pyIter (Value.ref _)) (fun _ _ => LoopAtV _ _ _ _ _ _ _ _ _ _ _) _ _); refine MyStop.out ?_))
/-- what a place of the inverse comes to, after k spots -/
def totF (xs fs : List Int) (at' : Nat) : Nat → Int
  | 0 => if at' = 0 then 1 else 0
  | k + 1 => totF xs fs at' k - xs.getD (k + 1) 0 * fs.getD (at' - (k + 1)) 0
/-- the first n places of the inverse -/
def invF (xs : List Int) : Nat → List Int
  | 0 => []
  | n + 1 => invF xs n ++ [totF xs (invF xs n) n n]
local macro_rules | `(tactic| walk_at "subscriptTail") => `(tactic| ((with_reducible show wpAny _ _ (subscriptTail _ _ (Value.ref _) (Value.int _ _)) _ _ _); (with_unfolding_all refine' item_at ?l ?x ?k ?i ?_ ?s; (case l => is_list); (case x => assumption); (case k => omega); (case i => omega); (case s => with_unfolding_all rfl); k_whole)))
theorem eq_q {prog : Program} {w : World} {A : Around} {E : Value → Shared → Prop} {s : Shared} {a b : Addr} {x y : Int} {t u t' u' : Tok} {Q : Value → Shared → Prop}
    (ia : IsTup s.heap a #[.int x t, .int 1 u]) (ib : IsTup s.heap b #[.int y t', .int 1 u']) (hu : A.units + 64 < cLine) (h : Q (.bool (x == y)) s) : wpAny (model prog w) A (compareOp .Eq (.ref a) (.ref b)) Q E s := by
  refine eq_dataH (reads_q ia) (reads_q ib) rfl rfl hu ?_
  have : PyData.eqv (.tuple [.int x, .int 1]) (.tuple [.int y, .int 1]) = (x == y) := by simp [PyData.eqv, PyData.eqvAll]
  rw [this]
  exact h
local macro_rules | `(tactic| walk_at "compareOp Eq ref ref") => `(tactic| (k_dflt (refine' eq_q ?a ?b ?u ?_; (case a => exact Fr.tup (by assumption) (by assumption)); (case b => exact Fr.tup (by assumption) (by assumption)); (case u => (dsimp only [Around.deeper, Ar]; omega)))))
/-- R0, R1 or in the ledger -/
def RT (news : List (Addr × Obj)) (D : Addr) (x : Int) : Prop := (D = 50 ∧ x = 1) ∨ RZ news D x
theorem RT.toRQ {g : Heap} {news : List (Addr × Obj)} {D : Addr} {x : Int} (r : RT news D x) (r0 : IsQ g 49 0) (r1 : IsQ g 50 1) : RQ g news D x := by
  rcases r with ⟨rfl, rfl⟩ | r
  · exact .inl r1
  · exact r.toRQ r0
theorem append_my {prog : Program} {w : World} {A : Around} {E : Value → Shared → Prop} {s : Shared} {h₀ : Heap} {L D : Addr} {m : Str → Option Value} {all rest : List (Addr × Obj)} {its : Array Value} {n : Nat} {x : Value} {Q : Value → Shared → Prop}
    (F : Fr h₀ L s.heap m) (N : News h₀ L s.heap all) (hm : (D, W.listOf its n) ∈ all) (hsub : ∀ p ∈ rest, p ∈ all) (hne : ∀ p ∈ rest, p.1 ≠ D)
    (h : ∀ h', Fr h₀ L h' m → News h₀ L h' ((D, W.listOf (its.push x) (n + 1)) :: rest) → Q .none { s with heap := h' }) (hsz : its.size ≤ sizeLine) :
    wpAny (model prog w) A (call (.builtin "list.append") [.ref D, x]) Q E s :=
  append_K F (fun p hp => N p ((List.mem_cons.mp hp).elim (fun e => e ▸ hm) (hsub p))) (Upd.head hne) h hsz
local macro_rules | `(tactic| walk_at "MY memF") => `(tactic| first
  | exact List.mem_append.mpr (.inr (List.mem_append.mpr (.inr (List.mem_append.mpr (.inr (.head _))))))
  | exact List.mem_append.mpr (.inr (List.mem_append.mpr (.inr (.head _)))))
local macro_rules | `(tactic| walk_at "subscriptTail") => `(tactic| ((with_reducible show wpAny _ _ (subscriptTail _ _ (Value.ref _) (Value.int _ _)) _ _ _); k_dflt (refine' item_at ?l ?x ?k ?i ?_ ?s; (case l => first | exact Fr.lst (by assumption) (by assumption) | exact News.isList (by assumption) (by walk_at "MY memF")); (case x => assumption); (case k => omega); (case i => omega); (case s => with_unfolding_all rfl); k_whole)))
local macro_rules | `(tactic| walk_at "MY q") => `(tactic| (first
  | exact IsQ.ext (Fr.keep (by assumption)) (by assumption)
  | exact isQ_sub (by assumption) (by assumption) (by assumption) (fun p hp => by simp only [List.mem_append, List.mem_cons, hp, or_true, true_or])
  | exact isQ_news (by assumption) (by k_mem)))
local macro_rules | `(tactic| walk_at "call ref") => `(tactic| (
  (with_reducible show wpAny _ _ (PySem.call (Value.ref 78) _ _) _ _ _);
  k_dflt (refine' use (rmul_con _ _ _ _ ?hx ?hy) ?kB ?kF ?kN ?kX ?kT ?kk ?kd ?ku ?kp ?_; (walk_at "MY use"); (case kp => exact ⟨by walk_at "MY q", by walk_at "MY q"⟩); (case hx => first | assumption | omega); (case hy => first | assumption | omega));
  intro r' h' tk' e' p' F' N'; obtain ⟨_, _, _, _, p1, p2, p3⟩ := p'; subst p1; have N2 := news_new (by assumption) (by assumption) e' p2 p3; clear e' p2 p3 N'; (try dsimp only); (try k_fold); k_sweep))
local macro_rules | `(tactic| walk_at "call ref") => `(tactic| (
  (with_reducible show wpAny _ _ (PySem.call (Value.ref 71) _ _) _ _ _);
  k_dflt (refine' use (rsub_con _ _ _ _ ?hx ?hy) ?kB ?kF ?kN ?kX ?kT ?kk ?kd ?ku ?kp ?_; (walk_at "MY use"); (case kp => exact ⟨by walk_at "MY q", by walk_at "MY q"⟩); (case hx => first | assumption | omega); (case hy => first | assumption | omega));
  intro r' h' tk' e' p' F' N'; obtain ⟨_, _, _, _, p1, p2, p3⟩ := p'; subst p1; have N2 := news_new (by assumption) (by assumption) e' p2 p3; clear e' p2 p3 N'; (try dsimp only); (try k_fold); k_sweep))
theorem tot_small (xs fs : List Int) (at' : Nat) (hx : ∀ i : Nat, (xs.getD i 0).natAbs < 1048576) (hy : ∀ i : Nat, (fs.getD i 0).natAbs < 1048576) : ∀ k, (totF xs fs at' k).natAbs ≤ 1 + k * 1099511627776
  | 0 => by unfold totF; split <;> simp
  | k + 1 => by
    have ih := tot_small xs fs at' hx hy k
    have h3 : (xs.getD (k + 1) 0 * fs.getD (at' - (k + 1)) 0).natAbs ≤ 1099511627776 := by
      rw [Int.natAbs_mul]; exact mul_small (hx _) (hy _)
    unfold totF
    have h4 := Int.natAbs_add_le (totF xs fs at' k) (-(xs.getD (k + 1) 0 * fs.getD (at' - (k + 1)) 0))
    rw [Int.natAbs_neg] at h4
    rw [Int.sub_eq_add_neg]
    omega
theorem map3 {m m₀ : Str → Option Value} {x a b : Str} {v : Option Value} (hm : ∀ z, z ≠ x → z ≠ a → z ≠ b → m z = m₀ z) : (fun z => if z = x then v else m z) = fun z => if z = x then v else if z = a then m a else if z = b then m b else m₀ z := by
  funext z
  by_cases e1 : z = x
  · simp only [e1, if_true]
  simp only [if_neg e1]
  by_cases e2 : z = a
  · subst e2; simp only [if_true]
  simp only [if_neg e2]
  by_cases e3 : z = b
  · subst e3; simp only [if_true]
  simp only [if_neg e3]
  exact hm z e1 e2 e3
local macro_rules | `(tactic| walk_at "getMethod ref") => `(tactic| ((with_reducible show wpAny _ _ (getMethod (Value.ref _) (PySem.Str.ofString "append") _) _ _ _); k_dflt (refine' listMethod_K ?N ?m PySem.F.slot_list_append PySem.F.type_list_append ?_; (case N => k_asm); (case m => walk_at "MY memF"))))
local macro_rules | `(tactic| walk_at "call builtin:list.append") => `(tactic| ((with_reducible show wpAny _ _ (call (Value.builtin _) [Value.ref _, _]) _ _ _); refine MyStop.out ?_))
local macro_rules | `(tactic| walk_at "call ref") => `(tactic| (
  (with_reducible show wpAny _ _ (PySem.call (Value.ref 85) _ _) _ _ _);
  k_dflt (refine' use (rdiv_con _ _ _ _ ?hx ?hy) ?kB ?kF ?kN ?kX ?kT ?kk ?kd ?ku ?kp ?_; (walk_at "MY use"); (case kp => exact ⟨by walk_at "MY q", by walk_at "MY q"⟩); (case hx => first | assumption | omega); (case hy => first | exact rfl | assumption));
  intro r' h' tk' e' p' F' N'; obtain ⟨_, _, _, _, p1, p2, p3⟩ := p'; subst p1; have N2 := news_new (by assumption) (by assumption) e' p2 p3; clear e' p2 p3 N'; (try dsimp only); (try k_fold); k_sweep))
local macro_rules | `(tactic| walk_at "call ref") => `(tactic| (
  (with_reducible show wpAny _ _ (PySem.call (Value.ref 106) _ _) _ _ _);
  k_dflt (refine' use (let_con _ _ ?hx) ?kB ?kF ?kN ?kX ?kT ?kk ?kd ?ku ?kp ?_; (walk_at "MY use"); (case kp => walk_at "MY q"); (case hx => first | assumption | omega));
  intro r' h' tk' e' p' F' N'; subst p'; clear e'; (try dsimp only); (try k_fold); k_sweep))
theorem invF_length (xs : List Int) : ∀ n, (invF xs n).length = n
  | 0 => rfl
  | n + 1 => by rw [invF, List.length_append, invF_length xs n]; rfl
theorem append_inv {prog : Program} {w : World} {A : Around} {E : Value → Shared → Prop} {s : Shared} {h₀ : Heap} {L Df : Addr} {m : Str → Option Value} {q : Addr × Obj} {add own more : List (Addr × Obj)} {zs : List Value} {n : Nat} {x : Value} {Q : Value → Shared → Prop}
    (F : Fr h₀ L s.heap m) (N : News h₀ L s.heap (q :: (add ++ (own ++ (Df, W.listOf zs.toArray n) :: more)))) (hq : TP q) (htp : AllTP more) (hown : ∀ p ∈ own, ∀ r ∈ (Df, W.listOf zs.toArray n) :: more, p.1 ≠ r.1)
    (h : ∀ h', Fr h₀ L h' m → News h₀ L h' ((Df, W.listOf (zs ++ [x]).toArray (n + 1)) :: q :: (own ++ more)) → Q .none { s with heap := h' }) (hsz : zs.length ≤ sizeLine) :
    wpAny (model prog w) A (call (.builtin "list.append") [.ref Df, x]) Q E s := by
  have hm : (Df, W.listOf zs.toArray n) ∈ q :: (add ++ (own ++ (Df, W.listOf zs.toArray n) :: more)) := List.mem_cons_of_mem _ (List.mem_append.mpr (.inr (List.mem_append.mpr (.inr (.head _)))))
  have hs : ∀ p ∈ q :: (own ++ more), p ∈ q :: (add ++ (own ++ (Df, W.listOf zs.toArray n) :: more)) := by
    intro p hp
    simp only [List.mem_cons, List.mem_append] at hp ⊢
    rcases hp with h | h | h <;> simp [h]
  refine append_my F N hm hs (fun p hp => ?_) (fun h' F' N' => ?_) (by rw [List.size_toArray]; exact hsz)
  · have hp' := hs p hp
    simp only [List.mem_cons, List.mem_append] at hp
    rcases hp with e | e | e
    · exact (e ▸ hq : TP p).ne N hp' hm rfl
    · exact hown p e _ (.head _)
    · exact (htp p e).ne N hp' hm rfl
  · refine h h' F' ?_
    have : (zs ++ [x]).toArray = zs.toArray.push x := by simp
    rw [this]; exact N'
theorem TurnEnd.inv {h₀ h' : Heap} {L Df : Addr} {o o0 : Obj} {m : Str → Option Value} {own more : List (Addr × Obj)} {q : Addr × Obj} {J : (Str → Option Value) → List (Addr × Obj) → Prop} {s₁ : Shared} {Q : Flow → Shared → Prop} {tk : Nat}
    (F : Fr h₀ L h' m) (N : News h₀ L h' ((Df, o) :: q :: (own ++ more))) (ho : NF (Df, o)) (hq : NF q) (hj : J m ((Df, o) :: q :: more)) : TurnEnd h₀ L own ((Df, o0) :: more) J s₁ Q .next { s₁ with heap := h', toks := tk } := by
  refine ⟨h', tk, m, (Df, o) :: q :: more, rfl, F, fun p hp => N p (.tail _ (.tail _ (List.mem_append.mpr (.inl hp)))), fun p hp => N p ?_, fun p hp => ?_, hj⟩
  · simp only [List.mem_cons, List.mem_append] at hp ⊢
    rcases hp with h | h | h <;> simp [h]
  · simp only [List.mem_cons] at hp
    rcases hp with h | h | h
    · exact .inr (h ▸ ho)
    · exact .inr (h ▸ hq)
    · exact .inl (.tail _ h)
theorem inv_items {xs : List Int} {zs : List Value} {more : List (Addr × Obj)} {D3 : Addr} {t u : Tok} {c i : Nat} (hzl : zs.length = i) (hz : ∀ (k : Nat) (x : Int), (invF xs i)[k]? = some x → ∃ D, zs[k]? = some (Value.ref D) ∧ RZ more D x) :
    ∀ (k : Nat) (x : Int), (invF xs (i + 1))[k]? = some x → ∃ D, (zs ++ [Value.ref D3])[k]? = some (Value.ref D) ∧ RZ ((D3, tup #[.int (totF xs (invF xs i) i i) t, .int 1 u] c) :: more) D x := by
  intro k x hx
  rw [invF] at hx
  have hl := invF_length xs i
  by_cases hk : k < i
  · rw [List.getElem?_append_left (by omega)] at hx
    obtain ⟨D, h1, h2⟩ := hz k x hx
    exact ⟨D, by rw [List.getElem?_append_left (by omega)]; exact h1, h2.mono fun p hp => .tail _ hp⟩
  · rw [List.getElem?_append_right (by omega)] at hx
    have h0 : k - (invF xs i).length = 0 := by
      have := (List.getElem?_eq_some_iff.mp hx).1
      simp at this; omega
    rw [h0] at hx
    have hx : totF xs (invF xs i) i i = x := Option.some.inj hx
    refine ⟨D3, ?_, RZ.head hx.symm⟩
    rw [List.getElem?_append_right (by omega)]
    have : k - zs.length = 0 := by omega
    rw [this]; rfl
theorem qs_of2 {g h : Heap} {L D : Addr} {m : Str → Option Value} {news : List (Addr × Obj)} {zs : List Value} {c : Nat} {xs : List Int} (F : Fr g L h m) (N : News g L h news) (hm : (D, W.listOf zs.toArray c) ∈ news) (hl : zs.length = xs.length) (r0 : IsQ g 49 0)
    (hR : ∀ (i : Nat) (x : Int), xs[i]? = some x → ∃ D, zs[i]? = some (Value.ref D) ∧ RZ news D x) : IsQs h D xs :=
  ⟨zs, ⟨_, N.get hm, rfl, _, rfl⟩, hl, fun i x hx => let ⟨D, h1, h2⟩ := hR i x hx; ⟨D, h1, (h2.toRQ r0).isQ F N⟩⟩
set_option maxRecDepth 100000 in
set_option maxHeartbeats 1000000 in
theorem sinverse_con {w mean mg mb} (a : Addr) (xs : List Int) (h1 : 0 < xs.length) (h2 : xs.length < 16) (hx0 : xs.getD 0 0 = 1)
    (hsx : ∀ i : Nat, (xs.getD i 0).natAbs < 1048576) (hsf : ∀ n : Nat, n ≤ xs.length → ∀ i : Nat, ((invF xs n).getD i 0).natAbs < 1048576) : Con w mean mg mb 125 6 [.ref a] (fun h => IsQs h a xs) (fun g r h => SRes g r h (invF xs xs.length)) := by
  w_on
  unfold Con
  k_fill
  intro dp un gd base outs s Q E B X T hdp hun pre hret
  have r0 : IsQ s.heap 49 0 := r0_is X
  have r1 : IsQ s.heap 50 1 := r1_is X
  have ⟨va, la, na, qa⟩ := pre
  obtain ⟨Da, va0, ia0⟩ := qa 0 1 (by rw [← hx0]; simp [List.getD, h1])
  have ja0 := ia0
  obtain ⟨ta, ua, ia⟩ := ia0
  have ⟨t0, u0, i0⟩ := r0
  walk_at "MY enter"
  k_steps
  unfold MyStop
  rename_i Df _ _ _ _ _ _ _ _ _ _ hr F0 N0 _
  refine range_loop xs.length (fun i m news => ∃ (zs : List Value) (c : Nat) (more : List (Addr × Obj)), news = (Df, W.listOf zs.toArray c) :: more ∧ AllTP more ∧ zs.length = i ∧
      (∀ (k : Nat) (x : Int), (invF xs i)[k]? = some x → ∃ D, zs[k]? = some (Value.ref D) ∧ RZ more D x) ∧
      ∀ z, z ≠ Str.ofString "at" → z ≠ Str.ofString "total" → z ≠ Str.ofString "spot" → m z = (fun y => if y = Str.ofString "found" then some (Value.ref Df) else List.lookup y [(Str.ofString "a", Value.ref a)]) z) rfl hr (rsmall _ _ (by omega) (by omega) (by omega) (by omega)) (rsize _ _ _ (by omega)) F0 N0 ⟨[], 0, [], rfl, AllTP.nil, rfl, fun k x h => by simp [invF] at h, ?_⟩ ?_ ?_
  · intro z _ _ _
    rfl
  · rintro i t m₁ news₁ own h tk hi ⟨zs, c, more, rfl, htp, hzl, hz, hm⟩ hown F1 N1
    rw [map3 hm, Int.mul_one, Int.zero_add] at F1
    clear hm
    k_steps
    all_goals
      unfold MyStop
      rename_i hi0 _ _ _ _ _ _ _ _ hr2 F2 N2 _
      refine range_acc i (Str.ofString "total") (fun k news v => ∃ add Dt, news = add ++ (own ++ (Df, W.listOf zs.toArray c) :: more) ∧ AllTP add ∧ v = .ref Dt ∧ RT add Dt (totF xs (invF xs i) i k)) rfl hr2 (rsmall _ _ (by omega) (by omega) (by omega) (by omega)) (rsize _ _ _ (by omega)) F2 N2 rfl ⟨[], _, rfl, AllTP.nil, rfl, ?_⟩ ?_ ?_
      · first
        | exact .inl ⟨rfl, by unfold totF; rw [if_pos (by omega)]⟩
        | exact .inr (.inl ⟨rfl, by unfold totF; rw [if_neg (by omega)]⟩)
      · rintro k t2 v news₂ own2 h2 tk2 hk ⟨add, Dt, rfl, hatp, rfl, hrt⟩ hown2 F3 N3
        have e1 : xs[k + 1]? = some (xs.getD (k + 1) 0) := by simp [List.getD, show k + 1 < xs.length by omega]
        have e2 : (invF xs i)[i - (k + 1)]? = some ((invF xs i).getD (i - (k + 1)) 0) := by simp [List.getD, invF_length, show i - (k + 1) < i by omega]
        obtain ⟨Ds, va1, is1⟩ := qa (k + 1) _ e1
        obtain ⟨Dz, vz1, rz1⟩ := hz _ _ e2
        have hqz := rz1.toRQ r0
        have hqt := hrt.toRQ r0 r1
        have b1 := hsx (k + 1)
        have b2 := hsf i (by omega) (i - (k + 1))
        have b3 := tot_small xs (invF xs i) i hsx (hsf i (by omega)) k
        have b5 : (xs.getD (k + 1) 0 * (invF xs i).getD (i - (k + 1)) 0).natAbs ≤ 1099511627776 := by
          rw [Int.natAbs_mul]; exact mul_small b1 b2
        have em : totF xs (invF xs i) i (k + 1) = totF xs (invF xs i) i k - xs.getD (k + 1) 0 * (invF xs i).getD (i - (k + 1)) 0 := rfl
        clear qa hz hsx hsf e1 e2
        generalize xs.getD (k + 1) 0 = xk at *
        generalize (invF xs i).getD (i - (k + 1)) 0 = fk at *
        k_steps
        exact TurnEnd.one2 (by assumption) (by assumption) (by intro _ h; cases h) ⟨_, rfl, ⟨(_, _) :: add, _, rfl, hatp.cons, rfl, .inr (RZ.head em)⟩, fun z h1 h2 => by simp only [h1, h2, if_false]⟩
      · rintro u v h3 tk3 news' F4 N4 ⟨add, Dt, rfl, hatp, rfl, hrt⟩
        have hqt := hrt.toRQ r0 r1
        have b3 := tot_small xs (invF xs i) i hsx (hsf i (by omega)) i
        k_steps
        unfold MyStop
        refine append_inv (by assumption) (by assumption) ⟨_, _, _, _, rfl⟩ htp hown ?_ (by rw [hzl, sizeLine_eq]; omega)
        intro h5 F6 N6
        k_steps
        exact TurnEnd.inv F6 N6 (by intro _ h; cases h) (by intro _ h; cases h) ⟨_, _, _, rfl, htp.cons, by simp [hzl], inv_items hzl hz, fun z h1 h2 h3 => by simp only [h1, h2, h3, if_false]⟩
  · rintro h' tk m' news' F1 N1 ⟨zs, c, more, rfl, htp, hzl, hz, hm⟩
    rw [← self_map (m := m') (x := Str.ofString "at"), map3 hm] at F1
    k_steps
    dsimp only
    exact hret _ _ _ F1.keep (SRes.of N1 (.head _) (by rw [hzl, invF_length]) fun k x hx => let ⟨D, a, b⟩ := hz k x hx; ⟨D, a, b.mono fun p hp => .tail _ hp⟩)
end Mine
-- part T5Cnt
namespace Mine
local macro_rules | `(tactic| walk_at "MY enter") => `(tactic| (
  k_dflt (refine' enter ?kB ?kX ?kT ?kr ?ho ?hcd ?hbind ?hloc ?c5 ?c2 ?c3 ?c4 ?_; (case kB => assumption); (case kX => assumption); (case kT => assumption); (case kr => omega); (case ho => k_is); (case hcd => k_is); (case hbind => exact BindsTo.of_eq rfl); (case hloc => exact locs rfl); (case c5 => decide); (case c2 => exact rfl); (case c3 => exact rfl); (case c4 => exact rfl));
  intro h1' F1'; have N1' := newsOf F1'; (try dsimp only); (try k_fold)))
local macro_rules | `(tactic| walk_at "MY use") => `(tactic| (
  (case kB => assumption); (case kF => assumption); (case kN => assumption); (case kX => assumption); (case kT => assumption); (case kk => exact ⟨rfl, rfl⟩); (case kd => omega); (case ku => omega)))
local macro_rules | `(tactic| walk_at "MY enterC") => `(tactic| (
  k_dflt (refine' enterC ?kB ?kX ?kT ?kr ?ho ?hcd ?hbind ?hkind ?hnd ?c2 ?c3 ?c4 ?_; (case kB => assumption); (case kX => assumption); (case kT => assumption); (case kr => omega); (case ho => k_is); (case hcd => k_is); (case hbind => exact BindsTo.of_eq rfl); (case hkind => exact rfl); (case hnd => decide +kernel); (case c2 => exact rfl); (case c3 => exact rfl); (case c4 => exact rfl));
  intro h1' tk1' cells1' F1' N1' Y1'; k_cells Y1'; (try simp only [List.cons_append, List.nil_append] at N1'); (try dsimp only); (try k_fold)))
local macro_rules | `(tactic| walk_at "call builtin:len") => `(tactic| ((with_reducible show wpAny _ _ (call (Value.builtin "len") [Value.ref _]) _ _ _); (with_unfolding_all refine' len_list ?k1 ?k2 ?_; (case k1 => is_list); (case k2 => (simp only [List.size_toArray]; omega)); k_whole); (try simp only [List.size_toArray])))
local macro_rules | `(tactic| walk_at "CompSrc") => `(tactic| ((with_reducible show LCg.CompSrc _ _ _ _ _ _ _ _ _ _ _ _ _ _); refine MyStop.out ?_))
local macro_rules | `(tactic| walk_at "pyIter ref") => `(tactic| ((with_reducible show wpAny _ _ (pyIter (Value.ref _)) (fun _ _ => LoopAtV _ _ _ _ _ _ _ _ _ _ _) _ _); refine MyStop.out ?_))
/-- which parts the law counts -/
def cntF (form part : Nat) : Bool := match form with
  | 0 => part % 5 == 1 || part % 5 == 4
  | 1 => part % 5 == 2 || part % 5 == 3
  | 2 => !(part % 7 == 0 || part % 7 == 3 || part % 7 == 4)
  | 3 => !(part % 7 == 0 || part % 7 == 2 || part % 7 == 5)
  | 4 => !(part % 7 == 0 || part % 7 == 1 || part % 7 == 6)
  | 5 => part % 2 != 0
  | 6 => part % 3 != 0
  | _ => part % 6 == 1 || part % 6 == 5
set_option maxRecDepth 100000 in
set_option maxHeartbeats 2000000 in
theorem counts_con {w mean mg mb} (form part : Nat) (t u : Tok) (h1 : form < 8) (h2 : part < 12) : Con w mean mg mb 154 2 [.int form t, .int part u] (fun _ => True) (fun _ r _ => r = .bool (cntF form part)) := by
  w_on
  unfold Con
  k_fill
  intro dp un gd base outs s Q E B X T hdp hun pre hret
  have hf : form = 0 ∨ form = 1 ∨ form = 2 ∨ form = 3 ∨ form = 4 ∨ form = 5 ∨ form = 6 ∨ form = 7 := by omega
  have hpp : part = 0 ∨ part = 1 ∨ part = 2 ∨ part = 3 ∨ part = 4 ∨ part = 5 ∨ part = 6 ∨ part = 7 ∨ part = 8 ∨ part = 9 ∨ part = 10 ∨ part = 11 := by omega
  rcases hf with rfl | rfl | rfl | rfl | rfl | rfl | rfl | rfl
  all_goals
    walk_at "MY enter"
    k_steps
    dsimp only
    refine hret _ _ _ (Fr.keep (by assumption)) (congrArg Value.bool ?_)
    clear hret
    rcases hpp with rfl | rfl | rfl | rfl | rfl | rfl | rfl | rfl | rfl | rfl | rfl | rfl <;> rfl
end Mine
-- part T5Far
namespace Mine
local macro_rules | `(tactic| walk_at "MY enter") => `(tactic| (
  k_dflt (refine' enter ?kB ?kX ?kT ?kr ?ho ?hcd ?hbind ?hloc ?c5 ?c2 ?c3 ?c4 ?_; (case kB => assumption); (case kX => assumption); (case kT => assumption); (case kr => omega); (case ho => k_is); (case hcd => k_is); (case hbind => exact BindsTo.of_eq rfl); (case hloc => exact locs rfl); (case c5 => decide); (case c2 => exact rfl); (case c3 => exact rfl); (case c4 => exact rfl));
  intro h1' F1'; have N1' := newsOf F1'; (try dsimp only); (try k_fold)))
local macro_rules | `(tactic| walk_at "MY use") => `(tactic| (
  (case kB => assumption); (case kF => assumption); (case kN => assumption); (case kX => assumption); (case kT => assumption); (case kk => exact ⟨rfl, rfl⟩); (case kd => omega); (case ku => omega)))
local macro_rules | `(tactic| walk_at "MY enterC") => `(tactic| (
  k_dflt (refine' enterC ?kB ?kX ?kT ?kr ?ho ?hcd ?hbind ?hkind ?hnd ?c2 ?c3 ?c4 ?_; (case kB => assumption); (case kX => assumption); (case kT => assumption); (case kr => omega); (case ho => k_is); (case hcd => k_is); (case hbind => exact BindsTo.of_eq rfl); (case hkind => exact rfl); (case hnd => decide +kernel); (case c2 => exact rfl); (case c3 => exact rfl); (case c4 => exact rfl));
  intro h1' tk1' cells1' F1' N1' Y1'; k_cells Y1'; (try simp only [List.cons_append, List.nil_append] at N1'); (try dsimp only); (try k_fold)))
local macro_rules | `(tactic| walk_at "call builtin:len") => `(tactic| ((with_reducible show wpAny _ _ (call (Value.builtin "len") [Value.ref _]) _ _ _); (with_unfolding_all refine' len_list ?k1 ?k2 ?_; (case k1 => is_list); (case k2 => (simp only [List.size_toArray]; omega)); k_whole); (try simp only [List.size_toArray])))
local macro_rules | `(tactic| walk_at "CompSrc") => `(tactic| ((with_reducible show LCg.CompSrc _ _ _ _ _ _ _ _ _ _ _ _ _ _); refine MyStop.out ?_))
local macro_rules | `(tactic| walk_at "pyIter ref") => `(tactic| ((with_reducible show wpAny _ _ (pyIter (Value.ref _)) (fun _ _ => LoopAtV _ _ _ _ _ _ _ _ _ _ _) _ _); refine MyStop.out ?_))
def farF (ns : List Int) (span apart : Int) : Bool :=
  decide (List.foldl (fun l' k' => if ns.getD k'.toNat 0 - ns.getD (k' + span).toNat 0 < apart then l' ++ [1] else l') [] (rangeKs 0 ((ns.length : Int) - span - 0).toNat) = ([] : List Int))
set_option maxRecDepth 100000 in
set_option maxHeartbeats 1000000 in
theorem far_con {w mean mg mb} (l : Addr) (vs : List Value) (ns : List Int) (span apart : Nat) (t u : Tok) (h1 : ns.length < 16) (h2 : span < 8) (h3 : apart < 16) : Con w mean mg mb 142 2 [.ref l, .int span t, .int apart u] (fun h => h.IsList l vs.toArray ∧ IntsAre vs ns) (fun _ r _ => r = .bool (farF ns span apart)) := by
  w_on
  unfold Con
  k_fill
  intro dp un gd base outs s Q E B X T hdp hun pre hret
  obtain ⟨hl, hi⟩ := pre
  have hln := hi.length
  k_dflt (refine' enterC ?kB ?kX ?kT ?kr ?ho ?hcd ?hbind ?hkind ?hnd ?c2 ?c3 ?c4 ?_; (case kB => assumption); (case kX => assumption); (case kT => assumption); (case kr => omega); (case ho => k_is); (case hcd => k_is); (case hbind => exact BindsTo.of_eq rfl); (case hkind => exact rfl); (case hnd => decide +kernel); (case c2 => exact rfl); (case c3 => exact rfl); (case c4 => exact rfl))
  intro h1' tk1' cells1' F1' N1' Y1'
  obtain ⟨o1, o2, o3, hE, d1, d2, d3⟩ := CellsAre.three Y1'
  subst hE
  clear Y1'
  try dsimp only
  try k_fold
  k_steps
  all_goals exact hret _ _ _ (Fr.keep (by assumption)) rfl
theorem far_one {w mean mg mb} (l : Addr) (vs : List Value) (ns : List Int) (span apart : Int) {t u : Tok} (h1 : ns.length < 16) (h2 : 0 ≤ span ∧ span < 8) (h3 : 0 ≤ apart ∧ apart < 16) : Con w mean mg mb 142 2 [.ref l, .int span t, .int apart u] (fun h => h.IsList l vs.toArray ∧ IntsAre vs ns) (fun _ r _ => r = .bool (farF ns span apart)) := by
  obtain ⟨span, rfl⟩ := Int.eq_ofNat_of_zero_le h2.1
  obtain ⟨apart, rfl⟩ := Int.eq_ofNat_of_zero_le h3.1
  exact far_con l vs ns span apart t u h1 (by omega) (by omega)
local macro_rules | `(tactic| walk_at "call ref") => `(tactic| (
  (with_reducible show wpAny _ _ (PySem.call (Value.ref 142) _ _) _ _ _);
  k_dflt (refine' use (far_one _ _ _ _ _ ?hn ?hs ?ha) ?kB ?kF ?kN ?kX ?kT ?kk ?kd ?ku ?kp ?_; (walk_at "MY use"); (case kp => exact ⟨by is_list, by l_ints⟩); (case hn => first | omega | ((rename IntsAre _ (List.foldl _ _ _) => hI9); have h8 := hI9.length; (rename _ ≤ Array.size _ => h7); rw [List.size_toArray] at h7; omega)); (case hs => decide); (case ha => decide));
  intro r' h' tk' e' p' F' N'; subst p'; clear e'; (try dsimp only); (try k_fold); k_sweep))
theorem listMethod_base {prog : Program} {w : World} {A : Around} {E : Value → Shared → Prop} {s : Shared} {g : Heap} {L l : Addr} {m : Str → Option Value} {its : Array Value} {n : Nat} {name : Str} {id : String} {pl : Sem Bool} {Q : Value × List Value → Shared → Prop} (ho : g.get? l = some (W.listOf its n)) (F : Fr g L s.heap m) (slot : Slot "list" name id) (hty : typeOf (.builtin id) = pure (.type "method_descriptor"))
    (h : Q (.builtin id, [.ref l]) s) : wpAny (model prog w) A (getMethod (.ref l) name pl) Q E s :=
  getMethod_builtin ⟨_, F.keep _ _ ho, rfl⟩ PySem.F.plainAttrs_list slot hty (fun a e => by cases e; exact ⟨_, F.keep _ _ ho, rfl⟩) h
local macro_rules | `(tactic| walk_at "getMethod ref") => `(tactic| ((with_reducible show wpAny _ _ (getMethod (Value.ref _) (PySem.Str.ofString "count") _) _ _ _); k_dflt (refine' listMethod_base ?l ?F PySem.F.slot_list_count PySem.F.type_list_count ?_; (case l => assumption); (case F => assumption))))
local macro_rules | `(tactic| walk_at "exec Assign cons ListComp") => `(tactic| (k_dflt (refine LCt.Assign_ListComp_T (F₀ := by k_asm) (by rfl) (by with_unfolding_all rfl) (by with_unfolding_all rfl) (by decide) (by rfl) (by decide) (by rfl) (by rfl) (by rfl) ?_)))
local macro_rules | `(tactic| walk_at "call builtin:list.count") => `(tactic| (k_dflt (refine' count_list_ints ?l ?i ?_; (case l => exact Fr.lst (by assumption) (by assumption)); (case i => assumption))))
local macro_rules | `(tactic| walk_at "CompSrcT") => `(tactic| (k_dflt (
  (refine LCt.CompSrcT.base (by rfl) (by k_asm) (by k_asm) (by assumption) (by (rw [List.size_toArray, sizeLine_eq]; omega)) ?_; intro g'; (refine' kci_list _ (by assumption) (fun k' t' I' oI' C' oC' D' m' ys' l' h' tk' E' hk' hI' hC' hx' F' N' off' ne' => ?_) ?_ ?_); (all_goals (try (simp only [LCg.Off3, and_true] at off'))); (all_goals (try ((show KPfMark → _); intro hMark'))); kcf_last))))
/-- what the law asks of a partition -/
def holdsF (form : Nat) (ns : List Int) : Bool := match form with
  | 0 => farF ns 1 2 && decide ((ns.count 1 : Int) ≤ 1)
  | 1 => farF ns 1 2 && decide ((ns.count 1 : Int) ≤ 0)
  | 2 => farF ns 2 2 && decide ((ns.count 1 : Int) ≤ 2)
  | 3 => farF ns 2 2 && decide ((ns.count 1 : Int) ≤ 1)
  | 4 => farF ns 2 2 && decide ((ns.count 1 : Int) ≤ 0)
  | 5 => decide (List.foldl (fun l' k' => if (1 : Int) < (List.count k' ns : Int) then l' ++ [k'] else l') [] ns = ([] : List Int))
  | 6 => decide (List.foldl (fun l' k' => if (2 : Int) < (List.count k' ns : Int) then l' ++ [k'] else l') [] ns = ([] : List Int))
  | _ => farF ns 1 3 && farF (List.foldl (fun l' k' => if k'.fmod 3 = 0 then l' ++ [k'] else l') [] ns) 1 6
theorem and_t {a b : Bool} (h : a = true) : b = (a && b) := by rw [h]; rfl
theorem and_f {a b : Bool} (h : a = false) : a = (a && b) := by rw [h]; rfl
set_option maxRecDepth 100000 in
set_option maxHeartbeats 4000000 in
theorem holds_con {w mean mg mb} (form : Nat) (l : Addr) (vs : List Value) (ns : List Int) (t : Tok) (h0 : form < 8) (h1 : ns.length < 16) : Con w mean mg mb 147 3 [.int form t, .ref l] (fun h => (∃ n, h.get? l = some (W.listOf vs.toArray n)) ∧ IntsAre vs ns) (fun _ r _ => r = .bool (holdsF form ns)) := by
  w_on
  unfold Con
  k_fill
  intro dp un gd base outs s Q E B X T hdp hun pre hret
  obtain ⟨⟨nl, hlo⟩, hi⟩ := pre
  have hl : s.heap.IsList l vs.toArray := ⟨_, hlo, rfl, _, rfl⟩
  have hln := hi.length
  have hf : form = 0 ∨ form = 1 ∨ form = 2 ∨ form = 3 ∨ form = 4 ∨ form = 5 ∨ form = 6 ∨ form = 7 := by omega
  rcases hf with rfl | rfl | rfl | rfl | rfl | rfl | rfl | rfl
  all_goals
    k_dflt (refine' enterC ?kB ?kX ?kT ?kr ?ho ?hcd ?hbind ?hkind ?hnd ?c2 ?c3 ?c4 ?_; (case kB => assumption); (case kX => assumption); (case kT => assumption); (case kr => omega); (case ho => k_is); (case hcd => k_is); (case hbind => exact BindsTo.of_eq rfl); (case hkind => exact rfl); (case hnd => decide +kernel); (case c2 => exact rfl); (case c3 => exact rfl); (case c4 => exact rfl))
    intro h1' tk1' cells1' F1' N1' Y1'
    obtain ⟨o1, o2, hE, d1, d2⟩ := CellsAre.two Y1'
    subst hE
    clear Y1'
    try dsimp only
    try k_fold
    k_steps
  all_goals refine hret _ _ _ (Fr.keep (by assumption)) (congrArg Value.bool ?_)
  all_goals first
    | exact and_t (by assumption)
    | exact and_f (by assumption)
    | exact rfl
end Mine
-- part T5Cell
namespace Mine
/-- a for whose own name is a cell: what is left behind its source -/
def CellFor (prog : Program) (w : World) (A : Around) (env : Env) (x : Str) (px : Pos) (body : List Stmt) (Q : Flow → Shared → Prop) (E : Value → Shared → Prop) (xv : Value) (s₁ : Shared) : Prop :=
  wpAny (model prog w) A (pyIter xv) (fun it s₂ => codeAny (model prog w) A (.forLoop (.Name x px) it body [] env) (fun r s' => match r with | .ok f => Q f s' | .error e => cameBackBy (model prog w) A env E e s') s₂) E s₁
theorem For_cell {prog : Program} {w : World} {A : Around} {E : Value → Shared → Prop} {s : Shared} {env : Env} {Q : Flow → Shared → Prop} {x : Str} {px pos : Pos} {iter : Expr} {body : List Stmt}
    (_hx : env.kindOf x = some .cell) (h : wpAny (model prog w) A (eval iter env) (fun xv s₁ => CellFor prog w A env x px body Q E xv s₁) E s)
    (hs : ∀ x, foldedSetIterable iter env x = pure x := by intro _; rfl) : wpAny (model prog w) A (exec (.For (.Name x px) iter body [] pos) env) Q E s :=
  wpAny_For (wpAny_mono h (fun _ _ h => h) fun _ _ e => e) hs

def NS (p : Addr × Obj) : Prop := ∃ vs n, p.2.data = .seq vs n
/-- the end of a turn, where the loop's own name is a cell -/
def TurnS (h₀ : Heap) (L : Addr) (own news₁ : List (Addr × Obj)) (J : (Str → Option Value) → List (Addr × Obj) → Prop) (s₁ : Shared) (Q : Flow → Shared → Prop) (f : Flow) (s₂ : Shared) : Prop :=
  match f with
  | .ret v => Q (.ret v) s₂
  | .brk => Q .next s₂
  | _ => ∃ h' tk m₂ news₂, s₂ = { s₁ with heap := h', toks := tk } ∧ Fr h₀ L h' m₂ ∧ News h₀ L h' own ∧ News h₀ L h' news₂ ∧ (∀ p ∈ news₂, (∃ q ∈ news₁, q.1 = p.1) ∨ NS p) ∧ J m₂ news₂

theorem cell_range {prog : Program} {w : World} {A : Around} {E : Value → Shared → Prop} {s : Shared} {env : Env} {h₀ : Heap} {x : Str} {px : Pos} {body : List Stmt} {Q : Flow → Shared → Prop}
    {r cp : Addr} {a b c : Int} {t u v : Tok} {m₀ : Str → Option Value} {news₀ : List (Addr × Obj)} {oc : Obj} {v0 : Option Value} (n : Nat) (J : Nat → (Str → Option Value) → List (Addr × Obj) → Prop)
    (hh : A.handled = none) (hr : IsRange s.heap r a b c t u v) (hsmall : Builtin.Range.small a b c = true) (hn : Builtin.Range.rangeSize a b c = (n : Int))
    (hk : env.scope.kind = .function) (hx : env.kindOf x = some .cell) (hc : env.cells.lookup x = some cp) (hd : oc.data = .cell v0)
    (F : Fr h₀ env.locals s.heap m₀) (N : News h₀ env.locals s.heap ((cp, oc) :: news₀)) (hne : ∀ p ∈ news₀, p.1 ≠ cp) (hj : J 0 m₀ news₀)
    (hE : PassesOwn (model prog w) A env E)
    (turn : ∀ i t m₁ news₁ h tk I oI o', i < n → J i m₁ news₁ → o'.data = .cell (some (.int (a + (i : Nat) * c) t)) → (∀ p ∈ news₁, p.1 ≠ cp ∧ p.1 ≠ I) → Fr h₀ env.locals h m₁ → News h₀ env.locals h ((cp, o') :: (I, oI) :: news₁) →
      wpAny (model prog w) A (execs body env) (TurnS h₀ env.locals [(cp, o'), (I, oI)] news₁ (J (i + 1)) { s with heap := h, toks := tk } Q) E { s with heap := h, toks := tk })
    (done : ∀ h' tk m' news', Fr h₀ env.locals h' m' → News h₀ env.locals h' news' → J n m' news' → Q .next { s with heap := h', toks := tk }) :
    CellFor prog w A env x px body Q E (.ref r) s := by
  unfold CellFor
  refine wpAny_pyIter_range hr hsmall ?_
  have W := Walks.range (prog := prog) (w := w) hh s.heap.objs.size a c n
  have hI0 : h₀.get? s.heap.objs.size = none := next_is_new F
  have hLI : env.locals ≠ s.heap.objs.size := Nat.ne_of_lt F.ns.lt
  have hcL : cp ≠ env.locals := (N _ (.head _)).2.1
  have hc0 : h₀.get? cp = none := (N _ (.head _)).2.2
  have hcI : cp ≠ s.heap.objs.size := Nat.ne_of_lt (Heap.lt_size (N _ (.head _)).1)
  refine codeAny_forLoop (fun k s' => ∃ i h' tk m' news' o' v', s' = { s with heap := h', toks := tk } ∧ IsRangeIter h' s.heap.objs.size (a + (i : Nat) * c) ((n : Int) - (i : Nat)) c ∧ o'.data = .cell v' ∧ Fr h₀ env.locals h' m' ∧
      News h₀ env.locals h' ((cp, o') :: news') ∧ (∀ p ∈ news', p.1 ≠ cp ∧ p.1 ≠ s.heap.objs.size) ∧ J i m' news' ∧ i ≤ n ∧ k = n + 1 - i) ?_ (n + 1)
    ⟨0, _, s.toks, m₀, news₀, oc, v0, rfl, ?_, hd, F.push _, fun p hp => ⟨Heap.get?_push_of_some _ (N p hp).1, (N p hp).2⟩, fun p hp => ⟨hne p hp, Nat.ne_of_lt (Heap.lt_size (N p (.tail _ hp)).1)⟩, hj, Nat.zero_le _, rfl⟩
  rotate_left
  · show IsRangeIter _ _ _ _ _
    rw [hn]; simpa using Heap.get?_push_size _ rfl
  rintro k s' ⟨i, h', tk, m', news', o', v', rfl, hit, hd', F', N', hne', hJ, hi, rfl⟩
  have next : ∀ h₁ : Heap, (∀ b o, b ∉ [s.heap.objs.size] → h'.get? b = some o → h₁.get? b = some o) → Fr h₀ env.locals h₁ m' ∧ News h₀ env.locals h₁ ((cp, o') :: news') := by
    intro h₁ hk₁
    have off : ∀ b, b ≠ s.heap.objs.size → b ∉ [s.heap.objs.size] := fun b hb h => hb (List.mem_singleton.mp h)
    refine ⟨⟨F'.ns.at' fun o e => hk₁ _ o (off _ hLI) e, fun b o e => hk₁ b o (off b fun q => ?_) (F'.keep b o e), F'.above⟩, fun p hp => ⟨hk₁ _ _ (off _ ?_) (N' p hp).1, (N' p hp).2⟩⟩
    · rw [q, hI0] at e; cases e
    · rcases List.mem_cons.mp hp with rfl | hp
      · exact hcI
      · exact (hne' p hp).2
  by_cases hlt : i < n
  · refine W.item i _ _ _ hlt hit fun v h₁ tk₁ hP hst₁ hk₁ => ?_
    obtain ⟨t', rfl⟩ := hP
    obtain ⟨F₁, N₁⟩ := next h₁ hk₁
    refine wpAny_assign_Name (wpAny_storeName_cell hk hx hc ⟨o', (N₁ _ (.head _)).1, hd'⟩ fun h₂ hv hs => ?_)
    obtain ⟨o2, ho2, hd2⟩ := hv
    have F₂ : Fr h₀ env.locals h₂ m' := ⟨F₁.ns.sameBut hs (Ne.symm hcL), fun b o e => (hs.2 b fun q => by rw [q, hc0] at e; cases e).trans (F₁.keep b o e), F₁.above⟩
    have hI2 : h₂.get? s.heap.objs.size = some _ := (hs.2 _ (Ne.symm hcI)).trans hst₁
    have N₂ : News h₀ env.locals h₂ ((cp, o2) :: (s.heap.objs.size, { cls := .type "range_iterator", dict := none, data := .fields #[rawInt (a + ((i + 1 : Nat)) * c), rawInt ((n : Int) - ((i + 1 : Nat))), rawInt c], slots := #[] }) :: news') := by
      intro p hp
      rcases List.mem_cons.mp hp with rfl | hp
      · exact ⟨ho2, hcL, hc0⟩
      rcases List.mem_cons.mp hp with rfl | hp
      · exact ⟨hI2, Ne.symm hLI, hI0⟩
      · exact ⟨(hs.2 p.1 (hne' p hp).1).trans (N₁ p (.tail _ hp)).1, (N₁ p (.tail _ hp)).2⟩
    refine wpAny_mono (wpAny_passesOwn hE (turn i t' m' news' h₂ tk₁ s.heap.objs.size _ o2 hlt hJ hd2 hne' F₂ N₂)) (fun f s₃ h₃ => ?_) fun _ _ e => e
    have fin : (∃ h' tk m₂ news₂, s₃ = { s with heap := h', toks := tk } ∧ Fr h₀ env.locals h' m₂ ∧ News h₀ env.locals h' [(cp, o2), (s.heap.objs.size, { cls := .type "range_iterator", dict := none, data := .fields #[rawInt (a + ((i + 1 : Nat)) * c), rawInt ((n : Int) - ((i + 1 : Nat))), rawInt c], slots := #[] })] ∧ News h₀ env.locals h' news₂ ∧ (∀ p ∈ news₂, (∃ q ∈ news', q.1 = p.1) ∨ NS p) ∧ J (i + 1) m₂ news₂) →
        ∃ m, m < n + 1 - i ∧ ∃ i h' tk m' news' o' v', s₃ = { s with heap := h', toks := tk } ∧ IsRangeIter h' s.heap.objs.size (a + (i : Nat) * c) ((n : Int) - (i : Nat)) c ∧ o'.data = .cell v' ∧ Fr h₀ env.locals h' m' ∧
          News h₀ env.locals h' ((cp, o') :: news') ∧ (∀ p ∈ news', p.1 ≠ cp ∧ p.1 ≠ s.heap.objs.size) ∧ J i m' news' ∧ i ≤ n ∧ m = n + 1 - i := by
      rintro ⟨h3, tk3, m₂, news₂, rfl, F3, No, N3, hns, hJ3⟩
      refine ⟨n + 1 - (i + 1), by omega, i + 1, h3, tk3, m₂, news₂, o2, _, rfl, (No _ (.tail _ (.head _))).1, hd2, F3, fun p hp => (List.mem_cons.mp hp).elim (fun e => e ▸ No _ (.head _)) (N3 p), fun p hp => ?_, hJ3, hlt, rfl⟩
      rcases hns p hp with ⟨q, hq, e⟩ | ⟨ws, nn, e⟩
      · rw [← e]; exact hne' q hq
      · constructor
        · intro q
          have e1 := (N3 p hp).1
          rw [q, (No _ (.head _)).1] at e1
          have e1 : o2 = p.2 := Option.some.inj e1
          rw [e1, e] at hd2; cases hd2
        · intro q
          have e1 := (N3 p hp).1
          rw [q, (No _ (.tail _ (.head _))).1] at e1
          have e1 : _ = p.2 := Option.some.inj e1
          rw [← e1] at e; cases e
    cases f with
    | ret v => exact h₃
    | brk => exact h₃
    | next => exact fin h₃
    | cont => exact fin h₃
  · have hin : i = n := by omega
    subst hin
    refine W.done _ _ _ hit fun h₁ tk₁ hk₁ => wpAny_execs_nil ?_
    obtain ⟨F₁, N₁⟩ := next h₁ hk₁
    exact done h₁ tk₁ m' news' F₁ (fun p hp => N₁ p (.tail _ hp)) hJ
end Mine
-- part T5Par0
namespace Mine
/-- the partitions of total into parts of most at most, as the law lists them (f: fuel) -/
def partsF : Nat → Nat → Nat → List (List Int)
  | 0, _, _ => []
  | f + 1, total, most => if total = 0 then [[]] else (List.range (min total most)).flatMap fun i => (partsF f (total - (min total most - i)) (min total most - i)).map (((min total most - i : Nat) : Int) :: ·)
def accF (f total M i : Nat) : List (List Int) := (List.range i).flatMap fun i => (partsF f (total - (M - i)) (M - i)).map (((M - i : Nat) : Int) :: ·)
theorem accF_succ (f total M i : Nat) : accF f total M (i + 1) = accF f total M i ++ (partsF f (total - (M - i)) (M - i)).map (((M - i : Nat) : Int) :: ·) := by
  unfold accF; rw [List.range_succ, List.flatMap_append]; simp
set_option maxRecDepth 100000 in
theorem parts_small : ∀ f < 10, ∀ total < f, ∀ most < 9, (partsF f total most).length ≤ 40 ∧ (partsF f total most).all (fun ps => decide (ps.length ≤ 9)) = true := by decide +kernel
set_option maxRecDepth 100000 in
theorem acc_small : ∀ f < 9, ∀ total < f + 1, ∀ M < total + 1, ∀ i < M + 1, (accF f total M i).length ≤ 40 := by decide +kernel
theorem rsize_down (a : Int) (n : Nat) (h : a = n) : Builtin.Range.rangeSize a 0 (-1) = (n : Int) := by
  subst h
  unfold Builtin.Range.rangeSize
  rw [if_neg (by decide)]
  split
  · simp
  · omega
theorem rsmall_down (a : Int) (h1 : 0 ≤ a) (h2 : a < 1000000) : Builtin.Range.small a 0 (-1) = true := by
  obtain ⟨n, rfl⟩ := Int.eq_ofNat_of_zero_le h1
  have hs := rsize_down n n rfl
  unfold Builtin.Range.small
  rw [hs]
  unfold Builtin.Range.rangeFitsLong
  simp only [Bool.and_eq_true, Bool.or_eq_true, decide_eq_true_eq, beq_iff_eq]
  rw [if_neg (by decide : ¬ ((-1 : Int) > 0))]
  simp only [Bool.and_eq_true, decide_eq_true_eq]
  omega
/-- the lists of ints that the law makes, in the ledger -/
def PL (add : List (Addr × Obj)) (ws : List Value) (pss : List (List Int)) : Prop :=
  ws.length = pss.length ∧ ∀ (i : Nat) (ps : List Int), pss[i]? = some ps → ∃ (D : Addr) (vs : List Value) (n : Nat), ws[i]? = some (Value.ref D) ∧ (D, W.listOf vs.toArray n) ∈ add ∧ IntsAre vs ps
theorem PL.mono {add add' : List (Addr × Obj)} {ws : List Value} {pss : List (List Int)} (h : PL add ws pss) (hs : ∀ p ∈ add, p ∈ add') : PL add' ws pss :=
  ⟨h.1, fun i ps hp => let ⟨D, vs, n, a, b, c⟩ := h.2 i ps hp; ⟨D, vs, n, a, hs _ b, c⟩⟩
theorem PL.app {add : List (Addr × Obj)} {ws ws' : List Value} {pss pss' : List (List Int)} (h : PL add ws pss) (h' : PL add ws' pss') : PL add (ws ++ ws') (pss ++ pss') := by
  refine ⟨by rw [List.length_append, List.length_append, h.1, h'.1], fun i ps hp => ?_⟩
  by_cases hi : i < pss.length
  · rw [List.getElem?_append_left hi] at hp
    obtain ⟨D, vs, n, a, b, c⟩ := h.2 i ps hp
    exact ⟨D, vs, n, by rw [List.getElem?_append_left (by rw [h.1]; exact hi)]; exact a, b, c⟩
  · rw [List.getElem?_append_right (by omega)] at hp
    obtain ⟨D, vs, n, a, b, c⟩ := h'.2 _ ps hp
    exact ⟨D, vs, n, by rw [List.getElem?_append_right (by have := h.1; omega), h.1]; exact a, b, c⟩
def AllNS (l : List (Addr × Obj)) : Prop := ∀ p ∈ l, NS p
theorem AllNS.nil : AllNS [] := fun _ h => nomatch h
theorem AllNS.cons {D : Addr} {o : Obj} {l : List (Addr × Obj)} (h : ∃ vs n, o.data = .seq vs n) (t : AllNS l) : AllNS ((D, o) :: l) := fun p hp => by
  rcases List.mem_cons.mp hp with rfl | hp
  · exact h
  · exact t p hp
theorem AllNS.app {l l' : List (Addr × Obj)} (h : AllNS l) (t : AllNS l') : AllNS (l ++ l') := fun p hp => (List.mem_append.mp hp).elim (h p) (t p)
/-- what the law's partitions hand back -/
def PRes (g : Heap) (r : Value) (h : Heap) (pss : List (List Int)) : Prop := ∃ D ws c add, r = .ref D ∧ Fresh g h ((D, W.listOf ws.toArray c) :: add) ∧ PL add ws pss ∧ AllNS add
section
variable {prog : Program} {w : World} {A : Around} {h₀ : Heap} {L : Addr} {m : Str → Option Value} {env : Env} {elt : Expr} {x : Str} {scope : Scope} {cl : List (Str × Addr)} {s : Shared} {S : List (Addr × Obj) → Prop} {P : Nat → Value → Prop} {Fin : List Value → List (Addr × Obj) → Prop} {news₀ : List (Addr × Obj)}
/-- a comprehension by a relation of its items -/
theorem comp_relG {n : Nat} (G : List (Addr × Obj) → Prop) (g0 : G []) (R : Nat → Value → List (Addr × Obj) → Prop) (mono : ∀ i y more more', R i y more → (∀ p ∈ more, p ∈ more') → R i y more')
    (turn : ∀ i v I oI C oC D m₂ ys h tk (E' : Value → Shared → Prop) more, i < n → P i v → G more → LCg.NsObj oC m₂ → m₂ x = some v → Fr h₀ L h m → News h₀ L h ((I, oI) :: (C, oC) :: (D, LCg.lst ys) :: (more ++ news₀)) → LCg.Off3 I C D (more ++ news₀) → ((@Ne Nat I C) ∧ (@Ne Nat I D) ∧ (@Ne Nat C D)) → ys.length = i →
      wpAny (model prog w) A (eval elt (compEnvC scope cl C env)) (LCg.CompEnd h₀ L m { s with heap := h, toks := tk } I oI C oC D (LCg.lst ys) S (fun y news' => ∃ more', news' = more' ++ news₀ ∧ G more' ∧ (∀ p ∈ more, p ∈ more') ∧ R i y more')) E' { s with heap := h, toks := tk })
    (fin : ∀ ys more, ys.length = n → G more → (∀ i y, ys[i]? = some y → R i y more) → Fin ys (more ++ news₀)) : LCg.CompRest prog w A h₀ L m env elt x scope cl s S P Fin n 0 [] news₀ := by
  have key : ∀ (j i : Nat) (ys : List Value) (more : List (Addr × Obj)), i + j = n → ys.length = i → G more → (∀ i y, ys[i]? = some y → R i y more) → LCg.CompRest prog w A h₀ L m env elt x scope cl s S P Fin j i ys (more ++ news₀) := by
    intro j
    induction j with
    | zero => intro i ys more hi hl hG hR; exact LCg.CompRest.zero (fin ys more (by omega) hG hR)
    | succ j ih =>
      intro i ys more hi hl hG hR
      refine LCg.CompRest.succ ?_
      intro v I oI C oC D m₂ h tk E' hv hC hx F N off ne
      refine wpAny_mono (turn i v I oI C oC D m₂ ys h tk E' more (by omega) hv hG hC hx F N off ne hl) (fun y s₂ hq => ?_) fun _ _ e => e
      obtain ⟨h', tk', news', e, F', N', off', hS, more', rfl, hG', hs', hR'⟩ := hq
      refine ⟨h', tk', more' ++ news₀, e, F', N', off', hS, ih (i + 1) _ _ (by omega) (by simp [hl]) hG' fun k z hz => ?_⟩
      by_cases hk : k < ys.length
      · rw [List.getElem?_append_left hk] at hz
        exact mono k z _ _ (hR k z hz) hs'
      · rw [List.getElem?_append_right (by omega)] at hz
        have : k - ys.length = 0 := by
          have := (List.getElem?_eq_some_iff.mp hz).1
          simp at this; omega
        rw [this] at hz
        simp at hz
        have hk' : k = i := by omega
        rw [← hz, hk']; exact hR'
  exact key n 0 [] [] (by omega) rfl g0 (by simp)
end


theorem cell_fix {prog : Program} {w : World} {A : Around} {E : Value → Shared → Prop} {s : Shared} {env : Env} {h₀ : Heap} {x : Str} {px : Pos} {body : List Stmt} {Q : Flow → Shared → Prop}
    {r cp : Addr} {a b c : Int} {t u v : Tok} {m₀ : Str → Option Value} {news₀ : List (Addr × Obj)} {oc : Obj} {v0 : Option Value} (n : Nat) (J : Nat → List (Addr × Obj) → Prop)
    (hh : A.handled = none) (hr : IsRange s.heap r a b c t u v) (hsmall : Builtin.Range.small a b c = true) (hn : Builtin.Range.rangeSize a b c = (n : Int))
    (hk : env.scope.kind = .function) (hx : env.kindOf x = some .cell) (hc : env.cells.lookup x = some cp) (hd : oc.data = .cell v0)
    (F : Fr h₀ env.locals s.heap m₀) (N : News h₀ env.locals s.heap ((cp, oc) :: news₀)) (hne : ∀ p ∈ news₀, p.1 ≠ cp) (hj : J 0 news₀)
    (hE : PassesOwn (model prog w) A env E)
    (turn : ∀ i t news₁ h tk I oI o', i < n → J i news₁ → o'.data = .cell (some (.int (a + (i : Nat) * c) t)) → (∀ p ∈ news₁, p.1 ≠ cp ∧ p.1 ≠ I) → Fr h₀ env.locals h m₀ → News h₀ env.locals h ((cp, o') :: (I, oI) :: news₁) →
      wpAny (model prog w) A (execs body env) (TurnS h₀ env.locals [(cp, o'), (I, oI)] news₁ (fun m news => m = m₀ ∧ J (i + 1) news) { s with heap := h, toks := tk } Q) E { s with heap := h, toks := tk })
    (done : ∀ h' tk news', Fr h₀ env.locals h' m₀ → News h₀ env.locals h' news' → J n news' → Q .next { s with heap := h', toks := tk }) :
    CellFor prog w A env x px body Q E (.ref r) s :=
  cell_range n (fun i m news => m = m₀ ∧ J i news) hh hr hsmall hn hk hx hc hd F N hne ⟨rfl, hj⟩ hE
    (fun i t m₁ news₁ h tk I oI o' hi hJ ho hoff F1 N1 => turn i t news₁ h tk I oI o' hi hJ.2 ho hoff (hJ.1 ▸ F1) N1)
    (fun h' tk m' news' F1 N1 hJ => done h' tk news' (hJ.1 ▸ F1) N1 hJ.2)
theorem news_swap {g h : Heap} {L : Addr} {a b : Addr × Obj} (N : News g L h [a, b]) : News g L h [b, a] := fun p hp => N p (by
  simp only [List.mem_cons] at hp ⊢
  rcases hp with e | e | e <;> simp [e])
theorem parts_nil {g h : Heap} {L D Di : Addr} {c c2 : Nat} {rest : List (Addr × Obj)} (N : News g L h ((D, W.listOf [Value.ref Di].toArray c) :: (Di, W.listOf ([] : List Value).toArray c2) :: rest)) : PRes g (.ref D) h [[]] := by
  refine ⟨D, [Value.ref Di], c, [(Di, W.listOf ([] : List Value).toArray c2)], rfl, Fresh.of N (fun p hp => ?_), ⟨rfl, fun i ps hp => ?_⟩, AllNS.nil.cons ⟨_, _, rfl⟩⟩
  · simp only [List.mem_cons] at hp ⊢
    rcases hp with e | e | e
    · simp [e]
    · simp [e]
    · cases e
  · cases i with
    | zero =>
      have hp : [] = ps := Option.some.inj hp
      subst hp
      exact ⟨Di, [], c2, rfl, .head _, .nil⟩
    | succ i => simp at hp
theorem parts_step {f total most : Nat} (h : 0 < total) : partsF (f + 1) total most = accF f total (min total most) (min total most) := by
  rw [partsF, if_neg (by omega)]; rfl
theorem mem5 {a b c n l : Addr × Obj} {r : List (Addr × Obj)} : ∀ p ∈ a :: b :: c :: n :: r, p ∈ n :: l :: a :: b :: c :: r := by
  intro p hp
  simp only [List.mem_cons] at hp ⊢
  rcases hp with e | e | e | e | e <;> simp [e]

theorem TurnS.parts {h₀ h6 : Heap} {L Df : Addr} {o o0 : Obj} {m : Str → Option Value} {q1 q2 : Addr × Obj} {more' more : List (Addr × Obj)} {J : (Str → Option Value) → List (Addr × Obj) → Prop} {s₁ : Shared} {Q : Flow → Shared → Prop} {tk : Nat}
    (F : Fr h₀ L h6 m) (N : News h₀ L h6 ((Df, o) :: q1 :: q2 :: (more' ++ more))) (hG : AllNS more') (hj : J m ((Df, o) :: (more' ++ more))) : TurnS h₀ L [q1, q2] ((Df, o0) :: more) J s₁ Q .next { s₁ with heap := h6, toks := tk } := by
  refine ⟨h6, tk, m, (Df, o) :: (more' ++ more), rfl, F, fun p hp => N p ?_, fun p hp => N p ?_, fun p hp => ?_, hj⟩
  · simp only [List.mem_cons] at hp ⊢
    rcases hp with e | e | e
    · simp [e]
    · simp [e]
    · cases e
  · simp only [List.mem_cons, List.mem_append] at hp ⊢
    rcases hp with e | e | e <;> simp [e]
  · simp only [List.mem_cons, List.mem_append] at hp
    rcases hp with e | e | e
    · exact .inl ⟨_, .head _, by rw [e]⟩
    · exact .inr (hG p e)
    · exact .inl ⟨p, .tail _ e, rfl⟩
theorem PL.comp {more : List (Addr × Obj)} {zs : List Value} {pp : List (List Int)} {k : Int} (hl : zs.length = pp.length)
    (hR : ∀ (j : Nat) (y : Value), zs[j]? = some y → ∃ (Dy : Addr) (vs : List Value) (n : Nat), y = Value.ref Dy ∧ (Dy, W.listOf vs.toArray n) ∈ more ∧ ∀ ps, pp[j]? = some ps → IntsAre vs (k :: ps)) : PL more zs (pp.map (k :: ·)) := by
  refine ⟨by rw [hl, List.length_map], fun j ps hp => ?_⟩
  rw [List.getElem?_map] at hp
  cases e : pp[j]? with
  | none => rw [e] at hp; cases hp
  | some ps' =>
    rw [e] at hp
    have hp : k :: ps' = ps := Option.some.inj hp
    have hj := (List.getElem?_eq_some_iff.mp e).1
    obtain ⟨Dy, vs, n, h1, h2, h3⟩ := hR j _ (List.getElem?_eq_getElem (by omega))
    exact ⟨Dy, vs, n, by rw [← h1]; exact List.getElem?_eq_getElem (by omega), h2, hp ▸ h3 ps' e⟩
theorem sub_ext {a b c d e : Addr × Obj} {m1 m2 ad : List (Addr × Obj)} : ∀ p ∈ b :: c :: (m1 ++ m2), p ∈ a :: (m1 ++ (d :: (ad ++ (b :: c :: e :: m2)))) := by
  intro p hp
  simp only [List.mem_cons, List.mem_append] at hp ⊢
  rcases hp with h | h | h | h <;> simp [h]
theorem tail4 {a b c d p : Addr × Obj} {r : List (Addr × Obj)} (h : p ∈ r) : p ∈ a :: b :: c :: d :: r := .tail _ (.tail _ (.tail _ (.tail _ h)))
theorem appR {p : Addr × Obj} {l r : List (Addr × Obj)} (h : p ∈ r) : p ∈ l ++ r := List.mem_append.mpr (.inr h)
theorem appL {p : Addr × Obj} {l r : List (Addr × Obj)} (h : p ∈ l) : p ∈ l ++ r := List.mem_append.mpr (.inl h)
end Mine
-- part T5Par
namespace Mine
local macro_rules | `(tactic| walk_at "MY enter") => `(tactic| (
  k_dflt (refine' enter ?kB ?kX ?kT ?kr ?ho ?hcd ?hbind ?hloc ?c5 ?c2 ?c3 ?c4 ?_; (case kB => assumption); (case kX => assumption); (case kT => assumption); (case kr => omega); (case ho => k_is); (case hcd => k_is); (case hbind => exact BindsTo.of_eq rfl); (case hloc => exact locs rfl); (case c5 => decide); (case c2 => exact rfl); (case c3 => exact rfl); (case c4 => exact rfl));
  intro h1' F1'; have N1' := newsOf F1'; (try dsimp only); (try k_fold)))
local macro_rules | `(tactic| walk_at "MY use") => `(tactic| (
  (case kB => assumption); (case kF => assumption); (case kN => assumption); (case kX => assumption); (case kT => assumption); (case kk => exact ⟨rfl, rfl⟩); (case kd => omega); (case ku => omega)))
local macro_rules | `(tactic| walk_at "MY enterC") => `(tactic| (
  k_dflt (refine' enterC ?kB ?kX ?kT ?kr ?ho ?hcd ?hbind ?hkind ?hnd ?c2 ?c3 ?c4 ?_; (case kB => assumption); (case kX => assumption); (case kT => assumption); (case kr => omega); (case ho => k_is); (case hcd => k_is); (case hbind => exact BindsTo.of_eq rfl); (case hkind => exact rfl); (case hnd => decide +kernel); (case c2 => exact rfl); (case c3 => exact rfl); (case c4 => exact rfl));
  intro h1' tk1' cells1' F1' N1' Y1'; k_cells Y1'; (try simp only [List.cons_append, List.nil_append] at N1'); (try dsimp only); (try k_fold)))
local macro_rules | `(tactic| walk_at "call builtin:len") => `(tactic| ((with_reducible show wpAny _ _ (call (Value.builtin "len") [Value.ref _]) _ _ _); (with_unfolding_all refine' len_list ?k1 ?k2 ?_; (case k1 => is_list); (case k2 => (simp only [List.size_toArray]; omega)); k_whole); (try simp only [List.size_toArray])))
local macro_rules | `(tactic| walk_at "CompSrc") => `(tactic| ((with_reducible show LCg.CompSrc _ _ _ _ _ _ _ _ _ _ _ _ _ _); refine MyStop.out ?_))
local macro_rules | `(tactic| walk_at "pyIter ref") => `(tactic| ((with_reducible show wpAny _ _ (pyIter (Value.ref _)) (fun _ _ => LoopAtV _ _ _ _ _ _ _ _ _ _ _) _ _); refine MyStop.out ?_))
local macro_rules | `(tactic| walk_at "exec For Name Call cons nil") => `(tactic| (k_dflt (refine' For_cell ?x ?_ ; (case x => exact rfl))))
local macro_rules | `(tactic| walk_at "call ref") => `(tactic| ((with_reducible show wpAny _ _ (PySem.call (Value.ref 137) _ _) _ _ _); refine MyStop.out ?_))
local macro_rules | `(tactic| walk_at "getMethod ref") => `(tactic| ((with_reducible show wpAny _ _ (getMethod (Value.ref _) (PySem.Str.ofString "extend") _) _ _ _); k_dflt (refine' listMethod_K ?N ?m PySem.F.slot_list_extend PySem.F.type_list_extend ?_; (case N => k_asm); (case m => exact .tail _ (.tail _ (.head _))))))
local macro_rules | `(tactic| walk_at "call builtin:list.extend") => `(tactic| ((with_reducible show wpAny _ _ (call (Value.builtin _) [Value.ref _, Value.ref _]) _ _ _); refine MyStop.out ?_))
local macro_rules | `(tactic| walk_at "eval ListComp") => `(tactic| (k_dflt (refine LCg.ListComp_U (F₀ := by k_asm) (by with_unfolding_all rfl) (by decide) (by rfl) (by decide) (by rfl) ?_)))
local macro_rules | `(tactic| walk_at "MY mem") => `(tactic| first
  | exact .tail _ (.head _)
  | exact .tail _ (.tail _ (.head _))
  | exact .tail _ (.tail _ (.tail _ (List.mem_append.mpr (.inr (.tail _ (List.mem_append.mpr (.inr (.head _))))))))
  | exact .tail _ (.tail _ (.tail _ (.tail _ (List.mem_append.mpr (.inr (.tail _ (List.mem_append.mpr (.inr (.head _))))))))))
local macro_rules | `(tactic| walk_at "eval Name") => `(tactic| ((with_reducible show wpAny _ _ (eval (Expr.Name _ _) (compEnvC _ _ _ _)) _ _ _); k_dflt (refine' comp_cell ?c ?k ?x ?b ?d ?N ?m ?_; (case k => exact rfl); (case x => exact rfl); (case c => exact rfl); (case b => decide); (case N => assumption); (case m => walk_at "MY mem"); (case d => assumption); k_whole)))
local macro_rules | `(tactic| walk_at "eval Name") => `(tactic| ((with_reducible show wpAny _ _ (eval (Expr.Name _ _) (compEnvC _ _ _ _)) _ _ _); k_dflt (refine' comp_local ?x ?C ?N ?m ?k ?l ?d ?_; (case k => exact rfl); (case l => exact rfl); (case d => decide); (case x => assumption); (case C => assumption); (case N => assumption); (case m => walk_at "MY mem"); k_whole)))
local macro_rules | `(tactic| walk_at "binaryOp Add ref ref") => `(tactic| ((with_reducible show wpAny _ _ (binaryOp _ (Value.ref _) (Value.ref _)) _ _ _); refine MyStop.out ?_))
set_option maxRecDepth 100000 in
set_option maxHeartbeats 1000000 in
theorem parts_con {w mean mg mb} : ∀ (f total most : Nat) (t u : Tok), total < f → f < 10 → most < 9 → Con w mean mg mb 137 (f + 1) [.int total t, .int most u] (fun _ => True) (fun g r h => PRes g r h (partsF f total most)) := by
  intro f
  induction f with
  | zero => intro total most t u h1; omega
  | succ f ih =>
  intro total most t u h1 h2 h3
  w_on
  unfold Con
  k_fill
  intro dp un gd base outs s Q E B X T hdp hun pre hret
  have ht : total = 0 ∨ 0 < total := by omega
  rcases ht with rfl | ht
  all_goals
    k_dflt (refine' enterC ?kB ?kX ?kT ?kr ?ho ?hcd ?hbind ?hkind ?hnd ?c2 ?c3 ?c4 ?_; (case kB => assumption); (case kX => assumption); (case kT => assumption); (case kr => omega); (case ho => k_is); (case hcd => k_is); (case hbind => exact BindsTo.of_eq rfl); (case hkind => exact rfl); (case hnd => decide +kernel); (case c2 => exact rfl); (case c3 => exact rfl); (case c4 => exact rfl))
    intro h1' tk1' cells1' F1' N1' Y1'
    obtain ⟨o1, hE, d1⟩ := CellsAre.one Y1'
    subst hE
    clear Y1'
    try dsimp only
    try k_fold
  · k_steps
    dsimp only
    exact hret _ _ _ (Fr.keep (by assumption)) (parts_nil (by assumption))
  · have ht0 : ¬ (total : Int) = 0 := by omega
    k_steps
    · exfalso; omega
    rename_i Df _ hlt _ _ _ _ _ _ _ _ _ _ _ hr F0 N0 _
    have hM : (if (most : Int) < total then (most : Int) else total) = ((min total most : Nat) : Int) := by omega
    refine cell_fix (min total most) (fun i news => ∃ (ws : List Value) (c : Nat) (more : List (Addr × Obj)), news = (Df, W.listOf ws.toArray c) :: more ∧ AllNS more ∧ (∀ p ∈ more, p.1 ≠ Df) ∧ PL more ws (accF f total (min total most) i)) rfl hr (rsmall_down _ (by omega) (by omega)) (rsize_down _ _ hM) rfl rfl rfl d1 F0 (news_swap N0) (fun p hp => by rw [List.mem_singleton.mp hp]; exact Nat.ne_of_gt hlt) ⟨[], 0, [], rfl, AllNS.nil, (fun _ h => by cases h), ⟨rfl, fun i ps h => by simp [accF] at h⟩⟩ (by passes_own) ?_ ?_
    · rintro i t news₁ h tk I oI o' hi ⟨ws, c, more, rfl, hns, hnd, hpl⟩ hd' hoff F1 N1
      rw [hM] at hd'
      have e1 : ((min total most : Nat) : Int) + (i : Nat) * (-1) = ((min total most - i : Nat) : Int) := by omega
      rw [e1] at hd'
      have hk1 : 0 < min total most - i := by omega
      have hk2 : min total most - i ≤ total := by omega
      have hk3 : min total most - i < 9 := by omega
      have hacc := accF_succ f total (min total most) i
      have hsm := acc_small f (by omega) total (by omega) (min total most) (by omega) i (by omega)
      generalize min total most - i = k at *
      have e2 : (total : Int) - (k : Int) = ((total - k : Nat) : Int) := by omega
      have hC : ∀ tA tB, Con w mean mg mb 137 (f + 1) [.int ((total : Int) - (k : Int)) tA, .int (k : Int) tB] (fun _ => True) (fun g r h => PRes g r h (partsF f (total - k) k)) := fun tA tB => by
        rw [e2]; exact ih _ _ tA tB (by omega) (by omega) hk3
      obtain ⟨hps1, hps2⟩ := parts_small f (by omega) (total - k) (by omega) k hk3
      k_steps
      unfold MyStop
      refine use (hC _ _) B F1 N1 X T ⟨rfl, rfl⟩ (by omega) (by omega) True.intro ?_
      intro r h' tk' e p F' N'
      obtain ⟨D, wr, cr, addr, hr', hfr, hplr, hnsr⟩ := p
      subst hr'
      have N2 : News s.heap _ h' ((D, W.listOf wr.toArray cr) :: (addr ++ ((_, o') :: (I, oI) :: (Df, W.listOf ws.toArray c) :: more))) := hfr.news e F1 N1
      have hne2 := hfr.ne N1
      clear N' e
      try dsimp only
      k_steps
      unfold MyStop
      refine LCg.CompSrc.ledger rfl F' N2 (.head _) (by rw [List.size_toArray, hplr.1, sizeLine_eq]; omega) (fun g => ?_)
      refine comp_relG (G := fun more' => AllNS more' ∧ ∀ p ∈ more', p.1 ≠ Df) ⟨AllNS.nil, fun _ h => by cases h⟩ (fun j y more' => ∃ (Dy : Addr) (vs : List Value) (n : Nat), y = Value.ref Dy ∧ (Dy, W.listOf vs.toArray n) ∈ more' ∧ ∀ ps, (partsF f (total - k) k)[j]? = some ps → IntsAre vs ((k : Int) :: ps)) ?_ ?_ ?_
      · rintro j y m1 m2 ⟨Dy, vs, n, h1, h2, h3⟩ hs
        exact ⟨Dy, vs, n, h1, hs _ h2, h3⟩
      · rintro j v I2 oI2 C oC Dc m₂ zs h2 tk2 E' more' hj hP ⟨hG1, hG2⟩ hC' hx F3 N3 off ne hl
        have hj' : j < (partsF f (total - k) k).length := by rw [List.size_toArray, hplr.1] at hj; exact hj
        obtain ⟨Di, vsi, ni, hwi, hmi, hii⟩ := hplr.2 j _ (List.getElem?_eq_getElem hj')
        have hv : v = Value.ref Di := by
          have hP : wr[j]? = some v := by simpa using hP
          rw [hwi] at hP; exact (Option.some.inj hP).symm
        subst hv
        have hlen : vsi.length ≤ 9 := by
          rw [hii.length]
          exact of_decide_eq_true (List.all_eq_true.mp hps2 _ (List.getElem_mem hj'))
        k_steps
        unfold MyStop
        rename_i Dl h5 F5 N5 l5
        refine kmk_add_lit F5 N5 (News.isList N5 (.head _)) (News.isList N5 (.tail _ (.tail _ (.tail _ (.tail _ (List.mem_append.mpr (.inr (.tail _ (List.mem_append.mpr (.inl hmi)))))))))) rfl (fun Dn h6 F6 N6 l6 => ?_) (by simp only [List.toList_toArray, List.length_cons, List.length_nil, sizeLine_eq]; omega)
        refine LCg.CompEnd.intro F6 N6 ((Dn, _) :: (more' ++ _)) mem5 ⟨⟨Nat.ne_of_gt (l6 _ (.tail _ (.head _))), Nat.ne_of_gt (l6 _ (.tail _ (.tail _ (.head _)))), Nat.ne_of_gt (l6 _ (.tail _ (.tail _ (.tail _ (.head _)))))⟩, off⟩
          (.inr ⟨_, .tail _ (List.mem_append.mpr (.inr (.head _))), rfl, _, rfl⟩) ⟨(Dn, _) :: more', rfl, ⟨hG1.cons ⟨_, _, rfl⟩, fun p hp => ?_⟩, fun p hp => .tail _ hp, Dn, _, _, rfl, .head _, fun ps hps => ?_⟩
        · rcases List.mem_cons.mp hp with e | hp
          · rw [e]; exact Nat.ne_of_gt (l6 _ (tail4 (appR (.tail _ (appR (.tail _ (.tail _ (.head _))))))))
          · exact hG2 p hp
        · rw [List.getElem?_eq_getElem hj'] at hps
          cases hps
          simpa using IntsAre.cons (k : Int) _ hii
      · intro zs more' hl ⟨hG1, hG2⟩ hR
        k_steps
        unfold MyStop
        rename_i Dz h5 tk5 F5 N5 o5
        have hzl : zs.length = (partsF f (total - k) k).length := by rw [hl, List.size_toArray, hplr.1]
        refine extend_my (rest := (s.heap.objs.size + 1, o') :: (I, oI) :: (more' ++ more)) F5 N5 (.tail _ (List.mem_append.mpr (.inr (.tail _ (List.mem_append.mpr (.inr (.tail _ (.tail _ (.head _))))))))) (.head _) sub_ext (fun p hp => ?_) (fun h6 n6 F6 N6 => ?_) (by rw [hpl.1, hzl, sizeLine_eq]; omega)
        · simp only [List.mem_cons, List.mem_append] at hp
          rcases hp with e | e | e | e
          · rw [e]; exact Ne.symm (hoff _ (.head _)).1
          · rw [e]; exact Ne.symm (hoff _ (.head _)).2
          · exact hG2 p e
          · exact hnd p e
        · k_steps
          exact TurnS.parts F6 N6 hG1 ⟨rfl, ws ++ zs, n6, more' ++ more, rfl, hG1.app hns, fun p hp => (List.mem_append.mp hp).elim (hG2 p) (hnd p), by
            rw [hacc]
            exact (hpl.mono fun p hp => List.mem_append.mpr (.inr hp)).app ((PL.comp hzl hR).mono fun p hp => List.mem_append.mpr (.inl hp))⟩
    · rintro h' tk news' F1 N1 ⟨ws, c, more, rfl, hns, hnd, hpl⟩
      k_steps
      dsimp only
      exact hret _ _ _ F1.keep ⟨Df, ws, c, more, rfl, Fresh.of N1 (fun p hp => hp), by rw [parts_step ht]; exact hpl, hns⟩
end Mine
-- part T5Plain
namespace Mine
/-- what smul computes -/
def mulF (xs ys : List Int) : List Int := (List.range xs.length).map fun i => mixF xs ys i (i + 1)
/-- 1 less x to the part, cut at o -/
def facF (o part : Nat) : List Int := ([1] ++ List.replicate (part - 1) 0 ++ [-1]).take o ++ List.replicate (o - (part + 1)) 0
/-- the product of the factors of the parts 1..i that the form takes -/
def prodF (fo o : Nat) : Nat → List Int
  | 0 => 1 :: List.replicate (o - 1) 0
  | i + 1 => if cntF fo (i + 1) then mulF (prodF fo o i) (facF o (i + 1)) else prodF fo o i
def cntB (b : Nat → Bool) : Nat → Nat
  | 0 => 0
  | n + 1 => cntB b n + cond (b n) 1 0
def dueF (fo total : Nat) : Nat := cntB (fun i => holdsF fo ((partsF 9 total total).getD i [])) (partsF 9 total total).length
def smallL (xs : List Int) : Bool := xs.all fun x => decide (x.natAbs < 1048576)
theorem smallL.get {xs : List Int} (h : smallL xs = true) (i : Nat) : (xs.getD i 0).natAbs < 1048576 := by
  by_cases hi : i < xs.length
  · rw [List.getD, List.getElem?_eq_getElem hi]
    exact of_decide_eq_true (List.all_eq_true.mp h _ (List.getElem_mem hi))
  · rw [List.getD, List.getElem?_eq_none (by omega)]; decide
set_option maxRecDepth 100000 in
theorem prod_ok : ∀ o < 10, 5 ≤ o → ∀ fo < 8, ∀ i < o, (prodF fo o i).length = o ∧ smallL (prodF fo o i) = true := by decide +kernel
set_option maxRecDepth 100000 in
theorem fac_ok : ∀ o < 10, 5 ≤ o → ∀ p < o, 1 ≤ p → (facF o p).length = o ∧ smallL (facF o p) = true := by decide +kernel
set_option maxRecDepth 100000 in
theorem inv_all : ∀ o < 10, 5 ≤ o → ∀ fo < 8, ∀ n ≤ o, smallL (invF (prodF fo o (o - 1)) n) = true ∧ (prodF fo o (o - 1)).getD 0 0 = 1 := by decide +kernel
end Mine
-- part T5Prep
namespace Mine
theorem fm_lo (a : Int) : (5 : Int) ≤ 5 + Int.fmod a 5 := by have := Int.fmod_nonneg_of_pos a (show (0 : Int) < 5 by decide); omega
theorem fm_hi (a : Int) : 5 + Int.fmod a 5 < (10 : Int) := by have := Int.fmod_lt_of_pos a (show (0 : Int) < 5 by decide); omega
theorem fm8_lo (a : Int) : (0 : Int) ≤ Int.fmod a 8 := Int.fmod_nonneg_of_pos a (by decide)
theorem fm8_hi (a : Int) : Int.fmod a 8 < (8 : Int) := Int.fmod_lt_of_pos a (by decide)
def DrawMid (s : Shared) (g : Heap) (L P D1 : Addr) (m : Str → Option Value) (rest : List (Addr × Obj)) (x : Str) (lo hi i : Int) (f : Flow) (s' : Shared) : Prop :=
  f = .next ∧ ∃ (v : Int) (t t1 : Tok) (c : Nat) (h'' : Heap) (tk' : Nat), lo ≤ v ∧ v < hi ∧ s' = { s with heap := h'', toks := tk' } ∧ Fr g L h'' (fun y => if y = x then some (.int v t) else m y) ∧ News g L h'' ((P, W.listOf #[.ref D1, .int i t1] c) :: rest)
theorem pool_meet {prog : Program} {w : World} {A : Around} {E : Value → Shared → Prop} {s : Shared} {env : Env} {st : Stmt} {Q : Flow → Shared → Prop} {g : Heap} {L P D1 : Addr} {m : Str → Option Value} {rest : List (Addr × Obj)} {q0 : Addr × Obj} (x : Str) (lo hi i : Int)
  (_F : Fr g L s.heap m) (_N : News g L s.heap (q0 :: rest))
  (go : wpAny (model prog w) A (exec st env) (DrawMid s g L P D1 m rest x lo hi i) E s)
  (k : ∀ (v : Int) (t t1 : Tok) (c : Nat) (h'' : Heap) (tk' : Nat), lo ≤ v → v < hi → Fr g L h'' (fun y => if y = x then some (.int v t) else m y) → News g L h'' ((P, W.listOf #[.ref D1, .int i t1] c) :: rest) → Q .next { s with heap := h'', toks := tk' }) : wpAny (model prog w) A (exec st env) Q E s := by
  refine wpAny_mono go (fun f s' hm => ?_) fun _ _ e => e
  obtain ⟨rfl, v, t, t1, c, h'', tk', h1, h2, rfl, F, N⟩ := hm
  exact k v t t1 c h'' tk' h1 h2 F N
def CellMid (s : Shared) (g : Heap) (L cp : Addr) (m : Str → Option Value) (hi : Int) (f : Flow) (s' : Shared) : Prop :=
  f = .next ∧ ∃ (v : Int) (t : Tok) (o : Obj) (h'' : Heap) (tk' : Nat), 0 ≤ v ∧ v < hi ∧ s' = { s with heap := h'', toks := tk' } ∧ Fr g L h'' m ∧ o.data = .cell (some (.int v t)) ∧ News g L h'' [(cp, o)]
theorem cell_meet {prog : Program} {w : World} {A : Around} {E : Value → Shared → Prop} {s : Shared} {env : Env} {st : Stmt} {Q : Flow → Shared → Prop} {g : Heap} {L cp : Addr} {m : Str → Option Value} {q1 q2 q3 : Addr × Obj} {o0 : Obj} (hi : Int)
  (_F : Fr g L s.heap m) (_N : News g L s.heap [q1, q2, q3, (cp, o0)])
  (go : wpAny (model prog w) A (exec st env) (CellMid s g L cp m hi) E s)
  (k : ∀ (v : Nat) (t : Tok) (o : Obj) (h'' : Heap) (tk' : Nat), (v : Int) < hi → Fr g L h'' m → o.data = .cell (some (.int v t)) → News g L h'' [(cp, o)] → Q .next { s with heap := h'', toks := tk' }) : wpAny (model prog w) A (exec st env) Q E s := by
  refine wpAny_mono go (fun f s' hm => ?_) fun _ _ e => e
  obtain ⟨rfl, v, t, o, h'', tk', h1, h2, rfl, F, hd, N⟩ := hm
  obtain ⟨v, rfl⟩ := Int.eq_ofNat_of_zero_le h1
  exact k v t o h'' tk' h2 F hd N
theorem news4 {g h : Heap} {L : Addr} {q1 q2 q3 q4 : Addr × Obj} (N : News g L h [q1, q2, q3, q4]) : News g L h [q4] := fun p hp => N p (.tail _ (.tail _ (.tail _ hp)))

/-- a list of pairs (x, 1) in the ledger -/
def LQ (news : List (Addr × Obj)) (D : Addr) (xs : List Int) : Prop := ∃ o ws c, (D, o) ∈ news ∧ o.cls = .type "list" ∧ o.data = .seq (List.toArray ws) c ∧ SL news ws xs
theorem LQ.mono {n n' : List (Addr × Obj)} {D : Addr} {xs : List Int} (h : LQ n D xs) (hs : ∀ p ∈ n, p ∈ n') : LQ n' D xs :=
  let ⟨o, ws, c, a, b, d, e⟩ := h; ⟨o, ws, c, hs _ a, b, d, e.mono hs⟩
theorem LQ.isQs {g h : Heap} {L D : Addr} {m : Str → Option Value} {n n' : List (Addr × Obj)} {xs : List Int} (q : LQ n D xs) (F : Fr g L h m) (N : News g L h n') (hs : ∀ p ∈ n, p ∈ n') (r0 : IsQ g 49 0) : IsQs h D xs := by
  obtain ⟨o, ws, c, a, b, d, e⟩ := q.mono hs
  exact ⟨ws, ⟨o, N.get a, b, c, d⟩, e.1, fun i x hx => let ⟨D, h1, h2⟩ := e.2 i x hx; ⟨D, h1, (h2.toRQ r0).isQ F N⟩⟩
theorem SL.app {add : List (Addr × Obj)} {ws ws' : List Value} {pss pss' : List Int} (h : SL add ws pss) (h' : SL add ws' pss') : SL add (ws ++ ws') (pss ++ pss') := by
  refine ⟨by rw [List.length_append, List.length_append, h.1, h'.1], fun i ps hp => ?_⟩
  by_cases hi : i < pss.length
  · rw [List.getElem?_append_left hi] at hp
    obtain ⟨D, a, b⟩ := h.2 i ps hp
    exact ⟨D, by rw [List.getElem?_append_left (by rw [h.1]; exact hi)]; exact a, b⟩
  · rw [List.getElem?_append_right (by omega)] at hp
    obtain ⟨D, a, b⟩ := h'.2 _ ps hp
    exact ⟨D, by rw [List.getElem?_append_right (by have := h.1; omega), h.1]; exact a, b⟩
theorem SL.rep {add : List (Addr × Obj)} {D : Addr} {x : Int} (r : RZ add D x) (n : Nat) : SL add (List.replicate n (Value.ref D)) (List.replicate n x) := by
  refine ⟨by simp, fun i y hy => ?_⟩
  rw [List.getElem?_replicate] at hy
  split at hy
  · rename_i hi
    exact ⟨D, by rw [List.getElem?_replicate, if_pos hi], Option.some.inj hy ▸ r⟩
  · cases hy
theorem SL.one {add : List (Addr × Obj)} {D : Addr} {x : Int} (r : RZ add D x) : SL add [Value.ref D] [x] := SL.rep r 1
theorem SL.take {add : List (Addr × Obj)} {ws : List Value} {xs : List Int} (h : SL add ws xs) (n : Nat) : SL add (ws.take n) (xs.take n) := by
  refine ⟨by rw [List.length_take, List.length_take, h.1], fun i y hy => ?_⟩
  rw [List.getElem?_take] at hy
  split at hy
  · rename_i hi
    obtain ⟨D, a, b⟩ := h.2 i y hy
    exact ⟨D, by rw [List.getElem?_take, if_pos hi]; exact a, b⟩
  · cases hy
theorem SL.cut {add : List (Addr × Obj)} {ws : List Value} {xs : List Int} (h : SL add ws xs) (n : Nat) : SL add (ws.take n ++ List.replicate (n - ws.length) (Value.ref 49)) (xs.take n ++ List.replicate (n - xs.length) 0) := by
  rw [h.1]
  exact (h.take n).app (SL.rep (.inl ⟨rfl, rfl⟩) _)
section
variable {prog : Program} {w : World} {A : Around} {h₀ : Heap} {L : Addr} {m : Str → Option Value} {env : Env} {ct elt : Expr} {x : Str} {scope : Scope} {cl : List (Str × Addr)} {s : Shared} {S : List (Addr × Obj) → Prop} {P : Nat → Value → Prop} {Fin : List Value → List (Addr × Obj) → Prop} {news₀ : List (Addr × Obj)}
/-- a comprehension with a test, of which the length alone matters -/
theorem comp_count {n : Nat} (b : Nat → Bool)
    (turn : ∀ i v I oI C oC D m₂ ys h tk (E' : Value → Shared → Prop), i < n → P i v → LCg.NsObj oC m₂ → m₂ x = some v → Fr h₀ L h m → News h₀ L h ((I, oI) :: (C, oC) :: (D, LCg.lst ys) :: news₀) → LCg.Off3 I C D news₀ → ((@Ne Nat I C) ∧ (@Ne Nat I D) ∧ (@Ne Nat C D)) →
      wpAny (model prog w) A (isTrue ct (compEnvC scope cl C env) (eval ct (compEnvC scope cl C env))) (fun ok s' => if ok = true then
        wpAny (model prog w) A (eval elt (compEnvC scope cl C env)) (LCg.CompEnd h₀ L m { s with heap := h, toks := tk } I oI C oC D (LCg.lst ys) S (fun _ news' => news' = news₀ ∧ b i = true)) E' s'
        else LCg.CompEnd h₀ L m { s with heap := h, toks := tk } I oI C oC D (LCg.lst ys) S (fun _ news' => news' = news₀ ∧ b i = false) Value.none s') E' { s with heap := h, toks := tk })
    (fin : ∀ ys, ys.length = cntB b n → Fin ys news₀) : LCt.CompRestT prog w A h₀ L m env ct elt x scope cl s S P Fin n 0 [] news₀ := by
  have key : ∀ (j i : Nat) (ys : List Value), i + j = n → ys.length = cntB b i → LCt.CompRestT prog w A h₀ L m env ct elt x scope cl s S P Fin j i ys news₀ := by
    intro j
    induction j with
    | zero => intro i ys hi hl; exact LCt.CompRestT.zero (fin ys (by rw [hl, ← hi]; rfl))
    | succ j ih =>
      intro i ys hi hl
      refine LCt.CompRestT.succ ?_
      intro v I oI C oC D m₂ h tk E' hv hC hx F N off ne
      refine wpAny_mono (turn i v I oI C oC D m₂ ys h tk E' (by omega) hv hC hx F N off ne) (fun ok s₂ hq => ?_) fun _ _ e => e
      by_cases hok : ok = true
      · rw [if_pos hok] at hq ⊢
        refine wpAny_mono hq (fun y s₃ hy => ?_) fun _ _ e => e
        obtain ⟨h', tk', news', e, F', N', off', hS, rfl, hb⟩ := hy
        exact ⟨h', tk', _, e, F', N', off', hS, ih (i + 1) _ (by omega) (by rw [List.length_append, hl, cntB, hb]; rfl)⟩
      · rw [if_neg hok] at hq ⊢
        obtain ⟨h', tk', news', e, F', N', off', hS, rfl, hb⟩ := hq
        exact ⟨h', tk', _, e, F', N', off', hS, ih (i + 1) _ (by omega) (by rw [hl, cntB, hb]; rfl)⟩
  exact key n 0 [] (by omega) rfl
end
/-- the pairs (x, 1) as data -/
def pairsD (xs : List Int) : PyData := .list (xs.map fun x => .tuple [.int x, .int 1])
theorem reads_pairs {h : Heap} : ∀ (ws : List Value) (xs : List Int), QsAre h ws xs → ReadsAll h ws (xs.map fun x => .tuple [.int x, .int 1]) []
  | [], [], _ => .nil
  | [], _ :: _, q => by have := q.1; simp at this
  | _ :: _, [], q => by have := q.1; simp at this
  | v :: ws, x :: xs, q => by
    obtain ⟨D, e, t, u, i⟩ := q.2 0 x rfl
    have e : v = .ref D := Option.some.inj e
    subst e
    exact .cons (as := []) (bs := []) (reads_q i) (reads_pairs ws xs ⟨by have := q.1; simpa using this, fun i y hy => q.2 (i + 1) y hy⟩)
theorem IsQs.reads {h : Heap} {a : Addr} {xs : List Int} (q : IsQs h a xs) : ∃ as, Reads h (.ref a) (pairsD xs) as := by
  obtain ⟨vs, ⟨o, e, hc, n, hd⟩, qa⟩ := q
  exact ⟨_, .list e hc hd (reads_pairs vs xs qa)⟩
theorem eq_pairs {prog : Program} {w : World} {A : Around} {E : Value → Shared → Prop} {s : Shared} {a b : Addr} {xs ys : List Int} {Q : Value → Shared → Prop}
    (qa : IsQs s.heap a xs) (qb : IsQs s.heap b ys) (ha : SeqAt.shaped (pairsD xs) = true) (hb : SeqAt.shaped (pairsD ys) = true) (he : PyData.eqv (pairsD xs) (pairsD ys) = true) (hu : A.units + 64 < cLine) (h : Q (.bool true) s) : wpAny (model prog w) A (compareOp .Eq (.ref a) (.ref b)) Q E s := by
  obtain ⟨as, ra⟩ := qa.reads
  obtain ⟨bs, rb⟩ := qb.reads
  refine eq_dataH ra rb ha hb hu ?_
  rw [he]; exact h
set_option maxRecDepth 100000 in
theorem data_ok : ∀ o < 10, 5 ≤ o → ∀ fo < 8, SeqAt.shaped (pairsD (invF (prodF fo o (o - 1)) o)) = true ∧ SeqAt.shaped (pairsD ((List.range o).map fun i => ((dueF fo i : Nat) : Int))) = true ∧ PyData.eqv (pairsD (invF (prodF fo o (o - 1)) o)) (pairsD ((List.range o).map fun i => ((dueF fo i : Nat) : Int))) = true := by decide +kernel
end Mine
-- part T5Law
namespace Mine
local macro_rules | `(tactic| walk_at "MY enter") => `(tactic| (
  k_dflt (refine' enter ?kB ?kX ?kT ?kr ?ho ?hcd ?hbind ?hloc ?c5 ?c2 ?c3 ?c4 ?_; (case kB => assumption); (case kX => assumption); (case kT => assumption); (case kr => omega); (case ho => k_is); (case hcd => k_is); (case hbind => exact BindsTo.of_eq rfl); (case hloc => exact locs rfl); (case c5 => decide); (case c2 => exact rfl); (case c3 => exact rfl); (case c4 => exact rfl));
  intro h1' F1'; have N1' := newsOf F1'; (try dsimp only); (try k_fold)))
local macro_rules | `(tactic| walk_at "MY use") => `(tactic| (
  (case kB => assumption); (case kF => assumption); (case kN => assumption); (case kX => assumption); (case kT => assumption); (case kk => exact ⟨rfl, rfl⟩); (case kd => omega); (case ku => omega)))
local macro_rules | `(tactic| walk_at "MY enterC") => `(tactic| (
  k_dflt (refine' enterC ?kB ?kX ?kT ?kr ?ho ?hcd ?hbind ?hkind ?hnd ?c2 ?c3 ?c4 ?_; (case kB => assumption); (case kX => assumption); (case kT => assumption); (case kr => omega); (case ho => k_is); (case hcd => k_is); (case hbind => exact BindsTo.of_eq rfl); (case hkind => exact rfl); (case hnd => decide +kernel); (case c2 => exact rfl); (case c3 => exact rfl); (case c4 => exact rfl));
  intro h1' tk1' cells1' F1' N1' Y1'; k_cells Y1'; (try simp only [List.cons_append, List.nil_append] at N1'); (try dsimp only); (try k_fold)))

local macro_rules | `(tactic| walk_at "exec Assign") => `(tactic| ((with_reducible show wpAny _ _ (exec (Stmt.Assign [PySem.Expr.Name (PySem.Str.ofString "order") _] _ _) _) _ _ _); refine MyStop.out ?_))
local macro_rules | `(tactic| walk_at "exec Assign") => `(tactic| ((with_reducible show wpAny _ _ (exec (Stmt.Assign [PySem.Expr.Name (PySem.Str.ofString "form") _] _ _) _) _ _ _); refine MyStop.out ?_))
local macro_rules | `(tactic| walk_at "call ref") => `(tactic| ((with_reducible show wpAny _ _ (PySem.call (Value.ref 99) _ _) _ _ _); refine MyStop.out ?_))
local macro_rules | `(tactic| walk_at "call ref") => `(tactic| ((with_reducible show wpAny _ _ (PySem.call (Value.ref 118) _ _) _ _ _); refine MyStop.out ?_))
local macro_rules | `(tactic| walk_at "call ref") => `(tactic| ((with_reducible show wpAny _ _ (PySem.call (Value.ref 125) _ _) _ _ _); refine MyStop.out ?_))
local macro_rules | `(tactic| walk_at "call ref") => `(tactic| ((with_reducible show wpAny _ _ (PySem.call (Value.ref 137) _ _) _ _ _); refine MyStop.out ?_))
local macro_rules | `(tactic| walk_at "call ref") => `(tactic| ((with_reducible show wpAny _ _ (PySem.call (Value.ref 147) _ _) _ _ _); refine MyStop.out ?_))
local macro_rules | `(tactic| walk_at "call ref") => `(tactic| ((with_reducible show wpAny _ _ (PySem.call (Value.ref 154) _ _) _ _ _); refine MyStop.out ?_))
local macro_rules | `(tactic| walk_at "pyIter ref") => `(tactic| ((with_reducible show wpAny _ _ (pyIter (Value.ref _)) (fun _ _ => LoopAtV _ _ _ _ _ _ _ _ _ _ _) _ _); refine MyStop.out ?_))
local macro_rules | `(tactic| walk_at "CompSrc") => `(tactic| ((with_reducible show LCg.CompSrc _ _ _ _ _ _ _ _ (PySem.Str.ofString "total") _ _ _ _ _); refine MyStop.out ?_))
local macro_rules | `(tactic| walk_at "CompSrc") => `(tactic| ((with_reducible show LCg.CompSrc _ _ _ _ _ _ _ _ (PySem.Str.ofString "one") _ _ _ _ _); refine MyStop.out ?_))
local macro_rules | `(tactic| walk_at "CompSrcT") => `(tactic| ((with_reducible show LCt.CompSrcT _ _ _ _ _ _ _ _ _ _ _ _ _ _ _); refine MyStop.out ?_))
local macro_rules | `(tactic| walk_at "binaryOp Mult ref int") => `(tactic| ((with_reducible show wpAny _ _ (binaryOp Operator.Mult (Value.ref _) (Value.int _ _)) _ _ _); k_dflt (refine' KMa.mul ?F ?N ?l ?lo ?hi ?z ?e ?_; (case F => k_asm); (case N => k_asm); (case l => is_list); (case lo => (try simp only [List.size_toArray]); omega); (case hi => (try simp only [List.size_toArray]); omega); (case z => (simp only [List.length_cons, List.length_nil, List.size_toArray]; omega)); (case e => exact rep_one); k_whole); intro D' h' F' N' l1; (try k_lt l1); (try k_sweep)))
local macro_rules | `(tactic| walk_at "binaryOp Add ref ref") => `(tactic| ((with_reducible show wpAny _ _ (binaryOp _ (Value.ref _) (Value.ref _)) _ _ _); k_dflt (refine' kmk_add_lit ?F ?N ?a ?b ?e ?_ ?z; (case F => k_asm); (case N => k_asm); (case a => kmk_list); (case b => kmk_list); (case e => exact rfl); (case z => (simp only [List.toList_toArray, List.length_append, List.length_cons, List.length_nil, List.length_take, List.length_replicate, List.size_toArray, sizeLine_eq]; omega))); intro D' h' F' N' l1; (try k_lt l1); (try k_sweep)))
local macro_rules | `(tactic| walk_at "MY mem") => `(tactic| first
  | exact .tail _ (.head _)
  | exact .tail _ (.tail _ (.tail _ (.head _)))
  | exact .tail _ (.tail _ (.tail _ (List.mem_append.mpr (.inr (.head _))))))
local macro_rules | `(tactic| walk_at "eval Name") => `(tactic| ((with_reducible show wpAny _ _ (eval (Expr.Name _ _) (compEnvC _ _ _ _)) _ _ _); k_dflt (refine' comp_cell ?c ?k ?x ?b ?d ?N ?m ?_; (case k => exact rfl); (case x => exact rfl); (case c => exact rfl); (case b => decide); (case N => assumption); (case m => walk_at "MY mem"); (case d => assumption); k_whole)))
local macro_rules | `(tactic| walk_at "eval Name") => `(tactic| ((with_reducible show wpAny _ _ (eval (Expr.Name _ _) (compEnvC _ _ _ _)) _ _ _); k_dflt (refine' comp_local ?x ?C ?N ?m ?k ?l ?d ?_; (case k => exact rfl); (case l => exact rfl); (case d => decide); (case x => assumption); (case C => assumption); (case N => assumption); (case m => walk_at "MY mem"); k_whole)))
local macro_rules | `(tactic| walk_at "eval ListComp") => `(tactic| ((with_reducible show wpAny _ _ (eval _ (compEnvC _ _ _ _)) _ _ _); k_dflt (refine LCt.ListComp_T (F₀ := by k_asm) (by with_unfolding_all rfl) (by decide) (by rfl) (by decide) (by rfl) ?_)))
local macro_rules | `(tactic| walk_at "call builtin:len") => `(tactic| ((with_reducible show wpAny _ _ (call (Value.builtin "len") [Value.ref _]) _ _ _); (with_unfolding_all refine' len_list ?k1 ?k2 ?_; (case k1 => is_list); (case k2 => (simp only [List.size_toArray]; omega)); k_whole); (try simp only [List.size_toArray])))
local macro_rules | `(tactic| walk_at "compareOp Eq ref ref") => `(tactic| ((with_reducible show wpAny _ _ (compareOp _ (Value.ref _) (Value.ref _)) _ _ _); refine MyStop.out ?_))
local macro_rules | `(tactic| walk_at "eval ListComp") => `(tactic| ((with_reducible show wpAny _ _ (eval (PySem.Expr.ListComp _ [⟨PySem.Expr.Name (PySem.Str.ofString "one") _, _, _, _⟩] _ _) _) _ _ _); k_dflt (refine LCg.ListComp_U (F₀ := by k_asm) (by with_unfolding_all rfl) (by decide) (by rfl) (by decide) (by rfl) ?_)))
theorem prod_zero {news : List (Addr × Obj)} {fo o : Nat} {Dt : Addr} {a b : Tok} {c : Nat} (ho : 5 ≤ o) (hm : (Dt, tup #[.int 1 a, .int 1 b] c) ∈ news) :
    SL news ([Value.ref Dt].take (Int.toNat (o : Int)) ++ List.replicate (Int.toNat (o : Int) - [Value.ref Dt].length) (Value.ref 49)) (prodF fo o 0) := by
  have := (SL.one (x := 1) (.inr ⟨a, b, c, hm⟩)).cut (Int.toNat (o : Int))
  have e : List.take (Int.toNat (o : Int)) [(1 : Int)] ++ List.replicate (Int.toNat (o : Int) - [(1 : Int)].length) 0 = prodF fo o 0 := by
    rw [Int.toNat_natCast, List.take_of_length_le (by simp; omega)]; rfl
  rw [e] at this; exact this
theorem LQ.zero {g h : Heap} {L Dp Dl Dt : Addr} {op ol : Obj} {np c : Nat} {a b : Tok} {rest : List (Addr × Obj)} {fo o : Nat} (ho : 5 ≤ o) (_N : News g L h ((Dp, op) :: (Dl, ol) :: (Dt, tup #[.int 1 a, .int 1 b] c) :: rest)) (p2 : op.cls = .type "list")
    (p3 : op.data = .seq ([Value.ref Dt].take (Int.toNat (o : Int)) ++ List.replicate (Int.toNat (o : Int) - [Value.ref Dt].length) (Value.ref 49)).toArray np) : LQ ((Dp, op) :: (Dl, ol) :: (Dt, tup #[.int 1 a, .int 1 b] c) :: rest) Dp (prodF fo o 0) :=
  ⟨op, _, np, .head _, p2, p3, prod_zero ho (.tail _ (.tail _ (.head _)))⟩
theorem news_front {g h : Heap} {L : Addr} {q : Addr × Obj} {l : List (Addr × Obj)} (N : News g L h l) (hm : q ∈ l) : News g L h (q :: l) := fun p hp => by
  rcases List.mem_cons.mp hp with e | hp
  · exact e ▸ N q hm
  · exact N p hp
theorem prodF_no {fo o i : Nat} (h : cntF fo (i + 1) = false) : prodF fo o i = prodF fo o (i + 1) := by rw [prodF, h]; rfl
theorem prodF_yes {fo o i : Nat} (h : cntF fo (i + 1) = true) : mulF (prodF fo o i) (facF o (i + 1)) = prodF fo o (i + 1) := by rw [prodF, h]; rfl
theorem LQ.fac {g h : Heap} {L Df D1 D4 Dm : Addr} {of : Obj} {np c1 c2 c3 : Nat} {a1 b1 a2 b2 a3 b3 : Tok} {q1 q2 q3 q4 q5 q6 : Addr × Obj} {rest : List (Addr × Obj)} {p o : Nat} (hp : 1 ≤ p)
    (_N : News g L h ((Df, of) :: q1 :: q2 :: (Dm, tup #[.int (-1) a3, .int 1 b3] c3) :: q3 :: q4 :: q5 :: (D4, tup #[.int 0 a2, .int 1 b2] c2) :: q6 :: (D1, tup #[.int 1 a1, .int 1 b1] c1) :: rest)) (p2 : of.cls = .type "list")
    (p3 : of.data = .seq (([Value.ref D1] ++ List.replicate (p - 1) (Value.ref D4) ++ [Value.ref Dm]).take (Int.toNat (o : Int)) ++ List.replicate (Int.toNat (o : Int) - ([Value.ref D1] ++ List.replicate (p - 1) (Value.ref D4) ++ [Value.ref Dm]).length) (Value.ref 49)).toArray np) :
    LQ ((Df, of) :: q1 :: q2 :: (Dm, tup #[.int (-1) a3, .int 1 b3] c3) :: q3 :: q4 :: q5 :: (D4, tup #[.int 0 a2, .int 1 b2] c2) :: q6 :: (D1, tup #[.int 1 a1, .int 1 b1] c1) :: rest) Df (facF o p) := by
  refine ⟨of, _, np, .head _, p2, p3, ?_⟩
  have e : facF o p = List.take (Int.toNat (o : Int)) ([(1 : Int)] ++ List.replicate (p - 1) 0 ++ [-1]) ++ List.replicate (Int.toNat (o : Int) - ([(1 : Int)] ++ List.replicate (p - 1) 0 ++ [-1]).length) 0 := by
    unfold facF
    rw [Int.toNat_natCast]
    congr 2
    simp
    omega
  rw [e]
  exact (((SL.one (.inr ⟨a1, b1, c1, by simp only [List.mem_cons, true_or, or_true]⟩)).app (SL.rep (.inr ⟨a2, b2, c2, by simp only [List.mem_cons, true_or, or_true]⟩) _)).app (SL.one (.inr ⟨a3, b3, c3, by simp only [List.mem_cons, true_or, or_true]⟩))).cut _
theorem TurnEnd.many {h₀ h' : Heap} {L : Addr} {m : Str → Option Value} {own news₁ news₂ all : List (Addr × Obj)} {J : (Str → Option Value) → List (Addr × Obj) → Prop} {s₁ : Shared} {Q : Flow → Shared → Prop} {tk : Nat} (F : Fr h₀ L h' m) (N : News h₀ L h' all) (ho : ∀ p ∈ own, p ∈ all) (hn : ∀ p ∈ news₂, p ∈ all)
    (hnf : ∀ p ∈ news₂, p ∈ news₁ ∨ NF p) (hj : J m news₂) : TurnEnd h₀ L own news₁ J s₁ Q .next { s₁ with heap := h', toks := tk } :=
  ⟨h', tk, m, news₂, rfl, F, fun p h => N p (ho p h), fun p h => N p (hn p h), hnf, hj⟩
theorem cntB_le (b : Nat → Bool) : ∀ n, cntB b n ≤ n
  | 0 => Nat.le_refl _
  | n + 1 => by have := cntB_le b n; unfold cntB; cases b n <;> simp <;> omega
theorem mem4 {a b c n : Addr × Obj} {r : List (Addr × Obj)} : ∀ p ∈ a :: b :: c :: n :: r, p ∈ n :: a :: b :: c :: r := by
  intro p hp
  simp only [List.mem_cons] at hp ⊢
  rcases hp with h | h | h | h | h <;> simp [h]
theorem pairs_left {g h : Heap} {L Ds : Addr} {m : Str → Option Value} {ws : List Value} {c : Nat} {q : Addr × Obj} {more2 add rest : List (Addr × Obj)} {xs : List Int} (F : Fr g L h m) (N : News g L h (q :: (more2 ++ (Ds, W.listOf ws.toArray c) :: (add ++ rest)))) (hsl : SL add ws xs) (r0 : IsQ g 49 0) : IsQs h Ds xs :=
  LQ.isQs (n := q :: (more2 ++ (Ds, W.listOf ws.toArray c) :: (add ++ rest))) ⟨_, ws, c, .tail _ (appR (.head _)), rfl, rfl, hsl.mono (fun p hp => .tail _ (appR (.tail _ (appL hp))))⟩ F N (fun _ h => h) r0
theorem pairs_right {g h : Heap} {L De : Addr} {m : Str → Option Value} {zs : List Value} {more rest : List (Addr × Obj)} {fo o : Nat} (F : Fr g L h m) (N : News g L h ((De, LCg.lst zs) :: (more ++ rest))) (hl : zs.length = o)
    (hR : ∀ (i : Nat) (y : Value), zs[i]? = some y → ∃ (Di : Addr) (t u : Tok) (c : Nat), y = Value.ref Di ∧ (Di, tup #[.int ((dueF fo i : Nat) : Int) t, .int 1 u] c) ∈ more) (r0 : IsQ g 49 0) : IsQs h De ((List.range o).map fun i => ((dueF fo i : Nat) : Int)) := by
  refine LQ.isQs (n := (De, LCg.lst zs) :: (more ++ rest)) ⟨_, zs, _, .head _, rfl, rfl, ?_, fun i x hx => ?_⟩ F N (fun _ h => h) r0
  · rw [List.length_map, List.length_range]; exact hl
  · have hi : i < o := by have := (List.getElem?_eq_some_iff.mp hx).1; simpa using this
    obtain ⟨Di, t, u, c, hy, hm⟩ := hR i _ (List.getElem?_eq_getElem (by omega))
    refine ⟨Di, by rw [← hy]; exact List.getElem?_eq_getElem (by omega), .inr ⟨t, u, c, ?_⟩⟩
    simp [hi] at hx
    rw [← hx]
    exact .tail _ (appL hm)
theorem nameX {w : World} {A : Around} {outs : List Env} {g : Heap} (_ : Below A g outs g) (X : (hd.heap_39 w.params).In g) : (hd.heap_39 w.params).In g := X
set_option maxRecDepth 100000 in
set_option maxHeartbeats 1000000 in
theorem law_walk : PySem.Challenge.rw_tg0005_01.Holds := hd (by
  w_on
  k_go0
  all_goals try k_fold
  k_steps
  unfold MyStop
  rename_i D1 hA tkA o1 P hB l1 hC F N
  refine pool_meet (D1 := D1) (P := P) (Str.ofString "order") 5 10 1 F N ?_ ?_
  · refine wpAny_Assign_Name ?_
    k_steps
    all_goals refine ⟨rfl, _, _, _, _, _, _, ?_, ?_, rfl, by assumption, by assumption⟩
    all_goals (first | (exact fm_lo _) | (exact fm_hi _))
  · intro o ot t1 c h2 tk2 ho1 ho2 F2 N2
    obtain ⟨o, rfl⟩ := Int.eq_ofNat_of_zero_le (show 0 ≤ o by omega)
    k_steps
    unfold MyStop
    refine cell_meet 8 F2 N2 ?_ ?_
    · refine wpAny_Assign_Name ?_
      k_steps
      all_goals refine ⟨rfl, _, _, _, _, _, ?_, ?_, rfl, by assumption, by assumption, news4 (by assumption)⟩
      all_goals (first | (exact fm8_lo _) | (exact fm8_hi _))
    clear F N F2 N2
    rename Below callerA _ [] _ => K0
    have B : Below (Ar 301 4 (some []) []) _ [] _ := K0
    have X := nameX K0 (by assumption)
    rename Top _ _ _ _ _ _ => T
    have r0 := r0_is X
    intro fo ft oc h2 tk2 hfo F2 hdc N2
    k_steps
    unfold MyStop
    rename_i Dt h3 l2 Dl h4 F3 N3 l3
    refine use (cut_con Dl [.ref Dt] o ot (by omega) (by omega) (by simp)) B F3 N3 X T ⟨rfl, rfl⟩ (by decide) (by decide) (News.isList N3 (.head _)) ?_
    intro r h5 tk5 e p F5 N5
    obtain ⟨Dp, rfl, hn, op, p1, p2, np, p3⟩ := p
    have N6 := news_new F3 N3 e hn p1
    have hlq := LQ.zero (fo := fo) (show 5 ≤ o by omega) N6 p2 p3
    try dsimp only
    k_steps
    unfold MyStop
    rename_i h8 tk8 ra rb rc hr F8 N8 _
    refine range_acc (o - 1) (Str.ofString "product") (fun i news v => ∃ D, v = .ref D ∧ LQ news D (prodF fo o i) ∧ (_, oc) ∈ news) rfl hr (rsmall _ _ (by omega) (by omega) (by omega) (by omega)) (rsize _ _ _ (by omega)) F8 N8 rfl ⟨Dp, rfl, hlq, .tail _ (.tail _ (.tail _ (.head _)))⟩ ?_ ?_
    · rintro i pt v news₁ own h tk hi ⟨D, rfl, hq, hm⟩ hown F1 N1
      rw [show (1 : Int) + (i : Nat) = ((i + 1 : Nat) : Int) by omega] at F1
      have N2 := news_front N1 (appR hm)
      clear N1
      have hp1 := prod_ok o (by omega) (by omega) fo (by omega) i (by omega)
      have hf1 := fac_ok o (by omega) (by omega) (i + 1) (by omega) (by omega)
      k_steps
      unfold MyStop
      refine use (counts_con fo (i + 1) ft pt (by omega) (by omega)) B F1 N2 X T ⟨rfl, rfl⟩ (by decide) (by decide) True.intro ?_
      intro r h5 tk5 e p F5 N5
      subst p
      clear e
      try dsimp only
      cases hb : cntF fo (i + 1)
      · k_steps
        exact TurnEnd.zero F5 (fun p hp => N5 p (.tail _ hp)) ⟨_, rfl, ⟨D, rfl, (prodF_no hb) ▸ hq, hm⟩, fun z h1 h2 => by simp only [h1, h2, if_false]⟩
      · k_steps
        unfold MyStop
        rename_i D5 _ _ _ _ _ D4 _ _ _ _ _ D3 _ _ D2 _ _ D1m _ _ l9 _ _ D9 h9 F9 N9 _
        refine use (cut_con D9 ([.ref D5] ++ List.replicate i (.ref D4) ++ [.ref D1m]) o ot (by omega) (by omega) (by simp; omega)) B F9 N9 X T ⟨rfl, rfl⟩ (by decide) (by decide) (listOf_eq (News.isList N9 (.head _)) (by simp)) ?_
        intro r h10 tk10 e p F10 N10
        obtain ⟨Df, rfl, hn, of, p1, p2, np, p3⟩ := p
        have N11 := news_new F9 N9 e hn p1
        have hfq := LQ.fac (p := i + 1) (o := o) (by omega) N11 p2 p3
        clear N10
        try dsimp only
        k_steps
        unfold MyStop
        refine use (smul_con D Df (prodF fo o i) (facF o (i + 1)) (by omega) (by omega) (smallL.get hp1.2) (smallL.get hf1.2)) B F10 N11 X T ⟨rfl, rfl⟩ (by decide) (by decide) ⟨hq.isQs F10 N11 (fun p hp => by simp only [List.mem_append, List.mem_cons, hp, or_true, true_or]) r0, hfq.isQs F10 N11 (fun _ h => h) r0⟩ ?_
        intro r h12 tk12 e p F12 N12
        obtain ⟨Dn, ws, c, add, rfl, hfr, htp, hsl⟩ := p
        have N13 := hfr.news e F10 N11
        clear N12
        try dsimp only
        k_steps
        refine TurnEnd.many (news₂ := (Dn, W.listOf ws.toArray c) :: (add ++ news₁)) (by assumption) (by assumption) (fun p hp => by simp only [List.mem_append, List.mem_cons, hp, or_true, true_or]) (fun p hp => ?_) (fun p hp => ?_) ⟨_, rfl, ⟨Dn, rfl, ⟨_, ws, c, .head _, rfl, rfl, (prodF_yes hb) ▸ hsl.mono fun p hp => .tail _ (appL hp)⟩, .tail _ (appR hm)⟩, fun z h1 h2 => by simp only [h1, h2, if_false]⟩
        · simp only [List.mem_cons, List.mem_append] at hp ⊢
          rcases hp with e | e | e <;> simp only [e, true_or, or_true]
        · simp only [List.mem_cons, List.mem_append] at hp
          rcases hp with e | e | e
          · exact .inr (e ▸ fun vs h => by cases h)
          · exact .inr (htp p e).nf
          · exact .inl e
    · rintro u v h3 tk3 news' F4 N4 ⟨D, rfl, hq, hm⟩
      have N5 := news_front N4 hm
      clear N4
      k_steps
      unfold MyStop
      rename_i h6 tk6 _ _ _ hr6 F6 N6 _
      refine LCg.CompSrc.range (n := o) rfl F6 N6 hr6 (rsmall _ _ (by omega) (by omega) (by omega) (by omega)) (rsize _ _ _ (by omega)) (by rw [sizeLine_eq]; omega) (fun g => ?_)
      refine comp_rel (fun i y more => ∃ t, y = .int ((dueF fo i : Nat) : Int) t) ?_ ?_ ?_
      · rintro i y n1 n2 ⟨t, rfl⟩ _
        exact ⟨t, rfl⟩
      · rintro i v I oI C oC D2 m₂ zs h tk E' more hi ⟨t, rfl⟩ hC hx F N off ne hl
        rw [Int.zero_add] at hx
        obtain ⟨hps1, hps2⟩ := parts_small 9 (by omega) i (by omega) i (by omega)
        k_steps
        unfold MyStop
        refine use (parts_con 9 i i t t (by omega) (by decide) (by omega)) B F N X T ⟨rfl, rfl⟩ (by decide) (by decide) True.intro ?_
        intro r h7 tk7 e p F7 N7
        obtain ⟨Dr, wr, cr, addr, rfl, hfr, hplr, hnsr⟩ := p
        have N8 := news_front (hfr.news e F N) (.tail _ (appR (.tail _ (.tail _ (.tail _ (appR (.head _)))))))
        clear N7
        try dsimp only
        k_steps
        unfold MyStop
        refine LCt.CompSrcT.ledger rfl F7 N8 (.tail _ (.head _)) (by rw [List.size_toArray, hplr.1, sizeLine_eq]; omega) (fun g => ?_)
        refine comp_count (fun j => holdsF fo ((partsF 9 i i).getD j [])) ?_ ?_
        · intro j v I2 oI2 C2 oC2 D3 m3 ys h tk E2 hj hP hC2 hx2 F N off2 ne2
          have hj' : j < (partsF 9 i i).length := by rw [List.size_toArray, hplr.1] at hj; exact hj
          obtain ⟨Di, vsi, ni, hwi, hmi, hii⟩ := hplr.2 j _ (List.getElem?_eq_getElem hj')
          have hv : v = Value.ref Di := by
            have hP : wr[j]? = some v := by simpa using hP
            rw [hwi] at hP; exact (Option.some.inj hP).symm
          subst hv
          have hlen : ((partsF 9 i i)[j]).length ≤ 9 := of_decide_eq_true (List.all_eq_true.mp hps2 _ (List.getElem_mem hj'))
          have hgd : (partsF 9 i i).getD j [] = (partsF 9 i i)[j] := by rw [List.getD, List.getElem?_eq_getElem hj']; rfl
          k_steps
          unfold MyStop
          refine use (holds_con fo Di vsi (partsF 9 i i)[j] ft (by omega) (by omega)) B F N X T ⟨rfl, rfl⟩ (by decide) (by decide) ⟨⟨ni, N.get (by simp only [List.mem_cons, List.mem_append, hmi, or_true, true_or])⟩, hii⟩ ?_
          intro r h8 tk8 e p F8 N9
          subst p
          clear e
          try dsimp only
          cases hb : holdsF fo (partsF 9 i i)[j]
          · k_steps
            exact LCg.CompEnd.intro F8 N9 _ (fun _ h => h) off2 (.inr ⟨_, .tail _ (.head _), rfl, _, rfl⟩) ⟨rfl, by rw [hgd, hb]⟩
          · k_steps
            exact LCg.CompEnd.intro F8 N9 _ (fun _ h => h) off2 (.inr ⟨_, .tail _ (.head _), rfl, _, rfl⟩) ⟨rfl, by rw [hgd, hb]⟩
        · intro ys hyl
          have hyb := cntB_le (fun j => holdsF fo ((partsF 9 i i).getD j [])) wr.toArray.size
          rw [List.size_toArray, hplr.1] at hyb hyl
          k_steps
          exact LCg.CompEnd.intro (by assumption) (by assumption) _ (fun p hp => .tail _ (.tail _ (.tail _ (appR hp)))) off trivial ⟨more, rfl, fun _ h => h, _, by rw [hyl]; rfl⟩
      · intro zs more hl hR
        k_steps
        unfold MyStop
        rename_i Dd h9 tk9 F9 N9 o9
        have hinv := inv_all o (by omega) (by omega) fo (by omega)
        have hpo := prod_ok o (by omega) (by omega) fo (by omega) (o - 1) (by omega)
        refine use (sinverse_con D (prodF fo o (o - 1)) (by omega) (by omega) (hinv 0 (by omega)).2 (smallL.get hpo.2) (fun n hn => smallL.get (hinv n (by omega)).1)) B F9 N9 X T ⟨rfl, rfl⟩ (by decide) (by decide) (hq.isQs F9 N9 (fun p hp => .tail _ (appR (.tail _ hp))) r0) ?_
        intro r h10 tk10 e p F10 N10
        obtain ⟨Ds, ws, c, add, rfl, hfr, htp, hsl⟩ := p
        have N11 := hfr.news e F9 N9
        rw [hpo.1] at hsl
        clear N10
        try dsimp only
        k_steps
        unfold MyStop
        refine LCg.CompSrc.ledger rfl F10 N11 (.tail _ (appR (.head _))) (by rw [List.size_toArray, hl, sizeLine_eq]; omega) (fun g => ?_)
        refine comp_rel (fun i y more => ∃ Di t u c, y = .ref Di ∧ (Di, tup #[.int ((dueF fo i : Nat) : Int) t, .int 1 u] c) ∈ more) ?_ ?_ ?_
        · rintro i y n1 n2 ⟨Di, t, u, c, rfl, h⟩ hs
          exact ⟨Di, t, u, c, rfl, hs _ h⟩
        · rintro i v I oI C oC D2 m₂ zs2 h tk E' more2 hi hP hC hx F N off ne hl2
          obtain ⟨tz, hz⟩ := hR i v (by simpa using hP)
          subst hz
          k_steps
          rename_i Dt h6' F6' N6' l6'
          exact LCg.CompEnd.intro F6' N6' ((Dt, _) :: (more2 ++ _)) mem4 ⟨⟨Nat.ne_of_gt l6'.1, Nat.ne_of_gt l6'.2.1, Nat.ne_of_gt l6'.2.2.1⟩, off⟩ (.inr ⟨_, .tail _ (appR (appR (.head _))), rfl, _, rfl⟩) ⟨(Dt, _) :: more2, rfl, fun p hp => .tail _ hp, Dt, _, _, _, rfl, .head _⟩
        · intro zs2 more2 hl2 hR2
          k_steps
          unfold MyStop
          rename_i De h11 tk11 F11 N12 o11
          have hdat := data_ok o (by omega) (by omega) fo (by omega)
          refine eq_pairs (pairs_left F11 N12 hsl r0) (pairs_right F11 N12 (by rw [hl2, List.size_toArray, hl]) hR2 r0) hdat.1 hdat.2.1 hdat.2.2 (show 7 + 64 < cLine by decide) ?_
          try dsimp only
          k_steps)
end Mine
set_option maxRecDepth 100000 in
set_option maxHeartbeats 8000000 in
theorem PySem.Challenge.cw_tg0005_01_holds : PySem.Challenge.rw_tg0005_01.Holds := by
  exact Mine.law_walk
