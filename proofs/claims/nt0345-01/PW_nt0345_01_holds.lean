import PyProof.Rows.All
import Wide.All
import OpenK.AllK
import Wide.FinOn
import Lean
import PySem.Challenge.RW_nt0345_01
open PySem PySem.W PyProof.Rows
set_option Elab.async false
set_option linter.all false
set_option rowWalk.seconds 0
namespace Mine
theorem pre : True := by
  run_tac
    for n in [`Mine.hd.heap_277, `Mine.hd.tree_276, `Mine.hd.tree_245, `Mine.hd.tree_161, `Mine.hd.view_39, `Mine.hd.sts_246, `Mine.hd.sts_73, `Mine.hd.sts_162, `Mine.hd.heap_39, `PySem.Challenge.pw_nt0345_01] do
      PySem.W.Fast.primed.modify (·.insert n none)
  trivial
set_option maxRecDepth 100000 in
set_option maxHeartbeats 8000000 in
open_top hd for PySem.Challenge.rw_nt0345_01
theorem topOff : True := by
  w_top off
  trivial
section
/-! a walk's proof, said shorter: the block that «k_with "MY body"» holds is run aside; of its proof the helpers' texts are laid in place, linear arithmetic is shown anew by lia where that is shorter, and every open term that stands twice is named once by let -/
open Lean Meta Elab Tactic
structure SqS where
  next : Nat := 1
  cnt : Std.HashMap Lean.Expr Nat := {}
  order : Array Lean.Expr := #[]
  sigs : Std.HashMap Name (Array Nat) := {}
  byVar : Std.HashMap Nat (Array Lean.Expr) := {}
  tab : Std.HashMap Lean.Expr Lean.Expr := {}
  memo : Std.HashMap Lean.Expr Lean.Expr := {}
  hot : Bool := false
  here : Std.HashMap Lean.Expr Lean.Expr := {}
  pfs : Std.HashMap Lean.Expr Bool := {}
abbrev SqM := StateRefT SqS MetaM
/-- an open term seen -/
def sqNote : Nat → Lean.Expr → SqM Unit
  | 0, _ => pure ()
  | n + 1, e => do
    if !e.hasFVar || e.isFVar then return
    let c := (← get).cnt.getD e 0
    modify fun s => { s with cnt := s.cnt.insert e (c + 1) }
    if c > 0 then return
    match e with
    | .app f a => sqNote n f; sqNote n a
    | .lam _ t b _ => sqNote n t; sqNote n b
    | .forallE _ t b _ => sqNote n t; sqNote n b
    | .letE _ t v b _ => sqNote n t; sqNote n v; sqNote n b
    | .mdata _ b => sqNote n b
    | .proj _ _ b => sqNote n b
    | _ => pure ()
    modify fun s => { s with order := s.order.push e }
/-- the open terms that have a name, by their names -/
def sqRep : Nat → Bool → Lean.Expr → SqM Lean.Expr
  | 0, _, e => pure e
  | n + 1, top, e => do
    if !e.hasFVar || e.isFVar then return e
    unless top do if let some y := (← get).tab[e]? then return y
    if let some r := (← get).memo[e]? then return r
    let r ← match e with
      | .app f a => do pure (.app (← sqRep n false f) (← sqRep n false a))
      | .lam x t b bi => do pure (.lam x (← sqRep n false t) (← sqRep n false b) bi)
      | .forallE x t b bi => do pure (.forallE x (← sqRep n false t) (← sqRep n false b) bi)
      | .letE x t v b nd => do pure (.letE x (← sqRep n false t) (← sqRep n false v) (← sqRep n false b) nd)
      | .mdata m b => do pure (.mdata m (← sqRep n false b))
      | .proj s i b => do pure (.proj s i (← sqRep n false b))
      | e => pure e
    modify fun s => { s with memo := s.memo.insert e r }
    return r
def sqData (e : Lean.Expr) : SqM Lean.Expr := do
  if (← get).hot then sqRep 100000 false e else do sqNote 100000 e; return e
/-- of a constant's arguments: 0 data, 1 a proof, 2 to be looked at -/
def sqSig (c : Name) : SqM (Array Nat) := do
  if let some a := (← get).sigs[c]? then return a
  let a ← forallTelescope (← getConstInfo c).type fun xs _ => xs.mapM fun x => do
    match ← whnf (← inferType (← inferType x)) with
    | .sort u => return if u.isZero then 1 else if u.isNeverZero then 0 else 2
    | _ => return 2
  modify fun s => { s with sigs := s.sigs.insert c a }
  return a
def sqIsPf (e : Lean.Expr) : SqM Bool := do
  if let some b := (← get).pfs[e]? then return b
  let b ← isProof e
  modify fun s => { s with pfs := s.pfs.insert e b }
  return b
def sqVar (e : Lean.Expr) : Nat := (collectFVars {} e).fvarIds.foldl (fun m f => match f.name with
  | .num `sq k => max m k
  | _ => m) 0
/-- the lets whose innermost letter is the k-th, about what r makes -/
def sqLets (k : Nat) (r : SqM Lean.Expr) : SqM Lean.Expr := do
  unless (← get).hot do return ← r
  let ts := (← get).byVar.getD k #[]
  let mut ds := #[]
  for t in ts do
    let y : FVarId := ⟨.num (.num `sl k) ds.size⟩
    let v ← sqRep 100000 true t
    let ty ← sqRep 100000 false (← inferType t)
    modify fun s => { s with tab := s.tab.insert t (.fvar y), memo := s.memo.erase t }
    ds := ds.push (y, ty, v)
  let mut b ← r
  for i in [0:ds.size] do
    let (y, ty, v) := ds[ds.size - 1 - i]!
    let c := b.abstract #[.fvar y]
    b := if c.hasLooseBVar 0 then .letE `y ty v c false else c.lowerLooseBVars 1 1
  return b
def sqWalk : Nat → Array Lean.Expr → Lean.Expr → SqM Lean.Expr
  | 0, _, e => pure e
  | n + 1, xs, e => do
    let hot := (← get).hot
    let under (d : FVarId → LocalDecl) (b : Lean.Expr) : SqM Lean.Expr := do
      let k := (← get).next
      modify fun s => { s with next := k + 1 }
      let x : FVarId := ⟨.num `sq k⟩
      let old := (← get).here
      modify fun s => { s with here := {} }
      let r ← withExistingLocalDecls [d x] (sqLets k (sqWalk n (xs.push (.fvar x)) b))
      modify fun s => { s with here := old }
      return if hot then r.abstract #[.fvar x] else r
    match e with
    | .lam _ t b _ => do
      let t := t.instantiateRev xs
      let t' ← sqData t
      let b ← under (fun x => .cdecl 0 x `x t .default .default) b
      return if hot then .lam `x t' b .default else e
    | .letE _ t v b nd => do
      let t := t.instantiateRev xs
      let p ← isProp t
      let t' ← sqData t
      let v' ← if p then sqWalk n xs v else sqData (v.instantiateRev xs)
      let b ← under (fun x => .ldecl 0 x `x t (v.instantiateRev xs) nd .default) b
      return if hot then .letE `x t' v' b nd else e
    | .mdata _ b => sqWalk n xs b
    | .app .. => do
      if let some r := (← get).here[e]? then return r
      let f := e.getAppFn
      let sig ← match f with | .const c _ => sqSig c | _ => pure #[]
      let mut r ← if f.isLambda || f.isLet || f.isMData then sqWalk n xs f else sqData (f.instantiateRev xs)
      let mut i := 0
      for a in e.getAppArgs do
        let s := sig.getD i 2
        i := i + 1
        let q ← if a.isBVar || a.isFVar then pure (a.instantiateRev xs)
          else if s == 1 then sqWalk n xs a
          else
            let a' := a.instantiateRev xs
            if s == 2 && (← sqIsPf a') then sqWalk n xs a else sqData a'
        if hot then r := .app r q
      modify fun s => { s with here := s.here.insert e r }
      return r
    | e => sqData (e.instantiateRev xs)
def squeeze (e : Lean.Expr) : MetaM Lean.Expr := do
  let (r, _) ← (do
    discard (sqWalk 100000 #[] e)
    let s ← get
    let mut by_ := {}
    for t in s.order do
      if s.cnt.getD t 0 ≥ 2 && !t.hasLooseBVars && (t.isApp || t.isLambda || t.isForall) then
        let k := sqVar t
        by_ := by_.insert k ((by_.getD k #[]).push t)
    set { ({} : SqS) with sigs := s.sigs, pfs := s.pfs, byVar := by_, hot := true }
    sqLets 0 (sqWalk 100000 #[] e) : SqM Lean.Expr).run {}
  return r
/-- a fact by lia; the environment stands behind it as before it -/
def sqLia (ty : Lean.Expr) : MetaM (Option (Lean.Expr × Environment × Environment)) := do
  let env ← getEnv
  let r ← (try
      Term.TermElabM.run' do
        let g ← mkFreshExprMVar ty
        let (_, h) ← g.mvarId!.intros
        let no : Lean.Expr ← h.withContext do whnfR (← h.getType)
        unless no.isConstOf ``False do return none
        let left ← Tactic.run h (do evalTactic (← `(tactic| lia)))
        let r ← instantiateMVars g
        let e1 ← getEnv
        return if left.isEmpty && !r.hasMVar then some (r, env, e1) else none
    catch _ => pure none)
  setEnv env
  return r
/-- what the block left beside its proof, laid in place (helpers of letters; by lia where that is shorter) or laid anew (facts without letters) -/
def sqFix : Nat → Bool → Environment × Environment → Lean.Expr → MetaM Lean.Expr
  | 0, _, _, e => pure e
  | n + 1, anew, at_, e => do
    unless (e.getUsedConstants).any (fun c => !at_.1.contains c) do return e
    Core.transform e (pre := fun x => do
      let .const c us := x.getAppFn | return .continue
      if at_.1.contains c then return .continue
      let some ci := at_.2.find? c | return .continue
      match ci with
      | .thmInfo t =>
        if (c.toString.splitOn "._proof_").length > 1 then
          let ty := t.type.instantiateLevelParams t.levelParams us
          let mut v ← sqFix n false at_ (t.value.instantiateLevelParams t.levelParams us)
          if x.isApp then
            if anew && (← v.numObjs) > 60 then
              if let some (r, at') ← sqLia ty then
                let r ← sqFix n false at' r
                if (← r.numObjs) < (← v.numObjs) then v := r
            return .done (v.beta (← x.getAppArgs.mapM (sqFix n anew at_)))
          else
            return .done (mkConst (← withOptions (Elab.async.set · false) (mkAuxLemma [] (← sqFix n false at_ ty) v)))
        else
          unless (← getEnv).contains c do addDecl (.thmDecl { t with value := ← sqFix n false at_ t.value })
          return .continue
      | .defnInfo d =>
        unless (← getEnv).contains c do addDecl (.defnDecl { d with value := ← sqFix n false at_ d.value })
        return .continue
      | _ => throwError "sqFix: {c}")
def go : TacticM Unit := withMainContext do
  let (k, stx) :: rest ← PySem.W.kExtra.get | throwError "go: no body"
  unless k == "MY body" do throwError "go: no body"
  PySem.W.kExtra.set rest
  let g ← getMainGoal
  let e0 ← getEnv
  let h ← mkFreshExprSyntheticOpaqueMVar (← instantiateMVars (← g.getType))
  let left ← Tactic.run h.mvarId! (evalTactic stx)
  unless left.isEmpty do Term.reportUnsolvedGoals left; throwError "go: goals are left"
  let p ← instantiateMVars h
  if p.hasMVar then throwError "go: a hole"
  let e1 ← getEnv
  setEnv e0
  withTheReader Core.Context ({ · with maxRecDepth := 1000000 }) do withOptions (Elab.async.set · false) do
    g.assign (← squeeze (← sqFix 1000 true (e0, e1) p))
  replaceMainGoal []
end
/-- where a call of a def of the text stands: the frames, the ledger, the room -/
structure Here (w : World) (A : Around) (h₀ : Heap) (L : Addr) (m : Str → Option Value) (s : Shared) (news : List (Addr × Obj)) (base : Heap) (env : Env) (outer : List Env) (k : Nat) : Prop where
  B : ∃ A₀, Below A₀ base outer h₀
  F : Fr h₀ L s.heap m
  X : (hd.heap_39 w.params).In h₀
  N : News h₀ L s.heap news
  T : ∃ mean mg mb, Top hd.view_39 (looseW hd.view_39 [Str.ofString "PLAIN", Str.ofString "KEPT_IN_URI", Str.ofString "LEFT_IN_URI", Str.ofString "LEAST_SIGNS"]) mean mg mb h₀
  fr : A.frames = some (env :: outer)
  loc : env.frame = some L
  kind : env.scope.kind = .function
  calm : A.handled = none
  room : A.depth + k < recursionLimit
  units : A.units + 8 * k < cLine
theorem Here.lit {w : World} {A : Around} {h₀ : Heap} {L : Addr} {m : Str → Option Value} {s : Shared} {news : List (Addr × Obj)} {base : Heap} {env : Env} {outer : List Env} {k : Nat} {P : Around → Prop}
    (H : Here w A h₀ L m s news base env outer k)
    (h : ∀ dp un gd A₀ mean mg mb, Below A₀ base outer h₀ → Fr h₀ L s.heap m → (hd.heap_39 w.params).In h₀ → News h₀ L s.heap news →
      Top hd.view_39 (looseW hd.view_39 [Str.ofString "PLAIN", Str.ofString "KEPT_IN_URI", Str.ofString "LEFT_IN_URI", Str.ofString "LEAST_SIGNS"]) mean mg mb h₀ →
      env.frame = some L → env.scope.kind = .function → dp + k < recursionLimit → un + 8 * k < cLine → P { handled := none, depth := dp, frames := some (env :: outer), guards := gd, units := un }) : P A := by
  obtain ⟨⟨A₀, B⟩, F, X, N, ⟨mean, mg, mb, T⟩, fr, loc, kind, calm, room, units⟩ := H
  obtain ⟨hd, dp, f, gd, un⟩ := A
  cases fr
  cases calm
  exact h dp un gd A₀ mean mg mb B F X N T loc kind room units
local macro_rules
  | `(tactic| walk_at $s) => `(tactic| k_extra $s)
local macro_rules
  | `(tactic| k_all) => `(tactic| first | exact List.forall_mem_nil _ | (refine List.forall_mem_cons.mpr ⟨?_, ?_⟩; (· k_ne); (· k_all)))
section
theorem kw_M : True := by
  w_top off
  k_with_none
  k_with "MY room" => (first
      | ((try simp only [depth_under_make, depth_under_kw, depth_in1, depth_deeper, depth_caller, Around.mark]); (try dsimp only); omega)
      | ((try simp only [depth_under_make, depth_under_kw, depth_in1, depth_deeper, depth_caller, Around.mark]); (try dsimp only); simp only [recursionLimit] at *; omega))
  k_with "MY units" => ((have hcL9_k := cLine_is; (try simp only [units_in1, units_deeper, Around.mark_units, units_caller]); (try dsimp only); omega))
  k_with "MY enter" => ((refine wpAny_call ?_; k_dflt (refine' code_def ?k1 ?k2 ?k3 ?k4 ?k5 ?kA ?kF ?kK ?k6 ?k7 ?k8 ?k9 ?kB ?_ ?c2 ?c3 ?c4 ?c5; (case kA => exact rfl); (case kF => first | exact rfl | assumption); (case kK => first | exact rfl | assumption); (case k1 => k_asm); (case k2 => k_asm); (case k3 => k_asm); (case k4 => k_asm); (case k5 => k_asm); (case k6 => k_is); (case k7 => k_is); (case k8 => walk_at "MY room"); (case k9 => exact BindsTo.of_eq rfl); (case c5 => decide); (case kB => exact locs rfl); (case c2 => exact rfl); (case c3 => exact rfl); (case c4 => exact rfl); k_whole; intro g'_k L'_k h'_k FG'_k F'_k N'_k B'_k X'_k T'_k; (try dsimp only); (try k_lift B'_k); (try k_fold))))
  k_with "MY here" => ((refine' Here.mk ⟨_, ?h1⟩ ?h2 ?h3 ?h4 ⟨_, _, _, ?h5⟩ ?h6 ?h7 ?h8 ?h9 ?h10 ?h11; (case h6 => exact rfl); (case h1 => k_asm); (case h2 => k_asm); (case h3 => k_asm); (case h4 => k_asm); (case h5 => k_asm); (case h7 => first | exact rfl | assumption); (case h8 => first | exact rfl | assumption); (case h9 => exact rfl); (case h10 => walk_at "MY room"); (case h11 => walk_at "MY units")))
  k_with "MY sub" => ((intro p'_k hp'_k; first | exact hp'_k | (repeat (first | exact hp'_k | refine List.Mem.tail _ ?_))))
  k_with "MY fresh" => (first | assumption | (refine lt_of_all ?_; first | assumption | exact And.right (by assumption) | exact And.right (And.right (by assumption)) | exact And.right (And.right (And.right (by assumption))) | exact And.right (And.right (And.right (And.right (by assumption)))) | exact And.right (And.right (And.right (And.right (And.right (by assumption))))) | exact And.right (And.right (And.right (And.right (And.right (And.right (by assumption)))))) | exact And.right (And.right (And.right (And.right (And.right (And.right (And.right (by assumption)))))))))
  k_with "MY enterG" => ((refine wpAny_call ?_; k_dflt (refine' code_defG ?k1 ?k2 ?k3 ?k4 ?k5 ?kA ?kF ?kK ?k6 ?k7 ?k8 ?k9 ?kB ?_ ?c2 ?c3 ?c4 ?c5; (case kA => exact rfl); (case kF => first | exact rfl | assumption); (case kK => first | exact rfl | assumption); (case k1 => k_asm); (case k2 => k_asm); (case k3 => k_asm); (case k4 => k_asm); (case k5 => k_asm); (case k6 => k_is); (case k7 => k_is); (case k8 => walk_at "MY room"); (case k9 => exact BindsTo.of_eq rfl); (case c5 => decide); (case kB => exact locs rfl); (case c2 => exact rfl); (case c3 => exact rfl); (case c4 => exact rfl); k_whole; intro g'_k L'_k h'_k FG'_k F'_k N'_k B'_k X'_k T'_k kG'_k; (try dsimp only); (try k_lift B'_k); (try k_fold))))
  k_with "MY kept" => ((rename GSub _ _ _ => kG9_k; exact elt_after (InElt.start _) kG9_k (by assumption) (by assumption) (by assumption) (by walk_at "MY sub")))
  k_with "MY subr" => ((intro p'_k hp'_k; first | exact hp'_k | (repeat (first | exact hp'_k | exact List.mem_append_left _ hp'_k | exact List.mem_append_right _ hp'_k | refine List.Mem.tail _ ?_))))
  k_with "MY same" => ((intro z_k h1_k h2_k h3_k; first
      | rfl
      | ((try simp only [List.contains_cons, List.contains_nil, Bool.or_false, Bool.or_eq_false_iff, beq_eq_false_iff_ne, ne_eq] at h3_k); (simp [h1_k, h2_k, h3_k]; done))))
  k_with "MY enterC" => ((refine wpAny_call ?_; k_dflt (refine' code_defC ?k1 ?k2 ?k3 ?k4 ?k5 ?kA ?kF ?kK ?k6 ?k7 ?k8 ?k9 ?kB ?kD ?_ ?c2 ?c3 ?c4; (case kA => exact rfl); (case kF => first | exact rfl | assumption); (case kK => first | exact rfl | assumption); (case k1 => k_asm); (case k2 => k_asm); (case k3 => k_asm); (case k4 => k_asm); (case k5 => k_asm); (case k6 => k_is); (case k7 => k_is); (case k8 => walk_at "MY room"); (case k9 => exact BindsTo.of_eq rfl); (case kB => exact rfl); (case kD => decide +kernel); (case c2 => exact rfl); (case c3 => exact rfl); (case c4 => exact rfl); k_whole; intro g'_k L'_k h'_k tk'_k cells'_k FG'_k F'_k N'_k Y'_k B'_k X'_k T'_k l1_k; (try k_lt l1_k); k_cells Y'_k; (try simp only [List.cons_append, List.nil_append] at N'_k); (try dsimp only); (try k_lift B'_k); (try k_fold))))
  k_with "MY enterT" => ((refine wpAny_call ?_; k_dflt (refine' code_defT ?k1 ?k2 ?k3 ?k4 ?k5 ?kA ?kF ?kK ?k6 ?k7 ?k8 ?k9 ?kB ?_ ?c2 ?c3 ?c4 ?c5; (case kA => exact rfl); (case kF => first | exact rfl | assumption); (case kK => first | exact rfl | assumption); (case k1 => k_asm); (case k2 => k_asm); (case k3 => k_asm); (case k4 => k_asm); (case k5 => k_asm); (case k6 => k_is); (case k7 => k_is); (case k8 => walk_at "MY room"); (case k9 => exact BindsTo.of_eq rfl); (case c5 => decide); (case kB => exact locs rfl); (case c2 => exact rfl); (case c3 => exact rfl); (case c4 => exact rfl); k_whole; intro g'_k L'_k h'_k FG'_k F'_k N'_k B'_k X'_k T'_k; (try dsimp only); (try k_lift B'_k); (try k_fold))))
  trivial
abbrev S (l : List Nat) : Str := ⟨l.toArray⟩
theorem S_len (l : List Nat) : (S l).length = l.length := by simp [S, PySem.Str.length]
theorem S_of (x : Str) : x = S x.cps.toList := by cases x; simp [S]
theorem S_app (a b : List Nat) : (S a) ++ (S b) = S (a ++ b) := by
  k_with "MY body" =>
    show PySem.Str.append _ _ = _
    simp [PySem.Str.append, S]
  run_tac go
theorem fdiv_pow {y : Int} (n : Nat) : y.fdiv (2 ^ n) = y / 2 ^ n := Int.fdiv_eq_ediv_of_nonneg _ (Int.le_of_lt (Int.pow_pos (by decide)))
theorem shr4 (y : Int) : y.fdiv (2 ^ Int.toNat 4) = y / 16 := fdiv_pow 4
theorem shr6 (y : Int) : y.fdiv (2 ^ Int.toNat 6) = y / 64 := fdiv_pow 6
theorem shr10 (y : Int) : y.fdiv (2 ^ Int.toNat 10) = y / 1024 := fdiv_pow 10
theorem shr1 (y : Int) : y.fdiv (2 ^ Int.toNat 1) = y / 2 := fdiv_pow 1
theorem and15 (y : Int) : Builtin.bitAnd y 15 = y % 16 := bitAnd_m4 y
theorem and63 (y : Int) : Builtin.bitAnd y 63 = y % 64 := bitAnd_m6 y
theorem and1023 (y : Int) : Builtin.bitAnd y 1023 = y % 1024 := kbt_mask y 10
/-- the octets of a sign -/
def octs (k : Nat) : List Nat :=
  if k < 128 then [k] else if k < 2048 then [192 + k / 64, 128 + k % 64]
  else if k < 65536 then [224 + k / 4096, 128 + k / 64 % 64, 128 + k % 64]
  else [240 + k / 262144, 128 + k / 4096 % 64, 128 + k / 64 % 64, 128 + k % 64]
/-- the code units of a sign -/
def unitsN (k : Nat) : List Nat := if k < 65536 then [k] else [55296 + (k - 65536) / 1024, 56320 + (k - 65536) % 1024]
def hexd (d : Nat) : Nat := if d < 10 then 48 + d else 55 + d
def octT (o : Nat) : List Nat := [37, hexd (o / 16), hexd (o % 16)]
def ocount (o : Nat) : Nat := if o < 128 then 1 else if o < 192 ∨ 248 ≤ o then 0 else if o < 224 then 2 else if o < 240 then 3 else 4
abbrev hexL : List Nat := [48, 49, 50, 51, 52, 53, 54, 55, 56, 57, 65, 66, 67, 68, 69, 70]
theorem hexS : Str.ofString "0123456789ABCDEF" = S hexL := by decide +kernel
theorem pctS : Str.ofString "%" = S [37] := by decide +kernel
theorem hex_at {d : Nat} (h : d < 16) : hexL[d]? = some (hexd d) := by
  k_with "MY body" =>
    have : ∀ d : Fin 16, hexL[d.val]? = some (hexd d.val) := by decide
    exact this ⟨d, h⟩
  run_tac go
theorem isS {x : Str} {t : Tok} {l : List Nat} (h : x = S l) : ∃ t', Value.str x t = Value.str (S l) t' := ⟨t, by rw [h]⟩
theorem isI {x y : Int} {t : Tok} (h : x = y) : ∃ t', Value.int x t = Value.int y t' := ⟨t, by rw [h]⟩
theorem item_S {l : List Nat} {i : Int} {k c : Nat} (hi : i = k) (hc : l[k]? = some c) : Txt.item (S l) i = S [c] := by
  k_with "MY body" =>
    subst hi
    have hk : k < l.length := (List.getElem?_eq_some_iff.mp hc).1
    unfold Txt.item Txt.charAt
    rw [S_len]
    have e : seqIndex? (k : Int) l.length = some k := by
      unfold seqIndex?
      have h1 : ¬ ((k : Int) < 0) := by omega
      simp only [h1, if_false]
      rw [if_pos (by simp; omega)]
      simp
    rw [e]
    simp [S, hc]
  run_tac go
theorem or128 {y : Int} {k : Nat} (h : y = (k : Nat)) : Builtin.bitOr 128 (Builtin.bitAnd y 63) = ((128 + k % 64 : Nat) : Int) := by
  k_with "MY body" =>
    have fin : ∀ b : Nat, b < 64 → Builtin.bitOr 128 (b : Int) = ((128 + b : Nat) : Int) := by decide +kernel
    have e : y % 64 = ((k % 64 : Nat) : Int) := by omega
    have hlt : k % 64 < 64 := Nat.mod_lt _ (by decide)
    rw [and63, e]
    generalize k % 64 = q at hlt
    exact fin q hlt
  run_tac go
theorem or192 {y : Int} {k : Nat} (h : y = (k : Nat)) (hk : k < 32) : Builtin.bitOr 192 y = ((192 + k : Nat) : Int) := by
  k_with "MY body" =>
    have fin : ∀ b : Nat, b < 32 → Builtin.bitOr 192 (b : Int) = ((192 + b : Nat) : Int) := by decide +kernel
    rw [h]; exact fin _ hk
  run_tac go
theorem or224 {y : Int} {k : Nat} (h : y = (k : Nat)) (hk : k < 16) : Builtin.bitOr 224 y = ((224 + k : Nat) : Int) := by
  k_with "MY body" =>
    have fin : ∀ b : Nat, b < 16 → Builtin.bitOr 224 (b : Int) = ((224 + b : Nat) : Int) := by decide +kernel
    rw [h]; exact fin _ hk
  run_tac go
theorem or240 {y : Int} {k : Nat} (h : y = (k : Nat)) (hk : k < 8) : Builtin.bitOr 240 y = ((240 + k : Nat) : Int) := by
  k_with "MY body" =>
    have fin : ∀ b : Nat, b < 8 → Builtin.bitOr 240 (b : Int) = ((240 + b : Nat) : Int) := by decide +kernel
    rw [h]; exact fin _ hk
  run_tac go
abbrev Z (l : List Nat) : List Int := l.map (fun (n : Nat) => (n : Int))
theorem ints_cons {x : Int} {n : Nat} {t : Tok} {vs : List Value} {ns : List Nat} (h : x = (n : Nat)) (r : IntsAre vs (Z ns)) : IntsAre (.int x t :: vs) (Z (n :: ns)) := by
  k_with "MY body" =>
    subst h; exact .cons _ _ r
  run_tac go
theorem ints_nil : IntsAre [] (Z []) := .nil
theorem lt_of_all {d : Addr} {l : List (Addr × Obj)} (h : AllLt d l) : ∀ p ∈ l, p.1 < d := by
  k_with "MY body" =>
    induction l with
    | nil => intro p hp; cases hp
    | cons q l ih =>
      intro p hp
      rcases List.mem_cons.mp hp with e | hp
      · rw [e]; exact h.1
      · exact ih h.2 p hp
  run_tac go
theorem news_pick {h₀ h : Heap} {L : Addr} {big news : List (Addr × Obj)} {x : Addr × Obj} (N : News h₀ L h big) (hx : x ∈ big) (hs : ∀ p ∈ news, p ∈ big) : News h₀ L h (x :: news) := fun p hp =>
  (List.mem_cons.mp hp).elim (fun q => q ▸ N x hx) fun q => N p (hs p q)

end
section
theorem kw_SP : True := by
  w_top off
  k_with_none
  k_with "MY room" => (first
      | ((try simp only [depth_under_make, depth_under_kw, depth_in1, depth_deeper, depth_caller, Around.mark]); (try dsimp only); omega)
      | ((try simp only [depth_under_make, depth_under_kw, depth_in1, depth_deeper, depth_caller, Around.mark]); (try dsimp only); simp only [recursionLimit] at *; omega))
  k_with "MY units" => ((have hcL9_k := cLine_is; (try simp only [units_in1, units_deeper, Around.mark_units, units_caller]); (try dsimp only); omega))
  k_with "MY enter" => ((refine wpAny_call ?_; k_dflt (refine' code_def ?k1 ?k2 ?k3 ?k4 ?k5 ?kA ?kF ?kK ?k6 ?k7 ?k8 ?k9 ?kB ?_ ?c2 ?c3 ?c4 ?c5; (case kA => exact rfl); (case kF => first | exact rfl | assumption); (case kK => first | exact rfl | assumption); (case k1 => k_asm); (case k2 => k_asm); (case k3 => k_asm); (case k4 => k_asm); (case k5 => k_asm); (case k6 => k_is); (case k7 => k_is); (case k8 => walk_at "MY room"); (case k9 => exact BindsTo.of_eq rfl); (case c5 => decide); (case kB => exact locs rfl); (case c2 => exact rfl); (case c3 => exact rfl); (case c4 => exact rfl); k_whole; intro g'_k L'_k h'_k FG'_k F'_k N'_k B'_k X'_k T'_k; (try dsimp only); (try k_lift B'_k); (try k_fold))))
  k_with "MY here" => ((refine' Here.mk ⟨_, ?h1⟩ ?h2 ?h3 ?h4 ⟨_, _, _, ?h5⟩ ?h6 ?h7 ?h8 ?h9 ?h10 ?h11; (case h6 => exact rfl); (case h1 => k_asm); (case h2 => k_asm); (case h3 => k_asm); (case h4 => k_asm); (case h5 => k_asm); (case h7 => first | exact rfl | assumption); (case h8 => first | exact rfl | assumption); (case h9 => exact rfl); (case h10 => walk_at "MY room"); (case h11 => walk_at "MY units")))
  k_with "MY sub" => ((intro p'_k hp'_k; first | exact hp'_k | (repeat (first | exact hp'_k | refine List.Mem.tail _ ?_))))
  k_with "MY fresh" => (first | assumption | (refine lt_of_all ?_; first | assumption | exact And.right (by assumption) | exact And.right (And.right (by assumption)) | exact And.right (And.right (And.right (by assumption))) | exact And.right (And.right (And.right (And.right (by assumption)))) | exact And.right (And.right (And.right (And.right (And.right (by assumption))))) | exact And.right (And.right (And.right (And.right (And.right (And.right (by assumption)))))) | exact And.right (And.right (And.right (And.right (And.right (And.right (And.right (by assumption)))))))))
  k_with "MY enterG" => ((refine wpAny_call ?_; k_dflt (refine' code_defG ?k1 ?k2 ?k3 ?k4 ?k5 ?kA ?kF ?kK ?k6 ?k7 ?k8 ?k9 ?kB ?_ ?c2 ?c3 ?c4 ?c5; (case kA => exact rfl); (case kF => first | exact rfl | assumption); (case kK => first | exact rfl | assumption); (case k1 => k_asm); (case k2 => k_asm); (case k3 => k_asm); (case k4 => k_asm); (case k5 => k_asm); (case k6 => k_is); (case k7 => k_is); (case k8 => walk_at "MY room"); (case k9 => exact BindsTo.of_eq rfl); (case c5 => decide); (case kB => exact locs rfl); (case c2 => exact rfl); (case c3 => exact rfl); (case c4 => exact rfl); k_whole; intro g'_k L'_k h'_k FG'_k F'_k N'_k B'_k X'_k T'_k kG'_k; (try dsimp only); (try k_lift B'_k); (try k_fold))))
  k_with "MY kept" => ((rename GSub _ _ _ => kG9_k; exact elt_after (InElt.start _) kG9_k (by assumption) (by assumption) (by assumption) (by walk_at "MY sub")))
  k_with "MY subr" => ((intro p'_k hp'_k; first | exact hp'_k | (repeat (first | exact hp'_k | exact List.mem_append_left _ hp'_k | exact List.mem_append_right _ hp'_k | refine List.Mem.tail _ ?_))))
  k_with "MY same" => ((intro z_k h1_k h2_k h3_k; first
      | rfl
      | ((try simp only [List.contains_cons, List.contains_nil, Bool.or_false, Bool.or_eq_false_iff, beq_eq_false_iff_ne, ne_eq] at h3_k); (simp [h1_k, h2_k, h3_k]; done))))
  k_with "MY enterC" => ((refine wpAny_call ?_; k_dflt (refine' code_defC ?k1 ?k2 ?k3 ?k4 ?k5 ?kA ?kF ?kK ?k6 ?k7 ?k8 ?k9 ?kB ?kD ?_ ?c2 ?c3 ?c4; (case kA => exact rfl); (case kF => first | exact rfl | assumption); (case kK => first | exact rfl | assumption); (case k1 => k_asm); (case k2 => k_asm); (case k3 => k_asm); (case k4 => k_asm); (case k5 => k_asm); (case k6 => k_is); (case k7 => k_is); (case k8 => walk_at "MY room"); (case k9 => exact BindsTo.of_eq rfl); (case kB => exact rfl); (case kD => decide +kernel); (case c2 => exact rfl); (case c3 => exact rfl); (case c4 => exact rfl); k_whole; intro g'_k L'_k h'_k tk'_k cells'_k FG'_k F'_k N'_k Y'_k B'_k X'_k T'_k l1_k; (try k_lt l1_k); k_cells Y'_k; (try simp only [List.cons_append, List.nil_append] at N'_k); (try dsimp only); (try k_lift B'_k); (try k_fold))))
  k_with "MY enterT" => ((refine wpAny_call ?_; k_dflt (refine' code_defT ?k1 ?k2 ?k3 ?k4 ?k5 ?kA ?kF ?kK ?k6 ?k7 ?k8 ?k9 ?kB ?_ ?c2 ?c3 ?c4 ?c5; (case kA => exact rfl); (case kF => first | exact rfl | assumption); (case kK => first | exact rfl | assumption); (case k1 => k_asm); (case k2 => k_asm); (case k3 => k_asm); (case k4 => k_asm); (case k5 => k_asm); (case k6 => k_is); (case k7 => k_is); (case k8 => walk_at "MY room"); (case k9 => exact BindsTo.of_eq rfl); (case c5 => decide); (case kB => exact locs rfl); (case c2 => exact rfl); (case c3 => exact rfl); (case c4 => exact rfl); k_whole; intro g'_k L'_k h'_k FG'_k F'_k N'_k B'_k X'_k T'_k; (try dsimp only); (try k_lift B'_k); (try k_fold))))
  trivial
def loU (u : Nat) : Bool := decide (56320 ≤ u) && decide (u ≤ 57343)
def hiU (u : Nat) : Bool := decide (55296 ≤ u) && decide (u ≤ 56319)
/-- the sign that begins a text, if no half stands alone there -/
def signAtS : List Nat → Option Nat
  | [] => none
  | u :: r => if loU u then none else if hiU u then (match r with
      | [] => none
      | v :: _ => if loU v then some ((u - 55296) * 1024 + (v - 56320) + 65536) else none) else some u
theorem loU_iff {u : Nat} : loU u = true ↔ 56320 ≤ u ∧ u ≤ 57343 := by simp [loU]
theorem hiU_iff {u : Nat} : hiU u = true ↔ 55296 ≤ u ∧ u ≤ 56319 := by simp [hiU]
theorem at_mid {p : List Nat} {c : Nat} {r : List Nat} : (p ++ c :: r)[p.length]? = some c := by simp
theorem at_mid1 {p : List Nat} {c d : Nat} {r : List Nat} : (p ++ c :: d :: r)[p.length + 1]? = some d := by
  k_with "MY body" =>
    rw [List.getElem?_append_right (by omega)]; simp
  run_tac go
theorem item0 {l p : List Nat} {c : Nat} {r : List Nat} {x : Int} (hl : l = p ++ c :: r) (hx : x = (p.length : Nat)) : Txt.item (S l) x = S [c] := item_S hx (by rw [hl]; exact at_mid)
theorem item1 {l p : List Nat} {c d : Nat} {r : List Nat} {x : Int} (hl : l = p ++ c :: d :: r) (hx : x = (p.length : Nat)) : Txt.item (S l) (x + 1) = S [d] := item_S (k := p.length + 1) (by omega) (by rw [hl]; exact at_mid1)
theorem code_S (c : Nat) : (S [c]).cps.getD 0 0 = c := rfl
theorem sa_lo {c : Nat} {r : List Nat} (h : 56320 ≤ c ∧ c ≤ 57343) : signAtS (c :: r) = none := by
  k_with "MY body" =>
    simp [signAtS, loU_iff.mpr h]
  run_tac go
theorem sa_end {c : Nat} (h : 55296 ≤ c ∧ c ≤ 56319) : signAtS [c] = none := by
  k_with "MY body" =>
    have : loU c = false := by rw [Bool.eq_false_iff]; intro q; have := loU_iff.mp q; omega
    simp [signAtS, this, hiU_iff.mpr h]
  run_tac go
theorem sa_pair {c d : Nat} {r : List Nat} (h : 55296 ≤ c ∧ c ≤ 56319) (g : 56320 ≤ d ∧ d ≤ 57343) : signAtS (c :: d :: r) = some ((c - 55296) * 1024 + (d - 56320) + 65536) := by
  k_with "MY body" =>
    have : loU c = false := by rw [Bool.eq_false_iff]; intro q; have := loU_iff.mp q; omega
    simp [signAtS, this, hiU_iff.mpr h, loU_iff.mpr g]
  run_tac go
theorem sa_bad {c d : Nat} {r : List Nat} (h : 55296 ≤ c ∧ c ≤ 56319) (g : ¬ (56320 ≤ d ∧ d ≤ 57343)) : signAtS (c :: d :: r) = none := by
  k_with "MY body" =>
    have : loU c = false := by rw [Bool.eq_false_iff]; intro q; have := loU_iff.mp q; omega
    have e : loU d = false := by rw [Bool.eq_false_iff]; intro q; exact g (loU_iff.mp q)
    simp [signAtS, this, hiU_iff.mpr h, e]
  run_tac go
theorem sa_one {c : Nat} {r : List Nat} (h : ¬ (56320 ≤ c ∧ c ≤ 57343)) (g : ¬ (55296 ≤ c ∧ c ≤ 56319)) : signAtS (c :: r) = some c := by
  k_with "MY body" =>
    have e : loU c = false := by rw [Bool.eq_false_iff]; intro q; exact h (loU_iff.mp q)
    have e' : hiU c = false := by rw [Bool.eq_false_iff]; intro q; exact g (hiU_iff.mp q)
    simp [signAtS, e, e']
  run_tac go
/-- a text told by octets, but for the kept signs; none: half a sign stands alone -/
def encS (kp : List Nat) : List Nat → Option (List Nat)
  | [] => some []
  | c :: r => if c ∈ kp then (encS kp r).map (c :: ·) else match signAtS (c :: r) with
    | none => none
    | some sg => (encS kp (if 65536 ≤ sg then r.tail else r)).map ((octs sg).flatMap octT ++ ·)
  termination_by l => l.length
  decreasing_by
    · simp
    · split <;> simp <;> omega

end
section
theorem kw_F1 : True := by
  w_top off
  k_with_none
  k_with "MY room" => (first
      | ((try simp only [depth_under_make, depth_under_kw, depth_in1, depth_deeper, depth_caller, Around.mark]); (try dsimp only); omega)
      | ((try simp only [depth_under_make, depth_under_kw, depth_in1, depth_deeper, depth_caller, Around.mark]); (try dsimp only); simp only [recursionLimit] at *; omega))
  k_with "MY units" => ((have hcL9_k := cLine_is; (try simp only [units_in1, units_deeper, Around.mark_units, units_caller]); (try dsimp only); omega))
  k_with "MY enter" => ((refine wpAny_call ?_; k_dflt (refine' code_def ?k1 ?k2 ?k3 ?k4 ?k5 ?kA ?kF ?kK ?k6 ?k7 ?k8 ?k9 ?kB ?_ ?c2 ?c3 ?c4 ?c5; (case kA => exact rfl); (case kF => first | exact rfl | assumption); (case kK => first | exact rfl | assumption); (case k1 => k_asm); (case k2 => k_asm); (case k3 => k_asm); (case k4 => k_asm); (case k5 => k_asm); (case k6 => k_is); (case k7 => k_is); (case k8 => walk_at "MY room"); (case k9 => exact BindsTo.of_eq rfl); (case c5 => decide); (case kB => exact locs rfl); (case c2 => exact rfl); (case c3 => exact rfl); (case c4 => exact rfl); k_whole; intro g'_k L'_k h'_k FG'_k F'_k N'_k B'_k X'_k T'_k; (try dsimp only); (try k_lift B'_k); (try k_fold))))
  k_with "MY here" => ((refine' Here.mk ⟨_, ?h1⟩ ?h2 ?h3 ?h4 ⟨_, _, _, ?h5⟩ ?h6 ?h7 ?h8 ?h9 ?h10 ?h11; (case h6 => exact rfl); (case h1 => k_asm); (case h2 => k_asm); (case h3 => k_asm); (case h4 => k_asm); (case h5 => k_asm); (case h7 => first | exact rfl | assumption); (case h8 => first | exact rfl | assumption); (case h9 => exact rfl); (case h10 => walk_at "MY room"); (case h11 => walk_at "MY units")))
  k_with "MY sub" => ((intro p'_k hp'_k; first | exact hp'_k | (repeat (first | exact hp'_k | refine List.Mem.tail _ ?_))))
  k_with "MY fresh" => (first | assumption | (refine lt_of_all ?_; first | assumption | exact And.right (by assumption) | exact And.right (And.right (by assumption)) | exact And.right (And.right (And.right (by assumption))) | exact And.right (And.right (And.right (And.right (by assumption)))) | exact And.right (And.right (And.right (And.right (And.right (by assumption))))) | exact And.right (And.right (And.right (And.right (And.right (And.right (by assumption)))))) | exact And.right (And.right (And.right (And.right (And.right (And.right (And.right (by assumption)))))))))
  k_with "MY enterG" => ((refine wpAny_call ?_; k_dflt (refine' code_defG ?k1 ?k2 ?k3 ?k4 ?k5 ?kA ?kF ?kK ?k6 ?k7 ?k8 ?k9 ?kB ?_ ?c2 ?c3 ?c4 ?c5; (case kA => exact rfl); (case kF => first | exact rfl | assumption); (case kK => first | exact rfl | assumption); (case k1 => k_asm); (case k2 => k_asm); (case k3 => k_asm); (case k4 => k_asm); (case k5 => k_asm); (case k6 => k_is); (case k7 => k_is); (case k8 => walk_at "MY room"); (case k9 => exact BindsTo.of_eq rfl); (case c5 => decide); (case kB => exact locs rfl); (case c2 => exact rfl); (case c3 => exact rfl); (case c4 => exact rfl); k_whole; intro g'_k L'_k h'_k FG'_k F'_k N'_k B'_k X'_k T'_k kG'_k; (try dsimp only); (try k_lift B'_k); (try k_fold))))
  k_with "MY kept" => ((rename GSub _ _ _ => kG9_k; exact elt_after (InElt.start _) kG9_k (by assumption) (by assumption) (by assumption) (by walk_at "MY sub")))
  k_with "MY subr" => ((intro p'_k hp'_k; first | exact hp'_k | (repeat (first | exact hp'_k | exact List.mem_append_left _ hp'_k | exact List.mem_append_right _ hp'_k | refine List.Mem.tail _ ?_))))
  k_with "MY same" => ((intro z_k h1_k h2_k h3_k; first
      | rfl
      | ((try simp only [List.contains_cons, List.contains_nil, Bool.or_false, Bool.or_eq_false_iff, beq_eq_false_iff_ne, ne_eq] at h3_k); (simp [h1_k, h2_k, h3_k]; done))))
  k_with "MY enterC" => ((refine wpAny_call ?_; k_dflt (refine' code_defC ?k1 ?k2 ?k3 ?k4 ?k5 ?kA ?kF ?kK ?k6 ?k7 ?k8 ?k9 ?kB ?kD ?_ ?c2 ?c3 ?c4; (case kA => exact rfl); (case kF => first | exact rfl | assumption); (case kK => first | exact rfl | assumption); (case k1 => k_asm); (case k2 => k_asm); (case k3 => k_asm); (case k4 => k_asm); (case k5 => k_asm); (case k6 => k_is); (case k7 => k_is); (case k8 => walk_at "MY room"); (case k9 => exact BindsTo.of_eq rfl); (case kB => exact rfl); (case kD => decide +kernel); (case c2 => exact rfl); (case c3 => exact rfl); (case c4 => exact rfl); k_whole; intro g'_k L'_k h'_k tk'_k cells'_k FG'_k F'_k N'_k Y'_k B'_k X'_k T'_k l1_k; (try k_lt l1_k); k_cells Y'_k; (try simp only [List.cons_append, List.nil_append] at N'_k); (try dsimp only); (try k_lift B'_k); (try k_fold))))
  k_with "MY enterT" => ((refine wpAny_call ?_; k_dflt (refine' code_defT ?k1 ?k2 ?k3 ?k4 ?k5 ?kA ?kF ?kK ?k6 ?k7 ?k8 ?k9 ?kB ?_ ?c2 ?c3 ?c4 ?c5; (case kA => exact rfl); (case kF => first | exact rfl | assumption); (case kK => first | exact rfl | assumption); (case k1 => k_asm); (case k2 => k_asm); (case k3 => k_asm); (case k4 => k_asm); (case k5 => k_asm); (case k6 => k_is); (case k7 => k_is); (case k8 => walk_at "MY room"); (case k9 => exact BindsTo.of_eq rfl); (case c5 => decide); (case kB => exact locs rfl); (case c2 => exact rfl); (case c3 => exact rfl); (case c4 => exact rfl); k_whole; intro g'_k L'_k h'_k FG'_k F'_k N'_k B'_k X'_k T'_k; (try dsimp only); (try k_lift B'_k); (try k_fold))))
  trivial
section
variable {w : World} {A : Around} {h₀ : Heap} {L : Addr} {m : Str → Option Value} {s : Shared} {news : List (Addr × Obj)} {base : Heap} {env : Env} {outer : List Env} {Q E : Value → Shared → Prop}
set_option maxRecDepth 100000 in
set_option maxHeartbeats 8000000 in
theorem high_ok (x : Int) (t : Tok) (H : Here w A h₀ L m s news base env outer 1)
    (ret : ∀ v h' tk', v = .bool (decide (55296 ≤ x ∧ x ≤ 56319)) → Fr h₀ L h' m → News h₀ L h' news → Q v { s with heap := h', toks := tk' }) :
    wpAny (model PySem.Challenge.rw_nt0345_01.row.prog w) A (call (.ref 49) [.int x t]) Q E s := by
  k_with "MY body" =>
    refine H.lit (P := fun A => wpAny _ A _ _ _ _) ?_
    k_fill
    clear H
    intro dp un gd A₀ mean mg mb B F X N T loc kind room units
    walk_at "MY enter"
    k_steps
    all_goals (refine ret _ _ _ ?_ (by k_asm) (by k_asm); congr 1; simp only [decide_eq_decide]; omega)
  run_tac go
set_option maxRecDepth 100000 in
set_option maxHeartbeats 8000000 in
theorem low_ok (x : Int) (t : Tok) (H : Here w A h₀ L m s news base env outer 1)
    (ret : ∀ v h' tk', v = .bool (decide (56320 ≤ x ∧ x ≤ 57343)) → Fr h₀ L h' m → News h₀ L h' news → Q v { s with heap := h', toks := tk' }) :
    wpAny (model PySem.Challenge.rw_nt0345_01.row.prog w) A (call (.ref 56) [.int x t]) Q E s := by
  k_with "MY body" =>
    refine H.lit (P := fun A => wpAny _ A _ _ _ _) ?_
    k_fill
    clear H
    intro dp un gd A₀ mean mg mb B F X N T loc kind room units
    walk_at "MY enter"
    k_steps
    all_goals (refine ret _ _ _ ?_ (by k_asm) (by k_asm); congr 1; simp only [decide_eq_decide]; omega)
  run_tac go
set_option maxRecDepth 100000 in
set_option maxHeartbeats 8000000 in
theorem units_ok (x : Int) (t : Tok) (k : Nat) (hk : x = k) (hm : k ≤ 1114111)
    (H : Here w A h₀ L m s news base env outer 1)
    (ret : ∀ v h' tk', (∃ t, v = .str (S (unitsN k)) t) → Fr h₀ L h' m → News h₀ L h' news → Q v { s with heap := h', toks := tk' }) :
    wpAny (model PySem.Challenge.rw_nt0345_01.row.prog w) A (call (.ref 70) [.int x t]) Q E s := by
  k_with "MY body" =>
    refine H.lit (P := fun A => wpAny _ A _ _ _ _) ?_
    k_fill
    clear H
    intro dp un gd A₀ mean mg mb B F X N T loc kind room units
    have hq : 0 ≤ (x-65536).fdiv (2 ^ Int.toNat 10) ∨ x < 65536 := by rw [shr10]; omega
    have hq2 : (x-65536).fdiv (2 ^ Int.toNat 10) ≤ 1023 := by rw [shr10]; omega
    have hq3 : 0 ≤ Builtin.bitAnd (x-65536) 1023 := by rw [and1023]; omega
    have hq4 : Builtin.bitAnd (x-65536) 1023 ≤ 1023 := by rw [and1023]; omega
    walk_at "MY enter"
    k_steps
    · refine ret _ _ _ (isS ?_) (by k_asm) (by k_asm)
      rw [unitsN, if_pos (by omega)]; subst hk; rfl
    · refine ret _ _ _ (isS ?_) (by k_asm) (by k_asm)
      rw [unitsN, if_neg (by omega), shr10, and1023]
      show S _ ++ S _ = S _
      rw [S_app, List.singleton_append]
      have e1 : (55296 + (x - 65536) / 1024).toNat = 55296 + (k - 65536) / 1024 := by omega
      have e2 : (56320 + (x - 65536) % 1024).toNat = 56320 + (k - 65536) % 1024 := by omega
      rw [e1, e2]
  run_tac go
set_option maxRecDepth 100000 in
set_option maxHeartbeats 8000000 in
theorem otext_ok (x : Int) (t : Tok) (k : Nat) (hk : x = k) (hm : k < 256)
    (H : Here w A h₀ L m s news base env outer 1)
    (ret : ∀ v h' tk', (∃ t, v = .str (S (octT k)) t) → Fr h₀ L h' m → News h₀ L h' news → InElt s.heap h' → Q v { s with heap := h', toks := tk' }) :
    wpAny (model PySem.Challenge.rw_nt0345_01.row.prog w) A (call (.ref 77) [.int x t]) Q E s := by
  k_with "MY body" =>
    refine H.lit (P := fun A => wpAny _ A _ _ _ _) ?_
    k_fill
    clear H
    intro dp un gd A₀ mean mg mb B F X N T loc kind room units
    have hq : 0 ≤ x.fdiv (2 ^ Int.toNat 4) := by rw [shr4]; omega
    have hq2 : x.fdiv (2 ^ Int.toNat 4) ≤ 15 := by rw [shr4]; omega
    have hq3 : 0 ≤ Builtin.bitAnd x 15 := by rw [and15]; omega
    have hq4 : Builtin.bitAnd x 15 ≤ 15 := by rw [and15]; omega
    have hz : (Str.ofString "0123456789ABCDEF").length = 16 := by rw [hexS]; rfl
    walk_at "MY enterG"
    k_steps
    refine ret _ _ _ (isS ?_) (by k_asm) (by k_asm) (by walk_at "MY kept")
    rw [shr4, and15, hexS, pctS, item_S (k := k / 16) (by omega) (hex_at (by omega)), item_S (k := k % 16) (by omega) (hex_at (by omega)), S_app, S_app]
    rfl
  run_tac go
set_option maxRecDepth 100000 in
set_option maxHeartbeats 8000000 in
theorem ocount_ok (x : Int) (t : Tok) (k : Nat) (hk : x = k) 
    (H : Here w A h₀ L m s news base env outer 1)
    (ret : ∀ v h' tk', (∃ t, v = .int (ocount k) t) → Fr h₀ L h' m → News h₀ L h' news → Q v { s with heap := h', toks := tk' }) :
    wpAny (model PySem.Challenge.rw_nt0345_01.row.prog w) A (call (.ref 110) [.int x t]) Q E s := by
  k_with "MY body" =>
    refine H.lit (P := fun A => wpAny _ A _ _ _ _) ?_
    k_fill
    clear H
    intro dp un gd A₀ mean mg mb B F X N T loc kind room units
    walk_at "MY enter"
    k_steps
    all_goals (refine ret _ _ _ (isI ?_) (by k_asm) (by k_asm); unfold ocount; (repeat' split) <;> omega)
  run_tac go
end

end
section
theorem kw_E1 : True := by
  w_top off
  k_with_none
  k_with "MY room" => (first
      | ((try simp only [depth_under_make, depth_under_kw, depth_in1, depth_deeper, depth_caller, Around.mark]); (try dsimp only); omega)
      | ((try simp only [depth_under_make, depth_under_kw, depth_in1, depth_deeper, depth_caller, Around.mark]); (try dsimp only); simp only [recursionLimit] at *; omega))
  k_with "MY units" => ((have hcL9_k := cLine_is; (try simp only [units_in1, units_deeper, Around.mark_units, units_caller]); (try dsimp only); omega))
  k_with "MY enter" => ((refine wpAny_call ?_; k_dflt (refine' code_def ?k1 ?k2 ?k3 ?k4 ?k5 ?kA ?kF ?kK ?k6 ?k7 ?k8 ?k9 ?kB ?_ ?c2 ?c3 ?c4 ?c5; (case kA => exact rfl); (case kF => first | exact rfl | assumption); (case kK => first | exact rfl | assumption); (case k1 => k_asm); (case k2 => k_asm); (case k3 => k_asm); (case k4 => k_asm); (case k5 => k_asm); (case k6 => k_is); (case k7 => k_is); (case k8 => walk_at "MY room"); (case k9 => exact BindsTo.of_eq rfl); (case c5 => decide); (case kB => exact locs rfl); (case c2 => exact rfl); (case c3 => exact rfl); (case c4 => exact rfl); k_whole; intro g'_k L'_k h'_k FG'_k F'_k N'_k B'_k X'_k T'_k; (try dsimp only); (try k_lift B'_k); (try k_fold))))
  k_with "MY here" => ((refine' Here.mk ⟨_, ?h1⟩ ?h2 ?h3 ?h4 ⟨_, _, _, ?h5⟩ ?h6 ?h7 ?h8 ?h9 ?h10 ?h11; (case h6 => exact rfl); (case h1 => k_asm); (case h2 => k_asm); (case h3 => k_asm); (case h4 => k_asm); (case h5 => k_asm); (case h7 => first | exact rfl | assumption); (case h8 => first | exact rfl | assumption); (case h9 => exact rfl); (case h10 => walk_at "MY room"); (case h11 => walk_at "MY units")))
  k_with "MY sub" => ((intro p'_k hp'_k; first | exact hp'_k | (repeat (first | exact hp'_k | refine List.Mem.tail _ ?_))))
  k_with "MY fresh" => (first | assumption | (refine lt_of_all ?_; first | assumption | exact And.right (by assumption) | exact And.right (And.right (by assumption)) | exact And.right (And.right (And.right (by assumption))) | exact And.right (And.right (And.right (And.right (by assumption)))) | exact And.right (And.right (And.right (And.right (And.right (by assumption))))) | exact And.right (And.right (And.right (And.right (And.right (And.right (by assumption)))))) | exact And.right (And.right (And.right (And.right (And.right (And.right (And.right (by assumption)))))))))
  k_with "MY enterG" => ((refine wpAny_call ?_; k_dflt (refine' code_defG ?k1 ?k2 ?k3 ?k4 ?k5 ?kA ?kF ?kK ?k6 ?k7 ?k8 ?k9 ?kB ?_ ?c2 ?c3 ?c4 ?c5; (case kA => exact rfl); (case kF => first | exact rfl | assumption); (case kK => first | exact rfl | assumption); (case k1 => k_asm); (case k2 => k_asm); (case k3 => k_asm); (case k4 => k_asm); (case k5 => k_asm); (case k6 => k_is); (case k7 => k_is); (case k8 => walk_at "MY room"); (case k9 => exact BindsTo.of_eq rfl); (case c5 => decide); (case kB => exact locs rfl); (case c2 => exact rfl); (case c3 => exact rfl); (case c4 => exact rfl); k_whole; intro g'_k L'_k h'_k FG'_k F'_k N'_k B'_k X'_k T'_k kG'_k; (try dsimp only); (try k_lift B'_k); (try k_fold))))
  k_with "MY kept" => ((rename GSub _ _ _ => kG9_k; exact elt_after (InElt.start _) kG9_k (by assumption) (by assumption) (by assumption) (by walk_at "MY sub")))
  k_with "MY subr" => ((intro p'_k hp'_k; first | exact hp'_k | (repeat (first | exact hp'_k | exact List.mem_append_left _ hp'_k | exact List.mem_append_right _ hp'_k | refine List.Mem.tail _ ?_))))
  k_with "MY same" => ((intro z_k h1_k h2_k h3_k; first
      | rfl
      | ((try simp only [List.contains_cons, List.contains_nil, Bool.or_false, Bool.or_eq_false_iff, beq_eq_false_iff_ne, ne_eq] at h3_k); (simp [h1_k, h2_k, h3_k]; done))))
  k_with "MY enterC" => ((refine wpAny_call ?_; k_dflt (refine' code_defC ?k1 ?k2 ?k3 ?k4 ?k5 ?kA ?kF ?kK ?k6 ?k7 ?k8 ?k9 ?kB ?kD ?_ ?c2 ?c3 ?c4; (case kA => exact rfl); (case kF => first | exact rfl | assumption); (case kK => first | exact rfl | assumption); (case k1 => k_asm); (case k2 => k_asm); (case k3 => k_asm); (case k4 => k_asm); (case k5 => k_asm); (case k6 => k_is); (case k7 => k_is); (case k8 => walk_at "MY room"); (case k9 => exact BindsTo.of_eq rfl); (case kB => exact rfl); (case kD => decide +kernel); (case c2 => exact rfl); (case c3 => exact rfl); (case c4 => exact rfl); k_whole; intro g'_k L'_k h'_k tk'_k cells'_k FG'_k F'_k N'_k Y'_k B'_k X'_k T'_k l1_k; (try k_lt l1_k); k_cells Y'_k; (try simp only [List.cons_append, List.nil_append] at N'_k); (try dsimp only); (try k_lift B'_k); (try k_fold))))
  k_with "MY enterT" => ((refine wpAny_call ?_; k_dflt (refine' code_defT ?k1 ?k2 ?k3 ?k4 ?k5 ?kA ?kF ?kK ?k6 ?k7 ?k8 ?k9 ?kB ?_ ?c2 ?c3 ?c4 ?c5; (case kA => exact rfl); (case kF => first | exact rfl | assumption); (case kK => first | exact rfl | assumption); (case k1 => k_asm); (case k2 => k_asm); (case k3 => k_asm); (case k4 => k_asm); (case k5 => k_asm); (case k6 => k_is); (case k7 => k_is); (case k8 => walk_at "MY room"); (case k9 => exact BindsTo.of_eq rfl); (case c5 => decide); (case kB => exact locs rfl); (case c2 => exact rfl); (case c3 => exact rfl); (case c4 => exact rfl); k_whole; intro g'_k L'_k h'_k FG'_k F'_k N'_k B'_k X'_k T'_k; (try dsimp only); (try k_lift B'_k); (try k_fold))))
  trivial
/-- the exception e (a JSFail whose own dict is dx) in flight or held, over a base heap and the frames l -/
structure Fl (base : Heap) (l : List Env) (e dx : Addr) (fl : Value) (h : Heap) : Prop where
  stays : base.StaysIn h
  new : base.get? e = none
  frames : h.FunFrames base l
  exc : ∃ oe vs T oT ts, h.get? e = some oe ∧ oe.cls = .ref 31 ∧ oe.dict = some dx ∧ oe.data = .fields vs ∧ vs[1]? = some (.ref T) ∧ base.get? T = none ∧ T ≠ e ∧ h.get? T = some oT ∧ oT.data = .fields ts ∧ ts[3]? = some fl

section
variable {M : Model} {A : Around} {E : Value → Shared → Prop} {s : Shared} {base : Heap} {env : Env} {outer l : List Env} {L e dx : Addr} {Q : Unit → Shared → Prop}

theorem fl_entry {oe : Obj} {vs : Array Value} {head : Value} {hadNext : Bool}
    (hfr : A.frames = some (env :: outer)) (hl : s.heap.FunFrames base (env :: outer)) (hf : env.frame = some L)
    (he : s.heap.get? e = some oe) (hkb : base.StaysIn s.heap) (hen : base.get? e = none) (hc : oe.cls = .ref 31) (hdx : oe.dict = some dx) (hd : oe.data = .fields vs) (hsz : 1 < vs.size)
    (h : ∀ h', Fl base (env :: outer) e dx (rawInt L) h' → s.heap.UpToSlots h' → Q () { s with heap := h' }) :
    wpAny M A (do let a ← frameOf env; let pl ← entryPlaceOf L hadNext; let b ← EntryCells.newEntry head a .none (rawInt L) .none pl; setField (.ref e) 1 b) Q E s := by
  k_with "MY body" =>
    have notFrame : ∀ b, b ∈ (env :: outer).filterMap (·.frame) → base.get? b = none ∧ b ≠ e := fun b hb => by
      obtain ⟨h1, o, ho, hnf⟩ := hl.mem hb
      exact ⟨h1, fun q => by rw [q, he] at ho; cases ho; exact hnf vs hd⟩
    refine wpAny_bind (wpAny_frameOf_fun hfr hl hf fun h₁ hs₁ => ?_)
    refine wpAny_bind (wpAny_entryPlaceOf fun pl hpl => ?_)
    unfold EntryCells.newEntry newFields
    refine wpAny_bind (wpAny_newObj_type ?_ (hpl.sizeOk5 _ _ _ _ _))
    generalize hts : ([head, .ref L, .none, rawInt L, .none] ++ (if pl.isEmpty then List.replicate 6 Value.none else pl)).toArray = ts
    have hts3 : ts[3]? = some (rawInt L) := by rw [← hts]; simp
    have e1 : h₁.get? e = some oe := by rw [hs₁.2.1 e fun hm => (notFrame e hm).2 rfl]; exact he
    have e2 := Heap.get?_push_of_some (h := h₁) { cls := .type "traceback", dict := none, data := .fields ts } e1
    have ne : h₁.objs.size ≠ e := Nat.ne_of_gt (Heap.lt_size e1)
    refine wpAny_setField e2 hd hsz ?_
    have other : ∀ b o, b ≠ e → h₁.get? b = some o →
        ((h₁.push { cls := .type "traceback", dict := none, data := .fields ts }).update e (Obj.mapFields (·.setIfInBounds 1 (Value.ref h₁.objs.size)))).get? b = some o := fun b o hb ho => by
      rw [Heap.get?_update_other _ _ (Ne.symm hb)]; exact Heap.get?_push_of_some _ ho
    have upto : ∀ b o, b ≠ e → s.heap.get? b = some o →
        ∃ sl, ((h₁.push { cls := .type "traceback", dict := none, data := .fields ts }).update e (Obj.mapFields (·.setIfInBounds 1 (Value.ref h₁.objs.size)))).get? b = some { o with slots := sl } := fun b o hb ho => by
      obtain ⟨sl, q⟩ := hs₁.2.2 b o ho
      exact ⟨sl, other b _ hb q⟩
    have notE : ∀ b o, s.heap.get? b = some o → (∀ ws, o.data ≠ .fields ws) → b ≠ e := fun b o ho hn q => by
      rw [q, he] at ho; cases ho; exact hn vs hd
    have freshT : base.get? h₁.objs.size = none := by
      cases q : base.get? h₁.objs.size with
      | none => rfl
      | some o =>
        have q1 := hkb _ _ q
        have q2 : h₁.get? h₁.objs.size = some o := by
          rw [hs₁.2.1 _ fun hm => by rw [(notFrame _ hm).1] at q; cases q]; exact q1
        exact absurd (Heap.lt_size q2) (Nat.lt_irrefl _)
    have obj : ∀ d, oe.data = .fields d → Obj.mapFields (·.setIfInBounds 1 (Value.ref h₁.objs.size)) oe = { oe with data := .fields (d.setIfInBounds 1 (Value.ref h₁.objs.size)) } := fun d hd' => by
      obtain ⟨c, d0, dt, sl⟩ := oe
      cases hd'
      rfl
    have e3 := Heap.get?_update_self (Obj.mapFields (·.setIfInBounds 1 (Value.ref h₁.objs.size))) e2 (Obj.isFreed_of_fields (Obj.data_mapFields hd _))
    rw [obj vs hd] at e3
    refine h _ ⟨fun b o hb => ?_, hen, hl.of_keeps fun b o hb hn => ?_, ⟨_, _, h₁.objs.size, { cls := .type "traceback", dict := none, data := .fields ts }, ts, e3, hc, hdx, rfl, ?_, freshT, ne, ?_, rfl, hts3⟩⟩ fun b o hb hn => upto b o (notE b o hb hn) hb
    · refine other b o (fun q => by rw [q, hen] at hb; cases hb) ?_
      rw [hs₁.2.1 b fun hm => by rw [(notFrame b hm).1] at hb; cases hb]
      exact hkb b o hb
    · obtain ⟨sl, q⟩ := upto b o (notE b o hb hn) hb
      exact ⟨_, q, rfl⟩
    · simp [hsz]
    · rw [Heap.get?_update_other _ _ (Ne.symm ne)]
      exact Heap.get?_push_size h₁ rfl
  run_tac go
/-- the flight's mark is set anew -/
theorem fl_mark {fl : Value} (H : Fl base l e dx fl s.heap) (f : Option Addr)
    (h : ∀ h', Fl base l e dx (f.elim .none fun f => rawInt f) h' → s.heap.UpToSlots h' → Q () { s with heap := h' }) : wpAny M A (setFlight (.ref e) f) Q E s := by
  k_with "MY body" =>
    obtain ⟨st, new, fr, oe, vs, T, oT, ts, he, hc, hdx, hd, h1, hnT, hTe, hT, hdT, h3⟩ := H
    have hz : 3 < ts.size := (Array.getElem?_eq_some_iff.mp h3).1
    unfold setFlight
    refine wpAny_bind (wpAny_field he hd h1 ?_)
    rw [if_pos (show (Value.ref T != Value.none) = true from by simp)]
    refine wpAny_setField hT hdT hz ?_
    have other : ∀ b, b ≠ T → (s.heap.update T (Obj.mapFields (·.setIfInBounds 3 (f.elim Value.none fun f => rawInt f)))).get? b = s.heap.get? b := fun b hb => Heap.get?_update_other _ _ (Ne.symm hb)
    have notT : ∀ b o, s.heap.get? b = some o → (∀ ws, o.data ≠ .fields ws) → b ≠ T := fun b o ho hn q => by
      rw [q, hT] at ho; cases ho; exact hn ts hdT
    refine h _ ⟨fun b o hb => ?_, new, fr.of_keeps fun b o hb hn => ⟨o, (other b (notT b o hb hn)).trans hb, rfl⟩, ⟨oe, vs, T, _, _, (other e (Ne.symm hTe)).trans he, hc, hdx, hd, h1, hnT, hTe,
      Heap.get?_update_self _ hT (Obj.isFreed_of_fields (Obj.data_mapFields hdT _)), Obj.data_mapFields hdT _, by simp [hz]⟩⟩ fun b o hb hn => ⟨o.slots, (other b (notT b o hb hn)).trans hb⟩
    rw [other b fun q => by rw [q, hnT] at hb; cases hb]
    exact st b o hb
  run_tac go
theorem fl_note (H : Fl base (env :: outer) e dx .none s.heap) (hfr : A.frames = some (env :: outer)) (hf : env.frame = some L)
    (h : ∀ h', Fl base (env :: outer) e dx (rawInt L) h' → s.heap.UpToSlots h' → Q () { s with heap := h' }) : wpAny M A (noteFrame (.ref e) env) Q E s := by
  k_with "MY body" =>
    obtain ⟨st, new, fr, oe, vs, T, oT, ts, he, hc, hdx, hd, h1, hnT, hTe, hT, hdT, h3⟩ := H
    unfold noteFrame
    simp only [hf]
    refine wpAny_bind (wpAny_field he hd h1 ?_)
    rw [if_pos (show (Value.ref T != Value.none) = true from by simp)]
    refine wpAny_bind (wpAny_field hT hdT h3 ?_)
    rw [if_neg (show ¬ ((Value.none == rawInt L) = true) from by simp [rawInt])]
    refine wpAny_bind (wpAny_setField hT hdT (Array.getElem?_eq_some_iff.mp h3).1 ?_)
    have other : ∀ b, b ≠ T → (s.heap.update T (Obj.mapFields (·.setIfInBounds 3 Value.none))).get? b = s.heap.get? b := fun b hb => Heap.get?_update_other _ _ (Ne.symm hb)
    have notT : ∀ b o, s.heap.get? b = some o → (∀ ws, o.data ≠ .fields ws) → b ≠ T := fun b o ho hn q => by
      rw [q, hT] at ho; cases ho; exact hn ts hdT
    refine fl_entry (s := { s with heap := s.heap.update T (Obj.mapFields (·.setIfInBounds 3 Value.none)) }) hfr (fr.of_keeps fun b o hb hn => ⟨o, (other b (notT b o hb hn)).trans hb, rfl⟩) hf ((other e (Ne.symm hTe)).trans he)
      (fun b o hb => (other b fun q => by rw [q, hnT] at hb; cases hb).trans (st b o hb)) new hc hdx hd (Array.getElem?_eq_some_iff.mp h1).1 fun h' hF hu => h h' hF fun b o hb hn => hu b o ((other b (notT b o hb hn)).trans hb) hn
  run_tac go
theorem fl_first {oe : Obj} {vs : Array Value} (hfr : A.frames = some (env :: outer)) (hl : s.heap.FunFrames base (env :: outer)) (hf : env.frame = some L)
    (he : s.heap.get? e = some oe) (hkb : base.StaysIn s.heap) (hen : base.get? e = none) (hc : oe.cls = .ref 31) (hdx : oe.dict = some dx) (hd : oe.data = .fields vs) (h1 : vs[1]? = some .none)
    (h : ∀ h', Fl base (env :: outer) e dx (rawInt L) h' → s.heap.UpToSlots h' → Q () { s with heap := h' }) : wpAny M A (noteFrame (.ref e) env) Q E s := by
  k_with "MY body" =>
    unfold noteFrame
    simp only [hf]
    refine wpAny_bind (wpAny_field he hd h1 ?_)
    rw [if_neg (by decide)]
    exact fl_entry hfr hl hf he hkb hen hc hdx hd (Array.getElem?_eq_some_iff.mp h1).1 h
  run_tac go
theorem Fl.tail {fl : Value} {h : Heap} (H : Fl base (env :: outer) e dx fl h) : Fl base outer e dx fl h :=
  let ⟨st, new, ⟨_, _, fr⟩, x⟩ := H; ⟨st, new, fr, x⟩

theorem fl_leave (H : Fl base (env :: outer) e dx .none s.heap) (hfr : A.frames = some (env :: outer)) (hf : env.frame = some L)
    (h : ∀ h', Fl base outer e dx .none h' → s.heap.UpToSlots h' → Q () { s with heap := h' }) : wpAny M A (leaving env (.ref e)) Q E s := by
  k_with "MY body" =>
    unfold leaving
    refine wpAny_bind (fl_note H hfr hf fun h₁ H₁ u₁ => ?_)
    exact fl_mark (s := { s with heap := h₁ }) H₁ none fun h₂ H₂ u₂ => h h₂ H₂.tail (u₁.trans u₂)
  run_tac go
theorem fl_leave_first {oe : Obj} {vs : Array Value} (hfr : A.frames = some (env :: outer)) (hl : s.heap.FunFrames base (env :: outer)) (hf : env.frame = some L)
    (he : s.heap.get? e = some oe) (hkb : base.StaysIn s.heap) (hen : base.get? e = none) (hc : oe.cls = .ref 31) (hdx : oe.dict = some dx) (hd : oe.data = .fields vs) (h1 : vs[1]? = some .none)
    (h : ∀ h', Fl base outer e dx .none h' → s.heap.UpToSlots h' → Q () { s with heap := h' }) : wpAny M A (leaving env (.ref e)) Q E s := by
  k_with "MY body" =>
    unfold leaving
    refine wpAny_bind (fl_first hfr hl hf he hkb hen hc hdx hd h1 fun h₁ H₁ u₁ => ?_)
    exact fl_mark (s := { s with heap := h₁ }) H₁ none fun h₂ H₂ u₂ => h h₂ H₂.tail (u₁.trans u₂)
  run_tac go
end

end
section
theorem kw_E2 : True := by
  w_top off
  k_with_none
  k_with "MY room" => (first
      | ((try simp only [depth_under_make, depth_under_kw, depth_in1, depth_deeper, depth_caller, Around.mark]); (try dsimp only); omega)
      | ((try simp only [depth_under_make, depth_under_kw, depth_in1, depth_deeper, depth_caller, Around.mark]); (try dsimp only); simp only [recursionLimit] at *; omega))
  k_with "MY units" => ((have hcL9_k := cLine_is; (try simp only [units_in1, units_deeper, Around.mark_units, units_caller]); (try dsimp only); omega))
  k_with "MY enter" => ((refine wpAny_call ?_; k_dflt (refine' code_def ?k1 ?k2 ?k3 ?k4 ?k5 ?kA ?kF ?kK ?k6 ?k7 ?k8 ?k9 ?kB ?_ ?c2 ?c3 ?c4 ?c5; (case kA => exact rfl); (case kF => first | exact rfl | assumption); (case kK => first | exact rfl | assumption); (case k1 => k_asm); (case k2 => k_asm); (case k3 => k_asm); (case k4 => k_asm); (case k5 => k_asm); (case k6 => k_is); (case k7 => k_is); (case k8 => walk_at "MY room"); (case k9 => exact BindsTo.of_eq rfl); (case c5 => decide); (case kB => exact locs rfl); (case c2 => exact rfl); (case c3 => exact rfl); (case c4 => exact rfl); k_whole; intro g'_k L'_k h'_k FG'_k F'_k N'_k B'_k X'_k T'_k; (try dsimp only); (try k_lift B'_k); (try k_fold))))
  k_with "MY here" => ((refine' Here.mk ⟨_, ?h1⟩ ?h2 ?h3 ?h4 ⟨_, _, _, ?h5⟩ ?h6 ?h7 ?h8 ?h9 ?h10 ?h11; (case h6 => exact rfl); (case h1 => k_asm); (case h2 => k_asm); (case h3 => k_asm); (case h4 => k_asm); (case h5 => k_asm); (case h7 => first | exact rfl | assumption); (case h8 => first | exact rfl | assumption); (case h9 => exact rfl); (case h10 => walk_at "MY room"); (case h11 => walk_at "MY units")))
  k_with "MY sub" => ((intro p'_k hp'_k; first | exact hp'_k | (repeat (first | exact hp'_k | refine List.Mem.tail _ ?_))))
  k_with "MY fresh" => (first | assumption | (refine lt_of_all ?_; first | assumption | exact And.right (by assumption) | exact And.right (And.right (by assumption)) | exact And.right (And.right (And.right (by assumption))) | exact And.right (And.right (And.right (And.right (by assumption)))) | exact And.right (And.right (And.right (And.right (And.right (by assumption))))) | exact And.right (And.right (And.right (And.right (And.right (And.right (by assumption)))))) | exact And.right (And.right (And.right (And.right (And.right (And.right (And.right (by assumption)))))))))
  k_with "MY enterG" => ((refine wpAny_call ?_; k_dflt (refine' code_defG ?k1 ?k2 ?k3 ?k4 ?k5 ?kA ?kF ?kK ?k6 ?k7 ?k8 ?k9 ?kB ?_ ?c2 ?c3 ?c4 ?c5; (case kA => exact rfl); (case kF => first | exact rfl | assumption); (case kK => first | exact rfl | assumption); (case k1 => k_asm); (case k2 => k_asm); (case k3 => k_asm); (case k4 => k_asm); (case k5 => k_asm); (case k6 => k_is); (case k7 => k_is); (case k8 => walk_at "MY room"); (case k9 => exact BindsTo.of_eq rfl); (case c5 => decide); (case kB => exact locs rfl); (case c2 => exact rfl); (case c3 => exact rfl); (case c4 => exact rfl); k_whole; intro g'_k L'_k h'_k FG'_k F'_k N'_k B'_k X'_k T'_k kG'_k; (try dsimp only); (try k_lift B'_k); (try k_fold))))
  k_with "MY kept" => ((rename GSub _ _ _ => kG9_k; exact elt_after (InElt.start _) kG9_k (by assumption) (by assumption) (by assumption) (by walk_at "MY sub")))
  k_with "MY subr" => ((intro p'_k hp'_k; first | exact hp'_k | (repeat (first | exact hp'_k | exact List.mem_append_left _ hp'_k | exact List.mem_append_right _ hp'_k | refine List.Mem.tail _ ?_))))
  k_with "MY same" => ((intro z_k h1_k h2_k h3_k; first
      | rfl
      | ((try simp only [List.contains_cons, List.contains_nil, Bool.or_false, Bool.or_eq_false_iff, beq_eq_false_iff_ne, ne_eq] at h3_k); (simp [h1_k, h2_k, h3_k]; done))))
  k_with "MY enterC" => ((refine wpAny_call ?_; k_dflt (refine' code_defC ?k1 ?k2 ?k3 ?k4 ?k5 ?kA ?kF ?kK ?k6 ?k7 ?k8 ?k9 ?kB ?kD ?_ ?c2 ?c3 ?c4; (case kA => exact rfl); (case kF => first | exact rfl | assumption); (case kK => first | exact rfl | assumption); (case k1 => k_asm); (case k2 => k_asm); (case k3 => k_asm); (case k4 => k_asm); (case k5 => k_asm); (case k6 => k_is); (case k7 => k_is); (case k8 => walk_at "MY room"); (case k9 => exact BindsTo.of_eq rfl); (case kB => exact rfl); (case kD => decide +kernel); (case c2 => exact rfl); (case c3 => exact rfl); (case c4 => exact rfl); k_whole; intro g'_k L'_k h'_k tk'_k cells'_k FG'_k F'_k N'_k Y'_k B'_k X'_k T'_k l1_k; (try k_lt l1_k); k_cells Y'_k; (try simp only [List.cons_append, List.nil_append] at N'_k); (try dsimp only); (try k_lift B'_k); (try k_fold))))
  k_with "MY enterT" => ((refine wpAny_call ?_; k_dflt (refine' code_defT ?k1 ?k2 ?k3 ?k4 ?k5 ?kA ?kF ?kK ?k6 ?k7 ?k8 ?k9 ?kB ?_ ?c2 ?c3 ?c4 ?c5; (case kA => exact rfl); (case kF => first | exact rfl | assumption); (case kK => first | exact rfl | assumption); (case k1 => k_asm); (case k2 => k_asm); (case k3 => k_asm); (case k4 => k_asm); (case k5 => k_asm); (case k6 => k_is); (case k7 => k_is); (case k8 => walk_at "MY room"); (case k9 => exact BindsTo.of_eq rfl); (case c5 => decide); (case kB => exact locs rfl); (case c2 => exact rfl); (case c3 => exact rfl); (case c4 => exact rfl); k_whole; intro g'_k L'_k h'_k FG'_k F'_k N'_k B'_k X'_k T'_k; (try dsimp only); (try k_lift B'_k); (try k_fold))))
  trivial
theorem ns_some_of {K : Frag} {h : Heap} {N : Addr} {mg : Str → Option Value} {n : Str} {v : Value} (X : K.In h) (G : h.Ns N mg) (e : nsIn K N n = some (some v)) : mg n = some v := by
  k_with "MY body" =>
    obtain ⟨o, es, ep, ho, hd, _, hf⟩ := G
    unfold nsIn at e
    split at e
    · rename_i c d es' n' sl q
      have := X _ _ q
      rw [ho] at this
      cases this
      cases hd
      split at e
      · rename_i e' he
        rw [← hf]
        unfold nsFind findBy
        rw [← Array.find?_toList, he]
        exact congrArg some (Option.some.inj (Option.some.inj e))
      · split at e <;> cases e
    · cases e
  run_tac go
/-- what the frag tells of the class JSFail -/
structure JS (h : Heap) (mN : Str → Option Value) : Prop where
  obj : ∃ nm q bs sn sub ab col dd k0 k1 k2 k3 k5, h.get? 31 = some (excClassObj nm q 31 30 bs [.type "Exception", .type "BaseException", .type "object"] true sn sub ab col dd k0 k1 k2 k3 k5 "Exception.__new__")
  ns : h.Ns 30 mN
  init : mN "__init__" = some (.ref 28)
  nSet : mN "__setattr__" = none
  nKind : mN "kind" = none
  nText : mN "text" = none
  nGa : mN "__getattribute__" = none
  nGt : mN "__getattr__" = none
  fn : ∃ o, h.get? 28 = some o ∧ o.cls = .type "function"
set_option maxRecDepth 100000 in
theorem js_of {w : World} {h : Heap} (X : (hd.heap_39 w.params).In h) : JS h (h.nsMap 30) := by
  k_with "MY body" =>
    have hn : h.Ns 30 (h.nsMap 30) := .of_isNs (isNs_of_in X (by kernel_rfl))
    exact {
      obj := ⟨_, _, _, _, _, _, _, _, _, _, _, _, _, X 31 _ rfl⟩
      ns := hn
      init := ns_some_of X hn (by kernel_rfl)
      nSet := ns_none_of X hn (by kernel_rfl)
      nKind := ns_none_of X hn (by kernel_rfl)
      nText := ns_none_of X hn (by kernel_rfl)
      nGa := ns_none_of X hn (by kernel_rfl)
      nGt := ns_none_of X hn (by kernel_rfl)
      fn := ⟨_, X 28 _ rfl, rfl⟩ }
  run_tac go
section
open Builtin Builtin.ObjectAttr
variable {prog : Program} {w : World} {A : Around} {E : Value → Shared → Prop} {h : Heap} {g : Array GenState} {d : Drawn} {t : Nat} {os : OsState} {mN : Str → Option Value} {x : Addr} {o : Obj} {vs : Array Value} {name : Str} {v : Value}
set_option maxHeartbeats 4000000 in
theorem js_entry1 {tk : Tok} {Q : Fin → Shared → Prop} (J : JS h mN) (hna : mN name = none) (hB : typeLookup (.type "Exception") name = pure none)
    (hx : h.get? x = some o) (hc : o.cls = .ref 31) (hdn : o.dict = none) (hv : o.data = .fields vs)
    (hq : ∀ h' tk', h'.get? x = some { o with dict := some h.objs.size } → h'.Ns1 h.objs.size (fun y => if y = name then some v else none) →
      (∀ b o', b ≠ x → h.get? b = some o' → h'.get? b = some o') → Q (.done (.ret .none)) ⟨h', g, d, tk', os⟩) :
    wpAny (model prog w) A (Builtin.«object.__setattr__» ⟨[.ref x, .str name tk, v], []⟩) Q E ⟨h, g, d, t, os⟩ := by
  k_with "MY body" =>
    obtain ⟨nm, q, bs, sn, sub, ab, col, dd, k0, k1, k2, k3, k5, hC⟩ := J.obj
    have hn := J.ns
    have hpass := PySem.F.store_Exception.passes (.ref x)
    have hmro := PySem.F.store_Exception.mro
    unfold Builtin.«object.__setattr__»
    repeat (first | rw [refuse_eq] | (rw [refuseLoop_ref, hpass]) | (with_reducible refine wpAny_loadPart_at hx ?_; rw [hc]) | with_reducible refine wpAny_mroOf_exc hC ?_ | (with_reducible refine wpAny_typeLookup_exc hC hn hmro hB ?_; rw [hna]) | wp_step)
    rw [hdn, if_neg (by simp [typeHasDict])]
    split
    · rename_i hcd; cases hcd
    split
    · rename_i c hcd; rw [hv] at hcd; cases hcd
    · have hx₁ : (h.push { cls := .type "dict", data := .dict #[] }).get? x = some o := Heap.get?_push_of_some _ hx
      have hxs : x ≠ h.objs.size := Nat.ne_of_lt (Heap.lt_size hx)
      refine wpAny_bind (wpAny_alloc' (wpAny_bind (wpAny_update' hx₁ (wpAny_pure ?_))))
      have upd : ((h.push { cls := .type "dict", data := .dict #[] }).update x fun o => { o with dict := some h.objs.size }).get? x = some { o with dict := some h.objs.size } :=
        Heap.get?_update_self _ hx₁ (by obtain ⟨_, _, dt, _⟩ := o; cases hv; rfl)
      have hgd : ((h.push { cls := .type "dict", data := .dict #[] }).update x fun o => { o with dict := some h.objs.size }).get? h.objs.size = some { cls := .type "dict", data := .dict #[] } :=
        (Heap.get?_update_ne _ _ _ _ hxs.symm).trans (Heap.get?_push_at rfl rfl)
      have hnd : ((h.push { cls := .type "dict", data := .dict #[] }).update x fun o => { o with dict := some h.objs.size }).Ns h.objs.size (fun _ => none) := ⟨_, #[], _, hgd, rfl, fun e he => absurd he (by simp), fun _ => rfl⟩
      show wpAny _ _ (storeInDict h.objs.size (.str name tk) name v) _ _ _
      unfold storeInDict newKeyGuard
      refine wpAny_bind (wpAny_pure (wpAny_bind (wpAny_nsSet1 (Heap.Ns1.of_empty hnd) fun h' hn' hs => ?_)))
      obtain ⟨oD, esD, epD, hoD, hdD, hcD⟩ := hn'.count (Within.cons name v Within.nil)
      refine wpAny_bind (wpAny_lookBehind hoD (by rw [hdD]; exact pastItsLine_dict (Nat.le_trans hcD (by rw [List.length_cons, List.length_nil, sizeLine_eq]; omega))) ?_)
      wp_walk
      refine hq h' _ ((hs.2 x hxs).trans upd) hn' fun b ob hb ho => ?_
      exact (hs.2 b (Nat.ne_of_lt (Heap.lt_size ho))).trans ((Heap.get?_update_ne _ _ _ _ (Ne.symm (Ne.symm hb))).trans (Heap.get?_push_of_some _ ho))
  run_tac go
theorem js_call1 {tk : Tok} {R : Result → Shared → Prop} {sa owner : String} (SF : StoreFacts "Exception" [.type "Exception", .type "BaseException", .type "object"] sa owner) (J : JS h mN) (hna : mN name = none) (hB : typeLookup (.type "Exception") name = pure none)
    (hx : h.get? x = some o) (hc : o.cls = .ref 31) (hdn : o.dict = none) (hv : o.data = .fields vs)
    (hq : ∀ h' tk', h'.get? x = some { o with dict := some h.objs.size } → h'.Ns1 h.objs.size (fun y => if y = name then some v else none) →
      (∀ b o', b ≠ x → h.get? b = some o' → h'.get? b = some o') → R (.ok (.ret .none)) ⟨h', g, d, tk', os⟩) :
    codeAny (model prog w) A (.call (.builtin sa) ⟨[.ref x, .str name tk, v], []⟩) R ⟨h, g, d, t, os⟩ := by
  k_with "MY body" =>
    obtain ⟨nm, q, bs, sn, sub, ab, col, dd, k0, k1, k2, k3, k5, hC⟩ := id J.obj
    exact codeAny_call_builtin SF.slot.plain SF.entry (wpAny_check_sa SF hC hx hc (js_entry1 J hna hB hx hc hdn hv hq))
  run_tac go
set_option maxHeartbeats 4000000 in
theorem js_attr1 {Q : Unit → Shared → Prop} (J : JS h mN) (hna : mN name = none) (hB : typeLookup (.type "Exception") name = pure none)
    (hx : h.get? x = some o) (hc : o.cls = .ref 31) (hdn : o.dict = none) (hv : o.data = .fields vs)
    (hq : ∀ h' tk', h'.get? x = some { o with dict := some h.objs.size } → h'.Ns1 h.objs.size (fun y => if y = name then some v else none) →
      (∀ b o', b ≠ x → h.get? b = some o' → h'.get? b = some o') → Q () ⟨h', g, d, tk', os⟩) :
    wpAny (model prog w) A (setAttr (.ref x) name v) Q E ⟨h, g, d, t, os⟩ := by
  k_with "MY body" =>
    obtain ⟨nm, q, bs, sn, sub, ab, col, dd, k0, k1, k2, k3, k5, hC⟩ := id J.obj
    have SF := PySem.F.store_Exception
    have hn := J.ns
    have hns := J.nSet
    have f3 := SF.slot.bind (.ref x)
    unfold setAttr callSpecial? specialOf
    repeat (any_goals (first | assumption | (with_reducible refine wpAny_loadPart_at hx ?_; rw [hc]) | (with_reducible refine wpAny_typeLookup_exc hC hn SF.mro SF.slot.lookup ?_; rw [hns]) | wp_step))
    refine js_call1 SF J hna hB hx hc hdn hv fun h' tk' a b c => ?_
    repeat (any_goals (first | assumption | wp_step))
    exact hq h' tk' a b c
  run_tac go
end
theorem lk_kind : typeLookup (.type "Exception") "kind" = pure none := by rw [typeLookup_type, builtinLookup_eq_fast]; kernel_rfl
theorem lk_text : typeLookup (.type "Exception") "text" = pure none := by rw [typeLookup_type, builtinLookup_eq_fast]; kernel_rfl

end
section
theorem kw_E3 : True := by
  w_top off
  k_with_none
  k_with "MY room" => (first
      | ((try simp only [depth_under_make, depth_under_kw, depth_in1, depth_deeper, depth_caller, Around.mark]); (try dsimp only); omega)
      | ((try simp only [depth_under_make, depth_under_kw, depth_in1, depth_deeper, depth_caller, Around.mark]); (try dsimp only); simp only [recursionLimit] at *; omega))
  k_with "MY units" => ((have hcL9_k := cLine_is; (try simp only [units_in1, units_deeper, Around.mark_units, units_caller]); (try dsimp only); omega))
  k_with "MY enter" => ((refine wpAny_call ?_; k_dflt (refine' code_def ?k1 ?k2 ?k3 ?k4 ?k5 ?kA ?kF ?kK ?k6 ?k7 ?k8 ?k9 ?kB ?_ ?c2 ?c3 ?c4 ?c5; (case kA => exact rfl); (case kF => first | exact rfl | assumption); (case kK => first | exact rfl | assumption); (case k1 => k_asm); (case k2 => k_asm); (case k3 => k_asm); (case k4 => k_asm); (case k5 => k_asm); (case k6 => k_is); (case k7 => k_is); (case k8 => walk_at "MY room"); (case k9 => exact BindsTo.of_eq rfl); (case c5 => decide); (case kB => exact locs rfl); (case c2 => exact rfl); (case c3 => exact rfl); (case c4 => exact rfl); k_whole; intro g'_k L'_k h'_k FG'_k F'_k N'_k B'_k X'_k T'_k; (try dsimp only); (try k_lift B'_k); (try k_fold))))
  k_with "MY here" => ((refine' Here.mk ⟨_, ?h1⟩ ?h2 ?h3 ?h4 ⟨_, _, _, ?h5⟩ ?h6 ?h7 ?h8 ?h9 ?h10 ?h11; (case h6 => exact rfl); (case h1 => k_asm); (case h2 => k_asm); (case h3 => k_asm); (case h4 => k_asm); (case h5 => k_asm); (case h7 => first | exact rfl | assumption); (case h8 => first | exact rfl | assumption); (case h9 => exact rfl); (case h10 => walk_at "MY room"); (case h11 => walk_at "MY units")))
  k_with "MY sub" => ((intro p'_k hp'_k; first | exact hp'_k | (repeat (first | exact hp'_k | refine List.Mem.tail _ ?_))))
  k_with "MY fresh" => (first | assumption | (refine lt_of_all ?_; first | assumption | exact And.right (by assumption) | exact And.right (And.right (by assumption)) | exact And.right (And.right (And.right (by assumption))) | exact And.right (And.right (And.right (And.right (by assumption)))) | exact And.right (And.right (And.right (And.right (And.right (by assumption))))) | exact And.right (And.right (And.right (And.right (And.right (And.right (by assumption)))))) | exact And.right (And.right (And.right (And.right (And.right (And.right (And.right (by assumption)))))))))
  k_with "MY enterG" => ((refine wpAny_call ?_; k_dflt (refine' code_defG ?k1 ?k2 ?k3 ?k4 ?k5 ?kA ?kF ?kK ?k6 ?k7 ?k8 ?k9 ?kB ?_ ?c2 ?c3 ?c4 ?c5; (case kA => exact rfl); (case kF => first | exact rfl | assumption); (case kK => first | exact rfl | assumption); (case k1 => k_asm); (case k2 => k_asm); (case k3 => k_asm); (case k4 => k_asm); (case k5 => k_asm); (case k6 => k_is); (case k7 => k_is); (case k8 => walk_at "MY room"); (case k9 => exact BindsTo.of_eq rfl); (case c5 => decide); (case kB => exact locs rfl); (case c2 => exact rfl); (case c3 => exact rfl); (case c4 => exact rfl); k_whole; intro g'_k L'_k h'_k FG'_k F'_k N'_k B'_k X'_k T'_k kG'_k; (try dsimp only); (try k_lift B'_k); (try k_fold))))
  k_with "MY kept" => ((rename GSub _ _ _ => kG9_k; exact elt_after (InElt.start _) kG9_k (by assumption) (by assumption) (by assumption) (by walk_at "MY sub")))
  k_with "MY subr" => ((intro p'_k hp'_k; first | exact hp'_k | (repeat (first | exact hp'_k | exact List.mem_append_left _ hp'_k | exact List.mem_append_right _ hp'_k | refine List.Mem.tail _ ?_))))
  k_with "MY same" => ((intro z_k h1_k h2_k h3_k; first
      | rfl
      | ((try simp only [List.contains_cons, List.contains_nil, Bool.or_false, Bool.or_eq_false_iff, beq_eq_false_iff_ne, ne_eq] at h3_k); (simp [h1_k, h2_k, h3_k]; done))))
  k_with "MY enterC" => ((refine wpAny_call ?_; k_dflt (refine' code_defC ?k1 ?k2 ?k3 ?k4 ?k5 ?kA ?kF ?kK ?k6 ?k7 ?k8 ?k9 ?kB ?kD ?_ ?c2 ?c3 ?c4; (case kA => exact rfl); (case kF => first | exact rfl | assumption); (case kK => first | exact rfl | assumption); (case k1 => k_asm); (case k2 => k_asm); (case k3 => k_asm); (case k4 => k_asm); (case k5 => k_asm); (case k6 => k_is); (case k7 => k_is); (case k8 => walk_at "MY room"); (case k9 => exact BindsTo.of_eq rfl); (case kB => exact rfl); (case kD => decide +kernel); (case c2 => exact rfl); (case c3 => exact rfl); (case c4 => exact rfl); k_whole; intro g'_k L'_k h'_k tk'_k cells'_k FG'_k F'_k N'_k Y'_k B'_k X'_k T'_k l1_k; (try k_lt l1_k); k_cells Y'_k; (try simp only [List.cons_append, List.nil_append] at N'_k); (try dsimp only); (try k_lift B'_k); (try k_fold))))
  k_with "MY enterT" => ((refine wpAny_call ?_; k_dflt (refine' code_defT ?k1 ?k2 ?k3 ?k4 ?k5 ?kA ?kF ?kK ?k6 ?k7 ?k8 ?k9 ?kB ?_ ?c2 ?c3 ?c4 ?c5; (case kA => exact rfl); (case kF => first | exact rfl | assumption); (case kK => first | exact rfl | assumption); (case k1 => k_asm); (case k2 => k_asm); (case k3 => k_asm); (case k4 => k_asm); (case k5 => k_asm); (case k6 => k_is); (case k7 => k_is); (case k8 => walk_at "MY room"); (case k9 => exact BindsTo.of_eq rfl); (case c5 => decide); (case kB => exact locs rfl); (case c2 => exact rfl); (case c3 => exact rfl); (case c4 => exact rfl); k_whole; intro g'_k L'_k h'_k FG'_k F'_k N'_k B'_k X'_k T'_k; (try dsimp only); (try k_lift B'_k); (try k_fold))))
  trivial
section
variable {prog : Program} {w : World} {A : Around} {E : Value → Shared → Prop} {s : Shared} {g : Heap} {L e dx : Addr} {m mN : Str → Option Value} {news : List (Addr × Obj)} {oe od : Obj} {vs : Array Value} {name : Str} {v : Value} {Q : Unit → Shared → Prop}
theorem js_set1 (J : JS s.heap mN) (F : Fr g L s.heap m) (N : News g L s.heap ((e, oe) :: news)) (hne : ∀ p ∈ news, p.1 ≠ e) (hc : oe.cls = .ref 31) (hdn : oe.dict = none) (hv : oe.data = .fields vs)
    (hna : mN name = none) (hB : typeLookup (.type "Exception") name = pure none)
    (k : ∀ h' tk' dx od, Fr g L h' m → News g L h' ((dx, od) :: (e, { oe with dict := some dx }) :: news) → (∀ p ∈ (e, oe) :: news, p.1 < dx) → h'.Ns1 dx (fun y => if y = name then some v else none) → Q () { s with heap := h', toks := tk' }) :
    wpAny (model prog w) A (setAttr (.ref e) name v) Q E s := by
  k_with "MY body" =>
    obtain ⟨h, gn, d, t, os⟩ := s
    have De := N (e, oe) (.head _)
    refine js_attr1 J hna hB De.1 hc hdn hv fun h' tk' hx hns hk => ?_
    obtain ⟨od, es, ep, hod, hns'⟩ := id hns
    have hle : e ≠ h.objs.size := Nat.ne_of_lt (Heap.lt_size De.1)
    have fresh : g.get? h.objs.size = none := by
      cases q : g.get? h.objs.size with
      | none => rfl
      | some o => exact absurd (Heap.lt_size (F.keep _ _ q)) (Nat.lt_irrefl _)
    have hL : L ≠ e := fun q => De.2.1 q.symm
    refine k h' tk' h.objs.size od ⟨?_, fun b o hb => ?_, F.above⟩ (fun p hp => ?_) (fun p hp => Heap.lt_size (N p hp).1) hns
    · obtain ⟨oL, a, b, hoL, r⟩ := F.ns
      exact ⟨oL, a, b, hk _ _ hL hoL, r⟩
    · exact hk _ _ (fun q => by rw [q, De.2.2] at hb; cases hb) (F.keep _ _ hb)
    · rcases List.mem_cons.mp hp with rfl | hp
      · exact ⟨hod, Nat.ne_of_gt F.ns.lt, fresh⟩
      rcases List.mem_cons.mp hp with rfl | hp
      · exact ⟨hx, De.2⟩
      · have Dp := N p (.tail _ hp)
        exact ⟨hk _ _ (hne p hp) Dp.1, Dp.2⟩
  run_tac go
theorem js_set2 {mA : Str → Option Value} {ns : List Str} (J : JS s.heap mN) (F : Fr g L s.heap m) (N : News g L s.heap ((dx, od) :: (e, oe) :: news)) (hlt : ∀ p ∈ (e, oe) :: news, p.1 < dx) (h31 : ∃ o, g.get? 31 = some o) (hne : ∀ p ∈ news, p.1 ≠ e) (hc : oe.cls = .ref 31) (hdx : oe.dict = some dx) (hv : oe.data = .fields vs)
    (hns : s.heap.Ns1 dx mA) (hw : Within mA ns) (hsz : ns.length ≤ sizeLine) (hna : mN name = none) (hB : typeLookup (.type "Exception") name = pure none)
    (k : ∀ h' tk' od, Fr g L h' m → News g L h' ((dx, od) :: (e, oe) :: news) → h'.Ns1 dx (fun y => if y = name then some v else mA y) → Q () { s with heap := h', toks := tk' }) :
    wpAny (model prog w) A (setAttr (.ref e) name v) Q E s := by
  k_with "MY body" =>
    obtain ⟨h, gn, d, t, os⟩ := s
    have De := N (e, oe) (.tail _ (.head _))
    have Dd := N (dx, od) (.head _)
    obtain ⟨nm, q, bs, sn, sub, ab, col, dd, k0, k1, k2, k3, k5, hC⟩ := id J.obj
    have hed : e ≠ dx := Nat.ne_of_lt (hlt (e, oe) (.head _))
    have h31e : e ≠ 31 := fun q => by
      obtain ⟨o, ho⟩ := h31
      rw [← q, De.2.2] at ho; cases ho
    refine store_attr PySem.F.store_Exception hC J.ns J.nSet hna hB h31e (mA := mA) ⟨oe, De.1, hc, (fun c q => by rw [hv] at q; cases q), .inr ⟨dx, hdx, hed.symm, hns⟩⟩ (fun h' tk' I hk hsame => ?_) hw hsz
    have hk' : ∀ b o, b ≠ e → b ≠ dx → h.get? b = some o → h'.get? b = some o := fun b o h1 h2 ho => hk b o h1 (fun o₀ d' h3 h4 => by
      rw [De.1] at h3; cases h3
      rw [hdx] at h4; cases h4
      exact h2) ho
    obtain ⟨o₁, hx₁, c1, c2, c3, c4⟩ := hsame oe De.1
    have e1 : o₁ = oe := by
      have := c4 dx hdx
      obtain ⟨a1, a2, a3, a4⟩ := o₁
      obtain ⟨b1, b2, b3, b4⟩ := oe
      cases c1; cases c2; cases c3
      simp only at this hdx
      rw [this, hdx]
    subst e1
    obtain ⟨o₂, hx₂, _, _, hh⟩ := I
    rw [hx₁] at hx₂; cases hx₂
    rcases hh with ⟨q1, _⟩ | ⟨d', q1, _, hns'⟩
    · rw [hdx] at q1; cases q1
    rw [hdx] at q1; cases q1
    obtain ⟨od', es, ep, hod, _⟩ := id hns'
    have hLe : L ≠ e := fun q => De.2.1 q.symm
    have hLd : L ≠ dx := fun q => Dd.2.1 q.symm
    refine k h' tk' od' ⟨?_, fun b o hb => ?_, F.above⟩ (fun p hp => ?_) hns'
    · obtain ⟨oL, a, b, hoL, r⟩ := F.ns
      exact ⟨oL, a, b, hk' _ _ hLe hLd hoL, r⟩
    · exact hk' _ _ (fun q => by rw [q, De.2.2] at hb; cases hb) (fun q => by rw [q, Dd.2.2] at hb; cases hb) (F.keep _ _ hb)
    · rcases List.mem_cons.mp hp with rfl | hp
      · exact ⟨hod, Dd.2⟩
      rcases List.mem_cons.mp hp with rfl | hp
      · exact ⟨hx₁, De.2⟩
      · have Dp := N p (.tail _ (.tail _ hp))
        exact ⟨hk' _ _ (hne p hp) (Nat.ne_of_lt (hlt p (.tail _ hp))) Dp.1, Dp.2⟩
  run_tac go
end
section
variable {w : World} {A : Around} {h₀ : Heap} {L : Addr} {m : Str → Option Value} {s : Shared} {news : List (Addr × Obj)} {base : Heap} {env : Env} {outer : List Env} {Q E : Value → Shared → Prop}
theorem within1 {name : Str} {v : Value} : Within (fun y => if y = name then some v else none) [name] := fun y h => by
  by_cases q : y = name
  · rw [q]; exact .head _
  · simp [q] at h
set_option maxRecDepth 100000 in
set_option maxHeartbeats 8000000 in
theorem init_ok (e : Addr) (oe : Obj) (vs : Array Value) (k t : Str) (u v : Tok) (H : Here w A h₀ L m s ((e, oe) :: news) base env outer 1) (hne : ∀ p ∈ news, p.1 ≠ e) (hc : oe.cls = .ref 31) (hdn : oe.dict = none) (hv : oe.data = .fields vs)
    (ret : ∀ r h' tk' dx od, r = .none → Fr h₀ L h' m → News h₀ L h' ((dx, od) :: (e, { oe with dict := some dx }) :: news) → (∃ mA, h'.Ns dx mA ∧ mA "kind" = some (.str k u)) → (∀ p ∈ (e, oe) :: news, p.1 < dx) → Q r { s with heap := h', toks := tk' }) :
    wpAny (model PySem.Challenge.rw_nt0345_01.row.prog w) A (call (.ref 28) [.ref e, .str k u, .str t v]) Q E s := by
  k_with "MY body" =>
    refine H.lit (P := fun A => wpAny _ A _ _ _ _) ?_
    k_fill
    clear H
    intro dp un gd A₀ mean mg mb B F X N T loc kind room units
    walk_at "MY enter"
    k_steps
    refine js_set1 (js_of (by k_in)) (by k_asm) (by k_asm) hne hc hdn hv (ns_none_of (by k_in) (js_of (by k_in)).ns (by kernel_rfl)) lk_kind ?_
    intro h1 tk1 dx od F1 N1 lt1 ns1
    (try dsimp only)
    (try k_fold)
    k_steps
    refine js_set2 (oe := { oe with dict := some dx }) (js_of (by k_in)) (by k_asm) (by k_asm) (fun p hp => (List.mem_cons.mp hp).elim (fun q => by rw [q]; exact lt1 (e, oe) (.head _)) fun q => lt1 p (.tail _ q)) ⟨_, (by k_asm : (hd.heap_39 w.params).In _) 31 _ rfl⟩ hne hc rfl hv ns1 within1 (by rw [List.length_cons, List.length_nil, sizeLine_eq]; omega) (ns_none_of (by k_in) (js_of (by k_in)).ns (by kernel_rfl)) lk_text ?_
    intro h2 tk2 od2 F2 N2 ns2
    (try dsimp only)
    (try k_fold)
    k_steps
    all_goals exact ret _ _ _ _ _ rfl (by k_asm) (by k_asm) ⟨_, ns2.ns, by rw [if_neg (by decide), if_pos rfl]⟩ lt1
  run_tac go
end
theorem js_raise {M : Model} {A : Around} {E : Value → Shared → Prop} {s : Shared} {mN : Heap → Str → Option Value} {callE : PySem.Expr} {pos : Pos} {env : Env} {Q : Flow → Shared → Prop} (hh : A.handled = none)
    (h : wpAny M A (eval callE env) (fun v s₁ => ∃ e dx t sl, v = .ref e ∧ JS s₁.heap (mN s₁.heap) ∧ s₁.heap.get? e = some { cls := .ref 31, dict := some dx, data := .fields #[.ref t, .none, .none, .none, .bool false, .none], slots := sl } ∧ E (.ref e) s₁) E s) :
    wpAny M A (exec (.Raise (some callE) none pos) env) Q E s := by
  k_with "MY body" =>
    rw [arm_exec_Raise]
    refine wpAny_bind (wpAny_standAt ?_)
    unfold raiseStmt
    simp only [evalOpt, Option.map]
    refine wpAny_bind (wpAny_bind (wpAny_mono h (fun v s₁ h₁ => wpAny_bind (wpAny_standAt (wpAny_pure ?_))) fun _ _ x => x))
    obtain ⟨e, dx, t, sl, rfl, J, he, hE⟩ := h₁
    obtain ⟨nm, q, bs, sn, sub, ab, col, dd, k0, k1, k2, k3, k5, hC⟩ := J.obj
    obtain ⟨hp, g, d, tk, os⟩ := s₁
    have hcB : (Value.ref 31 :: [Value.type "Exception", .type "BaseException", .type "object"]).contains (.type "BaseException") = true := by decide +kernel
    repeat (first | with_reducible refine wpAny_loadPart_at he ?_ | with_reducible refine wpAny_loadPart_at hC ?_ | (with_reducible refine wpAny_isSubtype_exc hC ?_; rw [hcB]) | wp_step)
    exact wpAny_raiseNew_none hh hE
  run_tac go
end
section
theorem kw_E4 : True := by
  w_top off
  k_with_none
  k_with "MY room" => (first
      | ((try simp only [depth_under_make, depth_under_kw, depth_in1, depth_deeper, depth_caller, Around.mark]); (try dsimp only); omega)
      | ((try simp only [depth_under_make, depth_under_kw, depth_in1, depth_deeper, depth_caller, Around.mark]); (try dsimp only); simp only [recursionLimit] at *; omega))
  k_with "MY units" => ((have hcL9_k := cLine_is; (try simp only [units_in1, units_deeper, Around.mark_units, units_caller]); (try dsimp only); omega))
  k_with "MY enter" => ((refine wpAny_call ?_; k_dflt (refine' code_def ?k1 ?k2 ?k3 ?k4 ?k5 ?kA ?kF ?kK ?k6 ?k7 ?k8 ?k9 ?kB ?_ ?c2 ?c3 ?c4 ?c5; (case kA => exact rfl); (case kF => first | exact rfl | assumption); (case kK => first | exact rfl | assumption); (case k1 => k_asm); (case k2 => k_asm); (case k3 => k_asm); (case k4 => k_asm); (case k5 => k_asm); (case k6 => k_is); (case k7 => k_is); (case k8 => walk_at "MY room"); (case k9 => exact BindsTo.of_eq rfl); (case c5 => decide); (case kB => exact locs rfl); (case c2 => exact rfl); (case c3 => exact rfl); (case c4 => exact rfl); k_whole; intro g'_k L'_k h'_k FG'_k F'_k N'_k B'_k X'_k T'_k; (try dsimp only); (try k_lift B'_k); (try k_fold))))
  k_with "MY here" => ((refine' Here.mk ⟨_, ?h1⟩ ?h2 ?h3 ?h4 ⟨_, _, _, ?h5⟩ ?h6 ?h7 ?h8 ?h9 ?h10 ?h11; (case h6 => exact rfl); (case h1 => k_asm); (case h2 => k_asm); (case h3 => k_asm); (case h4 => k_asm); (case h5 => k_asm); (case h7 => first | exact rfl | assumption); (case h8 => first | exact rfl | assumption); (case h9 => exact rfl); (case h10 => walk_at "MY room"); (case h11 => walk_at "MY units")))
  k_with "MY sub" => ((intro p'_k hp'_k; first | exact hp'_k | (repeat (first | exact hp'_k | refine List.Mem.tail _ ?_))))
  k_with "MY fresh" => (first | assumption | (refine lt_of_all ?_; first | assumption | exact And.right (by assumption) | exact And.right (And.right (by assumption)) | exact And.right (And.right (And.right (by assumption))) | exact And.right (And.right (And.right (And.right (by assumption)))) | exact And.right (And.right (And.right (And.right (And.right (by assumption))))) | exact And.right (And.right (And.right (And.right (And.right (And.right (by assumption)))))) | exact And.right (And.right (And.right (And.right (And.right (And.right (And.right (by assumption)))))))))
  k_with "MY enterG" => ((refine wpAny_call ?_; k_dflt (refine' code_defG ?k1 ?k2 ?k3 ?k4 ?k5 ?kA ?kF ?kK ?k6 ?k7 ?k8 ?k9 ?kB ?_ ?c2 ?c3 ?c4 ?c5; (case kA => exact rfl); (case kF => first | exact rfl | assumption); (case kK => first | exact rfl | assumption); (case k1 => k_asm); (case k2 => k_asm); (case k3 => k_asm); (case k4 => k_asm); (case k5 => k_asm); (case k6 => k_is); (case k7 => k_is); (case k8 => walk_at "MY room"); (case k9 => exact BindsTo.of_eq rfl); (case c5 => decide); (case kB => exact locs rfl); (case c2 => exact rfl); (case c3 => exact rfl); (case c4 => exact rfl); k_whole; intro g'_k L'_k h'_k FG'_k F'_k N'_k B'_k X'_k T'_k kG'_k; (try dsimp only); (try k_lift B'_k); (try k_fold))))
  k_with "MY kept" => ((rename GSub _ _ _ => kG9_k; exact elt_after (InElt.start _) kG9_k (by assumption) (by assumption) (by assumption) (by walk_at "MY sub")))
  k_with "MY subr" => ((intro p'_k hp'_k; first | exact hp'_k | (repeat (first | exact hp'_k | exact List.mem_append_left _ hp'_k | exact List.mem_append_right _ hp'_k | refine List.Mem.tail _ ?_))))
  k_with "MY same" => ((intro z_k h1_k h2_k h3_k; first
      | rfl
      | ((try simp only [List.contains_cons, List.contains_nil, Bool.or_false, Bool.or_eq_false_iff, beq_eq_false_iff_ne, ne_eq] at h3_k); (simp [h1_k, h2_k, h3_k]; done))))
  k_with "MY enterC" => ((refine wpAny_call ?_; k_dflt (refine' code_defC ?k1 ?k2 ?k3 ?k4 ?k5 ?kA ?kF ?kK ?k6 ?k7 ?k8 ?k9 ?kB ?kD ?_ ?c2 ?c3 ?c4; (case kA => exact rfl); (case kF => first | exact rfl | assumption); (case kK => first | exact rfl | assumption); (case k1 => k_asm); (case k2 => k_asm); (case k3 => k_asm); (case k4 => k_asm); (case k5 => k_asm); (case k6 => k_is); (case k7 => k_is); (case k8 => walk_at "MY room"); (case k9 => exact BindsTo.of_eq rfl); (case kB => exact rfl); (case kD => decide +kernel); (case c2 => exact rfl); (case c3 => exact rfl); (case c4 => exact rfl); k_whole; intro g'_k L'_k h'_k tk'_k cells'_k FG'_k F'_k N'_k Y'_k B'_k X'_k T'_k l1_k; (try k_lt l1_k); k_cells Y'_k; (try simp only [List.cons_append, List.nil_append] at N'_k); (try dsimp only); (try k_lift B'_k); (try k_fold))))
  k_with "MY enterT" => ((refine wpAny_call ?_; k_dflt (refine' code_defT ?k1 ?k2 ?k3 ?k4 ?k5 ?kA ?kF ?kK ?k6 ?k7 ?k8 ?k9 ?kB ?_ ?c2 ?c3 ?c4 ?c5; (case kA => exact rfl); (case kF => first | exact rfl | assumption); (case kK => first | exact rfl | assumption); (case k1 => k_asm); (case k2 => k_asm); (case k3 => k_asm); (case k4 => k_asm); (case k5 => k_asm); (case k6 => k_is); (case k7 => k_is); (case k8 => walk_at "MY room"); (case k9 => exact BindsTo.of_eq rfl); (case c5 => decide); (case kB => exact locs rfl); (case c2 => exact rfl); (case c3 => exact rfl); (case c4 => exact rfl); k_whole; intro g'_k L'_k h'_k FG'_k F'_k N'_k B'_k X'_k T'_k; (try dsimp only); (try k_lift B'_k); (try k_fold))))
  trivial
/-- a JSFail of kind URIError in flight over the frames l; what the ground G held stands, but for the frames' slots; the ledger stands -/
structure ExcJ (base G : Heap) (l : List Env) (L : Addr) (m : Str → Option Value) (e : Addr) (news : List (Addr × Obj)) (h : Heap) : Prop where
  fly : ∃ B dx mA tk, base.StaysIn B ∧ (∀ b o, G.get? b = some o → b ∉ l.filterMap (·.frame) → B.get? b = some o) ∧ (∀ q ∈ news, B.get? q.1 = some q.2 ∧ G.get? q.1 = none ∧ q.1 ≠ dx) ∧ B.Ns dx mA ∧ mA "kind" = some (.str (Str.ofString "URIError") tk) ∧ Fl B l e dx .none h
  ns : h.Ns L m
  up : G.UpToSlots h
theorem none_back {G H : Heap} (k : ∀ b o, G.get? b = some o → H.get? b = some o) {b : Addr} (e : H.get? b = none) : G.get? b = none := by
  k_with "MY body" =>
    cases q : G.get? b with
    | none => rfl
    | some o => rw [k b o q] at e; cases e
  run_tac go
theorem self_none {g h : Heap} {L : Addr} {m : Str → Option Value} (F : Fr g L h m) : g.get? L = none := by
  k_with "MY body" =>
    cases q : g.get? L with
    | none => rfl
    | some o => exact absurd (Nat.lt_of_lt_of_le (Heap.lt_size q) F.above) (Nat.lt_irrefl _)
  run_tac go
section
variable {M : Model} {A : Around} {E : Value → Shared → Prop} {s : Shared} {base h₀ g h : Heap} {env : Env} {outer : List Env} {L L' a e dx : Addr} {m m' : Str → Option Value} {name : Str} {scope : Scope} {cd : Value} {Q : Unit → Shared → Prop} {news news' : List (Addr × Obj)}
theorem mem_frames {b : Addr} (hm : b ∈ (envOf name scope L' a cd :: outer).filterMap (·.frame)) : b = L' ∨ b ∈ outer.filterMap (·.frame) := by
  k_with "MY body" =>
    obtain ⟨v, hv, hf⟩ := List.mem_filterMap.mp hm
    rcases List.mem_cons.mp hv with rfl | hv
    · exact .inl (Option.some.inj hf).symm
    · exact .inr (List.mem_filterMap.mpr ⟨v, hv, hf⟩)
  run_tac go
/-- what the flight says of a callee's ground, said of the caller's -/
theorem exc_down {l : List Env} (FG : Fr h₀ L g m) (sub : ∀ p ∈ news, p ∈ news') (R : ExcJ base g l L' m' e news' h) (up : g.UpToSlots h) : ExcJ base h₀ l L m e news h := by
  k_with "MY body" =>
    obtain ⟨⟨B, dx, mA, tk, a1, a2, a3, a4, a5, a6⟩, _, _⟩ := R
    exact ⟨⟨B, dx, mA, tk, a1, fun b o q n => a2 b o (FG.keep b o q) n, fun q hq => ⟨(a3 q (sub q hq)).1, none_back FG.keep (a3 q (sub q hq)).2.1, (a3 q (sub q hq)).2.2⟩, a4, a5, a6⟩, up.ns FG.ns, (Heap.UpToSlots.of_keeps FG.keep).trans up⟩
  run_tac go
theorem leave_J (K : Below A base (env :: outer) g) (FG : Fr h₀ L g m) (F : Fr g L' h m') (R : ExcJ base g (envOf name scope L' a cd :: env :: outer) L' m' e news' s.heap) (sub : ∀ p ∈ news, p ∈ news')
    (hQ : ∀ h', ExcJ base h₀ (env :: outer) L m e news h' → Q () { s with heap := h' }) :
    wpAny M (A.deeper (envOf name scope L' a cd)) (leaving (envOf name scope L' a cd) (.ref e)) Q E s := by
  k_with "MY body" =>
    obtain ⟨⟨B, dx, mA, tk, a1, a2, a3, a4, a5, a6⟩, ns, up⟩ := R
    refine fl_leave a6 (Around.frames_deeper K.stack) rfl fun h' H' u => hQ h' ?_
    have up' : g.UpToSlots h' := up.trans u
    refine exc_down (g := g) (L' := L) (m' := m) FG sub ⟨⟨B, dx, mA, tk, a1, fun b o q n => a2 b o q fun hm => ?_, a3, a4, a5, H'⟩, up'.ns FG.ns, up'⟩ up'
    rcases mem_frames hm with z | z
    · rw [z, self_none F] at q; cases q
    · exact n z
  run_tac go
theorem leave_J1 {oe od : Obj} {vs : Array Value} {mA : Str → Option Value} {tk : Tok} (K : Below A base (env :: outer) g) (FG : Fr h₀ L g m) (F : Fr g L' s.heap m') (N : News g L' s.heap ((dx, od) :: (e, oe) :: news)) (hne : e ≠ dx)
    (hc : oe.cls = .ref 31) (hdx : oe.dict = some dx) (hd : oe.data = .fields vs) (h1 : vs[1]? = some .none) (ns : s.heap.Ns dx mA) (hk : mA "kind" = some (.str (Str.ofString "URIError") tk)) (hnm : ∀ p ∈ news, p.1 ≠ e) (hnd : ∀ p ∈ news, p.1 ≠ dx)
    (hQ : ∀ h', ExcJ base h₀ (env :: outer) L m e news h' → Q () { s with heap := h' }) (hkf : scope.kind = .function := by rfl) :
    wpAny M (A.deeper (envOf name scope L' a cd)) (leaving (envOf name scope L' a cd) (.ref e)) Q E s := by
  have K' := K.push (name := name) (a := a) (cd := cd) F hkf
  have De := N (e, oe) (.tail _ (.head _))
  have Dd := N (dx, od) (.head _)
  generalize hfs : (envOf name scope L' a cd :: env :: outer).filterMap (·.frame) = fs
  have inF : ∀ b, b ∈ fs → base.get? b = none ∧ (b = L' ∨ ∃ o, g.get? b = some o) := fun b hb => by
    rw [← hfs] at hb
    refine ⟨(K'.frames.mem hb).1, (mem_frames hb).imp id fun hb => ?_⟩
    obtain ⟨_, o, ho, _⟩ := K.frames.mem hb
    exact ⟨o, ho⟩
  have notF : ∀ b, g.get? b = none → b ≠ L' → b ∉ fs := fun b q n hb => by
    rcases (inF b hb).2 with z | ⟨o, z⟩
    · exact n z
    · rw [q] at z; cases z
  have nb : base.get? e = none := none_back K.stays De.2.2
  have getB : ∀ b o, s.heap.get? b = some o → b ≠ e → b ∉ fs → (hideAll s.heap (e :: fs)).get? b = some o := fun b o ho h1 h2 => hideAll_get _ ho fun hm => (List.mem_cons.mp hm).elim h1 h2
  refine fl_leave_first (base := hideAll s.heap (e :: fs)) (dx := dx) K'.stack (funFrames_hide K'.frames fun v hv b hb => .tail _ (by rw [← hfs]; exact List.mem_filterMap.mpr ⟨v, hv, hb⟩)) rfl De.1 (fun b o q => of_hideAll _ q) (hideAll_none _ (.head _)) hc hdx hd h1 fun h' H' u => hQ h' ?_
  have up' : g.UpToSlots h' := (Heap.UpToSlots.of_keeps F.keep).trans u
  refine exc_down (g := g) (L' := L) (m' := m) (news' := news) FG (fun _ hp => hp) ⟨⟨_, dx, mA, tk, fun b o q => ?_, fun b o q n => ?_, fun q hq => ?_, ?_, hk, H'⟩, up'.ns FG.ns, up'⟩ up'
  · exact getB b o (K'.stays b o q) (fun z => by rw [z, nb] at q; cases q) fun z => by rw [(inF b z).1] at q; cases q
  · refine getB b o (F.keep b o q) (fun z => by rw [z, De.2.2] at q; cases q) fun z => ?_
    rw [← hfs] at z
    rcases mem_frames z with z | z
    · rw [z, self_none F] at q; cases q
    · exact n z
  · have Dq := N q (.tail _ (.tail _ hq))
    exact ⟨getB _ _ Dq.1 (hnm q hq) (notF _ Dq.2.2 Dq.2.1), Dq.2.2, hnd q hq⟩
  · obtain ⟨o, es, ep, ho, r⟩ := ns
    exact ⟨o, es, ep, getB _ _ ho (Ne.symm hne) (notF _ Dd.2.2 Dd.2.1), r⟩
end
section
variable {w : World} {A : Around} {h₀ : Heap} {L : Addr} {m : Str → Option Value} {s : Shared} {news : List (Addr × Obj)} {base : Heap} {env : Env} {outer : List Env} {Q E : Value → Shared → Prop}
theorem make_ok (k t : Str) (u v : Tok) (H : Here w A h₀ L m s news base env outer 2)
    (ret : ∀ e dx od oe vs h' tk' mA, Fr h₀ L h' m → News h₀ L h' ((dx, od) :: (e, oe) :: news) → e ≠ dx → (∀ p ∈ news, p.1 ≠ e) → (∀ p ∈ news, p.1 ≠ dx) → oe = { cls := .ref 31, dict := some dx, data := .fields vs } → (∃ t0, vs = #[.ref t0, .none, .none, .none, .bool false, .none]) → h'.Ns dx mA → mA "kind" = some (.str k u) → Q (.ref e) { s with heap := h', toks := tk' }) :
    wpAny (model PySem.Challenge.rw_nt0345_01.row.prog w) A (call (.ref 31) [.str k u, .str t v]) Q E s := by
  k_with "MY body" =>
    refine H.lit (P := fun A => wpAny _ A _ _ _ _) ?_
    intro dp un gd A₀ mean mg mb B F X N T loc kind room units
    have J := js_of (X.keeps F.keep)
    obtain ⟨h, g, d, tk, os⟩ := s
    obtain ⟨nm, q, bs, sn, sub, ab, col, dd, k0, k1, k2, k3, k5, hC⟩ := J.obj
    obtain ⟨oI, hI, hIc⟩ := J.fn
    refine wpAny_call_exc_init PySem.F.excBase_Exception hC J.ns J.init hI hIc (fun h' e hm => ?_) (by rw [List.length_cons, List.length_cons, List.length_nil, sizeLine_eq]; omega)
    obtain ⟨t0, he, hnt, ht⟩ := hm.there
    have hne : ∀ p ∈ news, p.1 ≠ e := fun p hp z => by
      have := (N p hp).1
      rw [z, hm.new] at this; cases this
    have F' := F.keeps hm.keeps
    have N' : News h₀ L h' ((e, { cls := .ref 31, data := .fields #[.ref t0, .none, .none, .none, .bool false, .none] }) :: news) := fun p hp => by
      rcases List.mem_cons.mp hp with rfl | hp
      · refine ⟨he, ?_, none_back F.keep hm.new⟩
        intro z
        obtain ⟨oL, _, _, hL, _⟩ := F.ns
        have q := hm.new
        rw [show e = L from z, show h.get? L = some oL from hL] at q
        cases q
      · exact ⟨hm.keeps _ _ (N p hp).1, (N p hp).2⟩
    refine init_ok (news := news) (base := base) (env := env) (outer := outer) e _ _ k t u v ⟨⟨_, B⟩, F', X, N', ⟨_, _, _, T⟩, rfl, loc, kind, rfl, ?_, ?_⟩ hne rfl rfl rfl ?_
    · show dp + 1 + 1 < recursionLimit; omega
    · have hcu : (Code.builtin "type.__call__" ⟨[.ref 31, .str k u, .str t v], []⟩).cUnits ≤ 8 := by
        exact Nat.le_of_ble_eq_true rfl
      show un + (Code.builtin "type.__call__" ⟨[.ref 31, .str k u, .str t v], []⟩).cUnits + 8 * 1 < cLine
      omega
    · intro r h'' tk' dx od hr F'' N'' ⟨mA, ns, hk⟩ hlt
      refine ⟨hr, ret e dx od _ _ h'' tk' mA F'' N'' (fun z => ?_) hne (fun p hp => Nat.ne_of_lt (hlt p (.tail _ hp))) rfl ⟨t0, rfl⟩ ns hk⟩
      have a := (N'' _ (.head _)).1
      have b := (N'' _ (.tail _ (.head _))).1
      obtain ⟨o, es, ep, ho, hd, _⟩ := ns
      rw [z] at b
      rw [ho] at b; cases b
      cases hd
  run_tac go
set_option maxRecDepth 100000 in
set_option maxHeartbeats 8000000 in
theorem fail_ok (H : Here w A h₀ L m s news base env outer 3)
    (exc : ∀ e h' tk', ExcJ base h₀ (env :: outer) L m e news h' → E (.ref e) { s with heap := h', toks := tk' }) :
    wpAny (model PySem.Challenge.rw_nt0345_01.row.prog w) A (call (.ref 42) []) Q E s := by
  k_with "MY body" =>
    refine H.lit (P := fun A => wpAny _ A _ _ _ _) ?_
    k_fill
    clear H
    intro dp un gd A₀ mean mg mb B F X N T loc kind room units
    k_with "exec Raise some none" => refine js_raise (mN := fun h => h.nsMap 30) rfl ?_
    walk_at "MY enter"
    k_steps
    refine make_ok (news := news) _ _ _ _ (by walk_at "MY here") ?_
    intro e dx od oe vs h' tk' mA F' N' hne hnm hnd hoe ⟨t0, hvs⟩ ns hk
    subst hoe hvs
    refine ⟨e, dx, t0, #[], rfl, js_of (by k_in), (N' _ (.tail _ (.head _))).1, ?_⟩
    (try dsimp only)
    refine leave_J1 (by assumption) (by assumption) F' N' hne rfl rfl rfl rfl ns hk hnm hnd ?_
    intro h'' R
    exact exc _ _ _ R
  run_tac go
end

end
section
theorem kw_F2 : True := by
  w_top off
  k_with_none
  k_with "MY room" => (first
      | ((try simp only [depth_under_make, depth_under_kw, depth_in1, depth_deeper, depth_caller, Around.mark]); (try dsimp only); omega)
      | ((try simp only [depth_under_make, depth_under_kw, depth_in1, depth_deeper, depth_caller, Around.mark]); (try dsimp only); simp only [recursionLimit] at *; omega))
  k_with "MY units" => ((have hcL9_k := cLine_is; (try simp only [units_in1, units_deeper, Around.mark_units, units_caller]); (try dsimp only); omega))
  k_with "MY enter" => ((refine wpAny_call ?_; k_dflt (refine' code_def ?k1 ?k2 ?k3 ?k4 ?k5 ?kA ?kF ?kK ?k6 ?k7 ?k8 ?k9 ?kB ?_ ?c2 ?c3 ?c4 ?c5; (case kA => exact rfl); (case kF => first | exact rfl | assumption); (case kK => first | exact rfl | assumption); (case k1 => k_asm); (case k2 => k_asm); (case k3 => k_asm); (case k4 => k_asm); (case k5 => k_asm); (case k6 => k_is); (case k7 => k_is); (case k8 => walk_at "MY room"); (case k9 => exact BindsTo.of_eq rfl); (case c5 => decide); (case kB => exact locs rfl); (case c2 => exact rfl); (case c3 => exact rfl); (case c4 => exact rfl); k_whole; intro g'_k L'_k h'_k FG'_k F'_k N'_k B'_k X'_k T'_k; (try dsimp only); (try k_lift B'_k); (try k_fold))))
  k_with "MY here" => ((refine' Here.mk ⟨_, ?h1⟩ ?h2 ?h3 ?h4 ⟨_, _, _, ?h5⟩ ?h6 ?h7 ?h8 ?h9 ?h10 ?h11; (case h6 => exact rfl); (case h1 => k_asm); (case h2 => k_asm); (case h3 => k_asm); (case h4 => k_asm); (case h5 => k_asm); (case h7 => first | exact rfl | assumption); (case h8 => first | exact rfl | assumption); (case h9 => exact rfl); (case h10 => walk_at "MY room"); (case h11 => walk_at "MY units")))
  k_with "MY sub" => ((intro p'_k hp'_k; first | exact hp'_k | (repeat (first | exact hp'_k | refine List.Mem.tail _ ?_))))
  k_with "MY fresh" => (first | assumption | (refine lt_of_all ?_; first | assumption | exact And.right (by assumption) | exact And.right (And.right (by assumption)) | exact And.right (And.right (And.right (by assumption))) | exact And.right (And.right (And.right (And.right (by assumption)))) | exact And.right (And.right (And.right (And.right (And.right (by assumption))))) | exact And.right (And.right (And.right (And.right (And.right (And.right (by assumption)))))) | exact And.right (And.right (And.right (And.right (And.right (And.right (And.right (by assumption)))))))))
  k_with "MY enterG" => ((refine wpAny_call ?_; k_dflt (refine' code_defG ?k1 ?k2 ?k3 ?k4 ?k5 ?kA ?kF ?kK ?k6 ?k7 ?k8 ?k9 ?kB ?_ ?c2 ?c3 ?c4 ?c5; (case kA => exact rfl); (case kF => first | exact rfl | assumption); (case kK => first | exact rfl | assumption); (case k1 => k_asm); (case k2 => k_asm); (case k3 => k_asm); (case k4 => k_asm); (case k5 => k_asm); (case k6 => k_is); (case k7 => k_is); (case k8 => walk_at "MY room"); (case k9 => exact BindsTo.of_eq rfl); (case c5 => decide); (case kB => exact locs rfl); (case c2 => exact rfl); (case c3 => exact rfl); (case c4 => exact rfl); k_whole; intro g'_k L'_k h'_k FG'_k F'_k N'_k B'_k X'_k T'_k kG'_k; (try dsimp only); (try k_lift B'_k); (try k_fold))))
  k_with "MY kept" => ((rename GSub _ _ _ => kG9_k; exact elt_after (InElt.start _) kG9_k (by assumption) (by assumption) (by assumption) (by walk_at "MY sub")))
  k_with "MY subr" => ((intro p'_k hp'_k; first | exact hp'_k | (repeat (first | exact hp'_k | exact List.mem_append_left _ hp'_k | exact List.mem_append_right _ hp'_k | refine List.Mem.tail _ ?_))))
  k_with "MY same" => ((intro z_k h1_k h2_k h3_k; first
      | rfl
      | ((try simp only [List.contains_cons, List.contains_nil, Bool.or_false, Bool.or_eq_false_iff, beq_eq_false_iff_ne, ne_eq] at h3_k); (simp [h1_k, h2_k, h3_k]; done))))
  k_with "MY enterC" => ((refine wpAny_call ?_; k_dflt (refine' code_defC ?k1 ?k2 ?k3 ?k4 ?k5 ?kA ?kF ?kK ?k6 ?k7 ?k8 ?k9 ?kB ?kD ?_ ?c2 ?c3 ?c4; (case kA => exact rfl); (case kF => first | exact rfl | assumption); (case kK => first | exact rfl | assumption); (case k1 => k_asm); (case k2 => k_asm); (case k3 => k_asm); (case k4 => k_asm); (case k5 => k_asm); (case k6 => k_is); (case k7 => k_is); (case k8 => walk_at "MY room"); (case k9 => exact BindsTo.of_eq rfl); (case kB => exact rfl); (case kD => decide +kernel); (case c2 => exact rfl); (case c3 => exact rfl); (case c4 => exact rfl); k_whole; intro g'_k L'_k h'_k tk'_k cells'_k FG'_k F'_k N'_k Y'_k B'_k X'_k T'_k l1_k; (try k_lt l1_k); k_cells Y'_k; (try simp only [List.cons_append, List.nil_append] at N'_k); (try dsimp only); (try k_lift B'_k); (try k_fold))))
  k_with "MY enterT" => ((refine wpAny_call ?_; k_dflt (refine' code_defT ?k1 ?k2 ?k3 ?k4 ?k5 ?kA ?kF ?kK ?k6 ?k7 ?k8 ?k9 ?kB ?_ ?c2 ?c3 ?c4 ?c5; (case kA => exact rfl); (case kF => first | exact rfl | assumption); (case kK => first | exact rfl | assumption); (case k1 => k_asm); (case k2 => k_asm); (case k3 => k_asm); (case k4 => k_asm); (case k5 => k_asm); (case k6 => k_is); (case k7 => k_is); (case k8 => walk_at "MY room"); (case k9 => exact BindsTo.of_eq rfl); (case c5 => decide); (case kB => exact locs rfl); (case c2 => exact rfl); (case c3 => exact rfl); (case c4 => exact rfl); k_whole; intro g'_k L'_k h'_k FG'_k F'_k N'_k B'_k X'_k T'_k; (try dsimp only); (try k_lift B'_k); (try k_fold))))
  k_with "call ref" => (((with_reducible show wpAny _ _ (call (Value.ref 49) _) _ _ _); refine high_ok _ _ (by walk_at "MY here") ?_; intro v'_k h'_k tk'_k hv'_k F'_k N'_k; subst hv'_k; (try dsimp only); (try k_fold)))
  k_with "call ref" => (((with_reducible show wpAny _ _ (call (Value.ref 56) _) _ _ _); refine low_ok _ _ (by walk_at "MY here") ?_; intro v'_k h'_k tk'_k hv'_k F'_k N'_k; subst hv'_k; (try dsimp only); (try k_fold)))
  k_with "call ref" => (((with_reducible show wpAny _ _ (call (Value.ref 77) _) _ _ _); refine otext_ok _ _ _ rfl (by first | assumption | omega) (by walk_at "MY here") ?_; intro v'_k h'_k tk'_k hv'_k F'_k N'_k cE'_k; obtain ⟨t'_k, hv'_k⟩ := hv'_k; subst hv'_k; (try dsimp only); (try k_fold)))
  k_with "call ref" => (((with_reducible show wpAny _ _ (call (Value.ref 42) _) _ _ _); refine fail_ok (by walk_at "MY here") ?_; intro e'_k h'_k tk'_k R'_k; (try dsimp only); (try k_fold)))
  k_with "leaving ref" => ((refine leave_J (by assumption) (by assumption) (by assumption) (by assumption) (fun _ hp => by first | exact hp | simp only [List.mem_cons, hp, or_true]) ?_; intro h''_k R''_k; (try dsimp only)))
  trivial
section
variable {w : World} {A : Around} {h₀ : Heap} {L : Addr} {m : Str → Option Value} {s : Shared} {news : List (Addr × Obj)} {base : Heap} {env : Env} {outer : List Env} {Q E : Value → Shared → Prop}
set_option maxRecDepth 100000 in
set_option maxHeartbeats 8000000 in
theorem whole_ok (l p : List Nat) (c : Nat) (r : List Nat) (hl : l = p ++ c :: r) (hz : l.length ≤ 100000) (t : Tok) (x : Int) (u : Tok) (hk : x = (p.length : Nat))
    (H : Here w A h₀ L m s news base env outer 4)
    (ret : ∀ sg, signAtS (c :: r) = some sg → ∀ v h' tk', (∃ t, v = .int (sg : Nat) t) → Fr h₀ L h' m → News h₀ L h' news → Q v { s with heap := h', toks := tk' })
    (exc : signAtS (c :: r) = none → ∀ e h' tk', ExcJ base h₀ (env :: outer) L m e news h' → E (.ref e) { s with heap := h', toks := tk' }) :
    wpAny (model PySem.Challenge.rw_nt0345_01.row.prog w) A (call (.ref 84) [.str (S l) t, .int x u]) Q E s := by
  k_with "MY body" =>
    refine H.lit (P := fun A => wpAny _ A _ _ _ _) ?_
    k_fill
    clear H
    intro dp un gd A₀ mean mg mb B F X N T loc kind room units
    have hlen : (S l).length = l.length := S_len l
    have hll : l.length = p.length + 1 + r.length := by rw [hl]; simp; omega
    have hc0 : (Txt.item (S l) x).cps.getD 0 0 = c := by rw [item0 hl hk]; rfl
    walk_at "MY enter"
    k_steps
    · exact exc (sa_lo (by omega)) _ _ _ (by assumption)
    · have hr : r = [] := List.eq_nil_of_length_eq_zero (by omega)
      subst hr
      exact exc (sa_end (by omega)) _ _ _ (by assumption)
    · cases r with
      | nil => simp only [List.length_nil] at hll; omega
      | cons d r =>
        have hc1 : (Txt.item (S l) (x + 1)).cps.getD 0 0 = d := by rw [item1 hl hk]; rfl
        exact ret _ (sa_pair (by omega) (by omega)) _ _ _ (isI (by omega)) (by k_asm) (by k_asm)
    · cases r with
      | nil => simp only [List.length_nil] at hll; omega
      | cons d r =>
        have hc1 : (Txt.item (S l) (x + 1)).cps.getD 0 0 = d := by rw [item1 hl hk]; rfl
        exact exc (sa_bad (by omega) (by omega)) _ _ _ (by assumption)
    · exact ret _ (sa_one (by omega) (by omega)) _ _ _ (isI (by rw [hc0])) (by k_asm) (by k_asm)
  run_tac go
end

end
section
theorem kw_F3 : True := by
  w_top off
  k_with_none
  k_with "MY room" => (first
      | ((try simp only [depth_under_make, depth_under_kw, depth_in1, depth_deeper, depth_caller, Around.mark]); (try dsimp only); omega)
      | ((try simp only [depth_under_make, depth_under_kw, depth_in1, depth_deeper, depth_caller, Around.mark]); (try dsimp only); simp only [recursionLimit] at *; omega))
  k_with "MY units" => ((have hcL9_k := cLine_is; (try simp only [units_in1, units_deeper, Around.mark_units, units_caller]); (try dsimp only); omega))
  k_with "MY enter" => ((refine wpAny_call ?_; k_dflt (refine' code_def ?k1 ?k2 ?k3 ?k4 ?k5 ?kA ?kF ?kK ?k6 ?k7 ?k8 ?k9 ?kB ?_ ?c2 ?c3 ?c4 ?c5; (case kA => exact rfl); (case kF => first | exact rfl | assumption); (case kK => first | exact rfl | assumption); (case k1 => k_asm); (case k2 => k_asm); (case k3 => k_asm); (case k4 => k_asm); (case k5 => k_asm); (case k6 => k_is); (case k7 => k_is); (case k8 => walk_at "MY room"); (case k9 => exact BindsTo.of_eq rfl); (case c5 => decide); (case kB => exact locs rfl); (case c2 => exact rfl); (case c3 => exact rfl); (case c4 => exact rfl); k_whole; intro g'_k L'_k h'_k FG'_k F'_k N'_k B'_k X'_k T'_k; (try dsimp only); (try k_lift B'_k); (try k_fold))))
  k_with "MY here" => ((refine' Here.mk ⟨_, ?h1⟩ ?h2 ?h3 ?h4 ⟨_, _, _, ?h5⟩ ?h6 ?h7 ?h8 ?h9 ?h10 ?h11; (case h6 => exact rfl); (case h1 => k_asm); (case h2 => k_asm); (case h3 => k_asm); (case h4 => k_asm); (case h5 => k_asm); (case h7 => first | exact rfl | assumption); (case h8 => first | exact rfl | assumption); (case h9 => exact rfl); (case h10 => walk_at "MY room"); (case h11 => walk_at "MY units")))
  k_with "MY sub" => ((intro p'_k hp'_k; first | exact hp'_k | (repeat (first | exact hp'_k | refine List.Mem.tail _ ?_))))
  k_with "MY fresh" => (first | assumption | (refine lt_of_all ?_; first | assumption | exact And.right (by assumption) | exact And.right (And.right (by assumption)) | exact And.right (And.right (And.right (by assumption))) | exact And.right (And.right (And.right (And.right (by assumption)))) | exact And.right (And.right (And.right (And.right (And.right (by assumption))))) | exact And.right (And.right (And.right (And.right (And.right (And.right (by assumption)))))) | exact And.right (And.right (And.right (And.right (And.right (And.right (And.right (by assumption)))))))))
  k_with "MY enterG" => ((refine wpAny_call ?_; k_dflt (refine' code_defG ?k1 ?k2 ?k3 ?k4 ?k5 ?kA ?kF ?kK ?k6 ?k7 ?k8 ?k9 ?kB ?_ ?c2 ?c3 ?c4 ?c5; (case kA => exact rfl); (case kF => first | exact rfl | assumption); (case kK => first | exact rfl | assumption); (case k1 => k_asm); (case k2 => k_asm); (case k3 => k_asm); (case k4 => k_asm); (case k5 => k_asm); (case k6 => k_is); (case k7 => k_is); (case k8 => walk_at "MY room"); (case k9 => exact BindsTo.of_eq rfl); (case c5 => decide); (case kB => exact locs rfl); (case c2 => exact rfl); (case c3 => exact rfl); (case c4 => exact rfl); k_whole; intro g'_k L'_k h'_k FG'_k F'_k N'_k B'_k X'_k T'_k kG'_k; (try dsimp only); (try k_lift B'_k); (try k_fold))))
  k_with "MY kept" => ((rename GSub _ _ _ => kG9_k; exact elt_after (InElt.start _) kG9_k (by assumption) (by assumption) (by assumption) (by walk_at "MY sub")))
  k_with "MY subr" => ((intro p'_k hp'_k; first | exact hp'_k | (repeat (first | exact hp'_k | exact List.mem_append_left _ hp'_k | exact List.mem_append_right _ hp'_k | refine List.Mem.tail _ ?_))))
  k_with "MY same" => ((intro z_k h1_k h2_k h3_k; first
      | rfl
      | ((try simp only [List.contains_cons, List.contains_nil, Bool.or_false, Bool.or_eq_false_iff, beq_eq_false_iff_ne, ne_eq] at h3_k); (simp [h1_k, h2_k, h3_k]; done))))
  k_with "MY enterC" => ((refine wpAny_call ?_; k_dflt (refine' code_defC ?k1 ?k2 ?k3 ?k4 ?k5 ?kA ?kF ?kK ?k6 ?k7 ?k8 ?k9 ?kB ?kD ?_ ?c2 ?c3 ?c4; (case kA => exact rfl); (case kF => first | exact rfl | assumption); (case kK => first | exact rfl | assumption); (case k1 => k_asm); (case k2 => k_asm); (case k3 => k_asm); (case k4 => k_asm); (case k5 => k_asm); (case k6 => k_is); (case k7 => k_is); (case k8 => walk_at "MY room"); (case k9 => exact BindsTo.of_eq rfl); (case kB => exact rfl); (case kD => decide +kernel); (case c2 => exact rfl); (case c3 => exact rfl); (case c4 => exact rfl); k_whole; intro g'_k L'_k h'_k tk'_k cells'_k FG'_k F'_k N'_k Y'_k B'_k X'_k T'_k l1_k; (try k_lt l1_k); k_cells Y'_k; (try simp only [List.cons_append, List.nil_append] at N'_k); (try dsimp only); (try k_lift B'_k); (try k_fold))))
  k_with "MY enterT" => ((refine wpAny_call ?_; k_dflt (refine' code_defT ?k1 ?k2 ?k3 ?k4 ?k5 ?kA ?kF ?kK ?k6 ?k7 ?k8 ?k9 ?kB ?_ ?c2 ?c3 ?c4 ?c5; (case kA => exact rfl); (case kF => first | exact rfl | assumption); (case kK => first | exact rfl | assumption); (case k1 => k_asm); (case k2 => k_asm); (case k3 => k_asm); (case k4 => k_asm); (case k5 => k_asm); (case k6 => k_is); (case k7 => k_is); (case k8 => walk_at "MY room"); (case k9 => exact BindsTo.of_eq rfl); (case c5 => decide); (case kB => exact locs rfl); (case c2 => exact rfl); (case c3 => exact rfl); (case c4 => exact rfl); k_whole; intro g'_k L'_k h'_k FG'_k F'_k N'_k B'_k X'_k T'_k; (try dsimp only); (try k_lift B'_k); (try k_fold))))
  k_with "call ref" => (((with_reducible show wpAny _ _ (call (Value.ref 49) _) _ _ _); refine high_ok _ _ (by walk_at "MY here") ?_; intro v'_k h'_k tk'_k hv'_k F'_k N'_k; subst hv'_k; (try dsimp only); (try k_fold)))
  k_with "call ref" => (((with_reducible show wpAny _ _ (call (Value.ref 56) _) _ _ _); refine low_ok _ _ (by walk_at "MY here") ?_; intro v'_k h'_k tk'_k hv'_k F'_k N'_k; subst hv'_k; (try dsimp only); (try k_fold)))
  k_with "call ref" => (((with_reducible show wpAny _ _ (call (Value.ref 77) _) _ _ _); refine otext_ok _ _ _ rfl (by first | assumption | omega) (by walk_at "MY here") ?_; intro v'_k h'_k tk'_k hv'_k F'_k N'_k cE'_k; obtain ⟨t'_k, hv'_k⟩ := hv'_k; subst hv'_k; (try dsimp only); (try k_fold)))
  k_with "call ref" => (((with_reducible show wpAny _ _ (call (Value.ref 42) _) _ _ _); refine fail_ok (by walk_at "MY here") ?_; intro e'_k h'_k tk'_k R'_k; (try dsimp only); (try k_fold)))
  k_with "leaving ref" => ((refine leave_J (by assumption) (by assumption) (by assumption) (by assumption) (fun _ hp => by first | exact hp | simp only [List.mem_cons, hp, or_true]) ?_; intro h''_k R''_k; (try dsimp only)))
  trivial
theorem kw_F3_1 : True := by
  k_with "MY body" =>
    k_with "WhlIf" => (first | refine WhlIf.yes (by simp only [decide_eq_true_eq]; omega) ?_ | refine WhlIf.no (by simp only [decide_eq_false_iff_not]; omega) ?_)
    trivial
  run_tac go
section
variable {w : World} {A : Around} {h₀ : Heap} {L : Addr} {m : Str → Option Value} {s : Shared} {news : List (Addr × Obj)} {base : Heap} {env : Env} {outer : List Env} {Q E : Value → Shared → Prop}
set_option maxRecDepth 100000 in
set_option maxHeartbeats 8000000 in
theorem octets_ok (x : Int) (k : Nat) (t : Tok) (hk : x = k) (hm : k ≤ 1114111)
    (H : Here w A h₀ L m s news base env outer 1)
    (ret : ∀ v h' tk' a n vs, v = .ref a → Fr h₀ L h' m → News h₀ L h' ((a, listOf vs n) :: news) → (∀ p ∈ news, p.1 < a) → IntsAre vs.toList (Z (octs k)) → Q v { s with heap := h', toks := tk' }) :
    wpAny (model PySem.Challenge.rw_nt0345_01.row.prog w) A (call (.ref 63) [.int x t]) Q E s := by
  k_with "MY body" =>
    refine H.lit (P := fun A => wpAny _ A _ _ _ _) ?_
    k_fill
    clear H
    intro dp un gd A₀ mean mg mb B F X N T loc kind room units
    have e1 : x.fdiv (2 ^ Int.toNat 6) = ((k / 64 : Nat) : Int) := by rw [shr6]; omega
    have e2 : (x.fdiv (2 ^ Int.toNat 6)).fdiv (2 ^ Int.toNat 6) = ((k / 4096 : Nat) : Int) := by rw [shr6, shr6]; omega
    have e3 : ((x.fdiv (2 ^ Int.toNat 6)).fdiv (2 ^ Int.toNat 6)).fdiv (2 ^ Int.toNat 6) = ((k / 262144 : Nat) : Int) := by rw [shr6, shr6, shr6]; omega
    have e4 : Int.fdiv 32 (2 ^ Int.toNat 1) = 16 := by rw [shr1]; rfl
    have e5 : (Int.fdiv 32 (2 ^ Int.toNat 1)).fdiv (2 ^ Int.toNat 1) = 8 := by rw [shr1, shr1]; rfl
    rcases (show k < 128 ∨ (128 ≤ k ∧ k < 2048) ∨ (2048 ≤ k ∧ k < 65536) ∨ 65536 ≤ k by omega) with c | c | c | c
    · have e : octs k = [k] := by rw [octs, if_pos c]
      walk_at "MY enter"
      k_steps
      refine ret _ _ _ _ _ _ rfl (by k_asm) (news_pick (by k_asm) (.head _) (by walk_at "MY sub")) (by walk_at "MY fresh") ?_
      rw [e]; exact ints_cons hk ints_nil
    · have e : octs k = [192 + k / 64, 128 + k % 64] := by rw [octs, if_neg (by omega), if_pos (by omega)]
      walk_at "MY enter"
      k_steps
      refine ret _ _ _ _ _ _ rfl (by k_asm) (news_pick (by k_asm) (.head _) (by walk_at "MY sub")) (by walk_at "MY fresh") ?_
      rw [e]; exact ints_cons (or192 e1 (by omega)) (ints_cons (or128 hk) ints_nil)
    · have e : octs k = [224 + k / 4096, 128 + k / 64 % 64, 128 + k % 64] := by rw [octs, if_neg (by omega), if_neg (by omega), if_pos (by omega)]
      walk_at "MY enter"
      k_steps
      refine ret _ _ _ _ _ _ rfl (by k_asm) (news_pick (by k_asm) (.head _) (by walk_at "MY sub")) (by walk_at "MY fresh") ?_
      rw [e]; exact ints_cons (or224 e2 (by omega)) (ints_cons (or128 e1) (ints_cons (or128 hk) ints_nil))
    · have e : octs k = [240 + k / 262144, 128 + k / 4096 % 64, 128 + k / 64 % 64, 128 + k % 64] := by rw [octs, if_neg (by omega), if_neg (by omega), if_neg (by omega)]
      walk_at "MY enter"
      k_steps
      refine ret _ _ _ _ _ _ rfl (by k_asm) (news_pick (by k_asm) (.head _) (by walk_at "MY sub")) (by walk_at "MY fresh") ?_
      rw [e]; exact ints_cons (or240 e3 (by omega)) (ints_cons (or128 e2) (ints_cons (or128 e1) (ints_cons (or128 hk) ints_nil)))
  run_tac go
end

end
section
theorem kw_SQ : True := by
  w_top off
  k_with_none
  k_with "MY room" => (first
      | ((try simp only [depth_under_make, depth_under_kw, depth_in1, depth_deeper, depth_caller, Around.mark]); (try dsimp only); omega)
      | ((try simp only [depth_under_make, depth_under_kw, depth_in1, depth_deeper, depth_caller, Around.mark]); (try dsimp only); simp only [recursionLimit] at *; omega))
  k_with "MY units" => ((have hcL9_k := cLine_is; (try simp only [units_in1, units_deeper, Around.mark_units, units_caller]); (try dsimp only); omega))
  k_with "MY enter" => ((refine wpAny_call ?_; k_dflt (refine' code_def ?k1 ?k2 ?k3 ?k4 ?k5 ?kA ?kF ?kK ?k6 ?k7 ?k8 ?k9 ?kB ?_ ?c2 ?c3 ?c4 ?c5; (case kA => exact rfl); (case kF => first | exact rfl | assumption); (case kK => first | exact rfl | assumption); (case k1 => k_asm); (case k2 => k_asm); (case k3 => k_asm); (case k4 => k_asm); (case k5 => k_asm); (case k6 => k_is); (case k7 => k_is); (case k8 => walk_at "MY room"); (case k9 => exact BindsTo.of_eq rfl); (case c5 => decide); (case kB => exact locs rfl); (case c2 => exact rfl); (case c3 => exact rfl); (case c4 => exact rfl); k_whole; intro g'_k L'_k h'_k FG'_k F'_k N'_k B'_k X'_k T'_k; (try dsimp only); (try k_lift B'_k); (try k_fold))))
  k_with "MY here" => ((refine' Here.mk ⟨_, ?h1⟩ ?h2 ?h3 ?h4 ⟨_, _, _, ?h5⟩ ?h6 ?h7 ?h8 ?h9 ?h10 ?h11; (case h6 => exact rfl); (case h1 => k_asm); (case h2 => k_asm); (case h3 => k_asm); (case h4 => k_asm); (case h5 => k_asm); (case h7 => first | exact rfl | assumption); (case h8 => first | exact rfl | assumption); (case h9 => exact rfl); (case h10 => walk_at "MY room"); (case h11 => walk_at "MY units")))
  k_with "MY sub" => ((intro p'_k hp'_k; first | exact hp'_k | (repeat (first | exact hp'_k | refine List.Mem.tail _ ?_))))
  k_with "MY fresh" => (first | assumption | (refine lt_of_all ?_; first | assumption | exact And.right (by assumption) | exact And.right (And.right (by assumption)) | exact And.right (And.right (And.right (by assumption))) | exact And.right (And.right (And.right (And.right (by assumption)))) | exact And.right (And.right (And.right (And.right (And.right (by assumption))))) | exact And.right (And.right (And.right (And.right (And.right (And.right (by assumption)))))) | exact And.right (And.right (And.right (And.right (And.right (And.right (And.right (by assumption)))))))))
  k_with "MY enterG" => ((refine wpAny_call ?_; k_dflt (refine' code_defG ?k1 ?k2 ?k3 ?k4 ?k5 ?kA ?kF ?kK ?k6 ?k7 ?k8 ?k9 ?kB ?_ ?c2 ?c3 ?c4 ?c5; (case kA => exact rfl); (case kF => first | exact rfl | assumption); (case kK => first | exact rfl | assumption); (case k1 => k_asm); (case k2 => k_asm); (case k3 => k_asm); (case k4 => k_asm); (case k5 => k_asm); (case k6 => k_is); (case k7 => k_is); (case k8 => walk_at "MY room"); (case k9 => exact BindsTo.of_eq rfl); (case c5 => decide); (case kB => exact locs rfl); (case c2 => exact rfl); (case c3 => exact rfl); (case c4 => exact rfl); k_whole; intro g'_k L'_k h'_k FG'_k F'_k N'_k B'_k X'_k T'_k kG'_k; (try dsimp only); (try k_lift B'_k); (try k_fold))))
  k_with "MY kept" => ((rename GSub _ _ _ => kG9_k; exact elt_after (InElt.start _) kG9_k (by assumption) (by assumption) (by assumption) (by walk_at "MY sub")))
  k_with "MY subr" => ((intro p'_k hp'_k; first | exact hp'_k | (repeat (first | exact hp'_k | exact List.mem_append_left _ hp'_k | exact List.mem_append_right _ hp'_k | refine List.Mem.tail _ ?_))))
  k_with "MY same" => ((intro z_k h1_k h2_k h3_k; first
      | rfl
      | ((try simp only [List.contains_cons, List.contains_nil, Bool.or_false, Bool.or_eq_false_iff, beq_eq_false_iff_ne, ne_eq] at h3_k); (simp [h1_k, h2_k, h3_k]; done))))
  k_with "MY enterC" => ((refine wpAny_call ?_; k_dflt (refine' code_defC ?k1 ?k2 ?k3 ?k4 ?k5 ?kA ?kF ?kK ?k6 ?k7 ?k8 ?k9 ?kB ?kD ?_ ?c2 ?c3 ?c4; (case kA => exact rfl); (case kF => first | exact rfl | assumption); (case kK => first | exact rfl | assumption); (case k1 => k_asm); (case k2 => k_asm); (case k3 => k_asm); (case k4 => k_asm); (case k5 => k_asm); (case k6 => k_is); (case k7 => k_is); (case k8 => walk_at "MY room"); (case k9 => exact BindsTo.of_eq rfl); (case kB => exact rfl); (case kD => decide +kernel); (case c2 => exact rfl); (case c3 => exact rfl); (case c4 => exact rfl); k_whole; intro g'_k L'_k h'_k tk'_k cells'_k FG'_k F'_k N'_k Y'_k B'_k X'_k T'_k l1_k; (try k_lt l1_k); k_cells Y'_k; (try simp only [List.cons_append, List.nil_append] at N'_k); (try dsimp only); (try k_lift B'_k); (try k_fold))))
  k_with "MY enterT" => ((refine wpAny_call ?_; k_dflt (refine' code_defT ?k1 ?k2 ?k3 ?k4 ?k5 ?kA ?kF ?kK ?k6 ?k7 ?k8 ?k9 ?kB ?_ ?c2 ?c3 ?c4 ?c5; (case kA => exact rfl); (case kF => first | exact rfl | assumption); (case kK => first | exact rfl | assumption); (case k1 => k_asm); (case k2 => k_asm); (case k3 => k_asm); (case k4 => k_asm); (case k5 => k_asm); (case k6 => k_is); (case k7 => k_is); (case k8 => walk_at "MY room"); (case k9 => exact BindsTo.of_eq rfl); (case c5 => decide); (case kB => exact locs rfl); (case c2 => exact rfl); (case c3 => exact rfl); (case c4 => exact rfl); k_whole; intro g'_k L'_k h'_k FG'_k F'_k N'_k B'_k X'_k T'_k; (try dsimp only); (try k_lift B'_k); (try k_fold))))
  trivial
abbrev cat (xs : List Str) : List Nat := xs.flatMap (fun x => x.cps.toList)
/-- what stands between two turns of the encoding loop -/
def EncInv (l kp : List Nat) (a : Int) (found : List Str) : Prop :=
  ∃ p r, l = p ++ r ∧ a = (p.length : Nat) ∧ found.length ≤ p.length ∧ (cat found).length ≤ 12 * p.length ∧ encS kp l = (encS kp r).map (cat found ++ ·)
theorem enc_start (l kp : List Nat) : EncInv l kp 0 [] := ⟨[], l, rfl, rfl, Nat.le_refl _, Nat.le_refl _, by simp [cat]⟩
theorem encS_nil (kp : List Nat) : encS kp [] = some [] := by rw [encS]
theorem encS_kept {kp : List Nat} {c : Nat} {r : List Nat} (h : c ∈ kp) : encS kp (c :: r) = (encS kp r).map (c :: ·) := by rw [encS, if_pos h]
theorem encS_none {kp : List Nat} {c : Nat} {r : List Nat} (h : ¬ c ∈ kp) (hs : signAtS (c :: r) = none) : encS kp (c :: r) = none := by rw [encS, if_neg h, hs]
theorem encS_some {kp : List Nat} {c sg : Nat} {r : List Nat} (h : ¬ c ∈ kp) (hs : signAtS (c :: r) = some sg) : encS kp (c :: r) = (encS kp (if 65536 ≤ sg then r.tail else r)).map ((octs sg).flatMap octT ++ ·) := by rw [encS, if_neg h, hs]
theorem sa_le {c sg : Nat} {r : List Nat} (hs : signAtS (c :: r) = some sg) (hc : c ≤ 65535) : sg ≤ 1114111 ∧ (65536 ≤ sg → ∃ d r', r = d :: r') := by
  k_with "MY body" =>
    by_cases h1 : 56320 ≤ c ∧ c ≤ 57343
    · rw [sa_lo h1] at hs; cases hs
    by_cases h2 : 55296 ≤ c ∧ c ≤ 56319
    · cases r with
      | nil => rw [sa_end h2] at hs; cases hs
      | cons d r' =>
        by_cases h3 : 56320 ≤ d ∧ d ≤ 57343
        · rw [sa_pair h2 h3] at hs
          cases hs
          exact ⟨by omega, fun _ => ⟨d, r', rfl⟩⟩
        · rw [sa_bad h2 h3] at hs; cases hs
    · rw [sa_one h1 h2] at hs
      cases hs
      exact ⟨by omega, fun h => absurd h (by omega)⟩
  run_tac go
theorem cat_snoc (xs : List Str) (l : List Nat) : cat (xs ++ [S l]) = cat xs ++ l := by simp [cat, S]
theorem octs_len (k : Nat) : (octs k).length ≤ 4 := by
  k_with "MY body" =>
    unfold octs; repeat' split
    all_goals simp
  run_tac go
theorem octT_len (ns : List Nat) : (ns.flatMap octT).length = 3 * ns.length := by
  k_with "MY body" =>
    induction ns with
    | nil => rfl
    | cons n ns ih => simp [octT] at *; omega
  run_tac go
theorem enc_kept {l kp p : List Nat} {c : Nat} {r : List Nat} {i : Int} {found : List Str} (hl : l = p ++ c :: r) (ha : i = (p.length : Nat)) (hn : found.length ≤ p.length) (hb : (cat found).length ≤ 12 * p.length)
    (he : encS kp l = (encS kp (c :: r)).map (cat found ++ ·)) (hc : c ∈ kp) : EncInv l kp (i + 1) (found ++ [S [c]]) := by
  k_with "MY body" =>
    refine ⟨p ++ [c], r, by rw [hl]; simp, by rw [ha]; simp, by simp; omega, by rw [cat_snoc]; simp only [List.length_append, List.length_cons, List.length_nil]; omega, ?_⟩
    rw [he, encS_kept hc, cat_snoc]
    cases encS kp r <;> simp
  run_tac go
theorem enc_sign {l kp p : List Nat} {c sg : Nat} {r : List Nat} {i j : Int} {found : List Str} (hl : l = p ++ c :: r) (ha : i = (p.length : Nat)) (hn : found.length ≤ p.length) (hb : (cat found).length ≤ 12 * p.length)
    (he : encS kp l = (encS kp (c :: r)).map (cat found ++ ·)) (hc : ¬ c ∈ kp) (hs : signAtS (c :: r) = some sg) (hc0 : c ≤ 65535) (hj : j = if 65536 ≤ sg then i + 2 else i + 1) : EncInv l kp j (found ++ [S ((octs sg).flatMap octT)]) := by
  k_with "MY body" =>
    have h12 : ((octs sg).flatMap octT).length ≤ 12 := by rw [octT_len]; have := octs_len sg; omega
    by_cases h : 65536 ≤ sg
    · obtain ⟨d, r', rfl⟩ := (sa_le hs hc0).2 h
      rw [if_pos h] at hj
      refine ⟨p ++ [c, d], r', by rw [hl]; simp, by rw [hj, ha]; simp, by simp; omega, by rw [cat_snoc]; simp only [List.length_append, List.length_cons, List.length_nil]; omega, ?_⟩
      rw [he, encS_some hc hs, cat_snoc, if_pos h, List.tail_cons]
      cases encS kp r' <;> simp
    · rw [if_neg h] at hj
      refine ⟨p ++ [c], r, by rw [hl]; simp, by rw [hj, ha]; simp, by simp; omega, by rw [cat_snoc]; simp only [List.length_append, List.length_cons, List.length_nil]; omega, ?_⟩
      rw [he, encS_some hc hs, cat_snoc, if_neg h]
      cases encS kp r <;> simp
  run_tac go
theorem found_S {kp : List Nat} {c : Nat} {x : Str} (hx : x = S [c]) : (Builtin.Str.occurrences (S kp) x 0 (S kp).length 1).isEmpty = !decide (c ∈ kp) := by
  k_with "MY body" =>
    subst hx
    have := StrLaws.found_one (S kp) c
    rw [← show ((!(Builtin.Str.occurrences (S kp) ⟨#[c]⟩ 0 (S kp).length 1).isEmpty) = decide (c ∈ kp)) from this, Bool.not_not]
  run_tac go
end
section
theorem kw_HALT : True := by
  w_top off
  k_with_none
  k_with "MY room" => (first
      | ((try simp only [depth_under_make, depth_under_kw, depth_in1, depth_deeper, depth_caller, Around.mark]); (try dsimp only); omega)
      | ((try simp only [depth_under_make, depth_under_kw, depth_in1, depth_deeper, depth_caller, Around.mark]); (try dsimp only); simp only [recursionLimit] at *; omega))
  k_with "MY units" => ((have hcL9_k := cLine_is; (try simp only [units_in1, units_deeper, Around.mark_units, units_caller]); (try dsimp only); omega))
  k_with "MY enter" => ((refine wpAny_call ?_; k_dflt (refine' code_def ?k1 ?k2 ?k3 ?k4 ?k5 ?kA ?kF ?kK ?k6 ?k7 ?k8 ?k9 ?kB ?_ ?c2 ?c3 ?c4 ?c5; (case kA => exact rfl); (case kF => first | exact rfl | assumption); (case kK => first | exact rfl | assumption); (case k1 => k_asm); (case k2 => k_asm); (case k3 => k_asm); (case k4 => k_asm); (case k5 => k_asm); (case k6 => k_is); (case k7 => k_is); (case k8 => walk_at "MY room"); (case k9 => exact BindsTo.of_eq rfl); (case c5 => decide); (case kB => exact locs rfl); (case c2 => exact rfl); (case c3 => exact rfl); (case c4 => exact rfl); k_whole; intro g'_k L'_k h'_k FG'_k F'_k N'_k B'_k X'_k T'_k; (try dsimp only); (try k_lift B'_k); (try k_fold))))
  k_with "MY here" => ((refine' Here.mk ⟨_, ?h1⟩ ?h2 ?h3 ?h4 ⟨_, _, _, ?h5⟩ ?h6 ?h7 ?h8 ?h9 ?h10 ?h11; (case h6 => exact rfl); (case h1 => k_asm); (case h2 => k_asm); (case h3 => k_asm); (case h4 => k_asm); (case h5 => k_asm); (case h7 => first | exact rfl | assumption); (case h8 => first | exact rfl | assumption); (case h9 => exact rfl); (case h10 => walk_at "MY room"); (case h11 => walk_at "MY units")))
  k_with "MY sub" => ((intro p'_k hp'_k; first | exact hp'_k | (repeat (first | exact hp'_k | refine List.Mem.tail _ ?_))))
  k_with "MY fresh" => (first | assumption | (refine lt_of_all ?_; first | assumption | exact And.right (by assumption) | exact And.right (And.right (by assumption)) | exact And.right (And.right (And.right (by assumption))) | exact And.right (And.right (And.right (And.right (by assumption)))) | exact And.right (And.right (And.right (And.right (And.right (by assumption))))) | exact And.right (And.right (And.right (And.right (And.right (And.right (by assumption)))))) | exact And.right (And.right (And.right (And.right (And.right (And.right (And.right (by assumption)))))))))
  k_with "MY enterG" => ((refine wpAny_call ?_; k_dflt (refine' code_defG ?k1 ?k2 ?k3 ?k4 ?k5 ?kA ?kF ?kK ?k6 ?k7 ?k8 ?k9 ?kB ?_ ?c2 ?c3 ?c4 ?c5; (case kA => exact rfl); (case kF => first | exact rfl | assumption); (case kK => first | exact rfl | assumption); (case k1 => k_asm); (case k2 => k_asm); (case k3 => k_asm); (case k4 => k_asm); (case k5 => k_asm); (case k6 => k_is); (case k7 => k_is); (case k8 => walk_at "MY room"); (case k9 => exact BindsTo.of_eq rfl); (case c5 => decide); (case kB => exact locs rfl); (case c2 => exact rfl); (case c3 => exact rfl); (case c4 => exact rfl); k_whole; intro g'_k L'_k h'_k FG'_k F'_k N'_k B'_k X'_k T'_k kG'_k; (try dsimp only); (try k_lift B'_k); (try k_fold))))
  k_with "MY kept" => ((rename GSub _ _ _ => kG9_k; exact elt_after (InElt.start _) kG9_k (by assumption) (by assumption) (by assumption) (by walk_at "MY sub")))
  k_with "MY subr" => ((intro p'_k hp'_k; first | exact hp'_k | (repeat (first | exact hp'_k | exact List.mem_append_left _ hp'_k | exact List.mem_append_right _ hp'_k | refine List.Mem.tail _ ?_))))
  k_with "MY same" => ((intro z_k h1_k h2_k h3_k; first
      | rfl
      | ((try simp only [List.contains_cons, List.contains_nil, Bool.or_false, Bool.or_eq_false_iff, beq_eq_false_iff_ne, ne_eq] at h3_k); (simp [h1_k, h2_k, h3_k]; done))))
  k_with "MY enterC" => ((refine wpAny_call ?_; k_dflt (refine' code_defC ?k1 ?k2 ?k3 ?k4 ?k5 ?kA ?kF ?kK ?k6 ?k7 ?k8 ?k9 ?kB ?kD ?_ ?c2 ?c3 ?c4; (case kA => exact rfl); (case kF => first | exact rfl | assumption); (case kK => first | exact rfl | assumption); (case k1 => k_asm); (case k2 => k_asm); (case k3 => k_asm); (case k4 => k_asm); (case k5 => k_asm); (case k6 => k_is); (case k7 => k_is); (case k8 => walk_at "MY room"); (case k9 => exact BindsTo.of_eq rfl); (case kB => exact rfl); (case kD => decide +kernel); (case c2 => exact rfl); (case c3 => exact rfl); (case c4 => exact rfl); k_whole; intro g'_k L'_k h'_k tk'_k cells'_k FG'_k F'_k N'_k Y'_k B'_k X'_k T'_k l1_k; (try k_lt l1_k); k_cells Y'_k; (try simp only [List.cons_append, List.nil_append] at N'_k); (try dsimp only); (try k_lift B'_k); (try k_fold))))
  k_with "MY enterT" => ((refine wpAny_call ?_; k_dflt (refine' code_defT ?k1 ?k2 ?k3 ?k4 ?k5 ?kA ?kF ?kK ?k6 ?k7 ?k8 ?k9 ?kB ?_ ?c2 ?c3 ?c4 ?c5; (case kA => exact rfl); (case kF => first | exact rfl | assumption); (case kK => first | exact rfl | assumption); (case k1 => k_asm); (case k2 => k_asm); (case k3 => k_asm); (case k4 => k_asm); (case k5 => k_asm); (case k6 => k_is); (case k7 => k_is); (case k8 => walk_at "MY room"); (case k9 => exact BindsTo.of_eq rfl); (case c5 => decide); (case kB => exact locs rfl); (case c2 => exact rfl); (case c3 => exact rfl); (case c4 => exact rfl); k_whole; intro g'_k L'_k h'_k FG'_k F'_k N'_k B'_k X'_k T'_k; (try dsimp only); (try k_lift B'_k); (try k_fold))))
  trivial
/-- a stop: the walk by lines ends here, the hand goes on -/
def Halt (P : Prop) : Prop := P
theorem halt_in {P : Prop} (h : Halt P) : P := h
theorem Halt.out {P : Prop} (h : P) : Halt P := h

end
section
theorem kw_W1 : True := by
  w_top off
  k_with_none
  k_with "MY room" => (first
      | ((try simp only [depth_under_make, depth_under_kw, depth_in1, depth_deeper, depth_caller, Around.mark]); (try dsimp only); omega)
      | ((try simp only [depth_under_make, depth_under_kw, depth_in1, depth_deeper, depth_caller, Around.mark]); (try dsimp only); simp only [recursionLimit] at *; omega))
  k_with "MY units" => ((have hcL9_k := cLine_is; (try simp only [units_in1, units_deeper, Around.mark_units, units_caller]); (try dsimp only); omega))
  k_with "MY enter" => ((refine wpAny_call ?_; k_dflt (refine' code_def ?k1 ?k2 ?k3 ?k4 ?k5 ?kA ?kF ?kK ?k6 ?k7 ?k8 ?k9 ?kB ?_ ?c2 ?c3 ?c4 ?c5; (case kA => exact rfl); (case kF => first | exact rfl | assumption); (case kK => first | exact rfl | assumption); (case k1 => k_asm); (case k2 => k_asm); (case k3 => k_asm); (case k4 => k_asm); (case k5 => k_asm); (case k6 => k_is); (case k7 => k_is); (case k8 => walk_at "MY room"); (case k9 => exact BindsTo.of_eq rfl); (case c5 => decide); (case kB => exact locs rfl); (case c2 => exact rfl); (case c3 => exact rfl); (case c4 => exact rfl); k_whole; intro g'_k L'_k h'_k FG'_k F'_k N'_k B'_k X'_k T'_k; (try dsimp only); (try k_lift B'_k); (try k_fold))))
  k_with "MY here" => ((refine' Here.mk ⟨_, ?h1⟩ ?h2 ?h3 ?h4 ⟨_, _, _, ?h5⟩ ?h6 ?h7 ?h8 ?h9 ?h10 ?h11; (case h6 => exact rfl); (case h1 => k_asm); (case h2 => k_asm); (case h3 => k_asm); (case h4 => k_asm); (case h5 => k_asm); (case h7 => first | exact rfl | assumption); (case h8 => first | exact rfl | assumption); (case h9 => exact rfl); (case h10 => walk_at "MY room"); (case h11 => walk_at "MY units")))
  k_with "MY sub" => ((intro p'_k hp'_k; first | exact hp'_k | (repeat (first | exact hp'_k | refine List.Mem.tail _ ?_))))
  k_with "MY fresh" => (first | assumption | (refine lt_of_all ?_; first | assumption | exact And.right (by assumption) | exact And.right (And.right (by assumption)) | exact And.right (And.right (And.right (by assumption))) | exact And.right (And.right (And.right (And.right (by assumption)))) | exact And.right (And.right (And.right (And.right (And.right (by assumption))))) | exact And.right (And.right (And.right (And.right (And.right (And.right (by assumption)))))) | exact And.right (And.right (And.right (And.right (And.right (And.right (And.right (by assumption)))))))))
  k_with "MY enterG" => ((refine wpAny_call ?_; k_dflt (refine' code_defG ?k1 ?k2 ?k3 ?k4 ?k5 ?kA ?kF ?kK ?k6 ?k7 ?k8 ?k9 ?kB ?_ ?c2 ?c3 ?c4 ?c5; (case kA => exact rfl); (case kF => first | exact rfl | assumption); (case kK => first | exact rfl | assumption); (case k1 => k_asm); (case k2 => k_asm); (case k3 => k_asm); (case k4 => k_asm); (case k5 => k_asm); (case k6 => k_is); (case k7 => k_is); (case k8 => walk_at "MY room"); (case k9 => exact BindsTo.of_eq rfl); (case c5 => decide); (case kB => exact locs rfl); (case c2 => exact rfl); (case c3 => exact rfl); (case c4 => exact rfl); k_whole; intro g'_k L'_k h'_k FG'_k F'_k N'_k B'_k X'_k T'_k kG'_k; (try dsimp only); (try k_lift B'_k); (try k_fold))))
  k_with "MY kept" => ((rename GSub _ _ _ => kG9_k; exact elt_after (InElt.start _) kG9_k (by assumption) (by assumption) (by assumption) (by walk_at "MY sub")))
  k_with "MY subr" => ((intro p'_k hp'_k; first | exact hp'_k | (repeat (first | exact hp'_k | exact List.mem_append_left _ hp'_k | exact List.mem_append_right _ hp'_k | refine List.Mem.tail _ ?_))))
  k_with "MY same" => ((intro z_k h1_k h2_k h3_k; first
      | rfl
      | ((try simp only [List.contains_cons, List.contains_nil, Bool.or_false, Bool.or_eq_false_iff, beq_eq_false_iff_ne, ne_eq] at h3_k); (simp [h1_k, h2_k, h3_k]; done))))
  k_with "MY enterC" => ((refine wpAny_call ?_; k_dflt (refine' code_defC ?k1 ?k2 ?k3 ?k4 ?k5 ?kA ?kF ?kK ?k6 ?k7 ?k8 ?k9 ?kB ?kD ?_ ?c2 ?c3 ?c4; (case kA => exact rfl); (case kF => first | exact rfl | assumption); (case kK => first | exact rfl | assumption); (case k1 => k_asm); (case k2 => k_asm); (case k3 => k_asm); (case k4 => k_asm); (case k5 => k_asm); (case k6 => k_is); (case k7 => k_is); (case k8 => walk_at "MY room"); (case k9 => exact BindsTo.of_eq rfl); (case kB => exact rfl); (case kD => decide +kernel); (case c2 => exact rfl); (case c3 => exact rfl); (case c4 => exact rfl); k_whole; intro g'_k L'_k h'_k tk'_k cells'_k FG'_k F'_k N'_k Y'_k B'_k X'_k T'_k l1_k; (try k_lt l1_k); k_cells Y'_k; (try simp only [List.cons_append, List.nil_append] at N'_k); (try dsimp only); (try k_lift B'_k); (try k_fold))))
  k_with "MY enterT" => ((refine wpAny_call ?_; k_dflt (refine' code_defT ?k1 ?k2 ?k3 ?k4 ?k5 ?kA ?kF ?kK ?k6 ?k7 ?k8 ?k9 ?kB ?_ ?c2 ?c3 ?c4 ?c5; (case kA => exact rfl); (case kF => first | exact rfl | assumption); (case kK => first | exact rfl | assumption); (case k1 => k_asm); (case k2 => k_asm); (case k3 => k_asm); (case k4 => k_asm); (case k5 => k_asm); (case k6 => k_is); (case k7 => k_is); (case k8 => walk_at "MY room"); (case k9 => exact BindsTo.of_eq rfl); (case c5 => decide); (case kB => exact locs rfl); (case c2 => exact rfl); (case c3 => exact rfl); (case c4 => exact rfl); k_whole; intro g'_k L'_k h'_k FG'_k F'_k N'_k B'_k X'_k T'_k; (try dsimp only); (try k_lift B'_k); (try k_fold))))
  trivial
/-- the end of a turn of a while that turns one int and one list of texts -/
def EndW (s : Shared) (h₀ : Heap) (L a : Addr) (nI : Str) (news : List (Addr × Obj)) (stored : List Str) (m₀ : Str → Option Value) (P : Int → List Str → Prop) (lid : Nat) (μ : Int → Nat) (s₃ : Shared) : Prop :=
  ∃ i' ti' vs' found' n' h' tk' m' news', s₃ = { s with heap := h', toks := tk' } ∧ Fr h₀ L h' m' ∧ News h₀ L h' news' ∧ (a, listOf vs' n') ∈ news' ∧ (∀ p ∈ news, p ∈ news') ∧ StrsAre vs'.toList found' ∧ m' nI = some (.int i' ti') ∧ (∀ z, z ≠ nI → stored.contains z = false → m' z = m₀ z) ∧ P i' found' ∧ μ i' < lid
theorem endW {s : Shared} {h₀ : Heap} {L a : Addr} {nI : Str} {news : List (Addr × Obj)} {stored : List Str} {m₀ : Str → Option Value} {P : Int → List Str → Prop} {lid : Nat} {μ : Int → Nat} {i' : Int} {ti' : Tok} {vs' : Array Value} {found' : List Str} {n' : Nat} {h' : Heap} {tk' : Nat} {m' : Str → Option Value} {news' : List (Addr × Obj)}
    (F : Fr h₀ L h' m') (N : News h₀ L h' news') (hm : (a, listOf vs' n') ∈ news') (sub : ∀ p ∈ news, p ∈ news') (hk : m' nI = some (.int i' ti')) (hr : ∀ z, z ≠ nI → stored.contains z = false → m' z = m₀ z) (hs : StrsAre vs'.toList found') (hp : P i' found') (hl : μ i' < lid) :
    EndW s h₀ L a nI news stored m₀ P lid μ { s with heap := h', toks := tk' } := ⟨i', ti', vs', found', n', h', tk', m', news', rfl, F, N, hm, sub, hs, hk, hr, hp, hl⟩
theorem while_strs {prog : Program} {w : World} {A : Around} {E : Value → Shared → Prop} {Q : Flow → Shared → Prop} {s : Shared} {env : Env} {h₀ : Heap} {L a : Addr} {test : PySem.Expr} {body : List Stmt} {pos : Pos} {m₀ : Str → Option Value} {news : List (Addr × Obj)}
    (nI : Str) (stored : List Str) (P : Int → List Str → Prop) (μ : Int → Nat) {i₀ : Int} {t₀ : Tok} {n₀ : Nat}
    (F : Fr h₀ L s.heap m₀) (N : News h₀ L s.heap ((a, listOf #[] n₀) :: news)) (hk : m₀ nI = some (.int i₀ t₀)) (hp : P i₀ [])
    (turn : ∀ (i : Int) (ti : Tok) (vs : List Value) (found : List Str) (n : Nat) (u : Str → Option Value) (h : Heap) (tk : Nat), StrsAre vs found → P i found → Fr h₀ L h (fun z => if z = nI then some (.int i ti) else if stored.contains z = true then u z else m₀ z) → News h₀ L h ((a, listOf vs.toArray n) :: news) →
      wpAny (model prog w) A (isTrue test env (eval test env)) (fun b s₂ => if b = true then wpAny (model prog w) A (execs body env) (fun f s₃ => match f with
          | .ret v => Q (.ret v) s₃
          | .brk => Q .next s₃
          | _ => EndW s h₀ L a nI news stored m₀ P (μ i) μ s₃) E s₂ else Q .next s₂) E { s with heap := h, toks := tk })
    (hE : PassesOwn (model prog w) A env E := by passes_own) : wpAny (model prog w) A (exec (.While test body [] pos) env) Q E s := by
  k_with "MY body" =>
    refine ksw_while (σ := Int × Nat × List Value × List Str × Nat) (fun c => (a, listOf c.2.2.1.toArray c.2.2.2.2) :: news) (fun c => [(nI, .int c.1 c.2.1)]) (fun c => StrsAre c.2.2.1 c.2.2.2.1) stored (fun c => P c.1 c.2.2.2.1) (fun c => μ c.1) (i₀, t₀, [], [], n₀)
      F N .nil (fun p hp => by rw [List.mem_singleton.mp hp]; exact hk) hp (fun c u h tk hf hP F' N' => ?_) hE
    refine wpAny_mono (turn c.1 c.2.1 c.2.2.1 c.2.2.2.1 c.2.2.2.2 u h tk hf hP F' N') (fun b s₂ hb => ?_) fun _ _ x => x
    cases b with
    | false => simpa using hb
    | true =>
      simp only [if_true] at hb ⊢
      refine wpAny_mono hb (fun f s₃ q => ?_) fun _ _ x => x
      have fin : EndW s h₀ L a nI news stored m₀ P (μ c.1) μ s₃ →
          KswEnd h₀ L s (fun (c : Int × Nat × List Value × List Str × Nat) => (a, listOf c.2.2.1.toArray c.2.2.2.2) :: news) (fun c => [(nI, .int c.1 c.2.1)]) (fun c => StrsAre c.2.2.1 c.2.2.2.1) stored m₀ (fun c => P c.1 c.2.2.2.1) (fun c => μ c.1) c s₃ := by
        rintro ⟨i', ti', vs', found', n', h', tk', m', news', e, F'', N'', h1, h2, h3, h4, h5, h6, h7⟩
        refine ⟨(i', ti', vs'.toList, found', n'), h', tk', m', news', e, F'', N'', fun p hp => ?_, h3, fun p hp => by rw [List.mem_singleton.mp hp]; exact h4, fun z hz hs => h5 z (hz _ (.head _)) hs, h6, h7⟩
        rcases List.mem_cons.mp hp with rfl | hp
        · simpa using h1
        · exact h2 p hp
      cases f with
      | ret v => exact q
      | brk => exact q
      | next => exact fin q
      | cont => exact fin q
  run_tac go
end
section
theorem kw_R1 : True := by
  w_top off
  k_with_none
  k_with "MY room" => (first
      | ((try simp only [depth_under_make, depth_under_kw, depth_in1, depth_deeper, depth_caller, Around.mark]); (try dsimp only); omega)
      | ((try simp only [depth_under_make, depth_under_kw, depth_in1, depth_deeper, depth_caller, Around.mark]); (try dsimp only); simp only [recursionLimit] at *; omega))
  k_with "MY units" => ((have hcL9_k := cLine_is; (try simp only [units_in1, units_deeper, Around.mark_units, units_caller]); (try dsimp only); omega))
  k_with "MY enter" => ((refine wpAny_call ?_; k_dflt (refine' code_def ?k1 ?k2 ?k3 ?k4 ?k5 ?kA ?kF ?kK ?k6 ?k7 ?k8 ?k9 ?kB ?_ ?c2 ?c3 ?c4 ?c5; (case kA => exact rfl); (case kF => first | exact rfl | assumption); (case kK => first | exact rfl | assumption); (case k1 => k_asm); (case k2 => k_asm); (case k3 => k_asm); (case k4 => k_asm); (case k5 => k_asm); (case k6 => k_is); (case k7 => k_is); (case k8 => walk_at "MY room"); (case k9 => exact BindsTo.of_eq rfl); (case c5 => decide); (case kB => exact locs rfl); (case c2 => exact rfl); (case c3 => exact rfl); (case c4 => exact rfl); k_whole; intro g'_k L'_k h'_k FG'_k F'_k N'_k B'_k X'_k T'_k; (try dsimp only); (try k_lift B'_k); (try k_fold))))
  k_with "MY here" => ((refine' Here.mk ⟨_, ?h1⟩ ?h2 ?h3 ?h4 ⟨_, _, _, ?h5⟩ ?h6 ?h7 ?h8 ?h9 ?h10 ?h11; (case h6 => exact rfl); (case h1 => k_asm); (case h2 => k_asm); (case h3 => k_asm); (case h4 => k_asm); (case h5 => k_asm); (case h7 => first | exact rfl | assumption); (case h8 => first | exact rfl | assumption); (case h9 => exact rfl); (case h10 => walk_at "MY room"); (case h11 => walk_at "MY units")))
  k_with "MY sub" => ((intro p'_k hp'_k; first | exact hp'_k | (repeat (first | exact hp'_k | refine List.Mem.tail _ ?_))))
  k_with "MY fresh" => (first | assumption | (refine lt_of_all ?_; first | assumption | exact And.right (by assumption) | exact And.right (And.right (by assumption)) | exact And.right (And.right (And.right (by assumption))) | exact And.right (And.right (And.right (And.right (by assumption)))) | exact And.right (And.right (And.right (And.right (And.right (by assumption))))) | exact And.right (And.right (And.right (And.right (And.right (And.right (by assumption)))))) | exact And.right (And.right (And.right (And.right (And.right (And.right (And.right (by assumption)))))))))
  k_with "MY enterG" => ((refine wpAny_call ?_; k_dflt (refine' code_defG ?k1 ?k2 ?k3 ?k4 ?k5 ?kA ?kF ?kK ?k6 ?k7 ?k8 ?k9 ?kB ?_ ?c2 ?c3 ?c4 ?c5; (case kA => exact rfl); (case kF => first | exact rfl | assumption); (case kK => first | exact rfl | assumption); (case k1 => k_asm); (case k2 => k_asm); (case k3 => k_asm); (case k4 => k_asm); (case k5 => k_asm); (case k6 => k_is); (case k7 => k_is); (case k8 => walk_at "MY room"); (case k9 => exact BindsTo.of_eq rfl); (case c5 => decide); (case kB => exact locs rfl); (case c2 => exact rfl); (case c3 => exact rfl); (case c4 => exact rfl); k_whole; intro g'_k L'_k h'_k FG'_k F'_k N'_k B'_k X'_k T'_k kG'_k; (try dsimp only); (try k_lift B'_k); (try k_fold))))
  k_with "MY kept" => ((rename GSub _ _ _ => kG9_k; exact elt_after (InElt.start _) kG9_k (by assumption) (by assumption) (by assumption) (by walk_at "MY sub")))
  k_with "MY subr" => ((intro p'_k hp'_k; first | exact hp'_k | (repeat (first | exact hp'_k | exact List.mem_append_left _ hp'_k | exact List.mem_append_right _ hp'_k | refine List.Mem.tail _ ?_))))
  k_with "MY same" => ((intro z_k h1_k h2_k h3_k; first
      | rfl
      | ((try simp only [List.contains_cons, List.contains_nil, Bool.or_false, Bool.or_eq_false_iff, beq_eq_false_iff_ne, ne_eq] at h3_k); (simp [h1_k, h2_k, h3_k]; done))))
  k_with "MY enterC" => ((refine wpAny_call ?_; k_dflt (refine' code_defC ?k1 ?k2 ?k3 ?k4 ?k5 ?kA ?kF ?kK ?k6 ?k7 ?k8 ?k9 ?kB ?kD ?_ ?c2 ?c3 ?c4; (case kA => exact rfl); (case kF => first | exact rfl | assumption); (case kK => first | exact rfl | assumption); (case k1 => k_asm); (case k2 => k_asm); (case k3 => k_asm); (case k4 => k_asm); (case k5 => k_asm); (case k6 => k_is); (case k7 => k_is); (case k8 => walk_at "MY room"); (case k9 => exact BindsTo.of_eq rfl); (case kB => exact rfl); (case kD => decide +kernel); (case c2 => exact rfl); (case c3 => exact rfl); (case c4 => exact rfl); k_whole; intro g'_k L'_k h'_k tk'_k cells'_k FG'_k F'_k N'_k Y'_k B'_k X'_k T'_k l1_k; (try k_lt l1_k); k_cells Y'_k; (try simp only [List.cons_append, List.nil_append] at N'_k); (try dsimp only); (try k_lift B'_k); (try k_fold))))
  k_with "MY enterT" => ((refine wpAny_call ?_; k_dflt (refine' code_defT ?k1 ?k2 ?k3 ?k4 ?k5 ?kA ?kF ?kK ?k6 ?k7 ?k8 ?k9 ?kB ?_ ?c2 ?c3 ?c4 ?c5; (case kA => exact rfl); (case kF => first | exact rfl | assumption); (case kK => first | exact rfl | assumption); (case k1 => k_asm); (case k2 => k_asm); (case k3 => k_asm); (case k4 => k_asm); (case k5 => k_asm); (case k6 => k_is); (case k7 => k_is); (case k8 => walk_at "MY room"); (case k9 => exact BindsTo.of_eq rfl); (case c5 => decide); (case kB => exact locs rfl); (case c2 => exact rfl); (case c3 => exact rfl); (case c4 => exact rfl); k_whole; intro g'_k L'_k h'_k FG'_k F'_k N'_k B'_k X'_k T'_k; (try dsimp only); (try k_lift B'_k); (try k_fold))))
  trivial
theorem cat_len (xs : List Str) : (cat xs).length = (xs.map (·.length)).sum := by
  k_with "MY body" =>
    induction xs with
    | nil => rfl
    | cons x xs ih => simp [cat, PySem.Str.length] at *
  run_tac go
theorem app_empty (z : Str) : z ++ Str.empty = z := by
  k_with "MY body" =>
    show PySem.Str.append _ _ = _
    simp [PySem.Str.append, Str.empty]
  run_tac go
theorem cat_cons (x : Str) (xs : List Str) : S (cat (x :: xs)) = x ++ S (cat xs) := by
  k_with "MY body" =>
    conv => rhs; rw [S_of x]
    rw [S_app]
    rfl
  run_tac go
theorem join_empty (xs : List Str) : Str.join Str.empty xs = S (cat xs) := by
  k_with "MY body" =>
    induction xs with
    | nil => rfl
    | cons x xs ih =>
      cases xs with
      | nil =>
        rw [cat_cons]
        show x = x ++ Str.empty
        rw [app_empty]
      | cons y r =>
        show x ++ Str.empty ++ Str.join Str.empty (y :: r) = _
        rw [ih, app_empty, cat_cons x]
  run_tac go
theorem strs_values : ∀ {vs : List Value} {xs : List Str}, StrsAre vs xs → ∃ l, vs = strValues l ∧ l.map (·.1) = xs
  | _, _, .nil => ⟨[], rfl, rfl⟩
  | _, _, .cons x t h => by
    obtain ⟨l, h1, h2⟩ := strs_values h
    exact ⟨(x, t) :: l, by rw [h1]; rfl, by rw [← h2]; rfl⟩
theorem emptyS : Str.ofString "" = Str.empty := by decide +kernel
theorem txt_join (a : Str) (xs : List Str) : Txt.join a xs = Str.join a xs := eq_of_beq (join_closes rfl)
theorem join_S {prog : Program} {w : World} {A : Around} {E : Value → Shared → Prop} {s : Shared} {D : Addr} {arr : Array Value} {xs : List Str} {t : Tok} {Q : Value → Shared → Prop} (hl : s.heap.IsList D arr) (h : StrsAre arr.toList xs) (hb : (cat xs).length ≤ 1000000)
    (q : ∀ t' k, Q (.str (S (cat xs)) t') { s with toks := k }) : wpAny (model prog w) A (call (.builtin "str.join") [.str (Str.ofString "") t, .ref D]) Q E s := by
  k_with "MY body" =>
    obtain ⟨l, h1, h2⟩ := strs_values h
    rw [emptyS]
    refine SC.join (l := l) (texts := xs) ?_ h2 (joinOk_of ?_) fun t' k => ?_
    · rw [← h1]; simpa using hl
    · rw [← cat_len]
      have : Str.empty.length = 0 := rfl
      rw [this]; omega
    · have e := join_empty xs
      rw [← txt_join] at e
      rw [e]; exact q t' k
  run_tac go
theorem contains_S {kp : List Nat} {c : Nat} : Txt.contains (S kp) (S [c]) = decide (c ∈ kp) := by
  k_with "MY body" =>
    exact StrLaws.found_one (S kp) c
  run_tac go
end
section
theorem kw_R2 : True := by
  w_top off
  k_with_none
  k_with "MY room" => (first
      | ((try simp only [depth_under_make, depth_under_kw, depth_in1, depth_deeper, depth_caller, Around.mark]); (try dsimp only); omega)
      | ((try simp only [depth_under_make, depth_under_kw, depth_in1, depth_deeper, depth_caller, Around.mark]); (try dsimp only); simp only [recursionLimit] at *; omega))
  k_with "MY units" => ((have hcL9_k := cLine_is; (try simp only [units_in1, units_deeper, Around.mark_units, units_caller]); (try dsimp only); omega))
  k_with "MY enter" => ((refine wpAny_call ?_; k_dflt (refine' code_def ?k1 ?k2 ?k3 ?k4 ?k5 ?kA ?kF ?kK ?k6 ?k7 ?k8 ?k9 ?kB ?_ ?c2 ?c3 ?c4 ?c5; (case kA => exact rfl); (case kF => first | exact rfl | assumption); (case kK => first | exact rfl | assumption); (case k1 => k_asm); (case k2 => k_asm); (case k3 => k_asm); (case k4 => k_asm); (case k5 => k_asm); (case k6 => k_is); (case k7 => k_is); (case k8 => walk_at "MY room"); (case k9 => exact BindsTo.of_eq rfl); (case c5 => decide); (case kB => exact locs rfl); (case c2 => exact rfl); (case c3 => exact rfl); (case c4 => exact rfl); k_whole; intro g'_k L'_k h'_k FG'_k F'_k N'_k B'_k X'_k T'_k; (try dsimp only); (try k_lift B'_k); (try k_fold))))
  k_with "MY here" => ((refine' Here.mk ⟨_, ?h1⟩ ?h2 ?h3 ?h4 ⟨_, _, _, ?h5⟩ ?h6 ?h7 ?h8 ?h9 ?h10 ?h11; (case h6 => exact rfl); (case h1 => k_asm); (case h2 => k_asm); (case h3 => k_asm); (case h4 => k_asm); (case h5 => k_asm); (case h7 => first | exact rfl | assumption); (case h8 => first | exact rfl | assumption); (case h9 => exact rfl); (case h10 => walk_at "MY room"); (case h11 => walk_at "MY units")))
  k_with "MY sub" => ((intro p'_k hp'_k; first | exact hp'_k | (repeat (first | exact hp'_k | refine List.Mem.tail _ ?_))))
  k_with "MY fresh" => (first | assumption | (refine lt_of_all ?_; first | assumption | exact And.right (by assumption) | exact And.right (And.right (by assumption)) | exact And.right (And.right (And.right (by assumption))) | exact And.right (And.right (And.right (And.right (by assumption)))) | exact And.right (And.right (And.right (And.right (And.right (by assumption))))) | exact And.right (And.right (And.right (And.right (And.right (And.right (by assumption)))))) | exact And.right (And.right (And.right (And.right (And.right (And.right (And.right (by assumption)))))))))
  k_with "MY enterG" => ((refine wpAny_call ?_; k_dflt (refine' code_defG ?k1 ?k2 ?k3 ?k4 ?k5 ?kA ?kF ?kK ?k6 ?k7 ?k8 ?k9 ?kB ?_ ?c2 ?c3 ?c4 ?c5; (case kA => exact rfl); (case kF => first | exact rfl | assumption); (case kK => first | exact rfl | assumption); (case k1 => k_asm); (case k2 => k_asm); (case k3 => k_asm); (case k4 => k_asm); (case k5 => k_asm); (case k6 => k_is); (case k7 => k_is); (case k8 => walk_at "MY room"); (case k9 => exact BindsTo.of_eq rfl); (case c5 => decide); (case kB => exact locs rfl); (case c2 => exact rfl); (case c3 => exact rfl); (case c4 => exact rfl); k_whole; intro g'_k L'_k h'_k FG'_k F'_k N'_k B'_k X'_k T'_k kG'_k; (try dsimp only); (try k_lift B'_k); (try k_fold))))
  k_with "MY kept" => ((rename GSub _ _ _ => kG9_k; exact elt_after (InElt.start _) kG9_k (by assumption) (by assumption) (by assumption) (by walk_at "MY sub")))
  k_with "MY subr" => ((intro p'_k hp'_k; first | exact hp'_k | (repeat (first | exact hp'_k | exact List.mem_append_left _ hp'_k | exact List.mem_append_right _ hp'_k | refine List.Mem.tail _ ?_))))
  k_with "MY same" => ((intro z_k h1_k h2_k h3_k; first
      | rfl
      | ((try simp only [List.contains_cons, List.contains_nil, Bool.or_false, Bool.or_eq_false_iff, beq_eq_false_iff_ne, ne_eq] at h3_k); (simp [h1_k, h2_k, h3_k]; done))))
  k_with "MY enterC" => ((refine wpAny_call ?_; k_dflt (refine' code_defC ?k1 ?k2 ?k3 ?k4 ?k5 ?kA ?kF ?kK ?k6 ?k7 ?k8 ?k9 ?kB ?kD ?_ ?c2 ?c3 ?c4; (case kA => exact rfl); (case kF => first | exact rfl | assumption); (case kK => first | exact rfl | assumption); (case k1 => k_asm); (case k2 => k_asm); (case k3 => k_asm); (case k4 => k_asm); (case k5 => k_asm); (case k6 => k_is); (case k7 => k_is); (case k8 => walk_at "MY room"); (case k9 => exact BindsTo.of_eq rfl); (case kB => exact rfl); (case kD => decide +kernel); (case c2 => exact rfl); (case c3 => exact rfl); (case c4 => exact rfl); k_whole; intro g'_k L'_k h'_k tk'_k cells'_k FG'_k F'_k N'_k Y'_k B'_k X'_k T'_k l1_k; (try k_lt l1_k); k_cells Y'_k; (try simp only [List.cons_append, List.nil_append] at N'_k); (try dsimp only); (try k_lift B'_k); (try k_fold))))
  k_with "MY enterT" => ((refine wpAny_call ?_; k_dflt (refine' code_defT ?k1 ?k2 ?k3 ?k4 ?k5 ?kA ?kF ?kK ?k6 ?k7 ?k8 ?k9 ?kB ?_ ?c2 ?c3 ?c4 ?c5; (case kA => exact rfl); (case kF => first | exact rfl | assumption); (case kK => first | exact rfl | assumption); (case k1 => k_asm); (case k2 => k_asm); (case k3 => k_asm); (case k4 => k_asm); (case k5 => k_asm); (case k6 => k_is); (case k7 => k_is); (case k8 => walk_at "MY room"); (case k9 => exact BindsTo.of_eq rfl); (case c5 => decide); (case kB => exact locs rfl); (case c2 => exact rfl); (case c3 => exact rfl); (case c4 => exact rfl); k_whole; intro g'_k L'_k h'_k FG'_k F'_k N'_k B'_k X'_k T'_k; (try dsimp only); (try k_lift B'_k); (try k_fold))))
  trivial
theorem exc_sub {base G : Heap} {l : List Env} {L : Addr} {m : Str → Option Value} {e : Addr} {big news : List (Addr × Obj)} {h : Heap} (R : ExcJ base G l L m e big h) (sub : ∀ p ∈ news, p ∈ big) : ExcJ base G l L m e news h := by
  k_with "MY body" =>
    obtain ⟨⟨B, dx, mA, tk, a1, a2, a3, a4, a5, a6⟩, ns, up⟩ := R
    exact ⟨⟨B, dx, mA, tk, a1, a2, fun q hq => a3 q (sub q hq), a4, a5, a6⟩, ns, up⟩
  run_tac go
theorem wpAny_halt {α : Type} {M : Model} {A : Around} {E : Value → Shared → Prop} {s : Shared} {t : Sem α} {Q : α → Shared → Prop} (h : wpAny M A t (fun a s' => Halt (Q a s')) E s) : wpAny M A t Q E s := h
theorem strs_of_carried {ys : List Value} {ns : List Nat} {d : Nat → List Nat} (h : CarriedAll ys (((Z ns).filter fun _ => true).map fun n : Int => PyData.str (S (d n.toNat)))) : StrsAre ys (ns.map fun n => S (d n)) := by
  k_with "MY body" =>
    refine StrsAre.of_carried ?_
    have e : ((Z ns).filter fun _ => true).map (fun n : Int => PyData.str (S (d n.toNat))) = (ns.map fun n => S (d n)).map PyData.str := by
      rw [List.filter_eq_self.mpr (fun _ _ => rfl), List.map_map, List.map_map]
      rfl
    rw [← e]; exact h
  run_tac go
theorem comp_strs {prog : Program} {w : World} {A : Around} {E : Value → Shared → Prop} {s : Shared} {h₀ : Heap} {L : Addr} {m : Str → Option Value} {env : Env} {elt iter : Expr} {x : Str} {px : Pos} {scope : Scope} {cl : List (Str × Addr)} {pos : Pos} {Q : Value → Shared → Prop} (d : Nat → List Nat)
    (_F : Fr h₀ L s.heap m) (hh : A.handled = none) (hclos : closureFor scope env = pure cl) (hcell : ∀ y ∈ scope.names, y.2 ≠ .cell) (hkind : scope.kind = .function)
    (hnames : ∀ y ∈ scope.names, y.2 = .local → scope.names.lookup y.1 = some .local) (hx : scope.names.lookup x = some .local) (hs : ∀ x, foldedSetIterable iter env x = pure x)
    (h : wpAny (model prog w) A (eval iter env) (fun xv s₁ => Halt (∃ news ax arr ns, xv = .ref ax ∧ s₁.heap.IsList ax arr ∧ IntsAre arr.toList (Z ns) ∧ ns.length ≤ 1000 ∧ Fr h₀ L s₁.heap m ∧ News h₀ L s₁.heap news ∧
      (∀ C n tok s₂ m₂ E', n ∈ ns → s₂.heap.Ns (compEnvC scope cl C env).locals m₂ → m₂ x = some (.int (n : Nat) tok) → (∀ b o, s₁.heap.get? b = some o → s₂.heap.get? b = some o) →
        wpAny (model prog w) A (eval elt (compEnvC scope cl C env)) (fun y s₃ => Halt ((∃ t, y = .str (S (d n)) t) ∧ Keeps s₂ s₃)) E' s₂) ∧
      (∀ D arr' k h' tk, Fr h₀ L h' m → News h₀ L h' ((D, listOf arr' k) :: news) → (∀ p ∈ news, p.1 ≠ D) → StrsAre arr'.toList (ns.map fun n => S (d n)) → Q (.ref D) { s₁ with heap := h', toks := tk }))) E s) :
    wpAny (model prog w) A (eval (.ListComp elt [⟨.Name x px, iter, [], 0⟩] scope pos) env) Q E s := by
  k_with "MY body" =>
    refine ListComp_DCn (K := .int) (h₀ := h₀) (L := L) (m := m) (pz := fun _ => true) (d := fun n : Int => PyData.str (S (d n.toNat))) hh hclos hcell hkind hnames hx (wpAny_mono h (fun xv s₁ h₁ => ?_) fun _ _ e => e) hs
    obtain ⟨news, ax, arr, ns, rfl, hl, hi, hz, F, N, he, hq⟩ := h₁
    refine ⟨news, ax, arr.toList, Z ns, rfl, by simpa using hl, hi.areOf, by rw [List.length_map, sizeLine_eq]; omega, F, N, ?_, ?_, ?_⟩
    · intro C a v s₂ m₂ E' _ _ _ _ _ _
      exact wpAny_pure ⟨rfl, s₂.heap, s₂.toks, rfl, fun _ _ e => e⟩
    · intro C a v s₂ m₂ E' _ ha hv _ hn hm hk
      obtain ⟨n, hn', rfl⟩ := List.mem_map.mp ha
      obtain ⟨tok, rfl⟩ := ItemKind.int_is hv
      refine wpAny_mono (he C n tok s₂ m₂ E' hn' hn hm hk) (fun y s₃ q => ?_) fun _ _ e => e
      obtain ⟨⟨t, rfl⟩, hk'⟩ := q
      exact ⟨.str _ _, hk'⟩
    · intro D ys h' tk F' N' hD hl' hp hc
      obtain ⟨⟨k, hk⟩, hne⟩ := hp
      have F0 : h'.get? D = some (listOf ys.toArray k) := hk
      refine hq D ys.toArray k h' tk F' (fun p hp => ?_) hne (by simpa using strs_of_carried hc)
      rcases List.mem_cons.mp hp with rfl | hp
      · refine ⟨F0, ?_, hD⟩
        rintro rfl
        obtain ⟨oL, es, ep, hL, hd, _⟩ := F'.ns
        rw [hL] at F0
        cases F0; cases hd
      · exact N' p hp
  run_tac go
theorem cat_map (ns : List Nat) (d : Nat → List Nat) : cat (ns.map fun n => S (d n)) = ns.flatMap d := by
  k_with "MY body" =>
    induction ns with
    | nil => rfl
    | cons n ns ih => simp only [cat, List.map_cons, List.flatMap_cons, S] at *; rw [ih]
  run_tac go
theorem octs_lt {sg n : Nat} (h : sg ≤ 1114111) (hn : n ∈ octs sg) : n < 256 := by
  k_with "MY body" =>
    unfold octs at hn
    (repeat' split at hn) <;> simp at hn <;> omega
  run_tac go
end
section
local macro_rules | `(tactic| k_all) => `(tactic| (intro p' hp'; exact Nat.ne_of_lt ((by walk_at "MY fresh" : ∀ q ∈ _, q.1 < _) p' hp')))
theorem kw_F4 : True := by
  w_top off
  k_with_none
  k_with "MY room" => (first
      | ((try simp only [depth_under_make, depth_under_kw, depth_in1, depth_deeper, depth_caller, Around.mark]); (try dsimp only); omega)
      | ((try simp only [depth_under_make, depth_under_kw, depth_in1, depth_deeper, depth_caller, Around.mark]); (try dsimp only); simp only [recursionLimit] at *; omega))
  k_with "MY units" => ((have hcL9_k := cLine_is; (try simp only [units_in1, units_deeper, Around.mark_units, units_caller]); (try dsimp only); omega))
  k_with "MY enter" => ((refine wpAny_call ?_; k_dflt (refine' code_def ?k1 ?k2 ?k3 ?k4 ?k5 ?kA ?kF ?kK ?k6 ?k7 ?k8 ?k9 ?kB ?_ ?c2 ?c3 ?c4 ?c5; (case kA => exact rfl); (case kF => first | exact rfl | assumption); (case kK => first | exact rfl | assumption); (case k1 => k_asm); (case k2 => k_asm); (case k3 => k_asm); (case k4 => k_asm); (case k5 => k_asm); (case k6 => k_is); (case k7 => k_is); (case k8 => walk_at "MY room"); (case k9 => exact BindsTo.of_eq rfl); (case c5 => decide); (case kB => exact locs rfl); (case c2 => exact rfl); (case c3 => exact rfl); (case c4 => exact rfl); k_whole; intro g'_k L'_k h'_k FG'_k F'_k N'_k B'_k X'_k T'_k; (try dsimp only); (try k_lift B'_k); (try k_fold))))
  k_with "MY here" => ((refine' Here.mk ⟨_, ?h1⟩ ?h2 ?h3 ?h4 ⟨_, _, _, ?h5⟩ ?h6 ?h7 ?h8 ?h9 ?h10 ?h11; (case h6 => exact rfl); (case h1 => k_asm); (case h2 => k_asm); (case h3 => k_asm); (case h4 => k_asm); (case h5 => k_asm); (case h7 => first | exact rfl | assumption); (case h8 => first | exact rfl | assumption); (case h9 => exact rfl); (case h10 => walk_at "MY room"); (case h11 => walk_at "MY units")))
  k_with "MY sub" => ((intro p'_k hp'_k; first | exact hp'_k | (repeat (first | exact hp'_k | refine List.Mem.tail _ ?_))))
  k_with "MY fresh" => (first | assumption | (refine lt_of_all ?_; first | assumption | exact And.right (by assumption) | exact And.right (And.right (by assumption)) | exact And.right (And.right (And.right (by assumption))) | exact And.right (And.right (And.right (And.right (by assumption)))) | exact And.right (And.right (And.right (And.right (And.right (by assumption))))) | exact And.right (And.right (And.right (And.right (And.right (And.right (by assumption)))))) | exact And.right (And.right (And.right (And.right (And.right (And.right (And.right (by assumption)))))))))
  k_with "MY enterG" => ((refine wpAny_call ?_; k_dflt (refine' code_defG ?k1 ?k2 ?k3 ?k4 ?k5 ?kA ?kF ?kK ?k6 ?k7 ?k8 ?k9 ?kB ?_ ?c2 ?c3 ?c4 ?c5; (case kA => exact rfl); (case kF => first | exact rfl | assumption); (case kK => first | exact rfl | assumption); (case k1 => k_asm); (case k2 => k_asm); (case k3 => k_asm); (case k4 => k_asm); (case k5 => k_asm); (case k6 => k_is); (case k7 => k_is); (case k8 => walk_at "MY room"); (case k9 => exact BindsTo.of_eq rfl); (case c5 => decide); (case kB => exact locs rfl); (case c2 => exact rfl); (case c3 => exact rfl); (case c4 => exact rfl); k_whole; intro g'_k L'_k h'_k FG'_k F'_k N'_k B'_k X'_k T'_k kG'_k; (try dsimp only); (try k_lift B'_k); (try k_fold))))
  k_with "MY kept" => ((rename GSub _ _ _ => kG9_k; exact elt_after (InElt.start _) kG9_k (by assumption) (by assumption) (by assumption) (by walk_at "MY sub")))
  k_with "MY subr" => ((intro p'_k hp'_k; first | exact hp'_k | (repeat (first | exact hp'_k | exact List.mem_append_left _ hp'_k | exact List.mem_append_right _ hp'_k | refine List.Mem.tail _ ?_))))
  k_with "MY same" => ((intro z_k h1_k h2_k h3_k; first
      | rfl
      | ((try simp only [List.contains_cons, List.contains_nil, Bool.or_false, Bool.or_eq_false_iff, beq_eq_false_iff_ne, ne_eq] at h3_k); (simp [h1_k, h2_k, h3_k]; done))))
  k_with "MY enterC" => ((refine wpAny_call ?_; k_dflt (refine' code_defC ?k1 ?k2 ?k3 ?k4 ?k5 ?kA ?kF ?kK ?k6 ?k7 ?k8 ?k9 ?kB ?kD ?_ ?c2 ?c3 ?c4; (case kA => exact rfl); (case kF => first | exact rfl | assumption); (case kK => first | exact rfl | assumption); (case k1 => k_asm); (case k2 => k_asm); (case k3 => k_asm); (case k4 => k_asm); (case k5 => k_asm); (case k6 => k_is); (case k7 => k_is); (case k8 => walk_at "MY room"); (case k9 => exact BindsTo.of_eq rfl); (case kB => exact rfl); (case kD => decide +kernel); (case c2 => exact rfl); (case c3 => exact rfl); (case c4 => exact rfl); k_whole; intro g'_k L'_k h'_k tk'_k cells'_k FG'_k F'_k N'_k Y'_k B'_k X'_k T'_k l1_k; (try k_lt l1_k); k_cells Y'_k; (try simp only [List.cons_append, List.nil_append] at N'_k); (try dsimp only); (try k_lift B'_k); (try k_fold))))
  k_with "MY enterT" => ((refine wpAny_call ?_; k_dflt (refine' code_defT ?k1 ?k2 ?k3 ?k4 ?k5 ?kA ?kF ?kK ?k6 ?k7 ?k8 ?k9 ?kB ?_ ?c2 ?c3 ?c4 ?c5; (case kA => exact rfl); (case kF => first | exact rfl | assumption); (case kK => first | exact rfl | assumption); (case k1 => k_asm); (case k2 => k_asm); (case k3 => k_asm); (case k4 => k_asm); (case k5 => k_asm); (case k6 => k_is); (case k7 => k_is); (case k8 => walk_at "MY room"); (case k9 => exact BindsTo.of_eq rfl); (case c5 => decide); (case kB => exact locs rfl); (case c2 => exact rfl); (case c3 => exact rfl); (case c4 => exact rfl); k_whole; intro g'_k L'_k h'_k FG'_k F'_k N'_k B'_k X'_k T'_k; (try dsimp only); (try k_lift B'_k); (try k_fold))))
  k_with "call ref" => (((with_reducible show wpAny _ _ (call (Value.ref 49) _) _ _ _); refine high_ok _ _ (by walk_at "MY here") ?_; intro v'_k h'_k tk'_k hv'_k F'_k N'_k; subst hv'_k; (try dsimp only); (try k_fold)))
  k_with "call ref" => (((with_reducible show wpAny _ _ (call (Value.ref 56) _) _ _ _); refine low_ok _ _ (by walk_at "MY here") ?_; intro v'_k h'_k tk'_k hv'_k F'_k N'_k; subst hv'_k; (try dsimp only); (try k_fold)))
  k_with "call ref" => (((with_reducible show wpAny _ _ (call (Value.ref 77) _) _ _ _); refine otext_ok _ _ _ rfl (by first | assumption | omega) (by walk_at "MY here") ?_; intro v'_k h'_k tk'_k hv'_k F'_k N'_k cE'_k; obtain ⟨t'_k, hv'_k⟩ := hv'_k; subst hv'_k; (try dsimp only); (try k_fold)))
  k_with "call ref" => (((with_reducible show wpAny _ _ (call (Value.ref 42) _) _ _ _); refine fail_ok (by walk_at "MY here") ?_; intro e'_k h'_k tk'_k R'_k; (try dsimp only); (try k_fold)))
  k_with "leaving ref" => ((refine leave_J (by assumption) (by assumption) (by assumption) (by assumption) (fun _ hp => by first | exact hp | simp only [List.mem_cons, hp, or_true]) ?_; intro h''_k R''_k; (try dsimp only)))
  k_with "call ref" => (((with_reducible show wpAny _ _ (call (Value.ref 63) _) _ _ _); refine octets_ok _ _ _ rfl (by assumption) (by walk_at "MY here") ?_; intro v'_k h'_k tk'_k a'_k n'_k vs'_k hv'_k F'_k N'_k lt'_k is'_k; subst hv'_k; (try dsimp only); (try k_fold)))
  k_with "MY size" => (first | ((try simp only [List.size_toArray, Array.size_push]); rw [sizeLine_eq]; omega) | size_fits)
  k_with "call builtin:list.append" => ((k_here; (with_reducible show wpAny _ _ (call (Value.builtin _) [Value.ref _, _]) _ _ _); k_dflt (refine' append_K ?k1 ?k2 ?k3 ?_ ?z; (case k1 => k_asm); (case k2 => k_asm); (case k3 => k_upd); (case z => walk_at "MY size"); k_whole); intro h'_k F'_k N'_k; (try k_sweep)))
  trivial
theorem kw_F4_1 : True := by
  k_with "MY body" =>
    k_with "exec While" => (refine halt_in ?_)
    k_with "eval ListComp" => (refine halt_in ?_)
    trivial
  run_tac go
section
variable {w : World} {A : Around} {h₀ : Heap} {L : Addr} {m : Str → Option Value} {s : Shared} {news : List (Addr × Obj)} {base : Heap} {env : Env} {outer : List Env} {Q E : Value → Shared → Prop}
set_option maxRecDepth 100000 in
set_option maxHeartbeats 8000000 in
theorem encs_ok (l kp : List Nat) (hz : l.length ≤ 1000) (hc : ∀ c ∈ l, c ≤ 65535) (t u : Tok) 
    (H : Here w A h₀ L m s news base env outer 5)
    (ret : ∀ o, encS kp l = some o → ∀ v h' tk', (∃ t, v = .str (S o) t) → Fr h₀ L h' m → News h₀ L h' news → Q v { s with heap := h', toks := tk' })
    (exc : encS kp l = none → ∀ e h' tk', ExcJ base h₀ (env :: outer) L m e news h' → E (.ref e) { s with heap := h', toks := tk' }) :
    wpAny (model PySem.Challenge.rw_nt0345_01.row.prog w) A (call (.ref 89) [.str (S l) t, .str (S kp) u]) Q E s := by
  k_with "MY body" =>
    refine H.lit (P := fun A => wpAny _ A _ _ _ _) ?_
    k_fill
    clear H
    intro dp un gd A₀ mean mg mb B F X N T loc kind room units
    have hlen : (S l).length = l.length := S_len l
    walk_at "MY enter"
    k_steps
    refine Halt.out ?_
    rename Fr _ _ _ _ => F1
    rename News _ _ _ _ => N1
    refine while_strs (news := news) (Str.ofString "at") [Str.ofString "sign"] (EncInv l kp) (fun i => l.length - i.toNat) F1 (news_pick N1 (.tail _ (.head _)) (by walk_at "MY sub")) rfl (enc_start l kp) ?_
    clear F1 N1
    intro i ti vs found n u' h1 tk1 hst hI F1 N1
    (try dsimp only)
    (try k_fold)
    obtain ⟨p, r, hl, ha, hn, hb, he⟩ := hI
    have hvl : vs.length = found.length := StrsAre.len_eq hst
    cases r with
    | nil =>
      have hll : l.length = p.length := by rw [hl]; simp
      k_steps
      refine join_S (News.isList (by k_asm) (.head _)) hst (by omega) ?_
      intro t' k'
      (try dsimp only)
      (try k_fold)
      k_steps
      rw [encS_nil] at he
      exact ret _ (by rw [he]; simp) _ _ _ ⟨_, rfl⟩ (by k_asm) (cb_drop (by k_asm) (by walk_at "MY sub"))
    | cons c r =>
      have hll : l.length = p.length + 1 + r.length := by rw [hl]; simp; omega
      have hx : Txt.item (S l) i = S [c] := item0 hl ha
      have hfd := found_S (kp := kp) hx
      k_steps
      · have hnk : ¬ c ∈ kp := by
          have q : (Builtin.Str.occurrences (S kp) (Txt.item (S l) i) 0 (S kp).length 1).isEmpty = true := by assumption
          rw [hfd] at q; simpa using q
        refine whole_ok l p c r hl (by omega) _ _ _ ha (by walk_at "MY here") ?_ ?_
        · intro sg hsg v h' tk' ⟨t', hv⟩ F' N'
          subst hv
          (try dsimp only)
          (try k_fold)
          have hsl := (sa_le hsg (hc c (by rw [hl]; simp))).1
          k_steps
          refine Halt.out ?_
          refine comp_strs octT (by k_asm) rfl (by with_unfolding_all rfl) (by decide) (by with_unfolding_all rfl) (by decide) (by with_unfolding_all rfl) (by intro _; with_unfolding_all rfl) ?_
          k_steps
          rename News _ _ _ _ => N3
          refine Halt.out ⟨_, _, _, octs sg, rfl, News.isList N3 (.head _), (by assumption), Nat.le_trans (octs_len sg) (by decide), (by k_asm), N3, ?_, ?_⟩
          · intro C n tok s₂ m₂ E' hmem hns hm₂ hkp
            obtain ⟨h2, g2, d2, t2, o2⟩ := s₂
            have F4 := Fr.keeps (by k_asm : Fr _ _ _ _) hkp
            have N4 := News.grown N3 hkp
            have hn256 := octs_lt hsl hmem
            k_steps
            exact Halt.out ⟨⟨_, rfl⟩, _, _, rfl, by assumption⟩
          · intro D arr' k2 h' tk' F' N' hne' hst'
            (try dsimp only)
            (try k_fold)
            k_steps
            refine join_S (News.isList (by k_asm) (.head _)) hst' (by rw [cat_map, octT_len]; have := octs_len sg; omega) ?_
            intro t' k'
            rw [cat_map]
            (try dsimp only)
            (try k_fold)
            rename News _ _ _ _ => N6
            have N7 := news_pick (news := news) N6 (.tail _ (.tail _ (.head _))) (by walk_at "MY sub")
            clear N6
            k_steps
            all_goals (dsimp only; refine endW (by k_asm) (by k_asm) (by k_mem) (by walk_at "MY sub") (by with_unfolding_all rfl) (by ksw_same) (by simpa using StrsAre.append' hst (StrsAre.cons _ _ .nil)) (enc_sign hl ha hn hb he hnk hsg (hc c (by rw [hl]; simp)) (by first | rw [if_pos (by omega)] | rw [if_neg (by omega)])) (by omega))
        · intro hs e' h' tk' R'
          (try dsimp only)
          (try k_fold)
          k_steps
          exact exc (by rw [he, encS_none hnk hs]; rfl) _ _ _ (exc_sub (by assumption) (by walk_at "MY sub"))
      · have hk : c ∈ kp := by
          have q : (Builtin.Str.occurrences (S kp) (Txt.item (S l) i) 0 (S kp).length 1).isEmpty = false := by assumption
          rw [hfd] at q; simpa using q
        dsimp only
        refine endW (by k_asm) (by k_asm) (by k_mem) (by walk_at "MY sub") (by with_unfolding_all rfl) (by ksw_same) (by simpa [hx] using StrsAre.append' hst (StrsAre.cons _ _ .nil)) (enc_kept hl ha hn hb he hk) (by omega)
  run_tac go
end

end
section
theorem kw_SH : True := by
  w_top off
  k_with_none
  k_with "MY room" => (first
      | ((try simp only [depth_under_make, depth_under_kw, depth_in1, depth_deeper, depth_caller, Around.mark]); (try dsimp only); omega)
      | ((try simp only [depth_under_make, depth_under_kw, depth_in1, depth_deeper, depth_caller, Around.mark]); (try dsimp only); simp only [recursionLimit] at *; omega))
  k_with "MY units" => ((have hcL9_k := cLine_is; (try simp only [units_in1, units_deeper, Around.mark_units, units_caller]); (try dsimp only); omega))
  k_with "MY enter" => ((refine wpAny_call ?_; k_dflt (refine' code_def ?k1 ?k2 ?k3 ?k4 ?k5 ?kA ?kF ?kK ?k6 ?k7 ?k8 ?k9 ?kB ?_ ?c2 ?c3 ?c4 ?c5; (case kA => exact rfl); (case kF => first | exact rfl | assumption); (case kK => first | exact rfl | assumption); (case k1 => k_asm); (case k2 => k_asm); (case k3 => k_asm); (case k4 => k_asm); (case k5 => k_asm); (case k6 => k_is); (case k7 => k_is); (case k8 => walk_at "MY room"); (case k9 => exact BindsTo.of_eq rfl); (case c5 => decide); (case kB => exact locs rfl); (case c2 => exact rfl); (case c3 => exact rfl); (case c4 => exact rfl); k_whole; intro g'_k L'_k h'_k FG'_k F'_k N'_k B'_k X'_k T'_k; (try dsimp only); (try k_lift B'_k); (try k_fold))))
  k_with "MY here" => ((refine' Here.mk ⟨_, ?h1⟩ ?h2 ?h3 ?h4 ⟨_, _, _, ?h5⟩ ?h6 ?h7 ?h8 ?h9 ?h10 ?h11; (case h6 => exact rfl); (case h1 => k_asm); (case h2 => k_asm); (case h3 => k_asm); (case h4 => k_asm); (case h5 => k_asm); (case h7 => first | exact rfl | assumption); (case h8 => first | exact rfl | assumption); (case h9 => exact rfl); (case h10 => walk_at "MY room"); (case h11 => walk_at "MY units")))
  k_with "MY sub" => ((intro p'_k hp'_k; first | exact hp'_k | (repeat (first | exact hp'_k | refine List.Mem.tail _ ?_))))
  k_with "MY fresh" => (first | assumption | (refine lt_of_all ?_; first | assumption | exact And.right (by assumption) | exact And.right (And.right (by assumption)) | exact And.right (And.right (And.right (by assumption))) | exact And.right (And.right (And.right (And.right (by assumption)))) | exact And.right (And.right (And.right (And.right (And.right (by assumption))))) | exact And.right (And.right (And.right (And.right (And.right (And.right (by assumption)))))) | exact And.right (And.right (And.right (And.right (And.right (And.right (And.right (by assumption)))))))))
  k_with "MY enterG" => ((refine wpAny_call ?_; k_dflt (refine' code_defG ?k1 ?k2 ?k3 ?k4 ?k5 ?kA ?kF ?kK ?k6 ?k7 ?k8 ?k9 ?kB ?_ ?c2 ?c3 ?c4 ?c5; (case kA => exact rfl); (case kF => first | exact rfl | assumption); (case kK => first | exact rfl | assumption); (case k1 => k_asm); (case k2 => k_asm); (case k3 => k_asm); (case k4 => k_asm); (case k5 => k_asm); (case k6 => k_is); (case k7 => k_is); (case k8 => walk_at "MY room"); (case k9 => exact BindsTo.of_eq rfl); (case c5 => decide); (case kB => exact locs rfl); (case c2 => exact rfl); (case c3 => exact rfl); (case c4 => exact rfl); k_whole; intro g'_k L'_k h'_k FG'_k F'_k N'_k B'_k X'_k T'_k kG'_k; (try dsimp only); (try k_lift B'_k); (try k_fold))))
  k_with "MY kept" => ((rename GSub _ _ _ => kG9_k; exact elt_after (InElt.start _) kG9_k (by assumption) (by assumption) (by assumption) (by walk_at "MY sub")))
  k_with "MY subr" => ((intro p'_k hp'_k; first | exact hp'_k | (repeat (first | exact hp'_k | exact List.mem_append_left _ hp'_k | exact List.mem_append_right _ hp'_k | refine List.Mem.tail _ ?_))))
  k_with "MY same" => ((intro z_k h1_k h2_k h3_k; first
      | rfl
      | ((try simp only [List.contains_cons, List.contains_nil, Bool.or_false, Bool.or_eq_false_iff, beq_eq_false_iff_ne, ne_eq] at h3_k); (simp [h1_k, h2_k, h3_k]; done))))
  k_with "MY enterC" => ((refine wpAny_call ?_; k_dflt (refine' code_defC ?k1 ?k2 ?k3 ?k4 ?k5 ?kA ?kF ?kK ?k6 ?k7 ?k8 ?k9 ?kB ?kD ?_ ?c2 ?c3 ?c4; (case kA => exact rfl); (case kF => first | exact rfl | assumption); (case kK => first | exact rfl | assumption); (case k1 => k_asm); (case k2 => k_asm); (case k3 => k_asm); (case k4 => k_asm); (case k5 => k_asm); (case k6 => k_is); (case k7 => k_is); (case k8 => walk_at "MY room"); (case k9 => exact BindsTo.of_eq rfl); (case kB => exact rfl); (case kD => decide +kernel); (case c2 => exact rfl); (case c3 => exact rfl); (case c4 => exact rfl); k_whole; intro g'_k L'_k h'_k tk'_k cells'_k FG'_k F'_k N'_k Y'_k B'_k X'_k T'_k l1_k; (try k_lt l1_k); k_cells Y'_k; (try simp only [List.cons_append, List.nil_append] at N'_k); (try dsimp only); (try k_lift B'_k); (try k_fold))))
  k_with "MY enterT" => ((refine wpAny_call ?_; k_dflt (refine' code_defT ?k1 ?k2 ?k3 ?k4 ?k5 ?kA ?kF ?kK ?k6 ?k7 ?k8 ?k9 ?kB ?_ ?c2 ?c3 ?c4 ?c5; (case kA => exact rfl); (case kF => first | exact rfl | assumption); (case kK => first | exact rfl | assumption); (case k1 => k_asm); (case k2 => k_asm); (case k3 => k_asm); (case k4 => k_asm); (case k5 => k_asm); (case k6 => k_is); (case k7 => k_is); (case k8 => walk_at "MY room"); (case k9 => exact BindsTo.of_eq rfl); (case c5 => decide); (case kB => exact locs rfl); (case c2 => exact rfl); (case c3 => exact rfl); (case c4 => exact rfl); k_whole; intro g'_k L'_k h'_k FG'_k F'_k N'_k B'_k X'_k T'_k; (try dsimp only); (try k_lift B'_k); (try k_fold))))
  trivial
/-- the worth of a hexadecimal digit -/
def hexv (c : Nat) : Option Nat := if 48 ≤ c ∧ c ≤ 57 then some (c - 48) else if 65 ≤ c ∧ c ≤ 70 then some (c - 55) else if 97 ≤ c ∧ c ≤ 102 then some (c - 87) else none
def hexN : List Nat → Option Nat := fun l => l.foldl (fun o c => match o, hexv c with | some n, some d => some (n * 16 + d) | _, _ => none) (some 0)
abbrev lowL : List Nat := [48, 49, 50, 51, 52, 53, 54, 55, 56, 57, 97, 98, 99, 100, 101, 102]
theorem lowS : Str.ofString "0123456789abcdef" = S lowL := by decide +kernel
theorem find_not {l : List Nat} {c : Nat} (h : ¬ c ∈ l) : Txt.find (S l) (S [c]) = -1 := by
  k_with "MY body" =>
    have := StrLaws.found_one (S l) c
    unfold Txt.find
    split
    · rename_i i r e
      have e' : Builtin.Str.occurrences (S l) ⟨#[c]⟩ 0 (S l).length 1 = i :: r := e
      rw [e'] at this
      simp at this
      exact absurd this h
    · rfl
  run_tac go
theorem find_hex {c : Nat} (h : c ∈ hexL) : Txt.find (S hexL) (S [c]) = ((if c ≤ 57 then c - 48 else c - 55 : Nat) : Int) := by
  k_with "MY body" =>
    have : ∀ c ∈ hexL, Txt.find (S hexL) (S [c]) = ((if c ≤ 57 then c - 48 else c - 55 : Nat) : Int) := by decide +kernel
    exact this c h
  run_tac go
theorem find_low {c : Nat} (h : c ∈ lowL) : Txt.find (S lowL) (S [c]) = ((if c ≤ 57 then c - 48 else c - 87 : Nat) : Int) := by
  k_with "MY body" =>
    have : ∀ c ∈ lowL, Txt.find (S lowL) (S [c]) = ((if c ≤ 57 then c - 48 else c - 87 : Nat) : Int) := by decide +kernel
    exact this c h
  run_tac go
theorem mem_hex {c : Nat} : c ∈ hexL ↔ (48 ≤ c ∧ c ≤ 57) ∨ (65 ≤ c ∧ c ≤ 70) := by simp [hexL]; omega
theorem mem_low {c : Nat} : c ∈ lowL ↔ (48 ≤ c ∧ c ≤ 57) ∨ (97 ≤ c ∧ c ≤ 102) := by simp [lowL]; omega
theorem find_some {c d : Nat} (h : hexv c = some d) : max (Txt.find (S hexL) (S [c])) (Txt.find (S lowL) (S [c])) = (d : Int) ∧ d < 16 := by
  k_with "MY body" =>
    unfold hexv at h
    by_cases h1 : 48 ≤ c ∧ c ≤ 57
    · rw [if_pos h1] at h; cases h
      rw [find_hex (mem_hex.mpr (.inl h1)), find_low (mem_low.mpr (.inl h1)), if_pos h1.2, if_pos h1.2]
      exact ⟨by omega, by omega⟩
    by_cases h2 : 65 ≤ c ∧ c ≤ 70
    · rw [if_neg h1, if_pos h2] at h; cases h
      rw [find_hex (mem_hex.mpr (.inr h2)), find_not (l := lowL) (by rw [mem_low]; omega), if_neg (by omega)]
      exact ⟨by omega, by omega⟩
    by_cases h3 : 97 ≤ c ∧ c ≤ 102
    · rw [if_neg h1, if_neg h2, if_pos h3] at h; cases h
      rw [find_low (mem_low.mpr (.inr h3)), find_not (l := hexL) (by rw [mem_hex]; omega), if_neg (by omega)]
      exact ⟨by omega, by omega⟩
    · rw [if_neg h1, if_neg h2, if_neg h3] at h; cases h
  run_tac go
theorem find_none {c : Nat} (h : hexv c = none) : max (Txt.find (S hexL) (S [c])) (Txt.find (S lowL) (S [c])) = -1 := by
  k_with "MY body" =>
    unfold hexv at h
    by_cases h1 : 48 ≤ c ∧ c ≤ 57
    · rw [if_pos h1] at h; cases h
    by_cases h2 : 65 ≤ c ∧ c ≤ 70
    · rw [if_neg h1, if_pos h2] at h; cases h
    by_cases h3 : 97 ≤ c ∧ c ≤ 102
    · rw [if_neg h1, if_neg h2, if_pos h3] at h; cases h
    rw [find_not (l := hexL) (by rw [mem_hex]; omega), find_not (l := lowL) (by rw [mem_low]; omega)]
    rfl
  run_tac go
theorem hexN_snoc (l : List Nat) (c : Nat) : hexN (l ++ [c]) = match hexN l, hexv c with | some n, some d => some (n * 16 + d) | _, _ => none := by
  k_with "MY body" =>
    unfold hexN; rw [List.foldl_append]; rfl
  run_tac go
theorem hexN_none {l : List Nat} (r : List Nat) (h : hexN l = none) : hexN (l ++ r) = none := by
  k_with "MY body" =>
    induction r generalizing l with
    | nil => simpa using h
    | cons c r ih =>
      have e : l ++ c :: r = (l ++ [c]) ++ r := by simp
      rw [e]
      refine ih ?_
      rw [hexN_snoc, h]
  run_tac go
/-- what stands between two turns of hex_value's loop: the signs so far are digits, their worth is v -/
def HexP (pre : List Int) (v : Value) : Prop := ∃ p n t, pre = Z p ∧ hexN p = some n ∧ v = .int (n : Nat) t ∧ n < 16 ^ p.length
theorem hex_start (t : Tok) : HexP [] (.int 0 t) := ⟨[], 0, t, rfl, rfl, rfl, by decide⟩
theorem Z_snoc (p : List Nat) (n : Nat) : Z p ++ [(n : Int)] = Z (p ++ [n]) := by simp [Z]
theorem Z_inj {a b : List Nat} (h : Z a = Z b) : a = b := by
  k_with "MY body" =>
    have e : ∀ l : List Nat, (Z l).map Int.toNat = l := fun l => by
      rw [List.map_map]; exact (List.map_congr_left (g := _root_.id) fun c _ => Int.toNat_natCast c).trans (List.map_id _)
    rw [← e a, ← e b, h]
  run_tac go
theorem Z_split {l : List Nat} {p : List Nat} {n : Nat} {post : List Int} (h : Z l = Z p ++ (n : Int) :: post) : ∃ q, l = p ++ n :: q := by
  k_with "MY body" =>
    refine ⟨post.map Int.toNat, Z_inj ?_⟩
    have e : post = Z (post.map Int.toNat) := by
      have : ∀ x ∈ post, ∃ k : Nat, x = k := fun x hx => by
        have : x ∈ Z l := by rw [h]; simp [hx]
        obtain ⟨k, _, rfl⟩ := List.mem_map.mp this
        exact ⟨k, rfl⟩
      show post = (post.map Int.toNat).map (fun (n : Nat) => (n : Int))
      rw [List.map_map]
      conv => lhs; rw [← List.map_id post]
      refine List.map_congr_left fun x hx => ?_
      obtain ⟨k, rfl⟩ := this x hx
      simp
    rw [h]
    conv => lhs; rw [e]
    simp [Z]
  run_tac go
theorem hex_step {p : List Nat} {k d n : Nat} {t : Tok} {x : Int} (hn : hexN p = some k) (hd : hexv n = some d) (hlt : k < 16 ^ p.length) (hx : x = ((k * 16 + d : Nat) : Int)) (hd16 : d < 16) : HexP (Z p ++ [(n : Int)]) (.int x t) := by
  k_with "MY body" =>
    refine ⟨p ++ [n], k * 16 + d, t, Z_snoc p n, by rw [hexN_snoc, hn, hd], by rw [hx], ?_⟩
    rw [List.length_append, List.length_cons, List.length_nil, Nat.pow_add, Nat.zero_add, Nat.pow_one]
    omega
  run_tac go
end
section
theorem kw_W2 : True := by
  w_top off
  k_with_none
  k_with "MY room" => (first
      | ((try simp only [depth_under_make, depth_under_kw, depth_in1, depth_deeper, depth_caller, Around.mark]); (try dsimp only); omega)
      | ((try simp only [depth_under_make, depth_under_kw, depth_in1, depth_deeper, depth_caller, Around.mark]); (try dsimp only); simp only [recursionLimit] at *; omega))
  k_with "MY units" => ((have hcL9_k := cLine_is; (try simp only [units_in1, units_deeper, Around.mark_units, units_caller]); (try dsimp only); omega))
  k_with "MY enter" => ((refine wpAny_call ?_; k_dflt (refine' code_def ?k1 ?k2 ?k3 ?k4 ?k5 ?kA ?kF ?kK ?k6 ?k7 ?k8 ?k9 ?kB ?_ ?c2 ?c3 ?c4 ?c5; (case kA => exact rfl); (case kF => first | exact rfl | assumption); (case kK => first | exact rfl | assumption); (case k1 => k_asm); (case k2 => k_asm); (case k3 => k_asm); (case k4 => k_asm); (case k5 => k_asm); (case k6 => k_is); (case k7 => k_is); (case k8 => walk_at "MY room"); (case k9 => exact BindsTo.of_eq rfl); (case c5 => decide); (case kB => exact locs rfl); (case c2 => exact rfl); (case c3 => exact rfl); (case c4 => exact rfl); k_whole; intro g'_k L'_k h'_k FG'_k F'_k N'_k B'_k X'_k T'_k; (try dsimp only); (try k_lift B'_k); (try k_fold))))
  k_with "MY here" => ((refine' Here.mk ⟨_, ?h1⟩ ?h2 ?h3 ?h4 ⟨_, _, _, ?h5⟩ ?h6 ?h7 ?h8 ?h9 ?h10 ?h11; (case h6 => exact rfl); (case h1 => k_asm); (case h2 => k_asm); (case h3 => k_asm); (case h4 => k_asm); (case h5 => k_asm); (case h7 => first | exact rfl | assumption); (case h8 => first | exact rfl | assumption); (case h9 => exact rfl); (case h10 => walk_at "MY room"); (case h11 => walk_at "MY units")))
  k_with "MY sub" => ((intro p'_k hp'_k; first | exact hp'_k | (repeat (first | exact hp'_k | refine List.Mem.tail _ ?_))))
  k_with "MY fresh" => (first | assumption | (refine lt_of_all ?_; first | assumption | exact And.right (by assumption) | exact And.right (And.right (by assumption)) | exact And.right (And.right (And.right (by assumption))) | exact And.right (And.right (And.right (And.right (by assumption)))) | exact And.right (And.right (And.right (And.right (And.right (by assumption))))) | exact And.right (And.right (And.right (And.right (And.right (And.right (by assumption)))))) | exact And.right (And.right (And.right (And.right (And.right (And.right (And.right (by assumption)))))))))
  k_with "MY enterG" => ((refine wpAny_call ?_; k_dflt (refine' code_defG ?k1 ?k2 ?k3 ?k4 ?k5 ?kA ?kF ?kK ?k6 ?k7 ?k8 ?k9 ?kB ?_ ?c2 ?c3 ?c4 ?c5; (case kA => exact rfl); (case kF => first | exact rfl | assumption); (case kK => first | exact rfl | assumption); (case k1 => k_asm); (case k2 => k_asm); (case k3 => k_asm); (case k4 => k_asm); (case k5 => k_asm); (case k6 => k_is); (case k7 => k_is); (case k8 => walk_at "MY room"); (case k9 => exact BindsTo.of_eq rfl); (case c5 => decide); (case kB => exact locs rfl); (case c2 => exact rfl); (case c3 => exact rfl); (case c4 => exact rfl); k_whole; intro g'_k L'_k h'_k FG'_k F'_k N'_k B'_k X'_k T'_k kG'_k; (try dsimp only); (try k_lift B'_k); (try k_fold))))
  k_with "MY kept" => ((rename GSub _ _ _ => kG9_k; exact elt_after (InElt.start _) kG9_k (by assumption) (by assumption) (by assumption) (by walk_at "MY sub")))
  k_with "MY subr" => ((intro p'_k hp'_k; first | exact hp'_k | (repeat (first | exact hp'_k | exact List.mem_append_left _ hp'_k | exact List.mem_append_right _ hp'_k | refine List.Mem.tail _ ?_))))
  k_with "MY same" => ((intro z_k h1_k h2_k h3_k; first
      | rfl
      | ((try simp only [List.contains_cons, List.contains_nil, Bool.or_false, Bool.or_eq_false_iff, beq_eq_false_iff_ne, ne_eq] at h3_k); (simp [h1_k, h2_k, h3_k]; done))))
  k_with "MY enterC" => ((refine wpAny_call ?_; k_dflt (refine' code_defC ?k1 ?k2 ?k3 ?k4 ?k5 ?kA ?kF ?kK ?k6 ?k7 ?k8 ?k9 ?kB ?kD ?_ ?c2 ?c3 ?c4; (case kA => exact rfl); (case kF => first | exact rfl | assumption); (case kK => first | exact rfl | assumption); (case k1 => k_asm); (case k2 => k_asm); (case k3 => k_asm); (case k4 => k_asm); (case k5 => k_asm); (case k6 => k_is); (case k7 => k_is); (case k8 => walk_at "MY room"); (case k9 => exact BindsTo.of_eq rfl); (case kB => exact rfl); (case kD => decide +kernel); (case c2 => exact rfl); (case c3 => exact rfl); (case c4 => exact rfl); k_whole; intro g'_k L'_k h'_k tk'_k cells'_k FG'_k F'_k N'_k Y'_k B'_k X'_k T'_k l1_k; (try k_lt l1_k); k_cells Y'_k; (try simp only [List.cons_append, List.nil_append] at N'_k); (try dsimp only); (try k_lift B'_k); (try k_fold))))
  k_with "MY enterT" => ((refine wpAny_call ?_; k_dflt (refine' code_defT ?k1 ?k2 ?k3 ?k4 ?k5 ?kA ?kF ?kK ?k6 ?k7 ?k8 ?k9 ?kB ?_ ?c2 ?c3 ?c4 ?c5; (case kA => exact rfl); (case kF => first | exact rfl | assumption); (case kK => first | exact rfl | assumption); (case k1 => k_asm); (case k2 => k_asm); (case k3 => k_asm); (case k4 => k_asm); (case k5 => k_asm); (case k6 => k_is); (case k7 => k_is); (case k8 => walk_at "MY room"); (case k9 => exact BindsTo.of_eq rfl); (case c5 => decide); (case kB => exact locs rfl); (case c2 => exact rfl); (case c3 => exact rfl); (case c4 => exact rfl); k_whole; intro g'_k L'_k h'_k FG'_k F'_k N'_k B'_k X'_k T'_k; (try dsimp only); (try k_lift B'_k); (try k_fold))))
  trivial
/-- the end of a turn of a for that turns one name -/
def EndV (s : Shared) (h₀ : Heap) (L : Addr) (x nV : Str) (stored : List Str) (m₀ : Str → Option Value) (news own : List (Addr × Obj)) (P : Value → Prop) (s₃ : Shared) : Prop :=
  ∃ h' tk' m' news' v, s₃ = { s with heap := h', toks := tk' } ∧ Fr h₀ L h' m' ∧ News h₀ L h' news' ∧ (∀ p ∈ news, p ∈ news') ∧ (∀ p ∈ own, p ∈ news') ∧ m' nV = some v ∧ (∀ z, z ≠ x → z ≠ nV → stored.contains z = false → m' z = m₀ z) ∧ P v
theorem endV {s : Shared} {h₀ : Heap} {L : Addr} {x nV : Str} {stored : List Str} {m₀ : Str → Option Value} {news own : List (Addr × Obj)} {P : Value → Prop} {h' : Heap} {tk' : Nat} {m' : Str → Option Value} {news' : List (Addr × Obj)} {v : Value}
    (F : Fr h₀ L h' m') (N : News h₀ L h' news') (sub : ∀ p ∈ news, p ∈ news') (subO : ∀ p ∈ own, p ∈ news') (hk : m' nV = some v) (hr : ∀ z, z ≠ x → z ≠ nV → stored.contains z = false → m' z = m₀ z) (hp : P v) :
    EndV s h₀ L x nV stored m₀ news own P { s with heap := h', toks := tk' } := ⟨h', tk', m', news', v, rfl, F, N, sub, subO, hk, hr, hp⟩
theorem endV_inv {α : Type} {s : Shared} {h₀ : Heap} {L : Addr} {x nV : Str} {stored : List Str} {m₀ : Str → Option Value} {news own : List (Addr × Obj)} {Pr : List Int → Value → Prop} {pre : List Int} {s₃ : Shared}
    (_a : α) (h : EndV s h₀ L x nV stored m₀ news own (Pr pre) s₃) : InvEndN h₀ L (KstS (fun _ => news) (fun c : Value => [(nV, c)]) (fun _ => True) x stored m₀ Pr pre) own (news.map (·.1)) s s₃ := by
  k_with "MY body" =>
    obtain ⟨h', tk', m', news', v, rfl, F, N, sub, subO, hk, hr, hp⟩ := h
    refine InvEndN.intro F N ⟨v, rfl, trivial, fun p hp => by rw [List.mem_singleton.mp hp]; exact hk, fun z h1 h2 h3 => hr z h1 (h2 _ (.head _)) h3, hp⟩ rfl sub subO
  run_tac go
abbrev codesN (l : List Nat) : List Int := Z l
theorem codes_S (l : List Nat) : KStt.codes (S l) = Z l := by simp [KStt.codes, S]
section
variable {prog : Program} {w : World} {A : Around} {E : Value → Shared → Prop} {s : Shared} {env : Env} {h₀ : Heap} {body : List Stmt} {Q : Flow → Shared → Prop} {m₀ : Str → Option Value} {news : List (Addr × Obj)}
theorem for_text {x : Str} {px pos : Pos} {iter : PySem.Expr} {l : List Nat} {tx : Tok} (nV : Str) (stored : List Str) (P : List Int → Value → Prop) {v₀ : Value} (hh : A.handled = none)
    (F : Fr h₀ env.locals s.heap m₀) (N : News h₀ env.locals s.heap news) (hx : env.kindOf x = some .local) (hpk : (env.scope.kind == .class || (env.scope.kind == .module && env.locals != env.globals)) = false)
    (hi : ∀ R, R (.str (S l) tx) s → wpAny (model prog w) A (eval iter env) R E s) (hk : m₀ nV = some v₀) (hp : P [] v₀)
    (turn : ∀ (v : Value) (pre : List Int) (n : Nat) (post : List Int) (t : Tok) (u : Str → Option Value) (h : Heap) (tk : Nat) (own : List (Addr × Obj)), Z l = pre ++ (n : Int) :: post → P pre v →
      Fr h₀ env.locals h (fun y => if y = x then some (.str (S [n]) t) else if y = nV then some v else if stored.contains y = true then u y else m₀ y) → News h₀ env.locals h (news ++ own) →
      wpAny (model prog w) A (execs body env) (fun f s₃ => match f with
        | .ret r => Q (.ret r) s₃
        | .brk => Q .next s₃
        | _ => EndV s h₀ env.locals x nV stored m₀ news own (P (pre ++ [(n : Int)])) s₃) E { s with heap := h, toks := tk })
    (done : ∀ (v : Value) (u : Str → Option Value) (h : Heap) (tk : Nat), P (Z l) v → Fr h₀ env.locals h (fun y => if y = x then u y else if y = nV then some v else if stored.contains y = true then u y else m₀ y) → News h₀ env.locals h news → Q .next { s with heap := h, toks := tk })
    (hs : ∀ x, foldedSetIterable iter env x = pure x := by intro _; rfl) (hE : PassesOwn (model prog w) A env E := by passes_own) :
    wpAny (model prog w) A (exec (.For (.Name x px) iter body [] pos) env) Q E s := by
  refine For_invV h₀ hx hpk (hi _ ?_) hs hE
  refine KStt.kst_text (σ := Value) (fun _ => news) (fun c => [(nV, c)]) (fun _ => True) stored P v₀ hh F N trivial (fun p hp => by rw [List.mem_singleton.mp hp]; exact hk) hp ?_ ?_
  · intro c pre post n t u h tk own hc hoff _ hP F' N'
    rw [codes_S] at hc
    refine wpAny_mono (turn c pre n post t u h tk own hc hP F' N') (fun f s₃ q => ?_) fun _ _ e => e
    have up : EndV s h₀ env.locals x nV stored m₀ news own (P (pre ++ [(n : Int)])) s₃ → EndV { s with heap := h, toks := tk } h₀ env.locals x nV stored m₀ news own (P (pre ++ [(n : Int)])) s₃ := fun ⟨h', tk', m', news', v, e, r⟩ => ⟨h', tk', m', news', v, e, r⟩
    cases f with
    | ret v => exact q
    | brk => exact q
    | next => exact endV_inv () (up q)
    | cont => exact endV_inv () (up q)
  · intro c u h tk _ hP F' N'
    rw [codes_S] at hP
    exact done c u h tk hP F' N'
theorem for_list {x : Str} {px pos : Pos} {iter : PySem.Expr} {a : Addr} {vs : List Value} {ns : List Int} {nn : Nat} (nV : Str) (stored : List Str) (P : List Int → Value → Prop) {v₀ : Value} (hh : A.handled = none)
    (F : Fr h₀ env.locals s.heap m₀) (N : News h₀ env.locals s.heap news) (hx : env.kindOf x = some .local) (hpk : (env.scope.kind == .class || (env.scope.kind == .module && env.locals != env.globals)) = false)
    (hi : ∀ R, R (.ref a) s → wpAny (model prog w) A (eval iter env) R E s) (hm : (a, listOf vs.toArray nn) ∈ news) (hI : IntsAre vs ns) (hk : m₀ nV = some v₀) (hp : P [] v₀)
    (turn : ∀ (v : Value) (pre : List Int) (n : Int) (post : List Int) (t : Tok) (u : Str → Option Value) (h : Heap) (tk : Nat) (own : List (Addr × Obj)), ns = pre ++ n :: post → P pre v →
      Fr h₀ env.locals h (fun y => if y = x then some (.int n t) else if y = nV then some v else if stored.contains y = true then u y else m₀ y) → News h₀ env.locals h (news ++ own) →
      wpAny (model prog w) A (execs body env) (fun f s₃ => match f with
        | .ret r => Q (.ret r) s₃
        | .brk => Q .next s₃
        | _ => EndV s h₀ env.locals x nV stored m₀ news own (P (pre ++ [n])) s₃) E { s with heap := h, toks := tk })
    (done : ∀ (v : Value) (u : Str → Option Value) (h : Heap) (tk : Nat), P ns v → Fr h₀ env.locals h (fun y => if y = x then u y else if y = nV then some v else if stored.contains y = true then u y else m₀ y) → News h₀ env.locals h news → Q .next { s with heap := h, toks := tk })
    (hs : ∀ x, foldedSetIterable iter env x = pure x := by intro _; rfl) (hE : PassesOwn (model prog w) A env E := by passes_own) :
    wpAny (model prog w) A (exec (.For (.Name x px) iter body [] pos) env) Q E s := by
  refine For_invV h₀ hx hpk (hi _ ?_) hs hE
  refine kst_listL (σ := Value) (fun _ => news) (fun c => [(nV, c)]) (fun _ => True) stored P v₀ hh (fun _ => hm) hI F N trivial (fun p hp => by rw [List.mem_singleton.mp hp]; exact hk) hp ?_ ?_
  · intro c pre post n t u h tk own hc _ hoff _ hP F' N'
    refine wpAny_mono (turn c pre n post t u h tk own hc hP F' N') (fun f s₃ q => ?_) fun _ _ e => e
    have up : EndV s h₀ env.locals x nV stored m₀ news own (P (pre ++ [n])) s₃ → EndV { s with heap := h, toks := tk } h₀ env.locals x nV stored m₀ news own (P (pre ++ [n])) s₃ := fun ⟨h', tk', m', news', v, e, r⟩ => ⟨h', tk', m', news', v, e, r⟩
    cases f with
    | ret v => exact q
    | brk => exact q
    | next => exact endV_inv () (up q)
    | cont => exact endV_inv () (up q)
  · intro c u h tk _ hP F' N'
    exact done c u h tk hP F' N'
end

end
section
theorem kw_SL : True := by
  w_top off
  k_with_none
  k_with "MY room" => (first
      | ((try simp only [depth_under_make, depth_under_kw, depth_in1, depth_deeper, depth_caller, Around.mark]); (try dsimp only); omega)
      | ((try simp only [depth_under_make, depth_under_kw, depth_in1, depth_deeper, depth_caller, Around.mark]); (try dsimp only); simp only [recursionLimit] at *; omega))
  k_with "MY units" => ((have hcL9_k := cLine_is; (try simp only [units_in1, units_deeper, Around.mark_units, units_caller]); (try dsimp only); omega))
  k_with "MY enter" => ((refine wpAny_call ?_; k_dflt (refine' code_def ?k1 ?k2 ?k3 ?k4 ?k5 ?kA ?kF ?kK ?k6 ?k7 ?k8 ?k9 ?kB ?_ ?c2 ?c3 ?c4 ?c5; (case kA => exact rfl); (case kF => first | exact rfl | assumption); (case kK => first | exact rfl | assumption); (case k1 => k_asm); (case k2 => k_asm); (case k3 => k_asm); (case k4 => k_asm); (case k5 => k_asm); (case k6 => k_is); (case k7 => k_is); (case k8 => walk_at "MY room"); (case k9 => exact BindsTo.of_eq rfl); (case c5 => decide); (case kB => exact locs rfl); (case c2 => exact rfl); (case c3 => exact rfl); (case c4 => exact rfl); k_whole; intro g'_k L'_k h'_k FG'_k F'_k N'_k B'_k X'_k T'_k; (try dsimp only); (try k_lift B'_k); (try k_fold))))
  k_with "MY here" => ((refine' Here.mk ⟨_, ?h1⟩ ?h2 ?h3 ?h4 ⟨_, _, _, ?h5⟩ ?h6 ?h7 ?h8 ?h9 ?h10 ?h11; (case h6 => exact rfl); (case h1 => k_asm); (case h2 => k_asm); (case h3 => k_asm); (case h4 => k_asm); (case h5 => k_asm); (case h7 => first | exact rfl | assumption); (case h8 => first | exact rfl | assumption); (case h9 => exact rfl); (case h10 => walk_at "MY room"); (case h11 => walk_at "MY units")))
  k_with "MY sub" => ((intro p'_k hp'_k; first | exact hp'_k | (repeat (first | exact hp'_k | refine List.Mem.tail _ ?_))))
  k_with "MY fresh" => (first | assumption | (refine lt_of_all ?_; first | assumption | exact And.right (by assumption) | exact And.right (And.right (by assumption)) | exact And.right (And.right (And.right (by assumption))) | exact And.right (And.right (And.right (And.right (by assumption)))) | exact And.right (And.right (And.right (And.right (And.right (by assumption))))) | exact And.right (And.right (And.right (And.right (And.right (And.right (by assumption)))))) | exact And.right (And.right (And.right (And.right (And.right (And.right (And.right (by assumption)))))))))
  k_with "MY enterG" => ((refine wpAny_call ?_; k_dflt (refine' code_defG ?k1 ?k2 ?k3 ?k4 ?k5 ?kA ?kF ?kK ?k6 ?k7 ?k8 ?k9 ?kB ?_ ?c2 ?c3 ?c4 ?c5; (case kA => exact rfl); (case kF => first | exact rfl | assumption); (case kK => first | exact rfl | assumption); (case k1 => k_asm); (case k2 => k_asm); (case k3 => k_asm); (case k4 => k_asm); (case k5 => k_asm); (case k6 => k_is); (case k7 => k_is); (case k8 => walk_at "MY room"); (case k9 => exact BindsTo.of_eq rfl); (case c5 => decide); (case kB => exact locs rfl); (case c2 => exact rfl); (case c3 => exact rfl); (case c4 => exact rfl); k_whole; intro g'_k L'_k h'_k FG'_k F'_k N'_k B'_k X'_k T'_k kG'_k; (try dsimp only); (try k_lift B'_k); (try k_fold))))
  k_with "MY kept" => ((rename GSub _ _ _ => kG9_k; exact elt_after (InElt.start _) kG9_k (by assumption) (by assumption) (by assumption) (by walk_at "MY sub")))
  k_with "MY subr" => ((intro p'_k hp'_k; first | exact hp'_k | (repeat (first | exact hp'_k | exact List.mem_append_left _ hp'_k | exact List.mem_append_right _ hp'_k | refine List.Mem.tail _ ?_))))
  k_with "MY same" => ((intro z_k h1_k h2_k h3_k; first
      | rfl
      | ((try simp only [List.contains_cons, List.contains_nil, Bool.or_false, Bool.or_eq_false_iff, beq_eq_false_iff_ne, ne_eq] at h3_k); (simp [h1_k, h2_k, h3_k]; done))))
  k_with "MY enterC" => ((refine wpAny_call ?_; k_dflt (refine' code_defC ?k1 ?k2 ?k3 ?k4 ?k5 ?kA ?kF ?kK ?k6 ?k7 ?k8 ?k9 ?kB ?kD ?_ ?c2 ?c3 ?c4; (case kA => exact rfl); (case kF => first | exact rfl | assumption); (case kK => first | exact rfl | assumption); (case k1 => k_asm); (case k2 => k_asm); (case k3 => k_asm); (case k4 => k_asm); (case k5 => k_asm); (case k6 => k_is); (case k7 => k_is); (case k8 => walk_at "MY room"); (case k9 => exact BindsTo.of_eq rfl); (case kB => exact rfl); (case kD => decide +kernel); (case c2 => exact rfl); (case c3 => exact rfl); (case c4 => exact rfl); k_whole; intro g'_k L'_k h'_k tk'_k cells'_k FG'_k F'_k N'_k Y'_k B'_k X'_k T'_k l1_k; (try k_lt l1_k); k_cells Y'_k; (try simp only [List.cons_append, List.nil_append] at N'_k); (try dsimp only); (try k_lift B'_k); (try k_fold))))
  k_with "MY enterT" => ((refine wpAny_call ?_; k_dflt (refine' code_defT ?k1 ?k2 ?k3 ?k4 ?k5 ?kA ?kF ?kK ?k6 ?k7 ?k8 ?k9 ?kB ?_ ?c2 ?c3 ?c4 ?c5; (case kA => exact rfl); (case kF => first | exact rfl | assumption); (case kK => first | exact rfl | assumption); (case k1 => k_asm); (case k2 => k_asm); (case k3 => k_asm); (case k4 => k_asm); (case k5 => k_asm); (case k6 => k_is); (case k7 => k_is); (case k8 => walk_at "MY room"); (case k9 => exact BindsTo.of_eq rfl); (case c5 => decide); (case kB => exact locs rfl); (case c2 => exact rfl); (case c3 => exact rfl); (case c4 => exact rfl); k_whole; intro g'_k L'_k h'_k FG'_k F'_k N'_k B'_k X'_k T'_k; (try dsimp only); (try k_lift B'_k); (try k_fold))))
  trivial
theorem slice_S {l : List Nat} {x y : Int} (a b : Nat) (hx : x = a) (hy : y = b) (h : a ≤ b) (ha : a ≤ l.length) : Txt.slice (S l) (some x) (some y) = S ((l.drop a).take (b - a)) := by
  k_with "MY body" =>
    subst hx hy
    have low : ∀ b, a ≤ b → b ≤ l.length → Txt.slice (S l) (some (a : Int)) (some (b : Int)) = S ((l.drop a).take (b - a)) := fun b h hb => by
      have := StrLaws.sliceText_nat (S l) h (by rw [S_len]; exact hb)
      exact this
    by_cases hb : b ≤ l.length
    · exact low b h hb
    · have e : Txt.slice (S l) (some (a : Int)) (some (b : Int)) = Txt.slice (S l) (some (a : Int)) (some (l.length : Int)) := by
        have i : Builtin.Str.strSliceIndices (some (a : Int)) (some (b : Int)) 1 (S l).length = Builtin.Str.strSliceIndices (some (a : Int)) (some (l.length : Int)) 1 (S l).length := by
          rw [S_len]
          have h2 : ¬ ((b : Int) < 0) := by omega
          have h3 : ¬ ((l.length : Int) < 0) := by omega
          have e2 : max (0 : Int) (min (b : Int) (l.length : Int)) = l.length := by omega
          have e3 : max (0 : Int) (min (l.length : Int) (l.length : Int)) = l.length := by omega
          simp only [Builtin.Str.strSliceIndices, h2, h3, if_false, e2, e3, show ((1 : Int) > 0) = True from by simp, if_true]
        unfold Txt.slice
        rw [i]
      rw [e, low _ ha (Nat.le_refl _)]
      have q : (l.drop a).length = l.length - a := by simp
      rw [← q, List.take_length, List.take_of_length_le (by omega)]
  run_tac go
theorem slice_mid {l p : List Nat} {r : List Nat} {x y : Int} (hl : l = p ++ r) (k j : Nat) (hx : x = (p.length + k : Nat)) (hy : y = (p.length + k + j : Nat)) (hk : k ≤ r.length) : Txt.slice (S l) (some x) (some y) = S ((r.drop k).take j) := by
  k_with "MY body" =>
    rw [slice_S _ _ hx hy (by omega) (by rw [hl]; simp; omega), hl]
    congr 2
    · omega
    · rw [List.drop_append, List.drop_of_length_le (by omega)]
      simp
  run_tac go
/-- the octet that three signs tell -/
def octA : List Nat → Option Nat
  | c :: a :: b :: _ => if c = 37 then hexN [a, b] else none
  | _ => none
theorem octA_short {r : List Nat} (h : r.length < 3) : octA r = none := by
  k_with "MY body" =>
    rcases r with _ | ⟨a, _ | ⟨b, _ | ⟨c, r⟩⟩⟩ <;> first | rfl | (simp at h; omega)
  run_tac go
theorem hexv_lt {c d : Nat} (h : hexv c = some d) : d < 16 := (find_some h).2
theorem octA_lt {r : List Nat} {n : Nat} (h : octA r = some n) : n < 256 := by
  rcases r with _ | ⟨c, _ | ⟨a, _ | ⟨b, r⟩⟩⟩ <;> first | (cases h; done) | skip
  simp only [octA] at h
  split at h
  · simp only [hexN, List.foldl] at h
    cases ha : hexv a with
    | none => rw [ha] at h; cases h
    | some d =>
      cases hb : hexv b with
      | none => rw [ha, hb] at h; cases h
      | some e =>
        rw [ha, hb] at h
        have := hexv_lt ha
        have := hexv_lt hb
        simp only [Option.some.injEq] at h
        omega
  · cases h

end
section
local macro_rules | `(tactic| k_all) => `(tactic| (intro p' hp'; exact Nat.ne_of_lt ((by walk_at "MY fresh" : ∀ q ∈ _, q.1 < _) p' hp')))
theorem kw_F5 : True := by
  w_top off
  k_with_none
  k_with "MY room" => (first
      | ((try simp only [depth_under_make, depth_under_kw, depth_in1, depth_deeper, depth_caller, Around.mark]); (try dsimp only); omega)
      | ((try simp only [depth_under_make, depth_under_kw, depth_in1, depth_deeper, depth_caller, Around.mark]); (try dsimp only); simp only [recursionLimit] at *; omega))
  k_with "MY units" => ((have hcL9_k := cLine_is; (try simp only [units_in1, units_deeper, Around.mark_units, units_caller]); (try dsimp only); omega))
  k_with "MY enter" => ((refine wpAny_call ?_; k_dflt (refine' code_def ?k1 ?k2 ?k3 ?k4 ?k5 ?kA ?kF ?kK ?k6 ?k7 ?k8 ?k9 ?kB ?_ ?c2 ?c3 ?c4 ?c5; (case kA => exact rfl); (case kF => first | exact rfl | assumption); (case kK => first | exact rfl | assumption); (case k1 => k_asm); (case k2 => k_asm); (case k3 => k_asm); (case k4 => k_asm); (case k5 => k_asm); (case k6 => k_is); (case k7 => k_is); (case k8 => walk_at "MY room"); (case k9 => exact BindsTo.of_eq rfl); (case c5 => decide); (case kB => exact locs rfl); (case c2 => exact rfl); (case c3 => exact rfl); (case c4 => exact rfl); k_whole; intro g'_k L'_k h'_k FG'_k F'_k N'_k B'_k X'_k T'_k; (try dsimp only); (try k_lift B'_k); (try k_fold))))
  k_with "MY here" => ((refine' Here.mk ⟨_, ?h1⟩ ?h2 ?h3 ?h4 ⟨_, _, _, ?h5⟩ ?h6 ?h7 ?h8 ?h9 ?h10 ?h11; (case h6 => exact rfl); (case h1 => k_asm); (case h2 => k_asm); (case h3 => k_asm); (case h4 => k_asm); (case h5 => k_asm); (case h7 => first | exact rfl | assumption); (case h8 => first | exact rfl | assumption); (case h9 => exact rfl); (case h10 => walk_at "MY room"); (case h11 => walk_at "MY units")))
  k_with "MY sub" => ((intro p'_k hp'_k; first | exact hp'_k | (repeat (first | exact hp'_k | refine List.Mem.tail _ ?_))))
  k_with "MY fresh" => (first | assumption | (refine lt_of_all ?_; first | assumption | exact And.right (by assumption) | exact And.right (And.right (by assumption)) | exact And.right (And.right (And.right (by assumption))) | exact And.right (And.right (And.right (And.right (by assumption)))) | exact And.right (And.right (And.right (And.right (And.right (by assumption))))) | exact And.right (And.right (And.right (And.right (And.right (And.right (by assumption)))))) | exact And.right (And.right (And.right (And.right (And.right (And.right (And.right (by assumption)))))))))
  k_with "MY enterG" => ((refine wpAny_call ?_; k_dflt (refine' code_defG ?k1 ?k2 ?k3 ?k4 ?k5 ?kA ?kF ?kK ?k6 ?k7 ?k8 ?k9 ?kB ?_ ?c2 ?c3 ?c4 ?c5; (case kA => exact rfl); (case kF => first | exact rfl | assumption); (case kK => first | exact rfl | assumption); (case k1 => k_asm); (case k2 => k_asm); (case k3 => k_asm); (case k4 => k_asm); (case k5 => k_asm); (case k6 => k_is); (case k7 => k_is); (case k8 => walk_at "MY room"); (case k9 => exact BindsTo.of_eq rfl); (case c5 => decide); (case kB => exact locs rfl); (case c2 => exact rfl); (case c3 => exact rfl); (case c4 => exact rfl); k_whole; intro g'_k L'_k h'_k FG'_k F'_k N'_k B'_k X'_k T'_k kG'_k; (try dsimp only); (try k_lift B'_k); (try k_fold))))
  k_with "MY kept" => ((rename GSub _ _ _ => kG9_k; exact elt_after (InElt.start _) kG9_k (by assumption) (by assumption) (by assumption) (by walk_at "MY sub")))
  k_with "MY subr" => ((intro p'_k hp'_k; first | exact hp'_k | (repeat (first | exact hp'_k | exact List.mem_append_left _ hp'_k | exact List.mem_append_right _ hp'_k | refine List.Mem.tail _ ?_))))
  k_with "MY same" => ((intro z_k h1_k h2_k h3_k; first
      | rfl
      | ((try simp only [List.contains_cons, List.contains_nil, Bool.or_false, Bool.or_eq_false_iff, beq_eq_false_iff_ne, ne_eq] at h3_k); (simp [h1_k, h2_k, h3_k]; done))))
  k_with "MY enterC" => ((refine wpAny_call ?_; k_dflt (refine' code_defC ?k1 ?k2 ?k3 ?k4 ?k5 ?kA ?kF ?kK ?k6 ?k7 ?k8 ?k9 ?kB ?kD ?_ ?c2 ?c3 ?c4; (case kA => exact rfl); (case kF => first | exact rfl | assumption); (case kK => first | exact rfl | assumption); (case k1 => k_asm); (case k2 => k_asm); (case k3 => k_asm); (case k4 => k_asm); (case k5 => k_asm); (case k6 => k_is); (case k7 => k_is); (case k8 => walk_at "MY room"); (case k9 => exact BindsTo.of_eq rfl); (case kB => exact rfl); (case kD => decide +kernel); (case c2 => exact rfl); (case c3 => exact rfl); (case c4 => exact rfl); k_whole; intro g'_k L'_k h'_k tk'_k cells'_k FG'_k F'_k N'_k Y'_k B'_k X'_k T'_k l1_k; (try k_lt l1_k); k_cells Y'_k; (try simp only [List.cons_append, List.nil_append] at N'_k); (try dsimp only); (try k_lift B'_k); (try k_fold))))
  k_with "MY enterT" => ((refine wpAny_call ?_; k_dflt (refine' code_defT ?k1 ?k2 ?k3 ?k4 ?k5 ?kA ?kF ?kK ?k6 ?k7 ?k8 ?k9 ?kB ?_ ?c2 ?c3 ?c4 ?c5; (case kA => exact rfl); (case kF => first | exact rfl | assumption); (case kK => first | exact rfl | assumption); (case k1 => k_asm); (case k2 => k_asm); (case k3 => k_asm); (case k4 => k_asm); (case k5 => k_asm); (case k6 => k_is); (case k7 => k_is); (case k8 => walk_at "MY room"); (case k9 => exact BindsTo.of_eq rfl); (case c5 => decide); (case kB => exact locs rfl); (case c2 => exact rfl); (case c3 => exact rfl); (case c4 => exact rfl); k_whole; intro g'_k L'_k h'_k FG'_k F'_k N'_k B'_k X'_k T'_k; (try dsimp only); (try k_lift B'_k); (try k_fold))))
  k_with "call ref" => (((with_reducible show wpAny _ _ (call (Value.ref 49) _) _ _ _); refine high_ok _ _ (by walk_at "MY here") ?_; intro v'_k h'_k tk'_k hv'_k F'_k N'_k; subst hv'_k; (try dsimp only); (try k_fold)))
  k_with "call ref" => (((with_reducible show wpAny _ _ (call (Value.ref 56) _) _ _ _); refine low_ok _ _ (by walk_at "MY here") ?_; intro v'_k h'_k tk'_k hv'_k F'_k N'_k; subst hv'_k; (try dsimp only); (try k_fold)))
  k_with "call ref" => (((with_reducible show wpAny _ _ (call (Value.ref 77) _) _ _ _); refine otext_ok _ _ _ rfl (by first | assumption | omega) (by walk_at "MY here") ?_; intro v'_k h'_k tk'_k hv'_k F'_k N'_k cE'_k; obtain ⟨t'_k, hv'_k⟩ := hv'_k; subst hv'_k; (try dsimp only); (try k_fold)))
  k_with "call ref" => (((with_reducible show wpAny _ _ (call (Value.ref 42) _) _ _ _); refine fail_ok (by walk_at "MY here") ?_; intro e'_k h'_k tk'_k R'_k; (try dsimp only); (try k_fold)))
  k_with "leaving ref" => ((refine leave_J (by assumption) (by assumption) (by assumption) (by assumption) (fun _ hp => by first | exact hp | simp only [List.mem_cons, hp, or_true]) ?_; intro h''_k R''_k; (try dsimp only)))
  k_with "call ref" => (((with_reducible show wpAny _ _ (call (Value.ref 63) _) _ _ _); refine octets_ok _ _ _ rfl (by assumption) (by walk_at "MY here") ?_; intro v'_k h'_k tk'_k a'_k n'_k vs'_k hv'_k F'_k N'_k lt'_k is'_k; subst hv'_k; (try dsimp only); (try k_fold)))
  k_with "MY size" => (first | ((try simp only [List.size_toArray, Array.size_push]); rw [sizeLine_eq]; omega) | size_fits)
  k_with "call builtin:list.append" => ((k_here; (with_reducible show wpAny _ _ (call (Value.builtin _) [Value.ref _, _]) _ _ _); k_dflt (refine' append_K ?k1 ?k2 ?k3 ?_ ?z; (case k1 => k_asm); (case k2 => k_asm); (case k3 => k_upd); (case z => walk_at "MY size"); k_whole); intro h'_k F'_k N'_k; (try k_sweep)))
  trivial
theorem kw_F5_1 : True := by
  k_with "MY body" =>
    k_with "exec For" => (refine halt_in ?_)
    k_with "exec For Name Name cons nil" => (refine halt_in ?_)
    trivial
  run_tac go
section
variable {w : World} {A : Around} {h₀ : Heap} {L : Addr} {m : Str → Option Value} {s : Shared} {news : List (Addr × Obj)} {base : Heap} {env : Env} {outer : List Env} {Q E : Value → Shared → Prop}
set_option maxRecDepth 100000 in
set_option maxHeartbeats 8000000 in
theorem hexv_ok (l : List Nat) (hz : l.length ≤ 2) (t : Tok)
    (H : Here w A h₀ L m s news base env outer 1)
    (ret : ∀ v h' tk', (match hexN l with | some n => ∃ t, v = .int (n : Nat) t | none => v = .none) → Fr h₀ L h' m → News h₀ L h' news → Q v { s with heap := h', toks := tk' }) :
    wpAny (model PySem.Challenge.rw_nt0345_01.row.prog w) A (call (.ref 96) [.str (S l) t]) Q E s := by
  k_with "MY body" =>
    refine H.lit (P := fun A => wpAny _ A _ _ _ _) ?_
    k_fill
    clear H
    intro dp un gd A₀ mean mg mb B F X N T loc kind room units
    walk_at "MY enter"
    k_steps
    refine Halt.out ?_
    rename Fr _ _ _ _ => F1
    rename News _ _ _ _ => N1
    refine for_text (l := l) (tx := t) (Str.ofString "found") [Str.ofString "figure"] HexP rfl F1 N1 rfl (by rfl) ?_ (by rfl) (hex_start _) ?_ ?_
    · intro R hR
      k_steps
      exact hR
    · clear F1 N1
      intro v pre n post t1 u h1 tk1 own hl hP F1 N1
      (try dsimp only)
      (try k_fold)
      obtain ⟨p, k, t2, rfl, hn, rfl, hlt⟩ := hP
      obtain ⟨q, hq⟩ := Z_split hl
      have hp2 : p.length ≤ 1 := by
        have : l.length = p.length + 1 + q.length := by rw [hq]; simp; omega
        omega
      have hk16 : k < 16 := Nat.lt_of_lt_of_le hlt (Nat.le_trans (Nat.pow_le_pow_right (by decide) hp2) (by decide))
      cases hd : hexv n with
      | none =>
        have hm := find_none hd
        rw [← hexS, ← lowS] at hm
        k_steps
        refine ret _ _ _ ?_ (by k_asm) (cb_drop (by k_asm) (by walk_at "MY subr"))
        rw [hq, show p ++ n :: q = (p ++ [n]) ++ q by simp, hexN_none q (by rw [hexN_snoc, hn, hd])]
      | some d =>
        obtain ⟨hm, hd16⟩ := find_some hd
        rw [← hexS, ← lowS] at hm
        k_steps
        (try dsimp only)
        refine endV (by k_asm) (by k_asm) (by walk_at "MY subr") (by walk_at "MY subr") (by with_unfolding_all rfl) (by walk_at "MY same") (hex_step hn hd hlt (by omega) hd16)
    · clear F1 N1
      intro v u h1 tk1 hP F1 N1
      (try dsimp only)
      (try k_fold)
      obtain ⟨p, k, t2, hp, hn, rfl, hlt⟩ := hP
      cases Z_inj hp
      k_steps
      refine ret _ _ _ ?_ (by k_asm) (by k_asm)
      rw [hn]; exact ⟨_, rfl⟩
  run_tac go
end

end
section
theorem kw_F6 : True := by
  w_top off
  k_with_none
  k_with "MY room" => (first
      | ((try simp only [depth_under_make, depth_under_kw, depth_in1, depth_deeper, depth_caller, Around.mark]); (try dsimp only); omega)
      | ((try simp only [depth_under_make, depth_under_kw, depth_in1, depth_deeper, depth_caller, Around.mark]); (try dsimp only); simp only [recursionLimit] at *; omega))
  k_with "MY units" => ((have hcL9_k := cLine_is; (try simp only [units_in1, units_deeper, Around.mark_units, units_caller]); (try dsimp only); omega))
  k_with "MY enter" => ((refine wpAny_call ?_; k_dflt (refine' code_def ?k1 ?k2 ?k3 ?k4 ?k5 ?kA ?kF ?kK ?k6 ?k7 ?k8 ?k9 ?kB ?_ ?c2 ?c3 ?c4 ?c5; (case kA => exact rfl); (case kF => first | exact rfl | assumption); (case kK => first | exact rfl | assumption); (case k1 => k_asm); (case k2 => k_asm); (case k3 => k_asm); (case k4 => k_asm); (case k5 => k_asm); (case k6 => k_is); (case k7 => k_is); (case k8 => walk_at "MY room"); (case k9 => exact BindsTo.of_eq rfl); (case c5 => decide); (case kB => exact locs rfl); (case c2 => exact rfl); (case c3 => exact rfl); (case c4 => exact rfl); k_whole; intro g'_k L'_k h'_k FG'_k F'_k N'_k B'_k X'_k T'_k; (try dsimp only); (try k_lift B'_k); (try k_fold))))
  k_with "MY here" => ((refine' Here.mk ⟨_, ?h1⟩ ?h2 ?h3 ?h4 ⟨_, _, _, ?h5⟩ ?h6 ?h7 ?h8 ?h9 ?h10 ?h11; (case h6 => exact rfl); (case h1 => k_asm); (case h2 => k_asm); (case h3 => k_asm); (case h4 => k_asm); (case h5 => k_asm); (case h7 => first | exact rfl | assumption); (case h8 => first | exact rfl | assumption); (case h9 => exact rfl); (case h10 => walk_at "MY room"); (case h11 => walk_at "MY units")))
  k_with "MY sub" => ((intro p'_k hp'_k; first | exact hp'_k | (repeat (first | exact hp'_k | refine List.Mem.tail _ ?_))))
  k_with "MY fresh" => (first | assumption | (refine lt_of_all ?_; first | assumption | exact And.right (by assumption) | exact And.right (And.right (by assumption)) | exact And.right (And.right (And.right (by assumption))) | exact And.right (And.right (And.right (And.right (by assumption)))) | exact And.right (And.right (And.right (And.right (And.right (by assumption))))) | exact And.right (And.right (And.right (And.right (And.right (And.right (by assumption)))))) | exact And.right (And.right (And.right (And.right (And.right (And.right (And.right (by assumption)))))))))
  k_with "MY enterG" => ((refine wpAny_call ?_; k_dflt (refine' code_defG ?k1 ?k2 ?k3 ?k4 ?k5 ?kA ?kF ?kK ?k6 ?k7 ?k8 ?k9 ?kB ?_ ?c2 ?c3 ?c4 ?c5; (case kA => exact rfl); (case kF => first | exact rfl | assumption); (case kK => first | exact rfl | assumption); (case k1 => k_asm); (case k2 => k_asm); (case k3 => k_asm); (case k4 => k_asm); (case k5 => k_asm); (case k6 => k_is); (case k7 => k_is); (case k8 => walk_at "MY room"); (case k9 => exact BindsTo.of_eq rfl); (case c5 => decide); (case kB => exact locs rfl); (case c2 => exact rfl); (case c3 => exact rfl); (case c4 => exact rfl); k_whole; intro g'_k L'_k h'_k FG'_k F'_k N'_k B'_k X'_k T'_k kG'_k; (try dsimp only); (try k_lift B'_k); (try k_fold))))
  k_with "MY kept" => ((rename GSub _ _ _ => kG9_k; exact elt_after (InElt.start _) kG9_k (by assumption) (by assumption) (by assumption) (by walk_at "MY sub")))
  k_with "MY subr" => ((intro p'_k hp'_k; first | exact hp'_k | (repeat (first | exact hp'_k | exact List.mem_append_left _ hp'_k | exact List.mem_append_right _ hp'_k | refine List.Mem.tail _ ?_))))
  k_with "MY same" => ((intro z_k h1_k h2_k h3_k; first
      | rfl
      | ((try simp only [List.contains_cons, List.contains_nil, Bool.or_false, Bool.or_eq_false_iff, beq_eq_false_iff_ne, ne_eq] at h3_k); (simp [h1_k, h2_k, h3_k]; done))))
  k_with "MY enterC" => ((refine wpAny_call ?_; k_dflt (refine' code_defC ?k1 ?k2 ?k3 ?k4 ?k5 ?kA ?kF ?kK ?k6 ?k7 ?k8 ?k9 ?kB ?kD ?_ ?c2 ?c3 ?c4; (case kA => exact rfl); (case kF => first | exact rfl | assumption); (case kK => first | exact rfl | assumption); (case k1 => k_asm); (case k2 => k_asm); (case k3 => k_asm); (case k4 => k_asm); (case k5 => k_asm); (case k6 => k_is); (case k7 => k_is); (case k8 => walk_at "MY room"); (case k9 => exact BindsTo.of_eq rfl); (case kB => exact rfl); (case kD => decide +kernel); (case c2 => exact rfl); (case c3 => exact rfl); (case c4 => exact rfl); k_whole; intro g'_k L'_k h'_k tk'_k cells'_k FG'_k F'_k N'_k Y'_k B'_k X'_k T'_k l1_k; (try k_lt l1_k); k_cells Y'_k; (try simp only [List.cons_append, List.nil_append] at N'_k); (try dsimp only); (try k_lift B'_k); (try k_fold))))
  k_with "MY enterT" => ((refine wpAny_call ?_; k_dflt (refine' code_defT ?k1 ?k2 ?k3 ?k4 ?k5 ?kA ?kF ?kK ?k6 ?k7 ?k8 ?k9 ?kB ?_ ?c2 ?c3 ?c4 ?c5; (case kA => exact rfl); (case kF => first | exact rfl | assumption); (case kK => first | exact rfl | assumption); (case k1 => k_asm); (case k2 => k_asm); (case k3 => k_asm); (case k4 => k_asm); (case k5 => k_asm); (case k6 => k_is); (case k7 => k_is); (case k8 => walk_at "MY room"); (case k9 => exact BindsTo.of_eq rfl); (case c5 => decide); (case kB => exact locs rfl); (case c2 => exact rfl); (case c3 => exact rfl); (case c4 => exact rfl); k_whole; intro g'_k L'_k h'_k FG'_k F'_k N'_k B'_k X'_k T'_k; (try dsimp only); (try k_lift B'_k); (try k_fold))))
  k_with "call ref" => (((with_reducible show wpAny _ _ (call (Value.ref 49) _) _ _ _); refine high_ok _ _ (by walk_at "MY here") ?_; intro v'_k h'_k tk'_k hv'_k F'_k N'_k; subst hv'_k; (try dsimp only); (try k_fold)))
  k_with "call ref" => (((with_reducible show wpAny _ _ (call (Value.ref 56) _) _ _ _); refine low_ok _ _ (by walk_at "MY here") ?_; intro v'_k h'_k tk'_k hv'_k F'_k N'_k; subst hv'_k; (try dsimp only); (try k_fold)))
  k_with "call ref" => (((with_reducible show wpAny _ _ (call (Value.ref 77) _) _ _ _); refine otext_ok _ _ _ rfl (by first | assumption | omega) (by walk_at "MY here") ?_; intro v'_k h'_k tk'_k hv'_k F'_k N'_k cE'_k; obtain ⟨t'_k, hv'_k⟩ := hv'_k; subst hv'_k; (try dsimp only); (try k_fold)))
  k_with "call ref" => (((with_reducible show wpAny _ _ (call (Value.ref 42) _) _ _ _); refine fail_ok (by walk_at "MY here") ?_; intro e'_k h'_k tk'_k R'_k; (try dsimp only); (try k_fold)))
  k_with "leaving ref" => ((refine leave_J (by assumption) (by assumption) (by assumption) (by assumption) (fun _ hp => by first | exact hp | simp only [List.mem_cons, hp, or_true]) ?_; intro h''_k R''_k; (try dsimp only)))
  trivial
section
variable {w : World} {A : Around} {h₀ : Heap} {L : Addr} {m : Str → Option Value} {s : Shared} {news : List (Addr × Obj)} {base : Heap} {env : Env} {outer : List Env} {Q E : Value → Shared → Prop}
set_option maxRecDepth 100000 in
set_option maxHeartbeats 8000000 in
theorem octat_ok (l : List Nat) (k : Nat) (hz : l.length ≤ 100000) (t : Tok) (x : Int) (u : Tok) (hx : x = (k : Nat))
    (H : Here w A h₀ L m s news base env outer 4)
    (ret : ∀ n, octA (l.drop k) = some n → n < 256 → ∀ v h' tk', (∃ t, v = .int (n : Nat) t) → Fr h₀ L h' m → News h₀ L h' news → InElt s.heap h' → Q v { s with heap := h', toks := tk' })
    (exc : octA (l.drop k) = none → ∀ e h' tk', ExcJ base h₀ (env :: outer) L m e news h' → E (.ref e) { s with heap := h', toks := tk' }) :
    wpAny (model PySem.Challenge.rw_nt0345_01.row.prog w) A (call (.ref 103) [.str (S l) t, .int x u]) Q E s := by
  k_with "MY body" =>
    refine H.lit (P := fun A => wpAny _ A _ _ _ _) ?_
    k_fill
    clear H
    intro dp un gd A₀ mean mg mb B F X N T loc kind room units
    have hlen : (S l).length = l.length := S_len l
    generalize hr : l.drop k = r at ret exc
    have hll : r.length = l.length - k := by rw [← hr]; simp
    walk_at "MY enterG"
    rcases Nat.lt_or_ge r.length 3 with h3 | h3
    · k_steps
      exact exc (octA_short h3) _ _ _ (by assumption)
    · rcases r with _ | ⟨c, _ | ⟨a, _ | ⟨b, r⟩⟩⟩ <;> first | (simp at h3; done) | skip
      have hkl : k ≤ l.length := by simp at hll; omega
      have hp : (l.take k).length = k := by simp; omega
      have hl : l = l.take k ++ c :: a :: b :: r := by rw [← hr, List.take_append_drop]
      have hk : x = ((l.take k).length : Nat) := by rw [hp, hx]
      have hc0 : Txt.item (S l) x = S [c] := item0 hl hk
      have hsl : Txt.slice (S l) (some (x + 1)) (some (x + 3)) = S [a, b] := by
        rw [slice_mid hl 1 2 (by omega) (by omega) (by simp)]; rfl
      by_cases h37 : c = 37
      · have hb : (Txt.item (S l) x != Str.ofString "%") = false := by rw [hc0, pctS, h37]; decide +kernel
        k_steps
        rw [hsl]
        refine hexv_ok _ (by simp) _ (by walk_at "MY here") ?_
        intro v h' tk' hv F' N'
        have ho : octA (c :: a :: b :: r) = hexN [a, b] := by rw [octA, if_pos h37]
        (try dsimp only)
        (try k_fold)
        cases hn : hexN [a, b] with
        | none =>
          rw [hn] at hv
          subst hv
          k_steps
          exact exc (by rw [ho, hn]) _ _ _ (by assumption)
        | some n =>
          rw [hn] at hv
          obtain ⟨t', hv⟩ := hv
          subst hv
          k_steps
          exact ret n (by rw [ho, hn]) (octA_lt (by rw [ho, hn])) _ _ _ ⟨_, rfl⟩ (by k_asm) (by k_asm) (by walk_at "MY kept")
      · have hb : (Txt.item (S l) x != Str.ofString "%") = true := by rw [hc0, pctS]; simpa [S] using h37
        k_steps
        exact exc (by rw [octA, if_neg h37]) _ _ _ (by assumption)
  run_tac go
end

end
section
theorem kw_SO : True := by
  w_top off
  k_with_none
  k_with "MY room" => (first
      | ((try simp only [depth_under_make, depth_under_kw, depth_in1, depth_deeper, depth_caller, Around.mark]); (try dsimp only); omega)
      | ((try simp only [depth_under_make, depth_under_kw, depth_in1, depth_deeper, depth_caller, Around.mark]); (try dsimp only); simp only [recursionLimit] at *; omega))
  k_with "MY units" => ((have hcL9_k := cLine_is; (try simp only [units_in1, units_deeper, Around.mark_units, units_caller]); (try dsimp only); omega))
  k_with "MY enter" => ((refine wpAny_call ?_; k_dflt (refine' code_def ?k1 ?k2 ?k3 ?k4 ?k5 ?kA ?kF ?kK ?k6 ?k7 ?k8 ?k9 ?kB ?_ ?c2 ?c3 ?c4 ?c5; (case kA => exact rfl); (case kF => first | exact rfl | assumption); (case kK => first | exact rfl | assumption); (case k1 => k_asm); (case k2 => k_asm); (case k3 => k_asm); (case k4 => k_asm); (case k5 => k_asm); (case k6 => k_is); (case k7 => k_is); (case k8 => walk_at "MY room"); (case k9 => exact BindsTo.of_eq rfl); (case c5 => decide); (case kB => exact locs rfl); (case c2 => exact rfl); (case c3 => exact rfl); (case c4 => exact rfl); k_whole; intro g'_k L'_k h'_k FG'_k F'_k N'_k B'_k X'_k T'_k; (try dsimp only); (try k_lift B'_k); (try k_fold))))
  k_with "MY here" => ((refine' Here.mk ⟨_, ?h1⟩ ?h2 ?h3 ?h4 ⟨_, _, _, ?h5⟩ ?h6 ?h7 ?h8 ?h9 ?h10 ?h11; (case h6 => exact rfl); (case h1 => k_asm); (case h2 => k_asm); (case h3 => k_asm); (case h4 => k_asm); (case h5 => k_asm); (case h7 => first | exact rfl | assumption); (case h8 => first | exact rfl | assumption); (case h9 => exact rfl); (case h10 => walk_at "MY room"); (case h11 => walk_at "MY units")))
  k_with "MY sub" => ((intro p'_k hp'_k; first | exact hp'_k | (repeat (first | exact hp'_k | refine List.Mem.tail _ ?_))))
  k_with "MY fresh" => (first | assumption | (refine lt_of_all ?_; first | assumption | exact And.right (by assumption) | exact And.right (And.right (by assumption)) | exact And.right (And.right (And.right (by assumption))) | exact And.right (And.right (And.right (And.right (by assumption)))) | exact And.right (And.right (And.right (And.right (And.right (by assumption))))) | exact And.right (And.right (And.right (And.right (And.right (And.right (by assumption)))))) | exact And.right (And.right (And.right (And.right (And.right (And.right (And.right (by assumption)))))))))
  k_with "MY enterG" => ((refine wpAny_call ?_; k_dflt (refine' code_defG ?k1 ?k2 ?k3 ?k4 ?k5 ?kA ?kF ?kK ?k6 ?k7 ?k8 ?k9 ?kB ?_ ?c2 ?c3 ?c4 ?c5; (case kA => exact rfl); (case kF => first | exact rfl | assumption); (case kK => first | exact rfl | assumption); (case k1 => k_asm); (case k2 => k_asm); (case k3 => k_asm); (case k4 => k_asm); (case k5 => k_asm); (case k6 => k_is); (case k7 => k_is); (case k8 => walk_at "MY room"); (case k9 => exact BindsTo.of_eq rfl); (case c5 => decide); (case kB => exact locs rfl); (case c2 => exact rfl); (case c3 => exact rfl); (case c4 => exact rfl); k_whole; intro g'_k L'_k h'_k FG'_k F'_k N'_k B'_k X'_k T'_k kG'_k; (try dsimp only); (try k_lift B'_k); (try k_fold))))
  k_with "MY kept" => ((rename GSub _ _ _ => kG9_k; exact elt_after (InElt.start _) kG9_k (by assumption) (by assumption) (by assumption) (by walk_at "MY sub")))
  k_with "MY subr" => ((intro p'_k hp'_k; first | exact hp'_k | (repeat (first | exact hp'_k | exact List.mem_append_left _ hp'_k | exact List.mem_append_right _ hp'_k | refine List.Mem.tail _ ?_))))
  k_with "MY same" => ((intro z_k h1_k h2_k h3_k; first
      | rfl
      | ((try simp only [List.contains_cons, List.contains_nil, Bool.or_false, Bool.or_eq_false_iff, beq_eq_false_iff_ne, ne_eq] at h3_k); (simp [h1_k, h2_k, h3_k]; done))))
  k_with "MY enterC" => ((refine wpAny_call ?_; k_dflt (refine' code_defC ?k1 ?k2 ?k3 ?k4 ?k5 ?kA ?kF ?kK ?k6 ?k7 ?k8 ?k9 ?kB ?kD ?_ ?c2 ?c3 ?c4; (case kA => exact rfl); (case kF => first | exact rfl | assumption); (case kK => first | exact rfl | assumption); (case k1 => k_asm); (case k2 => k_asm); (case k3 => k_asm); (case k4 => k_asm); (case k5 => k_asm); (case k6 => k_is); (case k7 => k_is); (case k8 => walk_at "MY room"); (case k9 => exact BindsTo.of_eq rfl); (case kB => exact rfl); (case kD => decide +kernel); (case c2 => exact rfl); (case c3 => exact rfl); (case c4 => exact rfl); k_whole; intro g'_k L'_k h'_k tk'_k cells'_k FG'_k F'_k N'_k Y'_k B'_k X'_k T'_k l1_k; (try k_lt l1_k); k_cells Y'_k; (try simp only [List.cons_append, List.nil_append] at N'_k); (try dsimp only); (try k_lift B'_k); (try k_fold))))
  k_with "MY enterT" => ((refine wpAny_call ?_; k_dflt (refine' code_defT ?k1 ?k2 ?k3 ?k4 ?k5 ?kA ?kF ?kK ?k6 ?k7 ?k8 ?k9 ?kB ?_ ?c2 ?c3 ?c4 ?c5; (case kA => exact rfl); (case kF => first | exact rfl | assumption); (case kK => first | exact rfl | assumption); (case k1 => k_asm); (case k2 => k_asm); (case k3 => k_asm); (case k4 => k_asm); (case k5 => k_asm); (case k6 => k_is); (case k7 => k_is); (case k8 => walk_at "MY room"); (case k9 => exact BindsTo.of_eq rfl); (case c5 => decide); (case kB => exact locs rfl); (case c2 => exact rfl); (case c3 => exact rfl); (case c4 => exact rfl); k_whole; intro g'_k L'_k h'_k FG'_k F'_k N'_k B'_k X'_k T'_k; (try dsimp only); (try k_lift B'_k); (try k_fold))))
  trivial
/-- the octets that go on with a sign -/
def contO : List Nat → Nat → Option Nat
  | [], f => some f
  | o :: r, f => if o / 64 = 2 then contO r (f * 64 + o % 64) else none
def leastN (n : Nat) : Nat := if n = 2 then 128 else if n = 3 then 2048 else 65536
def sgnOk (n f : Nat) : Bool := !(decide (f < leastN n) || decide (1114111 < f) || hiU f || loU f)
/-- the sign that octets tell -/
def sgnO : List Nat → Option Nat
  | [] => none
  | [o] => some o
  | o :: p :: r => (contO (p :: r) (o % 2 ^ (5 - r.length))).bind fun f => if sgnOk (r.length + 2) f then some f else none
theorem ints_split {vs : List Value} {n : Nat} {ns : List Nat} (h : IntsAre vs (Z (n :: ns))) : ∃ t vs', vs = .int (n : Nat) t :: vs' ∧ IntsAre vs' (Z ns) := by
  k_with "MY body" =>
    cases h with
    | cons _ t r => exact ⟨t, _, rfl, r⟩
  run_tac go
theorem ints_end {vs : List Value} (h : IntsAre vs (Z [])) : vs = [] := by cases h; rfl
theorem arr_of {vs : Array Value} {l : List Value} (h : vs.toList = l) : vs = l.toArray := by rw [← h]
theorem and192 {y : Int} {k : Nat} (h : y = (k : Nat)) (hk : k < 256) : Builtin.bitAnd y 192 = ((k / 64 * 64 : Nat) : Int) := by
  k_with "MY body" =>
    have fin : ∀ b : Nat, b < 256 → Builtin.bitAnd (b : Int) 192 = ((b / 64 * 64 : Nat) : Int) := by decide +kernel
    rw [h]; exact fin _ hk
  run_tac go
theorem and_low {a b : Nat} (hb : b < 64) : (a * 64) &&& b = 0 := by
  k_with "MY body" =>
    apply Nat.eq_of_testBit_eq
    intro i
    rw [Nat.testBit_and, show a * 64 = 2 ^ 6 * a by omega, Nat.testBit_two_pow_mul]
    by_cases h : 6 ≤ i
    · rw [Nat.testBit_lt_two_pow (x := b) (i := i) (Nat.lt_of_lt_of_le hb (Nat.le_trans (by decide) (Nat.pow_le_pow_right (by decide) h)))]
      simp
    · simp [h]
  run_tac go
theorem shl6 (y : Int) : y * 2 ^ Int.toNat 6 = y * 64 := rfl
theorem or_low {x y : Int} {a b : Nat} (hx : x = ((a * 64 : Nat) : Int)) (hy : y = (b : Nat)) (hb : b < 64) : Builtin.bitOr x y = ((a * 64 + b : Nat) : Int) := by
  k_with "MY body" =>
    rw [hx, hy, bitOr_and]
    have : Builtin.bitAnd ((a * 64 : Nat) : Int) (b : Int) = ((a * 64 &&& b : Nat) : Int) := by
      unfold Builtin.bitAnd
      have h1 : decide ((0 : Int) ≤ ((a * 64 : Nat) : Int)) = true := decide_eq_true (Int.natCast_nonneg _)
      have h2 : decide ((0 : Int) ≤ (b : Int)) = true := by simp
      rw [h1, h2]
      simp only [Int.toNat_natCast]
    rw [this, and_low hb]
    omega
  run_tac go
theorem contO_app (q r : List Nat) : ∀ f, contO (q ++ r) f = (contO q f).bind (contO r) := by
  k_with "MY body" =>
    induction q with
    | nil => intro f; rfl
    | cons o q ih =>
      intro f
      simp only [List.cons_append, contO]
      split
      · exact ih _
      · rfl
  run_tac go
/-- what stands between two turns of sign_of_octets' loop -/
def ContP (f0 : Nat) (pre : List Int) (v : Value) : Prop := ∃ q f t, pre = Z q ∧ contO q f0 = some f ∧ v = .int (f : Nat) t ∧ f < 32 * 64 ^ q.length
theorem cont_start {f0 : Nat} {x : Int} (t : Tok) (h : f0 < 32) (hx : x = (f0 : Nat)) : ContP f0 [] (.int x t) := ⟨[], f0, t, rfl, rfl, by rw [hx], by simpa using h⟩
theorem cont_step {f0 f k : Nat} {q : List Nat} {x : Int} {t : Tok} (hq : contO q f0 = some f) (hlt : f < 32 * 64 ^ q.length) (hk : k / 64 = 2) (hx : x = ((f * 64 + k % 64 : Nat) : Int)) : ContP f0 (Z q ++ [(k : Int)]) (.int x t) := by
  k_with "MY body" =>
    refine ⟨q ++ [k], f * 64 + k % 64, t, Z_snoc q k, ?_, by rw [hx], ?_⟩
    · rw [contO_app, hq]; simp [contO, hk]
    · rw [List.length_append, List.length_cons, List.length_nil, Nat.pow_add, Nat.zero_add, Nat.pow_one]
      have := Nat.mod_lt k (show 64 > 0 by decide)
      omega
  run_tac go
theorem cont_fail {f0 f k : Nat} {q r : List Nat} (hq : contO q f0 = some f) (hk : ¬ k / 64 = 2) : contO (q ++ k :: r) f0 = none := by
  k_with "MY body" =>
    rw [contO_app, hq]; simp [contO, hk]
  run_tac go
theorem Z_cut {l p : List Nat} {n : Int} {post : List Int} (h : Z l = Z p ++ n :: post) : ∃ (k : Nat) (q : List Nat), n = (k : Int) ∧ l = p ++ k :: q := by
  k_with "MY body" =>
    have : n ∈ Z l := by rw [h]; simp
    obtain ⟨k, _, rfl⟩ := List.mem_map.mp this
    obtain ⟨q, e⟩ := Z_split h
    exact ⟨k, q, rfl, e⟩
  run_tac go
theorem sgn_none {o p : Nat} {r : List Nat} (h : contO (p :: r) (o % 2 ^ (5 - r.length)) = none) : sgnO (o :: p :: r) = none := by
  k_with "MY body" =>
    simp only [sgnO, h]; rfl
  run_tac go
theorem sgn_some {o p : Nat} {r : List Nat} {f : Nat} (h : contO (p :: r) (o % 2 ^ (5 - r.length)) = some f) (hk : sgnOk (r.length + 2) f = true) : sgnO (o :: p :: r) = some f := by
  k_with "MY body" =>
    simp [sgnO, h, hk]
  run_tac go
theorem sgn_bad {o p : Nat} {r : List Nat} {f : Nat} (h : contO (p :: r) (o % 2 ^ (5 - r.length)) = some f) (hk : sgnOk (r.length + 2) f = false) : sgnO (o :: p :: r) = none := by
  k_with "MY body" =>
    simp [sgnO, h, hk]
  run_tac go
theorem sgnOk_true {n f : Nat} (h1 : leastN n ≤ f) (h2 : f ≤ 1114111) (h3 : ¬ (55296 ≤ f ∧ f ≤ 57343)) : sgnOk n f = true := by
  k_with "MY body" =>
    have a : hiU f = false := by rw [Bool.eq_false_iff]; intro q; have := hiU_iff.mp q; omega
    have b : loU f = false := by rw [Bool.eq_false_iff]; intro q; have := loU_iff.mp q; omega
    simp [sgnOk, a, b]; omega
  run_tac go
theorem sgnOk_false {n f : Nat} (h : f < leastN n ∨ 1114111 < f ∨ (55296 ≤ f ∧ f ≤ 57343)) : sgnOk n f = false := by
  k_with "MY body" =>
    rw [Bool.eq_false_iff]
    intro q
    simp [sgnOk] at q
    obtain ⟨⟨⟨q1, q2⟩, q3⟩, q4⟩ := q
    have a : ¬ (55296 ≤ f ∧ f ≤ 56319) := fun z => by rw [hiU_iff.mpr z] at q3; cases q3
    have b : ¬ (56320 ≤ f ∧ f ≤ 57343) := fun z => by rw [loU_iff.mpr z] at q4; cases q4
    omega
  run_tac go
end
section
theorem kw_W3 : True := by
  w_top off
  k_with_none
  k_with "MY room" => (first
      | ((try simp only [depth_under_make, depth_under_kw, depth_in1, depth_deeper, depth_caller, Around.mark]); (try dsimp only); omega)
      | ((try simp only [depth_under_make, depth_under_kw, depth_in1, depth_deeper, depth_caller, Around.mark]); (try dsimp only); simp only [recursionLimit] at *; omega))
  k_with "MY units" => ((have hcL9_k := cLine_is; (try simp only [units_in1, units_deeper, Around.mark_units, units_caller]); (try dsimp only); omega))
  k_with "MY enter" => ((refine wpAny_call ?_; k_dflt (refine' code_def ?k1 ?k2 ?k3 ?k4 ?k5 ?kA ?kF ?kK ?k6 ?k7 ?k8 ?k9 ?kB ?_ ?c2 ?c3 ?c4 ?c5; (case kA => exact rfl); (case kF => first | exact rfl | assumption); (case kK => first | exact rfl | assumption); (case k1 => k_asm); (case k2 => k_asm); (case k3 => k_asm); (case k4 => k_asm); (case k5 => k_asm); (case k6 => k_is); (case k7 => k_is); (case k8 => walk_at "MY room"); (case k9 => exact BindsTo.of_eq rfl); (case c5 => decide); (case kB => exact locs rfl); (case c2 => exact rfl); (case c3 => exact rfl); (case c4 => exact rfl); k_whole; intro g'_k L'_k h'_k FG'_k F'_k N'_k B'_k X'_k T'_k; (try dsimp only); (try k_lift B'_k); (try k_fold))))
  k_with "MY here" => ((refine' Here.mk ⟨_, ?h1⟩ ?h2 ?h3 ?h4 ⟨_, _, _, ?h5⟩ ?h6 ?h7 ?h8 ?h9 ?h10 ?h11; (case h6 => exact rfl); (case h1 => k_asm); (case h2 => k_asm); (case h3 => k_asm); (case h4 => k_asm); (case h5 => k_asm); (case h7 => first | exact rfl | assumption); (case h8 => first | exact rfl | assumption); (case h9 => exact rfl); (case h10 => walk_at "MY room"); (case h11 => walk_at "MY units")))
  k_with "MY sub" => ((intro p'_k hp'_k; first | exact hp'_k | (repeat (first | exact hp'_k | refine List.Mem.tail _ ?_))))
  k_with "MY fresh" => (first | assumption | (refine lt_of_all ?_; first | assumption | exact And.right (by assumption) | exact And.right (And.right (by assumption)) | exact And.right (And.right (And.right (by assumption))) | exact And.right (And.right (And.right (And.right (by assumption)))) | exact And.right (And.right (And.right (And.right (And.right (by assumption))))) | exact And.right (And.right (And.right (And.right (And.right (And.right (by assumption)))))) | exact And.right (And.right (And.right (And.right (And.right (And.right (And.right (by assumption)))))))))
  k_with "MY enterG" => ((refine wpAny_call ?_; k_dflt (refine' code_defG ?k1 ?k2 ?k3 ?k4 ?k5 ?kA ?kF ?kK ?k6 ?k7 ?k8 ?k9 ?kB ?_ ?c2 ?c3 ?c4 ?c5; (case kA => exact rfl); (case kF => first | exact rfl | assumption); (case kK => first | exact rfl | assumption); (case k1 => k_asm); (case k2 => k_asm); (case k3 => k_asm); (case k4 => k_asm); (case k5 => k_asm); (case k6 => k_is); (case k7 => k_is); (case k8 => walk_at "MY room"); (case k9 => exact BindsTo.of_eq rfl); (case c5 => decide); (case kB => exact locs rfl); (case c2 => exact rfl); (case c3 => exact rfl); (case c4 => exact rfl); k_whole; intro g'_k L'_k h'_k FG'_k F'_k N'_k B'_k X'_k T'_k kG'_k; (try dsimp only); (try k_lift B'_k); (try k_fold))))
  k_with "MY kept" => ((rename GSub _ _ _ => kG9_k; exact elt_after (InElt.start _) kG9_k (by assumption) (by assumption) (by assumption) (by walk_at "MY sub")))
  k_with "MY subr" => ((intro p'_k hp'_k; first | exact hp'_k | (repeat (first | exact hp'_k | exact List.mem_append_left _ hp'_k | exact List.mem_append_right _ hp'_k | refine List.Mem.tail _ ?_))))
  k_with "MY same" => ((intro z_k h1_k h2_k h3_k; first
      | rfl
      | ((try simp only [List.contains_cons, List.contains_nil, Bool.or_false, Bool.or_eq_false_iff, beq_eq_false_iff_ne, ne_eq] at h3_k); (simp [h1_k, h2_k, h3_k]; done))))
  k_with "MY enterC" => ((refine wpAny_call ?_; k_dflt (refine' code_defC ?k1 ?k2 ?k3 ?k4 ?k5 ?kA ?kF ?kK ?k6 ?k7 ?k8 ?k9 ?kB ?kD ?_ ?c2 ?c3 ?c4; (case kA => exact rfl); (case kF => first | exact rfl | assumption); (case kK => first | exact rfl | assumption); (case k1 => k_asm); (case k2 => k_asm); (case k3 => k_asm); (case k4 => k_asm); (case k5 => k_asm); (case k6 => k_is); (case k7 => k_is); (case k8 => walk_at "MY room"); (case k9 => exact BindsTo.of_eq rfl); (case kB => exact rfl); (case kD => decide +kernel); (case c2 => exact rfl); (case c3 => exact rfl); (case c4 => exact rfl); k_whole; intro g'_k L'_k h'_k tk'_k cells'_k FG'_k F'_k N'_k Y'_k B'_k X'_k T'_k l1_k; (try k_lt l1_k); k_cells Y'_k; (try simp only [List.cons_append, List.nil_append] at N'_k); (try dsimp only); (try k_lift B'_k); (try k_fold))))
  k_with "MY enterT" => ((refine wpAny_call ?_; k_dflt (refine' code_defT ?k1 ?k2 ?k3 ?k4 ?k5 ?kA ?kF ?kK ?k6 ?k7 ?k8 ?k9 ?kB ?_ ?c2 ?c3 ?c4 ?c5; (case kA => exact rfl); (case kF => first | exact rfl | assumption); (case kK => first | exact rfl | assumption); (case k1 => k_asm); (case k2 => k_asm); (case k3 => k_asm); (case k4 => k_asm); (case k5 => k_asm); (case k6 => k_is); (case k7 => k_is); (case k8 => walk_at "MY room"); (case k9 => exact BindsTo.of_eq rfl); (case c5 => decide); (case kB => exact locs rfl); (case c2 => exact rfl); (case c3 => exact rfl); (case c4 => exact rfl); k_whole; intro g'_k L'_k h'_k FG'_k F'_k N'_k B'_k X'_k T'_k; (try dsimp only); (try k_lift B'_k); (try k_fold))))
  trivial
section
variable {prog : Program} {w : World} {A : Around} {E : Value → Shared → Prop} {s : Shared} {env : Env} {h₀ : Heap} {body : List Stmt} {Q : Flow → Shared → Prop} {m₀ : Str → Option Value} {news : List (Addr × Obj)}
theorem turn_list {x : Str} {a : Addr} {vs : List Value} {ns : List Int} {nn : Nat} (nV : Str) (stored : List Str) (P : List Int → Value → Prop) {v₀ : Value} (hh : A.handled = none)
    (F : Fr h₀ env.locals s.heap m₀) (N : News h₀ env.locals s.heap news)
    (hm : (a, listOf vs.toArray nn) ∈ news) (hI : IntsAre vs ns) (hk : m₀ nV = some v₀) (hp : P [] v₀)
    (turn : ∀ (v : Value) (pre : List Int) (n : Int) (post : List Int) (t : Tok) (u : Str → Option Value) (h : Heap) (tk : Nat) (own : List (Addr × Obj)), ns = pre ++ n :: post → P pre v →
      Fr h₀ env.locals h (fun y => if y = x then some (.int n t) else if y = nV then some v else if stored.contains y = true then u y else m₀ y) → News h₀ env.locals h (news ++ own) →
      wpAny (model prog w) A (execs body env) (fun f s₃ => match f with
        | .ret r => Q (.ret r) s₃
        | .brk => Q .next s₃
        | _ => EndV s h₀ env.locals x nV stored m₀ news own (P (pre ++ [n])) s₃) E { s with heap := h, toks := tk })
    (done : ∀ (v : Value) (u : Str → Option Value) (h : Heap) (tk : Nat), P ns v → Fr h₀ env.locals h (fun y => if y = x then u y else if y = nV then some v else if stored.contains y = true then u y else m₀ y) → News h₀ env.locals h news → Q .next { s with heap := h, toks := tk }) :
    wpAny (model prog w) A (pyIter (.ref a)) (fun it s₂ => LoopAtV prog w A h₀ env x body Q E it s₂) E s := by
  k_with "MY body" =>
    refine kst_listL (σ := Value) (fun _ => news) (fun c => [(nV, c)]) (fun _ => True) stored P v₀ hh (fun _ => hm) hI F N trivial (fun p hp => by rw [List.mem_singleton.mp hp]; exact hk) hp ?_ ?_
    · intro c pre post n t u h tk own hc _ hoff _ hP F' N'
      refine wpAny_mono (turn c pre n post t u h tk own hc hP F' N') (fun f s₃ q => ?_) fun _ _ e => e
      have up : EndV s h₀ env.locals x nV stored m₀ news own (P (pre ++ [n])) s₃ → EndV { s with heap := h, toks := tk } h₀ env.locals x nV stored m₀ news own (P (pre ++ [n])) s₃ := fun ⟨h', tk', m', news', v, e, r⟩ => ⟨h', tk', m', news', v, e, r⟩
      cases f with
      | ret v => exact q
      | brk => exact q
      | next => exact endV_inv () (up q)
      | cont => exact endV_inv () (up q)
    · intro c u h tk _ hP F' N'
      exact done c u h tk hP F' N'
  run_tac go
theorem For_invF {x : Str} {px pos : Pos} {iter : PySem.Expr} (_F : Fr h₀ env.locals s.heap m₀) (hx : env.kindOf x = some .local)
    (hp : (env.scope.kind == .class || (env.scope.kind == .module && env.locals != env.globals)) = false)
    (h : wpAny (model prog w) A (eval iter env) (fun xv s₁ => wpAny (model prog w) A (pyIter xv) (fun it s₂ => LoopAtV prog w A h₀ env x body Q E it s₂) E s₁) E s)
    (hs : ∀ x, foldedSetIterable iter env x = pure x := by intro _; rfl) (hE : PassesOwn (model prog w) A env E := by passes_own) :
    wpAny (model prog w) A (exec (.For (.Name x px) iter body [] pos) env) Q E s := For_invV h₀ hx hp h hs hE
end

end
section
theorem kw_F7 : True := by
  w_top off
  k_with_none
  k_with "MY room" => (first
      | ((try simp only [depth_under_make, depth_under_kw, depth_in1, depth_deeper, depth_caller, Around.mark]); (try dsimp only); omega)
      | ((try simp only [depth_under_make, depth_under_kw, depth_in1, depth_deeper, depth_caller, Around.mark]); (try dsimp only); simp only [recursionLimit] at *; omega))
  k_with "MY units" => ((have hcL9_k := cLine_is; (try simp only [units_in1, units_deeper, Around.mark_units, units_caller]); (try dsimp only); omega))
  k_with "MY enter" => ((refine wpAny_call ?_; k_dflt (refine' code_def ?k1 ?k2 ?k3 ?k4 ?k5 ?kA ?kF ?kK ?k6 ?k7 ?k8 ?k9 ?kB ?_ ?c2 ?c3 ?c4 ?c5; (case kA => exact rfl); (case kF => first | exact rfl | assumption); (case kK => first | exact rfl | assumption); (case k1 => k_asm); (case k2 => k_asm); (case k3 => k_asm); (case k4 => k_asm); (case k5 => k_asm); (case k6 => k_is); (case k7 => k_is); (case k8 => walk_at "MY room"); (case k9 => exact BindsTo.of_eq rfl); (case c5 => decide); (case kB => exact locs rfl); (case c2 => exact rfl); (case c3 => exact rfl); (case c4 => exact rfl); k_whole; intro g'_k L'_k h'_k FG'_k F'_k N'_k B'_k X'_k T'_k; (try dsimp only); (try k_lift B'_k); (try k_fold))))
  k_with "MY here" => ((refine' Here.mk ⟨_, ?h1⟩ ?h2 ?h3 ?h4 ⟨_, _, _, ?h5⟩ ?h6 ?h7 ?h8 ?h9 ?h10 ?h11; (case h6 => exact rfl); (case h1 => k_asm); (case h2 => k_asm); (case h3 => k_asm); (case h4 => k_asm); (case h5 => k_asm); (case h7 => first | exact rfl | assumption); (case h8 => first | exact rfl | assumption); (case h9 => exact rfl); (case h10 => walk_at "MY room"); (case h11 => walk_at "MY units")))
  k_with "MY sub" => ((intro p'_k hp'_k; first | exact hp'_k | (repeat (first | exact hp'_k | refine List.Mem.tail _ ?_))))
  k_with "MY fresh" => (first | assumption | (refine lt_of_all ?_; first | assumption | exact And.right (by assumption) | exact And.right (And.right (by assumption)) | exact And.right (And.right (And.right (by assumption))) | exact And.right (And.right (And.right (And.right (by assumption)))) | exact And.right (And.right (And.right (And.right (And.right (by assumption))))) | exact And.right (And.right (And.right (And.right (And.right (And.right (by assumption)))))) | exact And.right (And.right (And.right (And.right (And.right (And.right (And.right (by assumption)))))))))
  k_with "MY enterG" => ((refine wpAny_call ?_; k_dflt (refine' code_defG ?k1 ?k2 ?k3 ?k4 ?k5 ?kA ?kF ?kK ?k6 ?k7 ?k8 ?k9 ?kB ?_ ?c2 ?c3 ?c4 ?c5; (case kA => exact rfl); (case kF => first | exact rfl | assumption); (case kK => first | exact rfl | assumption); (case k1 => k_asm); (case k2 => k_asm); (case k3 => k_asm); (case k4 => k_asm); (case k5 => k_asm); (case k6 => k_is); (case k7 => k_is); (case k8 => walk_at "MY room"); (case k9 => exact BindsTo.of_eq rfl); (case c5 => decide); (case kB => exact locs rfl); (case c2 => exact rfl); (case c3 => exact rfl); (case c4 => exact rfl); k_whole; intro g'_k L'_k h'_k FG'_k F'_k N'_k B'_k X'_k T'_k kG'_k; (try dsimp only); (try k_lift B'_k); (try k_fold))))
  k_with "MY kept" => ((rename GSub _ _ _ => kG9_k; exact elt_after (InElt.start _) kG9_k (by assumption) (by assumption) (by assumption) (by walk_at "MY sub")))
  k_with "MY subr" => ((intro p'_k hp'_k; first | exact hp'_k | (repeat (first | exact hp'_k | exact List.mem_append_left _ hp'_k | exact List.mem_append_right _ hp'_k | refine List.Mem.tail _ ?_))))
  k_with "MY same" => ((intro z_k h1_k h2_k h3_k; first
      | rfl
      | ((try simp only [List.contains_cons, List.contains_nil, Bool.or_false, Bool.or_eq_false_iff, beq_eq_false_iff_ne, ne_eq] at h3_k); (simp [h1_k, h2_k, h3_k]; done))))
  k_with "MY enterC" => ((refine wpAny_call ?_; k_dflt (refine' code_defC ?k1 ?k2 ?k3 ?k4 ?k5 ?kA ?kF ?kK ?k6 ?k7 ?k8 ?k9 ?kB ?kD ?_ ?c2 ?c3 ?c4; (case kA => exact rfl); (case kF => first | exact rfl | assumption); (case kK => first | exact rfl | assumption); (case k1 => k_asm); (case k2 => k_asm); (case k3 => k_asm); (case k4 => k_asm); (case k5 => k_asm); (case k6 => k_is); (case k7 => k_is); (case k8 => walk_at "MY room"); (case k9 => exact BindsTo.of_eq rfl); (case kB => exact rfl); (case kD => decide +kernel); (case c2 => exact rfl); (case c3 => exact rfl); (case c4 => exact rfl); k_whole; intro g'_k L'_k h'_k tk'_k cells'_k FG'_k F'_k N'_k Y'_k B'_k X'_k T'_k l1_k; (try k_lt l1_k); k_cells Y'_k; (try simp only [List.cons_append, List.nil_append] at N'_k); (try dsimp only); (try k_lift B'_k); (try k_fold))))
  k_with "MY enterT" => ((refine wpAny_call ?_; k_dflt (refine' code_defT ?k1 ?k2 ?k3 ?k4 ?k5 ?kA ?kF ?kK ?k6 ?k7 ?k8 ?k9 ?kB ?_ ?c2 ?c3 ?c4 ?c5; (case kA => exact rfl); (case kF => first | exact rfl | assumption); (case kK => first | exact rfl | assumption); (case k1 => k_asm); (case k2 => k_asm); (case k3 => k_asm); (case k4 => k_asm); (case k5 => k_asm); (case k6 => k_is); (case k7 => k_is); (case k8 => walk_at "MY room"); (case k9 => exact BindsTo.of_eq rfl); (case c5 => decide); (case kB => exact locs rfl); (case c2 => exact rfl); (case c3 => exact rfl); (case c4 => exact rfl); k_whole; intro g'_k L'_k h'_k FG'_k F'_k N'_k B'_k X'_k T'_k; (try dsimp only); (try k_lift B'_k); (try k_fold))))
  k_with "call ref" => (((with_reducible show wpAny _ _ (call (Value.ref 49) _) _ _ _); refine high_ok _ _ (by walk_at "MY here") ?_; intro v'_k h'_k tk'_k hv'_k F'_k N'_k; subst hv'_k; (try dsimp only); (try k_fold)))
  k_with "call ref" => (((with_reducible show wpAny _ _ (call (Value.ref 56) _) _ _ _); refine low_ok _ _ (by walk_at "MY here") ?_; intro v'_k h'_k tk'_k hv'_k F'_k N'_k; subst hv'_k; (try dsimp only); (try k_fold)))
  k_with "call ref" => (((with_reducible show wpAny _ _ (call (Value.ref 77) _) _ _ _); refine otext_ok _ _ _ rfl (by first | assumption | omega) (by walk_at "MY here") ?_; intro v'_k h'_k tk'_k hv'_k F'_k N'_k cE'_k; obtain ⟨t'_k, hv'_k⟩ := hv'_k; subst hv'_k; (try dsimp only); (try k_fold)))
  k_with "call ref" => (((with_reducible show wpAny _ _ (call (Value.ref 42) _) _ _ _); refine fail_ok (by walk_at "MY here") ?_; intro e'_k h'_k tk'_k R'_k; (try dsimp only); (try k_fold)))
  k_with "leaving ref" => ((refine leave_J (by assumption) (by assumption) (by assumption) (by assumption) (fun _ hp => by first | exact hp | simp only [List.mem_cons, hp, or_true]) ?_; intro h''_k R''_k; (try dsimp only)))
  trivial
theorem kw_F7_1 : True := by
  k_with "MY body" =>
    k_with "exec For" => (refine halt_in ?_)
    k_with "exec For Name Subscript cons nil" => (refine halt_in ?_)
    trivial
  run_tac go
section
variable {w : World} {A : Around} {h₀ : Heap} {L : Addr} {m : Str → Option Value} {s : Shared} {news : List (Addr × Obj)} {base : Heap} {env : Env} {outer : List Env} {Q E : Value → Shared → Prop}
set_option maxRecDepth 100000 in
set_option maxHeartbeats 8000000 in
theorem sgn1_ok (a : Addr) (n : Nat) (o : Nat) (t1 : Tok) (_ho : o < 256)
    (H : Here w A h₀ L m s ((a, listOf #[.int (o : Nat) t1] n) :: news) base env outer 4)
    (ret : ∀ n, sgnO [o] = some n → ∀ v h' tk', (∃ t, v = .int (n : Nat) t) → Fr h₀ L h' m → News h₀ L h' news → Q v { s with heap := h', toks := tk' }) :
    wpAny (model PySem.Challenge.rw_nt0345_01.row.prog w) A (call (.ref 117) [.ref a]) Q E s := by
  k_with "MY body" =>
    refine H.lit (P := fun A => wpAny _ A _ _ _ _) ?_
    k_fill
    clear H
    intro dp un gd A₀ mean mg mb B F X N T loc kind room units
    walk_at "MY enter"
    k_steps
    exact ret o rfl _ _ _ ⟨_, rfl⟩ (by k_asm) (cb_drop (by k_asm) (by walk_at "MY subr"))
  run_tac go
set_option maxRecDepth 100000 in
set_option maxHeartbeats 8000000 in
theorem sgn2_ok (a : Addr) (n : Nat) (o p : Nat) (t1 t2 : Tok) (ho : o < 256) (hp : p < 256)
    (H : Here w A h₀ L m s ((a, listOf #[.int (o : Nat) t1, .int (p : Nat) t2] n) :: news) base env outer 4)
    (ret : ∀ n, sgnO [o, p] = some n → ∀ v h' tk', (∃ t, v = .int (n : Nat) t) → Fr h₀ L h' m → News h₀ L h' news → Q v { s with heap := h', toks := tk' })
    (exc : sgnO [o, p] = none → ∀ e h' tk', ExcJ base h₀ (env :: outer) L m e news h' → E (.ref e) { s with heap := h', toks := tk' }) :
    wpAny (model PySem.Challenge.rw_nt0345_01.row.prog w) A (call (.ref 117) [.ref a]) Q E s := by
  k_with "MY body" =>
    refine H.lit (P := fun A => wpAny _ A _ _ _ _) ?_
    k_fill
    clear H
    intro dp un gd A₀ mean mg mb B F X N T loc kind room units
    have hf0 : Builtin.bitAnd ([(o : Int), (p : Int)].getD (Int.toNat 0) 0) (Int.fdiv 127 (2 ^ Int.toNat 2)) = ((o % 32 : Nat) : Int) := by
      rw [show Int.fdiv 127 (2 ^ Int.toNat 2) = 31 from rfl]
      show Builtin.bitAnd (o : Int) 31 = _
      rw [bitAnd_m5]; omega
    walk_at "MY enter"
    k_steps
    refine Halt.out ?_
    rename Fr _ _ _ _ => F1
    refine For_invF F1 rfl (by rfl) ?_
    k_steps
    rename Fr _ _ _ _ => F1
    rename News _ _ _ _ => N1
    refine turn_list (ns := Z [p]) (nn := 0) (Str.ofString "found") [] (ContP (o % 32)) rfl F1 N1 (.head _) (ints_cons rfl ints_nil) (by rfl) (cont_start _ (by omega) hf0) ?_ ?_
    · clear F1 N1
      intro v pre n' post tt u h1 tk1 own hl hP F1 N1
      (try dsimp only)
      (try k_fold)
      obtain ⟨qq, f, t5, rfl, hq, rfl, hlt⟩ := hP
      obtain ⟨k, q', rfl, hk⟩ := Z_cut hl
      have hk256 : k < 256 := by
        have : k ∈ [p] := by rw [hk]; simp
        simp at this; omega
      have hql : qq.length ≤ 2 := by
        have : ([p] : List Nat).length = qq.length + 1 + q'.length := by rw [hk]; simp; omega
        simp at this; omega
      have hflt : f < 131072 := Nat.lt_of_lt_of_le hlt (Nat.mul_le_mul (Nat.le_refl 32) (Nat.le_trans (Nat.pow_le_pow_right (by omega) hql) (show 64 ^ 2 ≤ 4096 by decide)))
      have hand := and192 (y := (k : Int)) rfl hk256
      have h63 : Builtin.bitAnd (k : Int) 63 = ((k % 64 : Nat) : Int) := by rw [and63]; omega
      k_steps
      · have hc : ¬ k / 64 = 2 := by omega
        exact exc (sgn_none (by rw [show ([] : List Nat).length = 0 from rfl, hk]; exact cont_fail hq hc)) _ _ _ (exc_sub (by assumption) (by walk_at "MY subr"))
      · have hc : k / 64 = 2 := by omega
        (try dsimp only)
        refine endV (by k_asm) (by k_asm) (by walk_at "MY subr") (by walk_at "MY subr") (by with_unfolding_all rfl) (by walk_at "MY same") (cont_step hq hlt hc (or_low (by rw [shl6]; omega) h63 (by omega)))
    · clear F1 N1
      intro v u h1 tk1 hP F1 N1
      (try dsimp only)
      (try k_fold)
      obtain ⟨qq, f, t5, hq', hq, rfl, hlt⟩ := hP
      cases Z_inj hq'
      have hq2 : contO (p :: []) (o % 2 ^ (5 - ([] : List Nat).length)) = some f := by simpa using hq
      have hL : leastN (([] : List Nat).length + 2) = 128 := rfl
      have hfl : f < 2048 := by simpa using hlt
      k_steps
      all_goals first
      | exact exc (sgn_bad hq2 (sgnOk_false (by omega))) _ _ _ (exc_sub (by assumption) (by walk_at "MY subr"))
      | exact ret _ (sgn_some hq2 (sgnOk_true (by omega) (by omega) (by omega))) _ _ _ ⟨_, rfl⟩ (by k_asm) (cb_drop (by k_asm) (by walk_at "MY subr"))
      | exact exc (sgn_bad hq2 (sgnOk_false (by omega))) _ _ _ (exc_sub (by assumption) (by walk_at "MY subr"))
  run_tac go
set_option maxRecDepth 100000 in
set_option maxHeartbeats 8000000 in
theorem sgn3_ok (a : Addr) (n : Nat) (o p q : Nat) (t1 t2 t3 : Tok) (ho : o < 256) (hp : p < 256) (hq : q < 256)
    (H : Here w A h₀ L m s ((a, listOf #[.int (o : Nat) t1, .int (p : Nat) t2, .int (q : Nat) t3] n) :: news) base env outer 4)
    (ret : ∀ n, sgnO [o, p, q] = some n → ∀ v h' tk', (∃ t, v = .int (n : Nat) t) → Fr h₀ L h' m → News h₀ L h' news → Q v { s with heap := h', toks := tk' })
    (exc : sgnO [o, p, q] = none → ∀ e h' tk', ExcJ base h₀ (env :: outer) L m e news h' → E (.ref e) { s with heap := h', toks := tk' }) :
    wpAny (model PySem.Challenge.rw_nt0345_01.row.prog w) A (call (.ref 117) [.ref a]) Q E s := by
  k_with "MY body" =>
    refine H.lit (P := fun A => wpAny _ A _ _ _ _) ?_
    k_fill
    clear H
    intro dp un gd A₀ mean mg mb B F X N T loc kind room units
    have hf0 : Builtin.bitAnd ([(o : Int), (p : Int), (q : Int)].getD (Int.toNat 0) 0) (Int.fdiv 127 (2 ^ Int.toNat 3)) = ((o % 16 : Nat) : Int) := by
      rw [show Int.fdiv 127 (2 ^ Int.toNat 3) = 15 from rfl]
      show Builtin.bitAnd (o : Int) 15 = _
      rw [bitAnd_m4]; omega
    walk_at "MY enter"
    k_steps
    refine Halt.out ?_
    rename Fr _ _ _ _ => F1
    refine For_invF F1 rfl (by rfl) ?_
    k_steps
    rename Fr _ _ _ _ => F1
    rename News _ _ _ _ => N1
    refine turn_list (ns := Z [p, q]) (nn := 0) (Str.ofString "found") [] (ContP (o % 16)) rfl F1 N1 (.head _) (ints_cons rfl (ints_cons rfl ints_nil)) (by rfl) (cont_start _ (by omega) hf0) ?_ ?_
    · clear F1 N1
      intro v pre n' post tt u h1 tk1 own hl hP F1 N1
      (try dsimp only)
      (try k_fold)
      obtain ⟨qq, f, t5, rfl, hq, rfl, hlt⟩ := hP
      obtain ⟨k, q', rfl, hk⟩ := Z_cut hl
      have hk256 : k < 256 := by
        have : k ∈ [p, q] := by rw [hk]; simp
        simp at this; omega
      have hql : qq.length ≤ 2 := by
        have : ([p, q] : List Nat).length = qq.length + 1 + q'.length := by rw [hk]; simp; omega
        simp at this; omega
      have hflt : f < 131072 := Nat.lt_of_lt_of_le hlt (Nat.mul_le_mul (Nat.le_refl 32) (Nat.le_trans (Nat.pow_le_pow_right (by omega) hql) (show 64 ^ 2 ≤ 4096 by decide)))
      have hand := and192 (y := (k : Int)) rfl hk256
      have h63 : Builtin.bitAnd (k : Int) 63 = ((k % 64 : Nat) : Int) := by rw [and63]; omega
      k_steps
      · have hc : ¬ k / 64 = 2 := by omega
        exact exc (sgn_none (by rw [show ([q] : List Nat).length = 1 from rfl, hk]; exact cont_fail hq hc)) _ _ _ (exc_sub (by assumption) (by walk_at "MY subr"))
      · have hc : k / 64 = 2 := by omega
        (try dsimp only)
        refine endV (by k_asm) (by k_asm) (by walk_at "MY subr") (by walk_at "MY subr") (by with_unfolding_all rfl) (by walk_at "MY same") (cont_step hq hlt hc (or_low (by rw [shl6]; omega) h63 (by omega)))
    · clear F1 N1
      intro v u h1 tk1 hP F1 N1
      (try dsimp only)
      (try k_fold)
      obtain ⟨qq, f, t5, hq', hq, rfl, hlt⟩ := hP
      cases Z_inj hq'
      have hq2 : contO (p :: [q]) (o % 2 ^ (5 - ([q] : List Nat).length)) = some f := by simpa using hq
      have hL : leastN (([q] : List Nat).length + 2) = 2048 := rfl
      have hfl : f < 131072 := by simpa using hlt
      k_steps
      all_goals first
      | exact exc (sgn_bad hq2 (sgnOk_false (by omega))) _ _ _ (exc_sub (by assumption) (by walk_at "MY subr"))
      | exact ret _ (sgn_some hq2 (sgnOk_true (by omega) (by omega) (by omega))) _ _ _ ⟨_, rfl⟩ (by k_asm) (cb_drop (by k_asm) (by walk_at "MY subr"))
      | exact exc (sgn_bad hq2 (sgnOk_false (by omega))) _ _ _ (exc_sub (by assumption) (by walk_at "MY subr"))
  run_tac go
set_option maxRecDepth 100000 in
set_option maxHeartbeats 8000000 in
theorem sgn4_ok (a : Addr) (n : Nat) (o p q r : Nat) (t1 t2 t3 t4 : Tok) (ho : o < 256) (hp : p < 256) (hq : q < 256) (hr : r < 256)
    (H : Here w A h₀ L m s ((a, listOf #[.int (o : Nat) t1, .int (p : Nat) t2, .int (q : Nat) t3, .int (r : Nat) t4] n) :: news) base env outer 4)
    (ret : ∀ n, sgnO [o, p, q, r] = some n → ∀ v h' tk', (∃ t, v = .int (n : Nat) t) → Fr h₀ L h' m → News h₀ L h' news → Q v { s with heap := h', toks := tk' })
    (exc : sgnO [o, p, q, r] = none → ∀ e h' tk', ExcJ base h₀ (env :: outer) L m e news h' → E (.ref e) { s with heap := h', toks := tk' }) :
    wpAny (model PySem.Challenge.rw_nt0345_01.row.prog w) A (call (.ref 117) [.ref a]) Q E s := by
  k_with "MY body" =>
    refine H.lit (P := fun A => wpAny _ A _ _ _ _) ?_
    k_fill
    clear H
    intro dp un gd A₀ mean mg mb B F X N T loc kind room units
    have hf0 : Builtin.bitAnd ([(o : Int), (p : Int), (q : Int), (r : Int)].getD (Int.toNat 0) 0) (Int.fdiv 127 (2 ^ Int.toNat 4)) = ((o % 8 : Nat) : Int) := by
      rw [show Int.fdiv 127 (2 ^ Int.toNat 4) = 7 from rfl]
      show Builtin.bitAnd (o : Int) 7 = _
      rw [bitAnd_m3]; omega
    walk_at "MY enter"
    k_steps
    refine Halt.out ?_
    rename Fr _ _ _ _ => F1
    refine For_invF F1 rfl (by rfl) ?_
    k_steps
    rename Fr _ _ _ _ => F1
    rename News _ _ _ _ => N1
    refine turn_list (ns := Z [p, q, r]) (nn := 0) (Str.ofString "found") [] (ContP (o % 8)) rfl F1 N1 (.head _) (ints_cons rfl (ints_cons rfl (ints_cons rfl ints_nil))) (by rfl) (cont_start _ (by omega) hf0) ?_ ?_
    · clear F1 N1
      intro v pre n' post tt u h1 tk1 own hl hP F1 N1
      (try dsimp only)
      (try k_fold)
      obtain ⟨qq, f, t5, rfl, hq, rfl, hlt⟩ := hP
      obtain ⟨k, q', rfl, hk⟩ := Z_cut hl
      have hk256 : k < 256 := by
        have : k ∈ [p, q, r] := by rw [hk]; simp
        simp at this; omega
      have hql : qq.length ≤ 2 := by
        have : ([p, q, r] : List Nat).length = qq.length + 1 + q'.length := by rw [hk]; simp; omega
        simp at this; omega
      have hflt : f < 131072 := Nat.lt_of_lt_of_le hlt (Nat.mul_le_mul (Nat.le_refl 32) (Nat.le_trans (Nat.pow_le_pow_right (by omega) hql) (show 64 ^ 2 ≤ 4096 by decide)))
      have hand := and192 (y := (k : Int)) rfl hk256
      have h63 : Builtin.bitAnd (k : Int) 63 = ((k % 64 : Nat) : Int) := by rw [and63]; omega
      k_steps
      · have hc : ¬ k / 64 = 2 := by omega
        exact exc (sgn_none (by rw [show ([q, r] : List Nat).length = 2 from rfl, hk]; exact cont_fail hq hc)) _ _ _ (exc_sub (by assumption) (by walk_at "MY subr"))
      · have hc : k / 64 = 2 := by omega
        (try dsimp only)
        refine endV (by k_asm) (by k_asm) (by walk_at "MY subr") (by walk_at "MY subr") (by with_unfolding_all rfl) (by walk_at "MY same") (cont_step hq hlt hc (or_low (by rw [shl6]; omega) h63 (by omega)))
    · clear F1 N1
      intro v u h1 tk1 hP F1 N1
      (try dsimp only)
      (try k_fold)
      obtain ⟨qq, f, t5, hq', hq, rfl, hlt⟩ := hP
      cases Z_inj hq'
      have hq2 : contO (p :: [q, r]) (o % 2 ^ (5 - ([q, r] : List Nat).length)) = some f := by simpa using hq
      have hL : leastN (([q, r] : List Nat).length + 2) = 65536 := rfl
      have hfl : f < 8388608 := by simpa using hlt
      k_steps
      all_goals first
      | exact exc (sgn_bad hq2 (sgnOk_false (by omega))) _ _ _ (exc_sub (by assumption) (by walk_at "MY subr"))
      | exact ret _ (sgn_some hq2 (sgnOk_true (by omega) (by omega) (by omega))) _ _ _ ⟨_, rfl⟩ (by k_asm) (cb_drop (by k_asm) (by walk_at "MY subr"))
      | exact exc (sgn_bad hq2 (sgnOk_false (by omega))) _ _ _ (exc_sub (by assumption) (by walk_at "MY subr"))
  run_tac go
theorem sgn_ok (os : List Nat) (a : Addr) (n : Nat) (vs : Array Value) (hv : IntsAre vs.toList (Z os)) (h1 : 1 ≤ os.length) (h4 : os.length ≤ 4) (hb : ∀ o ∈ os, o < 256)
    (H : Here w A h₀ L m s ((a, listOf vs n) :: news) base env outer 4)
    (ret : ∀ n, sgnO os = some n → ∀ v h' tk', (∃ t, v = .int (n : Nat) t) → Fr h₀ L h' m → News h₀ L h' news → Q v { s with heap := h', toks := tk' })
    (exc : sgnO os = none → ∀ e h' tk', ExcJ base h₀ (env :: outer) L m e news h' → E (.ref e) { s with heap := h', toks := tk' }) :
    wpAny (model PySem.Challenge.rw_nt0345_01.row.prog w) A (call (.ref 117) [.ref a]) Q E s := by
  k_with "MY body" =>
    rcases os with _ | ⟨o, _ | ⟨p, _ | ⟨q, _ | ⟨r, _ | ⟨z, os⟩⟩⟩⟩⟩
    · simp at h1
    · obtain ⟨t1, l1, e1, hv1⟩ := ints_split hv
      have h0 := ints_end hv1
      subst h0
      cases arr_of e1
      exact sgn1_ok a n o t1 (hb _ (by simp)) H ret
    · obtain ⟨t1, l1, e1, hv1⟩ := ints_split hv
      obtain ⟨t2, l2, e2, hv2⟩ := ints_split hv1
      have h0 := ints_end hv2
      subst h0; subst e2
      cases arr_of e1
      exact sgn2_ok a n o p t1 t2 (hb _ (by simp)) (hb _ (by simp)) H ret exc
    · obtain ⟨t1, l1, e1, hv1⟩ := ints_split hv
      obtain ⟨t2, l2, e2, hv2⟩ := ints_split hv1
      obtain ⟨t3, l3, e3, hv3⟩ := ints_split hv2
      have h0 := ints_end hv3
      subst h0; subst e3; subst e2
      cases arr_of e1
      exact sgn3_ok a n o p q t1 t2 t3 (hb _ (by simp)) (hb _ (by simp)) (hb _ (by simp)) H ret exc
    · obtain ⟨t1, l1, e1, hv1⟩ := ints_split hv
      obtain ⟨t2, l2, e2, hv2⟩ := ints_split hv1
      obtain ⟨t3, l3, e3, hv3⟩ := ints_split hv2
      obtain ⟨t4, l4, e4, hv4⟩ := ints_split hv3
      have h0 := ints_end hv4
      subst h0; subst e4; subst e3; subst e2
      cases arr_of e1
      exact sgn4_ok a n o p q r t1 t2 t3 t4 (hb _ (by simp)) (hb _ (by simp)) (hb _ (by simp)) (hb _ (by simp)) H ret exc
    · simp at h4
  run_tac go
end

end
section
theorem kw_RX : True := by
  w_top off
  k_with_none
  k_with "MY room" => (first
      | ((try simp only [depth_under_make, depth_under_kw, depth_in1, depth_deeper, depth_caller, Around.mark]); (try dsimp only); omega)
      | ((try simp only [depth_under_make, depth_under_kw, depth_in1, depth_deeper, depth_caller, Around.mark]); (try dsimp only); simp only [recursionLimit] at *; omega))
  k_with "MY units" => ((have hcL9_k := cLine_is; (try simp only [units_in1, units_deeper, Around.mark_units, units_caller]); (try dsimp only); omega))
  k_with "MY enter" => ((refine wpAny_call ?_; k_dflt (refine' code_def ?k1 ?k2 ?k3 ?k4 ?k5 ?kA ?kF ?kK ?k6 ?k7 ?k8 ?k9 ?kB ?_ ?c2 ?c3 ?c4 ?c5; (case kA => exact rfl); (case kF => first | exact rfl | assumption); (case kK => first | exact rfl | assumption); (case k1 => k_asm); (case k2 => k_asm); (case k3 => k_asm); (case k4 => k_asm); (case k5 => k_asm); (case k6 => k_is); (case k7 => k_is); (case k8 => walk_at "MY room"); (case k9 => exact BindsTo.of_eq rfl); (case c5 => decide); (case kB => exact locs rfl); (case c2 => exact rfl); (case c3 => exact rfl); (case c4 => exact rfl); k_whole; intro g'_k L'_k h'_k FG'_k F'_k N'_k B'_k X'_k T'_k; (try dsimp only); (try k_lift B'_k); (try k_fold))))
  k_with "MY here" => ((refine' Here.mk ⟨_, ?h1⟩ ?h2 ?h3 ?h4 ⟨_, _, _, ?h5⟩ ?h6 ?h7 ?h8 ?h9 ?h10 ?h11; (case h6 => exact rfl); (case h1 => k_asm); (case h2 => k_asm); (case h3 => k_asm); (case h4 => k_asm); (case h5 => k_asm); (case h7 => first | exact rfl | assumption); (case h8 => first | exact rfl | assumption); (case h9 => exact rfl); (case h10 => walk_at "MY room"); (case h11 => walk_at "MY units")))
  k_with "MY sub" => ((intro p'_k hp'_k; first | exact hp'_k | (repeat (first | exact hp'_k | refine List.Mem.tail _ ?_))))
  k_with "MY fresh" => (first | assumption | (refine lt_of_all ?_; first | assumption | exact And.right (by assumption) | exact And.right (And.right (by assumption)) | exact And.right (And.right (And.right (by assumption))) | exact And.right (And.right (And.right (And.right (by assumption)))) | exact And.right (And.right (And.right (And.right (And.right (by assumption))))) | exact And.right (And.right (And.right (And.right (And.right (And.right (by assumption)))))) | exact And.right (And.right (And.right (And.right (And.right (And.right (And.right (by assumption)))))))))
  k_with "MY enterG" => ((refine wpAny_call ?_; k_dflt (refine' code_defG ?k1 ?k2 ?k3 ?k4 ?k5 ?kA ?kF ?kK ?k6 ?k7 ?k8 ?k9 ?kB ?_ ?c2 ?c3 ?c4 ?c5; (case kA => exact rfl); (case kF => first | exact rfl | assumption); (case kK => first | exact rfl | assumption); (case k1 => k_asm); (case k2 => k_asm); (case k3 => k_asm); (case k4 => k_asm); (case k5 => k_asm); (case k6 => k_is); (case k7 => k_is); (case k8 => walk_at "MY room"); (case k9 => exact BindsTo.of_eq rfl); (case c5 => decide); (case kB => exact locs rfl); (case c2 => exact rfl); (case c3 => exact rfl); (case c4 => exact rfl); k_whole; intro g'_k L'_k h'_k FG'_k F'_k N'_k B'_k X'_k T'_k kG'_k; (try dsimp only); (try k_lift B'_k); (try k_fold))))
  k_with "MY kept" => ((rename GSub _ _ _ => kG9_k; exact elt_after (InElt.start _) kG9_k (by assumption) (by assumption) (by assumption) (by walk_at "MY sub")))
  k_with "MY subr" => ((intro p'_k hp'_k; first | exact hp'_k | (repeat (first | exact hp'_k | exact List.mem_append_left _ hp'_k | exact List.mem_append_right _ hp'_k | refine List.Mem.tail _ ?_))))
  k_with "MY same" => ((intro z_k h1_k h2_k h3_k; first
      | rfl
      | ((try simp only [List.contains_cons, List.contains_nil, Bool.or_false, Bool.or_eq_false_iff, beq_eq_false_iff_ne, ne_eq] at h3_k); (simp [h1_k, h2_k, h3_k]; done))))
  k_with "MY enterC" => ((refine wpAny_call ?_; k_dflt (refine' code_defC ?k1 ?k2 ?k3 ?k4 ?k5 ?kA ?kF ?kK ?k6 ?k7 ?k8 ?k9 ?kB ?kD ?_ ?c2 ?c3 ?c4; (case kA => exact rfl); (case kF => first | exact rfl | assumption); (case kK => first | exact rfl | assumption); (case k1 => k_asm); (case k2 => k_asm); (case k3 => k_asm); (case k4 => k_asm); (case k5 => k_asm); (case k6 => k_is); (case k7 => k_is); (case k8 => walk_at "MY room"); (case k9 => exact BindsTo.of_eq rfl); (case kB => exact rfl); (case kD => decide +kernel); (case c2 => exact rfl); (case c3 => exact rfl); (case c4 => exact rfl); k_whole; intro g'_k L'_k h'_k tk'_k cells'_k FG'_k F'_k N'_k Y'_k B'_k X'_k T'_k l1_k; (try k_lt l1_k); k_cells Y'_k; (try simp only [List.cons_append, List.nil_append] at N'_k); (try dsimp only); (try k_lift B'_k); (try k_fold))))
  k_with "MY enterT" => ((refine wpAny_call ?_; k_dflt (refine' code_defT ?k1 ?k2 ?k3 ?k4 ?k5 ?kA ?kF ?kK ?k6 ?k7 ?k8 ?k9 ?kB ?_ ?c2 ?c3 ?c4 ?c5; (case kA => exact rfl); (case kF => first | exact rfl | assumption); (case kK => first | exact rfl | assumption); (case k1 => k_asm); (case k2 => k_asm); (case k3 => k_asm); (case k4 => k_asm); (case k5 => k_asm); (case k6 => k_is); (case k7 => k_is); (case k8 => walk_at "MY room"); (case k9 => exact BindsTo.of_eq rfl); (case c5 => decide); (case kB => exact locs rfl); (case c2 => exact rfl); (case c3 => exact rfl); (case c4 => exact rfl); k_whole; intro g'_k L'_k h'_k FG'_k F'_k N'_k B'_k X'_k T'_k; (try dsimp only); (try k_lift B'_k); (try k_fold))))
  trivial
/-- a flight over a base, the mark not told -/
structure ExcF (base G : Heap) (l : List Env) (L : Addr) (m : Str → Option Value) (e : Addr) (news : List (Addr × Obj)) (h : Heap) : Prop where
  fly : ∃ B dx mA tk, ∃ f : Option Addr, base.StaysIn B ∧ (∀ b o, G.get? b = some o → b ∉ l.filterMap (·.frame) → B.get? b = some o) ∧ (∀ q ∈ news, B.get? q.1 = some q.2 ∧ G.get? q.1 = none ∧ q.1 ≠ dx) ∧ B.Ns dx mA ∧ mA "kind" = some (.str (Str.ofString "URIError") tk) ∧ Fl B l e dx (f.elim .none fun f => rawInt f) h
  ns : h.Ns L m
  up : G.UpToSlots h
theorem ExcJ.toF {base G : Heap} {l : List Env} {L : Addr} {m : Str → Option Value} {e : Addr} {news : List (Addr × Obj)} {h : Heap} (R : ExcJ base G l L m e news h) : ExcF base G l L m e news h :=
  let ⟨⟨B, dx, mA, tk, a1, a2, a3, a4, a5, a6⟩, ns, up⟩ := R; ⟨⟨B, dx, mA, tk, none, a1, a2, a3, a4, a5, a6⟩, ns, up⟩
theorem excF_sub {base G : Heap} {l : List Env} {L : Addr} {m : Str → Option Value} {e : Addr} {big news : List (Addr × Obj)} {h : Heap} (R : ExcF base G l L m e big h) (sub : ∀ p ∈ news, p ∈ big) : ExcF base G l L m e news h := by
  k_with "MY body" =>
    obtain ⟨⟨B, dx, mA, tk, f, a1, a2, a3, a4, a5, a6⟩, ns, up⟩ := R
    exact ⟨⟨B, dx, mA, tk, f, a1, a2, fun q hq => a3 q (sub q hq), a4, a5, a6⟩, ns, up⟩
  run_tac go
theorem raw_inj {a b : Addr} (h : (rawInt a == rawInt b) = true) : a = b := by
  k_with "MY body" =>
    simp [rawInt] at h
    exact Int.ofNat.inj h
  run_tac go
section
variable {M : Model} {A : Around} {E : Value → Shared → Prop} {s : Shared} {base h₀ g h : Heap} {env ce cenv : Env} {outer : List Env} {L L' e dx C : Addr} {m m' mC : Str → Option Value} {news news' : List (Addr × Obj)} {oC : Obj}
theorem fl_note_any {Q : Unit → Shared → Prop} {f : Option Addr} (H : Fl base (env :: outer) e dx (f.elim .none fun f => rawInt f) s.heap) (hfr : A.frames = some (env :: outer)) (hf : env.frame = some L)
    (h : ∀ h', Fl base (env :: outer) e dx (rawInt L) h' → s.heap.UpToSlots h' → Q () { s with heap := h' }) : wpAny M A (noteFrame (.ref e) env) Q E s := by
  k_with "MY body" =>
    have neg : ∀ fl : Value, Fl base (env :: outer) e dx fl s.heap → (fl == rawInt L) = false → wpAny M A (noteFrame (.ref e) env) Q E s := by
      intro fl H hneg
      obtain ⟨st, new, fr, oe, vs, T, oT, ts, he, hc, hdx, hd, h1, hnT, hTe, hT, hdT, h3⟩ := H
      unfold noteFrame
      simp only [hf]
      refine wpAny_bind (wpAny_field he hd h1 ?_)
      rw [if_pos (show (Value.ref T != Value.none) = true from by simp)]
      refine wpAny_bind (wpAny_field hT hdT h3 ?_)
      rw [if_neg (show ¬ ((fl == rawInt L) = true) from by rw [hneg]; decide)]
      refine wpAny_bind (wpAny_setField hT hdT (Array.getElem?_eq_some_iff.mp h3).1 ?_)
      have other : ∀ b, b ≠ T → (s.heap.update T (Obj.mapFields (·.setIfInBounds 3 Value.none))).get? b = s.heap.get? b := fun b hb => Heap.get?_update_other _ _ (Ne.symm hb)
      have notT : ∀ b o, s.heap.get? b = some o → (∀ ws, o.data ≠ .fields ws) → b ≠ T := fun b o ho hn q => by
        rw [q, hT] at ho; cases ho; exact hn ts hdT
      refine fl_entry (s := { s with heap := s.heap.update T (Obj.mapFields (·.setIfInBounds 3 Value.none)) }) hfr (fr.of_keeps fun b o hb hn => ⟨o, (other b (notT b o hb hn)).trans hb, rfl⟩) hf ((other e (Ne.symm hTe)).trans he)
        (fun b o hb => (other b fun q => by rw [q, hnT] at hb; cases hb).trans (st b o hb)) new hc hdx hd (Array.getElem?_eq_some_iff.mp h1).1 fun h' hF hu => h h' hF fun b o hb hn => hu b o ((other b (notT b o hb hn)).trans hb) hn
    cases f with
    | none => exact neg _ H (by simp [rawInt])
    | some f =>
      by_cases q : (rawInt f == rawInt L) = true
      · cases raw_inj q
        obtain ⟨st, new, fr, oe, vs, T, oT, ts, he, hc, hdx, hd, h1, hnT, hTe, hT, hdT, h3⟩ := id H
        unfold noteFrame
        simp only [hf]
        refine wpAny_bind (wpAny_field he hd h1 ?_)
        rw [if_pos (show (Value.ref T != Value.none) = true from by simp)]
        refine wpAny_bind (wpAny_field hT hdT h3 ?_)
        rw [if_pos (by simpa using q)]
        exact wpAny_pure (h s.heap H (Heap.UpToSlots.of_keeps fun _ _ e => e))
      · exact neg _ H (by simpa using q)
  run_tac go
theorem mem_frames_of {b : Addr} (hce : ce.frame = some L') (hm : b ∈ (ce :: outer).filterMap (·.frame)) : b = L' ∨ b ∈ outer.filterMap (·.frame) := by
  k_with "MY body" =>
    obtain ⟨v, hv, hf⟩ := List.mem_filterMap.mp hm
    rcases List.mem_cons.mp hv with rfl | hv
    · rw [hce] at hf; exact .inl (Option.some.inj hf).symm
    · exact .inr (List.mem_filterMap.mpr ⟨v, hv, hf⟩)
  run_tac go
theorem leave_F {Q : Unit → Shared → Prop} (hce : ce.frame = some L') (K : Below A base (env :: outer) g) (FG : Fr h₀ L g m) {m'' : Str → Option Value} (F : Fr g L' h m'') (R : ExcF base g (ce :: env :: outer) L' m' e news' s.heap) (sub : ∀ p ∈ news, p ∈ news')
    (hQ : ∀ h', ExcJ base h₀ (env :: outer) L m e news h' → Q () { s with heap := h' }) :
    wpAny M (A.deeper ce) (leaving ce (.ref e)) Q E s := by
  k_with "MY body" =>
    obtain ⟨⟨B, dx, mA, tk, f, a1, a2, a3, a4, a5, a6⟩, ns, up⟩ := R
    unfold leaving
    refine wpAny_bind (fl_note_any a6 (Around.frames_deeper K.stack) hce fun h₁ H₁ u₁ => ?_)
    refine fl_mark (s := { s with heap := h₁ }) H₁ none fun h' H₂ u₂ => hQ h' ?_
    have H' := H₂.tail
    have up' : g.UpToSlots h' := (up.trans u₁).trans u₂
    refine exc_down (g := g) (L' := L) (m' := m) FG sub ⟨⟨B, dx, mA, tk, a1, fun b o q n => a2 b o q fun hm => ?_, a3, a4, a5, H'⟩, up'.ns FG.ns, up'⟩ up'
    rcases mem_frames_of hce hm with z | z
    · rw [z, self_none F] at q; cases q
    · exact n z
  run_tac go
theorem note_frame (hcf : cenv.frame = env.frame) (e : Value) : noteFrame e cenv = noteFrame e env := by
  k_with "MY body" =>
    unfold noteFrame PySem.frameOf
    rw [hcf]
  run_tac go
theorem fun_but {base h h' : Heap} (k : ∀ b, base.get? b = none → h'.get? b = h.get? b) : ∀ {l : List Env}, h.FunFrames base l → h'.FunFrames base l
  | [], _ => trivial
  | _ :: _, ⟨a, ⟨L, o, hf, hb, ho, hd⟩, r⟩ => ⟨a, ⟨L, o, hf, hb, (k L hb).trans ho, hd⟩, fun_but k r⟩
theorem fl_but {l : List Env} {fl : Value} {h h' B : Heap} (H : Fl B l e dx fl h) (hC : B.get? C = some oC) (hs : Heap.SameBut C h h') : Fl (hideAll B [C]) l e dx fl h' := by
  obtain ⟨st, new, fr, oe, vs, T, oT, ts, he, hc, hdx, hd, h1, hnT, hTe, hT, hdT, h3⟩ := H
  have nC : ∀ b, B.get? b = none → b ≠ C := fun b hb q => by rw [q, hC] at hb; cases hb
  have back : ∀ b, B.get? b = none → (hideAll B [C]).get? b = none := fun b hb => by
    cases q : (hideAll B [C]).get? b with
    | none => rfl
    | some o => have := of_hideAll _ q; rw [hb] at this; cases this
  refine ⟨fun b o q => ?_, back e new, funFrames_base (B := B) (fun b o q => of_hideAll _ q) (fun_but (fun b hb => hs.2 b (nC b hb)) fr), oe, vs, T, oT, ts, (hs.2 e (nC e new)).trans he, hc, hdx, hd, h1, back T hnT, hTe, (hs.2 T (nC T hnT)).trans hT, hdT, h3⟩
  refine (hs.2 b fun z => ?_).trans (st b o (of_hideAll _ q))
  rw [z, hideAll_none _ (.head _)] at q; cases q
theorem exc_comp {use : Value → Sem Unit} {Q : Value → Shared → Prop} {acc : Value} (R : ExcJ base h₀ (env :: outer) L m e ((C, oC) :: news) s.heap) (hfr : A.frames = some (env :: outer)) (hf : env.frame = some L) (hcf : cenv.frame = env.frame)
    (hno : LCg.NsObj oC mC) (hbs : base.StaysIn h₀) (hCL : C ≠ L) (hn : ∀ q ∈ news, q.1 ≠ C)
    (hE : ∀ h', ExcF base h₀ (env :: outer) L m e news h' → E (.ref e) { s with heap := h' }) :
    notedBy M A cenv (fun e s' => compPost M A E (some use) Q acc C (.error e) s') (.ref e) s := by
  k_with "MY body" =>
    obtain ⟨⟨B, dx, mA, tk, a1, a2, a3, a4, a5, a6⟩, ns, up⟩ := R
    unfold notedBy
    rw [note_frame hcf]
    refine fl_note a6 hfr hf fun h1 H1 u1 => ?_
    obtain ⟨c1, c2, c3⟩ := a3 (C, oC) (.head _)
    refine ⟨mC, hno.ns (H1.stays _ _ c1), fun h2 hs cenv' _ => ?_⟩
    have H2 := fl_but H1 c1 hs
    obtain ⟨st, new, fr, oe, vs, T, oT, ts, he, hc, hdx, hd, hv1, hnT, hTe, hT, hdT, h3⟩ := id H2
    unfold PySem.passOn
    refine wpAny_bind (wpAny_field he hd hv1 ?_)
    rw [if_neg (show ¬ ((Value.ref T == Value.none) = true) from by simp)]
    refine wpAny_bind (fl_mark (s := { s with heap := h2 }) H2 cenv'.frame fun h3 H3 u3 => ?_)
    have ne : ∀ b o, h₀.get? b = some o → b ≠ C := fun b o q z => by rw [z, show h₀.get? C = none from c2] at q; cases q
    refine wpAny_throw (hE h3 ⟨⟨hideAll B [C], dx, mA, tk, cenv'.frame, fun b o q => hideAll_get _ (a1 b o q) fun z => ?_, fun b o q n => hideAll_get _ (a2 b o q n) fun z => ?_, fun q hq => ⟨hideAll_get _ (a3 q (.tail _ hq)).1 fun z => ?_, (a3 q (.tail _ hq)).2⟩, ?_, a5, H3⟩, ?_, fun b o q hb => ?_⟩)
    · exact ne b o (hbs b o q) (List.mem_singleton.mp z)
    · exact ne b o q (List.mem_singleton.mp z)
    · exact hn q hq (List.mem_singleton.mp z)
    · obtain ⟨o, es, ep, ho, r⟩ := a4
      exact ⟨o, es, ep, hideAll_get _ ho fun z => c3 (List.mem_singleton.mp z).symm, r⟩
    · exact u3.ns ((u1.ns ns).sameBut hs (Ne.symm hCL))
    · obtain ⟨sl, z⟩ := (up.trans u1) b o q hb
      obtain ⟨sl', z'⟩ := u3 b _ ((hs.2 b (ne b o q)).trans z) hb
      exact ⟨sl', z'⟩
  run_tac go
end

end
section
theorem kw_W4 : True := by
  w_top off
  k_with_none
  k_with "MY room" => (first
      | ((try simp only [depth_under_make, depth_under_kw, depth_in1, depth_deeper, depth_caller, Around.mark]); (try dsimp only); omega)
      | ((try simp only [depth_under_make, depth_under_kw, depth_in1, depth_deeper, depth_caller, Around.mark]); (try dsimp only); simp only [recursionLimit] at *; omega))
  k_with "MY units" => ((have hcL9_k := cLine_is; (try simp only [units_in1, units_deeper, Around.mark_units, units_caller]); (try dsimp only); omega))
  k_with "MY enter" => ((refine wpAny_call ?_; k_dflt (refine' code_def ?k1 ?k2 ?k3 ?k4 ?k5 ?kA ?kF ?kK ?k6 ?k7 ?k8 ?k9 ?kB ?_ ?c2 ?c3 ?c4 ?c5; (case kA => exact rfl); (case kF => first | exact rfl | assumption); (case kK => first | exact rfl | assumption); (case k1 => k_asm); (case k2 => k_asm); (case k3 => k_asm); (case k4 => k_asm); (case k5 => k_asm); (case k6 => k_is); (case k7 => k_is); (case k8 => walk_at "MY room"); (case k9 => exact BindsTo.of_eq rfl); (case c5 => decide); (case kB => exact locs rfl); (case c2 => exact rfl); (case c3 => exact rfl); (case c4 => exact rfl); k_whole; intro g'_k L'_k h'_k FG'_k F'_k N'_k B'_k X'_k T'_k; (try dsimp only); (try k_lift B'_k); (try k_fold))))
  k_with "MY here" => ((refine' Here.mk ⟨_, ?h1⟩ ?h2 ?h3 ?h4 ⟨_, _, _, ?h5⟩ ?h6 ?h7 ?h8 ?h9 ?h10 ?h11; (case h6 => exact rfl); (case h1 => k_asm); (case h2 => k_asm); (case h3 => k_asm); (case h4 => k_asm); (case h5 => k_asm); (case h7 => first | exact rfl | assumption); (case h8 => first | exact rfl | assumption); (case h9 => exact rfl); (case h10 => walk_at "MY room"); (case h11 => walk_at "MY units")))
  k_with "MY sub" => ((intro p'_k hp'_k; first | exact hp'_k | (repeat (first | exact hp'_k | refine List.Mem.tail _ ?_))))
  k_with "MY fresh" => (first | assumption | (refine lt_of_all ?_; first | assumption | exact And.right (by assumption) | exact And.right (And.right (by assumption)) | exact And.right (And.right (And.right (by assumption))) | exact And.right (And.right (And.right (And.right (by assumption)))) | exact And.right (And.right (And.right (And.right (And.right (by assumption))))) | exact And.right (And.right (And.right (And.right (And.right (And.right (by assumption)))))) | exact And.right (And.right (And.right (And.right (And.right (And.right (And.right (by assumption)))))))))
  k_with "MY enterG" => ((refine wpAny_call ?_; k_dflt (refine' code_defG ?k1 ?k2 ?k3 ?k4 ?k5 ?kA ?kF ?kK ?k6 ?k7 ?k8 ?k9 ?kB ?_ ?c2 ?c3 ?c4 ?c5; (case kA => exact rfl); (case kF => first | exact rfl | assumption); (case kK => first | exact rfl | assumption); (case k1 => k_asm); (case k2 => k_asm); (case k3 => k_asm); (case k4 => k_asm); (case k5 => k_asm); (case k6 => k_is); (case k7 => k_is); (case k8 => walk_at "MY room"); (case k9 => exact BindsTo.of_eq rfl); (case c5 => decide); (case kB => exact locs rfl); (case c2 => exact rfl); (case c3 => exact rfl); (case c4 => exact rfl); k_whole; intro g'_k L'_k h'_k FG'_k F'_k N'_k B'_k X'_k T'_k kG'_k; (try dsimp only); (try k_lift B'_k); (try k_fold))))
  k_with "MY kept" => ((rename GSub _ _ _ => kG9_k; exact elt_after (InElt.start _) kG9_k (by assumption) (by assumption) (by assumption) (by walk_at "MY sub")))
  k_with "MY subr" => ((intro p'_k hp'_k; first | exact hp'_k | (repeat (first | exact hp'_k | exact List.mem_append_left _ hp'_k | exact List.mem_append_right _ hp'_k | refine List.Mem.tail _ ?_))))
  k_with "MY same" => ((intro z_k h1_k h2_k h3_k; first
      | rfl
      | ((try simp only [List.contains_cons, List.contains_nil, Bool.or_false, Bool.or_eq_false_iff, beq_eq_false_iff_ne, ne_eq] at h3_k); (simp [h1_k, h2_k, h3_k]; done))))
  k_with "MY enterC" => ((refine wpAny_call ?_; k_dflt (refine' code_defC ?k1 ?k2 ?k3 ?k4 ?k5 ?kA ?kF ?kK ?k6 ?k7 ?k8 ?k9 ?kB ?kD ?_ ?c2 ?c3 ?c4; (case kA => exact rfl); (case kF => first | exact rfl | assumption); (case kK => first | exact rfl | assumption); (case k1 => k_asm); (case k2 => k_asm); (case k3 => k_asm); (case k4 => k_asm); (case k5 => k_asm); (case k6 => k_is); (case k7 => k_is); (case k8 => walk_at "MY room"); (case k9 => exact BindsTo.of_eq rfl); (case kB => exact rfl); (case kD => decide +kernel); (case c2 => exact rfl); (case c3 => exact rfl); (case c4 => exact rfl); k_whole; intro g'_k L'_k h'_k tk'_k cells'_k FG'_k F'_k N'_k Y'_k B'_k X'_k T'_k l1_k; (try k_lt l1_k); k_cells Y'_k; (try simp only [List.cons_append, List.nil_append] at N'_k); (try dsimp only); (try k_lift B'_k); (try k_fold))))
  k_with "MY enterT" => ((refine wpAny_call ?_; k_dflt (refine' code_defT ?k1 ?k2 ?k3 ?k4 ?k5 ?kA ?kF ?kK ?k6 ?k7 ?k8 ?k9 ?kB ?_ ?c2 ?c3 ?c4 ?c5; (case kA => exact rfl); (case kF => first | exact rfl | assumption); (case kK => first | exact rfl | assumption); (case k1 => k_asm); (case k2 => k_asm); (case k3 => k_asm); (case k4 => k_asm); (case k5 => k_asm); (case k6 => k_is); (case k7 => k_is); (case k8 => walk_at "MY room"); (case k9 => exact BindsTo.of_eq rfl); (case c5 => decide); (case kB => exact locs rfl); (case c2 => exact rfl); (case c3 => exact rfl); (case c4 => exact rfl); k_whole; intro g'_k L'_k h'_k FG'_k F'_k N'_k B'_k X'_k T'_k; (try dsimp only); (try k_lift B'_k); (try k_fold))))
  trivial
/-- the end of a turn of a while over an int in a cell and a list of texts -/
def EndC (s : Shared) (h₀ : Heap) (L a c : Addr) (news : List (Addr × Obj)) (stored : List Str) (m₀ : Str → Option Value) (P : Int → List Str → Prop) (lid : Nat) (μ : Int → Nat) (s₃ : Shared) : Prop :=
  ∃ i' ti' vs' found' n' o' h' tk' m' news', s₃ = { s with heap := h', toks := tk' } ∧ Fr h₀ L h' m' ∧ News h₀ L h' news' ∧ (a, listOf vs' n') ∈ news' ∧ (c, o') ∈ news' ∧ o'.data = .cell (some (.int i' ti')) ∧ (∀ p ∈ news, p ∈ news') ∧ StrsAre vs'.toList found' ∧ (∀ z, stored.contains z = false → m' z = m₀ z) ∧ P i' found' ∧ μ i' < lid
theorem endC {s : Shared} {h₀ : Heap} {L a c : Addr} {news : List (Addr × Obj)} {stored : List Str} {m₀ : Str → Option Value} {P : Int → List Str → Prop} {lid : Nat} {μ : Int → Nat} {i' : Int} {ti' : Tok} {vs' : Array Value} {found' : List Str} {n' : Nat} {o' : Obj} {h' : Heap} {tk' : Nat} {m' : Str → Option Value} {news' : List (Addr × Obj)}
    (F : Fr h₀ L h' m') (N : News h₀ L h' news') (hm : (a, listOf vs' n') ∈ news') (hc : (c, o') ∈ news') (hd : o'.data = .cell (some (.int i' ti'))) (sub : ∀ p ∈ news, p ∈ news') (hr : ∀ z, stored.contains z = false → m' z = m₀ z) (hs : StrsAre vs'.toList found') (hp : P i' found') (hl : μ i' < lid) :
    EndC s h₀ L a c news stored m₀ P lid μ { s with heap := h', toks := tk' } := ⟨i', ti', vs', found', n', o', h', tk', m', news', rfl, F, N, hm, hc, hd, sub, hs, hr, hp, hl⟩
theorem while_cell {prog : Program} {w : World} {A : Around} {E : Value → Shared → Prop} {Q : Flow → Shared → Prop} {s : Shared} {env : Env} {h₀ : Heap} {L a : Addr} {test : PySem.Expr} {body : List Stmt} {pos : Pos} {m₀ : Str → Option Value} {news : List (Addr × Obj)}
    (c : Addr) (stored : List Str) (P : Int → List Str → Prop) (μ : Int → Nat) {i₀ : Int} {t₀ : Tok} {n₀ : Nat} {o₀ : Obj}
    (F : Fr h₀ L s.heap m₀) (N : News h₀ L s.heap ((a, listOf #[] n₀) :: (c, o₀) :: news)) (hd : o₀.data = .cell (some (.int i₀ t₀))) (hp : P i₀ [])
    (turn : ∀ (i : Int) (ti : Tok) (vs : List Value) (found : List Str) (n : Nat) (o : Obj) (u : Str → Option Value) (h : Heap) (tk : Nat), StrsAre vs found → o.data = .cell (some (.int i ti)) → P i found → Fr h₀ L h (fun z => if stored.contains z = true then u z else m₀ z) → News h₀ L h ((a, listOf vs.toArray n) :: (c, o) :: news) →
      wpAny (model prog w) A (isTrue test env (eval test env)) (fun b s₂ => if b = true then wpAny (model prog w) A (execs body env) (fun f s₃ => match f with
          | .ret v => Q (.ret v) s₃
          | .brk => Q .next s₃
          | _ => EndC s h₀ L a c news stored m₀ P (μ i) μ s₃) E s₂ else Q .next s₂) E { s with heap := h, toks := tk })
    (hE : PassesOwn (model prog w) A env E := by passes_own) : wpAny (model prog w) A (exec (.While test body [] pos) env) Q E s := by
  k_with "MY body" =>
    refine ksw_while (σ := Int × Nat × List Value × List Str × Nat × Obj) (fun k => (a, listOf k.2.2.1.toArray k.2.2.2.2.1) :: (c, k.2.2.2.2.2) :: news) (fun _ => []) (fun k => StrsAre k.2.2.1 k.2.2.2.1 ∧ k.2.2.2.2.2.data = .cell (some (.int k.1 k.2.1))) stored (fun k => P k.1 k.2.2.2.1) (fun k => μ k.1) (i₀, t₀, [], [], n₀, o₀)
      F N ⟨.nil, hd⟩ (fun p hp => by cases hp) hp (fun k u h tk hf hP F' N' => ?_) hE
    refine wpAny_mono (turn k.1 k.2.1 k.2.2.1 k.2.2.2.1 k.2.2.2.2.1 k.2.2.2.2.2 u h tk hf.1 hf.2 hP F' N') (fun b s₂ hb => ?_) fun _ _ x => x
    cases b with
    | false => simpa using hb
    | true =>
      simp only [if_true] at hb ⊢
      refine wpAny_mono hb (fun f s₃ q => ?_) fun _ _ x => x
      have fin : EndC s h₀ L a c news stored m₀ P (μ k.1) μ s₃ →
          KswEnd h₀ L s (fun (k : Int × Nat × List Value × List Str × Nat × Obj) => (a, listOf k.2.2.1.toArray k.2.2.2.2.1) :: (c, k.2.2.2.2.2) :: news) (fun _ => []) (fun k => StrsAre k.2.2.1 k.2.2.2.1 ∧ k.2.2.2.2.2.data = .cell (some (.int k.1 k.2.1))) stored m₀ (fun k => P k.1 k.2.2.2.1) (fun k => μ k.1) k s₃ := by
        rintro ⟨i', ti', vs', found', n', o', h', tk', m', news', e, F'', N'', h1, hc, hd', h2, h3, h5, h6, h7⟩
        refine ⟨(i', ti', vs'.toList, found', n', o'), h', tk', m', news', e, F'', N'', fun p hp => ?_, ⟨h3, hd'⟩, (fun p hp => by cases hp), fun z hz hs => h5 z hs, h6, h7⟩
        rcases List.mem_cons.mp hp with rfl | hp
        · simpa using h1
        · rcases List.mem_cons.mp hp with rfl | hp
          · exact hc
          · exact h2 p hp
      cases f with
      | ret v => exact q
      | brk => exact q
      | next => exact fin q
      | cont => exact fin q
  run_tac go
end
section
theorem kw_RC : True := by
  w_top off
  k_with_none
  k_with "MY room" => (first
      | ((try simp only [depth_under_make, depth_under_kw, depth_in1, depth_deeper, depth_caller, Around.mark]); (try dsimp only); omega)
      | ((try simp only [depth_under_make, depth_under_kw, depth_in1, depth_deeper, depth_caller, Around.mark]); (try dsimp only); simp only [recursionLimit] at *; omega))
  k_with "MY units" => ((have hcL9_k := cLine_is; (try simp only [units_in1, units_deeper, Around.mark_units, units_caller]); (try dsimp only); omega))
  k_with "MY enter" => ((refine wpAny_call ?_; k_dflt (refine' code_def ?k1 ?k2 ?k3 ?k4 ?k5 ?kA ?kF ?kK ?k6 ?k7 ?k8 ?k9 ?kB ?_ ?c2 ?c3 ?c4 ?c5; (case kA => exact rfl); (case kF => first | exact rfl | assumption); (case kK => first | exact rfl | assumption); (case k1 => k_asm); (case k2 => k_asm); (case k3 => k_asm); (case k4 => k_asm); (case k5 => k_asm); (case k6 => k_is); (case k7 => k_is); (case k8 => walk_at "MY room"); (case k9 => exact BindsTo.of_eq rfl); (case c5 => decide); (case kB => exact locs rfl); (case c2 => exact rfl); (case c3 => exact rfl); (case c4 => exact rfl); k_whole; intro g'_k L'_k h'_k FG'_k F'_k N'_k B'_k X'_k T'_k; (try dsimp only); (try k_lift B'_k); (try k_fold))))
  k_with "MY here" => ((refine' Here.mk ⟨_, ?h1⟩ ?h2 ?h3 ?h4 ⟨_, _, _, ?h5⟩ ?h6 ?h7 ?h8 ?h9 ?h10 ?h11; (case h6 => exact rfl); (case h1 => k_asm); (case h2 => k_asm); (case h3 => k_asm); (case h4 => k_asm); (case h5 => k_asm); (case h7 => first | exact rfl | assumption); (case h8 => first | exact rfl | assumption); (case h9 => exact rfl); (case h10 => walk_at "MY room"); (case h11 => walk_at "MY units")))
  k_with "MY sub" => ((intro p'_k hp'_k; first | exact hp'_k | (repeat (first | exact hp'_k | refine List.Mem.tail _ ?_))))
  k_with "MY fresh" => (first | assumption | (refine lt_of_all ?_; first | assumption | exact And.right (by assumption) | exact And.right (And.right (by assumption)) | exact And.right (And.right (And.right (by assumption))) | exact And.right (And.right (And.right (And.right (by assumption)))) | exact And.right (And.right (And.right (And.right (And.right (by assumption))))) | exact And.right (And.right (And.right (And.right (And.right (And.right (by assumption)))))) | exact And.right (And.right (And.right (And.right (And.right (And.right (And.right (by assumption)))))))))
  k_with "MY enterG" => ((refine wpAny_call ?_; k_dflt (refine' code_defG ?k1 ?k2 ?k3 ?k4 ?k5 ?kA ?kF ?kK ?k6 ?k7 ?k8 ?k9 ?kB ?_ ?c2 ?c3 ?c4 ?c5; (case kA => exact rfl); (case kF => first | exact rfl | assumption); (case kK => first | exact rfl | assumption); (case k1 => k_asm); (case k2 => k_asm); (case k3 => k_asm); (case k4 => k_asm); (case k5 => k_asm); (case k6 => k_is); (case k7 => k_is); (case k8 => walk_at "MY room"); (case k9 => exact BindsTo.of_eq rfl); (case c5 => decide); (case kB => exact locs rfl); (case c2 => exact rfl); (case c3 => exact rfl); (case c4 => exact rfl); k_whole; intro g'_k L'_k h'_k FG'_k F'_k N'_k B'_k X'_k T'_k kG'_k; (try dsimp only); (try k_lift B'_k); (try k_fold))))
  k_with "MY kept" => ((rename GSub _ _ _ => kG9_k; exact elt_after (InElt.start _) kG9_k (by assumption) (by assumption) (by assumption) (by walk_at "MY sub")))
  k_with "MY subr" => ((intro p'_k hp'_k; first | exact hp'_k | (repeat (first | exact hp'_k | exact List.mem_append_left _ hp'_k | exact List.mem_append_right _ hp'_k | refine List.Mem.tail _ ?_))))
  k_with "MY same" => ((intro z_k h1_k h2_k h3_k; first
      | rfl
      | ((try simp only [List.contains_cons, List.contains_nil, Bool.or_false, Bool.or_eq_false_iff, beq_eq_false_iff_ne, ne_eq] at h3_k); (simp [h1_k, h2_k, h3_k]; done))))
  k_with "MY enterC" => ((refine wpAny_call ?_; k_dflt (refine' code_defC ?k1 ?k2 ?k3 ?k4 ?k5 ?kA ?kF ?kK ?k6 ?k7 ?k8 ?k9 ?kB ?kD ?_ ?c2 ?c3 ?c4; (case kA => exact rfl); (case kF => first | exact rfl | assumption); (case kK => first | exact rfl | assumption); (case k1 => k_asm); (case k2 => k_asm); (case k3 => k_asm); (case k4 => k_asm); (case k5 => k_asm); (case k6 => k_is); (case k7 => k_is); (case k8 => walk_at "MY room"); (case k9 => exact BindsTo.of_eq rfl); (case kB => exact rfl); (case kD => decide +kernel); (case c2 => exact rfl); (case c3 => exact rfl); (case c4 => exact rfl); k_whole; intro g'_k L'_k h'_k tk'_k cells'_k FG'_k F'_k N'_k Y'_k B'_k X'_k T'_k l1_k; (try k_lt l1_k); k_cells Y'_k; (try simp only [List.cons_append, List.nil_append] at N'_k); (try dsimp only); (try k_lift B'_k); (try k_fold))))
  k_with "MY enterT" => ((refine wpAny_call ?_; k_dflt (refine' code_defT ?k1 ?k2 ?k3 ?k4 ?k5 ?kA ?kF ?kK ?k6 ?k7 ?k8 ?k9 ?kB ?_ ?c2 ?c3 ?c4 ?c5; (case kA => exact rfl); (case kF => first | exact rfl | assumption); (case kK => first | exact rfl | assumption); (case k1 => k_asm); (case k2 => k_asm); (case k3 => k_asm); (case k4 => k_asm); (case k5 => k_asm); (case k6 => k_is); (case k7 => k_is); (case k8 => walk_at "MY room"); (case k9 => exact BindsTo.of_eq rfl); (case c5 => decide); (case kB => exact locs rfl); (case c2 => exact rfl); (case c3 => exact rfl); (case c4 => exact rfl); k_whole; intro g'_k L'_k h'_k FG'_k F'_k N'_k B'_k X'_k T'_k; (try dsimp only); (try k_lift B'_k); (try k_fold))))
  trivial
def RElt (prog : Program) (w : World) (A : Around) (base h₀ : Heap) (env : Env) (outer : List Env) (m : Str → Option Value) (elt : PySem.Expr) (scope : Scope) (cl : List (Str × Addr)) (x : Str) (n : Nat) (G : Nat → Value → Prop) (news : List (Addr × Obj)) (s : Shared) : Prop :=
  ∀ C oC mC (i : Nat) tok h tk (E' : Value → Shared → Prop), i < n → Fr h₀ env.locals h m → News h₀ env.locals h ((C, oC) :: news) → LCg.NsObj oC mC → mC x = some (.int (i : Nat) tok) →
    (∀ e h' tk', ExcJ base h₀ (env :: outer) env.locals m e ((C, oC) :: news) h' → (∃ j < n, ∀ v, ¬ G j v) → E' (.ref e) { s with heap := h', toks := tk' }) →
    wpAny (model prog w) A (eval elt (compEnvC scope cl C env)) (fun y s₃ => Halt (G i y ∧ Keeps { s with heap := h, toks := tk } s₃)) E' { s with heap := h, toks := tk }
theorem RElt.of {prog : Program} {w : World} {A : Around} {base h₀ : Heap} {env : Env} {outer : List Env} {m : Str → Option Value} {elt : PySem.Expr} {scope : Scope} {cl : List (Str × Addr)} {x : Str} {n : Nat} {G : Nat → Value → Prop} {news : List (Addr × Obj)} {s s' : Shared}
    (h : RElt prog w A base h₀ env outer m elt scope cl x n G news s) (e : ∃ h t, s' = { s with heap := h, toks := t }) : RElt prog w A base h₀ env outer m elt scope cl x n G news s' := by
  k_with "MY body" =>
    obtain ⟨h', t, rfl⟩ := e
    exact h
  run_tac go
theorem adr_ne {a b : Addr} (h : @Ne Nat a b) : a ≠ b := h
theorem ints_len {vs : List Value} {ns : List Int} (h : IntsAre vs ns) : vs.length = ns.length := by
  k_with "MY body" =>
    induction h with
    | nil => rfl
    | cons _ _ _ ih => simp [ih]
  run_tac go
theorem ints_snoc {vs : List Value} {ks : List Nat} (k : Nat) (t : Tok) (h : IntsAre vs (Z ks)) : IntsAre (vs ++ [.int (k : Nat) t]) (Z (ks ++ [k])) := by
  k_with "MY body" =>
    induction ks generalizing vs with
    | nil => rw [ints_end h]; exact ints_cons rfl ints_nil
    | cons a ks ih =>
      obtain ⟨t', vs', rfl, h'⟩ := ints_split h
      exact ints_cons rfl (ih h')
  run_tac go
section
variable {prog : Program} {w : World} {A : Around} {E : Value → Shared → Prop} {s : Shared} {env : Env} {outer : List Env} {base h₀ : Heap} {m : Str → Option Value} {news : List (Addr × Obj)}
theorem rcompV {elt iter : PySem.Expr} {x y : Str} {px py : Pos} {scope : Scope} {cl : List (Str × Addr)} {pos spos : Pos} {Q : Flow → Shared → Prop} (G : Nat → Value → Prop) (_F : Fr h₀ env.locals s.heap m)
    (hh : A.handled = none) (hfr : A.frames = some (env :: outer)) (hf : env.frame = some env.locals) (hbs : base.StaysIn h₀)
    (hsw : swapsWith (.ListComp elt [⟨.Name x px, iter, [], 0⟩] scope pos) (some (.Name y py)) spos.line env = pure true)
    (hclos : closureFor scope env = pure cl) (hcell : ∀ z ∈ scope.names, z.2 ≠ .cell) (hkind : scope.kind = .function)
    (hnames : ∀ z ∈ scope.names, z.2 = .local → scope.names.lookup z.1 = some .local) (hx : scope.names.lookup x = some .local)
    (hy : env.kindOf y = some .local) (hp : (env.scope.kind == .class || (env.scope.kind == .module && env.locals != env.globals)) = false)
    (h : wpAny (model prog w) A (eval iter env) (fun xv s₁ => Halt (∃ r t u v news, ∃ n : Nat, xv = .ref r ∧ Fr h₀ env.locals s₁.heap m ∧ News h₀ env.locals s₁.heap news ∧ IsRange s₁.heap r 0 n 1 t u v ∧ n ≤ 1000 ∧
      RElt prog w A base h₀ env outer m elt scope cl x n G news s₁ ∧
      (∀ D vs k h' tk, Fr h₀ env.locals h' (fun z => if z = y then some (.ref D) else m z) → News h₀ env.locals h' ((D, listOf (List.toArray vs) k) :: news) → (∀ p ∈ news, p.1 < D) → vs.length = n → (∀ (i : Nat) (v : Value), vs[i]? = some v → G i v) → Q .next { s₁ with heap := h', toks := tk }) ∧
      (∀ e h' tk', ExcF base h₀ (env :: outer) env.locals m e news h' → (∃ j < n, ∀ v, ¬ G j v) → E (.ref e) { s₁ with heap := h', toks := tk' }))) E s)
    (hs : ∀ x, foldedSetIterable iter env x = pure x := by intro _; rfl) :
    wpAny (model prog w) A (exec (.Assign [.Name y py] (.ListComp elt [⟨.Name x px, iter, [], 0⟩] scope pos) spos) env) Q E s := by
  rw [exec_Assign_Name_used _ _ _ _ hsw]
  refine wpAny_bind (wpAny_standAt (wpAny_bind ?_))
  show wpAny _ A (do let _ ← comprehension (.ListComp elt [⟨.Name x px, iter, [], 0⟩] scope pos) scope env _ (newList []) false (eval iter env) (some (assign (.Name y py) env))) _ _ s
  refine wpAny_bind (wpAny_mono (wpAny_comprehension_free (use := some (assign (.Name y py) env)) (Q := fun _ s' => Q .next s') rfl hs hclos hkind hnames
    (wpAny_mono h (fun xv s₁ h₁ => ?_) fun _ _ e => e)) (fun _ s' hq => wpAny_pure (wpAny_pure hq)) fun _ _ e => e)
  clear h
  obtain ⟨r, t, u, v, news, n, rfl, F, N, hr, hn, elem, done, fail⟩ := h₁
  have hsz : Builtin.Range.rangeSize 0 (n : Int) 1 = ((n : Nat) : Int) := rangeSize_nat _ _
  refine wpAny_pyIter_range hr (small_one (by omega) (by omega) (by omega) (by omega)) ?_
  rw [hsz]
  refine wpAny_newObj_type (wpAny_newFunctionEnv hcell (by intro y hy; simp at hy) (fun h₁ hns₁ hsb₁ => ?_) hkind)
  dsimp only at hns₁ hsb₁ ⊢
  -- the places: I the iterator, D the list, C the names
  generalize hH1 : s₁.heap.push { cls := .type "range_iterator", data := .fields #[rawInt 0, rawInt (n : Nat), rawInt 1] } = H1 at hns₁ hsb₁ ⊢
  generalize hH2 : H1.push { cls := .type "list", dict := none, data := .seq ([] : List Value).toArray } = H2 at hns₁ hsb₁ ⊢
  have zI : H1.objs.size = s₁.heap.objs.size + 1 := by rw [← hH1, Heap.size_push]
  have zC : H2.objs.size = s₁.heap.objs.size + 2 := by rw [← hH2, Heap.size_push, zI]
  generalize hI : s₁.heap.objs.size = I at *
  have old1 : ∀ b o, s₁.heap.get? b = some o → H1.get? b = some o := fun b o e => hH1 ▸ Heap.get?_push_of_some _ e
  have old2 : ∀ b o, H1.get? b = some o → H2.get? b = some o := fun b o e => hH2 ▸ Heap.get?_push_of_some _ e
  have old : ∀ b o, b ≠ H2.objs.size → H2.get? b = some o → h₁.get? b = some o := fun b o n e => hsb₁.extBut b o n (Heap.get?_push_of_some _ e)
  have getI : H1.get? I = some { cls := .type "range_iterator", data := .fields #[rawInt 0, rawInt (n : Nat), rawInt 1] } := by rw [← hH1, ← hI]; exact Heap.get?_push_size _ rfl
  have getD : H2.get? (I + 1) = some (LCg.lst []) := by rw [← hH2, ← zI]; exact Heap.get?_push_size _ rfl
  have lt : ∀ b o, s₁.heap.get? b = some o → b < I := fun b o e => hI ▸ Heap.lt_size e
  have fresh : ∀ b, I ≤ b → h₀.get? b = none := fun b hb => by
    cases q : h₀.get? b with
    | none => rfl
    | some o => exact absurd (lt b o (F.keep b o q)) (Nat.not_lt.mpr hb)
  have hL : @LT.lt Nat _ env.locals I := hI ▸ F.ns.lt
  rw [zC] at old hns₁ hsb₁ ⊢
  rw [zI]
  have F₁ : Fr h₀ env.locals h₁ m := F.keeps fun b o e => old b o (Nat.ne_of_lt (Nat.lt_of_lt_of_le (lt b o e) (by omega))) (old2 b o (old1 b o e))
  have N₁ : News h₀ env.locals h₁ news := N.grown fun b o e => old b o (Nat.ne_of_lt (Nat.lt_of_lt_of_le (lt b o e) (by omega))) (old2 b o (old1 b o e))
  have hnl : ∀ p ∈ news, @LT.lt Nat _ p.1 I := fun p hp => lt _ _ (N p hp).1
  have getI₁ : h₁.get? I = some { cls := .type "range_iterator", data := .fields #[rawInt 0, rawInt (n : Nat), rawInt 1] } := old _ _ (by omega) (old2 _ _ getI)
  have getD₁ : h₁.get? (I + 1) = some (LCg.lst []) := old _ _ (by omega) getD
  have loop : ∀ s₃ : Shared, s₃ = { s₁ with heap := h₁, toks := s₁.toks + ([] : List (Str × Value)).length } →
      codeAny (model prog w) A (.compLoop (.ListComp elt [⟨.Name x px, iter, [], 0⟩] scope pos) 0 (.ref I) (.ref (I + 1)) (compEnvC scope cl (I + 2) env))
        (compPost (model prog w) A E (some (assign (.Name y py) env)) (fun _ s' => Q .next s') (.ref (I + 1)) (I + 2)) s₃ := by
    rintro s₃ rfl
    refine codeAny_compLoop_tests (fun k s' => ∃ h' tk m', ∃ ys : List Value, s' = { s₁ with heap := h', toks := tk } ∧ k = n + 1 - ys.length ∧ ys.length ≤ n ∧ (∀ (i : Nat) (v : Value), ys[i]? = some v → G i v) ∧
        IsRangeIter h' I (ys.length : Nat) ((n : Int) - (ys.length : Nat)) 1 ∧ h'.get? (I + 1) = some (LCg.lst ys) ∧ h'.Ns (I + 2) m' ∧ Fr h₀ env.locals h' m ∧ News h₀ env.locals h' news) ?_ (n + 1)
      ⟨h₁, _, _, [], rfl, rfl, Nat.zero_le _, fun i k e => by simp at e, by simpa using getI₁, getD₁, hns₁, F₁, N₁⟩
    rintro k s' ⟨h', tk, m', ys, rfl, rfl, hle, hG, hit, hD, hN, F', N'⟩
    by_cases hlt : ys.length < n
    · refine wpAny_pyNext_range_item hit (by omega) fun h₂ hit₂ hs₂ => ?_
      refine wpAny_assign_Name (wpAny_storeName_local (lookup_relabel_local hx) (hN.sameBut hs₂ (adr_ne (by omega))) (fun h₃ hn₃ hs₃ => ?_) (by simp [compEnvC, relabel, hkind]))
      have hs₃ : Heap.SameBut (I + 2) h₂ h₃ := hs₃
      have hn₃ : h₃.Ns (I + 2) (fun z => if z = x then some (.int ((ys.length : Nat) : Int) tk) else m' z) := hn₃
      refine wpAny_tests_nil ?_
      simp only [if_true]
      obtain ⟨oC, heC, hoC⟩ := LCg.ns_obj hn₃
      have F₃ : Fr h₀ env.locals h₃ m := (F'.change hs₂ (Nat.ne_of_gt hL) (fresh I (Nat.le_refl _))).change hs₃ (adr_ne (by omega)) (fresh (I + 2) (by omega))
      have N₂ : News h₀ env.locals h₃ news := fun p hp => by
        have := hnl p hp
        exact ⟨hs₃.extBut _ _ (adr_ne (by omega)) (hs₂.extBut _ _ (Nat.ne_of_lt this) (N' p hp).1), (N' p hp).2⟩
      have N₃ : News h₀ env.locals h₃ ((I + 2, oC) :: news) := fun p hp => by
        rcases List.mem_cons.mp hp with rfl | hp
        · exact ⟨heC, adr_ne (by omega), fresh (I + 2) (by omega)⟩
        · exact N₂ p hp
      refine wpAny_mono (elem (I + 2) oC _ ys.length _ h₃ _ _ hlt F₃ N₃ hoC (by simp; rfl) ?_) (fun y s₄ h₄ => ?_) fun _ _ e => e
      · intro e h'' tk' R bad
        exact exc_comp R hfr hf rfl hoC hbs (adr_ne (by omega)) (fun q hq => adr_ne (by have := hnl q hq; omega)) (fun h₅ R' => fail e h₅ tk' R' bad)
      · obtain ⟨hk, ⟨h₄, tk₄, rfl, keep⟩⟩ := h₄
        have keep : ∀ b o, h₃.get? b = some o → h₄.get? b = some o := keep
        have hD₃ : h₃.get? (I + 1) = some (LCg.lst ys) := hs₃.extBut _ _ (adr_ne (by omega)) (hs₂.extBut _ _ (adr_ne (by omega)) hD)
        refine append_at (hsz := by rw [List.size_toArray, sizeLine_eq]; omega) (keep _ _ hD₃) fun h₅ hs₅ hD₅ => ?_
        refine ⟨n + 1 - (ys.length + 1), by omega, h₅, tk₄, _, ys ++ [y], rfl, by simp, by simp; omega, ?_, ?_, hD₅.trans (congrArg some (LCg.lst_snoc ys _)), (hn₃.keeps keep).sameBut hs₅ (adr_ne (by omega)), (F₃.keeps keep).change hs₅ (adr_ne (by omega)) (fresh _ (by omega)), ?_⟩
        · intro i k' e
          by_cases hi : i < ys.length
          · rw [List.getElem?_append_left hi] at e; exact hG i k' e
          · rw [List.getElem?_append_right (by omega)] at e
            have : i = ys.length := by
              have := (List.getElem?_eq_some_iff.mp e).1
              simp at this; omega
            subst this
            simp at e; subst e; exact hk
        · have e1 : h₅.get? I = some _ := hs₅.extBut _ _ (adr_ne (by omega)) (keep _ _ (hs₃.extBut _ _ (adr_ne (by omega)) hit₂))
          have a1 : ((ys ++ [y]).length : Nat) = ys.length + 1 := by simp
          rw [a1]
          have a2 : ((ys.length + 1 : Nat) : Int) = (ys.length : Nat) + 1 := by omega
          have a3 : (n : Int) - ((ys.length + 1 : Nat) : Int) = (n : Int) - (ys.length : Nat) - 1 := by omega
          rw [a3, a2]
          exact e1
        · intro p hp
          have := hnl p hp
          exact ⟨hs₅.extBut _ _ (adr_ne (by omega)) (keep _ _ (N₂ p hp).1), (N₂ p hp).2⟩
    · have hkn : ys.length = n := by omega
      refine wpAny_pyNext_range_end hh hit (by omega) fun h₂ he₂ => ?_
      show wpAny _ A (assign (.Name y py) env (.ref (I + 1))) _ _ _
      have F₂ : Fr h₀ env.locals h₂ m := LCg.fr_but F' (fun b o hb e => he₂ b o (by simpa using hb) e) (Nat.ne_of_lt hL) (fresh I (Nat.le_refl _))
      refine wpAny_assign_Name (wpAny_storeName_local hy F₂.ns (fun h₃ hn₃ hs₃ => ?_) hp)
      have hL₀ : h₀.get? env.locals = none := Heap.get?_none_of_le F₂.above
      have F₃ : Fr h₀ env.locals h₃ (fun z => if z = y then some (.ref (I + 1)) else m z) := ⟨hn₃, fun b o e => hs₃.extBut b o (fun q => by rw [q, hL₀] at e; cases e) (F₂.keep b o e), F₂.above⟩
      refine ⟨m', (hN.extBut he₂ (adr_ne (by omega))).sameBut hs₃ (adr_ne (by omega)), fun h₄ hs₄ => ?_⟩
      have D₄ : h₄.get? (I + 1) = some (LCg.lst ys) := hs₄.extBut _ _ (adr_ne (by omega)) (hs₃.extBut _ _ (adr_ne (by omega)) (he₂ _ _ (adr_ne (by omega)) hD))
      refine done (I + 1) ys ys.length h₄ _ (F₃.change hs₄ (adr_ne (by omega)) (fresh _ (by omega))) (fun p hp => ?_) (fun p hp => show @LT.lt Nat _ p.1 (I + 1) from by have := hnl p hp; omega) hkn hG
      rcases List.mem_cons.mp hp with rfl | hp
      · exact ⟨D₄, adr_ne (by omega), fresh _ (by omega)⟩
      · have := hnl p hp
        exact ⟨hs₄.extBut _ _ (adr_ne (by omega)) (hs₃.extBut _ _ (N' p hp).2.1 (he₂ _ _ (Nat.ne_of_lt this) (N' p hp).1)), (N' p hp).2⟩
  exact codeAny_compStart_list (loop _ rfl) (wpAny_pyIter_rangeiter getI₁ (loop _ rfl))
end
theorem vals_ints {G : Nat → Nat → Prop} : ∀ {vs : List Value} (j : Nat), (∀ (i : Nat) (v : Value), vs[i]? = some v → ∃ k t, G (j + i) k ∧ v = Value.int (k : Nat) t) → ∃ ks, IntsAre vs (Z ks) ∧ ks.length = vs.length ∧ ∀ (i k : Nat), ks[i]? = some k → G (j + i) k
  | [], _, _ => ⟨[], ints_nil, rfl, fun i k e => by simp at e⟩
  | v :: vs, j, h => by
    obtain ⟨k, t, hk, rfl⟩ := h 0 v rfl
    obtain ⟨ks, h1, h2, h3⟩ := vals_ints (vs := vs) (j + 1) fun i u e => by
      have := h (i + 1) u (by simpa using e)
      rwa [show j + 1 + i = j + (i + 1) by omega]
    refine ⟨k :: ks, ints_cons rfl h1, by simp [h2], fun i k' e => ?_⟩
    cases i with
    | zero => simp at e; subst e; exact hk
    | succ i =>
      have := h3 i k' (by simpa using e)
      rwa [show j + (i + 1) = j + 1 + i by omega]

end
section
theorem kw_DS : True := by
  w_top off
  k_with_none
  k_with "MY room" => (first
      | ((try simp only [depth_under_make, depth_under_kw, depth_in1, depth_deeper, depth_caller, Around.mark]); (try dsimp only); omega)
      | ((try simp only [depth_under_make, depth_under_kw, depth_in1, depth_deeper, depth_caller, Around.mark]); (try dsimp only); simp only [recursionLimit] at *; omega))
  k_with "MY units" => ((have hcL9_k := cLine_is; (try simp only [units_in1, units_deeper, Around.mark_units, units_caller]); (try dsimp only); omega))
  k_with "MY enter" => ((refine wpAny_call ?_; k_dflt (refine' code_def ?k1 ?k2 ?k3 ?k4 ?k5 ?kA ?kF ?kK ?k6 ?k7 ?k8 ?k9 ?kB ?_ ?c2 ?c3 ?c4 ?c5; (case kA => exact rfl); (case kF => first | exact rfl | assumption); (case kK => first | exact rfl | assumption); (case k1 => k_asm); (case k2 => k_asm); (case k3 => k_asm); (case k4 => k_asm); (case k5 => k_asm); (case k6 => k_is); (case k7 => k_is); (case k8 => walk_at "MY room"); (case k9 => exact BindsTo.of_eq rfl); (case c5 => decide); (case kB => exact locs rfl); (case c2 => exact rfl); (case c3 => exact rfl); (case c4 => exact rfl); k_whole; intro g'_k L'_k h'_k FG'_k F'_k N'_k B'_k X'_k T'_k; (try dsimp only); (try k_lift B'_k); (try k_fold))))
  k_with "MY here" => ((refine' Here.mk ⟨_, ?h1⟩ ?h2 ?h3 ?h4 ⟨_, _, _, ?h5⟩ ?h6 ?h7 ?h8 ?h9 ?h10 ?h11; (case h6 => exact rfl); (case h1 => k_asm); (case h2 => k_asm); (case h3 => k_asm); (case h4 => k_asm); (case h5 => k_asm); (case h7 => first | exact rfl | assumption); (case h8 => first | exact rfl | assumption); (case h9 => exact rfl); (case h10 => walk_at "MY room"); (case h11 => walk_at "MY units")))
  k_with "MY sub" => ((intro p'_k hp'_k; first | exact hp'_k | (repeat (first | exact hp'_k | refine List.Mem.tail _ ?_))))
  k_with "MY fresh" => (first | assumption | (refine lt_of_all ?_; first | assumption | exact And.right (by assumption) | exact And.right (And.right (by assumption)) | exact And.right (And.right (And.right (by assumption))) | exact And.right (And.right (And.right (And.right (by assumption)))) | exact And.right (And.right (And.right (And.right (And.right (by assumption))))) | exact And.right (And.right (And.right (And.right (And.right (And.right (by assumption)))))) | exact And.right (And.right (And.right (And.right (And.right (And.right (And.right (by assumption)))))))))
  k_with "MY enterG" => ((refine wpAny_call ?_; k_dflt (refine' code_defG ?k1 ?k2 ?k3 ?k4 ?k5 ?kA ?kF ?kK ?k6 ?k7 ?k8 ?k9 ?kB ?_ ?c2 ?c3 ?c4 ?c5; (case kA => exact rfl); (case kF => first | exact rfl | assumption); (case kK => first | exact rfl | assumption); (case k1 => k_asm); (case k2 => k_asm); (case k3 => k_asm); (case k4 => k_asm); (case k5 => k_asm); (case k6 => k_is); (case k7 => k_is); (case k8 => walk_at "MY room"); (case k9 => exact BindsTo.of_eq rfl); (case c5 => decide); (case kB => exact locs rfl); (case c2 => exact rfl); (case c3 => exact rfl); (case c4 => exact rfl); k_whole; intro g'_k L'_k h'_k FG'_k F'_k N'_k B'_k X'_k T'_k kG'_k; (try dsimp only); (try k_lift B'_k); (try k_fold))))
  k_with "MY kept" => ((rename GSub _ _ _ => kG9_k; exact elt_after (InElt.start _) kG9_k (by assumption) (by assumption) (by assumption) (by walk_at "MY sub")))
  k_with "MY subr" => ((intro p'_k hp'_k; first | exact hp'_k | (repeat (first | exact hp'_k | exact List.mem_append_left _ hp'_k | exact List.mem_append_right _ hp'_k | refine List.Mem.tail _ ?_))))
  k_with "MY same" => ((intro z_k h1_k h2_k h3_k; first
      | rfl
      | ((try simp only [List.contains_cons, List.contains_nil, Bool.or_false, Bool.or_eq_false_iff, beq_eq_false_iff_ne, ne_eq] at h3_k); (simp [h1_k, h2_k, h3_k]; done))))
  k_with "MY enterC" => ((refine wpAny_call ?_; k_dflt (refine' code_defC ?k1 ?k2 ?k3 ?k4 ?k5 ?kA ?kF ?kK ?k6 ?k7 ?k8 ?k9 ?kB ?kD ?_ ?c2 ?c3 ?c4; (case kA => exact rfl); (case kF => first | exact rfl | assumption); (case kK => first | exact rfl | assumption); (case k1 => k_asm); (case k2 => k_asm); (case k3 => k_asm); (case k4 => k_asm); (case k5 => k_asm); (case k6 => k_is); (case k7 => k_is); (case k8 => walk_at "MY room"); (case k9 => exact BindsTo.of_eq rfl); (case kB => exact rfl); (case kD => decide +kernel); (case c2 => exact rfl); (case c3 => exact rfl); (case c4 => exact rfl); k_whole; intro g'_k L'_k h'_k tk'_k cells'_k FG'_k F'_k N'_k Y'_k B'_k X'_k T'_k l1_k; (try k_lt l1_k); k_cells Y'_k; (try simp only [List.cons_append, List.nil_append] at N'_k); (try dsimp only); (try k_lift B'_k); (try k_fold))))
  k_with "MY enterT" => ((refine wpAny_call ?_; k_dflt (refine' code_defT ?k1 ?k2 ?k3 ?k4 ?k5 ?kA ?kF ?kK ?k6 ?k7 ?k8 ?k9 ?kB ?_ ?c2 ?c3 ?c4 ?c5; (case kA => exact rfl); (case kF => first | exact rfl | assumption); (case kK => first | exact rfl | assumption); (case k1 => k_asm); (case k2 => k_asm); (case k3 => k_asm); (case k4 => k_asm); (case k5 => k_asm); (case k6 => k_is); (case k7 => k_is); (case k8 => walk_at "MY room"); (case k9 => exact BindsTo.of_eq rfl); (case c5 => decide); (case kB => exact locs rfl); (case c2 => exact rfl); (case c3 => exact rfl); (case c4 => exact rfl); k_whole; intro g'_k L'_k h'_k FG'_k F'_k N'_k B'_k X'_k T'_k; (try dsimp only); (try k_lift B'_k); (try k_fold))))
  trivial
/-- the octets that many triples from here on tell -/
def octsA : Nat → List Nat → Option (List Nat)
  | 0, _ => some []
  | n + 1, r => match octA r with
    | none => none
    | some o => (octsA n (r.drop 3)).map (o :: ·)
theorem octsA_some {r : List Nat} : ∀ {n : Nat} {ks : List Nat}, ks.length = n → (∀ i k, ks[i]? = some k → octA (r.drop (3 * i)) = some k) → octsA n r = some ks
  | 0, ks, h, _ => by rw [List.eq_nil_of_length_eq_zero h]; rfl
  | n + 1, [], h, _ => by simp at h
  | n + 1, k :: ks, h, g => by
    have h0 := g 0 k rfl
    simp at h0
    have ih := octsA_some (r := r.drop 3) (n := n) (ks := ks) (by simpa using h) fun i k' e => by
      have := g (i + 1) k' (by simpa using e)
      rw [List.drop_drop, show 3 + 3 * i = 3 * (i + 1) by omega]
      exact this
    simp only [octsA, h0, ih]; rfl
theorem octsA_none {r : List Nat} : ∀ {n : Nat}, (∃ j < n, ∀ k, ¬ octA (r.drop (3 * j)) = some k) → octsA n r = none
  | 0, ⟨_, h, _⟩ => absurd h (Nat.not_lt_zero _)
  | n + 1, ⟨j, hj, hb⟩ => by
    cases ho : octA r with
    | none => simp [octsA, ho]
    | some o =>
      cases j with
      | zero => exact absurd (by simpa using ho) (hb o)
      | succ j =>
        have ih := octsA_none (r := r.drop 3) (n := n) ⟨j, by omega, fun k e => hb k (by rw [List.drop_drop, show 3 + 3 * j = 3 * (j + 1) by omega] at e; exact e)⟩
        simp [octsA, ho, ih]
theorem octsA_len {r : List Nat} {n : Nat} {os : List Nat} (h : octsA n r = some os) : 3 * n ≤ r.length ∧ os.length = n ∧ ∀ o ∈ os, o < 256 := by
  k_with "MY body" =>
    induction n generalizing r os with
    | zero => cases h; simp
    | succ n ih =>
      simp only [octsA] at h
      cases ho : octA r with
      | none => rw [ho] at h; cases h
      | some o =>
        rw [ho] at h
        have h' : (octsA n (r.drop 3)).map (o :: ·) = some os := h
        cases hr : octsA n (r.drop 3) with
        | none => rw [hr] at h'; cases h'
        | some q =>
          rw [hr] at h'
          cases h'
          obtain ⟨a, b, c⟩ := ih hr
          have h3 : 3 ≤ r.length := Nat.not_lt.mp fun q => by rw [octA_short q] at ho; cases ho
          simp at a
          refine ⟨by omega, by simp [b], fun k hk => ?_⟩
          rcases List.mem_cons.mp hk with rfl | hk
          · exact octA_lt ho
          · exact c k hk
  run_tac go
/-- how many octets tell the sign that begins here, and its units -/
def headP (t : List Nat) : Option (Nat × List Nat) := match octA t with
  | none => none
  | some o => if ocount o = 0 then none else match octsA (ocount o) t with
    | none => none
    | some os => match sgnO os with
      | none => none
      | some sg => some (ocount o, unitsN sg)
def inS (lf us : List Nat) : Bool := !(Builtin.Str.occurrences (S lf) (S us) 0 (S lf).length 1).isEmpty
/-- a text decoded, by what tells its octets -/
def decG (hd : List Nat → Option (Nat × List Nat)) (lf : List Nat) : List Nat → Option (List Nat)
  | [] => some []
  | c :: r => if c = 37 then match hd (c :: r) with
      | none => none
      | some (n, us) => (decG hd lf (r.drop (3 * n - 1))).map ((if inS lf us then (c :: r).take (3 * n) else us) ++ ·)
    else (decG hd lf r).map (c :: ·)
  termination_by l => l.length
  decreasing_by
    all_goals simp
    all_goals omega
theorem decG_nil {hd lf} : decG hd lf [] = some [] := by simp [decG]
theorem decG_plain {hd lf c r} (h : ¬ c = 37) : decG hd lf (c :: r) = (decG hd lf r).map (c :: ·) := by rw [decG, if_neg h]
theorem decG_none {hd lf r} (h : hd (37 :: r) = none) : decG hd lf (37 :: r) = none := by rw [decG, if_pos rfl, h]
theorem decG_some {hd lf r n us} (h : hd (37 :: r) = some (n, us)) : decG hd lf (37 :: r) = (decG hd lf (r.drop (3 * n - 1))).map ((if inS lf us then (37 :: r).take (3 * n) else us) ++ ·) := by rw [decG, if_pos rfl, h]
abbrev decP := decG headP
theorem headP_oct {t : List Nat} (h : octA t = none) : headP t = none := by simp [headP, h]
theorem headP_zero {t : List Nat} {o : Nat} (h : octA t = some o) (h0 : ocount o = 0) : headP t = none := by simp [headP, h, h0]
theorem headP_octs {t : List Nat} {o : Nat} (h : octA t = some o) (h1 : octsA (ocount o) t = none) : headP t = none := by simp [headP, h, h1]
theorem headP_sgn {t os : List Nat} {o : Nat} (h : octA t = some o) (h1 : octsA (ocount o) t = some os) (h2 : sgnO os = none) : headP t = none := by simp [headP, h, h1, h2]
theorem headP_some {t os : List Nat} {o sg : Nat} (h : octA t = some o) (h0 : ¬ ocount o = 0) (h1 : octsA (ocount o) t = some os) (h2 : sgnO os = some sg) : headP t = some (ocount o, unitsN sg) := by simp [headP, h, h0, h1, h2]
theorem ocount_le (o : Nat) : ocount o ≤ 4 := by unfold ocount; (repeat' split) <;> omega
theorem units_len (k : Nat) : (unitsN k).length ≤ 2 := by unfold unitsN; split <;> simp
theorem sgnO_le {os : List Nat} {sg : Nat} (h : sgnO os = some sg) (hb : ∀ o ∈ os, o < 256) : sg ≤ 1114111 := by
  k_with "MY body" =>
    rcases os with _ | ⟨o, _ | ⟨p, r⟩⟩
    · cases h
    · cases h
      have := hb sg (by simp); omega
    · simp only [sgnO] at h
      cases hc : contO (p :: r) (o % 2 ^ (5 - r.length)) with
      | none => rw [hc] at h; cases h
      | some f =>
        rw [hc] at h
        by_cases hk : sgnOk (r.length + 2) f = true
        · simp [hk] at h; subst h
          refine Nat.not_lt.mp fun q => ?_
          rw [sgnOk_false (.inr (.inl q))] at hk; cases hk
        · simp [hk] at h
  run_tac go
/-- what stands between two turns of decode_signs' loop -/
def DecInv (hd : List Nat → Option (Nat × List Nat)) (l lf : List Nat) (i : Int) (found : List Str) : Prop :=
  ∃ p r, l = p ++ r ∧ i = (p.length : Nat) ∧ found.length ≤ p.length ∧ (cat found).length ≤ p.length ∧ decG hd lf l = (decG hd lf r).map (cat found ++ ·)
theorem dec_start (hd l lf) : DecInv hd l lf 0 [] := ⟨[], l, rfl, rfl, Nat.le_refl _, Nat.le_refl _, by simp [cat]⟩
theorem map_map_app (o : Option (List Nat)) (a b : List Nat) : (o.map (b ++ ·)).map (a ++ ·) = o.map ((a ++ b) ++ ·) := by cases o <;> simp
theorem dec_plain {hd} {l lf p r : List Nat} {c : Nat} {i : Int} {found : List Str} {x : Str} (hl : l = p ++ c :: r) (ha : i = (p.length : Nat)) (hn : found.length ≤ p.length) (hb : (cat found).length ≤ p.length)
    (he : decG hd lf l = (decG hd lf (c :: r)).map (cat found ++ ·)) (hc : ¬ c = 37) (hx : x = S [c]) : DecInv hd l lf (i + 1) (found ++ [x]) := by
  k_with "MY body" =>
    subst hx
    refine ⟨p ++ [c], r, by simp [hl], by simp; omega, by simp; omega, by rw [cat_snoc]; simp only [List.length_append, List.length_cons, List.length_nil]; omega, ?_⟩
    rw [he, decG_plain hc, cat_snoc, show (decG hd lf r).map (c :: ·) = (decG hd lf r).map ([c] ++ ·) from rfl, map_map_app]
  run_tac go
theorem dec_some {hd} {l lf p r : List Nat} {i j : Int} {found : List Str} {n : Nat} {us : List Nat} {x : Str} (hl : l = p ++ 37 :: r) (ha : i = (p.length : Nat)) (hn : found.length ≤ p.length) (hb : (cat found).length ≤ p.length)
    (he : decG hd lf l = (decG hd lf (37 :: r)).map (cat found ++ ·)) (hh : hd (37 :: r) = some (n, us)) (h1 : 1 ≤ n) (h3 : 3 * n ≤ r.length + 1) (hu : us.length ≤ 2) (hj : j = i + (3 * n : Nat)) (hx : x = S (if inS lf us then (37 :: r).take (3 * n) else us)) : DecInv hd l lf j (found ++ [x]) := by
  k_with "MY body" =>
    subst hx hj
    have e : (37 :: r).take (3 * n) ++ r.drop (3 * n - 1) = 37 :: r := by
      obtain ⟨k, hk⟩ : ∃ k, 3 * n = k + 1 := ⟨3 * n - 1, by omega⟩
      rw [hk]; simp
    have hlen : ((37 :: r).take (3 * n)).length = 3 * n := by simp; omega
    refine ⟨p ++ (37 :: r).take (3 * n), r.drop (3 * n - 1), by rw [hl, List.append_assoc, e], by rw [List.length_append, hlen]; omega, by rw [List.length_append, List.length_append, hlen]; simp; omega, ?_, ?_⟩
    · rw [cat_snoc, List.length_append, List.length_append, hlen]
      split
      · rw [hlen]; omega
      · omega
    · rw [he, decG_some hh, cat_snoc, map_map_app]
  run_tac go
end
section
local macro_rules | `(tactic| k_all) => `(tactic| (intro p' hp'; exact Nat.ne_of_lt ((by walk_at "MY fresh" : ∀ q ∈ _, q.1 < _) p' hp')))
theorem kw_F8 : True := by
  w_top off
  k_with_none
  k_with "MY room" => (first
      | ((try simp only [depth_under_make, depth_under_kw, depth_in1, depth_deeper, depth_caller, Around.mark]); (try dsimp only); omega)
      | ((try simp only [depth_under_make, depth_under_kw, depth_in1, depth_deeper, depth_caller, Around.mark]); (try dsimp only); simp only [recursionLimit] at *; omega))
  k_with "MY units" => ((have hcL9_k := cLine_is; (try simp only [units_in1, units_deeper, Around.mark_units, units_caller]); (try dsimp only); omega))
  k_with "MY enter" => ((refine wpAny_call ?_; k_dflt (refine' code_def ?k1 ?k2 ?k3 ?k4 ?k5 ?kA ?kF ?kK ?k6 ?k7 ?k8 ?k9 ?kB ?_ ?c2 ?c3 ?c4 ?c5; (case kA => exact rfl); (case kF => first | exact rfl | assumption); (case kK => first | exact rfl | assumption); (case k1 => k_asm); (case k2 => k_asm); (case k3 => k_asm); (case k4 => k_asm); (case k5 => k_asm); (case k6 => k_is); (case k7 => k_is); (case k8 => walk_at "MY room"); (case k9 => exact BindsTo.of_eq rfl); (case c5 => decide); (case kB => exact locs rfl); (case c2 => exact rfl); (case c3 => exact rfl); (case c4 => exact rfl); k_whole; intro g'_k L'_k h'_k FG'_k F'_k N'_k B'_k X'_k T'_k; (try dsimp only); (try k_lift B'_k); (try k_fold))))
  k_with "MY here" => ((refine' Here.mk ⟨_, ?h1⟩ ?h2 ?h3 ?h4 ⟨_, _, _, ?h5⟩ ?h6 ?h7 ?h8 ?h9 ?h10 ?h11; (case h6 => exact rfl); (case h1 => k_asm); (case h2 => k_asm); (case h3 => k_asm); (case h4 => k_asm); (case h5 => k_asm); (case h7 => first | exact rfl | assumption); (case h8 => first | exact rfl | assumption); (case h9 => exact rfl); (case h10 => walk_at "MY room"); (case h11 => walk_at "MY units")))
  k_with "MY sub" => ((intro p'_k hp'_k; first | exact hp'_k | (repeat (first | exact hp'_k | refine List.Mem.tail _ ?_))))
  k_with "MY fresh" => (first | assumption | (refine lt_of_all ?_; first | assumption | exact And.right (by assumption) | exact And.right (And.right (by assumption)) | exact And.right (And.right (And.right (by assumption))) | exact And.right (And.right (And.right (And.right (by assumption)))) | exact And.right (And.right (And.right (And.right (And.right (by assumption))))) | exact And.right (And.right (And.right (And.right (And.right (And.right (by assumption)))))) | exact And.right (And.right (And.right (And.right (And.right (And.right (And.right (by assumption)))))))))
  k_with "MY enterG" => ((refine wpAny_call ?_; k_dflt (refine' code_defG ?k1 ?k2 ?k3 ?k4 ?k5 ?kA ?kF ?kK ?k6 ?k7 ?k8 ?k9 ?kB ?_ ?c2 ?c3 ?c4 ?c5; (case kA => exact rfl); (case kF => first | exact rfl | assumption); (case kK => first | exact rfl | assumption); (case k1 => k_asm); (case k2 => k_asm); (case k3 => k_asm); (case k4 => k_asm); (case k5 => k_asm); (case k6 => k_is); (case k7 => k_is); (case k8 => walk_at "MY room"); (case k9 => exact BindsTo.of_eq rfl); (case c5 => decide); (case kB => exact locs rfl); (case c2 => exact rfl); (case c3 => exact rfl); (case c4 => exact rfl); k_whole; intro g'_k L'_k h'_k FG'_k F'_k N'_k B'_k X'_k T'_k kG'_k; (try dsimp only); (try k_lift B'_k); (try k_fold))))
  k_with "MY kept" => ((rename GSub _ _ _ => kG9_k; exact elt_after (InElt.start _) kG9_k (by assumption) (by assumption) (by assumption) (by walk_at "MY sub")))
  k_with "MY subr" => ((intro p'_k hp'_k; first | exact hp'_k | (repeat (first | exact hp'_k | exact List.mem_append_left _ hp'_k | exact List.mem_append_right _ hp'_k | refine List.Mem.tail _ ?_))))
  k_with "MY same" => ((intro z_k h1_k h2_k h3_k; first
      | rfl
      | ((try simp only [List.contains_cons, List.contains_nil, Bool.or_false, Bool.or_eq_false_iff, beq_eq_false_iff_ne, ne_eq] at h3_k); (simp [h1_k, h2_k, h3_k]; done))))
  k_with "MY enterC" => ((refine wpAny_call ?_; k_dflt (refine' code_defC ?k1 ?k2 ?k3 ?k4 ?k5 ?kA ?kF ?kK ?k6 ?k7 ?k8 ?k9 ?kB ?kD ?_ ?c2 ?c3 ?c4; (case kA => exact rfl); (case kF => first | exact rfl | assumption); (case kK => first | exact rfl | assumption); (case k1 => k_asm); (case k2 => k_asm); (case k3 => k_asm); (case k4 => k_asm); (case k5 => k_asm); (case k6 => k_is); (case k7 => k_is); (case k8 => walk_at "MY room"); (case k9 => exact BindsTo.of_eq rfl); (case kB => exact rfl); (case kD => decide +kernel); (case c2 => exact rfl); (case c3 => exact rfl); (case c4 => exact rfl); k_whole; intro g'_k L'_k h'_k tk'_k cells'_k FG'_k F'_k N'_k Y'_k B'_k X'_k T'_k l1_k; (try k_lt l1_k); k_cells Y'_k; (try simp only [List.cons_append, List.nil_append] at N'_k); (try dsimp only); (try k_lift B'_k); (try k_fold))))
  k_with "MY enterT" => ((refine wpAny_call ?_; k_dflt (refine' code_defT ?k1 ?k2 ?k3 ?k4 ?k5 ?kA ?kF ?kK ?k6 ?k7 ?k8 ?k9 ?kB ?_ ?c2 ?c3 ?c4 ?c5; (case kA => exact rfl); (case kF => first | exact rfl | assumption); (case kK => first | exact rfl | assumption); (case k1 => k_asm); (case k2 => k_asm); (case k3 => k_asm); (case k4 => k_asm); (case k5 => k_asm); (case k6 => k_is); (case k7 => k_is); (case k8 => walk_at "MY room"); (case k9 => exact BindsTo.of_eq rfl); (case c5 => decide); (case kB => exact locs rfl); (case c2 => exact rfl); (case c3 => exact rfl); (case c4 => exact rfl); k_whole; intro g'_k L'_k h'_k FG'_k F'_k N'_k B'_k X'_k T'_k; (try dsimp only); (try k_lift B'_k); (try k_fold))))
  k_with "call ref" => (((with_reducible show wpAny _ _ (call (Value.ref 49) _) _ _ _); refine high_ok _ _ (by walk_at "MY here") ?_; intro v'_k h'_k tk'_k hv'_k F'_k N'_k; subst hv'_k; (try dsimp only); (try k_fold)))
  k_with "call ref" => (((with_reducible show wpAny _ _ (call (Value.ref 56) _) _ _ _); refine low_ok _ _ (by walk_at "MY here") ?_; intro v'_k h'_k tk'_k hv'_k F'_k N'_k; subst hv'_k; (try dsimp only); (try k_fold)))
  k_with "call ref" => (((with_reducible show wpAny _ _ (call (Value.ref 77) _) _ _ _); refine otext_ok _ _ _ rfl (by first | assumption | omega) (by walk_at "MY here") ?_; intro v'_k h'_k tk'_k hv'_k F'_k N'_k cE'_k; obtain ⟨t'_k, hv'_k⟩ := hv'_k; subst hv'_k; (try dsimp only); (try k_fold)))
  k_with "call ref" => (((with_reducible show wpAny _ _ (call (Value.ref 42) _) _ _ _); refine fail_ok (by walk_at "MY here") ?_; intro e'_k h'_k tk'_k R'_k; (try dsimp only); (try k_fold)))
  k_with "leaving ref" => ((refine leave_J (by assumption) (by assumption) (by assumption) (by assumption) (fun _ hp => by first | exact hp | simp only [List.mem_cons, hp, or_true]) ?_; intro h''_k R''_k; (try dsimp only)))
  k_with "MY size" => (first | ((try simp only [List.size_toArray, Array.size_push]); rw [sizeLine_eq]; omega) | size_fits)
  k_with "call builtin:list.append" => ((k_here; (with_reducible show wpAny _ _ (call (Value.builtin _) [Value.ref _, _]) _ _ _); k_dflt (refine' append_K ?k1 ?k2 ?k3 ?_ ?z; (case k1 => k_asm); (case k2 => k_asm); (case k3 => k_upd); (case z => walk_at "MY size"); k_whole); intro h'_k F'_k N'_k; (try k_sweep)))
  k_with "leaving ref" => ((refine leave_F rfl (by assumption) (by assumption) (by assumption) (by first | assumption | exact ExcJ.toF (by assumption)) (fun _ hp => by first | exact hp | simp only [List.mem_cons, hp, or_true]) ?_; intro h''_k R''_k; (try dsimp only)))
  trivial
theorem dec_end {hd l lf} {found : List Str} (he : decG hd lf l = (decG hd lf []).map (cat found ++ ·)) : decG hd lf l = some (cat found) := by
  k_with "MY body" =>
    rw [he, decG_nil]; simp
  run_tac go
theorem kw_F8_1 : True := by
  k_with "MY body" =>
    k_with "exec While" => (refine halt_in ?_)
    k_with "exec Assign cons ListComp" => (refine halt_in ?_)
    trivial
  run_tac go
theorem bad_of {r : List Nat} {n : Nat} (h : ∃ j < n, ∀ v, ¬ ∃ k t, octA (r.drop (3 * j)) = some k ∧ v = Value.int (k : Nat) t) : ∃ j < n, ∀ k, ¬ octA (r.drop (3 * j)) = some k := by
  k_with "MY body" =>
    obtain ⟨j, hj, hb⟩ := h
    exact ⟨j, hj, fun k hk => hb (.int (k : Nat) 0) ⟨k, 0, hk, rfl⟩⟩
  run_tac go
/-- what stood lies under the frame -/
structure Under (news : List (Addr × Obj)) (L : Addr) : Prop where
  all : ∀ p ∈ news, p.1 < L
theorem underOf {news : List (Addr × Obj)} {L : Addr} (h : ∀ p ∈ news, p.1 < L) : Under news L := ⟨h⟩
local macro_rules | `(tactic| k_all) => `(tactic| (intro p' hp'; (rename Under _ _ => hU'); exact Nat.ne_of_lt (Nat.lt_of_lt_of_le (hU'.all p' hp') (by omega))))
theorem kw_F8_2 : True := by
  k_with "MY body" =>
    k_with "MY sameC" => ((intro z_k h3_k; first
        | rfl
        | ((try simp only [List.contains_cons, List.contains_nil, Bool.or_false, Bool.or_eq_false_iff, beq_eq_false_iff_ne, ne_eq] at h3_k); (simp [h3_k]; done))))
    trivial
  run_tac go
local macro_rules | `(tactic| k_updF) => `(tactic| first | (refine UpdF.head (by k_all)) | (refine UpdF.tail (by k_ne) (by k_updF)))
theorem kw_F8_3 : True := by
  k_with "MY body" =>
    k_with "MY storeCell" => ((k_dflt (refine storeX_C (by k_asm) (by k_asm) rfl (by k_updF) (by k_asm) ?_ rfl rfl; intro h'_k o'_k F'_k N'_k d'_k; (try dsimp only at N'_k); (try k_sweep))))
    trivial
  run_tac go
section
variable {w : World} {A : Around} {h₀ : Heap} {L : Addr} {m : Str → Option Value} {s : Shared} {news : List (Addr × Obj)} {base : Heap} {env : Env} {outer : List Env} {Q E : Value → Shared → Prop}
set_option maxRecDepth 100000 in
set_option maxHeartbeats 8000000 in
theorem decs_ok (l lf : List Nat) (hz : l.length ≤ 1000) (t u : Tok)
    (H : Here w A h₀ L m s news base env outer 6)
    (ret : ∀ o, decP lf l = some o → ∀ v h' tk', (∃ t, v = .str (S o) t) → Fr h₀ L h' m → News h₀ L h' news → Q v { s with heap := h', toks := tk' })
    (exc : decP lf l = none → ∀ e h' tk', ExcJ base h₀ (env :: outer) L m e news h' → E (.ref e) { s with heap := h', toks := tk' }) :
    wpAny (model PySem.Challenge.rw_nt0345_01.row.prog w) A (call (.ref 122) [.str (S l) t, .str (S lf) u]) Q E s := by
  k_with "MY body" =>
    refine H.lit (P := fun A => wpAny _ A _ _ _ _) ?_
    k_fill
    clear H
    intro dp un gd A₀ mean mg mb B F X N T loc kind room units
    have hlen : (S l).length = l.length := S_len l
    walk_at "MY enterC"
    (rename ∀ p ∈ news, p.1 < _ => hL9)
    have hU := underOf hL9
    rename_i oA oT dA dT
    replace dT : oT.data = .cell (some (.str (S l) t)) := dT
    k_steps
    refine Halt.out ?_
    rename Fr _ _ _ _ => F1
    rename News _ _ _ _ => N1
    refine while_cell (news := (_, oT) :: news) (c := _) [Str.ofString "many", Str.ofString "octets", Str.ofString "units"] (DecInv headP l lf) (fun i => l.length - i.toNat) F1 (fun p hp => N1 p (List.Mem.tail _ hp)) (by assumption) (dec_start headP l lf) ?_
    clear F1 N1
    intro i ti vs found n o u' h1 tk1 hst hd hI F1 N1
    (try dsimp only)
    (try k_fold)
    obtain ⟨p, r, hl, ha, hn, hb, he⟩ := hI
    have hvl : vs.length = found.length := StrsAre.len_eq hst
    cases r with
    | nil =>
      have hll : l.length = p.length := by rw [hl]; simp
      k_steps
      refine join_S (News.isList (by k_asm) (.head _)) hst (by omega) ?_
      intro t' k'
      (try dsimp only)
      (try k_fold)
      k_steps
      exact ret _ (dec_end he) _ _ _ ⟨_, rfl⟩ (by k_asm) (cb_drop (by k_asm) (by walk_at "MY sub"))
    | cons c r =>
      have hll : l.length = p.length + 1 + r.length := by rw [hl]; simp; omega
      have hx : Txt.item (S l) i = S [c] := item0 hl ha
      k_steps
      · have hc : ¬ c = 37 := by
          have q : (Txt.item (S l) i != Str.ofString "%") = true := by assumption
          rw [hx, pctS] at q
          simpa [S] using q
        dsimp only
        refine endC (by k_asm) (by k_asm) (by k_mem) (by k_mem) (by assumption) (by walk_at "MY sub") (by walk_at "MY sameC") (by simpa using StrsAre.append' hst (StrsAre.cons _ _ .nil)) (dec_plain hl ha hn hb he hc hx) (by omega)
      · have hc : c = 37 := by
          have q : (Txt.item (S l) i != Str.ofString "%") = false := by assumption
          rw [hx, pctS] at q
          simpa [S] using q
        subst hc
        have hdr : l.drop p.length = 37 :: r := by rw [hl]; simp
        refine octat_ok l p.length (by omega) _ _ _ ha (by walk_at "MY here") ?_ ?_
        · rw [hdr]
          intro o ho ho256 v h' tk' ⟨t', hv⟩ F' N' _
          subst hv
          (try dsimp only)
          (try k_fold)
          k_steps
          refine ocount_ok _ _ o rfl (by walk_at "MY here") ?_
          intro v h' tk' ⟨t', hv⟩ F' N'
          subst hv
          (try dsimp only)
          (try k_fold)
          k_steps
          · exact exc (by exact he.trans (by rw [decG_none (headP_zero ho (by omega))]; rfl)) _ _ _ (exc_sub (by assumption) (by walk_at "MY sub"))
          · have hk0 : ¬ ocount o = 0 := by omega
            have hk4 := ocount_le o
            refine Halt.out ?_
            refine rcompV (base := base) (outer := env :: outer) (h₀ := _) (fun i v => ∃ k t, octA ((37 :: r).drop (3 * i)) = some k ∧ v = Value.int (k : Nat) t) (by k_asm) rfl rfl rfl (Below.stays (by assumption)) (by with_unfolding_all rfl) (by with_unfolding_all rfl) (by decide) (by with_unfolding_all rfl) (by decide) (by with_unfolding_all rfl) rfl (by rfl) ?_
            k_steps
            rename News _ _ _ _ => N3
            refine Halt.out ⟨_, _, _, _, _, ocount o, rfl, (by assumption), N3, (by assumption), (by omega), ?_, ?_, ?_⟩
            · clear N3
              intro C oC mC i' tok h tk' E' hi' F' N' hno hmx hfail
              have hns := hno.ns (N' _ (.head _)).1
              (try dsimp only)
              (try k_fold)
              k_steps
              refine octat_ok l (p.length + 3 * i') (by omega) _ _ _ (by omega) (by walk_at "MY here") ?_ ?_
              · intro n' hn' _ v h' tk' ⟨t', hv⟩ F' N' hkeep
                subst hv
                refine Halt.out ⟨⟨n', _, ?_, rfl⟩, _, _, rfl, hkeep⟩
                rw [← hdr, List.drop_drop]; exact hn'
              · intro hn' e' h' tk' R'
                refine hfail e' h' tk' R' ⟨i', hi', fun v hv => ?_⟩
                obtain ⟨k, t, hk, _⟩ := hv
                rw [← hdr, List.drop_drop, hn'] at hk; cases hk
            · clear N3
              intro D vs' k' h' tk' F' N' hlt hvn hGv
              obtain ⟨ks, hI, hkv, hG0⟩ := vals_ints (G := fun i k => octA ((37 :: r).drop (3 * i)) = some k) 0 (by simpa using hGv)
              have hkl : ks.length = ocount o := hkv.trans hvn
              have hG : ∀ i k, ks[i]? = some k → octA ((37 :: r).drop (3 * i)) = some k := by simpa using hG0
              clear hGv hG0
              have hos := octsA_some hkl hG
              (try dsimp only)
              (try k_fold)
              k_steps
              have hol := octsA_len hos
              refine sgn_ok ks _ _ (List.toArray vs') (by simpa using hI) (by omega) (by omega) hol.2.2 (by walk_at "MY here") ?_ ?_
              · intro sg hsg v h' tk' ⟨t', hv⟩ F' N'
                subst hv
                have hsl := sgnO_le hsg hol.2.2
                (try dsimp only)
                (try k_fold)
                k_steps
                refine units_ok _ _ sg rfl hsl (by walk_at "MY here") ?_
                intro v h' tk' ⟨t', hv⟩ F' N'
                subst hv
                (try dsimp only)
                (try k_fold)
                k_steps
                · have hin : inS lf (unitsN sg) = false := by
                    unfold inS
                    rw [(by assumption : (Builtin.Str.occurrences (S lf) (S (unitsN sg)) 0 (S lf).length 1).isEmpty = true)]; rfl
                  have h3 : 3 * ocount o ≤ r.length + 1 := hol.1
                  dsimp only
                  refine endC (by k_asm) (by k_asm) (by k_mem) (by k_mem) (by assumption) (by walk_at "MY sub") (by walk_at "MY sameC") (by simpa using StrsAre.append' hst (StrsAre.cons _ _ .nil)) (dec_some hl ha hn hb he (headP_some ho hk0 hos hsg) (by omega) h3 (units_len sg) (by omega) (by rw [hin]; rfl)) (by omega)
                · have hin : inS lf (unitsN sg) = true := by
                    unfold inS
                    rw [(by assumption : (Builtin.Str.occurrences (S lf) (S (unitsN sg)) 0 (S lf).length 1).isEmpty = false)]; rfl
                  have h3 : 3 * ocount o ≤ r.length + 1 := hol.1
                  have hsl : Txt.slice (S l) (some i) (some (i + 3 * (ocount o : Int))) = S ((37 :: r).take (3 * ocount o)) := by
                    rw [slice_mid hl 0 (3 * ocount o) (by omega) (by omega) (by omega)]; rfl
                  dsimp only
                  refine endC (by k_asm) (by k_asm) (by k_mem) (by k_mem) (by assumption) (by walk_at "MY sub") (by walk_at "MY sameC") (by simpa using StrsAre.append' hst (StrsAre.cons _ _ .nil)) (dec_some hl ha hn hb he (headP_some ho hk0 hos hsg) (by omega) h3 (units_len sg) (by omega) (by rw [hin]; exact hsl)) (by omega)
              · intro hsg e' h' tk' R'
                (try dsimp only)
                (try k_fold)
                k_steps
                exact exc (he.trans (by rw [decG_none (headP_sgn ho hos hsg)]; rfl)) _ _ _ (exc_sub (by assumption) (by walk_at "MY sub"))
            · intro e' h' tk' R' hbad
              (try dsimp only)
              (try k_fold)
              k_steps
              exact exc (he.trans (by rw [decG_none (headP_octs ho (octsA_none (bad_of hbad)))]; rfl)) _ _ _ (exc_sub (by assumption) (by walk_at "MY sub"))
        · rw [hdr]
          intro hn' e' h' tk' R'
          (try dsimp only)
          (try k_fold)
          k_steps
          exact exc (by exact he.trans (by rw [decG_none (headP_oct hn')]; rfl)) _ _ _ (exc_sub (by assumption) (by walk_at "MY sub"))
  run_tac go
end

end
section
local macro_rules | `(tactic| k_all) => `(tactic| (intro p' hp'; exact Nat.ne_of_lt ((by walk_at "MY fresh" : ∀ q ∈ _, q.1 < _) p' hp')))
theorem kw_F9 : True := by
  w_top off
  k_with_none
  k_with "MY room" => (first
      | ((try simp only [depth_under_make, depth_under_kw, depth_in1, depth_deeper, depth_caller, Around.mark]); (try dsimp only); omega)
      | ((try simp only [depth_under_make, depth_under_kw, depth_in1, depth_deeper, depth_caller, Around.mark]); (try dsimp only); simp only [recursionLimit] at *; omega))
  k_with "MY units" => ((have hcL9_k := cLine_is; (try simp only [units_in1, units_deeper, Around.mark_units, units_caller]); (try dsimp only); omega))
  k_with "MY enter" => ((refine wpAny_call ?_; k_dflt (refine' code_def ?k1 ?k2 ?k3 ?k4 ?k5 ?kA ?kF ?kK ?k6 ?k7 ?k8 ?k9 ?kB ?_ ?c2 ?c3 ?c4 ?c5; (case kA => exact rfl); (case kF => first | exact rfl | assumption); (case kK => first | exact rfl | assumption); (case k1 => k_asm); (case k2 => k_asm); (case k3 => k_asm); (case k4 => k_asm); (case k5 => k_asm); (case k6 => k_is); (case k7 => k_is); (case k8 => walk_at "MY room"); (case k9 => exact BindsTo.of_eq rfl); (case c5 => decide); (case kB => exact locs rfl); (case c2 => exact rfl); (case c3 => exact rfl); (case c4 => exact rfl); k_whole; intro g'_k L'_k h'_k FG'_k F'_k N'_k B'_k X'_k T'_k; (try dsimp only); (try k_lift B'_k); (try k_fold))))
  k_with "MY here" => ((refine' Here.mk ⟨_, ?h1⟩ ?h2 ?h3 ?h4 ⟨_, _, _, ?h5⟩ ?h6 ?h7 ?h8 ?h9 ?h10 ?h11; (case h6 => exact rfl); (case h1 => k_asm); (case h2 => k_asm); (case h3 => k_asm); (case h4 => k_asm); (case h5 => k_asm); (case h7 => first | exact rfl | assumption); (case h8 => first | exact rfl | assumption); (case h9 => exact rfl); (case h10 => walk_at "MY room"); (case h11 => walk_at "MY units")))
  k_with "MY sub" => ((intro p'_k hp'_k; first | exact hp'_k | (repeat (first | exact hp'_k | refine List.Mem.tail _ ?_))))
  k_with "MY fresh" => (first | assumption | (refine lt_of_all ?_; first | assumption | exact And.right (by assumption) | exact And.right (And.right (by assumption)) | exact And.right (And.right (And.right (by assumption))) | exact And.right (And.right (And.right (And.right (by assumption)))) | exact And.right (And.right (And.right (And.right (And.right (by assumption))))) | exact And.right (And.right (And.right (And.right (And.right (And.right (by assumption)))))) | exact And.right (And.right (And.right (And.right (And.right (And.right (And.right (by assumption)))))))))
  k_with "MY enterG" => ((refine wpAny_call ?_; k_dflt (refine' code_defG ?k1 ?k2 ?k3 ?k4 ?k5 ?kA ?kF ?kK ?k6 ?k7 ?k8 ?k9 ?kB ?_ ?c2 ?c3 ?c4 ?c5; (case kA => exact rfl); (case kF => first | exact rfl | assumption); (case kK => first | exact rfl | assumption); (case k1 => k_asm); (case k2 => k_asm); (case k3 => k_asm); (case k4 => k_asm); (case k5 => k_asm); (case k6 => k_is); (case k7 => k_is); (case k8 => walk_at "MY room"); (case k9 => exact BindsTo.of_eq rfl); (case c5 => decide); (case kB => exact locs rfl); (case c2 => exact rfl); (case c3 => exact rfl); (case c4 => exact rfl); k_whole; intro g'_k L'_k h'_k FG'_k F'_k N'_k B'_k X'_k T'_k kG'_k; (try dsimp only); (try k_lift B'_k); (try k_fold))))
  k_with "MY kept" => ((rename GSub _ _ _ => kG9_k; exact elt_after (InElt.start _) kG9_k (by assumption) (by assumption) (by assumption) (by walk_at "MY sub")))
  k_with "MY subr" => ((intro p'_k hp'_k; first | exact hp'_k | (repeat (first | exact hp'_k | exact List.mem_append_left _ hp'_k | exact List.mem_append_right _ hp'_k | refine List.Mem.tail _ ?_))))
  k_with "MY same" => ((intro z_k h1_k h2_k h3_k; first
      | rfl
      | ((try simp only [List.contains_cons, List.contains_nil, Bool.or_false, Bool.or_eq_false_iff, beq_eq_false_iff_ne, ne_eq] at h3_k); (simp [h1_k, h2_k, h3_k]; done))))
  k_with "MY enterC" => ((refine wpAny_call ?_; k_dflt (refine' code_defC ?k1 ?k2 ?k3 ?k4 ?k5 ?kA ?kF ?kK ?k6 ?k7 ?k8 ?k9 ?kB ?kD ?_ ?c2 ?c3 ?c4; (case kA => exact rfl); (case kF => first | exact rfl | assumption); (case kK => first | exact rfl | assumption); (case k1 => k_asm); (case k2 => k_asm); (case k3 => k_asm); (case k4 => k_asm); (case k5 => k_asm); (case k6 => k_is); (case k7 => k_is); (case k8 => walk_at "MY room"); (case k9 => exact BindsTo.of_eq rfl); (case kB => exact rfl); (case kD => decide +kernel); (case c2 => exact rfl); (case c3 => exact rfl); (case c4 => exact rfl); k_whole; intro g'_k L'_k h'_k tk'_k cells'_k FG'_k F'_k N'_k Y'_k B'_k X'_k T'_k l1_k; (try k_lt l1_k); k_cells Y'_k; (try simp only [List.cons_append, List.nil_append] at N'_k); (try dsimp only); (try k_lift B'_k); (try k_fold))))
  k_with "MY enterT" => ((refine wpAny_call ?_; k_dflt (refine' code_defT ?k1 ?k2 ?k3 ?k4 ?k5 ?kA ?kF ?kK ?k6 ?k7 ?k8 ?k9 ?kB ?_ ?c2 ?c3 ?c4 ?c5; (case kA => exact rfl); (case kF => first | exact rfl | assumption); (case kK => first | exact rfl | assumption); (case k1 => k_asm); (case k2 => k_asm); (case k3 => k_asm); (case k4 => k_asm); (case k5 => k_asm); (case k6 => k_is); (case k7 => k_is); (case k8 => walk_at "MY room"); (case k9 => exact BindsTo.of_eq rfl); (case c5 => decide); (case kB => exact locs rfl); (case c2 => exact rfl); (case c3 => exact rfl); (case c4 => exact rfl); k_whole; intro g'_k L'_k h'_k FG'_k F'_k N'_k B'_k X'_k T'_k; (try dsimp only); (try k_lift B'_k); (try k_fold))))
  k_with "call ref" => (((with_reducible show wpAny _ _ (call (Value.ref 49) _) _ _ _); refine high_ok _ _ (by walk_at "MY here") ?_; intro v'_k h'_k tk'_k hv'_k F'_k N'_k; subst hv'_k; (try dsimp only); (try k_fold)))
  k_with "call ref" => (((with_reducible show wpAny _ _ (call (Value.ref 56) _) _ _ _); refine low_ok _ _ (by walk_at "MY here") ?_; intro v'_k h'_k tk'_k hv'_k F'_k N'_k; subst hv'_k; (try dsimp only); (try k_fold)))
  k_with "call ref" => (((with_reducible show wpAny _ _ (call (Value.ref 77) _) _ _ _); refine otext_ok _ _ _ rfl (by first | assumption | omega) (by walk_at "MY here") ?_; intro v'_k h'_k tk'_k hv'_k F'_k N'_k cE'_k; obtain ⟨t'_k, hv'_k⟩ := hv'_k; subst hv'_k; (try dsimp only); (try k_fold)))
  k_with "call ref" => (((with_reducible show wpAny _ _ (call (Value.ref 42) _) _ _ _); refine fail_ok (by walk_at "MY here") ?_; intro e'_k h'_k tk'_k R'_k; (try dsimp only); (try k_fold)))
  k_with "leaving ref" => ((refine leave_J (by assumption) (by assumption) (by assumption) (by assumption) (fun _ hp => by first | exact hp | simp only [List.mem_cons, hp, or_true]) ?_; intro h''_k R''_k; (try dsimp only)))
  k_with "MY size" => (first | ((try simp only [List.size_toArray, Array.size_push]); rw [sizeLine_eq]; omega) | size_fits)
  k_with "call builtin:list.append" => ((k_here; (with_reducible show wpAny _ _ (call (Value.builtin _) [Value.ref _, _]) _ _ _); k_dflt (refine' append_K ?k1 ?k2 ?k3 ?_ ?z; (case k1 => k_asm); (case k2 => k_asm); (case k3 => k_upd); (case z => walk_at "MY size"); k_whole); intro h'_k F'_k N'_k; (try k_sweep)))
  k_with "leaving ref" => ((refine leave_F rfl (by assumption) (by assumption) (by assumption) (by first | assumption | exact ExcJ.toF (by assumption)) (fun _ hp => by first | exact hp | simp only [List.mem_cons, hp, or_true]) ?_; intro h''_k R''_k; (try dsimp only)))
  trivial
def plainL : List Nat := (Str.ofString "ABCDEFGHIJKLMNOPQRSTUVWXYZabcdefghijklmnopqrstuvwxyz0123456789-_.!~*'()").cps.toList
def keptL : List Nat := (Str.ofString "ABCDEFGHIJKLMNOPQRSTUVWXYZabcdefghijklmnopqrstuvwxyz0123456789-_.!~*'();/?:@&=+$,#").cps.toList
def leftL : List Nat := (Str.ofString ";/?:@&=+$,#").cps.toList
theorem plainS : Str.ofString "ABCDEFGHIJKLMNOPQRSTUVWXYZabcdefghijklmnopqrstuvwxyz0123456789-_.!~*'()" = S plainL := S_of _
theorem keptS : Str.ofString "ABCDEFGHIJKLMNOPQRSTUVWXYZabcdefghijklmnopqrstuvwxyz0123456789-_.!~*'();/?:@&=+$,#" = S keptL := S_of _
theorem leftS : Str.ofString ";/?:@&=+$,#" = S leftL := S_of _
theorem noneS : Str.ofString "" = S [] := by decide +kernel
/-- what a coder does at a text -/
def Work (w : World) (fw : Addr) (l : List Nat) (res : Option (List Nat)) : Prop :=
  ∀ {A : Around} {h₀ : Heap} {L : Addr} {m : Str → Option Value} {s : Shared} {news : List (Addr × Obj)} {base : Heap} {env : Env} {outer : List Env} {Q E : Value → Shared → Prop} (t : Tok), Here w A h₀ L m s news base env outer 7 →
    (∀ o, res = some o → ∀ v h' tk', (∃ t, v = .str (S o) t) → Fr h₀ L h' m → News h₀ L h' news → Q v { s with heap := h', toks := tk' }) →
    (res = none → ∀ e h' tk', ExcJ base h₀ (env :: outer) L m e news h' → E (.ref e) { s with heap := h', toks := tk' }) →
    wpAny (model PySem.Challenge.rw_nt0345_01.row.prog w) A (call (.ref fw) [.str (S l) t]) Q E s
section
variable {w : World}
set_option maxRecDepth 100000 in
set_option maxHeartbeats 8000000 in
theorem work_enc_uri (l : List Nat) (hz : l.length ≤ 1000) (hc : ∀ c ∈ l, c ≤ 65535) : Work w 129 l (encS keptL l) := by
  k_with "MY body" =>
    intro A h₀ L m s news base env outer Q E t H ret exc
    revert H
    intro H
    refine H.lit (P := fun A => wpAny _ A _ _ _ _) ?_
    k_fill
    clear H
    intro dp un gd A₀ mean mg mb B F X N T loc kind room units
    walk_at "MY enter"
    k_steps
    rw [keptS]
    refine encs_ok l _ hz hc _ _ (by walk_at "MY here") ?_ ?_
    · intro o ho v h' tk' hv F' N'
      obtain ⟨t', hv⟩ := hv
      subst hv
      (try dsimp only)
      (try k_fold)
      k_steps
      exact ret o ho _ _ _ ⟨_, rfl⟩ (by k_asm) (by k_asm)
    · intro ho e' h' tk' R'
      (try dsimp only)
      (try k_fold)
      k_steps
      exact exc ho _ _ _ (exc_sub (by assumption) (by walk_at "MY sub"))
  run_tac go
set_option maxRecDepth 100000 in
set_option maxHeartbeats 8000000 in
theorem work_enc_part (l : List Nat) (hz : l.length ≤ 1000) (hc : ∀ c ∈ l, c ≤ 65535) : Work w 136 l (encS plainL l) := by
  k_with "MY body" =>
    intro A h₀ L m s news base env outer Q E t H ret exc
    revert H
    intro H
    refine H.lit (P := fun A => wpAny _ A _ _ _ _) ?_
    k_fill
    clear H
    intro dp un gd A₀ mean mg mb B F X N T loc kind room units
    walk_at "MY enter"
    k_steps
    rw [plainS]
    refine encs_ok l _ hz hc _ _ (by walk_at "MY here") ?_ ?_
    · intro o ho v h' tk' hv F' N'
      obtain ⟨t', hv⟩ := hv
      subst hv
      (try dsimp only)
      (try k_fold)
      k_steps
      exact ret o ho _ _ _ ⟨_, rfl⟩ (by k_asm) (by k_asm)
    · intro ho e' h' tk' R'
      (try dsimp only)
      (try k_fold)
      k_steps
      exact exc ho _ _ _ (exc_sub (by assumption) (by walk_at "MY sub"))
  run_tac go
set_option maxRecDepth 100000 in
set_option maxHeartbeats 8000000 in
theorem work_dec_uri (l : List Nat) (hz : l.length ≤ 1000) : Work w 143 l (decP leftL l) := by
  k_with "MY body" =>
    intro A h₀ L m s news base env outer Q E t H ret exc
    revert H
    intro H
    refine H.lit (P := fun A => wpAny _ A _ _ _ _) ?_
    k_fill
    clear H
    intro dp un gd A₀ mean mg mb B F X N T loc kind room units
    walk_at "MY enter"
    k_steps
    rw [leftS]
    refine decs_ok l _ hz _ _ (by walk_at "MY here") ?_ ?_
    · intro o ho v h' tk' hv F' N'
      obtain ⟨t', hv⟩ := hv
      subst hv
      (try dsimp only)
      (try k_fold)
      k_steps
      exact ret o ho _ _ _ ⟨_, rfl⟩ (by k_asm) (by k_asm)
    · intro ho e' h' tk' R'
      (try dsimp only)
      (try k_fold)
      k_steps
      exact exc ho _ _ _ (exc_sub (by assumption) (by walk_at "MY sub"))
  run_tac go
set_option maxRecDepth 100000 in
set_option maxHeartbeats 8000000 in
theorem work_dec_part (l : List Nat) (hz : l.length ≤ 1000) : Work w 150 l (decP [] l) := by
  k_with "MY body" =>
    intro A h₀ L m s news base env outer Q E t H ret exc
    revert H
    intro H
    refine H.lit (P := fun A => wpAny _ A _ _ _ _) ?_
    k_fill
    clear H
    intro dp un gd A₀ mean mg mb B F X N T loc kind room units
    walk_at "MY enter"
    k_steps
    rw [noneS]
    refine decs_ok l _ hz _ _ (by walk_at "MY here") ?_ ?_
    · intro o ho v h' tk' hv F' N'
      obtain ⟨t', hv⟩ := hv
      subst hv
      (try dsimp only)
      (try k_fold)
      k_steps
      exact ret o ho _ _ _ ⟨_, rfl⟩ (by k_asm) (by k_asm)
    · intro ho e' h' tk' R'
      (try dsimp only)
      (try k_fold)
      k_steps
      exact exc ho _ _ _ (exc_sub (by assumption) (by walk_at "MY sub"))
  run_tac go
end

end
section
theorem kw_E5 : True := by
  w_top off
  k_with_none
  k_with "MY room" => (first
      | ((try simp only [depth_under_make, depth_under_kw, depth_in1, depth_deeper, depth_caller, Around.mark]); (try dsimp only); omega)
      | ((try simp only [depth_under_make, depth_under_kw, depth_in1, depth_deeper, depth_caller, Around.mark]); (try dsimp only); simp only [recursionLimit] at *; omega))
  k_with "MY units" => ((have hcL9_k := cLine_is; (try simp only [units_in1, units_deeper, Around.mark_units, units_caller]); (try dsimp only); omega))
  k_with "MY enter" => ((refine wpAny_call ?_; k_dflt (refine' code_def ?k1 ?k2 ?k3 ?k4 ?k5 ?kA ?kF ?kK ?k6 ?k7 ?k8 ?k9 ?kB ?_ ?c2 ?c3 ?c4 ?c5; (case kA => exact rfl); (case kF => first | exact rfl | assumption); (case kK => first | exact rfl | assumption); (case k1 => k_asm); (case k2 => k_asm); (case k3 => k_asm); (case k4 => k_asm); (case k5 => k_asm); (case k6 => k_is); (case k7 => k_is); (case k8 => walk_at "MY room"); (case k9 => exact BindsTo.of_eq rfl); (case c5 => decide); (case kB => exact locs rfl); (case c2 => exact rfl); (case c3 => exact rfl); (case c4 => exact rfl); k_whole; intro g'_k L'_k h'_k FG'_k F'_k N'_k B'_k X'_k T'_k; (try dsimp only); (try k_lift B'_k); (try k_fold))))
  k_with "MY here" => ((refine' Here.mk ⟨_, ?h1⟩ ?h2 ?h3 ?h4 ⟨_, _, _, ?h5⟩ ?h6 ?h7 ?h8 ?h9 ?h10 ?h11; (case h6 => exact rfl); (case h1 => k_asm); (case h2 => k_asm); (case h3 => k_asm); (case h4 => k_asm); (case h5 => k_asm); (case h7 => first | exact rfl | assumption); (case h8 => first | exact rfl | assumption); (case h9 => exact rfl); (case h10 => walk_at "MY room"); (case h11 => walk_at "MY units")))
  k_with "MY sub" => ((intro p'_k hp'_k; first | exact hp'_k | (repeat (first | exact hp'_k | refine List.Mem.tail _ ?_))))
  k_with "MY fresh" => (first | assumption | (refine lt_of_all ?_; first | assumption | exact And.right (by assumption) | exact And.right (And.right (by assumption)) | exact And.right (And.right (And.right (by assumption))) | exact And.right (And.right (And.right (And.right (by assumption)))) | exact And.right (And.right (And.right (And.right (And.right (by assumption))))) | exact And.right (And.right (And.right (And.right (And.right (And.right (by assumption)))))) | exact And.right (And.right (And.right (And.right (And.right (And.right (And.right (by assumption)))))))))
  k_with "MY enterG" => ((refine wpAny_call ?_; k_dflt (refine' code_defG ?k1 ?k2 ?k3 ?k4 ?k5 ?kA ?kF ?kK ?k6 ?k7 ?k8 ?k9 ?kB ?_ ?c2 ?c3 ?c4 ?c5; (case kA => exact rfl); (case kF => first | exact rfl | assumption); (case kK => first | exact rfl | assumption); (case k1 => k_asm); (case k2 => k_asm); (case k3 => k_asm); (case k4 => k_asm); (case k5 => k_asm); (case k6 => k_is); (case k7 => k_is); (case k8 => walk_at "MY room"); (case k9 => exact BindsTo.of_eq rfl); (case c5 => decide); (case kB => exact locs rfl); (case c2 => exact rfl); (case c3 => exact rfl); (case c4 => exact rfl); k_whole; intro g'_k L'_k h'_k FG'_k F'_k N'_k B'_k X'_k T'_k kG'_k; (try dsimp only); (try k_lift B'_k); (try k_fold))))
  k_with "MY kept" => ((rename GSub _ _ _ => kG9_k; exact elt_after (InElt.start _) kG9_k (by assumption) (by assumption) (by assumption) (by walk_at "MY sub")))
  k_with "MY subr" => ((intro p'_k hp'_k; first | exact hp'_k | (repeat (first | exact hp'_k | exact List.mem_append_left _ hp'_k | exact List.mem_append_right _ hp'_k | refine List.Mem.tail _ ?_))))
  k_with "MY same" => ((intro z_k h1_k h2_k h3_k; first
      | rfl
      | ((try simp only [List.contains_cons, List.contains_nil, Bool.or_false, Bool.or_eq_false_iff, beq_eq_false_iff_ne, ne_eq] at h3_k); (simp [h1_k, h2_k, h3_k]; done))))
  k_with "MY enterC" => ((refine wpAny_call ?_; k_dflt (refine' code_defC ?k1 ?k2 ?k3 ?k4 ?k5 ?kA ?kF ?kK ?k6 ?k7 ?k8 ?k9 ?kB ?kD ?_ ?c2 ?c3 ?c4; (case kA => exact rfl); (case kF => first | exact rfl | assumption); (case kK => first | exact rfl | assumption); (case k1 => k_asm); (case k2 => k_asm); (case k3 => k_asm); (case k4 => k_asm); (case k5 => k_asm); (case k6 => k_is); (case k7 => k_is); (case k8 => walk_at "MY room"); (case k9 => exact BindsTo.of_eq rfl); (case kB => exact rfl); (case kD => decide +kernel); (case c2 => exact rfl); (case c3 => exact rfl); (case c4 => exact rfl); k_whole; intro g'_k L'_k h'_k tk'_k cells'_k FG'_k F'_k N'_k Y'_k B'_k X'_k T'_k l1_k; (try k_lt l1_k); k_cells Y'_k; (try simp only [List.cons_append, List.nil_append] at N'_k); (try dsimp only); (try k_lift B'_k); (try k_fold))))
  k_with "MY enterT" => ((refine wpAny_call ?_; k_dflt (refine' code_defT ?k1 ?k2 ?k3 ?k4 ?k5 ?kA ?kF ?kK ?k6 ?k7 ?k8 ?k9 ?kB ?_ ?c2 ?c3 ?c4 ?c5; (case kA => exact rfl); (case kF => first | exact rfl | assumption); (case kK => first | exact rfl | assumption); (case k1 => k_asm); (case k2 => k_asm); (case k3 => k_asm); (case k4 => k_asm); (case k5 => k_asm); (case k6 => k_is); (case k7 => k_is); (case k8 => walk_at "MY room"); (case k9 => exact BindsTo.of_eq rfl); (case c5 => decide); (case kB => exact locs rfl); (case c2 => exact rfl); (case c3 => exact rfl); (case c4 => exact rfl); k_whole; intro g'_k L'_k h'_k FG'_k F'_k N'_k B'_k X'_k T'_k; (try dsimp only); (try k_lift B'_k); (try k_fold))))
  trivial
section
variable {prog : Program} {w : World} {A : Around} {E : Value → Shared → Prop} {h : Heap} {g : Array GenState} {d : Drawn} {t : Nat} {os : OsState} {mN mA : Str → Option Value} {x dx : Addr} {o : Obj} {vs : Array Value} {name : Str} {v : Value}
open Builtin in
theorem js_ga_entry {tk : Tok} {Q : Fin → Shared → Prop} (J : JS h mN) (hna : mN name = none) (hB : typeLookup (.type "Exception") name = pure none)
    (hx : h.get? x = some o) (hc : o.cls = .ref 31) (hdx : o.dict = some dx) (hv : o.data = .fields vs) (hns : h.Ns dx mA) (ha : mA name = some v) (hq : Q (.done (.ret v)) ⟨h, g, d, t, os⟩) :
    wpAny (model prog w) A (Builtin.«object.__getattribute__» ⟨[.ref x, .str name tk], []⟩) Q E ⟨h, g, d, t, os⟩ := by
  k_with "MY body" =>
    obtain ⟨nm, q, bs, sn, sub, ab, col, dd, k0, k1, k2, k3, k5, hC⟩ := J.obj
    have hn := J.ns
    have hmro := PySem.F.attrBase_Exception.mro
    repeat (any_goals (first | assumption | (with_reducible refine wpAny_loadPart_at hx ?_; rw [hc]) | (with_reducible refine wpAny_typeLookup_exc hC hn hmro hB ?_; rw [hna]) | wp_step))
    rw [hv]
    show wpAny _ _ (instanceDict x false) _ _ _
    unfold instanceDict
    repeat (first | (with_reducible refine wpAny_loadPart_at hx ?_; rw [hc]) | with_reducible refine wpAny_loadPart_at hC ?_ | wp_step)
    rw [hdx]
    unfold ObjectAttr.inDict
    repeat (first | (with_reducible refine wpAny_nsGet hns ?_; rw [ha]) | wp_step)
    exact hq
  run_tac go
theorem js_check_ga {nameV : Value} {Q : Unit → Shared → Prop} (J : JS h mN) (hx : h.get? x = some o) (hc : o.cls = .ref 31) (hq : Q () ⟨h, g, d, t, os⟩) :
    wpAny (model prog w) A (checkBuiltinCall "BaseException.__getattribute__" ⟨[.ref x, nameV], []⟩) Q E ⟨h, g, d, t, os⟩ := by
  k_with "MY body" =>
    obtain ⟨nm, q, bs, sn, sub, ab, col, dd, k0, k1, k2, k3, k5, hC⟩ := id J.obj
    have hk : builtinKind "BaseException.__getattribute__" = some .slot := by decide +kernel
    have hsplit : splitId "BaseException.__getattribute__" = some ("BaseException", "__getattribute__") := by decide +kernel
    have hcB : (Value.ref 31 :: [Value.type "Exception", .type "BaseException", .type "object"]).contains (.type "BaseException") = true := by decide +kernel
    have hargs := F.args_bexc_ga (.ref x) nameV
    simp only [checkBuiltinCall, hk, hsplit]
    refine wpAny_bind ?_
    unfold isInstance
    repeat (first | (with_reducible refine wpAny_loadPart_at hx ?_; rw [hc]) | (with_reducible refine wpAny_isSubtype_exc hC ?_; rw [hcB]) | wp_step)
    exact hq
  run_tac go
theorem js_call_ga {tk : Tok} {R : Result → Shared → Prop} (J : JS h mN) (hna : mN name = none) (hB : typeLookup (.type "Exception") name = pure none)
    (hx : h.get? x = some o) (hc : o.cls = .ref 31) (hdx : o.dict = some dx) (hv : o.data = .fields vs) (hns : h.Ns dx mA) (ha : mA name = some v) (hq : R (.ok (.ret v)) ⟨h, g, d, t, os⟩) :
    codeAny (model prog w) A (.call (.builtin "BaseException.__getattribute__") ⟨[.ref x, .str name tk], []⟩) R ⟨h, g, d, t, os⟩ :=
  codeAny_call_builtin PySem.F.attrBase_Exception.ga.plain F.entry_bexc_ga (js_check_ga J hx hc (js_ga_entry J hna hB hx hc hdx hv hns ha hq))
theorem js_get {expr : Bool} {Q : Value → Shared → Prop} (J : JS h mN) (hna : mN name = none) (hB : typeLookup (.type "Exception") name = pure none)
    (hx : h.get? x = some o) (hc : o.cls = .ref 31) (hdx : o.dict = some dx) (hv : o.data = .fields vs) (hns : h.Ns dx mA) (ha : mA name = some v) (hh : handedOut v = pure v) (hq : Q v ⟨h, g, d, t + 1, os⟩) :
    wpAny (model prog w) A (getAttr (.ref x) name expr) Q E ⟨h, g, d, t, os⟩ := by
  k_with "MY body" =>
    obtain ⟨nm, q, bs, sn, sub, ab, col, dd, k0, k1, k2, k3, k5, hC⟩ := id J.obj
    have hn := J.ns
    have hmro := PySem.F.attrBase_Exception.mro
    have hga := PySem.F.attrBase_Exception.ga.lookup
    have hgt := PySem.F.attrBase_Exception.noGetattr
    have h1 := J.nGa
    have h2 := J.nGt
    have f3 := PySem.F.attrBase_Exception.ga.bind (.ref x)
    have hx0 : (expr && onTheHeap (Value.builtin "BaseException.__getattribute__")) = false := by cases expr <;> rfl
    have hx2 : (Value.builtin "BaseException.__getattribute__" == Value.builtin "object.__getattribute__") = false := by decide +kernel
    have hx1 : (onTheHeap (Value.ref 31) && Value.builtin "BaseException.__getattribute__" == Value.builtin "object.__getattribute__") = false := by rw [hx2]; rfl
    unfold getAttr getAttrBy
    repeat (any_goals (first | assumption | (with_reducible refine wpAny_loadPart_at hx ?_; rw [hc]) | (with_reducible refine wpAny_typeLookup_exc hC hn hmro hga ?_; rw [h1]) | (with_reducible refine wpAny_typeLookup_exc hC hn hmro hgt ?_; rw [h2]) | wp_step))
    refine js_call_ga J hna hB hx hc hdx hv hns ha ?_
    repeat (any_goals (first | assumption | wp_step))
  run_tac go
end

end
section
theorem kw_E6 : True := by
  w_top off
  k_with_none
  k_with "MY room" => (first
      | ((try simp only [depth_under_make, depth_under_kw, depth_in1, depth_deeper, depth_caller, Around.mark]); (try dsimp only); omega)
      | ((try simp only [depth_under_make, depth_under_kw, depth_in1, depth_deeper, depth_caller, Around.mark]); (try dsimp only); simp only [recursionLimit] at *; omega))
  k_with "MY units" => ((have hcL9_k := cLine_is; (try simp only [units_in1, units_deeper, Around.mark_units, units_caller]); (try dsimp only); omega))
  k_with "MY enter" => ((refine wpAny_call ?_; k_dflt (refine' code_def ?k1 ?k2 ?k3 ?k4 ?k5 ?kA ?kF ?kK ?k6 ?k7 ?k8 ?k9 ?kB ?_ ?c2 ?c3 ?c4 ?c5; (case kA => exact rfl); (case kF => first | exact rfl | assumption); (case kK => first | exact rfl | assumption); (case k1 => k_asm); (case k2 => k_asm); (case k3 => k_asm); (case k4 => k_asm); (case k5 => k_asm); (case k6 => k_is); (case k7 => k_is); (case k8 => walk_at "MY room"); (case k9 => exact BindsTo.of_eq rfl); (case c5 => decide); (case kB => exact locs rfl); (case c2 => exact rfl); (case c3 => exact rfl); (case c4 => exact rfl); k_whole; intro g'_k L'_k h'_k FG'_k F'_k N'_k B'_k X'_k T'_k; (try dsimp only); (try k_lift B'_k); (try k_fold))))
  k_with "MY here" => ((refine' Here.mk ⟨_, ?h1⟩ ?h2 ?h3 ?h4 ⟨_, _, _, ?h5⟩ ?h6 ?h7 ?h8 ?h9 ?h10 ?h11; (case h6 => exact rfl); (case h1 => k_asm); (case h2 => k_asm); (case h3 => k_asm); (case h4 => k_asm); (case h5 => k_asm); (case h7 => first | exact rfl | assumption); (case h8 => first | exact rfl | assumption); (case h9 => exact rfl); (case h10 => walk_at "MY room"); (case h11 => walk_at "MY units")))
  k_with "MY sub" => ((intro p'_k hp'_k; first | exact hp'_k | (repeat (first | exact hp'_k | refine List.Mem.tail _ ?_))))
  k_with "MY fresh" => (first | assumption | (refine lt_of_all ?_; first | assumption | exact And.right (by assumption) | exact And.right (And.right (by assumption)) | exact And.right (And.right (And.right (by assumption))) | exact And.right (And.right (And.right (And.right (by assumption)))) | exact And.right (And.right (And.right (And.right (And.right (by assumption))))) | exact And.right (And.right (And.right (And.right (And.right (And.right (by assumption)))))) | exact And.right (And.right (And.right (And.right (And.right (And.right (And.right (by assumption)))))))))
  k_with "MY enterG" => ((refine wpAny_call ?_; k_dflt (refine' code_defG ?k1 ?k2 ?k3 ?k4 ?k5 ?kA ?kF ?kK ?k6 ?k7 ?k8 ?k9 ?kB ?_ ?c2 ?c3 ?c4 ?c5; (case kA => exact rfl); (case kF => first | exact rfl | assumption); (case kK => first | exact rfl | assumption); (case k1 => k_asm); (case k2 => k_asm); (case k3 => k_asm); (case k4 => k_asm); (case k5 => k_asm); (case k6 => k_is); (case k7 => k_is); (case k8 => walk_at "MY room"); (case k9 => exact BindsTo.of_eq rfl); (case c5 => decide); (case kB => exact locs rfl); (case c2 => exact rfl); (case c3 => exact rfl); (case c4 => exact rfl); k_whole; intro g'_k L'_k h'_k FG'_k F'_k N'_k B'_k X'_k T'_k kG'_k; (try dsimp only); (try k_lift B'_k); (try k_fold))))
  k_with "MY kept" => ((rename GSub _ _ _ => kG9_k; exact elt_after (InElt.start _) kG9_k (by assumption) (by assumption) (by assumption) (by walk_at "MY sub")))
  k_with "MY subr" => ((intro p'_k hp'_k; first | exact hp'_k | (repeat (first | exact hp'_k | exact List.mem_append_left _ hp'_k | exact List.mem_append_right _ hp'_k | refine List.Mem.tail _ ?_))))
  k_with "MY same" => ((intro z_k h1_k h2_k h3_k; first
      | rfl
      | ((try simp only [List.contains_cons, List.contains_nil, Bool.or_false, Bool.or_eq_false_iff, beq_eq_false_iff_ne, ne_eq] at h3_k); (simp [h1_k, h2_k, h3_k]; done))))
  k_with "MY enterC" => ((refine wpAny_call ?_; k_dflt (refine' code_defC ?k1 ?k2 ?k3 ?k4 ?k5 ?kA ?kF ?kK ?k6 ?k7 ?k8 ?k9 ?kB ?kD ?_ ?c2 ?c3 ?c4; (case kA => exact rfl); (case kF => first | exact rfl | assumption); (case kK => first | exact rfl | assumption); (case k1 => k_asm); (case k2 => k_asm); (case k3 => k_asm); (case k4 => k_asm); (case k5 => k_asm); (case k6 => k_is); (case k7 => k_is); (case k8 => walk_at "MY room"); (case k9 => exact BindsTo.of_eq rfl); (case kB => exact rfl); (case kD => decide +kernel); (case c2 => exact rfl); (case c3 => exact rfl); (case c4 => exact rfl); k_whole; intro g'_k L'_k h'_k tk'_k cells'_k FG'_k F'_k N'_k Y'_k B'_k X'_k T'_k l1_k; (try k_lt l1_k); k_cells Y'_k; (try simp only [List.cons_append, List.nil_append] at N'_k); (try dsimp only); (try k_lift B'_k); (try k_fold))))
  k_with "MY enterT" => ((refine wpAny_call ?_; k_dflt (refine' code_defT ?k1 ?k2 ?k3 ?k4 ?k5 ?kA ?kF ?kK ?k6 ?k7 ?k8 ?k9 ?kB ?_ ?c2 ?c3 ?c4 ?c5; (case kA => exact rfl); (case kF => first | exact rfl | assumption); (case kK => first | exact rfl | assumption); (case k1 => k_asm); (case k2 => k_asm); (case k3 => k_asm); (case k4 => k_asm); (case k5 => k_asm); (case k6 => k_is); (case k7 => k_is); (case k8 => walk_at "MY room"); (case k9 => exact BindsTo.of_eq rfl); (case c5 => decide); (case kB => exact locs rfl); (case c2 => exact rfl); (case c3 => exact rfl); (case c4 => exact rfl); k_whole; intro g'_k L'_k h'_k FG'_k F'_k N'_k B'_k X'_k T'_k; (try dsimp only); (try k_lift B'_k); (try k_fold))))
  trivial
section
variable {A₀ : Around} {base g h B : Heap} {outer : List Env} {ce : Env} {L : Addr}
theorem ground_J (K : Below A₀ base outer g) (hce : ce.frame = some L) (nL : g.get? L = none) (hB : ∀ b o, g.get? b = some o → b ∉ (ce :: outer).filterMap (·.frame) → B.get? b = some o) (hBh : B.StaysIn h) (up : g.UpToSlots h) :
    ∃ g', KtsTurn (outer.filterMap (·.frame)) g g' ∧ (∀ b o, g'.get? b = some o → h.get? b = some o) ∧ Below A₀ base outer g' := by
  k_with "MY body" =>
    obtain ⟨T, S⟩ := kts_turn_at (h := h) (fs := outer.filterMap (·.frame)) (g := g)
      (fun b hb => let ⟨_, o, ho, _⟩ := K.frames.mem hb; ⟨o, ho⟩)
      (fun b o e nm => hBh b o (hB b o e fun hm => (mem_frames_of hce hm).elim (fun z => by rw [z, nL] at e; cases e) nm))
      (fun b o e hm => by
        obtain ⟨_, o', ho', hd⟩ := K.frames.mem hm
        rw [e] at ho'; cases ho'
        exact up b o e hd)
    refine ⟨_, T, S, ⟨K.stack, fun b o e => T.other b o (K.stays b o e) (fun hm => by rw [(K.frames.mem hm).1] at e; cases e), K.frames.of_keeps fun b o e _ => ?_⟩⟩
    obtain ⟨sl, hs⟩ := T.up e
    exact ⟨_, hs, rfl⟩
  run_tac go
end
section
variable {w : World} {A₀ : Around} {E : Value → Shared → Prop} {s' : Shared} {base g : Heap} {outer : List Env} {L a e : Addr} {m : Str → Option Value} {name : Str} {scope : Scope} {cd : Value} {n : Str} {b₀ : Stmt} {suite : List Stmt} {pos np : Pos} {rest : List ExceptHandler} {Q : Flow → Shared → Prop} {news : List (Addr × Obj)} {p : Program} {loose : List Str} {mean : ExcName → Option Value} {mg mb : Str → Option Value} {x : Str}
theorem caught_J (R : ExcJ base g (envOf name scope L a cd :: outer) L m e news s'.heap) (hab : g.objs.size ≤ L) (K : Below A₀ base outer g) (XB : (hd.heap_39 w.params).In base) (TB : Top p loose mean mg mb base)
    (ex : nsIn (hd.heap_39 w.params) mainGlobals x = some (some (.ref 31)))
    (k : ∀ h' g' tk oe dx vs mA u, KtsTurn (outer.filterMap (·.frame)) g g' → Fr g' L h' (fun y => if y = n then some (.ref e) else m y) → News g' L h' news → h'.get? e = some oe → oe.cls = .ref 31 → oe.dict = some dx → oe.data = .fields vs → h'.Ns dx mA → mA "kind" = some (.str (Str.ofString "URIError") u) →
      Below A₀ base outer g' → (hd.heap_39 w.params).In g' → Top p loose mean mg mb g' →
      wpAny (model PySem.Challenge.rw_nt0345_01.row.prog w) ((A₀.deeper (envOf name scope L a cd)).mark (some (.ref e))) (execs (b₀ :: suite) (envOf name scope L a cd))
        (fun f s₄ => wpAny (model PySem.Challenge.rw_nt0345_01.row.prog w) (A₀.deeper (envOf name scope L a cd)) (do bindName (envOf name scope L a cd) n .none; unbindBehindTheSuite (envOf name scope L a cd) n pos) (fun _ s₅ => Q f s₅) E s₄)
        (AsSuiteRaised (model PySem.Challenge.rw_nt0345_01.row.prog w) ((A₀.deeper (envOf name scope L a cd)).mark (some (.ref e))) (envOf name scope L a cd) n pos (notedBy (model PySem.Challenge.rw_nt0345_01.row.prog w) ((A₀.deeper (envOf name scope L a cd)).mark (some (.ref e))) (envOf name scope L a cd) (cameBackBy (model PySem.Challenge.rw_nt0345_01.row.prog w) (A₀.deeper (envOf name scope L a cd)) (envOf name scope L a cd) E)))
        { s' with heap := h', toks := tk })
    (hk : scope.kind = .function := by rfl) (hlo : (envOf name scope L a cd).kindOf n = some .local := by rfl) (hx : (envOf name scope L a cd).kindOf x = some .globalImplicit := by rfl) (hd : (x == ("__debug__" : Str)) = false := by decide) :
    wpAny (model PySem.Challenge.rw_nt0345_01.row.prog w) (A₀.deeper (envOf name scope L a cd)) (noteFrame (.ref e) (envOf name scope L a cd))
      (fun _ s₂ => wpAny (model PySem.Challenge.rw_nt0345_01.row.prog w) (A₀.deeper (envOf name scope L a cd)) (setFlight (.ref e) none) (fun _ s₃ =>
        wpAny (model PySem.Challenge.rw_nt0345_01.row.prog w) (A₀.deeper (envOf name scope L a cd)) (handleBy (.ref e) (envOf name scope L a cd) (.ExceptHandler (some (.Name x np)) (some n) (b₀ :: suite) pos :: rest)) Q E s₃) E s₂) E s' := by
  obtain ⟨⟨B, dx, mA, tk, a1, a2, a3, a4, a5, a6⟩, ns, up⟩ := R
  have nL : g.get? L = none := Heap.get?_none_of_le hab
  have hL : B.get? L = none := by
    obtain ⟨_, ⟨L', _, hf, hn', _⟩, _⟩ := a6.frames
    obtain rfl : L = L' := Option.some.inj hf
    exact hn'
  refine fl_note a6 (Around.frames_deeper K.stack) rfl fun h₄ H₄ u₄ => ?_
  refine fl_mark (s := { s' with heap := h₄ }) H₄ none fun h₅ H₅ u₅ => ?_
  have up₅ := (up.trans u₄).trans u₅
  obtain ⟨g₅, T₅, S₅, K₅⟩ := ground_J (ce := envOf name scope L a cd) K rfl nL a2 H₅.stays up₅
  have F₅ : Fr g₅ L h₅ m := ⟨(u₄.trans u₅).ns ns, S₅, by rw [T₅.size]; exact hab⟩
  have X₅ : (Mine.hd.heap_39 w.params).In g₅ := XB.keeps K₅.stays
  have P₅ : TopRead p loose mg mb g₅ := topRead_of (TB.keeps K₅.stays)
  obtain ⟨oe₅, vs₅, TT₅, oT₅, ts₅, he₅, hc₅, hdx₅, hd₅, _⟩ := H₅.exc
  obtain ⟨nm, q, bs, sn, sub, ab, col, dd, k0, k1, k2, k3, k5, hC⟩ := (js_of (X₅.keeps F₅.keep)).obj
  refine wpAny_handleBy_cons (codeAny_handlers_test (name_K F₅ X₅ P₅ ex ?_ hk hx hd)) (by intro q; cases q)
  refine wpAny_excMatches_sub_self hC he₅ hc₅ (by decide +kernel) (codeAny_handlers_suite_as ?_)
  refine fl_mark (s := { s' with heap := h₅ }) H₅ none fun h₆ H₆ u₆ => ?_
  have up₆ := up₅.trans u₆
  obtain ⟨g₆, T₆, S₆, K₆⟩ := ground_J (ce := envOf name scope L a cd) K rfl nL a2 H₆.stays up₆
  have F₆ : Fr g₆ L h₆ m := ⟨((u₄.trans u₅).trans u₆).ns ns, S₆, by rw [T₆.size]; exact hab⟩
  obtain ⟨oe, vs, TT, oT, ts, he, hc, hdx, hdd, _⟩ := H₆.exc
  have neL : e ≠ L := fun z => by
    obtain ⟨oL, _, _, hoL, hdL, _⟩ := F₆.ns
    rw [z, show h₆.get? L = some oL from hoL] at he
    cases he
    rw [hdd] at hdL; cases hdL
  have ndL : dx ≠ L := fun z => by
    obtain ⟨o, _, _, ho, _⟩ := a4
    rw [z, hL] at ho; cases ho
  have hdn : h₆.Ns dx mA := by
    obtain ⟨o, es, ep, ho, r⟩ := a4
    exact ⟨o, es, ep, H₆.stays _ _ ho, r⟩
  refine wpAny_storeName_local hlo F₆.ns (fun h₇ hn₇ hs₇ => ?_) (by rw [show (envOf name scope L a cd).scope.kind = .function from hk]; rfl)
  have F₇ : Fr g₆ L h₇ (fun y => if y = n then some (.ref e) else m y) := F₆.set hn₇ hs₇
  refine k h₇ g₆ _ oe dx vs mA tk T₆ F₇ (fun q hq => ?_) ((hs₇.2 _ neL).trans he) hc hdx hdd (hdn.sameBut hs₇ ndL) a5 K₆ (XB.keeps K₆.stays) (TB.keeps K₆.stays)
  obtain ⟨b1, b2, _⟩ := a3 q hq
  have nq : q.1 ≠ L := fun z => by rw [z, hL] at b1; cases b1
  exact ⟨(hs₇.2 _ nq).trans (H₆.stays _ _ b1), nq, T₆.none_ _ b2⟩
end
section
variable {prog : Program} {w : World} {A₀ A : Around} {s : Shared} {base h₀ : Heap} {L : Addr} {m : Str → Option Value} {env : Env} {news : List (Addr × Obj)} {K : Frag} {p : Program} {loose : List Str} {mean : ExcName → Option Value} {mg mb : Str → Option Value}
  {R : Result → Shared → Prop} {name qual : Str} {params : Arguments} {body : List Stmt} {scope : Scope} {dV kV doc pm cdv ct oc : Value} {an od : Option Addr} {osl : Array (Option Value)} {f : Addr} {args : Args} {binds : List (Str × Value)}
/-- a def whose try may turn the caller's frame: the caller is the outermost one -/
theorem code_defT (B : Below A₀ base [] h₀) (F : Fr h₀ L s.heap m) (X₀ : K.In h₀) (N : News h₀ L s.heap news) (T : Top p loose mean mg mb h₀) (hA : A.frames = some [env]) (hf : env.frame = some L) (hke : env.scope.kind = .function)
    (ho : K.lookup f = some ⟨oc, od, .func (fnOf name qual params body scope dV kV doc pm an cdv ct), osl⟩) (hcd : codeIn K cdv qual = true) (hroom : A.depth < recursionLimit)
    (hbind : BindsTo s (fnOf name qual params body scope dV kV doc pm an cdv ct) args binds) (hloc : ∀ y ∈ binds, scope.names.lookup y.1 = some .local)
    (h : ∀ g L' h₁, Fr h₀ L g m → Fr g L' h₁ (fun y => binds.reverse.lookup y) → News g L' h₁ news → Below A base [env] g → K.In g → Top p loose mean mg mb g →
      wpAny (model prog w) (A.deeper (envOf qual scope L' f cdv)) (execs body (envOf qual scope L' f cdv))
        (fun fl s' => LeaveS0 [L] h₀ L m g R (match fl with | .ret v => v | _ => .none) s')
        (fun e s' => wpAny (model prog w) (A.deeper (envOf qual scope L' f cdv)) (leaving (envOf qual scope L' f cdv) e) (fun _ s'' => R (.error e) s'') (fun e' s'' => R (.error e') s'') s')
        { s with heap := h₁, toks := s.toks + binds.length })
    (hco : scope.isCoroutine = false) (hgen : scope.isGenerator = false) (hk : scope.kind = .function)
    (hcell : ∀ x ∈ scope.names, x.2 ≠ .cell) : codeAny (model prog w) A (.call (.ref f) args) R s := by
  k_with "MY body" =>
    refine codeAny_call_def (fd := fnOf name qual params body scope dV kV doc pm an cdv ct) (body := body) (binds := binds) hroom ((X₀.keeps F.keep) _ _ ho) rfl (T.nolimit.keeps F.keep) (codeRec_of (X₀.keeps F.keep) hcd) rfl hbind hcell hloc (fun h₁ hns hk₁ => ?_) hco hgen hk
    have nm : ∀ b o, h₀.get? b = some o → b ∉ news.map (·.1) := fun b o e q => by
      obtain ⟨p, hp, rfl⟩ := List.mem_map.mp q
      rw [(N p hp).2.2] at e; cases e
    have st : h₀.StaysIn (hideAll s.heap (news.map (·.1))) := fun b o e => hideAll_get _ (F.keep b o e) (nm b o e)
    obtain ⟨oL, es, ep, hL, hLd, hLk, hLf⟩ := F.ns
    have nL : L ∉ news.map (·.1) := fun q => by
      obtain ⟨p, hp, e⟩ := List.mem_map.mp q
      exact (N p hp).2.1 e
    have hLg := hideAll_get (news.map (·.1)) hL nL
    have nL₀ : h₀.get? L = none := self_none F
    have fr : (hideAll s.heap (news.map (·.1))).FunFrames base [env] := by
      refine ⟨(by rw [hke]; intro q; cases q), ⟨L, oL, hf, none_back B.stays nL₀, hLg, fun vs q => ?_⟩, trivial⟩
      rw [hLd] at q; cases q
    have B₂ : Below A base [env] (hideAll s.heap (news.map (·.1))) := ⟨hA, fun b o e => st b o (B.stays b o e), fr⟩
    refine wpAny_mono (h _ s.heap.objs.size h₁ ⟨⟨oL, es, ep, hLg, hLd, hLk, hLf⟩, st, F.above⟩ ⟨hns, fun b o e => hk₁ b o (of_hideAll _ e), Nat.le_of_eq (hideAll_size _ _)⟩
      (fun p hp => ⟨hk₁ _ _ (N p hp).1, Nat.ne_of_lt (Heap.lt_size (N p hp).1), hideAll_none _ (List.mem_map_of_mem hp)⟩) B₂ (X₀.keeps st) (T.keeps st)) (fun fl s' hl => ?_) fun _ _ y => y
    obtain ⟨g', L', m', news', T', F', N', k⟩ := hl
    obtain ⟨sl, hs⟩ := T'.up hLg
    have FL : Fr h₀ L s'.heap m := ⟨⟨_, es, ep, F'.keep _ _ hs, hLd, hLk, hLf⟩, fun b o e => F'.keep b o (T'.other b o (st b o e) fun q => by
      rw [List.mem_singleton.mp q, nL₀] at e; cases e), F.above⟩
    refine k FL fun p hp => ⟨(N' p hp).1, fun z => ?_, ?_⟩
    · have hn := (N' p hp).2.2
      rw [z, hs] at hn; cases hn
    · refine none_back (H := g') (fun b o e => ?_) (N' p hp).2.2
      exact T'.other b o (st b o e) fun q => by
        rw [List.mem_singleton.mp q, nL₀] at e; cases e
  run_tac go
end

end
section
theorem kw_F10 : True := by
  w_top off
  k_with_none
  k_with "MY room" => (first
      | ((try simp only [depth_under_make, depth_under_kw, depth_in1, depth_deeper, depth_caller, Around.mark]); (try dsimp only); omega)
      | ((try simp only [depth_under_make, depth_under_kw, depth_in1, depth_deeper, depth_caller, Around.mark]); (try dsimp only); simp only [recursionLimit] at *; omega))
  k_with "MY units" => ((have hcL9_k := cLine_is; (try simp only [units_in1, units_deeper, Around.mark_units, units_caller]); (try dsimp only); omega))
  k_with "MY enter" => ((refine wpAny_call ?_; k_dflt (refine' code_def ?k1 ?k2 ?k3 ?k4 ?k5 ?kA ?kF ?kK ?k6 ?k7 ?k8 ?k9 ?kB ?_ ?c2 ?c3 ?c4 ?c5; (case kA => exact rfl); (case kF => first | exact rfl | assumption); (case kK => first | exact rfl | assumption); (case k1 => k_asm); (case k2 => k_asm); (case k3 => k_asm); (case k4 => k_asm); (case k5 => k_asm); (case k6 => k_is); (case k7 => k_is); (case k8 => walk_at "MY room"); (case k9 => exact BindsTo.of_eq rfl); (case c5 => decide); (case kB => exact locs rfl); (case c2 => exact rfl); (case c3 => exact rfl); (case c4 => exact rfl); k_whole; intro g'_k L'_k h'_k FG'_k F'_k N'_k B'_k X'_k T'_k; (try dsimp only); (try k_lift B'_k); (try k_fold))))
  k_with "MY here" => ((refine' Here.mk ⟨_, ?h1⟩ ?h2 ?h3 ?h4 ⟨_, _, _, ?h5⟩ ?h6 ?h7 ?h8 ?h9 ?h10 ?h11; (case h6 => exact rfl); (case h1 => k_asm); (case h2 => k_asm); (case h3 => k_asm); (case h4 => k_asm); (case h5 => k_asm); (case h7 => first | exact rfl | assumption); (case h8 => first | exact rfl | assumption); (case h9 => exact rfl); (case h10 => walk_at "MY room"); (case h11 => walk_at "MY units")))
  k_with "MY sub" => ((intro p'_k hp'_k; first | exact hp'_k | (repeat (first | exact hp'_k | refine List.Mem.tail _ ?_))))
  k_with "MY fresh" => (first | assumption | (refine lt_of_all ?_; first | assumption | exact And.right (by assumption) | exact And.right (And.right (by assumption)) | exact And.right (And.right (And.right (by assumption))) | exact And.right (And.right (And.right (And.right (by assumption)))) | exact And.right (And.right (And.right (And.right (And.right (by assumption))))) | exact And.right (And.right (And.right (And.right (And.right (And.right (by assumption)))))) | exact And.right (And.right (And.right (And.right (And.right (And.right (And.right (by assumption)))))))))
  k_with "MY enterG" => ((refine wpAny_call ?_; k_dflt (refine' code_defG ?k1 ?k2 ?k3 ?k4 ?k5 ?kA ?kF ?kK ?k6 ?k7 ?k8 ?k9 ?kB ?_ ?c2 ?c3 ?c4 ?c5; (case kA => exact rfl); (case kF => first | exact rfl | assumption); (case kK => first | exact rfl | assumption); (case k1 => k_asm); (case k2 => k_asm); (case k3 => k_asm); (case k4 => k_asm); (case k5 => k_asm); (case k6 => k_is); (case k7 => k_is); (case k8 => walk_at "MY room"); (case k9 => exact BindsTo.of_eq rfl); (case c5 => decide); (case kB => exact locs rfl); (case c2 => exact rfl); (case c3 => exact rfl); (case c4 => exact rfl); k_whole; intro g'_k L'_k h'_k FG'_k F'_k N'_k B'_k X'_k T'_k kG'_k; (try dsimp only); (try k_lift B'_k); (try k_fold))))
  k_with "MY kept" => ((rename GSub _ _ _ => kG9_k; exact elt_after (InElt.start _) kG9_k (by assumption) (by assumption) (by assumption) (by walk_at "MY sub")))
  k_with "MY subr" => ((intro p'_k hp'_k; first | exact hp'_k | (repeat (first | exact hp'_k | exact List.mem_append_left _ hp'_k | exact List.mem_append_right _ hp'_k | refine List.Mem.tail _ ?_))))
  k_with "MY same" => ((intro z_k h1_k h2_k h3_k; first
      | rfl
      | ((try simp only [List.contains_cons, List.contains_nil, Bool.or_false, Bool.or_eq_false_iff, beq_eq_false_iff_ne, ne_eq] at h3_k); (simp [h1_k, h2_k, h3_k]; done))))
  k_with "MY enterC" => ((refine wpAny_call ?_; k_dflt (refine' code_defC ?k1 ?k2 ?k3 ?k4 ?k5 ?kA ?kF ?kK ?k6 ?k7 ?k8 ?k9 ?kB ?kD ?_ ?c2 ?c3 ?c4; (case kA => exact rfl); (case kF => first | exact rfl | assumption); (case kK => first | exact rfl | assumption); (case k1 => k_asm); (case k2 => k_asm); (case k3 => k_asm); (case k4 => k_asm); (case k5 => k_asm); (case k6 => k_is); (case k7 => k_is); (case k8 => walk_at "MY room"); (case k9 => exact BindsTo.of_eq rfl); (case kB => exact rfl); (case kD => decide +kernel); (case c2 => exact rfl); (case c3 => exact rfl); (case c4 => exact rfl); k_whole; intro g'_k L'_k h'_k tk'_k cells'_k FG'_k F'_k N'_k Y'_k B'_k X'_k T'_k l1_k; (try k_lt l1_k); k_cells Y'_k; (try simp only [List.cons_append, List.nil_append] at N'_k); (try dsimp only); (try k_lift B'_k); (try k_fold))))
  k_with "MY enterT" => ((refine wpAny_call ?_; k_dflt (refine' code_defT ?k1 ?k2 ?k3 ?k4 ?k5 ?kA ?kF ?kK ?k6 ?k7 ?k8 ?k9 ?kB ?_ ?c2 ?c3 ?c4 ?c5; (case kA => exact rfl); (case kF => first | exact rfl | assumption); (case kK => first | exact rfl | assumption); (case k1 => k_asm); (case k2 => k_asm); (case k3 => k_asm); (case k4 => k_asm); (case k5 => k_asm); (case k6 => k_is); (case k7 => k_is); (case k8 => walk_at "MY room"); (case k9 => exact BindsTo.of_eq rfl); (case c5 => decide); (case kB => exact locs rfl); (case c2 => exact rfl); (case c3 => exact rfl); (case c4 => exact rfl); k_whole; intro g'_k L'_k h'_k FG'_k F'_k N'_k B'_k X'_k T'_k; (try dsimp only); (try k_lift B'_k); (try k_fold))))
  trivial
section
variable {w : World} {A : Around} {h₀ : Heap} {L : Addr} {m : Str → Option Value} {s : Shared} {news : List (Addr × Obj)} {env : Env} {Q E : Value → Shared → Prop}
set_option maxRecDepth 100000 in
set_option maxHeartbeats 8000000 in
theorem heard_ok (fw : Addr) (l : List Nat) (res : Option (List Nat)) (hw : Work w fw l res) (hkp : keepIn (hd.heap_39 w.params) (.ref fw) = true) (t : Tok) (H : Here w A h₀ L m s news h₀ env [] 8)
    (ret : ∀ v h' tk', (match res with | some o => ∃ t, v = .str (S o) t | none => v = .none) → Fr h₀ L h' m → News h₀ L h' news → Q v { s with heap := h', toks := tk' }) :
    wpAny (model PySem.Challenge.rw_nt0345_01.row.prog w) A (call (.ref 221) [.ref fw, .str (S l) t]) Q E s := by
  k_with "MY body" =>
    refine H.lit (P := fun A => wpAny _ A _ _ _ _) ?_
    k_fill
    clear H
    intro dp un gd A₀ mean mg mb B F X N T loc kind room units
    have hab := F.above
    walk_at "MY enterT"
    k_steps
    k_dflt (refine callWith_K (by assumption) hkp ?_)
    k_steps
    refine hw _ (by walk_at "MY here") ?_ ?_
    · intro o ho v h' tk' ⟨t', hv⟩ F' N'
      subst hv
      (try dsimp only)
      (try k_fold)
      k_steps
      exact ret _ _ _ (by rw [ho]; exact ⟨_, rfl⟩) (by k_asm) (by k_asm)
    · intro ho e' h' tk' R'
      (try dsimp only)
      (try k_fold)
      k_steps
      k_dflt (refine caught_J R' (Fr.above (by assumption)) (by assumption) X T (by k_is) ?_)
      intro h' g' tk oe dx vs mA u T' F' N' he hc hdx hdd hns hkd B' X' P'
      (try k_lift B')
      (try dsimp only)
      (try k_fold)
      k_steps
      have J := js_of (X'.keeps F'.keep)
      refine js_get J J.nKind lk_kind he hc hdx hdd hns hkd rfl ?_
      (try dsimp only)
      (try k_fold)
      k_steps
      have hfm : List.filterMap (fun (x : Env) => x.frame) [env] = [L] := by simp [loc]
      rw [hfm] at T'
      refine leaveS0_ (by assumption) (by assumption) T' fun kF kN => ?_
      exact ret _ _ _ (by rw [ho]) kF kN
  run_tac go
end

end
section
theorem kw_L1 : True := by
  w_top off
  k_with_none
  k_with "MY room" => (first
      | ((try simp only [depth_under_make, depth_under_kw, depth_in1, depth_deeper, depth_caller, Around.mark]); (try dsimp only); omega)
      | ((try simp only [depth_under_make, depth_under_kw, depth_in1, depth_deeper, depth_caller, Around.mark]); (try dsimp only); simp only [recursionLimit] at *; omega))
  k_with "MY units" => ((have hcL9_k := cLine_is; (try simp only [units_in1, units_deeper, Around.mark_units, units_caller]); (try dsimp only); omega))
  k_with "MY enter" => ((refine wpAny_call ?_; k_dflt (refine' code_def ?k1 ?k2 ?k3 ?k4 ?k5 ?kA ?kF ?kK ?k6 ?k7 ?k8 ?k9 ?kB ?_ ?c2 ?c3 ?c4 ?c5; (case kA => exact rfl); (case kF => first | exact rfl | assumption); (case kK => first | exact rfl | assumption); (case k1 => k_asm); (case k2 => k_asm); (case k3 => k_asm); (case k4 => k_asm); (case k5 => k_asm); (case k6 => k_is); (case k7 => k_is); (case k8 => walk_at "MY room"); (case k9 => exact BindsTo.of_eq rfl); (case c5 => decide); (case kB => exact locs rfl); (case c2 => exact rfl); (case c3 => exact rfl); (case c4 => exact rfl); k_whole; intro g'_k L'_k h'_k FG'_k F'_k N'_k B'_k X'_k T'_k; (try dsimp only); (try k_lift B'_k); (try k_fold))))
  k_with "MY here" => ((refine' Here.mk ⟨_, ?h1⟩ ?h2 ?h3 ?h4 ⟨_, _, _, ?h5⟩ ?h6 ?h7 ?h8 ?h9 ?h10 ?h11; (case h6 => exact rfl); (case h1 => k_asm); (case h2 => k_asm); (case h3 => k_asm); (case h4 => k_asm); (case h5 => k_asm); (case h7 => first | exact rfl | assumption); (case h8 => first | exact rfl | assumption); (case h9 => exact rfl); (case h10 => walk_at "MY room"); (case h11 => walk_at "MY units")))
  k_with "MY sub" => ((intro p'_k hp'_k; first | exact hp'_k | (repeat (first | exact hp'_k | refine List.Mem.tail _ ?_))))
  k_with "MY fresh" => (first | assumption | (refine lt_of_all ?_; first | assumption | exact And.right (by assumption) | exact And.right (And.right (by assumption)) | exact And.right (And.right (And.right (by assumption))) | exact And.right (And.right (And.right (And.right (by assumption)))) | exact And.right (And.right (And.right (And.right (And.right (by assumption))))) | exact And.right (And.right (And.right (And.right (And.right (And.right (by assumption)))))) | exact And.right (And.right (And.right (And.right (And.right (And.right (And.right (by assumption)))))))))
  k_with "MY enterG" => ((refine wpAny_call ?_; k_dflt (refine' code_defG ?k1 ?k2 ?k3 ?k4 ?k5 ?kA ?kF ?kK ?k6 ?k7 ?k8 ?k9 ?kB ?_ ?c2 ?c3 ?c4 ?c5; (case kA => exact rfl); (case kF => first | exact rfl | assumption); (case kK => first | exact rfl | assumption); (case k1 => k_asm); (case k2 => k_asm); (case k3 => k_asm); (case k4 => k_asm); (case k5 => k_asm); (case k6 => k_is); (case k7 => k_is); (case k8 => walk_at "MY room"); (case k9 => exact BindsTo.of_eq rfl); (case c5 => decide); (case kB => exact locs rfl); (case c2 => exact rfl); (case c3 => exact rfl); (case c4 => exact rfl); k_whole; intro g'_k L'_k h'_k FG'_k F'_k N'_k B'_k X'_k T'_k kG'_k; (try dsimp only); (try k_lift B'_k); (try k_fold))))
  k_with "MY kept" => ((rename GSub _ _ _ => kG9_k; exact elt_after (InElt.start _) kG9_k (by assumption) (by assumption) (by assumption) (by walk_at "MY sub")))
  k_with "MY subr" => ((intro p'_k hp'_k; first | exact hp'_k | (repeat (first | exact hp'_k | exact List.mem_append_left _ hp'_k | exact List.mem_append_right _ hp'_k | refine List.Mem.tail _ ?_))))
  k_with "MY same" => ((intro z_k h1_k h2_k h3_k; first
      | rfl
      | ((try simp only [List.contains_cons, List.contains_nil, Bool.or_false, Bool.or_eq_false_iff, beq_eq_false_iff_ne, ne_eq] at h3_k); (simp [h1_k, h2_k, h3_k]; done))))
  k_with "MY enterC" => ((refine wpAny_call ?_; k_dflt (refine' code_defC ?k1 ?k2 ?k3 ?k4 ?k5 ?kA ?kF ?kK ?k6 ?k7 ?k8 ?k9 ?kB ?kD ?_ ?c2 ?c3 ?c4; (case kA => exact rfl); (case kF => first | exact rfl | assumption); (case kK => first | exact rfl | assumption); (case k1 => k_asm); (case k2 => k_asm); (case k3 => k_asm); (case k4 => k_asm); (case k5 => k_asm); (case k6 => k_is); (case k7 => k_is); (case k8 => walk_at "MY room"); (case k9 => exact BindsTo.of_eq rfl); (case kB => exact rfl); (case kD => decide +kernel); (case c2 => exact rfl); (case c3 => exact rfl); (case c4 => exact rfl); k_whole; intro g'_k L'_k h'_k tk'_k cells'_k FG'_k F'_k N'_k Y'_k B'_k X'_k T'_k l1_k; (try k_lt l1_k); k_cells Y'_k; (try simp only [List.cons_append, List.nil_append] at N'_k); (try dsimp only); (try k_lift B'_k); (try k_fold))))
  k_with "MY enterT" => ((refine wpAny_call ?_; k_dflt (refine' code_defT ?k1 ?k2 ?k3 ?k4 ?k5 ?kA ?kF ?kK ?k6 ?k7 ?k8 ?k9 ?kB ?_ ?c2 ?c3 ?c4 ?c5; (case kA => exact rfl); (case kF => first | exact rfl | assumption); (case kK => first | exact rfl | assumption); (case k1 => k_asm); (case k2 => k_asm); (case k3 => k_asm); (case k4 => k_asm); (case k5 => k_asm); (case k6 => k_is); (case k7 => k_is); (case k8 => walk_at "MY room"); (case k9 => exact BindsTo.of_eq rfl); (case c5 => decide); (case kB => exact locs rfl); (case c2 => exact rfl); (case c3 => exact rfl); (case c4 => exact rfl); k_whole; intro g'_k L'_k h'_k FG'_k F'_k N'_k B'_k X'_k T'_k; (try dsimp only); (try k_lift B'_k); (try k_fold))))
  trivial
theorem kw_L1_1 : True := by
  k_with "MY body" =>
    k_with "exec For" => (refine halt_in ?_)
    k_with "exec For Name Name cons nil" => (refine halt_in ?_)
    trivial
  run_tac go
def numN (bs : List Nat) : Nat := bs.foldl (fun f b => 2 * f + b) 0
theorem numN_snoc (bs : List Nat) (b : Nat) : numN (bs ++ [b]) = 2 * numN bs + b := by simp [numN]
theorem numN_lt {bs : List Nat} (h : ∀ b ∈ bs, b ≤ 1) : numN bs < 2 ^ bs.length := by
  k_with "MY body" =>
    have gen : ∀ (bs : List Nat) (f k : Nat), (∀ b ∈ bs, b ≤ 1) → f < 2 ^ k → bs.foldl (fun f b => 2 * f + b) f < 2 ^ (k + bs.length) := by
      intro bs
      induction bs with
      | nil => intro f k _ hf; exact hf
      | cons b bs ih =>
        intro f k hb hf
        have h1 := hb b (by simp)
        rw [List.foldl_cons]
        have e : k + (b :: bs).length = (k + 1) + bs.length := by simp; omega
        rw [e]
        refine ih _ _ (fun c hc => hb c (by simp [hc])) ?_
        show 2 * f + b < _
        rw [Nat.pow_succ]; omega
    have := gen bs 0 0 h (by decide)
    simpa [numN] using this
  run_tac go
/-- what stands between two turns of _law_number's loop -/
def NumP (pre : List Int) (v : Value) : Prop := ∃ p t, pre = Z p ∧ v = .int (numN p : Nat) t
theorem num_start (t : Tok) : NumP [] (.int 0 t) := ⟨[], t, rfl, rfl⟩
theorem num_step {p : List Nat} {k : Nat} {t : Tok} {x : Int} (hx : x = ((2 * numN p + k : Nat) : Int)) : NumP (Z p ++ [(k : Int)]) (.int x t) := ⟨p ++ [k], t, Z_snoc p k, by rw [hx, numN_snoc]⟩
def bitsN (k n : Nat) : List Nat := (List.range n).map fun i => k / 2 ^ (n - 1 - i) % 2
theorem bits_eq {x y : Int} {k n : Nat} (hx : x = k) (hy : y = n) : List.map (fun k' => (x.fdiv (2 ^ (y - 1 - k').toNat)).fmod 2) (rangeKs 0 (y - 0).toNat) = Z (bitsN k n) := by
  k_with "MY body" =>
    subst hx hy
    have e : ((n : Int) - 0).toNat = n := by omega
    rw [e, rangeKs, Z, bitsN, List.map_map, List.map_map]
    refine List.map_congr_left fun i hi => ?_
    have hi := List.mem_range.mp hi
    show ((k : Int).fdiv (2 ^ ((n : Int) - 1 - (0 + (i : Int))).toNat)).fmod 2 = ((k / 2 ^ (n - 1 - i) % 2 : Nat) : Int)
    have e1 : ((n : Int) - 1 - (0 + (i : Int))).toNat = n - 1 - i := by omega
    rw [e1, Int.fdiv_eq_ediv_of_nonneg _ (Int.le_of_lt (Int.pow_pos (by decide))), Int.fmod_eq_emod_of_nonneg _ (by decide)]
    push_cast
    rfl
  run_tac go
theorem bits_app (k a b : Nat) : bitsN k (a + b) = bitsN (k / 2 ^ b) a ++ bitsN k b := by
  k_with "MY body" =>
    unfold bitsN
    rw [List.range_add, List.map_append, List.map_map]
    congr 1
    · refine List.map_congr_left fun i hi => ?_
      have hi := List.mem_range.mp hi
      rw [Nat.div_div_eq_div_mul, ← Nat.pow_add, show a + b - 1 - i = b + (a - 1 - i) by omega]
    · refine List.map_congr_left fun i hi => ?_
      have hi := List.mem_range.mp hi
      show k / 2 ^ (a + b - 1 - (a + i)) % 2 = _
      rw [show a + b - 1 - (a + i) = b - 1 - i by omega]
  run_tac go
theorem bits_one (k : Nat) : bitsN k 1 = [k % 2] := by simp [bitsN]
theorem numN_bits (k n : Nat) (p : List Nat) : numN (p ++ bitsN k n) = numN p * 2 ^ n + k % 2 ^ n := by
  k_with "MY body" =>
    induction n generalizing k with
    | zero => simp [bitsN, Nat.mod_one]
    | succ n ih =>
      have e1 : k % 2 ^ (n + 1) = k % 2 + 2 * (k / 2 % 2 ^ n) := by rw [Nat.pow_succ', Nat.mod_mul]
      have e2 : numN p * 2 ^ (n + 1) = 2 * (numN p * 2 ^ n) := by rw [Nat.pow_succ', Nat.mul_left_comm]
      rw [bits_app, bits_one, ← List.append_assoc, numN_snoc, ih, e1, e2, Nat.pow_one]
      omega
  run_tac go
theorem bitsN_len (k n : Nat) : (bitsN k n).length = n := by simp [bitsN]
theorem bitsN_le {k n b : Nat} (h : b ∈ bitsN k n) : b ≤ 1 := by
  k_with "MY body" =>
    obtain ⟨i, _, rfl⟩ := List.mem_map.mp h
    omega
  run_tac go
section
variable {w : World} {A : Around} {h₀ : Heap} {L : Addr} {m : Str → Option Value} {s : Shared} {news : List (Addr × Obj)} {base : Heap} {env : Env} {outer : List Env} {Q E : Value → Shared → Prop}
set_option maxRecDepth 100000 in
set_option maxHeartbeats 8000000 in
theorem lunits_ok (x : Int) (t : Tok) (k : Nat) (hk : x = k) (hm : k ≤ 1114111)
    (H : Here w A h₀ L m s news base env outer 1)
    (ret : ∀ v h' tk', (∃ t, v = .str (S (unitsN k)) t) → Fr h₀ L h' m → News h₀ L h' news → Q v { s with heap := h', toks := tk' }) :
    wpAny (model PySem.Challenge.rw_nt0345_01.row.prog w) A (call (.ref 197) [.int x t]) Q E s := by
  k_with "MY body" =>
    refine H.lit (P := fun A => wpAny _ A _ _ _ _) ?_
    k_fill
    clear H
    intro dp un gd A₀ mean mg mb B F X N T loc kind room units
    walk_at "MY enter"
    k_steps
    · refine ret _ _ _ (isS ?_) (by k_asm) (by k_asm)
      rw [unitsN, if_pos (by omega)]; subst hk; rfl
    · refine ret _ _ _ (isS ?_) (by k_asm) (by k_asm)
      have e0 : x.fmod 1024 = x % 1024 := Int.fmod_eq_emod_of_nonneg _ (by decide)
      have e3 : (x - 65536).fdiv 1024 = (x - 65536) / 1024 := Int.fdiv_eq_ediv_of_nonneg _ (by decide)
      rw [unitsN, if_neg (by omega), e0, e3]
      show S _ ++ S _ = S _
      rw [S_app, List.singleton_append]
      have e1 : (55296 + (x - 65536) / 1024).toNat = 55296 + (k - 65536) / 1024 := by omega
      have e2 : (56320 + x % 1024).toNat = 56320 + (k - 65536) % 1024 := by omega
      rw [e1, e2]
  run_tac go
set_option maxRecDepth 100000 in
set_option maxHeartbeats 8000000 in
theorem lbits_ok (x y : Int) (t u : Tok) (k n : Nat) (hk : x = k) (hm : k ≤ 1114111) (hy : y = n) (hn : n ≤ 21)
    (H : Here w A h₀ L m s news base env outer 1)
    (ret : ∀ v h' tk' a c vs, v = .ref a → Fr h₀ L h' m → News h₀ L h' ((a, listOf (List.toArray vs) c) :: news) → LCg.Off1 a news → IntsAre vs (Z (bitsN k n)) → Q v { s with heap := h', toks := tk' }) :
    wpAny (model PySem.Challenge.rw_nt0345_01.row.prog w) A (call (.ref 169) [.int x t, .int y u]) Q E s := by
  k_with "MY body" =>
    refine H.lit (P := fun A => wpAny _ A _ _ _ _) ?_
    k_fill
    clear H
    intro dp un gd A₀ mean mg mb B F X N T loc kind room units
    walk_at "MY enterC"
    k_steps
    rename IntsAre _ _ => hI8
    have o8 : LCg.Off1 _ news := And.right (And.right (by assumption : _ ∧ _ ∧ LCg.Off1 _ news))
    refine ret _ _ _ _ _ _ rfl (by k_asm) (news_pick (by k_asm) (.head _) (by walk_at "MY sub")) o8 (by rw [bits_eq hk hy] at hI8; exact hI8)
  run_tac go
set_option maxRecDepth 100000 in
set_option maxHeartbeats 8000000 in
theorem lnumber_ok (a : Addr) (n : Nat) (vs : Array Value) (bs : List Nat) (hv : IntsAre vs.toList (Z bs)) (hb : ∀ b ∈ bs, b ≤ 1) (hl : bs.length ≤ 30)
    (H : Here w A h₀ L m s ((a, listOf vs n) :: news) base env outer 1)
    (ret : ∀ v h' tk', (∃ t, v = .int (numN bs : Nat) t) → Fr h₀ L h' m → News h₀ L h' news → Q v { s with heap := h', toks := tk' }) :
    wpAny (model PySem.Challenge.rw_nt0345_01.row.prog w) A (call (.ref 176) [.ref a]) Q E s := by
  k_with "MY body" =>
    refine H.lit (P := fun A => wpAny _ A _ _ _ _) ?_
    k_fill
    clear H
    intro dp un gd A₀ mean mg mb B F X N T loc kind room units
    walk_at "MY enter"
    k_steps
    refine Halt.out ?_
    rename Fr _ _ _ _ => F1
    rename News _ _ _ _ => N1
    refine for_list (ns := Z bs) (Str.ofString "found") [] NumP rfl F1 N1 rfl (by rfl) ?_ (.head _) (by simpa using hv) (by rfl) (num_start _) ?_ ?_
    · intro R hR
      k_steps
      exact hR
    · clear F1 N1
      intro v pre n' post t1 u h1 tk1 own hl' hP F1 N1
      (try dsimp only)
      (try k_fold)
      obtain ⟨p, t2, rfl, rfl⟩ := hP
      obtain ⟨k, q, rfl, hk⟩ := Z_cut hl'
      k_steps
      refine endV (by k_asm) (by k_asm) (by walk_at "MY subr") (by walk_at "MY subr") (by with_unfolding_all rfl) (by walk_at "MY same") (num_step (by omega))
    · clear F1 N1
      intro v u h1 tk1 hP F1 N1
      (try dsimp only)
      (try k_fold)
      obtain ⟨p, t2, hp, rfl⟩ := hP
      cases Z_inj hp
      k_steps
      exact ret _ _ _ ⟨_, rfl⟩ (by k_asm) (cb_drop (by k_asm) (by walk_at "MY subr"))
  run_tac go
end

end
section
theorem kw_L2 : True := by
  w_top off
  k_with_none
  k_with "MY room" => (first
      | ((try simp only [depth_under_make, depth_under_kw, depth_in1, depth_deeper, depth_caller, Around.mark]); (try dsimp only); omega)
      | ((try simp only [depth_under_make, depth_under_kw, depth_in1, depth_deeper, depth_caller, Around.mark]); (try dsimp only); simp only [recursionLimit] at *; omega))
  k_with "MY units" => ((have hcL9_k := cLine_is; (try simp only [units_in1, units_deeper, Around.mark_units, units_caller]); (try dsimp only); omega))
  k_with "MY enter" => ((refine wpAny_call ?_; k_dflt (refine' code_def ?k1 ?k2 ?k3 ?k4 ?k5 ?kA ?kF ?kK ?k6 ?k7 ?k8 ?k9 ?kB ?_ ?c2 ?c3 ?c4 ?c5; (case kA => exact rfl); (case kF => first | exact rfl | assumption); (case kK => first | exact rfl | assumption); (case k1 => k_asm); (case k2 => k_asm); (case k3 => k_asm); (case k4 => k_asm); (case k5 => k_asm); (case k6 => k_is); (case k7 => k_is); (case k8 => walk_at "MY room"); (case k9 => exact BindsTo.of_eq rfl); (case c5 => decide); (case kB => exact locs rfl); (case c2 => exact rfl); (case c3 => exact rfl); (case c4 => exact rfl); k_whole; intro g'_k L'_k h'_k FG'_k F'_k N'_k B'_k X'_k T'_k; (try dsimp only); (try k_lift B'_k); (try k_fold))))
  k_with "MY here" => ((refine' Here.mk ⟨_, ?h1⟩ ?h2 ?h3 ?h4 ⟨_, _, _, ?h5⟩ ?h6 ?h7 ?h8 ?h9 ?h10 ?h11; (case h6 => exact rfl); (case h1 => k_asm); (case h2 => k_asm); (case h3 => k_asm); (case h4 => k_asm); (case h5 => k_asm); (case h7 => first | exact rfl | assumption); (case h8 => first | exact rfl | assumption); (case h9 => exact rfl); (case h10 => walk_at "MY room"); (case h11 => walk_at "MY units")))
  k_with "MY sub" => ((intro p'_k hp'_k; first | exact hp'_k | (repeat (first | exact hp'_k | refine List.Mem.tail _ ?_))))
  k_with "MY fresh" => (first | assumption | (refine lt_of_all ?_; first | assumption | exact And.right (by assumption) | exact And.right (And.right (by assumption)) | exact And.right (And.right (And.right (by assumption))) | exact And.right (And.right (And.right (And.right (by assumption)))) | exact And.right (And.right (And.right (And.right (And.right (by assumption))))) | exact And.right (And.right (And.right (And.right (And.right (And.right (by assumption)))))) | exact And.right (And.right (And.right (And.right (And.right (And.right (And.right (by assumption)))))))))
  k_with "MY enterG" => ((refine wpAny_call ?_; k_dflt (refine' code_defG ?k1 ?k2 ?k3 ?k4 ?k5 ?kA ?kF ?kK ?k6 ?k7 ?k8 ?k9 ?kB ?_ ?c2 ?c3 ?c4 ?c5; (case kA => exact rfl); (case kF => first | exact rfl | assumption); (case kK => first | exact rfl | assumption); (case k1 => k_asm); (case k2 => k_asm); (case k3 => k_asm); (case k4 => k_asm); (case k5 => k_asm); (case k6 => k_is); (case k7 => k_is); (case k8 => walk_at "MY room"); (case k9 => exact BindsTo.of_eq rfl); (case c5 => decide); (case kB => exact locs rfl); (case c2 => exact rfl); (case c3 => exact rfl); (case c4 => exact rfl); k_whole; intro g'_k L'_k h'_k FG'_k F'_k N'_k B'_k X'_k T'_k kG'_k; (try dsimp only); (try k_lift B'_k); (try k_fold))))
  k_with "MY kept" => ((rename GSub _ _ _ => kG9_k; exact elt_after (InElt.start _) kG9_k (by assumption) (by assumption) (by assumption) (by walk_at "MY sub")))
  k_with "MY subr" => ((intro p'_k hp'_k; first | exact hp'_k | (repeat (first | exact hp'_k | exact List.mem_append_left _ hp'_k | exact List.mem_append_right _ hp'_k | refine List.Mem.tail _ ?_))))
  k_with "MY same" => ((intro z_k h1_k h2_k h3_k; first
      | rfl
      | ((try simp only [List.contains_cons, List.contains_nil, Bool.or_false, Bool.or_eq_false_iff, beq_eq_false_iff_ne, ne_eq] at h3_k); (simp [h1_k, h2_k, h3_k]; done))))
  k_with "MY enterC" => ((refine wpAny_call ?_; k_dflt (refine' code_defC ?k1 ?k2 ?k3 ?k4 ?k5 ?kA ?kF ?kK ?k6 ?k7 ?k8 ?k9 ?kB ?kD ?_ ?c2 ?c3 ?c4; (case kA => exact rfl); (case kF => first | exact rfl | assumption); (case kK => first | exact rfl | assumption); (case k1 => k_asm); (case k2 => k_asm); (case k3 => k_asm); (case k4 => k_asm); (case k5 => k_asm); (case k6 => k_is); (case k7 => k_is); (case k8 => walk_at "MY room"); (case k9 => exact BindsTo.of_eq rfl); (case kB => exact rfl); (case kD => decide +kernel); (case c2 => exact rfl); (case c3 => exact rfl); (case c4 => exact rfl); k_whole; intro g'_k L'_k h'_k tk'_k cells'_k FG'_k F'_k N'_k Y'_k B'_k X'_k T'_k l1_k; (try k_lt l1_k); k_cells Y'_k; (try simp only [List.cons_append, List.nil_append] at N'_k); (try dsimp only); (try k_lift B'_k); (try k_fold))))
  k_with "MY enterT" => ((refine wpAny_call ?_; k_dflt (refine' code_defT ?k1 ?k2 ?k3 ?k4 ?k5 ?kA ?kF ?kK ?k6 ?k7 ?k8 ?k9 ?kB ?_ ?c2 ?c3 ?c4 ?c5; (case kA => exact rfl); (case kF => first | exact rfl | assumption); (case kK => first | exact rfl | assumption); (case k1 => k_asm); (case k2 => k_asm); (case k3 => k_asm); (case k4 => k_asm); (case k5 => k_asm); (case k6 => k_is); (case k7 => k_is); (case k8 => walk_at "MY room"); (case k9 => exact BindsTo.of_eq rfl); (case c5 => decide); (case kB => exact locs rfl); (case c2 => exact rfl); (case c3 => exact rfl); (case c4 => exact rfl); k_whole; intro g'_k L'_k h'_k FG'_k F'_k N'_k B'_k X'_k T'_k; (try dsimp only); (try k_lift B'_k); (try k_fold))))
  trivial
theorem off_of {D : Addr} : ∀ {l : List (Addr × Obj)}, (∀ p ∈ l, p.1 ≠ D) → LCg.Off1 D l
  | [], _ => trivial
  | p :: _, h => ⟨h p (.head _), off_of fun q hq => h q (.tail _ hq)⟩
theorem off_of_lt {D : Addr} {l : List (Addr × Obj)} (h : ∀ p ∈ l, p.1 < D) : LCg.Off1 D l := off_of fun p hp => Nat.ne_of_lt (h p hp)
theorem off_all {D : Addr} {l : List (Addr × Obj)} (h : LCg.Off1 D l) : ∀ p ∈ l, p.1 ≠ D := by
  k_with "MY body" =>
    induction l with
    | nil => intro p hp; cases hp
    | cons q l ih =>
      intro p hp
      rcases List.mem_cons.mp hp with e | hp
      · rw [e]; exact h.1
      · exact ih h.2 p hp
  run_tac go
theorem list3 {l : List Nat} (h : l.length = 3) : ∃ c0 c1 c2, l = [c0, c1, c2] := by
  k_with "MY body" =>
    match l, h with
    | [c0, c1, c2], _ => exact ⟨c0, c1, c2, rfl⟩
  run_tac go
theorem list4 {l : List Nat} (h : l.length = 4) : ∃ c0 c1 c2 c3, l = [c0, c1, c2, c3] := by
  k_with "MY body" =>
    match l, h with
    | [c0, c1, c2, c3], _ => exact ⟨c0, c1, c2, c3, rfl⟩
  run_tac go
theorem list5 {l : List Nat} (h : l.length = 5) : ∃ c0 c1 c2 c3 c4, l = [c0, c1, c2, c3, c4] := by
  k_with "MY body" =>
    match l, h with
    | [c0, c1, c2, c3, c4], _ => exact ⟨c0, c1, c2, c3, c4, rfl⟩
  run_tac go
theorem list6 {l : List Nat} (h : l.length = 6) : ∃ c0 c1 c2 c3 c4 c5, l = [c0, c1, c2, c3, c4, c5] := by
  k_with "MY body" =>
    match l, h with
    | [c0, c1, c2, c3, c4, c5], _ => exact ⟨c0, c1, c2, c3, c4, c5, rfl⟩
  run_tac go
theorem bit_le {k n : Nat} {l : List Nat} (h : bitsN k n = l) : ∀ b ∈ l, b ≤ 1 := fun b hb => bitsN_le (h ▸ hb)
theorem kw_L2_1 : True := by
  k_with "MY body" =>
    k_with "exec While" => (k_dflt (refine whl_start 100 ?_))
    k_with "exec While Compare" => (k_dflt (refine whl_start 100 ?_))
    k_with "exec While Compare cons nil" => (k_dflt (refine whl_start 100 ?_))
    k_with "compareOp NotEq ref ref" => (((with_reducible show wpAny _ _ (compareOp CmpOp.NotEq (Value.ref _) (Value.ref _)) _ _ _); (with_unfolding_all refine' ne_intsK ?k1 ?k2 ?k3 ?k4 ?k5 ?_; (case k1 => is_list); (case k2 => l_intsC); (case k3 => is_list); (case k4 => l_intsC); (case k5 => walk_at "MY units"); k_whole)))
    k_with "MY deep" => ((refine lt_of_all ?_; first | assumption | exact And.right (by assumption) | exact And.right (And.right (by assumption)) | exact And.right (And.right (And.right (by assumption))) | exact And.right (And.right (And.right (And.right (by assumption)))) | exact And.right (And.right (And.right (And.right (And.right (by assumption))))) | exact And.right (And.right (And.right (And.right (And.right (And.right (by assumption)))))) | exact And.right (And.right (And.right (And.right (And.right (And.right (And.right (by assumption))))))) | exact And.right (And.right (And.right (And.right (And.right (And.right (And.right (And.right (by assumption)))))))) | exact And.right (And.right (And.right (And.right (And.right (And.right (And.right (And.right (And.right (by assumption))))))))) | exact And.right (And.right (And.right (And.right (And.right (And.right (And.right (And.right (And.right (And.right (by assumption)))))))))) | exact And.right (And.right (And.right (And.right (And.right (And.right (And.right (And.right (And.right (And.right (And.right (by assumption))))))))))) | exact And.right (And.right (And.right (And.right (And.right (And.right (And.right (And.right (And.right (And.right (And.right (And.right (by assumption)))))))))))) | exact And.right (And.right (And.right (And.right (And.right (And.right (And.right (And.right (And.right (And.right (And.right (And.right (And.right (by assumption))))))))))))) | exact And.right (And.right (And.right (And.right (And.right (And.right (And.right (And.right (And.right (And.right (And.right (And.right (And.right (And.right (by assumption)))))))))))))) | exact And.right (And.right (And.right (And.right (And.right (And.right (And.right (And.right (And.right (And.right (And.right (And.right (And.right (And.right (And.right (by assumption))))))))))))))) | exact And.right (And.right (And.right (And.right (And.right (And.right (And.right (And.right (And.right (And.right (And.right (And.right (And.right (And.right (And.right (And.right (by assumption)))))))))))))))) | exact And.right (And.right (And.right (And.right (And.right (And.right (And.right (And.right (And.right (And.right (And.right (And.right (And.right (And.right (And.right (And.right (And.right (by assumption))))))))))))))))) | exact And.right (And.right (And.right (And.right (And.right (And.right (And.right (And.right (And.right (And.right (And.right (And.right (And.right (And.right (And.right (And.right (And.right (And.right (by assumption)))))))))))))))))) | exact And.right (And.right (And.right (And.right (And.right (And.right (And.right (And.right (And.right (And.right (And.right (And.right (And.right (And.right (And.right (And.right (And.right (And.right (And.right (by assumption))))))))))))))))))) | exact And.right (And.right (And.right (And.right (And.right (And.right (And.right (And.right (And.right (And.right (And.right (And.right (And.right (And.right (And.right (And.right (And.right (And.right (And.right (And.right (by assumption)))))))))))))))))))) | exact And.right (And.right (And.right (And.right (And.right (And.right (And.right (And.right (And.right (And.right (And.right (And.right (And.right (And.right (And.right (And.right (And.right (And.right (And.right (And.right (And.right (by assumption))))))))))))))))))))) | exact And.right (And.right (And.right (And.right (And.right (And.right (And.right (And.right (And.right (And.right (And.right (And.right (And.right (And.right (And.right (And.right (And.right (And.right (And.right (And.right (And.right (And.right (by assumption)))))))))))))))))))))) | exact And.right (And.right (And.right (And.right (And.right (And.right (And.right (And.right (And.right (And.right (And.right (And.right (And.right (And.right (And.right (And.right (And.right (And.right (And.right (And.right (And.right (And.right (And.right (by assumption))))))))))))))))))))))) | exact And.right (And.right (And.right (And.right (And.right (And.right (And.right (And.right (And.right (And.right (And.right (And.right (And.right (And.right (And.right (And.right (And.right (And.right (And.right (And.right (And.right (And.right (And.right (And.right (by assumption)))))))))))))))))))))))) | exact And.right (And.right (And.right (And.right (And.right (And.right (And.right (And.right (And.right (And.right (And.right (And.right (And.right (And.right (And.right (And.right (And.right (And.right (And.right (And.right (And.right (And.right (And.right (And.right (And.right (by assumption))))))))))))))))))))))))) | exact And.right (And.right (And.right (And.right (And.right (And.right (And.right (And.right (And.right (And.right (And.right (And.right (And.right (And.right (And.right (And.right (And.right (And.right (And.right (And.right (And.right (And.right (And.right (And.right (And.right (And.right (by assumption)))))))))))))))))))))))))) | exact And.right (And.right (And.right (And.right (And.right (And.right (And.right (And.right (And.right (And.right (And.right (And.right (And.right (And.right (And.right (And.right (And.right (And.right (And.right (And.right (And.right (And.right (And.right (And.right (And.right (And.right (And.right (by assumption))))))))))))))))))))))))))) | exact And.right (And.right (And.right (And.right (And.right (And.right (And.right (And.right (And.right (And.right (And.right (And.right (And.right (And.right (And.right (And.right (And.right (And.right (And.right (And.right (And.right (And.right (And.right (And.right (And.right (And.right (And.right (And.right (by assumption)))))))))))))))))))))))))))) | exact And.right (And.right (And.right (And.right (And.right (And.right (And.right (And.right (And.right (And.right (And.right (And.right (And.right (And.right (And.right (And.right (And.right (And.right (And.right (And.right (And.right (And.right (And.right (And.right (And.right (And.right (And.right (And.right (And.right (by assumption)))))))))))))))))))))))))))))))
    trivial
  run_tac go
section
variable {w : World} {A : Around} {h₀ : Heap} {L : Addr} {m : Str → Option Value} {s : Shared} {news : List (Addr × Obj)} {base : Heap} {env : Env} {outer : List Env} {Q E : Value → Shared → Prop}
set_option maxRecDepth 100000 in
set_option maxHeartbeats 8000000 in
theorem loct1_ok (x : Int) (t : Tok) (k : Nat) (hk : x = k) (hm : k ≤ 1114111) (c : k < 128)
    (H : Here w A h₀ L m s news base env outer 10)
    (ret : ∀ v h' tk' a n vs, v = .ref a → Fr h₀ L h' m → News h₀ L h' ((a, listOf (List.toArray vs) n) :: news) → LCg.Off1 a news → IntsAre vs (Z (octs k)) → Q v { s with heap := h', toks := tk' }) :
    wpAny (model PySem.Challenge.rw_nt0345_01.row.prog w) A (call (.ref 183) [.int x t]) Q E s := by
  k_with "MY body" =>
    refine H.lit (P := fun A => wpAny _ A _ _ _ _) ?_
    k_fill
    clear H
    intro dp un gd A₀ mean mg mb B F X N T loc kind room units
    have e : octs k = [k] := by rw [octs, if_pos c]
    walk_at "MY enter"
    k_steps
    refine ret _ _ _ _ _ _ rfl (by k_asm) (news_pick (by k_asm) (.head _) (by walk_at "MY sub")) (off_of_lt (by assumption)) ?_
    rw [e]; exact ints_cons hk ints_nil
  run_tac go
set_option maxRecDepth 100000 in
set_option maxHeartbeats 8000000 in
theorem loct2_ok (x : Int) (t : Tok) (k : Nat) (hk : x = k) (hm : k ≤ 1114111) (c : 128 ≤ k ∧ k < 2048)
    (H : Here w A h₀ L m s news base env outer 10)
    (ret : ∀ v h' tk' a n vs, v = .ref a → Fr h₀ L h' m → News h₀ L h' ((a, listOf (List.toArray vs) n) :: news) → LCg.Off1 a news → IntsAre vs (Z (octs k)) → Q v { s with heap := h', toks := tk' }) :
    wpAny (model PySem.Challenge.rw_nt0345_01.row.prog w) A (call (.ref 183) [.int x t]) Q E s := by
  k_with "MY body" =>
    refine H.lit (P := fun A => wpAny _ A _ _ _ _) ?_
    k_fill
    clear H
    intro dp un gd A₀ mean mg mb B F X N T loc kind room units
    have e : octs k = [192 + k / 64, 128 + k % 64] := by rw [octs, if_neg (by omega), if_pos (by omega)]
    have hb : bitsN k 11 = bitsN (k / 2 ^ 6) 5 ++ bitsN k 6 := by
      exact bits_app k 5 6
    obtain ⟨a0, a1, a2, a3, a4, ea⟩ := list5 (bitsN_len (k / 2 ^ 6) 5)
    have la := bit_le ea
    obtain ⟨b0, b1, b2, b3, b4, b5, eb⟩ := list6 (bitsN_len (k) 6)
    have lb := bit_le eb
    rw [ea, eb] at hb
    have na : numN [1, 1, 0, a0, a1, a2, a3, a4] = 192 + k / 64 := by
      have z := numN_bits (k / 2 ^ 6) 5 [1, 1, 0]
      rw [ea] at z
      have z2 : numN [1, 1, 0, a0, a1, a2, a3, a4] = numN [1, 1, 0] * 2 ^ 5 + (k / 2 ^ 6) % 2 ^ 5 := z
      rw [z2, show numN [1, 1, 0] = 6 from rfl]
      all_goals omega
    have nb : numN [1, 0, b0, b1, b2, b3, b4, b5] = 128 + k % 64 := by
      have z := numN_bits (k) 6 [1, 0]
      rw [eb] at z
      have z2 : numN [1, 0, b0, b1, b2, b3, b4, b5] = numN [1, 0] * 2 ^ 6 + (k) % 2 ^ 6 := z
      rw [z2, show numN [1, 0] = 2 from rfl]
      all_goals omega
    walk_at "MY enter"
    k_steps
    refine lbits_ok _ _ _ _ k 11 hk hm (by rfl) (by decide) (by walk_at "MY here") ?_
    intro v' h' tk' a' c' vs' hv' F' N' o1' is'
    subst hv'
    rw [hb] at is'
    obtain ⟨t0, w0, q0, i0⟩ := ints_split is'
    obtain ⟨t1, w1, q1, i1⟩ := ints_split i0
    obtain ⟨t2, w2, q2, i2⟩ := ints_split i1
    obtain ⟨t3, w3, q3, i3⟩ := ints_split i2
    obtain ⟨t4, w4, q4, i4⟩ := ints_split i3
    obtain ⟨t5, w5, q5, i5⟩ := ints_split i4
    obtain ⟨t6, w6, q6, i6⟩ := ints_split i5
    obtain ⟨t7, w7, q7, i7⟩ := ints_split i6
    obtain ⟨t8, w8, q8, i8⟩ := ints_split i7
    obtain ⟨t9, w9, q9, i9⟩ := ints_split i8
    obtain ⟨t10, w10, q10, i10⟩ := ints_split i9
    have q11 := ints_end i10
    subst q11 q10 q9 q8 q7 q6 q5 q4 q3 q2 q1 q0
    (try dsimp only)
    (try k_fold)
    k_steps
    refine lnumber_ok _ _ _ ([1, 1, 0, a0, a1, a2, a3, a4]) ?hI9 ?hb9 (by simp) (by walk_at "MY here") ?_
    case hI9 => repeat (first | exact ints_nil | refine ints_cons rfl ?_)
    case hb9 => simpa using la
    rw [na]
    intro v' h' tk' ⟨t', hv'⟩ F' N'
    subst hv'
    (try dsimp only)
    (try k_fold)
    k_steps
    refine lnumber_ok _ _ _ ([1, 0, b0, b1, b2, b3, b4, b5]) ?hI9 ?hb9 (by simp) (by walk_at "MY here") ?_
    case hI9 => repeat (first | exact ints_nil | refine ints_cons rfl ?_)
    case hb9 => simpa using lb
    rw [nb]
    intro v' h' tk' ⟨t', hv'⟩ F' N'
    subst hv'
    (try dsimp only)
    (try k_fold)
    k_steps
    refine ret _ _ _ _ _ _ rfl (by k_asm) (news_pick (by k_asm) (by k_mem) (by walk_at "MY sub")) (off_of_lt (by walk_at "MY deep")) ?_
    rw [e]
    repeat (first | exact ints_nil | refine ints_cons rfl ?_)
  run_tac go
set_option maxRecDepth 100000 in
set_option maxHeartbeats 8000000 in
theorem loct3_ok (x : Int) (t : Tok) (k : Nat) (hk : x = k) (hm : k ≤ 1114111) (c : 2048 ≤ k ∧ k < 65536)
    (H : Here w A h₀ L m s news base env outer 10)
    (ret : ∀ v h' tk' a n vs, v = .ref a → Fr h₀ L h' m → News h₀ L h' ((a, listOf (List.toArray vs) n) :: news) → LCg.Off1 a news → IntsAre vs (Z (octs k)) → Q v { s with heap := h', toks := tk' }) :
    wpAny (model PySem.Challenge.rw_nt0345_01.row.prog w) A (call (.ref 183) [.int x t]) Q E s := by
  k_with "MY body" =>
    refine H.lit (P := fun A => wpAny _ A _ _ _ _) ?_
    k_fill
    clear H
    intro dp un gd A₀ mean mg mb B F X N T loc kind room units
    have e : octs k = [224 + k / 4096, 128 + k / 64 % 64, 128 + k % 64] := by rw [octs, if_neg (by omega), if_neg (by omega), if_pos (by omega)]
    have hb : bitsN k 16 = bitsN (k / 2 ^ 12) 4 ++ bitsN (k / 2 ^ 6) 6 ++ bitsN k 6 := by
      rw [show 16 = (4 + 6) + 6 from rfl, bits_app k (4 + 6) 6, bits_app (k / 2 ^ 6) 4 6, Nat.div_div_eq_div_mul, ← Nat.pow_add]
    obtain ⟨a0, a1, a2, a3, ea⟩ := list4 (bitsN_len (k / 2 ^ 12) 4)
    have la := bit_le ea
    obtain ⟨b0, b1, b2, b3, b4, b5, eb⟩ := list6 (bitsN_len (k / 2 ^ 6) 6)
    have lb := bit_le eb
    obtain ⟨c0, c1, c2, c3, c4, c5, ec⟩ := list6 (bitsN_len (k) 6)
    have lc := bit_le ec
    rw [ea, eb, ec] at hb
    have na : numN [1, 1, 1, 0, a0, a1, a2, a3] = 224 + k / 4096 := by
      have z := numN_bits (k / 2 ^ 12) 4 [1, 1, 1, 0]
      rw [ea] at z
      have z2 : numN [1, 1, 1, 0, a0, a1, a2, a3] = numN [1, 1, 1, 0] * 2 ^ 4 + (k / 2 ^ 12) % 2 ^ 4 := z
      rw [z2, show numN [1, 1, 1, 0] = 14 from rfl]
      all_goals omega
    have nb : numN [1, 0, b0, b1, b2, b3, b4, b5] = 128 + k / 64 % 64 := by
      have z := numN_bits (k / 2 ^ 6) 6 [1, 0]
      rw [eb] at z
      have z2 : numN [1, 0, b0, b1, b2, b3, b4, b5] = numN [1, 0] * 2 ^ 6 + (k / 2 ^ 6) % 2 ^ 6 := z
      rw [z2, show numN [1, 0] = 2 from rfl]
      all_goals omega
    have nc : numN [1, 0, c0, c1, c2, c3, c4, c5] = 128 + k % 64 := by
      have z := numN_bits (k) 6 [1, 0]
      rw [ec] at z
      have z2 : numN [1, 0, c0, c1, c2, c3, c4, c5] = numN [1, 0] * 2 ^ 6 + (k) % 2 ^ 6 := z
      rw [z2, show numN [1, 0] = 2 from rfl]
      all_goals omega
    walk_at "MY enter"
    k_steps
    refine lbits_ok _ _ _ _ k 16 hk hm (by rfl) (by decide) (by walk_at "MY here") ?_
    intro v' h' tk' a' c' vs' hv' F' N' o1' is'
    subst hv'
    rw [hb] at is'
    obtain ⟨t0, w0, q0, i0⟩ := ints_split is'
    obtain ⟨t1, w1, q1, i1⟩ := ints_split i0
    obtain ⟨t2, w2, q2, i2⟩ := ints_split i1
    obtain ⟨t3, w3, q3, i3⟩ := ints_split i2
    obtain ⟨t4, w4, q4, i4⟩ := ints_split i3
    obtain ⟨t5, w5, q5, i5⟩ := ints_split i4
    obtain ⟨t6, w6, q6, i6⟩ := ints_split i5
    obtain ⟨t7, w7, q7, i7⟩ := ints_split i6
    obtain ⟨t8, w8, q8, i8⟩ := ints_split i7
    obtain ⟨t9, w9, q9, i9⟩ := ints_split i8
    obtain ⟨t10, w10, q10, i10⟩ := ints_split i9
    obtain ⟨t11, w11, q11, i11⟩ := ints_split i10
    obtain ⟨t12, w12, q12, i12⟩ := ints_split i11
    obtain ⟨t13, w13, q13, i13⟩ := ints_split i12
    obtain ⟨t14, w14, q14, i14⟩ := ints_split i13
    obtain ⟨t15, w15, q15, i15⟩ := ints_split i14
    have q16 := ints_end i15
    subst q16 q15 q14 q13 q12 q11 q10 q9 q8 q7 q6 q5 q4 q3 q2 q1 q0
    (try dsimp only)
    (try k_fold)
    k_steps
    refine lnumber_ok _ _ _ ([1, 1, 1, 0, a0, a1, a2, a3]) ?hI9 ?hb9 (by simp) (by walk_at "MY here") ?_
    case hI9 => repeat (first | exact ints_nil | refine ints_cons rfl ?_)
    case hb9 => simpa using la
    rw [na]
    intro v' h' tk' ⟨t', hv'⟩ F' N'
    subst hv'
    (try dsimp only)
    (try k_fold)
    k_steps
    refine lnumber_ok _ _ _ ([1, 0, b0, b1, b2, b3, b4, b5]) ?hI9 ?hb9 (by simp) (by walk_at "MY here") ?_
    case hI9 => repeat (first | exact ints_nil | refine ints_cons rfl ?_)
    case hb9 => simpa using lb
    rw [nb]
    intro v' h' tk' ⟨t', hv'⟩ F' N'
    subst hv'
    (try dsimp only)
    (try k_fold)
    k_steps
    refine lnumber_ok _ _ _ ([1, 0, c0, c1, c2, c3, c4, c5]) ?hI9 ?hb9 (by simp) (by walk_at "MY here") ?_
    case hI9 => repeat (first | exact ints_nil | refine ints_cons rfl ?_)
    case hb9 => simpa using lc
    rw [nc]
    intro v' h' tk' ⟨t', hv'⟩ F' N'
    subst hv'
    (try dsimp only)
    (try k_fold)
    k_steps
    refine ret _ _ _ _ _ _ rfl (by k_asm) (news_pick (by k_asm) (by k_mem) (by walk_at "MY sub")) (off_of_lt (by walk_at "MY deep")) ?_
    rw [e]
    repeat (first | exact ints_nil | refine ints_cons rfl ?_)
  run_tac go
set_option maxRecDepth 100000 in
set_option maxHeartbeats 8000000 in
theorem loct4_ok (x : Int) (t : Tok) (k : Nat) (hk : x = k) (hm : k ≤ 1114111) (c : 65536 ≤ k)
    (H : Here w A h₀ L m s news base env outer 10)
    (ret : ∀ v h' tk' a n vs, v = .ref a → Fr h₀ L h' m → News h₀ L h' ((a, listOf (List.toArray vs) n) :: news) → LCg.Off1 a news → IntsAre vs (Z (octs k)) → Q v { s with heap := h', toks := tk' }) :
    wpAny (model PySem.Challenge.rw_nt0345_01.row.prog w) A (call (.ref 183) [.int x t]) Q E s := by
  k_with "MY body" =>
    refine H.lit (P := fun A => wpAny _ A _ _ _ _) ?_
    k_fill
    clear H
    intro dp un gd A₀ mean mg mb B F X N T loc kind room units
    have e : octs k = [240 + k / 262144, 128 + k / 4096 % 64, 128 + k / 64 % 64, 128 + k % 64] := by rw [octs, if_neg (by omega), if_neg (by omega), if_neg (by omega)]
    have hb : bitsN k 21 = bitsN (k / 2 ^ 18) 3 ++ bitsN (k / 2 ^ 12) 6 ++ bitsN (k / 2 ^ 6) 6 ++ bitsN k 6 := by
      rw [show 21 = ((3 + 6) + 6) + 6 from rfl, bits_app k ((3 + 6) + 6) 6, bits_app (k / 2 ^ 6) (3 + 6) 6, bits_app (k / 2 ^ 6 / 2 ^ 6) 3 6]
      simp only [Nat.div_div_eq_div_mul, ← Nat.pow_add]
    obtain ⟨a0, a1, a2, ea⟩ := list3 (bitsN_len (k / 2 ^ 18) 3)
    have la := bit_le ea
    obtain ⟨b0, b1, b2, b3, b4, b5, eb⟩ := list6 (bitsN_len (k / 2 ^ 12) 6)
    have lb := bit_le eb
    obtain ⟨c0, c1, c2, c3, c4, c5, ec⟩ := list6 (bitsN_len (k / 2 ^ 6) 6)
    have lc := bit_le ec
    obtain ⟨d0, d1, d2, d3, d4, d5, ed⟩ := list6 (bitsN_len (k) 6)
    have ld := bit_le ed
    rw [ea, eb, ec, ed] at hb
    have na : numN [1, 1, 1, 1, 0, a0, a1, a2] = 240 + k / 262144 := by
      have z := numN_bits (k / 2 ^ 18) 3 [1, 1, 1, 1, 0]
      rw [ea] at z
      have z2 : numN [1, 1, 1, 1, 0, a0, a1, a2] = numN [1, 1, 1, 1, 0] * 2 ^ 3 + (k / 2 ^ 18) % 2 ^ 3 := z
      rw [z2, show numN [1, 1, 1, 1, 0] = 30 from rfl]
      all_goals omega
    have nb : numN [1, 0, b0, b1, b2, b3, b4, b5] = 128 + k / 4096 % 64 := by
      have z := numN_bits (k / 2 ^ 12) 6 [1, 0]
      rw [eb] at z
      have z2 : numN [1, 0, b0, b1, b2, b3, b4, b5] = numN [1, 0] * 2 ^ 6 + (k / 2 ^ 12) % 2 ^ 6 := z
      rw [z2, show numN [1, 0] = 2 from rfl]
      all_goals omega
    have nc : numN [1, 0, c0, c1, c2, c3, c4, c5] = 128 + k / 64 % 64 := by
      have z := numN_bits (k / 2 ^ 6) 6 [1, 0]
      rw [ec] at z
      have z2 : numN [1, 0, c0, c1, c2, c3, c4, c5] = numN [1, 0] * 2 ^ 6 + (k / 2 ^ 6) % 2 ^ 6 := z
      rw [z2, show numN [1, 0] = 2 from rfl]
      all_goals omega
    have nd : numN [1, 0, d0, d1, d2, d3, d4, d5] = 128 + k % 64 := by
      have z := numN_bits (k) 6 [1, 0]
      rw [ed] at z
      have z2 : numN [1, 0, d0, d1, d2, d3, d4, d5] = numN [1, 0] * 2 ^ 6 + (k) % 2 ^ 6 := z
      rw [z2, show numN [1, 0] = 2 from rfl]
      all_goals omega
    walk_at "MY enter"
    k_steps
    refine lbits_ok _ _ _ _ k 21 hk hm (by rfl) (by decide) (by walk_at "MY here") ?_
    intro v' h' tk' a' c' vs' hv' F' N' o1' is'
    subst hv'
    rw [hb] at is'
    obtain ⟨t0, w0, q0, i0⟩ := ints_split is'
    obtain ⟨t1, w1, q1, i1⟩ := ints_split i0
    obtain ⟨t2, w2, q2, i2⟩ := ints_split i1
    obtain ⟨t3, w3, q3, i3⟩ := ints_split i2
    obtain ⟨t4, w4, q4, i4⟩ := ints_split i3
    obtain ⟨t5, w5, q5, i5⟩ := ints_split i4
    obtain ⟨t6, w6, q6, i6⟩ := ints_split i5
    obtain ⟨t7, w7, q7, i7⟩ := ints_split i6
    obtain ⟨t8, w8, q8, i8⟩ := ints_split i7
    obtain ⟨t9, w9, q9, i9⟩ := ints_split i8
    obtain ⟨t10, w10, q10, i10⟩ := ints_split i9
    obtain ⟨t11, w11, q11, i11⟩ := ints_split i10
    obtain ⟨t12, w12, q12, i12⟩ := ints_split i11
    obtain ⟨t13, w13, q13, i13⟩ := ints_split i12
    obtain ⟨t14, w14, q14, i14⟩ := ints_split i13
    obtain ⟨t15, w15, q15, i15⟩ := ints_split i14
    obtain ⟨t16, w16, q16, i16⟩ := ints_split i15
    obtain ⟨t17, w17, q17, i17⟩ := ints_split i16
    obtain ⟨t18, w18, q18, i18⟩ := ints_split i17
    obtain ⟨t19, w19, q19, i19⟩ := ints_split i18
    obtain ⟨t20, w20, q20, i20⟩ := ints_split i19
    have q21 := ints_end i20
    subst q21 q20 q19 q18 q17 q16 q15 q14 q13 q12 q11 q10 q9 q8 q7 q6 q5 q4 q3 q2 q1 q0
    (try dsimp only)
    (try k_fold)
    k_steps
    refine lnumber_ok _ _ _ ([1, 1, 1, 1, 0, a0, a1, a2]) ?hI9 ?hb9 (by simp) (by walk_at "MY here") ?_
    case hI9 => repeat (first | exact ints_nil | refine ints_cons rfl ?_)
    case hb9 => simpa using la
    rw [na]
    intro v' h' tk' ⟨t', hv'⟩ F' N'
    subst hv'
    (try dsimp only)
    (try k_fold)
    k_steps
    refine lnumber_ok _ _ _ ([1, 0, b0, b1, b2, b3, b4, b5]) ?hI9 ?hb9 (by simp) (by walk_at "MY here") ?_
    case hI9 => repeat (first | exact ints_nil | refine ints_cons rfl ?_)
    case hb9 => simpa using lb
    rw [nb]
    intro v' h' tk' ⟨t', hv'⟩ F' N'
    subst hv'
    (try dsimp only)
    (try k_fold)
    k_steps
    refine lnumber_ok _ _ _ ([1, 0, c0, c1, c2, c3, c4, c5]) ?hI9 ?hb9 (by simp) (by walk_at "MY here") ?_
    case hI9 => repeat (first | exact ints_nil | refine ints_cons rfl ?_)
    case hb9 => simpa using lc
    rw [nc]
    intro v' h' tk' ⟨t', hv'⟩ F' N'
    subst hv'
    (try dsimp only)
    (try k_fold)
    k_steps
    refine lnumber_ok _ _ _ ([1, 0, d0, d1, d2, d3, d4, d5]) ?hI9 ?hb9 (by simp) (by walk_at "MY here") ?_
    case hI9 => repeat (first | exact ints_nil | refine ints_cons rfl ?_)
    case hb9 => simpa using ld
    rw [nd]
    intro v' h' tk' ⟨t', hv'⟩ F' N'
    subst hv'
    (try dsimp only)
    (try k_fold)
    k_steps
    refine ret _ _ _ _ _ _ rfl (by k_asm) (news_pick (by k_asm) (by k_mem) (by walk_at "MY sub")) (off_of_lt (by walk_at "MY deep")) ?_
    rw [e]
    repeat (first | exact ints_nil | refine ints_cons rfl ?_)
  run_tac go
theorem loctets_ok (x : Int) (t : Tok) (k : Nat) (hk : x = k) (hm : k ≤ 1114111)
    (H : Here w A h₀ L m s news base env outer 10)
    (ret : ∀ v h' tk' a n vs, v = .ref a → Fr h₀ L h' m → News h₀ L h' ((a, listOf (List.toArray vs) n) :: news) → LCg.Off1 a news → IntsAre vs (Z (octs k)) → Q v { s with heap := h', toks := tk' }) :
    wpAny (model PySem.Challenge.rw_nt0345_01.row.prog w) A (call (.ref 183) [.int x t]) Q E s := by
  k_with "MY body" =>
    rcases (show k < 128 ∨ (128 ≤ k ∧ k < 2048) ∨ (2048 ≤ k ∧ k < 65536) ∨ 65536 ≤ k by omega) with c | c | c | c
    · exact loct1_ok x t k hk hm c H ret
    · exact loct2_ok x t k hk hm c H ret
    · exact loct3_ok x t k hk hm c H ret
    · exact loct4_ok x t k hk hm c H ret
  run_tac go
end

end
section
theorem kw_L3 : True := by
  w_top off
  k_with_none
  k_with "MY room" => (first
      | ((try simp only [depth_under_make, depth_under_kw, depth_in1, depth_deeper, depth_caller, Around.mark]); (try dsimp only); omega)
      | ((try simp only [depth_under_make, depth_under_kw, depth_in1, depth_deeper, depth_caller, Around.mark]); (try dsimp only); simp only [recursionLimit] at *; omega))
  k_with "MY units" => ((have hcL9_k := cLine_is; (try simp only [units_in1, units_deeper, Around.mark_units, units_caller]); (try dsimp only); omega))
  k_with "MY enter" => ((refine wpAny_call ?_; k_dflt (refine' code_def ?k1 ?k2 ?k3 ?k4 ?k5 ?kA ?kF ?kK ?k6 ?k7 ?k8 ?k9 ?kB ?_ ?c2 ?c3 ?c4 ?c5; (case kA => exact rfl); (case kF => first | exact rfl | assumption); (case kK => first | exact rfl | assumption); (case k1 => k_asm); (case k2 => k_asm); (case k3 => k_asm); (case k4 => k_asm); (case k5 => k_asm); (case k6 => k_is); (case k7 => k_is); (case k8 => walk_at "MY room"); (case k9 => exact BindsTo.of_eq rfl); (case c5 => decide); (case kB => exact locs rfl); (case c2 => exact rfl); (case c3 => exact rfl); (case c4 => exact rfl); k_whole; intro g'_k L'_k h'_k FG'_k F'_k N'_k B'_k X'_k T'_k; (try dsimp only); (try k_lift B'_k); (try k_fold))))
  k_with "MY here" => ((refine' Here.mk ⟨_, ?h1⟩ ?h2 ?h3 ?h4 ⟨_, _, _, ?h5⟩ ?h6 ?h7 ?h8 ?h9 ?h10 ?h11; (case h6 => exact rfl); (case h1 => k_asm); (case h2 => k_asm); (case h3 => k_asm); (case h4 => k_asm); (case h5 => k_asm); (case h7 => first | exact rfl | assumption); (case h8 => first | exact rfl | assumption); (case h9 => exact rfl); (case h10 => walk_at "MY room"); (case h11 => walk_at "MY units")))
  k_with "MY sub" => ((intro p'_k hp'_k; first | exact hp'_k | (repeat (first | exact hp'_k | refine List.Mem.tail _ ?_))))
  k_with "MY fresh" => (first | assumption | (refine lt_of_all ?_; first | assumption | exact And.right (by assumption) | exact And.right (And.right (by assumption)) | exact And.right (And.right (And.right (by assumption))) | exact And.right (And.right (And.right (And.right (by assumption)))) | exact And.right (And.right (And.right (And.right (And.right (by assumption))))) | exact And.right (And.right (And.right (And.right (And.right (And.right (by assumption)))))) | exact And.right (And.right (And.right (And.right (And.right (And.right (And.right (by assumption)))))))))
  k_with "MY enterG" => ((refine wpAny_call ?_; k_dflt (refine' code_defG ?k1 ?k2 ?k3 ?k4 ?k5 ?kA ?kF ?kK ?k6 ?k7 ?k8 ?k9 ?kB ?_ ?c2 ?c3 ?c4 ?c5; (case kA => exact rfl); (case kF => first | exact rfl | assumption); (case kK => first | exact rfl | assumption); (case k1 => k_asm); (case k2 => k_asm); (case k3 => k_asm); (case k4 => k_asm); (case k5 => k_asm); (case k6 => k_is); (case k7 => k_is); (case k8 => walk_at "MY room"); (case k9 => exact BindsTo.of_eq rfl); (case c5 => decide); (case kB => exact locs rfl); (case c2 => exact rfl); (case c3 => exact rfl); (case c4 => exact rfl); k_whole; intro g'_k L'_k h'_k FG'_k F'_k N'_k B'_k X'_k T'_k kG'_k; (try dsimp only); (try k_lift B'_k); (try k_fold))))
  k_with "MY kept" => ((rename GSub _ _ _ => kG9_k; exact elt_after (InElt.start _) kG9_k (by assumption) (by assumption) (by assumption) (by walk_at "MY sub")))
  k_with "MY subr" => ((intro p'_k hp'_k; first | exact hp'_k | (repeat (first | exact hp'_k | exact List.mem_append_left _ hp'_k | exact List.mem_append_right _ hp'_k | refine List.Mem.tail _ ?_))))
  k_with "MY same" => ((intro z_k h1_k h2_k h3_k; first
      | rfl
      | ((try simp only [List.contains_cons, List.contains_nil, Bool.or_false, Bool.or_eq_false_iff, beq_eq_false_iff_ne, ne_eq] at h3_k); (simp [h1_k, h2_k, h3_k]; done))))
  k_with "MY enterC" => ((refine wpAny_call ?_; k_dflt (refine' code_defC ?k1 ?k2 ?k3 ?k4 ?k5 ?kA ?kF ?kK ?k6 ?k7 ?k8 ?k9 ?kB ?kD ?_ ?c2 ?c3 ?c4; (case kA => exact rfl); (case kF => first | exact rfl | assumption); (case kK => first | exact rfl | assumption); (case k1 => k_asm); (case k2 => k_asm); (case k3 => k_asm); (case k4 => k_asm); (case k5 => k_asm); (case k6 => k_is); (case k7 => k_is); (case k8 => walk_at "MY room"); (case k9 => exact BindsTo.of_eq rfl); (case kB => exact rfl); (case kD => decide +kernel); (case c2 => exact rfl); (case c3 => exact rfl); (case c4 => exact rfl); k_whole; intro g'_k L'_k h'_k tk'_k cells'_k FG'_k F'_k N'_k Y'_k B'_k X'_k T'_k l1_k; (try k_lt l1_k); k_cells Y'_k; (try simp only [List.cons_append, List.nil_append] at N'_k); (try dsimp only); (try k_lift B'_k); (try k_fold))))
  k_with "MY enterT" => ((refine wpAny_call ?_; k_dflt (refine' code_defT ?k1 ?k2 ?k3 ?k4 ?k5 ?kA ?kF ?kK ?k6 ?k7 ?k8 ?k9 ?kB ?_ ?c2 ?c3 ?c4 ?c5; (case kA => exact rfl); (case kF => first | exact rfl | assumption); (case kK => first | exact rfl | assumption); (case k1 => k_asm); (case k2 => k_asm); (case k3 => k_asm); (case k4 => k_asm); (case k5 => k_asm); (case k6 => k_is); (case k7 => k_is); (case k8 => walk_at "MY room"); (case k9 => exact BindsTo.of_eq rfl); (case c5 => decide); (case kB => exact locs rfl); (case c2 => exact rfl); (case c3 => exact rfl); (case c4 => exact rfl); k_whole; intro g'_k L'_k h'_k FG'_k F'_k N'_k B'_k X'_k T'_k; (try dsimp only); (try k_lift B'_k); (try k_fold))))
  trivial
theorem fmod_bounds (x y : Int) (h : 0 < y) : 0 ≤ x.fmod y ∧ x.fmod y < y := by
  k_with "MY body" =>
    rw [Int.fmod_eq_emod_of_nonneg _ (Int.le_of_lt h)]
    exact ⟨Int.emod_nonneg _ (Int.ne_of_gt h), Int.emod_lt_of_pos _ h⟩
  run_tac go
theorem news_swap {h₀ h : Heap} {L : Addr} {x p q : Addr × Obj} {r : List (Addr × Obj)} (N : News h₀ L h (x :: p :: q :: r)) : News h₀ L h (p :: q :: x :: r) := fun z hz => N z (by
  rcases List.mem_cons.mp hz with e | hz
  · rw [e]; exact .tail _ (.head _)
  rcases List.mem_cons.mp hz with e | hz
  · rw [e]; exact .tail _ (.tail _ (.head _))
  rcases List.mem_cons.mp hz with e | hz
  · rw [e]; exact .head _
  · exact .tail _ (.tail _ (.tail _ hz)))
theorem draw_fin {Q : Value → Shared → Prop} {z y : Int} {tv : Tok} {st : Shared} (hy : 0 < y) (h : ∀ v : Nat, (v : Int) < y → Q (.int v tv) st) : Q (.int (z.fmod y) tv) st := by
  k_with "MY body" =>
    have q2 := fmod_bounds z y hy
    obtain ⟨v, hv⟩ := Int.eq_ofNat_of_zero_le q2.1
    rw [hv]
    exact h v (by rw [← hv]; exact q2.2)
  run_tac go
theorem news_drop1 {h₀ h : Heap} {L : Addr} {x : Addr × Obj} {r : List (Addr × Obj)} (N : News h₀ L h (x :: r)) : News h₀ L h r := fun p hp => N p (.tail _ hp)
local macro_rules | `(tactic| k_all) => `(tactic| assumption)
section
variable {w : World} {A : Around} {h₀ : Heap} {L : Addr} {m : Str → Option Value} {s : Shared} {news : List (Addr × Obj)} {base : Heap} {env : Env} {outer : List Env} {Q E : Value → Shared → Prop}
set_option maxRecDepth 100000 in
set_option maxHeartbeats 8000000 in
theorem draw1_ok (P Sc : Addr) (x c : Int) (t u : Tok) (np n : Nat) (vs : List Value) (ns : List Int) (hI : IntsAre vs ns) (hl : ns.length ≤ 24) (y : Int) (ty : Tok) (hy : 0 < y) (hy2 : y ≤ 1114112) (hx : 0 ≤ x ∧ x < 2147483647) (hc : 0 ≤ c ∧ c ≤ 1000000) (hne : @Ne Nat P Sc) (hnP : ∀ p ∈ news, p.1 ≠ P)
    (H : Here w A h₀ L m s ((P, listOf #[.int x t, .ref Sc, .int c u] np) :: (Sc, listOf (List.toArray vs) n) :: news) base env outer 10)
    (ret : ∀ (v : Nat) tv h' tk' x' t' u', (v : Int) < y → 0 ≤ x' → x' < 2147483647 → Fr h₀ L h' m → News h₀ L h' ((P, listOf #[.int x' t', .ref Sc, .int (c + 1) u'] np) :: (Sc, listOf (List.toArray vs) n) :: news) → Q (.int v tv) { s with heap := h', toks := tk' }) :
    wpAny (model PySem.Challenge.rw_nt0345_01.row.prog w) A (call (.ref 157) [.ref P, .int y ty]) Q E s := by
  k_with "MY body" =>
    refine H.lit (P := fun A => wpAny _ A _ _ _ _) ?_
    k_fill
    clear H
    intro dp un gd A₀ mean mg mb B F X N T loc kind room units
    rcases List.eq_nil_or_concat ns with hn | hn
    · subst hn
      have h0 := hI.length
      walk_at "MY enter"
      k_steps
      all_goals first
      | (exfalso
         have q : decide (ns = []) = true := by assumption
         rw [decide_eq_true_eq] at q
         rw [q] at h0; exact absurd h0 (by decide))
      | (refine draw_fin hy fun v hv => ret v _ _ _ _ _ _ hv (fmod_bounds _ _ (by decide)).1 (fmod_bounds _ _ (by decide)).2 (by k_asm) (news_drop1 (by k_asm)))
    · have h0 : 0 < ns.length := by
        obtain ⟨l, b, e⟩ := hn
        rw [e]; simp
      walk_at "MY enter"
      k_steps
      all_goals first
      | (exfalso
         have q : decide (ns = []) = true := by assumption
         rw [decide_eq_true_eq] at q
         rw [q] at h0; exact absurd h0 (by decide))
      | (refine draw_fin hy fun v hv => ret v _ _ _ _ _ _ hv (fmod_bounds _ _ (by decide)).1 (fmod_bounds _ _ (by decide)).2 (by k_asm) (news_drop1 (by k_asm)))
  run_tac go
def PoolO (Sc : Addr) (k : Int) (o : Obj) : Prop := ∃ x c t u np, o = listOf #[.int x t, .ref Sc, .int c u] np ∧ (0 ≤ x ∧ x < 2147483647) ∧ 0 ≤ c ∧ c ≤ k
def ScrO (o : Obj) : Prop := ∃ vs ns n, o = listOf (List.toArray vs) n ∧ IntsAre vs ns ∧ ns.length ≤ 24
theorem draw_ok (P Sc : Addr) (oP oS : Obj) (k : Int) (y : Int) (ty : Tok) (H : Here w A h₀ L m s ((P, oP) :: (Sc, oS) :: news) base env outer 10) (hP : PoolO Sc k oP) (hS : ScrO oS) (hk : k ≤ 1000000) (hy : 0 < y) (hy2 : y ≤ 1114112) (hne : @Ne Nat P Sc) (hnP : ∀ p ∈ news, p.1 ≠ P)
    (ret : ∀ (v : Nat) tv h' tk' oP', (v : Int) < y → PoolO Sc (k + 1) oP' → Fr h₀ L h' m → News h₀ L h' ((P, oP') :: (Sc, oS) :: news) → Q (.int v tv) { s with heap := h', toks := tk' }) :
    wpAny (model PySem.Challenge.rw_nt0345_01.row.prog w) A (call (.ref 157) [.ref P, .int y ty]) Q E s := by
  k_with "MY body" =>
    obtain ⟨x, c, t, u, np, rfl, hx, hc0, hck⟩ := hP
    obtain ⟨vs, ns, n, rfl, hI, hl⟩ := hS
    refine draw1_ok P Sc x c t u np n vs ns hI hl y ty hy hy2 hx ⟨hc0, Int.le_trans hck hk⟩ hne hnP H ?_
    intro v tv h' tk' x' t' u' hv h0 h1 F' N'
    exact ret v tv h' tk' _ hv ⟨x', c + 1, t', u', np, rfl, ⟨h0, h1⟩, by omega, by omega⟩ F' N'
  run_tac go
end

end
section
theorem kw_L4 : True := by
  w_top off
  k_with_none
  k_with "MY room" => (first
      | ((try simp only [depth_under_make, depth_under_kw, depth_in1, depth_deeper, depth_caller, Around.mark]); (try dsimp only); omega)
      | ((try simp only [depth_under_make, depth_under_kw, depth_in1, depth_deeper, depth_caller, Around.mark]); (try dsimp only); simp only [recursionLimit] at *; omega))
  k_with "MY units" => ((have hcL9_k := cLine_is; (try simp only [units_in1, units_deeper, Around.mark_units, units_caller]); (try dsimp only); omega))
  k_with "MY enter" => ((refine wpAny_call ?_; k_dflt (refine' code_def ?k1 ?k2 ?k3 ?k4 ?k5 ?kA ?kF ?kK ?k6 ?k7 ?k8 ?k9 ?kB ?_ ?c2 ?c3 ?c4 ?c5; (case kA => exact rfl); (case kF => first | exact rfl | assumption); (case kK => first | exact rfl | assumption); (case k1 => k_asm); (case k2 => k_asm); (case k3 => k_asm); (case k4 => k_asm); (case k5 => k_asm); (case k6 => k_is); (case k7 => k_is); (case k8 => walk_at "MY room"); (case k9 => exact BindsTo.of_eq rfl); (case c5 => decide); (case kB => exact locs rfl); (case c2 => exact rfl); (case c3 => exact rfl); (case c4 => exact rfl); k_whole; intro g'_k L'_k h'_k FG'_k F'_k N'_k B'_k X'_k T'_k; (try dsimp only); (try k_lift B'_k); (try k_fold))))
  k_with "MY here" => ((refine' Here.mk ⟨_, ?h1⟩ ?h2 ?h3 ?h4 ⟨_, _, _, ?h5⟩ ?h6 ?h7 ?h8 ?h9 ?h10 ?h11; (case h6 => exact rfl); (case h1 => k_asm); (case h2 => k_asm); (case h3 => k_asm); (case h4 => k_asm); (case h5 => k_asm); (case h7 => first | exact rfl | assumption); (case h8 => first | exact rfl | assumption); (case h9 => exact rfl); (case h10 => walk_at "MY room"); (case h11 => walk_at "MY units")))
  k_with "MY sub" => ((intro p'_k hp'_k; first | exact hp'_k | (repeat (first | exact hp'_k | refine List.Mem.tail _ ?_))))
  k_with "MY fresh" => (first | assumption | (refine lt_of_all ?_; first | assumption | exact And.right (by assumption) | exact And.right (And.right (by assumption)) | exact And.right (And.right (And.right (by assumption))) | exact And.right (And.right (And.right (And.right (by assumption)))) | exact And.right (And.right (And.right (And.right (And.right (by assumption))))) | exact And.right (And.right (And.right (And.right (And.right (And.right (by assumption)))))) | exact And.right (And.right (And.right (And.right (And.right (And.right (And.right (by assumption)))))))))
  k_with "MY enterG" => ((refine wpAny_call ?_; k_dflt (refine' code_defG ?k1 ?k2 ?k3 ?k4 ?k5 ?kA ?kF ?kK ?k6 ?k7 ?k8 ?k9 ?kB ?_ ?c2 ?c3 ?c4 ?c5; (case kA => exact rfl); (case kF => first | exact rfl | assumption); (case kK => first | exact rfl | assumption); (case k1 => k_asm); (case k2 => k_asm); (case k3 => k_asm); (case k4 => k_asm); (case k5 => k_asm); (case k6 => k_is); (case k7 => k_is); (case k8 => walk_at "MY room"); (case k9 => exact BindsTo.of_eq rfl); (case c5 => decide); (case kB => exact locs rfl); (case c2 => exact rfl); (case c3 => exact rfl); (case c4 => exact rfl); k_whole; intro g'_k L'_k h'_k FG'_k F'_k N'_k B'_k X'_k T'_k kG'_k; (try dsimp only); (try k_lift B'_k); (try k_fold))))
  k_with "MY kept" => ((rename GSub _ _ _ => kG9_k; exact elt_after (InElt.start _) kG9_k (by assumption) (by assumption) (by assumption) (by walk_at "MY sub")))
  k_with "MY subr" => ((intro p'_k hp'_k; first | exact hp'_k | (repeat (first | exact hp'_k | exact List.mem_append_left _ hp'_k | exact List.mem_append_right _ hp'_k | refine List.Mem.tail _ ?_))))
  k_with "MY same" => ((intro z_k h1_k h2_k h3_k; first
      | rfl
      | ((try simp only [List.contains_cons, List.contains_nil, Bool.or_false, Bool.or_eq_false_iff, beq_eq_false_iff_ne, ne_eq] at h3_k); (simp [h1_k, h2_k, h3_k]; done))))
  k_with "MY enterC" => ((refine wpAny_call ?_; k_dflt (refine' code_defC ?k1 ?k2 ?k3 ?k4 ?k5 ?kA ?kF ?kK ?k6 ?k7 ?k8 ?k9 ?kB ?kD ?_ ?c2 ?c3 ?c4; (case kA => exact rfl); (case kF => first | exact rfl | assumption); (case kK => first | exact rfl | assumption); (case k1 => k_asm); (case k2 => k_asm); (case k3 => k_asm); (case k4 => k_asm); (case k5 => k_asm); (case k6 => k_is); (case k7 => k_is); (case k8 => walk_at "MY room"); (case k9 => exact BindsTo.of_eq rfl); (case kB => exact rfl); (case kD => decide +kernel); (case c2 => exact rfl); (case c3 => exact rfl); (case c4 => exact rfl); k_whole; intro g'_k L'_k h'_k tk'_k cells'_k FG'_k F'_k N'_k Y'_k B'_k X'_k T'_k l1_k; (try k_lt l1_k); k_cells Y'_k; (try simp only [List.cons_append, List.nil_append] at N'_k); (try dsimp only); (try k_lift B'_k); (try k_fold))))
  k_with "MY enterT" => ((refine wpAny_call ?_; k_dflt (refine' code_defT ?k1 ?k2 ?k3 ?k4 ?k5 ?kA ?kF ?kK ?k6 ?k7 ?k8 ?k9 ?kB ?_ ?c2 ?c3 ?c4 ?c5; (case kA => exact rfl); (case kF => first | exact rfl | assumption); (case kK => first | exact rfl | assumption); (case k1 => k_asm); (case k2 => k_asm); (case k3 => k_asm); (case k4 => k_asm); (case k5 => k_asm); (case k6 => k_is); (case k7 => k_is); (case k8 => walk_at "MY room"); (case k9 => exact BindsTo.of_eq rfl); (case c5 => decide); (case kB => exact locs rfl); (case c2 => exact rfl); (case c3 => exact rfl); (case c4 => exact rfl); k_whole; intro g'_k L'_k h'_k FG'_k F'_k N'_k B'_k X'_k T'_k; (try dsimp only); (try k_lift B'_k); (try k_fold))))
  k_with "MY hereP" => ((refine' Here.mk ⟨_, ?h1⟩ ?h2 ?h3 ?h4 ⟨_, _, _, ?h5⟩ ?h6 ?h7 ?h8 ?h9 ?h10 ?h11; (case h6 => exact rfl); (case h1 => k_asm); (case h2 => k_asm); (case h3 => k_asm); (case h4 => first | k_asm | exact news_swap (by k_asm)); (case h5 => k_asm); (case h7 => first | exact rfl | assumption); (case h8 => first | exact rfl | assumption); (case h9 => exact rfl); (case h10 => walk_at "MY room"); (case h11 => walk_at "MY units")))
  k_with "MY num" => (first | omega | with_reducible assumption | decide)
  k_with "call ref" => (((with_reducible show wpAny _ _ (call (Value.ref 157) _) _ _ _); refine' draw_ok _ _ _ _ _ _ _ ?hH9 ?hp9 ?hs9 ?hk9 ?hy9 ?hz9 ?hn9 ?hq9 ?_; (case hH9 => walk_at "MY hereP"); (case hp9 => assumption); (case hs9 => assumption); (case hk9 => walk_at "MY num"); (case hy9 => walk_at "MY num"); (case hz9 => walk_at "MY num"); (case hn9 => assumption); (case hq9 => k_all); intro v'_k tv'_k h'_k tk'_k o'_k hv'_k hP'_k F'_k N'_k; (try dsimp only); (try k_fold)))
  trivial
local macro_rules | `(tactic| k_all) => `(tactic| assumption)
section
variable {w : World} {A : Around} {h₀ : Heap} {L : Addr} {m : Str → Option Value} {s : Shared} {news : List (Addr × Obj)} {base : Heap} {env : Env} {outer : List Env} {Q E : Value → Shared → Prop}
/-- a sign that the law draws: one or two units -/
def SignT (x : Str) : Prop := ∃ l, x = S l ∧ 1 ≤ l.length ∧ l.length ≤ 2 ∧ ∀ c ∈ l, c ≤ 65535
theorem item_sign {x : Str} (n : Nat) (hx : x.cps.toList.all (fun c => decide (c ≤ 65535)) = true) (hl : x.length = n) {v : Nat} (hv : (v : Int) < n) : SignT (Txt.item x v) := by
  k_with "MY body" =>
    have hlt : v < x.cps.toList.length := by rw [Array.length_toList]; have : x.cps.size = n := hl; omega
    refine ⟨[x.cps.toList[v]], ?_, by simp, by simp, fun c hc => ?_⟩
    · exact (congrArg (fun z => Txt.item z (v : Int)) (S_of x)).trans (item_S rfl (List.getElem?_eq_getElem hlt))
    · rw [List.mem_singleton.mp hc]
      exact of_decide_eq_true (List.all_eq_true.mp hx _ (List.getElem_mem hlt))
  run_tac go
theorem pool_up {Sc : Addr} {j k : Int} {o : Obj} (h : PoolO Sc j o) (hk : j ≤ k) : PoolO Sc k o := by
  k_with "MY body" =>
    obtain ⟨x, c, t, u, np, e, hx, h0, hc⟩ := h
    exact ⟨x, c, t, u, np, e, hx, h0, Int.le_trans hc hk⟩
  run_tac go
theorem chr_sign {x : Int} (h0 : 0 ≤ x) (h : x ≤ 65535) : SignT ⟨#[x.toNat]⟩ := ⟨[x.toNat], rfl, by simp, by simp, fun c hc => by rw [List.mem_singleton.mp hc]; omega⟩
theorem chr_sign2 {x y : Int} (h : x ≤ 65535) (g : y ≤ 65535) : SignT ((⟨#[x.toNat]⟩ : Str) ++ (⟨#[y.toNat]⟩ : Str)) := ⟨[x.toNat, y.toNat], S_app [_] [_], by simp, by simp, fun c hc => by
  rcases List.mem_cons.mp hc with e | hc
  · rw [e]; omega
  · rw [List.mem_singleton.mp hc]; omega⟩
theorem news_sub3 {p q x : Addr × Obj} {r : List (Addr × Obj)} : ∀ z ∈ p :: q :: r, z ∈ p :: q :: x :: r := fun z hz => by
  rcases List.mem_cons.mp hz with e | hz
  · rw [e]; exact .head _
  rcases List.mem_cons.mp hz with e | hz
  · rw [e]; exact .tail _ (.head _)
  · exact .tail _ (.tail _ (.tail _ hz))
theorem getD_bd {l : List Int} (h : ∀ x ∈ l, 0 ≤ x ∧ x ≤ 65535) (i : Nat) : 0 ≤ l.getD i 0 ∧ l.getD i 0 ≤ 65535 := by
  k_with "MY body" =>
    rw [List.getD_eq_getElem?_getD]
    cases e : l[i]? with
    | none => exact ⟨by simp, by simp⟩
    | some z => exact h z (List.mem_of_getElem? e)
  run_tac go
theorem menu_at {v a b : Nat} (_ : (v : Int) < 9) (h1 : (a : Int) < 8192) (h2 : (b : Int) < 55168) : 0 ≤ ([128, 255, 2047, 2048, 8364, 65535, 55295, 57344 + (a : Int), 128 + (b : Int)] : List Int).getD (v : Int).toNat 0 ∧ ([128, 255, 2047, 2048, 8364, 65535, 55295, 57344 + (a : Int), 128 + (b : Int)] : List Int).getD (v : Int).toNat 0 ≤ 65535 := by
  k_with "MY body" =>
    refine getD_bd ?_ _
    intro x hx
    simp only [List.mem_cons, List.not_mem_nil, or_false] at hx
    omega
  run_tac go
set_option maxRecDepth 100000 in
set_option maxHeartbeats 8000000 in
theorem lsign_ok (P Sc : Addr) (oP oS : Obj) (k : Int) (H : Here w A h₀ L m s ((P, oP) :: (Sc, oS) :: news) base env outer 11) (hP : PoolO Sc k oP) (hS : ScrO oS) (hk : k ≤ 900000) (hne : @Ne Nat P Sc) (hnP : ∀ p ∈ news, p.1 ≠ P)
    (ret : ∀ v h' tk' oP', (∃ x t, v = .str x t ∧ SignT x) → PoolO Sc (k + 4) oP' → Fr h₀ L h' m → News h₀ L h' ((P, oP') :: (Sc, oS) :: news) → Q v { s with heap := h', toks := tk' }) :
    wpAny (model PySem.Challenge.rw_nt0345_01.row.prog w) A (call (.ref 164) [.ref P]) Q E s := by
  k_with "MY body" =>
    refine H.lit (P := fun A => wpAny _ A _ _ _ _) ?_
    k_fill
    clear H
    intro dp un gd A₀ mean mg mb B F X N T loc kind room units
    walk_at "MY enter"
    k_steps
    · exact ret _ _ _ _ ⟨_, _, rfl, item_sign 71 (by decide +kernel) (by decide +kernel) (by assumption)⟩ (pool_up (by assumption) (by omega)) (by k_asm) (by k_asm)
    · exact ret _ _ _ _ ⟨_, _, rfl, item_sign 11 (by decide +kernel) (by decide +kernel) (by assumption)⟩ (pool_up (by assumption) (by omega)) (by k_asm) (by k_asm)
    · exact ret _ _ _ _ ⟨_, _, rfl, item_sign 14 (by decide +kernel) (by decide +kernel) (by assumption)⟩ (pool_up (by assumption) (by omega)) (by k_asm) (by k_asm)
    · (rename (_ : Int) < 9 => g0)
      (with_reducible rename (_ : Int) < 8192 => g1)
      (with_reducible rename (_ : Int) < 55168 => g2)
      have hm := menu_at g0 g1 g2
      k_steps
      all_goals exact ret _ _ _ _ ⟨_, _, rfl, chr_sign hm.1 hm.2⟩ (pool_up (by assumption) (by omega)) (by k_asm) (cb_drop (by k_asm) (news_sub3))
    · exact ret _ _ _ _ ⟨_, _, rfl, chr_sign2 (by omega) (by omega)⟩ (pool_up (by assumption) (by omega)) (by k_asm) (by k_asm)
    · exact ret _ _ _ _ ⟨_, _, rfl, chr_sign (by omega) (by omega)⟩ (pool_up (by assumption) (by omega)) (by k_asm) (by k_asm)
  run_tac go
end

end
section
theorem kw_L5 : True := by
  w_top off
  k_with_none
  k_with "MY room" => (first
      | ((try simp only [depth_under_make, depth_under_kw, depth_in1, depth_deeper, depth_caller, Around.mark]); (try dsimp only); omega)
      | ((try simp only [depth_under_make, depth_under_kw, depth_in1, depth_deeper, depth_caller, Around.mark]); (try dsimp only); simp only [recursionLimit] at *; omega))
  k_with "MY units" => ((have hcL9_k := cLine_is; (try simp only [units_in1, units_deeper, Around.mark_units, units_caller]); (try dsimp only); omega))
  k_with "MY enter" => ((refine wpAny_call ?_; k_dflt (refine' code_def ?k1 ?k2 ?k3 ?k4 ?k5 ?kA ?kF ?kK ?k6 ?k7 ?k8 ?k9 ?kB ?_ ?c2 ?c3 ?c4 ?c5; (case kA => exact rfl); (case kF => first | exact rfl | assumption); (case kK => first | exact rfl | assumption); (case k1 => k_asm); (case k2 => k_asm); (case k3 => k_asm); (case k4 => k_asm); (case k5 => k_asm); (case k6 => k_is); (case k7 => k_is); (case k8 => walk_at "MY room"); (case k9 => exact BindsTo.of_eq rfl); (case c5 => decide); (case kB => exact locs rfl); (case c2 => exact rfl); (case c3 => exact rfl); (case c4 => exact rfl); k_whole; intro g'_k L'_k h'_k FG'_k F'_k N'_k B'_k X'_k T'_k; (try dsimp only); (try k_lift B'_k); (try k_fold))))
  k_with "MY here" => ((refine' Here.mk ⟨_, ?h1⟩ ?h2 ?h3 ?h4 ⟨_, _, _, ?h5⟩ ?h6 ?h7 ?h8 ?h9 ?h10 ?h11; (case h6 => exact rfl); (case h1 => k_asm); (case h2 => k_asm); (case h3 => k_asm); (case h4 => k_asm); (case h5 => k_asm); (case h7 => first | exact rfl | assumption); (case h8 => first | exact rfl | assumption); (case h9 => exact rfl); (case h10 => walk_at "MY room"); (case h11 => walk_at "MY units")))
  k_with "MY sub" => ((intro p'_k hp'_k; first | exact hp'_k | (repeat (first | exact hp'_k | refine List.Mem.tail _ ?_))))
  k_with "MY fresh" => (first | assumption | (refine lt_of_all ?_; first | assumption | exact And.right (by assumption) | exact And.right (And.right (by assumption)) | exact And.right (And.right (And.right (by assumption))) | exact And.right (And.right (And.right (And.right (by assumption)))) | exact And.right (And.right (And.right (And.right (And.right (by assumption))))) | exact And.right (And.right (And.right (And.right (And.right (And.right (by assumption)))))) | exact And.right (And.right (And.right (And.right (And.right (And.right (And.right (by assumption)))))))))
  k_with "MY enterG" => ((refine wpAny_call ?_; k_dflt (refine' code_defG ?k1 ?k2 ?k3 ?k4 ?k5 ?kA ?kF ?kK ?k6 ?k7 ?k8 ?k9 ?kB ?_ ?c2 ?c3 ?c4 ?c5; (case kA => exact rfl); (case kF => first | exact rfl | assumption); (case kK => first | exact rfl | assumption); (case k1 => k_asm); (case k2 => k_asm); (case k3 => k_asm); (case k4 => k_asm); (case k5 => k_asm); (case k6 => k_is); (case k7 => k_is); (case k8 => walk_at "MY room"); (case k9 => exact BindsTo.of_eq rfl); (case c5 => decide); (case kB => exact locs rfl); (case c2 => exact rfl); (case c3 => exact rfl); (case c4 => exact rfl); k_whole; intro g'_k L'_k h'_k FG'_k F'_k N'_k B'_k X'_k T'_k kG'_k; (try dsimp only); (try k_lift B'_k); (try k_fold))))
  k_with "MY kept" => ((rename GSub _ _ _ => kG9_k; exact elt_after (InElt.start _) kG9_k (by assumption) (by assumption) (by assumption) (by walk_at "MY sub")))
  k_with "MY subr" => ((intro p'_k hp'_k; first | exact hp'_k | (repeat (first | exact hp'_k | exact List.mem_append_left _ hp'_k | exact List.mem_append_right _ hp'_k | refine List.Mem.tail _ ?_))))
  k_with "MY same" => ((intro z_k h1_k h2_k h3_k; first
      | rfl
      | ((try simp only [List.contains_cons, List.contains_nil, Bool.or_false, Bool.or_eq_false_iff, beq_eq_false_iff_ne, ne_eq] at h3_k); (simp [h1_k, h2_k, h3_k]; done))))
  k_with "MY enterC" => ((refine wpAny_call ?_; k_dflt (refine' code_defC ?k1 ?k2 ?k3 ?k4 ?k5 ?kA ?kF ?kK ?k6 ?k7 ?k8 ?k9 ?kB ?kD ?_ ?c2 ?c3 ?c4; (case kA => exact rfl); (case kF => first | exact rfl | assumption); (case kK => first | exact rfl | assumption); (case k1 => k_asm); (case k2 => k_asm); (case k3 => k_asm); (case k4 => k_asm); (case k5 => k_asm); (case k6 => k_is); (case k7 => k_is); (case k8 => walk_at "MY room"); (case k9 => exact BindsTo.of_eq rfl); (case kB => exact rfl); (case kD => decide +kernel); (case c2 => exact rfl); (case c3 => exact rfl); (case c4 => exact rfl); k_whole; intro g'_k L'_k h'_k tk'_k cells'_k FG'_k F'_k N'_k Y'_k B'_k X'_k T'_k l1_k; (try k_lt l1_k); k_cells Y'_k; (try simp only [List.cons_append, List.nil_append] at N'_k); (try dsimp only); (try k_lift B'_k); (try k_fold))))
  k_with "MY enterT" => ((refine wpAny_call ?_; k_dflt (refine' code_defT ?k1 ?k2 ?k3 ?k4 ?k5 ?kA ?kF ?kK ?k6 ?k7 ?k8 ?k9 ?kB ?_ ?c2 ?c3 ?c4 ?c5; (case kA => exact rfl); (case kF => first | exact rfl | assumption); (case kK => first | exact rfl | assumption); (case k1 => k_asm); (case k2 => k_asm); (case k3 => k_asm); (case k4 => k_asm); (case k5 => k_asm); (case k6 => k_is); (case k7 => k_is); (case k8 => walk_at "MY room"); (case k9 => exact BindsTo.of_eq rfl); (case c5 => decide); (case kB => exact locs rfl); (case c2 => exact rfl); (case c3 => exact rfl); (case c4 => exact rfl); k_whole; intro g'_k L'_k h'_k FG'_k F'_k N'_k B'_k X'_k T'_k; (try dsimp only); (try k_lift B'_k); (try k_fold))))
  trivial
theorem kw_L5_1 : True := by
  k_with "MY body" =>
    k_with "exec While" => (refine halt_in ?_)
    trivial
  run_tac go
/-- the end of a turn of a while that turns one int and one list of ints -/
def EndI (s : Shared) (h₀ : Heap) (L a : Addr) (nI : Str) (news : List (Addr × Obj)) (stored : List Str) (m₀ : Str → Option Value) (P : Int → List Int → Prop) (lid : Nat) (μ : Int → Nat) (s₃ : Shared) : Prop :=
  ∃ i' ti' vs' found' n' h' tk' m' news', s₃ = { s with heap := h', toks := tk' } ∧ Fr h₀ L h' m' ∧ News h₀ L h' news' ∧ (a, listOf vs' n') ∈ news' ∧ (∀ p ∈ news, p ∈ news') ∧ IntsAre vs'.toList found' ∧ m' nI = some (.int i' ti') ∧ (∀ z, z ≠ nI → stored.contains z = false → m' z = m₀ z) ∧ P i' found' ∧ μ i' < lid
theorem endI {s : Shared} {h₀ : Heap} {L a : Addr} {nI : Str} {news : List (Addr × Obj)} {stored : List Str} {m₀ : Str → Option Value} {P : Int → List Int → Prop} {lid : Nat} {μ : Int → Nat} {i' : Int} {ti' : Tok} {vs' : Array Value} {found' : List Int} {n' : Nat} {h' : Heap} {tk' : Nat} {m' : Str → Option Value} {news' : List (Addr × Obj)}
    (F : Fr h₀ L h' m') (N : News h₀ L h' news') (hm : (a, listOf vs' n') ∈ news') (sub : ∀ p ∈ news, p ∈ news') (hk : m' nI = some (.int i' ti')) (hr : ∀ z, z ≠ nI → stored.contains z = false → m' z = m₀ z) (hs : IntsAre vs'.toList found') (hp : P i' found') (hl : μ i' < lid) :
    EndI s h₀ L a nI news stored m₀ P lid μ { s with heap := h', toks := tk' } := ⟨i', ti', vs', found', n', h', tk', m', news', rfl, F, N, hm, sub, hs, hk, hr, hp, hl⟩
theorem while_ints {prog : Program} {w : World} {A : Around} {E : Value → Shared → Prop} {Q : Flow → Shared → Prop} {s : Shared} {env : Env} {h₀ : Heap} {L a : Addr} {test : PySem.Expr} {body : List Stmt} {pos : Pos} {m₀ : Str → Option Value} {news : List (Addr × Obj)}
    (nI : Str) (stored : List Str) (P : Int → List Int → Prop) (μ : Int → Nat) {i₀ : Int} {t₀ : Tok} {n₀ : Nat}
    (F : Fr h₀ L s.heap m₀) (N : News h₀ L s.heap ((a, listOf #[] n₀) :: news)) (hk : m₀ nI = some (.int i₀ t₀)) (hp : P i₀ [])
    (turn : ∀ (i : Int) (ti : Tok) (vs : List Value) (found : List Int) (n : Nat) (u : Str → Option Value) (h : Heap) (tk : Nat), IntsAre vs found → P i found → Fr h₀ L h (fun z => if z = nI then some (.int i ti) else if stored.contains z = true then u z else m₀ z) → News h₀ L h ((a, listOf vs.toArray n) :: news) →
      wpAny (model prog w) A (isTrue test env (eval test env)) (fun b s₂ => if b = true then wpAny (model prog w) A (execs body env) (fun f s₃ => match f with
          | .ret v => Q (.ret v) s₃
          | .brk => Q .next s₃
          | _ => EndI s h₀ L a nI news stored m₀ P (μ i) μ s₃) E s₂ else Q .next s₂) E { s with heap := h, toks := tk })
    (hE : PassesOwn (model prog w) A env E := by passes_own) : wpAny (model prog w) A (exec (.While test body [] pos) env) Q E s := by
  k_with "MY body" =>
    refine ksw_while (σ := Int × Nat × List Value × List Int × Nat) (fun c => (a, listOf c.2.2.1.toArray c.2.2.2.2) :: news) (fun c => [(nI, .int c.1 c.2.1)]) (fun c => IntsAre c.2.2.1 c.2.2.2.1) stored (fun c => P c.1 c.2.2.2.1) (fun c => μ c.1) (i₀, t₀, [], [], n₀)
      F N .nil (fun p hp => by rw [List.mem_singleton.mp hp]; exact hk) hp (fun c u h tk hf hP F' N' => ?_) hE
    refine wpAny_mono (turn c.1 c.2.1 c.2.2.1 c.2.2.2.1 c.2.2.2.2 u h tk hf hP F' N') (fun b s₂ hb => ?_) fun _ _ x => x
    cases b with
    | false => simpa using hb
    | true =>
      simp only [if_true] at hb ⊢
      refine wpAny_mono hb (fun f s₃ q => ?_) fun _ _ x => x
      have fin : EndI s h₀ L a nI news stored m₀ P (μ c.1) μ s₃ →
          KswEnd h₀ L s (fun (c : Int × Nat × List Value × List Int × Nat) => (a, listOf c.2.2.1.toArray c.2.2.2.2) :: news) (fun c => [(nI, .int c.1 c.2.1)]) (fun c => IntsAre c.2.2.1 c.2.2.2.1) stored m₀ (fun c => P c.1 c.2.2.2.1) (fun c => μ c.1) c s₃ := by
        rintro ⟨i', ti', vs', found', n', h', tk', m', news', e, F'', N'', h1, h2, h3, h4, h5, h6, h7⟩
        refine ⟨(i', ti', vs'.toList, found', n'), h', tk', m', news', e, F'', N'', fun p hp => ?_, h3, fun p hp => by rw [List.mem_singleton.mp hp]; exact h4, fun z hz hs => h5 z (hz _ (.head _)) hs, h6, h7⟩
        rcases List.mem_cons.mp hp with rfl | hp
        · simpa using h1
        · exact h2 p hp
      cases f with
      | ret v => exact q
      | brk => exact q
      | next => exact fin q
      | cont => exact fin q
  run_tac go
/-- the signs of a text; a half alone is -1 -/
def signsL : List Nat → List Int
  | [] => []
  | [u] => [if u / 2048 = 27 then -1 else (u : Int)]
  | u :: v :: r => if u / 1024 = 54 ∧ v / 1024 = 55 then ((65536 + u % 1024 * 1024 + v % 1024 : Nat) : Int) :: signsL r else (if u / 2048 = 27 then -1 else (u : Int)) :: signsL (v :: r)
def SigInv (l : List Nat) (i : Int) (found : List Int) : Prop := ∃ p r, l = p ++ r ∧ i = (p.length : Nat) ∧ found.length ≤ p.length ∧ signsL l = found ++ signsL r
theorem sig_start (l : List Nat) : SigInv l 0 [] := ⟨[], l, rfl, rfl, Nat.le_refl _, rfl⟩
theorem signsL_end_neg {c : Nat} (h : c / 2048 = 27) : signsL [c] = [-1] := by simp [signsL, h]
theorem signsL_end_pos {c : Nat} (h : ¬ c / 2048 = 27) : signsL [c] = [(c : Int)] := by simp [signsL, h]
theorem signsL_pair {c d : Nat} {r : List Nat} {x : Int} (h : c / 1024 = 54) (g : d / 1024 = 55) (hx : x = ((65536 + c % 1024 * 1024 + d % 1024 : Nat) : Int)) : signsL (c :: d :: r) = x :: signsL r := by rw [signsL, if_pos ⟨h, g⟩, hx]
theorem signsL_one {c d : Nat} {r : List Nat} (h : ¬ (c / 1024 = 54 ∧ d / 1024 = 55)) : signsL (c :: d :: r) = (if c / 2048 = 27 then -1 else (c : Int)) :: signsL (d :: r) := by rw [signsL, if_neg h]
theorem sig_one {l p : List Nat} {c : Nat} {r : List Nat} {i x : Int} {found : List Int} (hl : l = p ++ c :: r) (ha : i = (p.length : Nat)) (hn : found.length ≤ p.length) (he : signsL l = found ++ signsL (c :: r)) (h : signsL (c :: r) = x :: signsL r) : SigInv l (i + 1) (found ++ [x]) :=
  ⟨p ++ [c], r, by simp [hl], by rw [ha]; simp, by simp; omega, by rw [he, h]; simp⟩
theorem sig_two {l p : List Nat} {c d : Nat} {r : List Nat} {i x : Int} {found : List Int} (hl : l = p ++ c :: d :: r) (ha : i = (p.length : Nat)) (hn : found.length ≤ p.length) (he : signsL l = found ++ signsL (c :: d :: r)) (h : signsL (c :: d :: r) = x :: signsL r) : SigInv l (i + 1 + 1) (found ++ [x]) :=
  ⟨p ++ [c, d], r, by simp [hl], by rw [ha]; simp; omega, by simp; omega, by rw [he, h]; simp⟩
theorem ints_snocI {vs : List Value} {ns : List Int} (h : IntsAre vs ns) (n : Int) (t : Tok) : IntsAre (vs ++ [.int n t]) (ns ++ [n]) := by
  k_with "MY body" =>
    induction h with
    | nil => exact .cons _ _ .nil
    | cons x u _ ih => exact .cons x u ih
  run_tac go
theorem ints_push {vs : List Value} {ns : List Int} (h : IntsAre vs ns) (n : Int) (t : Tok) : IntsAre (vs.toArray.push (.int n t)).toList (ns ++ [n]) := by
  k_with "MY body" =>
    rw [Array.toList_push]; exact ints_snocI h n t
  run_tac go
section
variable {w : World} {A : Around} {h₀ : Heap} {L : Addr} {m : Str → Option Value} {s : Shared} {news : List (Addr × Obj)} {base : Heap} {env : Env} {outer : List Env} {Q E : Value → Shared → Prop}
set_option maxRecDepth 100000 in
set_option maxHeartbeats 8000000 in
theorem lsigns_ok (l : List Nat) (hz : l.length ≤ 1000) (hc : ∀ c ∈ l, c ≤ 65535) (t : Tok)
    (H : Here w A h₀ L m s news base env outer 2)
    (ret : ∀ v h' tk' a n vs, v = .ref a → Fr h₀ L h' m → News h₀ L h' ((a, listOf (List.toArray vs) n) :: news) → LCg.Off1 a news → IntsAre vs (signsL l) → Q v { s with heap := h', toks := tk' }) :
    wpAny (model PySem.Challenge.rw_nt0345_01.row.prog w) A (call (.ref 190) [.str (S l) t]) Q E s := by
  k_with "MY body" =>
    refine H.lit (P := fun A => wpAny _ A _ _ _ _) ?_
    k_fill
    clear H
    intro dp un gd A₀ mean mg mb B F X N T loc kind room units
    have hlen : (S l).length = l.length := S_len l
    walk_at "MY enter"
    k_steps
    refine Halt.out ?_
    rename Fr _ _ _ _ => F1
    rename News _ _ _ _ => N1
    refine while_ints (news := news) (Str.ofString "at") [Str.ofString "unit", Str.ofString "other"] (SigInv l) (fun i => l.length - i.toNat) F1 (news_pick N1 (.tail _ (.head _)) (by walk_at "MY sub")) rfl (sig_start l) ?_
    clear F1 N1
    intro i ti vs found n u' h1 tk1 hst hI F1 N1
    (try dsimp only)
    (try k_fold)
    obtain ⟨p, r, hl, ha, hn, he⟩ := hI
    have hvl : vs.length = found.length := hst.length
    cases r with
    | nil =>
      have hll : l.length = p.length := by rw [hl]; simp
      k_steps
      exact ret _ _ _ _ _ _ rfl (by k_asm) (news_pick (by k_asm) (.head _) (by walk_at "MY sub")) (off_of_lt (by assumption)) (by rw [he]; simpa [signsL] using hst)
    | cons c r =>
      have hx : Txt.item (S l) i = S [c] := item0 hl ha
      have hc0 : (Txt.item (S l) i).cps.getD 0 0 = c := by rw [hx]; rfl
      have hf1 : (((Txt.item (S l) i).cps.getD 0 0 : Nat) : Int).fdiv 1024 = ((c / 1024 : Nat) : Int) := by rw [hc0]; exact Int.fdiv_eq_ediv_of_nonneg _ (by decide)
      have hf2 : (((Txt.item (S l) i).cps.getD 0 0 : Nat) : Int).fdiv 2048 = ((c / 2048 : Nat) : Int) := by rw [hc0]; exact Int.fdiv_eq_ediv_of_nonneg _ (by decide)
      have hf3 : (((Txt.item (S l) i).cps.getD 0 0 : Nat) : Int).fmod 1024 = ((c % 1024 : Nat) : Int) := by rw [hc0]; exact Int.fmod_eq_emod_of_nonneg _ (by decide)
      cases r with
      | nil =>
        have hll : l.length = p.length + 1 := by rw [hl]; simp
        k_steps
        all_goals (dsimp only; refine endI (by k_asm) (by k_asm) (by k_mem) (by walk_at "MY sub") (by with_unfolding_all rfl) (by ksw_same) (ints_push hst _ _) (sig_one hl ha hn he (by first | rw [signsL_end_neg (by omega)]; rfl | rw [signsL_end_pos (by omega), hc0]; rfl)) (by omega))
      | cons d r =>
        have hll : l.length = p.length + 2 + r.length := by rw [hl]; simp; omega
        have hx1 : Txt.item (S l) (i + 1) = S [d] := item1 hl ha
        have hc1 : (Txt.item (S l) (i + 1)).cps.getD 0 0 = d := by rw [hx1]; rfl
        have hg1 : (((Txt.item (S l) (i + 1)).cps.getD 0 0 : Nat) : Int).fdiv 1024 = ((d / 1024 : Nat) : Int) := by rw [hc1]; exact Int.fdiv_eq_ediv_of_nonneg _ (by decide)
        have hg3 : (((Txt.item (S l) (i + 1)).cps.getD 0 0 : Nat) : Int).fmod 1024 = ((d % 1024 : Nat) : Int) := by rw [hc1]; exact Int.fmod_eq_emod_of_nonneg _ (by decide)
        k_steps
        all_goals (dsimp only; first
          | refine endI (by k_asm) (by k_asm) (by k_mem) (by walk_at "MY sub") (by with_unfolding_all rfl) (by ksw_same) (ints_push hst _ _) (sig_two hl ha hn he (signsL_pair (by omega) (by omega) (by omega))) (by omega)
          | refine endI (by k_asm) (by k_asm) (by k_mem) (by walk_at "MY sub") (by with_unfolding_all rfl) (by ksw_same) (ints_push hst _ _) (sig_one hl ha hn he (by first | rw [signsL_one (by omega), if_pos (by omega)]; rfl | rw [signsL_one (by omega), if_neg (by omega), hc0])) (by omega))
  run_tac go
end

end
section
theorem kw_L6 : True := by
  w_top off
  k_with_none
  k_with "MY room" => (first
      | ((try simp only [depth_under_make, depth_under_kw, depth_in1, depth_deeper, depth_caller, Around.mark]); (try dsimp only); omega)
      | ((try simp only [depth_under_make, depth_under_kw, depth_in1, depth_deeper, depth_caller, Around.mark]); (try dsimp only); simp only [recursionLimit] at *; omega))
  k_with "MY units" => ((have hcL9_k := cLine_is; (try simp only [units_in1, units_deeper, Around.mark_units, units_caller]); (try dsimp only); omega))
  k_with "MY enter" => ((refine wpAny_call ?_; k_dflt (refine' code_def ?k1 ?k2 ?k3 ?k4 ?k5 ?kA ?kF ?kK ?k6 ?k7 ?k8 ?k9 ?kB ?_ ?c2 ?c3 ?c4 ?c5; (case kA => exact rfl); (case kF => first | exact rfl | assumption); (case kK => first | exact rfl | assumption); (case k1 => k_asm); (case k2 => k_asm); (case k3 => k_asm); (case k4 => k_asm); (case k5 => k_asm); (case k6 => k_is); (case k7 => k_is); (case k8 => walk_at "MY room"); (case k9 => exact BindsTo.of_eq rfl); (case c5 => decide); (case kB => exact locs rfl); (case c2 => exact rfl); (case c3 => exact rfl); (case c4 => exact rfl); k_whole; intro g'_k L'_k h'_k FG'_k F'_k N'_k B'_k X'_k T'_k; (try dsimp only); (try k_lift B'_k); (try k_fold))))
  k_with "MY here" => ((refine' Here.mk ⟨_, ?h1⟩ ?h2 ?h3 ?h4 ⟨_, _, _, ?h5⟩ ?h6 ?h7 ?h8 ?h9 ?h10 ?h11; (case h6 => exact rfl); (case h1 => k_asm); (case h2 => k_asm); (case h3 => k_asm); (case h4 => k_asm); (case h5 => k_asm); (case h7 => first | exact rfl | assumption); (case h8 => first | exact rfl | assumption); (case h9 => exact rfl); (case h10 => walk_at "MY room"); (case h11 => walk_at "MY units")))
  k_with "MY sub" => ((intro p'_k hp'_k; first | exact hp'_k | (repeat (first | exact hp'_k | refine List.Mem.tail _ ?_))))
  k_with "MY fresh" => (first | assumption | (refine lt_of_all ?_; first | assumption | exact And.right (by assumption) | exact And.right (And.right (by assumption)) | exact And.right (And.right (And.right (by assumption))) | exact And.right (And.right (And.right (And.right (by assumption)))) | exact And.right (And.right (And.right (And.right (And.right (by assumption))))) | exact And.right (And.right (And.right (And.right (And.right (And.right (by assumption)))))) | exact And.right (And.right (And.right (And.right (And.right (And.right (And.right (by assumption)))))))))
  k_with "MY enterG" => ((refine wpAny_call ?_; k_dflt (refine' code_defG ?k1 ?k2 ?k3 ?k4 ?k5 ?kA ?kF ?kK ?k6 ?k7 ?k8 ?k9 ?kB ?_ ?c2 ?c3 ?c4 ?c5; (case kA => exact rfl); (case kF => first | exact rfl | assumption); (case kK => first | exact rfl | assumption); (case k1 => k_asm); (case k2 => k_asm); (case k3 => k_asm); (case k4 => k_asm); (case k5 => k_asm); (case k6 => k_is); (case k7 => k_is); (case k8 => walk_at "MY room"); (case k9 => exact BindsTo.of_eq rfl); (case c5 => decide); (case kB => exact locs rfl); (case c2 => exact rfl); (case c3 => exact rfl); (case c4 => exact rfl); k_whole; intro g'_k L'_k h'_k FG'_k F'_k N'_k B'_k X'_k T'_k kG'_k; (try dsimp only); (try k_lift B'_k); (try k_fold))))
  k_with "MY kept" => ((rename GSub _ _ _ => kG9_k; exact elt_after (InElt.start _) kG9_k (by assumption) (by assumption) (by assumption) (by walk_at "MY sub")))
  k_with "MY subr" => ((intro p'_k hp'_k; first | exact hp'_k | (repeat (first | exact hp'_k | exact List.mem_append_left _ hp'_k | exact List.mem_append_right _ hp'_k | refine List.Mem.tail _ ?_))))
  k_with "MY same" => ((intro z_k h1_k h2_k h3_k; first
      | rfl
      | ((try simp only [List.contains_cons, List.contains_nil, Bool.or_false, Bool.or_eq_false_iff, beq_eq_false_iff_ne, ne_eq] at h3_k); (simp [h1_k, h2_k, h3_k]; done))))
  k_with "MY enterC" => ((refine wpAny_call ?_; k_dflt (refine' code_defC ?k1 ?k2 ?k3 ?k4 ?k5 ?kA ?kF ?kK ?k6 ?k7 ?k8 ?k9 ?kB ?kD ?_ ?c2 ?c3 ?c4; (case kA => exact rfl); (case kF => first | exact rfl | assumption); (case kK => first | exact rfl | assumption); (case k1 => k_asm); (case k2 => k_asm); (case k3 => k_asm); (case k4 => k_asm); (case k5 => k_asm); (case k6 => k_is); (case k7 => k_is); (case k8 => walk_at "MY room"); (case k9 => exact BindsTo.of_eq rfl); (case kB => exact rfl); (case kD => decide +kernel); (case c2 => exact rfl); (case c3 => exact rfl); (case c4 => exact rfl); k_whole; intro g'_k L'_k h'_k tk'_k cells'_k FG'_k F'_k N'_k Y'_k B'_k X'_k T'_k l1_k; (try k_lt l1_k); k_cells Y'_k; (try simp only [List.cons_append, List.nil_append] at N'_k); (try dsimp only); (try k_lift B'_k); (try k_fold))))
  k_with "MY enterT" => ((refine wpAny_call ?_; k_dflt (refine' code_defT ?k1 ?k2 ?k3 ?k4 ?k5 ?kA ?kF ?kK ?k6 ?k7 ?k8 ?k9 ?kB ?_ ?c2 ?c3 ?c4 ?c5; (case kA => exact rfl); (case kF => first | exact rfl | assumption); (case kK => first | exact rfl | assumption); (case k1 => k_asm); (case k2 => k_asm); (case k3 => k_asm); (case k4 => k_asm); (case k5 => k_asm); (case k6 => k_is); (case k7 => k_is); (case k8 => walk_at "MY room"); (case k9 => exact BindsTo.of_eq rfl); (case c5 => decide); (case kB => exact locs rfl); (case c2 => exact rfl); (case c3 => exact rfl); (case c4 => exact rfl); k_whole; intro g'_k L'_k h'_k FG'_k F'_k N'_k B'_k X'_k T'_k; (try dsimp only); (try k_lift B'_k); (try k_fold))))
  trivial
theorem kw_L6_1 : True := by
  k_with "MY body" =>
    k_with "exec For" => (refine halt_in ?_)
    k_with "exec For Name Name cons nil" => (refine halt_in ?_)
    k_with "exec For Name Call cons nil" => (refine halt_in ?_)
    k_with "pyIter ref" => (refine halt_in ?_)
    trivial
  run_tac go
theorem noneS0 : Str.ofString "" = S [] := by decide +kernel
def encOne (kp : List Nat) (x : Int) : List Nat := if x < 128 ∧ x.toNat ∈ kp then [x.toNat] else (octs x.toNat).flatMap octT
def encAll (kp : List Nat) (xs : List Int) : List Nat := xs.flatMap (encOne kp)
theorem signs_bd {l : List Nat} (hc : ∀ c ∈ l, c ≤ 65535) : ∀ x ∈ signsL l, x = -1 ∨ (0 ≤ x ∧ x ≤ 1114111) := by
  fun_induction signsL l with
  | case1 => intro x hx; cases hx
  | case2 u =>
    intro x hx
    have := hc u (by simp)
    rw [List.mem_singleton.mp hx]
    split <;> omega
  | case3 u v r h ih =>
    intro x hx
    rcases List.mem_cons.mp hx with e | hx
    · rw [e]; omega
    · exact ih (fun c h => hc c (by simp [h])) x hx
  | case4 u v r h ih =>
    intro x hx
    have := hc u (by simp)
    rcases List.mem_cons.mp hx with e | hx
    · rw [e]; split <;> omega
    · exact ih (fun c h => hc c (List.mem_cons_of_mem _ h)) x hx
theorem signs_len (l : List Nat) : (signsL l).length ≤ l.length := by
  fun_induction signsL l <;> simp_all
  omega
theorem encOne_len (kp : List Nat) (x : Int) : (encOne kp x).length ≤ 12 := by
  k_with "MY body" =>
    unfold encOne
    split
    · simp
    · rw [octT_len]; have := octs_len x.toNat; omega
  run_tac go
theorem encAll_len (kp : List Nat) (xs : List Int) : (encAll kp xs).length ≤ 12 * xs.length := by
  k_with "MY body" =>
    induction xs with
    | nil => simp [encAll]
    | cons x xs ih =>
      have := encOne_len kp x
      simp only [encAll, List.flatMap_cons, List.length_append, List.length_cons] at *
      omega
  run_tac go
theorem encAll_snoc (kp : List Nat) (xs : List Int) (x : Int) : encAll kp (xs ++ [x]) = encAll kp xs ++ encOne kp x := by simp [encAll]
theorem mem_of_any {sg : List Int} (h : (sg.any fun x => x == 0 - 1) = true) : -1 ∈ sg := by
  k_with "MY body" =>
    obtain ⟨x, hx, e⟩ := List.any_eq_true.mp h
    rw [beq_iff_eq] at e
    rw [e] at hx; exact hx
  run_tac go
theorem not_mem_of_any {sg : List Int} (h : (sg.any fun x => x == 0 - 1) = false) : ¬ -1 ∈ sg := fun hx => by
  have : (sg.any fun x => x == 0 - 1) = true := List.any_eq_true.mpr ⟨_, hx, by decide⟩
  rw [h] at this; cases this
/-- what stands between two turns of _law_encoded's loop -/
def EncP (kp : List Nat) (pre : List Int) (v : Value) : Prop := ∃ t, v = .str (S (encAll kp pre)) t
theorem enc_p0 (kp : List Nat) (t : Tok) : EncP kp [] (.str (Str.ofString "") t) := ⟨t, by rw [noneS0]; rfl⟩
def OctP (acc : List Nat) (pre : List Int) (v : Value) : Prop := ∃ q t, pre = Z q ∧ v = .str (S (acc ++ q.flatMap octT)) t
theorem oct_p0 (acc : List Nat) (t : Tok) : OctP acc [] (.str (S acc) t) := ⟨[], t, rfl, by simp⟩
theorem oct_step {acc q : List Nat} {o : Nat} {x y : Int} {t : Tok} (h : o < 256) (hx : x = ((o / 16 : Nat) : Int)) (hy : y = ((o % 16 : Nat) : Int)) :
    OctP acc (Z q ++ [(o : Int)]) (.str (S (acc ++ q.flatMap octT) ++ Str.ofString "%" ++ Txt.item (Str.ofString "0123456789ABCDEF") x ++ Txt.item (Str.ofString "0123456789ABCDEF") y) t) := by
  k_with "MY body" =>
    refine ⟨q ++ [o], t, Z_snoc q o, ?_⟩
    rw [hexS, pctS, item_S hx (hex_at (by omega)), item_S hy (hex_at (by omega)), S_app, S_app, S_app]
    simp [octT]
  run_tac go
section
variable {w : World} {A : Around} {h₀ : Heap} {L : Addr} {m : Str → Option Value} {s : Shared} {news : List (Addr × Obj)} {base : Heap} {env : Env} {outer : List Env} {Q E : Value → Shared → Prop}
set_option maxRecDepth 100000 in
set_option maxHeartbeats 8000000 in
theorem lenc1_ok (l kp : List Nat) (hz : l.length ≤ 1000) (hkz : kp.length ≤ 1000) (hc : ∀ c ∈ l, c ≤ 65535) (t u : Tok)
    (H : Here w A h₀ L m s news base env outer 11)
    (ret : ∀ v h' tk', (if -1 ∈ signsL l then v = .none else ∃ t, v = .str (S (encAll kp (signsL l))) t) → Fr h₀ L h' m → News h₀ L h' news → Q v { s with heap := h', toks := tk' }) :
    wpAny (model PySem.Challenge.rw_nt0345_01.row.prog w) A (call (.ref 204) [.str (S l) t, .str (S kp) u]) Q E s := by
  k_with "MY body" =>
    refine H.lit (P := fun A => wpAny _ A _ _ _ _) ?_
    k_fill
    clear H
    intro dp un gd A₀ mean mg mb B F X N T loc kind room units
    have hlen : (S l).length = l.length := S_len l
    have hbd := signs_bd hc
    have hsl := signs_len l
    walk_at "MY enter"
    k_steps
    refine lsigns_ok l hz hc _ (by walk_at "MY here") ?_
    intro v' h' tk' a' n' vs' hv' F' N' o1' is'
    subst hv'
    generalize hsg : signsL l = sg at *
    (try dsimp only)
    (try k_fold)
    k_steps
    · have hm : -1 ∈ sg := mem_of_any (by assumption)
      exact ret _ _ _ (by rw [if_pos hm]) (by k_asm) (cb_drop (by k_asm) (by walk_at "MY sub"))
    · have hm : ¬ -1 ∈ sg := not_mem_of_any (by assumption)
      refine Halt.out ?_
      rename Fr _ _ _ _ => F1
      rename News _ _ _ _ => N1
      refine for_list (ns := sg) (Str.ofString "found") [Str.ofString "octet"] (EncP kp) rfl F1 N1 rfl (by rfl) ?_ (.head _) (by assumption) (by rfl) (enc_p0 kp _) ?_ ?_
      · intro R hR
        k_steps
        exact hR
      · clear F1 N1
        intro v pre x post t1 u h1 tk1 own hl' hP F1 N1
        (try dsimp only)
        (try k_fold)
        obtain ⟨t2, rfl⟩ := hP
        have hx : x ∈ sg := by rw [hl']; simp
        have hx0 : 0 ≤ x ∧ x ≤ 1114111 := (hbd x hx).resolve_left fun e => hm (e ▸ hx)
        have hpl : pre.length ≤ sg.length := by rw [hl']; simp
        have hel := encAll_len kp pre
        have hsl2 : (S (encAll kp pre)).length = (encAll kp pre).length := S_len _
        k_steps
        · have hnk : ¬ (x < 128 ∧ x.toNat ∈ kp) := fun z => by
            have q : (Builtin.Str.occurrences (S kp) ⟨#[x.toNat]⟩ 0 (S kp).length 1).isEmpty = true := by assumption
            rw [found_S (c := x.toNat) rfl] at q
            have q2 := z.2
            simp [q2] at q
          refine Halt.out ?_
          rename Fr _ _ _ _ => F1
          refine For_invF F1 rfl (by rfl) ?_
          k_steps
          refine loctets_ok x _ x.toNat (by omega) (by omega) (by walk_at "MY here") ?_
          intro v' h' tk' a2 n2 vs2 hv' F' N' o2' is2
          subst hv'
          (try dsimp only)
          (try k_fold)
          k_steps
          refine Halt.out ?_
          rename Fr _ _ _ _ => F1
          rename News _ _ _ _ => N1
          refine turn_list (ns := Z (octs x.toNat)) (Str.ofString "found") [] (OctP (encAll kp pre)) rfl F1 N1 (.head _) is2 (by rfl) (oct_p0 _ _) ?_ ?_
          · clear F1 N1
            intro v pre2 x2 post2 t3 u3 h3 tk3 own3 hl3 hP3 F1 N1
            (try dsimp only)
            (try k_fold)
            obtain ⟨q, t4, rfl, rfl⟩ := hP3
            obtain ⟨o, q2, rfl, ho⟩ := Z_cut hl3
            have ho256 : o < 256 := octs_lt (sg := x.toNat) (by omega) (by rw [ho]; simp)
            have hq1 : (o : Int).fdiv 16 = ((o / 16 : Nat) : Int) := Int.fdiv_eq_ediv_of_nonneg _ (by decide)
            have hq2 : (o : Int).fmod 16 = ((o % 16 : Nat) : Int) := Int.fmod_eq_emod_of_nonneg _ (by decide)
            have hz1 : (Str.ofString "0123456789ABCDEF").length = 16 := by rw [hexS]; rfl
            have hz2 : (Str.ofString "%").length = 1 := by rw [pctS]; rfl
            have hz3 : (S (encAll kp pre ++ q.flatMap octT)).length = (encAll kp pre).length + 3 * q.length := by rw [S_len, List.length_append, octT_len]
            have hz4 : q.length ≤ 4 := by have := octs_len x.toNat; rw [ho] at this; simp at this; omega
            k_steps
            refine endV (by k_asm) (by k_asm) (by walk_at "MY subr") (by walk_at "MY subr") (by with_unfolding_all rfl) (by walk_at "MY same") (oct_step ho256 hq1 hq2)
          · clear F1 N1
            intro v u3 h3 tk3 hP3 F1 N1
            (try dsimp only)
            (try k_fold)
            obtain ⟨q, t4, hq, rfl⟩ := hP3
            cases Z_inj hq
            k_steps
            refine endV (by k_asm) (by k_asm) (by walk_at "MY subr") (by walk_at "MY subr") (by with_unfolding_all rfl) (by walk_at "MY same") ⟨_, by rw [encAll_snoc, encOne, if_neg hnk]⟩
        · have hk : x < 128 ∧ x.toNat ∈ kp := ⟨by assumption, by
            have q : (Builtin.Str.occurrences (S kp) ⟨#[x.toNat]⟩ 0 (S kp).length 1).isEmpty = false := by assumption
            rw [found_S (c := x.toNat) rfl] at q; simpa using q⟩
          refine endV (by k_asm) (by k_asm) (by walk_at "MY subr") (by walk_at "MY subr") (by with_unfolding_all rfl) (by walk_at "MY same") ⟨_, by rw [encAll_snoc, encOne, if_pos hk, ← S_app]⟩
        · have hnk : ¬ (x < 128 ∧ x.toNat ∈ kp) := fun z => by omega
          refine Halt.out ?_
          rename Fr _ _ _ _ => F1
          refine For_invF F1 rfl (by rfl) ?_
          k_steps
          refine loctets_ok x _ x.toNat (by omega) (by omega) (by walk_at "MY here") ?_
          intro v' h' tk' a2 n2 vs2 hv' F' N' o2' is2
          subst hv'
          (try dsimp only)
          (try k_fold)
          k_steps
          refine Halt.out ?_
          rename Fr _ _ _ _ => F1
          rename News _ _ _ _ => N1
          refine turn_list (ns := Z (octs x.toNat)) (Str.ofString "found") [] (OctP (encAll kp pre)) rfl F1 N1 (.head _) is2 (by rfl) (oct_p0 _ _) ?_ ?_
          · clear F1 N1
            intro v pre2 x2 post2 t3 u3 h3 tk3 own3 hl3 hP3 F1 N1
            (try dsimp only)
            (try k_fold)
            obtain ⟨q, t4, rfl, rfl⟩ := hP3
            obtain ⟨o, q2, rfl, ho⟩ := Z_cut hl3
            have ho256 : o < 256 := octs_lt (sg := x.toNat) (by omega) (by rw [ho]; simp)
            have hq1 : (o : Int).fdiv 16 = ((o / 16 : Nat) : Int) := Int.fdiv_eq_ediv_of_nonneg _ (by decide)
            have hq2 : (o : Int).fmod 16 = ((o % 16 : Nat) : Int) := Int.fmod_eq_emod_of_nonneg _ (by decide)
            have hz1 : (Str.ofString "0123456789ABCDEF").length = 16 := by rw [hexS]; rfl
            have hz2 : (Str.ofString "%").length = 1 := by rw [pctS]; rfl
            have hz3 : (S (encAll kp pre ++ q.flatMap octT)).length = (encAll kp pre).length + 3 * q.length := by rw [S_len, List.length_append, octT_len]
            have hz4 : q.length ≤ 4 := by have := octs_len x.toNat; rw [ho] at this; simp at this; omega
            k_steps
            refine endV (by k_asm) (by k_asm) (by walk_at "MY subr") (by walk_at "MY subr") (by with_unfolding_all rfl) (by walk_at "MY same") (oct_step ho256 hq1 hq2)
          · clear F1 N1
            intro v u3 h3 tk3 hP3 F1 N1
            (try dsimp only)
            (try k_fold)
            obtain ⟨q, t4, hq, rfl⟩ := hP3
            cases Z_inj hq
            k_steps
            refine endV (by k_asm) (by k_asm) (by walk_at "MY subr") (by walk_at "MY subr") (by with_unfolding_all rfl) (by walk_at "MY same") ⟨_, by rw [encAll_snoc, encOne, if_neg hnk]⟩
      · clear F1 N1
        intro v u h1 tk1 hP F1 N1
        (try dsimp only)
        (try k_fold)
        obtain ⟨t2, rfl⟩ := hP
        k_steps
        exact ret _ _ _ (by rw [if_neg hm]; exact ⟨_, rfl⟩) (by k_asm) (cb_drop (by k_asm) (by walk_at "MY subr"))
  run_tac go
end

end
section
theorem kw_RT : True := by
  w_top off
  k_with_none
  k_with "MY room" => (first
      | ((try simp only [depth_under_make, depth_under_kw, depth_in1, depth_deeper, depth_caller, Around.mark]); (try dsimp only); omega)
      | ((try simp only [depth_under_make, depth_under_kw, depth_in1, depth_deeper, depth_caller, Around.mark]); (try dsimp only); simp only [recursionLimit] at *; omega))
  k_with "MY units" => ((have hcL9_k := cLine_is; (try simp only [units_in1, units_deeper, Around.mark_units, units_caller]); (try dsimp only); omega))
  k_with "MY enter" => ((refine wpAny_call ?_; k_dflt (refine' code_def ?k1 ?k2 ?k3 ?k4 ?k5 ?kA ?kF ?kK ?k6 ?k7 ?k8 ?k9 ?kB ?_ ?c2 ?c3 ?c4 ?c5; (case kA => exact rfl); (case kF => first | exact rfl | assumption); (case kK => first | exact rfl | assumption); (case k1 => k_asm); (case k2 => k_asm); (case k3 => k_asm); (case k4 => k_asm); (case k5 => k_asm); (case k6 => k_is); (case k7 => k_is); (case k8 => walk_at "MY room"); (case k9 => exact BindsTo.of_eq rfl); (case c5 => decide); (case kB => exact locs rfl); (case c2 => exact rfl); (case c3 => exact rfl); (case c4 => exact rfl); k_whole; intro g'_k L'_k h'_k FG'_k F'_k N'_k B'_k X'_k T'_k; (try dsimp only); (try k_lift B'_k); (try k_fold))))
  k_with "MY here" => ((refine' Here.mk ⟨_, ?h1⟩ ?h2 ?h3 ?h4 ⟨_, _, _, ?h5⟩ ?h6 ?h7 ?h8 ?h9 ?h10 ?h11; (case h6 => exact rfl); (case h1 => k_asm); (case h2 => k_asm); (case h3 => k_asm); (case h4 => k_asm); (case h5 => k_asm); (case h7 => first | exact rfl | assumption); (case h8 => first | exact rfl | assumption); (case h9 => exact rfl); (case h10 => walk_at "MY room"); (case h11 => walk_at "MY units")))
  k_with "MY sub" => ((intro p'_k hp'_k; first | exact hp'_k | (repeat (first | exact hp'_k | refine List.Mem.tail _ ?_))))
  k_with "MY fresh" => (first | assumption | (refine lt_of_all ?_; first | assumption | exact And.right (by assumption) | exact And.right (And.right (by assumption)) | exact And.right (And.right (And.right (by assumption))) | exact And.right (And.right (And.right (And.right (by assumption)))) | exact And.right (And.right (And.right (And.right (And.right (by assumption))))) | exact And.right (And.right (And.right (And.right (And.right (And.right (by assumption)))))) | exact And.right (And.right (And.right (And.right (And.right (And.right (And.right (by assumption)))))))))
  k_with "MY enterG" => ((refine wpAny_call ?_; k_dflt (refine' code_defG ?k1 ?k2 ?k3 ?k4 ?k5 ?kA ?kF ?kK ?k6 ?k7 ?k8 ?k9 ?kB ?_ ?c2 ?c3 ?c4 ?c5; (case kA => exact rfl); (case kF => first | exact rfl | assumption); (case kK => first | exact rfl | assumption); (case k1 => k_asm); (case k2 => k_asm); (case k3 => k_asm); (case k4 => k_asm); (case k5 => k_asm); (case k6 => k_is); (case k7 => k_is); (case k8 => walk_at "MY room"); (case k9 => exact BindsTo.of_eq rfl); (case c5 => decide); (case kB => exact locs rfl); (case c2 => exact rfl); (case c3 => exact rfl); (case c4 => exact rfl); k_whole; intro g'_k L'_k h'_k FG'_k F'_k N'_k B'_k X'_k T'_k kG'_k; (try dsimp only); (try k_lift B'_k); (try k_fold))))
  k_with "MY kept" => ((rename GSub _ _ _ => kG9_k; exact elt_after (InElt.start _) kG9_k (by assumption) (by assumption) (by assumption) (by walk_at "MY sub")))
  k_with "MY subr" => ((intro p'_k hp'_k; first | exact hp'_k | (repeat (first | exact hp'_k | exact List.mem_append_left _ hp'_k | exact List.mem_append_right _ hp'_k | refine List.Mem.tail _ ?_))))
  k_with "MY same" => ((intro z_k h1_k h2_k h3_k; first
      | rfl
      | ((try simp only [List.contains_cons, List.contains_nil, Bool.or_false, Bool.or_eq_false_iff, beq_eq_false_iff_ne, ne_eq] at h3_k); (simp [h1_k, h2_k, h3_k]; done))))
  k_with "MY enterC" => ((refine wpAny_call ?_; k_dflt (refine' code_defC ?k1 ?k2 ?k3 ?k4 ?k5 ?kA ?kF ?kK ?k6 ?k7 ?k8 ?k9 ?kB ?kD ?_ ?c2 ?c3 ?c4; (case kA => exact rfl); (case kF => first | exact rfl | assumption); (case kK => first | exact rfl | assumption); (case k1 => k_asm); (case k2 => k_asm); (case k3 => k_asm); (case k4 => k_asm); (case k5 => k_asm); (case k6 => k_is); (case k7 => k_is); (case k8 => walk_at "MY room"); (case k9 => exact BindsTo.of_eq rfl); (case kB => exact rfl); (case kD => decide +kernel); (case c2 => exact rfl); (case c3 => exact rfl); (case c4 => exact rfl); k_whole; intro g'_k L'_k h'_k tk'_k cells'_k FG'_k F'_k N'_k Y'_k B'_k X'_k T'_k l1_k; (try k_lt l1_k); k_cells Y'_k; (try simp only [List.cons_append, List.nil_append] at N'_k); (try dsimp only); (try k_lift B'_k); (try k_fold))))
  k_with "MY enterT" => ((refine wpAny_call ?_; k_dflt (refine' code_defT ?k1 ?k2 ?k3 ?k4 ?k5 ?kA ?kF ?kK ?k6 ?k7 ?k8 ?k9 ?kB ?_ ?c2 ?c3 ?c4 ?c5; (case kA => exact rfl); (case kF => first | exact rfl | assumption); (case kK => first | exact rfl | assumption); (case k1 => k_asm); (case k2 => k_asm); (case k3 => k_asm); (case k4 => k_asm); (case k5 => k_asm); (case k6 => k_is); (case k7 => k_is); (case k8 => walk_at "MY room"); (case k9 => exact BindsTo.of_eq rfl); (case c5 => decide); (case kB => exact locs rfl); (case c2 => exact rfl); (case c3 => exact rfl); (case c4 => exact rfl); k_whole; intro g'_k L'_k h'_k FG'_k F'_k N'_k B'_k X'_k T'_k; (try dsimp only); (try k_lift B'_k); (try k_fold))))
  trivial
section
variable {prog : Program} {w : World} {A : Around} {E : Value → Shared → Prop} {s : Shared} {h₀ : Heap} {L : Addr} {m : Str → Option Value} {env : Env}
theorem paired_ints {pz : Nat → Bool} : ∀ {l : List Nat} {vs ys : List Value}, vs.length = l.length → (∀ (j : Nat) (v : Value), vs[j]? = some v → ∃ c t, l[j]? = some c ∧ v = Value.str (S [c]) t) →
    Paired (fun (_ y : Value) => ∃ t, y = Value.int 1 t) (vs.filter fun (v : Value) => match v with | Value.str x _ => pz (x.cps.getD 0 0) | _ => false) ys → IntsAre ys ((l.filter pz).map fun _ => (1 : Int))
  | [], [], _, _, _, h => by cases h; exact .nil
  | [], _ :: _, _, hl, _, _ => by cases hl
  | _ :: _, [], _, hl, _, _ => by cases hl
  | c :: l, v :: vs, ys, hl, hg, h => by
    obtain ⟨c', t, hc, rfl⟩ := hg 0 v rfl
    simp only [List.getElem?_cons_zero, Option.some.injEq] at hc
    subst hc
    have ih := fun ys => paired_ints (pz := pz) (l := l) (vs := vs) (ys := ys) (by simpa using hl) (fun j u hu => by simpa using hg (j + 1) u (by simpa using hu))
    have e : pz ((S [c]).cps.getD 0 0) = pz c := rfl
    rw [List.filter_cons] at h
    simp only [e] at h
    rw [List.filter_cons]
    by_cases hp : pz c = true
    · rw [if_pos hp] at h ⊢
      cases h with
      | cons h1 h2 =>
        obtain ⟨t', rfl⟩ := h1
        exact .cons _ _ (ih _ h2)
    · rw [if_neg hp] at h ⊢
      exact ih _ h
theorem comp_text {elt iter : Expr} {x : Str} {px : Pos} {ifs : List Expr} {scope : Scope} {cl : List (Str × Addr)} {pos : Pos} {Q : Value → Shared → Prop} (pz : Nat → Bool)
    (_F : Fr h₀ L s.heap m) (hh : A.handled = none) (hclos : closureFor scope env = pure cl) (hcell : ∀ y ∈ scope.names, y.2 ≠ .cell) (hkind : scope.kind = .function)
    (hnames : ∀ y ∈ scope.names, y.2 = .local → scope.names.lookup y.1 = some .local) (hx : scope.names.lookup x = some .local) (hs : ∀ x, foldedSetIterable iter env x = pure x)
    (h : wpAny (model prog w) A (eval iter env) (fun xv s₁ => Halt (∃ news l t, xv = .str (S l) t ∧ l.length ≤ 1000 ∧ Fr h₀ L s₁.heap m ∧ News h₀ L s₁.heap news ∧
      (∀ C c tok s₂ m₂ E', c ∈ l → s₂.heap.Ns (compEnvC scope cl C env).locals m₂ → m₂ x = some (.str (S [c]) tok) → (∀ b o, s₁.heap.get? b = some o → s₂.heap.get? b = some o) →
        wpAny (model prog w) A (forIn ifs true fun c r => if r = true then do let ok ← isTrue c (compEnvC scope cl C env) (eval c (compEnvC scope cl C env)); pure (ForInStep.yield ok) else pure (ForInStep.yield r))
          (fun ok s₃ => Halt (ok = pz c ∧ Keeps s₂ s₃)) E' s₂) ∧
      (∀ C c tok s₂ m₂ E', c ∈ l → s₂.heap.Ns (compEnvC scope cl C env).locals m₂ → m₂ x = some (.str (S [c]) tok) → (∀ b o, s₁.heap.get? b = some o → s₂.heap.get? b = some o) →
        wpAny (model prog w) A (eval elt (compEnvC scope cl C env)) (fun y s₃ => Halt ((∃ t, y = .int 1 t) ∧ Keeps s₂ s₃)) E' s₂) ∧
      (∀ D ys k h' tk, Fr h₀ L h' m → News h₀ L h' ((D, listOf (List.toArray ys) k) :: news) → (∀ p ∈ news, p.1 ≠ D) → IntsAre ys ((l.filter pz).map fun _ => (1 : Int)) → Q (.ref D) { s₁ with heap := h', toks := tk }))) E s) :
    wpAny (model prog w) A (eval (.ListComp elt [⟨.Name x px, iter, ifs, 0⟩] scope pos) env) Q E s := by
  k_with "MY body" =>
    refine wpAny_ListComp_free (fun (v : Value) => match v with | Value.str x _ => pz (x.cps.getD 0 0) | _ => false) (fun (_ y : Value) => ∃ t, y = Value.int 1 t) hclos hcell hkind hnames hx (wpAny_mono h (fun xv s₁ h₁ => ?_) fun _ _ e => e) hs
    obtain ⟨news, l, t, rfl, hsz, F, N, htests, helt, hQ⟩ := h₁
    refine wpAny_pyIter_str fun o St W hst => ?_
    have up : ∀ (h' : Heap), (∀ b o', b ∉ [s₁.heap.objs.size] → (s₁.heap.push o).get? b = some o' → h'.get? b = some o') → ∀ b o', s₁.heap.get? b = some o' → h'.get? b = some o' :=
      fun h' hk b o' e => hk b o' (old_not_new e) (Heap.get?_push_of_some _ e)
    have at' : ∀ i v, SignAt (S l) i v → ∃ c tok, l[i]? = some c ∧ v = Value.str (S [c]) tok := fun i v hP => by
      obtain ⟨c, u, hc, rfl⟩ := hP
      exact ⟨c, u, by simpa [S] using hc, rfl⟩
    refine ⟨s₁.heap.objs.size, [s₁.heap.objs.size], [s₁.heap.objs.size], (S l).cps.size, SignAt (S l), St, rfl, W A hh, ?_, hst, ?_, ⟨?_, ?_⟩, ?_⟩
    · show l.toArray.size ≤ _
      rw [List.size_toArray, sizeLine_eq]; omega
    · intro b hb
      show b < (s₁.heap.push o).objs.size
      rw [Heap.size_push, List.mem_singleton.mp hb]
      exact Nat.lt_succ_self _
    · intro C i v s₃ m₃ E' _ hP hn hm hk _
      obtain ⟨c, u, hc, rfl⟩ := at' i v hP
      exact htests C c u s₃ m₃ E' (List.mem_of_getElem? hc) hn hm (up s₃.heap hk)
    · intro C i v s₃ m₃ E' _ hP hp hn hm hk _
      obtain ⟨c, u, hc, rfl⟩ := at' i v hP
      exact helt C c u s₃ m₃ E' (List.mem_of_getElem? hc) hn hm (up s₃.heap hk)
    · intro D h' tk ys vs hnew _ hplD hlen hP hF hk
      have keep := up h' hk
      obtain ⟨k, hD⟩ := hplD
      have hD' : h'.get? D = some (listOf (List.toArray ys.toList) k) := by rw [Array.toArray_toList]; exact hD
      have fD : s₁.heap.get? D = none := by
        cases e : s₁.heap.get? D with
        | none => rfl
        | some o' => rw [Heap.get?_push_of_some _ e] at hnew; cases hnew
      refine hQ D ys.toList k h' tk (F.keeps keep) (fun p hp => ?_) (fun p hp z => by rw [← z, (N p hp).1] at fD; cases fD) (paired_ints (by rw [hlen]; simp [S]) (fun j v hv => at' j v (hP j v hv)) hF)
      rcases List.mem_cons.mp hp with rfl | hp
      · refine ⟨hD', fun z => ?_, none_back F.keep fD⟩
        obtain ⟨oL, _, _, hL, _⟩ := F.ns
        have fD' : s₁.heap.get? L = none := (show D = L from z) ▸ fD
        rw [show s₁.heap.get? L = some oL from hL] at fD'; cases fD'
      · exact ⟨keep _ _ (N p hp).1, (N p hp).2⟩
  run_tac go
end

end
section
theorem kw_L7 : True := by
  w_top off
  k_with_none
  k_with "MY room" => (first
      | ((try simp only [depth_under_make, depth_under_kw, depth_in1, depth_deeper, depth_caller, Around.mark]); (try dsimp only); omega)
      | ((try simp only [depth_under_make, depth_under_kw, depth_in1, depth_deeper, depth_caller, Around.mark]); (try dsimp only); simp only [recursionLimit] at *; omega))
  k_with "MY units" => ((have hcL9_k := cLine_is; (try simp only [units_in1, units_deeper, Around.mark_units, units_caller]); (try dsimp only); omega))
  k_with "MY enter" => ((refine wpAny_call ?_; k_dflt (refine' code_def ?k1 ?k2 ?k3 ?k4 ?k5 ?kA ?kF ?kK ?k6 ?k7 ?k8 ?k9 ?kB ?_ ?c2 ?c3 ?c4 ?c5; (case kA => exact rfl); (case kF => first | exact rfl | assumption); (case kK => first | exact rfl | assumption); (case k1 => k_asm); (case k2 => k_asm); (case k3 => k_asm); (case k4 => k_asm); (case k5 => k_asm); (case k6 => k_is); (case k7 => k_is); (case k8 => walk_at "MY room"); (case k9 => exact BindsTo.of_eq rfl); (case c5 => decide); (case kB => exact locs rfl); (case c2 => exact rfl); (case c3 => exact rfl); (case c4 => exact rfl); k_whole; intro g'_k L'_k h'_k FG'_k F'_k N'_k B'_k X'_k T'_k; (try dsimp only); (try k_lift B'_k); (try k_fold))))
  k_with "MY here" => ((refine' Here.mk ⟨_, ?h1⟩ ?h2 ?h3 ?h4 ⟨_, _, _, ?h5⟩ ?h6 ?h7 ?h8 ?h9 ?h10 ?h11; (case h6 => exact rfl); (case h1 => k_asm); (case h2 => k_asm); (case h3 => k_asm); (case h4 => k_asm); (case h5 => k_asm); (case h7 => first | exact rfl | assumption); (case h8 => first | exact rfl | assumption); (case h9 => exact rfl); (case h10 => walk_at "MY room"); (case h11 => walk_at "MY units")))
  k_with "MY sub" => ((intro p'_k hp'_k; first | exact hp'_k | (repeat (first | exact hp'_k | refine List.Mem.tail _ ?_))))
  k_with "MY fresh" => (first | assumption | (refine lt_of_all ?_; first | assumption | exact And.right (by assumption) | exact And.right (And.right (by assumption)) | exact And.right (And.right (And.right (by assumption))) | exact And.right (And.right (And.right (And.right (by assumption)))) | exact And.right (And.right (And.right (And.right (And.right (by assumption))))) | exact And.right (And.right (And.right (And.right (And.right (And.right (by assumption)))))) | exact And.right (And.right (And.right (And.right (And.right (And.right (And.right (by assumption)))))))))
  k_with "MY enterG" => ((refine wpAny_call ?_; k_dflt (refine' code_defG ?k1 ?k2 ?k3 ?k4 ?k5 ?kA ?kF ?kK ?k6 ?k7 ?k8 ?k9 ?kB ?_ ?c2 ?c3 ?c4 ?c5; (case kA => exact rfl); (case kF => first | exact rfl | assumption); (case kK => first | exact rfl | assumption); (case k1 => k_asm); (case k2 => k_asm); (case k3 => k_asm); (case k4 => k_asm); (case k5 => k_asm); (case k6 => k_is); (case k7 => k_is); (case k8 => walk_at "MY room"); (case k9 => exact BindsTo.of_eq rfl); (case c5 => decide); (case kB => exact locs rfl); (case c2 => exact rfl); (case c3 => exact rfl); (case c4 => exact rfl); k_whole; intro g'_k L'_k h'_k FG'_k F'_k N'_k B'_k X'_k T'_k kG'_k; (try dsimp only); (try k_lift B'_k); (try k_fold))))
  k_with "MY kept" => ((rename GSub _ _ _ => kG9_k; exact elt_after (InElt.start _) kG9_k (by assumption) (by assumption) (by assumption) (by walk_at "MY sub")))
  k_with "MY subr" => ((intro p'_k hp'_k; first | exact hp'_k | (repeat (first | exact hp'_k | exact List.mem_append_left _ hp'_k | exact List.mem_append_right _ hp'_k | refine List.Mem.tail _ ?_))))
  k_with "MY same" => ((intro z_k h1_k h2_k h3_k; first
      | rfl
      | ((try simp only [List.contains_cons, List.contains_nil, Bool.or_false, Bool.or_eq_false_iff, beq_eq_false_iff_ne, ne_eq] at h3_k); (simp [h1_k, h2_k, h3_k]; done))))
  k_with "MY enterC" => ((refine wpAny_call ?_; k_dflt (refine' code_defC ?k1 ?k2 ?k3 ?k4 ?k5 ?kA ?kF ?kK ?k6 ?k7 ?k8 ?k9 ?kB ?kD ?_ ?c2 ?c3 ?c4; (case kA => exact rfl); (case kF => first | exact rfl | assumption); (case kK => first | exact rfl | assumption); (case k1 => k_asm); (case k2 => k_asm); (case k3 => k_asm); (case k4 => k_asm); (case k5 => k_asm); (case k6 => k_is); (case k7 => k_is); (case k8 => walk_at "MY room"); (case k9 => exact BindsTo.of_eq rfl); (case kB => exact rfl); (case kD => decide +kernel); (case c2 => exact rfl); (case c3 => exact rfl); (case c4 => exact rfl); k_whole; intro g'_k L'_k h'_k tk'_k cells'_k FG'_k F'_k N'_k Y'_k B'_k X'_k T'_k l1_k; (try k_lt l1_k); k_cells Y'_k; (try simp only [List.cons_append, List.nil_append] at N'_k); (try dsimp only); (try k_lift B'_k); (try k_fold))))
  k_with "MY enterT" => ((refine wpAny_call ?_; k_dflt (refine' code_defT ?k1 ?k2 ?k3 ?k4 ?k5 ?kA ?kF ?kK ?k6 ?k7 ?k8 ?k9 ?kB ?_ ?c2 ?c3 ?c4 ?c5; (case kA => exact rfl); (case kF => first | exact rfl | assumption); (case kK => first | exact rfl | assumption); (case k1 => k_asm); (case k2 => k_asm); (case k3 => k_asm); (case k4 => k_asm); (case k5 => k_asm); (case k6 => k_is); (case k7 => k_is); (case k8 => walk_at "MY room"); (case k9 => exact BindsTo.of_eq rfl); (case c5 => decide); (case kB => exact locs rfl); (case c2 => exact rfl); (case c3 => exact rfl); (case c4 => exact rfl); k_whole; intro g'_k L'_k h'_k FG'_k F'_k N'_k B'_k X'_k T'_k; (try dsimp only); (try k_lift B'_k); (try k_fold))))
  trivial
theorem kw_L7_1 : True := by
  k_with "MY body" =>
    k_with "eval ListComp" => (refine halt_in ?_)
    k_with "compareOp NotEq ref ref" => (((with_reducible show wpAny _ _ (compareOp CmpOp.NotEq (Value.ref _) (Value.ref _)) _ _ _); (with_unfolding_all refine' ne_intsK ?k1 ?k2 ?k3 ?k4 ?k5 ?_; (case k1 => is_list); (case k2 => l_intsC); (case k3 => is_list); (case k4 => l_intsC); (case k5 => walk_at "MY units"); k_whole)))
    k_with "call builtin:str.index" => ((refine index_or (by rfl) (fun q' => by exfalso; omega) (fun _ _ => ?_)))
    trivial
  run_tac go
theorem slice_over {l : List Nat} {x y : Int} (a b : Nat) (hx : x = a) (hy : y = b) (ha : l.length ≤ a) (hb : a ≤ b) : Txt.slice (S l) (some x) (some y) = S [] := by
  k_with "MY body" =>
    subst hx hy
    have i : Builtin.Str.strSliceIndices (some (a : Int)) (some (b : Int)) 1 (S l).length = Builtin.Str.strSliceIndices (some (l.length : Int)) (some (l.length : Int)) 1 (S l).length := by
      rw [S_len]
      have h1 : ¬ ((a : Int) < 0) := by omega
      have h2 : ¬ ((b : Int) < 0) := by omega
      have h3 : ¬ ((l.length : Int) < 0) := by omega
      have e1 : max (0 : Int) (min (a : Int) (l.length : Int)) = l.length := by omega
      have e2 : max (0 : Int) (min (b : Int) (l.length : Int)) = l.length := by omega
      have e3 : max (0 : Int) (min (l.length : Int) (l.length : Int)) = l.length := by omega
      simp only [Builtin.Str.strSliceIndices, h1, h2, h3, if_false, e1, e2, e3, show ((1 : Int) > 0) = True from by simp, if_true]
    have e : Txt.slice (S l) (some (a : Int)) (some (b : Int)) = Txt.slice (S l) (some (l.length : Int)) (some (l.length : Int)) := by
      unfold Txt.slice
      rw [i]
    rw [e, slice_S (l := l) l.length l.length rfl rfl (Nat.le_refl _) (Nat.le_refl _)]
    simp
  run_tac go
theorem slice_any {l : List Nat} {x y : Int} (a b : Nat) (hx : x = a) (hy : y = b) (h : a ≤ b) : Txt.slice (S l) (some x) (some y) = S ((l.drop a).take (b - a)) := by
  k_with "MY body" =>
    by_cases ha : a ≤ l.length
    · exact slice_S a b hx hy h ha
    · rw [slice_over a b hx hy (by omega) h, List.drop_of_length_le (by omega)]; simp
  run_tac go
theorem slice_from1 {c a b : Nat} : Txt.slice (S [c, a, b]) (some 1) none = S [a, b] := by
  k_with "MY body" =>
    have i : Builtin.Str.strSliceIndices (some (1 : Int)) none 1 (S [c, a, b]).length = Builtin.Str.strSliceIndices (some (1 : Int)) (some (3 : Int)) 1 (S [c, a, b]).length := by
      rw [S_len]; rfl
    have e : Txt.slice (S [c, a, b]) (some 1) none = Txt.slice (S [c, a, b]) (some 1) (some 3) := by
      unfold Txt.slice
      rw [i]
    exact e.trans (slice_S (l := [c, a, b]) (x := 1) (y := 3) 1 3 rfl rfl (by decide) (by simp))
  run_tac go
def hexA : List Nat := [48, 49, 50, 51, 52, 53, 54, 55, 56, 57, 65, 66, 67, 68, 69, 70, 97, 98, 99, 100, 101, 102]
theorem hexAS : Str.ofString "0123456789ABCDEF" ++ Str.ofString "abcdef" = S hexA := by decide +kernel
theorem find_up {c : Nat} (h : c ∈ hexA) : Txt.find (Str.ofString "0123456789ABCDEF") (Txt.upper (S [c])) = (((hexv c).getD 99 : Nat) : Int) := by
  k_with "MY body" =>
    have : ∀ c ∈ hexA, Txt.find (Str.ofString "0123456789ABCDEF") (Txt.upper (S [c])) = (((hexv c).getD 99 : Nat) : Int) := by decide +kernel
    exact this c h
  run_tac go
theorem mem_hexA {c : Nat} : c ∈ hexA ↔ (hexv c).isSome = true := by
  k_with "MY body" =>
    unfold hexv
    constructor
    · intro h
      simp only [hexA, List.mem_cons, List.not_mem_nil, or_false] at h
      (repeat' split) <;> first | rfl | omega
    · intro h
      simp only [hexA, List.mem_cons, List.not_mem_nil, or_false]
      (repeat' split at h) <;> first | omega | (simp at h; done)
  run_tac go
theorem all_hex {pz : Nat → Bool} {a b : Nat} (hpz : ∀ z, pz z = !decide (z ∈ hexA)) (ha : a ∈ hexA) (hb : b ∈ hexA) : decide (List.map (fun (_ : Nat) => (1 : Int)) (List.filter pz [a, b]) = []) = true := by
  k_with "MY body" =>
    have e1 : pz a = false := by rw [hpz, decide_eq_true ha]; rfl
    have e2 : pz b = false := by rw [hpz, decide_eq_true hb]; rfl
    simp [List.filter_cons, e1, e2]
  run_tac go
theorem not_nil {pz : Nat → Bool} {a b : Nat} (hpz : ∀ z, pz z = !decide (z ∈ hexA)) (h : ¬ (a ∈ hexA ∧ b ∈ hexA)) : decide (List.map (fun (_ : Nat) => (1 : Int)) (List.filter pz [a, b]) = []) = false := by
  k_with "MY body" =>
    rw [decide_eq_false_iff_not]
    intro q
    have q := List.filter_eq_nil_iff.mp (List.map_eq_nil_iff.mp q)
    have dn : ∀ z, ¬ pz z = true → z ∈ hexA := fun z hz => by
      rw [hpz] at hz
      by_cases m : z ∈ hexA
      · exact m
      · rw [decide_eq_false m] at hz; exact absurd rfl hz
    exact h ⟨dn a (q a (by simp)), dn b (q b (by simp))⟩
  run_tac go
theorem oct_not {c a b : Nat} {r : List Nat} (hc : c = 37) (h : ¬ (a ∈ hexA ∧ b ∈ hexA)) : octA (c :: a :: b :: r) = none := by
  k_with "MY body" =>
    show (if c = 37 then hexN [a, b] else none) = none
    rw [if_pos hc]
    cases ha : hexv a with
    | none => simp [hexN, ha]
    | some d =>
      cases hb : hexv b with
      | none => simp [hexN, ha, hb]
      | some e => exact absurd ⟨mem_hexA.mpr (by rw [ha]; rfl), mem_hexA.mpr (by rw [hb]; rfl)⟩ h
  run_tac go
section
variable {w : World} {A : Around} {h₀ : Heap} {L : Addr} {m : Str → Option Value} {s : Shared} {news : List (Addr × Obj)} {base : Heap} {env : Env} {outer : List Env} {Q E : Value → Shared → Prop}
set_option maxRecDepth 100000 in
set_option maxHeartbeats 8000000 in
theorem loctet_ok (l : List Nat) (k : Nat) (hz : l.length ≤ 100000) (t : Tok) (x : Int) (u : Tok) (hx : x = (k : Nat))
    (H : Here w A h₀ L m s news base env outer 11)
    (ret : ∀ v h' tk', (match octA (l.drop k) with | some n => ∃ t, v = .int (n : Nat) t | none => v = .none) → Fr h₀ L h' m → News h₀ L h' news → InElt s.heap h' → Q v { s with heap := h', toks := tk' }) :
    wpAny (model PySem.Challenge.rw_nt0345_01.row.prog w) A (call (.ref 209) [.str (S l) t, .int x u]) Q E s := by
  k_with "MY body" =>
    refine H.lit (P := fun A => wpAny _ A _ _ _ _) ?_
    k_fill
    clear H
    intro dp un gd A₀ mean mg mb B F X N T loc kind room units
    have hlen : (S l).length = l.length := S_len l
    generalize hr : l.drop k = r at ret
    have hll : r.length = l.length - k := by rw [← hr]; simp
    have hsl0 : Txt.slice (S l) (some x) (some (x + 3)) = S (r.take 3) := by
      rw [slice_any (l := l) k (k + 3) hx (by omega) (by omega), hr, show k + 3 - k = 3 by omega]
    walk_at "MY enterG"
    rcases Nat.lt_or_ge r.length 3 with h3 | h3
    · have hs3 : (Txt.slice (S l) (some x) (some (x + 3))).length = r.length := by rw [hsl0, S_len]; simp; omega
      k_steps
      exact ret _ _ _ (by rw [octA_short h3]) (by k_asm) (by k_asm) (by walk_at "MY kept")
    · rcases r with _ | ⟨c, _ | ⟨a, _ | ⟨b, r⟩⟩⟩ <;> first | (simp at h3; done) | skip
      have hsl : Txt.slice (S l) (some x) (some (x + 3)) = S [c, a, b] := hsl0
      have hs3 : (Txt.slice (S l) (some x) (some (x + 3))).length = 3 := by rw [hsl]; rfl
      have ht0 : Txt.item (Txt.slice (S l) (some x) (some (x + 3))) 0 = S [c] := by rw [hsl]; exact item_S (k := 0) rfl rfl
      have ht1 : Txt.item (Txt.slice (S l) (some x) (some (x + 3))) 1 = S [a] := by rw [hsl]; exact item_S (k := 1) rfl rfl
      have ht2 : Txt.item (Txt.slice (S l) (some x) (some (x + 3))) 2 = S [b] := by rw [hsl]; exact item_S (k := 2) rfl rfl
      have hs1 : Txt.slice (Txt.slice (S l) (some x) (some (x + 3))) (some 1) none = S [a, b] := by
        rw [hsl]; exact slice_from1
      by_cases h37 : c = 37
      · have hb : (Txt.item (Txt.slice (S l) (some x) (some (x + 3))) 0 != Str.ofString "%") = false := by rw [ht0, pctS, h37]; decide +kernel
        obtain ⟨pz, hpz⟩ : ∃ pz : Nat → Bool, ∀ z, pz z = !decide (z ∈ hexA) := ⟨_, fun _ => rfl⟩
        k_steps
        refine Halt.out ?_
        rename Fr _ _ _ _ => F1
        refine comp_text pz F1 rfl (by with_unfolding_all rfl) (by decide) (by with_unfolding_all rfl) (by decide) (by with_unfolding_all rfl) (by intro _; with_unfolding_all rfl) ?_
        k_steps
        rw [hs1]
        rename News _ _ _ _ => N3
        refine Halt.out ⟨_, _, _, rfl, by simp, (by k_asm), N3, ?_, ?_, ?_⟩
        · intro C z tok s₂ m₂ E' hmem hns hm₂ hkp
          obtain ⟨h2, g2, d2, t2, o2⟩ := s₂
          have F4 := Fr.keeps (by k_asm : Fr _ _ _ _) hkp
          have N4 := News.grown N3 hkp
          k_steps
          refine Halt.out ⟨?_, _, _, rfl, fun _ _ e => e⟩
          rw [hexAS, found_S (c := z) rfl, Bool.not_not, hpz]
        · intro C z tok s₂ m₂ E' hmem hns hm₂ hkp
          obtain ⟨h2, g2, d2, t2, o2⟩ := s₂
          have F4 := Fr.keeps (by k_asm : Fr _ _ _ _) hkp
          have N4 := News.grown N3 hkp
          k_steps
          exact Halt.out ⟨⟨_, rfl⟩, _, _, rfl, fun _ _ e => e⟩
        · clear N3
          intro D ys k' h' tk F' N' hne' hI
          (try dsimp only)
          (try k_fold)
          by_cases hab : a ∈ hexA ∧ b ∈ hexA
          · obtain ⟨da, hda⟩ := Option.isSome_iff_exists.mp (mem_hexA.mp hab.1)
            obtain ⟨db, hdb⟩ := Option.isSome_iff_exists.mp (mem_hexA.mp hab.2)
            have hd1 : decide (List.map (fun (_ : Nat) => (1 : Int)) (List.filter pz [a, b]) = []) = true := all_hex hpz hab.1 hab.2
            have hf1 : Txt.find (Str.ofString "0123456789ABCDEF") (Txt.upper (Txt.item (Txt.slice (S l) (some x) (some (x + 3))) 1)) = (da : Int) := by rw [ht1, find_up hab.1, hda]; rfl
            have hf2 : Txt.find (Str.ofString "0123456789ABCDEF") (Txt.upper (Txt.item (Txt.slice (S l) (some x) (some (x + 3))) 2)) = (db : Int) := by rw [ht2, find_up hab.2, hdb]; rfl
            have ho : octA (c :: a :: b :: r) = some (da * 16 + db) := by simp [octA, h37, hexN, hda, hdb]
            have hda16 := hexv_lt hda
            have hdb16 := hexv_lt hdb
            clear hab hda hdb hpz ht0 ht1 ht2 hs1 hb hsl0 hsl hll
            k_steps
            exact ret _ _ _ (by rw [ho]; exact isI (by omega)) (by k_asm) (cb_drop (by k_asm) (by walk_at "MY subr")) (by walk_at "MY kept")
          · have hd1 : decide (List.map (fun (_ : Nat) => (1 : Int)) (List.filter pz [a, b]) = []) = false := not_nil hpz hab
            have ho : octA (c :: a :: b :: r) = none := oct_not h37 hab
            clear hab hpz ht0 ht1 ht2 hs1 hb hsl0 hsl hll
            k_steps
            exact ret _ _ _ (by rw [ho]) (by k_asm) (cb_drop (by k_asm) (by walk_at "MY subr")) (by walk_at "MY kept")
      · have hb : (Txt.item (Txt.slice (S l) (some x) (some (x + 3))) 0 != Str.ofString "%") = true := by rw [ht0, pctS]; simpa [S] using h37
        k_steps
        exact ret _ _ _ (by rw [octA, if_neg h37]) (by k_asm) (by k_asm) (by walk_at "MY kept")
  run_tac go
end

end
section
theorem kw_WD : True := by
  w_top off
  k_with_none
  k_with "MY room" => (first
      | ((try simp only [depth_under_make, depth_under_kw, depth_in1, depth_deeper, depth_caller, Around.mark]); (try dsimp only); omega)
      | ((try simp only [depth_under_make, depth_under_kw, depth_in1, depth_deeper, depth_caller, Around.mark]); (try dsimp only); simp only [recursionLimit] at *; omega))
  k_with "MY units" => ((have hcL9_k := cLine_is; (try simp only [units_in1, units_deeper, Around.mark_units, units_caller]); (try dsimp only); omega))
  k_with "MY enter" => ((refine wpAny_call ?_; k_dflt (refine' code_def ?k1 ?k2 ?k3 ?k4 ?k5 ?kA ?kF ?kK ?k6 ?k7 ?k8 ?k9 ?kB ?_ ?c2 ?c3 ?c4 ?c5; (case kA => exact rfl); (case kF => first | exact rfl | assumption); (case kK => first | exact rfl | assumption); (case k1 => k_asm); (case k2 => k_asm); (case k3 => k_asm); (case k4 => k_asm); (case k5 => k_asm); (case k6 => k_is); (case k7 => k_is); (case k8 => walk_at "MY room"); (case k9 => exact BindsTo.of_eq rfl); (case c5 => decide); (case kB => exact locs rfl); (case c2 => exact rfl); (case c3 => exact rfl); (case c4 => exact rfl); k_whole; intro g'_k L'_k h'_k FG'_k F'_k N'_k B'_k X'_k T'_k; (try dsimp only); (try k_lift B'_k); (try k_fold))))
  k_with "MY here" => ((refine' Here.mk ⟨_, ?h1⟩ ?h2 ?h3 ?h4 ⟨_, _, _, ?h5⟩ ?h6 ?h7 ?h8 ?h9 ?h10 ?h11; (case h6 => exact rfl); (case h1 => k_asm); (case h2 => k_asm); (case h3 => k_asm); (case h4 => k_asm); (case h5 => k_asm); (case h7 => first | exact rfl | assumption); (case h8 => first | exact rfl | assumption); (case h9 => exact rfl); (case h10 => walk_at "MY room"); (case h11 => walk_at "MY units")))
  k_with "MY sub" => ((intro p'_k hp'_k; first | exact hp'_k | (repeat (first | exact hp'_k | refine List.Mem.tail _ ?_))))
  k_with "MY fresh" => (first | assumption | (refine lt_of_all ?_; first | assumption | exact And.right (by assumption) | exact And.right (And.right (by assumption)) | exact And.right (And.right (And.right (by assumption))) | exact And.right (And.right (And.right (And.right (by assumption)))) | exact And.right (And.right (And.right (And.right (And.right (by assumption))))) | exact And.right (And.right (And.right (And.right (And.right (And.right (by assumption)))))) | exact And.right (And.right (And.right (And.right (And.right (And.right (And.right (by assumption)))))))))
  k_with "MY enterG" => ((refine wpAny_call ?_; k_dflt (refine' code_defG ?k1 ?k2 ?k3 ?k4 ?k5 ?kA ?kF ?kK ?k6 ?k7 ?k8 ?k9 ?kB ?_ ?c2 ?c3 ?c4 ?c5; (case kA => exact rfl); (case kF => first | exact rfl | assumption); (case kK => first | exact rfl | assumption); (case k1 => k_asm); (case k2 => k_asm); (case k3 => k_asm); (case k4 => k_asm); (case k5 => k_asm); (case k6 => k_is); (case k7 => k_is); (case k8 => walk_at "MY room"); (case k9 => exact BindsTo.of_eq rfl); (case c5 => decide); (case kB => exact locs rfl); (case c2 => exact rfl); (case c3 => exact rfl); (case c4 => exact rfl); k_whole; intro g'_k L'_k h'_k FG'_k F'_k N'_k B'_k X'_k T'_k kG'_k; (try dsimp only); (try k_lift B'_k); (try k_fold))))
  k_with "MY kept" => ((rename GSub _ _ _ => kG9_k; exact elt_after (InElt.start _) kG9_k (by assumption) (by assumption) (by assumption) (by walk_at "MY sub")))
  k_with "MY subr" => ((intro p'_k hp'_k; first | exact hp'_k | (repeat (first | exact hp'_k | exact List.mem_append_left _ hp'_k | exact List.mem_append_right _ hp'_k | refine List.Mem.tail _ ?_))))
  k_with "MY same" => ((intro z_k h1_k h2_k h3_k; first
      | rfl
      | ((try simp only [List.contains_cons, List.contains_nil, Bool.or_false, Bool.or_eq_false_iff, beq_eq_false_iff_ne, ne_eq] at h3_k); (simp [h1_k, h2_k, h3_k]; done))))
  k_with "MY enterC" => ((refine wpAny_call ?_; k_dflt (refine' code_defC ?k1 ?k2 ?k3 ?k4 ?k5 ?kA ?kF ?kK ?k6 ?k7 ?k8 ?k9 ?kB ?kD ?_ ?c2 ?c3 ?c4; (case kA => exact rfl); (case kF => first | exact rfl | assumption); (case kK => first | exact rfl | assumption); (case k1 => k_asm); (case k2 => k_asm); (case k3 => k_asm); (case k4 => k_asm); (case k5 => k_asm); (case k6 => k_is); (case k7 => k_is); (case k8 => walk_at "MY room"); (case k9 => exact BindsTo.of_eq rfl); (case kB => exact rfl); (case kD => decide +kernel); (case c2 => exact rfl); (case c3 => exact rfl); (case c4 => exact rfl); k_whole; intro g'_k L'_k h'_k tk'_k cells'_k FG'_k F'_k N'_k Y'_k B'_k X'_k T'_k l1_k; (try k_lt l1_k); k_cells Y'_k; (try simp only [List.cons_append, List.nil_append] at N'_k); (try dsimp only); (try k_lift B'_k); (try k_fold))))
  k_with "MY enterT" => ((refine wpAny_call ?_; k_dflt (refine' code_defT ?k1 ?k2 ?k3 ?k4 ?k5 ?kA ?kF ?kK ?k6 ?k7 ?k8 ?k9 ?kB ?_ ?c2 ?c3 ?c4 ?c5; (case kA => exact rfl); (case kF => first | exact rfl | assumption); (case kK => first | exact rfl | assumption); (case k1 => k_asm); (case k2 => k_asm); (case k3 => k_asm); (case k4 => k_asm); (case k5 => k_asm); (case k6 => k_is); (case k7 => k_is); (case k8 => walk_at "MY room"); (case k9 => exact BindsTo.of_eq rfl); (case c5 => decide); (case kB => exact locs rfl); (case c2 => exact rfl); (case c3 => exact rfl); (case c4 => exact rfl); k_whole; intro g'_k L'_k h'_k FG'_k F'_k N'_k B'_k X'_k T'_k; (try dsimp only); (try k_lift B'_k); (try k_fold))))
  trivial
/-- the end of a turn of a while over an int in a cell and a text under a name -/
def EndD (s : Shared) (h₀ : Heap) (L c : Addr) (nF : Str) (news : List (Addr × Obj)) (stored : List Str) (m₀ : Str → Option Value) (P : Int → List Nat → Prop) (lid : Nat) (μ : Int → Nat) (s₃ : Shared) : Prop :=
  ∃ i' ti' f' tf' o' h' tk' m' news', s₃ = { s with heap := h', toks := tk' } ∧ Fr h₀ L h' m' ∧ News h₀ L h' news' ∧ (c, o') ∈ news' ∧ o'.data = .cell (some (.int i' ti')) ∧ (∀ p ∈ news, p ∈ news') ∧ m' nF = some (.str (S f') tf') ∧ (∀ z, z ≠ nF → stored.contains z = false → m' z = m₀ z) ∧ P i' f' ∧ μ i' < lid
theorem endD {s : Shared} {h₀ : Heap} {L c : Addr} {nF : Str} {news : List (Addr × Obj)} {stored : List Str} {m₀ : Str → Option Value} {P : Int → List Nat → Prop} {lid : Nat} {μ : Int → Nat} {i' : Int} {ti' : Tok} {x : Str} {f' : List Nat} {tf' : Tok} {o' : Obj} {h' : Heap} {tk' : Nat} {m' : Str → Option Value} {news' : List (Addr × Obj)}
    (F : Fr h₀ L h' m') (N : News h₀ L h' news') (hc : (c, o') ∈ news') (hd : o'.data = .cell (some (.int i' ti'))) (sub : ∀ p ∈ news, p ∈ news') (hk : m' nF = some (.str x tf')) (hr : ∀ z, z ≠ nF → stored.contains z = false → m' z = m₀ z) (hx : x = S f') (hp : P i' f') (hl : μ i' < lid) :
    EndD s h₀ L c nF news stored m₀ P lid μ { s with heap := h', toks := tk' } := ⟨i', ti', f', tf', o', h', tk', m', news', rfl, F, N, hc, hd, sub, by rw [hk, hx], hr, hp, hl⟩
theorem while_cellS {prog : Program} {w : World} {A : Around} {E : Value → Shared → Prop} {Q : Flow → Shared → Prop} {s : Shared} {env : Env} {h₀ : Heap} {L : Addr} {test : PySem.Expr} {body : List Stmt} {pos : Pos} {m₀ : Str → Option Value} {news : List (Addr × Obj)}
    (c : Addr) (nF : Str) (stored : List Str) (P : Int → List Nat → Prop) (μ : Int → Nat) {i₀ : Int} {t₀ tf₀ : Tok} {x₀ : Str} {o₀ : Obj}
    (F : Fr h₀ L s.heap m₀) (N : News h₀ L s.heap ((c, o₀) :: news)) (hd : o₀.data = .cell (some (.int i₀ t₀))) (hk : m₀ nF = some (.str x₀ tf₀)) (hx : x₀ = S []) (hp : P i₀ [])
    (turn : ∀ (i : Int) (ti : Tok) (f : List Nat) (tf : Tok) (o : Obj) (u : Str → Option Value) (h : Heap) (tk : Nat), o.data = .cell (some (.int i ti)) → P i f → Fr h₀ L h (fun z => if z = nF then some (.str (S f) tf) else if stored.contains z = true then u z else m₀ z) → News h₀ L h ((c, o) :: news) →
      wpAny (model prog w) A (isTrue test env (eval test env)) (fun b s₂ => if b = true then wpAny (model prog w) A (execs body env) (fun f' s₃ => match f' with
          | .ret v => Q (.ret v) s₃
          | .brk => Q .next s₃
          | _ => EndD s h₀ L c nF news stored m₀ P (μ i) μ s₃) E s₂ else Q .next s₂) E { s with heap := h, toks := tk })
    (hE : PassesOwn (model prog w) A env E := by passes_own) : wpAny (model prog w) A (exec (.While test body [] pos) env) Q E s := by
  k_with "MY body" =>
    refine ksw_while (σ := Int × Nat × List Nat × Nat × Obj) (fun k => (c, k.2.2.2.2) :: news) (fun k => [(nF, .str (S k.2.2.1) k.2.2.2.1)]) (fun k => k.2.2.2.2.data = .cell (some (.int k.1 k.2.1))) stored (fun k => P k.1 k.2.2.1) (fun k => μ k.1) (i₀, t₀, [], tf₀, o₀)
      F N hd (fun p hp => by rw [List.mem_singleton.mp hp, hk, hx]) hp (fun k u h tk hf hP F' N' => ?_) hE
    refine wpAny_mono (turn k.1 k.2.1 k.2.2.1 k.2.2.2.1 k.2.2.2.2 u h tk hf hP F' N') (fun b s₂ hb => ?_) fun _ _ x => x
    cases b with
    | false => simpa using hb
    | true =>
      simp only [if_true] at hb ⊢
      refine wpAny_mono hb (fun f s₃ q => ?_) fun _ _ x => x
      have fin : EndD s h₀ L c nF news stored m₀ P (μ k.1) μ s₃ →
          KswEnd h₀ L s (fun (k : Int × Nat × List Nat × Nat × Obj) => (c, k.2.2.2.2) :: news) (fun k => [(nF, .str (S k.2.2.1) k.2.2.2.1)]) (fun k => k.2.2.2.2.data = .cell (some (.int k.1 k.2.1))) stored m₀ (fun k => P k.1 k.2.2.1) (fun k => μ k.1) k s₃ := by
        rintro ⟨i', ti', f', tf', o', h', tk', m', news', e, F'', N'', hc, hd', h2, h3, h5, h6, h7⟩
        refine ⟨(i', ti', f', tf', o'), h', tk', m', news', e, F'', N'', fun p hp => ?_, hd', fun p hp => by rw [List.mem_singleton.mp hp]; exact h3, fun z hz hs => h5 z (hz _ (.head _)) hs, h6, h7⟩
        rcases List.mem_cons.mp hp with rfl | hp
        · exact hc
        · exact h2 p hp
      cases f with
      | ret v => exact q
      | brk => exact q
      | next => exact fin q
      | cont => exact fin q
  run_tac go
/-- how many octets the first one calls for, as the law reckons -/
def manyL (o : Nat) : Nat := if o < 128 then 1 else if o / 32 = 6 then 2 else if o / 16 = 14 then 3 else if o / 8 = 30 then 4 else 0
def bitsL (os : List Nat) : List Nat := match os with
  | [] => []
  | o :: r => bitsN o (if r.length + 1 > 1 then 7 - (r.length + 1) else 7) ++ r.flatMap fun p => bitsN p 6
/-- how many octets tell the sign that begins here, and its units, by the law -/
def headL (t : List Nat) : Option (Nat × List Nat) := match octA t with
  | none => none
  | some o => if manyL o = 0 then none else match octsA (manyL o) t with
    | none => none
    | some os => if os.tail.all (fun p => p / 64 == 2) then
        (let sg := numN (bitsL os)
         if 1114111 < sg ∨ sg / 2048 = 27 ∨ ¬ octs sg = os then none else some (manyL o, unitsN sg))
      else none
def DecQ (hd : List Nat → Option (Nat × List Nat)) (l lf : List Nat) (i : Int) (f : List Nat) : Prop :=
  ∃ p r, l = p ++ r ∧ i = (p.length : Nat) ∧ f.length ≤ p.length ∧ decG hd lf l = (decG hd lf r).map (f ++ ·)
theorem decq_start (hd l lf) : DecQ hd l lf 0 [] := ⟨[], l, rfl, rfl, Nat.le_refl _, by simp⟩
theorem decq_plain {hd} {l lf p r : List Nat} {c : Nat} {i : Int} {f : List Nat} (hl : l = p ++ c :: r) (ha : i = (p.length : Nat)) (hn : f.length ≤ p.length)
    (he : decG hd lf l = (decG hd lf (c :: r)).map (f ++ ·)) (hc : ¬ c = 37) : DecQ hd l lf (i + 1) (f ++ [c]) := by
  k_with "MY body" =>
    refine ⟨p ++ [c], r, by simp [hl], by simp; omega, by simp; omega, ?_⟩
    rw [he, decG_plain hc, show (decG hd lf r).map (c :: ·) = (decG hd lf r).map ([c] ++ ·) from rfl, map_map_app]
  run_tac go
theorem decq_some {hd} {l lf p r : List Nat} {i j : Int} {f : List Nat} {n : Nat} {us : List Nat} (hl : l = p ++ 37 :: r) (ha : i = (p.length : Nat)) (hn : f.length ≤ p.length)
    (he : decG hd lf l = (decG hd lf (37 :: r)).map (f ++ ·)) (hh : hd (37 :: r) = some (n, us)) (h1 : 1 ≤ n) (h3 : 3 * n ≤ r.length + 1) (hu : us.length ≤ 2) (hj : j = i + (3 * n : Nat)) : DecQ hd l lf j (f ++ (if inS lf us then (37 :: r).take (3 * n) else us)) := by
  k_with "MY body" =>
    subst hj
    have e : (37 :: r).take (3 * n) ++ r.drop (3 * n - 1) = 37 :: r := by
      obtain ⟨k, hk⟩ : ∃ k, 3 * n = k + 1 := ⟨3 * n - 1, by omega⟩
      rw [hk]; simp
    have hlen : ((37 :: r).take (3 * n)).length = 3 * n := by simp; omega
    refine ⟨p ++ (37 :: r).take (3 * n), r.drop (3 * n - 1), by rw [hl, List.append_assoc, e], by rw [List.length_append, hlen]; omega, ?_, ?_⟩
    · rw [List.length_append, List.length_append, hlen]
      split
      · rw [hlen]; omega
      · omega
    · rw [he, decG_some hh, map_map_app]
  run_tac go
theorem decq_end {hd l lf} {f : List Nat} (he : decG hd lf l = (decG hd lf []).map (f ++ ·)) : decG hd lf l = some f := by
  k_with "MY body" =>
    rw [he, decG_nil]; simp
  run_tac go
theorem decq_none {hd l lf r} {f : List Nat} (he : decG hd lf l = (decG hd lf (37 :: r)).map (f ++ ·)) (h : hd (37 :: r) = none) : decG hd lf l = none := by
  k_with "MY body" =>
    rw [he, decG_none h]; rfl
  run_tac go
theorem headL_oct {t : List Nat} (h : octA t = none) : headL t = none := by simp [headL, h]
theorem headL_zero {t : List Nat} {o : Nat} (h : octA t = some o) (h0 : manyL o = 0) : headL t = none := by simp [headL, h, h0]
theorem headL_octs {t : List Nat} {o : Nat} (h : octA t = some o) (h1 : octsA (manyL o) t = none) : headL t = none := by simp [headL, h, h1]
theorem headL_cont {t os : List Nat} {o : Nat} (h : octA t = some o) (h1 : octsA (manyL o) t = some os) (h2 : os.tail.all (fun p => p / 64 == 2) = false) : headL t = none := by simp [headL, h, h1, h2]
theorem headL_bad {t os : List Nat} {o : Nat} (h : octA t = some o) (h1 : octsA (manyL o) t = some os) (h3 : 1114111 < numN (bitsL os) ∨ numN (bitsL os) / 2048 = 27 ∨ ¬ octs (numN (bitsL os)) = os) : headL t = none := by
  k_with "MY body" =>
    simp only [headL, h, h1]
    split
    · rfl
    · split
      · first | rfl | rw [if_pos h3]
      · rfl
  run_tac go
theorem headL_some {t os : List Nat} {o : Nat} (h : octA t = some o) (h0 : ¬ manyL o = 0) (h1 : octsA (manyL o) t = some os) (h2 : os.tail.all (fun p => p / 64 == 2) = true) (h3 : ¬ (1114111 < numN (bitsL os) ∨ numN (bitsL os) / 2048 = 27 ∨ ¬ octs (numN (bitsL os)) = os)) : headL t = some (manyL o, unitsN (numN (bitsL os))) := by
  k_with "MY body" =>
    simp only [headL, h, h1]
    rw [if_neg h0, if_pos h2, if_neg h3]
  run_tac go
theorem manyL_le (o : Nat) : manyL o ≤ 4 := by unfold manyL; (repeat' split) <;> omega
def isNoneV : Value → Bool
  | .none => true
  | _ => false
theorem in_none {prog : Program} {w : World} {A : Around} {E : Value → Shared → Prop} {s : Shared} {a : Addr} {vs : List Value} {Q : Value → Shared → Prop} (hl : s.heap.IsList a vs.toArray) (hv : ∀ v ∈ vs, v = Value.none ∨ ∃ k t, v = Value.int k t) (h : Q (.bool (vs.any isNoneV)) s) :
    wpAny (model prog w) A (compareOp .In .none (.ref a)) Q E s := by
  k_with "MY body" =>
    refine SeqAt.in_listAt isNoneV hl (fun y hy => ?_) (by simpa using h)
    rcases hv y (by simpa using hy) with rfl | ⟨k, t, rfl⟩
    · exact SeqAt.EqAt.same _
    · exact SeqAt.EqAt.int_none k t
  run_tac go
/-- what _law_octet hands back -/
def OctV (t : List Nat) (v : Value) : Prop := match octA t with
  | some k => ∃ u, v = Value.int (k : Nat) u
  | none => v = Value.none
theorem vals_kind {t : List Nat} {vs : List Value} (h : ∀ (i : Nat) (v : Value), vs[i]? = some v → OctV (t.drop (3 * i)) v) : ∀ v ∈ vs, v = Value.none ∨ ∃ k u, v = Value.int k u := fun v hv => by
  obtain ⟨i, hi⟩ := List.mem_iff_getElem?.mp hv
  have := h i v hi
  unfold OctV at this
  split at this
  · obtain ⟨u, e⟩ := this; exact .inr ⟨_, u, e⟩
  · exact .inl this
theorem vals_oct {t : List Nat} : ∀ {n : Nat} {vs : List Value}, vs.length = n → (∀ (i : Nat) (v : Value), vs[i]? = some v → OctV (t.drop (3 * i)) v) →
    (octsA n t = none → vs.any isNoneV = true) ∧ (∀ os, octsA n t = some os → IntsAre vs (Z os) ∧ vs.any isNoneV = false)
  | 0, vs, hl, _ => by
    rw [List.eq_nil_of_length_eq_zero hl]
    exact ⟨fun h => (by cases h), fun os h => (by cases h; exact ⟨ints_nil, rfl⟩)⟩
  | n + 1, [], hl, _ => by simp at hl
  | n + 1, v :: vs, hl, hg => by
    have h0 : OctV t v := by simpa using hg 0 v rfl
    have ih := vals_oct (t := t.drop 3) (n := n) (vs := vs) (by simpa using hl) fun i u e => by
      have := hg (i + 1) u (by simpa using e)
      rw [List.drop_drop, show 3 + 3 * i = 3 * (i + 1) by omega]
      exact this
    unfold OctV at h0
    cases ho : octA t with
    | none =>
      rw [ho] at h0
      simp only at h0
      subst h0
      exact ⟨fun _ => by simp [isNoneV], fun os h => by simp [octsA, ho] at h⟩
    | some k =>
      rw [ho] at h0
      obtain ⟨u, rfl⟩ := h0
      refine ⟨fun h => ?_, fun os h => ?_⟩
      · have : octsA n (t.drop 3) = none := by
          simp only [octsA, ho] at h
          cases hr : octsA n (t.drop 3) with
          | none => rfl
          | some q => rw [hr] at h; cases h
        simp [List.any_cons, ih.1 this]
      · simp only [octsA, ho] at h
        cases hr : octsA n (t.drop 3) with
        | none => rw [hr] at h; cases h
        | some q =>
          rw [hr] at h
          cases h
          obtain ⟨a, b⟩ := ih.2 q hr
          exact ⟨ints_cons rfl a, by simp [List.any_cons, b, isNoneV]⟩
theorem ones_of_carried {ys : List Value} {ns : List Nat} {pz : Nat → Bool} (h : CarriedAll ys (((Z ns).filter fun n : Int => pz n.toNat).map fun _ : Int => PyData.int 1)) : IntsAre ys ((ns.filter pz).map fun _ => (1 : Int)) := by
  k_with "MY body" =>
    have e : ((Z ns).filter fun n : Int => pz n.toNat).map (fun _ : Int => PyData.int 1) = ((ns.filter pz).map fun _ => (1 : Int)).map PyData.int := by
      rw [Z, List.filter_map, List.map_map, List.map_map]
      have : ((fun n : Int => pz n.toNat) ∘ fun (n : Nat) => (n : Int)) = pz := by funext n; simp
      rw [this]
      rfl
    rw [e] at h
    simpa using ints_of_carried h
  run_tac go
theorem comp_ones {prog : Program} {w : World} {A : Around} {E : Value → Shared → Prop} {s : Shared} {h₀ : Heap} {L : Addr} {m : Str → Option Value} {env : Env} {elt iter : Expr} {x : Str} {px : Pos} {ifs : List Expr} {scope : Scope} {cl : List (Str × Addr)} {pos : Pos} {Q : Value → Shared → Prop} (pz : Nat → Bool)
    (_F : Fr h₀ L s.heap m) (hh : A.handled = none) (hclos : closureFor scope env = pure cl) (hcell : ∀ y ∈ scope.names, y.2 ≠ .cell) (hkind : scope.kind = .function)
    (hnames : ∀ y ∈ scope.names, y.2 = .local → scope.names.lookup y.1 = some .local) (hx : scope.names.lookup x = some .local) (hs : ∀ x, foldedSetIterable iter env x = pure x)
    (h : wpAny (model prog w) A (eval iter env) (fun xv s₁ => Halt (∃ news ax vs ns, xv = .ref ax ∧ s₁.heap.IsList ax (List.toArray vs) ∧ IntsAre vs (Z ns) ∧ ns.length ≤ 1000 ∧ Fr h₀ L s₁.heap m ∧ News h₀ L s₁.heap news ∧
      (∀ C n tok s₂ m₂ E', n ∈ ns → s₂.heap.Ns (compEnvC scope cl C env).locals m₂ → m₂ x = some (.int (n : Nat) tok) → (∀ b o, s₁.heap.get? b = some o → s₂.heap.get? b = some o) →
        wpAny (model prog w) A (forIn ifs true fun c r => if r = true then do let ok ← isTrue c (compEnvC scope cl C env) (eval c (compEnvC scope cl C env)); pure (ForInStep.yield ok) else pure (ForInStep.yield r))
          (fun ok s₃ => Halt (ok = pz n ∧ Keeps s₂ s₃)) E' s₂) ∧
      (∀ C n tok s₂ m₂ E', n ∈ ns → s₂.heap.Ns (compEnvC scope cl C env).locals m₂ → m₂ x = some (.int (n : Nat) tok) → (∀ b o, s₁.heap.get? b = some o → s₂.heap.get? b = some o) →
        wpAny (model prog w) A (eval elt (compEnvC scope cl C env)) (fun y s₃ => Halt ((∃ t, y = .int 1 t) ∧ Keeps s₂ s₃)) E' s₂) ∧
      (∀ D ys k h' tk, Fr h₀ L h' m → News h₀ L h' ((D, listOf (List.toArray ys) k) :: news) → (∀ p ∈ news, p.1 ≠ D) → IntsAre ys ((ns.filter pz).map fun _ => (1 : Int)) → Q (.ref D) { s₁ with heap := h', toks := tk }))) E s) :
    wpAny (model prog w) A (eval (.ListComp elt [⟨.Name x px, iter, ifs, 0⟩] scope pos) env) Q E s := by
  k_with "MY body" =>
    refine ListComp_DCn (K := .int) (h₀ := h₀) (L := L) (m := m) (pz := fun n : Int => pz n.toNat) (d := fun _ : Int => PyData.int 1) hh hclos hcell hkind hnames hx (wpAny_mono h (fun xv s₁ h₁ => ?_) fun _ _ e => e) hs
    obtain ⟨news, ax, vs, ns, rfl, hl, hi, hz, F, N, ht, he, hq⟩ := h₁
    refine ⟨news, ax, vs, Z ns, rfl, hl, hi.areOf, by rw [List.length_map, sizeLine_eq]; omega, F, N, ?_, ?_, ?_⟩
    · intro C a v s₂ m₂ E' _ ha hv hn hm hk
      obtain ⟨n, hn', rfl⟩ := List.mem_map.mp ha
      obtain ⟨tok, rfl⟩ := ItemKind.int_is hv
      exact ht C n tok s₂ m₂ E' hn' hn hm hk
    · intro C a v s₂ m₂ E' _ ha hv _ hn hm hk
      obtain ⟨n, hn', rfl⟩ := List.mem_map.mp ha
      obtain ⟨tok, rfl⟩ := ItemKind.int_is hv
      refine wpAny_mono (he C n tok s₂ m₂ E' hn' hn hm hk) (fun y s₃ q => ?_) fun _ _ e => e
      obtain ⟨⟨t, rfl⟩, hk'⟩ := q
      exact ⟨.int _ _, hk'⟩
    · intro D ys h' tk F' N' hD hl' hp hc
      obtain ⟨⟨k, hk⟩, hne⟩ := hp
      have F0 : h'.get? D = some (listOf (List.toArray ys) k) := hk
      refine hq D ys k h' tk F' (fun p hp => ?_) hne (ones_of_carried hc)
      rcases List.mem_cons.mp hp with rfl | hp
      · refine ⟨F0, ?_, hD⟩
        rintro rfl
        obtain ⟨oL, es, ep, hL, hd, _⟩ := F'.ns
        rw [hL] at F0
        cases F0; cases hd
      · exact N' p hp
  run_tac go
end
section
theorem kw_WE : True := by
  w_top off
  k_with_none
  k_with "MY room" => (first
      | ((try simp only [depth_under_make, depth_under_kw, depth_in1, depth_deeper, depth_caller, Around.mark]); (try dsimp only); omega)
      | ((try simp only [depth_under_make, depth_under_kw, depth_in1, depth_deeper, depth_caller, Around.mark]); (try dsimp only); simp only [recursionLimit] at *; omega))
  k_with "MY units" => ((have hcL9_k := cLine_is; (try simp only [units_in1, units_deeper, Around.mark_units, units_caller]); (try dsimp only); omega))
  k_with "MY enter" => ((refine wpAny_call ?_; k_dflt (refine' code_def ?k1 ?k2 ?k3 ?k4 ?k5 ?kA ?kF ?kK ?k6 ?k7 ?k8 ?k9 ?kB ?_ ?c2 ?c3 ?c4 ?c5; (case kA => exact rfl); (case kF => first | exact rfl | assumption); (case kK => first | exact rfl | assumption); (case k1 => k_asm); (case k2 => k_asm); (case k3 => k_asm); (case k4 => k_asm); (case k5 => k_asm); (case k6 => k_is); (case k7 => k_is); (case k8 => walk_at "MY room"); (case k9 => exact BindsTo.of_eq rfl); (case c5 => decide); (case kB => exact locs rfl); (case c2 => exact rfl); (case c3 => exact rfl); (case c4 => exact rfl); k_whole; intro g'_k L'_k h'_k FG'_k F'_k N'_k B'_k X'_k T'_k; (try dsimp only); (try k_lift B'_k); (try k_fold))))
  k_with "MY here" => ((refine' Here.mk ⟨_, ?h1⟩ ?h2 ?h3 ?h4 ⟨_, _, _, ?h5⟩ ?h6 ?h7 ?h8 ?h9 ?h10 ?h11; (case h6 => exact rfl); (case h1 => k_asm); (case h2 => k_asm); (case h3 => k_asm); (case h4 => k_asm); (case h5 => k_asm); (case h7 => first | exact rfl | assumption); (case h8 => first | exact rfl | assumption); (case h9 => exact rfl); (case h10 => walk_at "MY room"); (case h11 => walk_at "MY units")))
  k_with "MY sub" => ((intro p'_k hp'_k; first | exact hp'_k | (repeat (first | exact hp'_k | refine List.Mem.tail _ ?_))))
  k_with "MY fresh" => (first | assumption | (refine lt_of_all ?_; first | assumption | exact And.right (by assumption) | exact And.right (And.right (by assumption)) | exact And.right (And.right (And.right (by assumption))) | exact And.right (And.right (And.right (And.right (by assumption)))) | exact And.right (And.right (And.right (And.right (And.right (by assumption))))) | exact And.right (And.right (And.right (And.right (And.right (And.right (by assumption)))))) | exact And.right (And.right (And.right (And.right (And.right (And.right (And.right (by assumption)))))))))
  k_with "MY enterG" => ((refine wpAny_call ?_; k_dflt (refine' code_defG ?k1 ?k2 ?k3 ?k4 ?k5 ?kA ?kF ?kK ?k6 ?k7 ?k8 ?k9 ?kB ?_ ?c2 ?c3 ?c4 ?c5; (case kA => exact rfl); (case kF => first | exact rfl | assumption); (case kK => first | exact rfl | assumption); (case k1 => k_asm); (case k2 => k_asm); (case k3 => k_asm); (case k4 => k_asm); (case k5 => k_asm); (case k6 => k_is); (case k7 => k_is); (case k8 => walk_at "MY room"); (case k9 => exact BindsTo.of_eq rfl); (case c5 => decide); (case kB => exact locs rfl); (case c2 => exact rfl); (case c3 => exact rfl); (case c4 => exact rfl); k_whole; intro g'_k L'_k h'_k FG'_k F'_k N'_k B'_k X'_k T'_k kG'_k; (try dsimp only); (try k_lift B'_k); (try k_fold))))
  k_with "MY kept" => ((rename GSub _ _ _ => kG9_k; exact elt_after (InElt.start _) kG9_k (by assumption) (by assumption) (by assumption) (by walk_at "MY sub")))
  k_with "MY subr" => ((intro p'_k hp'_k; first | exact hp'_k | (repeat (first | exact hp'_k | exact List.mem_append_left _ hp'_k | exact List.mem_append_right _ hp'_k | refine List.Mem.tail _ ?_))))
  k_with "MY same" => ((intro z_k h1_k h2_k h3_k; first
      | rfl
      | ((try simp only [List.contains_cons, List.contains_nil, Bool.or_false, Bool.or_eq_false_iff, beq_eq_false_iff_ne, ne_eq] at h3_k); (simp [h1_k, h2_k, h3_k]; done))))
  k_with "MY enterC" => ((refine wpAny_call ?_; k_dflt (refine' code_defC ?k1 ?k2 ?k3 ?k4 ?k5 ?kA ?kF ?kK ?k6 ?k7 ?k8 ?k9 ?kB ?kD ?_ ?c2 ?c3 ?c4; (case kA => exact rfl); (case kF => first | exact rfl | assumption); (case kK => first | exact rfl | assumption); (case k1 => k_asm); (case k2 => k_asm); (case k3 => k_asm); (case k4 => k_asm); (case k5 => k_asm); (case k6 => k_is); (case k7 => k_is); (case k8 => walk_at "MY room"); (case k9 => exact BindsTo.of_eq rfl); (case kB => exact rfl); (case kD => decide +kernel); (case c2 => exact rfl); (case c3 => exact rfl); (case c4 => exact rfl); k_whole; intro g'_k L'_k h'_k tk'_k cells'_k FG'_k F'_k N'_k Y'_k B'_k X'_k T'_k l1_k; (try k_lt l1_k); k_cells Y'_k; (try simp only [List.cons_append, List.nil_append] at N'_k); (try dsimp only); (try k_lift B'_k); (try k_fold))))
  k_with "MY enterT" => ((refine wpAny_call ?_; k_dflt (refine' code_defT ?k1 ?k2 ?k3 ?k4 ?k5 ?kA ?kF ?kK ?k6 ?k7 ?k8 ?k9 ?kB ?_ ?c2 ?c3 ?c4 ?c5; (case kA => exact rfl); (case kF => first | exact rfl | assumption); (case kK => first | exact rfl | assumption); (case k1 => k_asm); (case k2 => k_asm); (case k3 => k_asm); (case k4 => k_asm); (case k5 => k_asm); (case k6 => k_is); (case k7 => k_is); (case k8 => walk_at "MY room"); (case k9 => exact BindsTo.of_eq rfl); (case c5 => decide); (case kB => exact locs rfl); (case c2 => exact rfl); (case c3 => exact rfl); (case c4 => exact rfl); k_whole; intro g'_k L'_k h'_k FG'_k F'_k N'_k B'_k X'_k T'_k; (try dsimp only); (try k_lift B'_k); (try k_fold))))
  trivial
/-- the end of a turn of a for that turns a list of numbers under a name -/
def EndL (s : Shared) (h₀ : Heap) (L : Addr) (x nV : Str) (m₀ : Str → Option Value) (news own : List (Addr × Obj)) (P : List Nat → Prop) (s₃ : Shared) : Prop :=
  ∃ h' tk' m' news' b ws k bs, s₃ = { s with heap := h', toks := tk' } ∧ Fr h₀ L h' m' ∧ News h₀ L h' news' ∧ (b, listOf (List.toArray ws) k) ∈ news' ∧ IntsAre ws (Z bs) ∧ (∀ p ∈ news ++ own, p ∈ news') ∧ m' nV = some (.ref b) ∧ (∀ z, z ≠ x → z ≠ nV → m' z = m₀ z) ∧ P bs
theorem endL {s : Shared} {h₀ : Heap} {L : Addr} {x nV : Str} {m₀ : Str → Option Value} {news own : List (Addr × Obj)} {P : List Nat → Prop} {h' : Heap} {tk' : Nat} {m' : Str → Option Value} {news' : List (Addr × Obj)} {b : Addr} {ws : List Value} {k : Nat} {bs : List Nat}
    (F : Fr h₀ L h' m') (N : News h₀ L h' news') (hb : (b, listOf (List.toArray ws) k) ∈ news') (hw : IntsAre ws (Z bs)) (sub : ∀ p ∈ news ++ own, p ∈ news') (hk : m' nV = some (.ref b)) (hr : ∀ z, z ≠ x → z ≠ nV → ([] : List Str).contains z = false → m' z = m₀ z) (hp : P bs) :
    EndL s h₀ L x nV m₀ news own P { s with heap := h', toks := tk' } := ⟨h', tk', m', news', b, ws, k, bs, rfl, F, N, hb, hw, sub, hk, fun z h1 h2 => hr z h1 h2 rfl, hp⟩
section
variable {prog : Program} {w : World} {A : Around} {E : Value → Shared → Prop} {s : Shared} {env : Env} {h₀ : Heap} {body : List Stmt} {Q : Flow → Shared → Prop} {m₀ : Str → Option Value} {news : List (Addr × Obj)}
theorem turn_listL {x : Str} {a b₀ : Addr} {vs ws₀ : List Value} {ns : List Int} {nn k₀ : Nat} {bs₀ : List Nat} (nV : Str) (P : List Int → List Nat → Prop) (hh : A.handled = none)
    (F : Fr h₀ env.locals s.heap m₀) (N : News h₀ env.locals s.heap news) (hm : (a, listOf (List.toArray vs) nn) ∈ news) (hI : IntsAre vs ns)
    (hb : (b₀, listOf (List.toArray ws₀) k₀) ∈ news) (hw : IntsAre ws₀ (Z bs₀)) (hk : m₀ nV = some (.ref b₀)) (hp : P [] bs₀)
    (turn : ∀ (b : Addr) (ws : List Value) (k : Nat) (bs : List Nat) (pre : List Int) (n : Int) (post : List Int) (t : Tok) (h : Heap) (tk : Nat) (own : List (Addr × Obj)), ns = pre ++ n :: post → P pre bs → IntsAre ws (Z bs) →
      Fr h₀ env.locals h (fun y => if y = x then some (.int n t) else if y = nV then some (.ref b) else m₀ y) → News h₀ env.locals h ((b, listOf (List.toArray ws) k) :: (news ++ own)) →
      wpAny (model prog w) A (execs body env) (fun f s₃ => match f with
        | .ret r => Q (.ret r) s₃
        | .brk => Q .next s₃
        | _ => EndL s h₀ env.locals x nV m₀ news own (P (pre ++ [n])) s₃) E { s with heap := h, toks := tk })
    (done : ∀ (b : Addr) (ws : List Value) (k : Nat) (bs : List Nat) (u : Str → Option Value) (h : Heap) (tk : Nat), P ns bs → IntsAre ws (Z bs) →
      Fr h₀ env.locals h (fun y => if y = x then u y else if y = nV then some (.ref b) else m₀ y) → News h₀ env.locals h ((b, listOf (List.toArray ws) k) :: news) → Q .next { s with heap := h, toks := tk }) :
    wpAny (model prog w) A (pyIter (.ref a)) (fun it s₂ => LoopAtV prog w A h₀ env x body Q E it s₂) E s := by
  k_with "MY body" =>
    have ha := (N _ hm).1
    have la := Heap.lt_size ha
    have hls : s.heap.IsList a (List.toArray vs) := ⟨_, ha, rfl, nn, rfl⟩
    refine wpAny_pyIter_list hls ?_
    have W := Walks.list (prog := prog) (w := w) hh s.heap.objs.size a (Nat.ne_of_lt la) (List.toArray vs)
    rw [show (List.toArray vs).size = ns.length by simp [hI.length]] at W
    refine ⟨_, _, _, ns.length, _, _, m₀, (b₀, listOf (List.toArray ws₀) k₀) :: news,
      (fun i m nx => ∃ b ws k bs, nx = (b, listOf (List.toArray ws) k) :: news ∧ m nV = some (.ref b) ∧ IntsAre ws (Z bs) ∧ P (ns.take i) bs ∧ ∀ z, z ≠ x → z ≠ nV → m z = m₀ z),
      rfl, W, ?_, ?_, ?_, ⟨⟨_, Heap.get?_push_size _ rfl, rfl, rfl⟩, hls.at fun o e => Heap.get?_push_of_some _ e⟩, F.push _, ?_, ⟨b₀, ws₀, k₀, bs₀, rfl, hk, hw, hp, fun _ _ _ => rfl⟩, ?_, ?_⟩
    · intro q
      rcases List.mem_cons.mp q with e | q
      · exact absurd F.ns.lt (e ▸ Nat.lt_irrefl _)
      · exact (N _ hm).2.1 (List.mem_singleton.mp q).symm
    · intro b q
      rw [List.mem_singleton.mp q]
      exact next_is_new F
    · intro p q hI
      have : p ∈ news := (List.mem_cons.mp q).elim (fun e => e ▸ hb) id
      exact absurd (Heap.lt_size (N p this).1) ((List.mem_singleton.mp hI) ▸ Nat.lt_irrefl _)
    · intro p q
      have : p ∈ news := (List.mem_cons.mp q).elim (fun e => e ▸ hb) id
      exact ⟨Heap.get?_push_of_some _ (N p this).1, (N p this).2⟩
    · rintro i v m₁ news₁ s₁ own ⟨h1, tk1, rfl⟩ hin hP ⟨b, ws, k, bs, rfl, hk1, hw1, hp1, hr1⟩ hoff hown hget hfp hst F1 N1
      have hlt : i < ns.length := hin
      obtain ⟨t, hx⟩ := hI.get i ns[i] (by simp [hlt])
      have hv : v = .int ns[i] t := by
        have q : vs[i]? = some v := by simpa using hP
        rw [hx] at q; exact (Option.some.inj q).symm
      subst hv
      have e : ns = ns.take i ++ ns[i] :: ns.drop (i + 1) := by rw [← List.drop_eq_getElem_cons hlt, List.take_append_drop]
      have hs : ns.take (i + 1) = ns.take i ++ [ns[i]] := by rw [List.take_add_one, List.getElem?_eq_getElem hlt]; rfl
      obtain ⟨⟨oI, hoI, hcI, hdI⟩, _⟩ := hst
      have hnI : h₀.get? s.heap.objs.size = none := next_is_new F
      have mI : (s.heap.objs.size, oI) ∈ own := hfp _ (.head _) hnI _ hoI
      have N2 : News h₀ env.locals h1 ((b, listOf (List.toArray ws) k) :: (news ++ own)) := fun p q => N1 p (by
        rcases List.mem_cons.mp q with q | q
        · exact List.mem_append_right _ (q ▸ .head _)
        · rcases List.mem_append.mp q with q | q
          · exact List.mem_append_right _ (.tail _ q)
          · exact List.mem_append_left _ q)
      have eF : (fun y => if y = x then some (Value.int ns[i] t) else m₁ y) = fun y => if y = x then some (.int ns[i] t) else if y = nV then some (.ref b) else m₀ y := by
        funext y
        by_cases h1 : y = x
        · simp only [if_pos h1]
        · by_cases h2 : y = nV
          · simp only [if_neg h1, if_pos h2]; rw [h2, hk1]
          · simp only [if_neg h1, if_neg h2]; exact hr1 y h1 h2
      rw [eF] at F1
      refine wpAny_mono (turn b ws k bs _ _ _ t h1 tk1 own e hp1 hw1 F1 N2) (fun f s₃ q => ?_) fun _ _ q => q
      have fin : EndL s h₀ env.locals x nV m₀ news own (P (ns.take i ++ [ns[i]])) s₃ → LoopStepU h₀ env.locals [s.heap.objs.size] own
          (fun m nx => ∃ b ws k bs, nx = (b, listOf (List.toArray ws) k) :: news ∧ m nV = some (.ref b) ∧ IntsAre ws (Z bs) ∧ P (ns.take (i + 1)) bs ∧ ∀ z, z ≠ x → z ≠ nV → m z = m₀ z) { s with heap := h1, toks := tk1 } .next s₃ := by
        rintro ⟨h', tk', m', news', b', ws', k', bs', e3, F', N', hb', hw', sub, hk', hr', hp'⟩
        refine ⟨rfl, h', tk', m', (b', listOf (List.toArray ws') k') :: news, e3, F', fun p q => ?_, fun p q hI => ?_, b', ws', k', bs', rfl, hk', hw', hs ▸ hp', hr'⟩
        · rcases List.mem_append.mp q with q | q
          · exact N' p (sub p (List.mem_append_right _ q))
          · rcases List.mem_cons.mp q with q | q
            · exact N' p (q ▸ hb')
            · exact N' p (sub p (List.mem_append_left _ q))
        · have hI := List.mem_singleton.mp hI
          rcases List.mem_cons.mp q with q | q
          · have h1 := (N' _ hb').1
            have h2 := (N' _ (sub _ (List.mem_append_right _ mI))).1
            subst q
            rw [← hI, h1] at h2
            cases h2
            cases hdI
          · exact absurd (Heap.lt_size (N p q).1) (hI ▸ Nat.lt_irrefl _)
      cases f with
      | ret v => exact .ret q
      | brk => exact .brk q
      | next => exact .next (fin q)
      | cont => exact .cont (fin q)
    · rintro h' tk m' news' F' N' _ ⟨b, ws, k, bs, rfl, hk1, hw1, hp1, hr1⟩
      rw [List.take_length] at hp1
      refine done b ws k bs m' h' tk hp1 hw1 ?_ N'
      have : (fun y => if y = x then m' y else if y = nV then some (.ref b) else m₀ y) = m' := by
        funext y
        by_cases h1 : y = x
        · simp only [if_pos h1]
        · by_cases h2 : y = nV
          · simp only [if_neg h1, if_pos h2]; rw [h2, hk1]
          · simp only [if_neg h1, if_neg h2]; exact (hr1 y h1 h2).symm
      rw [this]; exact F'
  run_tac go
/-- an assignment of an int, whose branches all give one number -/
theorem cut_int {x : Stmt} (nV : Str) (val : Int) {L : Addr} {m : Str → Option Value} (_F : Fr h₀ L s.heap m) (_N : News h₀ L s.heap news)
    (h1 : wpAny (model prog w) A (exec x env) (fun f s' => Halt (f = .next ∧ ∃ v t h' tk', s' = { s with heap := h', toks := tk' } ∧ v = val ∧ Fr h₀ L h' (fun z => if z = nV then some (.int v t) else m z) ∧ News h₀ L h' news)) E s)
    (h2 : ∀ t h' tk', Fr h₀ L h' (fun z => if z = nV then some (.int val t) else m z) → News h₀ L h' news → Q .next { s with heap := h', toks := tk' }) :
    wpAny (model prog w) A (exec x env) Q E s :=
  wpAny_mono h1 (fun f s' q => by obtain ⟨rfl, v, t, h', tk', rfl, rfl, F, N⟩ := q; exact h2 t h' tk' F N) fun _ _ q => q
/-- an assignment of a list of numbers, whose branches all give one list -/
theorem cut_list {x : Stmt} (nV : Str) (ks : List Nat) {L : Addr} {m : Str → Option Value} (_F : Fr h₀ L s.heap m) (_N : News h₀ L s.heap news)
    (h1 : wpAny (model prog w) A (exec x env) (fun f s' => Halt (f = .next ∧ ∃ b ws k h' tk', s' = { s with heap := h', toks := tk' } ∧ IntsAre ws (Z ks) ∧ Fr h₀ L h' (fun z => if z = nV then some (.ref b) else m z) ∧ News h₀ L h' ((b, listOf (List.toArray ws) k) :: news))) E s)
    (h2 : ∀ b ws k h' tk', IntsAre ws (Z ks) → Fr h₀ L h' (fun z => if z = nV then some (.ref b) else m z) → News h₀ L h' ((b, listOf (List.toArray ws) k) :: news) → Q .next { s with heap := h', toks := tk' }) :
    wpAny (model prog w) A (exec x env) Q E s :=
  wpAny_mono h1 (fun f s' q => by obtain ⟨rfl, b, ws, k, h', tk', rfl, hi, F, N⟩ := q; exact h2 b ws k h' tk' hi F N) fun _ _ q => q
end

end
section
theorem kw_L8 : True := by
  w_top off
  k_with_none
  k_with "MY room" => (first
      | ((try simp only [depth_under_make, depth_under_kw, depth_in1, depth_deeper, depth_caller, Around.mark]); (try dsimp only); omega)
      | ((try simp only [depth_under_make, depth_under_kw, depth_in1, depth_deeper, depth_caller, Around.mark]); (try dsimp only); simp only [recursionLimit] at *; omega))
  k_with "MY units" => ((have hcL9_k := cLine_is; (try simp only [units_in1, units_deeper, Around.mark_units, units_caller]); (try dsimp only); omega))
  k_with "MY enter" => ((refine wpAny_call ?_; k_dflt (refine' code_def ?k1 ?k2 ?k3 ?k4 ?k5 ?kA ?kF ?kK ?k6 ?k7 ?k8 ?k9 ?kB ?_ ?c2 ?c3 ?c4 ?c5; (case kA => exact rfl); (case kF => first | exact rfl | assumption); (case kK => first | exact rfl | assumption); (case k1 => k_asm); (case k2 => k_asm); (case k3 => k_asm); (case k4 => k_asm); (case k5 => k_asm); (case k6 => k_is); (case k7 => k_is); (case k8 => walk_at "MY room"); (case k9 => exact BindsTo.of_eq rfl); (case c5 => decide); (case kB => exact locs rfl); (case c2 => exact rfl); (case c3 => exact rfl); (case c4 => exact rfl); k_whole; intro g'_k L'_k h'_k FG'_k F'_k N'_k B'_k X'_k T'_k; (try dsimp only); (try k_lift B'_k); (try k_fold))))
  k_with "MY here" => ((refine' Here.mk ⟨_, ?h1⟩ ?h2 ?h3 ?h4 ⟨_, _, _, ?h5⟩ ?h6 ?h7 ?h8 ?h9 ?h10 ?h11; (case h6 => exact rfl); (case h1 => k_asm); (case h2 => k_asm); (case h3 => k_asm); (case h4 => k_asm); (case h5 => k_asm); (case h7 => first | exact rfl | assumption); (case h8 => first | exact rfl | assumption); (case h9 => exact rfl); (case h10 => walk_at "MY room"); (case h11 => walk_at "MY units")))
  k_with "MY sub" => ((intro p'_k hp'_k; first | exact hp'_k | (repeat (first | exact hp'_k | refine List.Mem.tail _ ?_))))
  k_with "MY fresh" => (first | assumption | (refine lt_of_all ?_; first | assumption | exact And.right (by assumption) | exact And.right (And.right (by assumption)) | exact And.right (And.right (And.right (by assumption))) | exact And.right (And.right (And.right (And.right (by assumption)))) | exact And.right (And.right (And.right (And.right (And.right (by assumption))))) | exact And.right (And.right (And.right (And.right (And.right (And.right (by assumption)))))) | exact And.right (And.right (And.right (And.right (And.right (And.right (And.right (by assumption)))))))))
  k_with "MY enterG" => ((refine wpAny_call ?_; k_dflt (refine' code_defG ?k1 ?k2 ?k3 ?k4 ?k5 ?kA ?kF ?kK ?k6 ?k7 ?k8 ?k9 ?kB ?_ ?c2 ?c3 ?c4 ?c5; (case kA => exact rfl); (case kF => first | exact rfl | assumption); (case kK => first | exact rfl | assumption); (case k1 => k_asm); (case k2 => k_asm); (case k3 => k_asm); (case k4 => k_asm); (case k5 => k_asm); (case k6 => k_is); (case k7 => k_is); (case k8 => walk_at "MY room"); (case k9 => exact BindsTo.of_eq rfl); (case c5 => decide); (case kB => exact locs rfl); (case c2 => exact rfl); (case c3 => exact rfl); (case c4 => exact rfl); k_whole; intro g'_k L'_k h'_k FG'_k F'_k N'_k B'_k X'_k T'_k kG'_k; (try dsimp only); (try k_lift B'_k); (try k_fold))))
  k_with "MY kept" => ((rename GSub _ _ _ => kG9_k; exact elt_after (InElt.start _) kG9_k (by assumption) (by assumption) (by assumption) (by walk_at "MY sub")))
  k_with "MY subr" => ((intro p'_k hp'_k; first | exact hp'_k | (repeat (first | exact hp'_k | exact List.mem_append_left _ hp'_k | exact List.mem_append_right _ hp'_k | refine List.Mem.tail _ ?_))))
  k_with "MY same" => ((intro z_k h1_k h2_k h3_k; first
      | rfl
      | ((try simp only [List.contains_cons, List.contains_nil, Bool.or_false, Bool.or_eq_false_iff, beq_eq_false_iff_ne, ne_eq] at h3_k); (simp [h1_k, h2_k, h3_k]; done))))
  k_with "MY enterC" => ((refine wpAny_call ?_; k_dflt (refine' code_defC ?k1 ?k2 ?k3 ?k4 ?k5 ?kA ?kF ?kK ?k6 ?k7 ?k8 ?k9 ?kB ?kD ?_ ?c2 ?c3 ?c4; (case kA => exact rfl); (case kF => first | exact rfl | assumption); (case kK => first | exact rfl | assumption); (case k1 => k_asm); (case k2 => k_asm); (case k3 => k_asm); (case k4 => k_asm); (case k5 => k_asm); (case k6 => k_is); (case k7 => k_is); (case k8 => walk_at "MY room"); (case k9 => exact BindsTo.of_eq rfl); (case kB => exact rfl); (case kD => decide +kernel); (case c2 => exact rfl); (case c3 => exact rfl); (case c4 => exact rfl); k_whole; intro g'_k L'_k h'_k tk'_k cells'_k FG'_k F'_k N'_k Y'_k B'_k X'_k T'_k l1_k; (try k_lt l1_k); k_cells Y'_k; (try simp only [List.cons_append, List.nil_append] at N'_k); (try dsimp only); (try k_lift B'_k); (try k_fold))))
  k_with "MY enterT" => ((refine wpAny_call ?_; k_dflt (refine' code_defT ?k1 ?k2 ?k3 ?k4 ?k5 ?kA ?kF ?kK ?k6 ?k7 ?k8 ?k9 ?kB ?_ ?c2 ?c3 ?c4 ?c5; (case kA => exact rfl); (case kF => first | exact rfl | assumption); (case kK => first | exact rfl | assumption); (case k1 => k_asm); (case k2 => k_asm); (case k3 => k_asm); (case k4 => k_asm); (case k5 => k_asm); (case k6 => k_is); (case k7 => k_is); (case k8 => walk_at "MY room"); (case k9 => exact BindsTo.of_eq rfl); (case c5 => decide); (case kB => exact locs rfl); (case c2 => exact rfl); (case c3 => exact rfl); (case c4 => exact rfl); k_whole; intro g'_k L'_k h'_k FG'_k F'_k N'_k B'_k X'_k T'_k; (try dsimp only); (try k_lift B'_k); (try k_fold))))
  trivial
theorem kw_L8_1 : True := by
  k_with "MY body" =>
    k_with "exec While" => (refine halt_in ?_)
    k_with "exec Assign cons ListComp" => (refine halt_in ?_)
    k_with "exec For" => (refine halt_in ?_)
    k_with "eval ListComp" => (refine halt_in ?_)
    k_with "compareOp NotEq ref ref" => (((with_reducible show wpAny _ _ (compareOp CmpOp.NotEq (Value.ref _) (Value.ref _)) _ _ _); (with_unfolding_all refine' ne_intsK ?k1 ?k2 ?k3 ?k4 ?k5 ?_; (case k1 => is_list); (case k2 => l_intsC); (case k3 => is_list); (case k4 => l_intsC); (case k5 => walk_at "MY units"); k_whole)))
    k_with "exec Assign cons IfExp" => (refine halt_in ?_)
    trivial
  run_tac go
theorem many1 {o : Nat} (a : (o : Int) < 128) : (1 : Int) = (manyL o : Nat) := by
  k_with "MY body" =>
    unfold manyL; rw [if_pos (by omega)]; rfl
  run_tac go
theorem many2 {o : Nat} (a : ¬ (o : Int) < 128) (b : (o : Int).fdiv 32 = 6) : (2 : Int) = (manyL o : Nat) := by
  k_with "MY body" =>
    rw [Int.fdiv_eq_ediv_of_nonneg _ (by decide)] at b
    unfold manyL; rw [if_neg (by omega), if_pos (by omega)]; rfl
  run_tac go
theorem many3 {o : Nat} (a : ¬ (o : Int) < 128) (b : (o : Int).fdiv 32 ≠ 6) (c : (o : Int).fdiv 16 = 14) : (3 : Int) = (manyL o : Nat) := by
  k_with "MY body" =>
    rw [Int.fdiv_eq_ediv_of_nonneg _ (by decide)] at b c
    unfold manyL; rw [if_neg (by omega), if_neg (by omega), if_pos (by omega)]; rfl
  run_tac go
theorem many4 {o : Nat} (a : ¬ (o : Int) < 128) (b : (o : Int).fdiv 32 ≠ 6) (c : (o : Int).fdiv 16 ≠ 14) (d : (o : Int).fdiv 8 = 30) : (4 : Int) = (manyL o : Nat) := by
  k_with "MY body" =>
    rw [Int.fdiv_eq_ediv_of_nonneg _ (by decide)] at b c d
    unfold manyL; rw [if_neg (by omega), if_neg (by omega), if_neg (by omega), if_pos (by omega)]; rfl
  run_tac go
theorem many0 {o : Nat} (a : ¬ (o : Int) < 128) (b : (o : Int).fdiv 32 ≠ 6) (c : (o : Int).fdiv 16 ≠ 14) (d : (o : Int).fdiv 8 ≠ 30) : (0 : Int) = (manyL o : Nat) := by
  k_with "MY body" =>
    rw [Int.fdiv_eq_ediv_of_nonneg _ (by decide)] at b c d
    unfold manyL; rw [if_neg (by omega), if_neg (by omega), if_neg (by omega), if_neg (by omega)]; rfl
  run_tac go
theorem Z_drop (n : Nat) (os : List Nat) : Z (os.drop n) = (Z os).drop n := by simp [Z, List.map_drop]
theorem ones_nil {pz : Nat → Bool} {os : List Nat} (hpz : ∀ z, pz z = !decide (z / 64 = 2)) : decide (List.map (fun (_ : Nat) => (1 : Int)) (List.filter pz (os.drop 1)) = []) = os.tail.all (fun p => p / 64 == 2) := by
  k_with "MY body" =>
    rw [List.drop_one, Bool.eq_iff_iff, decide_eq_true_iff, List.map_eq_nil_iff, List.filter_eq_nil_iff, List.all_eq_true]
    constructor <;> intro h a ha
    · have := h a ha; rw [hpz] at this; simpa using this
    · have := h a ha; rw [hpz]; simpa using this
  run_tac go
theorem ones_at {pz : Nat → Bool} {z : Nat} (hpz : ∀ z, pz z = !decide (z / 64 = 2)) : ((z : Int).fdiv 64 != 2) = pz z := by
  k_with "MY body" =>
    rw [hpz, Int.fdiv_eq_ediv_of_nonneg _ (by decide), bne, Bool.eq_iff_iff]
    simp only [Bool.not_eq_true', beq_eq_false_iff_ne, ne_eq, decide_eq_false_iff_not]
    omega
  run_tac go
theorem os_head {t os : List Nat} {o n : Nat} (ho : octA t = some o) (h : octsA n t = some os) (hn : ¬ n = 0) : ∃ rest, os = o :: rest := by
  k_with "MY body" =>
    cases n with
    | zero => exact absurd rfl hn
    | succ n =>
      simp only [octsA, ho] at h
      cases hq : octsA n (t.drop 3) with
      | none => rw [hq] at h; cases h
      | some q => rw [hq] at h; cases h; exact ⟨q, rfl⟩
  run_tac go
def BitP (b0 : List Nat) (pre : List Int) (bs : List Nat) : Prop := ∃ q, pre = Z q ∧ bs = b0 ++ q.flatMap fun p => bitsN p 6
theorem bitP_0 (b0 : List Nat) : BitP b0 [] b0 := ⟨[], rfl, by simp⟩
theorem bitP_step {b0 q bs : List Nat} {p : Nat} (h : bs = b0 ++ q.flatMap fun p => bitsN p 6) : BitP b0 (Z q ++ [(p : Int)]) (bs ++ bitsN p 6) :=
  ⟨q ++ [p], by simp [Z], by rw [h]; simp⟩
theorem flat6_len (q : List Nat) : (q.flatMap fun p => bitsN p 6).length = 6 * q.length := by
  k_with "MY body" =>
    induction q with
    | nil => rfl
    | cons a q ih => rw [List.flatMap_cons, List.length_append, bitsN_len, ih, List.length_cons]; omega
  run_tac go
theorem Z_app (a b : List Nat) : Z (a ++ b) = Z a ++ Z b := by simp [Z]
theorem Z_len (a : List Nat) : (Z a).length = a.length := by simp [Z]
theorem bitP_end {b0 rest bs : List Nat} (h : BitP b0 (Z rest) bs) : bs = b0 ++ rest.flatMap fun p => bitsN p 6 := by
  k_with "MY body" =>
    obtain ⟨q, e, rfl⟩ := h
    rw [Z_inj e]
  run_tac go
theorem flat6_le {q : List Nat} {k n : Nat} : ∀ b ∈ bitsN n k ++ q.flatMap (fun p => bitsN p 6), b ≤ 1 := fun b h => by
  rcases List.mem_append.mp h with h | h
  · exact bitsN_le h
  · obtain ⟨p, _, h⟩ := List.mem_flatMap.mp h; exact bitsN_le h
theorem bitsL_is {o kk n : Nat} {rest : List Nat} (hl : (o :: rest).length = n) (hk : kk = if n > 1 then 7 - n else 7) : bitsL (o :: rest) = bitsN o kk ++ rest.flatMap fun p => bitsN p 6 := by
  k_with "MY body" =>
    subst hl
    rw [hk]
    rfl
  run_tac go
local macro_rules | `(tactic| kmk_sum) => `(tactic| (rw [sizeLine_eq]; omega))
structure Led (news : List (Addr × Obj)) : Prop where
  mk :: (one : True)
theorem Led.of {h₀ h1 : Heap} {L : Addr} {news : List (Addr × Obj)} (_N : News h₀ L h1 news) : Led news := ⟨trivial⟩
theorem Led.back {h₀ h' : Heap} {L : Addr} {news news' : List (Addr × Obj)} (_N : Led news) (N' : News h₀ L h' news') (sub : ∀ p ∈ news, p ∈ news') : News h₀ L h' news := fun p hp => N' p (sub p hp)
structure Under8 (news : List (Addr × Obj)) (L : Addr) : Prop where
  all : ∀ p ∈ news, p.1 < L
local macro_rules | `(tactic| k_all) => `(tactic| (intro p' hp'; (rename Under8 _ _ => hU'); exact Nat.ne_of_lt (Nat.lt_of_lt_of_le (hU'.all p' hp') (by omega))))
local macro_rules | `(tactic| k_updF) => `(tactic| first | (refine UpdF.head (by k_all)) | (refine UpdF.tail (by k_ne) (by k_updF)))
theorem kw_L8_2 : True := by
  k_with "MY body" =>
    k_with "MY storeCell" => ((k_dflt (refine storeX_C (by k_asm) (by k_asm) rfl (by k_updF) (by k_asm) ?_ rfl rfl; intro h'_k o'_k F'_k N'_k d'_k; (try dsimp only at N'_k); (try k_sweep))))
    trivial
  run_tac go
section
variable {w : World} {A : Around} {h₀ : Heap} {L : Addr} {m : Str → Option Value} {s : Shared} {news : List (Addr × Obj)} {base : Heap} {env : Env} {outer : List Env} {Q E : Value → Shared → Prop}
set_option maxRecDepth 100000 in
set_option maxHeartbeats 8000000 in
theorem ldec_ok (l lf : List Nat) (hz : l.length ≤ 1000) (t u : Tok)
    (H : Here w A h₀ L m s news base env outer 13)
    (ret : ∀ v h' tk', (match decG headL lf l with | some o => ∃ t, v = .str (S o) t | none => v = .none) → Fr h₀ L h' m → News h₀ L h' news → Q v { s with heap := h', toks := tk' }) :
    wpAny (model PySem.Challenge.rw_nt0345_01.row.prog w) A (call (.ref 214) [.str (S l) t, .str (S lf) u]) Q E s := by
  k_with "MY body" =>
    refine H.lit (P := fun A => wpAny _ A _ _ _ _) ?_
    k_fill
    clear H
    intro dp un gd A₀ mean mg mb B F X N T loc kind room units
    have hlen : (S l).length = l.length := S_len l
    walk_at "MY enterC"
    (rename ∀ p ∈ news, p.1 < _ => hL9)
    have hU := Under8.mk hL9
    rename_i oA oT dA dT
    replace dT : oT.data = .cell (some (.str (S l) t)) := dT
    k_steps
    refine Halt.out ?_
    rename Fr _ _ _ _ => F1
    rename News _ _ _ _ => N1
    refine while_cellS (news := (_, oT) :: news) (c := _) (Str.ofString "found") [Str.ofString "first", Str.ofString "many", Str.ofString "octets", Str.ofString "bits", Str.ofString "octet", Str.ofString "sign", Str.ofString "units"] (DecQ headL l lf) (fun i => l.length - i.toNat) F1 (fun p hp => N1 p (List.Mem.tail _ hp)) (by assumption) (by rfl) (by exact noneS0) (decq_start headL l lf) ?_
    clear F1 N1
    intro i ti f tf o u' h1 tk1 hd hI F1 N1
    (try dsimp only)
    (try k_fold)
    obtain ⟨p, r, hl, ha, hn, he⟩ := hI
    have hfl : (S f).length = f.length := S_len f
    cases r with
    | nil =>
      have hll : l.length = p.length := by rw [hl]; simp
      k_steps
      exact ret _ _ _ (by rw [decq_end he]; exact ⟨_, rfl⟩) (by k_asm) (cb_drop (by k_asm) (by walk_at "MY sub"))
    | cons c r =>
      have hll : l.length = p.length + 1 + r.length := by rw [hl]; simp; omega
      have hx : Txt.item (S l) i = S [c] := item0 hl ha
      by_cases hc : c = 37
      · subst hc
        have hb : (Txt.item (S l) i != Str.ofString "%") = false := by rw [hx, pctS]; decide +kernel
        have hdr : l.drop p.length = 37 :: r := by rw [hl]; simp
        k_steps
        refine loctet_ok l p.length (by omega) _ _ _ ha (by walk_at "MY here") ?_
        rw [hdr]
        intro v h' tk' hv F' N' _
        cases ho : octA (37 :: r) with
        | none =>
          rw [ho] at hv
          subst hv
          (try dsimp only)
          (try k_fold)
          k_steps
          exact ret _ _ _ (by rw [decq_none he (headL_oct ho)]) (by k_asm) (cb_drop (by k_asm) (by walk_at "MY sub"))
        | some o =>
          rw [ho] at hv
          obtain ⟨t1, rfl⟩ := hv
          have ho256 := octA_lt ho
          (try dsimp only)
          (try k_fold)
          k_steps
          have hml := manyL_le o
          refine Halt.out ?_
          rename Fr _ _ _ _ => F1
          rename News _ _ _ _ => N1
          have hN1 := Led.of N1
          refine cut_int (Str.ofString "many") (manyL o : Nat) F1 N1 ?_ ?_
          · first | walk_at "exec Assign cons" | walk_at "exec Assign"
            k_steps
            all_goals (refine Halt.out ⟨rfl, _, _, _, _, rfl, (by first | exact many1 (by assumption) | exact many2 (by assumption) (by assumption) | exact many3 (by assumption) (by assumption) (by assumption) | exact many4 (by assumption) (by assumption) (by assumption) (by assumption) | exact many0 (by assumption) (by assumption) (by assumption) (by assumption)), (by k_asm), (by k_asm)⟩)
          · intro t2 h2 tk2 F1 N1
            (try dsimp only)
            (try k_fold)
            k_steps
            refine Halt.out ?_
            refine rcompV (base := base) (outer := env :: outer) (h₀ := _) (fun i v => OctV ((37 :: r).drop (3 * i)) v) (by k_asm) rfl rfl rfl (Below.stays (by assumption)) (by with_unfolding_all rfl) (by with_unfolding_all rfl) (by decide) (by with_unfolding_all rfl) (by decide) (by with_unfolding_all rfl) (by with_unfolding_all rfl) (by rfl) ?_
            k_steps
            rename News _ _ _ _ => N3
            refine Halt.out ⟨_, _, _, _, _, manyL o, rfl, (by assumption), N3, (by assumption), (by omega), ?_, ?_, ?_⟩
            · clear N3
              intro C oC mC i' tok h tk' E' hi' F' N' hno hmx hfail
              have hns := hno.ns (N' _ (.head _)).1
              (try dsimp only)
              (try k_fold)
              k_steps
              refine loctet_ok l (p.length + 3 * i') (by omega) _ _ _ (by omega) (by walk_at "MY here") ?_
              intro v h' tk' hv F' N' hkeep
              refine Halt.out ⟨?_, _, _, rfl, hkeep⟩
              unfold OctV
              rw [← hdr, List.drop_drop]; exact hv
            · clear N3
              intro D vs' k' h' tk' F' N' hlt hvn hGv
              have hvo := vals_oct hvn hGv
              have hvk := vals_kind hGv
              clear hGv
              (try dsimp only)
              (try k_fold)
              k_steps
              · have hm0 : manyL o = 0 := by omega
                exact ret _ _ _ (by rw [decq_none he (headL_zero ho hm0)]) (by k_asm) (cb_drop (by k_asm) (by walk_at "MY sub"))
              · have hm0 : ¬ manyL o = 0 := by omega
                refine in_none (by is_list) hvk ?_
                cases hoc : octsA (manyL o) (37 :: r) with
                | none =>
                  rw [hvo.1 hoc]
                  k_steps
                  exact ret _ _ _ (by rw [decq_none he (headL_octs ho hoc)]) (by k_asm) (cb_drop (by k_asm) (by walk_at "MY sub"))
                | some os =>
                  obtain ⟨hI, hany⟩ := hvo.2 os hoc
                  rw [hany]
                  clear hvo hvk hany
                  obtain ⟨hrl, hol, ho8⟩ := octsA_len hoc
                  have hln := ints_len hI
                  have hzl : (Z os).length = manyL o := by rw [Z, List.length_map, hol]
                  obtain ⟨pz, hpz⟩ : ∃ pz : Nat → Bool, ∀ z, pz z = !decide (z / 64 = 2) := ⟨_, fun _ => rfl⟩
                  k_steps
                  refine Halt.out ?_
                  rename Fr _ _ _ _ => F3
                  refine comp_ones pz F3 rfl (by with_unfolding_all rfl) (by decide) (by with_unfolding_all rfl) (by decide) (by with_unfolding_all rfl) (by intro _; with_unfolding_all rfl) ?_
                  k_steps
                  rename News _ _ _ _ => N3
                  refine Halt.out ⟨_, _, _, os.drop 1, rfl, (by is_list), (by rw [Z_drop]; assumption), (by rw [List.length_drop]; omega), (by k_asm), N3, ?_, ?_, ?_⟩
                  · intro C z tok s₂ m₂ E' hmem hns hm₂ hkp
                    obtain ⟨h2, g2, d2, t2, o2⟩ := s₂
                    have F4 := Fr.keeps (by k_asm : Fr _ _ _ _) hkp
                    have N4 := News.grown N3 hkp
                    have hz8 : z < 256 := ho8 z (List.mem_of_mem_drop hmem)
                    k_steps
                    exact Halt.out ⟨ones_at hpz, _, _, rfl, fun _ _ e => e⟩
                  · intro C z tok s₂ m₂ E' hmem hns hm₂ hkp
                    obtain ⟨h2, g2, d2, t2, o2⟩ := s₂
                    have F4 := Fr.keeps (by k_asm : Fr _ _ _ _) hkp
                    have N4 := News.grown N3 hkp
                    k_steps
                    exact Halt.out ⟨⟨_, rfl⟩, _, _, rfl, fun _ _ e => e⟩
                  · clear N3
                    intro D2 ys k2 h' tk F' N' hne' hI2
                    (try dsimp only)
                    (try k_fold)
                    have hd1 := ones_nil (os := os) hpz
                    cases hal : os.tail.all (fun p => p / 64 == 2) with
                    | false =>
                      rw [hal] at hd1
                      k_steps
                      exact ret _ _ _ (by rw [decq_none he (headL_cont ho hoc hal)]) (by k_asm) (cb_drop (by k_asm) (by walk_at "MY subr"))
                    | true =>
                      rw [hal] at hd1
                      k_steps
                      refine Halt.out ?_
                      rename Fr _ _ _ _ => F1
                      rename News _ _ _ _ => N1
                      obtain ⟨kk, hkk⟩ : ∃ kk, kk = if manyL o > 1 then 7 - manyL o else 7 := ⟨_, rfl⟩
                      refine cut_list (Str.ofString "bits") (bitsN o kk) F1 N1 ?_ ?_
                      · first | walk_at "exec Assign cons" | walk_at "exec Assign"
                        k_steps
                        · rw [if_pos (by omega)] at hkk
                          refine lbits_ok _ _ _ _ o kk rfl (by omega) (by omega) (by omega) (by walk_at "MY here") ?_
                          intro v h' tk' a c vs hv F' N' of' hi'
                          subst hv
                          (try dsimp only)
                          (try k_fold)
                          k_steps
                          exact Halt.out ⟨by first | rfl | trivial, _, _, _, _, _, rfl, hi', (by k_asm), (by k_asm)⟩
                        · rw [if_neg (by omega)] at hkk
                          refine lbits_ok _ _ _ _ o kk rfl (by omega) (by omega) (by omega) (by walk_at "MY here") ?_
                          intro v h' tk' a c vs hv F' N' of' hi'
                          subst hv
                          (try dsimp only)
                          (try k_fold)
                          k_steps
                          exact Halt.out ⟨by first | rfl | trivial, _, _, _, _, _, rfl, hi', (by k_asm), (by k_asm)⟩
                      · clear F1 N1 hpz hd1 hI2
                        intro b ws kb h' tk' hbi F1 N1
                        (try dsimp only)
                        (try k_fold)
                        obtain ⟨rest, rfl⟩ := os_head ho hoc hm0
                        k_steps
                        refine Halt.out ?_
                        rename Fr _ _ _ _ => F1
                        refine For_invF F1 rfl (by rfl) ?_
                        k_steps
                        rename Fr _ _ _ _ => F1
                        rename News _ _ _ _ => N1
                        refine turn_listL (ns := Z rest) (Str.ofString "bits") (BitP (bitsN o kk)) rfl F1 N1 (.head _) (by assumption) (.tail _ (.head _)) hbi (by rfl) (bitP_0 _) ?_ ?_
                        · clear F1 N1
                          intro b1 ws1 k1 bs1 pre n post t3 h1 tk1 own hl1 hP hw1 F1 N1
                          (try dsimp only)
                          (try k_fold)
                          obtain ⟨q, rfl, hbs1⟩ := hP
                          obtain ⟨p1, q1, rfl, hp1⟩ := Z_cut hl1
                          have hm1 : p1 ∈ rest := by rw [hp1]; exact List.mem_append_right _ (.head _)
                          have hp8 : p1 < 256 := ho8 p1 (.tail _ hm1)
                          have hz6 : (Z (bitsN p1 6)).length = 6 := by rw [Z_len, bitsN_len]
                          have hzb : (Z bs1).length = kk + 6 * q.length := by rw [Z_len, hbs1, List.length_append, bitsN_len, flat6_len]
                          have hql : q.length ≤ 4 := by
                            have := congrArg List.length hp1
                            simp only [List.length_append, List.length_cons] at this hol
                            omega
                          have hkl : kk ≤ 7 := by rw [hkk]; split <;> omega
                          k_steps
                          refine lbits_ok _ _ _ _ p1 6 rfl (by omega) rfl (by omega) (by walk_at "MY here") ?_
                          intro v h' tk' a c vs hv F' N' of' hi'
                          subst hv
                          (try dsimp only)
                          (try k_fold)
                          k_steps
                          rename_i _ _ N9 _ hI9
                          refine endL (by k_asm) (by k_asm) (by k_mem) (by rw [Z_app]; assumption) (by walk_at "MY sub") (by with_unfolding_all rfl) (by walk_at "MY same") (bitP_step hbs1)
                        · clear F1 N1
                          intro b1 ws1 k1 bs1 u1 h1 tk1 hP hw1 F1 N1
                          have hbs := bitP_end hP
                          have hbl := bitsL_is hol hkk
                          rw [← hbs] at hbl
                          have hb1 : ∀ b ∈ bs1, b ≤ 1 := hbs ▸ flat6_le
                          have hbz : bs1.length ≤ 21 := by
                            rw [hbs, List.length_append, bitsN_len, flat6_len, hkk]
                            simp only [List.length_cons] at hol
                            split <;> omega
                          clear hbs hP hkk
                          (try dsimp only)
                          (try k_fold)
                          k_steps
                          refine lnumber_ok b1 k1 (List.toArray ws1) bs1 (by simpa using hw1) hb1 (by omega) (by walk_at "MY here") ?_
                          have hsz : numN bs1 < 2 ^ 21 := Nat.lt_of_lt_of_le (numN_lt hb1) (Nat.pow_le_pow_right (by decide) hbz)
                          obtain ⟨sg, hsg⟩ : ∃ sg, sg = numN bs1 := ⟨_, rfl⟩
                          rw [← hsg] at hsz ⊢
                          rw [← hbl] at hsg
                          intro v h' tk' hv F' N'
                          obtain ⟨t3, rfl⟩ := hv
                          (try dsimp only)
                          (try k_fold)
                          have hq3 : (sg : Int).fdiv 2048 = ((sg / 2048 : Nat) : Int) := Int.fdiv_eq_ediv_of_nonneg _ (by decide)
                          k_steps
                          · exact ret _ _ _ (by rw [decq_none he (headL_bad ho hoc (.inl (by omega)))]) (by k_asm) (cb_drop (by k_asm) (by walk_at "MY sub"))
                          · exact ret _ _ _ (by rw [decq_none he (headL_bad ho hoc (.inr (.inl (by omega))))]) (by k_asm) (cb_drop (by k_asm) (by walk_at "MY sub"))
                          · refine loctets_ok _ _ sg rfl (by omega) (by walk_at "MY here") ?_
                            intro v h' tk' a2 n2 vs2 hv F' N' o2' is2
                            subst hv
                            (try dsimp only)
                            (try k_fold)
                            by_cases hoo : octs sg = o :: rest
                            · have hd2 : decide (Z (octs sg) = Z (o :: rest)) = true := decide_eq_true (by rw [hoo])
                              have h3 : ¬ (1114111 < numN (bitsL (o :: rest)) ∨ numN (bitsL (o :: rest)) / 2048 = 27 ∨ ¬ octs (numN (bitsL (o :: rest))) = o :: rest) := by
                                rw [← hsg]
                                rintro (q | q | q)
                                · omega
                                · omega
                                · exact q hoo
                              have hh := headL_some ho hm0 hoc hal h3
                              rw [← hsg] at hh
                              have hsl : Txt.slice (S l) (some i) (some (i + 3 * (manyL o : Int))) = S ((37 :: r).take (3 * manyL o)) := by
                                rw [slice_mid hl 0 (3 * manyL o) (by omega) (by omega) (Nat.zero_le _)]; rfl
                              have hul : (S (unitsN sg)).length ≤ 2 := by rw [S_len]; exact units_len sg
                              have hzs : (Txt.slice (S l) (some i) (some (i + 3 * (manyL o : Int)))).length ≤ 12 := by rw [hsl, S_len, List.length_take]; omega
                              clear h3 hbl hsg hb1 hw1 hbz ho8 hq3
                              k_steps
                              refine lunits_ok _ _ sg rfl (by omega) (by walk_at "MY here") ?_
                              intro v h' tk' hv F' N'
                              obtain ⟨t4, rfl⟩ := hv
                              have N9 := hN1.back N' (by walk_at "MY sub")
                              clear N'
                              (try dsimp only)
                              (try k_fold)
                              k_steps
                              · have hin : inS lf (unitsN sg) = false := by
                                  unfold inS
                                  rw [(by assumption : (Builtin.Str.occurrences (S lf) (S (unitsN sg)) 0 (S lf).length 1).isEmpty = true)]; rfl
                                rename News _ _ _ _ => N9
                                rename _ = Data.cell (some (.int (i + 3 * (manyL o : Int)) _)) => d9
                                (try dsimp only)
                                exact endD (by k_asm) N9 (by k_mem) d9 (by walk_at "MY sub") (by with_unfolding_all rfl) (by ksw_same) (by rw [hin, S_app]; rfl) (decq_some hl ha hn he hh (by omega) hrl (units_len sg) (by omega)) (by omega)
                              · have hin : inS lf (unitsN sg) = true := by
                                  unfold inS
                                  rw [(by assumption : (Builtin.Str.occurrences (S lf) (S (unitsN sg)) 0 (S lf).length 1).isEmpty = false)]; rfl
                                rename News _ _ _ _ => N9
                                rename _ = Data.cell (some (.int (i + 3 * (manyL o : Int)) _)) => d9
                                (try dsimp only)
                                exact endD (by k_asm) N9 (by k_mem) d9 (by walk_at "MY sub") (by with_unfolding_all rfl) (by ksw_same) (by rw [hin, hsl, S_app]; rfl) (decq_some hl ha hn he hh (by omega) hrl (units_len sg) (by omega)) (by omega)
                            · have hd2 : decide (Z (octs sg) = Z (o :: rest)) = false := decide_eq_false fun q => hoo (Z_inj q)
                              k_steps
                              exact ret _ _ _ (by rw [decq_none he (headL_bad ho hoc (.inr (.inr (by rw [← hsg]; exact hoo))))]) (by k_asm) (cb_drop (by k_asm) (by walk_at "MY sub"))
            · intro e h' tk' _ hbad
              exfalso
              obtain ⟨j, _, hj⟩ := hbad
              cases hq : octA ((37 :: r).drop (3 * j)) with
              | none => exact hj .none (by unfold OctV; rw [hq])
              | some k => exact hj (.int (k : Nat) 0) (by unfold OctV; rw [hq]; exact ⟨_, rfl⟩)
      · have hb : (Txt.item (S l) i != Str.ofString "%") = true := by rw [hx, pctS]; simpa [S] using hc
        k_steps
        rename News _ _ _ _ => N9
        rename _ = Data.cell (some (.int (i + 1) _)) => d9
        dsimp only
        exact endD (by k_asm) N9 (by k_mem) d9 (by walk_at "MY sub") (by with_unfolding_all rfl) (by ksw_same) (by rw [hx, S_app]) (decq_plain hl ha hn he hc) (by omega)
  run_tac go
end

end
section
theorem kw_L9 : True := by
  w_top off
  k_with_none
  k_with "MY room" => (first
      | ((try simp only [depth_under_make, depth_under_kw, depth_in1, depth_deeper, depth_caller, Around.mark]); (try dsimp only); omega)
      | ((try simp only [depth_under_make, depth_under_kw, depth_in1, depth_deeper, depth_caller, Around.mark]); (try dsimp only); simp only [recursionLimit] at *; omega))
  k_with "MY units" => ((have hcL9_k := cLine_is; (try simp only [units_in1, units_deeper, Around.mark_units, units_caller]); (try dsimp only); omega))
  k_with "MY enter" => ((refine wpAny_call ?_; k_dflt (refine' code_def ?k1 ?k2 ?k3 ?k4 ?k5 ?kA ?kF ?kK ?k6 ?k7 ?k8 ?k9 ?kB ?_ ?c2 ?c3 ?c4 ?c5; (case kA => exact rfl); (case kF => first | exact rfl | assumption); (case kK => first | exact rfl | assumption); (case k1 => k_asm); (case k2 => k_asm); (case k3 => k_asm); (case k4 => k_asm); (case k5 => k_asm); (case k6 => k_is); (case k7 => k_is); (case k8 => walk_at "MY room"); (case k9 => exact BindsTo.of_eq rfl); (case c5 => decide); (case kB => exact locs rfl); (case c2 => exact rfl); (case c3 => exact rfl); (case c4 => exact rfl); k_whole; intro g'_k L'_k h'_k FG'_k F'_k N'_k B'_k X'_k T'_k; (try dsimp only); (try k_lift B'_k); (try k_fold))))
  k_with "MY here" => ((refine' Here.mk ⟨_, ?h1⟩ ?h2 ?h3 ?h4 ⟨_, _, _, ?h5⟩ ?h6 ?h7 ?h8 ?h9 ?h10 ?h11; (case h6 => exact rfl); (case h1 => k_asm); (case h2 => k_asm); (case h3 => k_asm); (case h4 => k_asm); (case h5 => k_asm); (case h7 => first | exact rfl | assumption); (case h8 => first | exact rfl | assumption); (case h9 => exact rfl); (case h10 => walk_at "MY room"); (case h11 => walk_at "MY units")))
  k_with "MY sub" => ((intro p'_k hp'_k; first | exact hp'_k | (repeat (first | exact hp'_k | refine List.Mem.tail _ ?_))))
  k_with "MY fresh" => (first | assumption | (refine lt_of_all ?_; first | assumption | exact And.right (by assumption) | exact And.right (And.right (by assumption)) | exact And.right (And.right (And.right (by assumption))) | exact And.right (And.right (And.right (And.right (by assumption)))) | exact And.right (And.right (And.right (And.right (And.right (by assumption))))) | exact And.right (And.right (And.right (And.right (And.right (And.right (by assumption)))))) | exact And.right (And.right (And.right (And.right (And.right (And.right (And.right (by assumption)))))))))
  k_with "MY enterG" => ((refine wpAny_call ?_; k_dflt (refine' code_defG ?k1 ?k2 ?k3 ?k4 ?k5 ?kA ?kF ?kK ?k6 ?k7 ?k8 ?k9 ?kB ?_ ?c2 ?c3 ?c4 ?c5; (case kA => exact rfl); (case kF => first | exact rfl | assumption); (case kK => first | exact rfl | assumption); (case k1 => k_asm); (case k2 => k_asm); (case k3 => k_asm); (case k4 => k_asm); (case k5 => k_asm); (case k6 => k_is); (case k7 => k_is); (case k8 => walk_at "MY room"); (case k9 => exact BindsTo.of_eq rfl); (case c5 => decide); (case kB => exact locs rfl); (case c2 => exact rfl); (case c3 => exact rfl); (case c4 => exact rfl); k_whole; intro g'_k L'_k h'_k FG'_k F'_k N'_k B'_k X'_k T'_k kG'_k; (try dsimp only); (try k_lift B'_k); (try k_fold))))
  k_with "MY kept" => ((rename GSub _ _ _ => kG9_k; exact elt_after (InElt.start _) kG9_k (by assumption) (by assumption) (by assumption) (by walk_at "MY sub")))
  k_with "MY subr" => ((intro p'_k hp'_k; first | exact hp'_k | (repeat (first | exact hp'_k | exact List.mem_append_left _ hp'_k | exact List.mem_append_right _ hp'_k | refine List.Mem.tail _ ?_))))
  k_with "MY same" => ((intro z_k h1_k h2_k h3_k; first
      | rfl
      | ((try simp only [List.contains_cons, List.contains_nil, Bool.or_false, Bool.or_eq_false_iff, beq_eq_false_iff_ne, ne_eq] at h3_k); (simp [h1_k, h2_k, h3_k]; done))))
  k_with "MY enterC" => ((refine wpAny_call ?_; k_dflt (refine' code_defC ?k1 ?k2 ?k3 ?k4 ?k5 ?kA ?kF ?kK ?k6 ?k7 ?k8 ?k9 ?kB ?kD ?_ ?c2 ?c3 ?c4; (case kA => exact rfl); (case kF => first | exact rfl | assumption); (case kK => first | exact rfl | assumption); (case k1 => k_asm); (case k2 => k_asm); (case k3 => k_asm); (case k4 => k_asm); (case k5 => k_asm); (case k6 => k_is); (case k7 => k_is); (case k8 => walk_at "MY room"); (case k9 => exact BindsTo.of_eq rfl); (case kB => exact rfl); (case kD => decide +kernel); (case c2 => exact rfl); (case c3 => exact rfl); (case c4 => exact rfl); k_whole; intro g'_k L'_k h'_k tk'_k cells'_k FG'_k F'_k N'_k Y'_k B'_k X'_k T'_k l1_k; (try k_lt l1_k); k_cells Y'_k; (try simp only [List.cons_append, List.nil_append] at N'_k); (try dsimp only); (try k_lift B'_k); (try k_fold))))
  k_with "MY enterT" => ((refine wpAny_call ?_; k_dflt (refine' code_defT ?k1 ?k2 ?k3 ?k4 ?k5 ?kA ?kF ?kK ?k6 ?k7 ?k8 ?k9 ?kB ?_ ?c2 ?c3 ?c4 ?c5; (case kA => exact rfl); (case kF => first | exact rfl | assumption); (case kK => first | exact rfl | assumption); (case k1 => k_asm); (case k2 => k_asm); (case k3 => k_asm); (case k4 => k_asm); (case k5 => k_asm); (case k6 => k_is); (case k7 => k_is); (case k8 => walk_at "MY room"); (case k9 => exact BindsTo.of_eq rfl); (case c5 => decide); (case kB => exact locs rfl); (case c2 => exact rfl); (case c3 => exact rfl); (case c4 => exact rfl); k_whole; intro g'_k L'_k h'_k FG'_k F'_k N'_k B'_k X'_k T'_k; (try dsimp only); (try k_lift B'_k); (try k_fold))))
  k_with "MY hereP" => ((refine' Here.mk ⟨_, ?h1⟩ ?h2 ?h3 ?h4 ⟨_, _, _, ?h5⟩ ?h6 ?h7 ?h8 ?h9 ?h10 ?h11; (case h6 => exact rfl); (case h1 => k_asm); (case h2 => k_asm); (case h3 => k_asm); (case h4 => first | k_asm | exact news_swap (by k_asm)); (case h5 => k_asm); (case h7 => first | exact rfl | assumption); (case h8 => first | exact rfl | assumption); (case h9 => exact rfl); (case h10 => walk_at "MY room"); (case h11 => walk_at "MY units")))
  k_with "MY num" => (first | omega | with_reducible assumption | decide)
  k_with "call ref" => (((with_reducible show wpAny _ _ (call (Value.ref 157) _) _ _ _); refine' draw_ok _ _ _ _ _ _ _ ?hH9 ?hp9 ?hs9 ?hk9 ?hy9 ?hz9 ?hn9 ?hq9 ?_; (case hH9 => walk_at "MY hereP"); (case hp9 => assumption); (case hs9 => assumption); (case hk9 => walk_at "MY num"); (case hy9 => walk_at "MY num"); (case hz9 => walk_at "MY num"); (case hn9 => assumption); (case hq9 => k_all); intro v'_k tv'_k h'_k tk'_k o'_k hv'_k hP'_k F'_k N'_k; (try dsimp only); (try k_fold)))
  trivial
theorem kw_L9_1 : True := by
  k_with "MY body" =>
    k_with "exec For" => (refine halt_in ?_)
    k_with "exec For Name Name cons nil" => (refine halt_in ?_)
    k_with "exec For Name Call cons nil" => (refine halt_in ?_)
    k_with "pyIter ref" => (refine halt_in ?_)
    trivial
  run_tac go
local macro_rules | `(tactic| k_all) => `(tactic| assumption)
/-- the end of a turn of a for over a range that turns the pool and a text -/
def EndP (s : Shared) (h₀ : Heap) (L : Addr) (x nV : Str) (stored : List Str) (m₀ : Str → Option Value) (P : Addr) (rest own : List (Addr × Obj)) (I : Obj → Value → Prop) (s₃ : Shared) : Prop :=
  ∃ h' tk' m' news' o v, s₃ = { s with heap := h', toks := tk' } ∧ Fr h₀ L h' m' ∧ News h₀ L h' news' ∧ (∀ p ∈ (P, o) :: (rest ++ own), p ∈ news') ∧ m' nV = some v ∧ (∀ z, z ≠ x → z ≠ nV → stored.contains z = false → m' z = m₀ z) ∧ I o v
theorem endP {s : Shared} {h₀ : Heap} {L : Addr} {x nV : Str} {stored : List Str} {m₀ : Str → Option Value} {P : Addr} {rest own : List (Addr × Obj)} {I : Obj → Value → Prop} {h' : Heap} {tk' : Nat} {m' : Str → Option Value} {news' : List (Addr × Obj)} {o : Obj} {v : Value}
    (F : Fr h₀ L h' m') (N : News h₀ L h' news') (sub : ∀ p ∈ (P, o) :: (rest ++ own), p ∈ news') (hk : m' nV = some v) (hr : ∀ z, z ≠ x → z ≠ nV → stored.contains z = false → m' z = m₀ z) (hp : I o v) :
    EndP s h₀ L x nV stored m₀ P rest own I { s with heap := h', toks := tk' } := ⟨h', tk', m', news', o, v, rfl, F, N, sub, hk, hr, hp⟩
section
variable {prog : Program} {w : World} {A : Around} {E : Value → Shared → Prop} {s : Shared} {env : Env} {h₀ : Heap} {body : List Stmt} {Q : Flow → Shared → Prop} {m₀ : Str → Option Value}
theorem turn_range {x : Str} {r P : Addr} {b : Int} {t₀ u₀ v₁ : Tok} (nV : Str) (stored : List Str) (rest : List (Addr × Obj)) (I : Nat → Obj → Value → Prop) {oP : Obj} {v₀ : Value} (hh : A.handled = none)
    (F : Fr h₀ env.locals s.heap m₀) (N : News h₀ env.locals s.heap ((P, oP) :: rest)) (hr : IsRange s.heap r 0 b 1 t₀ u₀ v₁) (hb0 : 0 ≤ b) (hn : b ≤ 1000) (hk : m₀ nV = some v₀) (hp : I 0 oP v₀)
    (turn : ∀ (o : Obj) (v : Value) (i : Nat) (t : Tok) (u : Str → Option Value) (h : Heap) (tk : Nat) (own : List (Addr × Obj)), (i : Int) < b → (∀ p ∈ own, p.1 ≠ P) → I i o v →
      Fr h₀ env.locals h (fun y => if y = x then some (.int (i : Nat) t) else if y = nV then some v else if stored.contains y = true then u y else m₀ y) → News h₀ env.locals h ((P, o) :: (rest ++ own)) →
      wpAny (model prog w) A (execs body env) (fun f s₃ => match f with
        | .ret r => Q (.ret r) s₃
        | .brk => Q .next s₃
        | _ => EndP s h₀ env.locals x nV stored m₀ P rest own (I (i + 1)) s₃) E { s with heap := h, toks := tk })
    (done : ∀ (o : Obj) (v : Value) (u : Str → Option Value) (h : Heap) (n : Nat), b = n → ∀ (tk : Nat), I n o v → Fr h₀ env.locals h (fun y => if y = x then u y else if y = nV then some v else if stored.contains y = true then u y else m₀ y) → News h₀ env.locals h ((P, o) :: rest) → Q .next { s with heap := h, toks := tk }) :
    wpAny (model prog w) A (pyIter (.ref r)) (fun it s₂ => LoopAtV prog w A h₀ env x body Q E it s₂) E s := by
  k_with "MY body" =>
    obtain ⟨n, rfl⟩ : ∃ n : Nat, b = n := ⟨b.toNat, by omega⟩
    refine kst_range (σ := Obj × Value) (fun c => (P, c.1) :: rest) (fun c => [(nV, c.2)]) (fun _ => True) stored (fun pre c => I pre.length c.1 c.2) (oP, v₀) hh hr (small_one (by omega) (by omega) (by omega) (by omega)) (rangeSize_nat _ _) F N trivial (fun p hp => by rw [List.mem_singleton.mp hp]; exact hk) hp ?_ ?_
    · intro c pre k t u h tk own hk hlt hoff _ hI F' N'
      have e : k = ((pre.length : Nat) : Int) := by omega
      subst e
      refine wpAny_mono (turn c.1 c.2 pre.length t u h tk own (by omega) (fun p hp => hoff.ne (.head _) p hp) hI F' N') (fun f s₃ q => ?_) fun _ _ q => q
      have fin : EndP s h₀ env.locals x nV stored m₀ P rest own (I (pre.length + 1)) s₃ → InvEndN h₀ env.locals (KstS (fun c : Obj × Value => (P, c.1) :: rest) (fun c => [(nV, c.2)]) (fun _ => True) x stored m₀ (fun pre c => I pre.length c.1 c.2) (pre ++ [((pre.length : Nat) : Int)])) own (((P, oP) :: rest).map (·.1)) { s with heap := h, toks := tk } s₃ := by
        rintro ⟨h', tk', m', news', o, v, e, F'', N'', sub, hk', hr', hi'⟩
        rw [e]
        exact InvEndN.intro (s₁ := { s with heap := h, toks := tk }) F'' N'' ⟨(o, v), rfl, trivial, fun p hp => by rw [List.mem_singleton.mp hp]; exact hk', fun z h1 h2 h3 => hr' z h1 (h2 _ (.head _)) h3, by simpa using hi'⟩ rfl (fun p hp => sub p (by
          rcases List.mem_cons.mp hp with q | q
          · exact q ▸ .head _
          · exact .tail _ (List.mem_append_left _ q))) (fun p hp => sub p (.tail _ (List.mem_append_right _ hp)))
      cases f with
      | ret v => exact q
      | brk => exact q
      | next => exact fin q
      | cont => exact fin q
    · intro c u h tk _ hI F' N'
      exact done c.1 c.2 u h n rfl tk (by simpa [rangeKs] using hI) F' N'
  run_tac go
end
section
variable {w : World} {A : Around} {h₀ : Heap} {L : Addr} {m : Str → Option Value} {s : Shared} {news : List (Addr × Obj)} {base : Heap} {env : Env} {outer : List Env} {Q E : Value → Shared → Prop}
/-- what the told text is in the middle of its making -/
def ToldI (Sc : Addr) (k : Int) (i : Nat) (o : Obj) (v : Value) : Prop := PoolO Sc (k + 20 * i) o ∧ ∃ x t, v = .str x t ∧ x.length ≤ 20 * i ∧ (i ≠ 0 → 1 ≤ x.length)
theorem told_0 {Sc : Addr} {k : Int} {o : Obj} {t : Tok} (h : PoolO Sc k o) : ToldI Sc k 0 o (.str (Str.ofString "") t) := ⟨by simpa using h, _, _, rfl, by decide +kernel, fun h => absurd rfl h⟩
theorem told_up {Sc : Addr} {k j : Int} {i : Nat} {o : Obj} {x : Str} {t : Tok} (h : PoolO Sc j o) (hj : j ≤ k + 20 * ((i + 1 : Nat) : Int)) (h1 : 1 ≤ x.length) (h2 : x.length ≤ 20 * (i + 1)) : ToldI Sc k (i + 1) o (.str x t) := ⟨pool_up h hj, _, _, rfl, h2, fun _ => h1⟩
theorem told_menu {v : Nat} (h : (v : Int) < 9) : 1 ≤ ([Str.ofString "%C0%AF", Str.ofString "%ED%A0%80", Str.ofString "%F4%90%80%80", Str.ofString "%E0%80%80", Str.ofString "%", Str.ofString "%8", Str.ofString "%zz", Str.ofString "%2f", Str.ofString "%F8%88%80%80%80"].getD (v : Int).toNat Str.empty).length ∧ ([Str.ofString "%C0%AF", Str.ofString "%ED%A0%80", Str.ofString "%F4%90%80%80", Str.ofString "%E0%80%80", Str.ofString "%", Str.ofString "%8", Str.ofString "%zz", Str.ofString "%2f", Str.ofString "%F8%88%80%80%80"].getD (v : Int).toNat Str.empty).length ≤ 15 := by
  k_with "MY body" =>
    have : ∀ v < 9, 1 ≤ ([Str.ofString "%C0%AF", Str.ofString "%ED%A0%80", Str.ofString "%F4%90%80%80", Str.ofString "%E0%80%80", Str.ofString "%", Str.ofString "%8", Str.ofString "%zz", Str.ofString "%2f", Str.ofString "%F8%88%80%80%80"].getD v Str.empty).length ∧ ([Str.ofString "%C0%AF", Str.ofString "%ED%A0%80", Str.ofString "%F4%90%80%80", Str.ofString "%E0%80%80", Str.ofString "%", Str.ofString "%8", Str.ofString "%zz", Str.ofString "%2f", Str.ofString "%F8%88%80%80%80"].getD v Str.empty).length ≤ 15 := by decide +kernel
    exact this (v : Int).toNat (by omega)
  run_tac go
theorem told_sign {v z : Nat} (_ : (v : Int) < 11) (h : (z : Int) < 1114112) : ∃ sg : Nat, ([47, 35, 65, 37, 128, 2047, 2048, 65535, 65536, 1114111, (z : Int)] : List Int).getD (v : Int).toNat 0 = sg ∧ sg ≤ 1114111 := by
  k_with "MY body" =>
    have hb : ∀ x ∈ ([47, 35, 65, 37, 128, 2047, 2048, 65535, 65536, 1114111, (z : Int)] : List Int), 0 ≤ x ∧ x ≤ 1114111 := by
      intro x hx
      simp only [List.mem_cons, List.not_mem_nil, or_false] at hx
      omega
    have : 0 ≤ ([47, 35, 65, 37, 128, 2047, 2048, 65535, 65536, 1114111, (z : Int)] : List Int).getD (v : Int).toNat 0 ∧ ([47, 35, 65, 37, 128, 2047, 2048, 65535, 65536, 1114111, (z : Int)] : List Int).getD (v : Int).toNat 0 ≤ 1114111 := by
      rw [List.getD_eq_getElem?_getD]
      cases hq : ([47, 35, 65, 37, 128, 2047, 2048, 65535, 65536, 1114111, (z : Int)] : List Int)[(v : Int).toNat]? with
      | none => simp
      | some x => exact hb x (List.mem_of_getElem? hq)
    exact ⟨Int.toNat (([47, 35, 65, 37, 128, 2047, 2048, 65535, 65536, 1114111, (z : Int)] : List Int).getD (v : Int).toNat 0), by omega, by omega⟩
  run_tac go
theorem octs_few (k : Nat) : 1 ≤ (Z (octs k)).length ∧ (Z (octs k)).length ≤ 4 := by
  k_with "MY body" =>
    unfold octs
    (repeat' split) <;> simp [Z]
  run_tac go
theorem told_end {x : Str} {t : Tok} : ∃ t', Value.str x t = .str (S x.cps.toList) t' := ⟨t, by rw [← S_of]⟩
theorem told_len (x : Str) : x.cps.toList.length = x.length := by simp [PySem.Str.length]
theorem oct_in {sg : Nat} {pre post : List Int} {x : Int} (h : Z (octs sg) = pre ++ x :: post) (hs : sg ≤ 1114111) : ∃ o : Nat, x = o ∧ o < 256 ∧ pre.length ≤ 3 := by
  k_with "MY body" =>
    have hm : x ∈ Z (octs sg) := by rw [h]; exact List.mem_append_right _ (.head _)
    obtain ⟨o, ho, rfl⟩ := List.mem_map.mp hm
    have h3 := congrArg List.length h
    have h4 := octs_few sg
    rw [List.length_append, List.length_cons] at h3
    exact ⟨o, rfl, octs_lt hs ho, by omega⟩
  run_tac go
theorem told_mul {x : Str} {v : Nat} (hx : x.length = 1) (h : (v : Int) < 2) : (Txt.mul x (v : Int)).length ≤ 1 := len_mul_leN (L := 1) (N := 1) (Nat.le_of_eq hx) (by omega)
/-- the text grows by three signs an octet -/
def GrowP (b : Nat) (pre : List Int) (v : Value) : Prop := ∃ x t, v = .str x t ∧ x.length = b + 3 * pre.length
theorem grow_0 {x : Str} {t : Tok} : GrowP x.length [] (.str x t) := ⟨x, t, rfl, rfl⟩
theorem grow_1 {b : Nat} {pre : List Int} {n : Int} {x : Str} {t : Tok} (h : x.length = b + 3 * pre.length + 3) : GrowP b (pre ++ [n]) (.str x t) := ⟨x, t, rfl, by rw [List.length_append, List.length_singleton, Nat.mul_add, h]; omega⟩
set_option maxRecDepth 100000 in
set_option maxHeartbeats 8000000 in
theorem ltold_ok (P Sc : Addr) (oP oS : Obj) (k : Int) (H : Here w A h₀ L m s ((P, oP) :: (Sc, oS) :: news) base env outer 12) (hP : PoolO Sc k oP) (hS : ScrO oS) (hk : k ≤ 800000) (hne : @Ne Nat P Sc) (hnP : ∀ p ∈ news, p.1 ≠ P)
    (ret : ∀ v h' tk' oP' l, (∃ t, v = .str (S l) t) → l.length ≤ 200 → PoolO Sc (k + 200) oP' → Fr h₀ L h' m → News h₀ L h' ((P, oP') :: (Sc, oS) :: news) → Q v { s with heap := h', toks := tk' }) :
    wpAny (model PySem.Challenge.rw_nt0345_01.row.prog w) A (call (.ref 228) [.ref P]) Q E s := by
  k_with "MY body" =>
    refine H.lit (P := fun A => wpAny _ A _ _ _ _) ?_
    k_fill
    clear H
    intro dp un gd A₀ mean mg mb B F X N T loc kind room units
    walk_at "MY enter"
    k_steps
    refine Halt.out ?_
    rename Fr _ _ _ _ => F1
    refine For_invF F1 rfl (by rfl) ?_
    k_steps
    refine Halt.out ?_
    rename Fr _ _ _ _ => F1
    rename News _ _ _ _ => N1
    refine turn_range (Str.ofString "found") [Str.ofString "form", Str.ofString "sign", Str.ofString "octet"] ((Sc, oS) :: news) (ToldI Sc (k + 1)) rfl F1 N1 (by assumption) (by omega) (by omega) (by rfl) (told_0 (by assumption)) ?_ ?_
    · clear F1 N1
      intro o v i t u h1 tk1 own hi hoP hI F1 N1
      obtain ⟨hP1, x1, t1, rfl, hx2, hx1⟩ := hI
      have hi4 : i ≤ 4 := by omega
      have hPn : ∀ p ∈ news ++ own, p.1 ≠ P := fun p hp => (List.mem_append.mp hp).elim (hnP p) (hoP p)
      (try dsimp only)
      (try k_fold)
      k_steps
      · refine lsign_ok P Sc _ oS (k + 1 + 20 * i + 1) (by walk_at "MY hereP") (by assumption) hS (by omega) hne hPn ?_
        intro v h' tk' o2 hv hP2 F' N'
        obtain ⟨x2, t2, rfl, l2, rfl, h21, h22, _⟩ := hv
        have hz2 := S_len l2
        (try dsimp only)
        (try k_fold)
        k_steps
        (try dsimp only)
        refine endP (by k_asm) (by k_asm) (fun z hz => hz) (by with_unfolding_all rfl) (by walk_at "MY same") (told_up hP2 (by omega) (by omega) (by omega))
      · have hmn := told_menu (by assumption)
        (try dsimp only)
        refine endP (by k_asm) (by k_asm) news_sub3 (by with_unfolding_all rfl) (by walk_at "MY same") (told_up (by assumption) (by omega) (by omega) (by omega))
      · obtain ⟨sg, hsg, hsz⟩ := told_sign (by with_reducible assumption) (by with_reducible assumption)
        refine Halt.out ?_
        rename Fr _ _ _ _ => F1
        refine For_invF F1 rfl (by rfl) ?_
        k_steps
        refine loctets_ok _ _ sg hsg hsz (by walk_at "MY here") ?_
        have ho14 := octs_few sg
        intro v' h' tk' a2 n2 vs2 hv F' N' o2' is2
        subst hv
        (try dsimp only)
        (try k_fold)
        refine Halt.out ?_
        rename Fr _ _ _ _ => F1
        rename News _ _ _ _ => N1
        refine turn_list (ns := Z (octs sg)) (Str.ofString "found") [] (GrowP x1.length) rfl F1 N1 (.head _) is2 (by rfl) grow_0 ?_ ?_
        · clear F1 N1
          intro v pre2 x2 post2 t3 u3 h3 tk3 own3 hl3 hP3 F1 N1
          (try dsimp only)
          (try k_fold)
          obtain ⟨x3, t4, rfl, hx3⟩ := hP3
          obtain ⟨oc, rfl, ho256, hp3⟩ := oct_in hl3 hsz
          have hq1 : (oc : Int).fdiv 16 = ((oc / 16 : Nat) : Int) := Int.fdiv_eq_ediv_of_nonneg _ (by decide)
          have hq2 : (oc : Int).fmod 16 = ((oc % 16 : Nat) : Int) := Int.fmod_eq_emod_of_nonneg _ (by decide)
          have hz1 : (Str.ofString "0123456789ABCDEF").length = 16 := by rw [hexS]; rfl
          have hz2 : (Str.ofString "%").length = 1 := by rw [pctS]; rfl
          have hz3 : (Str.ofString "0123456789ABCDEF" ++ Str.ofString "abcdef").length = 22 := by decide +kernel
          clear hsg hl3 hx1 hoP hPn hi
          (rename (_ : Int) ≠ 0 => gz; clear gz)
          (rename (_ : Int) ≠ 1 => gz; clear gz)
          iterate 30 (first | (k_unfold; (try dsimp only)) | walk1 | (dsimp only; walk1))
          generalize Str.ofString "0123456789ABCDEF" ++ Str.ofString "abcdef" = y at *
          k_steps
          all_goals (try dsimp only)
          all_goals exact endV (by k_asm) (by k_asm) (by walk_at "MY subr") (by walk_at "MY subr") (by with_unfolding_all rfl) (by walk_at "MY same") (grow_1 (by omega))
        · clear F1 N1
          intro v u3 h3 tk3 hP3 F1 N1
          (try dsimp only)
          (try k_fold)
          obtain ⟨x3, t4, rfl, hx3⟩ := hP3
          k_steps
          (try dsimp only)
          refine endP (by k_asm) (by k_asm) (fun z hz => .tail _ (news_sub3 z hz)) (by with_unfolding_all rfl) (by walk_at "MY same") (told_up (by assumption) (by omega) (by omega) (by omega))
    · clear F1 N1
      intro o v u h1 n hn tk1 hI F1 N1
      obtain ⟨hP1, x1, t1, rfl, hx2, hx1⟩ := hI
      have hx0 : 1 ≤ x1.length := hx1 (by omega)
      (try dsimp only)
      (try k_fold)
      k_steps
      · (rename (_ : Int) < 2 => g2)
        have hm1 := told_mul (by assumption : (Txt.item (Str.ofString "%8C0x") _).length = 1) g2
        k_steps
        exact ret _ _ _ _ _ told_end (by rw [told_len, PySem.Str.length_append, PySem.Str.length_append]; omega) (pool_up (by assumption) (by omega)) (by k_asm) (by k_asm)
      · exact ret _ _ _ _ _ told_end (by rw [told_len]; omega) (pool_up (by assumption) (by omega)) (by k_asm) (by k_asm)
  run_tac go
end

end
section
theorem kw_WF : True := by
  w_top off
  k_with_none
  k_with "MY room" => (first
      | ((try simp only [depth_under_make, depth_under_kw, depth_in1, depth_deeper, depth_caller, Around.mark]); (try dsimp only); omega)
      | ((try simp only [depth_under_make, depth_under_kw, depth_in1, depth_deeper, depth_caller, Around.mark]); (try dsimp only); simp only [recursionLimit] at *; omega))
  k_with "MY units" => ((have hcL9_k := cLine_is; (try simp only [units_in1, units_deeper, Around.mark_units, units_caller]); (try dsimp only); omega))
  k_with "MY enter" => ((refine wpAny_call ?_; k_dflt (refine' code_def ?k1 ?k2 ?k3 ?k4 ?k5 ?kA ?kF ?kK ?k6 ?k7 ?k8 ?k9 ?kB ?_ ?c2 ?c3 ?c4 ?c5; (case kA => exact rfl); (case kF => first | exact rfl | assumption); (case kK => first | exact rfl | assumption); (case k1 => k_asm); (case k2 => k_asm); (case k3 => k_asm); (case k4 => k_asm); (case k5 => k_asm); (case k6 => k_is); (case k7 => k_is); (case k8 => walk_at "MY room"); (case k9 => exact BindsTo.of_eq rfl); (case c5 => decide); (case kB => exact locs rfl); (case c2 => exact rfl); (case c3 => exact rfl); (case c4 => exact rfl); k_whole; intro g'_k L'_k h'_k FG'_k F'_k N'_k B'_k X'_k T'_k; (try dsimp only); (try k_lift B'_k); (try k_fold))))
  k_with "MY here" => ((refine' Here.mk ⟨_, ?h1⟩ ?h2 ?h3 ?h4 ⟨_, _, _, ?h5⟩ ?h6 ?h7 ?h8 ?h9 ?h10 ?h11; (case h6 => exact rfl); (case h1 => k_asm); (case h2 => k_asm); (case h3 => k_asm); (case h4 => k_asm); (case h5 => k_asm); (case h7 => first | exact rfl | assumption); (case h8 => first | exact rfl | assumption); (case h9 => exact rfl); (case h10 => walk_at "MY room"); (case h11 => walk_at "MY units")))
  k_with "MY sub" => ((intro p'_k hp'_k; first | exact hp'_k | (repeat (first | exact hp'_k | refine List.Mem.tail _ ?_))))
  k_with "MY fresh" => (first | assumption | (refine lt_of_all ?_; first | assumption | exact And.right (by assumption) | exact And.right (And.right (by assumption)) | exact And.right (And.right (And.right (by assumption))) | exact And.right (And.right (And.right (And.right (by assumption)))) | exact And.right (And.right (And.right (And.right (And.right (by assumption))))) | exact And.right (And.right (And.right (And.right (And.right (And.right (by assumption)))))) | exact And.right (And.right (And.right (And.right (And.right (And.right (And.right (by assumption)))))))))
  k_with "MY enterG" => ((refine wpAny_call ?_; k_dflt (refine' code_defG ?k1 ?k2 ?k3 ?k4 ?k5 ?kA ?kF ?kK ?k6 ?k7 ?k8 ?k9 ?kB ?_ ?c2 ?c3 ?c4 ?c5; (case kA => exact rfl); (case kF => first | exact rfl | assumption); (case kK => first | exact rfl | assumption); (case k1 => k_asm); (case k2 => k_asm); (case k3 => k_asm); (case k4 => k_asm); (case k5 => k_asm); (case k6 => k_is); (case k7 => k_is); (case k8 => walk_at "MY room"); (case k9 => exact BindsTo.of_eq rfl); (case c5 => decide); (case kB => exact locs rfl); (case c2 => exact rfl); (case c3 => exact rfl); (case c4 => exact rfl); k_whole; intro g'_k L'_k h'_k FG'_k F'_k N'_k B'_k X'_k T'_k kG'_k; (try dsimp only); (try k_lift B'_k); (try k_fold))))
  k_with "MY kept" => ((rename GSub _ _ _ => kG9_k; exact elt_after (InElt.start _) kG9_k (by assumption) (by assumption) (by assumption) (by walk_at "MY sub")))
  k_with "MY subr" => ((intro p'_k hp'_k; first | exact hp'_k | (repeat (first | exact hp'_k | exact List.mem_append_left _ hp'_k | exact List.mem_append_right _ hp'_k | refine List.Mem.tail _ ?_))))
  k_with "MY same" => ((intro z_k h1_k h2_k h3_k; first
      | rfl
      | ((try simp only [List.contains_cons, List.contains_nil, Bool.or_false, Bool.or_eq_false_iff, beq_eq_false_iff_ne, ne_eq] at h3_k); (simp [h1_k, h2_k, h3_k]; done))))
  k_with "MY enterC" => ((refine wpAny_call ?_; k_dflt (refine' code_defC ?k1 ?k2 ?k3 ?k4 ?k5 ?kA ?kF ?kK ?k6 ?k7 ?k8 ?k9 ?kB ?kD ?_ ?c2 ?c3 ?c4; (case kA => exact rfl); (case kF => first | exact rfl | assumption); (case kK => first | exact rfl | assumption); (case k1 => k_asm); (case k2 => k_asm); (case k3 => k_asm); (case k4 => k_asm); (case k5 => k_asm); (case k6 => k_is); (case k7 => k_is); (case k8 => walk_at "MY room"); (case k9 => exact BindsTo.of_eq rfl); (case kB => exact rfl); (case kD => decide +kernel); (case c2 => exact rfl); (case c3 => exact rfl); (case c4 => exact rfl); k_whole; intro g'_k L'_k h'_k tk'_k cells'_k FG'_k F'_k N'_k Y'_k B'_k X'_k T'_k l1_k; (try k_lt l1_k); k_cells Y'_k; (try simp only [List.cons_append, List.nil_append] at N'_k); (try dsimp only); (try k_lift B'_k); (try k_fold))))
  k_with "MY enterT" => ((refine wpAny_call ?_; k_dflt (refine' code_defT ?k1 ?k2 ?k3 ?k4 ?k5 ?kA ?kF ?kK ?k6 ?k7 ?k8 ?k9 ?kB ?_ ?c2 ?c3 ?c4 ?c5; (case kA => exact rfl); (case kF => first | exact rfl | assumption); (case kK => first | exact rfl | assumption); (case k1 => k_asm); (case k2 => k_asm); (case k3 => k_asm); (case k4 => k_asm); (case k5 => k_asm); (case k6 => k_is); (case k7 => k_is); (case k8 => walk_at "MY room"); (case k9 => exact BindsTo.of_eq rfl); (case c5 => decide); (case kB => exact locs rfl); (case c2 => exact rfl); (case c3 => exact rfl); (case c4 => exact rfl); k_whole; intro g'_k L'_k h'_k FG'_k F'_k N'_k B'_k X'_k T'_k; (try dsimp only); (try k_lift B'_k); (try k_fold))))
  trivial
section
variable {prog : Program} {w : World} {A : Around} {s : Shared} {h₀ : Heap} {L : Addr} {m : Str → Option Value} {env : Env}
/-- a comprehension whose turns change the ledger: by an invariant -/
theorem comp_run {elt : PySem.Expr} {x : Str} {scope : Scope} {cl : List (Str × Addr)} {S : List (Addr × Obj) → Prop} {P : Nat → Value → Prop} {Fin : List Value → List (Addr × Obj) → Prop} (n : Nat) (Inv : Nat → List Value → List (Addr × Obj) → Prop)
    (step : ∀ (i : Nat) (ys : List Value) (news : List (Addr × Obj)) (v : Value) (I : Addr) (oI : Obj) (C : Addr) (oC : Obj) (D : Addr) (m₂ : Str → Option Value) (h : Heap) (tk : Nat) (E' : Value → Shared → Prop), i < n → Inv i ys news → P i v → LCg.NsObj oC m₂ → m₂ x = some v → Fr h₀ L h m → News h₀ L h ((I, oI) :: (C, oC) :: (D, LCg.lst ys) :: news) → LCg.Off3 I C D news → ((@Ne Nat I C) ∧ (@Ne Nat I D) ∧ (@Ne Nat C D)) →
      wpAny (model prog w) A (eval elt (compEnvC scope cl C env)) (fun y s₂ => Halt (∃ h' tk' news', s₂ = { s with heap := h', toks := tk' } ∧ Fr h₀ L h' m ∧ News h₀ L h' ((I, oI) :: (C, oC) :: (D, LCg.lst ys) :: news') ∧ LCg.Off3 I C D news' ∧ S news' ∧ Inv (i + 1) (ys ++ [y]) news')) E' { s with heap := h, toks := tk })
    (fin : ∀ ys news, Inv n ys news → Fin ys news) : ∀ (k i : Nat) (ys : List Value) (news : List (Addr × Obj)), i + k = n → Inv i ys news → LCg.CompRest prog w A h₀ L m env elt x scope cl s S P Fin k i ys news
  | 0, i, ys, news, e, hI => LCg.CompRest.zero (fin ys news (by rw [← e]; exact hI))
  | k + 1, i, ys, news, e, hI => LCg.CompRest.succ fun v I oI C oC D m₂ h tk E' hP hN hx F N off ne =>
      wpAny_mono (step i ys news v I oI C oC D m₂ h tk E' (by omega) hI hP hN hx F N off ne) (fun y s₂ q => by
        obtain ⟨h', tk', news', rfl, F', N', off', hS', hI'⟩ := q
        exact ⟨h', tk', news', rfl, F', N', off', hS', comp_run n Inv step fin k (i + 1) (ys ++ [y]) news' (by omega) hI'⟩) fun _ _ q => q
end
/-- the signs that the law's text is joined from -/
structure SignsI (Sc : Addr) (k : Int) (P : Addr) (oS : Obj) (rest : List (Addr × Obj)) (i : Nat) (ys : List Value) (news : List (Addr × Obj)) : Prop where
  all : ∃ (o : Obj) (xs : List (List Nat)), news = (P, o) :: (Sc, oS) :: rest ∧ PoolO Sc (k + 4 * i) o ∧ StrsAre ys (xs.map S) ∧ xs.length = i ∧ ∀ x ∈ xs, x.length ≤ 2 ∧ ∀ c ∈ x, c ≤ 65535
theorem signs_0 {Sc P : Addr} {k : Int} {oP oS : Obj} {rest : List (Addr × Obj)} (h : PoolO Sc k oP) : SignsI Sc k P oS rest 0 [] ((P, oP) :: (Sc, oS) :: rest) :=
  ⟨oP, [], rfl, by simpa using h, .nil, rfl, fun _ h => by cases h⟩
theorem signs_1 {Sc P : Addr} {k j : Int} {o oS : Obj} {rest : List (Addr × Obj)} {i : Nat} {ys : List Value} {xs : List (List Nat)} {x : Str} {t : Tok} (h : PoolO Sc j o) (hj : j ≤ k + 4 * ((i + 1 : Nat) : Int)) (hs : StrsAre ys (xs.map S)) (hl : xs.length = i) (hx : ∀ x ∈ xs, x.length ≤ 2 ∧ ∀ c ∈ x, c ≤ 65535) (hn : SignT x) :
    SignsI Sc k P oS rest (i + 1) (ys ++ [.str x t]) ((P, o) :: (Sc, oS) :: rest) := by
  k_with "MY body" =>
    obtain ⟨l, rfl, _, h2, hc⟩ := hn
    refine ⟨o, xs ++ [l], rfl, pool_up h hj, ?_, by simp [hl], fun y hy => ?_⟩
    · rw [List.map_append]
      exact StrsAre.append' hs (StrsAre.cons _ _ .nil)
    · rcases List.mem_append.mp hy with hy | hy
      · exact hx y hy
      · rw [List.mem_singleton.mp hy]; exact ⟨h2, hc⟩
  run_tac go
/-- the pool as the law lays it -/
theorem law_start {h₀ h : Heap} {L P Sc D2 cA : Addr} {y : Int} {t u : Tok} {n : Nat} {ys : List Value} {ns : List Int} {o2 oC : Obj}
    (N : News h₀ L h [(P, listOf #[.int (y.fmod 2147483647) t, .ref Sc, .int 0 u] n), (Sc, LCg.lst ys), (D2, o2), (cA, oC)]) (hI : IntsAre ys ns) (hl : ns.length ≤ 24) (hd : oC.data = .cell (some (.ref P))) :
    ∃ oP oS, PoolO Sc 0 oP ∧ ScrO oS ∧ (@Ne Nat P Sc) ∧ (∀ p ∈ [(cA, oC)], p.1 ≠ P) ∧ News h₀ L h ((P, oP) :: (Sc, oS) :: [(cA, oC)]) := by
  k_with "MY body" =>
    have hP := (N _ (.head _)).1
    have hS := (N _ (.tail _ (.head _))).1
    have hC := (N _ (.tail _ (.tail _ (.tail _ (.head _))))).1
    refine ⟨listOf #[.int (y.fmod 2147483647) t, .ref Sc, .int 0 u] n, LCg.lst ys, ⟨y.fmod 2147483647, 0, t, u, n, rfl, ⟨Int.fmod_nonneg_of_pos _ (by decide), Int.fmod_lt_of_pos _ (by decide)⟩, Int.le_refl 0, Int.le_refl 0⟩, ⟨ys, ns, ys.length, rfl, hI, hl⟩, ?_, ?_, fun p hp => ?_⟩
    · rintro rfl
      rw [hP] at hS
      have hS := Option.some.inj hS
      have e : (listOf #[Value.int (y.fmod 2147483647) t, .ref P, .int 0 u] n).data = (LCg.lst ys).data := congrArg Obj.data hS
      have e2 : #[Value.int (y.fmod 2147483647) t, .ref P, .int 0 u] = ys.toArray := by
        injection e
      have e3 : ys = [Value.int (y.fmod 2147483647) t, .ref P, .int 0 u] := by
        have := congrArg Array.toList e2
        simpa using this.symm
      rw [e3] at hI
      cases hI with
      | cons _ _ r => cases r
    · intro p hp
      rw [List.mem_singleton.mp hp]
      rintro rfl
      rw [hP] at hC
      have hC := Option.some.inj hC
      have hd' := (congrArg Obj.data hC).trans hd
      cases hd'
    · rcases List.mem_cons.mp hp with q | hp
      · exact N p (q ▸ .head _)
      rcases List.mem_cons.mp hp with q | hp
      · exact N p (q ▸ .tail _ (.head _))
      · exact N p (List.mem_singleton.mp hp ▸ .tail _ (.tail _ (.tail _ (.head _))))
  run_tac go
theorem front3 {h₀ h : Heap} {L : Addr} {x y z p q : Addr × Obj} {r : List (Addr × Obj)} (N : News h₀ L h (x :: y :: z :: p :: q :: r)) : News h₀ L h (p :: q :: x :: y :: z :: r) := fun e he => N e (by
  simp only [List.mem_cons] at he ⊢
  rcases he with h | h | h | h | h | h <;> simp [h])
theorem back3 {h₀ h : Heap} {L : Addr} {x y z p q : Addr × Obj} {r : List (Addr × Obj)} (N : News h₀ L h (p :: q :: x :: y :: z :: r)) : News h₀ L h (x :: y :: z :: p :: q :: r) := fun e he => N e (by
  simp only [List.mem_cons] at he ⊢
  rcases he with h | h | h | h | h | h <;> simp [h])
theorem off_P {I C D P : Addr} {oI oC oD oP : Obj} {r rest : List (Addr × Obj)} (off : LCg.Off3 I C D ((P, oP) :: r)) (hr : ∀ p ∈ rest, p.1 ≠ P) : ∀ p ∈ (I, oI) :: (C, oC) :: (D, oD) :: rest, p.1 ≠ P := fun p hp => by
  have h := off.mem _ (.head _)
  rcases List.mem_cons.mp hp with q | hp
  · rw [q]; exact Ne.symm h.1
  rcases List.mem_cons.mp hp with q | hp
  · rw [q]; exact Ne.symm h.2.1
  rcases List.mem_cons.mp hp with q | hp
  · rw [q]; exact Ne.symm h.2.2
  · exact hr p hp
theorem cat_signs : ∀ {xs : List (List Nat)}, (∀ x ∈ xs, x.length ≤ 2 ∧ ∀ c ∈ x, c ≤ 65535) → (cat (xs.map S)).length ≤ 2 * xs.length ∧ ∀ c ∈ cat (xs.map S), c ≤ 65535
  | [], _ => ⟨Nat.le_refl _, fun c h => by cases h⟩
  | x :: xs, h => by
    obtain ⟨a, b⟩ := cat_signs (xs := xs) fun y hy => h y (.tail _ hy)
    obtain ⟨c, d⟩ := h x (.head _)
    have e : cat ((x :: xs).map S) = x ++ cat (xs.map S) := by simp [cat, S]
    rw [e, List.length_append, List.length_cons]
    exact ⟨by omega, fun z hz => (List.mem_append.mp hz).elim (d z) (b z)⟩
section
variable {prog : Program} {w : World} {A : Around} {E : Value → Shared → Prop} {s : Shared} {env : Env} {h₀ : Heap} {L : Addr} {m : Str → Option Value} {news : List (Addr × Obj)} {Q : Flow → Shared → Prop}
/-- a statement that changes no name and goes on -/
theorem cut_next {x : Stmt} (_F : Fr h₀ L s.heap m) (_N : News h₀ L s.heap news)
    (h1 : wpAny (model prog w) A (exec x env) (fun f s' => Halt (f = .next ∧ ∃ h' tk', s' = { s with heap := h', toks := tk' } ∧ Fr h₀ L h' m ∧ News h₀ L h' news)) E s)
    (h2 : ∀ h' tk', Fr h₀ L h' m → News h₀ L h' news → Q .next { s with heap := h', toks := tk' }) : wpAny (model prog w) A (exec x env) Q E s :=
  wpAny_mono h1 (fun f s' q => by obtain ⟨rfl, h', tk', rfl, F, N⟩ := q; exact h2 h' tk' F N) fun _ _ q => q
end
theorem drop2 {h₀ h : Heap} {L : Addr} {x y : Addr × Obj} {r : List (Addr × Obj)} (N : News h₀ L h (x :: y :: r)) : News h₀ L h r := fun e he => N e (.tail _ (.tail _ he))
theorem emp0 : Str.empty = S [] := rfl
def OutIs (res : Option (List Nat)) (v : Value) : Prop := match res with | some o => ∃ t, v = .str (S o) t | none => v = .none
set_option maxRecDepth 100000 in
theorem ne_out {prog : Program} {w : World} {A : Around} {E : Value → Shared → Prop} {s : Shared} {Q : Value → Shared → Prop} {v v' : Value} {res : Option (List Nat)} (h : OutIs res v) (h' : OutIs res v') (hq : Q (.bool false) s) :
    wpAny (model prog w) A (compareOp .NotEq v v') Q E s := by
  k_with "MY body" =>
    cases res with
    | none =>
      subst h h'
      walk1
      exact hq
    | some o =>
      obtain ⟨t, rfl⟩ := h
      obtain ⟨t', rfl⟩ := h'
      walk1
      rw [bne_self_eq_false]
      exact hq
  run_tac go
end
section
theorem kw_PL : True := by
  w_top off
  k_with_none
  k_with "MY room" => (first
      | ((try simp only [depth_under_make, depth_under_kw, depth_in1, depth_deeper, depth_caller, Around.mark]); (try dsimp only); omega)
      | ((try simp only [depth_under_make, depth_under_kw, depth_in1, depth_deeper, depth_caller, Around.mark]); (try dsimp only); simp only [recursionLimit] at *; omega))
  k_with "MY units" => ((have hcL9_k := cLine_is; (try simp only [units_in1, units_deeper, Around.mark_units, units_caller]); (try dsimp only); omega))
  k_with "MY enter" => ((refine wpAny_call ?_; k_dflt (refine' code_def ?k1 ?k2 ?k3 ?k4 ?k5 ?kA ?kF ?kK ?k6 ?k7 ?k8 ?k9 ?kB ?_ ?c2 ?c3 ?c4 ?c5; (case kA => exact rfl); (case kF => first | exact rfl | assumption); (case kK => first | exact rfl | assumption); (case k1 => k_asm); (case k2 => k_asm); (case k3 => k_asm); (case k4 => k_asm); (case k5 => k_asm); (case k6 => k_is); (case k7 => k_is); (case k8 => walk_at "MY room"); (case k9 => exact BindsTo.of_eq rfl); (case c5 => decide); (case kB => exact locs rfl); (case c2 => exact rfl); (case c3 => exact rfl); (case c4 => exact rfl); k_whole; intro g'_k L'_k h'_k FG'_k F'_k N'_k B'_k X'_k T'_k; (try dsimp only); (try k_lift B'_k); (try k_fold))))
  k_with "MY here" => ((refine' Here.mk ⟨_, ?h1⟩ ?h2 ?h3 ?h4 ⟨_, _, _, ?h5⟩ ?h6 ?h7 ?h8 ?h9 ?h10 ?h11; (case h6 => exact rfl); (case h1 => k_asm); (case h2 => k_asm); (case h3 => k_asm); (case h4 => k_asm); (case h5 => k_asm); (case h7 => first | exact rfl | assumption); (case h8 => first | exact rfl | assumption); (case h9 => exact rfl); (case h10 => walk_at "MY room"); (case h11 => walk_at "MY units")))
  k_with "MY sub" => ((intro p'_k hp'_k; first | exact hp'_k | (repeat (first | exact hp'_k | refine List.Mem.tail _ ?_))))
  k_with "MY fresh" => (first | assumption | (refine lt_of_all ?_; first | assumption | exact And.right (by assumption) | exact And.right (And.right (by assumption)) | exact And.right (And.right (And.right (by assumption))) | exact And.right (And.right (And.right (And.right (by assumption)))) | exact And.right (And.right (And.right (And.right (And.right (by assumption))))) | exact And.right (And.right (And.right (And.right (And.right (And.right (by assumption)))))) | exact And.right (And.right (And.right (And.right (And.right (And.right (And.right (by assumption)))))))))
  k_with "MY enterG" => ((refine wpAny_call ?_; k_dflt (refine' code_defG ?k1 ?k2 ?k3 ?k4 ?k5 ?kA ?kF ?kK ?k6 ?k7 ?k8 ?k9 ?kB ?_ ?c2 ?c3 ?c4 ?c5; (case kA => exact rfl); (case kF => first | exact rfl | assumption); (case kK => first | exact rfl | assumption); (case k1 => k_asm); (case k2 => k_asm); (case k3 => k_asm); (case k4 => k_asm); (case k5 => k_asm); (case k6 => k_is); (case k7 => k_is); (case k8 => walk_at "MY room"); (case k9 => exact BindsTo.of_eq rfl); (case c5 => decide); (case kB => exact locs rfl); (case c2 => exact rfl); (case c3 => exact rfl); (case c4 => exact rfl); k_whole; intro g'_k L'_k h'_k FG'_k F'_k N'_k B'_k X'_k T'_k kG'_k; (try dsimp only); (try k_lift B'_k); (try k_fold))))
  k_with "MY kept" => ((rename GSub _ _ _ => kG9_k; exact elt_after (InElt.start _) kG9_k (by assumption) (by assumption) (by assumption) (by walk_at "MY sub")))
  k_with "MY subr" => ((intro p'_k hp'_k; first | exact hp'_k | (repeat (first | exact hp'_k | exact List.mem_append_left _ hp'_k | exact List.mem_append_right _ hp'_k | refine List.Mem.tail _ ?_))))
  k_with "MY same" => ((intro z_k h1_k h2_k h3_k; first
      | rfl
      | ((try simp only [List.contains_cons, List.contains_nil, Bool.or_false, Bool.or_eq_false_iff, beq_eq_false_iff_ne, ne_eq] at h3_k); (simp [h1_k, h2_k, h3_k]; done))))
  k_with "MY enterC" => ((refine wpAny_call ?_; k_dflt (refine' code_defC ?k1 ?k2 ?k3 ?k4 ?k5 ?kA ?kF ?kK ?k6 ?k7 ?k8 ?k9 ?kB ?kD ?_ ?c2 ?c3 ?c4; (case kA => exact rfl); (case kF => first | exact rfl | assumption); (case kK => first | exact rfl | assumption); (case k1 => k_asm); (case k2 => k_asm); (case k3 => k_asm); (case k4 => k_asm); (case k5 => k_asm); (case k6 => k_is); (case k7 => k_is); (case k8 => walk_at "MY room"); (case k9 => exact BindsTo.of_eq rfl); (case kB => exact rfl); (case kD => decide +kernel); (case c2 => exact rfl); (case c3 => exact rfl); (case c4 => exact rfl); k_whole; intro g'_k L'_k h'_k tk'_k cells'_k FG'_k F'_k N'_k Y'_k B'_k X'_k T'_k l1_k; (try k_lt l1_k); k_cells Y'_k; (try simp only [List.cons_append, List.nil_append] at N'_k); (try dsimp only); (try k_lift B'_k); (try k_fold))))
  k_with "MY enterT" => ((refine wpAny_call ?_; k_dflt (refine' code_defT ?k1 ?k2 ?k3 ?k4 ?k5 ?kA ?kF ?kK ?k6 ?k7 ?k8 ?k9 ?kB ?_ ?c2 ?c3 ?c4 ?c5; (case kA => exact rfl); (case kF => first | exact rfl | assumption); (case kK => first | exact rfl | assumption); (case k1 => k_asm); (case k2 => k_asm); (case k3 => k_asm); (case k4 => k_asm); (case k5 => k_asm); (case k6 => k_is); (case k7 => k_is); (case k8 => walk_at "MY room"); (case k9 => exact BindsTo.of_eq rfl); (case c5 => decide); (case kB => exact locs rfl); (case c2 => exact rfl); (case c3 => exact rfl); (case c4 => exact rfl); k_whole; intro g'_k L'_k h'_k FG'_k F'_k N'_k B'_k X'_k T'_k; (try dsimp only); (try k_lift B'_k); (try k_fold))))
  trivial
theorem signs_cons {c : Nat} {r : List Nat} (h : ¬ c / 1024 = 54) : signsL (c :: r) = (if c / 2048 = 27 then -1 else (c : Int)) :: signsL r := by
  k_with "MY body" =>
    cases r with
    | nil => simp [signsL]
    | cons d r => rw [signsL_one (fun q => h q.1)]
  run_tac go
theorem signs_pos {c : Nat} {r : List Nat} (h : ¬ c / 1024 = 54) (g : ¬ c / 2048 = 27) : signsL (c :: r) = (c : Int) :: signsL r := by rw [signs_cons h, if_neg g]
theorem signs_neg {c : Nat} {r : List Nat} (h : ¬ c / 1024 = 54) (g : c / 2048 = 27) : signsL (c :: r) = -1 :: signsL r := by rw [signs_cons h, if_pos g]
theorem signs_high {c d : Nat} {r : List Nat} (h : ¬ d / 1024 = 55) (g : c / 2048 = 27) : signsL (c :: d :: r) = -1 :: signsL (d :: r) := by rw [signsL_one (fun q => h q.2), if_pos g]
theorem encAll_cons (kp : List Nat) (x : Int) (xs : List Int) : encAll kp (x :: xs) = encOne kp x ++ encAll kp xs := by simp [encAll]
theorem mem_neg {x : Int} {xs : List Int} (h : 0 ≤ x) : -1 ∈ x :: xs ↔ -1 ∈ xs := by
  k_with "MY body" =>
    rw [List.mem_cons]
    exact ⟨fun q => q.elim (fun e => by omega) id, .inr⟩
  run_tac go
theorem encS_signs {kp : List Nat} (hk : ∀ c ∈ kp, c < 128) : ∀ (n : Nat) (l : List Nat), l.length ≤ n → (∀ c ∈ l, c ≤ 65535) → encS kp l = if -1 ∈ signsL l then none else some (encAll kp (signsL l))
  | _, [], _, _ => by simp [encS, signsL, encAll]
  | 0, _ :: _, h, _ => by simp at h
  | n + 1, c :: r, hl, hc => by
    have ih := fun (q : List Nat) (h : q.length ≤ r.length) (hq : ∀ c ∈ q, c ≤ 65535) => encS_signs hk n q (by simp at hl; omega) hq
    have hc0 := hc c (.head _)
    have hcr : ∀ c ∈ r, c ≤ 65535 := fun d hd => hc d (.tail _ hd)
    rw [encS]
    by_cases hkc : c ∈ kp
    · have h128 := hk c hkc
      rw [if_pos hkc, signs_pos (by omega) (by omega), encAll_cons, ih r (Nat.le_refl _) hcr]
      have e1 : encOne kp (c : Int) = [c] := by rw [encOne, if_pos ⟨by omega, by simpa using hkc⟩]; rfl
      rw [e1]
      by_cases hm : -1 ∈ signsL r
      · rw [if_pos hm, if_pos ((mem_neg (by omega)).mpr hm)]; rfl
      · rw [if_neg hm, if_neg (fun q => hm ((mem_neg (by omega)).mp q))]; rfl
    · rw [if_neg hkc]
      have eo : ∀ k : Nat, ¬ (k ∈ kp) → encOne kp (k : Int) = (octs k).flatMap octT := fun k h => by rw [encOne, if_neg (fun q => h (by simpa using q.2))]; rfl
      by_cases hlo : loU c = true
      · have := loU_iff.mp hlo
        have e : signAtS (c :: r) = none := by simp [signAtS, hlo]
        rw [e, signs_neg (by omega) (by omega)]
        exact (if_pos (.head _)).symm
      · by_cases hhi : hiU c = true
        · have := hiU_iff.mp hhi
          cases r with
          | nil =>
            have e : signAtS [c] = none := by simp [signAtS, hlo, hhi]
            rw [e, signsL_end_neg (by omega)]
            exact (if_pos (.head _)).symm
          | cons v r =>
            have hv0 := hc v (.tail _ (.head _))
            by_cases hlv : loU v = true
            · have hv := loU_iff.mp hlv
              have e : signAtS (c :: v :: r) = some ((c - 55296) * 1024 + (v - 56320) + 65536) := by simp [signAtS, hlo, hhi, hlv]
              have es : ((c - 55296) * 1024 + (v - 56320) + 65536 : Nat) = 65536 + c % 1024 * 1024 + v % 1024 := by omega
              rw [e, signsL_pair (by omega) (by omega) rfl, encAll_cons, es, eo _ (fun q => by have := hk _ q; omega)]
              simp only [show 65536 ≤ 65536 + c % 1024 * 1024 + v % 1024 by omega, if_true, List.tail_cons]
              rw [ih r (by simp) fun d hd => hcr d (.tail _ hd)]
              by_cases hm : -1 ∈ signsL r
              · rw [if_pos hm, if_pos ((mem_neg (by omega)).mpr hm)]; rfl
              · rw [if_neg hm, if_neg (fun q => hm ((mem_neg (by omega)).mp q))]; rfl
            · have hv : ¬ (56320 ≤ v ∧ v ≤ 57343) := fun q => hlv (loU_iff.mpr q)
              have e : signAtS (c :: v :: r) = none := by simp [signAtS, hlo, hhi, hlv]
              rw [e, signs_high (by omega) (by omega)]
              exact (if_pos (.head _)).symm
        · have h1 : ¬ (56320 ≤ c ∧ c ≤ 57343) := fun q => hlo (loU_iff.mpr q)
          have h2 : ¬ (55296 ≤ c ∧ c ≤ 56319) := fun q => hhi (hiU_iff.mpr q)
          have e : signAtS (c :: r) = some c := by simp [signAtS, hlo, hhi]
          rw [e, signs_pos (by omega) (by omega), encAll_cons, eo c hkc]
          simp only [show ¬ 65536 ≤ c by omega, if_false]
          rw [ih r (Nat.le_refl _) hcr]
          by_cases hm : -1 ∈ signsL r
          · rw [if_pos hm, if_pos ((mem_neg (by omega)).mpr hm)]; rfl
          · rw [if_neg hm, if_neg (fun q => hm ((mem_neg (by omega)).mp q))]; rfl

end
section
theorem kw_PM : True := by
  w_top off
  k_with_none
  k_with "MY room" => (first
      | ((try simp only [depth_under_make, depth_under_kw, depth_in1, depth_deeper, depth_caller, Around.mark]); (try dsimp only); omega)
      | ((try simp only [depth_under_make, depth_under_kw, depth_in1, depth_deeper, depth_caller, Around.mark]); (try dsimp only); simp only [recursionLimit] at *; omega))
  k_with "MY units" => ((have hcL9_k := cLine_is; (try simp only [units_in1, units_deeper, Around.mark_units, units_caller]); (try dsimp only); omega))
  k_with "MY enter" => ((refine wpAny_call ?_; k_dflt (refine' code_def ?k1 ?k2 ?k3 ?k4 ?k5 ?kA ?kF ?kK ?k6 ?k7 ?k8 ?k9 ?kB ?_ ?c2 ?c3 ?c4 ?c5; (case kA => exact rfl); (case kF => first | exact rfl | assumption); (case kK => first | exact rfl | assumption); (case k1 => k_asm); (case k2 => k_asm); (case k3 => k_asm); (case k4 => k_asm); (case k5 => k_asm); (case k6 => k_is); (case k7 => k_is); (case k8 => walk_at "MY room"); (case k9 => exact BindsTo.of_eq rfl); (case c5 => decide); (case kB => exact locs rfl); (case c2 => exact rfl); (case c3 => exact rfl); (case c4 => exact rfl); k_whole; intro g'_k L'_k h'_k FG'_k F'_k N'_k B'_k X'_k T'_k; (try dsimp only); (try k_lift B'_k); (try k_fold))))
  k_with "MY here" => ((refine' Here.mk ⟨_, ?h1⟩ ?h2 ?h3 ?h4 ⟨_, _, _, ?h5⟩ ?h6 ?h7 ?h8 ?h9 ?h10 ?h11; (case h6 => exact rfl); (case h1 => k_asm); (case h2 => k_asm); (case h3 => k_asm); (case h4 => k_asm); (case h5 => k_asm); (case h7 => first | exact rfl | assumption); (case h8 => first | exact rfl | assumption); (case h9 => exact rfl); (case h10 => walk_at "MY room"); (case h11 => walk_at "MY units")))
  k_with "MY sub" => ((intro p'_k hp'_k; first | exact hp'_k | (repeat (first | exact hp'_k | refine List.Mem.tail _ ?_))))
  k_with "MY fresh" => (first | assumption | (refine lt_of_all ?_; first | assumption | exact And.right (by assumption) | exact And.right (And.right (by assumption)) | exact And.right (And.right (And.right (by assumption))) | exact And.right (And.right (And.right (And.right (by assumption)))) | exact And.right (And.right (And.right (And.right (And.right (by assumption))))) | exact And.right (And.right (And.right (And.right (And.right (And.right (by assumption)))))) | exact And.right (And.right (And.right (And.right (And.right (And.right (And.right (by assumption)))))))))
  k_with "MY enterG" => ((refine wpAny_call ?_; k_dflt (refine' code_defG ?k1 ?k2 ?k3 ?k4 ?k5 ?kA ?kF ?kK ?k6 ?k7 ?k8 ?k9 ?kB ?_ ?c2 ?c3 ?c4 ?c5; (case kA => exact rfl); (case kF => first | exact rfl | assumption); (case kK => first | exact rfl | assumption); (case k1 => k_asm); (case k2 => k_asm); (case k3 => k_asm); (case k4 => k_asm); (case k5 => k_asm); (case k6 => k_is); (case k7 => k_is); (case k8 => walk_at "MY room"); (case k9 => exact BindsTo.of_eq rfl); (case c5 => decide); (case kB => exact locs rfl); (case c2 => exact rfl); (case c3 => exact rfl); (case c4 => exact rfl); k_whole; intro g'_k L'_k h'_k FG'_k F'_k N'_k B'_k X'_k T'_k kG'_k; (try dsimp only); (try k_lift B'_k); (try k_fold))))
  k_with "MY kept" => ((rename GSub _ _ _ => kG9_k; exact elt_after (InElt.start _) kG9_k (by assumption) (by assumption) (by assumption) (by walk_at "MY sub")))
  k_with "MY subr" => ((intro p'_k hp'_k; first | exact hp'_k | (repeat (first | exact hp'_k | exact List.mem_append_left _ hp'_k | exact List.mem_append_right _ hp'_k | refine List.Mem.tail _ ?_))))
  k_with "MY same" => ((intro z_k h1_k h2_k h3_k; first
      | rfl
      | ((try simp only [List.contains_cons, List.contains_nil, Bool.or_false, Bool.or_eq_false_iff, beq_eq_false_iff_ne, ne_eq] at h3_k); (simp [h1_k, h2_k, h3_k]; done))))
  k_with "MY enterC" => ((refine wpAny_call ?_; k_dflt (refine' code_defC ?k1 ?k2 ?k3 ?k4 ?k5 ?kA ?kF ?kK ?k6 ?k7 ?k8 ?k9 ?kB ?kD ?_ ?c2 ?c3 ?c4; (case kA => exact rfl); (case kF => first | exact rfl | assumption); (case kK => first | exact rfl | assumption); (case k1 => k_asm); (case k2 => k_asm); (case k3 => k_asm); (case k4 => k_asm); (case k5 => k_asm); (case k6 => k_is); (case k7 => k_is); (case k8 => walk_at "MY room"); (case k9 => exact BindsTo.of_eq rfl); (case kB => exact rfl); (case kD => decide +kernel); (case c2 => exact rfl); (case c3 => exact rfl); (case c4 => exact rfl); k_whole; intro g'_k L'_k h'_k tk'_k cells'_k FG'_k F'_k N'_k Y'_k B'_k X'_k T'_k l1_k; (try k_lt l1_k); k_cells Y'_k; (try simp only [List.cons_append, List.nil_append] at N'_k); (try dsimp only); (try k_lift B'_k); (try k_fold))))
  k_with "MY enterT" => ((refine wpAny_call ?_; k_dflt (refine' code_defT ?k1 ?k2 ?k3 ?k4 ?k5 ?kA ?kF ?kK ?k6 ?k7 ?k8 ?k9 ?kB ?_ ?c2 ?c3 ?c4 ?c5; (case kA => exact rfl); (case kF => first | exact rfl | assumption); (case kK => first | exact rfl | assumption); (case k1 => k_asm); (case k2 => k_asm); (case k3 => k_asm); (case k4 => k_asm); (case k5 => k_asm); (case k6 => k_is); (case k7 => k_is); (case k8 => walk_at "MY room"); (case k9 => exact BindsTo.of_eq rfl); (case c5 => decide); (case kB => exact locs rfl); (case c2 => exact rfl); (case c3 => exact rfl); (case c4 => exact rfl); k_whole; intro g'_k L'_k h'_k FG'_k F'_k N'_k B'_k X'_k T'_k; (try dsimp only); (try k_lift B'_k); (try k_fold))))
  trivial
theorem many_eq {o : Nat} (h : o < 256) : manyL o = ocount o := by
  k_with "MY body" =>
    unfold manyL ocount
    (repeat' split) <;> omega
  run_tac go
theorem numN_first (k n : Nat) : numN (bitsN k n) = k % 2 ^ n := by
  k_with "MY body" =>
    have := numN_bits k n []
    rw [List.nil_append] at this
    rw [this]
    show numN [] * 2 ^ n + _ = _
    rw [show numN [] = 0 from rfl, Nat.zero_mul, Nat.zero_add]
  run_tac go
theorem bits1 (o : Nat) : numN (bitsL [o]) = o % 128 := by
  k_with "MY body" =>
    show numN (bitsN o 7 ++ []) = _
    rw [List.append_nil, numN_first]
  run_tac go
theorem bits2 (o p : Nat) : numN (bitsL [o, p]) = o % 32 * 64 + p % 64 := by
  k_with "MY body" =>
    show numN (bitsN o 5 ++ (bitsN p 6 ++ [])) = _
    rw [List.append_nil, numN_bits, numN_first]
  run_tac go
theorem bits3 (o p q : Nat) : numN (bitsL [o, p, q]) = (o % 16 * 64 + p % 64) * 64 + q % 64 := by
  k_with "MY body" =>
    show numN (bitsN o 4 ++ (bitsN p 6 ++ (bitsN q 6 ++ []))) = _
    rw [List.append_nil, ← List.append_assoc, numN_bits, numN_bits, numN_first]
  run_tac go
theorem bits4 (o p q r : Nat) : numN (bitsL [o, p, q, r]) = ((o % 8 * 64 + p % 64) * 64 + q % 64) * 64 + r % 64 := by
  k_with "MY body" =>
    show numN (bitsN o 3 ++ (bitsN p 6 ++ (bitsN q 6 ++ (bitsN r 6 ++ [])))) = _
    rw [List.append_nil, ← List.append_assoc, ← List.append_assoc, numN_bits, numN_bits, numN_bits, numN_first]
  run_tac go
theorem half_iff {f : Nat} : f / 2048 = 27 ↔ hiU f = true ∨ loU f = true := by
  k_with "MY body" =>
    rw [hiU_iff, loU_iff]; omega
  run_tac go
theorem ok_iff {n f : Nat} : sgnOk n f = true ↔ leastN n ≤ f ∧ f ≤ 1114111 ∧ ¬ f / 2048 = 27 := by
  k_with "MY body" =>
    rw [half_iff]
    simp [sgnOk, and_assoc]
  run_tac go
theorem fin_eq {n m f : Nat} {os : List Nat} (h : f ≤ 1114111 → (leastN n ≤ f ↔ octs f = os)) :
    (if 1114111 < f ∨ f / 2048 = 27 ∨ ¬ octs f = os then none else some (m, unitsN f)) = (match (if sgnOk n f then some f else none) with | none => none | some sg => some (m, unitsN sg)) := by
  k_with "MY body" =>
    by_cases hk : sgnOk n f = true
    · obtain ⟨a, b, c⟩ := ok_iff.mp hk
      rw [if_pos hk, if_neg (fun q => q.elim (fun q => by omega) fun q => q.elim c fun q => q ((h b).mp a))]
    · rw [if_neg hk, if_pos]
      by_cases b : f ≤ 1114111
      · by_cases c : f / 2048 = 27
        · exact .inr (.inl c)
        · exact .inr (.inr fun q => hk (ok_iff.mpr ⟨(h b).mpr q, b, c⟩))
      · exact .inl (by omega)
  run_tac go
theorem oct2 {o p : Nat} (h : 192 ≤ o ∧ o < 224) (hp : p / 64 = 2) : leastN 2 ≤ o % 32 * 64 + p % 64 ↔ octs (o % 32 * 64 + p % 64) = [o, p] := by
  k_with "MY body" =>
    show 128 ≤ _ ↔ _
    unfold octs
    constructor
    · intro g
      rw [if_neg (by omega), if_pos (by omega)]
      simp only [List.cons.injEq, and_true]
      omega
    · intro g
      split at g
      · simp at g
      · omega
  run_tac go
theorem oct3 {o p q : Nat} (h : 224 ≤ o ∧ o < 240) (hp : p / 64 = 2) (hq : q / 64 = 2) : leastN 3 ≤ (o % 16 * 64 + p % 64) * 64 + q % 64 ↔ octs ((o % 16 * 64 + p % 64) * 64 + q % 64) = [o, p, q] := by
  k_with "MY body" =>
    show 2048 ≤ _ ↔ _
    unfold octs
    constructor
    · intro g
      rw [if_neg (by omega), if_neg (by omega), if_pos (by omega)]
      simp only [List.cons.injEq, and_true]
      omega
    · intro g
      split at g
      · simp at g
      · split at g
        · simp at g
        · omega
  run_tac go
theorem oct4 {o p q r : Nat} (h : 240 ≤ o ∧ o < 248) (hp : p / 64 = 2) (hq : q / 64 = 2) (hr : r / 64 = 2) : leastN 4 ≤ ((o % 8 * 64 + p % 64) * 64 + q % 64) * 64 + r % 64 ↔ octs (((o % 8 * 64 + p % 64) * 64 + q % 64) * 64 + r % 64) = [o, p, q, r] := by
  k_with "MY body" =>
    show 65536 ≤ _ ↔ _
    unfold octs
    constructor
    · intro g
      rw [if_neg (by omega), if_neg (by omega), if_neg (by omega)]
      simp only [List.cons.injEq, and_true]
      omega
    · intro g
      split at g
      · simp at g
      · split at g
        · simp at g
        · split at g
          · simp at g
          · omega
  run_tac go
/-- the two readings of one sign's octets -/
theorem read_eq {os : List Nat} {n o : Nat} (hn : os.length = n) (ho : ∃ r, os = o :: r) (hm : ocount o = n) (h8 : ∀ x ∈ os, x < 256) :
    (if os.tail.all (fun p => p / 64 == 2) then (if 1114111 < numN (bitsL os) ∨ numN (bitsL os) / 2048 = 27 ∨ ¬ octs (numN (bitsL os)) = os then none else some (n, unitsN (numN (bitsL os)))) else none) =
    (match sgnO os with | none => none | some sg => some (n, unitsN sg)) := by
  k_with "MY body" =>
    obtain ⟨r, rfl⟩ := ho
    have ho8 := h8 o (.head _)
    have hn4 : n ≤ 4 := by rw [← hm]; unfold ocount; (repeat' split) <;> omega
    rcases r with _ | ⟨p, _ | ⟨q, _ | ⟨t, _ | ⟨u, r⟩⟩⟩⟩
    · have h1 : ocount o = 1 := by simpa using hm.trans hn.symm
      have hl : o < 128 := by
        unfold ocount at h1
        (repeat' split at h1) <;> omega
      rw [bits1, Nat.mod_eq_of_lt hl]
      have e : octs o = [o] := by unfold octs; rw [if_pos hl]
      simp only [List.tail_cons, List.all_nil, if_true, sgnO, e]
      rw [if_neg (by simp; omega)]
    · have h1 : ocount o = 2 := by simpa using hm.trans hn.symm
      have hl : 192 ≤ o ∧ o < 224 := by
        unfold ocount at h1
        (repeat' split at h1) <;> omega
      rw [bits2]
      by_cases hp : p / 64 = 2
      · have e : sgnO [o, p] = if sgnOk 2 (o % 32 * 64 + p % 64) then some (o % 32 * 64 + p % 64) else none := by simp [sgnO, contO, hp]
        rw [e, if_pos (by simp [hp])]
        exact fin_eq fun _ => oct2 hl hp
      · have e : sgnO [o, p] = none := by simp [sgnO, contO, hp]
        rw [e, if_neg (by simp [hp])]
    · have h1 : ocount o = 3 := by simpa using hm.trans hn.symm
      have hl : 224 ≤ o ∧ o < 240 := by
        unfold ocount at h1
        (repeat' split at h1) <;> omega
      rw [bits3]
      by_cases hp : p / 64 = 2 ∧ q / 64 = 2
      · have e : sgnO [o, p, q] = if sgnOk 3 ((o % 16 * 64 + p % 64) * 64 + q % 64) then some ((o % 16 * 64 + p % 64) * 64 + q % 64) else none := by simp [sgnO, contO, hp.1, hp.2]
        rw [e, if_pos (by simp [hp.1, hp.2])]
        exact fin_eq fun _ => oct3 hl hp.1 hp.2
      · have e : sgnO [o, p, q] = none := by
          by_cases h1 : p / 64 = 2
          · have h2 : ¬ q / 64 = 2 := fun h => hp ⟨h1, h⟩
            simp [sgnO, contO, h1, h2]
          · simp [sgnO, contO, h1]
        rw [e, if_neg (by simpa using hp)]
    · have h1 : ocount o = 4 := by simpa using hm.trans hn.symm
      have hl : 240 ≤ o ∧ o < 248 := by
        unfold ocount at h1
        (repeat' split at h1) <;> omega
      rw [bits4]
      by_cases hp : p / 64 = 2 ∧ q / 64 = 2 ∧ t / 64 = 2
      · have e : sgnO [o, p, q, t] = if sgnOk 4 (((o % 8 * 64 + p % 64) * 64 + q % 64) * 64 + t % 64) then some (((o % 8 * 64 + p % 64) * 64 + q % 64) * 64 + t % 64) else none := by simp [sgnO, contO, hp.1, hp.2.1, hp.2.2]
        rw [e, if_pos (by simp [hp.1, hp.2.1, hp.2.2])]
        exact fin_eq fun _ => oct4 hl hp.1 hp.2.1 hp.2.2
      · have e : sgnO [o, p, q, t] = none := by
          by_cases h1 : p / 64 = 2
          · by_cases h2 : q / 64 = 2
            · have h3 : ¬ t / 64 = 2 := fun h => hp ⟨h1, h2, h⟩
              simp [sgnO, contO, h1, h2, h3]
            · simp [sgnO, contO, h1, h2]
          · simp [sgnO, contO, h1]
        rw [e, if_neg (by simpa using hp)]
    · simp at hn; omega
  run_tac go
theorem head_eq (t : List Nat) : headL t = headP t := by
  k_with "MY body" =>
    unfold headL headP
    cases ho : octA t with
    | none => rfl
    | some o =>
      have h8 := octA_lt ho
      simp only
      rw [many_eq h8]
      split
      · rfl
      · rename_i h0
        cases hos : octsA (ocount o) t with
        | none => rfl
        | some os =>
          obtain ⟨_, hl, hb⟩ := octsA_len hos
          exact read_eq hl (os_head ho hos h0) rfl hb
  run_tac go
theorem dec_eq (lf l : List Nat) : decG headL lf l = decP lf l := by
  k_with "MY body" =>
    rw [show headL = headP from funext head_eq]
  run_tac go
end
section
theorem kw_PN : True := by
  w_top off
  k_with_none
  k_with "MY room" => (first
      | ((try simp only [depth_under_make, depth_under_kw, depth_in1, depth_deeper, depth_caller, Around.mark]); (try dsimp only); omega)
      | ((try simp only [depth_under_make, depth_under_kw, depth_in1, depth_deeper, depth_caller, Around.mark]); (try dsimp only); simp only [recursionLimit] at *; omega))
  k_with "MY units" => ((have hcL9_k := cLine_is; (try simp only [units_in1, units_deeper, Around.mark_units, units_caller]); (try dsimp only); omega))
  k_with "MY enter" => ((refine wpAny_call ?_; k_dflt (refine' code_def ?k1 ?k2 ?k3 ?k4 ?k5 ?kA ?kF ?kK ?k6 ?k7 ?k8 ?k9 ?kB ?_ ?c2 ?c3 ?c4 ?c5; (case kA => exact rfl); (case kF => first | exact rfl | assumption); (case kK => first | exact rfl | assumption); (case k1 => k_asm); (case k2 => k_asm); (case k3 => k_asm); (case k4 => k_asm); (case k5 => k_asm); (case k6 => k_is); (case k7 => k_is); (case k8 => walk_at "MY room"); (case k9 => exact BindsTo.of_eq rfl); (case c5 => decide); (case kB => exact locs rfl); (case c2 => exact rfl); (case c3 => exact rfl); (case c4 => exact rfl); k_whole; intro g'_k L'_k h'_k FG'_k F'_k N'_k B'_k X'_k T'_k; (try dsimp only); (try k_lift B'_k); (try k_fold))))
  k_with "MY here" => ((refine' Here.mk ⟨_, ?h1⟩ ?h2 ?h3 ?h4 ⟨_, _, _, ?h5⟩ ?h6 ?h7 ?h8 ?h9 ?h10 ?h11; (case h6 => exact rfl); (case h1 => k_asm); (case h2 => k_asm); (case h3 => k_asm); (case h4 => k_asm); (case h5 => k_asm); (case h7 => first | exact rfl | assumption); (case h8 => first | exact rfl | assumption); (case h9 => exact rfl); (case h10 => walk_at "MY room"); (case h11 => walk_at "MY units")))
  k_with "MY sub" => ((intro p'_k hp'_k; first | exact hp'_k | (repeat (first | exact hp'_k | refine List.Mem.tail _ ?_))))
  k_with "MY fresh" => (first | assumption | (refine lt_of_all ?_; first | assumption | exact And.right (by assumption) | exact And.right (And.right (by assumption)) | exact And.right (And.right (And.right (by assumption))) | exact And.right (And.right (And.right (And.right (by assumption)))) | exact And.right (And.right (And.right (And.right (And.right (by assumption))))) | exact And.right (And.right (And.right (And.right (And.right (And.right (by assumption)))))) | exact And.right (And.right (And.right (And.right (And.right (And.right (And.right (by assumption)))))))))
  k_with "MY enterG" => ((refine wpAny_call ?_; k_dflt (refine' code_defG ?k1 ?k2 ?k3 ?k4 ?k5 ?kA ?kF ?kK ?k6 ?k7 ?k8 ?k9 ?kB ?_ ?c2 ?c3 ?c4 ?c5; (case kA => exact rfl); (case kF => first | exact rfl | assumption); (case kK => first | exact rfl | assumption); (case k1 => k_asm); (case k2 => k_asm); (case k3 => k_asm); (case k4 => k_asm); (case k5 => k_asm); (case k6 => k_is); (case k7 => k_is); (case k8 => walk_at "MY room"); (case k9 => exact BindsTo.of_eq rfl); (case c5 => decide); (case kB => exact locs rfl); (case c2 => exact rfl); (case c3 => exact rfl); (case c4 => exact rfl); k_whole; intro g'_k L'_k h'_k FG'_k F'_k N'_k B'_k X'_k T'_k kG'_k; (try dsimp only); (try k_lift B'_k); (try k_fold))))
  k_with "MY kept" => ((rename GSub _ _ _ => kG9_k; exact elt_after (InElt.start _) kG9_k (by assumption) (by assumption) (by assumption) (by walk_at "MY sub")))
  k_with "MY subr" => ((intro p'_k hp'_k; first | exact hp'_k | (repeat (first | exact hp'_k | exact List.mem_append_left _ hp'_k | exact List.mem_append_right _ hp'_k | refine List.Mem.tail _ ?_))))
  k_with "MY same" => ((intro z_k h1_k h2_k h3_k; first
      | rfl
      | ((try simp only [List.contains_cons, List.contains_nil, Bool.or_false, Bool.or_eq_false_iff, beq_eq_false_iff_ne, ne_eq] at h3_k); (simp [h1_k, h2_k, h3_k]; done))))
  k_with "MY enterC" => ((refine wpAny_call ?_; k_dflt (refine' code_defC ?k1 ?k2 ?k3 ?k4 ?k5 ?kA ?kF ?kK ?k6 ?k7 ?k8 ?k9 ?kB ?kD ?_ ?c2 ?c3 ?c4; (case kA => exact rfl); (case kF => first | exact rfl | assumption); (case kK => first | exact rfl | assumption); (case k1 => k_asm); (case k2 => k_asm); (case k3 => k_asm); (case k4 => k_asm); (case k5 => k_asm); (case k6 => k_is); (case k7 => k_is); (case k8 => walk_at "MY room"); (case k9 => exact BindsTo.of_eq rfl); (case kB => exact rfl); (case kD => decide +kernel); (case c2 => exact rfl); (case c3 => exact rfl); (case c4 => exact rfl); k_whole; intro g'_k L'_k h'_k tk'_k cells'_k FG'_k F'_k N'_k Y'_k B'_k X'_k T'_k l1_k; (try k_lt l1_k); k_cells Y'_k; (try simp only [List.cons_append, List.nil_append] at N'_k); (try dsimp only); (try k_lift B'_k); (try k_fold))))
  k_with "MY enterT" => ((refine wpAny_call ?_; k_dflt (refine' code_defT ?k1 ?k2 ?k3 ?k4 ?k5 ?kA ?kF ?kK ?k6 ?k7 ?k8 ?k9 ?kB ?_ ?c2 ?c3 ?c4 ?c5; (case kA => exact rfl); (case kF => first | exact rfl | assumption); (case kK => first | exact rfl | assumption); (case k1 => k_asm); (case k2 => k_asm); (case k3 => k_asm); (case k4 => k_asm); (case k5 => k_asm); (case k6 => k_is); (case k7 => k_is); (case k8 => walk_at "MY room"); (case k9 => exact BindsTo.of_eq rfl); (case c5 => decide); (case kB => exact locs rfl); (case c2 => exact rfl); (case c3 => exact rfl); (case c4 => exact rfl); k_whole; intro g'_k L'_k h'_k FG'_k F'_k N'_k B'_k X'_k T'_k; (try dsimp only); (try k_lift B'_k); (try k_fold))))
  trivial
theorem hexv_hexd {d : Nat} (h : d < 16) : hexv (hexd d) = some d := by
  k_with "MY body" =>
    have : ∀ d : Fin 16, hexv (hexd d.val) = some d.val := by decide
    exact this ⟨d, h⟩
  run_tac go
theorem octA_octT {o : Nat} {r : List Nat} (h : o < 256) : octA (octT o ++ r) = some o := by
  k_with "MY body" =>
    show (if 37 = 37 then hexN [hexd (o / 16), hexd (o % 16)] else none) = some o
    rw [if_pos rfl]
    simp only [hexN, List.foldl_cons, List.foldl_nil, hexv_hexd (show o / 16 < 16 by omega), hexv_hexd (show o % 16 < 16 by omega)]
    congr 1
    omega
  run_tac go
theorem octsA_octT {r : List Nat} : ∀ {os : List Nat}, (∀ o ∈ os, o < 256) → octsA os.length (os.flatMap octT ++ r) = some os
  | [], _ => rfl
  | o :: os, h => by
    rw [List.length_cons, List.flatMap_cons, List.append_assoc, octsA, octA_octT (h o (.head _))]
    have e : (octT o ++ (os.flatMap octT ++ r)).drop 3 = os.flatMap octT ++ r := rfl
    simp only [e, octsA_octT fun o h' => h o (.tail _ h'), Option.map_some]
theorem octs_back {sg : Nat} (h : sg ≤ 1114111) : numN (bitsL (octs sg)) = sg ∧ (octs sg).tail.all (fun p => p / 64 == 2) = true ∧ ∃ o r, octs sg = o :: r ∧ manyL o = (octs sg).length := by
  k_with "MY body" =>
    unfold octs
    (repeat' split)
    · rw [bits1]
      refine ⟨by omega, rfl, _, _, rfl, ?_⟩
      unfold manyL; rw [if_pos (by omega)]; rfl
    · rw [bits2]
      refine ⟨by omega, by simp; omega, _, _, rfl, ?_⟩
      unfold manyL; rw [if_neg (by omega), if_pos (by omega)]; rfl
    · rw [bits3]
      refine ⟨by omega, by simp; omega, _, _, rfl, ?_⟩
      unfold manyL; rw [if_neg (by omega), if_neg (by omega), if_pos (by omega)]; rfl
    · rw [bits4]
      refine ⟨by omega, by simp; omega, _, _, rfl, ?_⟩
      unfold manyL; rw [if_neg (by omega), if_neg (by omega), if_neg (by omega), if_pos (by omega)]; rfl
  run_tac go
theorem head_back {sg : Nat} {r : List Nat} (h : sg ≤ 1114111) (hs : ¬ sg / 2048 = 27) : headP ((octs sg).flatMap octT ++ r) = some ((octs sg).length, unitsN sg) := by
  k_with "MY body" =>
    obtain ⟨hn, ha, o, q, ho, hm⟩ := octs_back h
    have h8 : ∀ o ∈ octs sg, o < 256 := fun o ho => octs_lt h ho
    have e1 : octA ((octs sg).flatMap octT ++ r) = some o := by
      rw [ho, List.flatMap_cons, List.append_assoc]
      exact octA_octT (h8 o (ho ▸ .head _))
    have e2 : octsA (manyL o) ((octs sg).flatMap octT ++ r) = some (octs sg) := by rw [hm]; exact octsA_octT h8
    rw [← head_eq, headL_some e1 (by rw [hm, ho]; exact Nat.succ_ne_zero _) e2 ha (by rw [hn]; exact fun q => q.elim (fun q => by omega) fun q => q.elim hs fun q => q rfl), hn, hm]
  run_tac go
theorem in_nil {k : Nat} : inS [] (unitsN k) = false := by
  k_with "MY body" =>
    unfold unitsN
    split <;> simp [inS, Builtin.Str.occurrences, S, PySem.Str.length]
  run_tac go
theorem octT_flat_len (os : List Nat) : (os.flatMap octT).length = 3 * os.length := by
  k_with "MY body" =>
    induction os with
    | nil => rfl
    | cons o os ih => rw [List.flatMap_cons, List.length_append, ih, List.length_cons]; simp [octT]; omega
  run_tac go
theorem dec_one {kp rest : List Nat} {sg : Nat} (hk : ∀ c ∈ kp, c < 128) (h37 : ¬ 37 ∈ kp) (h : sg ≤ 1114111) (hs : ¬ sg / 2048 = 27) : decP [] (encOne kp (sg : Int) ++ rest) = (decP [] rest).map (unitsN sg ++ ·) := by
  k_with "MY body" =>
    by_cases hq : ((sg : Int) < 128 ∧ (sg : Int).toNat ∈ kp)
    · have e : encOne kp (sg : Int) = [sg] := by rw [encOne, if_pos hq]; rfl
      have hm : sg ∈ kp := by simpa using hq.2
      have h1 := hk sg hm
      have hn : ¬ sg = 37 := fun e => h37 (e ▸ hm)
      rw [e, List.singleton_append]
      show decG headP [] (sg :: rest) = _
      rw [decG_plain hn]
      have e2 : unitsN sg = [sg] := by unfold unitsN; rw [if_pos (by omega)]
      rw [e2]
      rfl
    · have e : encOne kp (sg : Int) = (octs sg).flatMap octT := by rw [encOne, if_neg hq]; rfl
      rw [e]
      have hh := head_back (r := rest) h hs
      obtain ⟨_, _, o, q, ho, _⟩ := octs_back h
      have hl := octT_flat_len (octs sg)
      have hd : ((octs sg).flatMap octT ++ rest).drop (3 * (octs sg).length) = rest := by rw [← hl]; exact List.drop_left
      obtain ⟨t, ht⟩ : ∃ t, (octs sg).flatMap octT ++ rest = 37 :: t := ⟨hexd (o / 16) :: hexd (o % 16) :: (q.flatMap octT ++ rest), by rw [ho]; rfl⟩
      rw [ht] at hh hd ⊢
      show decG headP [] (37 :: t) = _
      rw [decG_some hh, in_nil]
      have : t.drop (3 * (octs sg).length - 1) = rest := by
        have hp : 1 ≤ (octs sg).length := by rw [ho]; exact Nat.succ_le_succ (Nat.zero_le _)
        obtain ⟨k, hk⟩ : ∃ k, 3 * (octs sg).length = k + 1 := ⟨3 * (octs sg).length - 1, by omega⟩
        rw [hk] at hd ⊢
        simpa using hd
      rw [this]
      rfl
  run_tac go
theorem dec_back {kp : List Nat} (hk : ∀ c ∈ kp, c < 128) (h37 : ¬ 37 ∈ kp) : ∀ (n : Nat) (l : List Nat), l.length ≤ n → (∀ c ∈ l, c ≤ 65535) → ¬ -1 ∈ signsL l → decP [] (encAll kp (signsL l)) = some l
  | _, [], _, _, _ => by simp [signsL, encAll, decG_nil]
  | 0, _ :: _, h, _, _ => by simp at h
  | n + 1, c :: r, hl, hc, hm => by
    have ih := fun (q : List Nat) (h : q.length ≤ r.length) (hq : ∀ c ∈ q, c ≤ 65535) (g : ¬ -1 ∈ signsL q) => dec_back hk h37 n q (by simp at hl; omega) hq g
    have hc0 := hc c (.head _)
    have hcr : ∀ c ∈ r, c ≤ 65535 := fun d hd => hc d (.tail _ hd)
    have plain : signsL (c :: r) = (c : Int) :: signsL r → ¬ c / 2048 = 27 → decP [] (encAll kp (signsL (c :: r))) = some (c :: r) := fun e hs => by
      rw [e] at hm
      rw [e, encAll_cons, dec_one hk h37 (by omega) hs, ih r (Nat.le_refl _) hcr fun q => hm (.tail _ q)]
      have e2 : unitsN c = [c] := by unfold unitsN; rw [if_pos (by omega)]
      rw [e2]; rfl
    by_cases h54 : c / 1024 = 54
    · cases r with
      | nil => rw [signsL_end_neg (by omega)] at hm; exact absurd (.head _) hm
      | cons d r =>
        have hd0 := hcr d (.head _)
        by_cases h55 : d / 1024 = 55
        · have e := signsL_pair (c := c) (d := d) (r := r) h54 h55 rfl
          rw [e] at hm
          rw [e, encAll_cons, dec_one hk h37 (by omega) (by omega), ih r (by simp) (fun z hz => hcr z (.tail _ hz)) fun q => hm (.tail _ q)]
          have e2 : unitsN (65536 + c % 1024 * 1024 + d % 1024) = [c, d] := by
            unfold unitsN
            rw [if_neg (by omega)]
            simp only [List.cons.injEq, and_true]
            omega
          rw [e2]; rfl
        · rw [signs_high h55 (by omega)] at hm; exact absurd (.head _) hm
    · by_cases h27 : c / 2048 = 27
      · rw [signs_neg h54 h27] at hm; exact absurd (.head _) hm
      · exact plain (signs_pos h54 h27) h27
theorem textA : Str.ofString "%41%e2%82%ac" = S [37, 52, 49, 37, 101, 50, 37, 56, 50, 37, 97, 99] := by decide +kernel
theorem textB : Str.ofString "%C0%AF" = S [37, 67, 48, 37, 65, 70] := by decide +kernel
theorem euroS : S [65, 8364] = Str.ofString "A€" := by decide +kernel
theorem dec_A : decP [] [37, 52, 49, 37, 101, 50, 37, 56, 50, 37, 97, 99] = some [65, 8364] := by
  k_with "MY body" =>
    show decG headP [] _ = _
    rw [decG_some (n := 1) (us := unitsN 65) (by decide), in_nil]
    rw [show ([52, 49, 37, 101, 50, 37, 56, 50, 37, 97, 99] : List Nat).drop (3 * 1 - 1) = [37, 101, 50, 37, 56, 50, 37, 97, 99] from rfl]
    rw [decG_some (n := 3) (us := unitsN 8364) (by decide), in_nil]
    rw [show ([101, 50, 37, 56, 50, 37, 97, 99] : List Nat).drop (3 * 3 - 1) = [] from rfl, decG_nil]
    rfl
  run_tac go
theorem dec_B : decP [] [37, 67, 48, 37, 65, 70] = none := decG_none (by decide)

end
section
theorem kw_L10 : True := by
  w_top off
  k_with_none
  k_with "MY room" => (first
      | ((try simp only [depth_under_make, depth_under_kw, depth_in1, depth_deeper, depth_caller, Around.mark]); (try dsimp only); omega)
      | ((try simp only [depth_under_make, depth_under_kw, depth_in1, depth_deeper, depth_caller, Around.mark]); (try dsimp only); simp only [recursionLimit] at *; omega))
  k_with "MY units" => ((have hcL9_k := cLine_is; (try simp only [units_in1, units_deeper, Around.mark_units, units_caller]); (try dsimp only); omega))
  k_with "MY enter" => ((refine wpAny_call ?_; k_dflt (refine' code_def ?k1 ?k2 ?k3 ?k4 ?k5 ?kA ?kF ?kK ?k6 ?k7 ?k8 ?k9 ?kB ?_ ?c2 ?c3 ?c4 ?c5; (case kA => exact rfl); (case kF => first | exact rfl | assumption); (case kK => first | exact rfl | assumption); (case k1 => k_asm); (case k2 => k_asm); (case k3 => k_asm); (case k4 => k_asm); (case k5 => k_asm); (case k6 => k_is); (case k7 => k_is); (case k8 => walk_at "MY room"); (case k9 => exact BindsTo.of_eq rfl); (case c5 => decide); (case kB => exact locs rfl); (case c2 => exact rfl); (case c3 => exact rfl); (case c4 => exact rfl); k_whole; intro g'_k L'_k h'_k FG'_k F'_k N'_k B'_k X'_k T'_k; (try dsimp only); (try k_lift B'_k); (try k_fold))))
  k_with "MY here" => ((refine' Here.mk ⟨_, ?h1⟩ ?h2 ?h3 ?h4 ⟨_, _, _, ?h5⟩ ?h6 ?h7 ?h8 ?h9 ?h10 ?h11; (case h6 => exact rfl); (case h1 => k_asm); (case h2 => k_asm); (case h3 => k_asm); (case h4 => k_asm); (case h5 => k_asm); (case h7 => first | exact rfl | assumption); (case h8 => first | exact rfl | assumption); (case h9 => exact rfl); (case h10 => walk_at "MY room"); (case h11 => walk_at "MY units")))
  k_with "MY sub" => ((intro p'_k hp'_k; first | exact hp'_k | (repeat (first | exact hp'_k | refine List.Mem.tail _ ?_))))
  k_with "MY fresh" => (first | assumption | (refine lt_of_all ?_; first | assumption | exact And.right (by assumption) | exact And.right (And.right (by assumption)) | exact And.right (And.right (And.right (by assumption))) | exact And.right (And.right (And.right (And.right (by assumption)))) | exact And.right (And.right (And.right (And.right (And.right (by assumption))))) | exact And.right (And.right (And.right (And.right (And.right (And.right (by assumption)))))) | exact And.right (And.right (And.right (And.right (And.right (And.right (And.right (by assumption)))))))))
  k_with "MY enterG" => ((refine wpAny_call ?_; k_dflt (refine' code_defG ?k1 ?k2 ?k3 ?k4 ?k5 ?kA ?kF ?kK ?k6 ?k7 ?k8 ?k9 ?kB ?_ ?c2 ?c3 ?c4 ?c5; (case kA => exact rfl); (case kF => first | exact rfl | assumption); (case kK => first | exact rfl | assumption); (case k1 => k_asm); (case k2 => k_asm); (case k3 => k_asm); (case k4 => k_asm); (case k5 => k_asm); (case k6 => k_is); (case k7 => k_is); (case k8 => walk_at "MY room"); (case k9 => exact BindsTo.of_eq rfl); (case c5 => decide); (case kB => exact locs rfl); (case c2 => exact rfl); (case c3 => exact rfl); (case c4 => exact rfl); k_whole; intro g'_k L'_k h'_k FG'_k F'_k N'_k B'_k X'_k T'_k kG'_k; (try dsimp only); (try k_lift B'_k); (try k_fold))))
  k_with "MY kept" => ((rename GSub _ _ _ => kG9_k; exact elt_after (InElt.start _) kG9_k (by assumption) (by assumption) (by assumption) (by walk_at "MY sub")))
  k_with "MY subr" => ((intro p'_k hp'_k; first | exact hp'_k | (repeat (first | exact hp'_k | exact List.mem_append_left _ hp'_k | exact List.mem_append_right _ hp'_k | refine List.Mem.tail _ ?_))))
  k_with "MY same" => ((intro z_k h1_k h2_k h3_k; first
      | rfl
      | ((try simp only [List.contains_cons, List.contains_nil, Bool.or_false, Bool.or_eq_false_iff, beq_eq_false_iff_ne, ne_eq] at h3_k); (simp [h1_k, h2_k, h3_k]; done))))
  k_with "MY enterC" => ((refine wpAny_call ?_; k_dflt (refine' code_defC ?k1 ?k2 ?k3 ?k4 ?k5 ?kA ?kF ?kK ?k6 ?k7 ?k8 ?k9 ?kB ?kD ?_ ?c2 ?c3 ?c4; (case kA => exact rfl); (case kF => first | exact rfl | assumption); (case kK => first | exact rfl | assumption); (case k1 => k_asm); (case k2 => k_asm); (case k3 => k_asm); (case k4 => k_asm); (case k5 => k_asm); (case k6 => k_is); (case k7 => k_is); (case k8 => walk_at "MY room"); (case k9 => exact BindsTo.of_eq rfl); (case kB => exact rfl); (case kD => decide +kernel); (case c2 => exact rfl); (case c3 => exact rfl); (case c4 => exact rfl); k_whole; intro g'_k L'_k h'_k tk'_k cells'_k FG'_k F'_k N'_k Y'_k B'_k X'_k T'_k l1_k; (try k_lt l1_k); k_cells Y'_k; (try simp only [List.cons_append, List.nil_append] at N'_k); (try dsimp only); (try k_lift B'_k); (try k_fold))))
  k_with "MY enterT" => ((refine wpAny_call ?_; k_dflt (refine' code_defT ?k1 ?k2 ?k3 ?k4 ?k5 ?kA ?kF ?kK ?k6 ?k7 ?k8 ?k9 ?kB ?_ ?c2 ?c3 ?c4 ?c5; (case kA => exact rfl); (case kF => first | exact rfl | assumption); (case kK => first | exact rfl | assumption); (case k1 => k_asm); (case k2 => k_asm); (case k3 => k_asm); (case k4 => k_asm); (case k5 => k_asm); (case k6 => k_is); (case k7 => k_is); (case k8 => walk_at "MY room"); (case k9 => exact BindsTo.of_eq rfl); (case c5 => decide); (case kB => exact locs rfl); (case c2 => exact rfl); (case c3 => exact rfl); (case c4 => exact rfl); k_whole; intro g'_k L'_k h'_k FG'_k F'_k N'_k B'_k X'_k T'_k; (try dsimp only); (try k_lift B'_k); (try k_fold))))
  trivial
theorem kw_L10_1 : True := by
  k_with "MY body" =>
    k_with "call ref" => (refine halt_in ?_)
    k_with "eval ListComp" => (refine halt_in ?_)
    k_with "CompSrc" => (((rename PoolO _ _ _ => hG9_k); refine halt_in ?_))
    k_with "MY hereP" => ((refine' Here.mk ⟨_, ?h1⟩ ?h2 ?h3 ?h4 ⟨_, _, _, ?h5⟩ ?h6 ?h7 ?h8 ?h9 ?h10 ?h11; (case h6 => exact rfl); (case h1 => k_asm); (case h2 => k_asm); (case h3 => k_asm); (case h4 => first | k_asm | exact news_swap (by k_asm)); (case h5 => k_asm); (case h7 => first | exact rfl | assumption); (case h8 => first | exact rfl | assumption); (case h9 => exact rfl); (case h10 => walk_at "MY room"); (case h11 => walk_at "MY units")))
    k_with "MY num" => (first | omega | with_reducible assumption | decide)
    k_with "call ref" => (((with_reducible show wpAny _ _ (call (Value.ref 157) _) _ _ _); refine' draw_ok _ _ _ _ _ _ _ ?hH9 ?hp9 ?hs9 ?hk9 ?hy9 ?hz9 ?hn9 ?hq9 ?_; (case hH9 => walk_at "MY hereP"); (case hp9 => assumption); (case hs9 => assumption); (case hk9 => walk_at "MY num"); (case hy9 => walk_at "MY num"); (case hz9 => walk_at "MY num"); (case hn9 => assumption); (case hq9 => k_all); intro v'_k tv'_k h'_k tk'_k o'_k hv'_k hP'_k F'_k N'_k; (try dsimp only); (try k_fold)))
    trivial
  run_tac go
structure IfGo : Prop where
  mk :: (one : True)
theorem kw_L10_2 : True := by
  k_with "MY body" =>
    k_with "exec If" => (((fail_if_success have : IfGo := by assumption); refine halt_in ?_))
    trivial
  run_tac go
theorem keptS2 : Str.ofString "ABCDEFGHIJKLMNOPQRSTUVWXYZabcdefghijklmnopqrstuvwxyz0123456789-_.!~*'()" ++ Str.ofString ";/?:@&=+$,#" = S keptL := by decide +kernel
theorem plain_len : plainL.length = 71 := by decide +kernel
theorem kept_len : keptL.length = 82 := by decide +kernel
theorem left_len : leftL.length = 11 := by decide +kernel
set_option maxRecDepth 100000 in
set_option maxHeartbeats 8000000 in
theorem law_ok : PySem.Challenge.rw_nt0345_01.Holds := by
  k_with "MY body" =>
    refine hd ?_
    k_go0
    k_steps
    refine Halt.out ?_
    rename Fr _ _ _ _ => F1
    rename News _ _ _ _ => N1
    obtain ⟨oP, oS, hP0, hS0, hne, hnP, N2⟩ := law_start N1 (by assumption) (by simp only [List.length_map, List.length_take]; omega) (by assumption)
    clear N1
    refine LCg.ListComp_U F1 (by with_unfolding_all rfl) (by decide) (by rfl) (by decide) (by with_unfolding_all rfl) ?_ (by intro _; with_unfolding_all rfl)
    k_steps
    refine Halt.out ?_
    refine' draw_ok _ _ _ _ _ _ _ ?hH9 hP0 hS0 ?hk9 ?hy9 ?hz9 hne hnP ?_
    case hH9 => walk_at "MY hereP"
    case hk9 => decide
    case hy9 => decide
    case hz9 => decide
    intro vn tv h' tk' oP1 hvn hP1 F' N'
    (try dsimp only)
    (try k_fold)
    k_steps
    rename PoolO _ _ _ => hP1
    refine Halt.out ?_
    rename Fr _ _ _ _ => F1
    rename News _ _ _ _ => N1
    have hvn9 : vn ≤ 8 := by omega
    refine LCg.CompSrc.range (n := vn) rfl F1 N1 (by assumption) (small_one (by omega) (by omega) (by omega) (by omega)) (rangeSize_nat _ _) (by rw [sizeLine_eq]; omega) ?_
    intro g
    refine comp_run vn (SignsI _ (0 + 1) _ oS [_]) ?_ ?_ vn 0 [] _ (by omega) (signs_0 hP1)
    · intro i ys news v I oI C oC D m₂ h tk E' hi hI hPv hNs hmx F N off ne
      obtain ⟨o, xs, rfl, hPo, hst, hxl, hxs⟩ := hI.all
      obtain ⟨t, rfl⟩ := hPv
      have hns := hNs.ns (N _ (.tail _ (.head _))).1
      (try dsimp only)
      (try k_fold)
      k_steps
      refine Halt.out ?_
      have N9 := front3 (by k_asm)
      refine lsign_ok _ _ _ oS (0 + 1 + 4 * i) (by walk_at "MY hereP") hPo hS0 (by omega) hne (off_P off hnP) ?_
      intro v h' tk' o2 hv hP2 F' N'
      obtain ⟨x2, t2, rfl, hx2⟩ := hv
      (try dsimp only)
      (try k_fold)
      k_steps
      exact Halt.out ⟨_, _, _, by first | rfl | trivial, F', back3 N', off, trivial, signs_1 hP2 (by omega) hst hxl hxs hx2⟩
    · intro ys news hI
      obtain ⟨o, xs, rfl, hPo, hst, hxl, hxs⟩ := hI.all
      intro D h tk F N off
      (try dsimp only)
      (try k_fold)
      k_steps
      obtain ⟨htl, htc⟩ := cat_signs hxs
      rw [emptyS]
      refine join_S (News.isList (by k_asm) (.head _)) (by simpa using hst) (by omega) ?_
      intro tk9
      generalize cat (xs.map S) = tx at htl htc
      have hlen : (S tx).length = tx.length := S_len tx
      k_steps
      refine Halt.out ?_
      rw [plainS]
      refine lenc1_ok tx plainL (by omega) (by rw [plain_len]; decide) htc _ _ (by walk_at "MY here") ?_
      intro v1 h1 tk1 hv1 F' N'
      (try dsimp only)
      (try k_fold)
      k_steps
      refine Halt.out ?_
      rw [keptS2]
      refine lenc1_ok tx keptL (by omega) (by rw [kept_len]; decide) htc _ _ (by walk_at "MY here") ?_
      intro v2 h2 tk2 hv2 F' N'
      (try dsimp only)
      (try k_fold)
      k_steps
      refine Halt.out ?_
      rename Fr _ _ _ _ => F1
      rename News _ _ _ _ => N1
      have hE1 := encS_signs (kp := plainL) (by decide +kernel) tx.length tx (Nat.le_refl _) htc
      have hE2 := encS_signs (kp := keptL) (by decide +kernel) tx.length tx (Nat.le_refl _) htc
      refine cut_next F1 N1 ?_ ?_
      · have hgo : IfGo := ⟨trivial⟩
        k_steps
        refine Halt.out ?_
        refine heard_ok 136 tx (encS plainL tx) (work_enc_part tx (by omega) htc) (by k_is) _ (by walk_at "MY here") ?_
        intro v3 h3 tk3 hv3 F' N'
        (try dsimp only)
        (try k_fold)
        by_cases hm : -1 ∈ signsL tx
        · rw [if_pos hm] at hv1 hv2 hE1 hE2
          rw [hE1] at hv3
          subst hv1 hv2 hv3
          k_steps
          refine Halt.out ?_
          refine heard_ok 129 tx (encS keptL tx) (work_enc_uri tx (by omega) htc) (by k_is) _ (by walk_at "MY here") ?_
          intro v4 h4 tk4 hv4 F' N'
          rw [hE2] at hv4
          subst hv4
          (try dsimp only)
          (try k_fold)
          k_steps
          exact Halt.out ⟨rfl, _, _, rfl, (by k_asm), (by k_asm)⟩
        · rw [if_neg hm] at hv1 hv2 hE1 hE2
          rw [hE1] at hv3
          obtain ⟨t1, rfl⟩ := hv1
          obtain ⟨t2, rfl⟩ := hv2
          obtain ⟨t3, rfl⟩ := hv3
          have hb1 : (S (encAll plainL (signsL tx)) != S (encAll plainL (signsL tx))) = false := bne_self_eq_false _
          have hb2 : (S (encAll keptL (signsL tx)) != S (encAll keptL (signsL tx))) = false := bne_self_eq_false _
          k_steps
          refine Halt.out ?_
          refine heard_ok 129 tx (encS keptL tx) (work_enc_uri tx (by omega) htc) (by k_is) _ (by walk_at "MY here") ?_
          intro v4 h4 tk4 hv4 F' N'
          rw [hE2] at hv4
          obtain ⟨t4, rfl⟩ := hv4
          (try dsimp only)
          (try k_fold)
          k_steps
          exact Halt.out ⟨rfl, _, _, rfl, (by k_asm), (by k_asm)⟩
      · clear F1 N1
        intro h3 tk3 F1 N1
        (try dsimp only)
        (try k_fold)
        k_steps
        refine Halt.out ?_
        rename Fr _ _ _ _ => F1
        rename News _ _ _ _ => N1
        refine cut_next F1 N1 ?_ ?_
        · have hgo : IfGo := ⟨trivial⟩
          by_cases hm : -1 ∈ signsL tx
          · rw [if_pos hm] at hv1 hv2
            subst hv1 hv2
            k_steps
            exact Halt.out ⟨rfl, _, _, rfl, (by k_asm), (by k_asm)⟩
          · rw [if_neg hm] at hv1 hv2
            obtain ⟨t1, rfl⟩ := hv1
            obtain ⟨t2, rfl⟩ := hv2
            have hpl := encAll_len plainL (signsL tx)
            have hkl := encAll_len keptL (signsL tx)
            have hsl := signs_len tx
            have hb3 : (S tx != S tx) = false := bne_self_eq_false _
            have hD := dec_back (kp := plainL) (by decide +kernel) (by decide +kernel) tx.length tx (Nat.le_refl _) htc hm
            generalize encAll plainL (signsL tx) = pe at *
            generalize encAll keptL (signsL tx) = we at *
            k_steps
            refine Halt.out ?_
            refine heard_ok 150 pe (decP [] pe) (work_dec_part pe (by omega)) (by k_is) _ (by walk_at "MY here") ?_
            intro v3 h3 tk3 hv3 F' N'
            rw [hD] at hv3
            obtain ⟨t3, rfl⟩ := hv3
            (try dsimp only)
            (try k_fold)
            k_steps
            refine Halt.out ?_
            refine heard_ok 143 we (decP leftL we) (work_dec_uri we (by omega)) (by k_is) _ (by walk_at "MY here") ?_
            intro v4 h4 tk4 hv4 F' N'
            (try dsimp only)
            (try k_fold)
            k_steps
            refine Halt.out ?_
            rw [leftS]
            refine ldec_ok we leftL (by omega) _ _ (by walk_at "MY here") ?_
            intro v5 h5 tk5 hv5 F' N'
            rw [dec_eq] at hv5
            (try dsimp only)
            (try k_fold)
            cases hq : decP leftL we with
            | none =>
              rw [hq] at hv4 hv5
              subst hv4 hv5
              k_steps
              exact Halt.out ⟨rfl, _, _, rfl, (by k_asm), (by k_asm)⟩
            | some oo =>
              rw [hq] at hv4 hv5
              obtain ⟨t4, rfl⟩ := hv4
              obtain ⟨t5, rfl⟩ := hv5
              have hb4 : (S oo != S oo) = false := bne_self_eq_false _
              k_steps
              exact Halt.out ⟨rfl, _, _, rfl, (by k_asm), (by k_asm)⟩
        · clear F1 N1
          intro h3 tk3 F1 N1
          (try dsimp only)
          (try k_fold)
          have N9 := drop2 N1
          clear N1
          k_steps
          refine Halt.out ?_
          refine ltold_ok _ _ _ oS (0 + 1 + 4 * vn) (by walk_at "MY hereP") hPo hS0 (by omega) hne hnP ?_
          intro v6 h6 tk6 oP6 tl hv6 hl6 hP6 F' N'
          obtain ⟨t6, rfl⟩ := hv6
          have hlen6 : (S tl).length = tl.length := S_len tl
          (try dsimp only)
          (try k_fold)
          k_steps
          refine Halt.out ?_
          rename Fr _ _ _ _ => F1
          rename News _ _ _ _ => N1
          refine cut_next F1 N1 ?_ ?_
          · have hgo : IfGo := ⟨trivial⟩
            k_steps
            refine Halt.out ?_
            refine heard_ok 150 tl (decP [] tl) (work_dec_part tl (by omega)) (by k_is) _ (by walk_at "MY here") ?_
            intro v3 h3 tk3 hv3 F' N'
            (try dsimp only)
            (try k_fold)
            k_steps
            refine Halt.out ?_
            rw [emp0]
            refine ldec_ok tl [] (by omega) _ _ (by walk_at "MY here") ?_
            intro v4 h4 tk4 hv4 F' N'
            rw [dec_eq] at hv4
            (try dsimp only)
            (try k_fold)
            k_steps
            refine ne_out hv3 hv4 ?_
            clear hv3 hv4
            k_steps
            refine Halt.out ?_
            refine heard_ok 143 tl (decP leftL tl) (work_dec_uri tl (by omega)) (by k_is) _ (by walk_at "MY here") ?_
            intro v3 h3 tk3 hv3 F' N'
            (try dsimp only)
            (try k_fold)
            k_steps
            refine Halt.out ?_
            rw [leftS]
            refine ldec_ok tl leftL (by omega) _ _ (by walk_at "MY here") ?_
            intro v4 h4 tk4 hv4 F' N'
            rw [dec_eq] at hv4
            (try dsimp only)
            (try k_fold)
            k_steps
            refine ne_out hv3 hv4 ?_
            clear hv3 hv4
            k_steps
            exact Halt.out ⟨rfl, _, _, rfl, (by k_asm), (by k_asm)⟩
          · clear F1 N1
            intro h3 tk3 F1 N1
            (try dsimp only)
            (try k_fold)
            k_steps
            refine Halt.out ?_
            rw [textA]
            refine work_dec_part _ (by decide) _ (by walk_at "MY here") (fun o ho v h' tk' hv F' N' => ?_) (fun hn => absurd (hn.symm.trans dec_A) (by simp))
            have ho := ho.symm.trans dec_A
            injection ho with ho
            subst ho
            obtain ⟨t7, rfl⟩ := hv
            rw [euroS]
            (try dsimp only)
            (try k_fold)
            k_steps
            refine Halt.out ?_
            rw [textB]
            refine heard_ok 150 _ (decP [] [37, 67, 48, 37, 65, 70]) (work_dec_part _ (by decide)) (by k_is) _ (by walk_at "MY here") ?_
            intro v4 h4 tk4 hv4 F' N'
            rw [dec_B] at hv4
            subst hv4
            (try dsimp only)
            (try k_fold)
            k_steps
  run_tac go
end
end Mine
theorem PySem.Challenge.cw_nt0345_01_holds : PySem.Challenge.rw_nt0345_01.Holds :=
  Mine.law_ok
