import PyProof.Rows.All
import Wide.All
import OpenK.AllK
import Wide.FinOn
import HandS.Base
import HandS.Call
import HandS.List
import HandS.Replace
import HandS.Defaults
import HandS.SortKw
import KE.SortKeyHeap
import KE.SortData
import PyProof.Rows.TupSub
import HandS.ExcOwn
import HandS.ExcCtx
import HandS.Ends
import HandS.ExcInit
import HandS.ForMost
import HandS.Exc
import HandS.TryOnly
import HandS.TryMany
import HandS.TryElse
import HandS.Wide
import HandS.Deep
import HandS.More
import HandS.Conv
import HandS.WordsDict
import HandS.Words
import HandS.ExcField
import HandS.ExcIs
import KE.KExcIs
import HandS.Head0
import HandS.Head1
import HandS.Head2
import HandS.HeadEnd
import HandS.HeadHook1
import HandS.HeadHook2
import HandS.Hot
import HandS.Comp
import PyProof.Walks
import PyProof.SumWalkG
import PyProof.Conv_int_bool
import PyProof.WalkInts
import PyProof.ReprRoads
import HandS.TupLe
import HandS.ListEq
import HandS.DictEq
import HandS.DeepEq
import PyProof.NeKinds
import KE.DataMinMax
import HandS.SetKeys
import KE.DataFind
import HandS.HeadWalk
import HandS.IsInst
import HandS.Rev
import KE.KDictList
import HandS.ExcValue
import HandS.Small
import HandS.ReplaceLit
import PySem.Challenge.RW_spoolhall_k66_no_way
set_option Elab.async false
set_option linter.all false
set_option maxRecDepth 100000
set_option maxHeartbeats 4000000
/-! PL, part kf: functions that read an item (p, p[i], p[i][j]) and sorted(.., key=such a function). -/
namespace PL.KF
open PySem PySem.Spec PyProof.Rows L2
/-- the path that an expression reads from the name x -/
def pathE (x : Str) : Expr → Option (List Nat)
  | .Name y _ => if y = x then some [] else none
  | .Subscript e (.Constant (.int k) _ _) _ => match pathE x e with
    | some l => if 0 ≤ k ∧ k < 4611686018427387904 then some (l ++ [k.toNat]) else none
    | none => none
  | _ => none
inductive PathE (x : Str) : Expr → List Nat → Prop
  | nm (p : Pos) : PathE x (.Name x p) []
  | sub {e : Expr} {l : List Nat} {k : Int} {j : Nat} {cp p : Pos} : PathE x e l → 0 ≤ k → k < 4611686018427387904 → PathE x (.Subscript e (.Constant (.int k) j cp) p) (l ++ [k.toNat])
theorem pathE_ok {x : Str} : ∀ {e : Expr} {l : List Nat}, pathE x e = some l → PathE x e l := by
  intro e
  induction e using pathE.induct (x := x) with
  | case1 p => 
    intro l h
    simp only [pathE, if_true, Option.some.injEq] at h
    subst h
    exact .nm p
  | case2 y p hne => intro l h; simp [pathE, hne] at h
  | case3 e k a b c l0 e0 hk ih =>
    intro l h
    simp only [pathE, e0, if_pos hk, Option.some.injEq] at h
    subst h
    exact .sub (ih e0) hk.1 hk.2
  | case4 e k a b c l0 e0 hk ih => intro l h; simp [pathE, e0, hk] at h
  | case5 e k a b c e0 ih => intro l h; simp [pathE, e0] at h
  | case6 e h1 h2 =>
    intro l h
    unfold pathE at h
    split at h
    · exact absurd rfl (h1 _ _)
    · exact absurd rfl (h2 _ _ _ _ _)
    · cases h
def stepH (h : Heap) (v : Value) (c : Nat) (u : Value) : Prop := ∃ (a : Addr) (its : List Value), v = .ref a ∧ (IsTup h a its.toArray ∨ h.IsList a its.toArray) ∧ its[c]? = some u
def pathH (h : Heap) : List Nat → Value → Value → Prop
  | [], v, u => u = v
  | c :: r, v, u => ∃ m, stepH h v c m ∧ pathH h r m u
theorem pathH_app {h : Heap} {c : Nat} : ∀ {l : List Nat} {v u : Value}, pathH h (l ++ [c]) v u → ∃ m, pathH h l v m ∧ stepH h m c u
  | [], v, u, ⟨m, h1, h2⟩ => by
    cases h2
    exact ⟨v, rfl, h1⟩
  | d :: l, v, u, ⟨m, h1, h2⟩ => by
    obtain ⟨m', h3, h4⟩ := pathH_app h2
    exact ⟨m', ⟨m, h1, h3⟩, h4⟩
theorem stepH.keeps {h h' : Heap} (k : ∀ b o, h.get? b = some o → h'.get? b = some o) {v u : Value} {c : Nat} : stepH h v c u → stepH h' v c u
  | ⟨a, its, e, .inl ⟨o, e1, e2⟩, e3⟩ => ⟨a, its, e, .inl ⟨o, k _ _ e1, e2⟩, e3⟩
  | ⟨a, its, e, .inr ⟨o, e1, e2⟩, e3⟩ => ⟨a, its, e, .inr ⟨o, k _ _ e1, e2⟩, e3⟩
theorem pathH.keeps {h h' : Heap} (k : ∀ b o, h.get? b = some o → h'.get? b = some o) : ∀ {l : List Nat} {v u : Value}, pathH h l v u → pathH h' l v u
  | [], _, _, e => e
  | _ :: _, _, _, ⟨m, h1, h2⟩ => ⟨m, h1.keeps k, pathH.keeps k h2⟩
section
variable {P : Program} {w : World} {A : Around} {env : Env} {s : Shared} {x : Str} {v : Value}
theorem path_ev (hnm : ∀ (tk : Nat) (p : Pos) (Q E : Value → Shared → Prop), Q v { s with toks := tk } → wpAny (model P w) A (eval (.Name x p) env) Q E { s with toks := tk }) {e : Expr} {l : List Nat} (he : PathE x e l) :
    ∀ {u : Value}, pathH s.heap l v u → ∀ (tk : Nat) (Q E : Value → Shared → Prop), (∀ tk', Q u { s with toks := tk' }) → wpAny (model P w) A (eval e env) Q E { s with toks := tk } := by
  induction he with
  | nm p => intro u hu tk Q E q; cases hu; exact hnm tk p Q E (q tk)
  | @sub e l k j cp p h0 h1 h2 ih =>
    intro u hu tk Q E q
    obtain ⟨m, hm, a, its, rfl, hs, hi⟩ := pathH_app hu
    refine Subscript_ (ih hm tk _ _ fun tk1 => ?_)
    refine wpAny_Constant_int ?_
    rcases hs with hs | hs
    · refine item_tupleT (s := { s with toks := tk1 + 1 }) hs (by omega) (by omega) ?_ hi (q _) rfl
      have z : k.toNat < its.length := (List.getElem?_eq_some_iff.mp hi).1
      have e1 : (if k < 0 then k + (its.length : Int) else k) = k := if_neg (by omega)
      simp only [seqIndex?, e1]
      exact if_pos (by simp only [Bool.and_eq_true, decide_eq_true_eq]; omega)
    · exact item_listR (s := { s with toks := tk1 + 1 }) hs h1 (by omega) (by simpa using hi) (q _) rfl
end
theorem quiet_of {env : Env} (h : env.scope.kind = .function) : interactive env = false := by simp [interactive, h]
/-- a def whose call reads an item and keeps the heap -/
structure KeyFn (P : Program) (w : World) (K : PySem.W.Frag) (fa : Addr) (path : List Nat) : Prop where
  run : ∀ (A : Around) (s : Shared) (v u : Value) (Q E : Value → Shared → Prop), A.depth < recursionLimit → K.In s.heap → s.heap.NoLimit → pathH s.heap path v u →
    (∀ (h' : Heap) (tk : Nat), (∀ b o, s.heap.get? b = some o → h'.get? b = some o) → Q u { s with heap := h', toks := tk }) → wpAny (model P w) A (call (.ref fa) [v]) Q E s
/-- the path of a def's body (a docstring ahead or none) -/
def keyB (x : Str) : List Stmt → Option (List Nat)
  | [.Return (some e) _] => pathE x e
  | [.Expr (.Constant (.str _) _ _) _, .Return (some e) _] => pathE x e
  | _ => none
theorem key_fn {P : Program} {w : World} {K : PySem.W.Frag} {nm qual : Str} {params : Arguments} {body : List Stmt} {scope : Scope} {fa : Addr} {fd : FuncData} {N : List Str} {x : Str} {path : List Nat}
    (F : FunD K nm qual params body scope [] [] fa fd) (S : FnScope N [x] scope) (hb : ∀ (s : Shared) (us : List Value), us.length = 1 → BindsTo s fd ⟨us, []⟩ ([x].zip us)) (hl : scope.names.lookup x = some .local) (hx : (x == ("__debug__" : Str)) = false)
    (hp : keyB x body = some path) : KeyFn P w K fa path := by
  refine ⟨fun A s v u Q E dp KX lim hu q => ?_⟩
  obtain ⟨oc, od, dV, kV, doc, pm, an, cdv, ct, osl, rfl, lk, hcd, _, _⟩ := F.ex
  have hkd : ∀ z ∈ [x].zip [v], scope.names.lookup z.1 = some .local ∨ (scope.names.lookup z.1 = some .cell ∧ ((cellsFrom (s.heap.objs.size + 1) scope.names []).lookup z.1).isSome = true) := fun z hz => by
    simp only [List.zip_cons_cons, List.zip_nil_right, List.mem_singleton] at hz
    subst hz
    exact .inl hl
  refine wpAny_call (codeAny_call_function dp (KX _ _ lk) rfl S.co S.gen rfl (PySem.W.codeRec_of KX hcd) (hb s [v] rfl _ _ _ _ ?_))
  refine wpAny_newFunctionEnv_cells S.kind hkd fun ev he s1 xx => ?_
  subst he
  have kp : ∀ b o, s.heap.get? b = some o → s1.heap.get? b = some o := xx.toInCall.keep
  refine ⟨lim.keeps xx.toInCall.keep, codeAny_func ?_⟩
  have m0 := bindL_get (kindOf := (envOfC qual scope s.heap.objs.size fa cdv).kindOf) (x := x) (v := v) (P := [x]) (vs := [v]) (i := 0) (m := fun _ => none) (by simp) rfl rfl hl
  have hn := xx.toInCall.ns
  obtain ⟨g, tg, e1, _⟩ := xx.done
  have nmv : ∀ (tk : Nat) (p : Pos) (Q' E' : Value → Shared → Prop), Q' v { s1 with toks := tk } → wpAny (model P w) (A.deeper (envOfC qual scope s.heap.objs.size fa cdv)) (eval (.Name x p) (envOfC qual scope s.heap.objs.size fa cdv)) Q' E' { s1 with toks := tk } := fun tk p Q' E' q' =>
    wpAny_Name (wpAny_loadName_local S.kind hl hn m0 q') hx
  have ret : ∀ (e : Expr) (rp : Pos) (tk : Nat) (Q' : Flow → Shared → Prop) (E' : Value → Shared → Prop), PathE x e path → (∀ tk', Q' (.ret u) { s1 with toks := tk' }) → wpAny (model P w) (A.deeper (envOfC qual scope s.heap.objs.size fa cdv)) (execs [.Return (some e) rp] (envOfC qual scope s.heap.objs.size fa cdv)) Q' E' { s1 with toks := tk } := fun e rp tk Q' E' pe q' =>
    wpAny_execs_cons (wpAny_Return_some (path_ev nmv pe (hu.keeps kp) tk _ _ q'))
  have fin : ∀ tk' : Nat, Q u { s1 with toks := tk' } := fun tk' => by
    subst e1
    exact q g tk' kp
  unfold keyB at hp
  split at hp
  · exact ret _ _ s1.toks _ _ (pathE_ok hp) fin
  · rename_i z jz pz p1 e p2
    refine wpAny_execs_cons (wpAny_Expr (Calls.Constant_str ?_) (quiet_of S.kind) rfl)
    exact ret _ _ (s1.toks + 1) _ _ (pathE_ok hp) fin
  · cases hp
/-! ### over the hand layer -/
def PathV (K : PySem.W.Frag) (H : Hp) : List Nat → V → V → Prop
  | [], v, u => u = v
  | c :: r, v, u => ∃ (a : Addr) (xs : List V) (m : V), v = .ref a ∧ (SqT K H a xs ∨ SqL K H a xs) ∧ xs[c]? = some m ∧ PathV K H r m u
theorem PathV.at {X : Cx} {pins : List (Addr × Obj)} {σ : L2.St} {H : Hp} {s : Shared} (I : L2.Inv X pins σ H s) : ∀ {l : List Nat} {v u : V} {vv : Value}, PathV X.K H l v u → RelV v vv → ∃ uu, RelV u uu ∧ pathH s.heap l vv uu
  | [], v, u, vv, e, r => by
    cases e
    exact ⟨vv, r, rfl⟩
  | c :: l, v, u, vv, ⟨a, xs, m, e1, e2, e3, e4⟩, r => by
    subst e1
    cases r
    rcases e2 with e2 | e2
    · obtain ⟨its, rv, pt, hz⟩ := I.tuple e2
      obtain ⟨mm, h1, h2⟩ := rv.get e3
      obtain ⟨uu, h3, h4⟩ := PathV.at I e4 h2
      exact ⟨uu, h3, mm, ⟨a, its, rfl, .inl pt, h1⟩, h4⟩
    · obtain ⟨its, rv, pl, hz⟩ := I.list e2
      obtain ⟨mm, h1, h2⟩ := rv.get e3
      obtain ⟨uu, h3, h4⟩ := PathV.at I e4 h2
      exact ⟨uu, h3, mm, ⟨a, its, rfl, .inr pl.isList, h1⟩, h4⟩
theorem each_vals {ps : List (V × Int)} : ∀ {out : List Value}, PySem.W.EachIs (fun u (q : V × Int) => RelV q.1 u) out ps → Vals (ps.map (·.1)) out := by
  induction ps with
  | nil => intro out h; cases h; exact .nil
  | cons q ps ih =>
    intro out h
    cases h with
    | cons h1 h2 => exact .cons h1 (ih h2)
theorem vals_each : ∀ {ps : List (V × Int)} {us : List Value}, Vals (ps.map (·.1)) us → PySem.W.EachIs (fun u (q : V × Int) => RelV q.1 u) us ps
  | [], us, h => by cases h; exact .nil
  | q :: ps, us, h => by
    cases h with
    | cons h1 h2 => exact .cons h1 (vals_each h2)
/-- sorted(list, key=f), f a def that reads an item that is a number -/
def rSrk (K : PySem.W.Frag) (fa : Addr) (path : List Nat) : List V → List V → Hp → VK → Prop := fun vs zs H Q => ∃ (a : Addr) (ps : List (V × Int)), vs = [.ref a] ∧ zs = [.ref fa] ∧ SqL K H a (ps.map (·.1)) ∧ (∀ q ∈ ps, PathV K H path q.1 (.int q.2)) ∧
  ∀ p, H p = none → Q (.ref p) (upd H p (.lst ((ps.mergeSort fun x y => decide (x.2 ≤ y.2)).map (·.1))))
theorem cr_srk {X : Cx} {fa : Addr} {path : List Nat} (F : KeyFn X.prog X.w X.K fa path) (hr : Room 2 X.A) : CallRK X (.builtin "sorted") [Str.ofString "key"] (rSrk X.K fa path) := by
  intro pins s σ H xs zs us ws Q I rx rz h
  obtain ⟨a, ps, rfl, rfl, hq, hk, q⟩ := h
  obtain ⟨its, rv, pl, hz⟩ := I.list hq
  obtain ⟨u0, rfl, r0⟩ := Vals.one rx
  obtain ⟨w0, rfl, r1⟩ := Vals.one rz
  obtain rfl : u0 = Value.ref a := r0
  obtain rfl : w0 = Value.ref fa := r1
  have e0 := I.env0
  have KX : X.K.In s.heap := I.kIn
  have lim : s.heap.NoLimit := e0.mod.nolimit.keeps fun b o e => (e0.bs b o e).1
  rw [List.length_map] at hz
  refine PySem.W.sorted_key_data (β := V × Int) (R := fun u q => RelV q.1 u) (b := false) (bs := ps) (vs := its) (fun q => PyData.int q.2) pl.isList (vals_each rv) (PySem.W.AllAlike.of fun _ _ => rfl) (.inr fun d hd => ?_) hz (fun x _ => ?_)
    (PyProof.Rows.ksk_s1 _ _) (fun _ => PyProof.Rows.ksk_l1 _ _) (fun _ => PyProof.Rows.ksk_t1 _ _) (fun v x hR hx g tk kp => ?_) fun out c g tk kp hn hD hl eo => ?_
  · obtain ⟨x, _, rfl⟩ := List.mem_map.mp hd
    exact ⟨(by intro z; cases z), (by intro zs z; cases z)⟩
  · have := hr.un
    show X.A.units + 2 + (PyData.int x.2).depth < cLine
    have e : (PyData.int x.2).depth = 0 := by simp [PyData.depth]
    rw [e]
    omega
  · obtain ⟨uu, ⟨t, e⟩, hp⟩ := PathV.at I (hk x hx) hR
    subst e
    have rr := hr.in1.in1
    exact F.run _ _ v _ _ _ rr.depth (KX.keeps kp) (lim.keeps kp) (hp.keeps kp) fun h' tk' k' => ⟨h', tk', rfl, k', .int _ _⟩
  · rw [PySem.W.dataLe_int (β := V × Int) (fun q => q.2)] at eo
    have hv := each_vals eo
    have hnone : H (s.heap.objs.size + 1) = none := I.hok.fresh (Nat.le_succ _)
    exact ⟨.ref _, upd H _ (.lst ((ps.mergeSort fun x y => decide (x.2 ≤ y.2)).map (·.1))), I.laid (t' := tk) kp (Nat.le_succ _) (show ObjOk X.prog X.w _ _ _ (.lst ((ps.mergeSort fun x y => decide (x.2 ≤ y.2)).map (·.1))) from ⟨by rw [List.length_map, List.length_mergeSort]; exact hz, out, c, hv, hD⟩), rfl, q _ hnone⟩
theorem each_valsD {ps : List (V × PyData)} : ∀ {out : List Value}, PySem.W.EachIs (fun u (q : V × PyData) => RelV q.1 u) out ps → Vals (ps.map (·.1)) out := by
  induction ps with
  | nil => intro out h; cases h; exact .nil
  | cons q ps ih =>
    intro out h
    cases h with
    | cons h1 h2 => exact .cons h1 (ih h2)
theorem vals_eachD {R : V × PyData → Prop} : ∀ {ps : List (V × PyData)} {us : List Value}, (∀ q ∈ ps, R q) → Vals (ps.map (·.1)) us → PySem.W.EachIs (fun u (q : V × PyData) => RelV q.1 u ∧ R q) us ps
  | [], us, _, h => by cases h; exact .nil
  | q :: ps, us, hr, h => by
    cases h with
    | cons h1 h2 => exact .cons ⟨h1, hr q (by simp)⟩ (vals_eachD (fun z hz => hr z (by simp [hz])) h2)
/-- sorted(list), its items alike data -/
def rSortD (K : PySem.W.Frag) : List V → Hp → VK → Prop := fun vs H Q => ∃ (a : Addr) (ps : List (V × PyData)), vs = [.ref a] ∧ SqL K H a (ps.map (·.1)) ∧ (∀ q ∈ ps, Dp K H q.1 q.2 ∧ q.2.depth ≤ 8) ∧ PySem.W.AllAlike (ps.map (·.2)) ∧ PySem.W.Sortable (ps.map (·.2)) ∧
  ∀ p, H p = none → Q (.ref p) (upd H p (.lst ((ps.mergeSort (PySem.W.dataLe false fun q => q.2)).map (·.1))))
theorem cr_sortD {X : Cx} (hu : X.A.units + 65 < cLine) : CallR X (.builtin "sorted") (rSortD X.K) := by
  intro pins s σ H xs us Q I rx h
  obtain ⟨a, ps, rfl, hq, hk, al, so, q⟩ := h
  obtain ⟨its, rv, pl, hz⟩ := I.list hq
  obtain ⟨u0, rfl, r0⟩ := Vals.one rx
  obtain rfl : u0 = Value.ref a := r0
  rw [List.length_map] at hz
  have ev := vals_eachD hk rv
  refine PySem.W.sorted_data (β := V × PyData) (R := fun u q => RelV q.1 u) (bs := ps) (vs := its) (enc := fun q => q.2) pl.isList (ev.mono fun _ _ z => z.1) (ev.mono fun u q' z => Dp.reads I _ _ _ z.2.1 z.1) al so hz (fun b hb => ?_) fun out hl eo => ?_
  · have := (hk b hb).2
    omega
  · have hv := each_valsD eo
    have hnone : H (s.heap.objs.size + 1) = none := I.hok.fresh (Nat.le_succ _)
    obtain ⟨ep, hat⟩ := sortedAll_at s.heap its (List.toArray out)
    exact ⟨.ref _, upd H _ (.lst ((ps.mergeSort (PySem.W.dataLe false fun q => q.2)).map (·.1))), I.laid (t' := s.toks) (fun b o e => sortedAll_old e) (Nat.le_succ _) (show ObjOk X.prog X.w _ _ _ (.lst ((ps.mergeSort (PySem.W.dataLe false fun q => q.2)).map (·.1))) from ⟨by rw [List.length_map, List.length_mergeSort]; exact hz, out, ep, hv, hat⟩), rfl, q _ hnone⟩
end PL.KF

set_option maxHeartbeats 4000000
/-! PL, part fp: promises of functions where the guards are known and an exception may be handled. -/
namespace FP
open PySem PySem.Spec PyProof.Rows L2
structure Rm (k : Nat) (A : Around) : Prop where
  dp : A.depth + 3 * k + 5 < recursionLimit
  un : A.units + 16 * k + 200 < cLine
  gd : A.guards = some []
theorem Rm.mono {j k : Nat} {A : Around} (r : Rm k A) (h : j ≤ k) : Rm j A := ⟨by have := r.dp; omega, by have := r.un; omega, r.gd⟩
theorem Rm.deeper {k : Nat} {A : Around} (r : Rm (k + 1) A) (env : Env) : Rm k (A.deeper env) :=
  ⟨by have := r.dp; show A.depth + 1 + 3 * k + 5 < recursionLimit; omega, by have := r.un; show A.units + 3 + 16 * k + 200 < cLine; omega, r.gd⟩
theorem make_guards {A : Around} {C : Addr} {us : List Value} {kw : List (Str × Value)} : (A.under (.builtin "type.__call__" ⟨.ref C :: us, kw⟩)).guards = A.guards := by
  have e : (Code.builtin "type.__call__" ⟨Value.ref C :: us, kw⟩).guards = [] := by
    have q : (Code.builtin "type.__call__" ⟨Value.ref C :: us, kw⟩).isGuard = false := by
      show guardIds.contains "type.__call__" = false
      decide +kernel
    simp [Code.guards, q]
  show pushGuards (Code.builtin "type.__call__" ⟨Value.ref C :: us, kw⟩).guards A.guards = A.guards
  rw [e]
  cases A.guards <;> rfl
theorem Rm.make {k : Nat} {A : Around} (r : Rm (k + 1) A) (C : Addr) (us : List Value) (kw : List (Str × Value)) : Rm k (A.under (.builtin "type.__call__" ⟨.ref C :: us, kw⟩)) :=
  ⟨by have := r.dp; rw [make_depth]; omega, by have := r.un; rw [make_units]; omega, by rw [make_guards]; exact r.gd⟩
theorem Rm.room {k : Nat} {A : Around} (r : Rm k A) (h : A.handled = none) : Room k A := ⟨h, r.dp, r.un⟩
/-- a def's promise, the handled exception at hd -/
structure FnP (P : Program) (w : World) (K : PySem.W.Frag) (mg : Str → Option Value) (base : Heap) (CX : CXT) (k : Nat) (f : Addr) (fd : FuncData) (ps : List Str) (hd : Option Addr) (sp : Sp) : Prop where
  len : ∀ vs H Q E, sp vs H Q E → vs.length = ps.length
  run : ∀ (A : Around) (outer : List Env) (s : Shared) (H : Hp) (args : Args) (us : List Value) (vs : List V) (Q : VK) (E : XK), Rm k A → A.handled = hd.map Value.ref → Env0 P w K mg base A outer s H → BindsTo s fd args (ps.zip us) → Vals vs us → sp vs H Q E →
    codeAny (model P w) A (.call (.ref f) args) (CR CX outer P w H s Q E) s
section
variable {P : Program} {w : World} {K : PySem.W.Frag} {mg : Str → Option Value} {base : Heap} {CX : CXT} {k : Nat} {f : Addr} {fd : FuncData} {ps : List Str} {hd : Option Addr} {sp : Sp}
theorem FnP.mono {j : Nat} (F : FnP P w K mg base CX j f fd ps hd sp) (h : j ≤ k) : FnP P w K mg base CX k f fd ps hd sp :=
  ⟨F.len, fun A outer s H args us vs Q E hr => F.run A outer s H args us vs Q E (hr.mono h)⟩
end
/-- the context of a body: calm where no exception is handled -/
def cxP (CX : CXT) (P : Program) (w : World) (K : PySem.W.Frag) (mg : Str → Option Value) (base : Heap) (N : List Str) (qual : Str) (scope : Scope) (f : Addr) (cd : Value) (A : Around) (outer : List Env) (s : Shared) (H : Hp) (E : XK) (hd : Option Addr) : Cx :=
  { cxOf CX P w K mg base N qual scope f cd A outer s H E with calm := hd.isNone }
theorem inv_startP {CX : CXT} {P : Program} {w : World} {K : PySem.W.Frag} {mg : Str → Option Value} {base : Heap} {N ps : List Str} {qual : Str} {scope : Scope} {f : Addr} {cd : Value} {A : Around} {outer : List Env} {s s1 : Shared} {H : Hp} {E : XK} {hd : Option Addr} {us : List Value} {vs : List V}
    (S : FnScope N ps scope) (hh : A.handled = hd.map Value.ref) (e0 : Env0 P w K mg base A outer s H) (hl : vs.length = ps.length) (r : Vals vs us)
    (x : InCallC s s.heap.objs.size (bindL (envOfC qual scope s.heap.objs.size f cd).kindOf (ps.zip us) fun _ => none) (cellsFrom (s.heap.objs.size + 1) scope.names []) (bindC (envOfC qual scope s.heap.objs.size f cd).kindOf (ps.zip us) fun _ => none) s1) :
    Inv (cxP CX P w K mg base N qual scope f cd A outer s H E hd) [] (L2.start N vs) H s1 := by
  have e1 : Env0 P w K mg base { A with handled := none } outer s H := ⟨e0.frames, e0.mod, e0.bs, e0.bsz, e0.funs, e0.frf, e0.hok, e0.bare⟩
  have J := inv_start (CX := CX) (E := E) (A := { A with handled := none }) S rfl e1 hl r x
  have o := J.ok
  refine ⟨⟨o.mod, o.kind, o.glob, o.blt, o.above, o.inj, o.has, o.cab, fun z => ?_, o.frames, o.stk, o.exf, o.bs, o.bsz, o.noex, o.exfs, o.funs, o.frf⟩, J.os, J.bare, J.base, J.loc, J.cell, J.free, J.freeC, J.pin, J.hok, J.len⟩
  cases hd with
  | none => exact hh
  | some p => cases (show false = true from z)
/-- a def by its body -/
theorem fn_ofP {CX : CXT} {P : Program} {w : World} {K : PySem.W.Frag} {mg : Str → Option Value} {base : Heap} {k : Nat} {f : Addr} {name qual : Str} {params : Arguments} {body : List Stmt} {scope : Scope} {dvs : List V} {kws : List (Str × V)} {fd : FuncData} {N ps : List Str} {hd : Option Addr} {sp : Sp}
    (F : FunD K name qual params body scope dvs kws f fd) (S : FnScope N ps scope) (len : ∀ vs H Q E, sp vs H Q E → vs.length = ps.length)
    (hbody : ∀ (cdv : Value) (A : Around) (outer : List Env) (s : Shared) (H : Hp) (vs : List V) (Q : VK) (E : XK), Rm k (A.deeper (envOfC qual scope s.heap.objs.size f cdv)) → A.handled = hd.map Value.ref → sp vs H Q E →
      ∃ t, PSs (cxP CX P w K mg base N qual scope f cdv A outer s H E hd) body t ∧ t { nx := fun _ H' => Q .non H', rt := Q } (L2.start N vs) H) :
    FnP P w K mg base CX (k + 1) f fd ps hd sp := by
  obtain ⟨oc, od, dV, kV, doc, pm, an, cdv, ct, osl, rfl, lk, hcd, _, _⟩ := F.ex
  refine ⟨len, fun A outer s H args us vs Q E hr hh e0 hb r q0 => ?_⟩
  have at0 : ∀ b o, base.get? b = some o → s.heap.get? b = some o := fun b o e => (e0.bs b o e).1
  have KX : K.In s.heap := e0.mod.kin.keeps at0
  have lim : s.heap.NoLimit := e0.mod.nolimit.keeps at0
  have dep : A.depth < recursionLimit := by have := hr.dp; omega
  have kinds : ∀ y ∈ ps.zip us, scope.names.lookup y.1 = some .local ∨ (scope.names.lookup y.1 = some .cell ∧ ((cellsFrom (s.heap.objs.size + 1) scope.names []).lookup y.1).isSome = true) := by
    rintro ⟨n, v⟩ hy
    exact (S.par n (List.of_mem_zip hy).1).imp id fun q => ⟨q, PySem.W.cellsFrom_some _ _ _ (.inl q)⟩
  refine codeAny_call_function dep (KX _ _ lk) rfl S.co S.gen rfl (PySem.W.codeRec_of KX hcd) (hb _ _ _ _ ?_)
  refine wpAny_newFunctionEnv_cells S.kind kinds fun env he s1 x => ?_
  subst he
  obtain ⟨t, ht, hq⟩ := hbody cdv A outer s H vs Q E (hr.deeper _) hh q0
  have I := inv_startP (CX := CX) (E := E) S hh e0 (len _ _ _ _ q0) r x
  refine ⟨lim.keeps x.toInCall.keep, codeAny_func (wpAny_mono (ht.run [] s1 _ H _ I hq) (fun fl s' hs => ?_) fun _ _ z => z)⟩
  cases fl with
  | brk => exact hs.elim fun _ z => z.elim fun _ z => z.2.elim
  | cont => exact hs.elim fun _ z => z.elim fun _ z => z.2.elim
  | next =>
    obtain ⟨σ', H', J, q⟩ := hs
    exact ⟨.non, H', J.os, J.bare, J.base, J.hok, rfl, q⟩
  | ret u =>
    obtain ⟨v, σ', H', J, rv, q⟩ := hs
    exact ⟨v, H', J.os, J.bare, J.base, J.hok, rv, q⟩
section
variable {X : Cx} {CX : CXT} {k : Nat} {f C : Addr} {fd : FuncData} {ps : List Str} {hd : Option Addr} {sp : Sp} {E : L2.St → XK}
theorem run_P {pins : List (Addr × Obj)} {σ : L2.St} {H : Hp} {s : Shared} {Q : VK} {us : List Value} {vs : List V} (F : FnP X.prog X.w X.K X.mg X.base CX k f fd ps hd sp) (hr : Rm k X.A) (hh : X.A.handled = hd.map Value.ref) (hb : Binds X.K fd ps []) (hx : PassesAt CX X σ (E σ))
    (I : Inv X pins σ H s) (r : Vals vs us) (h : sp vs H Q (E σ)) : wpAny (model X.prog X.w) X.A (call (.ref f) us) (EP X pins σ Q) X.xe s := by
  have b := hb s us I.kIn (by rw [List.append_nil, ← r.length]; exact F.len _ _ _ _ h)
  rw [List.append_nil] at b
  refine wpAny_call (codeAny_mono (F.run X.A X.stack s H ⟨us, []⟩ us vs Q (E σ) hr hh I.env0 b r h) fun r s' z => ?_)
  cases r with
  | error e => exact hx pins H s e s' I z
  | ok fl =>
    cases fl with
    | ret u => exact I.after z
    | next => exact z.elim
    | brk => exact z.elim
    | cont => exact z.elim
theorem run_makeP {E : XK} {pins : List (Addr × Obj)} {σ : L2.St} {H : Hp} {s : Shared} {Q : VK} {us : List Value} {vs : List V} (M : Mk X.K C f) (F : FnP X.prog X.w X.K X.mg X.base CX k f fd ps hd sp) (hr : Rm (k + 1) X.A) (hh : X.A.handled = hd.map Value.ref) (hb : Binds X.K fd ps [])
    (hx : Passes CX X E) (I : Inv X pins σ H s) (r : Vals vs us)
    (h : ∀ x dx, H x = none → H dx = none → dx ≠ x → sp (.ref x :: vs) (upd (upd H dx (.own x)) x (.ins C dx [])) (fun v H2 => v = .non ∧ Q (.ref x) H2) E) :
    wpAny (model X.prog X.w) X.A (call (.ref C) us) (EP X pins σ Q) X.xe s := by
  have z := h (s.heap.objs.size + 1) s.heap.objs.size (I.hok.fresh (Nat.le_succ _)) (I.hok.fresh (Nat.le_refl _)) (Nat.ne_of_lt (Nat.lt_succ_self _))
  have J := Inv.made (C := C) I
  have r2 : Vals (V.ref (s.heap.objs.size + 1) :: vs) (Value.ref (s.heap.objs.size + 1) :: us) := .cons rfl r
  have b := hb _ (Value.ref (s.heap.objs.size + 1) :: us) J.kIn (by rw [List.append_nil, ← r2.length]; exact F.len _ _ _ _ z)
  rw [List.append_nil] at b
  refine wpAny_call (make_map (f := f) I.kIn M.makes M.init (beq_iff_eq.mp M.fn) (codeAny_mono (F.run _ X.stack _ _ ⟨_, []⟩ _ _ _ E (hr.make C us []) hh (J.env0.make C us []) b r2 z) fun r s' y => ?_))
  cases r with
  | error e => exact hx pins σ _ _ e s' J y
  | ok fl =>
    cases fl with
    | next => exact y.elim
    | brk => exact y.elim
    | cont => exact y.elim
    | ret u =>
      obtain ⟨v, H', I3, rv, ev, q3⟩ := J.after y
      subst ev
      exact ⟨rv, V.ref (s.heap.objs.size + 1), H', I3, rfl, q3⟩
end
/-- C(e, ..), its context None -/
theorem pmk_oexN {X : Cx} {CX : CXT} {x : Str} {e : Expr} {es : List Expr} {ta : TA} {p pos : Pos} {C fI : Addr} {k : Nat} {fd : FuncData} {ps : List Str} {sp : Sp} (T : OexC X.K C) (iC : PySem.W.findIn X.K (.ref C) "__init__" = some (some (.ref fI))) (tI : PySem.W.typeIn X.K (.ref fI) = some (.type "function"))
    (F1 : FnOk X.prog X.w X.K X.mg X.base CX k fI fd ps sp) (hr : Room (k + 1) X.A) (hb : Binds X.K fd ps []) (hx : Passes CX X (fun _ _ _ => False)) (hg : Gl X x) (hm : X.mg x = some (.ref C)) (ha : PA X (e :: es) ta)
    (hdb : (x == ("__debug__" : Str)) = false) (he : starEach (e :: es) X.env = (false, eval e X.env) :: starEach es X.env) (hpl : (backTo pos (starEach es X.env)).any (·.1) = false) :
    L2N.PMk X (.Call (.Name x p) (e :: es) [] pos) (tMkO C sp [] ta) := by
  intro pins s σ H Q I h
  obtain ⟨_, _, _, _, bm, _, _, _, _, _, _, _, _, _, _, hC, hbm⟩ := T.cls
  refine wpAny_Call_Name_kw (ld_glob I hg hm ?_ hdb)
  refine PySem.W.callWith_K (h₀ := X.base) I.ok.mod.kin T.kC (thn (ha.run pos pins s σ H _ I h) fun us s1 ⟨vs, H1, I1, r1, hz, q1⟩ => ⟨I1.kIn, ?_⟩) he hpl
  show wpAny _ _ (call (.ref C) us) _ _ _
  obtain ⟨hp, g, dr, tk, os⟩ := s1
  have up := Nat.le_succ hp.objs.size
  have q2 := q1 (hp.objs.size + 1) (I1.hok.fresh up)
  rw [List.append_nil] at q2
  have keep : ∀ b o, hp.get? b = some o → ((hp.push (PySem.W.kdv_tup us)).push (PySem.HandSPX.excO C hp.objs.size)).get? b = some o := fun b o e => Heap.get?_push_of_some _ (Heap.get?_push_of_some _ e)
  have at1 : ((hp.push (PySem.W.kdv_tup us)).push (PySem.HandSPX.excO C hp.objs.size)).get? (hp.objs.size + 1) = some (PySem.HandSPX.excO C hp.objs.size) := by heap_get
  have I2 : Inv X pins σ (upd H1 (hp.objs.size + 1) (exo (hp.objs.size + 1) C none)) ⟨(hp.push (PySem.W.kdv_tup us)).push (PySem.HandSPX.excO C hp.objs.size), g, dr, tk, os⟩ :=
    I1.laid (t' := tk) (a := hp.objs.size + 1) (o := exo (hp.objs.size + 1) C none) (h' := (hp.push (PySem.W.kdv_tup us)).push (PySem.HandSPX.excO C hp.objs.size)) keep up (exo_ok at1)
  have r2 : Vals (V.ref (hp.objs.size + 1) :: vs) (Value.ref (hp.objs.size + 1) :: us) := .cons rfl r1
  have b2 := hb _ (Value.ref (hp.objs.size + 1) :: us) I2.kIn (by rw [List.append_nil, ← r2.length]; exact F1.len _ _ _ _ q2)
  rw [List.append_nil] at b2
  have small : us.length ≤ sizeLine := by
    have e := Paired.length r1
    rw [sizeLine_eq]
    omega
  refine wpAny_call (PySem.HandSPX.call_own F.excBase_ValueError (fun Y => PySem.HandSPX.refsVE_contains Y bm hbm) (I1.kIn _ _ hC) (PySem.W.looks_findIn I1.kIn iC) (fun self => PySem.W.bind_fn I1.kIn self tI) small
    (codeAny_mono (F1.run _ X.stack _ _ ⟨_, []⟩ _ _ _ (fun _ _ _ => False) (hr.make C us []) (I2.env0.make C us []) b2 r2 q2) fun r s' z => ?_))
  cases r with
  | error er => exact hx pins σ _ _ er s' I2 z
  | ok fl =>
    cases fl with
    | next => exact z.elim
    | brk => exact z.elim
    | cont => exact z.elim
    | ret u =>
      obtain ⟨v, H2, os2, bare2, un2, hok2, rv, ev, d, fs, ea, ed, hd1, q3⟩ := z
      subst ev
      obtain ⟨h2, g2, d2, t2, os'⟩ := s'
      obtain ⟨t0, G, J, kG, ge, hoe, na⟩ := mk_end0 (d2 := d2) (t2 := t2) I1 up keep un2 hok2 os2 bare2 ea ed hd1
      exact ⟨rv, hp.objs.size + 1, _, _, ⟨G, g2, d2, t2, os'⟩, _, .ref C, some d, rfl, J, kG, ge, hoe, ⟨rfl, rfl, fun vs hv => by cases hv; rfl⟩, rfl, rfl, na, rfl, bare2, raises_own T.exC T.tyC, q3⟩
/-- the law is called -/
theorem law_P {P : Program} {w : World} {K : PySem.W.Frag} {mg mb : Str → Option Value} {CX : CXT} {k : Nat} {fa a : Addr} {fd : FuncData} {x : Str} {sp : Sp} {s1 : Shared} {vs : List Value} {ns : List Int}
    (KX : K.In s1.heap) (hns : s1.heap.Ns mainGlobals mg) (hb : s1.heap.Ns builtinsNs mb) (hbb : ∀ x : Str, x ≠ "__name__" → mb x = bootBuiltins x) (hlim : s1.heap.NoLimit) (hg : s1.gens = #[])
    (ha : s1.heap.get? a = some { cls := .type "list", data := .seq vs.toArray }) (hi : IntsAre vs ns) (hl : ns.length ≤ sizeLine) (hr : Rm k callerA) (hK : K.lookup a = none)
    (F : ∀ base : Heap, K.In base → base.Ns mainGlobals mg → FnP P w K mg base CX k fa fd [x] none sp) (hbind : ∀ (s : Shared) (u : Value), BindsTo s fd ⟨[u], []⟩ [(x, u)])
    (hsp : ∀ H : Hp, (∃ o, H a = some (.frz o (.lst (ns.map V.int)))) → sp [.ref a] H (fun v _ => v = .bl true) fun _ _ _ => False)
    (hCX : ∀ H e s', CX [] H s1 (fun _ _ _ => False) e s' → False) :
    codeAny (model P w) callerA (.call (.ref fa) ⟨[.ref a], []⟩) (fun r s' => r = .ok (.ret (.bool true)) ∧ OldK s1.heap s'.heap ∧ s'.os = s1.os ∧ AllBare s'.gens) s1 := by
  have rv := vals_ints hi
  let H : Hp := fun b => if b = a then some (.frz { cls := .type "list", data := .seq vs.toArray } (.lst (ns.map V.int))) else none
  have Ha : H a = some (.frz { cls := .type "list", data := .seq vs.toArray } (.lst (ns.map V.int))) := if_pos rfl
  have Hn : ∀ {b : Addr}, b ≠ a → H b = none := fun h => if_neg h
  have ok : HOk P w H s1.heap := by
    intro b u z
    by_cases e : b = a
    · subst e
      rw [Ha] at z
      cases z
      exact ⟨ha, by rw [List.length_map]; exact hl, vs, _, rv, ha⟩
    · rw [Hn e] at z; cases z
  have keepB : ∀ {b : Addr} {o : Obj}, s1.heap.get? b = some o → b ≠ a → (hidT s1.heap H).get? b = some o := fun e n => hidT_get e (Hn n)
  have nsB : ∀ {b : Addr} {m : Str → Option Value}, s1.heap.Ns b m → (hidT s1.heap H).Ns b m := by
    rintro b m ⟨o, es, ep, e, d, r⟩
    refine ⟨o, es, ep, keepB e ?_, d, r⟩
    rintro rfl
    rw [ha] at e
    cases e
    have d' : Data.seq vs.toArray _ = Data.dict es ep := d
    cases d'
  have inB : K.In (hidT s1.heap H) := fun b o e => keepB (KX b o e) (by rintro rfl; rw [hK] at e; cases e)
  have md : Mod K mg (hidT s1.heap H) := ⟨inB, nsB hns, ⟨mb, nsB hb, hbb⟩, hlim.elim fun mc h => ⟨mc, nsB h.1, h.2⟩⟩
  have e0 : Env0 P w K mg (hidT s1.heap H) callerA [] s1 H := ⟨rfl, md, fun b o e => of_hidT e, Nat.le_of_eq (hidT_size _ _), trivial, (fun b z => by cases z), ok, .of_eq hg⟩
  refine codeAny_mono ((F _ inB (nsB hns)).run callerA [] s1 H ⟨[.ref a], []⟩ [.ref a] [.ref a] _ _ hr rfl e0 (hbind s1 (.ref a)) (.cons rfl .nil) (hsp H ⟨_, Ha⟩)) fun r s' h => ?_
  cases r with
  | error e => exact (hCX H e s' h).elim
  | ok fl =>
    cases fl with
    | next => exact h.elim
    | brk => exact h.elim
    | cont => exact h.elim
    | ret u =>
      obtain ⟨v, H', os, bare, un, ok', rr, q⟩ := h
      subst q
      obtain rfl : u = Value.bool true := rr
      refine ⟨rfl, OldK.of_keep fun b o e => ?_, os, bare⟩
      by_cases n : b = a
      · subst n
        obtain ⟨z, _⟩ := ok' b _ (un.frzs b _ _ Ha)
        rw [ha] at e
        cases e
        exact z
      · exact un.keep b o e (Hn n) (by intro z; cases z) (by simp)
end FP

set_option maxHeartbeats 4000000
/-! PL, part a: plain values, abstract heaps, the relation to the hand layer. -/
namespace PL
open PySem PySem.Spec PyProof.Rows L2

inductive DV where
  | non | bl (b : Bool) | int (i : Int) | str (x : List Nat) | ref (a : Addr) | tup (xs : List DV)
  deriving Inhabited
mutual
def DV.beq : DV → DV → Bool
  | .non, .non => true
  | .bl a, .bl b => a == b
  | .int a, .int b => a == b
  | .str a, .str b => a == b
  | .ref a, .ref b => a == b
  | .tup a, .tup b => DV.beqs a b
  | _, _ => false
def DV.beqs : List DV → List DV → Bool
  | [], [] => true
  | a :: r, b :: q => DV.beq a b && DV.beqs r q
  | _, _ => false
end
mutual
theorem DV.beq_iff : ∀ a b : DV, DV.beq a b = true ↔ a = b
  | .non, b => by cases b <;> simp [DV.beq]
  | .bl a, b => by cases b <;> simp [DV.beq]
  | .int a, b => by cases b <;> simp [DV.beq]
  | .str a, b => by cases b <;> simp [DV.beq]
  | .ref a, b => by cases b <;> simp [DV.beq]
  | .tup a, .tup b => by simp [DV.beq, DV.beqs_iff a b]
  | .tup a, .non => by simp [DV.beq]
  | .tup a, .bl _ => by simp [DV.beq]
  | .tup a, .int _ => by simp [DV.beq]
  | .tup a, .str _ => by simp [DV.beq]
  | .tup a, .ref _ => by simp [DV.beq]
theorem DV.beqs_iff : ∀ a b : List DV, DV.beqs a b = true ↔ a = b
  | [], [] => by simp [DV.beqs]
  | [], _ :: _ => by simp [DV.beqs]
  | _ :: _, [] => by simp [DV.beqs]
  | a :: r, b :: q => by simp [DV.beqs, DV.beq_iff a b, DV.beqs_iff r q]
end
instance : DecidableEq DV := fun a b => if h : DV.beq a b = true then isTrue ((DV.beq_iff a b).mp h) else isFalse fun e => h ((DV.beq_iff a b).mpr e)

/-- what stands at an address -/
inductive AO where
  | lst (xs : List DV)
  /-- the script: read, never written -/
  | flst (xs : List DV)
  | dct (kvs : List (DV × DV))
  /-- a dict while a loop walks it -/
  | fdct (kvs : List (DV × DV)) (o : Obj) (q : List (Key × V))
  | ins (c : Nat) (fs : List (Option DV))
  | exc (c : Nat) (fs : List DV)
abbrev AH := Addr → Option AO
def au (h : AH) (a : Addr) (o : AO) : AH := fun b => if b = a then some o else h b
theorem au_same {h : AH} {a : Addr} {o : AO} : au h a o a = some o := by simp [au]
theorem au_ne {h : AH} {a b : Addr} {o : AO} (e : b ≠ a) : au h a o b = h b := by simp [au, e]
theorem au_au {h : AH} {a : Addr} {o u : AO} : au (au h a o) a u = au h a u := by
  funext b; unfold au; split <;> rfl
theorem au_none {h : AH} {a b : Addr} {o : AO} : au h a o b = none ↔ b ≠ a ∧ h b = none := by
  unfold au; split <;> simp_all
/-- g is part of h -/
def Sub (g h : AH) : Prop := ∀ a o, g a = some o → h a = some o
theorem Sub.refl (h : AH) : Sub h h := fun _ _ e => e
theorem Sub.trans {f g h : AH} (a : Sub f g) (b : Sub g h) : Sub f h := fun x o e => b x o (a x o e)
theorem Sub.new {h : AH} {a : Addr} {o : AO} (n : h a = none) : Sub h (au h a o) := fun b u e => by
  by_cases q : b = a
  · subst q; rw [n] at e; cases e
  · rw [au_ne q]; exact e

abbrev ASt := List (Option DV)

/-- the program's classes as the hand layer sees them -/
structure GK where
  K : PySem.W.Frag
  nC : Nat
  cA : Nat → Addr
  cf : Nat → List Str
  xA : Nat → Addr
  xf : Nat → List Str
  nX : Nat
  /-- the exception that is being handled -/
  hp : Option Addr := none

/-- written tuples -/
def KTup (K : PySem.W.Frag) (a : Addr) (vs : List V) : Prop := SqT K (fun _ => none) a vs
/-- a text of real signs -/
def tOk (x : List Nat) : Prop := ∀ c ∈ x, c < 1114112
mutual
def DRel (K : PySem.W.Frag) (H : Hp) : DV → V → Prop
  | .non, v => v = .non
  | .bl b, v => v = .bl b
  | .int i, v => v = .int i
  | .str x, v => v = .str ⟨x.toArray⟩ ∧ tOk x
  | .ref a, v => v = .ref a
  | .tup ds, v => ∃ a vs, v = .ref a ∧ (H a = some (.tup vs) ∨ KTup K a vs) ∧ DRels K H ds vs
def DRels (K : PySem.W.Frag) (H : Hp) : List DV → List V → Prop
  | [], vs => vs = []
  | d :: ds, vs => ∃ v r, vs = v :: r ∧ DRel K H d v ∧ DRels K H ds r
end
/-- tuples stay -/
def HX (H H' : Hp) : Prop := ∀ b xs, H b = some (.tup xs) → H' b = some (.tup xs)
theorem HX.refl (H : Hp) : HX H H := fun _ _ e => e
theorem HX.trans {H H1 H2 : Hp} (a : HX H H1) (b : HX H1 H2) : HX H H2 := fun c xs e => b c xs (a c xs e)
theorem HX.new {H : Hp} {a : Addr} {o : HO} (n : H a = none) : HX H (upd H a o) := fun b xs e => by
  rw [upd_ne (ne_of_none e n)]; exact e
theorem HX.put {H : Hp} {a : Addr} {o u : HO} (n : H a = some u) (ht : ∀ xs, u ≠ .tup xs) : HX H (upd H a o) := fun b xs e => by
  rw [upd_ne (ne_of e n (fun q => ht xs q.symm))]; exact e
section
variable {K : PySem.W.Frag} {H H' : Hp}
mutual
theorem DRel.mono (x : HX H H') : ∀ {d : DV} {v : V}, DRel K H d v → DRel K H' d v
  | .non, _, r => r
  | .bl _, _, r => r
  | .int _, _, r => r
  | .str _, _, r => r
  | .ref _, _, r => r
  | .tup ds, v, r => by
    obtain ⟨a, vs, e, h, q⟩ := r
    exact ⟨a, vs, e, h.imp (x a vs) id, DRels.mono x q⟩
theorem DRels.mono (x : HX H H') : ∀ {ds : List DV} {vs : List V}, DRels K H ds vs → DRels K H' ds vs
  | [], _, r => r
  | d :: ds, vs, r => by
    obtain ⟨v, q, e, h, t⟩ := r
    exact ⟨v, q, e, DRel.mono x h, DRels.mono x t⟩
end
theorem DRels.length : ∀ {ds : List DV} {vs : List V}, DRels K H ds vs → vs.length = ds.length
  | [], _, r => by cases r; rfl
  | d :: ds, vs, r => by
    obtain ⟨v, q, rfl, h, t⟩ := r
    simp [DRels.length t]
theorem DRels.get : ∀ {ds : List DV} {vs : List V} {i : Nat} {d : DV}, DRels K H ds vs → ds[i]? = some d → ∃ v, vs[i]? = some v ∧ DRel K H d v
  | [], _, _, _, _, e => by simp at e
  | d :: ds, vs, 0, _, r, e => by
    obtain ⟨v, q, rfl, h, t⟩ := r
    simp at e; subst e
    exact ⟨v, rfl, h⟩
  | d :: ds, vs, i + 1, _, r, e => by
    obtain ⟨v, q, rfl, h, t⟩ := r
    obtain ⟨u, e1, e2⟩ := DRels.get (i := i) t (by simpa using e)
    exact ⟨u, by simpa using e1, e2⟩
theorem DRels.get' {ds : List DV} {vs : List V} {i : Nat} {v : V} (r : DRels K H ds vs) (e : vs[i]? = some v) : ∃ d, ds[i]? = some d ∧ DRel K H d v := by
  obtain ⟨h1, h2⟩ := List.getElem?_eq_some_iff.mp e
  have h3 : i < ds.length := by rw [← r.length]; exact h1
  obtain ⟨u, e1, e2⟩ := r.get (List.getElem?_eq_getElem h3)
  rw [e] at e1; cases e1
  exact ⟨_, List.getElem?_eq_getElem h3, e2⟩
theorem DRels.append : ∀ {ds es : List DV} {vs us : List V}, DRels K H ds vs → DRels K H es us → DRels K H (ds ++ es) (vs ++ us)
  | [], _, _, _, r, q => by cases r; exact q
  | d :: ds, es, vs, us, r, q => by
    obtain ⟨v, w, rfl, h, t⟩ := r
    exact ⟨v, w ++ us, rfl, h, DRels.append t q⟩
theorem DRels.take : ∀ {ds : List DV} {vs : List V} (n : Nat), DRels K H ds vs → DRels K H (ds.take n) (vs.take n)
  | _, _, 0, _ => by simp [DRels]
  | [], _, n + 1, r => by cases r; simp [DRels]
  | d :: ds, vs, n + 1, r => by
    obtain ⟨v, w, rfl, h, t⟩ := r
    exact ⟨v, w.take n, rfl, h, DRels.take n t⟩
theorem DRels.drop : ∀ {ds : List DV} {vs : List V} (n : Nat), DRels K H ds vs → DRels K H (ds.drop n) (vs.drop n)
  | _, _, 0, r => r
  | [], _, n + 1, r => by cases r; simp [DRels]
  | d :: ds, vs, n + 1, r => by
    obtain ⟨v, w, rfl, h, t⟩ := r
    exact DRels.drop n t
theorem DRels.set : ∀ {ds : List DV} {vs : List V} (i : Nat) {d : DV} {v : V}, DRel K H d v → DRels K H ds vs → DRels K H (ds.set i d) (vs.set i v)
  | [], _, _, _, _, _, r => by cases r; simp [DRels]
  | d :: ds, vs, 0, _, _, q, r => by
    obtain ⟨v, w, rfl, h, t⟩ := r
    exact ⟨_, w, rfl, q, t⟩
  | d :: ds, vs, i + 1, _, u, q, r => by
    obtain ⟨v, w, rfl, h, t⟩ := r
    exact ⟨v, w.set i u, rfl, h, DRels.set i q t⟩
theorem DRels.single {d : DV} {v : V} (h : DRel K H d v) : DRels K H [d] [v] := ⟨v, [], rfl, h, rfl⟩
theorem DRels.reverse {ds : List DV} {vs : List V} (h : DRels K H ds vs) : DRels K H ds.reverse vs.reverse := by
  induction ds generalizing vs with
  | nil => cases h; rfl
  | cons d ds ih =>
    obtain ⟨v, w, rfl, h, t⟩ := h
    rw [List.reverse_cons, List.reverse_cons]
    exact (ih t).append (DRels.single h)
theorem DRels.ints : ∀ {ns : List Int} {vs : List V}, DRels K H (ns.map DV.int) vs → vs = ns.map V.int
  | [], _, r => r
  | n :: ns, vs, r => by
    obtain ⟨v, w, rfl, h, t⟩ := r
    rw [show v = V.int n from h, DRels.ints t]; rfl
theorem DRels.of_ints : ∀ {ns : List Int}, DRels K H (ns.map DV.int) (ns.map V.int)
  | [] => rfl
  | n :: ns => ⟨_, _, rfl, rfl, DRels.of_ints⟩
theorem DRels.strs : ∀ {ns : List (List Nat)} {vs : List V}, DRels K H (ns.map DV.str) vs → vs = (ns.map fun x => (⟨x.toArray⟩ : Str)).map V.str
  | [], _, r => r
  | n :: ns, vs, r => by
    obtain ⟨v, w, rfl, h, t⟩ := r
    rw [show v = V.str ⟨n.toArray⟩ from h.1, DRels.strs t]; rfl
theorem DRels.of_strs : ∀ {ns : List (List Nat)}, (∀ x ∈ ns, tOk x) → DRels K H (ns.map DV.str) ((ns.map fun x => (⟨x.toArray⟩ : Str)).map V.str)
  | [], _ => rfl
  | n :: ns, ok => ⟨_, _, rfl, ⟨rfl, ok n (by simp)⟩, DRels.of_strs fun x hx => ok x (by simp [hx])⟩
theorem DRels.strs_ok : ∀ {ns : List (List Nat)} {vs : List V}, DRels K H (ns.map DV.str) vs → ∀ x ∈ ns, tOk x
  | [], _, r, _, h => by simp at h
  | n :: ns, vs, r, x, hx => by
    obtain ⟨v, w, rfl, h, t⟩ := r
    rcases List.mem_cons.mp hx with rfl | hx
    · exact h.2
    · exact DRels.strs_ok t x hx
theorem DRels.bls : ∀ {ns : List Bool} {vs : List V}, DRels K H (ns.map DV.bl) vs → vs = ns.map V.bl
  | [], _, r => r
  | n :: ns, vs, r => by
    obtain ⟨v, w, rfl, h, t⟩ := r
    rw [show v = V.bl n from h, DRels.bls t]; rfl
theorem DRel.tupT {ds : List DV} {v : V} (r : DRel K H (.tup ds) v) : ∃ a vs, v = .ref a ∧ SqT K H a vs ∧ DRels K H ds vs := by
  obtain ⟨a, vs, e, h, q⟩ := r
  refine ⟨a, vs, e, ?_, q⟩
  rcases h with h | h
  · exact SqT.of h
  · rcases h with (h | ⟨_, h⟩) | h
    · cases h
    · cases h
    · exact .inr h
end

/-- keys of a dict -/
def keyD : Key → DV
  | .inl i => .int i
  | .inr x => .str x.cps.toList
def keyK : DV → Option Key
  | .int i => some (.inl i)
  | .str x => some (.inr ⟨x.toArray⟩)
  | _ => none
theorem keyD_inj {a b : Key} (h : keyD a = keyD b) : a = b := by
  cases a <;> cases b <;> simp [keyD] at h
  · rw [h]
  · rename_i x y; cases x; cases y; simp at h; rw [h]
theorem keyK_D {d : DV} {k : Key} (h : keyK d = some k) : keyD k = d := by
  cases d <;> simp [keyK] at h <;> subst h <;> simp [keyD]
theorem key_of_rel {K : PySem.W.Frag} {H : Hp} {d : DV} {k : Key} (h : DRel K H d (kV k)) : d = keyD k := by
  cases k <;> cases d <;> simp [DRel, kV] at h
  · subst h; rfl
  · rename_i x y
    obtain ⟨rfl, _⟩ := h
    simp [keyD]
theorem rel_of_key {K : PySem.W.Frag} {H : Hp} {d : DV} {v : V} {k : Key} (e : keyK d = some k) (h : DRel K H d v) : v = kV k := by
  cases d <;> simp [keyK] at e <;> subst e
  · exact h
  · exact h.1
theorem keyK_keyD (k : Key) : keyK (keyD k) = some k := by
  cases k <;> simp [keyD, keyK]
def KRel (K : PySem.W.Frag) (H : Hp) : List (DV × DV) → List (Key × V) → Prop
  | [], q => q = []
  | p :: r, q => ∃ k v s, q = (k, v) :: s ∧ DRel K H p.1 (kV k) ∧ DRel K H p.2 v ∧ KRel K H r s
theorem KRel.mono {K : PySem.W.Frag} {H H' : Hp} (x : HX H H') : ∀ {p : List (DV × DV)} {q : List (Key × V)}, KRel K H p q → KRel K H' p q
  | [], _, r => r
  | _ :: _, _, r => by
    obtain ⟨k, v, s, e, h1, h2, h3⟩ := r
    exact ⟨k, v, s, e, h1.mono x, h2.mono x, h3.mono x⟩
/-- a caught exception's object -/
def exH (a : Addr) (c : Value) (d : Option Addr) : HO := .ext fun h => ∃ o vs, h.get? a = some o ∧ L2N.Zn c d o ∧ o.data = .fields vs
/-- fields by place -/
def FRel (K : PySem.W.Frag) (H : Hp) (ns : List Str) (fs : List (Option DV)) (q : List (Str × V)) : Prop :=
  ∀ (i : Nat) (f : Str) (d : DV), ns[i]? = some f → fs[i]? = some (some d) → ∃ v, q.lookup f = some v ∧ DRel K H d v
def ORel (G : GK) (H : Hp) (a : Addr) : AO → Prop
  | .lst xs => ∃ vs, H a = some (.lst vs) ∧ DRels G.K H xs vs
  | .flst xs => ∃ o vs, H a = some (.frz o (.lst vs)) ∧ DRels G.K H xs vs
  | .dct kvs => ∃ q, H a = some (.dK q) ∧ KRel G.K H kvs q
  | .fdct kvs o q => H a = some (.frz o (.dK q)) ∧ KRel G.K H kvs q
  | .ins c fs => ∃ dx q, H a = some (.ins (G.cA c) dx q) ∧ c < G.nC ∧ fs.length = (G.cf c).length ∧ (q.map (·.1)).Nodup ∧ (∀ f ∈ q.map (·.1), f ∈ G.cf c) ∧ FRel G.K H (G.cf c) fs q
  | .exc c fs => ∃ d q, H a = some (exH a (.ref (G.xA c)) (some d)) ∧ H d = some (.xd q) ∧ c < G.nX ∧ fs.length = (G.xf c).length ∧ FRel G.K H (G.xf c) (fs.map some) q
/-- the handled exception stands -/
def HotE (G : GK) (H : Hp) : Prop := ∀ a, G.hp = some a → ∃ c d, H a = some (exH a c d)
structure HRel (G : GK) (H : Hp) (h : AH) : Prop where
  run : ∀ a o, h a = some o → ORel G H a o
  hot : HotE G H
instance {G : GK} {H : Hp} {h : AH} : CoeFun (HRel G H h) (fun _ => ∀ a o, h a = some o → ORel G H a o) := ⟨HRel.run⟩
theorem hotE_upd {G : GK} {H : Hp} {p : Addr} {u : HO} (q : HotE G H) (n : ∀ v, H p = some v → ∀ f, v ≠ .ext f) : HotE G (upd H p u) := fun a e => by
  obtain ⟨c, d, z⟩ := q a e
  refine ⟨c, d, ?_⟩
  rw [upd_ne ?_]
  · exact z
  · rintro rfl
    exact n _ z _ rfl
theorem hotE_new {G : GK} {H : Hp} {p : Addr} {u : HO} (q : HotE G H) (n : H p = none) : HotE G (upd H p u) := hotE_upd q fun v e => by rw [n] at e; cases e
def SRel (G : GK) (H : Hp) (s : ASt) (σ : L2.St) : Prop := s.length = σ.length ∧ ∀ (i : Nat) (d : DV), s[i]? = some (some d) → ∃ v, σ[i]? = some (some v) ∧ DRel G.K H d v
section
variable {G : GK} {H H' : Hp} {h g : AH} {s : ASt} {σ : L2.St}
theorem SRel.mono (x : HX H H') (r : SRel G H s σ) : SRel G H' s σ := ⟨r.1, fun i d e => by
  obtain ⟨v, e1, e2⟩ := r.2 i d e
  exact ⟨v, e1, e2.mono x⟩⟩
theorem SRel.set {d : DV} {v : V} (i : Nat) (r : SRel G H s σ) (q : DRel G.K H d v) : SRel G H (s.set i (some d)) (σ.set i (some v)) := by
  refine ⟨by simp [r.1], fun j e hj => ?_⟩
  by_cases ij : i = j
  · subst ij
    have hl : i < s.length := by
      have := (List.getElem?_eq_some_iff.mp hj).1
      simpa using this
    rw [List.getElem?_set_self hl] at hj
    simp at hj; subst hj
    exact ⟨v, by rw [List.getElem?_set_self (by rw [← r.1]; exact hl)], q⟩
  · rw [List.getElem?_set_ne ij] at hj
    obtain ⟨v, e1, e2⟩ := r.2 j e hj
    exact ⟨v, by rw [List.getElem?_set_ne ij]; exact e1, e2⟩
theorem HRel.sub (r : HRel G H h) (x : Sub g h) : HRel G H g := ⟨fun a o e => r a o (x a o e), r.hot⟩
theorem ORel.there {a : Addr} {o : AO} (q : ORel G H a o) : ∃ u, H a = some u ∧ (∀ xs, u ≠ .tup xs) ∧ (∀ y, u ≠ .own y) ∧ (∀ q, u ≠ .xd q) := by
  cases o with
  | lst xs => obtain ⟨vs, q, _⟩ := q; exact ⟨_, q, by simp, by simp, by simp⟩
  | flst xs => obtain ⟨o, vs, q, _⟩ := q; exact ⟨_, q, by simp, by simp, by simp⟩
  | dct kvs => obtain ⟨q, e, _⟩ := q; exact ⟨_, e, by simp, by simp, by simp⟩
  | fdct kvs o y => obtain ⟨e, _⟩ := q; exact ⟨_, e, by simp, by simp, by simp⟩
  | ins c fs => obtain ⟨_, _, q, _⟩ := q; exact ⟨_, q, by simp, by simp, by simp⟩
  | exc c fs => obtain ⟨_, _, q, _⟩ := q; exact ⟨_, q, by simp [exH], by simp [exH], by simp [exH]⟩
theorem ORel.noext {a : Addr} {o : AO} {u : HO} (q : ORel G H a o) (hx : ∀ c fs, o ≠ .exc c fs) (e : H a = some u) : ∀ f, u ≠ .ext f := by
  cases o with
  | lst xs => obtain ⟨vs, q, _⟩ := q; rw [q] at e; cases e; nofun
  | flst xs => obtain ⟨o, vs, q, _⟩ := q; rw [q] at e; cases e; nofun
  | dct kvs => obtain ⟨q, z, _⟩ := q; rw [z] at e; cases e; nofun
  | fdct kvs o y => obtain ⟨z, _⟩ := q; rw [z] at e; cases e; nofun
  | ins c fs => obtain ⟨_, _, q, _⟩ := q; rw [q] at e; cases e; nofun
  | exc c fs => exact absurd rfl (hx c fs)
theorem HRel.free (r : HRel G H h) {p : Addr} (n : H p = none) : h p = none := by
  cases e : h p with
  | none => rfl
  | some o =>
    obtain ⟨u, q, _⟩ := (r.run p o e).there
    rw [n] at q; cases q
theorem FRel.mono {ns : List Str} {fs : List (Option DV)} {q : List (Str × V)} {K : PySem.W.Frag} (x : HX H H') (r : FRel K H ns fs q) : FRel K H' ns fs q := fun i f d e1 e2 => by
  obtain ⟨v, e, z⟩ := r i f d e1 e2
  exact ⟨v, e, z.mono x⟩
/-- an object's description stays where its own address, exceptions' dicts and tuples stay -/
theorem ORel.stay {a : Addr} {o : AO} (q : ORel G H a o) (x : HX H H') (k : H' a = H a) (kd : ∀ d q, H d = some (.xd q) → H' d = some (.xd q)) : ORel G H' a o := by
  cases o with
  | lst xs => obtain ⟨vs, e, z⟩ := q; exact ⟨vs, k.trans e, z.mono x⟩
  | flst xs => obtain ⟨o, vs, e, z⟩ := q; exact ⟨o, vs, k.trans e, z.mono x⟩
  | dct kvs => obtain ⟨q, e, z⟩ := q; exact ⟨q, k.trans e, z.mono x⟩
  | fdct kvs o y => obtain ⟨e, z⟩ := q; exact ⟨k.trans e, z.mono x⟩
  | ins c fs => obtain ⟨dx, q, e, lc, l, nd, sb, z⟩ := q; exact ⟨dx, q, k.trans e, lc, l, nd, sb, z.mono x⟩
  | exc c fs => obtain ⟨d, q, e, ed, lc, l, z⟩ := q; exact ⟨d, q, k.trans e, kd d q ed, lc, l, z.mono x⟩
/-- the hand layer's heap is written at p, which is no tuple and no exception's dict -/
theorem HRel.wr {p : Addr} {u : HO} {o : AO} (r : HRel G H h) (hp : ∀ v, H p = some v → (∀ xs, v ≠ .tup xs) ∧ (∀ q, v ≠ .xd q) ∧ ∀ f, v ≠ .ext f) (new : ORel G (upd H p u) p o) : HRel G (upd H p u) (au h p o) := by
  have x : HX H (upd H p u) := fun b xs e => by
    rw [upd_ne ?_]
    · exact e
    · rintro rfl; exact (hp _ e).1 xs rfl
  refine ⟨?_, hotE_upd r.hot fun v e => (hp v e).2.2⟩
  intro a w e
  by_cases q : a = p
  · subst q; rw [au_same] at e; cases e; exact new
  · rw [au_ne q] at e
    refine (r.run a w e).stay x (upd_ne q) fun d q' ed => ?_
    rw [upd_ne ?_]
    · exact ed
    · rintro rfl; exact (hp _ ed).2.1 q' rfl
/-- .. where nothing of ours stands -/
theorem HRel.updN {p : Addr} {u : HO} (r : HRel G H h) (n : H p = none) : HRel G (upd H p u) h := by
  refine ⟨?_, hotE_new r.hot n⟩
  intro a w e
  have q : a ≠ p := by
    rintro rfl
    rw [r.free n] at e; cases e
  exact (r.run a w e).stay (HX.new n) (upd_ne q) fun d q' ed => by rw [upd_ne (ne_of_none ed n)]; exact ed
theorem HRel.new {p : Addr} {u : HO} {o : AO} (r : HRel G H h) (n : H p = none) (new : ORel G (upd H p u) p o) : HRel G (upd H p u) (au h p o) :=
  r.wr (fun v e => by rw [n] at e; cases e) new
theorem HRel.put {p : Addr} {u : HO} {o w : AO} (r : HRel G H h) (e : h p = some w) (new : ORel G (upd H p u) p o) (hx : ∀ c fs, w ≠ .exc c fs := by nofun) : HRel G (upd H p u) (au h p o) ∧ HX H (upd H p u) := by
  obtain ⟨v, e1, e2, _, e3⟩ := (r.run p w e).there
  exact ⟨r.wr (fun v' e' => by rw [e1] at e'; cases e'; exact ⟨e2, e3, (r.run p w e).noext hx e1⟩) new, HX.put e1 e2⟩
end
end PL

set_option maxHeartbeats 4000000
/-! PL, part b: the small language and what its texts want. -/
namespace PL
open PySem PySem.Spec PyProof.Rows L2

inductive BO where | add | sub | mul | fdiv | mod | pow
inductive CO where | eq | ne | lt | le | gt | ge | isin | nin | isb | nisb | eqT | neT
  deriving DecidableEq
/-- built-in functions -/
inductive BF where | len | list | tuple | dict | str | int | sum | max | min | abs | all | divmod | sorted
/-- built-in methods -/
inductive BM where | append | extend | pop | insert | remove | index | count | reverse | clear | join | split | partition | find | replace | upper | isdigit | get | setdefault | update | dpop | indexD | sindex
  deriving DecidableEq
/-- what isinstance asks for -/
inductive TY where | int | bool | str | list | tuple | dict | verr | cls (c : Nat) | exc (c : Nat)
  deriving DecidableEq
mutual
inductive EX where
  | var (i : Nat)
  | con (d : DV)
  | bin (o : BO) (a b : EX)
  | neg (a : EX)
  | notE (a : EX)
  | andE (a b : EX)
  | orE (a b : EX)
  | cmp (o : CO) (a b : EX)
  | cmp2 (o p : CO) (a b c : EX)
  | cmp3 (o p q : CO) (a b c d : EX)
  | isN (a : EX)
  | notN (a : EX)
  | tup (es : EXs)
  | lst (es : EXs)
  | dct (es : EXs)
  /-- list(range(a, b)) -/
  | lrg (a b : EX)
  /-- list(range(b)) -/
  | lrg1 (b : EX)
  /-- list(a.values()), list(a.keys()) -/
  | lvw (a : EX) (k : Bool)
  /-- list(reversed(a)) -/
  | lrev (a : EX)
  /-- sum([int(o) for o in a]), a a list of truths, an exception being handled -/
  | hsum (a : EX)
  /-- repr(a) == repr(b) (n: !=) -/
  | repq (n : Bool) (a b : EX)
  /-- sorted(a, key=f), f a def that reads an item of its argument -/
  | srk (l : List Nat) (a : EX)
  /-- c if a else b -/
  | ife (c a b : EX)
  /-- a[lo::n] -/
  | sls (a : EX) (lo n : Nat)
  | ix (a i : EX)
  | sl (a : EX) (lo hi : EXs)
  | fld (a : EX) (f : Nat)
  | xfld (a : EX) (f : Nat)
  | call (f : Nat) (es : EXs)
  | make (c : Nat) (es : EXs)
  /-- an own exception, not raised -/
  | xmk (c : Nat) (es : EXs)
  /-- C(), no __init__ -/
  | mk0 (c : Nat)
  | meth (a : EX) (m : Nat) (es : EXs)
  | bf (b : BF) (es : EXs)
  | bm (a : EX) (m : BM) (es : EXs)
  | isi (a : EX) (ts : List TY) (tp : Bool)
  | lc (el : EX) (t : List Nat) (own : List Nat) (it : IT) (cond : EXs)
inductive EXs where
  | nil
  | cons (e : EX) (r : EXs)
inductive IT where
  | seq (e : EX)
  | rng1 (e : EX)
  | rng2 (a b : EX)
  | enum (e : EX)
  | rev (e : EX)
  | items (e : EX)
  | vals (e : EX)
  | keys (e : EX)
  | dseq (e : EX)
end
/-- targets -/
inductive TG where
  | name (i : Nat)
  | tup (is : List Nat)
  | fld (o : EX) (f : Nat)
  | sub (o i : EX)
mutual
inductive ST where
  | asg (t : TG) (e : EX)
  | aug (t : TG) (o : BO) (e : EX)
  | expr (e : EX)
  | ifS (c : EX) (a b : STs)
  | whl (c : EX) (b : STs)
  | forS (t : List Nat) (it : IT) (b : STs)
  | ret (e : EX)
  | retN
  | brk
  | pass
  /-- code that is never come to -/
  | never
  /-- a dict is locked meanwhile -/
  | lock (t : ST)
  | raise (x : Nat) (es : EXs)
  | tryS (b : STs) (hs : HDs) (o : STs)
inductive STs where
  | nil
  | cons (s : ST) (r : STs)
/-- handlers: none: HallError; else an exception's id; the name's slot -/
inductive HDs where
  | nil
  | cons (x : Option Nat) (n : Option Nat) (b : STs) (r : HDs)
end
def EXs.len : EXs → Nat
  | .nil => 0
  | .cons _ r => r.len + 1
def EXs.ofL : List EX → EXs
  | [] => .nil
  | e :: r => .cons e (EXs.ofL r)
def STs.ofL : List ST → STs
  | [] => .nil
  | e :: r => .cons e (STs.ofL r)

/-! ### values and heaps -/
abbrev AQ := DV → AH → Prop
abbrev AX := Nat → List DV → AH → Prop
def rdL (h : AH) (a : Addr) : Option (List DV) := match h a with
  | some (.lst xs) => some xs
  | some (.flst xs) => some xs
  | _ => none
def rdD (h : AH) (a : Addr) : Option (List (DV × DV)) := match h a with
  | some (.dct xs) => some xs
  | some (.fdct xs _ _) => some xs
  | _ => none
/-- a new object -/
def newO (o : AO) (h : AH) (Q : AQ) : Prop := ∀ p, h p = none → Q (.ref p) (au h p o)
def allO {α : Type} : List (Option α) → Option (List α)
  | [] => some []
  | none :: _ => none
  | some x :: r => (allO r).map (x :: ·)
def leafP : DV → Option PyData
  | .non => some .none
  | .bl b => some (.bool b)
  | .int i => some (.int i)
  | .str x => some (.str ⟨x.toArray⟩)
  | _ => none
/-- what a value is as data -/
def py (h : AH) : Nat → DV → Option PyData
  | 0, d => leafP d
  | n + 1, .ref a => (rdL h a).bind fun xs => (allO (xs.map (py h n))).map PyData.list
  | n + 1, .tup xs => (allO (xs.map (py h n))).map PyData.tuple
  | _ + 1, d => leafP d
/-- an object -/
def isRf : DV → Bool
  | .ref _ => true
  | .tup _ => true
  | _ => false
/-- the item at a path -/
def pathD (h : AH) : List Nat → DV → Option DV
  | [], d => some d
  | c :: r, .tup ds => (ds[c]?).bind (pathD h r)
  | c :: r, .ref p => ((rdL h p).bind fun xs => xs[c]?).bind (pathD h r)
  | _ :: _, _ => none
/-- == -/
def EqD (h : AH) (x y : DV) (b : Bool) : Prop := ∃ p q, py h 8 x = some p ∧ py h 8 y = some q ∧ PyData.eqv p q = b
def dget (kvs : List (DV × DV)) (k : DV) : Option DV := (kvs.find? fun p => decide (p.1 = k)).map (·.2)
/-- a level of what is equal -/
def EqC (h : AH) (F : DV → DV → Prop) (d e : DV) : Prop :=
  (∃ xs ys, d = .tup xs ∧ e = .tup ys ∧ xs.length = ys.length ∧ ∀ (i : Nat) x y, xs[i]? = some x → ys[i]? = some y → F x y) ∨
  (∃ a b xs ys, d = .ref a ∧ e = .ref b ∧ rdL h a = some xs ∧ rdL h b = some ys ∧ xs.length = ys.length ∧ ∀ (i : Nat) x y, xs[i]? = some x → ys[i]? = some y → F x y) ∨
  ∃ a b ks ls, d = .ref a ∧ e = .ref b ∧ h a = some (.dct ks) ∧ h b = some (.dct ls) ∧ ks.length = ls.length ∧ ∀ p ∈ ks, ∃ u, dget ls p.1 = some u ∧ F p.2 u
/-- equal, also through dicts -/
def EqT (h : AH) : Nat → DV → DV → Prop
  | 0 => fun _ _ => False
  | n + 1 => fun d e => EqD h d e true ∨ (∃ a, d = .ref a ∧ e = .ref a) ∨ EqC h (EqT h n) d e
/-- in, of a list or tuple -/
def InD (h : AH) (x : DV) (ys : List DV) (b : Bool) : Prop := ∃ p qs, py h 8 x = some p ∧ allO (ys.map (py h 7)) = some qs ∧ (qs.any fun z => PyData.eqv z p) = b
def dput (kvs : List (DV × DV)) (k v : DV) : List (DV × DV) :=
  if (kvs.any fun p => decide (p.1 = k)) = true then kvs.map (fun p => if p.1 = k then (p.1, v) else p) else kvs ++ [(k, v)]
/-- keys and values in turn -/
def pairL : List DV → Option (List (DV × DV))
  | [] => some []
  | k :: v :: r => (pairL r).map ((k, v) :: ·)
  | [_] => none
def keyOk : DV → Bool
  | .int _ => true
  | .str _ => true
  | _ => false
def dputs (acc : List (DV × DV)) (kvs : List (DV × DV)) : List (DV × DV) := kvs.foldl (fun a p => dput a p.1 p.2) acc
def ddel (kvs : List (DV × DV)) (k : DV) : List (DV × DV) := kvs.filter fun p => decide (p.1 ≠ k)
def cutL {α : Type} (xs : List α) (lo hi : Option Int) : List α := (xs.drop (HT.sIx xs.length 0 lo)).take (HT.sIx xs.length xs.length hi - HT.sIx xs.length 0 lo)
/-- every n-th from lo on -/
def stepL {α : Type} (lo n : Nat) (xs : List α) : List α := (sliceRange (sliceBounds (some (lo : Int)) none (some (n : Int)) xs.length).1 (sliceBounds (some (lo : Int)) none (some (n : Int)) xs.length).2.1 (sliceBounds (some (lo : Int)) none (some (n : Int)) xs.length).2.2).filterMap (xs[·]?)
/-- the sign that a code is -/
def sgn (c : Nat) : DV := .str [c]

/-! ### operations -/
def xAdd (x y : DV) (h : AH) (Q : AQ) : Prop := match x, y with
  | .int i, .int j => Q (.int (i + j)) h
  | .str a, .str b => a.length + b.length ≤ sizeLine ∧ Q (.str (a ++ b)) h
  | .ref a, .ref b => ∃ xs ys, h a = some (.lst xs) ∧ h b = some (.lst ys) ∧ xs.length + ys.length ≤ sizeLine ∧ newO (.lst (xs ++ ys)) h Q
  | .tup a, .tup b => a ≠ [] ∧ a.length + b.length ≤ sizeLine ∧ Q (.tup (a ++ b)) h
  | _, _ => False
def xMul (x y : DV) (h : AH) (Q : AQ) : Prop := match x, y with
  | .int i, .int j => IntMulOk i j ∧ Q (.int (i * j)) h
  | .ref a, .int k => ∃ xs, h a = some (.lst xs) ∧ -(2 ^ 63) ≤ k ∧ k < 2 ^ 63 ∧ xs.length * k.toNat ≤ sizeLine ∧ newO (.lst (List.replicate k.toNat xs).flatten) h Q
  | .str a, .int k => -(2 ^ 63) ≤ k ∧ k < 2 ^ 63 ∧ a.length * k.toNat ≤ sizeLine ∧ Q (.str (List.replicate k.toNat a).flatten) h
  | _, _ => False
def xBin (o : BO) (x y : DV) (h : AH) (Q : AQ) : Prop := match o with
  | .add => xAdd x y h Q
  | .mul => xMul x y h Q
  | .sub => match x, y with
    | .int i, .int j => Q (.int (i - j)) h
    | _, _ => False
  | .fdiv => match x, y with
    | .int i, .int j => 0 < j ∧ j < 1073741824 ∧ Q (.int (i / j)) h
    | _, _ => False
  | .mod => match x, y with
    | .int i, .int j => 0 < j ∧ Q (.int (i % j)) h
    | _, _ => False
  | .pow => match x, y with
    | .int i, .int j => 0 ≤ j ∧ j ≤ 1000000 ∧ i.natAbs < 2 ^ 64 ∧ Q (.int (i ^ j.toNat)) h
    | _, _ => False
def xEq (n : Bool) (x y : DV) (h : AH) (Q : AQ) : Prop := match x, y with
  | .int i, .int j => Q (.bl (n ^^ decide (i = j))) h
  | .str a, .str b => Q (.bl (n ^^ decide (a = b))) h
  | .bl a, .bl b => Q (.bl (n ^^ decide (a = b))) h
  | _, _ => ∃ b, EqD h x y b ∧ Q (.bl (n ^^ b)) h
def lt1 (x y : DV) : Option Bool := match x, y with
  | .int i, .int j => some (decide (i < j))
  | .str a, .str b => some (decide (a < b))
  | _, _ => none
/-- tuples of numbers and texts, in order -/
def ltB : List DV → List DV → Bool
  | [], [] => false
  | [], _ :: _ => true
  | _ :: _, [] => false
  | x :: r, y :: q => if x = y then ltB r q else (lt1 x y).getD false
def xLt (x y : DV) (h : AH) (Q : AQ) (sw ng : Bool) : Prop := match x, y with
  | .tup a, .tup b => sw = false ∧ ng = false ∧ ((a.zip b).all fun p => (lt1 p.1 p.2).isSome) = true ∧ Q (.bl (ltB a b)) h
  | .int i, .int j => Q (.bl (ng ^^ decide (if sw then j < i else i < j))) h
  | .str a, .str b => Q (.bl (ng ^^ decide (if sw then b < a else a < b))) h
  | _, _ => False
/-- numbers, texts, None -/
def flatD : DV → Bool
  | .int _ => true
  | .str _ => true
  | .non => true
  | _ => false
def xIn (n : Bool) (x y : DV) (h : AH) (Q : AQ) : Prop := match y with
  | .str b => ∃ c, x = .str [c] ∧ Q (.bl (n ^^ decide (c ∈ b))) h
  | .tup ys => flatD x = true ∧ ys.all flatD = true ∧ Q (.bl (n ^^ decide (x ∈ ys))) h
  | .ref a => (∃ ys, rdL h a = some ys ∧ ((flatD x = true ∧ ys.all flatD = true ∧ Q (.bl (n ^^ decide (x ∈ ys))) h) ∨ ∃ b, InD h x ys b ∧ Q (.bl (n ^^ b)) h)) ∨
      ∃ kvs, rdD h a = some kvs ∧ keyOk x = true ∧ Q (.bl (n ^^ (dget kvs x).isSome)) h
  | _ => False
def xCmp (o : CO) (x y : DV) (h : AH) (Q : AQ) : Prop := match o with
  | .eq => xEq false x y h Q
  | .ne => xEq true x y h Q
  | .lt => xLt x y h Q false false
  | .gt => xLt x y h Q true false
  | .le => xLt x y h Q true true
  | .ge => xLt x y h Q false true
  | .nisb => (match x, y with
    | .bl a, .bl b => Q (.bl (!decide (a = b))) h
    | _, _ => False)
  | .isb => (match x, y with
    | .bl a, .bl b => Q (.bl (decide (a = b))) h
    | _, _ => False)
  | .isin => xIn false x y h Q
  | .nin => xIn true x y h Q
  | .eqT => EqC h (EqT h 6) x y ∧ Q (.bl true) h
  | .neT => EqC h (EqT h 6) x y ∧ Q (.bl false) h
def xIx (x y : DV) (h : AH) (Q : AQ) : Prop := match x with
  | .str a => ∃ i c, y = .int i ∧ atI a i = some c ∧ a.length ≤ sizeLine ∧ Q (.str [c]) h
  | .tup xs => ∃ i d, y = .int i ∧ atI xs i = some d ∧ Q d h
  | .ref a => (∃ xs i d, rdL h a = some xs ∧ y = .int i ∧ atI xs i = some d ∧ Q d h) ∨ ∃ kvs d, rdD h a = some kvs ∧ keyOk y = true ∧ dget kvs y = some d ∧ Q d h
  | _ => False
def xSl (x : DV) (lo hi : Option Int) (h : AH) (Q : AQ) : Prop := match x with
  | .str a => a.length ≤ sizeLine ∧ Q (.str (cutL a lo hi)) h
  | .tup xs => ¬ (HT.sIx xs.length 0 lo = 0 ∧ HT.sIx xs.length xs.length hi = xs.length) ∧ Q (.tup (cutL xs lo hi)) h
  | .ref a => ∃ xs, rdL h a = some xs ∧ newO (.lst (cutL xs lo hi)) h Q
  | _ => False
def xTru (x : DV) (h : AH) (Q : Bool → AH → Prop) : Prop := ∃ b, x = .bl b ∧ Q b h
/-- the numbers' signs -/
def numT (i : Int) : List Nat := ((toString i).toList).map Char.toNat
def xLen (ds : List DV) (h : AH) (Q : AQ) : Prop := match ds with
  | [.str a] => a.length ≤ sizeLine ∧ Q (.int a.length) h
  | [.tup a] => Q (.int a.length) h
  | [.ref a] => (∃ xs, rdL h a = some xs ∧ Q (.int xs.length) h) ∨ ∃ kvs, rdD h a = some kvs ∧ Q (.int kvs.length) h
  | _ => False
def xList (ds : List DV) (h : AH) (Q : AQ) : Prop := match ds with
  | [.tup a] => newO (.lst a) h Q
  | [.ref a] => (∃ xs, rdL h a = some xs ∧ newO (.lst xs) h Q) ∨ ∃ kvs, rdD h a = some kvs ∧ newO (.lst (kvs.map (·.1))) h Q
  | _ => False
def xTuple (ds : List DV) (h : AH) (Q : AQ) : Prop := match ds with
  | [.tup a] => Q (.tup a) h
  | [.ref a] => ∃ xs, rdL h a = some xs ∧ Q (.tup xs) h
  | _ => False
def xDict (ds : List DV) (h : AH) (Q : AQ) : Prop := match ds with
  | [.ref a] => ∃ kvs, rdD h a = some kvs ∧ newO (.dct kvs) h Q
  | _ => False
def xStr (ds : List DV) (h : AH) (Q : AQ) : Prop := match ds with
  | [.int i] => i.natAbs.log2 < 1920 ∧ Q (.str (numT i)) h
  | _ => False
def xInt (ds : List DV) (h : AH) (Q : AQ) : Prop := match ds with
  | [.int i] => Q (.int i) h
  | [.bl i] => Q (.int (if i then 1 else 0)) h
  | [.str a] => ∃ n, PySem.intText? ⟨a.toArray⟩ = some n ∧ a.length ≤ 640 ∧ Q (.int n) h
  | _ => False
def xSum (ds : List DV) (h : AH) (Q : AQ) : Prop := match ds with
  | [.ref a] => ∃ ns : List Int, rdL h a = some (ns.map .int) ∧ Q (.int ns.sum) h
  | _ => False
def xMax (ds : List DV) (h : AH) (Q : AQ) : Prop := match ds with
  | [.int i, .int j] => Q (.int (if j > i then j else i)) h
  | [.ref a] => ∃ ns : List Int, rdL h a = some (ns.map .int) ∧ 0 < ns.length ∧ ∀ m, m ∈ ns → (∀ y, y ∈ ns → y ≤ m) → Q (.int m) h
  | _ => False
def xMin (ds : List DV) (h : AH) (Q : AQ) : Prop := match ds with
  | [.int i, .int j] => Q (.int (if j < i then j else i)) h
  | [.tup [.int i, .int j]] => Q (.int (if j < i then j else i)) h
  | [.ref a] => ∃ ns : List Int, rdL h a = some (ns.map .int) ∧ 0 < ns.length ∧ ∀ m, m ∈ ns → (∀ y, y ∈ ns → m ≤ y) → Q (.int m) h
  | _ => False
def xAbs (ds : List DV) (h : AH) (Q : AQ) : Prop := match ds with
  | [.int i] => Q (.int (if i < 0 then -i else i)) h
  | _ => False
def xAll (ds : List DV) (h : AH) (Q : AQ) : Prop := match ds with
  | [.ref a] => ∃ bs : List Bool, rdL h a = some (bs.map .bl) ∧ Q (.bl (bs.all id)) h
  | _ => False
def xDivmod (ds : List DV) (h : AH) (Q : AQ) : Prop := match ds with
  | [.int i, .int j] => 0 < j ∧ j < 1073741824 ∧ Q (.tup [.int (i / j), .int (i % j)]) h
  | _ => False
def mkS (x : List Nat) : Str := ⟨x.toArray⟩
def xSorted (ds : List DV) (h : AH) (Q : AQ) : Prop := match ds with
  | [.ref a] => (∃ xs : List (List Nat), rdL h a = some (xs.map .str) ∧ xs.length < 64 ∧ ∀ ys : List (List Nat), ys.Perm xs → sortedS (ys.map mkS) = true → newO (.lst (ys.map .str)) h Q) ∨
      (∃ qs : List (DV × PyData), rdL h a = some (qs.map (·.1)) ∧ (∀ q ∈ qs, py h 8 q.1 = some q.2) ∧ PySem.W.AllAlike (qs.map (·.2)) ∧ PySem.W.Sortable (qs.map (·.2)) ∧ newO (.lst ((qs.mergeSort (PySem.W.dataLe false fun q => q.2)).map (·.1))) h Q) ∨
      ∃ (kvs : List (DV × DV)) (xs : List (List Nat)), rdD h a = some kvs ∧ kvs.map (·.1) = xs.map .str ∧ xs.length < 64 ∧ ∀ ys : List (List Nat), ys.Perm xs → sortedS (ys.map mkS) = true → newO (.lst (ys.map .str)) h Q
  | _ => False
def xBF (b : BF) (ds : List DV) (h : AH) (Q : AQ) : Prop := match b with
  | .len => xLen ds h Q
  | .list => xList ds h Q
  | .tuple => xTuple ds h Q
  | .dict => xDict ds h Q
  | .str => xStr ds h Q
  | .int => xInt ds h Q
  | .sum => xSum ds h Q
  | .max => xMax ds h Q
  | .min => xMin ds h Q
  | .abs => xAbs ds h Q
  | .all => xAll ds h Q
  | .divmod => xDivmod ds h Q
  | .sorted => xSorted ds h Q
def dropD (kvs : List (DV × DV)) (k : DV) : List (DV × DV) := kvs.filter fun p => decide (p.1 ≠ k)
/-- texts as the library's functions take them -/
def tS (x : List Nat) : Str := ⟨x.toArray⟩
def unS (x : Str) : List Nat := x.cps.toList
def joinT (a : List Nat) (ys : List (List Nat)) : List Nat := TL.joinL a ys
def splitT (a b : List Nat) : List (List Nat) := TL.spl b 0 [] a
def partT (a b : List Nat) : DV := match TL.par b [] a with
  | some (p, q) => .tup [.str p, .str b, .str q]
  | none => .tup [.str a, .str [], .str []]
/-- of which type a method is -/
inductive RT where | str | list | dict
def BM.rt : BM → RT
  | .join | .split | .partition | .find | .replace | .upper | .isdigit | .sindex => .str
  | .get | .setdefault | .update | .dpop => .dict
  | _ => .list
def recvOk (m : BM) (x : DV) (h : AH) : Prop := match m.rt with
  | .str => ∃ a, x = .str a
  | .list => ∃ p xs, x = .ref p ∧ rdL h p = some xs
  | .dict => ∃ p kvs, x = .ref p ∧ h p = some (.dct kvs)
def onS (x : DV) (F : List Nat → Prop) : Prop := match x with
  | .str a => F a
  | _ => False
def onR (x : DV) (F : Addr → Prop) : Prop := match x with
  | .ref a => F a
  | _ => False
def arg0 (ds : List DV) (F : Prop) : Prop := match ds with
  | [] => F
  | _ => False
def arg1 (ds : List DV) (F : DV → Prop) : Prop := match ds with
  | [d] => F d
  | _ => False
def xPop (x : DV) (ds : List DV) (h : AH) (Q : AQ) : Prop := onR x fun p => match ds with
  | [] => ∃ xs d, h p = some (.lst xs) ∧ xs[xs.length - 1]? = some d ∧ Q d (au h p (.lst xs.dropLast))
  | [.int i] => ∃ xs d j, h p = some (.lst xs) ∧ -(2 ^ 63) ≤ i ∧ i < 2 ^ 63 ∧ ixN xs.length i = some j ∧ xs[j]? = some d ∧ Q d (au h p (.lst (xs.eraseIdx j)))
  | _ => False
def xInsert (x : DV) (ds : List DV) (h : AH) (Q : AQ) : Prop := onR x fun p => match ds with
  | [.int i, d] => ∃ xs, h p = some (.lst xs) ∧ xs.length < sizeLine ∧ 0 ≤ i ∧ i < 2 ^ 63 ∧ Q .non (au h p (.lst (xs.take i.toNat ++ [d] ++ xs.drop i.toNat)))
  | _ => False
def xGet (x : DV) (ds : List DV) (h : AH) (Q : AQ) : Prop := onR x fun p => match ds with
  | [k] => ∃ kvs, h p = some (.dct kvs) ∧ keyOk k = true ∧ Q ((dget kvs k).getD .non) h
  | [k, d] => ∃ kvs, h p = some (.dct kvs) ∧ keyOk k = true ∧ Q ((dget kvs k).getD d) h
  | _ => False
def xSetd (x : DV) (ds : List DV) (h : AH) (Q : AQ) : Prop := onR x fun p => match ds with
  | [k, d] => ∃ kvs, h p = some (.dct kvs) ∧ keyOk k = true ∧ kvs.length < sizeLine ∧ (∀ v, dget kvs k = some v → Q v h) ∧ (dget kvs k = none → Q d (au h p (.dct (dput kvs k d))))
  | _ => False
def xUpd (x : DV) (ds : List DV) (h : AH) (Q : AQ) : Prop := onR x fun p => arg1 ds fun d => onR d fun b => ∃ kvs more, h p = some (.dct kvs) ∧ h b = some (.dct more) ∧ p ≠ b ∧ kvs.length + more.length ≤ sizeLine ∧ Q .non (au h p (.dct (dputs kvs more)))
def xDpop (x : DV) (ds : List DV) (h : AH) (Q : AQ) : Prop := onR x fun p => arg1 ds fun k => ∃ kvs v, h p = some (.dct kvs) ∧ keyOk k = true ∧ dget kvs k = some v ∧ Q v (au h p (.dct (ddel kvs k)))
def xIdx (x : DV) (ds : List DV) (h : AH) (Q : AQ) : Prop := onR x fun p => arg1 ds fun y => ∃ (ys : List DV) (j : Nat), rdL h p = some ys ∧ flatD y = true ∧ ys.all flatD = true ∧ ys[j]? = some y ∧ (∀ (m : Nat) z, m < j → ys[m]? = some z → z ≠ y) ∧ Q (.int (j : Nat)) h
def xRem (x : DV) (ds : List DV) (h : AH) (Q : AQ) : Prop := onR x fun p => arg1 ds fun y => ∃ (ys : List DV) (j : Nat), h p = some (.lst ys) ∧ flatD y = true ∧ ys.all flatD = true ∧ ys[j]? = some y ∧ (∀ (m : Nat) z, m < j → ys[m]? = some z → z ≠ y) ∧ Q .non (au h p (.lst (ys.eraseIdx j)))
def xCnt (x : DV) (ds : List DV) (h : AH) (Q : AQ) : Prop := onR x fun p => arg1 ds fun y => ∃ (ys : List DV) (d : PyData) (qs : List PyData), rdL h p = some ys ∧ py h 8 y = some d ∧ allO (ys.map (py h 7)) = some qs ∧ Q (.int ((qs.countP fun z => PyData.eqv z d : Nat) : Int)) h
def xIdxD (x : DV) (ds : List DV) (h : AH) (Q : AQ) : Prop := onR x fun p => arg1 ds fun y => ∃ (ys : List DV) (d : PyData) (qs : List PyData) (j : Nat) (z : PyData), rdL h p = some ys ∧ py h 8 y = some d ∧ allO (ys.map (py h 7)) = some qs ∧ qs[j]? = some z ∧ PyData.eqv z d = true ∧ (∀ (m : Nat) z', m < j → qs[m]? = some z' → PyData.eqv z' d = false) ∧ Q (.int (j : Nat)) h
def xBM (m : BM) (x : DV) (ds : List DV) (h : AH) (Q : AQ) : Prop := match m with
  | .join => onS x fun a => arg1 ds fun d => onR d fun p => ∃ ys : List (List Nat), rdL h p = some (ys.map .str) ∧ (ys.map (·.length)).sum + ys.length * a.length ≤ 16777216 ∧ Q (.str (joinT a ys)) h
  | .split => onS x fun a => arg1 ds fun d => onS d fun b => b ≠ [] ∧ b.all (· < 256) = true ∧ a.length + 2 ≤ sizeLine ∧ newO (.lst ((splitT a b).map .str)) h Q
  | .partition => onS x fun a => arg1 ds fun d => onS d fun b => b ≠ [] ∧ a.length ≤ sizeLine ∧ Q (partT a b) h
  | .find => onS x fun a => arg1 ds fun d => onS d fun b => Q (.int (Txt.find (tS a) (tS b))) h
  | .replace => onS x fun a => ∃ b c, ds = [.str b, .str c] ∧ a.length + (a.length + 1) * c.length ≤ 16777216 ∧ tOk (unS (Txt.replace (tS a) (tS b) (tS c))) ∧ Q (.str (unS (Txt.replace (tS a) (tS b) (tS c)))) h
  | .upper => onS x fun a => arg0 ds (a.length ≤ 5592405 ∧ tOk (unS (Txt.upper (tS a))) ∧ Q (.str (unS (Txt.upper (tS a)))) h)
  | .append => onR x fun p => arg1 ds fun d => ∃ xs, h p = some (.lst xs) ∧ xs.length < sizeLine ∧ Q .non (au h p (.lst (xs ++ [d])))
  | .extend => onR x fun p => arg1 ds fun d => onR d fun b => ∃ xs ys, h p = some (.lst xs) ∧ h b = some (.lst ys) ∧ xs.length + ys.length ≤ sizeLine ∧ Q .non (au h p (.lst (xs ++ ys)))
  | .pop => xPop x ds h Q
  | .reverse => onR x fun p => arg0 ds (∃ xs, h p = some (.lst xs) ∧ Q .non (au h p (.lst xs.reverse)))
  | .clear => onR x fun p => arg0 ds (∃ xs, h p = some (.lst xs) ∧ Q .non (au h p (.lst [])))
  | .insert => xInsert x ds h Q
  | .get => xGet x ds h Q
  | .setdefault => xSetd x ds h Q
  | .update => xUpd x ds h Q
  | .dpop => xDpop x ds h Q
  | .index => xIdx x ds h Q
  | .count => xCnt x ds h Q
  | .indexD => xIdxD x ds h Q
  | .sindex => onS x fun a => arg1 ds fun d => onS d fun b => ∃ i rest, Builtin.Str.occurrences (tS a) (tS b) 0 (tS a).length 1 = i :: rest ∧ Q (.int (i : Nat)) h
  | .remove => xRem x ds h Q
  | _ => False

/-! ### texts of the program -/
structure PTab where
  fp : Nat → Nat → Option Nat
  xp : Nat → Nat → Option Nat
  mt : Nat → Nat → Option Nat
  nf : Nat → Nat
  init : Nat → Option Nat
  xn : Nat → Nat
  isC : Nat → Nat → Bool
  xsub : Nat → Nat → Bool
abbrev COr := Nat → List DV → AH → AQ → AX → Prop
structure KT where
  nx : ASt → AH → Prop
  rt : AQ
  bk : ASt → AH → Prop := fun _ _ => False
  xr : Nat → List DV → ASt → AH → Prop
def tyOf (T : PTab) (h : AH) (x : DV) (t : TY) : Bool := match x, t with
  | .int _, .int => true
  | .bl _, .int => true
  | .bl _, .bool => true
  | .str _, .str => true
  | .tup _, .tuple => true
  | .ref a, .list => (rdL h a).isSome
  | .ref a, .dict => (rdD h a).isSome
  | .ref a, .verr => (match h a with
    | some (.exc _ _) => true
    | _ => false)
  | .ref a, .exc c => (match h a with
    | some (.exc d _) => T.xsub d c
    | _ => false)
  | .ref a, .cls c => (match h a with
    | some (.ins d _) => T.isC d c
    | _ => false)
  | _, _ => false
/-- what may be asked -/
def isiOk (h : AH) (x : DV) (t : TY) : Bool := match x, t with
  | .ref a, .cls _ => (match h a with
    | some (.ins _ _) => true
    | _ => false)
  | .ref a, .exc _ => (match h a with
    | some (.exc _ _) => true
    | _ => false)
  | .ref a, .verr => (match h a with
    | some (.exc _ _) => true
    | _ => false)
  | _, .cls _ => false
  | _, .exc _ => false
  | _, .verr => false
  | .ref a, _ => (rdL h a).isSome || (rdD h a).isSome
  | _, _ => true
/-- a, b, .. = v -/
def bindA : List Nat → DV → ASt → Option ASt
  | [i], d, s => some (s.set i (some d))
  | is, .tup ds, s => if is.length = ds.length then some ((is.zip ds).foldl (fun s p => s.set p.1 (some p.2)) s) else none
  | _, _, _ => none
def wipeA (s : ASt) : List Nat → ASt
  | [] => s
  | v :: vs => (wipeA s vs).set v none
/-- a loop over known items; chk: what is walked stands as it stood -/
def wItems (chk : AH → Prop) (t : List Nat) (body : ASt → AH → KT → Prop) (K : KT) : List DV → ASt → AH → Prop
  | [], s, h => chk h ∧ K.nx s h
  | x :: r, s, h => chk h ∧ ∃ s1, bindA t x s = some s1 ∧ body s1 h { nx := fun s' h' => ∃ g, Sub g h' ∧ wItems chk t body K r s' g, rt := K.rt, bk := K.nx, xr := K.xr }
def wWhile (c : ASt → AH → (Bool → AH → Prop) → Prop) (body : ASt → AH → KT → Prop) (K : KT) (s : ASt) (h : AH) : Prop :=
  ∃ W : Nat → ASt → AH → Prop, (∃ m, W m s h) ∧ ∀ m s h, W m s h → c s h fun b h1 =>
    if b = true then body s h1 { nx := fun s' h' => ∃ g m', Sub g h' ∧ m' < m ∧ W m' s' g, rt := K.rt, bk := K.nx, xr := K.xr } else K.nx s h1
/-- a comprehension's items, its list at D -/
def wLc (chk : AH → Prop) (t own : List Nat) (D : Addr) (cond : ASt → AH → (Bool → AH → Prop) → Prop) (el : ASt → AH → AQ → Prop) (Q : AH → Prop) (s : ASt) : List DV → AH → Prop
  | [], h => chk h ∧ Q h
  | x :: r, h => chk h ∧ ∃ s1, bindA t x (wipeA s own) = some s1 ∧ cond s1 h fun b h1 =>
    if b = true then el s1 h1 fun d h2 => ∃ g acc, Sub g h2 ∧ g D = some (.lst acc) ∧ acc.length < sizeLine ∧ wLc chk t own D cond el Q s r (au g D (.lst (acc ++ [d])))
    else ∃ g, Sub g h1 ∧ wLc chk t own D cond el Q s r g
/-- what is walked: a check, the items; a dict is locked meanwhile -/
def itList (x : DV) (h : AH) (R : (AH → Prop) → List DV → AH → Prop) : Prop := match x with
  | .ref a => (∃ xs, rdL h a = some xs ∧ R (fun h' => rdL h' a = some xs) xs h) ∨ ∃ kvs o q, h a = some (.fdct kvs o q) ∧ R (fun h' => h' a = some (.fdct kvs o q)) (kvs.map (·.1)) h
  | .tup xs => R (fun _ => True) xs h
  | .str x => R (fun _ => True) (x.map sgn) h
  | _ => False
def enumL (n : Nat) : List DV → List DV
  | [] => []
  | x :: r => .tup [.int n, x] :: enumL (n + 1) r
def hTakes (T : PTab) (c : Nat) : Option Nat → Bool
  | none => true
  | some x => T.xsub c x
def hSet (n : Option Nat) (s : ASt) (p : Addr) : ASt := match n with
  | some i => s.set i (some (.ref p))
  | none => s
def hClr (n : Option Nat) (s : ASt) : ASt := match n with
  | some i => s.set i none
  | none => s
section
variable (T : PTab) (C : COr)
mutual
def wE (s : ASt) (h : AH) (Q : AQ) (X : AX) : EX → Prop
  | .var i => ∃ d, s[i]? = some (some d) ∧ Q d h
  | .con d => Q d h
  | .bin o a b => wE s h (fun x h1 => wE s h1 (fun y h2 => xBin o x y h2 Q) X b) X a
  | .neg a => wE s h (fun x h1 => ∃ i, x = .int i ∧ Q (.int (-i)) h1) X a
  | .notE a => wE s h (fun x h1 => ∃ b, x = .bl b ∧ Q (.bl (!b)) h1) X a
  | .andE a b => wE s h (fun x h1 => ∃ c, x = .bl c ∧ if c = true then wE s h1 Q X b else Q (.bl false) h1) X a
  | .orE a b => wE s h (fun x h1 => ∃ c, x = .bl c ∧ if c = true then Q (.bl true) h1 else wE s h1 Q X b) X a
  | .cmp o a b => wE s h (fun x h1 => wE s h1 (fun y h2 => xCmp o x y h2 Q) X b) X a
  | .cmp2 o p a b c => wE s h (fun x h1 => wE s h1 (fun y h2 => xCmp o x y h2 fun z h3 => ∃ k, z = .bl k ∧ if k = true then wE s h3 (fun w h4 => xCmp p y w h4 Q) X c else Q (.bl false) h3) X b) X a
  | .cmp3 o p q a b c d => wE s h (fun x h1 => wE s h1 (fun y h2 => xCmp o x y h2 fun z h3 => ∃ k, z = .bl k ∧ if k = true then wE s h3 (fun w h4 => xCmp p y w h4 fun z' h5 => ∃ k', z' = .bl k' ∧ if k' = true then wE s h5 (fun v h6 => xCmp q w v h6 Q) X d else Q (.bl false) h5) X c else Q (.bl false) h3) X b) X a
  | .isN a => wE s h (fun x h1 => Q (.bl (decide (x = .non))) h1) X a
  | .notN a => wE s h (fun x h1 => Q (.bl (!decide (x = .non))) h1) X a
  | .tup es => wEs s h (fun ds h1 => ds.length ≤ sizeLine ∧ Q (.tup ds) h1) X es
  | .lst es => wEs s h (fun ds h1 => ds.length ≤ sizeLine ∧ newO (.lst ds) h1 Q) X es
  | .dct es => ∀ p, h p = none → wEs s (au h p (.dct [])) (fun ds h2 => h2 p = some (.dct []) ∧ ∃ kvs, pairL ds = some kvs ∧ (kvs.all fun q => keyOk q.1) = true ∧ kvs.length ≤ 15 ∧ Q (.ref p) (au h2 p (.dct (dputs [] kvs)))) X es
  | .lrg a b => wE s h (fun x h1 => wE s h1 (fun y h2 => ∃ i j : Int, x = .int i ∧ y = .int j ∧ -(2 ^ 62) ≤ i ∧ i < 2 ^ 62 ∧ -(2 ^ 62) ≤ j ∧ j < 2 ^ 62 ∧ (j - i).toNat ≤ 1000000 ∧ newO (.lst ((List.range (j - i).toNat).map fun k => .int (i + (k : Nat)))) h2 Q) X b) X a
  | .lrg1 b => wE s h (fun y h2 => ∃ j : Int, y = .int j ∧ -(2 ^ 62) ≤ j ∧ j < 2 ^ 62 ∧ j.toNat ≤ 1000000 ∧ newO (.lst ((List.range j.toNat).map fun (k : Nat) => .int (k : Nat))) h2 Q) X b
  | .lvw a k => wE s h (fun x h1 => ∃ p kvs, x = .ref p ∧ h1 p = some (.dct kvs) ∧ newO (.lst (kvs.map fun q => if k = true then q.1 else q.2)) h1 Q) X a
  | .hsum a => wE s h (fun x h1 => ∃ (p : Addr) (bs : List Bool), x = .ref p ∧ rdL h1 p = some (bs.map .bl) ∧ Q (.int ((bs.count true : Nat) : Int)) h1) X a
  | .repq n a b => wE s h (fun x h1 => ∃ p : PyData, isRf x = true ∧ py h1 8 x = some p ∧ p.showable = true ∧ p.shown.length ≤ sizeLine ∧ wE s h1 (fun y h2 => isRf y = true ∧ py h2 8 y = some p ∧ Q (.bl (!n)) h2) X b) X a
  | .srk l a => wE s h (fun x h1 => ∃ (p : Addr) (qs : List (DV × Int)), x = .ref p ∧ rdL h1 p = some (qs.map (·.1)) ∧ (∀ q ∈ qs, pathD h1 l q.1 = some (.int q.2)) ∧ newO (.lst ((qs.mergeSort fun x y => decide (x.2 ≤ y.2)).map (·.1))) h1 Q) X a
  | .lrev a => wE s h (fun x h1 => ∃ p xs, x = .ref p ∧ rdL h1 p = some xs ∧ newO (.lst xs.reverse) h1 Q) X a
  | .sls a lo n => wE s h (fun x h1 => ∃ p xs, x = .ref p ∧ rdL h1 p = some xs ∧ newO (.lst (stepL lo n xs)) h1 Q) X a
  | .ife c a b => wE s h (fun x h1 => ∃ k, x = .bl k ∧ if k = true then wE s h1 Q X a else wE s h1 Q X b) X c
  | .ix a i => wE s h (fun x h1 => wE s h1 (fun y h2 => xIx x y h2 Q) X i) X a
  | .sl a lo hi => wE s h (fun x h1 => wO s h1 (fun l h2 => wO s h2 (fun u h3 => xSl x l u h3 Q) X hi) X lo) X a
  | .fld a f => wE s h (fun x h1 => ∃ p, x = .ref p ∧ ((∃ c fs k d, h1 p = some (.ins c fs) ∧ T.fp c f = some k ∧ fs[k]? = some (some d) ∧ Q d h1))) X a
  | .xfld a f => wE s h (fun x h1 => ∃ p, x = .ref p ∧ ((∃ c fs k d, h1 p = some (.exc c fs) ∧ T.xp c f = some k ∧ fs[k]? = some d ∧ Q d h1))) X a
  | .call f es => wEs s h (fun ds h1 => C f ds h1 Q X) X es
  | .xmk c es => wEs s h (fun ds h1 => ds.length = T.xn c ∧ newO (.exc c ds) h1 Q) X es
  | .make c es => wEs s h (fun ds h1 => ∃ f, T.init c = some f ∧ ∀ p, h1 p = none → C f (.ref p :: ds) (au h1 p (.ins c (List.replicate (T.nf c) none))) (fun v h2 => v = .non ∧ Q (.ref p) h2) (fun _ _ _ => False)) X es
  | .mk0 c => newO (.ins c (List.replicate (T.nf c) none)) h Q
  | .meth a m es => wE s h (fun x h1 => ∃ p c fs f, x = .ref p ∧ h1 p = some (.ins c fs) ∧ T.mt c m = some f ∧ wEs s h1 (fun ds h2 => C f (x :: ds) h2 Q X) X es) X a
  | .bf b es => wEs s h (fun ds h1 => xBF b ds h1 Q) X es
  | .bm a m es => wE s h (fun x h1 => recvOk m x h1 ∧ wEs s h1 (fun ds h2 => xBM m x ds h2 Q) X es) X a
  | .isi a ts _ => wE s h (fun x h1 => (∀ t ∈ ts, isiOk h1 x t = true) ∧ Q (.bl (ts.any (tyOf T h1 x))) h1) X a
  | .lc el t own it cond => wI s h (fun chk xs h1 => ∀ D, h1 D = none → wLc chk t own D (fun s h R => wC s h R (fun _ _ _ => False) cond) (fun s h R => wE s h R (fun _ _ _ => False) el) (fun h' => Q (.ref D) h') s xs (au h1 D (.lst []))) X it
def wEs (s : ASt) (h : AH) (Q : List DV → AH → Prop) (X : AX) : EXs → Prop
  | .nil => Q [] h
  | .cons e r => wE s h (fun x h1 => wEs s h1 (fun xs h2 => Q (x :: xs) h2) X r) X e
/-- a slice's part: none or one -/
def wO (s : ASt) (h : AH) (Q : Option Int → AH → Prop) (X : AX) : EXs → Prop
  | .nil => Q none h
  | .cons e _ => wE s h (fun x h1 => ∃ i, x = .int i ∧ Q (some i) h1) X e
/-- a comprehension's test: none or one -/
def wC (s : ASt) (h : AH) (Q : Bool → AH → Prop) (X : AX) : EXs → Prop
  | .nil => Q true h
  | .cons e _ => wE s h (fun x h1 => xTru x h1 Q) X e
def wI (s : ASt) (h : AH) (R : (AH → Prop) → List DV → AH → Prop) (X : AX) : IT → Prop
  | .seq e => wE s h (fun x h1 => itList x h1 R) X e
  | .rng1 e => wE s h (fun x h1 => ∃ j : Int, x = .int j ∧ -(2 ^ 62) ≤ j ∧ j < 2 ^ 62 ∧ R (fun _ => True) ((List.range j.toNat).map fun i => .int (i : Nat)) h1) X e
  | .rng2 a b => wE s h (fun x h1 => wE s h1 (fun y h2 => ∃ i j : Int, x = .int i ∧ y = .int j ∧ -(2 ^ 62) ≤ i ∧ i < 2 ^ 62 ∧ -(2 ^ 62) ≤ j ∧ j < 2 ^ 62 ∧ R (fun _ => True) ((List.range (j - i).toNat).map fun k => .int (i + (k : Nat))) h2) X b) X a
  | .enum e => wE s h (fun x h1 => ∃ a xs, x = .ref a ∧ rdL h1 a = some xs ∧ R (fun h' => rdL h' a = some xs) (enumL 0 xs) h1) X e
  | .rev e => wE s h (fun x h1 => ∃ a xs, x = .ref a ∧ rdL h1 a = some xs ∧ R (fun h' => rdL h' a = some xs) xs.reverse h1) X e
  | .items e => wE s h (fun x h1 => ∃ a kvs o q, x = .ref a ∧ h1 a = some (.fdct kvs o q) ∧ R (fun h' => h' a = some (.fdct kvs o q)) (kvs.map fun p => .tup [p.1, p.2]) h1) X e
  | .vals e => wE s h (fun x h1 => ∃ a kvs o q, x = .ref a ∧ h1 a = some (.fdct kvs o q) ∧ R (fun h' => h' a = some (.fdct kvs o q)) (kvs.map (·.2)) h1) X e
  | .keys e => wE s h (fun x h1 => ∃ a kvs o q, x = .ref a ∧ h1 a = some (.fdct kvs o q) ∧ R (fun h' => h' a = some (.fdct kvs o q)) (kvs.map (·.1)) h1) X e
  | .dseq e => wE s h (fun x h1 => ∃ a kvs, x = .ref a ∧ h1 a = some (.dct kvs) ∧ ∀ o q, R (fun h' => h' a = some (.fdct kvs o q)) (kvs.map (·.1)) (au h1 a (.fdct kvs o q))) X e
end
def wTst (s : ASt) (h : AH) (Q : Bool → AH → Prop) (X : AX) (e : EX) : Prop := wE T C s h (fun x h1 => xTru x h1 Q) X e
/-- the exceptions of a statement -/
def kx (K : KT) (s : ASt) : AX := fun c fs h => K.xr c fs s h
def wAsg (s : ASt) (h : AH) (d : DV) (K : KT) : TG → Prop
  | .name i => K.nx (s.set i (some d)) h
  | .tup is => ∃ s1, bindA is d s = some s1 ∧ 2 ≤ is.length ∧ K.nx s1 h
  | .fld o f => wE T C s h (fun x h1 => ∃ p c fs k, x = .ref p ∧ h1 p = some (.ins c fs) ∧ T.fp c f = some k ∧ k < fs.length ∧ K.nx s (au h1 p (.ins c (fs.set k (some d))))) (kx K s) o
  | .sub o i => wE T C s h (fun x h1 => wE T C s h1 (fun y h2 => ∃ p, x = .ref p ∧
      ((∃ xs k j, h2 p = some (.lst xs) ∧ y = .int k ∧ ixN xs.length k = some j ∧ K.nx s (au h2 p (.lst (xs.set j d)))) ∨
       ∃ kvs, h2 p = some (.dct kvs) ∧ keyOk y = true ∧ kvs.length < sizeLine ∧ K.nx s (au h2 p (.dct (dput kvs y d))))) (kx K s) i) (kx K s) o
def wAug (s : ASt) (h : AH) (o : BO) (e : EX) (K : KT) : TG → Prop
  | .name i => ∃ x, s[i]? = some (some x) ∧ wE T C s h (fun y h1 => (∃ a b, x = .int a ∧ y = .int b) ∧ xBin o x y h1 fun z h2 => K.nx (s.set i (some z)) h2) (kx K s) e
  | .fld a f => wE T C s h (fun x h1 => ∃ p c fs k v, x = .ref p ∧ h1 p = some (.ins c fs) ∧ T.fp c f = some k ∧ fs[k]? = some (some v) ∧ wE T C s h1 (fun y h2 => (∃ a b, v = .int a ∧ y = .int b) ∧ xBin o v y h2 fun z h3 =>
      ∃ gs, h3 p = some (.ins c gs) ∧ k < gs.length ∧ K.nx s (au h3 p (.ins c (gs.set k (some z))))) (kx K s) e) (kx K s) a
  | .sub a i => wE T C s h (fun x h1 => wE T C s h1 (fun y h2 => ∃ p k xs v, x = .ref p ∧ y = .int k ∧ 0 ≤ k ∧ k < 2 ^ 63 ∧ h2 p = some (.lst xs) ∧ xs[k.toNat]? = some (.int v) ∧ wE T C s h2 (fun z h3 => (∃ b, z = .int b) ∧ xBin o (.int v) z h3 fun u h4 =>
      ∃ ys, h4 p = some (.lst ys) ∧ k.toNat < ys.length ∧ K.nx s (au h4 p (.lst (ys.set k.toNat u)))) (kx K s) e) (kx K s) i) (kx K s) a
  | .tup _ => False
mutual
def wS (s : ASt) (h : AH) (K : KT) : ST → Prop
  | .asg t e => wE T C s h (fun d h1 => wAsg T C s h1 d K t) (kx K s) e
  | .aug t o e => wAug T C s h o e K t
  | .expr e => wE T C s h (fun _ h1 => K.nx s h1) (kx K s) e
  | .ifS c a b => wTst T C s h (fun k h1 => if k = true then wSs s h1 K a else wSs s h1 K b) (kx K s) c
  | .whl c b => wWhile (fun s h R => wTst T C s h R (kx K s) c) (fun s h K' => wSs s h K' b) K s h
  | .forS t it b => wI T C s h (fun chk xs h1 => wItems chk t (fun s h K' => wSs s h K' b) K xs s h1) (kx K s) it
  | .ret e => wE T C s h K.rt (kx K s) e
  | .retN => K.rt .non h
  | .brk => K.bk s h
  | .pass => K.nx s h
  | .never => False
  | .lock t => wS s h K t ∨ ∃ p kvs, h p = some (.dct kvs) ∧ ∀ o q, wS s (au h p (.fdct kvs o q)) { nx := fun s' h' => h' p = some (.fdct kvs o q) ∧ K.nx s' (au h' p (.dct kvs)), rt := fun d h' => h' p = some (.fdct kvs o q) ∧ K.rt d (au h' p (.dct kvs)), bk := fun s' h' => h' p = some (.fdct kvs o q) ∧ K.bk s' (au h' p (.dct kvs)), xr := K.xr } t
  | .raise x es => wEs T C s h (fun ds h1 => ds.length = T.xn x ∧ K.xr x ds s h1) (kx K s) es
  | .tryS b hs o => wSs s h { nx := fun s' h' => wSs s' h' K o, rt := K.rt, bk := K.bk, xr := fun c fs s' h' => wHs s' h' K c fs hs } b
def wSs (s : ASt) (h : AH) (K : KT) : STs → Prop
  | .nil => K.nx s h
  | .cons t r => wS s h { K with nx := fun s' h' => wSs s' h' K r } t
def wHs (s : ASt) (h : AH) (K : KT) (c : Nat) (fs : List DV) : HDs → Prop
  | .nil => K.xr c fs s h
  | .cons x n b r => if hTakes T c x = true then ∀ p, h p = none → wSs (hSet n s p) (au h p (.exc c fs)) { nx := fun s' h' => K.nx (hClr n s') h', rt := K.rt, bk := fun s' h' => K.bk (hClr n s') h', xr := fun _ _ _ _ => False } b
    else wHs s h K c fs r
end
end
/-- a def -/
structure FI where
  np : Nat
  nN : Nat
  body : STs
def startA (n : Nat) (ds : List DV) : ASt := ds.map some ++ List.replicate (n - ds.length) none
/-- what a call wants; n: how deep calls go -/
def wCall (T : PTab) (fns : Nat → Option FI) : Nat → COr
  | 0 => fun _ _ _ _ _ => False
  | n + 1 => fun f ds h Q X => ∃ fi, fns f = some fi ∧ ds.length = fi.np ∧ wSs T (wCall T fns n) (startA fi.nN ds) h
      { nx := (fun _ h' => ∃ g, Sub g h' ∧ Q .non g), rt := (fun d h' => ∃ g, Sub g h' ∧ Q d g), xr := (fun c fs _ h' => ∃ g, Sub g h' ∧ X c fs g) } fi.body
end PL

set_option maxHeartbeats 8000000
/-! PL, part ba: programs as data, what the written part must hold, the hook (all that a head's run wants). -/
namespace PL
open PySem PySem.Spec PyProof.Rows L2
def abc : List Nat := [97, 98, 99, 100, 101, 102, 103, 104, 105, 106, 107, 108, 109, 110, 111, 112, 113, 114, 115, 116, 117, 118, 119, 120, 121, 122]
def figs : List Nat := [48, 49, 50, 51, 52, 53, 54, 55, 56, 57]
/-! ### programs -/
structure FD where
  at_ : Str × Option Str
  qual : Str
  st : Stmt
  N : List Str
  np : Nat
  body : STs
  /-- called while an exception is handled, and only there -/
  hot : Bool := false
structure CD where
  name : Str
  flds : List Str
  meths : List (Str × Nat)
  init : Option Nat
/-- an own exception class: its name, fields, the classes over it (itself too); its __init__ and whose __init__ that calls -/
structure XD where
  name : Str
  flds : List Str
  sub : List Nat
  init : Option (FD × Str)
structure PD where
  fns : List FD
  cls : List CD
  mn : List Str
  an : List Str
  co : List (Str × DV)
  bt : List Str
  sub : List (Nat × Nat)
  cm : List ((Str × Str) × Nat) := []
  exs : List XD := []
namespace PD
variable (D : PD)
def cT : List (Str × Nat) := D.cls.zipIdx.map fun p => (p.1.name, p.2)
def fT : List (Str × Nat) := D.fns.zipIdx.filterMap fun p => match p.1.at_.2, p.1.hot with
  | none, false => some (p.1.at_.1, p.2)
  | _, _ => none
def hT : List (Str × Nat) := D.fns.zipIdx.filterMap fun p => match p.1.at_.2, p.1.hot with
  | none, true => some (p.1.at_.1, p.2)
  | _, _ => none
def xT : List (Str × Nat) := D.exs.zipIdx.map fun p => (p.1.name, p.2)
def eT : List (Str × Nat) := D.exs.zipIdx.filterMap fun p => match p.1.init with
  | none => none
  | some _ => some (p.1.name, p.2)
def c0T : List (Str × Nat) := D.cls.zipIdx.filterMap fun p => match p.1.init with
  | none => some (p.1.name, p.2)
  | some _ => none
def T : PTab where
  fp := fun c f => (D.cls[c]?).bind fun C => (D.an[f]?).bind fun nm => C.flds.idxOf? nm
  xp := fun c f => (D.exs[c]?).bind fun C => (D.an[f]?).bind fun nm => C.flds.idxOf? nm
  mt := fun c m => (D.cls[c]?).bind fun C => (D.mn[m]?).bind fun nm => C.meths.lookup nm
  nf := fun c => match D.cls[c]? with
    | some C => C.flds.length
    | none => 0
  init := fun c => (D.cls[c]?).bind (·.init)
  xn := fun c => match D.exs[c]? with
    | some C => C.flds.length
    | none => 0
  isC := fun c d => decide (c = d) || D.sub.contains (c, d)
  xsub := fun c d => match D.exs[c]? with
    | some C => C.sub.contains d
    | none => false
def fi (f : Nat) : Option FI := (D.fns[f]?).map fun d => ⟨d.np, d.N.length, d.body⟩
def kfT : List (Str × List Nat) := D.fns.filterMap fun d => match d.at_.2, d.N.take d.np with
  | none, [x] => if ((defScope d.st).names.lookup x = some .local ∧ x ≠ "__debug__") ∧ d.hot = false then (KF.keyB x (defBody d.st)).map fun l => (d.at_.1, l) else none
  | _, _ => none
def cN (c : Nat) : Str := match D.cls[c]? with
  | some C => C.name
  | none => ""
def xN (c : Nat) : Str := match D.exs[c]? with
  | some C => C.name
  | none => ""
end PD
def nmOf (p : Str × Option Str) : Str := match p.2 with
  | none => p.1
  | some m => m
def PD.inits (D : PD) : List FD := D.exs.filterMap fun C => C.init.map (·.1)
def PD.defs (D : PD) : List FD := D.fns ++ D.inits
def FD.dd (d : FD) : He.DefD := ⟨d.at_, nmOf d.at_, d.qual, defArgs d.st, defBody d.st, defScope d.st, [], []⟩
/-! ### what the written part must hold -/
/-! ### what the written part says of an own exception class -/
def oexS (C : Addr) : Option Obj → Bool
  | some ⟨.type t, _, .cls ⟨_, _, .ref c :: bm, _, _, true, _, _, _, _, false⟩, ⟨[_, _, _, _, some (.builtin nw), _]⟩⟩ => decide (t = "type") && decide (c = C) && PySem.HandSPX.refsVE bm && decide (nw = "ValueError.__new__")
  | _ => false
def oexB (K : PySem.W.Frag) (C : Addr) : Bool := oexS C (K.lookup C) && He.eqO (PySem.W.findIn K (.ref C) "__setattr__") (some (some (.builtin "object.__setattr__"))) &&
  decide (PySem.W.subIn K (.ref C) (.type "BaseException") = some true) && decide (PySem.W.typeIn K (.ref C) = some (.type "type")) && PySem.W.keepIn K (.ref C)
def insB (K : PySem.W.Frag) (C : Addr) : Bool := He.eqO (PySem.W.findIn K (.ref C) "__class__") (some (some (.builtin "object.__class__"))) && He.eqO (PySem.W.specialIn K (.builtin "object.__class__") "__get__") (some (some (.builtin "getset_descriptor.__get__"))) &&
  decide (PySem.W.takesIn K (.builtin "object.__class__") = some true) && decide (PySem.W.mroIn K C (.type "object") = some true)
def coB (K : PySem.W.Frag) (p : Str × DV) : Bool := match p.2 with
  | .int i => (He.Fa.int p.1 i).ok K
  | .str z => (He.Fa.str p.1 ⟨z.toArray⟩).ok K && z.all (· < 1114112)
  | _ => false
def excB (K : PySem.W.Frag) (C : Addr) : Bool := xfB K C && He.eqO (PySem.W.findIn K (.ref C) "__class__") (some (some (.builtin "object.__class__"))) && He.eqO (PySem.W.specialIn K (.builtin "object.__class__") "__get__") (some (some (.builtin "getset_descriptor.__get__"))) &&
  decide (PySem.W.takesIn K (.builtin "object.__class__") = some true) && decide (PySem.W.mroIn K C (.type "object") = some true) && decide (PySem.W.kitOne K (.ref C) (.type "ValueError") = some true)
def hbB (K : PySem.W.Frag) (C : Addr) : Bool := He.eqO (PySem.W.specialIn K (.ref C) "__getattribute__") (some (some (.builtin "type.__getattribute__"))) && PySem.W.readsIn K C (.type "type") &&
  (match PySem.W.findCls K (.ref C) (.type "type") "__init__" with
    | some (.val (.builtin b)) => decide (b = "ValueError.__init__")
    | _ => false)
def cmB (D : PD) (K : PySem.W.Frag) (p : (Str × Str) × Nat) : Bool := (He.Fa.glo p.1.1).ok K && decide (PySem.W.specialIn K (.ref (He.ga K p.1.1)) "__getattribute__" = some (some (.builtin "type.__getattribute__"))) && PySem.W.readsIn K (He.ga K p.1.1) (.type "type") &&
  (match D.fns[p.2]? with
    | some d => (match PySem.W.findCls K (.ref (He.ga K p.1.1)) (.type "type") p.1.2 with
      | some (.val (.ref a)) => decide (a = He.fAd K d.at_) && !d.hot
      | _ => false)
    | none => false)
namespace PD
variable (D : PD) (K : PySem.W.Frag)
def okC (C : CD) : Bool := (He.Fa.glo C.name).ok K && (He.Fa.cls C.name).ok K && PySem.W.keepIn K (.ref (He.ga K C.name)) && (C.flds.all fun f => (He.Fa.noat C.name f).ok K) &&
  (C.meths.all fun p => (He.Fa.meth C.name p.1).ok K && !C.flds.contains p.1 && (match D.fns[p.2]? with
    | some d => decide (He.ma K (He.ga K C.name) p.1 = He.fAd K d.at_) && !d.hot
    | none => false)) &&
  (match C.init with
    | some f => (He.Fa.mkr C.name).ok K && (match D.fns[f]? with
      | some d => decide (He.ma K (He.ga K C.name) "__init__" = He.fAd K d.at_) && !d.hot
      | none => false)
    | none => PySem.W.makesIn K (He.ga K C.name) && He.eqO (PySem.W.findIn K (.ref (He.ga K C.name)) "__init__") (some (some (.builtin "object.__init__")))) && insB K (He.ga K C.name) && decide C.flds.Nodup && decide (C.flds.length < 900)
def okX (C : XD) : Bool := (He.Fa.glo C.name).ok K && excB K (He.ga K C.name) && (C.flds.all fun f => He.eqO (PySem.W.findIn K (.ref (He.ga K C.name)) f) (some none)) && decide C.flds.Nodup && decide (C.flds.length ≤ 100) &&
  (match C.init with
    | none => true
    | some (d, b) => oexB K (He.ga K C.name) && decide (0 < C.flds.length) && He.eqO (PySem.W.findIn K (.ref (He.ga K C.name)) "__init__") (some (some (.ref (He.fAd K d.at_)))) && decide (PySem.W.typeIn K (.ref (He.fAd K d.at_)) = some (.type "function")) && (He.Fa.glo b).ok K && hbB K (He.ga K b))
def okK : Bool := (D.exs.all fun C => okX K C) && ((List.range D.exs.length).all fun c => D.xT.all fun p => decide (PySem.W.kitOne K (.ref (He.ga K (D.xN c))) (.ref (He.ga K (D.xN p.2))) = some (D.T.xsub c p.2)) && decide (PySem.W.exmOne K (.ref (He.ga K (D.xN c))) (.ref (He.ga K (D.xN p.2))) = some (D.T.xsub c p.2))) && (D.cls.all fun C => D.okC K C) && (D.fns.all fun d => match d.at_.2 with
    | none => (He.Fa.glo d.at_.1).ok K
    | some _ => true) && (D.bt.all fun x => (He.Fa.free x).ok K) && (D.co.all fun p => coB K p) && (D.cm.all fun p => cmB D K p) &&
  ((List.range D.cls.length).all fun c => D.cT.all fun p => decide (PySem.W.kitOne K (.ref (He.ga K (D.cN c))) (.ref (He.ga K (D.cN p.2))) = some (D.T.isC c p.2)))
end PD
/-- no list is written -/
def noLists (K : PySem.W.Frag) : Bool := K.all fun p => match p.2.cls with
  | .type c => decide (c ≠ "list")
  | _ => true
def obsP (ok : PySem.W.Frag → Bool) (fn : List He.DefD) (K : PySem.W.Frag) : He.AlD := (ok K && fn.all fun d => d.ok K, fn.map fun d => He.fnW K d.at_)
def SaysP (ok : PySem.W.Frag → Bool) (fn : List He.DefD) (K : PySem.W.Frag) : Prop := obsP ok fn K = He.valD fn
/-- addresses, each once (a mask of bits) -/
def seen1 (m : Nat) (acc : List Addr) : List Addr → Nat × List Addr
  | [] => (m, acc)
  | a :: r => match Nat.beq (Nat.land (Nat.shiftRight m a) 1) 1 with
    | true => seen1 m acc r
    | false => seen1 (Nat.lor m (Nat.shiftLeft 1 a)) (a :: acc) r
def seenR (g : Addr → Option Obj) : Nat → Nat → List Addr → List Addr → List Addr
  | 0, _, all, _ => all
  | n + 1, m, all, fr => match seen1 m [] (fr.flatMap fun a => match g a with
      | some o => He.refsD o
      | none => []) with
    | (m', new) => seenR g n m' (all ++ new) new
def asX (g : Addr → Option Obj) (n : Nat) : List Addr := cStatics :: seenR g n (Nat.lor (Nat.shiftLeft 1 mainGlobals) (Nat.shiftLeft 1 cStatics)) [mainGlobals] [mainGlobals]
def obsPG (n : Nat) (ok : PySem.W.Frag → Bool) (fn : List He.DefD) (g : Addr → Option Obj) : He.AlD := obsP ok fn (He.frG g (asX g n))
def hookP (n : Nat) (ok : PySem.W.Frag → Bool) (fn : List He.DefD) : PySem.W.Hook where
  α := He.AlD
  obs := fun s => obsPG n ok fn s.heap.get?
  val := fun _ => He.valD fn
  says := fun _ h => ∃ K : PySem.W.Frag, K.In h ∧ SaysP ok fn K
  of := fun _ _ e => ⟨_, He.frG_in, e⟩
  keeps := fun _ _ _ ⟨K, hK, c⟩ k => ⟨K, PySem.W.Frag.In.keeps hK k, c⟩
theorem obsPG_eq {n : Nat} {ok : PySem.W.Frag → Bool} {fn : List He.DefD} {g : Addr → Option Obj} {s : Shared} (h : ∀ a, g a = s.heap.get? a) : obsPG n ok fn g = (hookP n ok fn).obs s := by
  have e : g = s.heap.get? := funext h
  rw [e] <;> rfl
/-- the check of a program's written part -/
def PD.all (D : PD) (K : PySem.W.Frag) : Bool := D.okK K && noLists K
/-! ### the run in parts (large tops) -/
def kF (nR : Nat) (s : PySem.W.SharedT) : PySem.W.Frag := He.frG (HandSHeadRun.getT s) (asX (HandSHeadRun.getT s) nR)
def PD.q1 (D : PD) (K : PySem.W.Frag) : Bool := (D.exs.all fun C => PD.okX K C) && ((List.range D.exs.length).all fun c => D.xT.all fun p => decide (PySem.W.kitOne K (.ref (He.ga K (D.xN c))) (.ref (He.ga K (D.xN p.2))) = some (D.T.xsub c p.2)) && decide (PySem.W.exmOne K (.ref (He.ga K (D.xN c))) (.ref (He.ga K (D.xN p.2))) = some (D.T.xsub c p.2)))
def PD.q2 (D : PD) (K : PySem.W.Frag) (l : List CD) : Bool := l.all fun C => D.okC K C
def PD.q3 (D : PD) (K : PySem.W.Frag) : Bool := (D.fns.all fun d => match d.at_.2 with
    | none => (He.Fa.glo d.at_.1).ok K
    | some _ => true) && (D.bt.all fun x => (He.Fa.free x).ok K) && (D.co.all fun p => coB K p) && (D.cm.all fun p => cmB D K p) &&
  ((List.range D.cls.length).all fun c => D.cT.all fun p => decide (PySem.W.kitOne K (.ref (He.ga K (D.cN c))) (.ref (He.ga K (D.cN p.2))) = some (D.T.isC c p.2)))
def PD.q4 (D : PD) (K : PySem.W.Frag) (l : List FD) : Bool := l.all fun d => d.dd.ok K
end PL

set_option maxHeartbeats 0
namespace K66
open PySem PySem.Spec PL
abbrev P : Program := PySem.Challenge.pw_spoolhall_k66_no_way
def top (i : Nat) : Stmt := P.main.body.getD i (.Pass ⟨0, 0, 0, 0⟩)
def cbody (s : Stmt) (j : Nat) : Stmt := match s with
  | .ClassDef _ _ _ b _ _ _ _ _ _ _ => b.getD j (.Pass ⟨0, 0, 0, 0⟩)
  | _ => .Pass ⟨0, 0, 0, 0⟩

def l0_look_at_needs : STs := .cons (.ifS (.cmp .gt (.var 5) (.ix (.var 0) (.var 4))) (.cons (.raise 13 (.cons (.var 2) .nil)) .nil) .nil) .nil
def l1_look_at_needs : STs := .cons (.forS [4, 5] (.seq (.var 3)) l0_look_at_needs) .nil
def b_look_at_needs : STs := .cons (.forS [2, 3] (.enum (.var 1)) l1_look_at_needs) .nil
def d_look_at_needs : FD := ⟨("look_at_needs", none), "look_at_needs", top 16, ["rooms", "needs", "place", "job", "tray", "many"], 2, b_look_at_needs, false⟩
def l0_short_tray : STs := .cons (.ifS (.cmp .lt (.ix (.var 0) (.var 2)) (.var 3)) (.cons (.ret (.var 2)) .nil) .nil) .nil
def b_short_tray : STs := .cons (.forS [2, 3] (.seq (.var 1)) l0_short_tray) (.cons (.ret (.con .non)) .nil)
def d_short_tray : FD := ⟨("short_tray", none), "short_tray", top 17, ["left", "job", "tray", "many"], 2, b_short_tray, false⟩
abbrev f0_walks : STs := .cons (.expr (.bm (.var 4) .append (.cons (.var 7) .nil))) (.cons (.expr (.bm (.var 5) .append (.cons (.tup (.cons (.var 9) (.cons (.var 6) (.cons (.var 7) .nil)))) .nil))) (.cons (.asg (.name 6) (.bin .add (.var 7) (.con (.int 1)))) (.cons (.asg (.name 3) (.bf .list (.cons (.var 0) .nil))) .nil)))
def l0_walks : STs := .cons (.asg (.sub (.var 3) (.var 10)) (.bin .sub (.ix (.var 3) (.var 10)) (.var 11))) .nil
def l1_walks : STs := .cons (.asg (.name 9) (.call 1 (.cons (.var 3) (.cons (.var 8) .nil)))) (.cons (.ifS (.notN (.var 9)) f0_walks .nil) (.cons (.forS [10, 11] (.seq (.var 8)) l0_walks) .nil))
def b_walks : STs := .cons (.expr (.call 0 (.cons (.var 0) (.cons (.var 2) .nil)))) (.cons (.asg (.name 3) (.bf .list (.cons (.var 1) .nil))) (.cons (.asg (.name 4) (.lst .nil)) (.cons (.asg (.name 5) (.lst .nil)) (.cons (.asg (.name 6) (.con (.int 0))) (.cons (.forS [7, 8] (.enum (.var 2)) l1_walks) (.cons (.ret (.tup (.cons (.var 4) (.cons (.var 5) .nil)))) .nil))))))
def d_walks : FD := ⟨("walks", none), "walks", top 18, ["rooms", "held", "needs", "left", "ways", "windows", "since", "place", "job", "tray", "other", "many"], 3, b_walks, false⟩
def b__law_draw : STs := .cons (.asg (.name 3) (.con (.int 0))) (.cons (.ifS (.cmp .gt (.bf .len (.cons (.var 0) .nil)) (.con (.int 0))) (.cons (.asg (.name 3) (.ix (.var 0) (.bin .mod (.var 1) (.bf .len (.cons (.var 0) .nil))))) .nil) .nil) (.cons (.ret (.bin .mod (.bin .mod (.bin .mul (.bin .add (.bin .add (.bin .add (.bin .mod (.var 3) (.con (.int 1000003))) (.bin .mul (.bin .mul (.con (.int 31)) (.var 1)) (.var 1))) (.bin .mul (.con (.int 7)) (.var 1))) (.con (.int 1))) (.con (.int 48271))) (.con (.int 999983))) (.var 2))) .nil))
def d__law_draw : FD := ⟨("_law_draw", none), "_law_draw", top 20, ["_law_script", "_law_k", "_law_many", "_law_cell"], 3, b__law_draw, false⟩
def b__law_great : STs := .cons (.ifS (.cmp .eq (.bf .len (.cons (.var 0) .nil)) (.con (.int 0))) (.cons (.ret (.con (.int 0))) .nil) .nil) (.cons (.ret (.bin .mod (.ix (.var 0) (.bin .mod (.var 1) (.bf .len (.cons (.var 0) .nil)))) (.bin .pow (.con (.int 10)) (.con (.int 58))))) .nil)
def d__law_great : FD := ⟨("_law_great", none), "_law_great", top 21, ["_law_script", "_law_k"], 2, b__law_great, false⟩
def b__law_whole : STs := .cons (.ret (.andE (.isi (.var 0) [.int] false) (.notE (.isi (.var 0) [.bool] false)))) .nil
def d__law_whole : FD := ⟨("_law_whole", none), "_law_whole", top 22, ["_law_found"], 1, b__law_whole, false⟩
def b__law_room : STs := .cons (.ifS (.cmp .eq (.call 3 (.cons (.var 0) (.cons (.var 1) (.cons (.con (.int 3)) .nil)))) (.con (.int 0))) (.cons (.ret (.bin .add (.con (.int 1)) (.call 4 (.cons (.var 0) (.cons (.bin .add (.var 1) (.con (.int 1))) .nil))))) .nil) .nil) (.cons (.ret (.bin .add (.con (.int 1)) (.call 3 (.cons (.var 0) (.cons (.bin .add (.var 1) (.con (.int 1))) (.cons (.con (.int 12)) .nil)))))) .nil)
def d__law_room : FD := ⟨("_law_room", none), "_law_room", top 23, ["_law_script", "_law_k"], 2, b__law_room, false⟩
def b__law_part : STs := .cons (.asg (.name 3) (.bin .mod (.call 3 (.cons (.var 0) (.cons (.bin .add (.var 1) (.con (.int 1))) (.cons (.con (.int 14)) .nil)))) (.bin .add (.var 2) (.con (.int 1))))) (.cons (.ret (.ix (.lst (.cons (.con (.int 0)) (.cons (.var 2) (.cons (.bin .fdiv (.var 2) (.con (.int 2))) (.cons (.var 3) (.cons (.bin .mod (.call 4 (.cons (.var 0) (.cons (.bin .add (.var 1) (.con (.int 2))) .nil))) (.bin .add (.var 2) (.con (.int 1)))) (.cons (.var 3) .nil))))))) (.call 3 (.cons (.var 0) (.cons (.var 1) (.cons (.con (.int 6)) .nil)))))) .nil)
def d__law_part : FD := ⟨("_law_part", none), "_law_part", top 24, ["_law_script", "_law_k", "_law_room_here", "_law_small"], 3, b__law_part, false⟩
def l0__law_need : STs := .cons (.asg (.name 6) (.bin .mod (.bin .add (.var 4) (.var 5)) (.bf .len (.cons (.var 2) .nil)))) (.cons (.ifS (.cmp .gt (.call 3 (.cons (.var 0) (.cons (.bin .add (.bin .add (.var 1) (.con (.int 1))) (.var 5)) (.cons (.con (.int 3)) .nil)))) (.con (.int 0))) (.cons (.expr (.bm (.var 3) .append (.cons (.tup (.cons (.var 6) (.cons (.call 7 (.cons (.var 0) (.cons (.bin .add (.bin .add (.var 1) (.con (.int 5))) (.bin .mul (.con (.int 7)) (.var 5))) (.cons (.ix (.var 2) (.var 6)) .nil)))) .nil))) .nil))) .nil) .nil) .nil)
def b__law_need : STs := .cons (.asg (.name 3) (.lst .nil)) (.cons (.asg (.name 4) (.call 3 (.cons (.var 0) (.cons (.var 1) (.cons (.bf .len (.cons (.var 2) .nil)) .nil))))) (.cons (.forS [5] (.rng1 (.bf .len (.cons (.var 2) .nil))) l0__law_need) (.cons (.ret (.var 3)) .nil)))
def d__law_need : FD := ⟨("_law_need", none), "_law_need", top 25, ["_law_script", "_law_k", "_law_rooms", "_law_need_here", "_law_turn", "_law_j", "_law_tray"], 3, b__law_need, false⟩
def c0__law_needs : EX := .call 8 (.cons (.var 0) (.cons (.bin .add (.con (.int 100)) (.bin .mul (.con (.int 40)) (.var 3))) (.cons (.var 1) .nil)))
def b__law_needs : STs := .cons (.asg (.name 2) (.bin .add (.con (.int 1)) (.call 3 (.cons (.var 0) (.cons (.con (.int 1)) (.cons (.con (.int 21)) .nil)))))) (.cons (.ifS (.cmp .eq (.call 3 (.cons (.var 0) (.cons (.con (.int 2)) (.cons (.con (.int 8)) .nil)))) (.con (.int 1))) (.cons (.asg (.name 2) (.bin .add (.con (.int 22)) (.call 3 (.cons (.var 0) (.cons (.con (.int 3)) (.cons (.con (.int 40)) .nil)))))) .nil) .nil) (.cons (.ret (.lc c0__law_needs [3] [3] (.rng1 (.var 2)) .nil)) .nil))
def d__law_needs : FD := ⟨("_law_needs", none), "_law_needs", top 26, ["_law_script", "_law_rooms", "_law_many", "_law_i"], 2, b__law_needs, false⟩
def c0__law_spoilt : EX := .bf .list (.cons (.var 10) .nil)
def c1__law_spoilt : EX := .var 11
def i1__law_spoilt : EXs := .cons (.cmp .ne (.ix (.var 11) (.con (.int 0))) (.var 6)) .nil
def l0__law_spoilt : STs := .cons (.asg (.name 5) (.call 3 (.cons (.var 0) (.cons (.bin .add (.con (.int 60)) (.bin .mul (.con (.int 5)) (.var 4))) (.cons (.bf .len (.cons (.var 2) .nil)) .nil))))) (.cons (.asg (.name 6) (.call 3 (.cons (.var 0) (.cons (.bin .add (.con (.int 61)) (.bin .mul (.con (.int 5)) (.var 4))) (.cons (.bf .len (.cons (.var 1) .nil)) .nil))))) (.cons (.asg (.name 7) (.bin .add (.con (.int 1)) (.ix (.lst (.cons (.con (.int 0)) (.cons (.call 4 (.cons (.var 0) (.cons (.bin .add (.con (.int 62)) (.bin .mul (.con (.int 5)) (.var 4))) .nil))) .nil))) (.call 3 (.cons (.var 0) (.cons (.bin .add (.con (.int 63)) (.bin .mul (.con (.int 5)) (.var 4))) (.cons (.con (.int 2)) .nil))))))) (.cons (.asg (.name 8) (.lc c1__law_spoilt [11] [11] (.seq (.ix (.var 3) (.var 5))) i1__law_spoilt)) (.cons (.asg (.name 9) (.call 3 (.cons (.var 0) (.cons (.bin .add (.con (.int 64)) (.bin .mul (.con (.int 5)) (.var 4))) (.cons (.bin .add (.bf .len (.cons (.var 8) .nil)) (.con (.int 1))) .nil))))) (.cons (.asg (.sub (.var 3) (.var 5)) (.bin .add (.bin .add (.sl (.var 8) .nil (.cons (.var 9) .nil)) (.lst (.cons (.tup (.cons (.var 6) (.cons (.bin .add (.ix (.var 1) (.var 6)) (.var 7)) .nil))) .nil))) (.sl (.var 8) (.cons (.var 9) .nil) .nil))) .nil)))))
def b__law_spoilt : STs := .cons (.asg (.name 3) (.lc c0__law_spoilt [10] [10] (.seq (.var 2)) .nil)) (.cons (.forS [4] (.rng1 (.bin .add (.con (.int 1)) (.call 3 (.cons (.var 0) (.cons (.con (.int 5)) (.cons (.con (.int 3)) .nil)))))) l0__law_spoilt) (.cons (.ret (.var 3)) .nil))
def d__law_spoilt : FD := ⟨("_law_spoilt", none), "_law_spoilt", top 27, ["_law_script", "_law_rooms", "_law_wants", "_law_bad", "_law_k", "_law_place", "_law_tray", "_law_more", "_law_others_here", "_law_at", "_law_need_here", "_law_one"], 3, b__law_spoilt, false⟩
def l0__law_first_bad : STs := .cons (.ifS (.cmp .gt (.var 4) (.ix (.var 0) (.var 3))) (.cons (.ret (.var 2)) .nil) .nil) .nil
def l1__law_first_bad : STs := .cons (.forS [3, 4] (.seq (.ix (.var 1) (.var 2))) l0__law_first_bad) .nil
def b__law_first_bad : STs := .cons (.forS [2] (.rng1 (.bf .len (.cons (.var 1) .nil))) l1__law_first_bad) (.cons (.ret (.con .non)) .nil)
def d__law_first_bad : FD := ⟨("_law_first_bad", none), "_law_first_bad", top 28, ["_law_rooms", "_law_wants", "_law_place", "_law_tray", "_law_many"], 2, b__law_first_bad, false⟩
def b__law_others : STs := .cons (.asg (.name 1) (.lst (.cons (.isi (.var 0) [(.exc 1)] false) (.cons (.isi (.var 0) [(.exc 2)] false) (.cons (.isi (.var 0) [(.exc 3)] false) (.cons (.isi (.var 0) [(.exc 4)] false) .nil)))))) (.cons (.asg (.name 1) (.bin .add (.var 1) (.lst (.cons (.isi (.var 0) [(.exc 5)] false) (.cons (.isi (.var 0) [(.exc 6)] false) (.cons (.isi (.var 0) [(.exc 7)] false) (.cons (.isi (.var 0) [(.exc 8)] false) .nil))))))) (.cons (.asg (.name 1) (.bin .add (.var 1) (.lst (.cons (.isi (.var 0) [(.exc 9)] false) (.cons (.isi (.var 0) [(.exc 10)] false) (.cons (.isi (.var 0) [(.exc 11)] false) (.cons (.isi (.var 0) [(.exc 12)] false) .nil))))))) (.cons (.ret (.hsum (.bin .add (.var 1) (.lst (.cons (.isi (.var 0) [(.exc 13)] false) .nil))))) .nil)))
def d__law_others : FD := ⟨("_law_others", none), "_law_others", top 29, ["_law_e", "_law_some", "_law_one"], 1, b__law_others, true⟩
def c0__law_refused : EX := .bf .list (.cons (.var 7) .nil)
def l0__law_refused : STs := .cons (.expr (.call 2 (.cons (.ix (.var 4) (.con (.int 0))) (.cons (.ix (.var 4) (.con (.int 1))) (.cons (.ix (.var 4) (.con (.int 2))) .nil))))) .nil
def b__law_refused : STs := .cons (.asg (.name 4) (.lst (.cons (.bf .list (.cons (.var 0) .nil)) (.cons (.bf .list (.cons (.var 1) .nil)) (.cons (.lc c0__law_refused [7] [7] (.seq (.var 2)) .nil) .nil))))) (.cons (.asg (.name 5) (.con (.bl false))) (.cons (.tryS l0__law_refused (.cons (some 0) (some 6) (.cons (.asg (.name 5) (.andE (.isi (.var 6) [(.exc 13)] false) (.andE (.isi (.var 6) [.verr] false) (.cmp .eq (.call 12 (.cons (.var 6) .nil)) (.con (.int 1)))))) (.cons (.asg (.name 5) (.andE (.var 5) (.andE (.call 17 (.cons (.xfld (.var 6) 0) .nil)) (.cmp .eq (.xfld (.var 6) 0) (.var 3))))) .nil)) .nil) .nil) (.cons (.ret (.andE (.var 5) (.cmp .eq (.var 4) (.lst (.cons (.var 0) (.cons (.var 1) (.cons (.var 2) .nil))))))) .nil)))
def d__law_refused : FD := ⟨("_law_refused", none), "_law_refused", top 30, ["_law_rooms", "_law_held", "_law_wants", "_law_due", "_law_handed", "_law_good", "_law_e", "_law_need_here"], 4, b__law_refused, false⟩
def l0__law_rising : STs := .cons (.ifS (.orE (.notE (.call 5 (.cons (.var 3) .nil))) (.orE (.cmp .le (.var 3) (.var 2)) (.cmp .ge (.var 3) (.var 1)))) (.cons (.ret (.con (.bl false))) .nil) .nil) (.cons (.asg (.name 2) (.var 3)) .nil)
def b__law_rising : STs := .cons (.ifS (.notE (.isi (.var 0) [.list] false)) (.cons (.ret (.con (.bl false))) .nil) .nil) (.cons (.asg (.name 2) (.neg (.con (.int 1)))) (.cons (.forS [3] (.seq (.var 0)) l0__law_rising) (.cons (.ret (.con (.bl true))) .nil)))
def d__law_rising : FD := ⟨("_law_rising", none), "_law_rising", top 31, ["_law_ways", "_law_most", "_law_ahead", "_law_place"], 2, b__law_rising, false⟩
def l0__law_never_dry : STs := .cons (.ifS (.cmp .lt (.ix (.var 4) (.var 6)) (.var 7)) (.cons (.ret (.con (.bl false))) .nil) .nil) (.cons (.asg (.sub (.var 4) (.var 6)) (.bin .sub (.ix (.var 4) (.var 6)) (.var 7))) .nil)
def l1__law_never_dry : STs := .cons (.ifS (.cmp .isin (.var 5) (.var 3)) (.cons (.asg (.name 4) (.bf .list (.cons (.var 0) .nil))) .nil) .nil) (.cons (.forS [6, 7] (.seq (.ix (.var 2) (.var 5))) l0__law_never_dry) .nil)
def b__law_never_dry : STs := .cons (.asg (.name 4) (.bf .list (.cons (.var 1) .nil))) (.cons (.forS [5] (.rng1 (.bf .len (.cons (.var 2) .nil))) l1__law_never_dry) (.cons (.ret (.con (.bl true))) .nil))
def d__law_never_dry : FD := ⟨("_law_never_dry", none), "_law_never_dry", top 32, ["_law_rooms", "_law_held", "_law_wants", "_law_ways", "_law_left", "_law_place", "_law_tray", "_law_many"], 4, b__law_never_dry, false⟩
def c0_law : EX := .call 6 (.cons (.var 0) (.cons (.bin .add (.con (.int 10)) (.bin .mul (.con (.int 3)) (.var 7))) .nil))
def c1_law : EX := .call 7 (.cons (.var 0) (.cons (.bin .add (.con (.int 30)) (.bin .mul (.con (.int 4)) (.var 7))) (.cons (.ix (.var 1) (.var 7)) .nil)))
def c2_law : EX := .bf .list (.cons (.var 8) .nil)
def b_law : STs := .cons (.asg (.name 1) (.lc c0_law [7] [7] (.rng1 (.bin .add (.con (.int 1)) (.call 3 (.cons (.var 0) (.cons (.con (.int 0)) (.cons (.con (.int 4)) .nil)))))) .nil)) (.cons (.asg (.name 2) (.lc c1_law [7] [7] (.rng1 (.bf .len (.cons (.var 1) .nil))) .nil)) (.cons (.asg (.name 3) (.call 9 (.cons (.var 0) (.cons (.var 1) .nil)))) (.cons (.asg (.name 4) (.call 10 (.cons (.var 0) (.cons (.var 1) (.cons (.var 3) .nil))))) (.cons (.asg (.name 5) (.call 11 (.cons (.var 1) (.cons (.var 4) .nil)))) (.cons (.ifS (.notE (.call 13 (.cons (.var 1) (.cons (.var 2) (.cons (.var 4) (.cons (.var 5) .nil)))))) (.cons (.ret (.con (.bl false))) .nil) .nil) (.cons (.asg (.name 6) (.call 2 (.cons (.bf .list (.cons (.var 1) .nil)) (.cons (.bf .list (.cons (.var 2) .nil)) (.cons (.lc c2_law [8] [8] (.seq (.var 3)) .nil) .nil))))) (.cons (.ifS (.orE (.notE (.isi (.var 6) [.tuple] false)) (.notE (.call 14 (.cons (.ix (.var 6) (.con (.int 0))) (.cons (.bf .len (.cons (.var 3) .nil)) .nil))))) (.cons (.ret (.con (.bl false))) .nil) .nil) (.cons (.ret (.andE (.call 15 (.cons (.var 1) (.cons (.var 2) (.cons (.var 3) (.cons (.ix (.var 6) (.con (.int 0))) .nil))))) (.call 13 (.cons (.var 1) (.cons (.var 2) (.cons (.var 4) (.cons (.var 5) .nil))))))) .nil))))))))
def d_law : FD := ⟨("law", none), "law", top 33, ["_law_script", "_law_rooms", "_law_held", "_law_wants", "_law_bad", "_law_due", "_law_found", "_law_k", "_law_need_here"], 1, b_law, false⟩
def b__law_whole_h : STs := .cons (.ret (.andE (.isi (.var 0) [.int] false) (.notE (.isi (.var 0) [.bool] false)))) .nil
def d__law_whole_h : FD := ⟨("_law_whole", none), "_law_whole", top 22, ["_law_found"], 1, b__law_whole_h, true⟩
def x_BadLine : FD := ⟨("BadLine", some "__init__"), "BadLine.__init__", cbody (top 2) 0, ["self", "place"], 2, .nil, false⟩
def x_Unknown : FD := ⟨("Unknown", some "__init__"), "Unknown.__init__", cbody (top 3) 0, ["self", "name"], 2, .nil, false⟩
def x_Twice : FD := ⟨("Twice", some "__init__"), "Twice.__init__", cbody (top 4) 0, ["self", "name"], 2, .nil, false⟩
def x_NotNow : FD := ⟨("NotNow", some "__init__"), "NotNow.__init__", cbody (top 5) 0, ["self", "found"], 2, .nil, false⟩
def x_TooMuch : FD := ⟨("TooMuch", some "__init__"), "TooMuch.__init__", cbody (top 6) 0, ["self", "name"], 2, .nil, false⟩
def x_Dry : FD := ⟨("Dry", some "__init__"), "Dry.__init__", cbody (top 7) 0, ["self", "name"], 2, .nil, false⟩
def x_Over : FD := ⟨("Over", some "__init__"), "Over.__init__", cbody (top 8) 0, ["self", "job"], 2, .nil, false⟩
def x_Nowhere : FD := ⟨("Nowhere", some "__init__"), "Nowhere.__init__", cbody (top 9) 0, ["self", "job"], 2, .nil, false⟩
def x_Busy : FD := ⟨("Busy", some "__init__"), "Busy.__init__", cbody (top 10) 0, ["self", "job"], 2, .nil, false⟩
def x_NoHeap : FD := ⟨("NoHeap", some "__init__"), "NoHeap.__init__", cbody (top 11) 0, ["self", "place"], 2, .nil, false⟩
def x_NoPrinter : FD := ⟨("NoPrinter", some "__init__"), "NoPrinter.__init__", cbody (top 12) 0, ["self", "job", "lacks"], 3, .nil, false⟩
def x_GoesRound : FD := ⟨("GoesRound", some "__init__"), "GoesRound.__init__", cbody (top 13) 0, ["self", "ring"], 2, .nil, false⟩
def x_NoWay : FD := ⟨("NoWay", some "__init__"), "NoWay.__init__", cbody (top 14) 0, ["self", "place"], 2, .nil, false⟩
def D : PD where
  fns := [d_look_at_needs, d_short_tray, d_walks, d__law_draw, d__law_great, d__law_whole, d__law_room, d__law_part, d__law_need, d__law_needs, d__law_spoilt, d__law_first_bad, d__law_others, d__law_refused, d__law_rising, d__law_never_dry, d_law, d__law_whole_h]
  cls := []
  mn := []
  an := ["place", "name", "found", "job", "lacks", "ring"]
  co := []
  bt := ["ValueError", "bool", "enumerate", "int", "isinstance", "len", "list", "range", "sum", "tuple"]
  sub := []
  cm := []
  exs := [⟨"HallError", [], [0], none⟩,
    ⟨"BadLine", ["place"], [1, 0], some (x_BadLine, "HallError")⟩,
    ⟨"Unknown", ["name"], [2, 0], some (x_Unknown, "HallError")⟩,
    ⟨"Twice", ["name"], [3, 0], some (x_Twice, "HallError")⟩,
    ⟨"NotNow", ["found"], [4, 0], some (x_NotNow, "HallError")⟩,
    ⟨"TooMuch", ["name"], [5, 0], some (x_TooMuch, "HallError")⟩,
    ⟨"Dry", ["name"], [6, 0], some (x_Dry, "HallError")⟩,
    ⟨"Over", ["job"], [7, 0], some (x_Over, "HallError")⟩,
    ⟨"Nowhere", ["job"], [8, 0], some (x_Nowhere, "HallError")⟩,
    ⟨"Busy", ["job"], [9, 0], some (x_Busy, "HallError")⟩,
    ⟨"NoHeap", ["place"], [10, 0], some (x_NoHeap, "HallError")⟩,
    ⟨"NoPrinter", ["job", "lacks"], [11, 0], some (x_NoPrinter, "HallError")⟩,
    ⟨"GoesRound", ["ring"], [12, 0], some (x_GoesRound, "HallError")⟩,
    ⟨"NoWay", ["place"], [13, 0], some (x_NoWay, "HallError")⟩]
end K66
namespace K66
open PySem PySem.Spec PyProof.Rows L2 PL
abbrev R : PySem.W.OpenRow := PySem.W.OpenLaw.row PySem.Challenge.rw_spoolhall_k66_no_way
abbrev hk : PySem.W.Hook := PL.hookP 6 D.all (D.defs.map FD.dd)
def ob (s : PySem.W.SharedT) : He.AlD := PL.obsPG 6 D.all (D.defs.map FD.dd) (HandSHeadRun.getT s)
def loose0 : List Str := ("HallError" :: "BadLine" :: "Unknown" :: "Twice" :: "NotNow" :: "TooMuch" :: "Dry" :: "Over" :: "Nowhere" :: "Busy" :: "NoHeap" :: "NoPrinter" :: "GoesRound" :: "NoWay" :: "look_at_needs" :: "short_tray" :: "walks" :: "_law_draw" :: "_law_great" :: "_law_whole" :: "_law_room" :: "_law_part" :: "_law_need" :: "_law_needs" :: "_law_spoilt" :: "_law_first_bad" :: "_law_others" :: "_law_refused" :: "_law_rising" :: "_law_never_dry" :: [])
def loose : List Str := loose0
theorem run (w : World) : HandSHeadRun.RunEq R (PySem.W.view R.prog [33]) hk ob 20000 loose w := by
  intro os
  kernel_rfl
end K66

set_option maxHeartbeats 4000000
/-! PL, part ho: sum([int(o) for o in x]) where an exception is handled. -/
namespace HoS
open PySem PySem.Spec PyProof.Rows L2 HotX
/-- the handled exception's object -/
def HO1 (x1 : Addr) (h : Heap) : Prop := ∃ (o : Obj) (vs : Array Value), h.get? x1 = some o ∧ o.data = .fields vs ∧ vs[2]? = some .none
section
variable {prog : Program} {w : World} {A : Around} {E : Value → Shared → Prop} {s : Shared}
theorem list_end_hot {it l x1 : Addr} {i : Nat} {items : Array Value} {Q : Option Value → Shared → Prop} (hh : A.handled = some (.ref x1)) (ho1 : HO1 x1 s.heap) (hne : x1 ≠ it)
    (hit : s.heap.IsListIter it l i) (hl : s.heap.IsList l items) (hx : items[i]? = none) (hQ : ∀ h', Heap.ExtBut it s.heap h' → Q none { s with heap := h' }) : wpAny (model prog w) A (pyNext (.ref it)) Q E s := by
  obtain ⟨o, ho, hc, hd⟩ := id hit
  obtain ⟨ol, hol, _, nl, hdl⟩ := hl
  obtain ⟨o1, vs1, g1, d1, c1⟩ := ho1
  unfold pyNext
  refine wpAny_bind (wpAny_attempt (wpAny_callSpecial?_slot (name := Str.ofString "__next__") hit.typeIs slot_listiter_next (wpAny_call_entry slot_listiter_next hit.typeIs entry_listiter_next ?_ (args_listiter_next _))))
  show wpAny _ _ (field (.ref it) 0 >>= _) _ _ s
  refine wpAny_bind (wpAny_field ho hd (x := .ref l) rfl ?_)
  show wpAny _ _ (if (Value.ref l == Value.none) = true then _ else _) _ _ s
  rw [if_neg (by exact Bool.false_ne_true)]
  show wpAny _ _ (field (.ref it) 1 >>= _) _ _ s
  refine wpAny_bind (wpAny_field ho hd (x := .int i 0) rfl ?_)
  show wpAny _ _ (seqItems? (.ref l) >>= _) _ _ s
  refine wpAny_bind (wpAny_seqItems hol hdl ?_)
  simp only [Int.toNat_natCast, hx]
  refine wpAny_bind (wpAny_rule (wpAny_bind (wpAny_setField ho hd (by simp) ?_)))
  show wpAny _ _ (newExc (.type "StopIteration") [] >>= _) _ _ _
  refine wpAny_bind ?_
  simp only [newExc, newTuple]
  refine wpAny_bind (wpAny_newObj_type ?_ (by size_fits))
  refine wpAny_bind (m := firstArgMember _ _) (wpAny_of_eq (a := Value.none) (by first | rfl | (simp only [firstArgMember]; rfl)) ?_)
  refine wpAny_newObj_type ?_ (by size_fits)
  first
  | refine raiseNew_hot (A := A.in1) ⟨hh, o1, vs1, Heap.get?_push_of_some _ (Heap.get?_push_of_some _ (by rw [Heap.get?_update_other _ _ (Ne.symm hne)]; exact g1)), d1, c1⟩ (Nat.ne_of_lt (Heap.lt_size (Heap.get?_push_of_some _ (by rw [Heap.get?_update_other _ _ (Ne.symm hne)]; exact g1)))) (Heap.get?_push_size _ rfl) rfl (by first | (simp; done) | (simp; omega) | (simp only [Array.size_append]; simp; omega)) ?_
  | skip
  refine wpAny_bind (wpAny_isInstance (T := "StopIteration") (b := true) ⟨_, Heap.get?_update_self _ (Heap.get?_push_size _ rfl) rfl, rfl⟩ isSubtype_stop ?_)
  refine wpAny_pure (hQ _ fun b ob hb e => ?_)
  have e2 := Heap.get?_push_of_some { cls := .type "tuple", data := .seq ([] : List Value).toArray } ((Heap.get?_update_other s.heap (Obj.mapFields (·.setIfInBounds 0 .none)) (Ne.symm hb)).trans e)
  refine (Heap.get?_update_other _ _ (Nat.ne_of_gt (Heap.lt_size e2))).trans (Heap.get?_push_of_some _ e2)
/-- the walk of a list there -/
theorem walks_hot {x1 I ax : Addr} (hh : A.handled = some (.ref x1)) (hne : ax ≠ I) (hx : x1 ≠ I) (items : Array Value) :
    Walks prog w A I [I, ax, x1] [I] items.size (fun i v => items[i]? = some v) (fun i h => h.IsListIter I ax i ∧ h.IsList ax items ∧ HO1 x1 h) where
  sub := fun b hb => by simp at hb; simp [hb]
  frame := fun _ _ _ st hk => ⟨st.1.at fun o e => hk I (by simp) o e, st.2.1.at fun o e => hk ax (by simp) o e, by
    obtain ⟨o, vs, e, r⟩ := st.2.2
    exact ⟨o, vs, hk x1 (by simp) o e, r⟩⟩
  item := fun i s Q E hi st q => by
    refine wpAny_pyNext_list_item st.1 st.2.1 (x := items[i]) (by simp [hi]) fun h' it' sb => ?_
    refine q _ h' s.toks (by simp [hi]) ⟨it', st.2.1.extBut sb.extBut hne, ?_⟩ fun b o hb e => sb.extBut b o (fun h => hb (by simp [h])) e
    obtain ⟨o, vs, e, r⟩ := st.2.2
    exact ⟨o, vs, sb.extBut x1 o hx e, r⟩
  done := fun s Q E st q => list_end_hot hh st.2.2 hx st.1 st.2.1 (by simp) fun h' he => q h' s.toks fun b o hb e => he b o (fun h => hb (by simp [h])) e
  self := fun _ _ _ _ st q => wpAny_pyIter_listiter st.1 q
/-- a list's iterator there -/
theorem iter_hot {l x1 : Addr} {items : Array Value} {Q : Value → Shared → Prop} (hl : s.heap.IsList l items) (ho : HO1 x1 s.heap)
    (h : ∀ s2 : Shared, s2 = { s with heap := s.heap.push { cls := .type "list_iterator", data := .fields #[.ref l, .int 0 0] } } →
      (s2.heap.IsListIter s.heap.objs.size l 0 ∧ s2.heap.IsList l items ∧ HO1 x1 s2.heap) → (∀ b ∈ [s.heap.objs.size, l, x1], b < s2.heap.objs.size) → l ≠ s.heap.objs.size → x1 ≠ s.heap.objs.size → Q (.ref s.heap.objs.size) s2) :
    wpAny (model prog w) A (pyIter (.ref l)) Q E s := by
  obtain ⟨o1, vs1, g1, d1, c1⟩ := ho
  have hlt : l < s.heap.objs.size := by obtain ⟨_, e, _⟩ := hl; exact Heap.lt_size e
  have hx := Heap.lt_size g1
  refine wpAny_pyIter_list hl (h _ rfl ⟨⟨_, Heap.get?_push_size _ rfl, rfl, rfl⟩, hl.push _, ⟨o1, vs1, Heap.get?_push_of_some _ g1, d1, c1⟩⟩ (fun b hb => ?_) (Nat.ne_of_lt hlt) (Nat.ne_of_lt hx))
  show b < (s.heap.push _).objs.size
  rw [Heap.size_push]
  simp only [List.mem_cons, List.not_mem_nil, or_false] at hb
  rcases hb with e | e | e
  · rw [e]; exact Nat.lt_succ_self _
  · rw [e]; exact Nat.lt_succ_of_lt hlt
  · rw [e]; exact Nat.lt_succ_of_lt hx
theorem old_hot {h' : Heap} {l : Addr} (hk : ∀ b o, b ∉ [s.heap.objs.size] → (s.heap.push { cls := .type "list_iterator", data := .fields #[.ref l, .int 0 0] }).get? b = some o → h'.get? b = some o) : ∀ b o, s.heap.get? b = some o → h'.get? b = some o := fun b o e =>
  hk b o (fun hm => by
    have z : b = s.heap.objs.size := by simpa using hm
    exact absurd (z ▸ Heap.lt_size e) (Nat.lt_irrefl _)) (Heap.get?_push_of_some _ e)
/-- sum of a list of ints there -/
theorem sum_hot {l x1 : Addr} {xs : Array (Int × Tok)} {Q : Value → Shared → Prop} (hh : A.handled = some (.ref x1)) (ho : HO1 x1 s.heap) (hl : s.heap.IsList l (intItems xs))
    (h : ∀ h' tk t', (∀ b o, s.heap.get? b = some o → h'.get? b = some o) → Q (.int (preSum (numAt xs) xs.size) t') { s with heap := h', toks := tk }) :
    wpAny (model prog w) A (call (.builtin "sum") [.ref l]) Q E s := by
  refine call_sum_walkG (iter_hot hl ho fun s2 e st hfp h1 h2 => ?_)
  subst e
  refine ⟨_, _, _, _, _, _, numAt xs, rfl, walks_hot (A := A.in1) hh h1 h2 (intItems xs), st, hfp, (fun _ _ => intItems_at), fun h' tk t' hk => ?_⟩
  have := h h' tk t' (old_hot hk)
  simpa [intItems] using this
theorem sum_rawH {l x1 : Addr} {its : List Value} {ns : List Int} {Q : Value → Shared → Prop} (hh : A.handled = some (.ref x1)) (ho : HO1 x1 s.heap) (hl : s.heap.IsList l its.toArray) (hi : IntsAre its ns)
    (h : ∀ h' tk t', (∀ b o, s.heap.get? b = some o → h'.get? b = some o) → Q (.int ns.sum t') { s with heap := h', toks := tk }) : wpAny (model prog w) A (call (.builtin "sum") [.ref l]) Q E s := by
  obtain ⟨xs, e⟩ := hi.allInts.items
  have hn : numsOf (intItems xs).toList = ns := by rw [← e]; exact hi.numsOf
  rw [nums_intItems] at hn
  rw [e] at hl
  refine sum_hot hh ho hl fun h' tk t' hk => ?_
  have := h h' tk t' hk
  rw [preSum_eq, List.take_of_length_le (by simp), hn]; exact this
end
theorem bools_of : ∀ {bs : List Bool} {us : List Value}, Vals (bs.map V.bl) us → us = bs.map Value.bool
  | [], _, r => by cases r; rfl
  | b :: bs, us, r => by
    cases r with
    | cons r t => rw [bools_of t, show _ = Value.bool b from r]; rfl
def i01 (b : Bool) : Int := if b then 1 else 0
theorem ints_of : ∀ {bs : List Bool} {ys : List Value}, Paired (fun v y => ∃ b t, v = Value.bool b ∧ y = Value.int (i01 b) t) (bs.map Value.bool) ys → IntsAre ys (bs.map i01)
  | [], _, r => by cases r; exact .nil
  | b :: bs, ys, r => by
    cases r with
    | cons h t =>
      obtain ⟨b', t', e, rfl⟩ := h
      cases e
      exact .cons _ _ (ints_of t)
theorem sum_i01 : ∀ bs : List Bool, (bs.map i01).sum = ((bs.count true : Nat) : Int)
  | [] => rfl
  | true :: bs => by rw [List.map_cons, List.sum_cons, sum_i01 bs, List.count_cons_self]; show (1 : Int) + _ = _; omega
  | false :: bs => by rw [List.map_cons, List.sum_cons, sum_i01 bs, List.count_cons_of_ne (by decide)]; show (0 : Int) + _ = _; omega
/-- the block's names -/
structure BlkH (sc : Scope) (o : Str) : Prop where
  nofree : ∀ y ∈ sc.names, y.2 ≠ .free
  nocell : ∀ y ∈ sc.names, y.2 ≠ .cell
  kind : sc.kind = .function
  names : ∀ y ∈ sc.names, y.2 = .local → sc.names.lookup y.1 = some .local
  loc : sc.names.lookup o = some .local
  int : sc.names.lookup ("int" : Str) = some .globalImplicit
  od : (o == ("__debug__" : Str)) = false
theorem pe_hsum {X : Cx} {itx : Expr} {te : TE} {o : Str} {sc : Scope} {x1 : Addr} {p p2 p3 p4 p5 p6 p7 : Pos} (hh : X.A.handled = some (.ref x1)) (he : PE X itx te) (hgs : Gl X "sum") (hms : X.mg "sum" = none) (hmi : X.mg "int" = none) (B : BlkH sc o) (hs : ∀ v, foldedSetIterable itx X.env v = pure v) :
    PE X (.Call (.Name "sum" p) [.ListComp (.Call (.Name "int" p2) [.Name o p3] [] p4) [⟨.Name o p5, itx, [], 0⟩] sc p6] [] p7)
      (fun σ H Q => te σ H fun v H1 => ∃ (l : Addr) (bs : List Bool), v = .ref l ∧ SqL X.K H1 l (bs.map V.bl) ∧ (∃ c d, H1 x1 = some (PL.exH x1 c d)) ∧ Q (.int ((bs.count true : Nat) : Int)) H1) := by
  refine ⟨fun pins s σ H Q I h => ?_⟩
  refine Call_ (ld_blt I hgs hms rfl ?_)
  refine PyProof.Rows.callWith_builtin1 (Calls.spliced_cons (wpAny_ListComp_walk (prog := X.prog) (w := X.w) (fun _ => true) (fun v y => ∃ b t, v = Value.bool b ∧ y = Value.int (i01 b) t) B.nofree B.nocell B.kind B.names B.loc
    (thn (he.run pins s σ H _ I h) fun u s1 ⟨v, H1, I1, r1, l, bs, e, hl, ⟨c, d, hx⟩, q⟩ => ?_) hs)) rfl rfl
  subst e
  obtain rfl : u = Value.ref l := r1
  obtain ⟨its, rv, pl, hz⟩ := I1.list hl
  obtain rfl := bools_of rv
  have ho : HO1 x1 s1.heap := by
    obtain ⟨⟨o1, vs1, g1, z1, d1⟩, _⟩ := I1.hok x1 _ hx
    obtain ⟨hsz, e2⟩ := Array.getElem?_eq_some_iff.mp (z1.2.2 vs1 d1)
    exact ⟨o1, vs1, g1, d1, z1.2.2 vs1 d1⟩
  refine iter_hot pl.isList ho fun s2 e st hfp h1 h2 => ?_
  subst e
  refine ⟨_, _, _, _, _, _, rfl, walks_hot hh h1 h2 _, ?_, st, hfp, ?_, ?_⟩
  · have : (bs.map V.bl).length ≤ sizeLine := hz
    simpa using this
  · refine ⟨fun C i v s3 m3 E' hv hn hm hk ht => ?_, fun C i v s3 m3 E' hv _ hn hm hk ht => ?_⟩
    · simp only [List.forIn_nil]
      exact wpAny_pure ⟨rfl, s3.heap, s3.toks, rfl, fun _ _ e => e⟩
    · have hv' : ∃ b, v = Value.bool b := by
        have q := Array.getElem?_eq_some_iff.mp hv
        obtain ⟨hi, e⟩ := q
        simp at e
        exact ⟨_, e.symm⟩
      obtain ⟨b, rfl⟩ := hv'
      obtain ⟨mb, g1, g2⟩ := I1.mod.blt
      have keep3 : ∀ a o, X.base.get? a = some o → s3.heap.get? a = some o := fun a o e => by
        have e1 := I1.bk a o e
        refine hk a o (fun hm => ?_) (Heap.get?_push_of_some _ e1)
        have z : a = s1.heap.objs.size := by simpa using hm
        exact absurd (z ▸ Heap.lt_size e1) (Nat.lt_irrefl _)
      refine Call_ (Calls.Name_function_global (env := compEnv sc C X.env) B.kind B.int (Calls.loadGlobal_builtin (by show s3.heap.Ns X.env.globals X.mg; rw [I.ok.glob]; exact I1.mod.glob.keeps keep3) hmi (by show s3.heap.Ns X.env.builtins mb; rw [I.ok.blt]; exact g1.keeps keep3) ((g2 "int" (by decide)).trans PySem.Pv.boot_int) ?_))
      refine PyProof.Rows.callWith_type1 (Calls.spliced_cons (wpAny_Name (wpAny_loadName_local B.kind B.loc hn hm (Calls.spliced_nil (call_int_bool ?_))) B.od)) rfl rfl
      exact ⟨⟨b, _, rfl, rfl⟩, s3.heap, _, rfl, fun _ _ e => e⟩
  · intro D h' tk ys vs hD hl' _ hlen hP hF hk
    have hvs : vs = bs.map Value.bool := by
      refine List.ext_getElem? fun j => ?_
      cases e : vs[j]? with
      | none =>
        have h1 := List.getElem?_eq_none_iff.mp e
        rw [hlen] at h1
        symm
        exact List.getElem?_eq_none_iff.mpr (by simpa using h1)
      | some v =>
        have := hP j v e
        simpa using this.symm
    rw [hvs, List.filter_eq_self.mpr (fun _ _ => rfl)] at hF
    have old : ∀ b ob, s1.heap.get? b = some ob → h'.get? b = some ob := old_hot hk
    have I2 : Inv X pins σ H1 { s1 with heap := h', toks := tk } := I1.kept old
    obtain ⟨o1, vs1, g1, d1, c1⟩ := ho
    refine Calls.spliced_nil (sum_rawH (x1 := x1) hh ⟨o1, vs1, old _ _ g1, d1, c1⟩ (by simpa using hl') (ints_of hF) fun h'' tk' t' hk' => ?_)
    rw [sum_i01]
    exact ⟨.int _, H1, I2.kept hk', ⟨_, rfl⟩, q⟩
/-! ### repr -/
mutual
theorem dp_nd {K : PySem.W.Frag} {H : Hp} : ∀ {d : PyData} {v : V}, Dp K H v d → d.hasDict = false
  | .none, _, _ => by simp [PyData.hasDict]
  | .bool _, _, _ => by simp [PyData.hasDict]
  | .int _, _, _ => by simp [PyData.hasDict]
  | .str _, _, _ => by simp [PyData.hasDict]
  | .list ds, _, h => by
    cases h with
    | lst _ ha => simpa [PyData.hasDict] using dps_nd ha
  | .tuple ds, _, h => by
    cases h with
    | tup _ ha => simpa [PyData.hasDict] using dps_nd ha
  | .dict _, _, h => by cases h
theorem dps_nd {K : PySem.W.Frag} {H : Hp} : ∀ {ds : List PyData} {vs : List V}, DpAll K H vs ds → PyData.hasDictAll ds = false
  | [], _, _ => by simp [PyData.hasDictAll]
  | d :: ds, _, h => by
    cases h with
    | cons h1 h2 => simp [PyData.hasDictAll, dp_nd h1, dps_nd h2]
end
theorem pe_repr {X : Cx} {e : Expr} {te : TE} {p pos : Pos} (hgd : X.A.guards = some []) (hu : X.A.units + 65 < cLine) (hg : Gl X "repr") (hm : X.mg "repr" = none) (he : PE X e te) (hs : starEach [e] X.env = (false, eval e X.env) :: starEach [] X.env) :
    PE X (.Call (.Name "repr" p) [e] [] pos) (fun σ H Q => te σ H fun v H1 => ∃ (a : Addr) (d : PyData), v = .ref a ∧ Dp X.K H1 v d ∧ d.depth ≤ 32 ∧ d.showable = true ∧ d.shown.length ≤ sizeLine ∧ Q (.str d.shown) H1) := by
  refine ⟨fun pins s σ H Q I h => ?_⟩
  refine Call_ (ld_blt I hg hm rfl (PyProof.Rows.callWith_builtin1 (thn ((pa_cons he pa_nil hs).run pos pins s σ H (fun vs H1 => match vs with | [v] => ∃ (a : Addr) (d : PyData), v = .ref a ∧ Dp X.K H1 v d ∧ d.depth ≤ 32 ∧ d.showable = true ∧ d.shown.length ≤ sizeLine ∧ Q (.str d.shown) H1 | _ => False) I h) fun us s1 ⟨vs, H1, I1, r1, z⟩ => ?_) hs rfl))
  match vs, z with
  | [v], ⟨a, d, e, dp, hd, hsh, hsz, q⟩ =>
    subst e
    rw [Vals.ref1 r1]
    obtain ⟨as, r⟩ := Dp.reads I1 d _ _ dp rfl
    refine repr_of_reads' r hsh (by rw [dp_nd dp]; nofun) hgd (by omega) (fun _ _ e => e) (fun h' u tk hk => ?_) hsz
    exact ⟨.str _, H1, I1.kept hk, ⟨_, rfl⟩, q⟩
end HoS

set_option maxHeartbeats 4000000
/-! PL, part c: the operations over the hand layer. -/
namespace PL
open PySem PySem.Spec PyProof.Rows L2

theorem OpR.weak {X : Cx} {f : Value → Value → Sem Value} {r r' : R2} (h : OpR X f r) (i : ∀ x y H Q, r' x y H Q → r x y H Q) : OpR X f r' := fun pins s σ H x y v u Q I rx ry q => h pins s σ H x y v u Q I rx ry (i x y H Q q)
theorem CallR.weak {X : Cx} {f : Value} {r r' : List V → Hp → VK → Prop} (h : CallR X f r) (i : ∀ x H Q, r' x H Q → r x H Q) : CallR X f r' := fun pins s σ H x u Q I rx q => h pins s σ H x u Q I rx (i x H Q q)
theorem MtR.weak {X : Cx} {f : String} {r r' : V → List V → Hp → VK → Prop} (h : MtR X f r) (i : ∀ x xs H Q, r' x xs H Q → r x xs H Q) : MtR X f r' := fun pins s σ H x xs v us Q I rx ry q => h pins s σ H x xs v us Q I rx ry (i x xs H Q q)
theorem IxR.weak {X : Cx} {r r' : R2} (h : IxR X r) (i : ∀ x y H Q, r' x y H Q → r x y H Q) : IxR X r' := fun a b pins s σ H x y v u Q I rx ry q e => h a b pins s σ H x y v u Q I rx ry (i x y H Q q) e
theorem SlR.weak {X : Cx} {r r' : V → Option Int → Option Int → Hp → VK → Prop} (h : SlR X r) (i : ∀ x lo hi H Q, r' x lo hi H Q → r x lo hi H Q) : SlR X r' := fun pins s σ H x v vl vu lo hi sl Q I rx a b c q => h pins s σ H x v vl vu lo hi sl Q I rx a b c (i x lo hi H Q q)
theorem PE.weak {X : Cx} {e : Expr} {t t' : TE} (h : PE X e t) (i : ∀ σ H Q, t' σ H Q → t σ H Q) : PE X e t' := ⟨fun pins s σ H Q I q => h.run pins s σ H Q I (i σ H Q q)⟩
theorem PT.weak {X : Cx} {e : Expr} {t t' : TT} (h : PT X e t) (i : ∀ σ H Q, t' σ H Q → t σ H Q) : PT X e t' := ⟨fun pins s σ H Q I q => h.run pins s σ H Q I (i σ H Q q)⟩
theorem PW.weak {X : Cx} {e : Expr} {t t' : TT} (h : PW X e t) (i : ∀ σ H Q, t' σ H Q → t σ H Q) : PW X e t' := ⟨fun wh pins s σ H Q I q => h.run wh pins s σ H Q I (i σ H Q q)⟩
theorem PA.weak {X : Cx} {e : List Expr} {t t' : TA} (h : PA X e t) (i : ∀ σ H Q, t' σ H Q → t σ H Q) : PA X e t' := ⟨fun p pins s σ H Q I q => h.run p pins s σ H Q I (i σ H Q q)⟩
theorem PS.weak {X : Cx} {e : Stmt} {t t' : TS} (h : PS X e t) (i : ∀ D σ H, t' D σ H → t D σ H) : PS X e t' := ⟨fun pins s σ H D I q => h.run pins s σ H D I (i D σ H q)⟩
theorem PSs.weak {X : Cx} {e : List Stmt} {t t' : TS} (h : PSs X e t) (i : ∀ D σ H, t' D σ H → t D σ H) : PSs X e t' := ⟨fun pins s σ H D I q => h.run pins s σ H D I (i D σ H q)⟩
theorem PI.weak {X : Cx} {tg e : Expr} {t t' : TI} (h : PI X tg e t) (i : ∀ σ H Q, t' σ H Q → t σ H Q) : PI X tg e t' := ⟨fun pins s σ H Q I q => h.run pins s σ H Q I (i σ H Q q)⟩
theorem PO.weak {X : Cx} {e : Option Expr} {t t' : TO} (h : PO X e t) (i : ∀ σ H Q, t' σ H Q → t σ H Q) : PO X e t' := ⟨fun pins s σ H Q I q => h.run pins s σ H Q I (i σ H Q q)⟩

/-- what is wanted behind, abstractly and over the hand layer -/
def QL (G : GK) (H : Hp) (Qa : AQ) (Q : VK) : Prop := ∀ d h v H', HX H H' → HRel G H' h → DRel G.K H' d v → Qa d h → Q v H'
theorem QL.mono {G : GK} {H H1 : Hp} {Qa : AQ} {Q : VK} (q : QL G H Qa Q) (x : HX H H1) : QL G H1 Qa Q := fun d h v H' y => q d h v H' (x.trans y)
theorem new_ok {G : GK} {H : Hp} {h : AH} {o : AO} {u : HO} {Qa : AQ} {Q : VK} (hr : HRel G H h) (q : newO o h Qa) (ql : QL G H Qa Q) (new : ∀ p, H p = none → ORel G (upd H p u) p o) :
    ∀ p, H p = none → Q (.ref p) (upd H p u) := fun p n => ql (.ref p) _ (.ref p) _ (HX.new n) (hr.new n (new p n)) rfl (q p (hr.free n))
def LO2 (G : GK) (r : DV → DV → AH → AQ → Prop) : R2 := fun x y H Q => ∃ d e h Qa, DRel G.K H d x ∧ DRel G.K H e y ∧ HRel G H h ∧ r d e h Qa ∧ QL G H Qa Q
def LOC (G : GK) (r : List DV → AH → AQ → Prop) : List V → Hp → VK → Prop := fun xs H Q => ∃ ds h Qa, DRels G.K H ds xs ∧ HRel G H h ∧ r ds h Qa ∧ QL G H Qa Q
def LOM (G : GK) (r : DV → List DV → AH → AQ → Prop) : V → List V → Hp → VK → Prop := fun x xs H Q => ∃ d ds h Qa, DRel G.K H d x ∧ DRels G.K H ds xs ∧ HRel G H h ∧ r d ds h Qa ∧ QL G H Qa Q
section
variable {G : GK} {H : Hp} {h : AH} {a : Addr}
theorem lst_of (hr : HRel G H h) {xs : List DV} (e : h a = some (.lst xs)) : ∃ vs, H a = some (.lst vs) ∧ DRels G.K H xs vs := hr a _ e
theorem seq_of (hr : HRel G H h) {xs : List DV} (e : rdL h a = some xs) : ∃ vs, SqL G.K H a vs ∧ DRels G.K H xs vs := by
  unfold rdL at e
  split at e
  · rename_i ys q
    cases e
    obtain ⟨vs, e1, e2⟩ := hr a _ q
    exact ⟨vs, SqL.of e1, e2⟩
  · rename_i ys q
    cases e
    obtain ⟨o, vs, e1, e2⟩ := hr a _ q
    exact ⟨vs, .inl (.inr ⟨o, e1⟩), e2⟩
  · cases e
theorem rdD_of (hr : HRel G H h) {xs : List (DV × DV)} (e : rdD h a = some xs) : ∃ q, Rd H a (.dK q) ∧ KRel G.K H xs q := by
  unfold rdD at e
  split at e
  · rename_i ys q
    cases e
    obtain ⟨q, e1, e2⟩ := hr a _ q
    exact ⟨q, .inl e1, e2⟩
  · rename_i ys o q0 q
    cases e
    obtain ⟨e1, e2⟩ := hr a _ q
    exact ⟨q0, .inr ⟨o, e1⟩, e2⟩
  · cases e
/-! ### data -/
theorem allO_cons {α : Type} {x : Option α} {r : List (Option α)} {ys : List α} (h : allO (x :: r) = some ys) : ∃ y q, x = some y ∧ allO r = some q ∧ ys = y :: q := by
  cases x with
  | none => simp [allO] at h
  | some y =>
    simp only [allO] at h
    cases e : allO r with
    | none => rw [e] at h; cases h
    | some q => rw [e] at h; cases h; exact ⟨y, q, rfl, rfl, rfl⟩
theorem strOkL (x : List Nat) : PyData.strOk ⟨x.toArray⟩ = true ↔ tOk x := by
  simp [PyData.strOk, tOk]
theorem leaf_dp {d : DV} {v : V} {p : PyData} (r : DRel G.K H d v) (e : leafP d = some p) : Dp G.K H v p ∧ p.canLay0 = true ∧ p.depth = 0 := by
  cases d with
  | non => cases e; cases r; exact ⟨.non, by simp [PyData.canLay0], by simp [PyData.depth]⟩
  | bl b => cases e; cases r; exact ⟨.bl _, by simp [PyData.canLay0], by simp [PyData.depth]⟩
  | int b => cases e; cases r; exact ⟨.int _, by simp [PyData.canLay0], by simp [PyData.depth]⟩
  | str b =>
    cases e
    obtain ⟨rfl, ok⟩ := r
    exact ⟨.str _, by simpa [PyData.canLay0] using (strOkL b).mpr ok, by simp [PyData.depth]⟩
  | ref b => cases e
  | tup b => cases e
theorem dps_of {n : Nat} (ih : ∀ {d : DV} {v : V} {p : PyData}, DRel G.K H d v → py h n d = some p → Dp G.K H v p ∧ p.canLay0 = true ∧ p.depth ≤ n) :
    ∀ {ds : List DV} {vs : List V} {ps : List PyData}, DRels G.K H ds vs → allO (ds.map (py h n)) = some ps → DpAll G.K H vs ps ∧ PyData.canLayAll0 ps = true ∧ PyData.depthAll ps ≤ n
  | [], vs, ps, r, e => by
    cases r; cases e
    exact ⟨.nil, by simp [PyData.canLayAll0], by simp [PyData.depthAll]⟩
  | d :: ds, vs, ps, r, e => by
    obtain ⟨v, w, rfl, h1, h2⟩ := r
    obtain ⟨y, q, e1, e2, rfl⟩ := allO_cons e
    obtain ⟨a1, a2, a3⟩ := ih h1 e1
    obtain ⟨b1, b2, b3⟩ := dps_of ih h2 e2
    exact ⟨.cons a1 b1, by simp [PyData.canLayAll0, a2, b2], by simp only [PyData.depthAll]; omega⟩
theorem py_dp (hr : HRel G H h) : ∀ {n : Nat} {d : DV} {v : V} {p : PyData}, DRel G.K H d v → py h n d = some p → Dp G.K H v p ∧ p.canLay0 = true ∧ p.depth ≤ n
  | 0, d, v, p, r, e => by
    obtain ⟨a1, a2, a3⟩ := leaf_dp r (show leafP d = some p from e)
    exact ⟨a1, a2, by omega⟩
  | n + 1, d, v, p, r, e => by
    have lf : leafP d = some p → Dp G.K H v p ∧ p.canLay0 = true ∧ p.depth ≤ n + 1 := fun e => by
      obtain ⟨a1, a2, a3⟩ := leaf_dp r e
      exact ⟨a1, a2, by omega⟩
    cases d with
    | non => exact lf e
    | bl b => exact lf e
    | int b => exact lf e
    | str b => exact lf e
    | ref a =>
      cases r
      simp only [py] at e
      cases e1 : rdL h a with
      | none => rw [e1] at e; cases e
      | some xs =>
        rw [e1] at e
        simp only [Option.bind_some] at e
        cases e2 : allO (xs.map (py h n)) with
        | none => rw [e2] at e; cases e
        | some ps =>
          rw [e2] at e
          cases e
          obtain ⟨vs, s1, s2⟩ := seq_of hr e1
          obtain ⟨b1, b2, b3⟩ := dps_of (fun a b => py_dp hr a b) s2 e2
          exact ⟨.lst s1 b1, by simpa [PyData.canLay0] using b2, by simp only [PyData.depth]; omega⟩
    | tup ds =>
      obtain ⟨a, vs, rfl, s1, s2⟩ := r.tupT
      simp only [py] at e
      cases e2 : allO (ds.map (py h n)) with
      | none => rw [e2] at e; cases e
      | some ps =>
        rw [e2] at e
        cases e
        obtain ⟨b1, b2, b3⟩ := dps_of (fun a b => py_dp hr a b) s2 e2
        exact ⟨.tup s1 b1, by simpa [PyData.canLay0] using b2, by simp only [PyData.depth]; omega⟩
theorem shaped_of {p : PyData} (a : p.canLay0 = true) (b : p.depth ≤ 8) : SeqAt.shaped p = true := by
  unfold SeqAt.shaped
  simp [a]; omega
end
section
variable {X : Cx} {G : GK}
theorem op_add_ok (hG : G.K = X.K) : OpR X (binaryOp .Add) (LO2 G (xBin .add)) := by
  refine OpR.weak (OpR.or (OpR.or op_add op_add_str) (OpR.or op_cat op_catT)) ?_
  rintro x y H Q ⟨d, e, h, Qa, rd, re, hr, q, ql⟩
  cases d <;> cases e <;> try exact False.elim q
  · cases rd; cases re
    exact .inl (.inl ⟨_, _, rfl, rfl, ql (.int _) _ _ _ (HX.refl H) hr rfl q⟩)
  · obtain ⟨rfl, ok⟩ := rd
    obtain ⟨rfl, ok'⟩ := re
    rename_i a b
    obtain ⟨q1, q2⟩ := q
    refine .inl (.inr ⟨_, _, rfl, rfl, q1, ql (.str (a ++ b)) h _ H (HX.refl H) hr ⟨?_, fun c hc => (List.mem_append.mp hc).elim (ok c) (ok' c)⟩ q2⟩)
    show V.str ⟨a.toArray ++ b.toArray⟩ = _
    simp
  · cases rd; cases re
    rename_i a b
    obtain ⟨xs, ys, e1, e2, hz, qn⟩ := q
    obtain ⟨vs, h1, r1⟩ := lst_of hr e1
    obtain ⟨us, h2, r2⟩ := lst_of hr e2
    refine .inr (.inl ⟨a, b, vs, us, rfl, rfl, h1, h2, by rw [r1.length, r2.length]; exact hz, new_ok hr qn ql fun p n => ⟨_, upd_same, (r1.append r2).mono (HX.new n)⟩⟩)
  · rename_i a b
    obtain ⟨p, vs, rfl, s1, r1⟩ := rd.tupT
    obtain ⟨p', us, rfl, s2, r2⟩ := re.tupT
    obtain ⟨q0, q1, q2⟩ := q
    rw [hG] at s1 s2
    refine .inr (.inr ⟨p, p', vs, us, rfl, rfl, s1, s2, ?_, by rw [r1.length, r2.length]; exact q1, ?_, ?_⟩)
    · intro z; subst z
      have := r1.length
      exact q0 (List.length_eq_zero_iff.mp (by simpa using this.symm))
    · intro z; subst z
      have e : b = [] := List.length_eq_zero_iff.mp (by simpa using r2.length.symm)
      subst e
      rw [List.append_nil] at q2
      exact ql _ _ _ _ (HX.refl H) hr rd q2
    · intro _ p2 n
      exact ql (.tup (a ++ b)) h _ _ (HX.new n) (hr.updN n) ⟨p2, _, rfl, .inl upd_same, (r1.append r2).mono (HX.new n)⟩ q2
theorem op_sub_ok : OpR X (binaryOp .Sub) (LO2 G (xBin .sub)) := by
  refine OpR.weak op_sub ?_
  rintro x y H Q ⟨d, e, h, Qa, rd, re, hr, q, ql⟩
  cases d <;> cases e <;> try exact False.elim q
  cases rd; cases re
  exact ⟨_, _, rfl, rfl, ql (.int _) _ _ _ (HX.refl H) hr rfl q⟩
theorem op_mulI : OpR X (binaryOp .Mult) (rI IntMulOk fun i j => .int (i * j)) := opI fun _ _ _ _ _ _ _ hc q => mul_int q hc
theorem op_fdiv_ok : OpR X (binaryOp .FloorDiv) (LO2 G (xBin .fdiv)) := by
  refine OpR.weak op_fdiv ?_
  rintro x y H Q ⟨d, e, h, Qa, rd, re, hr, q, ql⟩
  cases d <;> cases e <;> try exact False.elim q
  cases rd; cases re
  exact ⟨_, _, rfl, rfl, ⟨q.1, q.2.1⟩, ql (.int _) _ _ _ (HX.refl H) hr rfl q.2.2⟩
theorem op_mod_ok : OpR X (binaryOp .Mod) (LO2 G (xBin .mod)) := by
  refine OpR.weak op_mod ?_
  rintro x y H Q ⟨d, e, h, Qa, rd, re, hr, q, ql⟩
  cases d <;> cases e <;> try exact False.elim q
  cases rd; cases re
  exact ⟨_, _, rfl, rfl, q.1, ql (.int _) _ _ _ (HX.refl H) hr rfl q.2⟩
theorem op_pow_ok : OpR X (binaryOp .Pow) (LO2 G (xBin .pow)) := by
  refine OpR.weak op_pow ?_
  rintro x y H Q ⟨d, e, h, Qa, rd, re, hr, q, ql⟩
  cases d <;> cases e <;> try exact False.elim q
  cases rd; cases re
  exact ⟨_, _, rfl, rfl, ⟨q.1, q.2.1, q.2.2.1⟩, ql (.int _) _ _ _ (HX.refl H) hr rfl q.2.2.2⟩
theorem tOk_rep {a : List Nat} (ok : tOk a) (k : Nat) : tOk (List.replicate k a).flatten := fun c hc => by
  obtain ⟨l, h1, h2⟩ := List.mem_flatten.mp hc
  rw [(List.mem_replicate.mp h1).2] at h2
  exact ok c h2
theorem DRels.rep {K : PySem.W.Frag} {H : Hp} {ds : List DV} {vs : List V} (h : DRels K H ds vs) : ∀ k : Nat, DRels K H (List.replicate k ds).flatten (List.replicate k vs).flatten
  | 0 => rfl
  | k + 1 => by
    simp only [List.replicate_succ, List.flatten_cons]
    exact h.append (DRels.rep h k)
theorem foldl_arr (x : List Nat) : ∀ (k : Nat) (acc : List Nat), (List.replicate k x.toArray).foldl (· ++ ·) acc.toArray = (acc ++ (List.replicate k x).flatten).toArray
  | 0, acc => by simp
  | k + 1, acc => by
    simp only [List.replicate_succ, List.foldl_cons, List.flatten_cons]
    rw [show acc.toArray ++ x.toArray = (acc ++ x).toArray by simp, foldl_arr x k]
    simp
theorem mul_txt (a : List Nat) (k : Int) : Txt.mul ⟨a.toArray⟩ k = ⟨((List.replicate k.toNat a).flatten).toArray⟩ := by
  unfold Txt.mul
  split
  · rename_i h
    rw [show k.toNat = 0 by omega]; rfl
  · rename_i h
    split
    · rename_i h2
      simp only [Bool.or_eq_true, beq_iff_eq] at h2
      rcases h2 with h2 | h2
      · subst h2; simp
      · have : a = [] := List.length_eq_zero_iff.mp (by simpa [Str.length] using h2)
        subst this
        simp
    · have := foldl_arr a k.toNat []
      simp only [List.nil_append] at this
      rw [← this]
theorem op_mulS : OpR X (binaryOp .Mult) (fun x y H Q => ∃ (a : List Nat) (k : Int), x = .str ⟨a.toArray⟩ ∧ y = .int k ∧ -(2 ^ 63) ≤ k ∧ k < 2 ^ 63 ∧ a.length * k.toNat ≤ sizeLine ∧ Q (.str ⟨((List.replicate k.toNat a).flatten).toArray⟩) H) := by
  intro pins s σ H x y v u Q I rx ry h
  obtain ⟨a, k, rfl, rfl, h1, h2, h3, q⟩ := h
  obtain ⟨t, rfl⟩ := rx
  obtain ⟨t', rfl⟩ := ry
  refine SB.mul ?_ fun t' k' => ⟨.str _, H, I.tok _, ⟨_, rfl⟩, by rw [mul_txt]; exact q⟩
  have hs : sizeLine = 16777216 := sizeLine_eq
  refine ⟨by simp only [Bool.or_eq_false_iff, decide_eq_false_iff_not]; omega, fun g1 g2 => ?_, fun g1 g2 => ?_⟩
  · simp only [Str.length, List.size_toArray]
    intro z
    have e : (2 ^ 63 - 1) / k < (a.length : Int) := z
    have e2 := (Int.ediv_lt_iff_lt_mul (by omega : 0 < k)).mp e
    have e3 : ((a.length * k.toNat : Nat) : Int) = (a.length : Int) * k := by
      rw [Int.natCast_mul, Int.toNat_of_nonneg (by omega)]
    omega
  · simp only [Str.length, List.size_toArray, Builtin.Str.tooLong]
    rw [decide_eq_false_iff_not]
    omega
theorem op_mul_ok : OpR X (binaryOp .Mult) (LO2 G (xBin .mul)) := by
  refine OpR.weak (OpR.or op_mulI (OpR.or op_rep op_mulS)) ?_
  rintro x y H Q ⟨d, e, h, Qa, rd, re, hr, q, ql⟩
  cases d <;> cases e <;> try exact False.elim q
  · cases rd; cases re
    exact .inl ⟨_, _, rfl, rfl, q.1, ql (.int _) _ _ _ (HX.refl H) hr rfl q.2⟩
  · obtain ⟨rfl, ok⟩ := rd
    cases re
    obtain ⟨q1, q2, q3, q4⟩ := q
    exact .inr (.inr ⟨_, _, rfl, rfl, q1, q2, q3, ql (.str _) _ _ _ (HX.refl H) hr ⟨rfl, tOk_rep ok _⟩ q4⟩)
  · cases rd; cases re
    rename_i a k
    obtain ⟨xs, e1, q1, q2, q3, qn⟩ := q
    obtain ⟨vs, h1, r1⟩ := lst_of hr e1
    exact .inr (.inl ⟨a, k, vs, rfl, rfl, h1, q1, q2, by rw [r1.length]; exact q3, new_ok hr qn ql fun p n => ⟨_, upd_same, (r1.rep _).mono (HX.new n)⟩⟩)
/-! ### comparisons -/
theorem arr_inj {a b : List Nat} : (⟨a.toArray⟩ : Str) = ⟨b.toArray⟩ ↔ a = b := by
  constructor
  · intro e
    have := congrArg Str.cps e
    simpa using congrArg Array.toList this
  · rintro rfl; rfl
theorem eqD_rel {H : Hp} {h : AH} {d e : DV} {x y : V} {b : Bool} (hr : HRel G H h) (rd : DRel G.K H d x) (re : DRel G.K H e y) (q : EqD h d e b) :
    ∃ p q, Dp G.K H x p ∧ Dp G.K H y q ∧ SeqAt.shaped p = true ∧ SeqAt.shaped q = true ∧ PyData.eqv p q = b := by
  obtain ⟨p, q, e1, e2, e3⟩ := q
  obtain ⟨a1, a2, a3⟩ := py_dp hr rd e1
  obtain ⟨b1, b2, b3⟩ := py_dp hr re e2
  exact ⟨p, q, a1, b1, shaped_of a2 a3, shaped_of b2 b3, e3⟩
theorem op_eq_ok (hG : G.K = X.K) (hu : X.A.units + 65 < cLine) : OpR X (compareOp .Eq) (LO2 G (xCmp .eq)) := by
  refine OpR.weak (OpR.or op_eq (op_eqD (by omega))) ?_
  rintro x y H Q ⟨d, e, h, Qa, rd, re, hr, q, ql⟩
  have gen : (∃ b, EqD h d e b ∧ Qa (.bl (false ^^ b)) h) → rEqD X.K x y H Q := fun ⟨b, q1, q2⟩ => by
    obtain ⟨p, r, d1, d2, s1, s2, e3⟩ := eqD_rel hr rd re q1
    rw [hG] at d1 d2
    refine ⟨p, r, d1, d2, s1, s2, ?_⟩
    rw [e3]
    exact ql (.bl b) _ _ _ (HX.refl H) hr rfl (by simpa using q2)
  cases d <;> cases e <;> try exact .inr (gen q)
  · cases rd; cases re
    refine .inl ⟨rfl, ql (.bl _) _ _ _ (HX.refl H) hr ?_ q⟩
    show V.bl _ = V.bl _
    simp
  · cases rd; cases re
    refine .inl ⟨rfl, ql (.bl _) _ _ _ (HX.refl H) hr ?_ q⟩
    show V.bl _ = V.bl _
    simp
  · obtain ⟨rfl, _⟩ := rd
    obtain ⟨rfl, _⟩ := re
    refine .inl ⟨rfl, ql (.bl _) _ _ _ (HX.refl H) hr ?_ q⟩
    show V.bl _ = V.bl _
    simp
theorem op_ne_ok (hG : G.K = X.K) (hu : X.A.units + 65 < cLine) : OpR X (compareOp .NotEq) (LO2 G (xCmp .ne)) := by
  refine OpR.weak (OpR.or op_ne (op_neD (by omega))) ?_
  rintro x y H Q ⟨d, e, h, Qa, rd, re, hr, q, ql⟩
  have gen : (∃ b, EqD h d e b ∧ Qa (.bl (true ^^ b)) h) → rNeD X.K x y H Q := fun ⟨b, q1, q2⟩ => by
    obtain ⟨p, r, d1, d2, s1, s2, e3⟩ := eqD_rel hr rd re q1
    rw [hG] at d1 d2
    refine ⟨p, r, d1, d2, s1, s2, ?_⟩
    rw [e3]
    exact ql (.bl (!b)) _ _ _ (HX.refl H) hr rfl (by simpa using q2)
  cases d <;> cases e <;> try exact .inr (gen q)
  · cases rd; cases re
    refine .inl ⟨rfl, ql (.bl _) _ _ _ (HX.refl H) hr ?_ q⟩
    show V.bl _ = V.bl _
    simp
  · cases rd; cases re
    refine .inl ⟨rfl, ql (.bl _) _ _ _ (HX.refl H) hr ?_ q⟩
    show V.bl _ = V.bl _
    simp
  · obtain ⟨rfl, _⟩ := rd
    obtain ⟨rfl, _⟩ := re
    refine .inl ⟨rfl, ql (.bl _) _ _ _ (HX.refl H) hr ?_ q⟩
    show V.bl _ = V.bl _
    simp
/-! ### tuples in order -/
def cmpV : V → V → Option Bool
  | .int i, .int j => some (decide (i < j))
  | .str i, .str j => some (decide (i.cps.toList < j.cps.toList))
  | _, _ => none
theorem cmpV_ok {A : Around} {s : Shared} {x y : V} {v u : Value} {b : Bool} (rx : RelV x v) (ry : RelV y u) (e : cmpV x y = some b) : SeqAt.EqAt A s v u (decide (x = y)) ∧ Ob.RcOp .Lt A s v u b := by
  cases x <;> cases y <;> try (cases e; done)
  · cases e
    obtain ⟨t, rfl⟩ := rx
    obtain ⟨t', rfl⟩ := ry
    refine ⟨?_, Ob.RcOp.lt_int _ _ _ _⟩
    rw [dec_int]
    exact SeqAt.EqAt.int_int _ _ _ _
  · cases e
    obtain ⟨t, rfl⟩ := rx
    obtain ⟨t', rfl⟩ := ry
    refine ⟨?_, fun _ _ _ _ h => lt_str h⟩
    rw [dec_str]
    exact SeqAt.EqAt.str_str _ _ _ _
theorem op_ltU (hu : X.A.units < cLine) : OpR X (compareOp .Lt) (fun x y H Q => ∃ a b xs ys, x = .ref a ∧ y = .ref b ∧ SqT X.K H a xs ∧ SqT X.K H b ys ∧ (∀ (j : Nat) v u, xs[j]? = some v → ys[j]? = some u → (cmpV v u).isSome = true) ∧
    Q (.bl (Ob.lexAt (fun j => decide (xs[j]? = ys[j]?)) (fun j => ((xs[j]?).bind fun v => (ys[j]?).bind fun u => cmpV v u).getD false) (decide (xs.length < ys.length)) 0 (min xs.length ys.length))) H) := by
  intro pins s σ H x y v u Q I rx ry h
  obtain ⟨a, b, xs, ys, rfl, rfl, ha, hb, hc, q⟩ := h
  cases rx
  cases ry
  obtain ⟨its, r1, p1, _⟩ := I.tuple ha
  obtain ⟨its2, r2, p2, _⟩ := I.tuple hb
  have l1 := r1.length
  have l2 := r2.length
  have key : ∀ (A : Around) (j : Nat) (h1 : j < its.toArray.size) (h2 : j < its2.toArray.size), SeqAt.EqAt A s its.toArray[j] its2.toArray[j] (decide (xs[j]? = ys[j]?)) ∧ Ob.RcOp .Lt A s its.toArray[j] its2.toArray[j] (((xs[j]?).bind fun v => (ys[j]?).bind fun u => cmpV v u).getD false) := fun A j h1 h2 => by
    have g1 : j < xs.length := by simp at h1; omega
    have g2 : j < ys.length := by simp at h2; omega
    have e1 := List.getElem?_eq_getElem g1
    have e2 := List.getElem?_eq_getElem g2
    obtain ⟨u1, f1, ru1⟩ := r1.get e1
    obtain ⟨u2, f2, ru2⟩ := r2.get e2
    have hs := hc j _ _ e1 e2
    obtain ⟨bb, hbb⟩ := Option.isSome_iff_exists.mp hs
    have f1' : its.toArray[j] = u1 := by
      have : its[j]? = some its.toArray[j] := by simp at h1 ⊢
      rw [f1] at this; cases this; rfl
    have f2' : its2.toArray[j] = u2 := by
      have : its2[j]? = some its2.toArray[j] := by simp at h2 ⊢
      rw [f2] at this; cases this; rfl
    rw [f1', f2', e1, e2]
    have z := cmpV_ok (A := A) (s := s) ru1 ru2 hbb
    simp only [Option.bind_some, hbb, Option.getD_some, Option.some.injEq]
    exact z
  have R := Ob.RcOp.tuples_lt (A := X.A) (s := s) (e := fun j => decide (xs[j]? = ys[j]?)) (r := fun j => ((xs[j]?).bind fun v => (ys[j]?).bind fun u => cmpV v u).getD false) p1 p2 hu (fun j h1 h2 => (key _ j h1 h2).1) (fun j h1 h2 _ => (key _ j h1 h2).2)
  have s1 : its.toArray.size = xs.length := by simp <;> omega
  have s2 : its2.toArray.size = ys.length := by simp <;> omega
  rw [s1, s2] at R
  have z : wpAny (model X.prog X.w) X.A (compareOp .Lt (.ref a) (.ref b)) (EP X pins σ Q) X.xe s := R X.prog X.w X.xe (EP X pins σ Q) ⟨.bl _, H, I, rfl, q⟩
  exact z
theorem lt1_rel {K : PySem.W.Frag} {H : Hp} {d e : DV} {v u : V} {b : Bool} (rd : DRel K H d v) (re : DRel K H e u) (q : lt1 d e = some b) : cmpV v u = some b ∧ (v = u ↔ d = e) := by
  cases d <;> cases e <;> try (cases q; done)
  · cases rd; cases re; cases q
    exact ⟨rfl, by simp⟩
  · obtain ⟨rfl, _⟩ := rd
    obtain ⟨rfl, _⟩ := re
    cases q
    exact ⟨by simp [cmpV], by simp⟩
theorem lex_rel {K : PySem.W.Frag} {H : Hp} : ∀ {ds es : List DV} {xs ys : List V}, DRels K H ds xs → DRels K H es ys → ((ds.zip es).all fun p => (lt1 p.1 p.2).isSome) = true → ∀ (P S : List V),
    P.length = S.length → Ob.lexAt (fun j => decide ((P ++ xs)[j]? = (S ++ ys)[j]?)) (fun j => (((P ++ xs)[j]?).bind fun v => ((S ++ ys)[j]?).bind fun u => cmpV v u).getD false) (decide (xs.length < ys.length)) P.length (min xs.length ys.length) = ltB ds es
  | [], [], _, _, rfl, rfl, _, P, S, _ => rfl
  | [], e :: es, _, _, rfl, ⟨u, r, rfl, _, _⟩, _, P, S, _ => by simp [Ob.lexAt_zero, ltB]
  | d :: ds, [], _, _, ⟨v, r, rfl, _, _⟩, rfl, _, P, S, _ => by simp [Ob.lexAt_zero, ltB]
  | d :: ds, e :: es, _, _, ⟨v, xs, rfl, rv, rxs⟩, ⟨u, ys, rfl, ru, rys⟩, hc, P, S, hl => by
    rw [List.zip_cons_cons, List.all_cons] at hc
    obtain ⟨h1, h2⟩ := Bool.and_eq_true_iff.mp hc
    obtain ⟨b, hb⟩ := Option.isSome_iff_exists.mp h1
    obtain ⟨k1, k2⟩ := lt1_rel rv ru hb
    have m : min (v :: xs).length (u :: ys).length = min xs.length ys.length + 1 := by simp <;> omega
    rw [m, Ob.lexAt_succ]
    have g1 : (P ++ v :: xs)[P.length]? = some v := by simp
    have g2 : (S ++ u :: ys)[P.length]? = some u := by rw [hl]; simp
    simp only [g1, g2, Option.some.injEq, Option.bind_some, k1, Option.getD_some]
    have ih := lex_rel rxs rys h2 (P ++ [v]) (S ++ [u]) (by simp [hl])
    simp only [List.append_assoc, List.singleton_append, List.length_append, List.length_cons, List.length_nil, Nat.zero_add] at ih
    have hlen : decide ((v :: xs).length < (u :: ys).length) = decide (xs.length < ys.length) := by simp
    rw [hlen]
    unfold ltB
    by_cases he : d = e
    · rw [if_pos (decide_eq_true (k2.mpr he)), if_pos he]
      exact ih
    · rw [if_neg (by simpa using fun z => he (k2.mp z)), if_neg he, hb]
      rfl
theorem op_lt_ok (hG : G.K = X.K) (hu : X.A.units < cLine) : OpR X (compareOp .Lt) (LO2 G (xCmp .lt)) := by
  refine OpR.weak (OpR.or (OpR.or op_lt op_lt_str) (op_ltU hu)) ?_
  rintro x y H Q ⟨d, e, h, Qa, rd, re, hr, q, ql⟩
  cases d <;> cases e <;> try exact False.elim q
  · cases rd; cases re
    exact .inl (.inl ⟨_, _, rfl, rfl, ql (.bl _) _ _ _ (HX.refl H) hr (by simp [DRel]) q⟩)
  · obtain ⟨rfl, _⟩ := rd
    obtain ⟨rfl, _⟩ := re
    exact .inl (.inr ⟨_, _, rfl, rfl, ql (.bl _) _ _ _ (HX.refl H) hr (by simp [DRel]) q⟩)
  · obtain ⟨_, _, q1, q2⟩ := q
    obtain ⟨a, xs, rfl, s1, s2⟩ := rd.tupT
    obtain ⟨b, ys, rfl, t1, t2⟩ := re.tupT
    rw [hG] at s1 t1
    have hlex := lex_rel s2 t2 q1 [] [] rfl
    refine .inr ⟨a, b, xs, ys, rfl, rfl, s1, t1, fun j v u e1 e2 => ?_, ?_⟩
    · obtain ⟨d1, f1, r1⟩ := s2.get' e1
      obtain ⟨d2, f2, r2⟩ := t2.get' e2
      have hz := List.all_eq_true.mp q1 (d1, d2) (by
        rw [List.mem_iff_getElem?]
        exact ⟨j, by rw [List.getElem?_zip_eq_some]; exact ⟨f1, f2⟩⟩)
      obtain ⟨bb, hbb⟩ := Option.isSome_iff_exists.mp hz
      rw [(lt1_rel r1 r2 hbb).1]; rfl
    · simp only [List.nil_append, List.length_nil] at hlex
      rw [hlex]
      exact ql (.bl _) _ _ _ (HX.refl H) hr rfl q2
theorem op_gt_ok : OpR X (compareOp .Gt) (LO2 G (xCmp .gt)) := by
  refine OpR.weak (OpR.or op_gt op_gt_str) ?_
  rintro x y H Q ⟨d, e, h, Qa, rd, re, hr, q, ql⟩
  cases d <;> cases e <;> try first | exact False.elim q | exact Bool.noConfusion q.1 | exact Bool.noConfusion q.2.1
  · cases rd; cases re
    exact .inl ⟨_, _, rfl, rfl, ql (.bl _) _ _ _ (HX.refl H) hr (by simp [DRel]) q⟩
  · obtain ⟨rfl, _⟩ := rd
    obtain ⟨rfl, _⟩ := re
    exact .inr ⟨_, _, rfl, rfl, ql (.bl _) _ _ _ (HX.refl H) hr (by simp [DRel]) q⟩
theorem op_le_ok : OpR X (compareOp .LtE) (LO2 G (xCmp .le)) := by
  refine OpR.weak (OpR.or op_le op_le_str) ?_
  rintro x y H Q ⟨d, e, h, Qa, rd, re, hr, q, ql⟩
  cases d <;> cases e <;> try first | exact False.elim q | exact Bool.noConfusion q.1 | exact Bool.noConfusion q.2.1
  · cases rd; cases re
    refine .inl ⟨_, _, rfl, rfl, ql (.bl _) _ _ _ (HX.refl H) hr ?_ q⟩
    simp only [DRel, if_true, Bool.true_xor, V.bl.injEq]
    rw [← decide_not, decide_eq_decide]; omega
  · obtain ⟨rfl, _⟩ := rd
    obtain ⟨rfl, _⟩ := re
    exact .inr ⟨_, _, rfl, rfl, ql (.bl _) _ _ _ (HX.refl H) hr (by simp [DRel]) q⟩
theorem op_ge_ok : OpR X (compareOp .GtE) (LO2 G (xCmp .ge)) := by
  refine OpR.weak (OpR.or op_ge op_ge_str) ?_
  rintro x y H Q ⟨d, e, h, Qa, rd, re, hr, q, ql⟩
  cases d <;> cases e <;> try first | exact False.elim q | exact Bool.noConfusion q.1 | exact Bool.noConfusion q.2.1
  · cases rd; cases re
    refine .inl ⟨_, _, rfl, rfl, ql (.bl _) _ _ _ (HX.refl H) hr ?_ q⟩
    simp only [DRel, Bool.true_xor, V.bl.injEq]
    rw [← decide_not, decide_eq_decide]
    simp only [Bool.false_eq_true, if_false]
    omega
  · obtain ⟨rfl, _⟩ := rd
    obtain ⟨rfl, _⟩ := re
    exact .inr ⟨_, _, rfl, rfl, ql (.bl _) _ _ _ (HX.refl H) hr (by simp [DRel]) q⟩
/-! ### in -/
theorem flat_rel {K : PySem.W.Frag} {H : Hp} {d : DV} {v : V} (f : flatD d = true) (r : DRel K H d v) : flatV v = true := by
  cases d <;> simp [flatD] at f
  · cases r; rfl
  · cases r; rfl
  · obtain ⟨rfl, _⟩ := r; rfl
theorem flat_rels {K : PySem.W.Frag} {H : Hp} : ∀ {ds : List DV} {vs : List V}, ds.all flatD = true → DRels K H ds vs → vs.all flatV = true
  | [], _, _, r => by cases r; rfl
  | d :: ds, vs, f, r => by
    obtain ⟨v, w, rfl, h, t⟩ := r
    simp only [List.all_cons, Bool.and_eq_true] at f ⊢
    exact ⟨flat_rel f.1 h, flat_rels f.2 t⟩
theorem eqV_rel {K : PySem.W.Frag} {H : Hp} {d e : DV} {v u : V} (fd : flatD d = true) (fe : flatD e = true) (r : DRel K H d v) (q : DRel K H e u) : eqV v u = decide (d = e) := by
  cases d <;> simp [flatD] at fd <;> cases e <;> simp [flatD] at fe
  · cases r; cases q; simp [eqV]
  · cases r; cases q; simp [eqV]
  · cases r; obtain ⟨rfl, _⟩ := q; simp [eqV]
  · cases r; cases q; simp [eqV]
  · cases r; cases q; simp only [eqV, DV.int.injEq]; rw [Bool.eq_iff_iff]; simp
  · cases r; obtain ⟨rfl, _⟩ := q; simp [eqV]
  · obtain ⟨rfl, _⟩ := r; cases q; simp [eqV]
  · obtain ⟨rfl, _⟩ := r; cases q; simp [eqV]
  · obtain ⟨rfl, _⟩ := r; obtain ⟨rfl, _⟩ := q
    simp only [eqV, DV.str.injEq]
    rw [Bool.eq_iff_iff]; simp
theorem inV_rel {K : PySem.W.Frag} {H : Hp} {d : DV} {v : V} (fd : flatD d = true) (r : DRel K H d v) : ∀ {ds : List DV} {vs : List V}, ds.all flatD = true → DRels K H ds vs → inV v vs = decide (d ∈ ds)
  | [], _, _, q => by cases q; simp [inV]
  | e :: ds, vs, f, q => by
    obtain ⟨u, w, rfl, h, t⟩ := q
    simp only [List.all_cons, Bool.and_eq_true] at f
    have ih := inV_rel fd r f.2 t
    unfold inV at ih ⊢
    rw [List.any_cons, ih, eqV_rel f.1 fd h r]
    rw [Bool.eq_iff_iff]
    simp only [Bool.or_eq_true, decide_eq_true_eq, List.mem_cons]
    exact ⟨fun z => z.imp Eq.symm id, fun z => z.imp Eq.symm id⟩
theorem inD_rel {H : Hp} {h : AH} {d : DV} {ys : List DV} {x : V} {a : Addr} {vs : List V} {b : Bool} (hr : HRel G H h) (rd : DRel G.K H d x) (s1 : SqL G.K H a vs) (s2 : DRels G.K H ys vs) (q : InD h d ys b) :
    ∃ p qs, Dp G.K H x p ∧ Dp G.K H (.ref a) (.list qs) ∧ SeqAt.shaped p = true ∧ SeqAt.shaped (.list qs) = true ∧ (qs.any fun z => PyData.eqv z p) = b := by
  obtain ⟨p, qs, e1, e2, e3⟩ := q
  obtain ⟨a1, a2, a3⟩ := py_dp hr rd e1
  obtain ⟨b1, b2, b3⟩ := dps_of (fun a b => py_dp hr a b) s2 e2
  exact ⟨p, qs, a1, .lst s1 b1, shaped_of a2 a3, shaped_of (by simpa [PyData.canLay0] using b2) (by simp only [PyData.depth]; omega), e3⟩
end
/-! ### dicts -/
section
variable {K : PySem.W.Frag} {H : Hp}
theorem keyD_eq {d : DV} {k j : Key} (r : DRel K H d (kV k)) : (d = keyD j) ↔ k = j := by
  rw [key_of_rel r]
  exact ⟨keyD_inj, fun e => by rw [e]⟩
theorem dget_rel : ∀ {kvs : List (DV × DV)} {q : List (Key × V)} (k : Key), KRel K H kvs q →
    (dget kvs (keyD k) = none ∧ valV q k = none) ∨ ∃ d v, dget kvs (keyD k) = some d ∧ valV q k = some v ∧ DRel K H d v
  | [], q, k, r => by cases r; exact .inl ⟨rfl, rfl⟩
  | p :: kvs, q, k, r => by
    obtain ⟨j, v, s, rfl, h1, h2, h3⟩ := r
    by_cases e : j = k
    · refine .inr ⟨p.2, v, ?_, valV_pos e, h2⟩
      unfold dget
      rw [List.find?_cons_of_pos (by simpa using (keyD_eq h1).mpr e)]; rfl
    · have ih := dget_rel k h3
      have e2 : dget (p :: kvs) (keyD k) = dget kvs (keyD k) := by
        unfold dget
        rw [List.find?_cons_of_neg (by simpa using fun z => e ((keyD_eq h1).mp z))]
      rw [e2, valV_neg e]
      exact ih
theorem KRel.length : ∀ {kvs : List (DV × DV)} {q : List (Key × V)}, KRel K H kvs q → q.length = kvs.length
  | [], q, r => by cases r; rfl
  | p :: kvs, q, r => by
    obtain ⟨j, v, s, rfl, h1, h2, h3⟩ := r
    simp [KRel.length h3]
theorem KRel.append : ∀ {kvs ms : List (DV × DV)} {q s : List (Key × V)}, KRel K H kvs q → KRel K H ms s → KRel K H (kvs ++ ms) (q ++ s)
  | [], ms, q, s, r, t => by cases r; exact t
  | p :: kvs, ms, q, s, r, t => by
    obtain ⟨j, v, z, rfl, h1, h2, h3⟩ := r
    exact ⟨j, v, z ++ s, rfl, h1, h2, KRel.append h3 t⟩
theorem KRel.any {k : Key} : ∀ {kvs : List (DV × DV)} {q : List (Key × V)}, KRel K H kvs q → (kvs.any fun p => decide (p.1 = keyD k)) = q.any fun p => decide (p.1 = k)
  | [], q, r => by cases r; rfl
  | p :: kvs, q, r => by
    obtain ⟨j, v, s, rfl, h1, h2, h3⟩ := r
    rw [List.any_cons, List.any_cons, KRel.any h3, decide_eq_decide.mpr (keyD_eq h1)]
theorem KRel.repl {k : Key} {d : DV} {u : V} (rd : DRel K H d u) : ∀ {kvs : List (DV × DV)} {q : List (Key × V)}, KRel K H kvs q → KRel K H (kvs.map fun p => if p.1 = keyD k then (p.1, d) else p) (q.map fun p => if p.1 = k then (p.1, u) else p)
  | [], q, r => by cases r; rfl
  | p :: kvs, q, r => by
    obtain ⟨j, v, s, rfl, h1, h2, h3⟩ := r
    by_cases e : j = k
    · refine ⟨j, u, _, ?_, ?_, ?_, KRel.repl rd h3⟩
      · simp only [List.map_cons, if_pos e]
      · simpa [if_pos ((keyD_eq h1).mpr e)] using h1
      · simpa [if_pos ((keyD_eq h1).mpr e)] using rd
    · refine ⟨j, v, _, ?_, ?_, ?_, KRel.repl rd h3⟩
      · simp only [List.map_cons, if_neg e]
      · simpa [if_neg fun z => e ((keyD_eq h1).mp z)] using h1
      · simpa [if_neg fun z => e ((keyD_eq h1).mp z)] using h2
theorem dput_rel {k : Key} {d : DV} {u : V} (rk : DRel K H (keyD k) (kV k)) (rd : DRel K H d u) {kvs : List (DV × DV)} {q : List (Key × V)} (r : KRel K H kvs q) : KRel K H (dput kvs (keyD k) d) (putK q k u) := by
  unfold dput putK
  rw [r.any]
  split
  · exact KRel.repl rd r
  · exact r.append ⟨k, u, [], rfl, rk, rd, rfl⟩
theorem KRel.keys : ∀ {kvs : List (DV × DV)} {q : List (Key × V)}, KRel K H kvs q → DRels K H (kvs.map (·.1)) (q.map fun kv => kV kv.1)
  | [], q, r => by cases r; rfl
  | p :: kvs, q, r => by
    obtain ⟨j, v, s, rfl, h1, h2, h3⟩ := r
    exact ⟨_, _, rfl, h1, KRel.keys h3⟩
theorem KRel.vals : ∀ {kvs : List (DV × DV)} {q : List (Key × V)}, KRel K H kvs q → DRels K H (kvs.map (·.2)) (q.map (·.2))
  | [], q, r => by cases r; rfl
  | p :: kvs, q, r => by
    obtain ⟨j, v, s, rfl, h1, h2, h3⟩ := r
    exact ⟨_, _, rfl, h2, KRel.vals h3⟩
theorem KRel.get : ∀ {kvs : List (DV × DV)} {q : List (Key × V)} {i : Nat} {p : DV × DV}, KRel K H kvs q → kvs[i]? = some p → ∃ k v, q[i]? = some (k, v) ∧ DRel K H p.1 (kV k) ∧ DRel K H p.2 v
  | [], q, i, p, r, e => by simp at e
  | p0 :: kvs, q, 0, p, r, e => by
    obtain ⟨j, v, s, rfl, h1, h2, h3⟩ := r
    cases e
    exact ⟨j, v, rfl, h1, h2⟩
  | p0 :: kvs, q, i + 1, p, r, e => by
    obtain ⟨j, v, s, rfl, h1, h2, h3⟩ := r
    obtain ⟨k, u, e1, r⟩ := KRel.get (i := i) h3 (by simpa using e)
    exact ⟨k, u, by simpa using e1, r⟩
theorem ddel_rel {k : Key} : ∀ {kvs : List (DV × DV)} {q : List (Key × V)}, KRel K H kvs q → KRel K H (ddel kvs (keyD k)) (dropK q k)
  | [], q, r => by cases r; rfl
  | p :: kvs, q, r => by
    obtain ⟨j, v, s, rfl, h1, h2, h3⟩ := r
    have ih := ddel_rel (k := k) h3
    unfold ddel dropK at ih ⊢
    by_cases e : j = k
    · rw [List.filter_cons_of_neg (by simpa using (keyD_eq h1).mpr e), List.filter_cons_of_neg (by simpa using e)]
      exact ih
    · rw [List.filter_cons_of_pos (by simpa using fun z => e ((keyD_eq h1).mp z)), List.filter_cons_of_pos (by simpa using e)]
      exact ⟨j, v, _, rfl, h1, h2, ih⟩
theorem pairs_rel : ∀ {ds : List DV} {vs : List V} {kvs : List (DV × DV)}, DRels K H ds vs → pairL ds = some kvs → (kvs.all fun q => keyOk q.1) = true → ∃ q : List (Key × V), KRel K H kvs q ∧ vs = (q.map fun kv => [kV kv.1, kv.2]).flatten
  | [], vs, kvs, r, e, _ => by
    cases r; cases e
    exact ⟨[], rfl, rfl⟩
  | [_], _, _, _, e, _ => by cases e
  | k :: v :: ds, vs, kvs, r, e, ok => by
    obtain ⟨vk, w, rfl, r1, r2⟩ := r
    obtain ⟨vv, w2, rfl, r3, r4⟩ := r2
    simp only [pairL] at e
    cases e2 : pairL ds with
    | none => rw [e2] at e; cases e
    | some kvs' =>
      rw [e2] at e
      cases e
      rw [List.all_cons] at ok
      obtain ⟨o1, o2⟩ := Bool.and_eq_true_iff.mp ok
      obtain ⟨q, z1, rfl⟩ := pairs_rel r4 e2 o2
      have hk : ∃ j, keyK k = some j := by
        cases k <;> first | exact Bool.noConfusion (show false = true from o1) | exact ⟨_, rfl⟩
      obtain ⟨j, ej⟩ := hk
      have := rel_of_key ej r1
      subst this
      exact ⟨(j, vv) :: q, ⟨j, vv, q, rfl, r1, r3, z1⟩, rfl⟩
theorem dputs_rel : ∀ {kvs acc : List (DV × DV)} {q qa : List (Key × V)}, KRel K H kvs q → KRel K H acc qa → KRel K H (dputs acc kvs) (mergeK qa q)
  | [], acc, q, qa, r, t => by cases r; exact t
  | p :: kvs, acc, q, qa, r, t => by
    obtain ⟨j, v, s, rfl, h1, h2, h3⟩ := r
    have e := key_of_rel h1
    have t' := dput_rel (k := j) (d := p.2) (u := v) (by rw [← e]; exact h1) h2 t
    rw [← e] at t'
    show KRel K H (dputs (dput acc p.1 p.2) kvs) (mergeK (putK qa j v) s)
    exact dputs_rel h3 t'
end
end PL

set_option maxHeartbeats 8000000
/-! PL, part cx: == and != of what is equal through dicts. -/
namespace PL
open PySem PySem.Spec PyProof.Rows L2 PySem.SeqAt PySem.AutoSeq1 PySem.MeetsSeq PySem.MeetsSeq2 PySem.MeetsSeq3 PySem.SeqRoads2
section
variable {prog : Program} {w : World}
/-- item by item equal -/
def AllP (prog : Program) (w : World) (A : Around) (s : Shared) (xs ys : Array Value) : Prop := ∀ j (g1 : j < xs.size) (g2 : j < ys.size), EqP prog w A s xs[j] ys[j] true
abbrev lstO (d : Option Addr) (xs : Array Value) (m : Nat) (z : Array (Option Value)) : Obj := { cls := .type "list", dict := d, data := .seq xs m, slots := z }
abbrev tupO (d : Option Addr) (xs : Array Value) (m : Nat) (z : Array (Option Value)) : Obj := { cls := .type "tuple", dict := d, data := .seq xs m, slots := z }
theorem neTurn (p r : Addr) (xs ys : Array Value) (m m2 : Nat) (d1 d2 : Option Addr) (z1 z2 : Array (Option Value)) (hz : xs.size = ys.size) (k : Nat) :
    ∀ t : Nat, xs.size - t = k → MeetsIn prog w (Builtin.«list.__eq__.loop» ⟨[.ref p, .ref r, rawInt t, rawInt 3], []⟩)
      (fun A R s => s.heap.get? p = some (lstO d1 xs m z1) ∧ s.heap.get? r = some (lstO d2 ys m2 z2) ∧ AllP prog w A.in1 s xs ys ∧ R (.ok (.ret (.bool false))) s) := by
  induction k with
  | zero =>
    intro t hk A R s hh
    obtain ⟨hp, g, d, tk, os⟩ := s
    obtain ⟨gp, gr, he, hq⟩ := hh
    wp_walk using wpAny_loadPart' gp, wpAny_loadPart' gr
    have n1 : xs[((t : Nat) : Int).toNat]? = none := by simp; omega
    have n2 : ys[((t : Nat) : Int).toNat]? = none := by simp; omega
    rw [n1, n2]
    wp_walk using wpAny_loadPart' gp, wpAny_loadPart' gr
    show R (.ok (.ret (.bool (xs.size != ys.size)))) _
    rw [hz]
    simpa using hq
  | succ k ih =>
    intro t hk A R s hh
    obtain ⟨hp, g, d, tk, os⟩ := s
    obtain ⟨gp, gr, he, hq⟩ := hh
    wp_walk using wpAny_loadPart' gp, wpAny_loadPart' gr
    have l1 : t < xs.size := by omega
    have l2 : t < ys.size := by omega
    have n1 : xs[((t : Nat) : Int).toNat]? = some xs[t] := by simp [l1]
    have n2 : ys[((t : Nat) : Int).toNat]? = some ys[t] := by simp [l2]
    have nx : ((t : Int) + 1) = ((t + 1 : Nat) : Int) := by push_cast; rfl
    rw [n1, n2]
    refine wpAny_bind (he t l1 l2 _ _ ?_)
    wp_walk
    rw [nx]
    refine ⟨plainId_quiet plain_eq_loop _, codeAny_builtin entry_eq_loop ?_⟩
    rw [Around.under_plainId plain_eq_loop _]
    exact ih (t + 1) (by omega) A R _ ⟨gp, gr, he, hq⟩
theorem neSame (p r : Addr) (xs ys : Array Value) (m m2 : Nat) (d1 d2 : Option Addr) (z1 z2 : Array (Option Value)) (hz : xs.size = ys.size) :
    MeetsIn prog w (Builtin.«list.__ne__» ⟨[.ref p, .ref r], []⟩)
      (fun A R s => s.heap.get? p = some (lstO d1 xs m z1) ∧ s.heap.get? r = some (lstO d2 ys m2 z2) ∧ AllP prog w A.in1 s xs ys ∧ R (.ok (.ret (.bool false))) s) := by
  intro A R s hh
  obtain ⟨hp, g, d, tk, os⟩ := s
  obtain ⟨gp, gr, he, hq⟩ := hh
  have f3 := AutoSeq1.sub_list_list
  have hne : ¬ (xs.size != ys.size) = true := by simp [hz]
  wp_walk using wpAny_loadPart' gp, wpAny_loadPart' gr
  refine ⟨plainId_quiet plain_eq_loop _, codeAny_builtin entry_eq_loop ?_⟩
  rw [Around.under_plainId plain_eq_loop _]
  exact neTurn p r xs ys m m2 d1 d2 z1 z2 hz _ 0 rfl A R _ ⟨gp, gr, he, hq⟩
theorem neLists {A : Around} {s : Shared} {p r : Addr} {xs ys : Array Value} (gp : s.heap.IsList p xs) (gr : s.heap.IsList r ys) (hz : xs.size = ys.size) (hu : A.units < cLine) (he : AllP prog w A.in1 s xs ys)
    (E Q : Value → Shared → Prop) (q : Q (.bool false) s) : wpAny (model prog w) A (richCompare .NotEq (.ref p) (.ref r)) Q E s := by
  obtain ⟨⟨c1, d1, da1, z1⟩, o1, e1, m1, f1⟩ := id gp
  obtain ⟨⟨c2, d2, da2, z2⟩, o2, e2, m2, f2⟩ := id gr
  simp only at e1 f1 e2 f2
  subst e1 f1 e2 f2
  have t1 : s.TypeIs (.ref p) "list" := ⟨_, o1, rfl⟩
  have t2 : s.TypeIs (.ref r) "list" := ⟨_, o2, rfl⟩
  exact wpAny_richCompare_same_room (op := .NotEq) t1 t2 F.slot_list_ne (call_meetsIn F.slot_list_ne t1 F.entry_list_ne (F.args_list_ne_2 _ _) (neSame p r xs ys m1 m2 d1 d2 z1 z2 hz)
    ⟨o1, o2, he, show Value.bool false ≠ Value.notImplemented ∧ Q (.bool false) s from ⟨(fun x => nomatch x), q⟩⟩) hu
/-- tuples, == (b) or != -/
theorem tupSame (p r : Addr) (xs ys : Array Value) (m m2 : Nat) (d1 d2 : Option Addr) (z1 z2 : Array (Option Value)) (hz : xs.size = ys.size) :
    MeetsIn prog w (Builtin.«tuple.__eq__» ⟨[.ref p, .ref r], []⟩)
      (fun A R s => s.heap.get? p = some (tupO d1 xs m z1) ∧ s.heap.get? r = some (tupO d2 ys m2 z2) ∧ AllP prog w A.in1 s xs ys ∧ R (.ok (.ret (.bool true))) s) :=
  .of_wp fun A R s hh => by
    obtain ⟨hp, g, d, tk, os⟩ := s
    obtain ⟨gp, gr, he, hq⟩ := hh
    have f2 := AutoSeq1.sub_tuple_tuple
    wp_walk using wpAny_loadPart' gp, wpAny_loadPart' gr, wpAny_forIn_list _ (fun rest b s' => b.1 = none ∧ s' = ⟨hp, g, d, tk, os⟩ ∧ ∃ i, rest = (xs.toList.zip ys.toList).drop i) _
    case turn =>
      rintro ⟨y, x⟩ rest b s' ⟨hb', rfl, i, ez⟩
      have lt : i < (xs.toList.zip ys.toList).length := by
        rcases Nat.lt_or_ge i (xs.toList.zip ys.toList).length with z | z
        · exact z
        · rw [List.drop_of_length_le z] at ez; cases ez
      have ll : i < min xs.size ys.size := by simpa using lt
      have l1 : i < xs.size := by omega
      have l2 : i < ys.size := by omega
      rw [List.drop_eq_getElem_cons lt] at ez
      injection ez with eyx er
      have ey : y = xs[i] := by have := congrArg Prod.fst eyx; simpa using this
      have ex : x = ys[i] := by have := congrArg Prod.snd eyx; simpa using this
      subst ey ex
      refine wpAny_bind (he i l1 l2 _ _ ?_)
      wp_walk
      exact ⟨rfl, rfl, i + 1, er⟩
    case fin =>
      rintro ⟨b1, b2⟩ s' ⟨hb', rfl, i, ez⟩
      simp only at hb'
      subst hb'
      wp_walk
      refine ⟨_, rfl, ?_⟩
      have : (xs.size == ys.size) = true := by simp [hz]
      simpa [Builtin.Tuple.tupleCompareSizes, this, hz] using hq
    case h =>
      exact ⟨rfl, rfl, 0, rfl⟩
theorem tupDiff (p r : Addr) (xs ys : Array Value) (m m2 : Nat) (d1 d2 : Option Addr) (z1 z2 : Array (Option Value)) (hz : xs.size = ys.size) :
    MeetsIn prog w (Builtin.«tuple.__ne__» ⟨[.ref p, .ref r], []⟩)
      (fun A R s => s.heap.get? p = some (tupO d1 xs m z1) ∧ s.heap.get? r = some (tupO d2 ys m2 z2) ∧ AllP prog w A.in1 s xs ys ∧ R (.ok (.ret (.bool false))) s) :=
  .of_wp fun A R s hh => by
    obtain ⟨hp, g, d, tk, os⟩ := s
    obtain ⟨gp, gr, he, hq⟩ := hh
    have f2 := AutoSeq1.sub_tuple_tuple
    wp_walk using wpAny_loadPart' gp, wpAny_loadPart' gr, wpAny_forIn_list _ (fun rest b s' => b.1 = none ∧ s' = ⟨hp, g, d, tk, os⟩ ∧ ∃ i, rest = (xs.toList.zip ys.toList).drop i) _
    case turn =>
      rintro ⟨y, x⟩ rest b s' ⟨hb', rfl, i, ez⟩
      have lt : i < (xs.toList.zip ys.toList).length := by
        rcases Nat.lt_or_ge i (xs.toList.zip ys.toList).length with z | z
        · exact z
        · rw [List.drop_of_length_le z] at ez; cases ez
      have ll : i < min xs.size ys.size := by simpa using lt
      have l1 : i < xs.size := by omega
      have l2 : i < ys.size := by omega
      rw [List.drop_eq_getElem_cons lt] at ez
      injection ez with eyx er
      have ey : y = xs[i] := by have := congrArg Prod.fst eyx; simpa using this
      have ex : x = ys[i] := by have := congrArg Prod.snd eyx; simpa using this
      subst ey ex
      refine wpAny_bind (he i l1 l2 _ _ ?_)
      wp_walk
      exact ⟨rfl, rfl, i + 1, er⟩
    case fin =>
      rintro ⟨b1, b2⟩ s' ⟨hb', rfl, i, ez⟩
      simp only at hb'
      subst hb'
      wp_walk
      refine ⟨_, rfl, ?_⟩
      have : (xs.size == ys.size) = true := by simp [hz]
      simpa [Builtin.Tuple.tupleCompareSizes, bne, this, hz] using hq
    case h =>
      exact ⟨rfl, rfl, 0, rfl⟩
theorem eqTups {A : Around} {s : Shared} {p r : Addr} {xs ys : Array Value} (gp : s.heap.IsTuple p xs) (gr : s.heap.IsTuple r ys) (hz : xs.size = ys.size) (hu : A.units < cLine) (he : AllP prog w A.in1 s xs ys)
    (E Q : Value → Shared → Prop) (q : Q (.bool true) s) : wpAny (model prog w) A (richCompare .Eq (.ref p) (.ref r)) Q E s := by
  obtain ⟨⟨c1, d1, da1, z1⟩, o1, e1, m1, f1⟩ := id gp
  obtain ⟨⟨c2, d2, da2, z2⟩, o2, e2, m2, f2⟩ := id gr
  simp only at e1 f1 e2 f2
  subst e1 f1 e2 f2
  have t1 : s.TypeIs (.ref p) "tuple" := ⟨_, o1, rfl⟩
  have t2 : s.TypeIs (.ref r) "tuple" := ⟨_, o2, rfl⟩
  exact wpAny_richCompare_same_room (op := .Eq) t1 t2 F.slot_tuple_eq (call_meetsIn F.slot_tuple_eq t1 F.entry_tuple_eq (F.args_tuple_eq_2 _ _) (tupSame p r xs ys m1 m2 d1 d2 z1 z2 hz)
    ⟨o1, o2, he, show Value.bool true ≠ Value.notImplemented ∧ Q (.bool true) s from ⟨(fun x => nomatch x), q⟩⟩) hu
theorem neTups {A : Around} {s : Shared} {p r : Addr} {xs ys : Array Value} (gp : s.heap.IsTuple p xs) (gr : s.heap.IsTuple r ys) (hz : xs.size = ys.size) (hu : A.units < cLine) (he : AllP prog w A.in1 s xs ys)
    (E Q : Value → Shared → Prop) (q : Q (.bool false) s) : wpAny (model prog w) A (richCompare .NotEq (.ref p) (.ref r)) Q E s := by
  obtain ⟨⟨c1, d1, da1, z1⟩, o1, e1, m1, f1⟩ := id gp
  obtain ⟨⟨c2, d2, da2, z2⟩, o2, e2, m2, f2⟩ := id gr
  simp only at e1 f1 e2 f2
  subst e1 f1 e2 f2
  have t1 : s.TypeIs (.ref p) "tuple" := ⟨_, o1, rfl⟩
  have t2 : s.TypeIs (.ref r) "tuple" := ⟨_, o2, rfl⟩
  exact wpAny_richCompare_same_room (op := .NotEq) t1 t2 F.slot_tuple_ne (call_meetsIn F.slot_tuple_ne t1 F.entry_tuple_ne (F.args_tuple_ne_2 _ _) (tupDiff p r xs ys m1 m2 d1 d2 z1 z2 hz)
    ⟨o1, o2, he, show Value.bool false ≠ Value.notImplemented ∧ Q (.bool false) s from ⟨(fun x => nomatch x), q⟩⟩) hu
theorem neDicts {A : Around} {s : Shared} {K : Type} [DecidableEq K] {knd : KeyKind prog w K} {p r : Addr} {ka kb : List (K × Value)} (ha : (p == sysModules) = false) (hb : (r == sysModules) = false) (da : s.heap.DictOf knd p ka) (db : s.heap.DictOf knd r kb) (hu : A.units < cLine)
    (hits : ka.length = kb.length → PySem.W.KeqHitsP prog w A.in1 s kb ka true) (hl : ka.length = kb.length) (E Q : Value → Shared → Prop) (q : Q (.bool false) s) : wpAny (model prog w) A (richCompare .NotEq (.ref p) (.ref r)) Q E s := by
  refine wpAny_richCompare_same_room (op := .NotEq) da.typeIs db.typeIs PySem.F.slot_dict_ne (wpAny_call_entry PySem.F.slot_dict_ne da.typeIs PySem.F.entry_dict_ne ?_ (PySem.F.args_dict_ne_2 _ _)) hu
  show wpAny _ _ ((Builtin.Dict.dictSlotArgs "__ne__" ⟨[.ref p, .ref r], []⟩) >>= _) _ _ s
  refine wpAny_bind ?_
  unfold Builtin.Dict.dictSlotArgs
  refine wpAny_bind (wpAny_notOrdered_dict da.typeIs ?_)
  show wpAny _ _ (pure (Value.ref p, Value.ref r)) _ _ s
  refine wpAny_pure ?_
  refine wpAny_bind (wpAny_isInstance (T := "dict") db.typeIs PySem.F.sub_dict_dict ?_)
  simp only [Bool.not_true, Bool.false_eq_true, if_false]
  refine wpAny_bind ((wpAny_pure (wpAny_bind (wpAny_pure ?_))))
  refine wpAny_bind (PySem.W.samePairsP ha hb da db hits ?_)
  refine wpAny_pure ⟨_, rfl, (fun x => nomatch x), ?_⟩
  rw [hl]
  simpa using q
end
end PL
namespace PL
open PySem PySem.Spec PyProof.Rows L2
section
variable {X : Cx} {G : GK} {pins : List (Addr × Obj)} {σ : L2.St} {H : Hp} {s : Shared} {h : AH}
theorem drels_at : ∀ {ds : List DV} {vs : List V}, DRels G.K H ds vs → ∀ {j : Nat} {v : V}, vs[j]? = some v → ∃ d, ds[j]? = some d ∧ DRel G.K H d v := fun r _ _ e => r.get' e
/-- items that are equal, run -/
theorem allP_of {A : Around} {n : Nat} (ih : ∀ d e x y v u, EqT h n d e → DRel G.K H d x → DRel G.K H e y → RelV x v → RelV y u → SeqAt.EqP X.prog X.w A s v u true) {xs ys : List DV} {vs us : List V} {its its2 : List Value} (hl : xs.length = ys.length) (he : ∀ (i : Nat) x y, xs[i]? = some x → ys[i]? = some y → EqT h n x y) (r1 : DRels G.K H xs vs) (r2 : DRels G.K H ys us) (v1 : Vals vs its) (v2 : Vals us its2) :
    AllP X.prog X.w A s its.toArray its2.toArray := by
  intro j g1 g2
  have a1 : its[j]? = some its.toArray[j] := by simp at g1 ⊢
  have a2 : its2[j]? = some its2.toArray[j] := by simp at g2 ⊢
  have l1 : j < vs.length := by have := v1.length; simp at g1; omega
  have l2 : j < us.length := by have := v2.length; simp at g2; omega
  obtain ⟨z1, b1, c1⟩ := v1.get (List.getElem?_eq_getElem l1)
  obtain ⟨z2, b2, c2⟩ := v2.get (List.getElem?_eq_getElem l2)
  rw [a1] at b1; cases b1
  rw [a2] at b2; cases b2
  obtain ⟨d1, e1, q1⟩ := drels_at r1 (List.getElem?_eq_getElem l1)
  obtain ⟨d2, e2, q2⟩ := drels_at r2 (List.getElem?_eq_getElem l2)
  exact ih _ _ _ _ _ _ (he j d1 d2 e1 e2) q1 q2 c1 c2
theorem hits_of {A : Around} {n : Nat} (ih : ∀ d e x y v u, EqT h n d e → DRel G.K H d x → DRel G.K H e y → RelV x v → RelV y u → SeqAt.EqP X.prog X.w A s v u true) {ks ls : List (DV × DV)} {q1 q2 : List (Key × V)} {va vb : List (Key × Value)} (he : ∀ p ∈ ks, ∃ u, dget ls p.1 = some u ∧ EqT h n p.2 u) (k2 : KRel G.K H ls q2) (rb : KV q2 vb) (k1 : KRel G.K H ks q1) (ra : KV q1 va) : PySem.W.KeqHitsP X.prog X.w A s vb va true := by
  refine hits_run (F := fun x y => ∃ d e, EqT h n d e ∧ DRel G.K H d x ∧ DRel G.K H e y) (fun x y v u ⟨d, e, z, z1, z2⟩ => ih d e x y v u z z1 z2) rb ra ?_
  clear ra
  revert q1
  induction ks with
  | nil =>
    intro q1 k1 p hp
    cases k1
    cases hp
  | cons a ks iks =>
    intro q1 k1 p hp
    obtain ⟨k, v, r, rfl, h1, h2, h3⟩ := k1
    rcases List.mem_cons.mp hp with rfl | hp
    · obtain ⟨u, e1, e2⟩ := he a (by simp)
      rw [key_of_rel h1] at e1
      rcases dget_rel k k2 with ⟨z, _⟩ | ⟨d', v', z1, z2, z3⟩
      · rw [e1] at z; cases z
      · rw [e1] at z1; cases z1
        exact ⟨v', z2, a.2, u, e2, h2, z3⟩
    · exact iks (fun p hp => he p (by simp [hp])) h3 p hp
theorem eqd_run (hK : G.K = X.K) (I : Inv X pins σ H s) (hr : HRel G H h) {A : Around} (hu : A.units + 8 < cLine) {d e : DV} {x y : V} {v u : Value} {b : Bool} (q : EqD h d e b) (rd : DRel G.K H d x) (re : DRel G.K H e y) (rx : RelV x v) (ry : RelV y u) : SeqAt.EqP X.prog X.w A s v u b := by
  obtain ⟨p1, p2, e1, e2, e3⟩ := q
  obtain ⟨a1, a2, a3⟩ := py_dp hr rd e1
  obtain ⟨b1, b2, b3⟩ := py_dp hr re e2
  rw [hK] at a1 b1
  obtain ⟨w1, k1⟩ := Dp.reads I p1 x v a1 rx
  obtain ⟨w2, k2⟩ := Dp.reads I p2 y u b1 ry
  have := SeqAt.eqAt_reads p1 p2 A s v u w1 w2 k1 k2 a2 b2 (by omega)
  rw [e3] at this
  exact this.eqP
theorem eqt_step (hK : G.K = X.K) (I : Inv X pins σ H s) (hr : HRel G H h) {A : Around} {n : Nat} (hu : A.units < cLine) (ih : ∀ d e x y v u, EqT h n d e → DRel G.K H d x → DRel G.K H e y → RelV x v → RelV y u → SeqAt.EqP X.prog X.w A.in1 s v u true)
    {d e : DV} {x y : V} {v u : Value} (q : EqC h (EqT h n) d e) (rd : DRel G.K H d x) (re : DRel G.K H e y) (rx : RelV x v) (ry : RelV y u) (E Q : Value → Shared → Prop) :
    (Q (.bool true) s → wpAny (model X.prog X.w) A (richCompare .Eq v u) Q E s) ∧ (Q (.bool false) s → wpAny (model X.prog X.w) A (richCompare .NotEq v u) Q E s) := by
  rcases q with ⟨xs, ys, rfl, rfl, hl, he⟩ | ⟨a, b, xs, ys, rfl, rfl, e1, e2, hl, he⟩ | ⟨a, b, ks, ls, rfl, rfl, e1, e2, hl, he⟩
  · obtain ⟨a, vs, rfl, s1, r1⟩ := rd.tupT
    obtain ⟨b, us, rfl, s2, r2⟩ := re.tupT
    cases (show v = Value.ref a from rx)
    cases (show u = Value.ref b from ry)
    rw [hK] at s1 s2
    obtain ⟨i1, v1, p1, _⟩ := I.tuple s1
    obtain ⟨i2, v2, p2, _⟩ := I.tuple s2
    have hz : i1.toArray.size = i2.toArray.size := by
      have := v1.length; have := v2.length; have := r1.length; have := r2.length
      simp; omega
    have al := allP_of ih hl he r1 r2 v1 v2
    exact ⟨fun q => eqTups p1 p2 hz hu al E Q q, fun q => neTups p1 p2 hz hu al E Q q⟩
  · cases rd
    cases re
    cases (show v = Value.ref a from rx)
    cases (show u = Value.ref b from ry)
    obtain ⟨vs, s1, r1⟩ := seq_of hr e1
    obtain ⟨us, s2, r2⟩ := seq_of hr e2
    rw [hK] at s1 s2
    obtain ⟨i1, v1, p1, _⟩ := I.list s1
    obtain ⟨i2, v2, p2, _⟩ := I.list s2
    have hz : i1.toArray.size = i2.toArray.size := by
      have := v1.length; have := v2.length; have := r1.length; have := r2.length
      simp; omega
    have al := allP_of ih hl he r1 r2 v1 v2
    refine ⟨fun q => SeqAt.rcP_lists (e := fun _ => true) p1.isList p2.isList hz hu (fun j g1 g2 => al j g1 g2) E Q ?_, fun q => neLists p1.isList p2.isList hz hu al E Q q⟩
    rw [show ((List.range i1.toArray.size).all fun _ => true) = true from List.all_eq_true.mpr fun _ _ => rfl]
    exact q
  · cases rd
    cases re
    cases (show v = Value.ref a from rx)
    cases (show u = Value.ref b from ry)
    obtain ⟨q1, f1, k1⟩ := hr a _ e1
    obtain ⟨q2, f2, k2⟩ := hr b _ e2
    obtain ⟨_, ya, va, ra, da⟩ := (show ObjOk X.prog X.w H s.heap a (.dK q1) from I.hok a _ f1)
    obtain ⟨_, yb, vb, rb, db⟩ := (show ObjOk X.prog X.w H s.heap b (.dK q2) from I.hok b _ f2)
    have hz : va.length = vb.length := by rw [← ra.length, ← rb.length, k1.length, k2.length]; exact hl
    have hh := hits_of ih he k2 rb k1 ra
    refine ⟨fun q => PySem.W.rcP_dicts (knd := mixKind X.prog X.w) (r := true) ya yb da db hu (fun _ => hh) E Q ?_, fun q => neDicts (knd := mixKind X.prog X.w) ya yb da db hu (fun _ => hh) hz E Q q⟩
    rw [show (va.length == vb.length && true) = true from by rw [hz]; simp]
    exact q
theorem eqt_run (hK : G.K = X.K) (I : Inv X pins σ H s) (hr : HRel G H h) : ∀ (n : Nat) (A : Around), A.units + n + 8 < cLine → ∀ d e x y v u, EqT h n d e → DRel G.K H d x → DRel G.K H e y → RelV x v → RelV y u → SeqAt.EqP X.prog X.w A s v u true
  | 0, _, _, _, _, _, _, _, _, q, _, _, _, _ => q.elim
  | n + 1, A, hu, d, e, x, y, v, u, q, rd, re, rx, ry => by
    rcases q with q | ⟨a, rfl, rfl⟩ | q
    · exact eqd_run hK I hr (by omega) q rd re rx ry
    · cases rd; cases re
      cases (show v = Value.ref a from rx)
      cases (show u = Value.ref a from ry)
      exact (SeqAt.EqAt.same _).eqP
    · have step := fun E Q => (eqt_step hK I hr (A := A) (by omega) (eqt_run hK I hr n A.in1 (by show A.units + 1 + n + 8 < cLine; omega)) q rd re rx ry E Q).1
      have key : ∃ a b, v = .ref a ∧ u = .ref b := by
        rcases q with ⟨xs, ys, rfl, rfl, _⟩ | ⟨a, b, xs, ys, rfl, rfl, _⟩ | ⟨a, b, ks, ls, rfl, rfl, _⟩
        · obtain ⟨a, _, rfl, _⟩ := rd.tupT
          obtain ⟨b, _, rfl, _⟩ := re.tupT
          exact ⟨a, b, rx, ry⟩
        · cases rd; cases re; exact ⟨a, b, rx, ry⟩
        · cases rd; cases re; exact ⟨a, b, rx, ry⟩
      obtain ⟨a, b, rfl, rfl⟩ := key
      by_cases e : a = b
      · subst e
        exact (SeqAt.EqAt.same _).eqP
      · exact SeqAt.eqP_refs e step
end
section
variable {X : Cx} {G : GK}
theorem op_eqT_ok (hG : G.K = X.K) (hu : X.A.units + 65 < cLine) : OpR X (compareOp .Eq) (LO2 G (xCmp .eqT)) := by
  intro pins s σ H x y v u Q I rx ry q
  obtain ⟨d, e, h, Qa, rd, re, hr, ⟨q, qa⟩, ql⟩ := q
  exact (eqt_step hG I hr (A := X.A) (by omega) (eqt_run hG I hr 6 X.A.in1 (by show X.A.units + 1 + 6 + 8 < cLine; omega)) q rd re rx ry _ _).1 ⟨.bl true, H, I, rfl, ql (.bl true) _ _ _ (HX.refl H) hr rfl qa⟩
theorem op_neT_ok (hG : G.K = X.K) (hu : X.A.units + 65 < cLine) : OpR X (compareOp .NotEq) (LO2 G (xCmp .neT)) := by
  intro pins s σ H x y v u Q I rx ry q
  obtain ⟨d, e, h, Qa, rd, re, hr, ⟨q, qa⟩, ql⟩ := q
  exact (eqt_step hG I hr (A := X.A) (by omega) (eqt_run hG I hr 6 X.A.in1 (by show X.A.units + 1 + 6 + 8 < cLine; omega)) q rd re rx ry _ _).2 ⟨.bl false, H, I, rfl, ql (.bl false) _ _ _ (HX.refl H) hr rfl qa⟩
end
end PL

set_option maxHeartbeats 4000000
/-! PL, part d: the operations over the hand layer, further. -/
namespace PL
open PySem PySem.Spec PyProof.Rows L2

section
variable {K : PySem.W.Frag} {H : Hp}
theorem key_split {y : DV} (k : keyOk y = true) : ∃ j, y = keyD j := by
  cases y <;> simp [keyOk] at k
  · exact ⟨.inl _, rfl⟩
  · exact ⟨.inr ⟨_⟩, by simp [keyD]; rfl⟩
theorem kv_of_rel {j : Key} {x : V} (r : DRel K H (keyD j) x) : x = kV j ∧ DRel K H (keyD j) (kV j) := by
  have e := rel_of_key (keyK_keyD j) r
  subst e
  exact ⟨rfl, r⟩
end
section
variable {X : Cx} {G : GK}
theorem op_din (hu : X.A.units + 65 < cLine) : OpR X (compareOp .In) (fun y x H Q => ∃ a o, x = .ref a ∧ DGet H a y o ∧ Q (.bl o.isSome) H) := by
  intro pins s σ H y x v u Q I ry rx h
  obtain ⟨a, o, rfl, g, q⟩ := h
  cases rx
  exact d_in (by omega) I g ry fun s' I' => ⟨.bl o.isSome, H, I', rfl, q⟩
theorem op_dnin (hu : X.A.units + 65 < cLine) : OpR X (compareOp .NotIn) (fun y x H Q => ∃ a o, x = .ref a ∧ DGet H a y o ∧ Q (.bl (!o.isSome)) H) := by
  intro pins s σ H y x v u Q I ry rx h
  obtain ⟨a, o, rfl, g, q⟩ := h
  cases rx
  exact d_notIn (by omega) I g ry fun s' I' => ⟨.bl (!o.isSome), H, I', rfl, q⟩
theorem dget_of {H : Hp} {h : AH} {a : Addr} {kvs : List (DV × DV)} {y : DV} {v : V} (hr : HRel G H h) (e : rdD h a = some kvs) (ko : keyOk y = true) (ry : DRel G.K H y v) :
    ∃ o, DGet H a v o ∧ ((dget kvs y = none ∧ o = none) ∨ ∃ d w, dget kvs y = some d ∧ o = some w ∧ DRel G.K H d w) := by
  obtain ⟨q, e1, e2⟩ := rdD_of hr e
  obtain ⟨j, rfl⟩ := key_split ko
  obtain ⟨rfl, rk⟩ := kv_of_rel ry
  refine ⟨_, .inl ⟨q, j, e1, rfl, rfl⟩, ?_⟩
  rcases dget_rel j e2 with ⟨h1, h2⟩ | ⟨d, w, h1, h2, h3⟩
  · exact .inl ⟨h1, h2⟩
  · exact .inr ⟨d, w, h1, h2, h3⟩
theorem op_in_ok (hG : G.K = X.K) (hu : X.A.units + 65 < cLine) : OpR X (compareOp .In) (LO2 G (xCmp .isin)) := by
  refine OpR.weak (OpR.or (OpR.or op_in_sign op_in_seq) (OpR.or (op_inD hu) (op_din hu))) ?_
  rintro x y H Q ⟨d, e, h, Qa, rd, re, hr, q, ql⟩
  cases e <;> try exact False.elim q
  · obtain ⟨c, rfl, q⟩ := q
    obtain ⟨rfl, _⟩ := rd
    obtain ⟨rfl, _⟩ := re
    exact .inl (.inl ⟨c, _, rfl, rfl, ql (.bl _) _ _ _ (HX.refl H) hr (by simp [DRel]) q⟩)
  · rename_i a
    cases re
    rcases q with ⟨ys, e1, q⟩ | ⟨kvs, e1, ko, q⟩
    · obtain ⟨vs, s1, s2⟩ := seq_of hr e1
      rcases q with ⟨f1, f2, q⟩ | ⟨b, q1, q2⟩
      · refine .inl (.inr ⟨a, vs, rfl, .inl (by rw [← hG]; exact s1), flat_rel f1 rd, flat_rels f2 s2, ?_⟩)
        rw [inV_rel f1 rd f2 s2]
        exact ql (.bl _) _ _ _ (HX.refl H) hr (by simp [DRel]) q
      · obtain ⟨p, qs, d1, d2, h1, h2, h3⟩ := inD_rel hr rd s1 s2 q1
        rw [hG] at d1 d2
        refine .inr (.inl ⟨p, qs, d1, d2, h1, h2, ?_⟩)
        rw [h3]
        exact ql (.bl _) _ _ _ (HX.refl H) hr rfl (by simpa using q2)
    · obtain ⟨o, g, z⟩ := dget_of hr e1 ko rd
      refine .inr (.inr ⟨a, o, rfl, g, ?_⟩)
      rcases z with ⟨z1, rfl⟩ | ⟨d, w, z1, rfl, _⟩
      · exact ql (.bl _) _ _ _ (HX.refl H) hr rfl (by simpa [z1] using q)
      · exact ql (.bl _) _ _ _ (HX.refl H) hr rfl (by simpa [z1] using q)
  · obtain ⟨a, vs, rfl, s1, s2⟩ := re.tupT
    obtain ⟨f1, f2, q⟩ := q
    refine .inl (.inr ⟨a, vs, rfl, .inr (by rw [← hG]; exact s1), flat_rel f1 rd, flat_rels f2 s2, ?_⟩)
    rw [inV_rel f1 rd f2 s2]
    exact ql (.bl _) _ _ _ (HX.refl H) hr (by simp [DRel]) q
theorem op_nin_ok (hG : G.K = X.K) (hu : X.A.units + 65 < cLine) : OpR X (compareOp .NotIn) (LO2 G (xCmp .nin)) := by
  refine OpR.weak (OpR.or (OpR.or op_notIn_sign op_notIn_seq) (OpR.or (op_notInD hu) (op_dnin hu))) ?_
  rintro x y H Q ⟨d, e, h, Qa, rd, re, hr, q, ql⟩
  cases e <;> try exact False.elim q
  · obtain ⟨c, rfl, q⟩ := q
    obtain ⟨rfl, _⟩ := rd
    obtain ⟨rfl, _⟩ := re
    exact .inl (.inl ⟨c, _, rfl, rfl, ql (.bl _) _ _ _ (HX.refl H) hr (by simp [DRel]) q⟩)
  · rename_i a
    cases re
    rcases q with ⟨ys, e1, q⟩ | ⟨kvs, e1, ko, q⟩
    · obtain ⟨vs, s1, s2⟩ := seq_of hr e1
      rcases q with ⟨f1, f2, q⟩ | ⟨b, q1, q2⟩
      · refine .inl (.inr ⟨a, vs, rfl, .inl (by rw [← hG]; exact s1), flat_rel f1 rd, flat_rels f2 s2, ?_⟩)
        rw [inV_rel f1 rd f2 s2]
        exact ql (.bl _) _ _ _ (HX.refl H) hr (by simp [DRel]) q
      · obtain ⟨p, qs, d1, d2, h1, h2, h3⟩ := inD_rel hr rd s1 s2 q1
        rw [hG] at d1 d2
        refine .inr (.inl ⟨p, qs, d1, d2, h1, h2, ?_⟩)
        rw [h3]
        exact ql (.bl _) _ _ _ (HX.refl H) hr rfl (by simpa using q2)
    · obtain ⟨o, g, z⟩ := dget_of hr e1 ko rd
      refine .inr (.inr ⟨a, o, rfl, g, ?_⟩)
      rcases z with ⟨z1, rfl⟩ | ⟨d, w, z1, rfl, _⟩
      · exact ql (.bl _) _ _ _ (HX.refl H) hr rfl (by simpa [z1] using q)
      · exact ql (.bl _) _ _ _ (HX.refl H) hr rfl (by simpa [z1] using q)
  · obtain ⟨a, vs, rfl, s1, s2⟩ := re.tupT
    obtain ⟨f1, f2, q⟩ := q
    refine .inl (.inr ⟨a, vs, rfl, .inr (by rw [← hG]; exact s1), flat_rel f1 rd, flat_rels f2 s2, ?_⟩)
    rw [inV_rel f1 rd f2 s2]
    exact ql (.bl _) _ _ _ (HX.refl H) hr (by simp [DRel]) q
/-! ### subscripts -/
theorem ix_dict (hu : X.A.units + 65 < cLine) : IxR X (fun x y H Q => ∃ a v, x = .ref a ∧ DGet H a y (some v) ∧ Q v H) := by
  intro value slice pins s σ H x y v u Q I rx ry h hs
  obtain ⟨a, w, rfl, g, q⟩ := h
  cases rx
  unfold subscriptTail
  refine wpAny_bind ?_
  have hT := dict_typeIs I g
  rw [getitemInPython_of_ne hT.not_modules]
  refine wpAny_bind (wpAny_specialOf hT PySem.F.slot_dict_getitem.lookup ?_)
  have fin : wpAny (model X.prog X.w) X.A (subscripted slice false (.ref a) u) (fun r s₃ => wpAny (model X.prog X.w) X.A (letTemporaryGo value (.ref a) r >>= fun _ => pure r) (EP X pins σ Q) X.xe s₃) X.xe s := by
    rw [hs]
    exact wpAny_operating (d_getItem (by omega) I g ry fun w' s' I' r' => wpAny_bind (wpAny_letTemporaryGo (wpAny_pure ⟨w, H, I', r', q⟩)))
  first
    | exact wpAny_pure (wpAny_bind fin)
    | exact wpAny_bind (wpAny_pure (wpAny_bind fin))
    | exact wpAny_bind fin
theorem atI_rel {K : PySem.W.Frag} {H : Hp} {ds : List DV} {vs : List V} {i : Int} {d : DV} (r : DRels K H ds vs) (e : atI ds i = some d) : ∃ v, atI vs i = some v ∧ DRel K H d v := by
  unfold atI at e ⊢
  rw [r.length]
  cases z : ixN ds.length i with
  | none => rw [z] at e; cases e
  | some j =>
    rw [z] at e
    obtain ⟨v, e1, e2⟩ := r.get (show ds[j]? = some d from e)
    exact ⟨v, e1, e2⟩
theorem ix_ok (hG : G.K = X.K) (hu : X.A.units + 65 < cLine) : IxR X (LO2 G xIx) := by
  refine IxR.weak (IxR.or ix_seq (ix_dict hu)) ?_
  rintro x y H Q ⟨d, e, h, Qa, rd, re, hr, q, ql⟩
  cases d <;> try exact False.elim q
  · obtain ⟨rfl, ok⟩ := rd
    obtain ⟨i, c, rfl, e1, e2, q⟩ := q
    cases re
    refine .inl (.inr (.inr ⟨_, i, c, rfl, rfl, by simpa [Str.length] using e2, by simpa using e1, ?_⟩))
    refine ql (.str [c]) _ _ _ (HX.refl H) hr ⟨rfl, ?_⟩ q
    intro b hb
    simp at hb; subst hb
    obtain ⟨j, _, h2, _⟩ := atI_get e1
    exact ok _ (List.mem_of_getElem? h2)
  · rename_i a
    cases rd
    rcases q with ⟨xs, i, d, e1, rfl, e2, q⟩ | ⟨kvs, d, e1, ko, e2, q⟩
    · obtain ⟨vs, s1, s2⟩ := seq_of hr e1
      obtain ⟨v, e3, e4⟩ := atI_rel s2 e2
      cases re
      exact .inl (.inl ⟨a, vs, i, v, rfl, rfl, by rw [← hG]; exact s1, e3, ql _ _ _ _ (HX.refl H) hr e4 q⟩)
    · obtain ⟨o, g, z⟩ := dget_of hr e1 ko re
      rcases z with ⟨z1, _⟩ | ⟨d', w, z1, rfl, z2⟩
      · rw [e2] at z1; cases z1
      · rw [e2] at z1; cases z1
        exact .inr ⟨a, w, rfl, g, ql _ _ _ _ (HX.refl H) hr z2 q⟩
  · rename_i xs
    obtain ⟨a, vs, rfl, s1, s2⟩ := rd.tupT
    obtain ⟨i, d, rfl, e1, q⟩ := q
    cases re
    obtain ⟨v, e3, e4⟩ := atI_rel s2 e1
    exact .inl (.inr (.inl ⟨a, vs, i, v, rfl, rfl, by rw [← hG]; exact s1, e3, ql _ _ _ _ (HX.refl H) hr e4 q⟩))
/-! ### slices -/
theorem cutV_rel {K : PySem.W.Frag} {H : Hp} {ds : List DV} {vs : List V} (r : DRels K H ds vs) (lo hi : Option Int) : DRels K H (cutL ds lo hi) (cutV vs lo hi) := by
  unfold cutL cutV
  rw [r.length]
  exact (r.drop _).take _
theorem sl_ok (hG : G.K = X.K) : SlR X (fun x lo hi H Q => ∃ d h Qa, DRel G.K H d x ∧ HRel G H h ∧ xSl d lo hi h Qa ∧ QL G H Qa Q) := by
  refine SlR.weak (SlR.or sl_list (SlR.or sl_tup sl_str)) ?_
  rintro x lo hi H Q ⟨d, h, Qa, rd, hr, q, ql⟩
  cases d <;> try exact False.elim q
  · obtain ⟨rfl, ok⟩ := rd
    rename_i a
    obtain ⟨e1, q⟩ := q
    refine .inr (.inr ⟨_, rfl, by simpa [Str.length] using e1, ?_⟩)
    refine ql (.str (cutL a lo hi)) _ _ _ (HX.refl H) hr ⟨?_, fun c hc => ok c (List.mem_of_mem_drop (List.mem_of_mem_take hc))⟩ q
    simp [cutS, cutL, Str.length]
  · rename_i a
    cases rd
    obtain ⟨xs, e1, q⟩ := q
    obtain ⟨vs, s1, s2⟩ := seq_of hr e1
    exact .inl ⟨a, vs, rfl, by rw [← hG]; exact s1, new_ok hr q ql fun p n => ⟨_, upd_same, (cutV_rel s2 lo hi).mono (HX.new n)⟩⟩
  · rename_i xs
    obtain ⟨a, vs, rfl, s1, s2⟩ := rd.tupT
    obtain ⟨nw, q⟩ := q
    refine .inr (.inl ⟨a, vs, rfl, by rw [← hG]; exact s1, by rw [s2.length]; exact nw, fun p n => ?_⟩)
    exact ql (.tup (cutL xs lo hi)) h _ _ (HX.new n) (hr.updN n) ⟨p, _, rfl, .inl upd_same, (cutV_rel s2 lo hi).mono (HX.new n)⟩ q
end
end PL

set_option maxHeartbeats 4000000
/-! PL, part e: built-in functions and methods. -/
namespace PL
open PySem PySem.Spec PyProof.Rows L2

section
variable {X : Cx} {G : GK}
def bfV : BF → Value
  | .len => .builtin "len"
  | .list => .type "list"
  | .tuple => .type "tuple"
  | .dict => .type "dict"
  | .str => .type "str"
  | .int => .type "int"
  | .sum => .builtin "sum"
  | .max => .builtin "max"
  | .min => .builtin "min"
  | .abs => .builtin "abs"
  | .all => .builtin "all"
  | .divmod => .builtin "divmod"
  | .sorted => .builtin "sorted"
theorem call_lenR : CallR X (.builtin "len") (fun xs H Q => ∃ a kvs, xs = [V.ref a] ∧ Rd H a (.dK kvs) ∧ Q (.int kvs.length) H) := by
  intro pins s σ H xs us Q I r h
  obtain ⟨a, kvs, rfl, ha, q⟩ := h
  obtain ⟨u, rfl, ru⟩ := vals1 r
  cases ru
  exact d_len I ha fun t s' I' => ⟨.int _, H, I', ⟨t, rfl⟩, q⟩
theorem tOk_num (i : Int) : tOk (numT i) ∧ (⟨(numT i).toArray⟩ : Str) = Str.ofString (toString i) := by
  refine ⟨?_, ?_⟩
  · intro c hc
    unfold numT at hc
    obtain ⟨x, _, rfl⟩ := List.mem_map.mp hc
    have h := x.valid
    show x.val.toNat < 1114112
    simp only [UInt32.isValidChar, Nat.isValidChar] at h
    omega
  · rw [Str.ofString_eq_toList]; rfl
end
theorem strs_of_map {K : PySem.W.Frag} {H : Hp} {q : List (Key × V)} : ∀ {xs : List (List Nat)}, DRels K H (xs.map .str) (q.map fun kv => kV kv.1) → q.map (·.1) = (xs.map mkS).map Sum.inr := by
  induction q with
  | nil =>
    intro xs r
    cases xs with
    | nil => rfl
    | cons x xs => obtain ⟨_, _, z, _⟩ := r; cases z
  | cons a q ih =>
    intro xs r
    cases xs with
    | nil => cases r
    | cons x xs =>
      obtain ⟨v, w, z, r1, r2⟩ := r
      simp only [List.map_cons, List.cons.injEq] at z
      obtain ⟨z1, z2⟩ := z
      subst z1 z2
      rw [List.map_cons, List.map_cons, List.map_cons, ih r2]
      congr 1
      obtain ⟨k, u⟩ := a
      cases k with
      | inl i => obtain ⟨z, _⟩ := r1; cases z
      | inr y => obtain ⟨z, _⟩ := r1; cases z; rfl
theorem perm_mk {ys : List Str} {xs : List (List Nat)} (h : ys.Perm (xs.map mkS)) : ∃ zs : List (List Nat), ys = zs.map mkS ∧ zs.Perm xs := by
  refine ⟨ys.map fun y => y.cps.toList, ?_, ?_⟩
  · rw [List.map_map]
    rw [show (mkS ∘ fun y : Str => y.cps.toList) = id from funext fun y => by cases y; rfl]
    simp
  · have := h.map fun y : Str => y.cps.toList
    rw [List.map_map] at this
    rw [show ((fun y : Str => y.cps.toList) ∘ mkS) = id from funext fun y => by simp [mkS]] at this
    simpa using this
theorem drels_map {K : PySem.W.Frag} {H : Hp} {α : Type} {f : α → DV} {g : α → V} : ∀ {l : List α}, (∀ z ∈ l, DRel K H (f z) (g z)) → DRels K H (l.map f) (l.map g)
  | [], _ => rfl
  | z :: l, h => ⟨g z, _, rfl, h z (by simp), drels_map fun y hy => h y (by simp [hy])⟩
section
variable {X : Cx} {G : GK} (hG : G.K = X.K) (hc : X.calm = true)
include hG hc
theorem bf_len : CallR X (.builtin "len") (LOC G xLen) := by
  refine CallR.weak (CallR.or call_len_str (CallR.or call_len_seq call_lenR)) ?_
  rintro xs H Q ⟨ds, h, Qa, rd, hr, q, ql⟩
  unfold xLen at q
  split at q
  · rename_i a
    obtain ⟨v, w, rfl, ⟨rfl, ok⟩, rfl⟩ := rd
    exact .inl ⟨_, rfl, by simpa [Str.length] using q.1, ql (.int _) _ _ _ (HX.refl H) hr (by simp [DRel, Str.length]) q.2⟩
  · rename_i a
    obtain ⟨v, w, rfl, r, rfl⟩ := rd
    obtain ⟨p, vs, rfl, s1, s2⟩ := r.tupT
    exact .inr (.inl ⟨p, vs, rfl, .inr (by rw [← hG]; exact s1), ql (.int _) _ _ _ (HX.refl H) hr (by simp [DRel, s2.length]) q⟩)
  · rename_i a
    obtain ⟨v, w, rfl, r, rfl⟩ := rd
    cases r
    rcases q with ⟨xs, e1, q⟩ | ⟨kvs, e1, q⟩
    · obtain ⟨vs, s1, s2⟩ := seq_of hr e1
      exact .inr (.inl ⟨a, vs, rfl, .inl (by rw [← hG]; exact s1), ql (.int _) _ _ _ (HX.refl H) hr (by simp [DRel, s2.length]) q⟩)
    · obtain ⟨kv, s1, s2⟩ := rdD_of hr e1
      exact .inr (.inr ⟨a, kv, rfl, s1, ql (.int _) _ _ _ (HX.refl H) hr (by simp [DRel, s2.length]) q⟩)
  · exact q.elim
theorem bf_list : CallR X (.type "list") (LOC G xList) := by
  refine CallR.weak (CallR.or call_list_of (call_listD hc)) ?_
  rintro xs H Q ⟨ds, h, Qa, rd, hr, q, ql⟩
  unfold xList at q
  split at q
  · rename_i a
    obtain ⟨v, w, rfl, r, rfl⟩ := rd
    obtain ⟨p, vs, rfl, s1, s2⟩ := r.tupT
    exact .inl ⟨p, vs, rfl, .inr (by rw [← hG]; exact s1), new_ok hr q ql fun p n => ⟨_, upd_same, s2.mono (HX.new n)⟩⟩
  · rename_i a
    obtain ⟨v, w, rfl, r, rfl⟩ := rd
    cases r
    rcases q with ⟨xs, e1, q⟩ | ⟨kvs, e1, q⟩
    · obtain ⟨vs, s1, s2⟩ := seq_of hr e1
      exact .inl ⟨a, vs, rfl, .inl (by rw [← hG]; exact s1), new_ok hr q ql fun p n => ⟨_, upd_same, s2.mono (HX.new n)⟩⟩
    · obtain ⟨kv, s1, s2⟩ := rdD_of hr e1
      exact .inr ⟨a, kv, rfl, s1, new_ok hr q ql fun p n => ⟨_, upd_same, s2.keys.mono (HX.new n)⟩⟩
  · exact q.elim
theorem bf_tuple : CallR X (.type "tuple") (LOC G xTuple) := by
  refine CallR.weak (call_tuple_of) ?_
  rintro xs H Q ⟨ds, h, Qa, rd, hr, q, ql⟩
  unfold xTuple at q
  split at q
  · rename_i a
    obtain ⟨v, w, rfl, r, rfl⟩ := rd
    obtain ⟨p, vs, rfl, s1, s2⟩ := id r.tupT
    exact ⟨p, vs, rfl, .inr ⟨by rw [← hG]; exact s1, ql _ _ _ _ (HX.refl H) hr r q⟩⟩
  · rename_i a
    obtain ⟨v, w, rfl, r, rfl⟩ := rd
    cases r
    obtain ⟨xs, e1, q⟩ := q
    obtain ⟨vs, s1, s2⟩ := seq_of hr e1
    refine ⟨a, vs, rfl, .inl ⟨by rw [← hG]; exact s1, fun p n => ?_⟩⟩
    exact ql (.tup xs) h _ _ (HX.new n) (hr.updN n) ⟨p, _, rfl, .inl upd_same, s2.mono (HX.new n)⟩ q
  · exact q.elim
theorem bf_dict : CallR X (.type "dict") (LOC G xDict) := by
  refine CallR.weak (call_dictD) ?_
  rintro xs H Q ⟨ds, h, Qa, rd, hr, q, ql⟩
  unfold xDict at q
  split at q
  · rename_i a
    obtain ⟨v, w, rfl, r, rfl⟩ := rd
    cases r
    obtain ⟨kvs, e1, q⟩ := q
    obtain ⟨kv, s1, s2⟩ := rdD_of hr e1
    exact ⟨a, kv, rfl, s1, new_ok hr q ql fun p n => ⟨_, upd_same, s2.mono (HX.new n)⟩⟩
  · exact q.elim
theorem bf_str : CallR X (.type "str") (LOC G xStr) := by
  refine CallR.weak (call_str_int) ?_
  rintro xs H Q ⟨ds, h, Qa, rd, hr, q, ql⟩
  unfold xStr at q
  split at q
  · rename_i i
    obtain ⟨v, w, rfl, r, rfl⟩ := rd
    cases r
    exact ⟨i, rfl, q.1, ql (.str (numT i)) _ _ _ (HX.refl H) hr ⟨by rw [(tOk_num i).2], (tOk_num i).1⟩ q.2⟩
  · exact q.elim
theorem bf_int : CallR X (.type "int") (LOC G xInt) := by
  refine CallR.weak (CallR.or call_int1 call_int_str) ?_
  rintro xs H Q ⟨ds, h, Qa, rd, hr, q, ql⟩
  unfold xInt at q
  split at q
  · rename_i i
    obtain ⟨v, w, rfl, r, rfl⟩ := rd
    cases r
    exact .inl (.inl ⟨i, rfl, ql (.int _) _ _ _ (HX.refl H) hr rfl q⟩)
  · rename_i i
    obtain ⟨v, w, rfl, r, rfl⟩ := rd
    cases r
    exact .inl (.inr ⟨i, rfl, ql (.int _) _ _ _ (HX.refl H) hr rfl q⟩)
  · rename_i a
    obtain ⟨v, w, rfl, ⟨rfl, ok⟩, rfl⟩ := rd
    obtain ⟨n, e1, e2, q⟩ := q
    exact .inr ⟨_, n, rfl, e1, by simpa [Str.length] using e2, ql (.int _) _ _ _ (HX.refl H) hr rfl q⟩
  · exact q.elim
theorem bf_sum : CallR X (.builtin "sum") (LOC G xSum) := by
  refine CallR.weak (cr_sum hc) ?_
  rintro xs H Q ⟨ds, h, Qa, rd, hr, q, ql⟩
  unfold xSum at q
  split at q
  · rename_i a
    obtain ⟨v, w, rfl, r, rfl⟩ := rd
    cases r
    obtain ⟨ns, e1, q⟩ := q
    obtain ⟨vs, s1, s2⟩ := seq_of hr e1
    rw [s2.ints, hG] at s1
    exact ⟨a, ns, rfl, s1, ql (.int _) _ _ _ (HX.refl H) hr rfl q⟩
  · exact q.elim
theorem bf_max : CallR X (.builtin "max") (LOC G xMax) := by
  refine CallR.weak (CallR.or (call_max2 hc) (cr_max hc)) ?_
  rintro xs H Q ⟨ds, h, Qa, rd, hr, q, ql⟩
  unfold xMax at q
  split at q
  · rename_i i j
    obtain ⟨v, w, rfl, r, v2, w2, rfl, r2, rfl⟩ := rd
    cases r; cases r2
    exact .inl ⟨i, j, rfl, ql (.int _) _ _ _ (HX.refl H) hr rfl q⟩
  · rename_i a
    obtain ⟨v, w, rfl, r, rfl⟩ := rd
    cases r
    obtain ⟨ns, e1, e2, q⟩ := q
    obtain ⟨vs, s1, s2⟩ := seq_of hr e1
    rw [s2.ints, hG] at s1
    exact .inr ⟨a, ns, rfl, s1, e2, fun m h1 h2 => ql (.int _) _ _ _ (HX.refl H) hr rfl (q m h1 h2)⟩
  · exact q.elim
theorem cr_min2t (hu : X.A.units + 65 < cLine) : CallR X (.builtin "min") (fun vs H Q => ∃ (a : Addr) (i j : Int), vs = [V.ref a] ∧ SqT X.K H a [V.int i, V.int j] ∧ Q (.int (if j < i then j else i)) H) := by
  intro pins s σ H vs us Q I r h
  obtain ⟨a, i, j, rfl, hs, q⟩ := h
  obtain ⟨its, rv, hl, _⟩ := I.tuple hs
  rw [Vals.ref1 r]
  obtain ⟨u1, u2, rfl, ⟨t1, e1⟩, ⟨t2, e2⟩⟩ : ∃ u1 u2, its = [u1, u2] ∧ RelV (.int i) u1 ∧ RelV (.int j) u2 := by
    cases rv with
    | cons r1 rv => cases rv with
      | cons r2 rv => cases rv; exact ⟨_, _, rfl, r1, r2⟩
  subst e1 e2
  have e := PySem.W.minD_ints i [j]
  simp only [List.map_cons, List.map_nil, List.foldl_cons, List.foldl_nil] at e
  refine PySem.W.min_tuple_data (x := .int i) (xs := [.int j]) (as := [] ++ ([] ++ [])) (I.ok.hd hc) hl (.cons (.int _ _) (.cons (.int _ _) .nil)) ⟨?_, ?_⟩ ?_ fun n v h' tk bs hv hr hk => ?_
  · intro x hx y hy
    simp only [List.mem_cons, List.not_mem_nil, or_false] at hx hy
    rcases hx with rfl | rfl <;> rcases hy with rfl | rfl <;> rfl
  · intro x hx
    simp only [List.mem_cons, List.not_mem_nil, or_false] at hx
    rcases hx with rfl | rfl <;> intro z <;> cases z
  · have : PyData.depthAll [.int i, .int j] ≤ 10 := Nat.le_of_ble_eq_true rfl
    omega
  · rw [e] at hr
    have em : min i j = if j < i then j else i := by split <;> omega
    rw [em] at hr
    cases hr
    exact ⟨.int _, H, I.kept hk, ⟨_, rfl⟩, q⟩
theorem bf_min (hu : X.A.units + 65 < cLine) : CallR X (.builtin "min") (LOC G xMin) := by
  refine CallR.weak (CallR.or (CallR.or (call_min2 hc) (cr_min hc)) (cr_min2t hG hc hu)) ?_
  rintro xs H Q ⟨ds, h, Qa, rd, hr, q, ql⟩
  unfold xMin at q
  split at q
  · rename_i i j
    obtain ⟨v, w, rfl, r, v2, w2, rfl, r2, rfl⟩ := rd
    cases r; cases r2
    exact .inl (.inl ⟨i, j, rfl, ql (.int _) _ _ _ (HX.refl H) hr rfl q⟩)
  · rename_i i j
    obtain ⟨v, w, rfl, ⟨b, vs, rfl, hb, r⟩, rfl⟩ := rd
    obtain ⟨v1, w1, rfl, r1, v2, w2, rfl, r2, r3⟩ := r
    cases r1; cases r2; cases r3
    refine .inr ⟨b, i, j, rfl, ?_, ql (.int _) _ _ _ (HX.refl H) hr rfl q⟩
    have := (DRel.tupT (K := G.K) (H := H) (ds := [.int i, .int j]) (v := .ref b) ⟨b, _, rfl, hb, ⟨_, _, rfl, rfl, _, _, rfl, rfl, rfl⟩⟩)
    obtain ⟨b', vs', e, hs, hr'⟩ := this
    cases e
    obtain ⟨v1, w1, rfl, r1, v2, w2, rfl, r2, r3⟩ := hr'
    cases r1; cases r2; cases r3
    rw [← hG]; exact hs
  · rename_i a
    obtain ⟨v, w, rfl, r, rfl⟩ := rd
    cases r
    obtain ⟨ns, e1, e2, q⟩ := q
    obtain ⟨vs, s1, s2⟩ := seq_of hr e1
    rw [s2.ints, hG] at s1
    exact .inl (.inr ⟨a, ns, rfl, s1, e2, fun m h1 h2 => ql (.int _) _ _ _ (HX.refl H) hr rfl (q m h1 h2)⟩)
  · exact q.elim
theorem bf_abs : CallR X (.builtin "abs") (LOC G xAbs) := by
  refine CallR.weak (call_abs) ?_
  rintro xs H Q ⟨ds, h, Qa, rd, hr, q, ql⟩
  unfold xAbs at q
  split at q
  · rename_i i
    obtain ⟨v, w, rfl, r, rfl⟩ := rd
    cases r
    exact ⟨i, rfl, ql (.int _) _ _ _ (HX.refl H) hr rfl q⟩
  · exact q.elim
theorem bf_all : CallR X (.builtin "all") (LOC G xAll) := by
  refine CallR.weak (cr_all hc) ?_
  rintro xs H Q ⟨ds, h, Qa, rd, hr, q, ql⟩
  unfold xAll at q
  split at q
  · rename_i a
    obtain ⟨v, w, rfl, r, rfl⟩ := rd
    cases r
    obtain ⟨ns, e1, q⟩ := q
    obtain ⟨vs, s1, s2⟩ := seq_of hr e1
    rw [s2.bls, hG] at s1
    exact ⟨a, ns, rfl, s1, ql (.bl _) _ _ _ (HX.refl H) hr rfl q⟩
  · exact q.elim
theorem bf_divmod : CallR X (.builtin "divmod") (LOC G xDivmod) := by
  refine CallR.weak (call_divmod) ?_
  rintro xs H Q ⟨ds, h, Qa, rd, hr, q, ql⟩
  unfold xDivmod at q
  split at q
  · rename_i i j
    obtain ⟨v, w, rfl, r, v2, w2, rfl, r2, rfl⟩ := rd
    cases r; cases r2
    obtain ⟨q1, q2, q⟩ := q
    refine ⟨i, j, rfl, ⟨q1, q2⟩, fun p n => ?_⟩
    exact ql (.tup [.int (i / j), .int (i % j)]) h _ _ (HX.new n) (hr.updN n) ⟨p, _, rfl, .inl upd_same, _, _, rfl, rfl, _, _, rfl, rfl, rfl⟩ q
  · exact q.elim
theorem bf_sorted (hu : X.A.units + 65 < cLine) : CallR X (.builtin "sorted") (LOC G xSorted) := by
  refine CallR.weak (CallR.or (CallR.or cr_sortedS (KF.cr_sortD hu)) (call_sortedD hc)) ?_
  rintro xs H Q ⟨ds, h, Qa, rd, hr, q, ql⟩
  unfold xSorted at q
  split at q
  · rename_i a
    obtain ⟨v, w, rfl, r, rfl⟩ := rd
    cases r
    rcases q with ⟨xs, e1, l, q⟩ | ⟨qs, e1, e2, al, so, q⟩ | ⟨kvs, xs, e1, e2, l, q⟩
    · obtain ⟨vs, s1, s2⟩ := seq_of hr e1
      have ev := s2.strs
      subst ev
      refine .inl (.inl ⟨a, _, rfl, by rw [← hG]; exact s1, by simpa using l, fun ys p pm so np => ?_⟩)
      obtain ⟨zs, rfl, pz⟩ := perm_mk pm
      exact new_ok hr (q zs pz so) ql (fun p n => ⟨_, upd_same, (DRels.of_strs fun y hy => s2.strs_ok y (pz.mem_iff.mp hy)).mono (HX.new n)⟩) p np
    · obtain ⟨vs, s1, s2⟩ := seq_of hr e1
      have hlen : vs.length = qs.length := by rw [s2.length, List.length_map]
      have key : ∀ z ∈ vs.zip qs, DRel G.K H z.2.1 z.1 ∧ py h 8 z.2.1 = some z.2.2 := fun z hz => by
        obtain ⟨i, hi⟩ := List.getElem?_of_mem hz
        obtain ⟨h1, h2⟩ := List.getElem?_zip_eq_some.mp hi
        obtain ⟨d, h3, h4⟩ := s2.get' h1
        rw [List.getElem?_map, h2] at h3
        cases h3
        exact ⟨h4, e2 _ (List.mem_of_getElem? h2)⟩
      have f1 : (vs.zip qs).map (·.1) = vs := List.map_fst_zip (by omega)
      have f2 : (vs.zip qs).map (·.2) = qs := List.map_snd_zip (by omega)
      have g1 : ((vs.zip qs).map fun z => (z.1, z.2.2)).map (·.1) = vs := by rw [List.map_map]; exact f1
      have g2 : ((vs.zip qs).map fun z => (z.1, z.2.2)).map (·.2) = qs.map (·.2) := by
        rw [List.map_map]
        conv => rhs; rw [← f2, List.map_map]
        rfl
      refine .inl (.inr ⟨a, (vs.zip qs).map fun z => (z.1, z.2.2), rfl, by rw [g1, ← hG]; exact s1, fun q' hq => ?_, by rw [g2]; exact al, by rw [g2]; exact so, ?_⟩)
      · obtain ⟨z, hz, rfl⟩ := List.mem_map.mp hq
        obtain ⟨k1, k2⟩ := key z hz
        obtain ⟨a1, _, a3⟩ := py_dp hr k1 k2
        rw [hG] at a1
        exact ⟨a1, a3⟩
      · have m1 : ((vs.zip qs).map fun z => (z.1, z.2.2)).mergeSort (PySem.W.dataLe false fun q => q.2) = ((vs.zip qs).mergeSort (PySem.W.dataLe false fun z => z.2.2)).map fun z => (z.1, z.2.2) := (List.map_mergeSort (r := PySem.W.dataLe false fun (z : V × DV × PyData) => z.2.2) (s := PySem.W.dataLe false fun (q : V × PyData) => q.2) (f := fun (z : V × DV × PyData) => (z.1, z.2.2)) fun _ _ _ _ => rfl).symm
        have m2 : qs.mergeSort (PySem.W.dataLe false fun q => q.2) = ((vs.zip qs).mergeSort (PySem.W.dataLe false fun z => z.2.2)).map (·.2) := by
          conv => lhs; rw [← f2]
          exact (List.map_mergeSort (r := PySem.W.dataLe false fun (z : V × DV × PyData) => z.2.2) (s := PySem.W.dataLe false fun (q : DV × PyData) => q.2) (f := fun (z : V × DV × PyData) => z.2) fun _ _ _ _ => rfl).symm
        rw [m1, List.map_map]
        rw [m2, List.map_map] at q
        have dr := drels_map (K := G.K) (H := H) (f := (fun (x : DV × PyData) => x.1) ∘ fun (x : V × DV × PyData) => x.2) (g := (fun (x : V × PyData) => x.1) ∘ fun (z : V × DV × PyData) => (z.1, z.2.2)) (l := (vs.zip qs).mergeSort (PySem.W.dataLe false fun z => z.2.2)) fun z hz => (key z ((List.mergeSort_perm _ _).mem_iff.mp hz)).1
        exact new_ok hr q ql fun p n => ⟨_, upd_same, dr.mono (HX.new n)⟩
    · obtain ⟨kv, s1, s2⟩ := rdD_of hr e1
      have sk := s2.keys
      rw [e2] at sk
      refine .inr ⟨a, kv, xs.map mkS, rfl, s1, strs_of_map sk, by simpa using l, fun ys p pm so np => ?_⟩
      obtain ⟨zs, rfl, pz⟩ := perm_mk pm
      exact new_ok hr (q zs pz so) ql (fun p n => ⟨_, upd_same, (DRels.of_strs fun y hy => sk.strs_ok y (pz.mem_iff.mp hy)).mono (HX.new n)⟩) p np
  · exact q.elim
theorem bf_ok (hu : X.A.units + 65 < cLine) (b : BF) : CallR X (bfV b) (LOC G (xBF b)) := by
  cases b with
  | len => exact bf_len hG hc
  | list => exact bf_list hG hc
  | tuple => exact bf_tuple hG hc
  | dict => exact bf_dict hG hc
  | str => exact bf_str hG hc
  | int => exact bf_int hG hc
  | sum => exact bf_sum hG hc
  | max => exact bf_max hG hc
  | min => exact bf_min hG hc hu
  | abs => exact bf_abs hG hc
  | all => exact bf_all hG hc
  | divmod => exact bf_divmod hG hc
  | sorted => exact bf_sorted hG hc hu
end
end PL

set_option maxHeartbeats 4000000
/-! PL, part f: methods of built-in types. -/
namespace PL
open PySem PySem.Spec PyProof.Rows L2

def BM.id : BM → String
  | .append => "list.append" | .extend => "list.extend" | .pop => "list.pop" | .insert => "list.insert" | .remove => "list.remove" | .index => "list.index" | .indexD => "list.index" | .sindex => "str.index"
  | .count => "list.count" | .reverse => "list.reverse" | .clear => "list.clear" | .join => "str.join" | .split => "str.split" | .partition => "str.partition"
  | .find => "str.find" | .replace => "str.replace" | .upper => "str.upper" | .isdigit => "str.isdigit" | .get => "dict.get" | .setdefault => "dict.setdefault" | .update => "dict.update" | .dpop => "dict.pop"
theorem tS_tl (x : List Nat) : TL.tl (⟨x.toArray⟩ : Str) = x := by simp [TL.tl]
theorem str_of_tl {s : Str} {x : List Nat} (h : TL.tl s = x) : s = ⟨x.toArray⟩ := by
  rw [← h]
theorem joinL_ok {a : List Nat} (oa : tOk a) : ∀ {ys : List (List Nat)}, (∀ y ∈ ys, tOk y) → tOk (TL.joinL a ys)
  | [], _ => by intro c hc; simp [TL.joinL] at hc
  | [p], h => by simpa [TL.joinL] using h p (by simp)
  | p :: q :: r, h => by
    intro c hc
    simp only [TL.joinL, List.mem_append] at hc
    rcases hc with hc | hc | hc
    · exact h p (by simp) c hc
    · exact oa c hc
    · exact joinL_ok oa (fun y hy => h y (List.mem_cons_of_mem _ hy)) c hc
theorem spl_mem (S : List Nat) : ∀ (l : List Nat) (k : Nat) (acc p : List Nat), p ∈ TL.spl S k acc l → ∀ c ∈ p, c ∈ acc ∨ c ∈ l
  | [], k, acc, p, hp, c, hc => by
    rw [TL.spl_nil] at hp
    simp at hp; subst hp
    exact .inl hc
  | x :: r, 0, acc, p, hp, c, hc => by
    unfold TL.spl at hp
    split at hp
    · rcases List.mem_cons.mp hp with rfl | hp
      · exact .inl hc
      · rcases spl_mem S r _ _ p hp c hc with h | h
        · simp at h
        · exact .inr (List.mem_cons_of_mem _ h)
    · rcases spl_mem S r _ _ p hp c hc with h | h
      · rcases List.mem_append.mp h with h | h
        · exact .inl h
        · simp at h; subst h; exact .inr (by simp)
      · exact .inr (List.mem_cons_of_mem _ h)
  | x :: r, k + 1, acc, p, hp, c, hc => by
    unfold TL.spl at hp
    rcases spl_mem S r k acc p hp c hc with h | h
    · exact .inl h
    · exact .inr (List.mem_cons_of_mem _ h)
theorem par_mem (S : List Nat) : ∀ (l acc p q : List Nat), TL.par S acc l = some (p, q) → (∀ c ∈ p, c ∈ acc ∨ c ∈ l) ∧ ∀ c ∈ q, c ∈ l
  | [], acc, p, q, h => by simp [TL.par] at h
  | x :: r, acc, p, q, h => by
    unfold TL.par at h
    split at h
    · cases h
      exact ⟨fun c hc => .inl hc, fun c hc => List.mem_of_mem_drop hc⟩
    · obtain ⟨h1, h2⟩ := par_mem S r _ p q h
      refine ⟨fun c hc => ?_, fun c hc => List.mem_cons_of_mem _ (h2 c hc)⟩
      rcases h1 c hc with h | h
      · rcases List.mem_append.mp h with h | h
        · exact .inl h
        · simp at h; subst h; exact .inr (by simp)
      · exact .inr (List.mem_cons_of_mem _ h)
theorem arg0_of {ds : List DV} {F : Prop} (h : arg0 ds F) : ds = [] ∧ F := by
  cases ds with
  | nil => exact ⟨rfl, h⟩
  | cons _ _ => exact h.elim
theorem arg1_of {ds : List DV} {F : DV → Prop} (h : arg1 ds F) : ∃ d, ds = [d] ∧ F d := by
  match ds, h with
  | [d], h => exact ⟨d, rfl, h⟩
theorem onS_of {d : DV} {F : List Nat → Prop} (h : onS d F) : ∃ a, d = .str a ∧ F a := by
  cases d <;> first | exact ⟨_, rfl, h⟩ | exact h.elim
theorem onR_of {d : DV} {F : Addr → Prop} (h : onR d F) : ∃ a, d = .ref a ∧ F a := by
  cases d <;> first | exact ⟨_, rfl, h⟩ | exact h.elim
section
variable {X : Cx} {G : GK}
theorem MtM.toR {id : String} {r : V → List V → Hp → VK → Prop} (h : MtM X id r) : MtR X id r := h
theorem put_ok {H : Hp} {h : AH} {p : Addr} {xs ys : List DV} {us : List V} {Qa : AQ} {Q : VK} {d : DV} {v : V} (hr : HRel G H h) (e : h p = some (.lst xs)) (r : DRels G.K H ys us) (rd : DRel G.K H d v) (q : Qa d (au h p (.lst ys))) (ql : QL G H Qa Q) : Q v (upd H p (.lst us)) := by
  obtain ⟨h1, h2⟩ := hr.put (u := .lst us) (o := .lst ys) e ⟨us, upd_same, r.mono (by
    obtain ⟨v, e1, e2, _⟩ := (hr p _ e).there
    exact HX.put e1 e2)⟩
  exact ql d _ v _ h2 h1 (rd.mono h2) q
theorem ixN_seqI {n : Nat} {i : Int} {j : Nat} (h : ixN n i = some j) : seqIndex? i n = some j := (ixN_seq h).1
theorem mt_get (hu : X.A.units + 65 < cLine) : MtR X "dict.get" (fun x xs H Q => ∃ a, x = .ref a ∧ ((∃ y o, xs = [y] ∧ DGet H a y o ∧ Q (o.getD .non) H) ∨ ∃ y d o, xs = [y, d] ∧ DGet H a y o ∧ Q (o.getD d) H)) := by
  intro pins s σ H x xs v us Q I rx rs h
  obtain ⟨a, rfl, h⟩ := h
  cases rx
  rcases h with ⟨y, o, rfl, g, q⟩ | ⟨y, d, o, rfl, g, q⟩
  · obtain ⟨u, rfl, ru⟩ := Vals.one rs
    exact d_get1 (by omega) I g ru fun w' s' I' r' => ⟨_, H, I', r', q⟩
  · obtain ⟨u, w, rfl, ru, rw⟩ := Vals.two rs
    exact d_get2 (by omega) I g ru rw fun w' s' I' r' => ⟨_, H, I', r', q⟩
theorem d_upd {X : Cx} {pins : List (Addr × Obj)} {σ : L2.St} {H : Hp} {s : Shared} {a b : Addr} {A : Around} {E : Value → Shared → Prop} {kvs more : List (Key × V)} {Q : Value → Shared → Prop} (I : Inv X pins σ H s) (e : H a = some (.dK kvs)) (e2 : H b = some (.dK more)) (hne : a ≠ b) (hl : kvs.length + more.length ≤ sizeLine)
    (h : ∀ s' : Shared, Inv X pins σ (upd H a (.dK (mergeK kvs more))) s' → Q .none s') : wpAny (model X.prog X.w) A (call (.builtin "dict.update") [.ref a, .ref b]) Q E s := by
  obtain ⟨z, hd, vs, rel, dd⟩ := dk_of I.hok e
  obtain ⟨z2, hd2, vs2, rel2, dd2⟩ := dk_of I.hok e2
  refine call_meetsIn PySem.F.slot_dict_update dd.typeIs PySem.F.entry_dict_update (PySem.F.args_dict_update_2 _ _) (meets_dict_update (mixKind X.prog X.w) a b hne hd2) ⟨vs, vs2, dd, dd2, by rw [← rel.length, ← rel2.length]; exact hl, fun h' dd' _ hs => ?_⟩
  have hl2 : (mergeK kvs more).length ≤ sizeLine := Nat.le_trans (length_mergeK more kvs) hl
  have he : ∃ q, h'.get? a = some q := let ⟨q, _, _, hq, _⟩ := dd'; ⟨q, hq⟩
  exact h _ (d_write (t' := s.toks) I (by rw [e]; exact True.intro) hs he (dk_new hl2 hd (rel2.merge rel) dd'))
theorem bm_ok (hG : G.K = X.K) (hc : X.calm = true) (hu : X.A.units + 65 < cLine) (m : BM) (hm : m ≠ .replace) : MtR X m.id (LOM G (xBM m)) := by
  cases m with
  | append =>
    refine MtR.weak (MtM.toR mt_append) ?_
    rintro x xs H Q ⟨d, ds, h, Qa, rx, rs, hr, q, ql⟩
    obtain ⟨p, rfl, q⟩ := onR_of q
    obtain ⟨e, rfl, q⟩ := arg1_of q
    cases rx
    obtain ⟨v, w, rfl, r, rfl⟩ := rs
    obtain ⟨ys, e1, e2, q⟩ := q
    obtain ⟨vs, s1, s2⟩ := lst_of hr e1
    exact ⟨p, vs, v, rfl, rfl, s1, by rw [s2.length]; exact e2, put_ok (d := .non) hr e1 (s2.append (.single r)) rfl q ql⟩
  | extend =>
    refine MtR.weak (MtM.toR mt_extend) ?_
    rintro x xs H Q ⟨d, ds, h, Qa, rx, rs, hr, q, ql⟩
    obtain ⟨p, rfl, q⟩ := onR_of q
    obtain ⟨e, rfl, q⟩ := arg1_of q
    obtain ⟨b, rfl, q⟩ := onR_of q
    cases rx
    obtain ⟨v, w, rfl, r, rfl⟩ := rs
    cases r
    obtain ⟨ys, zs, e1, e2, e3, q⟩ := q
    obtain ⟨vs, s1, s2⟩ := lst_of hr e1
    obtain ⟨us, t1, t2⟩ := lst_of hr e2
    exact ⟨p, b, vs, us, rfl, rfl, s1, t1, by rw [s2.length, t2.length]; exact e3, put_ok (d := .non) hr e1 (s2.append t2) rfl q ql⟩
  | reverse =>
    refine MtR.weak (MtM.toR mt_reverse) ?_
    rintro x xs H Q ⟨d, ds, h, Qa, rx, rs, hr, q, ql⟩
    obtain ⟨p, rfl, q⟩ := onR_of q
    obtain ⟨rfl, q⟩ := arg0_of q
    cases rx; cases rs
    obtain ⟨ys, e1, q⟩ := q
    obtain ⟨vs, s1, s2⟩ := lst_of hr e1
    exact ⟨p, vs, rfl, rfl, s1, put_ok (d := .non) hr e1 s2.reverse rfl q ql⟩
  | clear =>
    refine MtR.weak (MtM.toR mt_clear) ?_
    rintro x xs H Q ⟨d, ds, h, Qa, rx, rs, hr, q, ql⟩
    obtain ⟨p, rfl, q⟩ := onR_of q
    obtain ⟨rfl, q⟩ := arg0_of q
    cases rx; cases rs
    obtain ⟨ys, e1, q⟩ := q
    obtain ⟨vs, s1, s2⟩ := lst_of hr e1
    exact ⟨p, vs, rfl, rfl, s1, put_ok (d := .non) (ys := []) (us := []) hr e1 rfl rfl q ql⟩
  | insert =>
    refine MtR.weak mt_insert ?_
    rintro x xs H Q ⟨d, ds, h, Qa, rx, rs, hr, q, ql⟩
    obtain ⟨p, ep, q2⟩ := onR_of q
    clear q
    subst ep
    have q := q2
    clear q2
    cases rx
    split at q
    · rename_i i e
      obtain ⟨v, w, rfl, r, v2, w2, rfl, r2, rfl⟩ := rs
      cases r
      obtain ⟨ys, e1, e2, e3, e4, q⟩ := q
      obtain ⟨vs, s1, s2⟩ := lst_of hr e1
      exact ⟨p, vs, i, v2, rfl, rfl, s1, by rw [s2.length]; exact e2, e3, e4, put_ok (d := .non) hr e1 (((s2.take _).append (.single r2)).append (s2.drop _)) rfl q ql⟩
    · exact q.elim
  | pop =>
    refine MtR.weak (MtR.or (MtM.toR mt_pop) (MtM.toR mt_popAt)) ?_
    rintro x xs H Q ⟨d, ds, h, Qa, rx, rs, hr, q, ql⟩
    obtain ⟨p, ep, q2⟩ := onR_of q
    clear q
    subst ep
    have q := q2
    clear q2
    cases rx
    split at q
    · cases rs
      obtain ⟨ys, d, e1, e2, q⟩ := q
      obtain ⟨vs, s1, s2⟩ := lst_of hr e1
      obtain ⟨v, e3, r⟩ := s2.get e2
      refine .inl ⟨p, vs, v, rfl, rfl, s1, by rw [s2.length]; exact e3, put_ok hr e1 ?_ r q ql⟩
      rw [List.dropLast_eq_take, List.dropLast_eq_take, s2.length]
      exact s2.take _
    · rename_i i
      obtain ⟨v, w, rfl, r, rfl⟩ := rs
      cases r
      obtain ⟨ys, d, j, e1, e2, e3, e4, e5, q⟩ := q
      obtain ⟨vs, s1, s2⟩ := lst_of hr e1
      obtain ⟨v, e6, r⟩ := s2.get e5
      refine .inr ⟨p, vs, i, j, v, rfl, rfl, s1, e2, e3, by rw [s2.length]; exact ixN_seqI e4, e6, put_ok hr e1 ?_ r q ql⟩
      rw [List.eraseIdx_eq_take_drop_succ, List.eraseIdx_eq_take_drop_succ]
      exact (s2.take _).append (s2.drop _)
    · exact q.elim
  | join =>
    refine MtR.weak mt_join ?_
    rintro x xs H Q ⟨d, ds, h, Qa, rx, rs, hr, q, ql⟩
    obtain ⟨a, rfl, q⟩ := onS_of q
    obtain ⟨e, rfl, q⟩ := arg1_of q
    obtain ⟨p, rfl, q⟩ := onR_of q
    obtain ⟨rfl, oa⟩ := rx
    obtain ⟨v, w, rfl, r, rfl⟩ := rs
    cases r
    obtain ⟨ys, e1, e2, q⟩ := q
    obtain ⟨vs, s1, s2⟩ := seq_of hr e1
    have ev := s2.strs
    subst ev
    refine ⟨_, p, _, rfl, rfl, .inl (by rw [← hG]; exact s1), ?_, ?_⟩
    · simpa [Str.length, List.map_map, Function.comp_def] using e2
    · refine ql (.str (joinT a ys)) _ _ _ (HX.refl H) hr ⟨?_, joinL_ok oa s2.strs_ok⟩ q
      congr 1
      refine str_of_tl ?_
      rw [TL.join_eq, TL.tl_join, tS_tl, List.map_map]
      unfold joinT
      congr 1
      rw [show (TL.tl ∘ fun x => (⟨x.toArray⟩ : Str)) = id from funext fun x => tS_tl x]
      simp
  | split =>
    refine MtR.weak mt_split ?_
    rintro x xs H Q ⟨d, ds, h, Qa, rx, rs, hr, q, ql⟩
    obtain ⟨a, rfl, q⟩ := onS_of q
    obtain ⟨e, rfl, q⟩ := arg1_of q
    obtain ⟨b, rfl, q⟩ := onS_of q
    obtain ⟨rfl, oa⟩ := rx
    obtain ⟨v, w, rfl, ⟨rfl, ob⟩, rfl⟩ := rs
    obtain ⟨e1, e2, e3, q⟩ := q
    have hk : ¬ Builtin.Str.strKind (⟨a.toArray⟩ : Str) < Builtin.Str.strKind (⟨b.toArray⟩ : Str) := TL.kind_ok (by simpa using e2)
    have hs := TL.split_spl (⟨a.toArray⟩ : Str) (⟨b.toArray⟩ : Str) (by rw [tS_tl]; exact e1) hk
    rw [tS_tl, tS_tl] at hs
    refine ⟨_, _, rfl, rfl, ?_, by simpa [Str.length] using e3, ?_⟩
    · simp only [Str.length, List.size_toArray, beq_eq_false_iff_ne, ne_eq]
      exact fun z => e1 (List.length_eq_zero_iff.mp z)
    · refine new_ok hr q ql fun p n => ⟨_, upd_same, ?_⟩
      have : Txt.split (⟨a.toArray⟩ : Str) (⟨b.toArray⟩ : Str) = (splitT a b).map fun x => (⟨x.toArray⟩ : Str) := by
        unfold splitT
        rw [← hs, List.map_map]
        rw [show ((fun x => (⟨x.toArray⟩ : Str)) ∘ TL.tl) = id from funext fun x => TL.mk_tl x]
        simp
      rw [this]
      refine (DRels.of_strs fun y hy c hc => ?_).mono (HX.new n)
      rcases spl_mem b a 0 [] y hy c hc with z | z
      · simp at z
      · exact oa c z
  | partition =>
    refine MtR.weak mt_partition ?_
    rintro x xs H Q ⟨d, ds, h, Qa, rx, rs, hr, q, ql⟩
    obtain ⟨a, rfl, q⟩ := onS_of q
    obtain ⟨e, rfl, q⟩ := arg1_of q
    obtain ⟨b, rfl, q⟩ := onS_of q
    obtain ⟨rfl, oa⟩ := rx
    obtain ⟨v, w, rfl, ⟨rfl, ob⟩, rfl⟩ := rs
    obtain ⟨e1, e3, q⟩ := q
    have hs := TL.partition_par (⟨a.toArray⟩ : Str) (⟨b.toArray⟩ : Str) (by rw [tS_tl]; exact e1)
    rw [tS_tl, tS_tl] at hs
    refine ⟨_, _, rfl, rfl, ?_, by simpa [Str.length] using e3, fun p n => ?_⟩
    · simp only [Str.length, List.size_toArray, beq_eq_false_iff_ne, ne_eq]
      exact fun z => e1 (List.length_eq_zero_iff.mp z)
    · refine ql (partT a b) h _ _ (HX.new n) (hr.updN n) ?_ q
      rw [hs]
      unfold partT
      cases ep : TL.par b [] a with
      | none => exact ⟨p, _, rfl, .inl upd_same, _, _, rfl, ⟨rfl, oa⟩, _, _, rfl, ⟨rfl, by intro c hc; simp at hc⟩, _, _, rfl, ⟨rfl, by intro c hc; simp at hc⟩, rfl⟩
      | some pq =>
        obtain ⟨p1, q1⟩ := pq
        obtain ⟨m1, m2⟩ := par_mem b a [] p1 q1 ep
        exact ⟨p, _, rfl, .inl upd_same, _, _, rfl, ⟨rfl, fun c hc => (m1 c hc).elim (fun z => by simp at z) (oa c)⟩, _, _, rfl, ⟨rfl, ob⟩, _, _, rfl, ⟨rfl, fun c hc => oa c (m2 c hc)⟩, rfl⟩
  | find =>
    refine MtR.weak mt_find ?_
    rintro x xs H Q ⟨d, ds, h, Qa, rx, rs, hr, q, ql⟩
    obtain ⟨a, rfl, q⟩ := onS_of q
    obtain ⟨e, rfl, q⟩ := arg1_of q
    obtain ⟨b, rfl, q⟩ := onS_of q
    obtain ⟨rfl, oa⟩ := rx
    obtain ⟨v, w, rfl, ⟨rfl, ob⟩, rfl⟩ := rs
    exact ⟨_, _, rfl, rfl, ql (.int _) _ _ _ (HX.refl H) hr rfl q⟩
  | upper =>
    refine MtR.weak mt_upper ?_
    rintro x xs H Q ⟨d, ds, h, Qa, rx, rs, hr, q, ql⟩
    obtain ⟨a, rfl, q⟩ := onS_of q
    obtain ⟨rfl, q⟩ := arg0_of q
    obtain ⟨rfl, oa⟩ := rx
    cases rs
    obtain ⟨e1, e2, q⟩ := q
    exact ⟨_, rfl, rfl, by simpa [Str.length] using e1, ql (.str (unS (Txt.upper (tS a)))) _ _ _ (HX.refl H) hr ⟨congrArg V.str (TL.mk_tl _).symm, e2⟩ q⟩
  | get =>
    refine MtR.weak (mt_get hu) ?_
    rintro x xs H Q ⟨d, ds, h, Qa, rx, rs, hr, q, ql⟩
    obtain ⟨p, ep, q2⟩ := onR_of q
    clear q
    subst ep
    have q := q2
    clear q2
    cases rx
    refine ⟨p, rfl, ?_⟩
    split at q
    · obtain ⟨v, w, rfl, r, rfl⟩ := rs
      obtain ⟨kvs, e1, ko, q⟩ := q
      obtain ⟨o, g, z⟩ := dget_of (a := p) (kvs := kvs) hr (by simp [rdD, e1]) ko r
      refine .inl ⟨v, o, rfl, g, ?_⟩
      rcases z with ⟨z1, rfl⟩ | ⟨d, w, z1, rfl, z2⟩
      · rw [z1] at q; exact ql .non _ _ _ (HX.refl H) hr rfl q
      · rw [z1] at q; exact ql d _ _ _ (HX.refl H) hr z2 q
    · obtain ⟨v, w, rfl, r, v2, w2, rfl, r2, rfl⟩ := rs
      obtain ⟨kvs, e1, ko, q⟩ := q
      obtain ⟨o, g, z⟩ := dget_of (a := p) (kvs := kvs) hr (by simp [rdD, e1]) ko r
      refine .inr ⟨v, v2, o, rfl, g, ?_⟩
      rcases z with ⟨z1, rfl⟩ | ⟨d, w, z1, rfl, z2⟩
      · rw [z1] at q; exact ql _ _ _ _ (HX.refl H) hr r2 q
      · rw [z1] at q; exact ql d _ _ _ (HX.refl H) hr z2 q
    · exact q.elim
  | setdefault =>
    rintro pins s σ H x xs v us Q I rx rs ⟨d, ds, h, Qa, r1, r2, hr, q, ql⟩
    obtain ⟨p, ep, q2⟩ := onR_of q
    clear q
    subst ep
    have q := q2
    clear q2
    cases r1
    cases rx
    split at q
    · rename_i k d
      obtain ⟨vk, w, rfl, rk, vd, w2, rfl, rd, rfl⟩ := r2
      obtain ⟨kvs, e1, ko, hl, q1, q2⟩ := q
      obtain ⟨j, rfl⟩ := key_split ko
      obtain ⟨rfl, rkj⟩ := kv_of_rel rk
      obtain ⟨qq, f1, f2⟩ := hr p _ e1
      obtain ⟨u1, u2, rfl, ru1, ru2⟩ := Vals.two rs
      refine d_setd I f1 ru1 ru2 (by rw [f2.length]; exact hl) (fun v hv w' s' I' rw' => ?_) fun hn w' s' I' rw' => ?_
      · rcases dget_rel j f2 with ⟨_, z⟩ | ⟨d', v', z1, z2, z3⟩
        · rw [hv] at z; cases z
        · rw [hv] at z2; cases z2
          exact ⟨v, H, I', rw', ql d' _ _ _ (HX.refl H) hr z3 (q1 d' z1)⟩
      · rcases dget_rel j f2 with ⟨z1, _⟩ | ⟨d', v', _, z2, _⟩
        · have xp : HX H (upd H p (.dK (putK qq j vd))) := HX.put f1 (by intro xs; nofun)
          obtain ⟨hr4, x4⟩ := hr.put (u := .dK (putK qq j vd)) (o := .dct (dput kvs (keyD j) d)) e1 ⟨_, upd_same, dput_rel (rkj.mono xp) (rd.mono xp) (f2.mono xp)⟩
          exact ⟨vd, _, I', rw', ql d _ _ _ x4 hr4 (rd.mono x4) (q2 z1)⟩
        · rw [hn] at z2; cases z2
    · exact q.elim
  | dpop =>
    rintro pins s σ H x xs v us Q I rx rs ⟨d, ds, h, Qa, r1, r2, hr, q, ql⟩
    obtain ⟨p, ep, q2⟩ := onR_of q
    clear q
    subst ep
    obtain ⟨k, rfl, q⟩ := arg1_of q2
    clear q2
    cases r1
    cases rx
    obtain ⟨vk, w, rfl, rk, rfl⟩ := r2
    obtain ⟨kvs, d, e1, ko, e2, q⟩ := q
    obtain ⟨j, rfl⟩ := key_split ko
    obtain ⟨rfl, rkj⟩ := kv_of_rel rk
    obtain ⟨qq, f1, f2⟩ := hr p _ e1
    obtain ⟨u1, rfl, ru1⟩ := Vals.one rs
    rcases dget_rel j f2 with ⟨z1, _⟩ | ⟨d', v', z1, z2, z3⟩
    · rw [e2] at z1; cases z1
    · rw [e2] at z1; cases z1
      refine d_pop I f1 ru1 z2 (.inl rfl) fun w' s' I' rw' => ?_
      have xp : HX H (upd H p (.dK (dropK qq j))) := HX.put f1 (by intro xs; nofun)
      obtain ⟨hr4, x4⟩ := hr.put (u := .dK (dropK qq j)) (o := .dct (ddel kvs (keyD j))) e1 ⟨_, upd_same, ddel_rel (f2.mono xp)⟩
      exact ⟨v', _, I', rw', ql d _ _ _ x4 hr4 (z3.mono x4) q⟩
  | index =>
    refine MtR.weak mt_index ?_
    rintro x xs H Q ⟨d, ds, h, Qa, rx, rs, hr, q, ql⟩
    obtain ⟨p, rfl, q⟩ := onR_of q
    obtain ⟨y, rfl, q⟩ := arg1_of q
    cases rx
    obtain ⟨vy, w, rfl, ry, rfl⟩ := rs
    obtain ⟨ys, j, e1, fy, fys, ej, no, q⟩ := q
    obtain ⟨vs, s1, s2⟩ := seq_of hr e1
    obtain ⟨z, e2, rz⟩ := s2.get ej
    refine ⟨p, vs, vy, j, z, rfl, rfl, by rw [← hG]; exact s1, flat_rel fy ry, flat_rels fys s2, e2, by rw [eqV_rel fy fy rz ry]; simp, fun m z' hm em => ?_, ql (.int _) _ _ _ (HX.refl H) hr rfl q⟩
    obtain ⟨dz, e3, r3⟩ := s2.get' em
    have fz : flatD dz = true := List.all_eq_true.mp fys dz (List.mem_of_getElem? e3)
    rw [eqV_rel fz fy r3 ry]
    exact decide_eq_false (no m dz hm e3)
  | remove =>
    rintro pins s σ H x xs v us Q I rx rs ⟨d, ds, h, Qa, r1, r2, hr, q, ql⟩
    obtain ⟨p, rfl, q⟩ := onR_of q
    obtain ⟨y, rfl, q⟩ := arg1_of q
    cases r1
    cases rx
    obtain ⟨vy, w, rfl, ry, rfl⟩ := r2
    obtain ⟨ys, j, e1, fy, fys, ej, no, q⟩ := q
    obtain ⟨vs, s1, s2⟩ := lst_of hr e1
    obtain ⟨u, rfl, ru⟩ := Vals.one rs
    obtain ⟨z, its, n, r, hl, e⟩ := I.lstM s1
    have fv := flat_rel fy ry
    have fvs := flat_rels fys s2
    obtain ⟨vz, e2, rz⟩ := s2.get ej
    obtain ⟨uz, e4, ruz⟩ := r.get e2
    obtain ⟨hjl, hje⟩ := List.getElem?_eq_some_iff.mp e4
    have hvl := r.length
    refine call_meets PySem.F.slot_list_remove ⟨_, e, rfl⟩ PySem.F.entry_list_remove (PySem.F.args_list_remove_2 _ _)
      (SeqAt.list_removeAt p its.toArray n none #[] u (eqU vy) j (by simpa using hjl) ?_ ?_ (by rw [List.size_toArray]; omega)) ⟨e, fun u' hu' => mem_eqAt ru fv r fvs u' (by simpa using hu'), ?_⟩
    · have e5 : its.toArray[j]'(by simpa using hjl) = uz := by simpa using hje
      rw [e5, eqU_of ruz (flat_at fvs e2), eqV_rel fy fy rz ry]
      simp
    · intro m hm hmj
      have hml : m < its.length := by simpa using hm
      have hmy : m < vs.length := by omega
      have hy' : vs[m]? = some vs[m] := List.getElem?_eq_getElem hmy
      obtain ⟨u2, hu2, ru2⟩ := r.get hy'
      obtain ⟨_, hme⟩ := List.getElem?_eq_some_iff.mp hu2
      have e5 : its.toArray[m] = u2 := by simpa using hme
      obtain ⟨dz, e3, r3⟩ := s2.get' hy'
      have fz : flatD dz = true := List.all_eq_true.mp fys dz (List.mem_of_getElem? e3)
      rw [e5, eqU_of ru2 (flat_at fvs hy'), eqV_rel fz fy r3 ry]
      exact decide_eq_false (no m dz hmj e3)
    · have rr := r.eraseIdx j
      refine ⟨.non, _, I.lset (its' := its.eraseIdx j) (t' := s.toks) s1 e ?_ rr ?_, rfl, ?_⟩
      · show its.toArray.eraseIdxIfInBounds j = (its.eraseIdx j).toArray
        rw [List.eraseIdxIfInBounds_toArray]
      · have : (vs.eraseIdx j).length ≤ vs.length := List.length_eraseIdx_le vs j
        omega
      · refine put_ok (d := .non) hr e1 ?_ rfl q ql
        rw [List.eraseIdx_eq_take_drop_succ, List.eraseIdx_eq_take_drop_succ]
        exact (s2.take _).append (s2.drop _)
  | count =>
    rintro pins s σ H x xs v us Q I rx rs ⟨d, ds, h, Qa, r1, r2, hr, q, ql⟩
    obtain ⟨p, rfl, q⟩ := onR_of q
    obtain ⟨y, rfl, q⟩ := arg1_of q
    cases r1
    cases rx
    obtain ⟨vy, w, rfl, ry, rfl⟩ := r2
    obtain ⟨ys, dd, qs, e1, e2, e3, q⟩ := q
    obtain ⟨vs, s1, s2⟩ := seq_of hr e1
    obtain ⟨a1, a2, a3⟩ := py_dp hr ry e2
    obtain ⟨b1, b2, b3⟩ := dps_of (fun a b => py_dp hr a b) s2 e3
    rw [hG] at a1 b1 s1
    obtain ⟨u, rfl, ru⟩ := Vals.one rs
    obtain ⟨bs, rr⟩ := Dp.reads I dd vy u a1 ru
    obtain ⟨its, rv, ⟨⟨cls, dx, data, sls⟩, n, ho, hc', hdn, hdt⟩, hlen⟩ := I.list s1
    simp only at hc' hdt
    subst hc' hdt
    obtain ⟨as, h4⟩ := Dp.readsAll I qs _ its b1 rv
    have hxs : PyData.canLayAll0 qs = true := b2
    have sd : SeqAt.shaped dd = true := shaped_of a2 a3
    have hroom : X.A.units + 1 + min (PyData.depthAll qs) dd.depth < cLine := room_in_shaped sd hu
    have hmap : its.map (SeqAt.readOf s.heap) = qs := SeqAt.readsAll_map qs its as hxs h4
    refine call_meets PySem.F.slot_list_count ⟨_, ho, rfl⟩ PySem.F.entry_list_count (PySem.F.args_list_count_2 _ _)
      (SeqAt.list_countAt p its.toArray n dx sls u (fun u => PyData.eqv (SeqAt.readOf s.heap u) dd)) ⟨ho, SeqAt.items_eqAt (vs := its.toArray) (show ReadsAll s.heap its.toArray.toList qs as from h4) rr hxs (SeqAt.canLay_of_shaped sd) hroom, ?_⟩
    have ec : its.toArray.toList.countP (fun u => PyData.eqv (SeqAt.readOf s.heap u) dd) = qs.countP fun z => PyData.eqv z dd := by
      rw [← hmap, List.countP_map]
      rfl
    refine ⟨.int ((qs.countP fun z => PyData.eqv z dd : Nat) : Int), H, I.tok _, ⟨s.toks, ?_⟩, ql (.int _) _ _ _ (HX.refl H) hr rfl q⟩
    show Value.int ((its.toArray.toList.countP (fun u => PyData.eqv (SeqAt.readOf s.heap u) dd) : Nat) : Int) s.toks = Value.int ((qs.countP fun z => PyData.eqv z dd : Nat) : Int) s.toks
    rw [ec]
  | indexD =>
    refine MtR.weak (mt_indexD hu) ?_
    rintro x xs H Q ⟨d, ds, h, Qa, rx, rs, hr, q, ql⟩
    obtain ⟨p, rfl, q⟩ := onR_of q
    obtain ⟨y, rfl, q⟩ := arg1_of q
    cases rx
    obtain ⟨vy, w, rfl, ry, rfl⟩ := rs
    obtain ⟨ys, dd, qs, j, z, e1, e2, e3, ej, ez, no, q⟩ := q
    obtain ⟨vs, s1, s2⟩ := seq_of hr e1
    obtain ⟨a1, a2, a3⟩ := py_dp hr ry e2
    obtain ⟨b1, b2, b3⟩ := dps_of (fun a b => py_dp hr a b) s2 e3
    rw [hG] at a1 b1 s1
    exact ⟨p, vy, dd, qs, j, z, rfl, rfl, .lst s1 b1, a1, shaped_of (by simpa [PyData.canLay0] using b2) (by simp only [PyData.depth]; omega), shaped_of a2 a3, ej, ez, no, ql (.int _) _ _ _ (HX.refl H) hr rfl q⟩
  | sindex =>
    refine MtR.weak mt_sindex ?_
    rintro x xs H Q ⟨d, ds, h, Qa, rx, rs, hr, q, ql⟩
    obtain ⟨a, rfl, q⟩ := onS_of q
    obtain ⟨y, rfl, q⟩ := arg1_of q
    obtain ⟨b, rfl, q⟩ := onS_of q
    obtain ⟨rfl, _⟩ := rx
    obtain ⟨vy, w, rfl, ⟨rfl, _⟩, rfl⟩ := rs
    obtain ⟨i, rest, e, q⟩ := q
    exact ⟨_, _, i, rest, rfl, rfl, e, ql (.int _) _ _ _ (HX.refl H) hr rfl q⟩
  | replace => exact absurd rfl hm
  | isdigit => rintro pins s σ H x xs v us Q I rx rs ⟨d, ds, h, Qa, r1, r2, hr, q, ql⟩; exact False.elim q
  | update =>
    rintro pins s σ H x xs v us Q I rx rs ⟨d, ds, h, Qa, r1, r2, hr, q, ql⟩
    obtain ⟨p, ep, q2⟩ := onR_of q
    clear q
    subst ep
    obtain ⟨k, rfl, q⟩ := arg1_of q2
    clear q2
    obtain ⟨b, rfl, q⟩ := onR_of q
    cases r1
    cases rx
    obtain ⟨vk, w, rfl, rk, rfl⟩ := r2
    cases rk
    obtain ⟨kvs, more, e1, e2, hne, hl, q⟩ := q
    obtain ⟨qq, f1, f2⟩ := hr p _ e1
    obtain ⟨qm, g1, g2⟩ := hr b _ e2
    obtain ⟨u1, rfl, ru1⟩ := Vals.one rs
    cases ru1
    refine d_upd I f1 g1 hne (by rw [f2.length, g2.length]; exact hl) fun s' I' => ?_
    have xp : HX H (upd H p (.dK (mergeK qq qm))) := HX.put f1 (by intro xs; nofun)
    obtain ⟨hr4, x4⟩ := hr.put (u := .dK (mergeK qq qm)) (o := .dct (dputs kvs more)) e1 ⟨_, upd_same, dputs_rel (g2.mono xp) (f2.mono xp)⟩
    exact ⟨.non, _, I', rfl, ql .non _ _ _ x4 hr4 rfl q⟩
end
end PL

set_option maxHeartbeats 4000000
/-! PL, part g: the check of an expression, and what is needed of where it stands. -/
namespace PL
open PySem PySem.Spec PyProof.Rows L2

/-- what a text's names mean -/
structure SC where
  N : List Str
  sc : Scope
  fn : List (Str × Nat)
  cl : List (Str × Nat)
  c0 : List (Str × Nat)
  ex : List (Str × Nat)
  /-- the own exceptions' classes -/
  xt : List (Str × Nat)
  /-- no exception is being handled -/
  cal : Bool
  /-- a class's functions, read off the class -/
  cm : List ((Str × Str) × Nat)
  co : List (Str × DV)
  an : List Str
  mn : List Str
  bt : List Str
  wr : List Str
  /-- defs that read an item of their argument -/
  kf : List (Str × List Nat)
  /-- defs that are called while an exception is handled -/
  hfn : List (Str × Nat) := []
def isGl (S : SC) (x : Str) : Bool := decide (S.sc.names.lookup x = some .globalImplicit) && decide (x ≠ "__debug__")
def okVar (S : SC) (i : Nat) (x : Str) : Bool := decide (S.N[i]? = some x) && (match S.sc.names.lookup x with
  | some .local => true
  | some .cell => true
  | some .free => true
  | _ => false) && decide (x ≠ "__debug__") && decide (x ≠ "__classdict__")
def okLoc (S : SC) (i : Nat) (x : Str) : Bool := decide (S.N[i]? = some x) && (match S.sc.names.lookup x with
  | some .local => true
  | some .cell => true
  | _ => false) && decide (x ∈ S.wr)
/-- within a comprehension -/
def wrOf (sc : Scope) (N : List Str) (own : List Nat) : List Str := (own.map fun i => N.getD i "").filter fun x => match sc.names.lookup x with
  | some .local => true
  | some .cell => true
  | _ => false
def inC (S : SC) (sc : Scope) (own : List Nat) : SC := { S with sc := relS sc S.sc, wr := wrOf sc S.N own }
def opIs : BO → Operator → Bool
  | .add, .Add => true
  | .sub, .Sub => true
  | .mul, .Mult => true
  | .fdiv, .FloorDiv => true
  | .mod, .Mod => true
  | .pow, .Pow => true
  | _, _ => false
def copIs : CO → CmpOp → Bool
  | .eq, .Eq => true
  | .ne, .NotEq => true
  | .lt, .Lt => true
  | .le, .LtE => true
  | .gt, .Gt => true
  | .ge, .GtE => true
  | .isin, .In => true
  | .nin, .NotIn => true
  | .isb, .Is => true
  | .nisb, .IsNot => true
  | .eqT, .Eq => true
  | .neT, .NotEq => true
  | _, _ => false
def chkCon (S : SC) (d : DV) : Expr → Bool
  | .Constant .none _ _ => decide (d = .non)
  | .Constant (.bool b) _ _ => decide (d = .bl b)
  | .Constant (.int i) _ _ => decide (d = .int i)
  | .Constant (.str x) _ _ => decide (d = .str x.cps.toList) && x.cps.toList.all (· < 1114112)
  | .Name x _ => isGl S x && decide (S.co.lookup x = some d)
  | _ => false
def BF.nm : BF → Str
  | .len => "len" | .list => "list" | .tuple => "tuple" | .dict => "dict" | .str => "str" | .int => "int" | .sum => "sum" | .max => "max" | .min => "min" | .abs => "abs" | .all => "all" | .divmod => "divmod" | .sorted => "sorted"
def BM.nm : BM → Str
  | .append => "append" | .extend => "extend" | .pop => "pop" | .insert => "insert" | .remove => "remove" | .index => "index"
  | .count => "count" | .reverse => "reverse" | .clear => "clear" | .join => "join" | .split => "split" | .partition => "partition"
  | .find => "find" | .replace => "replace" | .upper => "upper" | .isdigit => "isdigit" | .get => "get" | .setdefault => "setdefault" | .update => "update" | .dpop => "pop" | .indexD => "index" | .sindex => "index"
def noSet : Expr → Bool
  | .Set _ _ _ => false
  | _ => true
def tyIs (S : SC) : TY → Expr → Bool
  | .int, .Name x _ => isGl S x && decide (x = "int") && decide (x ∈ S.bt)
  | .bool, .Name x _ => isGl S x && decide (x = "bool") && decide (x ∈ S.bt)
  | .str, .Name x _ => isGl S x && decide (x = "str") && decide (x ∈ S.bt)
  | .list, .Name x _ => isGl S x && decide (x = "list") && decide (x ∈ S.bt)
  | .tuple, .Name x _ => isGl S x && decide (x = "tuple") && decide (x ∈ S.bt)
  | .dict, .Name x _ => isGl S x && decide (x = "dict") && decide (x ∈ S.bt)
  | .cls c, .Name x _ => isGl S x && decide (S.cl.lookup x = some c)
  | .exc c, .Name x _ => isGl S x && decide (S.xt.lookup x = some c)
  | .verr, .Name x _ => isGl S x && decide (x = "ValueError") && decide (x ∈ S.bt)
  | _, _ => false
def tysIs (S : SC) : List TY → List Expr → Bool
  | [], [] => true
  | t :: r, e :: q => tyIs S t e && tysIs S r q
  | _, _ => false
/-- targets of loops -/
def chkTs (S : SC) : List Nat → List Expr → Bool
  | [], [] => true
  | i :: r, .Name x _ :: q => okLoc S i x && chkTs S r q
  | _, _ => false
def chkT (S : SC) (t : List Nat) : Expr → Bool
  | .Name x _ => (match t with
    | [i] => okLoc S i x
    | _ => false)
  | .Tuple es _ _ => S.cal && decide (2 ≤ t.length) && chkTs S t es
  | _ => false
def methOk (o : Expr) (m : Str) (apos pos : Pos) (n : Nat) : Bool := (match o with
    | .Call (.Name id _) [] [] _ => decide (id ≠ "super")
    | _ => true) && decide (n < 30) && (apos.endLine == pos.line)
/-- the names of sum's block -/
def blkHB (sc : Scope) (o : Str) : Bool := (match sc.kind with
    | .function => true
    | _ => false) && (sc.names.all fun y => (match y.2 with
    | .free => false
    | .cell => false
    | _ => true) && decide (sc.names.lookup y.1 = some y.2)) && decide (sc.names.lookup o = some .local) && decide (sc.names.lookup ("int" : Str) = some .globalImplicit) && decide (o ≠ "__debug__")
/-- the target of a walk that makes pairs is a tuple -/
def itOk : IT → Expr → Bool
  | .enum _, .Tuple _ _ _ => true
  | .enum _, _ => false
  | .items _, .Tuple _ _ _ => true
  | .items _, _ => false
  | _, _ => true
mutual
def chkE : EX → SC → Expr → Bool
  | .var i, S, .Name x _ => okVar S i x
  | .con d, S, e => chkCon S d e
  | .bin o a b, S, .BinOp x p y _ => opIs o p && chkE a S x && chkE b S y
  | .neg a, S, .UnaryOp .USub x _ => chkE a S x
  | .notE a, S, .UnaryOp .Not x _ => chkE a S x
  | .andE a b, S, .BoolOp .And [x, y] _ => chkE a S x && chkE b S y
  | .andE a b, S, .BoolOp .And (x :: y :: z :: r) p => chkE a S x && chkE b S (.BoolOp .And (y :: z :: r) p)
  | .orE a b, S, .BoolOp .Or [x, y] _ => chkE a S x && chkE b S y
  | .orE a b, S, .BoolOp .Or (x :: y :: z :: r) p => chkE a S x && chkE b S (.BoolOp .Or (y :: z :: r) p)
  | .cmp o a b, S, .Compare x [p] [y] _ => copIs o p && noSet y && chkE a S x && chkE b S y
  | .cmp2 o o' a b c, S, .Compare x [p, q] [y, z] _ => copIs o p && copIs o' q && noSet z && chkE a S x && chkE b S y && chkE c S z
  | .cmp3 o o' o'' a b c d, S, .Compare x [p, q, r] [y, z, w] _ => copIs o p && copIs o' q && copIs o'' r && noSet w && chkE a S x && chkE b S y && chkE c S z && chkE d S w
  | .isN a, S, .Compare x [.Is] [.Constant .none _ _] _ => chkE a S x
  | .notN a, S, .Compare x [.IsNot] [.Constant .none _ _] _ => chkE a S x
  | .tup es, S, .Tuple xs _ _ => chkEs es S xs
  | .lst es, S, .List xs _ => chkEs es S xs
  | .dct es, S, .Dict keys vals _ => chkPs es S keys vals && decide (keys.length ≤ 15)
  | .lrg a b, S, .Call (.Name x _) [.Call (.Name y _) [u, v] [] _] [] _ => S.cal && isGl S x && decide (x = "list") && decide (x ∈ S.bt) && isGl S y && decide (y = "range") && decide (y ∈ S.bt) && chkE a S u && chkE b S v
  | .lrg1 b, S, .Call (.Name x _) [.Call (.Name y _) [v] [] _] [] _ => S.cal && isGl S x && decide (x = "list") && decide (x ∈ S.bt) && isGl S y && decide (y = "range") && decide (y ∈ S.bt) && chkE b S v
  | .lvw a k, S, .Call (.Name x _) [.Call (.Attribute o nm apos) [] [] pos] [] _ => S.cal && isGl S x && decide (x = "list") && decide (x ∈ S.bt) && decide (nm = (if k = true then "keys" else "values")) && methOk o nm apos pos 0 && chkE a S o
  | .hsum a, S, .Call (.Name x _) [.ListComp (.Call (.Name y _) [.Name o _] [] _) [⟨.Name o' _, itx, [], 0⟩] sc _] [] _ => !S.cal && isGl S x && decide (x = "sum") && decide (x ∈ S.bt) && decide (y = "int") && decide (y ∈ S.bt) && decide (o' = o) && blkHB sc o && noSet itx && chkE a S itx
  | .repq n a b, S, .Compare (.Call (.Name x _) [u] [] _) [c] [.Call (.Name y _) [v] [] _] _ => isGl S x && decide (x = "repr") && decide (x ∈ S.bt) && isGl S y && decide (y = "repr") && decide (y ∈ S.bt) && copIs (if n = true then .ne else .eq) c && chkE a S u && chkE b S v
  | .srk l a, S, .Call (.Name x _) [v] [⟨some k, .Name fx _, _⟩] _ => isGl S x && decide (x = "sorted") && decide (x ∈ S.bt) && decide (k = "key") && isGl S fx && decide (S.kf.lookup fx = some l) && chkE a S v
  | .lrev a, S, .Call (.Name x _) [.Call (.Name y _) [v] [] _] [] _ => S.cal && isGl S x && decide (x = "list") && decide (x ∈ S.bt) && isGl S y && decide (y = "reversed") && decide (y ∈ S.bt) && chkE a S v
  | .sls a lo n, S, .Subscript x (.Slice (some (.Constant (.int l) _ _)) none (some (.Constant (.int c) _ _)) _) _ => decide (l = (lo : Int)) && decide (c = (n : Int)) && decide (0 < n) && chkE a S x
  | .ife c a b, S, .IfExp x y z _ => chkE c S x && chkE a S y && chkE b S z
  | .ix a i, S, .Subscript x y _ => (match y with
    | .Slice _ _ _ _ => false
    | _ => chkE a S x && chkE i S y)
  | .sl a lo hi, S, .Subscript x (.Slice l u none _) _ => chkE a S x && chkO lo S l && chkO hi S u
  | .fld a f, S, .Attribute x nm _ => decide (S.an[f]? = some nm) && methOk x nm ⟨0, 0, 0, 0⟩ ⟨0, 0, 0, 0⟩ 0 && chkE a S x
  | .xfld a f, S, .Attribute x nm _ => decide (S.an[f]? = some nm) && methOk x nm ⟨0, 0, 0, 0⟩ ⟨0, 0, 0, 0⟩ 0 && chkE a S x
  | .call f es, S, .Call (.Name x _) xs [] _ => isGl S x && decide (S.fn.lookup x = some f) && chkEs es S xs
  | .call f es, S, .Call (.Attribute (.Name x p) m apos) (y :: ys) [] pos => isGl S x && decide (S.cm.lookup (x, m) = some f) && methOk (.Name x p) m apos pos (y :: ys).length && chkEs es S (y :: ys)
  | .xmk c es, S, .Call (.Name x _) (y :: ys) [] _ => isGl S x && decide (S.ex.lookup x = some c) && chkEs es S (y :: ys)
  | .make c es, S, .Call (.Name x _) xs [] _ => isGl S x && decide (S.cl.lookup x = some c) && chkEs es S xs
  | .mk0 c, S, .Call (.Name x _) [] [] _ => isGl S x && decide (S.c0.lookup x = some c)
  | .meth a m es, S, .Call (.Attribute o nm apos) xs [] pos => decide (S.mn[m]? = some nm) && methOk o nm apos pos xs.length && chkE a S o && chkEs es S xs
  | .bf b es, S, .Call (.Name x _) xs [] _ => S.cal && isGl S x && decide (x = b.nm) && decide (x ∈ S.bt) && decide (xs ≠ []) && chkEs es S xs
  | .bm a m es, S, .Call (.Attribute o nm apos) xs [] pos => S.cal && decide (nm = m.nm ∧ m ≠ .replace) && methOk o nm apos pos xs.length && chkE a S o && chkEs es S xs
  | .isi a ts tp, S, .Call (.Name x _) [e, c] [] _ => isGl S x && decide (x = "isinstance") && decide (x ∈ S.bt) && chkE a S e && (match c, tp with
    | .Tuple cs _ _, true => decide (ts.length ≤ 100) && decide (ts ≠ []) && tysIs S ts cs
    | c, false => tysIs S ts [c]
    | _, _ => false)
  | .lc el t own it cond, S, .ListComp x [⟨tg, itx, ifs, 0⟩] sc _ => S.cal && itOk it tg && t.all (fun i => own.contains i) && chkI it S itx && blkC S.N S.sc sc (own.map fun i => (S.N.getD i "", i)) && noSet itx && chkT (inC S sc own) t tg && chkIf cond (inC S sc own) ifs && chkE el (inC S sc own) x
  | _, _, _ => false
def chkEs : EXs → SC → List Expr → Bool
  | .nil, _, [] => true
  | .cons e r, S, x :: q => chkE e S x && chkEs r S q
  | _, _, _ => false
def chkPs : EXs → SC → List (Option Expr) → List Expr → Bool
  | .nil, _, [], [] => true
  | .cons k (.cons v r), S, some x :: ks, y :: vs => chkE k S x && chkE v S y && chkPs r S ks vs
  | _, _, _, _ => false
def chkO : EXs → SC → Option Expr → Bool
  | .nil, _, none => true
  | .cons e .nil, S, some x => chkE e S x
  | _, _, _ => false
def chkIf : EXs → SC → List Expr → Bool
  | .nil, _, [] => true
  | .cons e .nil, S, [x] => chkE e S x
  | _, _, _ => false
def chkI : IT → SC → Expr → Bool
  | .seq e, S, x => chkE e S x
  | .dseq e, S, x => chkE e S x
  | .rng1 e, S, .Call (.Name x _) [y] [] _ => isGl S x && decide (x = "range") && decide (x ∈ S.bt) && chkE e S y
  | .rng2 a b, S, .Call (.Name x _) [y, z] [] _ => isGl S x && decide (x = "range") && decide (x ∈ S.bt) && chkE a S y && chkE b S z
  | .enum e, S, .Call (.Name x _) [y] [] _ => isGl S x && decide (x = "enumerate") && decide (x ∈ S.bt) && chkE e S y
  | .rev e, S, .Call (.Name x _) [y] [] _ => isGl S x && decide (x = "reversed") && decide (x ∈ S.bt) && chkE e S y
  | .items e, S, .Call (.Attribute o nm apos) [] [] pos => decide (nm = "items") && methOk o nm apos pos 0 && chkE e S o
  | .vals e, S, .Call (.Attribute o nm apos) [] [] pos => decide (nm = "values") && methOk o nm apos pos 0 && chkE e S o
  | .keys e, S, .Call (.Attribute o nm apos) [] [] pos => decide (nm = "keys") && methOk o nm apos pos 0 && chkE e S o
  | _, _, _ => false
end
end PL

set_option maxHeartbeats 4000000
/-! PL, part h: what is needed of where a text stands; lifting. -/
namespace PL
open PySem PySem.Spec PyProof.Rows L2

def XRel (G : GK) (H : Hp) (c : Nat) (fs : List DV) (d : Addr) : Prop := ∃ q, H d = some (.xd q) ∧ c < G.nX ∧ fs.length = (G.xf c).length ∧ FRel G.K H (G.xf c) (fs.map some) q
def XL (G : GK) (W : WX) (σ : L2.St) (H : Hp) (Xa : AX) : Prop := ∀ c fs h d H', HX H H' → HRel G H' h → XRel G H' c fs d → Xa c fs h → W (.ref (G.xA c)) (some d) σ H'
theorem XL.mono {G : GK} {W : WX} {σ : L2.St} {H H1 : Hp} {Xa : AX} (q : XL G W σ H Xa) (x : HX H H1) : XL G W σ H1 Xa := fun c fs h d H' y => q c fs h d H' (x.trans y)
theorem XL.no {G : GK} {W : WX} {σ : L2.St} {H : Hp} : XL G W σ H (fun _ _ _ => False) := fun _ _ _ _ _ _ _ _ z => z.elim
abbrev ATE := ASt → AH → AQ → AX → Prop
abbrev ATT := ASt → AH → (Bool → AH → Prop) → AX → Prop
abbrev ATA := ASt → AH → (List DV → AH → Prop) → AX → Prop
abbrev ATO := ASt → AH → (Option Int → AH → Prop) → AX → Prop
abbrev ATI := ASt → AH → ((AH → Prop) → List DV → AH → Prop) → AX → Prop
def LE (G : GK) (W : WX) (t : ATE) : TE := fun σ H Q => ∃ s h Qa Xa, SRel G H s σ ∧ HRel G H h ∧ t s h Qa Xa ∧ QL G H Qa Q ∧ XL G W σ H Xa
def LT (G : GK) (W : WX) (t : ATT) : TT := fun σ H Q => ∃ s h Qa Xa, SRel G H s σ ∧ HRel G H h ∧ t s h Qa Xa ∧ (∀ b h' H', HX H H' → HRel G H' h' → Qa b h' → Q b H') ∧ XL G W σ H Xa
def LA (G : GK) (W : WX) (t : ATA) : TA := fun σ H Q => ∃ s h Qa Xa, SRel G H s σ ∧ HRel G H h ∧ t s h Qa Xa ∧ (∀ ds h' vs H', HX H H' → HRel G H' h' → DRels G.K H' ds vs → Qa ds h' → Q vs H') ∧ XL G W σ H Xa
def LO (G : GK) (W : WX) (t : ATO) : TO := fun σ H Q => ∃ s h Qa Xa, SRel G H s σ ∧ HRel G H h ∧ t s h Qa Xa ∧ (∀ o h' H', HX H H' → HRel G H' h' → Qa o h' → Q o H') ∧ XL G W σ H Xa
section
variable {G : GK} {W : WX} {σ : L2.St} {H : Hp}
theorem le2 {ta tb : ATE} {r : DV → DV → AH → AQ → Prop} {Q : VK} (l : LE G W (fun s h Q X => ta s h (fun x h1 => tb s h1 (fun y h2 => r x y h2 Q) X) X) σ H Q) : tOp (LO2 G r) (LE G W ta) (LE G W tb) σ H Q := by
  obtain ⟨s, h, Qa, Xa, sr, hr, w, ql, xl⟩ := l
  refine ⟨s, h, _, Xa, sr, hr, w, fun d h1 v H1 x1 hr1 rd w1 => ?_, xl⟩
  refine ⟨s, h1, _, Xa, sr.mono x1, hr1, w1, fun e h2 u H2 x2 hr2 re w2 => ?_, xl.mono x1⟩
  exact ⟨d, e, h2, Qa, rd.mono x2, re, hr2, w2, ql.mono (x1.trans x2)⟩
/-- one value, then its own continuation -/
theorem le1 {ta : ATE} {k : DV → AH → AQ → Prop} {kH : V → Hp → VK → Prop} {Q : VK} (l : LE G W (fun s h Q X => ta s h (fun x h1 => k x h1 Q) X) σ H Q)
    (f : ∀ d h v H Qa Q, HRel G H h → DRel G.K H d v → k d h Qa → QL G H Qa Q → kH v H Q) : LE G W ta σ H fun x H1 => kH x H1 Q := by
  obtain ⟨s, h, Qa, Xa, sr, hr, w, ql, xl⟩ := l
  exact ⟨s, h, _, Xa, sr, hr, w, fun d h1 v H1 x1 hr1 rd w1 => f d h1 v H1 Qa Q hr1 rd w1 (ql.mono x1), xl⟩
/-- arguments, then a continuation -/
theorem la1 {ta : ATA} {k : List DV → AH → AQ → Prop} {kH : List V → Hp → VK → Prop} {Q : VK} (l : LE G W (fun s h Q X => ta s h (fun x h1 => k x h1 Q) X) σ H Q)
    (f : ∀ d h v H Qa Q, HRel G H h → DRels G.K H d v → k d h Qa → QL G H Qa Q → kH v H Q) : LA G W ta σ H fun x H1 => kH x H1 Q := by
  obtain ⟨s, h, Qa, Xa, sr, hr, w, ql, xl⟩ := l
  exact ⟨s, h, _, Xa, sr, hr, w, fun d h1 v H1 x1 hr1 rd w1 => f d h1 v H1 Qa Q hr1 rd w1 (ql.mono x1), xl⟩
end

/-- a def's promise -/
def spA (G : GK) (T : PTab) (fns : Nat → Option FI) (n f : Nat) : Sp := fun vs H Q E => ∃ ds h Qa Xa, DRels G.K H ds vs ∧ HRel G H h ∧ wCall T fns n f ds h Qa Xa ∧ QL G H Qa Q ∧
  ∀ c fs h d H', HX H H' → HRel G H' h → XRel G H' c fs d → Xa c fs h → E (.ref (G.xA c)) (some d) H'
/-- a function that keeps it -/
structure FnA (G : GK) (T : PTab) (fns : Nat → Option FI) (n : Nat) (X : Cx) (f : Nat) (a : Addr) (j : Nat) : Prop where
  ex : ∃ fd ps k, FP.FnP X.prog X.w X.K X.mg X.base (L2N.CX X.prog X.w) k a fd ps G.hp (spA G T fns n f) ∧ FP.Rm (k + j) X.A ∧ Binds X.K fd ps []
/-- what a class must be for isinstance -/
structure InsK (K : PySem.W.Frag) (C : Addr) : Prop where
  cl : Cls K C
  ha : PySem.W.findIn K (.ref C) "__class__" = some (some (.builtin "object.__class__"))
  hn : PySem.W.specialIn K (.builtin "object.__class__") "__get__" = some (some (.builtin "getset_descriptor.__get__"))
  ht : PySem.W.takesIn K (.builtin "object.__class__") = some true
  hm : PySem.W.mroIn K C (.type "object") = some true
/-! ### an own exception class's __init__ -/
def stR (a C : Addr) : List (Str × V) → Option (Addr × List (Str × V)) → (Hp → Prop) → Hp → Prop
  | [], _, N, H => N H
  | (f, y) :: r, none, N, H => ∀ dx, H dx = none → dx ≠ a → stR a C r (some (dx, [(f, y)])) N (upd (upd H dx (exd dx [(f, y)])) a (exo a C (some dx)))
  | (f, y) :: r, some (dx, fs), N, H => stR a C r (some (dx, (f, y) :: fs)) N (upd H dx (exd dx ((f, y) :: fs)))
def spInit (K : PySem.W.Frag) (C : Addr) (fs : List Str) : Sp := fun vs H Q _ => ∃ (a : Addr) (ys : List V), vs = .ref a :: ys ∧ ys.length = fs.length ∧ fs.length ≤ 100 ∧ H a = some (exo a C none) ∧ OexC K C ∧ (∀ f ∈ fs, PySem.W.findIn K (.ref C) f = some none) ∧
  stR a C (fs.zip ys) none (fun H' => Q .non H') H
/-- what is needed of an own exception class -/
structure ExA (G : GK) (X : Cx) (c : Nat) (fI : Addr) (fd : FuncData) (ps : List Str) : Prop where
  T : OexC X.K (G.xA c)
  iC : PySem.W.findIn X.K (.ref (G.xA c)) "__init__" = some (some (.ref fI))
  tI : PySem.W.typeIn X.K (.ref fI) = some (.type "function")
  F : FnOk X.prog X.w X.K X.mg X.base (L2N.CX X.prog X.w) 1 fI fd ps (spInit X.K (G.xA c) (G.xf c))
  hr : Room 2 X.A
  hb : Binds X.K fd ps []
  no : ∀ f ∈ G.xf c, PySem.W.findIn X.K (.ref (G.xA c)) f = some none
  nd : (G.xf c).Nodup
  lt : c < G.nX
  l0 : 0 < (G.xf c).length
  l1 : (G.xf c).length ≤ 100
/-- what an exception class must be to be asked and read -/
structure ExcK (K : PySem.W.Frag) (C : Addr) : Prop where
  f : XfC K C
  c : ExcC K C
  v : PySem.W.kitOne K (.ref C) (.type "ValueError") = some true
structure CxOk (S : SC) (G : GK) (T : PTab) (fns : Nat → Option FI) (n : Nat) (X : Cx) (W : WX) : Prop where
  K : G.K = X.K
  N : X.N = S.N
  nd : X.N.Nodup
  sc : X.env.scope = S.sc
  lf : ∀ x ∈ S.wr, Loc X.env.scope x → X.fn x = true ∨ X.env.scope.names.lookup x = some .local
  calm : S.cal = true → X.calm = true
  un : X.A.units + 65 < cLine
  gd : X.A.guards = some []
  hd : X.A.handled = G.hp.map Value.ref
  hot : S.cal = false → G.hp.isSome = true
  cold : S.cal = true → G.hp = none
  tk : L2N.Takes X W
  hfn : ∀ x f, S.hfn.lookup x = some f → ∃ a, X.mg x = some (.ref a) ∧ PySem.W.keepIn X.K (.ref a) = true ∧ ∀ p, FnA { G with hp := some p } T fns n X f a 0
  fn : ∀ x f, S.fn.lookup x = some f → ∃ a, X.mg x = some (.ref a) ∧ PySem.W.keepIn X.K (.ref a) = true ∧ FnA G T fns n X f a 0
  cl : ∀ x c, S.cl.lookup x = some c → X.mg x = some (.ref (G.cA c)) ∧ c < G.nC ∧ PySem.W.keepIn X.K (.ref (G.cA c)) = true ∧ T.nf c = (G.cf c).length ∧ ∀ f, T.init c = some f → ∃ a, Mk X.K (G.cA c) a ∧ FnA G T fns n X f a 1
  c0 : ∀ x c, S.c0.lookup x = some c → X.mg x = some (.ref (G.cA c)) ∧ c < G.nC ∧ PySem.W.keepIn X.K (.ref (G.cA c)) = true ∧ T.nf c = (G.cf c).length ∧ PySem.W.makesIn X.K (G.cA c) = true ∧ PySem.W.findIn X.K (.ref (G.cA c)) "__init__" = some (some (.builtin "object.__init__"))
  mt : ∀ c m f nm, T.mt c m = some f → S.mn[m]? = some nm → nm ∉ G.cf c ∧ ∃ a, Cls X.K (G.cA c) ∧ Meth X.K (G.cA c) nm a ∧ FnA G T fns n X f a 0
  fp : ∀ c f k nm, T.fp c f = some k → S.an[f]? = some nm → (G.cf c)[k]? = some nm ∧ Cls X.K (G.cA c) ∧ NoAttr X.K (G.cA c) nm ∧ (G.cf c).Nodup ∧ (G.cf c).length < 900
  isi : ∀ c, c < G.nC → InsK X.K (G.cA c)
  isc : ∀ x c d, S.cl.lookup x = some d → c < G.nC → PySem.W.kitOne X.K (.ref (G.cA c)) (.ref (G.cA d)) = some (T.isC c d)
  ex : ∀ x c, S.ex.lookup x = some c → X.mg x = some (.ref (G.xA c)) ∧ T.xn c = (G.xf c).length ∧ ∃ fI fd ps, ExA G X c fI fd ps
  cm : ∀ x m f, S.cm.lookup (x, m) = some f → ∃ C a, X.mg x = some (.ref C) ∧ PySem.W.specialIn X.K (.ref C) "__getattribute__" = some (some (.builtin "type.__getattribute__")) ∧ PySem.W.readsIn X.K C (.type "type") = true ∧ PySem.W.findCls X.K (.ref C) (.type "type") m = some (.val (.ref a)) ∧ PySem.W.keepIn X.K (.ref a) = true ∧ FnA G T fns n X f a 0
  co : ∀ x d, S.co.lookup x = some d → ∃ u v, X.mg x = some u ∧ RelV v u ∧ ∀ H, DRel G.K H d v
  bt : ∀ x ∈ S.bt, X.mg x = none
  kf : ∀ x l, S.kf.lookup x = some l → ∃ fa, X.mg x = some (.ref fa) ∧ KF.KeyFn X.prog X.w X.K fa l ∧ Room 2 X.A
  xp : ∀ c f k nm, T.xp c f = some k → S.an[f]? = some nm → (G.xf c)[k]? = some nm ∧ PySem.W.findIn X.K (.ref (G.xA c)) nm = some none
  xi : ∀ c, c < G.nX → ExcK X.K (G.xA c)
  xt : ∀ x d, S.xt.lookup x = some d → X.mg x = some (.ref (G.xA d))
  xs : ∀ x d c, S.xt.lookup x = some d → c < G.nX → PySem.W.kitOne X.K (.ref (G.xA c)) (.ref (G.xA d)) = some (T.xsub c d) ∧ PySem.W.exmOne X.K (.ref (G.xA c)) (.ref (G.xA d)) = some (T.xsub c d)
end PL

set_option maxHeartbeats 4000000
/-! PL, part i: expressions. -/
namespace PL
open PySem PySem.Spec PyProof.Rows L2

theorem an2 {a b : Bool} (h : (a && b) = true) : a = true ∧ b = true := by simpa using h
theorem isGl_of {S : SC} {G : GK} {T : PTab} {fns : Nat → Option FI} {n : Nat} {X : Cx} {W : WX} (ok : CxOk S G T fns n X W) {x : Str} (h : isGl S x = true) : Gl X x ∧ (x == ("__debug__" : Str)) = false := by
  obtain ⟨h1, h2⟩ := an2 h
  refine ⟨?_, ?_⟩
  · show X.env.scope.names.lookup x = _
    rw [ok.sc]; exact of_decide_eq_true h1
  · exact beq_eq_false_iff_ne.mpr (of_decide_eq_true h2)
def notStar : Expr → Bool
  | .Starred _ _ => false
  | _ => true
theorem star_cons {e : Expr} (h : notStar e = true) (es : List Expr) (env : Env) : starEach (e :: es) env = (false, eval e env) :: starEach es env := by
  cases e <;> first | rfl | (simp [notStar] at h)
theorem chkE_notStar {S : SC} : ∀ {e : EX} {x : Expr}, chkE e S x = true → notStar x = true := by
  intro e x h
  cases x <;> first | rfl | skip
  cases e <;> simp [chkE, chkCon] at h
theorem star_any {S : SC} {pos : Pos} : ∀ {es : EXs} {xs : List Expr} (env : Env), chkEs es S xs = true → (backTo pos (starEach xs env)).any (·.1) = false
  | .nil, [], env, _ => rfl
  | .nil, _ :: _, env, h => by simp [chkEs] at h
  | .cons e r, [], env, h => by simp [chkEs] at h
  | .cons e r, x :: q, env, h => by
    obtain ⟨h1, h2⟩ := an2 (by simpa only [chkEs] using h)
    rw [star_cons (chkE_notStar h1)]
    show (false || (backTo pos (starEach q env)).any (·.1)) = false
    rw [star_any env h2]
    rfl
theorem star_all {S : SC} {pos : Pos} : ∀ {es : EXs} {xs : List Expr} (env : Env), chkEs es S xs = true → (backTo pos (starEach xs env)).all (fun x => !x.1) = true
  | .nil, [], env, _ => rfl
  | .nil, _ :: _, env, h => by simp [chkEs] at h
  | .cons e r, [], env, h => by simp [chkEs] at h
  | .cons e r, x :: q, env, h => by
    obtain ⟨h1, h2⟩ := an2 (by simpa only [chkEs] using h)
    rw [star_cons (chkE_notStar h1)]
    show (true && (backTo pos (starEach q env)).all (fun x => !x.1)) = true
    rw [star_all env h2]
    rfl
theorem base_ok {o : Expr} {m : Str} {apos pos : Pos} {n : Nat} {env : Env} (h : methOk o m apos pos n = true) : attributeBase o m env (eval o env) = eval o env := by
  have h1 := (an2 (an2 h).1).1
  clear h
  cases o <;> first | rfl | skip
  rename_i f as ks p
  cases f <;> first | rfl | skip
  cases as <;> first | rfl | skip
  cases ks <;> first | rfl | skip
  rename_i id q
  have hid : id ≠ "super" := by simpa using h1
  have hb : (id != "super") = true := by simpa using hid
  unfold attributeBase
  simp only [hb, Bool.true_or, if_true, bind_pure]
theorem PA.nil_lift {X : Cx} {G : GK} {W : WX} {t : ATA} (h : ∀ s h Q X, t s h Q X → Q [] h) : PA X [] (LA G W t) := PA.weak pa_nil fun σ H Q ⟨s, h', Qa, Xa, sr, hr, w, ql, xl⟩ => ql [] h' [] H (HX.refl H) hr rfl (h _ _ _ _ w)
theorem PA.cons_lift {X : Cx} {G : GK} {W : WX} {e : Expr} {es : List Expr} {te : ATE} {t : ATA} (hn : notStar e = true) (h1 : PE X e (LE G W te)) (h2 : PA X es (LA G W t)) :
    PA X (e :: es) (LA G W fun s h Q X => te s h (fun x h1 => t s h1 (fun xs h2 => Q (x :: xs) h2) X) X) := by
  refine PA.weak (pa_cons h1 h2 (star_cons hn _ _)) ?_
  rintro σ H Q ⟨s, h, Qa, Xa, sr, hr, w, ql, xl⟩
  refine ⟨s, h, _, Xa, sr, hr, w, fun d h1 v H1 x1 hr1 rd w1 => ?_, xl⟩
  refine ⟨s, h1, _, Xa, sr.mono x1, hr1, w1, fun ds h2 vs H2 x2 hr2 rs w2 => ?_, xl.mono x1⟩
  exact ql (d :: ds) h2 (v :: vs) H2 (x1.trans x2) hr2 ⟨v, vs, rfl, rd.mono x2, rs⟩ w2
/-! ### targets -/
/-- only the slots t are written -/
def Wr (t : List Nat) (σ σ' : L2.St) : Prop := σ'.length = σ.length ∧ ∀ j : Nat, j ∉ t → σ'[j]? = σ[j]?
theorem Wr.set {t : List Nat} {σ : L2.St} {i : Nat} {v : Option V} (h : i ∈ t) : Wr t σ (σ.set i v) := ⟨by simp, fun j hj => by
  rw [List.getElem?_set_ne]; rintro rfl; exact hj h⟩
theorem Wr.trans {t : List Nat} {σ σ1 σ2 : L2.St} (a : Wr t σ σ1) (b : Wr t σ1 σ2) : Wr t σ σ2 := ⟨b.1.trans a.1, fun j hj => (b.2 j hj).trans (a.2 j hj)⟩
def LG (G : GK) (t : List Nat) : L2.TG := fun v σ H Q => ∃ d s s1, DRel G.K H d v ∧ SRel G H s σ ∧ bindA t d s = some s1 ∧ ∀ σ', SRel G H s1 σ' → Wr t σ σ' → Q σ' H
theorem PG.weak {X : Cx} {e : Expr} {t t' : L2.TG} (h : PG X e t) (i : ∀ v σ H Q, t' v σ H Q → t v σ H Q) : PG X e t' := ⟨fun pins s σ H v u Q I r q => h.run pins s σ H v u Q I r (i v σ H Q q)⟩
theorem PGs.weak {X : Cx} {e : List Expr} {t t' : TGs} (h : PGs X e t) (i : ∀ v σ H Q, t' v σ H Q → t v σ H Q) : PGs X e t' := ⟨fun pins s σ H v u Q I r q => h.run pins s σ H v u Q I r (i v σ H Q q)⟩
section
variable {S : SC} {G : GK} {T : PTab} {fns : Nat → Option FI} {n : Nat} {X : Cx} {W : WX}
theorem okLoc_of (ok : CxOk S G T fns n X W) {i : Nat} {x : Str} (h : okLoc S i x = true) : X.N[i]? = some x ∧ L2.Loc X.env.scope x ∧ x ∈ S.wr := by
  obtain ⟨h, h3⟩ := an2 h
  obtain ⟨h1, h2⟩ := an2 h
  refine ⟨by rw [ok.N]; exact of_decide_eq_true h1, ?_, of_decide_eq_true h3⟩
  unfold L2.Loc
  rw [ok.sc]
  split at h2
  · exact .inl (by assumption)
  · exact .inr (by assumption)
  · cases h2
theorem pg_nm (ok : CxOk S G T fns n X W) {i : Nat} {x : Str} {pos : Pos} (h : okLoc S i x = true) : PG X (.Name x pos) (gName i) := by
  obtain ⟨h1, h2, h3⟩ := okLoc_of ok h
  exact pg_name ok.nd h1 h2 (ok.lf x h3 h2)
def foldB (is : List Nat) (ds : List DV) (s : ASt) : ASt := (is.zip ds).foldl (fun s p => s.set p.1 (some p.2)) s
theorem pgs_ok (ok : CxOk S G T fns n X W) (t : List Nat) : ∀ {is : List Nat} {es : List Expr}, chkTs S is es = true → (∀ i ∈ is, i ∈ t) →
    PGs X es (fun vs σ H Q => ∃ ds s σ0, DRels G.K H ds vs ∧ SRel G H s σ ∧ ds.length = is.length ∧ Wr t σ0 σ ∧ ∀ σ', SRel G H (foldB is ds s) σ' → Wr t σ0 σ' → Q σ' H) ∧ es.length = is.length ∧ (assignEach es X.env).findIdx? (·.1) = none ∧ (assignEach es X.env).length = es.length
  | [], [], _, _ => by
    refine ⟨PGs.weak pgs_nil ?_, rfl, rfl, rfl⟩
    rintro vs σ H Q ⟨ds, s, σ0, rd, sr, hl, wr, q⟩
    have : ds = [] := List.length_eq_zero_iff.mp hl
    subst this
    cases rd
    exact ⟨rfl, q σ sr wr⟩
  | [], _ :: _, h, _ => by simp [chkTs] at h
  | _ :: _, [], h, _ => by simp [chkTs] at h
  | i :: is, e :: es, h, ht => by
    cases e <;> first | (simp [chkTs] at h; done) | skip
    rename_i x pos
    simp only [chkTs] at h
    obtain ⟨h1, h2⟩ := an2 h
    obtain ⟨p, l, f, l2⟩ := pgs_ok ok t h2 fun j hj => ht j (by simp [hj])
    refine ⟨PGs.weak (pgs_cons (pg_nm ok h1) p) ?_, by simp [l], ?_, ?_⟩
    · rintro vs σ H Q ⟨ds, s, σ0, rd, sr, hl, wr, q⟩
      match ds, rd, hl, q with
      | d :: ds, rd, hl, q =>
        obtain ⟨v, r, rfl, r1, r2⟩ := rd
        exact ⟨v, r, rfl, ds, s.set i (some d), σ0, r2, sr.set i r1, by simpa using hl, wr.trans (Wr.set (ht i (by simp))), q⟩
    · show List.findIdx? (·.1) ((false, assign (.Name x pos) X.env) :: assignEach es X.env) = none
      rw [List.findIdx?_cons]
      simp [f]
    · show ((false, assign (.Name x pos) X.env) :: assignEach es X.env).length = _
      simp [l2]
theorem pg_ok (ok : CxOk S G T fns n X W) {t : List Nat} {e : Expr} (h : chkT S t e = true) : PG X e (LG G t) := by
  cases e <;> first | (simp [chkT] at h; done) | skip
  · rename_i x pos
    simp only [chkT] at h
    split at h
    · rename_i i
      refine PG.weak (pg_nm ok h) ?_
      rintro v σ H Q ⟨d, s, s1, rd, sr, e, q⟩
      simp only [bindA] at e
      cases e
      exact q _ (sr.set i rd) (Wr.set (by simp))
    · cases h
  · rename_i es k pos
    simp only [chkT] at h
    obtain ⟨h, h1⟩ := an2 h
    obtain ⟨hcal, h0⟩ := an2 h
    obtain ⟨p, l, f, l2⟩ := pgs_ok ok t h1 fun _ h => h
    refine PG.weak (pg_tup (ok.calm hcal) p l2 f) ?_
    rintro v σ H Q ⟨d, s, s1, rd, sr, e, q⟩
    have h0' : 2 ≤ t.length := of_decide_eq_true h0
    match t, h0', e, l with
    | i :: j :: t, _, e, l =>
      cases d <;> first | (simp [bindA] at e; done) | skip
      rename_i ds e0
      simp only [bindA] at e
      split at e
      · rename_i hl
        have e' := Option.some.inj e
        subst e'
        obtain ⟨a, vs, rfl, s2, s3⟩ := rd.tupT
        refine ⟨a, vs, rfl, by rw [← ok.K]; exact s2, by rw [s3.length, l, hl], ds, s, σ, s3, sr, hl.symm, ⟨rfl, fun _ _ => rfl⟩, q⟩
      · cases e
end
end PL

set_option maxHeartbeats 4000000
/-! PL, part j: expressions, the rules one by one. -/
namespace PL
open PySem PySem.Spec PyProof.Rows L2

/-- what a loop walks -/
structure ItRel (G : GK) (H0 : Hp) (J : It) (chk : AH → Prop) (xs : List DV) : Prop where
  go : ∀ i H h, HX H0 H → HRel G H h → chk h → i < xs.length → J.go i H
  yld : ∀ i H h d v H', HX H0 H → HRel G H h → chk h → xs[i]? = some d → J.yld i H v H' → HX H H' ∧ HRel G H' h ∧ DRel G.K H' d v
  stop : ∀ i H h, HX H0 H → HRel G H h → chk h → xs.length ≤ i → J.stop i H
def LI (G : GK) (W : WX) (t : ATI) : TI := fun σ H R => ∃ s h Ra Xa, SRel G H s σ ∧ HRel G H h ∧ t s h Ra Xa ∧ (∀ chk xs h' J H', HX H H' → HRel G H' h' → ItRel G H' J chk xs → Ra chk xs h' → R J H') ∧ XL G W σ H Xa
section
variable {G : GK} {H0 : Hp}
theorem it_list {a : Addr} {xs : List DV} (K : PySem.W.Frag) (hK : G.K = K) : ItRel G H0 (Itl K a) (fun h => rdL h a = some xs) xs := by
  subst hK
  refine ⟨fun i H h x0 hr c hi => ?_, fun i H h d v H' x0 hr c e y => ?_, fun i H h x0 hr c hi => ?_⟩
  · obtain ⟨vs, s1, s2⟩ := seq_of hr c
    obtain ⟨v, e1, _⟩ := s2.get (List.getElem?_eq_getElem hi)
    exact ⟨vs, v, s1, e1⟩
  · obtain ⟨vs, s1, s2⟩ := seq_of hr c
    obtain ⟨rfl, y⟩ := y
    obtain ⟨w, e1, e2⟩ := s2.get e
    have := y vs s1
    rw [e1] at this; cases this
    exact ⟨HX.refl _, hr, e2⟩
  · obtain ⟨vs, s1, s2⟩ := seq_of hr c
    exact ⟨vs, s1, by rw [s2.length]; exact hi⟩
theorem it_rng (lo : Int) (n : Nat) : ItRel G H0 (Itr lo n) (fun _ => True) ((List.range n).map fun k => .int (lo + (k : Nat))) := by
  refine ⟨fun i H h x0 hr c hi => ?_, fun i H h d v H' x0 hr c e y => ?_, fun i H h x0 hr c hi => ?_⟩
  · simpa [Itr] using hi
  · obtain ⟨rfl, rfl⟩ := y
    have hi := (List.getElem?_eq_some_iff.mp e).1
    simp only [List.length_map, List.length_range] at hi
    simp [List.getElem?_map, List.getElem?_range hi] at e
    subst e
    exact ⟨HX.refl _, hr, rfl⟩
  · simpa [Itr] using hi
theorem it_str (x : List Nat) (ok : tOk x) : ItRel G H0 (Its ⟨x.toArray⟩) (fun _ => True) (x.map sgn) := by
  refine ⟨fun i H h x0 hr c hi => ?_, fun i H h d v H' x0 hr c e y => ?_, fun i H h x0 hr c hi => ?_⟩
  · simpa [Its] using hi
  · obtain ⟨rfl, c, e1, rfl⟩ := y
    simp only [List.getElem?_toArray] at e1
    rw [List.getElem?_map, e1] at e
    cases e
    refine ⟨HX.refl _, hr, rfl, fun b hb => ?_⟩
    simp at hb; subst hb
    exact ok _ (List.mem_of_getElem? e1)
  · simpa [Its] using hi
theorem enumL_get : ∀ (xs : List DV) (n i : Nat), (enumL n xs)[i]? = (xs[i]?).map fun d => .tup [.int ((n + i : Nat) : Int), d]
  | [], n, i => by simp [enumL]
  | x :: r, n, 0 => by simp [enumL]
  | x :: r, n, i + 1 => by
    simp only [enumL, List.getElem?_cons_succ]
    rw [enumL_get r (n + 1) i]
    congr 1
    funext d
    congr 3
    omega
theorem enumL_len (xs : List DV) (n : Nat) : (enumL n xs).length = xs.length := by
  induction xs generalizing n with
  | nil => rfl
  | cons x r ih => simp [enumL, ih]
theorem it_enum {a : Addr} {xs : List DV} (K : PySem.W.Frag) (hK : G.K = K) : ItRel G H0 (Ite K a) (fun h => rdL h a = some xs) (enumL 0 xs) := by
  subst hK
  refine ⟨fun i H h x0 hr c hi => ?_, fun i H h d v H' x0 hr c e y => ?_, fun i H h x0 hr c hi => ?_⟩
  · obtain ⟨vs, s1, s2⟩ := seq_of hr c
    rw [enumL_len] at hi
    obtain ⟨v, e1, _⟩ := s2.get (List.getElem?_eq_getElem hi)
    exact ⟨vs, v, s1, e1⟩
  · obtain ⟨vs, s1, s2⟩ := seq_of hr c
    obtain ⟨t, x, rfl, nt, rfl, y⟩ := y
    rw [enumL_get] at e
    cases ei : xs[i]? with
    | none => rw [ei] at e; cases e
    | some d0 =>
      rw [ei] at e
      cases e
      obtain ⟨w, e1, e2⟩ := s2.get ei
      have := y vs s1
      rw [e1] at this; cases this
      refine ⟨HX.new nt, hr.updN nt, t, _, rfl, .inl upd_same, _, _, rfl, ?_, _, _, rfl, e2.mono (HX.new nt), rfl⟩
      simp [DRel]
  · obtain ⟨vs, s1, s2⟩ := seq_of hr c
    rw [enumL_len] at hi
    exact ⟨vs, s1, by rw [s2.length]; exact hi⟩
theorem it_rev {a : Addr} {xs : List DV} (K : PySem.W.Frag) (hK : G.K = K) : ItRel G H0 (Itv K a xs.length) (fun h => rdL h a = some xs) xs.reverse := by
  subst hK
  refine ⟨fun i H h x0 hr c hi => ?_, fun i H h d v H' x0 hr c e y => ?_, fun i H h x0 hr c hi => ?_⟩
  · obtain ⟨vs, s1, s2⟩ := seq_of hr c
    rw [List.length_reverse] at hi
    obtain ⟨v, e1, _⟩ := s2.get (i := xs.length - 1 - i) (List.getElem?_eq_getElem (by omega))
    exact ⟨hi, vs, v, s1, e1⟩
  · obtain ⟨vs, s1, s2⟩ := seq_of hr c
    obtain ⟨rfl, y⟩ := y
    have hi := (List.getElem?_eq_some_iff.mp e).1
    rw [List.length_reverse] at hi
    rw [List.getElem?_reverse hi] at e
    obtain ⟨w, e1, e2⟩ := s2.get e
    have := y vs s1
    rw [e1] at this; cases this
    exact ⟨HX.refl _, hr, e2⟩
  · rw [List.length_reverse] at hi
    exact hi
theorem it_tup {a : Addr} {vs : List V} {xs : List DV} (K : PySem.W.Frag) (hK : G.K = K) (h1 : H0 a = some (.tup vs) ∨ KTup G.K a vs) (h2 : DRels G.K H0 xs vs) : ItRel G H0 (Itt K a) (fun _ => True) xs := by
  subst hK
  have sq : ∀ {H}, HX H0 H → SqT G.K H a vs := fun {H} x => by
    rcases h1 with h | h
    · exact SqT.of (x a vs h)
    · rcases h with (h | ⟨_, h⟩) | h
      · cases h
      · cases h
      · exact .inr h
  refine ⟨fun i H h x0 hr c hi => ?_, fun i H h d v H' x0 hr c e y => ?_, fun i H h x0 hr c hi => ?_⟩
  · obtain ⟨v, e1, _⟩ := h2.get (List.getElem?_eq_getElem hi)
    exact ⟨vs, v, sq x0, e1⟩
  · obtain ⟨rfl, y⟩ := y
    obtain ⟨w, e1, e2⟩ := h2.get e
    have := y vs (sq x0)
    rw [e1] at this; cases this
    exact ⟨HX.refl _, hr, e2.mono x0⟩
  · exact ⟨vs, sq x0, by rw [h2.length]; exact hi⟩
theorem it_keys {a : Addr} {kvs : List (DV × DV)} {o : Obj} {q : List (Key × V)} : ItRel G H0 (Itk a o q) (fun h => h a = some (.fdct kvs o q)) (kvs.map (·.1)) := by
  refine ⟨fun i H h x0 hr c hi => ?_, fun i H h d v H' x0 hr c e y => ?_, fun i H h x0 hr c hi => ?_⟩
  · obtain ⟨e1, e2⟩ := hr a _ c
    exact ⟨e1, by rw [e2.length]; simpa using hi⟩
  · obtain ⟨e1, e2⟩ := hr a _ c
    obtain ⟨rfl, k, u, f1, rfl⟩ := y
    rw [List.getElem?_map] at e
    cases e3 : kvs[i]? with
    | none => rw [e3] at e; cases e
    | some p =>
      rw [e3] at e
      cases e
      obtain ⟨k', u', g1, g2, g3⟩ := e2.get e3
      rw [f1] at g1
      cases g1
      exact ⟨HX.refl _, hr, g2⟩
  · obtain ⟨e1, e2⟩ := hr a _ c
    exact ⟨e1, by rw [e2.length]; simpa using hi⟩
theorem it_vals {a : Addr} {kvs : List (DV × DV)} {o : Obj} {q : List (Key × V)} : ItRel G H0 (Itd a o q) (fun h => h a = some (.fdct kvs o q)) (kvs.map (·.2)) := by
  refine ⟨fun i H h x0 hr c hi => ?_, fun i H h d v H' x0 hr c e y => ?_, fun i H h x0 hr c hi => ?_⟩
  · obtain ⟨e1, e2⟩ := hr a _ c
    exact ⟨e1, by rw [e2.length]; simpa using hi⟩
  · obtain ⟨e1, e2⟩ := hr a _ c
    obtain ⟨rfl, k, f1⟩ := y
    rw [List.getElem?_map] at e
    cases e3 : kvs[i]? with
    | none => rw [e3] at e; cases e
    | some p =>
      rw [e3] at e
      cases e
      obtain ⟨k', u', g1, g2, g3⟩ := e2.get e3
      rw [f1] at g1
      cases g1
      exact ⟨HX.refl _, hr, g3⟩
  · obtain ⟨e1, e2⟩ := hr a _ c
    exact ⟨e1, by rw [e2.length]; simpa using hi⟩
theorem it_items {a : Addr} {kvs : List (DV × DV)} {o : Obj} {q : List (Key × V)} : ItRel G H0 (Iti a o q) (fun h => h a = some (.fdct kvs o q)) (kvs.map fun p => .tup [p.1, p.2]) := by
  refine ⟨fun i H h x0 hr c hi => ?_, fun i H h d v H' x0 hr c e y => ?_, fun i H h x0 hr c hi => ?_⟩
  · obtain ⟨e1, e2⟩ := hr a _ c
    exact ⟨e1, by rw [e2.length]; simpa using hi⟩
  · obtain ⟨e1, e2⟩ := hr a _ c
    obtain ⟨t, k, u, f1, rfl, nt, rfl⟩ := y
    rw [List.getElem?_map] at e
    cases e3 : kvs[i]? with
    | none => rw [e3] at e; cases e
    | some p =>
      rw [e3] at e
      cases e
      obtain ⟨k', u', g1, g2, g3⟩ := e2.get e3
      rw [f1] at g1
      cases g1
      exact ⟨HX.new nt, hr.updN nt, t, _, rfl, .inl upd_same, _, _, rfl, g2.mono (HX.new nt), _, _, rfl, g3.mono (HX.new nt), rfl⟩
  · obtain ⟨e1, e2⟩ := hr a _ c
    exact ⟨e1, by rw [e2.length]; simpa using hi⟩
end
end PL

set_option maxHeartbeats 4000000
/-! PL, part k: calls. -/
namespace PL
open PySem PySem.Spec PyProof.Rows L2

section
variable {S : SC} {G : GK} {T : PTab} {fns : Nat → Option FI} {n : Nat} {X : Cx} {W : WX}
/-- f(..), f a global object, by values -/
theorem call_nm {x : Str} {p pos : Pos} {a : Addr} {es : EXs} {xs : List Expr} {t : ATA} {r : L2.St → List V → Hp → VK → Prop} (hg : Gl X x) (hdb : (x == ("__debug__" : Str)) = false) (hm : X.mg x = some (.ref a)) (hk : PySem.W.keepIn X.K (.ref a) = true)
    (hs : chkEs es S xs = true) (ha : PA X xs (LA G W t)) (h0 : xs = [] → ∀ s h Q Y, t s h Q Y → Q [] h)
    (run : ∀ (pins : List (Addr × Obj)) (s : Shared) (σ : L2.St) (H : Hp) (vs : List V) (us : List Value) (Q : VK), Inv X pins σ H s → Vals vs us → r σ vs H Q → wpAny (model X.prog X.w) X.A (call (.ref a) us) (EP X pins σ Q) X.xe s) :
    PE X (.Call (.Name x p) xs [] pos) (fun σ H Q => LA G W t σ H fun vs H1 => r σ vs H1 Q) := by
  refine ⟨fun pins s σ H Q I h => ?_⟩
  refine wpAny_Call_Name_kw (ld_glob I hg hm ?_ hdb)
  cases xs with
  | nil =>
    obtain ⟨s', h', Qa, Xa, sr, hr, w, ql, xl⟩ := h
    exact PySem.W.callWith_K0 I.kIn hk (run pins s σ H [] [] Q I .nil (ql [] h' [] H (HX.refl H) hr rfl (h0 rfl _ _ _ _ w)))
  | cons e q =>
    cases es with
    | nil => simp [chkEs] at hs
    | cons e' q' =>
      obtain ⟨h1, h2⟩ := an2 (by simpa only [chkEs] using hs)
      exact PySem.W.callWith_K (h₀ := X.base) I.ok.mod.kin hk (thn (ha.run pos pins s σ H _ I h) fun us s1 ⟨vs, H1, I1, rr, q⟩ => ⟨I1.kIn, run pins s1 σ H1 vs us Q I1 rr q⟩) (star_cons (chkE_notStar h1) _ _) (star_any _ h2)
theorem meth_ht {o : Expr} {m : Str} {apos pos : Pos} {xs : List Expr} {es : EXs} {env : Env} (hm : methOk o m apos pos xs.length = true) (hs : chkEs es S xs = true) : eval (.Call (.Attribute o m apos) xs [] pos) env = (do
      let ov ← eval o env
      standAt apos.atName
      let (f, first) ← holding [ov] (getMethod ov m (plainOf o env))
      callWith pos f first (backTo pos (starEach xs env)) (backToKw pos (keywordEach [] env))) := by
  have hb := base_ok (env := env) hm
  obtain ⟨h1, h2⟩ := an2 hm
  obtain ⟨_, h1⟩ := an2 h1
  have h1' : xs.length < 30 := of_decide_eq_true h1
  show (do let ov ← attributeBase o m env (eval o env); standAt apos.atName; methodCall o m apos pos env ov (xs.length + ([] : List Keyword).length) (backTo pos (starEach xs env)) (backToKw pos (keywordEach [] env))) = _
  rw [hb]
  congr 1
  funext ov
  congr 1
  funext _
  exact mcall_line (by
    unfold methodCallForm
    rw [star_all env hs]
    show (true && true && decide (xs.length + 0 + 0 < 30)) = true
    simp
    omega) h2
/-- a function of ours is run -/
theorem run_A (ok : CxOk S G T fns n X W) {f : Nat} {a : Addr} {j : Nat} (F : FnA G T fns n X f a j) {pins : List (Addr × Obj)} {s : Shared} {σ : L2.St} {H : Hp} {vs : List V} {us : List Value} {Q : VK} {ds : List DV} {h : AH} {Qa : AQ} {Xa : AX}
    (I : Inv X pins σ H s) (r : Vals vs us) (rd : DRels G.K H ds vs) (hr : HRel G H h) (w : wCall T fns n f ds h Qa Xa) (ql : QL G H Qa Q) (xl : XL G W σ H Xa) : wpAny (model X.prog X.w) X.A (call (.ref a) us) (EP X pins σ Q) X.xe s := by
  obtain ⟨fd, ps, k, F, hr', hb⟩ := F.ex
  exact FP.run_P (E := WE W) F (hr'.mono (Nat.le_add_right k j)) ok.hd hb (L2N.passAt ok.tk σ) I r ⟨ds, h, Qa, Xa, rd, hr, w, ql, fun c fs h d H' x1 h1 h2 h3 => xl c fs h d H' x1 h1 h2 h3⟩
theorem sCall (ok : CxOk S G T fns n X W) {x : Str} {p pos : Pos} {f : Nat} {es : EXs} {xs : List Expr} {t : ATA} (hg : isGl S x = true) (hf : S.fn.lookup x = some f)
    (hs : chkEs es S xs = true) (ha : PA X xs (LA G W t)) (h0 : xs = [] → ∀ s h Q Y, t s h Q Y → Q [] h) :
    PE X (.Call (.Name x p) xs [] pos) (LE G W fun s h Q Y => t s h (fun ds h1 => wCall T fns n f ds h1 Q Y) Y) := by
  obtain ⟨a, hm, hk, F⟩ := ok.fn x f hf
  obtain ⟨g1, g2⟩ := isGl_of ok hg
  refine PE.weak (call_nm (r := fun σ vs H Q => ∃ ds h Qa Xa, DRels G.K H ds vs ∧ HRel G H h ∧ wCall T fns n f ds h Qa Xa ∧ QL G H Qa Q ∧ XL G W σ H Xa) g1 g2 hm hk hs ha h0 ?_) ?_
  · rintro pins s σ H vs us Q I r ⟨ds, h, Qa, Xa, rd, hr, w, ql, xl⟩
    exact run_A ok F I r rd hr w ql xl
  · rintro σ H Q ⟨s, h, Qa, Xa, sr, hr, w, ql, xl⟩
    exact ⟨s, h, _, Xa, sr, hr, w, fun ds h1 vs H1 x1 hr1 rd w1 => ⟨ds, h1, Qa, Xa, rd, hr1, w1, ql.mono x1, xl.mono x1⟩, xl⟩
theorem ins_new {H : Hp} {h : AH} {p dx : Addr} {c : Nat} (lc : c < G.nC) (hr : HRel G H h) (n1 : H p = none) (n2 : H dx = none) (ne : dx ≠ p) : HRel G (upd (upd H dx (.own p)) p (.ins (G.cA c) dx [])) (au h p (.ins c (List.replicate (G.cf c).length none))) ∧ HX H (upd (upd H dx (.own p)) p (.ins (G.cA c) dx [])) := by
  have n3 : (upd H dx (.own p)) p = none := by rw [upd_ne (Ne.symm ne)]; exact n1
  refine ⟨(hr.updN n2).new n3 ⟨dx, [], upd_same, lc, by simp, by simp, by simp, ?_⟩, (HX.new n2).trans (HX.new n3)⟩
  intro i f d e1 e2
  have := (List.getElem?_eq_some_iff.mp e2).2
  simp at this
theorem sMake (ok : CxOk S G T fns n X W) {x : Str} {p pos : Pos} {c : Nat} {es : EXs} {xs : List Expr} {t : ATA} (hg : isGl S x = true) (hf : S.cl.lookup x = some c)
    (hs : chkEs es S xs = true) (ha : PA X xs (LA G W t)) (h0 : xs = [] → ∀ s h Q Y, t s h Q Y → Q [] h) :
    PE X (.Call (.Name x p) xs [] pos) (LE G W fun s h Q Y => t s h (fun ds h1 => ∃ f, T.init c = some f ∧ ∀ p, h1 p = none → wCall T fns n f (.ref p :: ds) (au h1 p (.ins c (List.replicate (T.nf c) none))) (fun v h2 => v = .non ∧ Q (.ref p) h2) (fun _ _ _ => False)) Y) := by
  obtain ⟨hm, lc, hk, hn, hi⟩ := ok.cl x c hf
  obtain ⟨g1, g2⟩ := isGl_of ok hg
  refine ⟨fun pins s σ H Q I l => ?_⟩
  obtain ⟨s0, h, Qa, Xa, sr, hr, w, ql, xl⟩ := l
  refine wpAny_Call_Name_kw (ld_glob I g1 hm ?_ g2)
  have fin : ∀ {f : Nat} {s1 : Shared} {H1 : Hp} {h1 : AH} {ds : List DV} {vs : List V} {us : List Value}, HX H H1 → Inv X pins σ H1 s1 → Vals vs us → DRels G.K H1 ds vs → HRel G H1 h1 → T.init c = some f →
      (∀ p, h1 p = none → wCall T fns n f (.ref p :: ds) (au h1 p (.ins c (List.replicate (T.nf c) none))) (fun v h2 => v = .non ∧ Qa (.ref p) h2) (fun _ _ _ => False)) → wpAny (model X.prog X.w) X.A (call (.ref (G.cA c)) us) (EP X pins σ Q) X.xe s1 := by
    intro f s1 H1 h1 ds vs us x1 I1 r rd hr1 ei wc
    obtain ⟨a, M, F⟩ := hi f ei
    obtain ⟨fd, ps, k, F, hr', hb⟩ := F.ex
    refine FP.run_makeP (E := fun _ _ _ => False) M F hr' ok.hd hb (fun _ _ _ _ _ _ _ hc => ?_) I1 r ?_
    · obtain ⟨_, _, _, _, _, _, _, _, _, _, _, _, z⟩ := hc
      exact z.elim
    · intro p dx n1 n2 ne
      obtain ⟨hr2, x2⟩ := ins_new (c := c) lc hr1 n1 n2 ne
      rw [hn] at wc
      refine ⟨.ref p :: ds, _, _, _, ⟨.ref p, vs, rfl, rfl, rd.mono x2⟩, hr2, wc p (hr1.free n1), ?_, fun _ _ _ _ _ _ _ _ z => z.elim⟩
      rintro d h3 v H3 x3 hr3 rv ⟨rfl, q⟩
      exact ⟨rv, ql (.ref p) _ _ _ (x1.trans (x2.trans x3)) hr3 rfl q⟩
  cases xs with
  | nil =>
    obtain ⟨f, ei, wc⟩ := h0 rfl _ _ _ _ w
    exact PySem.W.callWith_K0 I.kIn hk (fin (ds := []) (HX.refl H) I .nil rfl hr ei wc)
  | cons e q =>
    cases es with
    | nil => simp [chkEs] at hs
    | cons e' q' =>
      obtain ⟨h1, h2⟩ := an2 (by simpa only [chkEs] using hs)
      exact PySem.W.callWith_K (h₀ := X.base) I.ok.mod.kin hk (thn (ha.run pos pins s σ H (fun vs H1 => ∃ ds h1, HX H H1 ∧ HRel G H1 h1 ∧ DRels G.K H1 ds vs ∧ _) I
        ⟨s0, h, _, Xa, sr, hr, w, fun ds h1 vs H1 x1 hr1 rd w1 => ⟨ds, h1, x1, hr1, rd, w1⟩, xl⟩) fun us s1 ⟨vs, H1, I1, rr, ds, h1, x1, hr1, rd, f, ei, wc⟩ => ⟨I1.kIn, fin x1 I1 rr rd hr1 ei wc⟩) (star_cons (chkE_notStar h1) _ _) (star_any _ h2)
theorem run_make0 {pins : List (Addr × Obj)} {σ : L2.St} {H : Hp} {s : Shared} {Q : VK} {C : Addr} (hm : PySem.W.makesIn X.K C = true) (hi : PySem.W.findIn X.K (.ref C) "__init__" = some (some (.builtin "object.__init__"))) (top : PySem.W.mroIn X.K C (.type "object") = some true) (I : Inv X pins σ H s)
    (q : ∀ x dx, H x = none → H dx = none → dx ≠ x → Q (.ref x) (upd (upd H dx (.own x)) x (.ins C dx []))) : wpAny (model X.prog X.w) X.A (call (.ref C) []) (EP X pins σ Q) X.xe s := by
  have I2 := Inv.made (C := C) I
  have q2 := q (s.heap.objs.size + 1) s.heap.objs.size (I.hok.fresh (Nat.le_succ _)) (I.hok.fresh (Nat.le_refl _)) (Nat.ne_of_lt (Nat.lt_succ_self _))
  refine wpAny_call (make_map0 I.kIn hm hi (fun self => PySem.W.Looks.of_pure (PySem.W.oi_bind self)) ?_)
  have e2 : ((s.heap.push PySem.W.emptyDict).push (PySem.W.instObj C s.heap.objs.size)).get? (s.heap.objs.size + 1) = some (PySem.W.instObj C s.heap.objs.size) := by heap_get
  have t1 : PySem.W.Looks (model X.prog X.w) ((s.heap.push PySem.W.emptyDict).push (PySem.W.instObj C s.heap.objs.size)) (isInstance (.ref (s.heap.objs.size + 1)) (.type "object")) true :=
    ((PySem.W.Looks.ld e2).andThen .now).andThen (PySem.W.looks_mroIn I2.kIn top)
  obtain ⟨hp, g, dd, tk, os⟩ := s
  refine codeAny_call_builtin PySem.W.oi_plain PySem.W.entry_oi (@PySem.W.check_slot (model X.prog X.w) _ _ _ "object.__init__" "object" "__init__" (.ref (hp.objs.size + 1)) [] [] _ PySem.W.oi_kind PySem.W.oi_split t1 (PySem.W.oi_args _) ?_)
  rw [PySem.W.oi_run]
  exact wpAny_pure ⟨rfl, V.ref (hp.objs.size + 1), _, I2, rfl, q2⟩
theorem sMake0 (ok : CxOk S G T fns n X W) {x : Str} {p pos : Pos} {c : Nat} (hg : isGl S x = true) (hf : S.c0.lookup x = some c) : PE X (.Call (.Name x p) [] [] pos) (LE G W fun s h Q Y => newO (.ins c (List.replicate (T.nf c) none)) h Q) := by
  obtain ⟨hm, lc, hk, hn, h4, h5⟩ := ok.c0 x c hf
  obtain ⟨g1, g2⟩ := isGl_of ok hg
  refine ⟨fun pins s σ H Q I l => ?_⟩
  obtain ⟨s0, h, Qa, Xa, sr, hr, w, ql, xl⟩ := l
  refine wpAny_Call_Name_kw (ld_glob I g1 hm ?_ g2)
  refine PySem.W.callWith_K0 I.kIn hk (run_make0 h4 h5 (ok.isi c lc).hm I fun p dx n1 n2 ne => ?_)
  obtain ⟨hr2, x2⟩ := ins_new (c := c) lc hr n1 n2 ne
  rw [← hn] at hr2
  exact ql (.ref p) _ _ _ x2 hr2 rfl (w p (hr.free n1))
theorem sMeth (ok : CxOk S G T fns n X W) {o : Expr} {m : Str} {mid : Nat} {apos pos : Pos} {es : EXs} {xs : List Expr} {to : ATE} {t : ATA} (hmn : S.mn[mid]? = some m) (hmk : methOk o m apos pos xs.length = true) (ho : PE X o (LE G W to))
    (hs : chkEs es S xs = true) (ha : PA X xs (LA G W t)) (h0 : xs = [] → ∀ s h Q Y, t s h Q Y → Q [] h) :
    PE X (.Call (.Attribute o m apos) xs [] pos) (LE G W fun s h Q Y => to s h (fun x h1 => ∃ p c fs f, x = .ref p ∧ h1 p = some (.ins c fs) ∧ T.mt c mid = some f ∧ t s h1 (fun ds h2 => wCall T fns n f (x :: ds) h2 Q Y) Y) Y) := by
  refine ⟨fun pins s σ H Q I l => ?_⟩
  obtain ⟨s0, h, Qa, Xa, sr, hr, w, ql, xl⟩ := l
  refine PySem.W.methodCall_KW (pl := plainOf o X.env) (thn (ho.run pins s σ H (fun v H1 => ∃ d h1, HX H H1 ∧ HRel G H1 h1 ∧ DRel G.K H1 d v ∧ _) I
    ⟨s0, h, _, Xa, sr, hr, w, fun d h1 v H1 x1 hr1 rd w1 => ⟨d, h1, x1, hr1, rd, w1⟩, xl⟩) fun u s1 ⟨x, H1, I1, rx, d, h1, x1, hr1, rd, w1⟩ => ?_) (meth_ht hmk hs)
  obtain ⟨p, c, fs, f, rfl, e1, e2, w2⟩ := w1
  cases rd
  obtain rfl : u = Value.ref p := rx
  obtain ⟨dx, q, ea, lc, el, nd, sb, fr⟩ := hr1 p _ e1
  obtain ⟨nin, g, hc, hm, F⟩ := ok.mt c mid f m e2 hmn
  have hl : q.lookup m = none := by
    cases z : q.lookup m with
    | none => rfl
    | some v =>
      have : ∀ {l : List (Str × V)} {v : V}, l.lookup m = some v → m ∈ l.map (·.1) := by
        intro l
        induction l with
        | nil => intro v h; cases h
        | cons a l ih =>
          intro v h
          rw [List.lookup_cons] at h
          split at h
          · rename_i hb
            have := beq_iff_eq.mp hb
            simp [this]
          · exact List.mem_cons_of_mem _ (ih h)
      exact absurd (sb m (this z)) nin
  refine getmeth_ok I1 ea hc hm hl ?_
  cases xs with
  | nil =>
    have w3 := h0 rfl _ _ _ _ w2
    exact PySem.W.callWith_K0 (first := [.ref p]) I1.kIn hm.kp (run_A (us := [.ref p]) (vs := [.ref p]) (ds := [.ref p]) ok F I1 (.cons rfl .nil) ⟨_, _, rfl, rfl, rfl⟩ hr1 w3 (ql.mono x1) (xl.mono x1))
  | cons e q =>
    cases es with
    | nil => simp [chkEs] at hs
    | cons e' q' =>
      obtain ⟨c1, c2⟩ := an2 (by simpa only [chkEs] using hs)
      refine PySem.W.callWith_K (first := [.ref p]) (h₀ := X.base) I1.ok.mod.kin hm.kp (thn (ha.run pos pins s1 σ H1 (fun vs H2 => ∃ ds h2, HX H1 H2 ∧ HRel G H2 h2 ∧ DRels G.K H2 ds vs ∧ _) I1
        ⟨s0, h1, _, Xa, sr.mono x1, hr1, w2, fun ds h2 vs H2 x2 hr2 rd w3 => ⟨ds, h2, x2, hr2, rd, w3⟩, xl.mono x1⟩) fun us s2 ⟨vs, H2, I2, rr, ds, h2, x2, hr2, rd2, w3⟩ => ⟨I2.kIn, ?_⟩) (star_cons (chkE_notStar c1) _ _) (star_any _ c2)
      exact run_A (us := .ref p :: us) (vs := .ref p :: vs) (ds := .ref p :: ds) ok F I2 (.cons rfl rr) ⟨_, _, rfl, rfl, rd2⟩ hr2 w3 (ql.mono (x1.trans x2)) (xl.mono (x1.trans x2))
/-- C.m(..), C a class of ours -/
theorem sCM (ok : CxOk S G T fns n X W) {x m : Str} {p apos pos : Pos} {f : Nat} {es : EXs} {y : Expr} {ys : List Expr} {t : ATA} (hg : isGl S x = true) (hf : S.cm.lookup (x, m) = some f) (hmk : methOk (.Name x p) m apos pos (y :: ys).length = true)
    (hs : chkEs es S (y :: ys) = true) (ha : PA X (y :: ys) (LA G W t)) :
    PE X (.Call (.Attribute (.Name x p) m apos) (y :: ys) [] pos) (LE G W fun s h Q Y => t s h (fun ds h1 => wCall T fns n f ds h1 Q Y) Y) := by
  obtain ⟨C, a, hm, hgt, hr, hfc, hk, F⟩ := ok.cm x m f hf
  obtain ⟨g1, g2⟩ := isGl_of ok hg
  cases es with
  | nil => simp [chkEs] at hs
  | cons e' q' =>
  obtain ⟨c1, c2⟩ := an2 (by simpa only [chkEs] using hs)
  refine ⟨fun pins s σ H Q I l => ?_⟩
  obtain ⟨s0, h, Qa, Xa, sr, hr0, w, ql, xl⟩ := l
  refine PySem.W.methodCall_KW (pl := plainOf (.Name x p) X.env) (ld_glob I g1 hm ?_ g2) (meth_ht hmk hs)
  refine PySem.W.method_cls I.kIn hgt (PySem.W.cls_value I.kIn hr hfc rfl ?_)
  have I0 := I.tok (s.toks + 1)
  refine PySem.W.callWith_K (first := []) (h₀ := X.base) I0.ok.mod.kin hk (thn (ha.run pos pins _ σ H (fun vs H2 => ∃ ds h2, HX H H2 ∧ HRel G H2 h2 ∧ DRels G.K H2 ds vs ∧ _) I0
    ⟨s0, h, _, Xa, sr, hr0, w, fun ds h2 vs H2 x2 hr2 rd w3 => ⟨ds, h2, x2, hr2, rd, w3⟩, xl⟩) fun us s2 ⟨vs, H2, I2, rr, ds, h2, x2, hr2, rd2, w3⟩ => ⟨I2.kIn, ?_⟩) (star_cons (chkE_notStar c1) _ _) (star_any _ c2)
  exact run_A ok F I2 rr rd2 hr2 w3 (ql.mono x2) (xl.mono x2)
end
end PL

set_option maxHeartbeats 8000000
/-! PL, part l: every expression. -/
namespace PL
open PySem PySem.Spec PyProof.Rows L2

theorem bf_boot (b : BF) : bootBuiltins b.nm = some (bfV b) := by cases b <;> decide +kernel
theorem bf_name (b : BF) : b.nm ≠ "__name__" := by cases b <;> decide +kernel
def rtT : RT → String
  | .str => "str"
  | .list => "list"
  | .dict => "dict"
theorem bm_tab (m : BM) : PlainAttrs (rtT m.rt) ∧ Slot (rtT m.rt) m.nm m.id ∧ typeOf (.builtin m.id) = pure (.type "method_descriptor") := by
  cases m with
  | append => exact ⟨PySem.F.plainAttrs_list, PySem.F.slot_list_append, PySem.F.type_list_append⟩
  | extend => exact ⟨PySem.F.plainAttrs_list, PySem.F.slot_list_extend, PySem.F.type_list_extend⟩
  | pop => exact ⟨PySem.F.plainAttrs_list, PySem.F.slot_list_pop, PySem.F.type_list_pop⟩
  | insert => exact ⟨PySem.F.plainAttrs_list, PySem.F.slot_list_insert, PySem.F.type_list_insert⟩
  | remove => exact ⟨PySem.F.plainAttrs_list, PySem.F.slot_list_remove, PySem.F.type_list_remove⟩
  | index => exact ⟨PySem.F.plainAttrs_list, PySem.F.slot_list_index, PySem.F.type_list_index⟩
  | indexD => exact ⟨PySem.F.plainAttrs_list, PySem.F.slot_list_index, PySem.F.type_list_index⟩
  | sindex => exact ⟨PySem.F.plainAttrs_str, PySem.F.slot_str_index, PySem.F.type_str_index⟩
  | count => exact ⟨PySem.F.plainAttrs_list, PySem.F.slot_list_count, PySem.F.type_list_count⟩
  | reverse => exact ⟨PySem.F.plainAttrs_list, PySem.F.slot_list_reverse, PySem.F.type_list_reverse⟩
  | clear => exact ⟨PySem.F.plainAttrs_list, PySem.F.slot_list_clear, PySem.F.type_list_clear⟩
  | join => exact ⟨PySem.F.plainAttrs_str, PySem.F.slot_str_join, PySem.F.type_str_join⟩
  | split => exact ⟨PySem.F.plainAttrs_str, PySem.F.slot_str_split, PySem.F.type_str_split⟩
  | partition => exact ⟨PySem.F.plainAttrs_str, PySem.F.slot_str_partition, PySem.F.type_str_partition⟩
  | find => exact ⟨PySem.F.plainAttrs_str, PySem.F.slot_str_find, PySem.F.type_str_find⟩
  | replace => exact ⟨PySem.F.plainAttrs_str, PySem.F.slot_str_replace, PySem.F.type_str_replace⟩
  | upper => exact ⟨PySem.F.plainAttrs_str, PySem.F.slot_str_upper, PySem.F.type_str_upper⟩
  | isdigit => exact ⟨PySem.F.plainAttrs_str, PySem.F.slot_str_isdigit, PySem.F.type_str_isdigit⟩
  | get => exact ⟨PySem.F.plainAttrs_dict, PySem.F.slot_dict_get, PySem.F.type_dict_get⟩
  | setdefault => exact ⟨PySem.F.plainAttrs_dict, PySem.F.slot_dict_setdefault, PySem.F.type_dict_setdefault⟩
  | update => exact ⟨PySem.F.plainAttrs_dict, PySem.F.slot_dict_update, PySem.F.type_dict_update⟩
  | dpop => exact ⟨PySem.F.plainAttrs_dict, PySem.F.slot_dict_pop, PySem.F.type_dict_pop⟩
/-! ### isinstance -/
def tyN : TY → String
  | .int => "int" | .bool => "bool" | .str => "str" | .list => "list" | .tuple => "tuple" | .dict => "dict" | .verr => "ValueError" | _ => ""
def subT (a b : String) : Bool := a == b || (a == "bool" && b == "int")
theorem kit_tab : ∀ a ∈ ["NoneType", "bool", "int", "str", "list", "tuple", "dict"], ∀ b ∈ ["int", "bool", "str", "list", "tuple", "dict"], kitB a b = some (subT a b) := by decide +kernel
section
variable {S : SC} {G : GK} {T : PTab} {fns : Nat → Option FI} {n : Nat} {X : Cx} {W : WX}
def uOf (G : GK) : TY → Value
  | .cls c => .ref (G.cA c)
  | .exc c => .ref (G.xA c)
  | t => .type (tyN t)
def cOf (G : GK) : TY → V
  | .cls c => .ref (G.cA c)
  | .exc c => .ref (G.xA c)
  | t => .ty (tyN t)
theorem cls_pe (ok : CxOk S G T fns n X W) {t : TY} {e : Expr} (h : tyIs S t e = true) : PE X e (tC (cOf G t)) ∧ ClsV (cOf G t) (uOf G t) ∧ notStar e = true ∧ (∀ es k p, e ≠ .Tuple es k p) := by
  cases e <;> first | (cases t <;> simp [tyIs] at h; done) | skip
  rename_i x pos
  have bt : ∀ {nm : Str} {tn : String}, isGl S x = true → x = nm → x ∈ S.bt → bootBuiltins nm = some (.type tn) → nm ≠ "__name__" → PE X (.Name x pos) (tC (.ty tn)) := fun {nm tn} h1 h2 h3 h4 h5 => by
    obtain ⟨g1, g2⟩ := isGl_of ok h1
    subst h2
    exact pe_bltn g1 (ok.bt _ h3) h4 rfl h5 g2
  cases t <;> simp only [tyIs, Bool.and_eq_true, decide_eq_true_eq, Bool.false_eq_true] at h
  · exact ⟨bt h.1.1 h.1.2 h.2 (by decide +kernel) (by decide +kernel), .ty _, rfl, by simp⟩
  · exact ⟨bt h.1.1 h.1.2 h.2 (by decide +kernel) (by decide +kernel), .ty _, rfl, by simp⟩
  · exact ⟨bt h.1.1 h.1.2 h.2 (by decide +kernel) (by decide +kernel), .ty _, rfl, by simp⟩
  · exact ⟨bt h.1.1 h.1.2 h.2 (by decide +kernel) (by decide +kernel), .ty _, rfl, by simp⟩
  · exact ⟨bt h.1.1 h.1.2 h.2 (by decide +kernel) (by decide +kernel), .ty _, rfl, by simp⟩
  · exact ⟨bt h.1.1 h.1.2 h.2 (by decide +kernel) (by decide +kernel), .ty _, rfl, by simp⟩
  · exact ⟨bt h.1.1 h.1.2 h.2 (by decide +kernel) (by decide +kernel), .ty _, rfl, by simp⟩
  · obtain ⟨g1, g2⟩ := isGl_of ok h.1
    exact ⟨pe_glob g1 (ok.cl _ _ h.2).1 rfl g2, .own _, rfl, by simp⟩
  · obtain ⟨g1, g2⟩ := isGl_of ok h.1
    exact ⟨pe_glob g1 (ok.xt _ _ h.2) rfl g2, .own _, rfl, by simp⟩
theorem kit_b {K : PySem.W.Frag} {a : String} {t : TY} (ha : a ∈ ["NoneType", "bool", "int", "str", "list", "tuple", "dict"]) (ht : t = .int ∨ t = .bool ∨ t = .str ∨ t = .list ∨ t = .tuple ∨ t = .dict) : PySem.W.kitOne K (.type a) (uOf G t) = some (subT a (tyN t)) := by
  have : uOf G t = .type (tyN t) := by rcases ht with rfl | rfl | rfl | rfl | rfl | rfl <;> rfl
  rw [this]
  exact kit_ty (kit_tab a ha _ (by rcases ht with rfl | rfl | rfl | rfl | rfl | rfl <;> simp [tyN]))
theorem tyIs_cases {t : TY} {e : Expr} (h : tyIs S t e = true) : (t = .int ∨ t = .bool ∨ t = .str ∨ t = .list ∨ t = .tuple ∨ t = .dict) ∨ (∃ c, t = .cls c) ∨ (∃ c, t = .exc c) ∨ t = .verr := by
  cases t <;> simp
/-- .. an exception's too -/
def TyZ (K : PySem.W.Frag) (H : Hp) (v : V) (t : Value) : Prop := TyX K H v t ∨ ∃ (a D d : Addr) (q : List (Str × V)), v = .ref a ∧ t = .ref D ∧ H a = some (exH a (.ref D) (some d)) ∧ H d = some (.xd q) ∧ ExcC K D
theorem kit_ofZ {pins : List (Addr × Obj)} {σ : L2.St} {H : Hp} {s : Shared} {x : V} {u t : Value} (I : Inv X pins σ H s) (rx : RelV x u) (z : TyZ X.K H x t) : ∃ P : Heap → Prop, PySem.W.KitX X.K u t P ∧ P s.heap ∧ u ≠ .builtin "__main__.__loader__#opaque" := by
  rcases z with z | ⟨a, D, d, q, rfl, rfl, ea, ed, C⟩
  · exact kit_of I rx z
  · cases (show u = Value.ref a from rx)
    obtain ⟨⟨oe, vs, e1, hz, hv⟩, _⟩ := I.hok a _ ea
    have hx : ObjOk X.prog X.w H s.heap d (.xd q) := I.hok d _ ed
    obtain ⟨mp, ns, rel⟩ := hx
    obtain ⟨od, hod, lk⟩ := lookIn_ns ns
    obtain ⟨cd, hcd, _⟩ := PySem.W.any_some C.hd
    refine ⟨_, PySem.W.kitx_exc (ox := oe) (od := some od) (by rw [hcd]; rfl) C.hg C.hk C.hs C.ha C.hn C.ht C.hm, ⟨e1, hz.1, ?_, ?_⟩, fun w => nomatch w⟩
    · unfold PySem.W.notCls; rw [hv]
    · rw [hz.2.1]; exact hod
def rIsZ (K : PySem.W.Frag) : List V → Hp → VK → Prop := fun xs H Q => ∃ (x c : V) (t u : Value) (b : Bool), xs = [x, c] ∧ ClsV c u ∧ TyZ K H x t ∧ PySem.W.kitOne K t u = some b ∧ Q (.bl b) H
def rIsTZ (K : PySem.W.Frag) : List V → Hp → VK → Prop := fun xs H Q => ∃ (x : V) (tp : Addr) (cs : List V) (t : Value) (us : List Value) (b : Bool), xs = [x, .ref tp] ∧ H tp = some (.tup cs) ∧ Paired ClsV cs us ∧ TyZ K H x t ∧ PySem.W.kitAny K t us = some b ∧ Q (.bl b) H
theorem call_isZ : CallR X (.builtin "isinstance") (rIsZ X.K) := by
  rintro pins s σ H xs us Q I r ⟨x, c, t, w, b, rfl, k, z, e, q⟩
  obtain ⟨y1, y2, rfl, r1, r2⟩ := vals2 r
  obtain rfl := k.eq r2
  obtain ⟨P, kz, p, nx⟩ := kit_ofZ I r1 z
  exact PySem.W.kia_one kz I.kIn p e nx fun tk => ⟨.bl b, H, I.tok tk, rfl, q⟩
theorem call_isTZ : CallR X (.builtin "isinstance") (rIsTZ X.K) := by
  rintro pins s σ H xs us Q I r ⟨x, tp, cs, t, ws, b, rfl, ht, k, z, e, q⟩
  obtain ⟨y1, y2, rfl, r1, r2⟩ := vals2 r
  cases (show y2 = Value.ref tp from r2)
  obtain ⟨P, kz, p, nx⟩ := kit_ofZ I r1 z
  have hx : ObjOk X.prog X.w H s.heap tp (.tup cs) := I.hok tp _ ht
  obtain ⟨_, ys, rv, ⟨oc, od, dt, sl⟩, g1, g2, n, g3⟩ := hx
  obtain rfl := ClsV.all k rv
  dsimp only at g2 g3
  subst g2 g3
  exact PySem.W.kia_tup kz I.kIn p g1 e nx fun tk => ⟨.bl b, H, I.tok tk, rfl, q⟩
/-- the type of a value, and what isinstance says of it -/
theorem val_ty (ok : CxOk S G T fns n X W) {H : Hp} {h : AH} {d : DV} {v : V} {t0 : TY} {e0 : Expr} (hr : HRel G H h) (r : DRel G.K H d v) (i0 : isiOk h d t0 = true) (te0 : tyIs S t0 e0 = true) :
    ∃ ty, TyZ X.K H v ty ∧ ∀ t e, isiOk h d t = true → tyIs S t e = true → PySem.W.kitOne X.K ty (uOf G t) = some (tyOf T h d t) := by
  have bld : ∀ {a : String}, TyX X.K H v (.type a) → a ∈ ["NoneType", "bool", "int", "str", "list", "tuple", "dict"] → (∀ t, (t = .int ∨ t = .bool ∨ t = .str ∨ t = .list ∨ t = .tuple ∨ t = .dict) → tyOf T h d t = subT a (tyN t)) → (∀ c, isiOk h d (.cls c) = false ∧ isiOk h d (.exc c) = false ∧ isiOk h d .verr = false) →
      ∃ ty, TyZ X.K H v ty ∧ ∀ t e, isiOk h d t = true → tyIs S t e = true → PySem.W.kitOne X.K ty (uOf G t) = some (tyOf T h d t) := fun {a} h1 h2 h3 h4 => by
    refine ⟨_, .inl h1, fun t e io te => ?_⟩
    rcases tyIs_cases te with z | ⟨c, rfl⟩ | ⟨c, rfl⟩ | rfl
    · rw [h3 t z]; exact kit_b h2 z
    · rw [(h4 c).1] at io; cases io
    · rw [(h4 c).2.1] at io; cases io
    · rw [(h4 0).2.2] at io; cases io
  cases d with
  | non => cases r; exact bld (.base .non) (by simp) (by rintro t (rfl | rfl | rfl | rfl | rfl | rfl) <;> simp [tyOf, subT, tyN]) (fun c => ⟨rfl, rfl, rfl⟩)
  | bl b => cases r; exact bld (.base (.bl b)) (by simp) (by rintro t (rfl | rfl | rfl | rfl | rfl | rfl) <;> simp [tyOf, subT, tyN]) (fun c => ⟨rfl, rfl, rfl⟩)
  | int i => cases r; exact bld (.base (.int i)) (by simp) (by rintro t (rfl | rfl | rfl | rfl | rfl | rfl) <;> simp [tyOf, subT, tyN]) (fun c => ⟨rfl, rfl, rfl⟩)
  | str x => obtain ⟨rfl, _⟩ := r; exact bld (.base (.str _)) (by simp) (by rintro t (rfl | rfl | rfl | rfl | rfl | rfl) <;> simp [tyOf, subT, tyN]) (fun c => ⟨rfl, rfl, rfl⟩)
  | tup ds =>
    obtain ⟨a, vs, rfl, s1, s2⟩ := r
    have tt : TyX X.K H (.ref a) (.type "tuple") := by
      rcases s1 with s1 | (s1 | ⟨_, s1⟩) | ⟨o, its, k, s1, s3, _⟩
      · exact .base (.tup s1)
      · cases s1
      · cases s1
      · exact .kTuple (by rw [← ok.K]; exact s1) s3
    exact bld tt (by simp) (by rintro t (rfl | rfl | rfl | rfl | rfl | rfl) <;> simp [tyOf, subT, tyN]) (fun c => ⟨rfl, rfl, rfl⟩)
  | ref a =>
    cases r
    cases e : h a with
    | none => cases t0 <;> simp [isiOk, e, rdL, rdD] at i0
    | some o =>
      have q := hr a o e
      cases o with
      | lst xs =>
        obtain ⟨vs, q, _⟩ := q
        exact bld (.base (.lst q)) (by simp) (by rintro t (rfl | rfl | rfl | rfl | rfl | rfl) <;> simp [tyOf, e, rdL, rdD, subT, tyN]) (fun c => by simp [isiOk, e])
      | flst xs =>
        obtain ⟨o, vs, q, _⟩ := q
        exact bld (.base (.frz q)) (by simp) (by rintro t (rfl | rfl | rfl | rfl | rfl | rfl) <;> simp [tyOf, e, rdL, rdD, subT, tyN]) (fun c => by simp [isiOk, e])
      | dct xs =>
        obtain ⟨vs, q, _⟩ := q
        exact bld (.base (.dK q)) (by simp) (by rintro t (rfl | rfl | rfl | rfl | rfl | rfl) <;> simp [tyOf, e, rdL, rdD, subT, tyN]) (fun c => by simp [isiOk, e])
      | fdct xs o y =>
        obtain ⟨q, _⟩ := q
        exact bld (.fDict q) (by simp) (by rintro t (rfl | rfl | rfl | rfl | rfl | rfl) <;> simp [tyOf, e, rdL, rdD, subT, tyN]) (fun c => by simp [isiOk, e])
      | exc c fs =>
        obtain ⟨dd, qq, f1, f2, lc, _⟩ := q
        have K := ok.xi c lc
        refine ⟨_, .inr ⟨a, _, dd, qq, rfl, rfl, f1, f2, K.c⟩, fun t ex io te => ?_⟩
        rcases tyIs_cases te with z | ⟨c', rfl⟩ | ⟨c', rfl⟩ | rfl
        · rcases z with rfl | rfl | rfl | rfl | rfl | rfl <;> simp [isiOk, e, rdL, rdD] at io
        · simp [isiOk, e] at io
        · cases ex <;> simp [tyIs] at te
          rw [show uOf G (.exc c') = .ref (G.xA c') from rfl, (ok.xs _ c' c te.2 lc).1]
          simp [tyOf, e]
        · rw [show uOf G .verr = .type "ValueError" from rfl, K.v]
          simp [tyOf, e]
      | ins c fs =>
        obtain ⟨dx, q, ea, lc, _⟩ := q
        have K := ok.isi c lc
        refine ⟨_, .inl (.base (.ins ea K.cl K.ha K.hn K.ht K.hm)), fun t ex io te => ?_⟩
        rcases tyIs_cases te with z | ⟨c', rfl⟩ | ⟨c', rfl⟩ | rfl
        · rcases z with rfl | rfl | rfl | rfl | rfl | rfl <;> simp [isiOk, e, rdL, rdD] at io
        · cases ex <;> simp [tyIs] at te
          rw [show uOf G (.cls c') = .ref (G.cA c') from rfl, ok.isc _ c c' te.2 lc]
          simp [tyOf, e]
        · simp [isiOk, e] at io
        · simp [isiOk, e] at io
end
end PL

set_option maxHeartbeats 8000000
/-! PL, part m: expressions, the small cases. -/
namespace PL
open PySem PySem.Spec PyProof.Rows L2

section
variable (G : GK) (T : PTab) (fns : Nat → Option FI) (n : Nat)
abbrev EE (W : WX) (e : EX) : TE := LE G W fun s h Q Y => wE T (wCall T fns n) s h Q Y e
abbrev ET (W : WX) (e : EX) : TT := LT G W fun s h Q Y => wTst T (wCall T fns n) s h Q Y e
def PEE (X : Cx) (W : WX) (x : Expr) (e : EX) : Prop := PE X x (EE G T fns n W e) ∧ PT X x (ET G T fns n W e) ∧ ∀ op l p, x = .BoolOp op l p → PW X x (ET G T fns n W e)
def HE (e : EX) : Prop := ∀ (S : SC) (X : Cx) (W : WX) (x : Expr), CxOk S G T fns n X W → chkE e S x = true → PEE G T fns n X W x e
structure HEs (es : EXs) : Prop where
  a : ∀ (S : SC) (X : Cx) (W : WX) (xs : List Expr), CxOk S G T fns n X W → chkEs es S xs = true → PA X xs (LA G W fun s h Q Y => wEs T (wCall T fns n) s h Q Y es)
  o : ∀ (S : SC) (X : Cx) (W : WX) (x : Option Expr), CxOk S G T fns n X W → chkO es S x = true → PO X x (LO G W fun s h Q Y => wO T (wCall T fns n) s h Q Y es)
  c : ∀ (S : SC) (X : Cx) (W : WX) (xs : List Expr), CxOk S G T fns n X W → chkIf es S xs = true → PTs X xs (LT G W fun s h Q Y => wC T (wCall T fns n) s h Q Y es)
def HEs' : EXs → Prop
  | .nil => True
  | .cons e r => HE G T fns n e ∧ HEs' r
def HI (it : IT) : Prop := ∀ (S : SC) (X : Cx) (W : WX) (x tg : Expr), CxOk S G T fns n X W → chkI it S x = true → itOk it tg = true → PI X tg x (LI G W fun s h Q Y => wI T (wCall T fns n) s h Q Y it)
end
section
variable {S : SC} {G : GK} {T : PTab} {fns : Nat → Option FI} {n : Nat} {X : Cx} {W : WX}
def plainT : Expr → Bool
  | .BoolOp _ _ _ => false
  | .UnaryOp .Not _ _ => false
  | .Compare _ _ _ _ => false
  | .IfExp _ _ _ _ => false
  | _ => true
theorem isTrue_plain {e : Expr} (h : plainT e = true) (env : Env) (whole : Sem Value) : isTrue e env whole = (do let v ← whole; standAt e.pos; holding [v] (truthy v)) := by
  cases e <;> first | rfl | exact Bool.noConfusion (show false = true from h) | skip
  rename_i op _ _
  cases op <;> first | rfl | exact Bool.noConfusion (show false = true from h)
theorem lt_le {e : EX} {σ : L2.St} {H : Hp} {Q : Bool → Hp → Prop} (l : ET G T fns n W e σ H Q) : EE G T fns n W e σ H fun x H1 => ∃ c, x = .bl c ∧ Q c H1 := by
  obtain ⟨s, h, Qa, Xa, sr, hr, w, ql, xl⟩ := l
  refine ⟨s, h, _, Xa, sr, hr, w, fun d h' v H' x hr' rd q => ?_, xl⟩
  obtain ⟨b, rfl, q⟩ := q
  cases rd
  exact ⟨b, rfl, ql b h' H' x hr' q⟩
theorem tst_of {x : Expr} {e : EX} (h : PE X x (EE G T fns n W e)) (hp : plainT x = true) : PEE G T fns n X W x e :=
  ⟨h, PT.weak (pt_val h (isTrue_plain hp _)) fun _ _ _ l => lt_le l, by rintro op l p rfl; cases hp⟩
theorem con_weak {x : Expr} {d : DV} {v : V} (h : PE X x (tC v)) (r : ∀ H, DRel G.K H d v) : PE X x (EE G T fns n W (.con d)) :=
  PE.weak h fun σ H Q ⟨s, h, Qa, Xa, sr, hr, w, ql, xl⟩ => ql d h v H (HX.refl H) hr (r H) w
theorem c_var (i : Nat) : HE G T fns n (.var i) := by
  intro S X W x ok h
  cases x <;> first | exact Bool.noConfusion (show false = true from h) | skip
  rename_i x pos
  obtain ⟨h, h4⟩ := an2 (show (_ && _) = true from h)
  obtain ⟨h, h3⟩ := an2 h
  obtain ⟨h1, h2⟩ := an2 h
  refine tst_of (PE.weak (pe_var (by rw [ok.N]; exact of_decide_eq_true h1) ?_ (beq_eq_false_iff_ne.mpr (of_decide_eq_true h3)) (beq_eq_false_iff_ne.mpr (of_decide_eq_true h4))) ?_) rfl
  · unfold L2.Vis
    rw [ok.sc]
    split at h2
    · exact .inl (by assumption)
    · exact .inr (.inl (by assumption))
    · exact .inr (.inr (by assumption))
    · cases h2
  · rintro σ H Q ⟨s, h, Qa, Xa, sr, hr, ⟨d, e, q⟩, ql, xl⟩
    obtain ⟨v, e1, rd⟩ := sr.2 i d e
    exact ⟨v, e1, ql d h v H (HX.refl H) hr rd q⟩
theorem c_con (d : DV) : HE G T fns n (.con d) := by
  intro S X W x ok h
  cases x <;> first | exact Bool.noConfusion (show false = true from h) | skip
  · rename_i c k pos
    refine tst_of ?_ rfl
    cases c <;> first | exact Bool.noConfusion (show false = true from h) | skip
    · obtain rfl := of_decide_eq_true (show decide _ = true from h)
      exact con_weak pe_non fun _ => rfl
    · obtain rfl := of_decide_eq_true (show decide _ = true from h)
      exact con_weak pe_bl fun _ => rfl
    · obtain rfl := of_decide_eq_true (show decide _ = true from h)
      exact con_weak pe_int fun _ => rfl
    · rename_i z
      obtain ⟨h1, h2⟩ := an2 (show (_ && _) = true from h)
      obtain rfl := of_decide_eq_true h1
      refine con_weak pe_str fun _ => ⟨by cases z; rfl, fun c hc => ?_⟩
      have := List.all_eq_true.mp h2 c hc
      simpa using this
  · rename_i z pos
    obtain ⟨h1, h2⟩ := an2 (show (_ && _) = true from h)
    obtain ⟨g1, g2⟩ := isGl_of ok h1
    obtain ⟨u, v, e1, e2, e3⟩ := ok.co z d (of_decide_eq_true h2)
    exact tst_of (con_weak (pe_glob g1 e1 e2 g2) e3) rfl
theorem bop_ok (ok : CxOk S G T fns n X W) {o : BO} {p : Operator} (h : opIs o p = true) : OpR X (binaryOp p) (LO2 G (xBin o)) := by
  cases o <;> cases p <;> first | exact Bool.noConfusion (show false = true from h) | skip
  · exact op_add_ok ok.K
  · exact op_sub_ok
  · exact op_mul_ok
  · exact op_fdiv_ok
  · exact op_mod_ok
  · exact op_pow_ok
theorem cop_ok (ok : CxOk S G T fns n X W) {o : CO} {p : CmpOp} (h : copIs o p = true) : OpR X (compareOp p) (LO2 G (xCmp o)) := by
  cases o <;> cases p <;> first | exact Bool.noConfusion (show false = true from h) | skip
  · exact op_eq_ok ok.K ok.un
  · exact op_ne_ok ok.K ok.un
  · exact op_lt_ok ok.K (by have := ok.un; omega)
  · exact op_le_ok
  · exact op_gt_ok
  · exact op_ge_ok
  · exact op_in_ok ok.K ok.un
  · exact op_nin_ok ok.K ok.un
  · refine OpR.weak op_is_bl ?_
    rintro x y H Q ⟨d, e, h, Qa, rd, re, hr, q, ql⟩
    cases d <;> cases e <;> try exact False.elim q
    cases rd; cases re
    exact ⟨_, _, rfl, rfl, ql (.bl _) _ _ _ (HX.refl H) hr rfl q⟩
  · refine OpR.weak op_isnot_bl ?_
    rintro x y H Q ⟨d, e, h, Qa, rd, re, hr, q, ql⟩
    cases d <;> cases e <;> try exact False.elim q
    cases rd; cases re
    exact ⟨_, _, rfl, rfl, ql (.bl _) _ _ _ (HX.refl H) hr rfl q⟩
  · exact op_eqT_ok ok.K ok.un
  · exact op_neT_ok ok.K ok.un
theorem c_bin (o : BO) {a b : EX} (ha : HE G T fns n a) (hb : HE G T fns n b) : HE G T fns n (.bin o a b) := by
  intro S X W x ok h
  cases x <;> first | exact Bool.noConfusion (show false = true from h) | skip
  obtain ⟨h, h3⟩ := an2 (show (_ && _) = true from h)
  obtain ⟨h1, h2⟩ := an2 h
  exact tst_of (PE.weak (pe_op (bop_ok ok h1) (ha S X W _ ok h2).1 (hb S X W _ ok h3).1) fun σ H Q l => le2 l) rfl
theorem c_neg {a : EX} (ha : HE G T fns n a) : HE G T fns n (.neg a) := by
  intro S X W x ok h
  cases x <;> first | exact Bool.noConfusion (show false = true from h) | skip
  rename_i op _ _
  cases op <;> first | exact Bool.noConfusion (show false = true from h) | skip
  refine tst_of (PE.weak (pe_un un_neg (ha S X W _ ok h).1) fun σ H Q l => le1 (k := fun x h1 Q => ∃ i, x = .int i ∧ Q (.int (-i)) h1) l ?_) rfl
  rintro d h v H Qa Q hr rd ⟨i, rfl, q⟩ ql
  cases rd
  exact ⟨i, rfl, ql (.int (-i)) _ (.int (-i)) _ (HX.refl H) hr rfl q⟩
theorem c_not {a : EX} (ha : HE G T fns n a) : HE G T fns n (.notE a) := by
  intro S X W x ok h
  cases x <;> first | exact Bool.noConfusion (show false = true from h) | skip
  rename_i op _ _
  cases op <;> first | exact Bool.noConfusion (show false = true from h) | skip
  obtain ⟨p1, p2, _⟩ := ha S X W _ ok h
  refine ⟨PE.weak (pe_not p1) fun σ H Q l => le1 (k := fun x h1 Q => ∃ b, x = .bl b ∧ Q (.bl (!b)) h1) (kH := fun x H1 Q => ∃ c, x = .bl c ∧ Q (.bl (!c)) H1) (Q := Q) l ?_, PT.weak (pt_not p2) ?_, by rintro op l p e; cases e⟩
  · rintro d h v H Qa Q hr rd ⟨i, rfl, q⟩ ql
    cases rd
    exact ⟨i, rfl, ql (.bl (!i)) _ (.bl (!i)) _ (HX.refl H) hr rfl q⟩
  · rintro σ H Q ⟨s, h, Qa, Xa, sr, hr, w, ql, xl⟩
    refine ⟨s, h, fun b h1 => xTru (.bl !b) h1 Qa, Xa, sr, hr, w, fun b h' H' x hr' q => ?_, xl⟩
    obtain ⟨c, e, q⟩ := q
    cases e
    exact ql _ _ _ x hr' q
def restC (o : BoolOp) (b : EX) (S : SC) (v : Expr) (r : List Expr) (p : Pos) : Bool := match r with
  | [] => chkE b S v
  | _ => chkE b S (.BoolOp o (v :: r) p)
theorem rest_and {b : EX} {v : Expr} {r : List Expr} {p : Pos} (hb : HE G T fns n b) (ok : CxOk S G T fns n X W) (h : restC .And b S v r p = true) : PE X (.BoolOp .And (v :: r) p) (EE G T fns n W b) ∧ PW X (.BoolOp .And (v :: r) p) (ET G T fns n W b) := by
  cases r with
  | nil => exact ⟨pe_one (hb S X W _ ok h).1, pw_and1 (hb S X W _ ok h).2.1⟩
  | cons u q => exact ⟨(hb S X W _ ok h).1, (hb S X W _ ok h).2.2 _ _ _ rfl⟩
theorem rest_or {b : EX} {v : Expr} {r : List Expr} {p : Pos} (hb : HE G T fns n b) (ok : CxOk S G T fns n X W) (h : restC .Or b S v r p = true) : PE X (.BoolOp .Or (v :: r) p) (EE G T fns n W b) ∧ PW X (.BoolOp .Or (v :: r) p) (ET G T fns n W b) := by
  cases r with
  | nil => exact ⟨pe_one (hb S X W _ ok h).1, pw_or1 (hb S X W _ ok h).2.1⟩
  | cons u q => exact ⟨(hb S X W _ ok h).1, (hb S X W _ ok h).2.2 _ _ _ rfl⟩
theorem c_and {a b : EX} (ha : HE G T fns n a) (hb : HE G T fns n b) : HE G T fns n (.andE a b) := by
  intro S X W x ok h
  cases x <;> first | exact Bool.noConfusion (show false = true from h) | skip
  rename_i op l p
  cases op <;> first | exact Bool.noConfusion (show false = true from h) | skip
  match l, h with
  | [], h => exact Bool.noConfusion (show false = true from h)
  | [_], h => exact Bool.noConfusion (show false = true from h)
  | u :: v :: r, h =>
    have h' : chkE a S u = true ∧ restC .And b S v r p = true := by
      cases r with
      | nil => exact an2 h
      | cons z q => exact an2 h
    obtain ⟨h1, h2⟩ := h'
    obtain ⟨p1, p2, _⟩ := ha S X W _ ok h1
    obtain ⟨q1, q2⟩ := rest_and hb ok h2
    have w := PW.weak (pw_and (pos := p) p2 q2) (t' := ET G T fns n W (.andE a b)) (by
      rintro σ H Q ⟨s, h, Qa, Xa, sr, hr, w, ql, xl⟩
      refine ⟨s, h, fun c h1 => if c = true then wTst T (wCall T fns n) s h1 Qa Xa b else Qa false h1, Xa, sr, hr, ?_, fun c h' H' x hr' q => ?_, xl⟩
      · show wE _ _ _ _ _ _ _
        have e : (fun (x : DV) (h1 : AH) => xTru x h1 fun c h1 => if c = true then wTst T (wCall T fns n) s h1 Qa Xa b else Qa false h1) = (fun (x : DV) (h1 : AH) => ∃ c, x = .bl c ∧ if c = true then wE T (wCall T fns n) s h1 (fun x h1 => xTru x h1 Qa) Xa b else xTru (.bl false) h1 Qa) := by
          funext x h1
          apply propext
          constructor
          · rintro ⟨c, e, q⟩
            refine ⟨c, e, ?_⟩
            cases c
            · exact ⟨false, rfl, q⟩
            · exact q
          · rintro ⟨c, e, q⟩
            refine ⟨c, e, ?_⟩
            cases c
            · obtain ⟨_, e', q⟩ := q
              cases e'
              exact q
            · exact q
        rw [e]
        exact w
      · cases c
        · exact ql _ _ _ x hr' q
        · exact ⟨s, h', Qa, Xa, sr.mono x, hr', q, fun c h'' H'' y => ql c h'' H'' (x.trans y), xl.mono x⟩)
    refine ⟨PE.weak (pe_and p1 q1) ?_, w.pt, fun _ _ _ e => e ▸ w⟩
    rintro σ H Q ⟨s, h, Qa, Xa, sr, hr, w, ql, xl⟩
    refine ⟨s, h, _, Xa, sr, hr, w, fun d h' v H' x hr' rd q => ?_, xl⟩
    obtain ⟨c, rfl, q⟩ := q
    cases rd
    refine ⟨c, rfl, ?_⟩
    cases c
    · exact ql (.bl false) _ (.bl false) _ x hr' rfl q
    · exact ⟨s, h', Qa, Xa, sr.mono x, hr', q, ql.mono x, xl.mono x⟩
theorem c_or {a b : EX} (ha : HE G T fns n a) (hb : HE G T fns n b) : HE G T fns n (.orE a b) := by
  intro S X W x ok h
  cases x <;> first | exact Bool.noConfusion (show false = true from h) | skip
  rename_i op l p
  cases op <;> first | exact Bool.noConfusion (show false = true from h) | skip
  match l, h with
  | [], h => exact Bool.noConfusion (show false = true from h)
  | [_], h => exact Bool.noConfusion (show false = true from h)
  | u :: v :: r, h =>
    have h' : chkE a S u = true ∧ restC .Or b S v r p = true := by
      cases r with
      | nil => exact an2 h
      | cons z q => exact an2 h
    obtain ⟨h1, h2⟩ := h'
    obtain ⟨p1, p2, _⟩ := ha S X W _ ok h1
    obtain ⟨q1, q2⟩ := rest_or hb ok h2
    have w := PW.weak (pw_or (pos := p) p2 q2) (t' := ET G T fns n W (.orE a b)) (by
      rintro σ H Q ⟨s, h, Qa, Xa, sr, hr, w, ql, xl⟩
      refine ⟨s, h, fun c h1 => if c = true then Qa true h1 else wTst T (wCall T fns n) s h1 Qa Xa b, Xa, sr, hr, ?_, fun c h' H' x hr' q => ?_, xl⟩
      · show wE _ _ _ _ _ _ _
        have e : (fun (x : DV) (h1 : AH) => xTru x h1 fun c h1 => if c = true then Qa true h1 else wTst T (wCall T fns n) s h1 Qa Xa b) = (fun (x : DV) (h1 : AH) => ∃ c, x = .bl c ∧ if c = true then xTru (.bl true) h1 Qa else wE T (wCall T fns n) s h1 (fun x h1 => xTru x h1 Qa) Xa b) := by
          funext x h1
          apply propext
          constructor
          · rintro ⟨c, e, q⟩
            refine ⟨c, e, ?_⟩
            cases c
            · exact q
            · exact ⟨true, rfl, q⟩
          · rintro ⟨c, e, q⟩
            refine ⟨c, e, ?_⟩
            cases c
            · exact q
            · obtain ⟨_, e', q⟩ := q
              cases e'
              exact q
        rw [e]
        exact w
      · cases c
        · exact ⟨s, h', Qa, Xa, sr.mono x, hr', q, fun c h'' H'' y => ql c h'' H'' (x.trans y), xl.mono x⟩
        · exact ql _ _ _ x hr' q)
    refine ⟨PE.weak (pe_or p1 q1) ?_, w.pt, fun _ _ _ e => e ▸ w⟩
    rintro σ H Q ⟨s, h, Qa, Xa, sr, hr, w, ql, xl⟩
    refine ⟨s, h, _, Xa, sr, hr, w, fun d h' v H' x hr' rd q => ?_, xl⟩
    obtain ⟨c, rfl, q⟩ := q
    cases rd
    refine ⟨c, rfl, ?_⟩
    cases c
    · exact ⟨s, h', Qa, Xa, sr.mono x, hr', q, ql.mono x, xl.mono x⟩
    · exact ql (.bl true) _ (.bl true) _ x hr' rfl q
theorem mark_of {v : Expr} {p : CmpOp} (h : noSet v = true) : behindInMarks p v = false := by
  cases v <;> first | exact Bool.noConfusion (show false = true from h) | skip
  all_goals first | rfl | (cases p <;> rfl)
theorem c_cmp (o : CO) {a b : EX} (ha : HE G T fns n a) (hb : HE G T fns n b) : HE G T fns n (.cmp o a b) := by
  intro S X W x ok h
  cases x <;> first | exact Bool.noConfusion (show false = true from h) | skip
  rename_i u ops cs pos
  match ops, cs, h with
  | [], _, h => exact Bool.noConfusion (show false = true from h)
  | _ :: _ :: _, _, h => exact Bool.noConfusion (show false = true from h)
  | [_], [], h => exact Bool.noConfusion (show false = true from h)
  | [_], _ :: _ :: _, h => exact Bool.noConfusion (show false = true from h)
  | [p], [v], h =>
    obtain ⟨h, h4⟩ := an2 (show (_ && _) = true from h)
    obtain ⟨h, h3⟩ := an2 h
    obtain ⟨h1, h2⟩ := an2 h
    refine ⟨PE.weak (pe_cmpR (cop_ok ok h1) (ha S X W _ ok h3).1 (hb S X W _ ok h4).1 (mark_of h2)) fun σ H Q l => le2 l, PT.weak (pt_cmpR (cop_ok ok h1) (ha S X W _ ok h3).1 (hb S X W _ ok h4).1 (mark_of h2)) fun σ H Q l => ?_, by rintro op l p e; cases e⟩
    exact le2 (lt_le l)
theorem c_cmp2 (o o' : CO) {a b c : EX} (ha : HE G T fns n a) (hb : HE G T fns n b) (hc : HE G T fns n c) : HE G T fns n (.cmp2 o o' a b c) := by
  intro S X W x ok h
  cases x <;> first | exact Bool.noConfusion (show false = true from h) | skip
  rename_i u ops cs pos
  match ops, cs, h with
  | [], _, h => exact Bool.noConfusion (show false = true from h)
  | [_], _, h => exact Bool.noConfusion (show false = true from h)
  | _ :: _ :: _ :: _, _, h => exact Bool.noConfusion (show false = true from h)
  | [_, _], [], h => exact Bool.noConfusion (show false = true from h)
  | [_, _], [_], h => exact Bool.noConfusion (show false = true from h)
  | [_, _], _ :: _ :: _ :: _, h => exact Bool.noConfusion (show false = true from h)
  | [p, p'], [v, w], h =>
    obtain ⟨h, h6⟩ := an2 (show (_ && _) = true from h)
    obtain ⟨h, h5⟩ := an2 h
    obtain ⟨h, h4⟩ := an2 h
    obtain ⟨h, h3⟩ := an2 h
    obtain ⟨h1, h2⟩ := an2 h
    have key : ∀ σ H Q, EE G T fns n W (.cmp2 o o' a b c) σ H Q → tChain (LO2 G (xCmp o)) (LO2 G (xCmp o')) (EE G T fns n W a) (EE G T fns n W b) (EE G T fns n W c) σ H Q := by
      rintro σ H Q ⟨s, h, Qa, Xa, sr, hr, w, ql, xl⟩
      refine ⟨s, h, _, Xa, sr, hr, w, fun d h1 v H1 x1 hr1 rd w1 => ?_, xl⟩
      refine ⟨s, h1, _, Xa, sr.mono x1, hr1, w1, fun e h2 u H2 x2 hr2 re w2 => ?_, xl.mono x1⟩
      refine ⟨d, e, h2, _, rd.mono x2, re, hr2, w2, fun z h3 zv H3 x3 hr3 rz w3 => ?_⟩
      obtain ⟨k, rfl, w3⟩ := w3
      cases rz
      refine ⟨k, rfl, ?_⟩
      have x13 := x1.trans (x2.trans x3)
      cases k
      · exact ql (.bl false) _ (.bl false) _ x13 hr3 rfl w3
      · refine ⟨s, h3, _, Xa, sr.mono x13, hr3, w3, fun e4 h4 u4 H4 x4 hr4 re4 w4 => ?_, xl.mono x13⟩
        exact ⟨e, e4, h4, Qa, re.mono (x3.trans x4), re4, hr4, w4, ql.mono (x13.trans x4)⟩
    exact ⟨PE.weak (pe_chain (cop_ok ok h1) (cop_ok ok h2) (ha S X W _ ok h4).1 (hb S X W _ ok h5).1 (hc S X W _ ok h6).1 (mark_of h3)) key, PT.weak (pt_chain (cop_ok ok h1) (cop_ok ok h2) (ha S X W _ ok h4).1 (hb S X W _ ok h5).1 (hc S X W _ ok h6).1 (mark_of h3)) fun σ H Q l => key _ _ _ (lt_le l), by rintro op l p e; cases e⟩
/-- a op1 b op2 c op3 d -/
def tChain3 (r r' r'' : R2) (ta tb tc td : TE) : TE := fun σ H Q => ta σ H fun x H1 => tb σ H1 fun y H2 => r x y H2 fun z H3 => ∃ k, z = .bl k ∧
  (if k = true then tc σ H3 fun w' H4 => r' y w' H4 fun z' H5 => ∃ k', z' = .bl k' ∧ (if k' = true then td σ H5 fun v H6 => r'' w' v H6 Q else Q (.bl false) H5) else Q (.bl false) H3)
section
variable {X : Cx} {a b c d : Expr} {ta tb tc td : TE} {pos : Pos}
theorem pe_chain3 {op op' op'' : CmpOp} {r r' r'' : R2} (ho : OpR X (compareOp op) r) (ho' : OpR X (compareOp op') r') (ho'' : OpR X (compareOp op'') r'') (ha : PE X a ta) (hb : PE X b tb) (hc : PE X c tc) (hd : PE X d td)
    (hm : lastMarks [op, op', op''] [b, c, d] = false) : PE X (.Compare a [op, op', op''] [b, c, d] pos) (tChain3 r r' r'' ta tb tc td) := by
  refine ⟨fun pins s σ H Q I h => ?_⟩
  refine Compare_chain (thn (ha.run pins s σ H _ I h) fun v s1 ⟨x, H1, I1, r1, q1⟩ => chain_link (thn (hb.run pins s1 σ H1 _ I1 q1) fun u s2 ⟨y, H2, I2, r2, q2⟩ =>
    thn (ho pins s2 σ H2 x y v u _ I2 r1 r2 q2) fun e s3 ⟨z, H3, I3, r3, k, ek, q3⟩ => ?_)) hm
  subst ek
  cases r3
  refine wpAny_truthy_bool ?_
  cases k with
  | false => exact ite_ff ⟨.bl false, H3, I3, rfl, q3⟩
  | true =>
    refine ite_tt (chain_link (thn (hc.run pins s3 σ H3 _ I3 q3) fun w' s4 ⟨z', H4, I4, r4, q4⟩ => thn (ho' pins s4 σ H4 y z' u w' _ I4 r2 r4 q4) fun e s5 ⟨z2, H5, I5, r5, k, ek, q5⟩ => ?_))
    subst ek
    cases r5
    refine wpAny_truthy_bool ?_
    cases k with
    | false => exact ite_ff ⟨.bl false, H5, I5, rfl, q5⟩
    | true => exact ite_tt (chain_last (thn (hd.run pins s5 σ H5 _ I5 q5) fun v' s6 ⟨z3, H6, I6, r6, q6⟩ => ho'' pins s6 σ H6 z' z3 w' v' Q I6 r4 r6 q6))
theorem pt_chain3 {op op' op'' : CmpOp} {r r' r'' : R2} (ho : OpR X (compareOp op) r) (ho' : OpR X (compareOp op') r') (ho'' : OpR X (compareOp op'') r'') (ha : PE X a ta) (hb : PE X b tb) (hc : PE X c tc) (hd : PE X d td)
    (hm : lastMarks [op, op', op''] [b, c, d] = false) : PT X (.Compare a [op, op', op''] [b, c, d] pos) (tTest (tChain3 r r' r'' ta tb tc td)) := by
  refine ⟨fun pins s σ H Q I h => ?_⟩
  refine isTrue_chain (thn (ha.run pins s σ H _ I h) fun v s1 ⟨x, H1, I1, r1, q1⟩ => test_link (thn (hb.run pins s1 σ H1 _ I1 q1) fun u s2 ⟨y, H2, I2, r2, q2⟩ =>
    thn (ho pins s2 σ H2 x y v u _ I2 r1 r2 q2) fun e s3 ⟨z, H3, I3, r3, k, ek, q3⟩ => ?_)) hm
  subst ek
  cases r3
  refine wpAny_truthy_bool ?_
  cases k with
  | false =>
    obtain ⟨k', e', q'⟩ := q3
    cases e'
    exact ite_ff ⟨H3, I3, q'⟩
  | true =>
    refine ite_tt (test_link (thn (hc.run pins s3 σ H3 _ I3 q3) fun w' s4 ⟨z', H4, I4, r4, q4⟩ => thn (ho' pins s4 σ H4 y z' u w' _ I4 r2 r4 q4) fun e s5 ⟨z2, H5, I5, r5, k, ek, q5⟩ => ?_))
    subst ek
    cases r5
    refine wpAny_truthy_bool ?_
    cases k with
    | false =>
      obtain ⟨k', e', q'⟩ := q5
      cases e'
      exact ite_ff ⟨H5, I5, q'⟩
    | true =>
      refine ite_tt (test_last (thn (hd.run pins s5 σ H5 _ I5 q5) fun v' s6 ⟨z3, H6, I6, r6, q6⟩ => thn (ho'' pins s6 σ H6 z' z3 w' v' _ I6 r4 r6 q6) fun d' s7 ⟨z4, H7, I7, r7, k2, e2, q7⟩ => ?_))
      subst e2
      cases r7
      exact wpAny_truthy_bool ⟨H7, I7, q7⟩
end
theorem c_cmp3 (o o' o'' : CO) {a b c d : EX} (ha : HE G T fns n a) (hb : HE G T fns n b) (hc : HE G T fns n c) (hd : HE G T fns n d) : HE G T fns n (.cmp3 o o' o'' a b c d) := by
  intro S X W x ok h
  have key0 : ∃ u p p' p'' v w y pos, x = .Compare u [p, p', p''] [v, w, y] pos ∧ copIs o p = true ∧ copIs o' p' = true ∧ copIs o'' p'' = true ∧ noSet y = true ∧ chkE a S u = true ∧ chkE b S v = true ∧ chkE c S w = true ∧ chkE d S y = true := by
    unfold chkE at h
    split at h <;> first | (cases h; done) | skip
    all_goals first | (rename_i heq; cases heq; done) | skip
    rename_i heq
    cases heq
    obtain ⟨h, h8⟩ := an2 h
    obtain ⟨h, h7⟩ := an2 h
    obtain ⟨h, h6⟩ := an2 h
    obtain ⟨h, h5⟩ := an2 h
    obtain ⟨h, h4⟩ := an2 h
    obtain ⟨h, h3⟩ := an2 h
    obtain ⟨h1, h2⟩ := an2 h
    exact ⟨_, _, _, _, _, _, _, _, rfl, h1, h2, h3, h4, h5, h6, h7, h8⟩
  obtain ⟨u, p, p', p'', v, w, y, pos, rfl, h1, h2, h3, h4, h5, h6, h7, h8⟩ := key0
  have key : ∀ σ H Q, EE G T fns n W (.cmp3 o o' o'' a b c d) σ H Q → tChain3 (LO2 G (xCmp o)) (LO2 G (xCmp o')) (LO2 G (xCmp o'')) (EE G T fns n W a) (EE G T fns n W b) (EE G T fns n W c) (EE G T fns n W d) σ H Q := by
    rintro σ H Q ⟨s, h, Qa, Xa, sr, hr, w, ql, xl⟩
    refine ⟨s, h, _, Xa, sr, hr, w, fun d h1 v H1 x1 hr1 rd w1 => ?_, xl⟩
    refine ⟨s, h1, _, Xa, sr.mono x1, hr1, w1, fun e h2 u H2 x2 hr2 re w2 => ?_, xl.mono x1⟩
    refine ⟨d, e, h2, _, rd.mono x2, re, hr2, w2, fun z h3 zv H3 x3 hr3 rz w3 => ?_⟩
    obtain ⟨k, rfl, w3⟩ := w3
    cases rz
    refine ⟨k, rfl, ?_⟩
    have x13 := x1.trans (x2.trans x3)
    cases k
    · exact ql (.bl false) _ (.bl false) _ x13 hr3 rfl w3
    · refine ⟨s, h3, _, Xa, sr.mono x13, hr3, w3, fun e4 h4 u4 H4 x4 hr4 re4 w4 => ?_, xl.mono x13⟩
      refine ⟨e, e4, h4, _, re.mono (x3.trans x4), re4, hr4, w4, fun z h5 zv H5 x5 hr5 rz w5 => ?_⟩
      obtain ⟨k, rfl, w5⟩ := w5
      cases rz
      refine ⟨k, rfl, ?_⟩
      have x15 := x13.trans (x4.trans x5)
      cases k
      · exact ql (.bl false) _ (.bl false) _ x15 hr5 rfl w5
      · refine ⟨s, h5, _, Xa, sr.mono x15, hr5, w5, fun e6 h6 u6 H6 x6 hr6 re6 w6 => ?_, xl.mono x15⟩
        exact ⟨e4, e6, h6, Qa, re4.mono (x5.trans x6), re6, hr6, w6, ql.mono (x15.trans x6)⟩
  exact ⟨PE.weak (pe_chain3 (cop_ok ok h1) (cop_ok ok h2) (cop_ok ok h3) (ha S X W _ ok h5).1 (hb S X W _ ok h6).1 (hc S X W _ ok h7).1 (hd S X W _ ok h8).1 (mark_of h4)) key, PT.weak (pt_chain3 (cop_ok ok h1) (cop_ok ok h2) (cop_ok ok h3) (ha S X W _ ok h5).1 (hb S X W _ ok h6).1 (hc S X W _ ok h7).1 (hd S X W _ ok h8).1 (mark_of h4)) fun σ H Q l => key _ _ _ (lt_le l), by rintro op l p e; cases e⟩
theorem drel_non {K : PySem.W.Frag} {H : Hp} {d : DV} {v : V} (r : DRel K H d v) : decide (v = .non) = decide (d = .non) := by
  cases d with
  | non => cases r; rfl
  | bl b => cases r; rfl
  | int b => cases r; rfl
  | str b => obtain ⟨rfl, _⟩ := r; rfl
  | ref b => cases r; rfl
  | tup b => obtain ⟨a, vs, rfl, _⟩ := r; rfl
theorem c_isN {a : EX} (ha : HE G T fns n a) : HE G T fns n (.isN a) := by
  intro S X W x ok h
  have key : ∃ u j p' pos, x = .Compare u [.Is] [.Constant .none j p'] pos ∧ chkE a S u = true := by
    unfold chkE at h
    split at h <;> first | (cases h; done) | skip
    all_goals first | (rename_i heq; cases heq; done) | skip
    rename_i heq
    cases heq
    exact ⟨_, _, _, _, rfl, h⟩
  obtain ⟨u, j, p', pos, rfl, h⟩ := key
  have fin : ∀ σ H Q, EE G T fns n W (.isN a) σ H Q → EE G T fns n W a σ H fun x H1 => Q (.bl (decide (x = .non))) H1 := by
    rintro σ H Q l
    refine le1 (k := fun x h1 Q => Q (.bl (decide (x = .non))) h1) (kH := fun x H1 Q => Q (.bl (decide (x = .non))) H1) (Q := Q) l ?_
    rintro d h v H Qa Q hr rd q ql
    show Q _ H
    rw [drel_non rd]
    exact ql (.bl _) _ (.bl _) _ (HX.refl H) hr rfl q
  exact ⟨PE.weak (pe_cmp (pc_isN (ha S X W _ ok h).1)) fin, PT.weak (pt_cmp (pc_isN (ha S X W _ ok h).1)) fun σ H Q l => fin _ _ _ (lt_le l), by rintro op l p e; cases e⟩
theorem c_notN {a : EX} (ha : HE G T fns n a) : HE G T fns n (.notN a) := by
  intro S X W x ok h
  have key : ∃ u j p' pos, x = .Compare u [.IsNot] [.Constant .none j p'] pos ∧ chkE a S u = true := by
    unfold chkE at h
    split at h <;> first | (cases h; done) | skip
    all_goals first | (rename_i heq; cases heq; done) | skip
    rename_i heq
    cases heq
    exact ⟨_, _, _, _, rfl, h⟩
  obtain ⟨u, j, p', pos, rfl, h⟩ := key
  have fin : ∀ σ H Q, EE G T fns n W (.notN a) σ H Q → EE G T fns n W a σ H fun x H1 => Q (.bl (!decide (x = .non))) H1 := by
    rintro σ H Q l
    refine le1 (k := fun x h1 Q => Q (.bl (!decide (x = .non))) h1) (kH := fun x H1 Q => Q (.bl (!decide (x = .non))) H1) (Q := Q) l ?_
    rintro d h v H Qa Q hr rd q ql
    show Q _ H
    rw [drel_non rd]
    exact ql (.bl _) _ (.bl _) _ (HX.refl H) hr rfl q
  exact ⟨PE.weak (pe_cmp (pc_notN (ha S X W _ ok h).1)) fin, PT.weak (pt_cmp (pc_notN (ha S X W _ ok h).1)) fun σ H Q l => fin _ _ _ (lt_le l), by rintro op l p e; cases e⟩
end
end PL

set_option maxHeartbeats 8000000
/-! PL, part n: expressions, the large cases. -/
namespace PL
open PySem PySem.Spec PyProof.Rows L2

section
variable {S : SC} {G : GK} {T : PTab} {fns : Nat → Option FI} {n : Nat} {X : Cx} {W : WX}
theorem nil_of {es : EXs} {S : SC} (h : chkEs es S [] = true) : es = .nil := by
  cases es with
  | nil => rfl
  | cons e r => exact Bool.noConfusion (show false = true from h)
theorem cons_of {es : EXs} {S : SC} {x : Expr} {q : List Expr} (h : chkEs es S (x :: q) = true) : ∃ e r, es = .cons e r ∧ chkE e S x = true ∧ chkEs r S q = true := by
  cases es with
  | nil => exact Bool.noConfusion (show false = true from h)
  | cons e r => exact ⟨e, r, rfl, an2 h⟩
theorem h0_of {es : EXs} {S : SC} {xs : List Expr} (h : chkEs es S xs = true) : xs = [] → ∀ (s : ASt) (h : AH) (Q : List DV → AH → Prop) (Y : AX), wEs T (wCall T fns n) s h Q Y es → Q [] h := by
  rintro rfl s h' Q Y w
  obtain rfl := nil_of h
  exact w
theorem c_nil : HEs G T fns n .nil where
  a := fun S X W xs ok h => by
    cases xs with
    | nil => exact PA.nil_lift fun s h Q X w => w
    | cons x q => exact Bool.noConfusion (show false = true from h)
  o := fun S X W x ok h => by
    cases x with
    | none => exact PO.weak po_none fun σ H Q ⟨s, h, Qa, Xa, sr, hr, w, ql, xl⟩ => ql none h H (HX.refl H) hr w
    | some x => exact Bool.noConfusion (show false = true from h)
  c := fun S X W x ok h => by
    cases x with
    | nil => exact ⟨fun pins s σ H Q I l => pts_nil.run pins s σ H Q I (by
        obtain ⟨s, h, Qa, Xa, sr, hr, w, ql, xl⟩ := l
        exact ql true h H (HX.refl H) hr w)⟩
    | cons x q => exact Bool.noConfusion (show false = true from h)
theorem c_cons {e : EX} {r : EXs} (he : HE G T fns n e) (hr : HEs G T fns n r) : HEs G T fns n (.cons e r) where
  a := fun S X W xs ok h => by
    cases xs with
    | nil => exact Bool.noConfusion (show false = true from h)
    | cons x q =>
      obtain ⟨h1, h2⟩ := an2 (show (_ && _) = true from h)
      exact PA.cons_lift (chkE_notStar h1) (he S X W x ok h1).1 (hr.a S X W q ok h2)
  o := fun S X W x ok h => by
    cases x with
    | none => cases r <;> exact Bool.noConfusion (show false = true from h)
    | some x =>
      cases r with
      | cons e' r' => exact Bool.noConfusion (show false = true from h)
      | nil =>
        refine PO.weak (po_some (he S X W x ok h).1) ?_
        rintro σ H Q ⟨s, h, Qa, Xa, sr, hr, w, ql, xl⟩
        refine ⟨s, h, _, Xa, sr, hr, w, fun d h' v H' x hr' rd q => ?_, xl⟩
        obtain ⟨i, rfl, q⟩ := q
        cases rd
        exact ⟨i, rfl, ql _ _ _ x hr' q⟩
  c := fun S X W x ok h => by
    match x, r, h with
    | [], .nil, h => exact Bool.noConfusion (show false = true from h)
    | [], .cons _ _, h => exact Bool.noConfusion (show false = true from h)
    | _ :: _ :: _, .nil, h => exact Bool.noConfusion (show false = true from h)
    | _ :: _, .cons _ _, h => exact Bool.noConfusion (show false = true from h)
    | [x], .nil, h =>
      have p := (he S X W x ok h).2.1
      exact ⟨fun pins s σ H Q I l => (pts_one p).run pins s σ H Q I l⟩
/-! ### displays -/
theorem c_tup {es : EXs} (hs : HEs G T fns n es) : HE G T fns n (.tup es) := by
  intro S X W x ok h
  cases x <;> first | exact Bool.noConfusion (show false = true from h) | skip
  refine tst_of (PE.weak (pe_tup (hs.a S X W _ ok h)) fun σ H Q l => ?_) rfl
  refine la1 (k := fun ds h1 Q => ds.length ≤ sizeLine ∧ Q (.tup ds) h1) (kH := fun xs H1 Q => xs.length ≤ sizeLine ∧ ∀ p, H1 p = none → Q (.ref p) (upd H1 p (.tup xs))) (Q := Q) l ?_
  rintro ds h vs H Qa Q hr rd ⟨q1, q2⟩ ql
  refine ⟨by rw [rd.length]; exact q1, fun p np => ?_⟩
  exact ql (.tup ds) h (.ref p) _ (HX.new np) (hr.updN np) ⟨p, vs, rfl, .inl upd_same, rd.mono (HX.new np)⟩ q2
theorem c_lst {es : EXs} (hs : HEs G T fns n es) : HE G T fns n (.lst es) := by
  intro S X W x ok h
  cases x <;> first | exact Bool.noConfusion (show false = true from h) | skip
  refine tst_of (PE.weak (pe_lst (hs.a S X W _ ok h)) fun σ H Q l => ?_) rfl
  refine la1 (k := fun ds h1 Q => ds.length ≤ sizeLine ∧ newO (.lst ds) h1 Q) (kH := fun xs H1 Q => xs.length ≤ sizeLine ∧ ∀ p, H1 p = none → Q (.ref p) (upd H1 p (.lst xs))) (Q := Q) l ?_
  rintro ds h vs H Qa Q hr rd ⟨q1, q2⟩ ql
  refine ⟨by rw [rd.length]; exact q1, ?_⟩
  exact new_ok hr q2 ql fun p np => ⟨vs, upd_same, rd.mono (HX.new np)⟩
theorem pairs_ok : ∀ {es : EXs} {S : SC} {X : Cx} {W : WX} {keys : List (Option Expr)} {vals : List Expr} {pos : Pos}, HEs' G T fns n es → CxOk S G T fns n X W → chkPs es S keys vals = true →
    ∃ trs, PPs X pos keys vals trs ∧ keys.all (·.isSome) = true ∧ keys.length = vals.length ∧ ∀ (σ : L2.St) (H : Hp) (s : ASt) (h : AH) (Qd : List DV → AH → Prop) (Xa : AX) (R : List (V × V) → Hp → Prop), SRel G H s σ → HRel G H h → wEs T (wCall T fns n) s h Qd Xa es → XL G W σ H Xa →
      (∀ ds h' vs H', HX H H' → HRel G H' h' → DRels G.K H' ds vs → Qd ds h' → ∀ ps : List (V × V), vs = (ps.map fun p => [p.1, p.2]).flatten → R ps H') → tPairs trs σ H R
  | .nil, S, X, W, [], [], pos, _, ok, h => ⟨[], pps_nil, rfl, rfl, fun σ H s h Qd Xa R sr hr w xl q => q [] h [] H (HX.refl H) hr rfl w [] rfl⟩
  | .nil, _, _, _, [], _ :: _, _, _, _, h => Bool.noConfusion (show false = true from h)
  | .nil, _, _, _, _ :: _, _, _, _, _, h => Bool.noConfusion (show false = true from h)
  | .cons _ .nil, _, _, _, keys, vals, _, _, _, h => by
    cases keys <;> cases vals <;> exact Bool.noConfusion (show false = true from h)
  | .cons k (.cons v r), S, X, W, [], vals, _, _, _, h => Bool.noConfusion (show false = true from h)
  | .cons k (.cons v r), S, X, W, none :: ks, vals, _, _, _, h => by
    cases vals <;> exact Bool.noConfusion (show false = true from h)
  | .cons k (.cons v r), S, X, W, some x :: ks, [], _, _, _, h => Bool.noConfusion (show false = true from h)
  | .cons k (.cons v r), S, X, W, some x :: ks, y :: vs, pos, he, ok, h => by
    obtain ⟨h, h3⟩ := an2 (show (_ && _) = true from h)
    obtain ⟨h1, h2⟩ := an2 h
    obtain ⟨trs, p, a1, a2, run⟩ := pairs_ok (es := r) (pos := pos) he.2.2 ok h3
    refine ⟨_, pps_cons (he.1 S X W x ok h1).1 (he.2.1 S X W y ok h2).1 p, by simp [a1], by simp [a2], ?_⟩
    intro σ H s h Qd Xa R sr hr w xl q
    refine ⟨s, h, _, Xa, sr, hr, w, fun d h1 u H1 x1 hr1 rd w1 => ?_, xl⟩
    refine ⟨s, h1, _, Xa, sr.mono x1, hr1, w1, fun d2 h2 u2 H2 x2 hr2 rd2 w2 => ?_, xl.mono x1⟩
    refine run σ H2 s h2 _ Xa _ (sr.mono (x1.trans x2)) hr2 w2 (xl.mono (x1.trans x2)) fun ds h3 us H3 x3 hr3 rs w3 ps ep => ?_
    subst ep
    exact q (d :: d2 :: ds) h3 (u :: u2 :: _) H3 (x1.trans (x2.trans x3)) hr3 ⟨u, _, rfl, rd.mono (x2.trans x3), u2, _, rfl, rd2.mono x3, rs⟩ w3 ((u, u2) :: ps) rfl
theorem flat_pairs : ∀ {ps : List (V × V)} {q : List (Key × V)}, (ps.map fun p => [p.1, p.2]).flatten = (q.map fun kv => [kV kv.1, kv.2]).flatten → ps = q.map fun kv => (kV kv.1, kv.2)
  | [], [], _ => rfl
  | [], _ :: _, e => by simp at e
  | _ :: _, [], e => by simp at e
  | (a, b) :: ps, (c, d) :: q, e => by
    simp only [List.map_cons, List.flatten_cons, List.cons_append, List.nil_append, List.cons.injEq] at e
    obtain ⟨e1, e2, e3⟩ := e
    rw [flat_pairs e3]
    subst e1 e2
    rfl
theorem c_dct {es : EXs} (hs : HEs' G T fns n es) : HE G T fns n (.dct es) := by
  intro S X W x ok h
  cases x <;> first | exact Bool.noConfusion (show false = true from h) | skip
  rename_i keys vals pos
  obtain ⟨h1, h2⟩ := an2 (show (_ && _) = true from h)
  have h2 := of_decide_eq_true h2
  obtain ⟨trs, pp, a1, a2, run⟩ := pairs_ok (pos := pos) hs ok h1
  by_cases h0 : keys = []
  · subst h0
    cases vals with
    | cons _ _ => simp at a2
    | nil =>
      cases es with
      | cons a r => cases r <;> exact Bool.noConfusion (show false = true from h1)
      | nil =>
        refine tst_of (PE.weak pe_dnewK fun σ H Q l => ?_) rfl
        obtain ⟨s, h, Qa, Xa, sr, hr, w, ql, xl⟩ := l
        refine new_ok hr (o := .dct []) (fun p np => ?_) ql fun p np => ⟨[], upd_same, rfl⟩
        obtain ⟨_, kvs, e, _, _, q⟩ := w p np
        cases e
        rw [au_au] at q
        exact q
  · refine tst_of (PE.weak (pe_disp pp a1 a2 h0 h2) fun σ H Q l => ?_) rfl
    obtain ⟨s, h, Qa, Xa, sr, hr, w, ql, xl⟩ := l
    intro p np
    have xn : HX H (upd H p (.dK [])) := HX.new np
    have hrn := hr.new np (o := .dct []) (u := .dK []) ⟨[], upd_same, rfl⟩
    refine run σ _ s _ _ Xa _ (sr.mono xn) hrn (w p (hr.free np)) (xl.mono xn) fun ds h' vs H' x' hr' rd q ps ep => ?_
    obtain ⟨e1, kvs, e2, e3, e4, q⟩ := q
    obtain ⟨qq, r1, r2⟩ := pairs_rel rd e2 e3
    rw [r2] at ep
    have eps := flat_pairs ep.symm
    obtain ⟨q0, f1, f2⟩ := hr' p _ e1
    cases f2
    refine ⟨f1, qq, eps, by rw [r1.length]; exact e4, ?_⟩
    have xp : HX H' (upd H' p (.dK (mergeK [] qq))) := HX.put f1 (by intro xs; nofun)
    obtain ⟨hr4, x4⟩ := hr'.put (u := .dK (mergeK [] qq)) (o := .dct (dputs [] kvs)) e1 ⟨_, upd_same, dputs_rel (r1.mono xp) (show KRel G.K _ [] [] from rfl)⟩
    exact ql (.ref p) _ (.ref p) _ (xn.trans (x'.trans x4)) hr4 rfl q
theorem c_lrg {a b : EX} (ha : HE G T fns n a) (hb : HE G T fns n b) : HE G T fns n (.lrg a b) := by
  intro S X W x0 ok h
  have key : ∃ x p y p2 u v p3 p4, x0 = .Call (.Name x p) [.Call (.Name y p2) [u, v] [] p3] [] p4 ∧ S.cal = true ∧ isGl S x = true ∧ x = "list" ∧ x ∈ S.bt ∧ isGl S y = true ∧ y = "range" ∧ y ∈ S.bt ∧ chkE a S u = true ∧ chkE b S v = true := by
    unfold chkE at h
    split at h <;> first | (cases h; done) | skip
    all_goals first | (rename_i heq; cases heq; done) | skip
    rename_i heq
    cases heq
    obtain ⟨h, h8⟩ := an2 h
    obtain ⟨h, h7⟩ := an2 h
    obtain ⟨h, h6⟩ := an2 h
    obtain ⟨h, h5⟩ := an2 h
    obtain ⟨h, h4⟩ := an2 h
    obtain ⟨h, h3⟩ := an2 h
    obtain ⟨h, h2⟩ := an2 h
    obtain ⟨h0, h1⟩ := an2 h
    exact ⟨_, _, _, _, _, _, _, _, rfl, h0, h1, of_decide_eq_true h2, of_decide_eq_true h3, h4, of_decide_eq_true h5, of_decide_eq_true h6, h7, h8⟩
  obtain ⟨x, p, y, p2, u, v, p3, p4, rfl, h0, h1, rfl, h3, h4, rfl, h6, h7, h8⟩ := key
  obtain ⟨g1, _⟩ := isGl_of ok h1
  obtain ⟨g2, _⟩ := isGl_of ok h4
  have sc2 := star_cons (chkE_notStar h8) [] X.env
  have sc1 := star_cons (chkE_notStar h7) [v] X.env
  refine tst_of (PE.weak (pe_listRg (ok.calm h0) g1 (ok.bt _ h3) (prg_2 g2 (ok.bt _ h6) (ha S X W u ok h7).1 (hb S X W v ok h8).1 sc1 sc2 (by rw [sc2]; rfl)) rfl) ?_) rfl
  rintro σ H Q ⟨s, h, Qa, Xa, sr, hr, w, ql, xl⟩
  refine ⟨s, h, _, Xa, sr, hr, w, fun d h1 v1 H1 x1 hr1 rd w1 => ?_, xl⟩
  refine ⟨s, h1, _, Xa, sr.mono x1, hr1, w1, fun e h2 v2 H2 x2 hr2 re w2 => ?_, xl.mono x1⟩
  obtain ⟨i, j, rfl, rfl, l1, l2, l3, l4, l5, w2⟩ := w2
  cases rd
  cases re
  refine ⟨i, j, rfl, rfl, ⟨l1, l2, l3, l4, by omega⟩, ?_⟩
  refine new_ok hr2 w2 (ql.mono (x1.trans x2)) fun p np => ⟨_, upd_same, ?_⟩
  have := DRels.of_ints (K := G.K) (H := upd H2 p (.lst (rgV i j))) (ns := (List.range (j - i).toNat).map fun k => i + (k : Nat))
  rw [List.map_map, List.map_map] at this
  exact this
theorem c_lrg1 {b : EX} (hb : HE G T fns n b) : HE G T fns n (.lrg1 b) := by
  intro S X W x0 ok h
  have key : ∃ x p y p2 v p3 p4, x0 = .Call (.Name x p) [.Call (.Name y p2) [v] [] p3] [] p4 ∧ S.cal = true ∧ isGl S x = true ∧ x = "list" ∧ x ∈ S.bt ∧ isGl S y = true ∧ y = "range" ∧ y ∈ S.bt ∧ chkE b S v = true := by
    unfold chkE at h
    split at h <;> first | (cases h; done) | skip
    all_goals first | (rename_i heq; cases heq; done) | skip
    rename_i heq
    cases heq
    obtain ⟨h, h8⟩ := an2 h
    obtain ⟨h, h6⟩ := an2 h
    obtain ⟨h, h5⟩ := an2 h
    obtain ⟨h, h4⟩ := an2 h
    obtain ⟨h, h3⟩ := an2 h
    obtain ⟨h, h2⟩ := an2 h
    obtain ⟨h0, h1⟩ := an2 h
    exact ⟨_, _, _, _, _, _, _, rfl, h0, h1, of_decide_eq_true h2, of_decide_eq_true h3, h4, of_decide_eq_true h5, of_decide_eq_true h6, h8⟩
  obtain ⟨x, p, y, p2, v, p3, p4, rfl, h0, h1, rfl, h3, h4, rfl, h6, h8⟩ := key
  obtain ⟨g1, _⟩ := isGl_of ok h1
  obtain ⟨g2, _⟩ := isGl_of ok h4
  have sc2 := star_cons (chkE_notStar h8) [] X.env
  refine tst_of (PE.weak (pe_listRg (ok.calm h0) g1 (ok.bt _ h3) (prg_1 g2 (ok.bt _ h6) (hb S X W v ok h8).1 sc2) rfl) ?_) rfl
  rintro σ H Q ⟨s, h, Qa, Xa, sr, hr, w, ql, xl⟩
  refine ⟨s, h, _, Xa, sr, hr, w, fun e h2 v2 H2 x2 hr2 re w2 => ?_, xl⟩
  obtain ⟨j, rfl, l3, l4, l5, w2⟩ := w2
  cases re
  refine ⟨j, rfl, ⟨by omega, by omega, l3, l4, by omega⟩, ?_⟩
  refine new_ok hr2 w2 (ql.mono x2) fun p np => ⟨_, upd_same, ?_⟩
  have := DRels.of_ints (K := G.K) (H := upd H2 p (.lst (rgV 0 j))) (ns := (List.range (j - 0).toNat).map fun k => (0 : Int) + (k : Nat))
  rw [List.map_map, List.map_map] at this
  simp only [Int.sub_zero] at this
  have e1 : (List.range j.toNat).map (fun (k : Nat) => DV.int (k : Nat)) = (List.range j.toNat).map (DV.int ∘ fun k => (0 : Int) + (k : Nat)) := List.map_congr_left fun k _ => by simp
  rw [e1]
  refine cast ?_ this
  congr 1
  unfold rgV
  simp
/-! ### parts -/
theorem c_ix {a i : EX} (ha : HE G T fns n a) (hi : HE G T fns n i) : HE G T fns n (.ix a i) := by
  intro S X W x ok h
  cases x <;> first | exact Bool.noConfusion (show false = true from h) | skip
  rename_i u v pos
  have key : chkE a S u = true ∧ chkE i S v = true ∧ PlainIx v := by
    cases v <;> first | exact Bool.noConfusion (show false = true from h) | skip
    all_goals exact ⟨(an2 h).1, (an2 h).2, fun _ _ => rfl⟩
  obtain ⟨h1, h2, h3⟩ := key
  exact tst_of (PE.weak (pe_ix (ix_ok ok.K ok.un) (ha S X W _ ok h1).1 (hi S X W _ ok h2).1 h3) fun σ H Q l => le2 l) rfl
theorem c_sl {a : EX} {lo hi : EXs} (ha : HE G T fns n a) (hl : HEs G T fns n lo) (hu : HEs G T fns n hi) : HE G T fns n (.sl a lo hi) := by
  intro S X W x ok h
  cases x <;> first | exact Bool.noConfusion (show false = true from h) | skip
  rename_i u v pos
  cases v <;> first | exact Bool.noConfusion (show false = true from h) | skip
  rename_i l r st p
  cases st with
  | some _ => exact Bool.noConfusion (show false = true from h)
  | none =>
    obtain ⟨h, h3⟩ := an2 (show (_ && _) = true from h)
    obtain ⟨h1, h2⟩ := an2 h
    refine tst_of (PE.weak (pe_slice (sl_ok ok.K) (ha S X W _ ok h1).1 (hl.o S X W _ ok h2) (hu.o S X W _ ok h3)) ?_) rfl
    rintro σ H Q ⟨s, h, Qa, Xa, sr, hr, w, ql, xl⟩
    refine ⟨s, h, _, Xa, sr, hr, w, fun d h1 v H1 x1 hr1 rd w1 => ?_, xl⟩
    refine ⟨s, h1, _, Xa, sr.mono x1, hr1, w1, fun o1 h2 H2 x2 hr2 w2 => ?_, xl.mono x1⟩
    refine ⟨s, h2, _, Xa, sr.mono (x1.trans x2), hr2, w2, fun o2 h3 H3 x3 hr3 w3 => ?_, xl.mono (x1.trans x2)⟩
    exact ⟨d, h3, Qa, rd.mono (x2.trans x3), hr3, w3, ql.mono (x1.trans (x2.trans x3))⟩
theorem fld_look {h : AH} {H : Hp} {p : Addr} {c : Nat} {fs : List (Option DV)} {f k : Nat} {nm : Str} {d : DV} (ok : CxOk S G T fns n X W) (hr : HRel G H h) (e : h p = some (.ins c fs)) (ek : T.fp c f = some k) (en : S.an[f]? = some nm) (ed : fs[k]? = some (some d)) :
    ∃ C dx q v, H p = some (.ins C dx q) ∧ Cls X.K C ∧ NoAttr X.K C nm ∧ q.lookup nm = some v ∧ DRel G.K H d v := by
  obtain ⟨e1, hc, na, _⟩ := ok.fp c f k nm ek en
  obtain ⟨dx, q, ea, lc, el, nd, sb, fr⟩ := hr p _ e
  obtain ⟨v, e2, rd⟩ := fr k nm d e1 ed
  exact ⟨_, dx, q, v, ea, hc, na, e2, rd⟩
theorem c_fld {a : EX} (f : Nat) (ha : HE G T fns n a) : HE G T fns n (.fld a f) := by
  intro S X W x ok h
  cases x <;> first | exact Bool.noConfusion (show false = true from h) | skip
  rename_i u nm pos
  obtain ⟨h, h3⟩ := an2 (show (_ && _) = true from h)
  obtain ⟨h1, h2⟩ := an2 h
  have en := of_decide_eq_true h1
  refine tst_of (PE.weak (pe_fld (ha S X W _ ok h3).1 (base_ok h2)) fun σ H Q l => ?_) rfl
  refine le1 (k := fun x h1 Q => ∃ p, x = .ref p ∧ ((∃ c fs k d, h1 p = some (.ins c fs) ∧ T.fp c f = some k ∧ fs[k]? = some (some d) ∧ Q d h1))) (kH := fun x H1 Q => ∃ a C dx fs v, x = .ref a ∧ H1 a = some (.ins C dx fs) ∧ Cls X.K C ∧ NoAttr X.K C nm ∧ fs.lookup nm = some v ∧ Q v H1) (Q := Q) l ?_
  rintro d h v H Qa Q hr rd ⟨p, rfl, c, fs, k, e, e1, e2, e3, q⟩ ql
  cases rd
  obtain ⟨C, dx, q', v, f1, f2, f3, f4, f5⟩ := fld_look ok hr e1 e2 en e3
  exact ⟨p, C, dx, q', v, rfl, f1, f2, f3, f4, ql e h v H (HX.refl H) hr f5 q⟩
/-- e.f of an exception that was caught -/
theorem pe_xfX {e : Expr} {te : TE} {pos : Pos} {nm : Str} (he : PE X e te) (hb : attributeBase e nm X.env (eval e X.env) = eval e X.env) :
    PE X (.Attribute e nm pos) (fun σ H Q => te σ H fun x H1 => ∃ (a C d : Addr) (fs : List (Str × V)) (v : V), x = .ref a ∧ H1 a = some (exH a (.ref C) (some d)) ∧ H1 d = some (.xd fs) ∧ XfC X.K C ∧ PySem.W.findIn X.K (.ref C) nm = some none ∧ fs.lookup nm = some v ∧ Q v H1) := by
  refine ⟨fun pins s σ H Q I h => attr_of hb (thn (he.run pins s σ H _ I h) fun u s1 hh => ?_)⟩
  obtain ⟨x, H1, I1, rx, a, C, d, fs, v, rfl, ea, ed, F, hno, l, q⟩ := hh
  cases (show u = Value.ref a from rx)
  obtain ⟨⟨oe, vs, e1, hz, hv⟩, _⟩ := I1.hok a _ ea
  have hx : ObjOk X.prog X.w H1 s1.heap d (.xd fs) := I1.hok d _ ed
  obtain ⟨mp, ns, rel⟩ := hx
  obtain ⟨od, hod, lk⟩ := lookIn_ns ns
  obtain ⟨y, hy, ry⟩ := RelO.some_of (o := mp nm) (v := v) (by rw [← l]; exact rel nm)
  have hi : PySem.W.InstAt s1.heap a oe C (some od) := by
    refine ⟨e1, hz.1, ?_, ?_⟩
    · unfold PySem.W.notCls; rw [hv]
    · rw [hz.2.1]; exact hod
  refine HandSPX.exc_get I1.kIn hi F.ga F.gg F.exC ?_ (handed_of ry) ⟨v, H1, I1.tok _, ry, q⟩
  exact PySem.W.findObj_own F.hdC hno rfl (by rw [lk, hy])
theorem c_xfld {a : EX} (f : Nat) (ha : HE G T fns n a) : HE G T fns n (.xfld a f) := by
  intro S X W x ok h
  cases x <;> first | exact Bool.noConfusion (show false = true from h) | skip
  rename_i u nm pos
  obtain ⟨h, h3⟩ := an2 (show (_ && _) = true from h)
  obtain ⟨h1, h2⟩ := an2 h
  have en := of_decide_eq_true h1
  refine tst_of (PE.weak (pe_xfX (ha S X W _ ok h3).1 (base_ok h2)) fun σ H Q l => ?_) rfl
  refine le1 (k := fun x h1 Q => ∃ p, x = .ref p ∧ ((∃ c fs k d, h1 p = some (.exc c fs) ∧ T.xp c f = some k ∧ fs[k]? = some d ∧ Q d h1))) (kH := fun x H1 Q => ∃ (a C d : Addr) (fs : List (Str × V)) (v : V), x = .ref a ∧ H1 a = some (exH a (.ref C) (some d)) ∧ H1 d = some (.xd fs) ∧ XfC X.K C ∧ PySem.W.findIn X.K (.ref C) nm = some none ∧ fs.lookup nm = some v ∧ Q v H1) (Q := Q) l ?_
  rintro d h v H Qa Q hr rd ⟨p, rfl, c, fs, k, y, e, e1, e2, q⟩ ql
  cases rd
  obtain ⟨dd, qq, f1, f2, lc, ll, fr⟩ := hr p _ e
  obtain ⟨g1, g2⟩ := ok.xp c f k nm e1 en
  obtain ⟨v, g3, rv⟩ := fr k nm y g1 (by rw [List.getElem?_map, e2]; rfl)
  exact ⟨p, _, dd, qq, v, rfl, f1, f2, (ok.xi c lc).f, g2, g3, ql y h v H (HX.refl H) hr rv q⟩
/-! ### calls -/
theorem c_call (f : Nat) {es : EXs} (hs : HEs G T fns n es) : HE G T fns n (.call f es) := by
  intro S X W x ok h
  cases x <;> first | exact Bool.noConfusion (show false = true from h) | skip
  rename_i u xs ks pos
  cases u <;> first | exact Bool.noConfusion (show false = true from h) | skip
  · rename_i o m apos
    cases o <;> first | exact Bool.noConfusion (show false = true from h) | skip
    rename_i x p
    match xs, ks, h with
    | [], _, h => exact Bool.noConfusion (show false = true from h)
    | _ :: _, _ :: _, h => exact Bool.noConfusion (show false = true from h)
    | y :: ys, [], h =>
      obtain ⟨h, h4⟩ := an2 (show (_ && _) = true from h)
      obtain ⟨h, h3⟩ := an2 h
      obtain ⟨h1, h2⟩ := an2 h
      exact tst_of (sCM ok h1 (of_decide_eq_true h2) h3 h4 (hs.a S X W _ ok h4)) rfl
  cases ks with
  | cons _ _ => exact Bool.noConfusion (show false = true from h)
  | nil =>
    obtain ⟨h, h3⟩ := an2 (show (_ && _) = true from h)
    obtain ⟨h1, h2⟩ := an2 h
    exact tst_of (sCall ok h1 (of_decide_eq_true h2) h3 (hs.a S X W _ ok h3) (h0_of h3)) rfl
theorem c_make (c : Nat) {es : EXs} (hs : HEs G T fns n es) : HE G T fns n (.make c es) := by
  intro S X W x ok h
  cases x <;> first | exact Bool.noConfusion (show false = true from h) | skip
  rename_i u xs ks pos
  cases u <;> first | exact Bool.noConfusion (show false = true from h) | skip
  cases ks with
  | cons _ _ => exact Bool.noConfusion (show false = true from h)
  | nil =>
    obtain ⟨h, h3⟩ := an2 (show (_ && _) = true from h)
    obtain ⟨h1, h2⟩ := an2 h
    exact tst_of (sMake ok h1 (of_decide_eq_true h2) h3 (hs.a S X W _ ok h3) (h0_of h3)) rfl
theorem c_meth {a : EX} (m : Nat) {es : EXs} (ha : HE G T fns n a) (hs : HEs G T fns n es) : HE G T fns n (.meth a m es) := by
  intro S X W x ok h
  cases x <;> first | exact Bool.noConfusion (show false = true from h) | skip
  rename_i u xs ks pos
  cases u <;> first | exact Bool.noConfusion (show false = true from h) | skip
  cases ks with
  | cons _ _ => exact Bool.noConfusion (show false = true from h)
  | nil =>
    obtain ⟨h, h4⟩ := an2 (show (_ && _) = true from h)
    obtain ⟨h, h3⟩ := an2 h
    obtain ⟨h1, h2⟩ := an2 h
    exact tst_of (sMeth ok (of_decide_eq_true h1) h2 (ha S X W _ ok h3).1 h4 (hs.a S X W _ ok h4) (h0_of h4)) rfl
theorem c_bf (b : BF) {es : EXs} (hs : HEs G T fns n es) : HE G T fns n (.bf b es) := by
  intro S X W x ok h
  cases x <;> first | exact Bool.noConfusion (show false = true from h) | skip
  rename_i u xs ks pos
  cases u <;> first | exact Bool.noConfusion (show false = true from h) | skip
  rename_i x p
  cases ks with
  | cons _ _ => exact Bool.noConfusion (show false = true from h)
  | nil =>
    obtain ⟨h, h5⟩ := an2 (show (_ && _) = true from h)
    obtain ⟨h, h4⟩ := an2 h
    obtain ⟨h, h3⟩ := an2 h
    obtain ⟨h, h2⟩ := an2 h
    obtain ⟨h0, h1⟩ := an2 h
    obtain ⟨g1, g2⟩ := isGl_of ok h1
    obtain rfl := of_decide_eq_true h2
    have hm := ok.bt _ (of_decide_eq_true h3)
    match xs, h4, h5 with
    | [], h4, _ => exact absurd rfl (of_decide_eq_true h4)
    | e :: q, _, h5 =>
      obtain ⟨e', r, rfl, c1, c2⟩ := cons_of h5
      have pa := hs.a S X W _ ok h5
      have fin : ∀ σ H Q, EE G T fns n W (.bf b (.cons e' r)) σ H Q → tCB (LOC G (xBF b)) (LA G W fun s h Q Y => wEs T (wCall T fns n) s h Q Y (.cons e' r)) σ H Q := by
        intro σ H Q l
        refine la1 (k := fun ds h1 Q => xBF b ds h1 Q) (kH := fun vs H1 Q => LOC G (xBF b) vs H1 Q) (Q := Q) l ?_
        rintro ds h vs H Qa Q hr rd q ql
        exact ⟨ds, h, Qa, rd, hr, q, ql⟩
      have hb := bf_ok (X := X) (G := G) ok.K (ok.calm h0) ok.un b
      have ho := bf_boot b
      refine tst_of (PE.weak ?_ fin) rfl
      cases hv : bfV b <;> rw [hv] at hb ho
      all_goals first
        | exact pe_callB hb g1 hm ho pa (bf_name b) g2 (star_cons (chkE_notStar c1) _ _) (star_any _ c2)
        | exact pe_callTy hb g1 hm ho pa (bf_name b) g2 (star_cons (chkE_notStar c1) _ _) (star_any _ c2)
        | (exfalso; cases b <;> cases hv)
theorem c_mk0 (c : Nat) : HE G T fns n (.mk0 c) := by
  intro S X W x ok h
  cases x <;> first | exact Bool.noConfusion (show false = true from h) | skip
  rename_i u xs ks pos
  cases u <;> first | exact Bool.noConfusion (show false = true from h) | skip
  cases xs with
  | cons _ _ => exact Bool.noConfusion (show false = true from h)
  | nil =>
  cases ks with
  | cons _ _ => exact Bool.noConfusion (show false = true from h)
  | nil =>
  obtain ⟨h1, h2⟩ := an2 (show (_ && _) = true from h)
  exact tst_of (sMake0 ok h1 (of_decide_eq_true h2)) rfl
theorem recv_ty (m : BM) {d : DV} {h : AH} {H : Hp} {v : V} (hG : G.K = X.K) (hr : HRel G H h) (rd : DRel G.K H d v) (q : recvOk m d h) : tyV X.K (rtT m.rt) v H := by
  unfold recvOk at q
  split at q <;> rename_i hm <;> rw [hm]
  · obtain ⟨a, rfl⟩ := q
    obtain ⟨rfl, _⟩ := rd
    exact rfl
  · obtain ⟨p, xs, rfl, e⟩ := q
    cases rd
    obtain ⟨vs, s1, _⟩ := seq_of hr e
    exact .inl ⟨rfl, vs, by rw [← hG]; exact s1⟩
  · obtain ⟨p, xs, rfl, e⟩ := q
    cases rd
    obtain ⟨q, e, _⟩ := hr p _ e
    exact .inr (.inr (.inl ⟨rfl, .inl ⟨q, e⟩⟩))
theorem few_ok {o : Expr} {m : Str} {apos cpos : Pos} {xs : List Expr} {es : EXs} {env : Env} {k : Nat} (hk : k = xs.length) (hm : methOk o m apos cpos k = true) (hs : chkEs es S xs = true) : ((backTo cpos (starEach xs env)).all (fun x => !x.1) && (backToKw cpos (keywordEach [] env)).all (fun x => x.1.isSome) && decide (xs.length + ([] : List Keyword).length + (if ([] : List Keyword).isEmpty then 0 else 1) < 30)) = true := by
  subst hk
  rw [star_all env hs]
  have h1 := of_decide_eq_true (an2 (an2 hm).1).2
  show (true && true && decide (xs.length + 0 + 0 < 30)) = true
  simpa using h1
theorem c_bm {a : EX} (m : BM) {es : EXs} (ha : HE G T fns n a) (hs : HEs G T fns n es) : HE G T fns n (.bm a m es) := by
  intro S X W x ok h
  cases x <;> first | exact Bool.noConfusion (show false = true from h) | skip
  rename_i u xs ks pos
  cases u <;> first | exact Bool.noConfusion (show false = true from h) | skip
  rename_i o nm apos
  cases ks with
  | cons _ _ => exact Bool.noConfusion (show false = true from h)
  | nil =>
    obtain ⟨h, h4⟩ := an2 (show (_ && _) = true from h)
    obtain ⟨h, h3⟩ := an2 h
    obtain ⟨h, h2⟩ := an2 h
    obtain ⟨h0, h1⟩ := an2 h
    obtain ⟨rfl, hm⟩ := of_decide_eq_true h1
    obtain ⟨t1, t2, t3⟩ := bm_tab m
    have po := (ha S X W _ ok h3).1
    have pa := hs.a S X W _ ok h4
    have hb := bm_ok (X := X) (G := G) ok.K (ok.calm h0) ok.un m hm
    match xs, h2, h4, pa with
    | [], h2, h4, pa =>
      obtain rfl := nil_of h4
      refine tst_of (PE.weak (pe_bm0 t1 t2 t3 hb po (base_ok h2) (an2 h2).2) ?_) rfl
      rintro σ H Q ⟨s, h, Qa, Xa, sr, hr, w, ql, xl⟩
      refine ⟨s, h, _, Xa, sr, hr, w, fun d h1 v H1 x1 hr1 rd w1 => ?_, xl⟩
      exact ⟨recv_ty m ok.K hr1 rd w1.1, d, [], h1, Qa, rd, rfl, hr1, w1.2, ql.mono x1⟩
    | e :: q, h2, h4, pa =>
      obtain ⟨e', r, rfl, c1, c2⟩ := cons_of h4
      refine tst_of (PE.weak (pe_bm t1 t2 t3 hb po pa (base_ok h2) (few_ok rfl h2 h4) (an2 h2).2 (star_cons (chkE_notStar c1) _ _) (star_any _ c2)) ?_) rfl
      rintro σ H Q ⟨s, h, Qa, Xa, sr, hr, w, ql, xl⟩
      refine ⟨s, h, _, Xa, sr, hr, w, fun d h1 v H1 x1 hr1 rd w1 => ?_, xl⟩
      refine ⟨recv_ty m ok.K hr1 rd w1.1, s, h1, _, Xa, sr.mono x1, hr1, w1.2, fun ds h2 vs H2 x2 hr2 rs w2 => ?_, xl.mono x1⟩
      exact ⟨d, ds, h2, Qa, rd.mono x2, rs, hr2, w2, ql.mono (x1.trans x2)⟩
/-! ### isinstance -/
theorem isi_any {K : PySem.W.Frag} {ty : Value} {h : AH} {d : DV} : ∀ {ts : List TY} {cs : List Expr}, tysIs S ts cs = true → (∀ t ∈ ts, isiOk h d t = true) → (∀ t e, isiOk h d t = true → tyIs S t e = true → PySem.W.kitOne K ty (uOf G t) = some (tyOf T h d t)) →
    PySem.W.kitAny K ty (ts.map (uOf G)) = some (ts.any (tyOf T h d))
  | [], [], _, _, _ => rfl
  | [], _ :: _, h1, _, _ => Bool.noConfusion (show false = true from h1)
  | _ :: _, [], h1, _, _ => Bool.noConfusion (show false = true from h1)
  | t :: ts, c :: cs, h1, h2, h3 => by
    obtain ⟨a, b⟩ := an2 (show (_ && _) = true from h1)
    refine kitAny_cons (h3 t c (h2 t (by simp)) a) (fun e => ?_) (fun e => ?_)
    · rw [List.any_cons, e]
      exact isi_any b (fun t ht => h2 t (by simp [ht])) h3
    · rw [List.any_cons, e]; rfl
theorem cls_pa (ok : CxOk S G T fns n X W) : ∀ {ts : List TY} {cs : List Expr}, tysIs S ts cs = true → PA X cs (fun _ H Q => Q (ts.map (cOf G)) H) ∧ Paired ClsV (ts.map (cOf G)) (ts.map (uOf G))
  | [], [], _ => ⟨PA.weak pa_nil fun _ _ _ q => q, .nil⟩
  | [], _ :: _, h => Bool.noConfusion (show false = true from h)
  | _ :: _, [], h => Bool.noConfusion (show false = true from h)
  | t :: ts, c :: cs, h => by
    obtain ⟨a, b⟩ := an2 (show (_ && _) = true from h)
    obtain ⟨p1, p2, p3, _⟩ := cls_pe ok a
    obtain ⟨q1, q2⟩ := cls_pa ok b
    exact ⟨PA.weak (pa_cons p1 q1 (star_cons p3 _ _)) fun _ _ _ q => q, .cons p2 q2⟩
theorem c_isi {a : EX} (ts : List TY) (tp : Bool) (ha : HE G T fns n a) : HE G T fns n (.isi a ts tp) := by
  intro S X W x0 ok h
  have key : ∃ x p e c pos, x0 = .Call (.Name x p) [e, c] [] pos ∧ isGl S x = true ∧ x = "isinstance" ∧ x ∈ S.bt ∧ chkE a S e = true ∧ ((∃ cs k q, c = .Tuple cs k q ∧ ts.length ≤ 100 ∧ ts ≠ [] ∧ tysIs S ts cs = true) ∨ tysIs S ts [c] = true) := by
    cases x0 <;> first | exact Bool.noConfusion (show false = true from h) | skip
    rename_i u xs ks pos
    cases u <;> first | exact Bool.noConfusion (show false = true from h) | skip
    rename_i x p
    match xs, ks, h with
    | [], _, h => exact Bool.noConfusion (show false = true from h)
    | [_], _, h => exact Bool.noConfusion (show false = true from h)
    | _ :: _ :: _ :: _, _, h => exact Bool.noConfusion (show false = true from h)
    | [_, _], _ :: _, h => exact Bool.noConfusion (show false = true from h)
    | [e, c], [], h =>
      obtain ⟨h, h5⟩ := an2 (show (_ && _) = true from h)
      obtain ⟨h, h4⟩ := an2 h
      obtain ⟨h, h3⟩ := an2 h
      obtain ⟨h1, h2⟩ := an2 h
      refine ⟨x, p, e, c, pos, rfl, h1, of_decide_eq_true h2, of_decide_eq_true h3, h4, ?_⟩
      cases tp with
      | true =>
        cases c <;> first | exact Bool.noConfusion (show false = true from h5) | skip
        obtain ⟨h5, h6⟩ := an2 (show (_ && _) = true from h5)
        obtain ⟨h5, h7⟩ := an2 h5
        exact .inl ⟨_, _, _, rfl, of_decide_eq_true h5, of_decide_eq_true h7, h6⟩
      | false => cases c <;> exact .inr h5
  obtain ⟨x, p, e, c, pos, rfl, h1, rfl, h3, h4, h5⟩ := key
  obtain ⟨g1, g2⟩ := isGl_of ok h1
  have hm := ok.bt _ h3
  have pe := (ha S X W _ ok h4).1
  rcases h5 with ⟨cs, k, q, rfl, hl, hne, h5⟩ | h5
  · obtain ⟨q1, q2⟩ := cls_pa ok h5
    refine tst_of (PE.weak (pe_callB call_isTZ g1 hm (by decide +kernel) (pa_cons pe (pa_cons (pe_tup q1) pa_nil (star_cons rfl _ _)) (star_cons (chkE_notStar h4) _ _)) (by decide +kernel) g2 (star_cons (chkE_notStar h4) _ _) rfl) ?_) rfl
    rintro σ H Q ⟨s, h, Qa, Xa, sr, hr, w, ql, xl⟩
    refine ⟨s, h, _, Xa, sr, hr, w, fun d h1 v H1 x1 hr1 rd w1 => ?_, xl⟩
    obtain ⟨w1, w2⟩ := w1
    refine ⟨by rw [List.length_map]; exact Nat.le_trans hl (by decide), fun p np => ?_⟩
    obtain ⟨t0, tr, rfl⟩ : ∃ t0 tr, ts = t0 :: tr := by
      cases ts with
      | nil => exact absurd rfl hne
      | cons a b => exact ⟨a, b, rfl⟩
    obtain ⟨e0, er, rfl⟩ : ∃ e0 er, cs = e0 :: er := by
      cases cs with
      | nil => exact Bool.noConfusion (show false = true from h5)
      | cons a b => exact ⟨a, b, rfl⟩
    obtain ⟨ty, k1, k2⟩ := val_ty ok (hr1.updN np (u := .tup ((t0 :: tr).map (cOf G)))) (rd.mono (HX.new np)) (w1 t0 (by simp)) (an2 h5).1
    exact ⟨v, p, _, ty, _, _, rfl, upd_same, q2, k1, isi_any h5 w1 k2, ql (.bl _) h1 (.bl _) _ (x1.trans (HX.new np)) (hr1.updN np) rfl w2⟩
  · match ts, h5 with
    | [], h5 => exact Bool.noConfusion (show false = true from h5)
    | [t], h5 =>
      obtain ⟨h5, _⟩ := an2 (show (_ && _) = true from h5)
      obtain ⟨p1, p2, p3, _⟩ := cls_pe ok h5
      refine tst_of (PE.weak (pe_callB call_isZ g1 hm (by decide +kernel) (pa_cons pe (pa_cons p1 pa_nil (star_cons p3 _ _)) (star_cons (chkE_notStar h4) _ _)) (by decide +kernel) g2 (star_cons (chkE_notStar h4) _ _) (by rw [star_cons p3]; rfl)) ?_) rfl
      rintro σ H Q ⟨s, h, Qa, Xa, sr, hr, w, ql, xl⟩
      refine ⟨s, h, _, Xa, sr, hr, w, fun d h1 v H1 x1 hr1 rd w1 => ?_, xl⟩
      obtain ⟨w1, w2⟩ := w1
      obtain ⟨ty, k1, k2⟩ := val_ty ok hr1 rd (w1 t (by simp)) h5
      refine ⟨v, _, ty, _, _, rfl, p2, k1, k2 t c (w1 t (by simp)) h5, ?_⟩
      refine ql (.bl _) h1 (.bl _) _ x1 hr1 rfl ?_
      simpa using w2
    | _ :: _ :: _, h5 => exact Bool.noConfusion (show false = true from (by simpa [tysIs] using h5))
end
end PL

set_option maxHeartbeats 8000000
/-! PL, part nx: list of a view, list of reversed, the conditional expression. -/
namespace PL
open PySem PySem.Spec PyProof.Rows L2
section
variable {X : Cx} {e : Expr} {te : TE} {p apos cpos pos : Pos}
theorem vals_snd {K : Type} : ∀ {vs : List (K × Value)} {acc : List Value}, acc.length = vs.length → (∀ (j : Nat) v, acc[j]? = some v → ∃ k, vs[j]? = some (k, v)) → acc = vs.map (·.2) := fun {vs acc} hl hv => PySem.W.kdl_vals_eq acc hl hv
theorem kv_vals {kvs : List (Key × V)} {vs : List (Key × Value)} (r : KV kvs vs) : Vals (kvs.map (·.2)) (vs.map (·.2)) := by
  unfold KV at r
  induction r with
  | nil => exact .nil
  | cons h _ k => exact .cons h.2 k
/-- list(e.values()) -/
theorem pe_lval (hc : X.calm = true) (he : PE X e te) (hg : Gl X "list") (hm : X.mg "list" = none) (hbase : attributeBase e "values" X.env (eval e X.env) = eval e X.env) (hline : (apos.endLine == cpos.line) = true)
    (hs : starEach [.Call (.Attribute e "values" apos) [] [] cpos] X.env = (false, eval (.Call (.Attribute e "values" apos) [] [] cpos) X.env) :: starEach [] X.env := by rfl) :
    PE X (.Call (.Name "list" p) [.Call (.Attribute e "values" apos) [] [] cpos] [] pos) (fun σ H Q => te σ H fun x H1 => ∃ (d : Addr) (kvs : List (Key × V)), x = .ref d ∧ H1 d = some (.dK kvs) ∧ ∀ q, H1 q = none → Q (.ref q) (upd H1 q (.lst (kvs.map (·.2))))) := by
  refine ⟨fun pins s σ H Q I hq => ?_⟩
  refine wpAny_Call_Name_kw (ld_blt I hg hm PyProof.Rows.boot_list ?_)
  refine PyProof.Rows.callWith_type1 ?_ hs rfl
  rw [hs]
  show wpAny _ _ (spliced ((false, eval (.Call (.Attribute e "values" apos) [] [] cpos) X.env) :: backTo pos (starEach [] X.env))) _ _ s
  refine Calls.spliced_cons ?_
  refine wpAny_Call_method (T := "dict") (id := "dict.values") hbase rfl hline F.plainAttrs_dict F.slot_dict_values F.type_dict_values (thn (he.run pins s σ H _ I hq) fun u s1 ⟨x, H1, I1, rx, d, kvs, ex, hd, q⟩ => ?_)
  subst ex
  obtain rfl : u = Value.ref d := rx
  obtain ⟨hz, hs0, vs, kv, hdo⟩ := I1.hok d _ hd
  obtain ⟨ep, hat⟩ := hdo.dictAt
  have lk : kvs.length = vs.length := kv.length
  have I2 : Inv X pins σ H1 { s1 with heap := s1.heap.push { cls := .type "dict_values", data := .fields #[.ref d] } } := I1.kept (t' := s1.toks) fun b ob q => Heap.get?_push_of_some _ q
  refine ⟨hdo.typeIs, hdo.mapOf.noDict, ?_⟩
  show wpAny _ _ (callWith cpos (.builtin "dict.values") [.ref d] [] []) _ X.xe s1
  refine method_meetsIn F.slot_dict_values F.entry_dict_values rfl (PySem.evalArgs_none ⟨rfl, hdo.typeIs, F.args_dict_values_1 _, _, meets_dict_values (mixKind X.prog X.w) d hs0, ⟨vs, hdo⟩, ?_⟩)
  refine Calls.spliced_nil ?_
  refine PySem.W.kdl_call (PySem.W.kdl_values (knd := mixKind X.prog X.w) (d := d) (kvs := vs) (ep := ep)) (I1.ok.hd hc) ⟨⟨_, Heap.get?_push_size _ rfl, rfl, rfl⟩, hat.push _⟩ (by rw [← lk]; exact hz) fun h' tk acc c' hk hD hacc => ?_
  have ev : acc.toList = vs.map (·.2) := vals_snd (by rw [Array.length_toList]; exact hacc.1) fun j v e => hacc.2 j v (by rw [← Array.getElem?_toList]; exact e)
  refine ⟨.ref _, upd H1 _ (.lst (kvs.map (·.2))), I2.laid (t' := tk) hk (Nat.le_refl _) (show ObjOk X.prog X.w _ _ _ (.lst (kvs.map (·.2))) from ⟨by rw [List.length_map]; exact hz, acc.toList, c', by rw [ev]; exact kv_vals kv, by rw [Array.toArray_toList]; exact hD⟩), rfl, q _ (I2.hok.fresh (Nat.le_refl _))⟩
/-- list(e.keys()) -/
theorem pe_lkey (hc : X.calm = true) (he : PE X e te) (hg : Gl X "list") (hm : X.mg "list" = none) (hbase : attributeBase e "keys" X.env (eval e X.env) = eval e X.env) (hline : (apos.endLine == cpos.line) = true)
    (hs : starEach [.Call (.Attribute e "keys" apos) [] [] cpos] X.env = (false, eval (.Call (.Attribute e "keys" apos) [] [] cpos) X.env) :: starEach [] X.env := by rfl) :
    PE X (.Call (.Name "list" p) [.Call (.Attribute e "keys" apos) [] [] cpos] [] pos) (fun σ H Q => te σ H fun x H1 => ∃ (d : Addr) (kvs : List (Key × V)), x = .ref d ∧ H1 d = some (.dK kvs) ∧ ∀ q, H1 q = none → Q (.ref q) (upd H1 q (.lst (kvs.map fun kv => kV kv.1)))) := by
  refine ⟨fun pins s σ H Q I hq => ?_⟩
  refine wpAny_Call_Name_kw (ld_blt I hg hm PyProof.Rows.boot_list ?_)
  refine PyProof.Rows.callWith_type1 ?_ hs rfl
  rw [hs]
  show wpAny _ _ (spliced ((false, eval (.Call (.Attribute e "keys" apos) [] [] cpos) X.env) :: backTo pos (starEach [] X.env))) _ _ s
  refine Calls.spliced_cons ?_
  refine wpAny_Call_method (T := "dict") (id := "dict.keys") hbase rfl hline F.plainAttrs_dict F.slot_dict_keys F.type_dict_keys (thn (he.run pins s σ H _ I hq) fun u s1 ⟨x, H1, I1, rx, d, kvs, ex, hd, q⟩ => ?_)
  subst ex
  obtain rfl : u = Value.ref d := rx
  obtain ⟨hz, hs0, vs, kv, hdo⟩ := I1.hok d _ hd
  obtain ⟨ep, hat⟩ := hdo.dictAt
  have lk : kvs.length = vs.length := kv.length
  have I2 : Inv X pins σ H1 { s1 with heap := s1.heap.push { cls := .type "dict_keys", data := .fields #[.ref d] } } := I1.kept (t' := s1.toks) fun b ob q => Heap.get?_push_of_some _ q
  refine ⟨hdo.typeIs, hdo.mapOf.noDict, ?_⟩
  show wpAny _ _ (callWith cpos (.builtin "dict.keys") [.ref d] [] []) _ X.xe s1
  refine method_meetsIn F.slot_dict_keys F.entry_dict_keys rfl (PySem.evalArgs_none ⟨rfl, hdo.typeIs, F.args_dict_keys_1 _, _, PySem.W.kdl_meets_keys (mixKind X.prog X.w) d hs0, ⟨⟨vs, hdo⟩, ?_⟩⟩)
  refine Calls.spliced_nil ?_
  have ek : (kvs.map fun kv => kV kv.1) = vs.map fun q => kV q.1 := by
    have z := congrArg (List.map kV) kv.keys
    rw [List.map_map, List.map_map] at z
    exact z
  refine PySem.W.kdl_call (PySem.W.kdl_keys (knd := mixKind X.prog X.w) (d := d) (kvs := vs) (ep := ep)) (I1.ok.hd hc) ⟨⟨_, Heap.get?_push_size _ rfl, rfl, rfl⟩, hat.push _⟩ (by rw [← lk]; exact hz) fun h' tk acc c' hk hD hacc => ?_
  have ev : Vals (vs.map fun q => kV q.1) acc.toList := keys_at (by rw [Array.length_toList]; exact hacc.1) fun j v e => hacc.2 j v (by rw [← Array.getElem?_toList]; exact e)
  refine ⟨.ref _, upd H1 _ (.lst (kvs.map fun kv => kV kv.1)), I2.laid (t' := tk) hk (Nat.le_refl _) (show ObjOk X.prog X.w _ _ _ (.lst (kvs.map fun kv => kV kv.1)) from ⟨by rw [List.length_map]; exact hz, acc.toList, c', by rw [ek]; exact ev, by rw [Array.toArray_toList]; exact hD⟩), rfl, q _ (I2.hok.fresh (Nat.le_refl _))⟩
end
/-! ### list(reversed(list)) -/
section
variable {prog : Program} {w : World} {A : Around} {E : Value → Shared → Prop} {s : Shared}
theorem rev_extend {R : Result → Shared → Prop} {it l S : Addr} {xs : Array Value} (hh : A.handled = none) (gi : s.heap.IsRevIter it l ((xs.size : Int) - 1)) (gl : s.heap.IsList l xs) (hne : l ≠ it) (hn : xs.size ≤ sizeLine) (n1 : S ≠ it) (n2 : S ≠ l) (res : Value) (c₀ : Nat) (gS : s.heap.get? S = some { cls := .type "list", data := .seq #[] c₀ })
    (hR : ∀ h' tk acc' c', (∀ b o, b ≠ S → b ≠ it → s.heap.get? b = some o → h'.get? b = some o) → h'.get? S = some { cls := .type "list", dict := none, data := .seq acc' c', slots := #[] } → ItemsOf (fun i v => xs[xs.size - 1 - i]? = some v) acc' xs.size → R (.ok (.ret res)) { s with heap := h', toks := tk }) :
    wpAny (model prog w) A.in1 (Builtin.List.listExtendWith (.ref S) (.ref it) res)
      (fun fin s' => match fin with | .done f => R (.ok f) s' | .again c' => c'.quiet = true ∧ codeAny (model prog w) A c' R s') (fun e s' => R (.error e) s') s := by
  have W := (Walks.listRev (prog := prog) (w := w) (A := A.in1) hh it l hne xs).toS
  have hSf : S ∉ [it, l] := by simp only [List.mem_cons, List.not_mem_nil, or_false, not_or]; exact ⟨n1, n2⟩
  have hT : s.TypeIs (.ref it) "list_reverseiterator" := Heap.IsRevIter.typeIs gi
  unfold Builtin.List.listExtendWith
  refine wpAny_bind (wpAny_typeOf hT ?_)
  have k1 : Builtin.List.listSameRef (.ref S) (.ref it) = false := by simp [Builtin.List.listSameRef, n1]
  rw [if_neg (by rw [k1]; decide)]
  refine wpAny_bind (wpAny_pyIter_revIter gi ?_)
  refine wpAny_bind (wpAny_holding ?_)
  unfold Builtin.List.listLengthHint
  refine wpAny_bind (wpAny_specialOf hT RT.nolen_lri ?_)
  show wpAny _ A.in1 ((specialOf (Value.ref it) (Str.ofString "__length_hint__")) >>= _) _ _ _
  refine wpAny_bind (wpAny_specialOf hT RT.hint_lri ?_)
  generalize hid : ("list_reverseiterator.__length_hint__" : String) = id1
  wp_delta
  rw [show splitId id1 = some ("list_reverseiterator", "__length_hint__") from by subst hid; decide +kernel]
  subst hid
  refine wpAny_bind (wpAny_isInstance (b := true) hT (by rw [isSubtype_type]; kernel_rfl) ?_)
  refine wpAny_pure ?_
  rw [if_neg (by decide)]
  have z0 : ((xs.size : Nat) : Int) - 1 - ((0 : Nat) : Int) = (xs.size : Int) - 1 := by omega
  refine wpAny_pure ⟨plainId_quiet PySem.F.plain_extend_loop _, codeAny_extend_loopS W hn _ hSf _ xs.size 0 _ _ _ rfl (Nat.zero_le _) ⟨Nat.zero_le _, by rw [z0]; exact gi, gl⟩ gS (ItemsOf.nil _) fun s' acc' c' hm gS' hacc => ?_⟩
  rw [Moved.eq_with hm]
  refine hR s'.heap s'.toks acc' c' (fun b o b1 b2 e => hm.heap b o (fun hmem => ?_) e) gS' hacc
  rcases List.mem_cons.mp hmem with e' | hmem
  · exact b1 e'
  · exact b2 (List.mem_singleton.mp hmem)
theorem rev_call {it l : Addr} {xs : Array Value} {Q : Value → Shared → Prop} (hh : A.handled = none) (gi : s.heap.IsRevIter it l ((xs.size : Int) - 1)) (gl : s.heap.IsList l xs) (hne : l ≠ it) (hn : xs.size ≤ sizeLine)
    (hQ : ∀ h' tk acc' c', (∀ b o, b ≠ it → s.heap.get? b = some o → h'.get? b = some o) → h'.get? s.heap.objs.size = some { cls := .type "list", dict := none, data := .seq acc' c', slots := #[] } → ItemsOf (fun i v => xs[xs.size - 1 - i]? = some v) acc' xs.size → Q (.ref s.heap.objs.size) { s with heap := h', toks := tk }) :
    wpAny (model prog w) A (call (.type "list") [.ref it]) Q E s := by
  refine callType_codes (Q₁ := fun obj s₁ => obj = .ref s.heap.objs.size ∧ s₁ = { s with heap := s.heap.push { cls := .type "list", data := .seq #[] } }) PySem.F.called_list (PySem.F.typeCall_list_1 _) PySem.F.entry_list_init
    ((code_list_new _ ⟨rfl, rfl⟩)) fun obj s₁ hb => ?_
  obtain ⟨rfl, rfl⟩ := hb
  have gS : (s.heap.push { cls := .type "list", data := .seq #[] }).get? s.heap.objs.size = some { cls := .type "list", data := .seq #[] } := Heap.get?_push_size _ rfl
  have gi1 : (s.heap.push { cls := .type "list", data := .seq #[] }).IsRevIter it l ((xs.size : Int) - 1) := gi.at fun o e => Heap.get?_push_of_some _ e
  have n1 : s.heap.objs.size ≠ it := by
    obtain ⟨o, ho, _⟩ := id gi
    exact Nat.ne_of_gt (Heap.lt_size ho)
  have n2 : s.heap.objs.size ≠ l := by
    obtain ⟨o, ho, _⟩ := id gl
    exact Nat.ne_of_gt (Heap.lt_size ho)
  refine ⟨⟨_, gS, rfl⟩, PySem.F.args_list_init_2 _ _, ?_⟩
  show wpAny _ _ (do let old ← Builtin.List.listItems (.ref s.heap.objs.size); Builtin.List.listUpdate (.ref s.heap.objs.size) (fun _ => #[]); letGo old.toList.reverse; Builtin.List.listExtendWith (.ref s.heap.objs.size) (.ref it) .none) _ _ _
  refine wpAny_bind ?_
  unfold Builtin.List.listItems
  refine wpAny_bind (wpAny_seqItems gS rfl (wpAny_pure ?_))
  show wpAny _ _ ((updateSeq s.heap.objs.size (fun _ => #[])) >>= fun _ => letGo (#[] : Array Value).toList.reverse >>= fun _ => Builtin.List.listExtendWith (.ref s.heap.objs.size) (.ref it) .none) _ _ _
  refine wpAny_bind (wpAny_updateSeq gS rfl ?_)
  have gS₂ := Heap.get?_update_self (Obj.mapSeq (fun _ => (#[] : Array Value))) gS rfl
  have off : ∀ b o, b ≠ s.heap.objs.size → (s.heap.push { cls := .type "list", data := .seq #[] }).get? b = some o → ((s.heap.push { cls := .type "list", data := .seq #[] }).update s.heap.objs.size (Obj.mapSeq (fun _ => (#[] : Array Value)))).get? b = some o :=
    fun b o hb e => ((Heap.get?_update_other _ _ (Ne.symm hb))).trans e
  refine wpAny_bind (wpAny_letGo ?_)
  obtain ⟨ol, hol, cl, nl, dl⟩ := id gl
  refine rev_extend (A := A.in1) (s := { s with heap := (s.heap.push { cls := .type "list", data := .seq #[] }).update s.heap.objs.size (Obj.mapSeq (fun _ => (#[] : Array Value))) }) hh (gi1.at fun o e => off it o n1.symm e) ⟨ol, off l ol n2.symm (Heap.get?_push_of_some _ hol), cl, nl, dl⟩ hne hn n1 n2 .none _ gS₂ fun h' tk acc' c' hk hS' hacc => ?_
  exact ⟨rfl, hQ h' tk acc' c' (fun b o b1 e => hk b o (Nat.ne_of_lt (Heap.lt_size e)) b1 (off b o (Nat.ne_of_lt (Heap.lt_size e)) (Heap.get?_push_of_some _ e))) hS' hacc⟩
end
section
variable {X : Cx}
theorem pe_lrevA {e : Expr} {te : TE} {p p2 pos pos2 : Pos} (hc : X.calm = true) (hg : Gl X "list") (hm : X.mg "list" = none) (hg2 : Gl X "reversed") (hm2 : X.mg "reversed" = none) (he : PE X e te)
    (hs : starEach [e] X.env = (false, eval e X.env) :: starEach [] X.env)
    (hs2 : starEach [.Call (.Name "reversed" p2) [e] [] pos2] X.env = (false, eval (.Call (.Name "reversed" p2) [e] [] pos2) X.env) :: starEach [] X.env := by rfl) :
    PE X (.Call (.Name "list" p) [.Call (.Name "reversed" p2) [e] [] pos2] [] pos) (fun σ H Q => te σ H fun v H1 => ∃ (a : Addr) (xs : List V), v = .ref a ∧ SqL X.K H1 a xs ∧ ∀ q, H1 q = none → Q (.ref q) (upd H1 q (.lst xs.reverse))) := by
  refine ⟨fun pins s σ H Q I h => ?_⟩
  refine Call_ (ld_blt I hg hm PyProof.Rows.boot_list (PyProof.Rows.callWith_type1 (args_cons (Call_ (ld_blt I hg2 hm2 PyProof.Rows.boot_reversed (PyProof.Rows.callWith_type1 (args_cons (thn (he.run pins s σ H _ I h) fun u s1 ⟨v, H1, I1, r1, q1⟩ => args_nil ?_) hs) hs rfl))) hs2) hs2 rfl))
  obtain ⟨a, xs, ev, hq, q⟩ := q1
  subst ev
  obtain rfl : u = Value.ref a := r1
  obtain ⟨its, rv, pl, hz⟩ := I1.list hq
  refine call_reversed_list pl.isList (args_nil ?_)
  have I2 : Inv X pins σ H1 { s1 with heap := s1.heap.push (revObj a ((its.toArray.size : Int) - 1)) } := I1.kept (t' := s1.toks) (fun b o e => Heap.get?_push_of_some _ e)
  have gl := pl.isList
  obtain ⟨ol, hol, _⟩ := id gl
  have hne : a ≠ s1.heap.objs.size := Nat.ne_of_lt (Heap.lt_size hol)
  have hn : its.toArray.size ≤ sizeLine := by rw [List.size_toArray, ← rv.length]; exact hz
  have sz : (s1.heap.push (revObj a ((its.toArray.size : Int) - 1))).objs.size = s1.heap.objs.size + 1 := Heap.size_push _ _
  refine rev_call (s := { s1 with heap := s1.heap.push (revObj a ((its.toArray.size : Int) - 1)) }) (I1.ok.hd hc) ⟨_, Heap.get?_push_size _ rfl, rfl, rfl⟩ (gl.push _) hne hn fun h' tk acc c' hk hD hi => ?_
  have fr : H1 (s1.heap.push (revObj a ((its.toArray.size : Int) - 1))).objs.size = none := I1.hok.fresh (by rw [sz]; exact Nat.le_succ _)
  exact ⟨.ref _, upd H1 _ (.lst xs.reverse), I1.laid (t' := tk) (fun b o e => hk b o (Nat.ne_of_lt (Heap.lt_size e)) (Heap.get?_push_of_some _ e)) (by rw [sz]; exact Nat.le_succ _) (show ObjOk X.prog X.w _ _ _ (.lst xs.reverse) from ⟨by rw [List.length_reverse]; exact hz, acc.toList, c', RT.vals_rev rv hi, by rw [Array.toArray_toList]; exact hD⟩), rfl, q _ fr⟩
end
section
variable {S : SC} {G : GK} {T : PTab} {fns : Nat → Option FI} {n : Nat} {X : Cx} {W : WX}
theorem c_lvw {a : EX} (k : Bool) (ha : HE G T fns n a) : HE G T fns n (.lvw a k) := by
  intro S X W x0 ok h
  have key : ∃ x p o nm apos cpos pos, x0 = .Call (.Name x p) [.Call (.Attribute o nm apos) [] [] cpos] [] pos ∧ S.cal = true ∧ isGl S x = true ∧ x = "list" ∧ x ∈ S.bt ∧ nm = (if k = true then "keys" else "values") ∧ methOk o nm apos cpos 0 = true ∧ chkE a S o = true := by
    unfold chkE at h
    split at h <;> first | (cases h; done) | skip
    all_goals first | (rename_i heq; cases heq; done) | skip
    rename_i heq
    cases heq
    obtain ⟨h, h6⟩ := an2 h
    obtain ⟨h, h5⟩ := an2 h
    obtain ⟨h, h4⟩ := an2 h
    obtain ⟨h, h3⟩ := an2 h
    obtain ⟨h, h2⟩ := an2 h
    obtain ⟨h0, h1⟩ := an2 h
    exact ⟨_, _, _, _, _, _, _, rfl, h0, h1, of_decide_eq_true h2, of_decide_eq_true h3, of_decide_eq_true h4, h5, h6⟩
  obtain ⟨x, p, o, nm, apos, cpos, pos, rfl, h0, h1, rfl, h3, h4, h5, h6⟩ := key
  obtain ⟨g1, _⟩ := isGl_of ok h1
  have pa := (ha S X W o ok h6).1
  cases k with
  | true =>
    obtain rfl : nm = "keys" := h4
    refine tst_of (PE.weak (pe_lkey (ok.calm h0) pa g1 (ok.bt _ h3) (base_ok h5) (an2 h5).2) ?_) rfl
    rintro σ H Q ⟨s, h, Qa, Xa, sr, hr, w, ql, xl⟩
    refine ⟨s, h, _, Xa, sr, hr, w, fun d h1 v1 H1 x1 hr1 rd w1 => ?_, xl⟩
    obtain ⟨q, kvs, rfl, e, w1⟩ := w1
    cases rd
    obtain ⟨qq, f1, f2⟩ := hr1 q _ e
    exact ⟨q, qq, rfl, f1, new_ok hr1 w1 (ql.mono x1) fun p np => ⟨_, upd_same, f2.keys.mono (HX.new np)⟩⟩
  | false =>
    obtain rfl : nm = "values" := h4
    refine tst_of (PE.weak (pe_lval (ok.calm h0) pa g1 (ok.bt _ h3) (base_ok h5) (an2 h5).2) ?_) rfl
    rintro σ H Q ⟨s, h, Qa, Xa, sr, hr, w, ql, xl⟩
    refine ⟨s, h, _, Xa, sr, hr, w, fun d h1 v1 H1 x1 hr1 rd w1 => ?_, xl⟩
    obtain ⟨q, kvs, rfl, e, w1⟩ := w1
    cases rd
    obtain ⟨qq, f1, f2⟩ := hr1 q _ e
    exact ⟨q, qq, rfl, f1, new_ok hr1 w1 (ql.mono x1) fun p np => ⟨_, upd_same, f2.vals.mono (HX.new np)⟩⟩
theorem c_lrev {a : EX} (ha : HE G T fns n a) : HE G T fns n (.lrev a) := by
  intro S X W x0 ok h
  have key : ∃ x p y p2 v p3 p4, x0 = .Call (.Name x p) [.Call (.Name y p2) [v] [] p3] [] p4 ∧ S.cal = true ∧ isGl S x = true ∧ x = "list" ∧ x ∈ S.bt ∧ isGl S y = true ∧ y = "reversed" ∧ y ∈ S.bt ∧ chkE a S v = true := by
    unfold chkE at h
    split at h <;> first | (cases h; done) | skip
    all_goals first | (rename_i heq; cases heq; done) | skip
    rename_i heq
    cases heq
    obtain ⟨h, h8⟩ := an2 h
    obtain ⟨h, h6⟩ := an2 h
    obtain ⟨h, h5⟩ := an2 h
    obtain ⟨h, h4⟩ := an2 h
    obtain ⟨h, h3⟩ := an2 h
    obtain ⟨h, h2⟩ := an2 h
    obtain ⟨h0, h1⟩ := an2 h
    exact ⟨_, _, _, _, _, _, _, rfl, h0, h1, of_decide_eq_true h2, of_decide_eq_true h3, h4, of_decide_eq_true h5, of_decide_eq_true h6, h8⟩
  obtain ⟨x, p, y, p2, v, p3, p4, rfl, h0, h1, rfl, h3, h4, rfl, h6, h8⟩ := key
  obtain ⟨g1, _⟩ := isGl_of ok h1
  obtain ⟨g2, _⟩ := isGl_of ok h4
  refine tst_of (PE.weak (pe_lrevA (ok.calm h0) g1 (ok.bt _ h3) g2 (ok.bt _ h6) (ha S X W v ok h8).1 (star_cons (chkE_notStar h8) [] X.env)) ?_) rfl
  rintro σ H Q ⟨s, h, Qa, Xa, sr, hr, w, ql, xl⟩
  refine ⟨s, h, _, Xa, sr, hr, w, fun d h1 v1 H1 x1 hr1 rd w1 => ?_, xl⟩
  obtain ⟨q, xs, rfl, e, w1⟩ := w1
  cases rd
  obtain ⟨vs, s1, s2⟩ := seq_of hr1 e
  rw [ok.K] at s1
  exact ⟨q, vs, rfl, s1, new_ok hr1 w1 (ql.mono x1) fun p np => ⟨_, upd_same, s2.reverse.mono (HX.new np)⟩⟩
theorem drels_pick {K : PySem.W.Frag} {H : Hp} {ds : List DV} {vs : List V} (r : DRels K H ds vs) : ∀ is : List Nat, DRels K H (is.filterMap (ds[·]?)) (is.filterMap (vs[·]?))
  | [] => rfl
  | i :: is => by
    have ih := drels_pick r is
    rw [List.filterMap_cons, List.filterMap_cons]
    cases e : vs[i]? with
    | none =>
      have : ds[i]? = none := by
        rw [List.getElem?_eq_none_iff] at e ⊢
        rw [← r.length]; exact e
      rw [this]; exact ih
    | some v =>
      obtain ⟨d, e1, e2⟩ := r.get' e
      rw [e1]
      exact ⟨v, _, rfl, e2, ih⟩
theorem vals_pick {xs : List V} {its : List Value} (r : Vals xs its) : ∀ is : List Nat, Vals (is.filterMap (xs[·]?)) (is.filterMap (its[·]?))
  | [] => .nil
  | i :: is => by
    have ih := vals_pick r is
    rw [List.filterMap_cons, List.filterMap_cons]
    cases e : xs[i]? with
    | none =>
      have : its[i]? = none := by
        rw [List.getElem?_eq_none_iff] at e ⊢
        rw [← r.length]; exact e
      rw [this]; exact ih
    | some v =>
      obtain ⟨u, e1, e2⟩ := r.get e
      rw [e1]
      exact .cons e2 ih
/-- a[lo::n], a list -/
theorem pe_step {X : Cx} {e : Expr} {te : TE} {lo n a1 a2 : Nat} {p1 p2 p3 pos : Pos} (hn : 0 < n) (he : PE X e te) (hl : PO X (some (.Constant (.int (lo : Int)) a1 p1)) (tPart (tC (.int (lo : Int))))) (hs : PO X (some (.Constant (.int (n : Int)) a2 p2)) (tPart (tC (.int (n : Int))))) :
    PE X (.Subscript e (.Slice (some (.Constant (.int (lo : Int)) a1 p1)) none (some (.Constant (.int (n : Int)) a2 p2)) p3) pos) (fun σ H Q => te σ H fun x H1 => ∃ a xs, x = .ref a ∧ SqL X.K H1 a xs ∧ ∀ p, H1 p = none → Q (.ref p) (upd H1 p (.lst (stepL lo n xs)))) := by
  refine ⟨fun pins s σ H Q I h => ?_⟩
  refine Subscript_ (thn (he.run pins s σ H _ I h) fun v s1 ⟨x, H1, I1, r1, q1⟩ => ?_)
  obtain ⟨a, xs, ex, hx, q⟩ := q1
  subst ex
  cases r1
  refine wpAny_Slice (thn (hl.run pins s1 σ H1 (fun o H2 => o = some (lo : Int) ∧ H2 = H1) I1 ⟨(lo : Int), rfl, rfl, rfl⟩) fun vl s2 ⟨l, H2, I2, pl, el, e2⟩ => ?_)
  subst el e2
  refine thn (po_none.run pins s2 σ H2 (fun o H3 => o = none ∧ H3 = H2) I2 ⟨rfl, rfl⟩) fun vu s3 ⟨u, H3, I3, pu, eu, e3⟩ => ?_
  subst eu e3
  refine thn (hs.run pins s3 σ H3 (fun o H4 => o = some (n : Int) ∧ H4 = H3) I3 ⟨(n : Int), rfl, rfl, rfl⟩) fun vs s4 ⟨o, H4, I4, ps, eo, e4⟩ => ?_
  subst eo e4
  have I5 : Inv X pins σ H4 { s4 with heap := s4.heap.push { cls := .type "slice", data := .fields #[vl, vu, vs] } } := I4.kept (t' := s4.toks) fun b ob z => Heap.get?_push_of_some _ z
  obtain ⟨its, r, ht, hz⟩ := I5.list hx
  have hlen := r.length
  show wpAny (model X.prog X.w) X.A (subscriptTail e (.Slice (some (.Constant (.int (lo : Int)) a1 p1)) none (some (.Constant (.int (n : Int)) a2 p2)) p3) (.ref a) (.ref s4.heap.objs.size)) (EP X pins σ Q) X.xe { s4 with heap := s4.heap.push { cls := .type "slice", data := .fields #[vl, vu, vs] } }
  refine tail_any (ops := [.ref a, .ref s4.heap.objs.size]) ht.isList.typeIs (PySem.slot_list_getitem.lookup) ?_ (by with_unfolding_all rfl)
  refine wpAny_getItem_list_slice ht.isList (Heap.IsSliceOf.new _ vl vu vs) pl pu ps (fun z => by injection z with z; omega) ?_ (by rw [List.size_toArray]; omega)
  have ev : (slicePick its.toArray (some (lo : Int)) none (some (n : Int))).toList = stepL lo n its := by
    unfold slicePick stepL
    simp
  have el : (stepL lo n xs).length ≤ xs.length := by
    have h1 := slicePick_size_le its.toArray (some (lo : Int)) none (some (n : Int))
    have h2 : (stepL lo n its).length = (slicePick its.toArray (some (lo : Int)) none (some (n : Int))).size := by rw [← ev, Array.length_toList]
    have h3 : (stepL lo n xs).length = (stepL lo n its).length := by
      unfold stepL
      rw [hlen]
      exact (vals_pick r _).length
    simp at h1
    omega
  refine ⟨.ref _, _, I5.laid (t' := s4.toks) (o := .lst (stepL lo n xs)) (fun b ob z => Heap.get?_push_of_some _ z) (Nat.le_refl _) ?_, rfl, q _ (I5.hok.fresh (Nat.le_refl _))⟩
  refine ⟨by omega, (slicePick its.toArray (some (lo : Int)) none (some (n : Int))).toList, 0, ?_, by rw [Array.toArray_toList]; exact Heap.get?_push_size _ rfl⟩
  rw [ev]
  unfold stepL
  rw [hlen]
  exact vals_pick r _
theorem c_sls {a : EX} (lo k : Nat) (ha : HE G T fns n a) : HE G T fns n (.sls a lo k) := by
  intro S X W x0 ok h
  have key : ∃ x l a1 p1 c a2 p2 p3 pos, x0 = .Subscript x (.Slice (some (.Constant (.int l) a1 p1)) none (some (.Constant (.int c) a2 p2)) p3) pos ∧ l = (lo : Int) ∧ c = (k : Int) ∧ 0 < k ∧ chkE a S x = true := by
    unfold chkE at h
    split at h <;> first | (cases h; done) | skip
    all_goals first | (rename_i heq; cases heq; done) | skip
    rename_i heq
    cases heq
    obtain ⟨h, h4⟩ := an2 h
    obtain ⟨h, h3⟩ := an2 h
    obtain ⟨h1, h2⟩ := an2 h
    exact ⟨_, _, _, _, _, _, _, _, _, rfl, of_decide_eq_true h1, of_decide_eq_true h2, of_decide_eq_true h3, h4⟩
  obtain ⟨x, l, a1, p1, c, a2, p2, p3, pos, rfl, rfl, rfl, h3, h4⟩ := key
  refine tst_of (PE.weak (pe_step h3 (ha S X W x ok h4).1 (po_some pe_int) (po_some pe_int)) ?_) rfl
  rintro σ H Q ⟨s, h, Qa, Xa, sr, hr, w, ql, xl⟩
  refine ⟨s, h, _, Xa, sr, hr, w, fun d h1 v1 H1 x1 hr1 rd w1 => ?_, xl⟩
  obtain ⟨q, xs, rfl, e, w1⟩ := w1
  cases rd
  obtain ⟨vs, s1, s2⟩ := seq_of hr1 e
  rw [ok.K] at s1
  refine ⟨q, vs, rfl, s1, new_ok hr1 w1 (ql.mono x1) fun p np => ⟨_, upd_same, ?_⟩⟩
  unfold stepL
  rw [s2.length]
  exact (drels_pick s2 _).mono (HX.new np)
theorem pt_ifE {X : Cx} {c a b : Expr} {tA ta tb : TT} {pos : Pos} (hc : PT X c tA) (ha : PT X a ta) (hb : PT X b tb) : PT X (.IfExp c a b pos) (fun σ H Q => tA σ H fun k H1 => if k = true then ta σ H1 Q else tb σ H1 Q) := by
  refine ⟨fun pins s σ H Q I h => PyProof.Rows.isTrue_IfExp (thn (hc.run pins s σ H _ I h) fun d s1 ⟨H1, I1, q1⟩ => ?_)⟩
  cases d with
  | true => exact ha.run pins s1 σ H1 Q I1 q1
  | false => exact hb.run pins s1 σ H1 Q I1 q1
theorem c_ife {c a b : EX} (hc : HE G T fns n c) (ha : HE G T fns n a) (hb : HE G T fns n b) : HE G T fns n (.ife c a b) := by
  intro S X W x ok h
  cases x <;> first | exact Bool.noConfusion (show false = true from h) | skip
  rename_i u v z pos
  obtain ⟨h, h3⟩ := an2 (show (_ && _) = true from h)
  obtain ⟨h1, h2⟩ := an2 h
  have pe : PE X (.IfExp u v z pos) (EE G T fns n W (.ife c a b)) := by
    refine PE.weak (pe_ifExp (hc S X W _ ok h1).2.1 (ha S X W _ ok h2).1 (hb S X W _ ok h3).1) ?_
    rintro σ H Q ⟨s, h, Qa, Xa, sr, hr, w, ql, xl⟩
    refine ⟨s, h, fun k h1 => if k = true then wE T (wCall T fns n) s h1 Qa Xa a else wE T (wCall T fns n) s h1 Qa Xa b, Xa, sr, hr, w, fun k h' H' x hr' q => ?_, xl⟩
    cases k
    · exact ⟨s, h', Qa, Xa, sr.mono x, hr', q, ql.mono x, xl.mono x⟩
    · exact ⟨s, h', Qa, Xa, sr.mono x, hr', q, ql.mono x, xl.mono x⟩
  exact ⟨pe, PT.weak (pt_ifE (hc S X W _ ok h1).2.1 (ha S X W _ ok h2).2.1 (hb S X W _ ok h3).2.1) (by
    rintro σ H Q ⟨s, h, Qa, Xa, sr, hr, w, ql, xl⟩
    refine ⟨s, h, fun k h1 => if k = true then wTst T (wCall T fns n) s h1 Qa Xa a else wTst T (wCall T fns n) s h1 Qa Xa b, Xa, sr, hr, w, fun k h' H' x hr' q => ?_, xl⟩
    cases k
    · exact ⟨s, h', Qa, Xa, sr.mono x, hr', q, fun c h'' H'' y => ql c h'' H'' (x.trans y), xl.mono x⟩
    · exact ⟨s, h', Qa, Xa, sr.mono x, hr', q, fun c h'' H'' y => ql c h'' H'' (x.trans y), xl.mono x⟩), by rintro op l p e; cases e⟩
end
end PL

set_option maxHeartbeats 4000000
/-! PL, part ny: an own exception made and not raised. -/
namespace PL.NX
open PySem PySem.Spec PyProof.Rows L2 PL
theorem stR_of {a C dx : Addr} {N : Hp → Prop} : ∀ (r gs : List (Str × V)) (H : Hp), H dx = some (exd dx gs) → (∀ H' : Hp, (∀ b, b ≠ dx → H' b = H b) → H' dx = some (exd dx (r.reverse ++ gs)) → N H') → stR a C r (some (dx, gs)) N H
  | [], gs, H, e, q => q H (fun _ _ => rfl) (by simpa using e)
  | (f, y) :: r, gs, H, e, q => stR_of r ((f, y) :: gs) _ upd_same fun H' hb e' => q H' (fun b hne => (hb b hne).trans (upd_ne hne)) (by simpa using e')
theorem zip_lookup : ∀ {fs : List Str} {vs : List V} {i : Nat} {f : Str} {v : V}, fs.Nodup → fs[i]? = some f → vs[i]? = some v → (f, v) ∈ fs.zip vs
  | f0 :: fs, v0 :: vs, 0, f, v, _, e1, e2 => by
    cases e1; cases e2; simp
  | f0 :: fs, v0 :: vs, i + 1, f, v, nd, e1, e2 => by
    rw [List.zip_cons_cons]
    exact List.mem_cons_of_mem _ (zip_lookup (List.nodup_cons.mp nd).2 (by simpa using e1) (by simpa using e2))
theorem look_nodup : ∀ {l : List (Str × V)} {f : Str} {v : V}, (l.map (·.1)).Nodup → (f, v) ∈ l → l.lookup f = some v
  | (g, u) :: l, f, v, nd, h => by
    rw [List.map_cons] at nd
    obtain ⟨n1, n2⟩ := List.nodup_cons.mp nd
    rw [List.lookup_cons]
    rcases List.mem_cons.mp h with e | hm
    · cases e; simp
    · have hne : (f == g) = false := beq_eq_false_iff_ne.mpr (by
        rintro rfl
        exact n1 (List.mem_map.mpr ⟨(_, v), hm, rfl⟩))
      rw [hne]
      exact look_nodup n2 hm
theorem zip_keys : ∀ {fs : List Str} {vs : List V}, vs.length = fs.length → (fs.zip vs).map (·.1) = fs
  | [], [], _ => rfl
  | f :: fs, v :: vs, h => by
    rw [List.zip_cons_cons, List.map_cons, zip_keys (by simpa using h)]
  | [], _ :: _, h => by cases h
  | _ :: _, [], h => by cases h
/-- the heap behind a raise -/
theorem raise_heap {G : GK} {H H2 : Hp} {h : AH} {a dx : Addr} {c : Nat} {ds : List DV} {vs : List V} {gs : List (Str × V)} (hr : HRel G H h) (na : H a = none) (nd : H dx = none) (hne : dx ≠ a) (h2 : ∀ b, b ≠ dx → b ≠ a → H2 b = H b) (rd : DRels G.K H ds vs) (hl : ds.length = (G.xf c).length) (lc : c < G.nX) (hnd : (G.xf c).Nodup) (hg : gs = ((G.xf c).zip vs).reverse) :
    HX H (upd (del H2 a) dx (.xd gs)) ∧ HRel G (upd (del H2 a) dx (.xd gs)) h ∧ XRel G (upd (del H2 a) dx (.xd gs)) c ds dx := by
  have at_ : ∀ b, b ≠ dx → b ≠ a → upd (del H2 a) dx (.xd gs) b = H b := fun b h1 h3 => by rw [upd_ne h1, del_ne h3, h2 b h1 h3]
  have ne_of : ∀ {b u}, H b = some u → b ≠ dx ∧ b ≠ a := fun {b u} e => ⟨(by rintro rfl; rw [nd] at e; cases e), (by rintro rfl; rw [na] at e; cases e)⟩
  have hx : HX H (upd (del H2 a) dx (.xd gs)) := fun b xs e => by rw [at_ b (ne_of e).1 (ne_of e).2]; exact e
  refine ⟨hx, ⟨fun p o e => ?_, fun p e => by
    obtain ⟨c', d', z⟩ := hr.hot p e
    exact ⟨c', d', by rw [at_ p (ne_of z).1 (ne_of z).2]; exact z⟩⟩, gs, upd_same, lc, hl, ?_⟩
  · have q := hr p o e
    obtain ⟨u, hu, _⟩ := q.there
    exact q.stay hx (at_ p (ne_of hu).1 (ne_of hu).2) fun d y ed => by rw [at_ d (ne_of ed).1 (ne_of ed).2]; exact ed
  · intro i f d e1 e2
    rw [List.getElem?_map] at e2
    cases e3 : ds[i]? with
    | none => rw [e3] at e2; cases e2
    | some d' =>
      rw [e3] at e2
      cases e2
      obtain ⟨v, e4, r⟩ := rd.get e3
      refine ⟨v, ?_, r.mono hx⟩
      have hlen : vs.length = (G.xf c).length := by rw [rd.length, hl]
      rw [hg]
      refine look_nodup ?_ (List.mem_reverse.mpr (zip_lookup hnd e1 e4))
      rw [List.map_reverse, zip_keys hlen]
      exact List.pairwise_reverse.mpr (hnd.imp fun h => Ne.symm h)
theorem exc_new {h : AH} {H : Hp} {a dd : Addr} {c : Nat} {fs : List DV} (hr : HRel G H h) (na : H a = none) (xr : XRel G H c fs dd) : HRel G (upd H a (exH a (.ref (G.xA c)) (some dd))) (au h a (.exc c fs)) := by
  obtain ⟨q, e, lc, l, fr⟩ := xr
  have x := HX.new na (o := exH a (.ref (G.xA c)) (some dd))
  refine hr.new na ⟨dd, q, upd_same, ?_, lc, l, fr.mono x⟩
  rw [upd_ne (ne_of_none e na)]
  exact e
/-- what a raise would raise, as a value -/
theorem pe_exc {X : Cx} {e : Expr} {t : L2.St → Hp → XK → Prop} (he : L2N.PMk X e t) : PE X e (fun σ H Q => t σ H fun cls d H' => ∀ a, H' a = none → Q (.ref a) (upd H' a (exH a cls d))) := by
  refine ⟨fun pins s σ H Q I h => ?_⟩
  refine wpAny_mono (he pins s σ H _ I h) (fun u s1 hu => ?_) (fun _ _ x => x)
  obtain ⟨a, oe, vs, sI, H', cls, d, rfl, J, k, hne, ha, hz, hd, h1, na, os, ag, r, q⟩ := hu
  have new : ObjOk X.prog X.w (upd H' a (exH a cls d)) s1.heap a (exH a cls d) := ⟨⟨oe, vs, ha, hz, hd⟩, ⟨oe, ha⟩, fun _ _ ⟨o, v, a1, a2, a3⟩ kk => ⟨o, v, kk o a1, a2, a3⟩⟩
  exact ⟨.ref a, _, J.call' (ch := []) os (Un.laidN k hne na) (J.hok.laidN k na new) ag (fun b hb => by cases hb), rfl, q a na⟩
theorem mkx_ok {G : GK} {X : Cx} {W : WX} {x : Str} {p pos : Pos} {e : Expr} {es : List Expr} {c : Nat} {fI : Addr} {fd : FuncData} {ps : List Str} {ta : ATA} (hK : G.K = X.K) (T : OexC X.K (G.xA c)) (iC : PySem.W.findIn X.K (.ref (G.xA c)) "__init__" = some (some (.ref fI))) (tI : PySem.W.typeIn X.K (.ref fI) = some (.type "function"))
    (F1 : FnOk X.prog X.w X.K X.mg X.base (L2N.CX X.prog X.w) 1 fI fd ps (spInit X.K (G.xA c) (G.xf c))) (hr : Room 2 X.A) (hb : Binds X.K fd ps []) (hg : Gl X x) (hm : X.mg x = some (.ref (G.xA c))) (hdb : (x == ("__debug__" : Str)) = false) (hno : ∀ f ∈ G.xf c, PySem.W.findIn X.K (.ref (G.xA c)) f = some none) (hnd : (G.xf c).Nodup) (lc : c < G.nX) (h0 : 0 < (G.xf c).length) (h1 : (G.xf c).length ≤ 100)
    (ha : PA X (e :: es) (LA G W ta)) (he : starEach (e :: es) X.env = (false, eval e X.env) :: starEach es X.env) (hpl : (backTo pos (starEach es X.env)).any (·.1) = false) :
    PE X (.Call (.Name x p) (e :: es) [] pos) (LE G W fun s h Q Y => ta s h (fun ds h1 => ds.length = (G.xf c).length ∧ newO (.exc c ds) h1 Q) Y) := by
  refine PE.weak (pe_exc (FP.pmk_oexN T iC tI F1 hr hb (fun _ _ _ _ _ _ _ hcx => ?_) hg hm ha hdb he hpl)) ?_
  · obtain ⟨_, _, _, _, _, _, _, _, _, _, _, _, z⟩ := hcx
    exact z.elim
  · rintro σ H Q ⟨s, h, Qa, Xa, sr, hr', w, ql, xl⟩
    refine ⟨s, h, _, Xa, sr, hr', w, fun ds h2 vs H1 x1 hr1 rd q => ?_, xl⟩
    obtain ⟨hl, q⟩ := q
    have hlv : vs.length = (G.xf c).length := by rw [rd.length, hl]
    refine ⟨by omega, fun a na => ?_⟩
    refine ⟨a, vs, by rw [List.append_nil], hlv, h1, upd_same, T, hno, ?_⟩
    cases hfs : G.xf c with
    | nil => rw [hfs] at h0; cases h0
    | cons f fs =>
      cases vs with
      | nil => rw [hfs] at hlv; cases hlv
      | cons y ys =>
        rw [List.zip_cons_cons]
        intro dx n1 n2
        have nd : H1 dx = none := by rw [upd_ne n2] at n1; exact n1
        refine stR_of _ _ _ (by rw [upd_ne n2]; exact upd_same) fun H' hb' e' => ?_
        refine ⟨rfl, dx, _, ?_, e', nd, fun a2 na2 => ?_⟩
        · rw [hb' a (Ne.symm n2)]; exact upd_same
        · have hgs : (fs.zip ys).reverse ++ [(f, y)] = ((G.xf c).zip (y :: ys)).reverse := by rw [hfs]; simp
          obtain ⟨g1, g2, g3⟩ := raise_heap (H2 := H') (c := c) hr1 na nd n2 (fun b b1 b2 => by rw [hb' b b1, upd_ne b2, upd_ne b1, upd_ne b2]) rd hl lc hnd hgs
          have g4 := exc_new g2 na2 g3
          exact ql (.ref a2) _ (.ref a2) _ (x1.trans (g1.trans (HX.new na2))) g4 rfl (q a2 (g2.free na2))
end PL.NX
namespace PL
open PySem PySem.Spec PyProof.Rows L2
variable {G : GK} {T : PTab} {fns : Nat → Option FI} {n : Nat}
theorem pathV_of {G : GK} {H : Hp} {h : AH} (hr : HRel G H h) : ∀ {l : List Nat} {d : DV} {v : V} {i : Int}, DRel G.K H d v → pathD h l d = some (.int i) → KF.PathV G.K H l v (.int i)
  | [], d, v, i, r, e => by
    cases e
    cases r
    rfl
  | c :: l, d, v, i, r, e => by
    cases d <;> first | (cases e; done) | skip
    · rename_i p
      cases r
      have e : ((rdL h p).bind fun xs => xs[c]?).bind (pathD h l) = some (.int i) := e
      cases e1 : rdL h p with
      | none => rw [e1] at e; cases e
      | some xs =>
        rw [e1] at e
        have e : (xs[c]?).bind (pathD h l) = some (.int i) := e
        obtain ⟨vs, s1, s2⟩ := seq_of hr e1
        cases e2 : xs[c]? with
        | none => rw [e2] at e; cases e
        | some m =>
          rw [e2] at e
          obtain ⟨u, h1, h2⟩ := s2.get e2
          exact ⟨p, vs, u, rfl, .inr s1, h1, pathV_of hr h2 e⟩
    · rename_i ds
      obtain ⟨a, vs, rfl, s1, s2⟩ := r.tupT
      have e : (ds[c]?).bind (pathD h l) = some (.int i) := e
      cases e2 : ds[c]? with
      | none => rw [e2] at e; cases e
      | some m =>
        rw [e2] at e
        obtain ⟨u, h1, h2⟩ := s2.get e2
        exact ⟨a, vs, u, rfl, .inl s1, h1, pathV_of hr h2 e⟩
theorem c_srk (l : List Nat) {a : EX} (ha : HE G T fns n a) : HE G T fns n (.srk l a) := by
  intro S X W x0 ok h
  have key : ∃ x p v k fx q1 q2 q3, x0 = .Call (.Name x p) [v] [⟨some k, .Name fx q1, q2⟩] q3 ∧ isGl S x = true ∧ x = "sorted" ∧ x ∈ S.bt ∧ k = "key" ∧ isGl S fx = true ∧ S.kf.lookup fx = some l ∧ chkE a S v = true := by
    unfold chkE at h
    split at h <;> first | (cases h; done) | skip
    all_goals first | (rename_i heq; cases heq; done) | skip
    rename_i heq
    cases heq
    obtain ⟨h, h7⟩ := an2 h
    obtain ⟨h, h6⟩ := an2 h
    obtain ⟨h, h5⟩ := an2 h
    obtain ⟨h, h4⟩ := an2 h
    obtain ⟨h, h3⟩ := an2 h
    obtain ⟨h1, h2⟩ := an2 h
    exact ⟨_, _, _, _, _, _, _, _, rfl, h1, of_decide_eq_true h2, of_decide_eq_true h3, of_decide_eq_true h4, h5, of_decide_eq_true h6, h7⟩
  obtain ⟨x, p, v, k, fx, q1, q2, q3, rfl, h1, rfl, h3, rfl, h5, h6, h7⟩ := key
  obtain ⟨g1, _⟩ := isGl_of ok h1
  obtain ⟨g2, g3⟩ := isGl_of ok h5
  obtain ⟨fa, m1, F, hr2⟩ := ok.kf fx l h6
  refine tst_of (PE.weak (pe_callBK (KF.cr_srk F hr2) g1 (ok.bt _ h3) rfl (PA.weak (pa_cons (ha S X W v ok h7).1 pa_nil (star_cons (chkE_notStar h7) [] X.env)) fun _ _ _ q => q) (pk_cons (pe_glob (v := .ref fa) g2 m1 rfl g3) pk_nil) (by decide) (by decide) (by rw [star_cons (chkE_notStar h7) [] X.env]; rfl) (by rw [star_cons (chkE_notStar h7) [] X.env]; rfl)) ?_) rfl
  rintro σ H Q ⟨s, h, Qa, Xa, sr, hr, w, ql, xl⟩
  refine ⟨s, h, _, Xa, sr, hr, w, fun d h1 v1 H1 x1 hr1 rd w1 => ?_, xl⟩
  obtain ⟨pp, qs, rfl, e, hk, w1⟩ := w1
  cases rd
  obtain ⟨vs, s1, s2⟩ := seq_of hr1 e
  have hlen : vs.length = qs.length := by rw [s2.length, List.length_map]
  have zk : ∀ z ∈ vs.zip qs, DRel G.K H1 z.2.1 z.1 ∧ pathD h1 l z.2.1 = some (.int z.2.2) := fun z hz => by
    obtain ⟨i, hi⟩ := List.getElem?_of_mem hz
    obtain ⟨k1, k2⟩ := List.getElem?_zip_eq_some.mp hi
    obtain ⟨d, k3, k4⟩ := s2.get' k1
    rw [List.getElem?_map, k2] at k3
    cases k3
    exact ⟨k4, hk _ (List.mem_of_getElem? k2)⟩
  have f1 : (vs.zip qs).map (·.1) = vs := List.map_fst_zip (by omega)
  have f2 : (vs.zip qs).map (·.2) = qs := List.map_snd_zip (by omega)
  refine ⟨pp, (vs.zip qs).map fun z => (z.1, z.2.2), rfl, rfl, ?_, fun q' hq => ?_, ?_⟩
  · have g1 : ((vs.zip qs).map fun z => (z.1, z.2.2)).map (·.1) = vs := by rw [List.map_map]; exact f1
    rw [g1, ← ok.K]
    exact s1
  · obtain ⟨z, hz, rfl⟩ := List.mem_map.mp hq
    obtain ⟨k1, k2⟩ := zk z hz
    have := pathV_of hr1 k1 k2
    rw [ok.K] at this
    exact this
  · have m1 : ((vs.zip qs).map fun z => (z.1, z.2.2)).mergeSort (fun x y => decide (x.2 ≤ y.2)) = ((vs.zip qs).mergeSort fun x y => decide (x.2.2 ≤ y.2.2)).map fun z => (z.1, z.2.2) := (List.map_mergeSort (r := fun (x y : V × DV × Int) => decide (x.2.2 ≤ y.2.2)) (s := fun (x y : V × Int) => decide (x.2 ≤ y.2)) (f := fun (z : V × DV × Int) => (z.1, z.2.2)) fun _ _ _ _ => rfl).symm
    have m2 : qs.mergeSort (fun x y => decide (x.2 ≤ y.2)) = ((vs.zip qs).mergeSort fun x y => decide (x.2.2 ≤ y.2.2)).map (·.2) := by
      conv => lhs; rw [← f2]
      exact (List.map_mergeSort (r := fun (x y : V × DV × Int) => decide (x.2.2 ≤ y.2.2)) (s := fun (x y : DV × Int) => decide (x.2 ≤ y.2)) (f := fun (z : V × DV × Int) => z.2) fun _ _ _ _ => rfl).symm
    rw [m1, List.map_map]
    rw [m2, List.map_map] at w1
    have dr := drels_map (K := G.K) (H := H1) (f := (fun (x : DV × Int) => x.1) ∘ fun (x : V × DV × Int) => x.2) (g := (fun (x : V × Int) => x.1) ∘ fun (z : V × DV × Int) => (z.1, z.2.2)) (l := (vs.zip qs).mergeSort fun x y => decide (x.2.2 ≤ y.2.2)) fun z hz => (zk z ((List.mergeSort_perm _ _).mem_iff.mp hz)).1
    exact new_ok hr1 w1 (ql.mono x1) fun p n => ⟨_, upd_same, dr.mono (HX.new n)⟩
theorem c_xmk (c : Nat) {es : EXs} (hs : HEs G T fns n es) : HE G T fns n (.xmk c es) := by
  intro S X W x0 ok h
  have key : ∃ x p y ys pos, x0 = .Call (.Name x p) (y :: ys) [] pos ∧ isGl S x = true ∧ S.ex.lookup x = some c ∧ chkEs es S (y :: ys) = true := by
    unfold chkE at h
    split at h <;> first | (cases h; done) | skip
    all_goals first | (rename_i heq; cases heq; done) | skip
    rename_i heq
    cases heq
    obtain ⟨h, h3⟩ := an2 h
    obtain ⟨h1, h2⟩ := an2 h
    exact ⟨_, _, _, _, _, rfl, h1, of_decide_eq_true h2, h3⟩
  obtain ⟨x, p, y, ys, pos, rfl, h1, h2, h3⟩ := key
  obtain ⟨g1, g2⟩ := isGl_of ok h1
  obtain ⟨hm, hxn, fI, fd, ps, E⟩ := ok.ex x c h2
  obtain ⟨e, r, rfl, c1, c2⟩ := cons_of h3
  refine tst_of (PE.weak (NX.mkx_ok ok.K E.T E.iC E.tI E.F E.hr E.hb g1 hm g2 E.no E.nd E.lt E.l0 E.l1 (hs.a S X W (y :: ys) ok h3) (star_cons (chkE_notStar c1) _ _) (star_any _ c2)) ?_) rfl
  rintro σ H Q ⟨s, h, Qa, Xa, sr, hr, w, ql, xl⟩
  refine ⟨s, h, Qa, Xa, sr, hr, ?_, ql, xl⟩
  have w' : wEs T (wCall T fns n) s h (fun ds h1 => ds.length = T.xn c ∧ newO (.exc c ds) h1 Qa) Xa (.cons e r) := w
  rw [hxn] at w'
  exact w'
end PL

set_option maxHeartbeats 8000000
/-! PL, part hs: sums while an exception is handled; repr. -/
namespace PL
open PySem PySem.Spec PyProof.Rows L2
section
variable {S : SC} {G : GK} {T : PTab} {fns : Nat → Option FI} {n : Nat} {X : Cx} {W : WX}
theorem blkH_of {sc : Scope} {o : Str} (h : blkHB sc o = true) : HoS.BlkH sc o := by
  unfold blkHB at h
  simp only [Bool.and_eq_true, decide_eq_true_eq] at h
  obtain ⟨⟨⟨⟨h1, h2⟩, h3⟩, h4⟩, h5⟩ := h
  have at_ : ∀ y ∈ sc.names, y.2 ≠ .free ∧ y.2 ≠ .cell ∧ sc.names.lookup y.1 = some y.2 := fun y hy => by
    have q := List.all_eq_true.mp h2 y hy
    simp only [Bool.and_eq_true, decide_eq_true_eq] at q
    obtain ⟨q1, q2⟩ := q
    refine ⟨fun e => ?_, fun e => ?_, q2⟩
    · rw [e] at q1; cases q1
    · rw [e] at q1; cases q1
  refine ⟨fun y hy => (at_ y hy).1, fun y hy => (at_ y hy).2.1, ?_, fun y hy e => by rw [(at_ y hy).2.2, e], h3, h4, beq_eq_false_iff_ne.mpr h5⟩
  split at h1
  · assumption
  · cases h1
theorem c_hsum {a : EX} (ha : HE G T fns n a) : HE G T fns n (.hsum a) := by
  intro S X W x0 ok h
  have key : ∃ x p y p2 o p3 p4 o' p5 itx sc p6 p7, x0 = .Call (.Name x p) [.ListComp (.Call (.Name y p2) [.Name o p3] [] p4) [⟨.Name o' p5, itx, [], 0⟩] sc p6] [] p7 ∧ S.cal = false ∧ isGl S x = true ∧ x = "sum" ∧ x ∈ S.bt ∧ y = "int" ∧ y ∈ S.bt ∧ o' = o ∧ blkHB sc o = true ∧ noSet itx = true ∧ chkE a S itx = true := by
    unfold chkE at h
    split at h <;> first | (cases h; done) | skip
    all_goals first | (rename_i heq; cases heq; done) | skip
    rename_i heq
    cases heq
    simp only [Bool.and_eq_true, decide_eq_true_eq, Bool.not_eq_true'] at h
    obtain ⟨⟨⟨⟨⟨⟨⟨⟨⟨h0, h1⟩, h2⟩, h3⟩, h4⟩, h5⟩, h6⟩, h7⟩, h8⟩, h9⟩ := h
    exact ⟨_, _, _, _, _, _, _, _, _, _, _, _, _, rfl, h0, h1, h2, h3, h4, h5, h6, h7, h8, h9⟩
  obtain ⟨x, p, y, p2, o, p3, p4, o', p5, itx, sc, p6, p7, rfl, h0, h1, rfl, h3, rfl, h5, rfl, h7, h8, h9⟩ := key
  obtain ⟨g1, _⟩ := isGl_of ok h1
  obtain ⟨x1, hx1⟩ := Option.isSome_iff_exists.mp (ok.hot h0)
  have hh : X.A.handled = some (.ref x1) := by rw [ok.hd, hx1]; rfl
  refine tst_of (PE.weak (HoS.pe_hsum hh (ha S X W itx ok h9).1 g1 (ok.bt _ h3) (ok.bt _ h5) (blkH_of h7) (by intro v; cases itx <;> first | rfl | exact Bool.noConfusion (show false = true from h8))) ?_) rfl
  rintro σ H Q ⟨s, h, Qa, Xa, sr, hr, w, ql, xl⟩
  refine ⟨s, h, _, Xa, sr, hr, w, fun d h1 v1 H1 z1 hr1 rd w1 => ?_, xl⟩
  obtain ⟨q, bs, rfl, e, w1⟩ := w1
  cases rd
  obtain ⟨vs, s1, s2⟩ := seq_of hr1 e
  rw [s2.bls, ok.K] at s1
  exact ⟨q, bs, rfl, s1, hr1.hot x1 hx1, ql (.int _) _ _ _ z1 hr1 rfl w1⟩
theorem isRf_of {K : PySem.W.Frag} {H : Hp} {d : DV} {v : V} (r : DRel K H d v) (h : isRf d = true) : ∃ a, v = .ref a := by
  cases d <;> first | (cases h; done) | skip
  · exact ⟨_, r⟩
  · obtain ⟨a, _, e, _⟩ := r
    exact ⟨a, e⟩
theorem c_repq (k : Bool) {a b : EX} (ha : HE G T fns n a) (hb : HE G T fns n b) : HE G T fns n (.repq k a b) := by
  intro S X W x0 ok h
  have key : ∃ x p u p2 c y p3 v p4 p5, x0 = .Compare (.Call (.Name x p) [u] [] p2) [c] [.Call (.Name y p3) [v] [] p4] p5 ∧ isGl S x = true ∧ x = "repr" ∧ x ∈ S.bt ∧ isGl S y = true ∧ y = "repr" ∧ y ∈ S.bt ∧ copIs (if k = true then .ne else .eq) c = true ∧ chkE a S u = true ∧ chkE b S v = true := by
    unfold chkE at h
    split at h <;> first | (cases h; done) | skip
    all_goals first | (rename_i heq; cases heq; done) | skip
    rename_i heq
    cases heq
    simp only [Bool.and_eq_true, decide_eq_true_eq] at h
    obtain ⟨⟨⟨⟨⟨⟨⟨⟨h1, h2⟩, h3⟩, h4⟩, h5⟩, h6⟩, h7⟩, h8⟩, h9⟩ := h
    exact ⟨_, _, _, _, _, _, _, _, _, _, rfl, h1, h2, h3, h4, h5, h6, h7, h8, h9⟩
  obtain ⟨x, p, u, p2, c, y, p3, v, p4, p5, rfl, h1, rfl, h3, h4, rfl, h6, h7, h8, h9⟩ := key
  obtain ⟨g1, _⟩ := isGl_of ok h1
  have pa := HoS.pe_repr (p := p) (pos := p2) ok.gd ok.un g1 (ok.bt _ h3) (ha S X W u ok h8).1 (star_cons (chkE_notStar h8) [] X.env)
  have pb := HoS.pe_repr (p := p3) (pos := p4) ok.gd ok.un g1 (ok.bt _ h3) (hb S X W v ok h9).1 (star_cons (chkE_notStar h9) [] X.env)
  have fin : ∀ {σ : L2.St} {H : Hp} {Q : VK}, EE G T fns n W (.repq k a b) σ H Q → ∀ r : R2, (∀ x H Q, Q (.bl (!k)) H → r (.str x) (.str x) H Q) →
      tOp r (fun σ H Q => EE G T fns n W a σ H fun v H1 => ∃ (a : Addr) (d : PyData), v = .ref a ∧ Dp X.K H1 v d ∧ d.depth ≤ 32 ∧ d.showable = true ∧ d.shown.length ≤ sizeLine ∧ Q (.str d.shown) H1)
        (fun σ H Q => EE G T fns n W b σ H fun v H1 => ∃ (a : Addr) (d : PyData), v = .ref a ∧ Dp X.K H1 v d ∧ d.depth ≤ 32 ∧ d.showable = true ∧ d.shown.length ≤ sizeLine ∧ Q (.str d.shown) H1) σ H Q := by
    rintro σ H Q ⟨s, h, Qa, Xa, sr, hr, w, ql, xl⟩ r rr
    refine ⟨s, h, _, Xa, sr, hr, w, fun d h1 v1 H1 z1 hr1 rd w1 => ?_, xl⟩
    obtain ⟨P, i1, e1, sh, sz, w2⟩ := w1
    obtain ⟨a1, rfl⟩ := isRf_of rd i1
    obtain ⟨D1, _, D3⟩ := py_dp hr1 rd e1
    rw [ok.K] at D1
    refine ⟨a1, P, rfl, D1, by omega, sh, sz, ?_⟩
    refine ⟨s, h1, _, Xa, sr.mono z1, hr1, w2, fun d2 h2 v2 H2 z2 hr2 rd2 w3 => ?_, xl.mono z1⟩
    obtain ⟨i2, e2, w3⟩ := w3
    obtain ⟨a2, rfl⟩ := isRf_of rd2 i2
    obtain ⟨E1, _, E3⟩ := py_dp hr2 rd2 e2
    rw [ok.K] at E1
    exact ⟨a2, P, rfl, E1, by omega, sh, sz, rr _ _ _ (ql (.bl _) _ _ _ (z1.trans z2) hr2 rfl w3)⟩
  cases k with
  | false =>
    have e : c = .Eq := by cases c <;> first | rfl | exact Bool.noConfusion (show false = true from h7)
    subst e
    have rr : ∀ (x : Str) (H : Hp) (Q : VK), Q (.bl (!false)) H → rEq (.str x) (.str x) H Q := fun x H Q q => ⟨rfl, by rw [decide_eq_true rfl]; exact q⟩
    exact ⟨PE.weak (pe_cmpR op_eq pa pb rfl) fun σ H Q l => fin l _ rr, PT.weak (pt_cmpR op_eq pa pb rfl) fun σ H Q l => fin (lt_le l) _ rr, by rintro op l p e; cases e⟩
  | true =>
    have e : c = .NotEq := by cases c <;> first | rfl | exact Bool.noConfusion (show false = true from h7)
    subst e
    have rr : ∀ (x : Str) (H : Hp) (Q : VK), Q (.bl (!true)) H → rNe (.str x) (.str x) H Q := fun x H Q q => ⟨rfl, by rw [decide_eq_true rfl]; exact q⟩
    exact ⟨PE.weak (pe_cmpR op_ne pa pb rfl) fun σ H Q l => fin l _ rr, PT.weak (pt_cmpR op_ne pa pb rfl) fun σ H Q l => fin (lt_le l) _ rr, by rintro op l p e; cases e⟩
end
end PL

set_option maxHeartbeats 8000000
/-! PL, part o: what loops walk, comprehensions, every expression. -/
namespace PL
open PySem PySem.Spec PyProof.Rows L2

/-! ### a walk by the value -/
def rWalk (K : PySem.W.Frag) (x : V) (H : Hp) (R : It → Hp → Prop) : Prop :=
  (∃ a, x = .ref a ∧ (((∃ xs, SqL K H a xs) ∧ R (Itl K a) H) ∨ ((∃ xs, SqT K H a xs) ∧ R (Itt K a) H) ∨ ∃ o kvs, H a = some (.frz o (.dK kvs)) ∧ R (Itk a o kvs) H)) ∨ ∃ z, x = .str z ∧ R (Its z) H
theorem pi_val {X : Cx} {tg l : Expr} {tl : TE} (hl : PE X l tl) : PI X tg l (fun σ H R => tl σ H fun x H1 => rWalk X.K x H1 R) := by
  refine ⟨fun pins s σ H R I h => ?_⟩
  refine thn (hl.run pins s σ H _ I h) fun v s1 ⟨x, H1, I1, r1, q1⟩ => ?_
  rcases q1 with ⟨a, rfl, ⟨⟨xs, hq⟩, q⟩ | ⟨⟨xs, hq⟩, q⟩ | ⟨o, kvs, hd, q⟩⟩ | ⟨z, rfl, q⟩
  · cases r1
    obtain ⟨its, rv, p, hz⟩ := I1.list hq
    refine wpAny_pyIter_list p.isList ?_
    refine ⟨s1.heap.objs.size, [s1.heap.objs.size], _, _, H1, rfl, I1.kept (t' := s1.toks) fun b o e => Heap.get?_push_of_some _ e, turn_list a _, ⟨_, Heap.get?_push_size _ rfl, rfl, rfl⟩, fun b hb => ?_, q⟩
    have e : b = s1.heap.objs.size := by simpa using hb
    subst e
    exact I1.fpOk (Nat.le_refl _) (I1.hok.fresh (Nat.le_refl _))
  · cases r1
    obtain ⟨its, rv, p, hz⟩ := I1.tuple hq
    refine wpAny_pyIter_tuple (show s1.heap.IsTuple a its.toArray from p) ?_
    refine ⟨s1.heap.objs.size, [s1.heap.objs.size], _, _, H1, rfl, I1.kept (t' := s1.toks) fun b o e => Heap.get?_push_of_some _ e, turn_tuple a _, ⟨_, Heap.get?_push_size _ rfl, rfl, rfl⟩, fun b hb => ?_, q⟩
    have e : b = s1.heap.objs.size := by simpa using hb
    subst e
    exact I1.fpOk (Nat.le_refl _) (I1.hok.fresh (Nat.le_refl _))
  · cases r1
    obtain ⟨hs, hgd, hx, es, ep, vs, hdt, hsz, kv, hm⟩ := I1.frzK hd
    refine iter_keys hs hgd hx hdt (pi_one (tk := s1.toks) I1 _ (turn_keys _ hdt) ⟨_, Heap.get?_push_size _ rfl, rfl, ?_⟩ q)
    rw [hsz] <;> rfl
  · obtain ⟨t, rfl⟩ := r1
    cases ha : z.cps.all (· < 128)
    · exact wpAny_pyIter_wide ha (pi_one (tk := s1.toks) I1 _ (turn_str _ z t "str_iterator" (.inr rfl)) ⟨_, Heap.get?_push_size _ rfl, rfl, rfl⟩ q)
    · exact wpAny_pyIter_ascii ha (pi_one (tk := s1.toks) I1 _ (turn_str _ z t "str_ascii_iterator" (.inl rfl)) ⟨_, Heap.get?_push_size _ rfl, rfl, rfl⟩ q)
section
variable {S : SC} {G : GK} {T : PTab} {fns : Nat → Option FI} {n : Nat} {X : Cx} {W : WX}
theorem c_seq {e : EX} (he : HE G T fns n e) : HI G T fns n (.seq e) := by
  intro S X W x tg ok h ht
  refine PI.weak (pi_val (he S X W x ok h).1) ?_
  rintro σ H R ⟨s, h, Ra, Xa, sr, hr, w, rl, xl⟩
  refine ⟨s, h, _, Xa, sr, hr, w, fun d h1 v H1 x1 hr1 rd w1 => ?_, xl⟩
  cases d with
  | ref a =>
    cases rd
    rcases w1 with ⟨xs, e, w1⟩ | ⟨kvs, o, q, e, w1⟩
    · obtain ⟨vs, s1, s2⟩ := seq_of hr1 e
      rw [ok.K] at s1
      exact .inl ⟨a, rfl, .inl ⟨⟨vs, s1⟩, rl _ _ _ _ _ x1 hr1 (it_list X.K ok.K) w1⟩⟩
    · obtain ⟨e1, e2⟩ := hr1 a _ e
      exact .inl ⟨a, rfl, .inr (.inr ⟨o, q, e1, rl _ _ _ _ _ x1 hr1 it_keys w1⟩)⟩
  | tup xs =>
    obtain ⟨a, vs, rfl, s1, s2⟩ := rd
    have s1' : SqT X.K H1 a vs := by
      rw [← ok.K]
      rcases s1 with h | h
      · exact SqT.of h
      · rcases h with (h | ⟨_, h⟩) | h
        · cases h
        · cases h
        · exact .inr h
    exact .inl ⟨a, rfl, .inr (.inl ⟨⟨vs, s1'⟩, rl _ _ _ _ _ x1 hr1 (it_tup X.K ok.K s1 s2) w1⟩)⟩
  | str z =>
    obtain ⟨rfl, oz⟩ := rd
    exact .inr ⟨_, rfl, rl _ _ _ _ _ x1 hr1 (it_str z oz) w1⟩
  | non => exact w1.elim
  | bl _ => exact w1.elim
  | int _ => exact w1.elim
/-- the value is locked from here on -/
def tFrz (t : TE) : TE := fun σ H Q => t σ H fun v H' => ∃ d u, v = .ref d ∧ H' d = some u ∧ Mut (some u) ∧ ∀ od, Q v (upd H' d (.frz od u))
theorem pe_frz {X : Cx} {e : Expr} {t : TE} (h : PE X e t) : PE X e (tFrz t) := by
  refine ⟨fun pins s σ H Q I hw => ?_⟩
  refine thn (h.run pins s σ _ _ I hw) fun v s1 q => ?_
  obtain ⟨x, H1, I2, r, d, u, rfl, hd, mu, q⟩ := q
  obtain ⟨od, I3⟩ := I2.lock hd mu
  exact ⟨_, _, I3, r, q od⟩
theorem c_dseq {e : EX} (he : HE G T fns n e) : HI G T fns n (.dseq e) := by
  intro S X W x tg ok h ht
  refine PI.weak (pi_val (pe_frz (he S X W x ok h).1)) ?_
  rintro σ H R ⟨s, h, Ra, Xa, sr, hr, w, rl, xl⟩
  refine ⟨s, h, _, Xa, sr, hr, w, fun d h1 v H1 x1 hr1 rd w1 => ?_, xl⟩
  obtain ⟨a, kvs, rfl, e, w1⟩ := w1
  cases rd
  obtain ⟨q, e1, e2⟩ := hr1 a _ e
  refine ⟨a, .dK q, rfl, e1, trivial, fun od => ?_⟩
  have xp : HX H1 (upd H1 a (.frz od (.dK q))) := HX.put e1 (by intro xs; nofun)
  obtain ⟨hr2, x2⟩ := hr1.put (u := .frz od (.dK q)) (o := .fdct kvs od q) e ⟨upd_same, e2.mono xp⟩
  exact .inl ⟨a, rfl, .inr (.inr ⟨od, q, upd_same, rl _ _ _ _ _ (x1.trans x2) hr2 it_keys (w1 od q)⟩)⟩
theorem c_rng1 {e : EX} (he : HE G T fns n e) : HI G T fns n (.rng1 e) := by
  intro S X W x tg ok h ht
  cases x <;> first | exact Bool.noConfusion (show false = true from h) | skip
  rename_i u xs ks pos
  cases u <;> first | exact Bool.noConfusion (show false = true from h) | skip
  match xs, ks, h with
  | [], _, h => exact Bool.noConfusion (show false = true from h)
  | _ :: _ :: _, _, h => exact Bool.noConfusion (show false = true from h)
  | [_], _ :: _, h => exact Bool.noConfusion (show false = true from h)
  | [y], [], h =>
    obtain ⟨h, h4⟩ := an2 (show (_ && _) = true from h)
    obtain ⟨h, h3⟩ := an2 h
    obtain ⟨h1, h2⟩ := an2 h
    obtain ⟨g1, g2⟩ := isGl_of ok h1
    obtain rfl := of_decide_eq_true h2
    have sc := star_cons (chkE_notStar h4) [] X.env
    refine PI.weak (pi_range1 g1 (ok.bt _ (of_decide_eq_true h3)) (pa_cons (he S X W y ok h4).1 pa_nil sc) sc) ?_
    rintro σ H R ⟨s, h, Ra, Xa, sr, hr, w, rl, xl⟩
    refine ⟨s, h, _, Xa, sr, hr, w, fun d h1 v H1 x1 hr1 rd w1 => ?_, xl⟩
    obtain ⟨j, rfl, l1, l2, w1⟩ := w1
    cases rd
    refine ⟨j, rfl, l1, l2, rl _ _ _ _ _ x1 hr1 (it_rng 0 j.toNat) ?_⟩
    simpa using w1
theorem c_rng2 {a b : EX} (ha : HE G T fns n a) (hb : HE G T fns n b) : HI G T fns n (.rng2 a b) := by
  intro S X W x tg ok h ht
  cases x <;> first | exact Bool.noConfusion (show false = true from h) | skip
  rename_i u xs ks pos
  cases u <;> first | exact Bool.noConfusion (show false = true from h) | skip
  match xs, ks, h with
  | [], _, h => exact Bool.noConfusion (show false = true from h)
  | [_], _, h => exact Bool.noConfusion (show false = true from h)
  | _ :: _ :: _ :: _, _, h => exact Bool.noConfusion (show false = true from h)
  | [_, _], _ :: _, h => exact Bool.noConfusion (show false = true from h)
  | [y, z], [], h =>
    obtain ⟨h, h5⟩ := an2 (show (_ && _) = true from h)
    obtain ⟨h, h4⟩ := an2 h
    obtain ⟨h, h3⟩ := an2 h
    obtain ⟨h1, h2⟩ := an2 h
    obtain ⟨g1, g2⟩ := isGl_of ok h1
    obtain rfl := of_decide_eq_true h2
    have sc2 := star_cons (chkE_notStar h5) [] X.env
    have sc1 := star_cons (chkE_notStar h4) [z] X.env
    refine PI.weak (pi_range2 g1 (ok.bt _ (of_decide_eq_true h3)) (pa_cons (ha S X W y ok h4).1 (pa_cons (hb S X W z ok h5).1 pa_nil sc2) sc1) (by rw [sc1, sc2]; rfl) (by rw [sc2]; rfl)) ?_
    rintro σ H R ⟨s, h, Ra, Xa, sr, hr, w, rl, xl⟩
    refine ⟨s, h, _, Xa, sr, hr, w, fun d h1 v H1 x1 hr1 rd w1 => ?_, xl⟩
    refine ⟨s, h1, _, Xa, sr.mono x1, hr1, w1, fun e h2 u H2 x2 hr2 re w2 => ?_, xl.mono x1⟩
    obtain ⟨i, j, rfl, rfl, l1, l2, l3, l4, w2⟩ := w2
    cases rd
    cases re
    exact ⟨i, j, rfl, ⟨l1, l2, l3, l4⟩, rl _ _ _ _ _ (x1.trans x2) hr2 (it_rng i (j - i).toNat) w2⟩
theorem c_enum {e : EX} (he : HE G T fns n e) : HI G T fns n (.enum e) := by
  intro S X W x tg ok h ht
  cases tg <;> first | exact Bool.noConfusion (show false = true from ht) | skip
  cases x <;> first | exact Bool.noConfusion (show false = true from h) | skip
  rename_i u xs ks pos
  cases u <;> first | exact Bool.noConfusion (show false = true from h) | skip
  match xs, ks, h with
  | [], _, h => exact Bool.noConfusion (show false = true from h)
  | _ :: _ :: _, _, h => exact Bool.noConfusion (show false = true from h)
  | [_], _ :: _, h => exact Bool.noConfusion (show false = true from h)
  | [y], [], h =>
    obtain ⟨h, h4⟩ := an2 (show (_ && _) = true from h)
    obtain ⟨h, h3⟩ := an2 h
    obtain ⟨h1, h2⟩ := an2 h
    obtain ⟨g1, g2⟩ := isGl_of ok h1
    obtain rfl := of_decide_eq_true h2
    have sc := star_cons (chkE_notStar h4) [] X.env
    refine PI.weak (pi_enum g1 (ok.bt _ (of_decide_eq_true h3)) (pa_cons (he S X W y ok h4).1 pa_nil sc) sc) ?_
    rintro σ H R ⟨s, h, Ra, Xa, sr, hr, w, rl, xl⟩
    refine ⟨s, h, _, Xa, sr, hr, w, fun d h1 v H1 x1 hr1 rd w1 => ?_, xl⟩
    obtain ⟨a, xs, rfl, e, w1⟩ := w1
    cases rd
    obtain ⟨vs, s1, s2⟩ := seq_of hr1 e
    rw [ok.K] at s1
    exact ⟨a, vs, rfl, s1, rl _ _ _ _ _ x1 hr1 (it_enum X.K ok.K) w1⟩
theorem c_rev {e : EX} (he : HE G T fns n e) : HI G T fns n (.rev e) := by
  intro S X W x tg ok h ht
  cases x <;> first | exact Bool.noConfusion (show false = true from h) | skip
  rename_i u xs ks pos
  cases u <;> first | exact Bool.noConfusion (show false = true from h) | skip
  match xs, ks, h with
  | [], _, h => exact Bool.noConfusion (show false = true from h)
  | _ :: _ :: _, _, h => exact Bool.noConfusion (show false = true from h)
  | [_], _ :: _, h => exact Bool.noConfusion (show false = true from h)
  | [y], [], h =>
    obtain ⟨h, h4⟩ := an2 (show (_ && _) = true from h)
    obtain ⟨h, h3⟩ := an2 h
    obtain ⟨h1, h2⟩ := an2 h
    obtain ⟨g1, g2⟩ := isGl_of ok h1
    obtain rfl := of_decide_eq_true h2
    have sc := star_cons (chkE_notStar h4) [] X.env
    refine PI.weak (pi_reversed g1 (ok.bt _ (of_decide_eq_true h3)) (pa_cons (he S X W y ok h4).1 pa_nil sc) sc) ?_
    rintro σ H R ⟨s, h, Ra, Xa, sr, hr, w, rl, xl⟩
    refine ⟨s, h, _, Xa, sr, hr, w, fun d h1 v H1 x1 hr1 rd w1 => ?_, xl⟩
    obtain ⟨a, xs, rfl, e, w1⟩ := w1
    cases rd
    obtain ⟨vs, s1, s2⟩ := seq_of hr1 e
    rw [ok.K] at s1
    refine ⟨a, vs, rfl, s1, ?_⟩
    rw [s2.length]
    exact rl _ _ _ _ _ x1 hr1 (it_rev X.K ok.K) w1
theorem c_items {e : EX} (he : HE G T fns n e) : HI G T fns n (.items e) := by
  intro S X W x tg ok h ht
  cases tg <;> first | exact Bool.noConfusion (show false = true from ht) | skip
  cases x <;> first | exact Bool.noConfusion (show false = true from h) | skip
  rename_i u xs ks pos
  cases u <;> first | exact Bool.noConfusion (show false = true from h) | skip
  rename_i o nm apos
  match xs, ks, h with
  | _ :: _, _, h => exact Bool.noConfusion (show false = true from h)
  | [], _ :: _, h => exact Bool.noConfusion (show false = true from h)
  | [], [], h =>
    obtain ⟨h, h3⟩ := an2 (show (_ && _) = true from h)
    obtain ⟨h1, h2⟩ := an2 h
    obtain rfl := of_decide_eq_true h1
    refine PI.weak (pi_items (he S X W o ok h3).1 (base_ok h2) (an2 h2).2) ?_
    rintro σ H R ⟨s, h, Ra, Xa, sr, hr, w, rl, xl⟩
    refine ⟨s, h, _, Xa, sr, hr, w, fun d h1 v H1 x1 hr1 rd w1 => ?_, xl⟩
    obtain ⟨a, kvs, o, q, rfl, e, w1⟩ := w1
    cases rd
    obtain ⟨e1, e2⟩ := hr1 a _ e
    exact ⟨a, o, q, rfl, e1, rl _ _ _ _ _ x1 hr1 it_items w1⟩
theorem c_vals {e : EX} (he : HE G T fns n e) : HI G T fns n (.vals e) := by
  intro S X W x tg ok h ht
  cases x <;> first | exact Bool.noConfusion (show false = true from h) | skip
  rename_i u xs ks pos
  cases u <;> first | exact Bool.noConfusion (show false = true from h) | skip
  rename_i o nm apos
  match xs, ks, h with
  | _ :: _, _, h => exact Bool.noConfusion (show false = true from h)
  | [], _ :: _, h => exact Bool.noConfusion (show false = true from h)
  | [], [], h =>
    obtain ⟨h, h3⟩ := an2 (show (_ && _) = true from h)
    obtain ⟨h1, h2⟩ := an2 h
    obtain rfl := of_decide_eq_true h1
    refine PI.weak (pi_values (he S X W o ok h3).1 (base_ok h2) (an2 h2).2) ?_
    rintro σ H R ⟨s, h, Ra, Xa, sr, hr, w, rl, xl⟩
    refine ⟨s, h, _, Xa, sr, hr, w, fun d h1 v H1 x1 hr1 rd w1 => ?_, xl⟩
    obtain ⟨a, kvs, o, q, rfl, e, w1⟩ := w1
    cases rd
    obtain ⟨e1, e2⟩ := hr1 a _ e
    exact ⟨a, o, q, rfl, e1, rl _ _ _ _ _ x1 hr1 it_vals w1⟩
theorem c_keys {e : EX} (he : HE G T fns n e) : HI G T fns n (.keys e) := by
  intro S X W x tg ok h ht
  cases x <;> first | exact Bool.noConfusion (show false = true from h) | skip
  rename_i u xs ks pos
  cases u <;> first | exact Bool.noConfusion (show false = true from h) | skip
  rename_i o nm apos
  match xs, ks, h with
  | _ :: _, _, h => exact Bool.noConfusion (show false = true from h)
  | [], _ :: _, h => exact Bool.noConfusion (show false = true from h)
  | [], [], h =>
    obtain ⟨h, h3⟩ := an2 (show (_ && _) = true from h)
    obtain ⟨h1, h2⟩ := an2 h
    obtain rfl := of_decide_eq_true h1
    refine PI.weak (pi_keysM (he S X W o ok h3).1 (base_ok h2) (an2 h2).2) ?_
    rintro σ H R ⟨s, h, Ra, Xa, sr, hr, w, rl, xl⟩
    refine ⟨s, h, _, Xa, sr, hr, w, fun d h1 v H1 x1 hr1 rd w1 => ?_, xl⟩
    obtain ⟨a, kvs, o, q, rfl, e, w1⟩ := w1
    cases rd
    obtain ⟨e1, e2⟩ := hr1 a _ e
    exact ⟨a, o, q, rfl, e1, rl _ _ _ _ _ x1 hr1 it_keys w1⟩
/-! ### comprehensions -/
theorem blk_ok (ok : CxOk S G T fns n X W) (s : Shared) (H : Hp) (sc : Scope) (C : Addr) (cl : List (Str × Addr)) (fp : List Addr) (own : List Nat) : CxOk (inC S sc own) G T fns n (X.blk s H sc (compEnvC sc cl C X.env) fp) (fun _ _ _ _ => False) where
  K := ok.K
  N := ok.N
  nd := ok.nd
  sc := by
    show relS sc X.env.scope = relS sc S.sc
    rw [ok.sc]
  lf := fun x hw _ => by
    have hw := (List.mem_filter.mp hw).2
    split at hw
    · rename_i h
      exact .inr (lookup_relS_keep (by nofun) h)
    · rename_i h
      refine .inl ?_
      show (sc.names.lookup x == some .cell) = true
      rw [h]; rfl
    · cases hw
  calm := ok.calm
  un := ok.un
  gd := ok.gd
  hd := ok.hd
  hot := ok.hot
  cold := ok.cold
  hfn := fun x f e => by
    obtain ⟨a, h1, h2, F⟩ := ok.hfn x f e
    exact ⟨a, h1, h2, fun p => ⟨(F p).ex⟩⟩
  tk := fun u s' ⟨_, _, _, _, _, _, _, _, _, _, _, _, _, _, _, _, w⟩ => w.elim
  fn := fun x f e => by
    obtain ⟨a, h1, h2, F⟩ := ok.fn x f e
    exact ⟨a, h1, h2, ⟨F.ex⟩⟩
  cl := fun x c e => by
    obtain ⟨h1, h2, h3, h4, h5⟩ := ok.cl x c e
    refine ⟨h1, h2, h3, h4, fun f ef => ?_⟩
    obtain ⟨a, M, F⟩ := h5 f ef
    exact ⟨a, M, ⟨F.ex⟩⟩
  c0 := ok.c0
  mt := fun c m f nm e1 e2 => by
    obtain ⟨h1, a, h2, h3, F⟩ := ok.mt c m f nm e1 e2
    exact ⟨h1, a, h2, h3, ⟨F.ex⟩⟩
  fp := ok.fp
  ex := fun x c e => by
    obtain ⟨h1, h2, fI, fd, ps, E⟩ := ok.ex x c e
    exact ⟨h1, h2, fI, fd, ps, ⟨E.T, E.iC, E.tI, E.F, E.hr, E.hb, E.no, E.nd, E.lt, E.l0, E.l1⟩⟩
  cm := fun x m f e => by
    obtain ⟨C, a, h1, h2, h3, h4, h5, F⟩ := ok.cm x m f e
    exact ⟨C, a, h1, h2, h3, h4, h5, ⟨F.ex⟩⟩
  isi := ok.isi
  isc := ok.isc
  kf := ok.kf
  co := ok.co
  bt := ok.bt
  xp := ok.xp
  xi := ok.xi
  xt := ok.xt
  xs := ok.xs
theorem wipe_in {σ : L2.St} {i : Nat} : ∀ {vs : List Nat}, i ∈ vs → i < σ.length → (wipe σ vs)[i]? = some none
  | v :: vs, h, hl => by
    unfold wipe
    by_cases e : v = i
    · subst e
      rw [List.getElem?_set_self (by rw [wipe_length]; exact hl)]
    · rw [List.getElem?_set_ne e]
      exact wipe_in (by simpa [Ne.symm e] using h) hl
theorem wipe_same {t vs : List Nat} {σ σ2 : L2.St} (w : Wr t (wipe σ vs) σ2) (hs : ∀ i ∈ t, i ∈ vs) : wipe σ2 vs = wipe σ vs := by
  have hl : σ2.length = σ.length := by rw [w.1, wipe_length]
  apply List.ext_getElem?
  intro i
  by_cases hi : i ∈ vs
  · by_cases hb : i < σ.length
    · rw [wipe_in hi hb, wipe_in hi (by rw [hl]; exact hb)]
    · rw [List.getElem?_eq_none (by rw [wipe_length, hl]; omega), List.getElem?_eq_none (by rw [wipe_length]; omega)]
  · rw [wipe_out hi, w.2 i fun h => hi (hs i h)]
theorem SRel.wipe {H : Hp} {s : ASt} {σ : L2.St} (r : SRel G H s σ) : ∀ vs : List Nat, SRel G H (wipeA s vs) (L2.wipe σ vs)
  | [] => r
  | v :: vs => by
    have q := SRel.wipe r vs
    unfold wipeA L2.wipe
    refine ⟨by simp [q.1], fun i d e => ?_⟩
    by_cases h : v = i
    · subst h
      by_cases hl : v < (wipeA s vs).length
      · rw [List.getElem?_set_self hl] at e; cases e
      · rw [List.getElem?_eq_none (by simpa using hl)] at e; cases e
    · rw [List.getElem?_set_ne h] at e ⊢
      exact q.2 i d e
theorem lc_inv {x0 : Expr} {el : EX} {t own : List Nat} {it : IT} {cond : EXs} (h : chkE (.lc el t own it cond) S x0 = true) : ∃ x tg itx ifs sc pos, x0 = .ListComp x [⟨tg, itx, ifs, 0⟩] sc pos ∧ S.cal = true ∧ itOk it tg = true ∧ (t.all fun i => own.contains i) = true ∧ chkI it S itx = true ∧ blkC S.N S.sc sc (own.map fun i => (S.N.getD i "", i)) = true ∧ noSet itx = true ∧
      chkT (inC S sc own) t tg = true ∧ chkIf cond (inC S sc own) ifs = true ∧ chkE el (inC S sc own) x = true := by
  unfold chkE at h
  split at h <;> first | (cases h; done) | skip
  all_goals first | (rename_i heq; cases heq; done) | skip
  rename_i heq
  cases heq
  obtain ⟨h, h8⟩ := an2 h
  obtain ⟨h, h7⟩ := an2 h
  obtain ⟨h, h6⟩ := an2 h
  obtain ⟨h, h5⟩ := an2 h
  obtain ⟨h, h4⟩ := an2 h
  obtain ⟨h, h3⟩ := an2 h
  obtain ⟨h, h2⟩ := an2 h
  obtain ⟨h0, h1⟩ := an2 h
  exact ⟨_, _, _, _, _, _, rfl, h0, h1, h2, h3, h4, h5, h6, h7, h8⟩
theorem lc_fin {el : EX} {t own : List Nat} {it : IT} {cond : EXs} (h2 : (t.all fun i => own.contains i) = true) : ∀ σ H Q, EE G T fns n W (.lc el t own it cond) σ H Q →
    tLc (LI G W fun s h Q Y => wI T (wCall T fns n) s h Q Y it) (LG G t) (LT G (fun _ _ _ _ => False) fun s h Q Y => wC T (wCall T fns n) s h Q Y cond) (EE G T fns n (fun _ _ _ _ => False) el) own σ H Q := by
  have hs : ∀ i ∈ t, i ∈ own := fun i hi => by
    have := List.all_eq_true.mp h2 i hi
    simpa using this
  rintro σ H Q ⟨s, h, Qa, Xa, sr, hr, w, ql, xl⟩
  refine ⟨s, h, _, Xa, sr, hr, w, fun chk xs h1 J H1 x1 hr1 ir w1 => ?_, xl⟩
  intro D nD
  have w2 := w1 D (hr1.free nD)
  refine ⟨fun i m Hc => ∃ hc, i ≤ xs.length ∧ m = xs.length - i ∧ HX H1 Hc ∧ HRel G Hc hc ∧ wLc chk t own D (fun s h R => wC T (wCall T fns n) s h R (fun _ _ _ => False) cond) (fun s h R => wE T (wCall T fns n) s h R (fun _ _ _ => False) el) (fun h' => Qa (.ref D) h') s (xs.drop i) hc,
    ⟨xs.length, _, Nat.zero_le _, rfl, HX.new nD, hr1.new nD (o := .lst []) ⟨[], upd_same, rfl⟩, w2⟩, ?_⟩
  rintro i m Hc ⟨hc', hi', rfl, x2, hr2, w3⟩
  by_cases hl : i < xs.length
  · rw [List.drop_eq_getElem_cons hl] at w3
    obtain ⟨ck, s1, eb, w4⟩ := w3
    refine .inr ⟨ir.go i Hc hc' x2 hr2 ck hl, fun H' => ∃ hc, HX H1 H' ∧ HRel G H' hc ∧ wLc chk t own D (fun s h R => wC T (wCall T fns n) s h R (fun _ _ _ => False) cond) (fun s h R => wE T (wCall T fns n) s h R (fun _ _ _ => False) el) (fun h' => Qa (.ref D) h') s (xs.drop (i + 1)) hc,
      fun H' ⟨hc, a, b, c⟩ => ⟨xs.length - (i + 1), by omega, hc, hl, rfl, a, b, c⟩, fun v H' y => ?_⟩
    obtain ⟨x3, hr3, rd⟩ := ir.yld i Hc hc' xs[i] v H' x2 hr2 ck (List.getElem?_eq_getElem hl) y
    have x13 := x2.trans x3
    refine ⟨_, _, s1, rd, (sr.mono (x1.trans x13)).wipe own, eb, fun σ2 sr2 wr => ⟨wipe_same wr hs, ?_⟩⟩
    refine ⟨s1, hc', _, _, sr2, hr3, w4, fun b h4 H4 x4 hr4 w5 => ?_, XL.no⟩
    cases b with
    | false =>
      obtain ⟨g, sg, w5⟩ := w5
      exact ⟨g, x13.trans x4, hr4.sub sg, w5⟩
    | true =>
      refine ⟨s1, h4, _, _, sr2.mono x4, hr4, w5, fun d h5 v5 H5 x5 hr5 rd5 w6 => ?_, XL.no⟩
      obtain ⟨g, acc, sg, e, l, w6⟩ := w6
      have hr5 := hr5.sub sg
      obtain ⟨vs, e1, e2⟩ := lst_of hr5 e
      refine ⟨vs, e1, by rw [e2.length]; exact l, ?_⟩
      have xp : HX H5 (upd H5 D (.lst (vs ++ [v5]))) := HX.put e1 (by intro xs; nofun)
      obtain ⟨hr6, x6⟩ := hr5.put (u := .lst (vs ++ [v5])) (o := .lst (acc ++ [d])) e ⟨_, upd_same, (e2.mono xp).append (.single (rd5.mono xp))⟩
      exact ⟨_, x13.trans (x4.trans (x5.trans x6)), hr6, w6⟩
  · have he' : i = xs.length := by omega
    subst he'
    rw [List.drop_length] at w3
    exact .inl ⟨ir.stop _ Hc hc' x2 hr2 w3.1 (Nat.le_refl _), ql (.ref D) _ (.ref D) _ (x1.trans x2) hr2 rfl w3.2⟩
theorem c_lc {el : EX} {t own : List Nat} {it : IT} {cond : EXs} (he : HE G T fns n el) (hi : HI G T fns n it) (hc : HEs G T fns n cond) : HE G T fns n (.lc el t own it cond) := by
  intro S X W x0 ok h
  obtain ⟨x, tg, itx, ifs, sc, pos, rfl, h0, h1, h2, h3, h4, h5, h6, h7, h8⟩ := lc_inv h
  have hmap : ((own.map fun i => (S.N.getD i "", i)).map (·.2)) = own := by
    rw [List.map_map]
    exact List.map_id' own
  have hp := pe_lc (X := X) (pos := pos) (g := LG G t) (tt := LT G (fun _ _ _ _ => False) fun s h Q Y => wC T (wCall T fns n) s h Q Y cond) (te := EE G T fns n (fun _ _ _ _ => False) el) (ok.calm h0) ok.nd (hi S X W itx tg ok h3 h1)
    (blkOk_by (by rw [ok.N, ok.sc]; exact h4)) (fun s H C cl fp => pg_ok (blk_ok ok s H sc C cl fp own) h6) (fun s H C cl fp => hc.c _ _ _ _ (blk_ok ok s H sc C cl fp own) h7) (fun s H C cl fp => (he _ _ _ _ (blk_ok ok s H sc C cl fp own) h8).1)
    (by intro x; cases itx <;> first | rfl | exact Bool.noConfusion (show false = true from h5))
  rw [hmap] at hp
  exact tst_of (PE.weak hp (lc_fin h2)) rfl
variable (G T fns n)
mutual
theorem sE : ∀ e : EX, HE G T fns n e
  | .var i => c_var i
  | .con d => c_con d
  | .bin o a b => c_bin o (sE a) (sE b)
  | .neg a => c_neg (sE a)
  | .notE a => c_not (sE a)
  | .andE a b => c_and (sE a) (sE b)
  | .orE a b => c_or (sE a) (sE b)
  | .cmp o a b => c_cmp o (sE a) (sE b)
  | .cmp2 o p a b c => c_cmp2 o p (sE a) (sE b) (sE c)
  | .cmp3 o p q a b c d => c_cmp3 o p q (sE a) (sE b) (sE c) (sE d)
  | .isN a => c_isN (sE a)
  | .notN a => c_notN (sE a)
  | .tup es => c_tup (sEs es)
  | .lst es => c_lst (sEs es)
  | .dct es => c_dct (sEp es)
  | .lrg a b => c_lrg (sE a) (sE b)
  | .lrg1 b => c_lrg1 (sE b)
  | .lvw a k => c_lvw k (sE a)
  | .lrev a => c_lrev (sE a)
  | .hsum a => c_hsum (sE a)
  | .repq k a b => c_repq k (sE a) (sE b)
  | .srk l a => c_srk l (sE a)
  | .sls a lo k => c_sls lo k (sE a)
  | .ife c a b => c_ife (sE c) (sE a) (sE b)
  | .ix a i => c_ix (sE a) (sE i)
  | .sl a lo hi => c_sl (sE a) (sEs lo) (sEs hi)
  | .fld a f => c_fld f (sE a)
  | .xfld a f => c_xfld f (sE a)
  | .call f es => c_call f (sEs es)
  | .make c es => c_make c (sEs es)
  | .xmk c es => c_xmk c (sEs es)
  | .mk0 c => c_mk0 c
  | .meth a m es => c_meth m (sE a) (sEs es)
  | .bf b es => c_bf b (sEs es)
  | .bm a m es => c_bm m (sE a) (sEs es)
  | .isi a ts tp => c_isi ts tp (sE a)
  | .lc el _ _ it cond => c_lc (sE el) (sI it) (sEs cond)
theorem sEs : ∀ es : EXs, HEs G T fns n es
  | .nil => c_nil
  | .cons e r => c_cons (sE e) (sEs r)
theorem sEp : ∀ es : EXs, HEs' G T fns n es
  | .nil => trivial
  | .cons e r => ⟨sE e, sEp r⟩
theorem sI : ∀ it : IT, HI G T fns n it
  | .seq e => c_seq (sE e)
  | .rng1 e => c_rng1 (sE e)
  | .rng2 a b => c_rng2 (sE a) (sE b)
  | .enum e => c_enum (sE e)
  | .rev e => c_rev (sE e)
  | .items e => c_items (sE e)
  | .vals e => c_vals (sE e)
  | .keys e => c_keys (sE e)
  | .dseq e => c_dseq (sE e)
end
end
end PL

set_option maxHeartbeats 8000000
/-! PL, part p: statements. -/
namespace PL
open PySem PySem.Spec PyProof.Rows L2

/-! ### the check -/
/-- a comprehension stored at once -/
def swB (S : SC) : Expr → Expr → Bool
  | .ListComp _ _ sc pos, .Name t p => (S.sc.names.lookup t == some .local) && p.line == pos.line && !(sc.names.any fun y => y.1 == t && (y.2 == .local || y.2 == .cell))
  | _, _ => false
def noComp : Expr → Bool
  | .ListComp _ _ _ _ => false
  | .SetComp _ _ _ _ => false
  | .DictComp _ _ _ _ _ => false
  | _ => true
def noTup : Expr → Bool
  | .Tuple _ _ _ => false
  | _ => true
def noSl : Expr → Bool
  | .Slice _ _ _ _ => false
  | _ => true
def chkTG (S : SC) (v : Expr) : TG → Expr → Bool
  | .name i, .Name x _ => okLoc S i x
  | .tup is, .Tuple es k p => noTup v && noComp v && chkT S is (.Tuple es k p)
  | .fld o f, .Attribute u nm _ => decide (S.an[f]? = some nm) && chkE o S u
  | .sub o i, .Subscript u z _ => noSl z && chkE o S u && chkE i S z
  | _, _ => false
def chkAug (S : SC) : TG → Expr → Bool
  | .name i, .Name x _ => okLoc S i x
  | .fld o f, .Attribute u nm _ => decide (S.an[f]? = some nm) && chkE o S u
  | .sub o i, .Subscript u z _ => noSl z && chkE o S u && chkE i S z
  | _, _ => false
/-- `if x == k: return y.replace(p, q)`: the tested number is an object, so behind it a token is out -/
def chkRp : EX → STs → STs → SC → Expr → List Stmt → List Stmt → Bool
  | .cmp .eq (.var i) (.con (.int k)), .cons (.ret (.bm (.var j) .replace (.cons (.con (.str p)) (.cons (.con (.str q)) .nil)))) .nil, .nil, S,
    .Compare u [.Eq] [.Constant (.int k') _ _] _, [.Return (some (.Call (.Attribute o nm apos) [.Constant (.str p') _ _, .Constant (.str q') _ _] [] pos)) _], [] =>
    decide (k' = k) && decide (nm = "replace") && methOk o nm apos pos 2 && decide (p' = tS p) && decide (q' = tS q) && decide ((tS p == tS q) = false) && chkE (.var i) S u && chkE (.var j) S o
  | _, _, _, _, _, _, _ => false
/-- within an except suite -/
def su (S : SC) : SC := { S with cal := false, fn := S.hfn, hfn := [], cl := [], cm := [], mn := [], ex := [], kf := [] }
mutual
def chkS : ST → SC → Stmt → Bool
  | .asg t e, S, .Assign [x] v _ => chkE e S v && chkTG S v t x
  | .aug t .add e, S, .AugAssign x .Add v _ => chkE e S v && chkAug S t x
  | .aug t .sub e, S, .AugAssign x .Sub v _ => chkE e S v && chkAug S t x
  | .expr e, S, .Expr v _ => noComp v && chkE e S v
  | .ifS c a b, S, .If x y z _ => (chkE c S x && chkSs a S y && chkSs b S z) || chkRp c a b S x y z
  | .whl c b, S, .While x y [] _ => S.cal && chkE c S x && chkSs b S y
  | .forS t it b, S, .For x y z [] _ => S.cal && itOk it x && noSet y && chkT S t x && chkI it S y && chkSs b S z
  | .ret e, S, .Return (some x) _ => chkE e S x
  | .retN, _, .Return none _ => true
  | .never, _, _ => true
  | .lock t, S, x => chkS t S x
  | .raise c es, S, .Raise (some (.Call (.Name x _) (y :: ys) [] _)) none _ => S.cal && isGl S x && decide (S.ex.lookup x = some c) && chkEs es S (y :: ys)
  | .tryS b hs o, S, .Try body (h :: hds) orelse [] _ => S.cal && chkSs b S body && chkHs hs S (h :: hds) && chkSs o S orelse
  | .brk, _, .Break _ => true
  | .pass, _, .Pass _ => true
  | .pass, _, .Expr (.Constant (.str _) _ _) _ => true
  | _, _, _ => false
def chkSs : STs → SC → List Stmt → Bool
  | .nil, _, [] => true
  | .cons t r, S, x :: q => chkS t S x && chkSs r S q
  | _, _, _ => false
def chkHs : HDs → SC → List ExceptHandler → Bool
  | .nil, _, [] => true
  | .cons (some x) none b r, S, .ExceptHandler (some (.Name nm _)) none (s0 :: suite) _ :: q => isGl S nm && decide (S.xt.lookup nm = some x) && chkSs b (su S) (s0 :: suite) && chkHs r S q
  | .cons (some x) (some i) b r, S, .ExceptHandler (some (.Name nm _)) (some y) (s0 :: suite) _ :: q => isGl S nm && decide (S.xt.lookup nm = some x) && decide (S.N[i]? = some y) && decide (S.sc.names.lookup y = some .local) && chkSs b (su S) (s0 :: suite) && chkHs r S q
  | _, _, _ => false
end

/-! ### lifting -/
structure StOk (S : SC) (G : GK) (T : PTab) (fns : Nat → Option FI) (n : Nat) (X : Cx) (W : WX) : Prop where
  cx : CxOk S G T fns n X W
  ps : S.cal = true → PassesOwn (model X.prog X.w) X.A X.env X.xe
  kf : X.env.scope.kind = .function
  stk : X.stack = X.env :: X.outer
  frm : X.env.frame = some X.env.locals
structure KL (G : GK) (W : WX) (H : Hp) (K : KT) (D : Ends) : Prop where
  nx : ∀ s h σ H', HX H H' → HRel G H' h → SRel G H' s σ → K.nx s h → D.nx σ H'
  rt : QL G H K.rt D.rt
  bk : ∀ s h σ H', HX H H' → HRel G H' h → SRel G H' s σ → K.bk s h → D.bk σ H'
  xr : ∀ c fs s h σ H' d, HX H H' → HRel G H' h → SRel G H' s σ → XRel G H' c fs d → K.xr c fs s h → W (.ref (G.xA c)) (some d) σ H'
abbrev ATS := ASt → AH → KT → Prop
def LS (G : GK) (W : WX) (t : ATS) : TS := fun D σ H => ∃ s h K, SRel G H s σ ∧ HRel G H h ∧ t s h K ∧ KL G W H K D
section
variable {G : GK} {W : WX} {H H1 : Hp} {K : KT} {D : Ends} {s : ASt} {σ : L2.St}
theorem KL.mono (k : KL G W H K D) (x : HX H H1) : KL G W H1 K D :=
  ⟨fun s h σ H' y => k.nx s h σ H' (x.trans y), k.rt.mono x, fun s h σ H' y => k.bk s h σ H' (x.trans y), fun c fs s h σ H' d y => k.xr c fs s h σ H' d (x.trans y)⟩
theorem KL.xl (k : KL G W H K D) (sr : SRel G H s σ) : XL G W σ H (kx K s) := fun c fs h d H' x hr xr q => k.xr c fs s h σ H' d x hr (sr.mono x) xr q
end
section
variable (G : GK) (T : PTab) (fns : Nat → Option FI) (n : Nat)
abbrev SS (W : WX) (t : ST) : TS := LS G W fun s h K => wS T (wCall T fns n) s h K t
abbrev SSs (W : WX) (t : STs) : TS := LS G W fun s h K => wSs T (wCall T fns n) s h K t
def HS (t : ST) : Prop := ∀ (S : SC) (X : Cx) (W : WX) (x : Stmt), StOk S G T fns n X W → chkS t S x = true → PS X x (SS G T fns n W t)
def HSs (t : STs) : Prop := ∀ (S : SC) (X : Cx) (W : WX) (x : List Stmt), StOk S G T fns n X W → chkSs t S x = true → PSs X x (SSs G T fns n W t)
end
section
variable {S : SC} {G : GK} {T : PTab} {fns : Nat → Option FI} {n : Nat} {X : Cx} {W : WX}
theorem sw_no {v : Expr} (h : noComp v = true) (x : Option Expr) (l : Nat) (env : Env) : swapsWith v x l env = pure false := by
  cases v <;> first | rfl | exact Bool.noConfusion (show false = true from h)
theorem chkE_noComp {e : EX} {v : Expr} (h : chkE e S v = true) : noComp v = true ∨ ∃ a b c d, v = .ListComp a b c d := by
  cases v <;> first | exact .inl rfl | exact .inr ⟨_, _, _, _, rfl⟩ | skip
  all_goals (cases e <;> exact Bool.noConfusion (show false = true from h))
theorem sw_eq (ok : StOk S G T fns n X W) {v : Expr} {x : Str} {p : Pos} {l : Nat} {e : EX} (h : chkE e S v = true) : swapsWith v (some (.Name x p)) l X.env = pure (swB S v (.Name x p)) := by
  rcases chkE_noComp h with h | ⟨a, b, c, d, rfl⟩
  · rw [sw_no h]
    cases v <;> first | rfl | exact Bool.noConfusion (show false = true from h)
  · have k1 : (X.env.blockKind == .function) = true := by
      unfold Env.blockKind
      rw [ok.kf]; rfl
    have k2 : (X.env.kindOf x == some .local) = (S.sc.names.lookup x == some .local) := by
      show (X.env.scope.names.lookup x == some .local) = _
      rw [ok.cx.sc]
    unfold swapsWith swB
    simp only [k1, k2, Bool.true_and, pure_bind]
    rfl
theorem loc_of_beq {o : Option NameKind} (h : (o == some NameKind.local) = true) : o = some .local := by
  cases o with
  | none => exact Bool.noConfusion (show false = true from h)
  | some k => cases k <;> first | rfl | exact Bool.noConfusion (show false = true from h)
/-! ### stores -/
theorem asg_name (ok : StOk S G T fns n X W) {i : Nat} {x : Str} {p pos : Pos} {e : EX} {v : Expr} (he : chkE e S v = true) (hx : okLoc S i x = true) : PS X (.Assign [.Name x p] v pos) (SS G T fns n W (.asg (.name i) e)) := by
  obtain ⟨h1, h2, h3⟩ := okLoc_of ok.cx hx
  have fin : ∀ D σ H, SS G T fns n W (.asg (.name i) e) D σ H → tAsg (EE G T fns n W e) (gName i) D σ H := by
    rintro D σ H ⟨s, h, K, sr, hr, w, kl⟩
    exact ⟨s, h, _, _, sr, hr, w, fun d h1 v H1 x1 hr1 rd q => kl.nx _ _ _ _ x1 hr1 ((sr.mono x1).set i rd) q, kl.xl sr⟩
  cases hb : swB S v (.Name x p) with
  | false =>
    exact PS.weak (ps_set (pos' := p) ok.cx.nd h1 h2 (sE G T fns n e S X W v ok.cx he).1 (by rw [sw_eq ok he, hb]) (ok.cx.lf x h3 h2)) fin
  | true =>
    cases v <;> first | exact Bool.noConfusion (show false = true from hb) | skip
    cases e <;> first | exact Bool.noConfusion (show false = true from he) | skip
    rename_i vx gs sc vp el t own it cond
    obtain ⟨x', tg, itx, ifs, sc', pos', e0, k0, k1, k2, k3, k4, k5, k6, k7, k8⟩ := lc_inv he
    cases e0
    have hb0 := hb
    obtain ⟨hb, _⟩ := an2 (show (_ && _) = true from hb)
    obtain ⟨hb, _⟩ := an2 hb
    have hl : X.env.scope.names.lookup x = some .local := by rw [ok.cx.sc]; exact loc_of_beq hb
    have hmap : ((own.map fun i => (S.N.getD i "", i)).map (·.2)) = own := by
      rw [List.map_map]
      exact List.map_id' own
    have hp := ps_setLc (X := X) (pos := vp) (py := p) (spos := pos) (g := LG G t) (tt := LT G (fun _ _ _ _ => False) fun s h Q Y => wC T (wCall T fns n) s h Q Y cond) (te := EE G T fns n (fun _ _ _ _ => False) el) (ok.cx.calm k0) ok.cx.nd h1 hl (by rw [sw_eq ok he, hb0])
      (sI G T fns n it S X W itx tg ok.cx k3 k1) (blkOk_by (by rw [ok.cx.N, ok.cx.sc]; exact k4)) (fun s H C cl fp => pg_ok (blk_ok ok.cx s H sc C cl fp own) k6) (fun s H C cl fp => (sEs G T fns n cond).c _ _ _ _ (blk_ok ok.cx s H sc C cl fp own) k7) (fun s H C cl fp => (sE G T fns n el _ _ _ _ (blk_ok ok.cx s H sc C cl fp own) k8).1)
      (by intro x; cases itx <;> first | rfl | exact Bool.noConfusion (show false = true from k5))
    rw [hmap] at hp
    refine PS.weak hp fun D σ H l => ?_
    exact lc_fin k2 _ _ _ (fin D σ H l)
end
end PL

set_option maxHeartbeats 4000000
/-! PL, exceptions: the first step (not in the chain yet): Base.__init__(self, ..) of an own base class without __init__. -/
namespace PL
open PySem PySem.Spec PyProof.Rows L2
theorem pe_hinit {X : Cx} {e : Expr} {es : List Expr} {ta : TA} {p1 p2 pos : Pos} {x : Str} {CH : Addr} {mc : Value} {pl : Sem Bool} (hg : Gl X x) (hdb : (x == ("__debug__" : Str)) = false) (hm : X.mg x = some (.ref CH))
    (hgt : PySem.W.specialIn X.K (.ref CH) "__getattribute__" = some (some (.builtin "type.__getattribute__"))) (hr : PySem.W.readsIn X.K CH mc = true) (hf : PySem.W.findCls X.K (.ref CH) mc "__init__" = some (.val (.builtin "ValueError.__init__"))) (ha : PA X (e :: es) ta)
    (hc : eval (.Call (.Attribute (.Name x p1) "__init__" p2) (e :: es) [] pos) X.env = (do
      let ov ← eval (.Name x p1) X.env
      standAt p2.atName
      let (f, first) ← holding [ov] (getMethod ov "__init__" pl)
      callWith pos f first (backTo pos (starEach (e :: es) X.env)) (backToKw pos (keywordEach [] X.env))))
    (he : starEach (e :: es) X.env = (false, eval e X.env) :: starEach es X.env) (hpl : (backTo pos (starEach es X.env)).any (·.1) = false) :
    PE X (.Call (.Attribute (.Name x p1) "__init__" p2) (e :: es) [] pos) (tVeI X.K ta) := by
  refine ⟨fun pins s σ H Q I h => ?_⟩
  refine PySem.W.methodCall_KW (ld_glob I hg hm ?_ hdb) hc
  refine PySem.W.method_cls I.kIn hgt (PySem.W.cls_value I.kIn hr hf (by decide +kernel) ?_)
  show wpAny _ _ (callWith pos (Value.builtin "ValueError.__init__") [] (backTo pos (starEach (e :: es) X.env)) []) _ _ _
  refine PyProof.Rows.callWith_method1 (thn (ha.run pos pins _ σ H _ (I.tok _) h) fun us s1 ⟨vs, H1, I1, r1, a, C, ws, ev, hl, T, ea, q⟩ => ?_) he hpl
  subst ev
  cases r1 with
  | @cons _ u0 _ ur ra rw' =>
    obtain rfl : u0 = Value.ref a := ra
    have hlen : ur.length ≤ sizeLine := by
      rw [← Paired.length rw', sizeLine_eq]
      omega
    exact oinit_ok T I1 ea hlen fun s' J => ⟨.non, H1, J, rfl, q⟩
theorem oexB_ok {K : PySem.W.Frag} {C : Addr} (h : oexB K C = true) : OexC K C := by
  unfold oexB at h
  simp only [Bool.and_eq_true, decide_eq_true_eq] at h
  obtain ⟨⟨⟨⟨h1, h2⟩, h3⟩, h4⟩, h5⟩ := h
  refine ⟨?_, He.eqO_ok h2, h3, h4, h5⟩
  unfold oexS at h1
  split at h1
  · rename_i t dd nm bs c bm N q sn sub ab col k0 k1 k2 k3 nw k5 e
    simp only [Bool.and_eq_true, decide_eq_true_eq] at h1
    obtain ⟨⟨⟨g1, g2⟩, g3⟩, g4⟩ := h1
    subst g1 g2 g4
    exact ⟨nm, q, N, bs, bm, sn, sub, ab, col, dd, k0, k1, k2, k3, k5, e, g3⟩
  · cases h1
/-! ### the stores of such an __init__ -/
def stAt (a C : Addr) (H : Hp) : Option (Addr × List (Str × V)) → Prop
  | none => H a = some (exo a C none)
  | some (dx, gs) => H a = some (exo a C (some dx)) ∧ H dx = some (exd dx gs) ∧ gs.length ≤ 800 ∧ dx ≠ a
def nmB (N : List Str) (sc : Scope) (i : Nat) (x : Str) : Bool := decide (N[i]? = some x) && (match sc.names.lookup x with
  | some .local => true
  | _ => false) && decide (x ≠ "__debug__") && decide (x ≠ "__classdict__")
theorem nmB_pe {X : Cx} {N : List Str} {sc : Scope} {i : Nat} {x : Str} {pos : Pos} (hN : X.N = N) (hs : X.env.scope = sc) (h : nmB N sc i x = true) : PE X (.Name x pos) (tVar i) := by
  unfold nmB at h
  simp only [Bool.and_eq_true, decide_eq_true_eq] at h
  obtain ⟨⟨⟨h1, h2⟩, h3⟩, h4⟩ := h
  refine pe_var (by rw [hN]; exact h1) ?_ (beq_eq_false_iff_ne.mpr h3) (beq_eq_false_iff_ne.mpr h4)
  unfold L2.Vis
  rw [hs]
  split at h2
  · exact .inl (by assumption)
  · cases h2
def chkIB (N : List Str) (sc : Scope) : Nat → List Str → List Stmt → Bool
  | _, [], [] => true
  | i, f :: fs, .Assign [.Attribute (.Name s _) f' _] (.Name p _) _ :: r => nmB N sc 0 s && nmB N sc i p && decide (f' = f) && chkIB N sc (i + 1) fs r
  | _, _, _ => false
def tSt (K : PySem.W.Frag) (fs : List Str) (i : Nat) : TS := fun D σ H => ∃ (a C : Addr) (ys : List V) (d : Option (Addr × List (Str × V))), σ[0]? = some (some (.ref a)) ∧ (∀ (j : Nat) y, ys[j]? = some y → σ[i + j]? = some (some y)) ∧ ys.length = fs.length ∧ stAt a C H d ∧ fs.length ≤ 100 ∧
  (match d with
    | none => True
    | some (_, gs) => gs.length + fs.length ≤ 500) ∧ OexC K C ∧ (∀ f ∈ fs, PySem.W.findIn K (.ref C) f = some none) ∧ stR a C (fs.zip ys) d (fun H' => D.nx σ H') H
theorem stores_ok {X : Cx} {N : List Str} {sc : Scope} (hN : X.N = N) (hs : X.env.scope = sc) : ∀ {fs : List Str} {i : Nat} {body : List Stmt}, chkIB N sc i fs body = true → PSs X body (tSt X.K fs i)
  | [], i, [], _ => by
    refine PSs.weak pss_nil ?_
    rintro D σ H ⟨a, C, ys, d, _, _, hl, _, _, _, _, _, q⟩
    exact q
  | [], i, _ :: _, h => Bool.noConfusion (show false = true from h)
  | f :: fs, i, body, h => by
    have key : ∃ s p1 p2 p p3 p4 r, body = .Assign [.Attribute (.Name s p1) f p2] (.Name p p3) p4 :: r ∧ nmB N sc 0 s = true ∧ nmB N sc i p = true ∧ chkIB N sc (i + 1) fs r = true := by
      unfold chkIB at h
      split at h <;> first | (cases h; done) | skip
      all_goals first | (rename_i heq; cases heq; done) | skip
      rename_i heq
      cases heq
      obtain ⟨h, h4⟩ := an2 h
      obtain ⟨h, h3⟩ := an2 h
      obtain ⟨h1, h2⟩ := an2 h
      obtain rfl := of_decide_eq_true h3
      exact ⟨_, _, _, _, _, _, _, rfl, h1, h2, h4⟩
    obtain ⟨s, p1, p2, p, p3, p4, r, rfl, h1, h2, h4⟩ := key
    refine PSs.weak (pss_cons (ps_ost (nmB_pe hN hs h1) (nmB_pe hN hs h2) (sw_no rfl _ _ _)) (stores_ok hN hs h4)) ?_
    rintro D σ H ⟨a, C, ys, d, e0, ey, hl, st, l1, l2, T, hno, q⟩
    cases ys with
    | nil => cases hl
    | cons y ys =>
      refine ⟨y, ey 0 y rfl, .ref a, e0, a, C, rfl, T, hno f (by simp), ?_⟩
      have ey' : ∀ (j : Nat) z, ys[j]? = some z → σ[i + 1 + j]? = some (some z) := fun j z e => by
        have := ey (j + 1) z e
        rw [show i + 1 + j = i + (j + 1) by omega]
        exact this
      simp only [List.length_cons] at hl l1 l2
      cases d with
      | none =>
        refine .inl ⟨st, fun dx n1 n2 => ?_⟩
        exact ⟨a, C, ys, some (dx, [(f, y)]), e0, ey', by omega, ⟨upd_same, by rw [upd_ne n2]; exact upd_same, by simp, n2⟩, by omega, by simp; omega, T, fun g hg => hno g (by simp [hg]), q dx n1 n2⟩
      | some p =>
        obtain ⟨dx, gs⟩ := p
        obtain ⟨s1, s2, s3, s4⟩ := st
        have hne : a ≠ dx := Ne.symm s4
        refine .inr ⟨dx, gs, s1, s2, by omega, ?_⟩
        exact ⟨a, C, ys, some (dx, (f, y) :: gs), e0, ey', by omega, ⟨by rw [upd_ne hne]; exact s1, upd_same, by simp; omega, s4⟩, by omega, by simp; omega, T, fun g hg => hno g (by simp [hg]), q⟩
/-! ### the whole __init__ -/
theorem mcall_all {o : Expr} {m : Str} {apos pos : Pos} {xs : List Expr} {env : Env} (hm : methOk o m apos pos xs.length = true) (hall : (backTo pos (starEach xs env)).all (fun x => !x.1) = true) : eval (.Call (.Attribute o m apos) xs [] pos) env = (do
      let ov ← eval o env
      standAt apos.atName
      let (f, first) ← holding [ov] (getMethod ov m (plainOf o env))
      callWith pos f first (backTo pos (starEach xs env)) (backToKw pos (keywordEach [] env))) := by
  have hb := base_ok (env := env) hm
  obtain ⟨h1, h2⟩ := an2 hm
  obtain ⟨_, h1⟩ := an2 h1
  have h1' : xs.length < 30 := of_decide_eq_true h1
  show (do let ov ← attributeBase o m env (eval o env); standAt apos.atName; methodCall o m apos pos env ov (xs.length + ([] : List Keyword).length) (backTo pos (starEach xs env)) (backToKw pos (keywordEach [] env))) = _
  rw [hb]
  congr 1
  funext ov
  congr 1
  funext _
  exact mcall_line (by
    unfold methodCallForm
    rw [hall]
    show (true && true && decide (xs.length + 0 + 0 < 30)) = true
    simp
    omega) h2
structure HBase (K : PySem.W.Frag) (CH : Addr) : Prop where
  g : PySem.W.specialIn K (.ref CH) "__getattribute__" = some (some (.builtin "type.__getattribute__"))
  r : PySem.W.readsIn K CH (.type "type") = true
  f : PySem.W.findCls K (.ref CH) (.type "type") "__init__" = some (.val (.builtin "ValueError.__init__"))
def chkOI (N : List Str) (sc : Scope) (base : Str) (fs : List Str) : List Stmt → Bool
  | .Expr (.Call (.Attribute (.Name b _) m apos) [.Name s _, .Constant (.str _) _ _] [] pos) _ :: r => decide (b = base) && decide (m = "__init__") && decide (sc.names.lookup b = some .globalImplicit) && decide (b ≠ "__debug__") && methOk (.Name b ⟨0, 0, 0, 0⟩) m apos pos 2 && nmB N sc 0 s && chkIB N sc 1 fs r
  | _ => false
theorem init_body {X : Cx} {N : List Str} {sc : Scope} {base : Str} {CH : Addr} {fs : List Str} {body : List Stmt} (hN : X.N = N) (hs : X.env.scope = sc) (hm : X.mg base = some (.ref CH)) (hb : HBase X.K CH) (h : chkOI N sc base fs body = true) :
    ∃ z, PSs X body (tSeq (tDrop (tVeI X.K (tCons (tVar 0) (tCons (tC (.str z)) tNil)))) (tSt X.K fs 1)) := by
  unfold chkOI at h
  split at h
  · rename_i b _ m apos s _ z _ _ pos _ r
    simp only [Bool.and_eq_true, decide_eq_true_eq] at h
    obtain ⟨⟨⟨⟨⟨⟨h1, h2⟩, h3⟩, h4⟩, h5⟩, h6⟩, h7⟩ := h
    subst h1 h2
    refine ⟨z, pss_cons (ps_expr (pe_hinit (pl := plainOf (.Name b _) X.env) ?_ (beq_eq_false_iff_ne.mpr h4) hm hb.g hb.r hb.f (pa_cons (nmB_pe hN hs h6) (pa_cons pe_str pa_nil)) (mcall_all (by simpa [methOk] using h5) rfl) rfl rfl) rfl) (stores_ok hN hs h7)⟩
    show X.env.scope.names.lookup b = _
    rw [hs]; exact h3
  · cases h
theorem init_ok {P : Program} {w : World} {K : PySem.W.Frag} {mg : Str → Option Value} {base : Heap} {name qual : Str} {args : Arguments} {body : List Stmt} {sc : Scope} {fI : Addr} {fd : FuncData} {N : List Str} {bn : Str} {CH C : Addr} {fs : List Str}
    (F : FunD K name qual args body sc [] [] fI fd) (S : FnScope N N sc) (hN : N.length = fs.length + 1) (hm : mg bn = some (.ref CH)) (hb : HBase K CH) (h : chkOI N sc bn fs body = true) :
    FnOk P w K mg base (L2N.CX P w) 1 fI fd N (spInit K C fs) := by
  refine F.ok (k := 0) S ?_ ?_
  · rintro vs H Q E ⟨a, ys, rfl, hl, _⟩
    simp [hl, hN]
  · rintro cdv A outer s H vs Q E hr ⟨a, ys, rfl, hl, l1, ea, T, hno, q⟩
    obtain ⟨z, hz⟩ := init_body (X := cxOf (L2N.CX P w) P w K mg base N qual sc fI cdv A outer s H E) rfl rfl hm hb h
    refine ⟨_, hz, ?_⟩
    have e0 : (L2.start N (V.ref a :: ys))[0]? = some (some (.ref a)) := by simp [L2.start]
    refine ⟨_, e0, a, C, [.str z], rfl, by simp, T, ea, ?_⟩
    refine ⟨a, C, ys, none, e0, fun j y ej => ?_, hl, ea, l1, trivial, T, hno, q⟩
    have hj := (List.getElem?_eq_some_iff.mp ej).1
    unfold L2.start
    rw [List.getElem?_append_left (by simp; omega), List.getElem?_map, show 1 + j = j + 1 by omega, List.getElem?_cons_succ, ej]
    rfl
/-! ### raise -/
theorem stR_of {a C dx : Addr} {N : Hp → Prop} : ∀ (r gs : List (Str × V)) (H : Hp), H dx = some (exd dx gs) → (∀ H' : Hp, (∀ b, b ≠ dx → H' b = H b) → H' dx = some (exd dx (r.reverse ++ gs)) → N H') → stR a C r (some (dx, gs)) N H
  | [], gs, H, e, q => q H (fun _ _ => rfl) (by simpa using e)
  | (f, y) :: r, gs, H, e, q => stR_of r ((f, y) :: gs) _ upd_same fun H' hb e' => q H' (fun b hne => (hb b hne).trans (upd_ne hne)) (by simpa using e')
theorem zip_lookup : ∀ {fs : List Str} {vs : List V} {i : Nat} {f : Str} {v : V}, fs.Nodup → fs[i]? = some f → vs[i]? = some v → (f, v) ∈ fs.zip vs
  | f0 :: fs, v0 :: vs, 0, f, v, _, e1, e2 => by
    cases e1; cases e2; simp
  | f0 :: fs, v0 :: vs, i + 1, f, v, nd, e1, e2 => by
    rw [List.zip_cons_cons]
    exact List.mem_cons_of_mem _ (zip_lookup (List.nodup_cons.mp nd).2 (by simpa using e1) (by simpa using e2))
theorem look_nodup : ∀ {l : List (Str × V)} {f : Str} {v : V}, (l.map (·.1)).Nodup → (f, v) ∈ l → l.lookup f = some v
  | (g, u) :: l, f, v, nd, h => by
    rw [List.map_cons] at nd
    obtain ⟨n1, n2⟩ := List.nodup_cons.mp nd
    rw [List.lookup_cons]
    rcases List.mem_cons.mp h with e | hm
    · cases e; simp
    · have hne : (f == g) = false := beq_eq_false_iff_ne.mpr (by
        rintro rfl
        exact n1 (List.mem_map.mpr ⟨(_, v), hm, rfl⟩))
      rw [hne]
      exact look_nodup n2 hm
theorem zip_keys : ∀ {fs : List Str} {vs : List V}, vs.length = fs.length → (fs.zip vs).map (·.1) = fs
  | [], [], _ => rfl
  | f :: fs, v :: vs, h => by
    rw [List.zip_cons_cons, List.map_cons, zip_keys (by simpa using h)]
  | [], _ :: _, h => by cases h
  | _ :: _, [], h => by cases h
/-- the heap behind a raise -/
theorem raise_heap {G : GK} {H H2 : Hp} {h : AH} {a dx : Addr} {c : Nat} {ds : List DV} {vs : List V} {gs : List (Str × V)} (hr : HRel G H h) (na : H a = none) (nd : H dx = none) (hne : dx ≠ a) (h2 : ∀ b, b ≠ dx → b ≠ a → H2 b = H b) (rd : DRels G.K H ds vs) (hl : ds.length = (G.xf c).length) (lc : c < G.nX) (hnd : (G.xf c).Nodup) (hg : gs = ((G.xf c).zip vs).reverse) :
    HX H (upd (del H2 a) dx (.xd gs)) ∧ HRel G (upd (del H2 a) dx (.xd gs)) h ∧ XRel G (upd (del H2 a) dx (.xd gs)) c ds dx := by
  have at_ : ∀ b, b ≠ dx → b ≠ a → upd (del H2 a) dx (.xd gs) b = H b := fun b h1 h3 => by rw [upd_ne h1, del_ne h3, h2 b h1 h3]
  have ne_of : ∀ {b u}, H b = some u → b ≠ dx ∧ b ≠ a := fun {b u} e => ⟨(by rintro rfl; rw [nd] at e; cases e), (by rintro rfl; rw [na] at e; cases e)⟩
  have hx : HX H (upd (del H2 a) dx (.xd gs)) := fun b xs e => by rw [at_ b (ne_of e).1 (ne_of e).2]; exact e
  refine ⟨hx, ⟨fun p o e => ?_, fun p e => by
    obtain ⟨c', d', z⟩ := hr.hot p e
    exact ⟨c', d', by rw [at_ p (ne_of z).1 (ne_of z).2]; exact z⟩⟩, gs, upd_same, lc, hl, ?_⟩
  · have q := hr p o e
    obtain ⟨u, hu, _⟩ := q.there
    exact q.stay hx (at_ p (ne_of hu).1 (ne_of hu).2) fun d y ed => by rw [at_ d (ne_of ed).1 (ne_of ed).2]; exact ed
  · intro i f d e1 e2
    rw [List.getElem?_map] at e2
    cases e3 : ds[i]? with
    | none => rw [e3] at e2; cases e2
    | some d' =>
      rw [e3] at e2
      cases e2
      obtain ⟨v, e4, r⟩ := rd.get e3
      refine ⟨v, ?_, r.mono hx⟩
      have hlen : vs.length = (G.xf c).length := by rw [rd.length, hl]
      rw [hg]
      refine look_nodup ?_ (List.mem_reverse.mpr (zip_lookup hnd e1 e4))
      rw [List.map_reverse, zip_keys hlen]
      exact List.pairwise_reverse.mpr (hnd.imp fun h => Ne.symm h)
/-- raise C(..), C one of the own classes -/
theorem raise_ok {G : GK} {X : Cx} {W : WX} {x : Str} {p pos rpos : Pos} {e : Expr} {es : List Expr} {c : Nat} {fI : Addr} {fd : FuncData} {ps : List Str} {ta : ATA} (hc : X.calm = true) (tk : L2N.Takes X W) (hK : G.K = X.K) (T : OexC X.K (G.xA c)) (iC : PySem.W.findIn X.K (.ref (G.xA c)) "__init__" = some (some (.ref fI))) (tI : PySem.W.typeIn X.K (.ref fI) = some (.type "function"))
    (F1 : FnOk X.prog X.w X.K X.mg X.base (L2N.CX X.prog X.w) 1 fI fd ps (spInit X.K (G.xA c) (G.xf c))) (hr : Room 2 X.A) (hb : Binds X.K fd ps []) (hg : Gl X x) (hm : X.mg x = some (.ref (G.xA c))) (hdb : (x == ("__debug__" : Str)) = false) (hno : ∀ f ∈ G.xf c, PySem.W.findIn X.K (.ref (G.xA c)) f = some none) (hnd : (G.xf c).Nodup) (lc : c < G.nX) (h0 : 0 < (G.xf c).length) (h1 : (G.xf c).length ≤ 100)
    (ha : PA X (e :: es) (LA G W ta)) (he : starEach (e :: es) X.env = (false, eval e X.env) :: starEach es X.env) (hpl : (backTo pos (starEach es X.env)).any (·.1) = false) :
    PS X (.Raise (some (.Call (.Name x p) (e :: es) [] pos)) none rpos) (LS G W fun s h K => ta s h (fun ds h1 => ds.length = (G.xf c).length ∧ K.xr c ds s h1) (kx K s)) := by
  refine PS.weak (L2N.ps_raise hc tk (FP.pmk_oexN T iC tI F1 hr hb (fun _ _ _ _ _ _ _ hcx => ?_) hg hm ha hdb he hpl)) ?_
  · obtain ⟨_, _, _, _, _, _, _, _, _, _, _, _, z⟩ := hcx
    exact z.elim
  · rintro D σ H ⟨s, h, K, sr, hr', w, kl⟩
    refine ⟨s, h, _, _, sr, hr', w, fun ds h2 vs H1 x1 hr1 rd q => ?_, kl.xl sr⟩
    obtain ⟨hl, q⟩ := q
    have hlv : vs.length = (G.xf c).length := by rw [rd.length, hl]
    refine ⟨by omega, fun a na => ?_⟩
    refine ⟨a, vs, by rw [List.append_nil], hlv, h1, upd_same, T, hno, ?_⟩
    cases hfs : G.xf c with
    | nil => rw [hfs] at h0; cases h0
    | cons f fs =>
      cases vs with
      | nil => rw [hfs] at hlv; cases hlv
      | cons y ys =>
        rw [List.zip_cons_cons]
        intro dx n1 n2
        have nd : H1 dx = none := by rw [upd_ne n2] at n1; exact n1
        refine stR_of _ _ _ (by rw [upd_ne n2]; exact upd_same) fun H' hb' e' => ?_
        refine ⟨rfl, dx, _, ?_, e', nd, ?_⟩
        · rw [hb' a (Ne.symm n2)]; exact upd_same
        · have hgs : (fs.zip ys).reverse ++ [(f, y)] = ((G.xf c).zip (y :: ys)).reverse := by rw [hfs]; simp
          obtain ⟨g1, g2, g3⟩ := raise_heap (H2 := H') (c := c) hr1 na nd n2 (fun b b1 b2 => by rw [hb' b b1, upd_ne b2, upd_ne b1, upd_ne b2]) rd hl lc hnd hgs
          exact kl.xr c ds s h2 σ _ dx (x1.trans g1) g2 (sr.mono (x1.trans g1)) g3 q
end PL

set_option maxHeartbeats 8000000
/-! PL, part py: try. -/
namespace PL
open PySem PySem.Spec PyProof.Rows L2
section
variable {X : Cx} {pins : List (Addr × Obj)} {σ : L2.St} {H : Hp} {sI s : Shared} {a : Addr} {oe : Obj} {vs : Array Value} {cls : Value} {d : Option Addr}
/-- the caught exception is tracked from now on -/
theorem inv_exc (J : Inv X pins σ H sI) (fresh : sI.heap.get? a = none) (I : Inv X pins σ H s) (ha : s.heap.get? a = some oe) (hd : oe.data = .fields vs) (hz : L2N.Zn cls d oe) (na : H a = none) (nl : a ≠ X.env.locals) :
    Inv (X.suite a (X.pn ++ pins)) [] σ (upd H a (exH a cls d)) s := by
  have at0 : ∀ b o, X.s_0.heap.get? b = some o → b ∉ X.ex → b ≠ a := fun b o e hx z => by
    subst z
    obtain ⟨o', e'⟩ := J.base.there b o e hx
    rw [fresh] at e'; cases e'
  have at1 : ∀ b o, H b = some o → b ≠ a := fun b o e z => by subst z; rw [na] at e; cases e
  refine { ok := I.ok.suite a _, os := I.os, bare := I.bare, base := ?_, loc := I.loc, cell := I.cell, free := ?_, freeC := ?_, pin := ?_, hok := ?_, len := I.len }
  · refine { keep := I.base.keep, slot := I.base.slot, free := ?_, there := I.base.there, tups := ?_, frzs := ?_, tbls := ?_ }
    · intro b o e n hx
      rw [upd_ne (at0 b o e hx)]
      exact I.base.free b o e n hx
    · intro b xs e
      have q := I.base.tups b xs e
      rw [upd_ne (at1 b _ q)]; exact q
    · intro b o w e
      have q := I.base.frzs b o w e
      rw [upd_ne (at1 b _ q)]; exact q
    · intro b ps e
      obtain ⟨m, q⟩ := I.base.tbls b ps e
      exact ⟨m, by rw [upd_ne (at1 b _ q)]; exact q⟩
  · show upd H a _ X.env.locals = none
    rw [upd_ne (Ne.symm nl)]; exact I.free
  · intro x c e
    have e' : X.env.cells.lookup x = some c := e
    rw [upd_ne ?_]
    · exact I.freeC x c e'
    · rintro rfl
      obtain ⟨v, o, e1, e2⟩ := I.cell x c e'
      rw [ha] at e1; cases e1
      have e2' := e2
      simp [hd] at e2'
  · intro p hp
    have hp' : p ∈ X.pn ++ pins := by simpa using hp
    obtain ⟨q1, q2, q3⟩ := I.pin p hp'
    obtain ⟨r1, _⟩ := J.pin p hp'
    refine ⟨q1, ?_, q3⟩
    rw [upd_ne ?_]
    · exact q2
    · intro z
      rw [z, fresh] at r1; cases r1
  · intro b o e
    by_cases z : b = a
    · subst z
      rw [upd_same] at e
      cases e
      exact ⟨⟨oe, vs, ha, hz, hd⟩, ⟨oe, ha⟩, fun h1 h2 ⟨o1, v1, f1, f2⟩ k => ⟨o1, v1, k _ f1, f2⟩⟩
    · rw [upd_ne z] at e
      refine (I.hok b o e).stay (fun _ _ _ q => q) (fun c q => ?_) (fun c xs q => ?_)
      · rw [upd_ne (at1 c _ q)]; exact q
      · rw [upd_ne (at1 c _ q)]; exact q
theorem inv_unexc {pn' : List (Addr × Obj)} (ok : X.Ok) (I : Inv (X.suite a (X.pn ++ pins)) pn' σ H s) : Inv X pins σ H s :=
  { ok := ok, os := I.os, bare := I.bare, base := I.base, loc := I.loc, cell := I.cell, free := I.free, freeC := I.freeC, pin := fun p hp => I.pin p (List.mem_append_left _ hp), hok := I.hok, len := I.len }
end
/-- the clauses, and what each wishes -/
inductive HdX (X : Cx) (Wo : WX) : List ExceptHandler → (Ends → WX) → Prop
  | nil : HdX X Wo [] (fun _ => Wo)
  | one {x : Str} {np pos : Pos} {c : Value} {ts : Addr → TS} {b0 : Stmt} {suite : List Stmt} {hds : List ExceptHandler} {w : Ends → WX} (hc : Names X x c) (hsu : ∀ a pn, PSs (X.suite a pn) (b0 :: suite) (ts a)) (r : HdX X Wo hds w) :
      HdX X Wo (.ExceptHandler (some (.Name x np)) none (b0 :: suite) pos :: hds) (fun D cls d σ H => ∃ b, PySem.W.exmOne X.K cls c = some b ∧ (b = true → ∀ a, H a = none → ts a D σ (upd H a (exH a cls d))) ∧ (b = false → w D cls d σ H))
  | as {x n : Str} {i : Nat} {np pos : Pos} {c : Value} {ts : Addr → TS} {b0 : Stmt} {suite : List Stmt} {hds : List ExceptHandler} {w : Ends → WX} (hi : X.N[i]? = some n) (hl : X.env.kindOf n = some .local) (hc : Names X x c) (hsu : ∀ a pn, PSs (X.suite a pn) (b0 :: suite) (ts a)) (r : HdX X Wo hds w) :
      HdX X Wo (.ExceptHandler (some (.Name x np)) (some n) (b0 :: suite) pos :: hds) (fun D cls d σ H => ∃ b, PySem.W.exmOne X.K cls c = some b ∧
        (b = true → ∀ a, H a = none → ts a ⟨fun σ' H' => D.nx (σ'.set i none) H', D.rt, fun σ' H' => D.bk (σ'.set i none) H', fun σ' H' => D.ct (σ'.set i none) H'⟩ (σ.set i (some (.ref a))) (upd H a (exH a cls d))) ∧ (b = false → w D cls d σ H))
section
variable {X : Cx} {body orelse : List Stmt} {h0 : ExceptHandler} {hds : List ExceptHandler} {pos : Pos} {tb u : TS} {Wo : WX} {w : Ends → WX}
theorem ps_tryX (hst : X.stack = X.env :: X.outer) (hfm : X.env.frame = some X.env.locals) (hN : X.N.Nodup) (tk : L2N.Takes X Wo) (ho : PSs X orelse u) (hh : HdX X Wo (h0 :: hds) w) {tb : WX → TS}
    (hb : ∀ (W : WX) (pn : List (Addr × Obj)) (xe : Value → Shared → Prop), L2N.Takes (X.tr pn xe) W → PassesOwn (model X.prog X.w) X.A X.env xe → PSs (X.tr pn xe) body (tb W)) :
    PS X (.Try body (h0 :: hds) orelse [] pos) (fun D σ H => tb (w D) ⟨u D, D.rt, D.bk, D.ct⟩ σ H) := by
  refine ⟨fun pins s σ H D I q0 => wpAny_Try_except ?_⟩
  have ok := I.ok
  have fr : X.A.frames = some (X.env :: X.outer) := hst ▸ ok.frames
  have caught : L2N.Takes (X.tr (X.pn ++ pins) fun e t1 => wpAny (model X.prog X.w) X.A (noteFrame e X.env) (fun _ t2 => wpAny (model X.prog X.w) X.A (setFlight e none)
      (fun _ t3 => wpAny (model X.prog X.w) X.A (handleBy e X.env (h0 :: hds)) (SP X pins D) X.xe t3) X.xe t2) X.xe t1) (w D) := by
    rintro _ s' ⟨a, B, sI, pn2, σ1, H1, cls, d, rfl, J0, nb, up, sky, na, os, ag, wish⟩
    have J : Inv X pins σ1 H1 sI := J0.ofTry ok
    have sky2 : Sky B (X.env :: X.outer) a (L2N.Zn cls d) X.env.locals s'.heap := hst ▸ sky
    refine L2N.Sky.land (A := X.A) (env := X.env) (outer := X.outer) L2N.Zn.steady fr hfm sky2 fun g3 fl up3 => ?_
    have K3 : Inv X pins σ1 H1 { s' with heap := g3 } := J.landed nb fl.1 (up.trans up3) os ag
    obtain ⟨o3, v3, e3, z3, d3⟩ := fl.there
    have offs : a ∉ frs (X.env :: X.outer) := fun hm => by
      obtain ⟨_, o', e', nf⟩ := fl.2.2.1.mem hm
      rw [e3] at e'; cases e'
      exact nf _ d3
    have nl : a ≠ X.env.locals := fun z => offs (List.mem_filterMap.mpr ⟨X.env, List.mem_cons_self, by rw [hfm, z]⟩)
    have fresh : sI.heap.get? a = none := by
      cases e : sI.heap.get? a with
      | none => rfl
      | some o =>
        have := nb a o e (by rw [hst]; exact offs)
        rw [fl.2.1] at this; cases this
    have S3 := inv_exc J fresh K3 e3 d3 z3 na nl
    have looks : PySem.W.Looks (model X.prog X.w) g3 (typeOf (.ref a)) cls := fun _ _ _ _ k q => wpAny_typeOf_ref (k _ _ e3) (by rw [z3.1]; exact q)
    have test : ∀ {x : Str} {np : Pos} {c : Value} {Q E : Value → Shared → Prop}, Names X x c → Q c { s' with heap := g3 } → wpAny (model X.prog X.w) (X.A.mark (some (.ref a))) (eval (.Name x np) X.env) Q E { s' with heap := g3 } := by
      rintro x np c Q E ⟨g1, g2, m | ⟨m, v, nn⟩⟩ q
      · exact ld_glob (X := X.suite a (X.pn ++ pins)) S3 g1 m q g2
      · exact ld_blt (X := X.suite a (X.pn ++ pins)) S3 g1 m v q nn g2
    have back : ∀ {σ6 : L2.St} {H6 : Hp} {t : Shared}, Inv (X.suite a (X.pn ++ pins)) [] σ6 H6 t → Inv X pins σ6 H6 t := fun {_ _ _} I6 => inv_unexc ok I6
    have each : ∀ {hs : List ExceptHandler} {w' : Ends → WX}, HdX X Wo hs w' → w' D cls d σ1 H1 → wpAny (model X.prog X.w) X.A (handleBy (.ref a) X.env hs) (SP X pins D) X.xe { s' with heap := g3 } := by
      intro hs w' hk
      induction hk with
      | nil =>
        intro wh
        refine wpAny_handleBy_nil ?_
        obtain ⟨_, _, _, oe, xs, tb', _, _, f1, _, f3, f4, _⟩ := id fl
        unfold PySem.passOn
        refine wpAny_bind (wpAny_field f1 f3 f4 ?_)
        rw [if_neg (by simp)]
        have out : wpAny (model X.prog X.w) X.A (setFlight (.ref a) X.env.frame) (fun _ t4 => wpAny (model X.prog X.w) X.A (throw (.ref a) : Sem Flow) (SP X pins D) X.xe t4) X.xe { s' with heap := g3 } := by
          rw [hfm]
          exact HandSPX.setFlight_upZ fl fun g4 held up4 => wpAny_throw (tk _ _ ⟨a, B, sI, pins, σ1, H1, cls, d, rfl, J, nb, (up.trans up3).trans up4, .inr (.inr (hst ▸ held)), na, os, ag, wh⟩)
        first
          | exact wpAny_bind (wpAny_pure (wpAny_bind out))
          | exact wpAny_bind out
      | one hc hsu r ih =>
        rintro ⟨b, em, yes, no⟩
        refine wpAny_handleBy_cons (codeAny_handlers_test ?_) nofun
        refine test hc ((PySem.W.exm_one (M := model X.prog X.w) K3.kIn looks em).here ?_)
        cases b with
        | false => exact ih (no rfl)
        | true =>
          refine codeAny_handlers_suite (HandSPX.lands_againZ fl fun g4 fl4 up4 => ?_)
          have K4 : Inv X pins σ1 H1 { s' with heap := g4 } := J.landed nb fl4.1 ((up.trans up3).trans up4) os ag
          obtain ⟨o4, v4, e4, z4, d4⟩ := fl4.there
          have S4 := inv_exc J fresh K4 e4 d4 z4 na nl
          refine wpAny_mono ((hsu a _).run [] _ _ _ _ S4 (yes rfl a na)) (fun f t6 q => ?_) (fun _ _ z => False.elim z)
          cases f with
          | next => obtain ⟨σ6, H6, I6, q6⟩ := q; exact ⟨σ6, H6, back I6, q6⟩
          | brk => obtain ⟨σ6, H6, I6, q6⟩ := q; exact ⟨σ6, H6, back I6, q6⟩
          | cont => obtain ⟨σ6, H6, I6, q6⟩ := q; exact ⟨σ6, H6, back I6, q6⟩
          | ret _ => obtain ⟨v6, σ6, H6, I6, r6, q6⟩ := q; exact ⟨v6, σ6, H6, back I6, r6, q6⟩
      | as hi hl hc hsu r ih =>
        rintro ⟨b, em, yes, no⟩
        refine wpAny_handleBy_cons (codeAny_handlers_test ?_) nofun
        refine test hc ((PySem.W.exm_one (M := model X.prog X.w) K3.kIn looks em).here ?_)
        cases b with
        | false => exact ih (no rfl)
        | true =>
          refine codeAny_handlers_suite_as (HandSPX.lands_againZ fl fun g4 fl4 up4 => ?_)
          have K4 : Inv X pins σ1 H1 { s' with heap := g4 } := J.landed nb fl4.1 ((up.trans up3).trans up4) os ag
          obtain ⟨o4, v4, e4, z4, d4⟩ := fl4.there
          have S4 := inv_exc J fresh K4 e4 d4 z4 na nl
          refine store_ok (X := X.suite a (X.pn ++ pins)) (v := .ref a) S4 hN hi (.inl hl) rfl (fun t5 S5 => ?_) (.inr hl)
          refine wpAny_mono ((hsu a _).run [] t5 _ _ _ S5 (yes rfl a na)) (fun f t6 q => ?_) (fun _ _ z => False.elim z)
          cases f with
          | next => obtain ⟨σ6, H6, I6, q6⟩ := q; exact gone_ok (back I6) hN hi hl fun t7 I7 => ⟨_, _, I7, q6⟩
          | brk => obtain ⟨σ6, H6, I6, q6⟩ := q; exact gone_ok (back I6) hN hi hl fun t7 I7 => ⟨_, _, I7, q6⟩
          | cont => obtain ⟨σ6, H6, I6, q6⟩ := q; exact gone_ok (back I6) hN hi hl fun t7 I7 => ⟨_, _, I7, q6⟩
          | ret _ => obtain ⟨v6, σ6, H6, I6, r6, q6⟩ := q; exact gone_ok (back I6) hN hi hl fun t7 I7 => ⟨_, _, _, I7, r6, q6⟩
    exact each hh wish
  refine wpAny_mono ((hb (w D) _ _ caught PassesOwn.looking).run [] s σ H ⟨u D, D.rt, D.bk, D.ct⟩ (I.toTry _) q0) (fun f t1 q => ?_) fun _ _ z => z
  cases f with
  | next => obtain ⟨σ6, H6, I6, q6⟩ := q; exact ho.run pins t1 σ6 H6 D (I6.ofTry ok) q6
  | brk => obtain ⟨σ6, H6, I6, q6⟩ := q; exact ⟨σ6, H6, I6.ofTry ok, q6⟩
  | cont => obtain ⟨σ6, H6, I6, q6⟩ := q; exact ⟨σ6, H6, I6.ofTry ok, q6⟩
  | ret _ => obtain ⟨v6, σ6, H6, I6, r6, q6⟩ := q; exact ⟨v6, σ6, H6, I6.ofTry ok, r6, q6⟩
end
end PL

set_option maxHeartbeats 8000000
/-! PL, part q: every statement. -/
namespace PL
open PySem PySem.Spec PyProof.Rows L2
theorem PSet.or {X : Cx} {t t' : TSet} (h : PSet X t) (h' : PSet X t') : PSet X (fun o i v H Q => t o i v H Q ∨ t' o i v H Q) := fun pins s σ H o i v ov iv u Q I ro ri rv q => by
  rcases q with q | q
  · exact h pins s σ H o i v ov iv u Q I ro ri rv q
  · exact h' pins s σ H o i v ov iv u Q I ro ri rv q
theorem nodup_le {α : Type} [DecidableEq α] : ∀ {a b : List α}, a.Nodup → (∀ x ∈ a, x ∈ b) → a.length ≤ b.length
  | [], _, _, _ => Nat.zero_le _
  | x :: a, b, h, s => by
    have hx := s x (by simp)
    have h' := List.nodup_cons.mp h
    have l := nodup_le (a := a) (b := b.erase x) h'.2 fun y hy => (List.mem_erase_of_ne (fun e : y = x => h'.1 (e ▸ hy))).mpr (s y (by simp [hy]))
    rw [List.length_erase_of_mem hx] at l
    have p : 0 < b.length := List.length_pos_of_mem hx
    rw [List.length_cons]
    omega
theorem put_keys (f : Str) (v : V) : ∀ fs : List (Str × V), (putF f v fs).map (·.1) = if f ∈ fs.map (·.1) then fs.map (·.1) else fs.map (·.1) ++ [f]
  | [] => by simp [putF]
  | (g, x) :: r => by
    unfold putF
    by_cases h : g = f
    · subst h; simp
    · rw [if_neg h, List.map_cons, put_keys f v r]
      simp only [List.map_cons, List.mem_cons, Ne.symm h, false_or]
      split <;> simp
section
variable {S : SC} {G : GK} {T : PTab} {fns : Nat → Option FI} {n : Nat} {X : Cx} {W : WX}
theorem fld_put {h : AH} {H : Hp} {p : Addr} {c : Nat} {fs : List (Option DV)} {f k : Nat} {nm : Str} {d : DV} {v : V} (ok : CxOk S G T fns n X W) (hr : HRel G H h) (e : h p = some (.ins c fs)) (ek : T.fp c f = some k) (en : S.an[f]? = some nm) (hk : k < fs.length) (rd : DRel G.K H d v) :
    ∃ C dx q, H p = some (.ins C dx q) ∧ Cls X.K C ∧ NoAttr X.K C nm ∧ q.length < 1000 ∧ HRel G (upd H p (.ins C dx (putF nm v q))) (au h p (.ins c (fs.set k (some d)))) ∧ HX H (upd H p (.ins C dx (putF nm v q))) := by
  obtain ⟨e1, hc, na, nodup, hl⟩ := ok.fp c f k nm ek en
  obtain ⟨dx, q, ea, lc, el, nd, sb, fr⟩ := hr p _ e
  have hx : HX H (upd H p (.ins (G.cA c) dx (putF nm v q))) := HX.put ea (by intro xs; nofun)
  have hmem : nm ∈ G.cf c := List.mem_of_getElem? e1
  have hsub : ∀ g ∈ (putF nm v q).map (·.1), g ∈ G.cf c := fun g hg => by
    rw [put_keys] at hg
    split at hg
    · exact sb g hg
    · rcases List.mem_append.mp hg with h | h
      · exact sb g h
      · simp at h; subst h; exact hmem
  have hnd : ((putF nm v q).map (·.1)).Nodup := by
    rw [put_keys]
    split
    · exact nd
    · rename_i hn
      exact List.nodup_append.mpr ⟨nd, by simp, fun a ha b hb => by
        simp at hb; subst hb; rintro rfl; exact hn ha⟩
  refine ⟨_, dx, q, ea, hc, na, ?_, ?_⟩
  · have : (q.map (·.1)).length ≤ (G.cf c).length := nodup_le nd sb
    rw [List.length_map] at this
    omega
  · refine ⟨(hr.put e ?_).1, hx⟩
    refine ⟨dx, _, upd_same, lc, by simp [el], hnd, hsub, ?_⟩
    intro i g d' hg hd
    rw [lookup_putF]
    by_cases hi : k = i
    · subst hi
      rw [List.getElem?_set_self hk] at hd
      cases hd
      rw [e1] at hg; cases hg
      exact ⟨v, by simp, rd.mono hx⟩
    · rw [List.getElem?_set_ne hi] at hd
      have hne : ¬ g = nm := by
        rintro rfl
        exact hi (nodup_ix nodup e1 hg)
      rw [if_neg hne]
      obtain ⟨u, h1, h2⟩ := fr i g d' hg hd
      exact ⟨u, h1, h2.mono hx⟩
theorem sw_sole {v : Expr} (h : noComp v = true) (x : Expr) (l : Nat) (env : Env) : swapsWithSole [x] v l env = pure false := by
  unfold swapsWithSole
  exact sw_no h _ _ _
theorem asg_tup (ok : StOk S G T fns n X W) {is : List Nat} {x : Expr} {pos : Pos} {e : EX} {v : Expr} (he : chkE e S v = true) (hx : chkTG S v (.tup is) x = true) : PS X (.Assign [x] v pos) (SS G T fns n W (.asg (.tup is) e)) := by
  cases x <;> first | exact Bool.noConfusion (show false = true from hx) | skip
  rename_i es k p
  obtain ⟨hx, h3⟩ := an2 (show (_ && _) = true from hx)
  obtain ⟨h1, h2⟩ := an2 hx
  refine PS.weak (ps_asg (sE G T fns n e S X W v ok.cx he).1 (pg_ok ok.cx h3) (sw_sole h2 _ _ _) (by cases v <;> first | rfl | exact Bool.noConfusion (show false = true from h1)) rfl) ?_
  rintro D σ H ⟨s, h, K, sr, hr, w, kl⟩
  refine ⟨s, h, _, _, sr, hr, w, fun d h1 v H1 x1 hr1 rd q => ?_, kl.xl sr⟩
  obtain ⟨s1, e1, _, q⟩ := q
  exact ⟨d, s, s1, rd, sr.mono x1, e1, fun σ' sr' wr => kl.nx _ _ _ _ x1 hr1 sr' q⟩
theorem asg_fld (ok : StOk S G T fns n X W) {o : EX} {f : Nat} {x : Expr} {pos : Pos} {e : EX} {v : Expr} (he : chkE e S v = true) (hx : chkTG S v (.fld o f) x = true) : PS X (.Assign [x] v pos) (SS G T fns n W (.asg (.fld o f) e)) := by
  cases x <;> first | exact Bool.noConfusion (show false = true from hx) | skip
  obtain ⟨h1, h3⟩ := an2 (show (_ && _) = true from hx)
  refine PS.weak (ps_fld (sE G T fns n o S X W _ ok.cx h3).1 (sE G T fns n e S X W v ok.cx he).1 (by cases v <;> rfl)) ?_
  rintro D σ H ⟨s, h, K, sr, hr, w, kl⟩
  refine ⟨s, h, _, _, sr, hr, w, fun d h1 v H1 x1 hr1 rd w1 => ?_, kl.xl sr⟩
  refine ⟨s, h1, _, _, sr.mono x1, hr1, w1, fun d2 h2 v2 H2 x2 hr2 rd2 w2 => ?_, (kl.mono x1).xl (sr.mono x1)⟩
  obtain ⟨p, c, fs, k, rfl, e1, e2, e3, w2⟩ := w2
  cases rd2
  obtain ⟨C, dx, q, f1, f2, f3, f4, f5, f6⟩ := fld_put ok.cx hr2 e1 e2 (of_decide_eq_true ‹decide _ = true›) e3 (rd.mono x2)
  exact ⟨p, C, dx, q, rfl, f1, f2, f3, f4, kl.nx _ _ _ _ (x1.trans (x2.trans f6)) f5 ((sr.mono (x1.trans (x2.trans f6)))) w2⟩
theorem asg_sub (ok : StOk S G T fns n X W) {o i : EX} {x : Expr} {pos : Pos} {e : EX} {v : Expr} (he : chkE e S v = true) (hx : chkTG S v (.sub o i) x = true) : PS X (.Assign [x] v pos) (SS G T fns n W (.asg (.sub o i) e)) := by
  cases x <;> first | exact Bool.noConfusion (show false = true from hx) | skip
  rename_i u z p
  obtain ⟨hx, h4⟩ := an2 (show (_ && _) = true from hx)
  obtain ⟨h1, h3⟩ := an2 hx
  have hu : X.A.units + 1 < cLine := by have := ok.cx.un; omega
  refine PS.weak (ps_asg (sE G T fns n e S X W v ok.cx he).1 (pg_sub (pos := p) (sE G T fns n o S X W u ok.cx h3).1 (sE G T fns n i S X W z ok.cx h4).1 (PSet.or set_list (set_dict hu)) (by intro v; cases z <;> first | rfl | exact Bool.noConfusion (show false = true from h1))) (by cases v <;> rfl) (by cases v <;> rfl) rfl) ?_
  rintro D σ H ⟨s, h, K, sr, hr, w, kl⟩
  refine ⟨s, h, _, _, sr, hr, w, fun d h1 v H1 x1 hr1 rd w1 => ?_, kl.xl sr⟩
  refine ⟨s, h1, _, _, sr.mono x1, hr1, w1, fun d2 h2 v2 H2 x2 hr2 rd2 w2 => ?_, (kl.mono x1).xl (sr.mono x1)⟩
  have x12 := x1.trans x2
  refine ⟨s, h2, _, _, sr.mono x12, hr2, w2, fun d3 h3 v3 H3 x3 hr3 rd3 w3 => ?_, (kl.mono x12).xl (sr.mono x12)⟩
  have x13 := x12.trans x3
  obtain ⟨p, rfl, w3⟩ := w3
  cases rd2
  rcases w3 with ⟨xs, k, j, e1, rfl, e2, w3⟩ | ⟨kvs, e1, e2, e3, w3⟩
  · cases rd3
    obtain ⟨vs, f1, f2⟩ := lst_of hr3 e1
    have xp : HX H3 (upd H3 p (.lst (vs.set j v))) := HX.put f1 (by intro xs; nofun)
    obtain ⟨hr4, x4⟩ := hr3.put (u := .lst (vs.set j v)) (o := .lst (xs.set j d)) e1 ⟨_, upd_same, DRels.set j (rd.mono (x2.trans (x3.trans xp))) (f2.mono xp)⟩
    exact .inl ⟨p, vs, k, j, rfl, rfl, f1, by rw [f2.length]; exact e2, kl.nx _ _ _ _ (x13.trans x4) hr4 (sr.mono (x13.trans x4)) w3⟩
  · obtain ⟨j, rfl⟩ := key_split e2
    obtain ⟨rfl, rk⟩ := kv_of_rel rd3
    obtain ⟨q, f1, f2⟩ := hr3 p _ e1
    have xp : HX H3 (upd H3 p (.dK (putK q j v))) := HX.put f1 (by intro xs; nofun)
    obtain ⟨hr4, x4⟩ := hr3.put (u := .dK (putK q j v)) (o := .dct (dput kvs (keyD j) d)) e1 ⟨_, upd_same, dput_rel (rk.mono xp) (rd.mono (x2.trans (x3.trans xp))) (f2.mono xp)⟩
    exact .inr ⟨p, _, rfl, DPut.k f1 (by rw [f2.length]; exact e3), kl.nx _ _ _ _ (x13.trans x4) hr4 (sr.mono (x13.trans x4)) w3⟩
theorem s_asg (t : TG) (e : EX) : HS G T fns n (.asg t e) := by
  intro S X W x ok h
  have key : ∃ y v pos, x = .Assign [y] v pos ∧ chkE e S v = true ∧ chkTG S v t y = true := by
    unfold chkS at h
    split at h <;> first | (cases h; done) | skip
    all_goals first | (rename_i heq; cases heq; done) | skip
    rename_i heq
    cases heq
    exact ⟨_, _, _, rfl, an2 h⟩
  obtain ⟨y, v, pos, rfl, h1, h2⟩ := key
  cases t with
  | name i =>
    cases y <;> first | exact Bool.noConfusion (show false = true from h2) | skip
    exact asg_name ok h1 h2
  | tup is => exact asg_tup ok h1 h2
  | fld o f => exact asg_fld ok h1 h2
  | sub o i => exact asg_sub ok h1 h2
/-! ### op= -/
theorem get_listN {X : Cx} : PGet X (fun o i H Q => ∃ (p : Addr) (xs : List V) (k : Int) (v : V), o = .ref p ∧ i = .int k ∧ SqL X.K H p xs ∧ 0 ≤ k ∧ k < 2 ^ 63 ∧ xs[k.toNat]? = some v ∧ Q v H) := by
  intro pins s σ H o i ov iv Q I ro ri q
  obtain ⟨p, xs, k, v, rfl, rfl, hs, k0, k1, e, q⟩ := q
  cases ro
  obtain ⟨t, rfl⟩ := ri
  obtain ⟨its, r, pl, hz⟩ := I.list hs
  obtain ⟨w, ew, rw'⟩ := r.get e
  exact wpAny_getItem_list pl.isList k0 k1 (by simpa using ew) ⟨v, H, I, rw', q⟩
theorem aug_ok (ok : StOk S G T fns n X W) {op : Operator} {o : BO} {f : Int → Int → Int} (hf : ∀ i j h Q, xBin o (.int i) (.int j) h Q → Q (.int (f i j)) h) (hi : OpR X (inplaceOp op) (rI0 fun i j => .int (f i j))) {t : TG} {e : EX} {x v : Expr} {pos : Pos} (he : chkE e S v = true) (hx : chkAug S t x = true) :
    PS X (.AugAssign x op v pos) (SS G T fns n W (.aug t o e)) := by
  have pe := (sE G T fns n e S X W v ok.cx he).1
  cases t with
  | name i =>
    cases x <;> first | exact Bool.noConfusion (show false = true from hx) | skip
    obtain ⟨h1, h2, h3⟩ := okLoc_of ok.cx hx
    refine PS.weak (ps_aug ok.cx.nd h1 h2 pe hi (ok.cx.lf _ h3 h2)) ?_
    rintro D σ H ⟨s, h, K, sr, hr, w, kl⟩
    obtain ⟨x, ex, w⟩ := w
    obtain ⟨vx, e1, rx⟩ := sr.2 i x ex
    refine ⟨vx, e1, s, h, _, _, sr, hr, w, fun d h1 v H1 x1 hr1 rd q => ?_, kl.xl sr⟩
    obtain ⟨⟨a, b, rfl, rfl⟩, q⟩ := q
    cases rx
    cases rd
    exact ⟨a, b, rfl, rfl, kl.nx _ _ _ _ x1 hr1 ((sr.mono x1).set i (d := .int (f a b)) rfl) (hf _ _ _ _ q)⟩
  | fld a g =>
    cases x <;> first | exact Bool.noConfusion (show false = true from hx) | skip
    obtain ⟨h1, h2⟩ := an2 (show (_ && _) = true from hx)
    refine PS.weak (ps_fldaug (sE G T fns n a S X W _ ok.cx h2).1 pe (rd := rI0 fun i j => .int (f i j)) hi) ?_
    rintro D σ H ⟨s, h, K, sr, hr, w, kl⟩
    refine ⟨s, h, _, _, sr, hr, w, fun d h1 v H1 x1 hr1 rd w1 => ?_, kl.xl sr⟩
    obtain ⟨p, c, fs, k, v0, rfl, e1, e2, e3, w1⟩ := w1
    cases rd
    obtain ⟨C, dx, q, u, f1, f2, f3, f4, f5⟩ := fld_look ok.cx hr1 e1 e2 (of_decide_eq_true ‹decide _ = true›) e3
    refine ⟨p, C, dx, q, u, rfl, f1, f2, f3, f4, s, h1, _, _, sr.mono x1, hr1, w1, fun d2 h2 v2 H2 x2 hr2 rd2 w2 => ?_, (kl.mono x1).xl (sr.mono x1)⟩
    obtain ⟨⟨i, j, rfl, rfl⟩, w2⟩ := w2
    cases rd2
    cases f5
    have w3 := hf _ _ _ _ w2
    obtain ⟨gs, e4, e5, w3⟩ := w3
    obtain ⟨C', dx', q', g1, g2, g3, g4, g5, g6⟩ := fld_put (d := .int (f i j)) (v := .int (f i j)) ok.cx hr2 e4 e2 (of_decide_eq_true ‹decide _ = true›) e5 rfl
    have hC : C' = C := by
      obtain ⟨_, _, ea, _⟩ := hr1 p _ e1
      obtain ⟨_, _, eb, _⟩ := hr2 p _ e4
      rw [f1] at ea; rw [g1] at eb
      cases ea; cases eb; rfl
    subst hC
    exact ⟨i, j, rfl, rfl, dx', q', g1, g4, kl.nx _ _ _ _ (x1.trans (x2.trans g6)) g5 (sr.mono (x1.trans (x2.trans g6))) w3⟩
  | tup is => cases x <;> exact Bool.noConfusion (show false = true from hx)
  | sub a i =>
    cases x <;> first | exact Bool.noConfusion (show false = true from hx) | skip
    rename_i u z p
    obtain ⟨hx, h4⟩ := an2 (show (_ && _) = true from hx)
    obtain ⟨h1, h3⟩ := an2 hx
    refine PS.weak (ps_augS (sE G T fns n a S X W u ok.cx h3).1 (sE G T fns n i S X W z ok.cx h4).1 get_listN pe hi set_list (by cases z <;> first | (intros; rfl) | exact Bool.noConfusion (show false = true from h1))) ?_
    rintro D σ H ⟨s, h, K, sr, hr, w, kl⟩
    refine ⟨s, h, _, _, sr, hr, w, fun d1 h1 v1 H1 x1 hr1 rd1 w1 => ?_, kl.xl sr⟩
    refine ⟨s, h1, _, _, sr.mono x1, hr1, w1, fun d2 h2 v2 H2 x2 hr2 rd2 w2 => ?_, (kl.mono x1).xl (sr.mono x1)⟩
    have x12 := x1.trans x2
    obtain ⟨q, k, xs, vv, rfl, rfl, k0, k1, e1, e2, w2⟩ := w2
    cases rd1
    cases rd2
    obtain ⟨vs, f1, f2⟩ := lst_of hr2 e1
    obtain ⟨y, f3, f4⟩ := f2.get e2
    cases f4
    refine ⟨q, vs, k, .int vv, rfl, rfl, SqL.of f1, k0, k1, f3, ?_⟩
    refine ⟨s, h2, _, _, sr.mono x12, hr2, w2, fun d3 h3 v3 H3 x3 hr3 rd3 w3 => ?_, (kl.mono x12).xl (sr.mono x12)⟩
    have x13 := x12.trans x3
    obtain ⟨⟨b, rfl⟩, w3⟩ := w3
    cases rd3
    obtain ⟨ys, e4, e5, w4⟩ := hf _ _ _ _ w3
    obtain ⟨us, g1, g2⟩ := lst_of hr3 e4
    have xp : HX H3 (upd H3 q (.lst (us.set k.toNat (.int (f vv b))))) := HX.put g1 (by intro xs; nofun)
    obtain ⟨hr4, x4⟩ := hr3.put (u := .lst (us.set k.toNat (.int (f vv b)))) (o := .lst (ys.set k.toNat (.int (f vv b)))) e4 ⟨_, upd_same, DRels.set k.toNat rfl (g2.mono xp)⟩
    refine ⟨vv, b, rfl, rfl, q, us, k, k.toNat, rfl, rfl, g1, ?_, kl.nx _ _ _ _ (x13.trans x4) hr4 (sr.mono (x13.trans x4)) w4⟩
    rw [g2.length]
    unfold ixN
    rw [if_pos k0, if_pos (by omega)]
theorem s_aug (t : TG) (o : BO) (e : EX) : HS G T fns n (.aug t o e) := by
  intro S X W x ok h
  cases x <;> first | (cases o <;> exact Bool.noConfusion (show false = true from h)) | skip
  rename_i y op v pos
  cases o <;> first | exact Bool.noConfusion (show false = true from h) | skip
  · cases op <;> first | exact Bool.noConfusion (show false = true from h) | skip
    obtain ⟨h1, h2⟩ := an2 (show (_ && _) = true from h)
    exact aug_ok (o := .add) ok (f := fun i j => i + j) (fun _ _ _ _ q => q) iop_add h1 h2
  · cases op <;> first | exact Bool.noConfusion (show false = true from h) | skip
    obtain ⟨h1, h2⟩ := an2 (show (_ && _) = true from h)
    exact aug_ok (o := .sub) ok (f := fun i j => i - j) (fun _ _ _ _ q => q) iop_sub h1 h2
/-! ### small -/
theorem s_expr (e : EX) : HS G T fns n (.expr e) := by
  intro S X W x ok h
  cases x <;> first | exact Bool.noConfusion (show false = true from h) | skip
  obtain ⟨h1, h2⟩ := an2 (show (_ && _) = true from h)
  refine PS.weak (ps_expr (sE G T fns n e S X W _ ok.cx h2).1 (sw_no h1 _ _ _)) ?_
  rintro D σ H ⟨s, h, K, sr, hr, w, kl⟩
  exact ⟨s, h, _, _, sr, hr, w, fun d h1 v H1 x1 hr1 rd q => kl.nx _ _ _ _ x1 hr1 (sr.mono x1) q, kl.xl sr⟩
theorem s_ret (e : EX) : HS G T fns n (.ret e) := by
  intro S X W x ok h
  cases x <;> first | exact Bool.noConfusion (show false = true from h) | skip
  rename_i v pos
  cases v with
  | none => exact Bool.noConfusion (show false = true from h)
  | some v =>
    refine PS.weak (ps_ret (sE G T fns n e S X W v ok.cx h).1) ?_
    rintro D σ H ⟨s, h, K, sr, hr, w, kl⟩
    exact ⟨s, h, _, _, sr, hr, w, kl.rt, kl.xl sr⟩
theorem s_retN : HS G T fns n .retN := by
  intro S X W x ok h
  cases x <;> first | exact Bool.noConfusion (show false = true from h) | skip
  rename_i v pos
  cases v with
  | some v => exact Bool.noConfusion (show false = true from h)
  | none =>
    refine PS.weak ps_retN ?_
    rintro D σ H ⟨s, h, K, sr, hr, w, kl⟩
    exact kl.rt .non h .non H (HX.refl H) hr rfl w
theorem s_brk : HS G T fns n .brk := by
  intro S X W x ok h
  cases x <;> first | exact Bool.noConfusion (show false = true from h) | skip
  refine PS.weak ps_break ?_
  rintro D σ H ⟨s, h, K, sr, hr, w, kl⟩
  exact kl.bk _ _ _ _ (HX.refl H) hr sr w
theorem s_pass : HS G T fns n .pass := by
  intro S X W x ok h
  have fin : ∀ D σ H, SS G T fns n W .pass D σ H → tNext D σ H := by
    rintro D σ H ⟨s, h, K, sr, hr, w, kl⟩
    exact kl.nx _ _ _ _ (HX.refl H) hr sr w
  cases x <;> first | exact Bool.noConfusion (show false = true from h) | skip
  · rename_i v pos
    cases v <;> first | exact Bool.noConfusion (show false = true from h) | skip
    rename_i c _ _
    cases c <;> first | exact Bool.noConfusion (show false = true from h) | skip
    exact PS.weak ps_doc fin
  · exact PS.weak ps_pass fin
theorem s_never : HS G T fns n .never := by
  intro S X W x ok h
  refine PS.weak ps_never ?_
  rintro D σ H ⟨s, h, K, sr, hr, w, kl⟩
  exact w
theorem lock_ps {st : Stmt} {t : TS} (h : PS X st t) : PS X st (fun D σ H => t D σ H ∨ tLock t D σ H) := ⟨fun pins s σ H D I q => by
  rcases q with q | q
  · exact h.run pins s σ H D I q
  · exact (ps_lock h).run pins s σ H D I q⟩
theorem s_lock {t : ST} (ht : HS G T fns n t) : HS G T fns n (.lock t) := by
  intro S X W x ok h
  refine PS.weak (lock_ps (ht S X W x ok h)) ?_
  rintro D σ H ⟨s, h, K, sr, hr, w, kl⟩
  rcases w with w | ⟨p, kvs, e, w⟩
  · exact .inl ⟨s, h, K, sr, hr, w, kl⟩
  · obtain ⟨q, e1, e2⟩ := hr p _ e
    refine .inr ⟨p, .dK q, e1, trivial, fun od => ?_⟩
    have xp : HX H (upd H p (.frz od (.dK q))) := HX.put e1 (by intro xs; nofun)
    obtain ⟨hr2, x2⟩ := hr.put (u := .frz od (.dK q)) (o := .fdct kvs od q) e ⟨upd_same, e2.mono xp⟩
    have back : ∀ {h' : AH} {H' : Hp}, HRel G H' h' → h' p = some (.fdct kvs od q) → H' p = some (.frz od (.dK q)) ∧ HX H' (upd H' p (.dK q)) ∧ HRel G (upd H' p (.dK q)) (au h' p (.dct kvs)) := fun {h' H'} hr' e' => by
      obtain ⟨f1, f2⟩ := hr' p _ e'
      have xq : HX H' (upd H' p (.dK q)) := HX.put f1 (by intro xs; nofun)
      obtain ⟨g1, g2⟩ := hr'.put (u := .dK q) (o := .dct kvs) e' ⟨q, upd_same, f2.mono xq⟩
      exact ⟨f1, g2, g1⟩
    refine ⟨s, _, _, sr.mono x2, hr2, w od q, ⟨?_, ?_, ?_, ?_⟩⟩
    · rintro s' h' σ' H' x hr' sr' ⟨e', q'⟩
      obtain ⟨f1, g2, g1⟩ := back hr' e'
      exact ⟨f1, kl.nx _ _ _ _ (x2.trans (x.trans g2)) g1 (sr'.mono g2) q'⟩
    · rintro d h' v H' x hr' rd' ⟨e', q'⟩
      obtain ⟨f1, g2, g1⟩ := back hr' e'
      exact ⟨f1, kl.rt _ _ _ _ (x2.trans (x.trans g2)) g1 (rd'.mono g2) q'⟩
    · rintro s' h' σ' H' x hr' sr' ⟨e', q'⟩
      obtain ⟨f1, g2, g1⟩ := back hr' e'
      exact ⟨f1, kl.bk _ _ _ _ (x2.trans (x.trans g2)) g1 (sr'.mono g2) q'⟩
    · rintro c fs s' h' σ' H' d x hr' sr' xr q'
      exact kl.xr c fs s' h' σ' H' d (x2.trans x) hr' sr' xr q'
theorem s_raise (c : Nat) (es : EXs) : HS G T fns n (.raise c es) := by
  intro S X W x ok h
  have key : ∃ x' p y ys pos rpos, x = .Raise (some (.Call (.Name x' p) (y :: ys) [] pos)) none rpos ∧ S.cal = true ∧ isGl S x' = true ∧ S.ex.lookup x' = some c ∧ chkEs es S (y :: ys) = true := by
    unfold chkS at h
    split at h <;> first | (cases h; done) | skip
    all_goals first | (rename_i heq; cases heq; done) | skip
    rename_i heq
    cases heq
    obtain ⟨h, h3⟩ := an2 h
    obtain ⟨h, h2⟩ := an2 h
    obtain ⟨h0, h1⟩ := an2 h
    exact ⟨_, _, _, _, _, _, rfl, h0, h1, of_decide_eq_true h2, h3⟩
  obtain ⟨x', p, y, ys, pos, rpos, rfl, h0, h1, h2, h3⟩ := key
  obtain ⟨g1, g2⟩ := isGl_of ok.cx h1
  obtain ⟨hm, hxn, fI, fd, ps, E⟩ := ok.cx.ex x' c h2
  obtain ⟨e, r, rfl, c1, c2⟩ := cons_of h3
  refine PS.weak (raise_ok (ok.cx.calm h0) ok.cx.tk ok.cx.K E.T E.iC E.tI E.F E.hr E.hb g1 hm g2 E.no E.nd E.lt E.l0 E.l1 ((sEs G T fns n (.cons e r)).a S X W (y :: ys) ok.cx h3) (star_cons (chkE_notStar c1) _ _) (star_any _ c2)) ?_
  rintro D σ H ⟨s, h, K, sr, hr, w, kl⟩
  refine ⟨s, h, K, sr, hr, ?_, kl⟩
  have w' : wEs T (wCall T fns n) s h (fun ds h1 => ds.length = T.xn c ∧ K.xr c ds s h1) (kx K s) (.cons e r) := w
  rw [hxn] at w'
  exact w'
/-! ### try -/
theorem SRel.unset {H : Hp} {s : ASt} {σ : L2.St} (i : Nat) (r : SRel G H s σ) : SRel G H (s.set i none) (σ.set i none) := by
  refine ⟨by simp [r.1], fun j d e => ?_⟩
  by_cases ij : i = j
  · subst ij
    have hl := (List.getElem?_eq_some_iff.mp e).1
    rw [List.getElem?_set_self (by simpa using hl)] at e
    cases e
  · rw [List.getElem?_set_ne ij] at e ⊢
    exact r.2 j d e
theorem st_tr (ok : StOk S G T fns n X W) {W' : WX} {pn : List (Addr × Obj)} {xe : Value → Shared → Prop} (tk : L2N.Takes (X.tr pn xe) W') (ps : PassesOwn (model X.prog X.w) X.A X.env xe) : StOk S G T fns n (X.tr pn xe) W' where
  cx :=
    { K := ok.cx.K, N := ok.cx.N, nd := ok.cx.nd, sc := ok.cx.sc, lf := ok.cx.lf, calm := ok.cx.calm, un := ok.cx.un, tk := tk, gd := ok.cx.gd, hd := ok.cx.hd, hot := ok.cx.hot, cold := ok.cx.cold
      hfn := fun x f e => let ⟨a, h1, h2, F⟩ := ok.cx.hfn x f e; ⟨a, h1, h2, fun p => ⟨(F p).ex⟩⟩
      fn := fun x f e => let ⟨a, h1, h2, F⟩ := ok.cx.fn x f e; ⟨a, h1, h2, ⟨F.ex⟩⟩
      cl := fun x c e => let ⟨h1, h2, h3, h4, h5⟩ := ok.cx.cl x c e; ⟨h1, h2, h3, h4, fun f ef => let ⟨a, M, F⟩ := h5 f ef; ⟨a, M, ⟨F.ex⟩⟩⟩
      mt := fun c m f nm e1 e2 => let ⟨h1, a, h2, h3, F⟩ := ok.cx.mt c m f nm e1 e2; ⟨h1, a, h2, h3, ⟨F.ex⟩⟩
      c0 := ok.cx.c0, fp := ok.cx.fp, isi := ok.cx.isi, isc := ok.cx.isc, kf := ok.cx.kf
      ex := fun x c e => let ⟨h1, h2, fI, fd, ps, E⟩ := ok.cx.ex x c e; ⟨h1, h2, fI, fd, ps, ⟨E.T, E.iC, E.tI, E.F, E.hr, E.hb, E.no, E.nd, E.lt, E.l0, E.l1⟩⟩
      cm := fun x m f e => let ⟨C, a, h1, h2, h3, h4, h5, F⟩ := ok.cx.cm x m f e; ⟨C, a, h1, h2, h3, h4, h5, ⟨F.ex⟩⟩
      co := ok.cx.co, bt := ok.cx.bt, xp := ok.cx.xp, xi := ok.cx.xi, xt := ok.cx.xt, xs := ok.cx.xs }
  ps := fun _ => ps
  kf := ok.kf
  stk := ok.stk
  frm := ok.frm
/-- the world in which the exception at a is handled -/
abbrev GK.at_ (G : GK) (a : Addr) : GK := { G with hp := some a }
theorem ORel.into {H : Hp} {a b : Addr} {o : AO} (q : ORel G H b o) : ORel (G.at_ a) H b o := by
  cases o <;> exact q
theorem ORel.out {H : Hp} {a b : Addr} {o : AO} (q : ORel (G.at_ a) H b o) : ORel G H b o := by
  cases o <;> exact q
theorem HRel.into {H : Hp} {h : AH} {a : Addr} {c : Value} {d : Option Addr} (r : HRel G H h) (e : H a = some (exH a c d)) : HRel (G.at_ a) H h :=
  ⟨fun b o z => (r.run b o z).into, fun b z => by cases z; exact ⟨c, d, e⟩⟩
theorem HRel.out {H : Hp} {h : AH} {a : Addr} (r : HRel (G.at_ a) H h) (n : G.hp = none) : HRel G H h :=
  ⟨fun b o z => (r.run b o z).out, fun b z => by rw [n] at z; cases z⟩
theorem SRel.into {H : Hp} {a : Addr} {s : ASt} {σ : L2.St} (r : SRel G H s σ) : SRel (G.at_ a) H s σ := r
theorem SRel.out {H : Hp} {a : Addr} {s : ASt} {σ : L2.St} (r : SRel (G.at_ a) H s σ) : SRel G H s σ := r
theorem st_suite (ok : StOk S G T fns n X W) (a : Addr) (pn : List (Addr × Obj)) : StOk (su S) (G.at_ a) T fns n (X.suite a pn) (fun _ _ _ _ => False) where
  cx :=
    { K := ok.cx.K, N := ok.cx.N, nd := ok.cx.nd, sc := ok.cx.sc, lf := ok.cx.lf, calm := fun z => Bool.noConfusion (show false = true from z), un := ok.cx.un, gd := ok.cx.gd, hd := rfl, hot := fun _ => rfl, cold := fun z => Bool.noConfusion (show false = true from z)
      hfn := fun x f e => nomatch (show none = some f from e)
      tk := fun u s' ⟨_, _, _, _, _, _, _, _, _, _, _, _, _, _, _, _, w⟩ => w.elim
      fn := fun x f e => by
        obtain ⟨b, h1, h2, F⟩ := ok.cx.hfn x f e
        obtain ⟨fd, ps, k, F1, F2, F3⟩ := (F a).ex
        exact ⟨b, h1, h2, ⟨fd, ps, k, F1, ⟨F2.dp, F2.un, F2.gd⟩, F3⟩⟩
      cl := fun x c e => nomatch (show none = some c from e)
      mt := fun c m f nm e1 e2 => by
        have e3 : ([] : List Str)[m]? = some nm := e2
        rw [List.getElem?_nil] at e3; cases e3
      c0 := ok.cx.c0, fp := ok.cx.fp, isi := ok.cx.isi
      isc := fun x c d e => nomatch (show none = some d from e)
      kf := fun x l e => nomatch (show none = some l from e)
      ex := fun x c e => nomatch (show none = some c from e)
      cm := fun x m f e => nomatch (show none = some f from e)
      co := ok.cx.co, bt := ok.cx.bt, xp := ok.cx.xp, xi := ok.cx.xi, xt := ok.cx.xt, xs := ok.cx.xs }
  ps := fun z => Bool.noConfusion (show false = true from z)
  kf := ok.kf
  stk := ok.stk
  frm := ok.frm
theorem exc_new {h : AH} {H : Hp} {a dd : Addr} {c : Nat} {fs : List DV} (hr : HRel G H h) (na : H a = none) (xr : XRel G H c fs dd) : HRel G (upd H a (exH a (.ref (G.xA c)) (some dd))) (au h a (.exc c fs)) := by
  obtain ⟨q, e, lc, l, fr⟩ := xr
  have x := HX.new na (o := exH a (.ref (G.xA c)) (some dd))
  refine hr.new na ⟨dd, q, upd_same, ?_, lc, l, fr.mono x⟩
  rw [upd_ne (ne_of_none e na)]
  exact e
variable (G T fns n) in
/-- the clauses are walked -/
def HHs (hs : HDs) : Prop := ∀ (S : SC) (X : Cx) (W : WX) (l : List ExceptHandler), S.cal = true → StOk S G T fns n X W → chkHs hs S l = true → ∃ w, HdX X W l w ∧
  ∀ (K : KT) (D : Ends) (H0 : Hp), KL G W H0 K D → ∀ (c : Nat) (fs : List DV) (s : ASt) (h : AH) (σ : L2.St) (H : Hp) (dd : Addr), HX H0 H → HRel G H h → SRel G H s σ → XRel G H c fs dd → wHs T (wCall T fns n) s h K c fs hs → w D (.ref (G.xA c)) (some dd) σ H
theorem h_nil : HHs G T fns n .nil := by
  intro S X W l _ ok h
  cases l with
  | cons _ _ => exact Bool.noConfusion (show false = true from h)
  | nil => exact ⟨_, .nil, fun K D H0 kl c fs s h σ H dd x hr sr xr w => kl.xr c fs s h σ H dd x hr sr xr w⟩
theorem h_cons {x i : Option Nat} {b : STs} {r : HDs} (hb : ∀ a, HSs (G.at_ a) T fns n b) (hr : HHs G T fns n r) : HHs G T fns n (.cons x i b r) := by
  intro S X W l hcal ok h
  have hn := ok.cx.cold hcal
  cases l with
  | nil => cases x <;> cases i <;> exact Bool.noConfusion (show false = true from h)
  | cons e q =>
    cases e with
    | ExceptHandler ty nm suite pos =>
    cases x with
    | none => cases i <;> exact Bool.noConfusion (show false = true from h)
    | some x =>
    cases ty with
    | none => cases i <;> exact Bool.noConfusion (show false = true from h)
    | some ty =>
    cases ty <;> first | (cases i <;> exact Bool.noConfusion (show false = true from h)) | skip
    rename_i y np
    cases suite with
    | nil => cases i <;> cases nm <;> exact Bool.noConfusion (show false = true from h)
    | cons s0 suite =>
    cases i with
    | none =>
      cases nm with
      | some _ => exact Bool.noConfusion (show false = true from h)
      | none =>
      obtain ⟨h, h4⟩ := an2 (show (_ && _) = true from h)
      obtain ⟨h, h3⟩ := an2 h
      obtain ⟨h1, h2⟩ := an2 h
      obtain ⟨g1, g2⟩ := isGl_of ok.cx h1
      have hx := of_decide_eq_true h2
      obtain ⟨w, hd, wk⟩ := hr S X W q hcal ok h4
      refine ⟨_, .one ⟨g1, g2, .inl (ok.cx.xt y x hx)⟩ (fun a pn => hb a (su S) _ _ _ (st_suite ok a pn) h3) hd, ?_⟩
      intro K D H0 kl c fs s h σ H dd x0 hr sr xr ww
      obtain ⟨qq, f1, lc, f2, f3⟩ := id xr
      refine ⟨_, (ok.cx.xs y x c hx lc).2, fun z a na => ?_, fun z => ?_⟩
      · have ww' : (if T.xsub c x = true then _ else _) := ww
        rw [if_pos z] at ww'
        have xa := HX.new na (o := exH a (.ref (G.xA c)) (some dd))
        refine ⟨s, _, _, (sr.mono xa).into, (exc_new hr na xr).into upd_same, ww' a (hr.free na), ⟨?_, fun d' h' v' H' x' hr' rd' q' => kl.rt _ _ _ _ (x0.trans (xa.trans x')) (hr'.out hn) rd' q', ?_, fun _ _ _ _ _ _ _ _ _ _ _ z => z⟩⟩
        · exact fun s' h' σ' H' x' hr' sr' q' => kl.nx _ _ _ _ (x0.trans (xa.trans x')) (hr'.out hn) sr'.out q'
        · exact fun s' h' σ' H' x' hr' sr' q' => kl.bk _ _ _ _ (x0.trans (xa.trans x')) (hr'.out hn) sr'.out q'
      · have ww' : (if T.xsub c x = true then _ else _) := ww
        rw [if_neg (by rw [z]; simp)] at ww'
        exact wk K D H0 kl c fs s h σ H dd x0 hr sr xr ww'
    | some i =>
      cases nm with
      | none => exact Bool.noConfusion (show false = true from h)
      | some nm =>
      obtain ⟨h, h6⟩ := an2 (show (_ && _) = true from h)
      obtain ⟨h, h5⟩ := an2 h
      obtain ⟨h, h4⟩ := an2 h
      obtain ⟨h, h3⟩ := an2 h
      obtain ⟨h1, h2⟩ := an2 h
      obtain ⟨g1, g2⟩ := isGl_of ok.cx h1
      have hx := of_decide_eq_true h2
      obtain ⟨w, hd, wk⟩ := hr S X W q hcal ok h6
      refine ⟨_, .as (n := nm) (i := i) (by rw [ok.cx.N]; exact of_decide_eq_true h3) ?_ ⟨g1, g2, .inl (ok.cx.xt y x hx)⟩ (fun a pn => hb a (su S) _ _ _ (st_suite ok a pn) h5) hd, ?_⟩
      · show X.env.scope.names.lookup nm = _
        rw [ok.cx.sc]; exact of_decide_eq_true h4
      intro K D H0 kl c fs s h σ H dd x0 hr sr xr ww
      obtain ⟨qq, f1, lc, f2, f3⟩ := id xr
      refine ⟨_, (ok.cx.xs y x c hx lc).2, fun z a na => ?_, fun z => ?_⟩
      · have ww' : (if T.xsub c x = true then _ else _) := ww
        rw [if_pos z] at ww'
        have xa := HX.new na (o := exH a (.ref (G.xA c)) (some dd))
        refine ⟨_, _, _, ((sr.mono xa).set i (d := .ref a) rfl).into, (exc_new hr na xr).into upd_same, ww' a (hr.free na), ⟨?_, fun d' h' v' H' x' hr' rd' q' => kl.rt _ _ _ _ (x0.trans (xa.trans x')) (hr'.out hn) rd' q', ?_, fun _ _ _ _ _ _ _ _ _ _ _ z => z⟩⟩
        · exact fun s' h' σ' H' x' hr' sr' q' => kl.nx _ _ _ _ (x0.trans (xa.trans x')) (hr'.out hn) (sr'.out.unset i) q'
        · exact fun s' h' σ' H' x' hr' sr' q' => kl.bk _ _ _ _ (x0.trans (xa.trans x')) (hr'.out hn) (sr'.out.unset i) q'
      · have ww' : (if T.xsub c x = true then _ else _) := ww
        rw [if_neg (by rw [z]; simp)] at ww'
        exact wk K D H0 kl c fs s h σ H dd x0 hr sr xr ww'
theorem s_try {b : STs} {hs : HDs} {o : STs} (hb : HSs G T fns n b) (hh : HHs G T fns n hs) (ho : HSs G T fns n o) : HS G T fns n (.tryS b hs o) := by
  intro S X W x ok h
  cases x <;> first | exact Bool.noConfusion (show false = true from h) | skip
  rename_i body hds orelse fin pos
  cases hds with
  | nil => exact Bool.noConfusion (show false = true from h)
  | cons h0 hds =>
  cases fin with
  | cons _ _ => exact Bool.noConfusion (show false = true from h)
  | nil =>
  obtain ⟨h, h4⟩ := an2 (show (_ && _) = true from h)
  obtain ⟨h, h3⟩ := an2 h
  obtain ⟨h1, h2⟩ := an2 h
  obtain ⟨w, hd, wk⟩ := hh S X W _ h1 ok h3
  refine PS.weak (ps_tryX ok.stk ok.frm ok.cx.nd ok.cx.tk (ho S X W orelse ok h4) hd (tb := fun W' => SSs G T fns n W' b) fun W' pn xe tk ps => hb S _ W' body (st_tr ok tk ps) h2) ?_
  rintro D σ H ⟨s, h, K, sr, hr, ww, kl⟩
  refine ⟨s, h, _, sr, hr, ww, ⟨?_, kl.rt, kl.bk, ?_⟩⟩
  · exact fun s1 h1 σ1 H1 x1 hr1 sr1 q => ⟨s1, h1, K, sr1, hr1, q, kl.mono x1⟩
  · exact fun c fs s1 h1 σ1 H1 dd x1 hr1 sr1 xr q => wk K D H kl c fs s1 h1 σ1 H1 dd x1 hr1 sr1 xr q
/-! ### blocks -/
theorem s_nil : HSs G T fns n .nil := by
  intro S X W x ok h
  cases x with
  | cons _ _ => exact Bool.noConfusion (show false = true from h)
  | nil =>
    refine PSs.weak pss_nil ?_
    rintro D σ H ⟨s, h, K, sr, hr, w, kl⟩
    exact kl.nx _ _ _ _ (HX.refl H) hr sr w
theorem s_cons {t : ST} {r : STs} (ht : HS G T fns n t) (hq : HSs G T fns n r) : HSs G T fns n (.cons t r) := by
  intro S X W x ok h
  cases x with
  | nil => exact Bool.noConfusion (show false = true from h)
  | cons x q =>
    obtain ⟨h1, h2⟩ := an2 (show (_ && _) = true from h)
    refine PSs.weak (pss_cons (ht S X W x ok h1) (hq S X W q ok h2)) ?_
    rintro D σ H ⟨s, h, K, sr, hr, w, kl⟩
    refine ⟨s, h, _, sr, hr, w, ⟨fun s1 h1 σ1 H1 x1 hr1 sr1 q => ⟨s1, h1, K, sr1, hr1, q, kl.mono x1⟩, kl.rt, kl.bk, kl.xr⟩⟩
theorem s_rp {S : SC} {X : Cx} {W : WX} {c : EX} {a b : STs} {x : Expr} {y z : List Stmt} {pos : Pos} (ok : StOk S G T fns n X W) (h : chkRp c a b S x y z = true) : PS X (.If x y z pos) (SS G T fns n W (.ifS c a b)) := by
  unfold chkRp at h
  split at h <;> first | (cases h; done) | skip
  rename_i i k j p q u k' kk cp cpos o nm apos p' j1 c1 q' j2 c2 rp rpos
  obtain ⟨h, h8⟩ := an2 h
  obtain ⟨h, h7⟩ := an2 h
  obtain ⟨h, h6⟩ := an2 h
  obtain ⟨h, h5⟩ := an2 h
  obtain ⟨h, h4⟩ := an2 h
  obtain ⟨h, h3⟩ := an2 h
  obtain ⟨h1, h2⟩ := an2 h
  obtain rfl := of_decide_eq_true h1
  obtain rfl := of_decide_eq_true h2
  obtain rfl := of_decide_eq_true h4
  obtain rfl := of_decide_eq_true h5
  have hu := (c_var (G := G) (T := T) (fns := fns) (n := n) i S X W u ok.cx h7).1
  have ho := (c_var (G := G) (T := T) (fns := fns) (n := n) j S X W o ok.cx h8).1
  refine ⟨fun pins s σ H D I hw => ?_⟩
  obtain ⟨s0, g, K, sr, hr, w, kl⟩ := hw
  obtain ⟨dx, e1, w⟩ : ∃ dx, s0[i]? = some (some dx) ∧ xCmp .eq dx (.int k') g (fun r g1 => xTru r g1 fun t g2 => if t = true then wSs T (wCall T fns n) s0 g2 K (.cons (.ret (.bm (.var j) .replace (.cons (.con (.str p)) (.cons (.con (.str q)) .nil)))) .nil) else K.nx s0 g2) := w
  refine wpAny_If (wpAny_isTrue_Compare1 (thn (hu.run pins s σ H (fun v H1 => HX H H1 ∧ HRel G H1 g ∧ DRel G.K H1 dx v) I ⟨s0, g, fun d g1 => d = dx ∧ g1 = g, fun _ _ _ => False, sr, hr, ⟨dx, e1, rfl, rfl⟩, fun d g1 v H1 x1 hr1 rd q => ?_, XL.no⟩) fun v s1 ⟨xv, H1, I1, r1, x1, hr1, rd1⟩ => ?_) rfl)
  · obtain ⟨rfl, rfl⟩ := q
    exact ⟨x1, hr1, rd⟩
  refine wpAny_Constant_int ?_
  have ho2 := cop_ok (o := .eq) (p := .Eq) ok.cx rfl
  refine wpAny_mono (PySem.wpAny_toks (ho2 pins { s1 with toks := s1.toks + 1 } σ H1 xv (.int k') v _ (fun zv H3 => HX H1 H3 ∧ ∃ zd g3, DRel G.K H3 zd zv ∧ HRel G H3 g3 ∧ xTru zd g3 fun t g2 => if t = true then wSs T (wCall T fns n) s0 g2 K (.cons (.ret (.bm (.var j) .replace (.cons (.con (.str p)) (.cons (.con (.str q)) .nil)))) .nil) else K.nx s0 g2) (I1.tok _) r1 ⟨_, rfl⟩ ⟨dx, .int k', g, _, rd1, rfl, hr1, w, fun zd g3 zv H3 x3 hr3 rz q3 => ⟨x3, zd, g3, rz, hr3, q3⟩⟩)) (fun cv s3 q3 => ?_) fun _ _ q3 => q3.2
  obtain ⟨hk, zv, H3, I3, r3, x3, zd, g3, rz, hr3, t, e3, w3⟩ := q3
  have hk : 1 ≤ s3.toks := Nat.le_trans (Nat.succ_le_succ (Nat.zero_le _)) hk
  subst e3
  cases rz
  cases r3
  have x13 := x1.trans x3
  refine wpAny_truthy_bool ?_
  cases t with
  | false => exact wpAny_execs_nil ⟨σ, H3, I3, kl.nx _ _ _ _ x13 hr3 (sr.mono x13) w3⟩
  | true =>
    have w3 : ∃ dy, s0[j]? = some (some dy) ∧ recvOk .replace dy g3 ∧ xBM .replace dy [.str p, .str q] g3 K.rt := w3
    obtain ⟨dy, e4, -, w4⟩ := w3
    obtain ⟨al, rfl, w4⟩ := onS_of w4
    obtain ⟨b', c', ebc, l4, tk4, w4⟩ := w4
    cases ebc
    refine psst_cons (CwR.pst_ret (CwR.pet_replC ho (of_decide_eq_true h6) rfl (base_ok h3) (an2 h3).2)) (PSsT.of pss_nil) pins s3 σ H3 D hk I3 ?_
    refine ⟨s0, g3, fun d g1 => d = .str al ∧ g1 = g3, fun _ _ _ => False, sr.mono x13, hr3, ⟨.str al, e4, rfl, rfl⟩, fun d g1 v H4 x4 hr4 rd q => ?_, XL.no⟩
    obtain ⟨rfl, rfl⟩ := q
    obtain ⟨rfl, oa⟩ := rd
    refine ⟨tS al, rfl, by simpa [Str.length, tS] using l4, ?_⟩
    exact kl.rt (.str (unS (Txt.replace (tS al) (tS p) (tS q)))) _ _ _ (x13.trans x4) hr4 ⟨congrArg V.str (TL.mk_tl _).symm, tk4⟩ w4
theorem s_if {c : EX} {a b : STs} (ha : HSs G T fns n a) (hb : HSs G T fns n b) : HS G T fns n (.ifS c a b) := by
  intro S X W x ok h
  cases x <;> first | exact Bool.noConfusion (show false = true from h) | skip
  rcases Bool.or_eq_true _ _ ▸ (show (_ || _) = true from h) with h | h
  case inr => exact s_rp ok h
  obtain ⟨h, h3⟩ := an2 (show (_ && _) = true from h)
  obtain ⟨h1, h2⟩ := an2 h
  refine PS.weak (ps_if (sE G T fns n c S X W _ ok.cx h1).2.1 (ha S X W _ ok h2) (hb S X W _ ok h3)) ?_
  rintro D σ H ⟨s, h, K, sr, hr, w, kl⟩
  refine ⟨s, h, _, _, sr, hr, w, fun k h1 H1 x1 hr1 q => ?_, kl.xl sr⟩
  cases k
  · exact ⟨s, h1, K, sr.mono x1, hr1, q, kl.mono x1⟩
  · exact ⟨s, h1, K, sr.mono x1, hr1, q, kl.mono x1⟩
theorem s_whl {c : EX} {b : STs} (hb : HSs G T fns n b) : HS G T fns n (.whl c b) := by
  intro S X W x ok h
  cases x <;> first | exact Bool.noConfusion (show false = true from h) | skip
  rename_i x y z pos
  cases z with
  | cons _ _ => exact Bool.noConfusion (show false = true from h)
  | nil =>
    obtain ⟨h, h2⟩ := an2 (show (_ && _) = true from h)
    obtain ⟨h0, h1⟩ := an2 h
    refine PS.weak (ps_while (ok.ps h0) (sE G T fns n c S X W _ ok.cx h1).2.1 (hb S X W _ ok h2)) ?_
    rintro D σ H ⟨s, h, K, sr, hr, w, kl⟩
    obtain ⟨Wa, ⟨m0, w0⟩, step⟩ := w
    refine ⟨fun m σ' H' => ∃ s' h', HX H H' ∧ SRel G H' s' σ' ∧ HRel G H' h' ∧ Wa m s' h', ⟨m0, s, h, HX.refl H, sr, hr, w0⟩, ?_⟩
    rintro m σ' H' ⟨s', h', x', sr', hr', w'⟩
    refine ⟨s', h', _, _, sr', hr', step m s' h' w', fun k h1 H1 x1 hr1 q => ?_, (kl.mono x').xl sr'⟩
    have x01 := x'.trans x1
    cases k with
    | false => exact kl.nx _ _ _ _ x01 hr1 (sr'.mono x1) q
    | true =>
      refine ⟨fun σ2 H2 => ∃ m', m' < m ∧ ∃ s' h', HX H H2 ∧ SRel G H2 s' σ2 ∧ HRel G H2 h' ∧ Wa m' s' h', fun _ _ q => q, s', h1, _, sr'.mono x1, hr1, q, ?_⟩
      refine ⟨fun s2 h2 σ2 H2 x2 hr2 sr2 ⟨g, m', sg, l, q⟩ => ⟨m', l, s2, g, x01.trans x2, sr2, hr2.sub sg, q⟩, kl.rt.mono x01, ?_, (kl.mono x01).xr⟩
      exact fun s2 h2 σ2 H2 x2 hr2 sr2 q => kl.nx _ _ _ _ (x01.trans x2) hr2 sr2 q
theorem s_for {t : List Nat} {it : IT} {b : STs} (hb : HSs G T fns n b) : HS G T fns n (.forS t it b) := by
  intro S X W x ok h
  have key : ∃ x' y z p, x = .For x' y z [] p ∧ S.cal = true ∧ itOk it x' = true ∧ noSet y = true ∧ chkT S t x' = true ∧ chkI it S y = true ∧ chkSs b S z = true := by
    unfold chkS at h
    split at h <;> first | (cases h; done) | skip
    all_goals first | (rename_i heq; cases heq; done) | skip
    rename_i heq
    cases heq
    obtain ⟨h, h5⟩ := an2 h
    obtain ⟨h, h4⟩ := an2 h
    obtain ⟨h, h3⟩ := an2 h
    obtain ⟨h, h2⟩ := an2 h
    obtain ⟨h0, h1⟩ := an2 h
    exact ⟨_, _, _, _, rfl, h0, h1, h2, h3, h4, h5⟩
  obtain ⟨x', y, z, p, rfl, h0, h1, h2, h3, h4, h5⟩ := key
  refine PS.weak (ps_for (ok.ps h0) (ok.cx.calm h0) (sI G T fns n it S X W y x' ok.cx h4 h1) (pg_ok ok.cx h3) (hb S X W _ ok h5) (by intro x; cases y <;> first | rfl | exact Bool.noConfusion (show false = true from h2))) ?_
  rintro D σ H ⟨s, h, K, sr, hr, w, kl⟩
  refine ⟨s, h, _, _, sr, hr, w, fun chk xs h1 J H1 x1 hr1 ir w1 => ?_, kl.xl sr⟩
  refine ⟨fun i m σ' H' => ∃ s' h', i ≤ xs.length ∧ m = xs.length - i ∧ HX H1 H' ∧ SRel G H' s' σ' ∧ HRel G H' h' ∧ wItems chk t (fun s h K' => wSs T (wCall T fns n) s h K' b) K (xs.drop i) s' h',
    ⟨_, s, h1, Nat.zero_le _, rfl, HX.refl H1, sr.mono x1, hr1, w1⟩, ?_⟩
  rintro i m σ' H' ⟨s', h', hi', rfl, x2, sr2, hr2, w3⟩
  by_cases hl : i < xs.length
  · rw [List.drop_eq_getElem_cons hl] at w3
    obtain ⟨ck, s1, eb, w4⟩ := w3
    refine .inr ⟨ir.go i H' h' x2 hr2 ck hl, fun σ2 H2 => ∃ s' h', HX H1 H2 ∧ SRel G H2 s' σ2 ∧ HRel G H2 h' ∧ wItems chk t (fun s h K' => wSs T (wCall T fns n) s h K' b) K (xs.drop (i + 1)) s' h',
      fun σ2 H2 ⟨s', h', a, b, c, d⟩ => ⟨xs.length - (i + 1), by omega, s', h', hl, rfl, a, b, c, d⟩, fun v H2 y => ?_⟩
    obtain ⟨x3, hr3, rd⟩ := ir.yld i H' h' xs[i] v H2 x2 hr2 ck (List.getElem?_eq_getElem hl) y
    have x13 := x2.trans x3
    refine ⟨_, _, s1, rd, sr2.mono x3, eb, fun σ3 sr3 wr => ?_⟩
    have x03 := x1.trans x13
    refine ⟨s1, h', _, sr3, hr3, w4, ⟨fun s4 h4 σ4 H4 x4 hr4 sr4 ⟨g, sg, q⟩ => ⟨s4, g, x13.trans x4, sr4, hr4.sub sg, q⟩, kl.rt.mono x03, ?_, (kl.mono x03).xr⟩⟩
    exact fun s4 h4 σ4 H4 x4 hr4 sr4 q => kl.nx _ _ _ _ (x03.trans x4) hr4 sr4 q
  · have he' : i = xs.length := by omega
    subst he'
    rw [List.drop_length] at w3
    exact .inl ⟨ir.stop _ H' h' x2 hr2 w3.1 (Nat.le_refl _), kl.nx _ _ _ _ (x1.trans x2) hr2 sr2 w3.2⟩
end
section
variable (T : PTab) (fns : Nat → Option FI) (n : Nat)
mutual
theorem sS' : ∀ (t : ST) (G : GK), HS G T fns n t
  | .asg t e, _ => s_asg t e
  | .aug t o e, _ => s_aug t o e
  | .expr e, _ => s_expr e
  | .ifS _ a b, G => s_if (sSs' a G) (sSs' b G)
  | .whl _ b, G => s_whl (sSs' b G)
  | .forS _ _ b, G => s_for (sSs' b G)
  | .ret e, _ => s_ret e
  | .retN, _ => s_retN
  | .brk, _ => s_brk
  | .pass, _ => s_pass
  | .never, _ => s_never
  | .lock t, G => s_lock (sS' t G)
  | .raise x es, _ => s_raise x es
  | .tryS b hs o, G => s_try (sSs' b G) (sHs' hs G) (sSs' o G)
theorem sSs' : ∀ (t : STs) (G : GK), HSs G T fns n t
  | .nil, _ => s_nil
  | .cons t r, G => s_cons (sS' t G) (sSs' r G)
theorem sHs' : ∀ (t : HDs) (G : GK), HHs G T fns n t
  | .nil, _ => h_nil
  | .cons _ _ b r, G => h_cons (fun a => sSs' b (G.at_ a)) (sHs' r G)
end
end
theorem sSs (G : GK) (T : PTab) (fns : Nat → Option FI) (n : Nat) (t : STs) : HSs G T fns n t := sSs' T fns n t G
end PL

set_option maxHeartbeats 8000000
/-! PL, part r: programs, functions. -/
namespace PL
open PySem PySem.Spec PyProof.Rows L2
/-! ### binding -/
theorem zip_look {ps : List Str} {us : List Value} (hl : us.length = ps.length) : ∀ n ∈ ps, ((ps.zip us).lookup n).isNone = false := by
  induction ps generalizing us with
  | nil => intro n h; cases h
  | cons p ps ih =>
    cases us with
    | nil => cases hl
    | cons u us =>
      intro n h
      rw [List.zip_cons_cons, List.lookup_cons]
      split
      · rfl
      · rename_i hb
        rcases List.mem_cons.mp h with rfl | h
        · simp at hb
        · exact ih (by simpa using hl) n h
theorem zip_map {ps : List Str} (nd : ps.Nodup) {us : List Value} (hl : us.length = ps.length) : (ps.filterMap fun n => ((ps.zip us).lookup n).map (n, ·)) = ps.zip us := by
  induction ps generalizing us with
  | nil => rfl
  | cons p ps ih =>
    cases us with
    | nil => cases hl
    | cons u us =>
      obtain ⟨hn, nd'⟩ := List.nodup_cons.mp nd
      have e1 : ((p :: ps).zip (u :: us)).lookup p = some u := by rw [List.zip_cons_cons, List.lookup_cons]; simp
      rw [List.filterMap_cons, e1]
      show (p, u) :: _ = _
      rw [List.zip_cons_cons]
      congr 1
      have key : ∀ l : List Str, (∀ n ∈ l, n ≠ p) → (l.filterMap fun n => (((p, u) :: ps.zip us).lookup n).map (n, ·)) = l.filterMap fun n => ((ps.zip us).lookup n).map (n, ·) := by
        intro l
        induction l with
        | nil => intro _; rfl
        | cons n l ih2 =>
          intro hh
          have hne : (n == p) = false := beq_eq_false_iff_ne.mpr (hh n (by simp))
          rw [List.filterMap_cons, List.filterMap_cons, ih2 fun m hm => hh m (by simp [hm]), List.lookup_cons, hne]
      exact (key ps fun n hm => by rintro rfl; exact hn hm).trans (ih nd' (by simpa using hl))
theorem bind_plain {fd : FuncData} {as : List Arg} {us : List Value} (hp : fd.params = ⟨[], as, none, [], [], none, []⟩) (hd : fd.defaults = .none) (nd : (as.map (·.arg)).Nodup) (hl : us.length = (as.map (·.arg)).length) : bindArgs fd ⟨us, []⟩ = pure ((as.map (·.arg)).zip us) := by
  have hl2 : us.length = as.length := by simpa using hl
  have e1 : ((as.map (·.arg)).take as.length).filter (fun n => (((as.map (·.arg)).zip us).lookup n).isNone) = [] := by
    rw [List.filter_eq_nil_iff]
    intro n hn
    rw [zip_look hl n (List.mem_of_mem_take hn)]
    simp
  have e2 := zip_map nd hl
  unfold bindArgs
  simp only [hp, hd, seqItems?]
  simp [e1, e2, hl2]
  have e3 : notAStandIn Value.none = pure () := rfl
  rw [e3, map_pure, ← List.filterMap_map, e2]

namespace PD
variable (D : PD)
def S (d : FD) : SC where
  N := d.N
  sc := defScope d.st
  fn := D.fT
  cl := D.cT
  c0 := D.c0T
  ex := D.eT
  xt := D.xT
  cal := true
  cm := D.cm
  co := D.co
  an := D.an
  mn := D.mn
  bt := D.bt
  wr := d.N
  kf := D.kfT
  hfn := D.hT
/-- .. while an exception is handled -/
def SH (d : FD) : SC := { D.S d with cal := false, fn := D.hT, hfn := [], cl := [], cm := [], mn := [], ex := [], kf := [] }
def Sx (d : FD) : SC := if d.hot = true then D.SH d else D.S d
def G (K : PySem.W.Frag) (hp : Option Addr := none) : GK where
  K := K
  nC := D.cls.length
  cA := fun c => He.ga K (D.cN c)
  cf := fun c => match D.cls[c]? with
    | some C => C.flds
    | none => []
  xA := fun c => He.ga K (D.xN c)
  xf := fun c => match D.exs[c]? with
    | some C => C.flds
    | none => []
  nX := D.exs.length
  hp := hp
end PD
def argsOk (a : Arguments) (ps : List Str) : Bool := match a with
  | ⟨[], as, none, [], [], none, []⟩ => decide (as.map (·.arg) = ps)
  | _ => false
def FD.ps (d : FD) : List Str := d.N.take d.np
def scOk (d : FD) : Bool := (match (defScope d.st).kind with
    | .function => true
    | _ => false) && !(defScope d.st).isCoroutine && !(defScope d.st).isGenerator && decide d.N.Nodup && decide (d.np ≤ d.N.length) &&
  (d.ps.all fun x => match (defScope d.st).names.lookup x with
    | some .local => true
    | some .cell => true
    | _ => false) && ((defScope d.st).names.all fun y => match y.2 with
    | .free => false
    | _ => true) && argsOk (defArgs d.st) d.ps
def PD.chk (D : PD) (d : FD) : Bool := scOk d && chkSs d.body (D.Sx d) (defBody d.st)
/-- .. of an exception's __init__ -/
def iniOk (d : FD) (fs : List Str) (b : Str) : Bool := scOk d && decide (d.np = d.N.length) && decide (d.N.length = fs.length + 1) && chkOI d.N (defScope d.st) b fs (defBody d.st)
def PD.chkX (D : PD) : Bool := D.exs.all fun C => match C.init with
  | none => true
  | some (d, b) => iniOk d C.flds b
theorem excB_ok {K : PySem.W.Frag} {C : Addr} (h : excB K C = true) : ExcK K C := by
  unfold excB at h
  simp only [Bool.and_eq_true, decide_eq_true_eq] at h
  obtain ⟨⟨⟨⟨⟨h1, h2⟩, h3⟩, h4⟩, h5⟩, h6⟩ := h
  have F := xfB_ok h1
  exact ⟨F, ⟨F.ga, F.gg, F.exC, F.hdC, He.eqO_ok h2, He.eqO_ok h3, h4, h5⟩, h6⟩
theorem hbB_ok {K : PySem.W.Frag} {C : Addr} (h : hbB K C = true) : HBase K C := by
  unfold hbB at h
  simp only [Bool.and_eq_true] at h
  obtain ⟨⟨h1, h2⟩, h3⟩ := h
  refine ⟨He.eqO_ok h1, h2, ?_⟩
  split at h3
  · rename_i b e
    rw [e, of_decide_eq_true h3]
  · cases h3
end PL

set_option maxHeartbeats 8000000
/-! PL, part s: every function keeps its promise. -/
namespace PL
open PySem PySem.Spec PyProof.Rows L2
section
variable {D : PD} {K : PySem.W.Frag}
theorem cT_of {x : Str} {c : Nat} (h : D.cT.lookup x = some c) : ∃ C, D.cls[c]? = some C ∧ C.name = x := by
  have := PySem.mem_of_lookup h
  unfold PD.cT at this
  obtain ⟨⟨C, i⟩, h1, h2⟩ := List.mem_map.mp this
  have h3 := List.mem_zipIdx h1
  simp at h2
  obtain ⟨h2, rfl⟩ := h2
  refine ⟨C, ?_, h2⟩
  simp at h3
  exact (List.getElem?_eq_getElem h3.1).trans (congrArg some h3.2.symm)
theorem c0T_of {x : Str} {c : Nat} (h : D.c0T.lookup x = some c) : ∃ C, D.cls[c]? = some C ∧ C.name = x ∧ C.init = none := by
  have := PySem.mem_of_lookup h
  unfold PD.c0T at this
  obtain ⟨⟨C, i⟩, h1, h2⟩ := List.mem_filterMap.mp this
  have h3 := List.mem_zipIdx h1
  simp only at h2
  split at h2
  · rename_i e
    simp at h2
    obtain ⟨h2, rfl⟩ := h2
    refine ⟨C, ?_, h2, e⟩
    simp at h3
    exact (List.getElem?_eq_getElem h3.1).trans (congrArg some h3.2.symm)
  · cases h2
theorem fT_of {x : Str} {f : Nat} (h : D.fT.lookup x = some f) : ∃ d, D.fns[f]? = some d ∧ d.at_ = (x, none) ∧ d.hot = false := by
  have := PySem.mem_of_lookup h
  unfold PD.fT at this
  obtain ⟨⟨d, i⟩, h1, h2⟩ := List.mem_filterMap.mp this
  have h3 := List.mem_zipIdx h1
  simp only at h2
  split at h2
  · rename_i e eh
    simp at h2
    obtain ⟨h2, rfl⟩ := h2
    refine ⟨d, ?_, by rw [← h2, ← e], eh⟩
    simp at h3
    exact (List.getElem?_eq_getElem h3.1).trans (congrArg some h3.2.symm)
  · cases h2
theorem hT_of {x : Str} {f : Nat} (h : D.hT.lookup x = some f) : ∃ d, D.fns[f]? = some d ∧ d.at_ = (x, none) ∧ d.hot = true := by
  have := PySem.mem_of_lookup h
  unfold PD.hT at this
  obtain ⟨⟨d, i⟩, h1, h2⟩ := List.mem_filterMap.mp this
  have h3 := List.mem_zipIdx h1
  simp only at h2
  split at h2
  · rename_i e eh
    simp at h2
    obtain ⟨h2, rfl⟩ := h2
    refine ⟨d, ?_, by rw [← h2, ← e], eh⟩
    simp at h3
    exact (List.getElem?_eq_getElem h3.1).trans (congrArg some h3.2.symm)
  · cases h2
theorem cN_of {c : Nat} {C : CD} (h : D.cls[c]? = some C) : D.cN c = C.name := by
  unfold PD.cN; rw [h]
structure OkC (D : PD) (K : PySem.W.Frag) (C : CD) : Prop where
  glo : (He.Fa.glo C.name).ok K = true
  cls : Cls K (He.ga K C.name)
  keep : PySem.W.keepIn K (.ref (He.ga K C.name)) = true
  fld : ∀ f ∈ C.flds, NoAttr K (He.ga K C.name) f
  meth : ∀ m i, C.meths.lookup m = some i → m ∉ C.flds ∧ ∃ d, D.fns[i]? = some d ∧ Meth K (He.ga K C.name) m (He.fAd K d.at_) ∧ d.hot = false
  init : ∀ i, C.init = some i → ∃ d, D.fns[i]? = some d ∧ Mk K (He.ga K C.name) (He.fAd K d.at_) ∧ d.hot = false
  ini0 : C.init = none → PySem.W.makesIn K (He.ga K C.name) = true ∧ PySem.W.findIn K (.ref (He.ga K C.name)) "__init__" = some (some (.builtin "object.__init__"))
  ins : InsK K (He.ga K C.name)
  nd : C.flds.Nodup
  len : C.flds.length < 900
theorem okC_of {C : CD} (h : D.okC K C = true) : OkC D K C := by
  unfold PD.okC at h
  simp only [Bool.and_eq_true, decide_eq_true_eq] at h
  obtain ⟨⟨⟨⟨⟨⟨⟨⟨h1, h2⟩, h3⟩, h4⟩, h5⟩, h6⟩, h7⟩, h8⟩, h9⟩ := h
  have hc := He.cls_ok h2
  refine ⟨h1, hc, h3, fun f hf => He.noat_ok (List.all_eq_true.mp h4 f hf), fun m i e => ?_, fun i e => ?_, fun e => ?_, ?_, h8, h9⟩
  · have q := List.all_eq_true.mp h5 _ (PySem.mem_of_lookup e)
    simp only [Bool.and_eq_true] at q
    obtain ⟨⟨q1, q2⟩, q3⟩ := q
    refine ⟨by simpa using q2, ?_⟩
    split at q3
    · rename_i d ed
      simp only [Bool.and_eq_true, decide_eq_true_eq, Bool.not_eq_true'] at q3
      refine ⟨d, ed, ?_, q3.2⟩
      rw [← q3.1]
      exact He.meth_ok q1
    · cases q3
  · rw [e] at h6
    simp only [Bool.and_eq_true] at h6
    obtain ⟨q1, q2⟩ := h6
    split at q2
    · rename_i d ed
      simp only [Bool.and_eq_true, decide_eq_true_eq, Bool.not_eq_true'] at q2
      refine ⟨d, ed, ?_, q2.2⟩
      rw [← q2.1]
      exact He.mkr_ok q1
    · cases q2
  · rw [e] at h6
    simp only [Bool.and_eq_true] at h6
    exact ⟨h6.1, He.eqO_ok h6.2⟩
  · unfold insB at h7
    simp only [Bool.and_eq_true, decide_eq_true_eq] at h7
    obtain ⟨⟨⟨a, b⟩, c⟩, d⟩ := h7
    exact ⟨hc, He.eqO_ok a, He.eqO_ok b, c, d⟩
theorem xT_of {x : Str} {c : Nat} (h : D.xT.lookup x = some c) : ∃ C, D.exs[c]? = some C ∧ C.name = x := by
  have := PySem.mem_of_lookup h
  unfold PD.xT at this
  obtain ⟨⟨C, i⟩, h1, h2⟩ := List.mem_map.mp this
  have h3 := List.mem_zipIdx h1
  simp at h2
  obtain ⟨h2, rfl⟩ := h2
  refine ⟨C, ?_, h2⟩
  simp at h3
  exact (List.getElem?_eq_getElem h3.1).trans (congrArg some h3.2.symm)
theorem eT_of {x : Str} {c : Nat} (h : D.eT.lookup x = some c) : ∃ C d b, D.exs[c]? = some C ∧ C.name = x ∧ C.init = some (d, b) := by
  have := PySem.mem_of_lookup h
  unfold PD.eT at this
  obtain ⟨⟨C, i⟩, h1, h2⟩ := List.mem_filterMap.mp this
  have h3 := List.mem_zipIdx h1
  simp only at h2
  split at h2
  · cases h2
  · rename_i e
    simp at h2
    obtain ⟨h2, rfl⟩ := h2
    rename_i y
    obtain ⟨d, b⟩ := y
    refine ⟨C, d, b, ?_, h2, e⟩
    simp at h3
    exact (List.getElem?_eq_getElem h3.1).trans (congrArg some h3.2.symm)
theorem xN_of {c : Nat} {C : XD} (h : D.exs[c]? = some C) : D.xN c = C.name := by
  unfold PD.xN; rw [h]
structure OkX (K : PySem.W.Frag) (C : XD) : Prop where
  glo : (He.Fa.glo C.name).ok K = true
  exc : ExcK K (He.ga K C.name)
  fld : ∀ f ∈ C.flds, PySem.W.findIn K (.ref (He.ga K C.name)) f = some none
  nd : C.flds.Nodup
  len : C.flds.length ≤ 100
  ini : ∀ d b, C.init = some (d, b) → OexC K (He.ga K C.name) ∧ 0 < C.flds.length ∧ PySem.W.findIn K (.ref (He.ga K C.name)) "__init__" = some (some (.ref (He.fAd K d.at_))) ∧ PySem.W.typeIn K (.ref (He.fAd K d.at_)) = some (.type "function") ∧ (He.Fa.glo b).ok K = true ∧ HBase K (He.ga K b)
theorem okX_of {C : XD} (h : PD.okX K C = true) : OkX K C := by
  unfold PD.okX at h
  simp only [Bool.and_eq_true, decide_eq_true_eq] at h
  obtain ⟨⟨⟨⟨⟨h1, h2⟩, h3⟩, h4⟩, h5⟩, h6⟩ := h
  refine ⟨h1, excB_ok h2, fun f hf => He.eqO_ok (List.all_eq_true.mp h3 f hf), h4, h5, fun d b e => ?_⟩
  rw [e] at h6
  simp only [Bool.and_eq_true, decide_eq_true_eq] at h6
  obtain ⟨⟨⟨⟨⟨g1, g2⟩, g3⟩, g4⟩, g5⟩, g6⟩ := h6
  exact ⟨oexB_ok g1, g2, He.eqO_ok g3, g4, g5, hbB_ok g6⟩
structure OkK (D : PD) (K : PySem.W.Frag) : Prop where
  ex : ∀ (c : Nat) (C : XD), D.exs[c]? = some C → OkX K C
  xs : ∀ (c : Nat) (x : Str) (d : Nat), c < D.exs.length → D.xT.lookup x = some d → PySem.W.kitOne K (.ref (He.ga K (D.xN c))) (.ref (He.ga K (D.xN d))) = some (D.T.xsub c d) ∧ PySem.W.exmOne K (.ref (He.ga K (D.xN c))) (.ref (He.ga K (D.xN d))) = some (D.T.xsub c d)
  cls : ∀ (c : Nat) (C : CD), D.cls[c]? = some C → OkC D K C
  fns : ∀ (x : Str) (f : Nat), D.fT.lookup x = some f → (He.Fa.glo x).ok K = true
  fnh : ∀ (x : Str) (f : Nat), D.hT.lookup x = some f → (He.Fa.glo x).ok K = true
  bt : ∀ x ∈ D.bt, (He.Fa.free x).ok K = true
  co : ∀ p ∈ D.co, coB K p = true
  cm : ∀ p ∈ D.cm, cmB D K p = true
  isc : ∀ (c : Nat) (x : Str) (d : Nat), c < D.cls.length → D.cT.lookup x = some d → PySem.W.kitOne K (.ref (He.ga K (D.cN c))) (.ref (He.ga K (D.cN d))) = some (D.T.isC c d)
theorem okK_of (h : D.okK K = true) : OkK D K := by
  unfold PD.okK at h
  simp only [Bool.and_eq_true] at h
  obtain ⟨⟨⟨⟨⟨⟨⟨x1, x2⟩, h1⟩, h2⟩, h3⟩, h4⟩, h6⟩, h5⟩ := h
  refine ⟨fun c C e => okX_of (List.all_eq_true.mp x1 C (List.mem_of_getElem? e)), fun c x d hc e => ?_, fun c C e => okC_of (List.all_eq_true.mp h1 C (List.mem_of_getElem? e)), fun x f e => ?_, fun x f e => ?_, fun x hx => List.all_eq_true.mp h3 x hx, fun p hp => List.all_eq_true.mp h4 p hp, fun p hp => List.all_eq_true.mp h6 p hp, fun c x d hc e => ?_⟩
  · have q := List.all_eq_true.mp x2 c (List.mem_range.mpr hc)
    have q2 := List.all_eq_true.mp q _ (PySem.mem_of_lookup e)
    simp only [Bool.and_eq_true, decide_eq_true_eq] at q2
    exact q2
  · obtain ⟨d, e1, e2, _⟩ := fT_of e
    have q := List.all_eq_true.mp h2 d (List.mem_of_getElem? e1)
    rw [e2] at q
    exact q
  · obtain ⟨d, e1, e2, _⟩ := hT_of e
    have q := List.all_eq_true.mp h2 d (List.mem_of_getElem? e1)
    rw [e2] at q
    exact q
  · have q := List.all_eq_true.mp h5 c (List.mem_range.mpr hc)
    exact of_decide_eq_true (List.all_eq_true.mp q _ (PySem.mem_of_lookup e))
end
theorem mem_lkG {κ α : Type} [BEq κ] [LawfulBEq κ] : ∀ {l : List (κ × α)} {n : κ} {c : α}, l.lookup n = some c → (n, c) ∈ l
  | [], _, _, h => by cases h
  | (m, d) :: l, n, c, h => by
    rw [List.lookup_cons] at h
    split at h
    · rename_i hb
      have e := eq_of_beq hb
      cases h; subst e
      exact List.mem_cons_self
    · exact List.mem_cons_of_mem _ (mem_lkG h)
structure ScOk (d : FD) : Prop where
  S : FnScope d.N d.ps (defScope d.st)
  nd : d.N.Nodup
  len : d.ps.length = d.np
  le : d.np ≤ d.N.length
  args : ∃ as, defArgs d.st = ⟨[], as, none, [], [], none, []⟩ ∧ as.map (·.arg) = d.ps
theorem scOk_of {d : FD} (h : scOk d = true) : ScOk d := by
  unfold scOk at h
  simp only [Bool.and_eq_true, decide_eq_true_eq] at h
  obtain ⟨⟨⟨⟨⟨⟨⟨h1, h2⟩, h3⟩, h4⟩, h5⟩, h6⟩, h7⟩, h8⟩ := h
  have hl : d.ps.length = d.np := by unfold FD.ps; rw [List.length_take]; omega
  refine ⟨⟨?_, by simpa using h2, by simpa using h3, h4, ?_, ?_, ?_⟩, h4, hl, h5, ?_⟩
  · split at h1
    · assumption
    · cases h1
  · rw [hl]; rfl
  · intro x hx
    have q := List.all_eq_true.mp h6 x hx
    split at q
    · exact .inl (by assumption)
    · exact .inr (by assumption)
    · cases q
  · intro y hy e
    have q := List.all_eq_true.mp h7 y hy
    rw [e] at q
    cases q
  · unfold argsOk at h8
    split at h8
    · rename_i as e
      exact ⟨as, e, of_decide_eq_true h8⟩
    · cases h8
/-- the promise at a depth -/
structure FnG (D : PD) (K : PySem.W.Frag) (P : Program) (w : World) (mg : Str → Option Value) (base : Heap) (n f : Nat) (d : FD) : Prop where
  ex : ∃ fd, (∀ hp : Option Addr, d.hot = hp.isSome → FP.FnP P w K mg base (L2N.CX P w) (2 * n + 1) (He.fAd K d.at_) fd d.ps hp (spA (D.G K hp) D.T D.fi n f)) ∧ Binds K fd d.ps [] ∧ PySem.W.keepIn K (.ref (He.fAd K d.at_)) = true ∧ (∀ (s : Shared) (us : List Value), us.length = d.ps.length → BindsTo s fd ⟨us, []⟩ (d.ps.zip us)) ∧ FunD K (nmOf d.at_) d.qual (defArgs d.st) (defBody d.st) (defScope d.st) [] [] (He.fAd K d.at_) fd
section
variable {D : PD} {K : PySem.W.Frag} {P : Program} {w : World} {mg : Str → Option Value} {base : Heap}
theorem idx_of {l : List Str} {x : Str} {k : Nat} (h : l.idxOf? x = some k) : l[k]? = some x := by
  rw [List.idxOf?_eq_some_iff] at h
  obtain ⟨h1, h2, _⟩ := h
  rw [List.getElem?_eq_getElem h1]
  simpa using h2
theorem cx_of (hS : ∀ d ∈ D.fns, scOk d = true) (ok : OkK D K) (X : K.In base) (Gm : base.Ns mainGlobals mg) {n : Nat} (ih : ∀ (f : Nat) (d : FD), D.fns[f]? = some d → FnG D K P w mg base n f d) (d : FD) (nd : d.N.Nodup) {qual : Str} {fa : Addr} {cdv : Value} {A : Around} {outer : List Env} {s : Shared} {H : Hp} {E : XK}
    (hX : D.chkX = true) (hI : ∀ d ∈ D.inits, ∃ fd, FunD K (nmOf d.at_) d.qual (defArgs d.st) (defBody d.st) (defScope d.st) [] [] (He.fAd K d.at_) fd) (hrm : FP.Rm (2 * n + 2) (A.deeper (envOfC qual (defScope d.st) s.heap.objs.size fa cdv))) (hh : A.handled = none) :
    CxOk (D.S d) (D.G K) D.T D.fi n (FP.cxP (L2N.CX P w) P w K mg base d.N qual (defScope d.st) fa cdv A outer s H E none) (fun cls dx _ H => E cls dx H) := by
  have hr : Room (2 * n + 2) (A.deeper (envOfC qual (defScope d.st) s.heap.objs.size fa cdv)) := hrm.room hh
  have fnA : ∀ (f j : Nat) (d' : FD), j ≤ 1 → D.fns[f]? = some d' → d'.hot = false → FnA (D.G K) D.T D.fi n (FP.cxP (L2N.CX P w) P w K mg base d.N qual (defScope d.st) fa cdv A outer s H E none) f (He.fAd K d'.at_) j := fun f j d' hj e hot => by
    obtain ⟨fd, F, b, _⟩ := (ih f d' e).ex
    exact ⟨fd, d'.ps, 2 * n + 1, F none hot, hrm.mono (by omega), b⟩
  refine { gd := hrm.gd, hd := hh, hot := fun z => Bool.noConfusion (show true = false from z), cold := fun _ => rfl, hfn := ?_, K := rfl, N := rfl, nd := nd, sc := rfl, lf := fun _ _ _ => .inl rfl, calm := fun _ => rfl, un := ?_, tk := L2N.takes_of rfl rfl rfl rfl, fn := ?_, cl := ?_, c0 := ?_, mt := ?_, fp := ?_, ex := ?_, cm := ?_, isi := ?_, isc := ?_, co := ?_, bt := ?_, kf := ?_, xp := ?_, xi := ?_, xt := ?_, xs := ?_ }
  · have := hr.un
    show (A.deeper _).units + 65 < cLine
    omega
  · intro x f e
    obtain ⟨d', e1, e2, e3⟩ := hT_of e
    have hg := He.glo_ok X Gm (ok.fnh x f e)
    have ea : He.fAd K d'.at_ = He.ga K x := by rw [e2]; rfl
    obtain ⟨fd, F, b, k, _⟩ := (ih f d' e1).ex
    rw [ea] at k F
    exact ⟨He.ga K x, hg, k, fun p => ⟨fd, d'.ps, 2 * n + 1, F (some p) e3, hrm.mono (by omega), b⟩⟩
  · intro x f e
    obtain ⟨d', e1, e2, e3⟩ := fT_of e
    have hg := He.glo_ok X Gm (ok.fns x f e)
    have ea : He.fAd K d'.at_ = He.ga K x := by rw [e2]; rfl
    refine ⟨He.ga K x, hg, ?_, ?_⟩
    · obtain ⟨fd, _, _, k, _⟩ := (ih f d' e1).ex
      rw [ea] at k; exact k
    · have := fnA f 0 d' (by omega) e1 e3
      rw [ea] at this; exact this
  · intro x c e
    obtain ⟨C, e1, e2⟩ := cT_of e
    have q := ok.cls c C e1
    have ec : (D.G K).cA c = He.ga K x := by show He.ga K (D.cN c) = _; rw [cN_of e1, e2]
    have ef : (D.G K).cf c = C.flds := by show (match D.cls[c]? with | some C => C.flds | none => []) = _; rw [e1]
    rw [ec, ef]
    rw [← e2]
    refine ⟨He.glo_ok X Gm q.glo, (List.getElem?_eq_some_iff.mp e1).1, q.keep, ?_, fun f ei => ?_⟩
    · show (match D.cls[c]? with | some C => C.flds.length | none => 0) = _; rw [e1]
    · have ei' : (D.cls[c]?).bind (·.init) = some f := ei
      rw [e1] at ei'
      obtain ⟨d', e3, M, e4⟩ := q.init f ei'
      exact ⟨_, M, fnA f 1 d' (by omega) e3 e4⟩
  · intro x c e
    obtain ⟨C, e1, e2, e3⟩ := c0T_of e
    have q := ok.cls c C e1
    have ec : (D.G K).cA c = He.ga K x := by show He.ga K (D.cN c) = _; rw [cN_of e1, e2]
    have ef : (D.G K).cf c = C.flds := by show (match D.cls[c]? with | some C => C.flds | none => []) = _; rw [e1]
    obtain ⟨q1, q2⟩ := q.ini0 e3
    rw [ec, ef, ← e2]
    refine ⟨He.glo_ok X Gm q.glo, (List.getElem?_eq_some_iff.mp e1).1, q.keep, ?_, q1, q2⟩
    show (match D.cls[c]? with | some C => C.flds.length | none => 0) = _; rw [e1]
  · intro c m f nm e1 e2
    have e1' : ((D.cls[c]?).bind fun C => (D.mn[m]?).bind fun nm => C.meths.lookup nm) = some f := e1
    cases ec : D.cls[c]? with
    | none => rw [ec] at e1'; cases e1'
    | some C =>
      rw [ec] at e1'
      have e2' : D.mn[m]? = some nm := e2
      rw [Option.bind_some, e2', Option.bind_some] at e1'
      have q := ok.cls c C ec
      obtain ⟨h1, d', h2, h3, h4⟩ := q.meth nm f e1'
      have ea : (D.G K).cA c = He.ga K C.name := by show He.ga K (D.cN c) = _; rw [cN_of ec]
      have ef : (D.G K).cf c = C.flds := by show (match D.cls[c]? with | some C => C.flds | none => []) = _; rw [ec]
      rw [ea, ef]
      exact ⟨h1, _, q.cls, h3, fnA f 0 d' (by omega) h2 h4⟩
  · intro c f k nm e1 e2
    have e1' : ((D.cls[c]?).bind fun C => (D.an[f]?).bind fun nm => C.flds.idxOf? nm) = some k := e1
    cases ec : D.cls[c]? with
    | none => rw [ec] at e1'; cases e1'
    | some C =>
      rw [ec] at e1'
      have e2' : D.an[f]? = some nm := e2
      rw [Option.bind_some, e2', Option.bind_some] at e1'
      have q := ok.cls c C ec
      have ea : (D.G K).cA c = He.ga K C.name := by show He.ga K (D.cN c) = _; rw [cN_of ec]
      have ef : (D.G K).cf c = C.flds := by show (match D.cls[c]? with | some C => C.flds | none => []) = _; rw [ec]
      rw [ea, ef]
      have hi := idx_of e1'
      exact ⟨hi, q.cls, q.fld nm (List.mem_of_getElem? hi), q.nd, q.len⟩
  · intro c hc
    have hc' : c < D.cls.length := hc
    have q := ok.cls c _ (List.getElem?_eq_getElem hc')
    have ea : (D.G K).cA c = He.ga K (D.cls[c]).name := by show He.ga K (D.cN c) = _; rw [cN_of (List.getElem?_eq_getElem hc')]
    rw [ea]
    exact q.ins
  · intro x c e' e hc
    exact ok.isc c x e' hc e
  · intro x c e
    obtain ⟨C, d', b, e1, e2, e3⟩ := eT_of e
    have q := ok.ex c C e1
    obtain ⟨q1, q2, q3, q4, q5, q6⟩ := q.ini d' b e3
    have ec : (D.G K).xA c = He.ga K x := by show He.ga K (D.xN c) = _; rw [xN_of e1, e2]
    have ef : (D.G K).xf c = C.flds := by show (match D.exs[c]? with | some C => C.flds | none => []) = _; rw [e1]
    obtain ⟨fd, F⟩ := hI d' (List.mem_filterMap.mpr ⟨C, List.mem_of_getElem? e1, by rw [e3]; rfl⟩)
    have hx := List.all_eq_true.mp hX C (List.mem_of_getElem? e1)
    rw [e3] at hx
    obtain ⟨hx, x4⟩ := an2 (show iniOk d' C.flds b = true from hx)
    obtain ⟨hx, x3⟩ := an2 hx
    obtain ⟨x1, x2⟩ := an2 hx
    have so := scOk_of x1
    have hps : d'.ps = d'.N := by unfold FD.ps; rw [of_decide_eq_true x2, List.take_length]
    obtain ⟨as, a1, a2⟩ := so.args
    refine ⟨by rw [ec, ← e2]; exact He.glo_ok X Gm q.glo, ?_, He.fAd K d'.at_, fd, d'.N, ?_⟩
    · rw [ef]
      show (match D.exs[c]? with | some C => C.flds.length | none => 0) = _
      rw [e1]
    · have nd' : (as.map (·.arg)).Nodup := by rw [a2, hps]; exact so.nd
      refine { T := ?_, iC := ?_, tI := q4, F := ?_, hr := hr.mono (by omega), hb := ?_, no := ?_, nd := ?_, lt := (List.getElem?_eq_some_iff.mp e1).1, l0 := ?_, l1 := ?_ }
      · rw [ec, ← e2]; exact q1
      · rw [ec, ← e2]; exact q3
      · rw [ec, ef, ← e2]
        exact init_ok F (hps ▸ so.S) (of_decide_eq_true x3) (He.glo_ok X Gm q5) q6 x4
      · exact F.bindsN fun kV doc pm an cdv ct us hl => by
          rw [← hps, ← a2] at hl ⊢
          exact bind_plain a1 rfl nd' (by simpa using hl)
      · rw [ec, ef, ← e2]; exact q.fld
      · rw [ef]; exact q.nd
      · rw [ef]; exact q2
      · rw [ef]; exact q.len
  · intro x m f e
    have q := ok.cm _ (mem_lkG e)
    unfold cmB at q
    simp only [Bool.and_eq_true, decide_eq_true_eq] at q
    obtain ⟨⟨⟨q1, q2⟩, q3⟩, q4⟩ := q
    split at q4
    · rename_i d' ed
      split at q4
      · rename_i a ea
        simp only [Bool.and_eq_true, decide_eq_true_eq, Bool.not_eq_true'] at q4
        obtain ⟨rfl, q5⟩ := q4
        obtain ⟨fd, _, _, k, _⟩ := (ih f d' ed).ex
        exact ⟨_, _, He.glo_ok X Gm q1, q2, q3, ea, k, fnA f 0 d' (by omega) ed q5⟩
      · cases q4
    · cases q4
  · intro x v e
    have q := ok.co _ (PySem.mem_of_lookup e)
    unfold coB at q
    split at q
    · rename_i i hi
      simp only at hi
      obtain ⟨t, ht⟩ := He.int_ok X Gm q
      exact ⟨_, .int i, ht, ⟨t, rfl⟩, fun H => by rw [hi]; rfl⟩
    · rename_i z hz
      simp only at hz
      simp only [Bool.and_eq_true] at q
      obtain ⟨t, ht⟩ := He.str_ok X Gm q.1
      refine ⟨_, .str ⟨z.toArray⟩, ht, ⟨t, rfl⟩, fun H => by
        rw [hz]
        exact ⟨rfl, fun c hc => by simpa using List.all_eq_true.mp q.2 c hc⟩⟩
    · cases q
  · intro x hx
    exact He.free_ok X Gm (ok.bt x hx)
  · intro x l e
    obtain ⟨d', e1, e2⟩ := List.mem_filterMap.mp (PySem.mem_of_lookup (show D.kfT.lookup x = some l from e))
    split at e2
    · rename_i y hat hps
      split at e2
      · rename_i hc
        cases hk : KF.keyB y (defBody d'.st) with
        | none => rw [hk] at e2; cases e2
        | some l' =>
          rw [hk] at e2
          cases e2
          obtain ⟨f, hf⟩ := List.getElem?_of_mem e1
          obtain ⟨fd, _, _, kp, hb, F⟩ := (ih f d' hf).ex
          have so := scOk_of (hS d' e1)
          have hps' : d'.ps = [y] := hps
          have hS' := so.S
          rw [hps'] at hS' hb
          have efa : He.fAd K d'.at_ = He.ga K d'.at_.1 := by
            unfold He.fAd
            rw [hat]
          have hm : (d'.at_.1, f) ∈ D.fT := by
            unfold PD.fT
            refine List.mem_filterMap.mpr ⟨(d', f), List.mk_mem_zipIdx_iff_getElem?.mpr hf, ?_⟩
            simp only [hat, hc.2]
          obtain ⟨f0, hlk⟩ : ∃ f0, D.fT.lookup d'.at_.1 = some f0 := by
            cases hl : D.fT.lookup d'.at_.1 with
            | some f0 => exact ⟨f0, rfl⟩
            | none =>
              have := List.lookup_eq_none_iff.mp hl _ hm
              simp at this
          refine ⟨He.fAd K d'.at_, ?_, KF.key_fn F hS' hb hc.1.1 (beq_eq_false_iff_ne.mpr hc.1.2) hk, hr.mono (by omega)⟩
          rw [efa]
          exact He.glo_ok X Gm (ok.fns _ f0 hlk)
      · cases e2
    · cases e2
  · intro c f k nm e1 e2
    have e1' : ((D.exs[c]?).bind fun C => (D.an[f]?).bind fun nm => C.flds.idxOf? nm) = some k := e1
    cases ec : D.exs[c]? with
    | none => rw [ec] at e1'; cases e1'
    | some C =>
      rw [ec] at e1'
      have e2' : D.an[f]? = some nm := e2
      rw [Option.bind_some, e2', Option.bind_some] at e1'
      have q := ok.ex c C ec
      have ea : (D.G K).xA c = He.ga K C.name := by show He.ga K (D.xN c) = _; rw [xN_of ec]
      have ef : (D.G K).xf c = C.flds := by show (match D.exs[c]? with | some C => C.flds | none => []) = _; rw [ec]
      rw [ea, ef]
      have hi := idx_of e1'
      exact ⟨hi, q.fld nm (List.mem_of_getElem? hi)⟩
  · intro c hc
    have hc' : c < D.exs.length := hc
    have q := ok.ex c _ (List.getElem?_eq_getElem hc')
    have ea : (D.G K).xA c = He.ga K (D.exs[c]).name := by show He.ga K (D.xN c) = _; rw [xN_of (List.getElem?_eq_getElem hc')]
    rw [ea]
    exact q.exc
  · intro x c e
    obtain ⟨C, e1, e2⟩ := xT_of e
    have ec : (D.G K).xA c = He.ga K x := by show He.ga K (D.xN c) = _; rw [xN_of e1, e2]
    rw [ec, ← e2]
    exact He.glo_ok X Gm (ok.ex c C e1).glo
  · intro x d' c e hc
    exact ok.xs c x d' hc e
theorem start_rel {G : GK} {H : Hp} {N : List Str} {ds : List DV} {vs : List V} (r : DRels G.K H ds vs) : SRel G H (startA N.length ds) (L2.start N vs) := by
  have hl := r.length
  unfold startA L2.start
  refine ⟨by simp [hl], fun i d e => ?_⟩
  by_cases h : i < ds.length
  · rw [List.getElem?_append_left (by simpa using h), List.getElem?_map] at e
    cases e1 : ds[i]? with
    | none => rw [e1] at e; cases e
    | some d' =>
      rw [e1] at e
      cases e
      obtain ⟨v, e2, r2⟩ := r.get e1
      exact ⟨v, by rw [List.getElem?_append_left (by simp [hl]; exact h), List.getElem?_map, e2]; rfl, r2⟩
  · rw [List.getElem?_append_right (by simpa using h)] at e
    rw [List.getElem?_replicate] at e
    split at e
    · cases e
    · cases e
/-- what is known of a def's context stays known while an exception is handled -/
theorem cx_hot {S : SC} {G : GK} {T : PTab} {fns : Nat → Option FI} {n : Nat} {X0 : Cx} {W0 W : WX} (ok : CxOk S G T fns n X0 W0) (p : Addr) {A : Around} (hS : S.hfn = S.hfn) (hh : A.handled = some (.ref p)) (hg : A.guards = some []) (xe : Value → Shared → Prop)
    (tk : L2N.Takes { X0 with A := A, calm := false, xe := xe } W) (hd : A.depth = X0.A.depth) (hu : A.units = X0.A.units) : CxOk (su S) (G.at_ p) T fns n { X0 with A := A, calm := false, xe := xe } W :=
  { K := ok.K, N := ok.N, nd := ok.nd, sc := ok.sc, lf := ok.lf, calm := fun z => Bool.noConfusion (show false = true from z), un := (show A.units + 65 < cLine by rw [hu]; exact ok.un), gd := hg, hd := hh, hot := fun _ => rfl, cold := fun z => Bool.noConfusion (show false = true from z), tk := tk
    hfn := fun x f e => nomatch (show none = some f from e)
    fn := fun x f e => by
      obtain ⟨b, h1, h2, F⟩ := ok.hfn x f e
      obtain ⟨fd, ps, k, F1, F2, F3⟩ := (F p).ex
      exact ⟨b, h1, h2, ⟨fd, ps, k, F1, ⟨(show A.depth + _ + _ < _ by rw [hd]; exact F2.dp), (show A.units + _ + _ < _ by rw [hu]; exact F2.un), hg⟩, F3⟩⟩
    cl := fun x c e => nomatch (show none = some c from e)
    mt := fun c m f nm e1 e2 => by
      have e3 : ([] : List Str)[m]? = some nm := e2
      rw [List.getElem?_nil] at e3; cases e3
    c0 := ok.c0, fp := ok.fp, isi := ok.isi
    isc := fun x c d e => nomatch (show none = some d from e)
    kf := fun x l e => nomatch (show none = some l from e)
    ex := fun x c e => nomatch (show none = some c from e)
    cm := fun x m f e => nomatch (show none = some f from e)
    co := ok.co, bt := ok.bt, xp := ok.xp, xi := ok.xi, xt := ok.xt, xs := ok.xs }
theorem fn_sound (hD : ∀ d ∈ D.fns, D.chk d = true) (ok : OkK D K) (X : K.In base) (Gm : base.Ns mainGlobals mg)
    (hX : D.chkX = true) (hI : ∀ d ∈ D.inits, ∃ fd, FunD K (nmOf d.at_) d.qual (defArgs d.st) (defBody d.st) (defScope d.st) [] [] (He.fAd K d.at_) fd) (hF : ∀ d ∈ D.fns, ∃ fd, FunD K (nmOf d.at_) d.qual (defArgs d.st) (defBody d.st) (defScope d.st) [] [] (He.fAd K d.at_) fd) :
    ∀ (n f : Nat) (d : FD), D.fns[f]? = some d → FnG D K P w mg base n f d
  | 0, f, d, e => by
    have hm := List.mem_of_getElem? e
    obtain ⟨fd, F⟩ := hF d hm
    have q := hD d hm
    obtain ⟨q1, q2⟩ := an2 (show (_ && _) = true from q)
    obtain ⟨as, a1, a2⟩ := (scOk_of q1).args
    have nd' : (as.map (·.arg)).Nodup := by
      rw [a2]
      exact (List.take_sublist _ _).nodup (scOk_of q1).nd
    refine ⟨fd, fun hp _ => ⟨?_, ?_⟩, ?_, F.kp, ?_, F⟩
    · rintro vs H Q E ⟨_, _, _, _, _, _, z, _⟩
      exact z.elim
    · rintro A outer s H args us vs Q E _ _ _ _ _ ⟨_, _, _, _, _, _, z, _⟩
      exact z.elim
    · exact F.bindsN fun kV doc pm an cdv ct us hl => by rw [← a2]; exact bind_plain a1 rfl nd' (by rw [a2]; exact hl)
    · exact F.bindsA fun kV doc pm an cdv ct us hl => by rw [← a2]; exact bind_plain a1 rfl nd' (by rw [a2]; exact hl)
  | n + 1, f, d, e => by
    have ih := fn_sound hD ok X Gm hX hI hF n
    have hm := List.mem_of_getElem? e
    obtain ⟨fd, F⟩ := hF d hm
    have q := hD d hm
    obtain ⟨q1, q2⟩ := an2 (show (_ && _) = true from q)
    have so := scOk_of q1
    obtain ⟨as, a1, a2⟩ := so.args
    have nd' : (as.map (·.arg)).Nodup := by
      rw [a2]
      exact (List.take_sublist _ _).nodup so.nd
    have efi : D.fi f = some ⟨d.np, d.N.length, d.body⟩ := by unfold PD.fi; rw [e]; rfl
    refine ⟨fd, ?_, ?_, F.kp, ?_, F⟩
    · intro hp hot
      refine FP.fn_ofP (k := 2 * n + 2) F so.S ?_ ?_
      · rintro vs H Q E ⟨ds, h, Qa, Xa, rd, hr, ⟨fi, ef, hl, w⟩, _⟩
        rw [efi] at ef; cases ef
        rw [rd.length, hl, so.len]
      · rintro cdv A outer s H vs Q E hr hh ⟨ds, h, Qa, Xa, rd, hrel, ⟨fi, ef, hl, wb⟩, ql, xl⟩
        rw [efi] at ef; cases ef
        have st : StOk (D.Sx d) (D.G K hp) D.T D.fi n (FP.cxP (L2N.CX P w) P w K mg base d.N d.qual (defScope d.st) (He.fAd K d.at_) cdv A outer s H E hp) (fun cls dx _ H => E cls dx H) := by
          have cx := cx_of (A := { A with handled := none }) (fun d' hd' => (an2 (show (_ && _) = true from hD d' hd')).1) ok X Gm ih d so.nd hX hI (qual := d.qual) (fa := He.fAd K d.at_) (cdv := cdv) (outer := outer) (s := s) (H := H) (E := E) (P := P) (w := w) ⟨hr.dp, hr.un, hr.gd⟩ rfl
          cases hp with
          | none =>
            have e0 : D.Sx d = D.S d := if_neg (by rw [hot]; nofun)
            have eA : ({ A with handled := none } : Around) = A := by cases A; cases (show _ = none from hh); rfl
            rw [e0]
            rw [eA] at cx
            exact ⟨cx, fun _ => passes_of rfl, so.S.kind, rfl, rfl⟩
          | some p =>
            have e0 : D.Sx d = D.SH d := if_pos (by rw [hot]; rfl)
            rw [e0]
            exact ⟨cx_hot (A := A.deeper (envOfC d.qual (defScope d.st) s.heap.objs.size (He.fAd K d.at_) cdv)) cx p rfl hh hr.gd (FP.cxP (L2N.CX P w) P w K mg base d.N d.qual (defScope d.st) (He.fAd K d.at_) cdv A outer s H E (some p)).xe (L2N.takes_of rfl rfl rfl rfl) rfl rfl, fun z => Bool.noConfusion (show false = true from z), so.S.kind, rfl, rfl⟩
        refine ⟨_, sSs (D.G K hp) D.T D.fi n d.body (D.Sx d) _ _ (defBody d.st) st q2, startA d.N.length ds, h, _, start_rel rd, hrel, wb, ?_, ?_, ?_, ?_⟩
        · rintro s' h' σ' H' x hr' sr' ⟨g, sub, q⟩
          exact ql .non g .non H' x (hr'.sub sub) rfl q
        · rintro d' h' v H' x hr' rd' ⟨g, sub, q⟩
          exact ql d' g v H' x (hr'.sub sub) rd' q
        · rintro s' h' σ' H' x hr' sr' q
          exact q.elim
        · rintro c fs s' h' σ' H' dx x hr' sr' xr ⟨g, sub, q⟩
          exact xl c fs g dx H' x (hr'.sub sub) xr q
    · exact F.bindsN fun kV doc pm an cdv ct us hl => by rw [← a2]; exact bind_plain a1 rfl nd' (by rw [a2]; exact hl)
    · exact F.bindsA fun kV doc pm an cdv ct us hl => by rw [← a2]; exact bind_plain a1 rfl nd' (by rw [a2]; exact hl)
end
end PL

set_option maxHeartbeats 8000000
/-! PL, part t: the head. -/
namespace PL
open PySem PySem.Spec PyProof.Rows L2
section
variable {ok : PySem.W.Frag → Bool} {fn : List He.DefD} {K : PySem.W.Frag}
theorem SaysP.fact (c : SaysP ok fn K) : ok K = true :=
  (He.ba (show (ok K && fn.all fun d => d.ok K) = true from congrArg (fun z : He.AlD => z.1) c)).1
theorem SaysP.def_ (c : SaysP ok fn K) {d : He.DefD} (h : d ∈ fn) : ∃ fd, FunD K d.name d.qual d.params d.body d.scope (d.dvs K) (d.kws K) (He.fAd K d.at_) fd := by
  have c2 := (He.ba (show (ok K && fn.all fun d => d.ok K) = true from congrArg (fun z : He.AlD => z.1) c)).2
  have e : fn.map (fun d => He.fnW K d.at_) = fn.map He.DefD.val := congrArg (fun z : He.AlD => z.2) c
  obtain ⟨i, hi, rfl⟩ := List.getElem_of_mem h
  have e2 : (fn.map fun d => He.fnW K d.at_)[i]? = (fn.map He.DefD.val)[i]? := by rw [e]
  rw [List.getElem?_map, List.getElem?_map, List.getElem?_eq_getElem hi] at e2
  exact He.DefD.funD (Option.some.inj e2) (List.all_eq_true.mp c2 _ h)
end
theorem q4_app {D : PD} {K : PySem.W.Frag} {l : List FD} {a : Nat} (h1 : D.q4 K (l.take a) = true) (h2 : D.q4 K (l.drop a) = true) : D.q4 K l = true := by
  unfold PD.q4 at *
  rw [← List.take_append_drop a l, List.all_append, h1, h2]; rfl
theorem all_of {D : PD} {K : PySem.W.Frag} {m : Nat} (h1 : D.q1 K = true) (h2 : D.q2 K (D.cls.take m) = true) (h3 : D.q2 K (D.cls.drop m) = true) (h4 : D.q3 K = true) (h5 : noLists K = true) : D.all K = true := by
  unfold PD.q1 at h1
  unfold PD.q3 at h4
  have h23 : (D.cls.all fun C => D.okC K C) = true := by
    rw [← List.take_append_drop m D.cls, List.all_append]
    unfold PD.q2 at h2 h3
    rw [h2, h3]; rfl
  simp only [Bool.and_eq_true] at h1 h4
  obtain ⟨a1, a2⟩ := h1
  obtain ⟨⟨⟨⟨b1, b2⟩, b3⟩, b4⟩, b5⟩ := h4
  unfold PD.all PD.okK
  simp only [Bool.and_eq_true]
  exact ⟨⟨⟨⟨⟨⟨⟨⟨a1, a2⟩, h23⟩, b1⟩, b2⟩, b3⟩, b4⟩, b5⟩, h5⟩
theorem obs_of {D : PD} {nR m j : Nat} {s : PySem.W.SharedT} (h1 : D.q1 (kF nR s) = true) (h2 : D.q2 (kF nR s) (D.cls.take m) = true) (h3 : D.q2 (kF nR s) (D.cls.drop m) = true) (h4 : D.q3 (kF nR s) = true) (h5 : noLists (kF nR s) = true) (h6 : D.q4 (kF nR s) (D.defs.take j) = true) (h7 : D.q4 (kF nR s) (D.defs.drop j) = true)
    (h8 : ((D.defs.take j).map fun d => He.fnW (kF nR s) d.dd.at_) = (D.defs.take j).map fun d => d.dd.val) (h9 : ((D.defs.drop j).map fun d => He.fnW (kF nR s) d.dd.at_) = (D.defs.drop j).map fun d => d.dd.val) : obsPG nR D.all (D.defs.map FD.dd) (HandSHeadRun.getT s) = He.valD (D.defs.map FD.dd) := by
  show (D.all (kF nR s) && (D.defs.map FD.dd).all (fun d => d.ok (kF nR s)), (D.defs.map FD.dd).map fun d => He.fnW (kF nR s) d.at_) = (true, (D.defs.map FD.dd).map He.DefD.val)
  rw [all_of h1 h2 h3 h4 h5]
  have ha : (D.defs.map FD.dd).all (fun d => d.ok (kF nR s)) = true := by
    rw [List.all_map, ← List.take_append_drop j D.defs, List.all_append]
    unfold PD.q4 at h6 h7
    rw [show ((fun d : He.DefD => d.ok (kF nR s)) ∘ FD.dd) = (fun d : FD => d.dd.ok (kF nR s)) from rfl, h6, h7]; rfl
  rw [ha]
  have hb : ((D.defs.map FD.dd).map fun d => He.fnW (kF nR s) d.at_) = (D.defs.map FD.dd).map He.DefD.val := by
    rw [List.map_map, List.map_map]
    rw [← List.take_append_drop j D.defs, List.map_append, List.map_append]
    show ((D.defs.take j).map fun d => He.fnW (kF nR s) d.dd.at_) ++ ((D.defs.drop j).map fun d => He.fnW (kF nR s) d.dd.at_) = _
    rw [h8, h9]
    rfl
  rw [hb]
  rfl
theorem join3 {S A B C C' : Type} {X : Option S} {l : S → A} {m : S → B} {o : S → C} {o' : S → C'} {a : A} {b : B} {c : C} {c' : C'} (e0 : X.map (fun s => (l s, m s, o s)) = some (a, b, c)) (e : ∀ s, X = some s → o' s = c') : X.map (fun s => (l s, m s, o' s)) = some (a, b, c') := by
  cases X with
  | none => cases e0
  | some s =>
    simp only [Option.map_some, Option.some.injEq, Prod.mk.injEq] at e0 ⊢
    exact ⟨e0.1, e0.2.1, e s rfl⟩
theorem pick {S A : Type} {X : Option S} {p : S → A} {v : A} (h : X.map p = some v) (s : S) (e : X = some s) : p s = v := by
  subst e
  exact Option.some.inj h
theorem mem_lk {α : Type} : ∀ {l : List (Addr × α)} {n : Addr} {c : α}, l.lookup n = some c → (n, c) ∈ l
  | [], _, _, h => by cases h
  | (m, d) :: l, n, c, h => by
    rw [List.lookup_cons] at h
    split at h
    · rename_i hb
      have e := eq_of_beq hb
      cases h; subst e
      exact List.mem_cons_self
    · exact List.mem_cons_of_mem _ (mem_lk h)
theorem noLists_of {K : PySem.W.Frag} (h : noLists K = true) {a : Addr} {o : Obj} (e : K.lookup a = some o) : o.cls ≠ .type "list" := by
  intro q
  have := List.all_eq_true.mp h (a, o) (mem_lk e)
  simp only [q] at this
  exact absurd rfl (of_decide_eq_true this)
/-- the script -/
def scr (a : Addr) (ns : List Int) : AH := fun b => if b = a then some (.flst (ns.map .int)) else none
theorem scr_rel {G : GK} {H : Hp} {a : Addr} {ns : List Int} {o : Obj} (hn : G.hp = none) (h : H a = some (.frz o (.lst (ns.map V.int)))) : HRel G H (scr a ns) := by
  refine ⟨?_, fun p z => by rw [hn] at z; cases z⟩
  intro b u e
  unfold scr at e
  split at e
  · rename_i hb
    cases e
    subst hb
    exact ⟨o, _, h, DRels.of_ints⟩
  · cases e
theorem fT_hot {D : PD} {F : Nat} {dF : FD} {nm : Str} (hF : D.fns[F]? = some dF) (hlk : D.fT.lookup nm = some F) : dF.hot = false := by
  obtain ⟨d, e1, _, e3⟩ := fT_of hlk
  rw [hF] at e1
  cases e1
  exact e3
/-- the law, walked -/
theorem walk_pl {l : PySem.W.OpenLaw} {q : Program} {loose : List Str} {XP : (Str → Option Value) → Heap → Prop} {d : DefRec} {D : PD} {nR F lv : Nat} {dF : FD} {x : Str}
    (hn : l.most = some 63) (hdf : d.params.defaults = []) (hr : FP.Rm (2 * lv + 1) callerA) (hD : (D.fns.all fun d => D.chk d) = true) (hX : D.chkX = true) (hF : D.fns[F]? = some dF) (hat : dF.at_ = (d.name, none)) (hps : dF.ps = [x]) (hlk : D.fT.lookup d.name = some F)
    (law : ∀ (a : Addr) (ns : List Int), ns.length ≤ 63 → wCall D.T D.fi lv F [.ref a] (scr a ns) (fun v _ => v = .bl true) (fun _ _ _ => False)) :
    PySem.W.WalkO q loose XP (hookP nR D.all (D.defs.map FD.dd)).says l.row.toRowW d [] (fun f vs => PySem.call f vs) := by
  refine Att.attach_call hn hdf fun w s₀ s₁ mg mb fa o pm cd doc a vs ns G Y ho hd hcd hmg hobj hints hlen hg => ?_
  obtain ⟨K, KX, c⟩ := Y
  obtain ⟨k1, k2⟩ := an2 (show (_ && _) = true from c.fact)
  have oK := okK_of k1
  have hDm : ∀ d ∈ D.fns, D.chk d = true := fun d hd => List.all_eq_true.mp hD d hd
  have hFn : ∀ d ∈ D.fns, ∃ fd, FunD K (nmOf d.at_) d.qual (defArgs d.st) (defBody d.st) (defScope d.st) [] [] (He.fAd K d.at_) fd := fun d hd => c.def_ (List.mem_map.mpr ⟨d, List.mem_append_left _ hd, rfl⟩)
  have hI : ∀ d ∈ D.inits, ∃ fd, FunD K (nmOf d.at_) d.qual (defArgs d.st) (defBody d.st) (defScope d.st) [] [] (He.fAd K d.at_) fd := fun d hd => c.def_ (List.mem_map.mpr ⟨d, List.mem_append_right _ hd, rfl⟩)
  have efa : He.fAd K dF.at_ = fa := by
    have e1 := He.glo_ok KX G.T.g (oK.fns d.name F hlk)
    rw [hmg] at e1
    cases e1
    rw [hat]; rfl
  have kk : ∀ fd fd', FunD K (nmOf dF.at_) dF.qual (defArgs dF.st) (defBody dF.st) (defScope dF.st) [] [] (He.fAd K dF.at_) fd → FunD K (nmOf dF.at_) dF.qual (defArgs dF.st) (defBody dF.st) (defScope dF.st) [] [] (He.fAd K dF.at_) fd' → fd = fd' := by
    rintro fd fd' ⟨⟨_, _, _, _, _, _, _, _, _, _, _, a1, _⟩, _⟩ ⟨⟨_, _, _, _, _, _, _, _, _, _, _, b1, _⟩, _⟩
    rw [a1] at b1
    cases b1; rfl
  obtain ⟨fd, _, _, _, hb, F0⟩ := (fn_sound hDm oK KX G.T.g hX hI hFn lv F dF hF (P := l.prog) (w := w)).ex
  have hp : ∀ base : Heap, K.In base → base.Ns mainGlobals mg → FP.FnP l.prog w K mg base (L2N.CX l.prog w) (2 * lv + 1) fa fd [x] none (spA (D.G K) D.T D.fi lv F) := fun base h1 h2 => by
    obtain ⟨fd', G1, _, _, _, F1⟩ := (fn_sound hDm oK h1 h2 hX hI hFn lv F dF hF (P := l.prog) (w := w)).ex
    rw [kk fd fd' F0 F1, ← hps, ← efa]
    exact G1 none (fT_hot hF hlk)
  have hKa : K.lookup a = none := by
    cases e : K.lookup a with
    | none => rfl
    | some o =>
      have z := KX a o e
      rw [hobj] at z
      cases z
      exact absurd rfl (noLists_of k2 e)
  refine FP.law_P KX G.T.g G.T.b G.T.builtins G.T.nolimit hg hobj hints (Nat.le_trans hlen (by decide)) hr hKa hp (fun s u => ?_) (fun H hS => ?_) fun H e s' ⟨_, _, _, _, _, _, _, _, _, _, _, _, z⟩ => z
  · have := hb s [u] (by rw [hps]; rfl)
    rw [hps] at this
    exact this
  · have hl : ns.length ≤ 63 := hlen
    obtain ⟨o, hfz⟩ := hS
    refine ⟨[.ref a], scr a ns, _, _, ⟨.ref a, [], rfl, rfl, rfl⟩, scr_rel rfl hfz, law a ns hl, ?_, ?_⟩
    · rintro d h v H' x hr rd rfl
      cases rd
      rfl
    · rintro _ _ _ _ _ _ _ _ z
      exact z.elim
end PL

set_option maxHeartbeats 4000000
/-! PL, part u: plain steps. -/
namespace PL
open PySem PySem.Spec PyProof.Rows L2
set_option hygiene false in
local macro_rules | `(tactic| walk_at "ts") => `(tactic| try simp only [PL.w_make, PL.w_dct, PL.w_items, PL.w_lrg, PL.w_con, PL.w_bin, PL.w_cmp, PL.w_cmp2, PL.w_neg, PL.w_not, PL.w_and, PL.w_or, PL.w_isN, PL.w_notN, PL.w_tup, PL.w_lst, PL.w_ix, PL.w_fld, PL.w_call, PL.w_meth, PL.w_bm, PL.w_isi, PL.w_nil, PL.w_cons, PL.w_bf, PL.w_varE, PL.q_nil, PL.q_cons, PL.q_asg, PL.q_nm, PL.q_tup, PL.q_sub, PL.q_fld, PL.q_ret, PL.q_retN, PL.q_expr, PL.q_if, PL.q_for, PL.q_brk, PL.q_pass, PL.w_seq, PL.w_rng1, PL.w_rng2, PL.w_enum, PL.w_lc, PL.wC_n, PL.wC_c, PL.wO_n, PL.wO_c, PL.w_sl, PL.find_s, PL.it_s, PL.min_i, PL.max_i, PL.exi_int, PL.exi_bl, PL.tru_bl, PL.add_i, PL.sub_i, PL.lt_i, PL.gt_i, PL.le_i, PL.ge_i, PL.eq_i, PL.ne_i, PL.eq_s, PL.ne_s, PL.lt_s, PL.eq_b, PL.ne_b, PL.not_t, PL.not_f, List.getElem?_cons_zero, List.getElem?_cons_succ, List.set_cons_zero, List.set_cons_succ, List.foldl_cons, List.foldl_nil, List.zip_cons_cons, List.zip_nil_left, List.zip_nil_right, Option.some.injEq, exists_eq_left', if_true, if_false, PL.ite_tt, PL.ite_ff, PL.bindA1, PL.kxE, PL.ty_non_int, PL.ty_non_bool, PL.ty_non_str, PL.ty_non_list, PL.ty_non_tuple, PL.ty_non_dict, PL.ty_bl_int, PL.ty_bl_bool, PL.ty_bl_str, PL.ty_bl_list, PL.ty_bl_tuple, PL.ty_bl_dict, PL.ty_int_int, PL.ty_int_bool, PL.ty_int_str, PL.ty_int_list, PL.ty_int_tuple, PL.ty_int_dict, PL.ty_str_int, PL.ty_str_bool, PL.ty_str_str, PL.ty_str_list, PL.ty_str_tuple, PL.ty_str_dict, PL.ty_tup_int, PL.ty_tup_bool, PL.ty_tup_str, PL.ty_tup_list, PL.ty_tup_tuple, PL.ty_tup_dict, PL.wTstE, decide_true, decide_false, eq_self, reduceCtorEq, Bool.not_true, Bool.not_false])
/-! ### parts with their continuations -/
def xSet (x y d : DV) (h : AH) (N : AH → Prop) : Prop := ∃ p, x = .ref p ∧
  ((∃ xs k j, h p = some (.lst xs) ∧ y = .int k ∧ ixN xs.length k = some j ∧ N (au h p (.lst (xs.set j d)))) ∨
    ∃ kvs, h p = some (.dct kvs) ∧ keyOk y = true ∧ kvs.length < sizeLine ∧ N (au h p (.dct (dput kvs y d))))
def xFld (T : PTab) (f : Nat) (x : DV) (h : AH) (Q : AQ) : Prop := ∃ p, x = .ref p ∧ (∃ c fs k d, h p = some (.ins c fs) ∧ T.fp c f = some k ∧ fs[k]? = some (some d) ∧ Q d h)
def xMt (T : PTab) (m : Nat) (x : DV) (h : AH) (R : Nat → Prop) : Prop := ∃ p c fs f, x = .ref p ∧ h p = some (.ins c fs) ∧ T.mt c m = some f ∧ R f
def xMake (T : PTab) (C : COr) (c : Nat) (ds : List DV) (h : AH) (Q : AQ) : Prop := ∃ f, T.init c = some f ∧ ∀ p, h p = none → C f (.ref p :: ds) (au h p (.ins c (List.replicate (T.nf c) none))) (fun v h2 => v = .non ∧ Q (.ref p) h2) (fun _ _ _ => False)
def xIsi (T : PTab) (ts : List TY) (x : DV) (h : AH) (Q : AQ) : Prop := (∀ t ∈ ts, isiOk h x t = true) ∧ Q (.bl (ts.any (tyOf T h x))) h
def xPut (T : PTab) (f : Nat) (x d : DV) (h : AH) (N : AH → Prop) : Prop := ∃ p c fs k, x = .ref p ∧ h p = some (.ins c fs) ∧ T.fp c f = some k ∧ k < fs.length ∧ N (au h p (.ins c (fs.set k (some d))))
section
variable {T : PTab} {C : COr} {s : ASt} {h : AH} {Q : AQ} {Y : AX} {K : KT}
/-! ### steps as equations -/
theorem w_con {d : DV} : wE T C s h Q Y (.con d) = Q d h := propext Iff.rfl
theorem w_varE {i} : wE T C s h Q Y (.var i) = ∃ d, s[i]? = some (some d) ∧ Q d h := propext Iff.rfl
theorem w_bin {o a b} : wE T C s h Q Y (.bin o a b) = wE T C s h (fun x h1 => wE T C s h1 (fun y h2 => xBin o x y h2 Q) Y b) Y a := propext Iff.rfl
theorem w_cmp {o a b} : wE T C s h Q Y (.cmp o a b) = wE T C s h (fun x h1 => wE T C s h1 (fun y h2 => xCmp o x y h2 Q) Y b) Y a := propext Iff.rfl
theorem w_cmp2 {o p a b c} : wE T C s h Q Y (.cmp2 o p a b c) = wE T C s h (fun x h1 => wE T C s h1 (fun y h2 => xCmp o x y h2 fun z h3 => ∃ k, z = .bl k ∧ if k = true then wE T C s h3 (fun w h4 => xCmp p y w h4 Q) Y c else Q (.bl false) h3) Y b) Y a := propext Iff.rfl
theorem w_cmp3 {o p r a b c d} : wE T C s h Q Y (.cmp3 o p r a b c d) = wE T C s h (fun x h1 => wE T C s h1 (fun y h2 => xCmp o x y h2 fun z h3 => ∃ k, z = .bl k ∧ if k = true then wE T C s h3 (fun w h4 => xCmp p y w h4 fun z' h5 => ∃ k', z' = .bl k' ∧ if k' = true then wE T C s h5 (fun v h6 => xCmp r w v h6 Q) Y d else Q (.bl false) h5) Y c else Q (.bl false) h3) Y b) Y a := propext Iff.rfl
theorem w_neg {a} : wE T C s h Q Y (.neg a) = wE T C s h (fun x h1 => ∃ i, x = .int i ∧ Q (.int (-i)) h1) Y a := propext Iff.rfl
theorem w_not {a} : wE T C s h Q Y (.notE a) = wE T C s h (fun x h1 => ∃ b, x = .bl b ∧ Q (.bl (!b)) h1) Y a := propext Iff.rfl
theorem w_and {a b} : wE T C s h Q Y (.andE a b) = wE T C s h (fun x h1 => ∃ c, x = .bl c ∧ if c = true then wE T C s h1 Q Y b else Q (.bl false) h1) Y a := propext Iff.rfl
theorem w_or {a b} : wE T C s h Q Y (.orE a b) = wE T C s h (fun x h1 => ∃ c, x = .bl c ∧ if c = true then Q (.bl true) h1 else wE T C s h1 Q Y b) Y a := propext Iff.rfl
theorem w_isN {a} : wE T C s h Q Y (.isN a) = wE T C s h (fun x h1 => Q (.bl (decide (x = .non))) h1) Y a := propext Iff.rfl
theorem w_notN {a} : wE T C s h Q Y (.notN a) = wE T C s h (fun x h1 => Q (.bl (!decide (x = .non))) h1) Y a := propext Iff.rfl
theorem w_tup {es} : wE T C s h Q Y (.tup es) = wEs T C s h (fun ds h1 => ds.length ≤ sizeLine ∧ Q (.tup ds) h1) Y es := propext Iff.rfl
theorem w_lst {es} : wE T C s h Q Y (.lst es) = wEs T C s h (fun ds h1 => ds.length ≤ sizeLine ∧ newO (.lst ds) h1 Q) Y es := propext Iff.rfl
theorem w_ix {a i} : wE T C s h Q Y (.ix a i) = wE T C s h (fun x h1 => wE T C s h1 (fun y h2 => xIx x y h2 Q) Y i) Y a := propext Iff.rfl
theorem w_sl {a lo hi} : wE T C s h Q Y (.sl a lo hi) = wE T C s h (fun x h1 => wO T C s h1 (fun l h2 => wO T C s h2 (fun u h3 => xSl x l u h3 Q) Y hi) Y lo) Y a := propext Iff.rfl
theorem w_fld {a f} : wE T C s h Q Y (.fld a f) = wE T C s h (fun x h1 => xFld T f x h1 Q) Y a := propext Iff.rfl
theorem w_call {f es} : wE T C s h Q Y (.call f es) = wEs T C s h (fun ds h1 => C f ds h1 Q Y) Y es := propext Iff.rfl
theorem w_meth {a m es} : wE T C s h Q Y (.meth a m es) = wE T C s h (fun x h1 => xMt T m x h1 fun f => wEs T C s h1 (fun ds h2 => C f (x :: ds) h2 Q Y) Y es) Y a := propext Iff.rfl
theorem w_bm {a m es} : wE T C s h Q Y (.bm a m es) = wE T C s h (fun x h1 => recvOk m x h1 ∧ wEs T C s h1 (fun ds h2 => xBM m x ds h2 Q) Y es) Y a := propext Iff.rfl
theorem w_make {c es} : wE T C s h Q Y (.make c es) = wEs T C s h (fun ds h1 => xMake T C c ds h1 Q) Y es := propext Iff.rfl
theorem w_mk0 {c} : wE T C s h Q Y (.mk0 c) = newO (.ins c (List.replicate (T.nf c) none)) h Q := propext Iff.rfl
theorem w_dct {es} : wE T C s h Q Y (.dct es) = (∀ p, h p = none → wEs T C s (au h p (.dct [])) (fun ds h2 => h2 p = some (.dct []) ∧ ∃ kvs, pairL ds = some kvs ∧ (kvs.all fun q => keyOk q.1) = true ∧ kvs.length ≤ 15 ∧ Q (.ref p) (au h2 p (.dct (dputs [] kvs)))) Y es) := propext Iff.rfl
theorem w_dseq {e R} : wI T C s h R Y (.dseq e) = wE T C s h (fun x h1 => ∃ a kvs, x = .ref a ∧ h1 a = some (.dct kvs) ∧ ∀ o q, R (fun h' => h' a = some (.fdct kvs o q)) (kvs.map (·.1)) (au h1 a (.fdct kvs o q))) Y e := propext Iff.rfl
theorem w_items {e R} : wI T C s h R Y (.items e) = wE T C s h (fun x h1 => ∃ a kvs o q, x = .ref a ∧ h1 a = some (.fdct kvs o q) ∧ R (fun h' => h' a = some (.fdct kvs o q)) (kvs.map fun p => .tup [p.1, p.2]) h1) Y e := propext Iff.rfl
theorem w_lrg {a b} : wE T C s h Q Y (.lrg a b) = wE T C s h (fun x h1 => wE T C s h1 (fun y h2 => ∃ i j : Int, x = .int i ∧ y = .int j ∧ -(2 ^ 62) ≤ i ∧ i < 2 ^ 62 ∧ -(2 ^ 62) ≤ j ∧ j < 2 ^ 62 ∧ (j - i).toNat ≤ 1000000 ∧ newO (.lst ((List.range (j - i).toNat).map fun k => .int (i + (k : Nat)))) h2 Q) Y b) Y a := propext Iff.rfl
theorem int_b {b : Bool} : xBF .int [.bl b] h Q = Q (.int (if b = true then 1 else 0)) h := propext Iff.rfl
theorem int_i {i : Int} : xBF .int [.int i] h Q = Q (.int i) h := propext Iff.rfl
theorem w_isi {a ts tp} : wE T C s h Q Y (.isi a ts tp) = wE T C s h (fun x h1 => xIsi T ts x h1 Q) Y a := propext Iff.rfl
theorem w_lc {el t own it cond} : wE T C s h Q Y (.lc el t own it cond) = wI T C s h (fun chk xs h1 => ∀ D, h1 D = none → wLc chk t own D (fun s h R => wC T C s h R (fun _ _ _ => False) cond) (fun s h R => wE T C s h R (fun _ _ _ => False) el) (fun h' => Q (.ref D) h') s xs (au h1 D (.lst []))) Y it := propext Iff.rfl
theorem w_nil {R} : wEs T C s h R Y .nil = R [] h := propext Iff.rfl
theorem w_cons {e r R} : wEs T C s h R Y (.cons e r) = wE T C s h (fun x h1 => wEs T C s h1 (fun xs h2 => R (x :: xs) h2) Y r) Y e := propext Iff.rfl
theorem w_bf {b es} : wE T C s h Q Y (.bf b es) = wEs T C s h (fun ds h1 => xBF b ds h1 Q) Y es := propext Iff.rfl
theorem wO_n {R} : wO T C s h R Y .nil = R none h := propext Iff.rfl
theorem wO_c {e r R} : wO T C s h R Y (.cons e r) = wE T C s h (fun x h1 => ∃ i, x = .int i ∧ R (some i) h1) Y e := propext Iff.rfl
theorem wC_n {R} : wC T C s h R Y .nil = R true h := propext Iff.rfl
theorem wC_c {e r R} : wC T C s h R Y (.cons e r) = wE T C s h (fun x h1 => xTru x h1 R) Y e := propext Iff.rfl
theorem w_seq {e R} : wI T C s h R Y (.seq e) = wE T C s h (fun x h1 => itList x h1 R) Y e := propext Iff.rfl
theorem w_rng1 {e R} : wI T C s h R Y (.rng1 e) = wE T C s h (fun x h1 => ∃ j : Int, x = .int j ∧ -(2 ^ 62) ≤ j ∧ j < 2 ^ 62 ∧ R (fun _ => True) ((List.range j.toNat).map fun i => .int (i : Nat)) h1) Y e := propext Iff.rfl
theorem w_rng2 {a b R} : wI T C s h R Y (.rng2 a b) = wE T C s h (fun x h1 => wE T C s h1 (fun y h2 => ∃ i j : Int, x = .int i ∧ y = .int j ∧ -(2 ^ 62) ≤ i ∧ i < 2 ^ 62 ∧ -(2 ^ 62) ≤ j ∧ j < 2 ^ 62 ∧ R (fun _ => True) ((List.range (j - i).toNat).map fun k => .int (i + (k : Nat))) h2) Y b) Y a := propext Iff.rfl
theorem w_enum {e R} : wI T C s h R Y (.enum e) = wE T C s h (fun x h1 => ∃ a xs, x = .ref a ∧ rdL h1 a = some xs ∧ R (fun h' => rdL h' a = some xs) (enumL 0 xs) h1) Y e := propext Iff.rfl
theorem wTstE {e R} : wTst T C s h R Y e = wE T C s h (fun x h1 => xTru x h1 R) Y e := propext Iff.rfl
theorem q_nil : wSs T C s h K .nil = K.nx s h := propext Iff.rfl
theorem q_cons {t r} : wSs T C s h K (.cons t r) = wS T C s h { K with nx := fun s' h' => wSs T C s' h' K r } t := propext Iff.rfl
theorem q_asg {t e} : wS T C s h K (.asg t e) = wE T C s h (fun d h1 => wAsg T C s h1 d K t) (kx K s) e := propext Iff.rfl
theorem q_nm {i d} : wAsg T C s h d K (.name i) = K.nx (s.set i (some d)) h := propext Iff.rfl
theorem q_expr {e} : wS T C s h K (.expr e) = wE T C s h (fun _ h1 => K.nx s h1) (kx K s) e := propext Iff.rfl
theorem q_if {c a b} : wS T C s h K (.ifS c a b) = wE T C s h (fun x h1 => xTru x h1 fun k h1 => if k = true then wSs T C s h1 K a else wSs T C s h1 K b) (kx K s) c := propext Iff.rfl
theorem q_for {t it b} : wS T C s h K (.forS t it b) = wI T C s h (fun chk xs h1 => wItems chk t (fun s h K' => wSs T C s h K' b) K xs s h1) (kx K s) it := propext Iff.rfl
theorem q_ret {e} : wS T C s h K (.ret e) = wE T C s h K.rt (kx K s) e := propext Iff.rfl
theorem q_retN : wS T C s h K .retN = K.rt .non h := propext Iff.rfl
theorem q_brk : wS T C s h K .brk = K.bk s h := propext Iff.rfl
theorem q_pass : wS T C s h K .pass = K.nx s h := propext Iff.rfl
theorem kxE {nx rt bk xr} {s : ASt} : kx { nx := nx, rt := rt, bk := bk, xr := xr } s = fun c fs h => xr c fs s h := rfl
theorem ty_non_int  : tyOf T h .non .int = false := rfl
theorem ty_non_bool  : tyOf T h .non .bool = false := rfl
theorem ty_non_str  : tyOf T h .non .str = false := rfl
theorem ty_non_list  : tyOf T h .non .list = false := rfl
theorem ty_non_tuple  : tyOf T h .non .tuple = false := rfl
theorem ty_non_dict  : tyOf T h .non .dict = false := rfl
theorem ty_bl_int {u : Bool} : tyOf T h (.bl u) .int = true := rfl
theorem ty_bl_bool {u : Bool} : tyOf T h (.bl u) .bool = true := rfl
theorem ty_bl_str {u : Bool} : tyOf T h (.bl u) .str = false := rfl
theorem ty_bl_list {u : Bool} : tyOf T h (.bl u) .list = false := rfl
theorem ty_bl_tuple {u : Bool} : tyOf T h (.bl u) .tuple = false := rfl
theorem ty_bl_dict {u : Bool} : tyOf T h (.bl u) .dict = false := rfl
theorem ty_int_int {u : Int} : tyOf T h (.int u) .int = true := rfl
theorem ty_int_bool {u : Int} : tyOf T h (.int u) .bool = false := rfl
theorem ty_int_str {u : Int} : tyOf T h (.int u) .str = false := rfl
theorem ty_int_list {u : Int} : tyOf T h (.int u) .list = false := rfl
theorem ty_int_tuple {u : Int} : tyOf T h (.int u) .tuple = false := rfl
theorem ty_int_dict {u : Int} : tyOf T h (.int u) .dict = false := rfl
theorem ty_str_int {u : List Nat} : tyOf T h (.str u) .int = false := rfl
theorem ty_str_bool {u : List Nat} : tyOf T h (.str u) .bool = false := rfl
theorem ty_str_str {u : List Nat} : tyOf T h (.str u) .str = true := rfl
theorem ty_str_list {u : List Nat} : tyOf T h (.str u) .list = false := rfl
theorem ty_str_tuple {u : List Nat} : tyOf T h (.str u) .tuple = false := rfl
theorem ty_str_dict {u : List Nat} : tyOf T h (.str u) .dict = false := rfl
theorem ty_tup_int {u : List DV} : tyOf T h (.tup u) .int = false := rfl
theorem ty_tup_bool {u : List DV} : tyOf T h (.tup u) .bool = false := rfl
theorem ty_tup_str {u : List DV} : tyOf T h (.tup u) .str = false := rfl
theorem ty_tup_list {u : List DV} : tyOf T h (.tup u) .list = false := rfl
theorem ty_tup_tuple {u : List DV} : tyOf T h (.tup u) .tuple = true := rfl
theorem ty_tup_dict {u : List DV} : tyOf T h (.tup u) .dict = false := rfl
theorem bindA1 {i : Nat} {d : DV} : bindA [i] d s = some (s.set i (some d)) := rfl
theorem items_nil {chk t body} : wItems chk t body K [] s h = (chk h ∧ K.nx s h) := propext Iff.rfl
theorem items_cons {chk t body x r} : wItems chk t body K (x :: r) s h = (chk h ∧ ∃ s1, bindA t x s = some s1 ∧ body s1 h { nx := fun s' h' => ∃ g, Sub g h' ∧ wItems chk t body K r s' g, rt := K.rt, bk := K.nx, xr := K.xr }) := propext Iff.rfl
/-- one statement; the rest stands still -/
theorem q_one {t r} (b : ∀ K' : KT, (∀ s' h', wSs T C s' h' K r → K'.nx s' h') → K'.rt = K.rt → K'.bk = K.bk → K'.xr = K.xr → wS T C s h K' t) : wSs T C s h K (.cons t r) := b _ (fun _ _ x => x) rfl rfl rfl
/-- .. what stands between -/
theorem cutS {t r} (P : ASt → AH → Prop) (a : ∀ K' : KT, (∀ s' h', P s' h' → K'.nx s' h') → K'.rt = K.rt → K'.bk = K.bk → K'.xr = K.xr → wS T C s h K' t) (b : ∀ s' h', P s' h' → wSs T C s' h' K r) : wSs T C s h K (.cons t r) := a _ b rfl rfl rfl
/-- a loop: P tells what stands ahead of the items that are left -/
theorem items_ind {chk : AH → Prop} {t : List Nat} {body : ASt → AH → KT → Prop} (P : List DV → ASt → AH → Prop) (h0 : ∀ s h, P [] s h → chk h ∧ K.nx s h)
    (hs : ∀ x r s h, P (x :: r) s h → chk h ∧ ∃ s1, bindA t x s = some s1 ∧ ∀ K' : KT, (∀ s' h', (∃ g, Sub g h' ∧ P r s' g) → K'.nx s' h') → K'.rt = K.rt → K'.bk = K.nx → K'.xr = K.xr → body s1 h K') : ∀ xs s h, P xs s h → wItems chk t body K xs s h
  | [], s, h, p => h0 s h p
  | x :: r, s, h, p => by
    obtain ⟨c, s1, e, b⟩ := hs x r s h p
    exact ⟨c, s1, e, b _ (fun s' h' ⟨g, sg, p'⟩ => ⟨g, sg, items_ind P h0 hs r s' g p'⟩) rfl rfl rfl⟩
/-- .. by the place -/
theorem list_ind {chk : AH → Prop} {t : List Nat} {body : ASt → AH → KT → Prop} {xs : List DV} (P : Nat → ASt → AH → Prop) (h0 : P 0 s h)
    (hs : ∀ i x s h, xs[i]? = some x → P i s h → chk h ∧ ∃ s1, bindA t x s = some s1 ∧ ∀ K' : KT, (∀ s' h', (∃ g, Sub g h' ∧ P (i + 1) s' g) → K'.nx s' h') → K'.rt = K.rt → K'.bk = K.nx → K'.xr = K.xr → body s1 h K')
    (fin : ∀ s h, P xs.length s h → chk h ∧ K.nx s h) : wItems chk t body K xs s h := by
  have key : ∀ (m i : Nat), m + i = xs.length → ∀ s h, P i s h → wItems chk t body K (xs.drop i) s h := by
    intro m
    induction m with
    | zero =>
      intro i hi s h p
      have : i = xs.length := by omega
      subst this
      rw [List.drop_length]
      exact fin s h p
    | succ m ih =>
      intro i hi s h p
      have hl : i < xs.length := by omega
      rw [List.drop_eq_getElem_cons hl]
      obtain ⟨c, s1, e, b⟩ := hs i _ s h (List.getElem?_eq_getElem hl) p
      exact ⟨c, s1, e, b _ (fun s' h' ⟨g, sg, p'⟩ => ⟨g, sg, ih (i + 1) (by omega) s' g p'⟩) rfl rfl rfl⟩
  have := key xs.length 0 (by omega) s h h0
  rw [List.drop_zero] at this
  exact this
theorem range_ind {chk : AH → Prop} {t : List Nat} {body : ASt → AH → KT → Prop} {N : Nat} (P : Nat → ASt → AH → Prop) (h0 : P 0 s h)
    (hs : ∀ i s h, i < N → P i s h → chk h ∧ ∃ s1, bindA t (.int (i : Nat)) s = some s1 ∧ ∀ K' : KT, (∀ s' h', (∃ g, Sub g h' ∧ P (i + 1) s' g) → K'.nx s' h') → K'.rt = K.rt → K'.bk = K.nx → K'.xr = K.xr → body s1 h K')
    (fin : ∀ s h, P N s h → chk h ∧ K.nx s h) : wItems chk t body K ((List.range N).map fun (i : Nat) => .int (i : Nat)) s h := by
  refine list_ind P h0 (fun i x s h e p => ?_) (fun s h p => fin s h (by simpa using p))
  have hl := (List.getElem?_eq_some_iff.mp e).1
  simp only [List.length_map, List.length_range] at hl
  rw [List.getElem?_map, List.getElem?_range hl] at e
  cases e
  exact hs i s h hl p
theorem exi_int {i : Int} {R : Int → Prop} : (∃ j, DV.int i = .int j ∧ R j) = R i := by
  apply propext
  constructor
  · rintro ⟨j, e, q⟩; cases e; exact q
  · intro q; exact ⟨i, rfl, q⟩
theorem exi_bl {i : Bool} {R : Bool → Prop} : (∃ j, DV.bl i = .bl j ∧ R j) = R i := by
  apply propext
  constructor
  · rintro ⟨j, e, q⟩; cases e; exact q
  · intro q; exact ⟨i, rfl, q⟩
theorem tru_bl {b : Bool} {R : Bool → AH → Prop} : xTru (.bl b) h R = R b h := exi_bl
theorem rdL_l {a : Addr} {xs : List DV} (e : h a = some (.lst xs)) : rdL h a = some xs := by unfold rdL; rw [e]
theorem rdL_f {a : Addr} {xs : List DV} (e : h a = some (.flst xs)) : rdL h a = some xs := by unfold rdL; rw [e]
theorem Sub.wr {g : AH} {p : Addr} {o : AO} (x : Sub g h) (n : g p = none) : Sub g (au h p o) := fun b u e => by
  by_cases q : b = p
  · subst q; rw [n] at e; cases e
  · rw [au_ne q]; exact x b u e
theorem Sub.no {g : AH} {p : Addr} (x : Sub g h) (n : h p = none) : g p = none := by
  cases e : g p with
  | none => rfl
  | some o => rw [x p o e] at n; cases n
theorem Sub.au {g : AH} {p : Addr} {o : AO} (x : Sub g h) (e : h p = some o) : Sub (PL.au g p o) h := fun b u eb => by
  by_cases q : b = p
  · subst q; rw [au_same] at eb; cases eb; exact e
  · rw [au_ne q] at eb; exact x b u eb
theorem ret_new {g : AH} {p : Addr} {o : AO} (x : Sub g h) (n : g p = none) (e : h p = some o) (q : newO o g Q) : ∃ f, Sub f h ∧ Q (.ref p) f := ⟨PL.au g p o, x.au e, q p n⟩
theorem rdL_sub {g : AH} {a : Addr} {xs : List DV} (x : Sub g h) (e : rdL g a = some xs) : rdL h a = some xs := by
  unfold rdL at e ⊢
  split at e
  · rename_i e1; rw [x _ _ e1]; exact e
  · rename_i e1; rw [x _ _ e1]; exact e
  · cases e
theorem rd_no {a : Addr} {xs : List DV} (e : rdL h a = some xs) : rdD h a = none := by
  unfold rdL at e; unfold rdD
  split at e <;> first | (rename_i e1; rw [e1]) | cases e
theorem len_l {a : Addr} {xs : List DV} (e : rdL h a = some xs) : xBF .len [.ref a] h Q = Q (.int xs.length) h := by
  show ((∃ xs, rdL h a = some xs ∧ Q (.int xs.length) h) ∨ ∃ kvs, rdD h a = some kvs ∧ Q (.int kvs.length) h) = _
  rw [e, rd_no e]
  simp
theorem ix_l {a : Addr} {xs : List DV} {i : Int} {d : DV} (e : rdL h a = some xs) (e2 : atI xs i = some d) (q : Q d h) : xIx (.ref a) (.int i) h Q := .inl ⟨xs, i, d, e, rfl, e2, q⟩
theorem ix_s {a : List Nat} {i : Int} {c : Nat} (e2 : atI a i = some c) (l : a.length ≤ sizeLine) (q : Q (.str [c]) h) : xIx (.str a) (.int i) h Q := ⟨i, c, rfl, e2, l, q⟩
theorem atI_nat {α : Type} {xs : List α} {i : Int} (h0 : 0 ≤ i) (h1 : i < xs.length) : atI xs i = xs[i.toNat]? := by
  unfold atI ixN
  rw [if_pos h0, if_pos h1]; rfl
theorem ixN_last {n : Nat} : ixN (n + 1) (-1) = some n := by
  unfold ixN
  rw [if_neg (by decide), if_pos (by omega)]
  congr 1
  omega
theorem ixN_zero {n : Nat} (h : 0 < n) : ixN n 0 = some 0 := by
  unfold ixN
  rw [if_pos (by decide), if_pos (by omega)]; rfl
theorem ixN_nat {n : Nat} {i : Int} (h0 : 0 ≤ i) (h : i < n) : ixN n i = some i.toNat := by
  unfold ixN
  rw [if_pos h0, if_pos h]
theorem at_ok {l : List Nat} {i : Int} (h0 : 0 ≤ i) (h1 : i < l.length) : ∃ c, L2.atI l i = some c := by
  rw [atI_nat h0 h1]
  exact ⟨_, List.getElem?_eq_getElem (by omega)⟩
theorem atD {l : List Nat} {i : Int} (h0 : 0 ≤ i) (h1 : i < l.length) : L2.atI l i = some (l.getD i.toNat 0) := by
  have hb : i.toNat < l.length := by omega
  rw [atI_nat h0 h1]
  simp [List.getD_eq_getElem?_getD, List.getElem?_eq_getElem hb]
theorem atI_last {α : Type} {xs : List α} {x : α} : atI (xs ++ [x]) (-1) = some x := by
  unfold atI
  rw [show (xs ++ [x]).length = xs.length + 1 by simp, ixN_last, Option.bind_some]
  simp
theorem add_i {i j : Int} : xBin .add (.int i) (.int j) h Q = Q (.int (i + j)) h := propext Iff.rfl
theorem sub_i {i j : Int} : xBin .sub (.int i) (.int j) h Q = Q (.int (i - j)) h := propext Iff.rfl
theorem mod_i {i j : Int} (p : 0 < j) (q : Q (.int (i % j)) h) : xBin .mod (.int i) (.int j) h Q := ⟨p, q⟩
theorem fdiv_i {i j : Int} (p : 0 < j) (p2 : j < 1073741824) (q : Q (.int (i / j)) h) : xBin .fdiv (.int i) (.int j) h Q := ⟨p, p2, q⟩
theorem mul_r {i j : Int} (p1 : -(2 ^ 64) < j) (p2 : j < 2 ^ 64) (q : Q (.int (i * j)) h) : xBin .mul (.int i) (.int j) h Q := ⟨IntMulOk.of_right (intBits_le_64 p1 p2), q⟩
theorem mul_l {i j : Int} (p1 : -(2 ^ 64) < i) (p2 : i < 2 ^ 64) (q : Q (.int (i * j)) h) : xBin .mul (.int i) (.int j) h Q := ⟨IntMulOk.of_left (intBits_le_64 p1 p2), q⟩
theorem lt_i {i j : Int} : xCmp .lt (.int i) (.int j) h Q = Q (.bl (decide (i < j))) h := by
  show Q (.bl (false ^^ decide (if false = true then j < i else i < j))) h = _
  simp
theorem gt_i {i j : Int} : xCmp .gt (.int i) (.int j) h Q = Q (.bl (decide (j < i))) h := by
  show Q (.bl (false ^^ decide (if true = true then j < i else i < j))) h = _
  simp
theorem le_i {i j : Int} : xCmp .le (.int i) (.int j) h Q = Q (.bl (decide (i ≤ j))) h := by
  show Q (.bl (true ^^ decide (if true = true then j < i else i < j))) h = _
  simp only [if_true]
  congr 2
  by_cases q : j < i
  · simp [q]
  · simp [q]; omega
theorem ge_i {i j : Int} : xCmp .ge (.int i) (.int j) h Q = Q (.bl (decide (j ≤ i))) h := by
  show Q (.bl (true ^^ decide (if false = true then j < i else i < j))) h = _
  simp only [Bool.false_eq_true, if_false]
  congr 2
  by_cases q : i < j
  · simp [q]
  · simp [q]; omega
theorem eq_i {i j : Int} : xCmp .eq (.int i) (.int j) h Q = Q (.bl (decide (i = j))) h := by
  show Q (.bl (false ^^ decide (i = j))) h = _
  rw [Bool.false_xor]
theorem ne_i {i j : Int} : xCmp .ne (.int i) (.int j) h Q = Q (.bl (!decide (i = j))) h := by
  show Q (.bl (true ^^ decide (i = j))) h = _
  rw [Bool.true_xor]
theorem eq_s {i j : List Nat} : xCmp .eq (.str i) (.str j) h Q = Q (.bl (decide (i = j))) h := by
  show Q (.bl (false ^^ decide (i = j))) h = _
  rw [Bool.false_xor]
theorem ne_s {i j : List Nat} : xCmp .ne (.str i) (.str j) h Q = Q (.bl (!decide (i = j))) h := by
  show Q (.bl (true ^^ decide (i = j))) h = _
  rw [Bool.true_xor]
theorem eq_b {i j : Bool} : xCmp .eq (.bl i) (.bl j) h Q = Q (.bl (decide (i = j))) h := by
  show Q (.bl (false ^^ decide (i = j))) h = _
  rw [Bool.false_xor]
theorem ne_b {i j : Bool} : xCmp .ne (.bl i) (.bl j) h Q = Q (.bl (!decide (i = j))) h := by
  show Q (.bl (true ^^ decide (i = j))) h = _
  rw [Bool.true_xor]
theorem not_t : (!true) = false := rfl
theorem not_f : (!false) = true := rfl
theorem ite_tt {α : Sort _} {a b : α} : (if true = true then a else b) = a := if_pos rfl
theorem ite_ff {α : Sort _} {a b : α} : (if false = true then a else b) = b := if_neg Bool.false_ne_true
theorem adds {a b : List Nat} (l : a.length + b.length ≤ sizeLine) (q : Q (.str (a ++ b)) h) : xBin .add (.str a) (.str b) h Q := ⟨l, q⟩
theorem q_tup {is d} : wAsg T C s h d K (.tup is) = ∃ s1, bindA is d s = some s1 ∧ 2 ≤ is.length ∧ K.nx s1 h := propext Iff.rfl
theorem q_sub {o i d} : wAsg T C s h d K (.sub o i) = wE T C s h (fun x h1 => wE T C s h1 (fun y h2 => xSet x y d h2 fun h3 => K.nx s h3) (kx K s) i) (kx K s) o := propext Iff.rfl
theorem q_fld {o f d} : wAsg T C s h d K (.fld o f) = wE T C s h (fun x h1 => xPut T f x d h1 fun h2 => K.nx s h2) (kx K s) o := propext Iff.rfl
theorem set_l {p : Addr} {xs : List DV} {k : Int} {j : Nat} {d : DV} {N} (e : h p = some (.lst xs)) (ej : ixN xs.length k = some j) (q : N (au h p (.lst (xs.set j d)))) : xSet (.ref p) (.int k) d h N := ⟨p, rfl, .inl ⟨xs, k, j, e, rfl, ej, q⟩⟩
theorem set_d {p : Addr} {kvs : List (DV × DV)} {y d : DV} {N} (e : h p = some (.dct kvs)) (ey : keyOk y = true) (el : kvs.length < sizeLine) (q : N (au h p (.dct (dput kvs y d)))) : xSet (.ref p) y d h N := ⟨p, rfl, .inr ⟨kvs, e, ey, el, q⟩⟩
theorem put_f {p : Addr} {c f k : Nat} {fs : List (Option DV)} {d : DV} {N} (e : h p = some (.ins c fs)) (ek : T.fp c f = some k) (hk : k < fs.length) (q : N (au h p (.ins c (fs.set k (some d))))) : xPut T f (.ref p) d h N := ⟨p, c, fs, k, rfl, e, ek, hk, q⟩
theorem fld_i {p : Addr} {c f k : Nat} {fs : List (Option DV)} {d : DV} (e : h p = some (.ins c fs)) (ek : T.fp c f = some k) (ed : fs[k]? = some (some d)) (q : Q d h) : xFld T f (.ref p) h Q := ⟨p, rfl, c, fs, k, d, e, ek, ed, q⟩
theorem mt_i {p : Addr} {c m f : Nat} {fs : List (Option DV)} {R} (e : h p = some (.ins c fs)) (ek : T.mt c m = some f) (q : R f) : xMt T m (.ref p) h R := ⟨p, c, fs, f, rfl, e, ek, q⟩
theorem recv_l {m : BM} {p : Addr} {xs : List DV} (hm : m.rt = .list) (e : rdL h p = some xs) : recvOk m (.ref p) h := by
  unfold recvOk; rw [hm]; exact ⟨p, xs, rfl, e⟩
theorem recv_s {m : BM} {a : List Nat} (hm : m.rt = .str) : recvOk m (.str a) h := by
  unfold recvOk; rw [hm]; exact ⟨a, rfl⟩
theorem app_l {p : Addr} {xs : List DV} {d : DV} (e : h p = some (.lst xs)) (l : xs.length < sizeLine) (q : Q .non (au h p (.lst (xs ++ [d])))) : xBM .append (.ref p) [d] h Q := ⟨xs, e, l, q⟩
theorem split_s {a b : List Nat} (hb : b ≠ []) (h2 : b.all (· < 256) = true) (l : a.length + 2 ≤ sizeLine) (q : newO (.lst ((splitT a b).map .str)) h Q) : xBM .split (.str a) [.str b] h Q := ⟨hb, h2, l, q⟩
theorem it_l {a : Addr} {xs : List DV} {R} (e : rdL h a = some xs) (q : R (fun h' => rdL h' a = some xs) xs h) : itList (.ref a) h R := .inl ⟨xs, e, q⟩
theorem it_d {a : Addr} {kvs : List (DV × DV)} {o : Obj} {y : List (L2.Key × V)} {R} (e : h a = some (.fdct kvs o y)) (q : R (fun h' => h' a = some (.fdct kvs o y)) (kvs.map (·.1)) h) : itList (.ref a) h R := .inr ⟨kvs, o, y, e, q⟩
theorem it_s {x : List Nat} {R} : itList (.str x) h R = R (fun _ => True) (x.map sgn) h := propext Iff.rfl
theorem isiOk_1 {t : TY} {x : DV} (e : isiOk h x t = true) : ∀ u ∈ [t], isiOk h x u = true := fun u hu => by simp at hu; subst hu; exact e
theorem isi_l {a : Addr} {xs : List DV} (e : rdL h a = some xs) (q : Q (.bl true) h) : xIsi T [.list] (.ref a) h Q := ⟨isiOk_1 (by
  show ((rdL h a).isSome || (rdD h a).isSome) = true
  rw [e]; rfl), by
  rw [show [TY.list].any (tyOf T h (.ref a)) = true by
    show ((rdL h a).isSome || false) = true
    rw [e]; rfl]
  exact q⟩
theorem isi_1 {t : TY} {x : DV} {b : Bool} (e : isiOk h x t = true) (eb : tyOf T h x t = b) (q : Q (.bl b) h) : xIsi T [t] x h Q := ⟨isiOk_1 e, by
  rw [show [t].any (tyOf T h x) = b by simp [eb]]
  exact q⟩
/-! ### == of lists of texts -/
def pyS (x : List Nat) : PyData := .str ⟨x.toArray⟩
theorem allO_map {α β : Type} {f : α → Option β} {g : α → β} : ∀ {l : List α}, (∀ x ∈ l, f x = some (g x)) → allO (l.map f) = some (l.map g)
  | [], _ => rfl
  | x :: r, e => by
    rw [List.map_cons, e x (by simp)]
    show (allO (r.map f)).map _ = _
    rw [allO_map (l := r) fun y hy => e y (by simp [hy])]
    rfl
theorem py_strs {n : Nat} {p : Addr} {ws : List (List Nat)} (e : rdL h p = some (ws.map .str)) : py h (n + 2) (.ref p) = some (.list (ws.map pyS)) := by
  show ((rdL h p).bind fun xs => (allO (xs.map (py h (n + 1)))).map PyData.list) = _
  rw [e, Option.bind_some, List.map_map, allO_map (f := py h (n + 1) ∘ DV.str) (g := pyS) fun x _ => rfl]
  rfl
theorem eqv_str (x y : List Nat) : PyData.eqv (pyS x) (pyS y) = decide (x = y) := by
  show ((⟨x.toArray⟩ : Str) == ⟨y.toArray⟩) = _
  rw [Bool.eq_iff_iff]
  simp [arr_inj]
theorem eqv_strs : ∀ xs ys : List (List Nat), PyData.eqvAll (xs.map pyS) (ys.map pyS) = decide (xs = ys)
  | [], [] => rfl
  | [], _ :: _ => rfl
  | _ :: _, [] => rfl
  | x :: xs, y :: ys => by
    show (PyData.eqv (pyS x) (pyS y) && PyData.eqvAll (xs.map pyS) (ys.map pyS)) = _
    rw [eqv_str, eqv_strs xs ys, Bool.eq_iff_iff]
    simp
theorem eqD_strs {p d : Addr} {ws ds : List (List Nat)} (e1 : rdL h p = some (ws.map .str)) (e2 : rdL h d = some (ds.map .str)) : EqD h (.ref p) (.ref d) (decide (ws = ds)) :=
  ⟨_, _, py_strs (n := 6) e1, py_strs (n := 6) e2, eqv_strs ws ds⟩
theorem ne_r {p d : Addr} {b : Bool} (e : EqD h (.ref p) (.ref d) b) (q : Q (.bl (!b)) h) : xCmp .ne (.ref p) (.ref d) h Q := ⟨b, e, by rw [Bool.true_xor]; exact q⟩
theorem eq_r {p d : Addr} {b : Bool} (e : EqD h (.ref p) (.ref d) b) (q : Q (.bl b) h) : xCmp .eq (.ref p) (.ref d) h Q := ⟨b, e, by rw [Bool.false_xor]; exact q⟩
theorem len_s {a : List Nat} (l : a.length ≤ sizeLine) (q : Q (.int a.length) h) : xBF .len [.str a] h Q := ⟨l, q⟩
theorem in_c {c : Nat} {b : List Nat} (q : Q (.bl (decide (c ∈ b))) h) : xCmp .isin (.str [c]) (.str b) h Q := ⟨c, rfl, by rw [Bool.false_xor]; exact q⟩
theorem nin_c {c : Nat} {b : List Nat} (q : Q (.bl (!decide (c ∈ b))) h) : xCmp .nin (.str [c]) (.str b) h Q := ⟨c, rfl, by rw [Bool.true_xor]; exact q⟩
theorem find_s {a b : List Nat} : xBM .find (.str a) [.str b] h Q = Q (.int (Txt.find (tS a) (tS b))) h := propext Iff.rfl
theorem find_neg {a : List Nat} {c : Nat} : decide (Txt.find (tS a) (tS [c]) < 0) = !decide (c ∈ a) := by
  have k := StrLaws.found_one (tS a) c
  have e1 : decide (c ∈ a) = !(Builtin.Str.occurrences (tS a) (tS [c]) 0 (tS a).length 1).isEmpty := by
    rw [show (tS [c]) = (⟨#[c]⟩ : Str) from rfl, k]
    exact decide_eq_decide.mpr Iff.rfl
  rw [e1]
  unfold Txt.find
  cases Builtin.Str.occurrences (tS a) (tS [c]) 0 (tS a).length 1 with
  | nil => rfl
  | cons i r => simp
theorem sl_s {a : List Nat} {lo hi : Option Int} (l : a.length ≤ sizeLine) (q : Q (.str (cutL a lo hi)) h) : xSl (.str a) lo hi h Q := ⟨l, q⟩
theorem sl_l {a : Addr} {xs : List DV} {lo hi : Option Int} (e : rdL h a = some xs) (q : newO (.lst (cutL xs lo hi)) h Q) : xSl (.ref a) lo hi h Q := ⟨xs, e, q⟩
theorem cutL_len {α : Type} (xs : List α) (lo hi : Option Int) : (cutL xs lo hi).length ≤ xs.length := by
  unfold cutL
  rw [List.length_take, List.length_drop]
  omega
theorem sl_any {a : List Nat} {lo hi : Option Int} (l : a.length ≤ sizeLine) (q : ∀ w : List Nat, w.length ≤ a.length → Q (.str w) h) : xSl (.str a) lo hi h Q := ⟨l, q _ (cutL_len a lo hi)⟩
theorem cutL_to {α : Type} (xs : List α) {k : Int} (h : 0 ≤ k) : cutL xs none (some k) = xs.take k.toNat := by
  have e : HT.sIx xs.length xs.length (some k) = min k.toNat xs.length := by
    unfold HT.sIx
    exact if_neg (by omega)
  have e0 : HT.sIx xs.length 0 none = 0 := rfl
  unfold cutL
  rw [e, e0, List.drop_zero, Nat.sub_zero, List.take_eq_take_iff]
  omega
theorem cutL_from {α : Type} (xs : List α) {k : Int} (h : 0 ≤ k) : cutL xs (some k) none = xs.drop k.toNat := by
  have e : HT.sIx xs.length 0 (some k) = min k.toNat xs.length := by
    unfold HT.sIx
    exact if_neg (by omega)
  have e0 : HT.sIx xs.length xs.length none = xs.length := rfl
  unfold cutL
  rw [e, e0]
  by_cases hk : k.toNat ≤ xs.length
  · rw [Nat.min_eq_left hk]
    exact List.take_of_length_le (by rw [List.length_drop]; omega)
  · rw [Nat.min_eq_right (by omega), List.drop_length, List.drop_eq_nil_of_le (by omega)]
    simp
theorem str_i {i : Int} (h1 : -(2 ^ 64) < i) (h2 : i < 2 ^ 64) (q : Q (.str (numT i)) h) : xBF .str [.int i] h Q := by
  refine ⟨?_, q⟩
  by_cases hz : i.natAbs = 0
  · rw [hz]; decide
  · have : i.natAbs < 2 ^ 64 := by omega
    have := (Nat.log2_lt hz).mpr this
    omega
theorem numT_nn {i : Int} (h : 0 ≤ i) : numT i = (Nat.toDigits 10 i.toNat).map Char.toNat := by
  obtain ⟨k, rfl⟩ := Int.eq_ofNat_of_zero_le h
  show ((toString (k : Int)).toList).map Char.toNat = _
  rw [show toString (k : Int) = Nat.repr k from rfl]
  simp [Nat.repr]
theorem numT_len {i : Int} {k : Nat} (hk : 0 < k) (h : 0 ≤ i) (h2 : i < 10 ^ k) : (numT i).length ≤ k := by
  rw [numT_nn h, List.length_map]
  refine (Nat.length_toDigits_le_iff (by decide) hk).mpr ?_
  have : ((i.toNat : Nat) : Int) < ((10 ^ k : Nat) : Int) := by
    rw [Int.toNat_of_nonneg h]
    simpa using h2
  exact Int.ofNat_lt.mp this
theorem mem_figs {c : Nat} : c ∈ figs ↔ 48 ≤ c ∧ c ≤ 57 := by
  simp [figs]
  omega
theorem find_fig {c : Nat} (h : c ∈ figs) : Txt.find (tS figs) (tS [c]) = (c : Int) - 48 := by
  have : c = 48 ∨ c = 49 ∨ c = 50 ∨ c = 51 ∨ c = 52 ∨ c = 53 ∨ c = 54 ∨ c = 55 ∨ c = 56 ∨ c = 57 := by
    have := mem_figs.mp h
    omega
  rcases this with rfl | rfl | rfl | rfl | rfl | rfl | rfl | rfl | rfl | rfl <;> decide +kernel
theorem int_digits {a : List Nat} (hd : ∀ c ∈ a, c ∈ figs) (hne : a ≠ []) (hl : a.length ≤ 640) (q : Q (.int ((NumText.digitsVal a : Nat) : Int)) h) : xBF .int [.str a] h Q :=
  ⟨_, PySem.intText_digits (x := ⟨a.toArray⟩) (fun c hc => mem_figs.mp (hd c (by simpa using hc))) (by simpa using hne) (by show a.toArray.size ≤ 4300; simp; omega), hl, q⟩
def isI : DV → Bool
  | .int _ => true
  | _ => false
theorem ix_int {a : Addr} {xs : List DV} {i : Int} (e : rdL h a = some xs) (h0 : 0 ≤ i) (h1 : i < xs.length) (hall : xs.all isI = true) (q : ∀ v : Int, Q (.int v) h) : xIx (.ref a) (.int i) h Q := by
  have hb : i.toNat < xs.length := by omega
  have hm := List.all_eq_true.mp hall xs[i.toNat] (List.getElem_mem hb)
  refine ix_l e (d := xs[i.toNat]) (by rw [atI_nat h0 h1, List.getElem?_eq_getElem hb]) ?_
  cases hx : xs[i.toNat] <;> rw [hx] at hm <;> first | exact q _ | cases hm
theorem pow_i {i j : Int} (h1 : 0 ≤ j) (h2 : j ≤ 1000000) (h3 : i.natAbs < 2 ^ 64) (q : Q (.int (i ^ j.toNat)) h) : xBin .pow (.int i) (.int j) h Q := ⟨h1, h2, h3, q⟩
theorem list_l {a : Addr} {xs : List DV} (e : rdL h a = some xs) (q : newO (.lst xs) h Q) : xBF .list [.ref a] h Q := .inl ⟨xs, e, q⟩
theorem add_l {p p' : Addr} {xs ys : List DV} (e1 : h p = some (.lst xs)) (e2 : h p' = some (.lst ys)) (l : xs.length + ys.length ≤ sizeLine) (q : newO (.lst (xs ++ ys)) h Q) : xBin .add (.ref p) (.ref p') h Q := ⟨xs, ys, e1, e2, l, q⟩
theorem pop_l {p : Addr} {xs : List DV} {d : DV} (e : h p = some (.lst (xs ++ [d]))) (q : Q d (au h p (.lst xs))) : xBM .pop (.ref p) [] h Q := ⟨xs ++ [d], d, e, by simp, by simpa using q⟩
theorem ix_t {xs : List DV} {i : Int} {d : DV} (e2 : atI xs i = some d) (q : Q d h) : xIx (.tup xs) (.int i) h Q := ⟨i, d, rfl, e2, q⟩
theorem lt_t {a b : List DV} (hc : ((a.zip b).all fun p => (lt1 p.1 p.2).isSome) = true) (q : Q (.bl (ltB a b)) h) : xCmp .lt (.tup a) (.tup b) h Q := ⟨rfl, rfl, hc, q⟩
theorem lt_s {i j : List Nat} : xCmp .lt (.str i) (.str j) h Q = Q (.bl (decide (i < j))) h := by
  show Q (.bl (false ^^ decide (if false = true then j < i else i < j))) h = _
  simp
theorem it_en {a : Addr} {xs : List DV} {R : (AH → Prop) → List DV → AH → Prop} (e : rdL h a = some xs) (q : R (fun h' => rdL h' a = some xs) (enumL 0 xs) h) : (∃ a' xs, DV.ref a = .ref a' ∧ rdL h a' = some xs ∧ R (fun h' => rdL h' a' = some xs) (enumL 0 xs) h) := ⟨a, xs, rfl, e, q⟩
theorem min_i {i j : Int} : xBF .min [.int i, .int j] h Q = Q (.int (if j < i then j else i)) h := propext Iff.rfl
theorem max_i {i j : Int} : xBF .max [.int i, .int j] h Q = Q (.int (if j > i then j else i)) h := propext Iff.rfl
/-- a walk over numbers, each to a value -/
def intF (f : Nat → DV) (x : DV) : Option DV := match x with
  | .int j => some (f j.toNat)
  | _ => none
theorem intF_map (f : Nat → DV) (l : List Nat) : (l.map fun (i : Nat) => DV.int (i : Nat)).filterMap (intF f) = l.map f := by
  induction l with
  | nil => rfl
  | cons x r ih =>
    rw [List.map_cons, List.filterMap_cons, List.map_cons, ← ih]
    rfl
theorem mul_rl {a : Addr} {xs : List DV} {k : Int} (e : h a = some (.lst xs)) (h1 : -(2 ^ 63) ≤ k) (h2 : k < 2 ^ 63) (l : xs.length * k.toNat ≤ sizeLine) (q : newO (.lst (List.replicate k.toNat xs).flatten) h Q) : xBin .mul (.ref a) (.int k) h Q := ⟨xs, e, h1, h2, l, q⟩
theorem mul_s {a : List Nat} {k : Int} (h1 : -(2 ^ 63) ≤ k) (h2 : k < 2 ^ 63) (l : a.length * k.toNat ≤ sizeLine) (q : Q (.str (List.replicate k.toNat a).flatten) h) : xBin .mul (.str a) (.int k) h Q := ⟨h1, h2, l, q⟩
theorem join_s {a : List Nat} {p : Addr} {ys : List (List Nat)} (e : rdL h p = some (ys.map .str)) (l : (ys.map (·.length)).sum + ys.length * a.length ≤ 16777216) (q : Q (.str (joinT a ys)) h) : xBM .join (.str a) [.ref p] h Q := ⟨ys, e, l, q⟩
theorem joinT_one : ∀ cs : List Nat, joinT [] (cs.map fun c => [c]) = cs
  | [] => rfl
  | [c] => rfl
  | c :: d :: r => by
    show [c] ++ ([] ++ TL.joinL [] ((d :: r).map fun c => [c])) = _
    rw [show TL.joinL [] ((d :: r).map fun c => [c]) = d :: r from joinT_one (d :: r)]
    rfl
theorem sum_one : ∀ cs : List Nat, ((cs.map fun c => [c]).map (·.length)).sum = cs.length
  | [] => rfl
  | c :: r => by
    rw [List.map_cons, List.map_cons, List.sum_cons, sum_one r]
    simp; omega
def ss (c : Nat) : DV := .str [c]
theorem ss_map (cs : List Nat) : (cs.map fun c => [c]).map DV.str = cs.map ss := by
  rw [List.map_map]; rfl
theorem join_one {p : Addr} {cs : List Nat} (e : rdL h p = some (cs.map ss)) (l : cs.length ≤ 16777216) (q : Q (.str cs) h) : xBM .join (.str []) [.ref p] h Q := by
  refine join_s (ys := cs.map fun c => [c]) (by rw [ss_map]; exact e) ?_ ?_
  · rw [sum_one]; simpa using l
  · rw [joinT_one]; exact q
/-- a comprehension that leaves the heap alone -/
theorem lc_pure {chk : AH → Prop} {t own : List Nat} {D : Addr} {cond : ASt → AH → (Bool → AH → Prop) → Prop} {el : ASt → AH → AQ → Prop} {Qf : AH → Prop} (f : DV → Option DV) (hchk : ∀ acc, chk (au h D (.lst acc))) : ∀ (xs : List DV) (acc : List DV), acc.length + xs.length ≤ sizeLine →
    (∀ x ∈ xs, ∃ s1, bindA t x (wipeA s own) = some s1 ∧ ∀ (acc : List DV) (N : AH → Prop), acc.length < sizeLine → (match f x with | some d => N (au h D (.lst (acc ++ [d]))) | none => N (au h D (.lst acc))) →
      cond s1 (au h D (.lst acc)) fun b h1 => if b = true then el s1 h1 fun d h2 => ∃ g acc, Sub g h2 ∧ g D = some (.lst acc) ∧ acc.length < sizeLine ∧ N (au g D (.lst (acc ++ [d]))) else ∃ g, Sub g h1 ∧ N g) →
    Qf (au h D (.lst (acc ++ xs.filterMap f))) → wLc chk t own D cond el Qf s xs (au h D (.lst acc))
  | [], acc, _, _, q => ⟨hchk acc, by simpa using q⟩
  | x :: r, acc, hl, hs, q => by
    obtain ⟨s1, eb, st⟩ := hs x (by simp)
    refine ⟨hchk acc, s1, eb, ?_⟩
    simp only [List.length_cons] at hl
    refine st acc (fun h' => wLc chk t own D cond el Qf s r h') (by omega) ?_
    cases ef : f x with
    | none => exact lc_pure f hchk r acc (by omega) (fun y hy => hs y (by simp [hy])) (by rw [List.filterMap_cons, ef] at q; exact q)
    | some d => exact lc_pure f hchk r (acc ++ [d]) (by simp; omega) (fun y hy => hs y (by simp [hy])) (by rw [List.filterMap_cons, ef] at q; simpa using q)
end
/-! ### the law's draws -/
section
variable {T : PTab} {fns : Nat → Option FI} {h : AH} {Q : AQ} {Y : AX}
def cellAt (ns : List Int) (k : Int) : Int := ns.getD (k % ns.length).toNat 0
def fiCell : FI := ⟨2, 2, .cons (.ifS (.cmp .gt (.bf .len (.cons (.var 0) .nil)) (.con (.int 0))) (.cons (.ret (.ix (.var 0) (.bin .mod (.var 1) (.bf .len (.cons (.var 0) .nil))))) .nil) .nil) (.cons (.ret (.con (.int 0))) .nil)⟩
theorem cell_ok {n f : Nat} {a : Addr} {ns : List Int} {k : Int} (hf : fns f = some fiCell) (hn : 1 ≤ n) (e : rdL h a = some (ns.map .int)) (q : Q (.int (cellAt ns k)) h) : wCall T fns n f [.ref a, .int k] h Q Y := by
  obtain ⟨m, rfl⟩ : ∃ m, n = m + 1 := ⟨n - 1, by omega⟩
  refine ⟨_, hf, rfl, ?_⟩
  simp only [fiCell]
  simp only [startA, List.map_cons, List.map_nil, List.length_cons, List.length_nil, List.replicate, List.cons_append, List.nil_append, Nat.reduceAdd, Nat.reduceSub]
  simp only [PL.w_make, PL.w_dct, PL.w_items, PL.w_lrg, PL.w_con, PL.w_bin, PL.w_cmp, PL.w_cmp2, PL.w_neg, PL.w_not, PL.w_and, PL.w_or, PL.w_isN, PL.w_notN, PL.w_tup, PL.w_lst, PL.w_ix, PL.w_fld, PL.w_call, PL.w_meth, PL.w_bm, PL.w_isi, PL.w_nil, PL.w_cons, PL.w_bf, PL.w_varE, PL.q_nil, PL.q_cons, PL.q_asg, PL.q_nm, PL.q_tup, PL.q_sub, PL.q_fld, PL.q_ret, PL.q_retN, PL.q_expr, PL.q_if, PL.q_for, PL.q_brk, PL.q_pass, PL.w_seq, PL.w_rng1, PL.w_rng2, PL.w_enum, PL.w_lc, PL.wC_n, PL.wC_c, PL.wO_n, PL.wO_c, PL.w_sl, PL.find_s, PL.it_s, PL.min_i, PL.max_i, PL.exi_int, PL.exi_bl, PL.tru_bl, PL.add_i, PL.sub_i, PL.lt_i, PL.gt_i, PL.le_i, PL.ge_i, PL.eq_i, PL.ne_i, PL.eq_s, PL.ne_s, PL.lt_s, PL.eq_b, PL.ne_b, PL.not_t, PL.not_f, List.getElem?_cons_zero, List.getElem?_cons_succ, List.set_cons_zero, List.set_cons_succ, List.foldl_cons, List.foldl_nil, List.zip_cons_cons, List.zip_nil_left, List.zip_nil_right, Option.some.injEq, exists_eq_left', if_true, if_false, PL.ite_tt, PL.ite_ff, PL.bindA1, PL.kxE, PL.ty_non_int, PL.ty_non_bool, PL.ty_non_str, PL.ty_non_list, PL.ty_non_tuple, PL.ty_non_dict, PL.ty_bl_int, PL.ty_bl_bool, PL.ty_bl_str, PL.ty_bl_list, PL.ty_bl_tuple, PL.ty_bl_dict, PL.ty_int_int, PL.ty_int_bool, PL.ty_int_str, PL.ty_int_list, PL.ty_int_tuple, PL.ty_int_dict, PL.ty_str_int, PL.ty_str_bool, PL.ty_str_str, PL.ty_str_list, PL.ty_str_tuple, PL.ty_str_dict, PL.ty_tup_int, PL.ty_tup_bool, PL.ty_tup_str, PL.ty_tup_list, PL.ty_tup_tuple, PL.ty_tup_dict, PL.wTstE, decide_true, decide_false, eq_self, reduceCtorEq, Bool.not_true, Bool.not_false, len_l e]
  by_cases hl : 0 < ns.length
  · have hd : decide ((0 : Int) < ((ns.map DV.int).length : Int)) = true := by simp; omega
    rw [hd]
    simp only [PL.w_make, PL.w_dct, PL.w_items, PL.w_lrg, PL.w_con, PL.w_bin, PL.w_cmp, PL.w_cmp2, PL.w_neg, PL.w_not, PL.w_and, PL.w_or, PL.w_isN, PL.w_notN, PL.w_tup, PL.w_lst, PL.w_ix, PL.w_fld, PL.w_call, PL.w_meth, PL.w_bm, PL.w_isi, PL.w_nil, PL.w_cons, PL.w_bf, PL.w_varE, PL.q_nil, PL.q_cons, PL.q_asg, PL.q_nm, PL.q_tup, PL.q_sub, PL.q_fld, PL.q_ret, PL.q_retN, PL.q_expr, PL.q_if, PL.q_for, PL.q_brk, PL.q_pass, PL.w_seq, PL.w_rng1, PL.w_rng2, PL.w_enum, PL.w_lc, PL.wC_n, PL.wC_c, PL.wO_n, PL.wO_c, PL.w_sl, PL.find_s, PL.it_s, PL.min_i, PL.max_i, PL.exi_int, PL.exi_bl, PL.tru_bl, PL.add_i, PL.sub_i, PL.lt_i, PL.gt_i, PL.le_i, PL.ge_i, PL.eq_i, PL.ne_i, PL.eq_s, PL.ne_s, PL.lt_s, PL.eq_b, PL.ne_b, PL.not_t, PL.not_f, List.getElem?_cons_zero, List.getElem?_cons_succ, List.set_cons_zero, List.set_cons_succ, List.foldl_cons, List.foldl_nil, List.zip_cons_cons, List.zip_nil_left, List.zip_nil_right, Option.some.injEq, exists_eq_left', if_true, if_false, PL.ite_tt, PL.ite_ff, PL.bindA1, PL.kxE, PL.ty_non_int, PL.ty_non_bool, PL.ty_non_str, PL.ty_non_list, PL.ty_non_tuple, PL.ty_non_dict, PL.ty_bl_int, PL.ty_bl_bool, PL.ty_bl_str, PL.ty_bl_list, PL.ty_bl_tuple, PL.ty_bl_dict, PL.ty_int_int, PL.ty_int_bool, PL.ty_int_str, PL.ty_int_list, PL.ty_int_tuple, PL.ty_int_dict, PL.ty_str_int, PL.ty_str_bool, PL.ty_str_str, PL.ty_str_list, PL.ty_str_tuple, PL.ty_str_dict, PL.ty_tup_int, PL.ty_tup_bool, PL.ty_tup_str, PL.ty_tup_list, PL.ty_tup_tuple, PL.ty_tup_dict, PL.wTstE, decide_true, decide_false, eq_self, reduceCtorEq, Bool.not_true, Bool.not_false, len_l e]
    have hl' : (0 : Int) < ns.length := by omega
    have l1 := Int.emod_nonneg k (show (ns.length : Int) ≠ 0 by omega)
    have l2 := Int.emod_lt_of_pos k hl'
    have hj : (k % (ns.length : Int)).toNat < ns.length := by omega
    refine mod_i (by simpa using hl') ?_
    refine ix_l e (d := .int (cellAt ns k)) ?_ ⟨h, Sub.refl h, q⟩
    rw [atI_nat (by simpa using l1) (by simpa using l2)]
    simp [List.getElem?_map, List.getElem?_eq_getElem hj, cellAt, List.getD_eq_getElem?_getD]
  · have hz : ns = [] := List.length_eq_zero_iff.mp (by omega)
    subst hz
    rw [show decide ((0 : Int) < ((([] : List Int).map DV.int).length : Int)) = false from rfl]
    simp only [PL.w_make, PL.w_dct, PL.w_items, PL.w_lrg, PL.w_con, PL.w_bin, PL.w_cmp, PL.w_cmp2, PL.w_neg, PL.w_not, PL.w_and, PL.w_or, PL.w_isN, PL.w_notN, PL.w_tup, PL.w_lst, PL.w_ix, PL.w_fld, PL.w_call, PL.w_meth, PL.w_bm, PL.w_isi, PL.w_nil, PL.w_cons, PL.w_bf, PL.w_varE, PL.q_nil, PL.q_cons, PL.q_asg, PL.q_nm, PL.q_tup, PL.q_sub, PL.q_fld, PL.q_ret, PL.q_retN, PL.q_expr, PL.q_if, PL.q_for, PL.q_brk, PL.q_pass, PL.w_seq, PL.w_rng1, PL.w_rng2, PL.w_enum, PL.w_lc, PL.wC_n, PL.wC_c, PL.wO_n, PL.wO_c, PL.w_sl, PL.find_s, PL.it_s, PL.min_i, PL.max_i, PL.exi_int, PL.exi_bl, PL.tru_bl, PL.add_i, PL.sub_i, PL.lt_i, PL.gt_i, PL.le_i, PL.ge_i, PL.eq_i, PL.ne_i, PL.eq_s, PL.ne_s, PL.lt_s, PL.eq_b, PL.ne_b, PL.not_t, PL.not_f, List.getElem?_cons_zero, List.getElem?_cons_succ, List.set_cons_zero, List.set_cons_succ, List.foldl_cons, List.foldl_nil, List.zip_cons_cons, List.zip_nil_left, List.zip_nil_right, Option.some.injEq, exists_eq_left', if_true, if_false, PL.ite_tt, PL.ite_ff, PL.bindA1, PL.kxE, PL.ty_non_int, PL.ty_non_bool, PL.ty_non_str, PL.ty_non_list, PL.ty_non_tuple, PL.ty_non_dict, PL.ty_bl_int, PL.ty_bl_bool, PL.ty_bl_str, PL.ty_bl_list, PL.ty_bl_tuple, PL.ty_bl_dict, PL.ty_int_int, PL.ty_int_bool, PL.ty_int_str, PL.ty_int_list, PL.ty_int_tuple, PL.ty_int_dict, PL.ty_str_int, PL.ty_str_bool, PL.ty_str_str, PL.ty_str_list, PL.ty_str_tuple, PL.ty_str_dict, PL.ty_tup_int, PL.ty_tup_bool, PL.ty_tup_str, PL.ty_tup_list, PL.ty_tup_tuple, PL.ty_tup_dict, PL.wTstE, decide_true, decide_false, eq_self, reduceCtorEq, Bool.not_true, Bool.not_false]
    exact ⟨h, Sub.refl h, q⟩
def byv (ns : List Int) (k m : Int) : Int := (cellAt ns k % 1000003 + 31 * k * k + 1) * 48271 % 999983 * 7919 % 524287 % m
theorem byv_nn {ns : List Int} {k m : Int} (h : 0 < m) : 0 ≤ byv ns k m := Int.emod_nonneg _ (by omega)
theorem byv_lt {ns : List Int} {k m : Int} (h : 0 < m) : byv ns k m < m := Int.emod_lt_of_pos _ h
def fiBy (c : Nat) : FI := ⟨3, 4, .cons (.asg (.name 3) (.bin .add (.bin .add (.bin .mod (.call c (.cons (.var 0) (.cons (.var 1) .nil))) (.con (.int 1000003))) (.bin .mul (.bin .mul (.con (.int 31)) (.var 1)) (.var 1))) (.con (.int 1)))) (.cons (.ret (.bin .mod (.bin .mod (.bin .mul (.bin .mod (.bin .mul (.var 3) (.con (.int 48271))) (.con (.int 999983))) (.con (.int 7919))) (.con (.int 524287))) (.var 2))) .nil)⟩
theorem by_ok {n f c : Nat} {a : Addr} {ns : List Int} {k m : Int} (hf : fns f = some (fiBy c)) (hc : fns c = some fiCell) (hn : 2 ≤ n) (e : rdL h a = some (ns.map .int)) (k1 : -(2 ^ 64) < k) (k2 : k < 2 ^ 64) (hm : 0 < m) (q : Q (.int (byv ns k m)) h) : wCall T fns n f [.ref a, .int k, .int m] h Q Y := by
  obtain ⟨m', rfl⟩ : ∃ m, n = m + 1 := ⟨n - 1, by omega⟩
  refine ⟨_, hf, rfl, ?_⟩
  unfold byv at q
  simp only [fiBy]
  simp only [startA, List.map_cons, List.map_nil, List.length_cons, List.length_nil, List.replicate, List.cons_append, List.nil_append, Nat.reduceAdd, Nat.reduceSub]
  walk_at "ts"
  refine cell_ok hc (by omega) e ?_
  refine mod_i (by omega) ?_
  walk_at "ts"
  refine mul_l (by omega) (by omega) ?_
  walk_at "ts"
  refine mul_r k1 k2 ?_
  walk_at "ts"
  refine mul_r (by omega) (by omega) ?_
  walk_at "ts"
  refine mod_i (by omega) ?_
  walk_at "ts"
  refine mul_r (by omega) (by omega) ?_
  walk_at "ts"
  refine mod_i (by omega) ?_
  walk_at "ts"
  refine mod_i hm ?_
  walk_at "ts"
  exact ⟨h, Sub.refl h, q⟩
theorem by_any {n f c : Nat} {a : Addr} {ns : List Int} {k m : Int} (hf : fns f = some (fiBy c)) (hc : fns c = some fiCell) (hn : 2 ≤ n) (e : rdL h a = some (ns.map .int)) (k1 : -(2 ^ 64) < k) (k2 : k < 2 ^ 64) (hm : 0 < m) (q : ∀ v : Int, 0 ≤ v → v < m → Q (.int v) h) : wCall T fns n f [.ref a, .int k, .int m] h Q Y :=
  by_ok hf hc hn e k1 k2 hm (q _ (byv_nn hm) (byv_lt hm))
/-- the signs of the laws -/
def signs : List Nat := [32, 33, 34, 35, 36, 38, 39, 40, 41, 42, 43, 44, 45, 46, 47, 48, 49, 50, 51, 52, 53, 54, 55, 56, 57, 58, 59, 60, 61, 62, 63, 64, 65, 66, 67, 68, 69, 70, 71, 72, 73, 74, 75, 76, 77, 78, 79, 80, 81, 82, 83, 84, 85, 86, 87, 88, 89, 90, 91, 92, 93, 94, 95, 96] ++ [97, 98, 99, 100, 101, 102, 103, 104, 105, 106, 107, 108, 109, 110, 111, 112, 113, 114, 115, 116, 117, 118, 119, 120, 121, 122, 123, 124, 125, 126]
def sgnAt (k : Int) : Nat := signs.getD (k % 94).toNat 0
theorem signs_len : signs.length = 94 := by decide
def fiSign : FI := ⟨1, 2, .cons (.asg (.name 1) (.con (.str [32, 33, 34, 35, 36, 38, 39, 40, 41, 42, 43, 44, 45, 46, 47, 48, 49, 50, 51, 52, 53, 54, 55, 56, 57, 58, 59, 60, 61, 62, 63, 64, 65, 66, 67, 68, 69, 70, 71, 72, 73, 74, 75, 76, 77, 78, 79, 80, 81, 82, 83, 84, 85, 86, 87, 88, 89, 90, 91, 92, 93, 94, 95, 96]))) (.cons (.asg (.name 1) (.bin .add (.var 1) (.con (.str [97, 98, 99, 100, 101, 102, 103, 104, 105, 106, 107, 108, 109, 110, 111, 112, 113, 114, 115, 116, 117, 118, 119, 120, 121, 122, 123, 124, 125, 126])))) (.cons (.ret (.ix (.var 1) (.bin .mod (.var 0) (.con (.int 94))))) .nil))⟩
theorem sign_ok {n f : Nat} {k : Int} (hf : fns f = some fiSign) (hn : 1 ≤ n) (q : Q (.str [sgnAt k]) h) : wCall T fns n f [.int k] h Q Y := by
  obtain ⟨m', rfl⟩ : ∃ m, n = m + 1 := ⟨n - 1, by omega⟩
  refine ⟨_, hf, rfl, ?_⟩
  simp only [fiSign]
  simp only [startA, List.map_cons, List.map_nil, List.length_cons, List.length_nil, List.replicate, List.cons_append, List.nil_append, Nat.reduceAdd, Nat.reduceSub]
  walk_at "ts"
  refine adds (by decide) ?_
  walk_at "ts"
  refine mod_i (by omega) ?_
  have l1 := Int.emod_nonneg k (show (94 : Int) ≠ 0 by decide)
  have l2 := Int.emod_lt_of_pos k (show (0 : Int) < 94 by decide)
  have hj : (k % 94).toNat < signs.length := by rw [signs_len]; omega
  refine ix_s (a := signs) (c := sgnAt k) ?_ (by decide) ⟨h, Sub.refl h, q⟩
  rw [atI_nat l1 (by rw [signs_len]; exact l2)]
  simp [List.getElem?_eq_getElem hj, sgnAt, List.getD_eq_getElem?_getD]
/-! ### the other cells, the other draws -/
def cellb (ns : List Int) (k : Int) : Int := ns.getD k.toNat 0
def fiCellB : FI := ⟨2, 2, .cons (.ifS (.cmp .lt (.var 1) (.bf .len (.cons (.var 0) .nil))) (.cons (.ret (.ix (.var 0) (.var 1))) .nil) .nil) (.cons (.ret (.con (.int 0))) .nil)⟩
theorem cellb_ok {n f : Nat} {a : Addr} {ns : List Int} {k : Int} (hf : fns f = some fiCellB) (hn : 1 ≤ n) (e : rdL h a = some (ns.map .int)) (k0 : 0 ≤ k) (q : Q (.int (cellb ns k)) h) : wCall T fns n f [.ref a, .int k] h Q Y := by
  obtain ⟨m, rfl⟩ : ∃ m, n = m + 1 := ⟨n - 1, by omega⟩
  refine ⟨_, hf, rfl, ?_⟩
  simp only [fiCellB]
  simp only [startA, List.map_cons, List.map_nil, List.length_cons, List.length_nil, List.replicate, List.cons_append, List.nil_append, Nat.reduceAdd, Nat.reduceSub]
  walk_at "ts"
  rw [len_l e]
  walk_at "ts"
  have hl : (ns.map DV.int).length = ns.length := by simp
  rw [hl]
  by_cases h1 : k < ns.length
  · rw [decide_eq_true h1]
    walk_at "ts"
    have hj : k.toNat < ns.length := by omega
    refine ix_l e (d := .int (cellb ns k)) ?_ ⟨h, Sub.refl h, q⟩
    rw [atI_nat k0 (by simpa using h1)]
    simp [List.getElem?_map, List.getElem?_eq_getElem hj, cellb, List.getD_eq_getElem?_getD]
  · rw [decide_eq_false h1]
    walk_at "ts"
    have : cellb ns k = 0 := by
      unfold cellb
      rw [List.getD_eq_getElem?_getD, List.getElem?_eq_none (by omega)]
      rfl
    rw [this] at q
    exact ⟨h, Sub.refl h, q⟩
def mixv (c k m : Int) : Int := (c % 1000003 + 1) * (k * k + 48271) % ([65537, 64007, 62003].getD (k % 3).toNat 1) % m
theorem mixv_nn {c k m : Int} (h : 0 < m) : 0 ≤ mixv c k m := Int.emod_nonneg _ (by omega)
theorem mixv_lt {c k m : Int} (h : 0 < m) : mixv c k m < m := Int.emod_lt_of_pos _ h
def fiMix : FI := ⟨3, 3, .cons (.ret (.bin .mod (.bin .mod (.bin .mul (.bin .add (.bin .mod (.var 0) (.con (.int 1000003))) (.con (.int 1))) (.bin .add (.bin .mul (.var 1) (.var 1)) (.con (.int 48271)))) (.ix (.lst (.cons (.con (.int 65537)) (.cons (.con (.int 64007)) (.cons (.con (.int 62003)) .nil)))) (.bin .mod (.var 1) (.con (.int 3))))) (.var 2))) .nil⟩
theorem mix_ok {n f : Nat} {c k m : Int} (hf : fns f = some fiMix) (hn : 1 ≤ n) (k0 : 0 ≤ k) (k1 : k < 1000000) (hm : 0 < m) (q : Q (.int (mixv c k m)) h) : wCall T fns n f [.int c, .int k, .int m] h Q Y := by
  obtain ⟨m', rfl⟩ : ∃ m, n = m + 1 := ⟨n - 1, by omega⟩
  refine ⟨_, hf, rfl, ?_⟩
  unfold mixv at q
  simp only [fiMix]
  simp only [startA, List.map_cons, List.map_nil, List.length_cons, List.length_nil, List.replicate, List.cons_append, List.nil_append, Nat.reduceAdd, Nat.reduceSub]
  walk_at "ts"
  refine mod_i (by omega) ?_
  walk_at "ts"
  refine mul_r (by omega) (by omega) ?_
  walk_at "ts"
  have c1 := Int.emod_nonneg c (show (1000003 : Int) ≠ 0 by decide)
  have c2 := Int.emod_lt_of_pos c (show (0 : Int) < 1000003 by decide)
  refine mul_l (by omega) (by omega) ?_
  walk_at "ts"
  refine ⟨by simp [sizeLine], fun p np => ?_⟩
  refine mod_i (by omega) ?_
  have d1 := Int.emod_nonneg k (show (3 : Int) ≠ 0 by decide)
  have d2 := Int.emod_lt_of_pos k (show (0 : Int) < 3 by decide)
  have hj : (k % 3).toNat < 3 := by omega
  have key : ∀ j : Nat, j < 3 → [DV.int 65537, .int 64007, .int 62003][j]? = some (.int ([65537, 64007, 62003].getD j 1)) ∧ (0 : Int) < [65537, 64007, 62003].getD j 1 := by
    intro j hj
    have : j = 0 ∨ j = 1 ∨ j = 2 := by omega
    rcases this with rfl | rfl | rfl <;> exact ⟨rfl, by decide⟩
  obtain ⟨k1', k2'⟩ := key _ hj
  refine ix_l (rdL_l au_same) (d := .int ([65537, 64007, 62003].getD (k % 3).toNat 1)) (by rw [atI_nat d1 (by simpa using d2)]; exact k1') ?_
  refine mod_i k2' ?_
  refine mod_i hm ?_
  exact ⟨h, Sub.new np, q⟩
/-! ### == of alike data -/
theorem eqvAll_refl_of {ps : List PyData} (h : ∀ p ∈ ps, PyData.eqv p p = true) : PyData.eqvAll ps ps = true := by
  induction ps with
  | nil => rfl
  | cons p ps ih =>
    show (PyData.eqv p p && PyData.eqvAll ps ps) = true
    rw [h p (by simp), ih fun q hq => h q (by simp [hq])]
    rfl
theorem allO_mem {α : Type} : ∀ {l : List (Option α)} {r : List α}, allO l = some r → ∀ x ∈ r, some x ∈ l
  | [], r, e, x, hx => by cases e; cases hx
  | o :: l, r, e, x, hx => by
    obtain ⟨y, q, e1, e2, rfl⟩ := allO_cons e
    rcases List.mem_cons.mp hx with rfl | hx
    · simp [e1]
    · exact List.mem_cons_of_mem _ (allO_mem e2 x hx)
theorem leaf_refl {d : DV} {p : PyData} (e : leafP d = some p) : PyData.eqv p p = true := by
  cases d <;> simp [leafP] at e <;> subst e <;> simp [PyData.eqv]
theorem py_refl : ∀ {n : Nat} {d : DV} {p : PyData}, py h n d = some p → PyData.eqv p p = true
  | 0, d, p, e => leaf_refl (show leafP d = some p from e)
  | n + 1, d, p, e => by
    have key : ∀ {xs : List DV} {ps : List PyData}, allO (xs.map (py h n)) = some ps → PyData.eqvAll ps ps = true := fun {xs ps} e => eqvAll_refl_of fun p hp => by
      obtain ⟨d, _, hd⟩ := List.mem_map.mp (allO_mem e p hp)
      exact py_refl hd
    cases d with
    | non => exact leaf_refl (d := .non) e
    | bl b => exact leaf_refl (d := .bl b) e
    | int b => exact leaf_refl (d := .int b) e
    | str b => exact leaf_refl (d := .str b) e
    | ref a =>
      simp only [py] at e
      cases e1 : rdL h a with
      | none => rw [e1] at e; cases e
      | some xs =>
        rw [e1] at e
        simp only [Option.bind_some] at e
        cases e2 : allO (xs.map (py h n)) with
        | none => rw [e2] at e; cases e
        | some ps =>
          rw [e2] at e
          cases e
          rw [PyData.eqv]
          exact key e2
    | tup ds =>
      simp only [py] at e
      cases e2 : allO (ds.map (py h n)) with
      | none => rw [e2] at e; cases e
      | some ps =>
        rw [e2] at e
        cases e
        rw [PyData.eqv]
        exact key e2
theorem eqD_same {x y : DV} {p : PyData} (e1 : py h 8 x = some p) (e2 : py h 8 y = some p) : EqD h x y true := ⟨p, p, e1, e2, py_refl e1⟩
theorem py_lst {n : Nat} {a : Addr} {xs : List DV} {ps : List PyData} (e : rdL h a = some xs) (e2 : allO (xs.map (py h n)) = some ps) : py h (n + 1) (.ref a) = some (.list ps) := by
  simp only [py]
  rw [e, Option.bind_some, e2]
  rfl
theorem allO_same {α β : Type} {f : α → Option β} {l : List α} {r : List β} (hl : l.length = r.length) (hg : ∀ (i : Nat) a b, l[i]? = some a → r[i]? = some b → f a = some b) : allO (l.map f) = some r := by
  induction l generalizing r with
  | nil => cases r with
    | nil => rfl
    | cons _ _ => cases hl
  | cons a l ih =>
    cases r with
    | nil => cases hl
    | cons b r =>
      rw [List.map_cons, hg 0 a b rfl rfl]
      show (allO (l.map f)).map _ = _
      rw [ih (by simpa using hl) fun i a' b' e1 e2 => hg (i + 1) a' b' (by simpa using e1) (by simpa using e2)]
      rfl
theorem py_sub : ∀ {n : Nat} {g : AH} {d : DV} {p : PyData}, Sub g h → py g n d = some p → py h n d = some p
  | 0, g, d, p, _, e => e
  | n + 1, g, d, p, x, e => by
    have key : ∀ {xs : List DV} {ps : List PyData}, allO (xs.map (py g n)) = some ps → allO (xs.map (py h n)) = some ps := by
      intro xs
      induction xs with
      | nil => exact fun e => e
      | cons d xs ih =>
        intro ps e
        rw [List.map_cons] at e
        obtain ⟨y, q, e1, e2, rfl⟩ := allO_cons e
        rw [List.map_cons, py_sub x e1]
        show (allO (xs.map (py h n))).map _ = _
        rw [ih e2]
        rfl
    cases d with
    | non => exact e
    | bl b => exact e
    | int b => exact e
    | str b => exact e
    | ref a =>
      simp only [py] at e ⊢
      cases e1 : rdL g a with
      | none => rw [e1] at e; cases e
      | some xs =>
        rw [e1] at e
        rw [rdL_sub x e1]
        simp only [Option.bind_some] at e ⊢
        cases e2 : allO (xs.map (py g n)) with
        | none => rw [e2] at e; cases e
        | some ps => rw [key e2]; rw [e2] at e; exact e
    | tup ds =>
      simp only [py] at e ⊢
      cases e2 : allO (ds.map (py g n)) with
      | none => rw [e2] at e; cases e
      | some ps => rw [key e2]; rw [e2] at e; exact e
/-! ### comprehensions, appends -/
/-- a comprehension: P tells of the place, of what was laid in, and of the heap -/
theorem lc_ind {chk : AH → Prop} {t own : List Nat} {D : Addr} {cond : ASt → AH → (Bool → AH → Prop) → Prop} {el : ASt → AH → AQ → Prop} {Qf : AH → Prop} {xs : List DV} (P : Nat → List DV → AH → Prop) (h0 : P 0 [] h) (hP : ∀ i acc g, P i acc g → acc.length ≤ i ∧ g D = some (.lst acc)) (hz : xs.length ≤ 16777216)
    (hs : ∀ i x acc g, xs[i]? = some x → P i acc g → chk g ∧ ∃ s1, bindA t x (wipeA s own) = some s1 ∧ ∀ N : AH → Prop, (∀ acc' g', P (i + 1) acc' g' → N g') → (acc.length < sizeLine) → cond s1 g fun b h1 => if b = true then el s1 h1 fun d h2 => ∃ g acc, Sub g h2 ∧ g D = some (.lst acc) ∧ acc.length < sizeLine ∧ N (au g D (.lst (acc ++ [d]))) else ∃ g, Sub g h1 ∧ N g)
    (fin : ∀ acc g, P xs.length acc g → chk g ∧ Qf g) : wLc chk t own D cond el Qf s xs h := by
  have key : ∀ (m i : Nat), m + i = xs.length → ∀ acc g, P i acc g → wLc chk t own D cond el Qf s (xs.drop i) g := by
    intro m
    induction m with
    | zero =>
      intro i hi acc g p
      have : i = xs.length := by omega
      subst this
      rw [List.drop_length]
      exact fin acc g p
    | succ m ih =>
      intro i hi acc g p
      have hl : i < xs.length := by omega
      rw [List.drop_eq_getElem_cons hl]
      obtain ⟨c, s1, e, b⟩ := hs i _ acc g (List.getElem?_eq_getElem hl) p
      have hal := (hP i acc g p).1
      have hsz : sizeLine = 16777216 := sizeLine_eq
      exact ⟨c, s1, e, b _ (fun acc' g' p' => ih (i + 1) (by omega) acc' g' p') (by omega)⟩
  have := key xs.length 0 (by omega) [] h h0
  rw [List.drop_zero] at this
  exact this
theorem len_t {xs : List DV} : xBF .len [.tup xs] h Q = Q (.int xs.length) h := propext Iff.rfl
theorem app_x {p : Addr} {xs : List DV} {d : DV} (e : h p = some (.lst xs)) (l : xs.length < sizeLine) (q : Q .non (au h p (.lst (xs ++ [d])))) : recvOk .append (.ref p) h ∧ xBM .append (.ref p) [d] h Q := ⟨recv_l rfl (rdL_l e), app_l e l q⟩
theorem app_x' {p : Addr} {xs : List DV} {d : DV} {R : Prop} (e : h p = some (.lst xs)) (r : R) (l : xs.length < sizeLine) (q : Q .non (au h p (.lst (xs ++ [d])))) : recvOk .append (.ref p) h ∧ R ∧ xBM .append (.ref p) [d] h Q := ⟨recv_l rfl (rdL_l e), r, app_l e l q⟩
theorem at_int {l : List Int} {i : Nat} (h : i < l.length) : L2.atI (l.map DV.int) (i : Int) = some (.int (l.getD i 0)) := by
  rw [atI_nat (by omega) (by simpa using h)]
  simp [List.getD_eq_getElem?_getD, List.getElem?_eq_getElem h]
theorem at_map {α : Type} {f : α → DV} {l : List α} {i : Nat} {x : α} (e : l[i]? = some x) : L2.atI (l.map f) (i : Int) = some (f x) := by
  have hi := (List.getElem?_eq_some_iff.mp e).1
  rw [atI_nat (by omega) (by simpa using hi)]
  simp [e]
end
section
variable {T : PTab} {fns : Nat → Option FI} {h : AH} {Q : AQ} {Y : AX}
/-! ### the draws of the later laws -/
def drw (ns : List Int) (k m : Int) : Int := (cellAt ns k % 1000003 + 31 * k * k + 7 * k + 1) * 48271 % 999983 % m
theorem drw_nn {ns : List Int} {k m : Int} (h : 0 < m) : 0 ≤ drw ns k m := Int.emod_nonneg _ (by omega)
theorem drw_lt {ns : List Int} {k m : Int} (h : 0 < m) : drw ns k m < m := Int.emod_lt_of_pos _ h
def fiDraw : FI := ⟨3, 4, .cons (.asg (.name 3) (.con (.int 0))) (.cons (.ifS (.cmp .gt (.bf .len (.cons (.var 0) .nil)) (.con (.int 0))) (.cons (.asg (.name 3) (.ix (.var 0) (.bin .mod (.var 1) (.bf .len (.cons (.var 0) .nil))))) .nil) .nil) (.cons (.ret (.bin .mod (.bin .mod (.bin .mul (.bin .add (.bin .add (.bin .add (.bin .mod (.var 3) (.con (.int 1000003))) (.bin .mul (.bin .mul (.con (.int 31)) (.var 1)) (.var 1))) (.bin .mul (.con (.int 7)) (.var 1))) (.con (.int 1))) (.con (.int 48271))) (.con (.int 999983))) (.var 2))) .nil))⟩
theorem drw_ok {n f : Nat} {a : Addr} {ns : List Int} {k m : Int} (hf : fns f = some fiDraw) (hn : 1 ≤ n) (e : rdL h a = some (ns.map .int)) (k1 : -(2 ^ 64) < k) (k2 : k < 2 ^ 64) (hm : 0 < m) (q : Q (.int (drw ns k m)) h) : wCall T fns n f [.ref a, .int k, .int m] h Q Y := by
  obtain ⟨m', rfl⟩ : ∃ m, n = m + 1 := ⟨n - 1, by omega⟩
  refine ⟨_, hf, rfl, ?_⟩
  unfold drw at q
  simp only [fiDraw]
  simp only [startA, List.map_cons, List.map_nil, List.length_cons, List.length_nil, List.replicate, List.cons_append, List.nil_append, Nat.reduceAdd, Nat.reduceSub]
  refine q_one fun K1 n1 _ _ _ => ?_
  repeat (first | simp only [PL.w_make, PL.w_dct, PL.w_items, PL.w_lrg, PL.w_con, PL.w_bin, PL.w_cmp, PL.w_cmp2, PL.w_neg, PL.w_not, PL.w_and, PL.w_or, PL.w_isN, PL.w_notN, PL.w_tup, PL.w_lst, PL.w_ix, PL.w_fld, PL.w_call, PL.w_meth, PL.w_bm, PL.w_isi, PL.w_nil, PL.w_cons, PL.w_bf, PL.w_varE, PL.q_asg, PL.q_nm, PL.q_tup, PL.q_sub, PL.q_fld, PL.q_ret, PL.q_retN, PL.q_expr, PL.q_if, PL.q_for, PL.q_brk, PL.q_pass, PL.w_seq, PL.w_rng1, PL.w_rng2, PL.w_enum, PL.w_lc, PL.wC_n, PL.wC_c, PL.wO_n, PL.wO_c, PL.w_sl, PL.find_s, PL.it_s, PL.min_i, PL.max_i, PL.exi_int, PL.exi_bl, PL.tru_bl, PL.add_i, PL.sub_i, PL.lt_i, PL.gt_i, PL.le_i, PL.ge_i, PL.eq_i, PL.ne_i, PL.eq_s, PL.ne_s, PL.lt_s, PL.eq_b, PL.ne_b, PL.not_t, PL.not_f, List.getElem?_cons_zero, List.getElem?_cons_succ, List.set_cons_zero, List.set_cons_succ, List.foldl_cons, List.foldl_nil, List.zip_cons_cons, List.zip_nil_left, List.zip_nil_right, Option.some.injEq, exists_eq_left', if_true, if_false, PL.ite_tt, PL.ite_ff, PL.bindA1, PL.kxE, PL.ty_non_int, PL.ty_non_bool, PL.ty_non_str, PL.ty_non_list, PL.ty_non_tuple, PL.ty_non_dict, PL.ty_bl_int, PL.ty_bl_bool, PL.ty_bl_str, PL.ty_bl_list, PL.ty_bl_tuple, PL.ty_bl_dict, PL.ty_int_int, PL.ty_int_bool, PL.ty_int_str, PL.ty_int_list, PL.ty_int_tuple, PL.ty_int_dict, PL.ty_str_int, PL.ty_str_bool, PL.ty_str_str, PL.ty_str_list, PL.ty_str_tuple, PL.ty_str_dict, PL.ty_tup_int, PL.ty_tup_bool, PL.ty_tup_str, PL.ty_tup_list, PL.ty_tup_tuple, PL.ty_tup_dict, PL.wTstE, decide_true, decide_false, eq_self, reduceCtorEq, Bool.not_true, Bool.not_false] | refine PL.mod_i (by omega) ?_ | refine PL.mul_l (by omega) (by omega) ?_ | refine PL.mul_r (by omega) (by omega) ?_ | refine PL.fdiv_i (by omega) (by omega) ?_ | refine PL.by_any by_ cell (by omega) (by first | assumption | exact PL.rdL_sub (by assumption) (by assumption) | exact PL.rdL_sub (PL.Sub.new (by assumption)) (by assumption) | exact PL.rdL_sub (PL.Sub.trans (PL.Sub.new (by assumption)) (PL.Sub.new (by assumption))) (by assumption)) (by omega) (by omega) (by omega) fun v_ hv1_ hv2_ => ?_ | refine PL.sign_ok sgn_ (by omega) ?_ | refine PL.adds (by first | (simp [PySem.sizeLine] <;> omega) | (simp only [List.length_cons, List.length_append] at *; simp [PySem.sizeLine] <;> omega)) ?_ | refine PL.len_s (by first | (simp [PySem.sizeLine] <;> omega) | (simp only [List.length_cons, List.length_append] at *; simp [PySem.sizeLine] <;> omega)) ?_ | refine PL.sl_s (by first | (simp [PySem.sizeLine] <;> omega) | (simp only [List.length_cons, List.length_append] at *; simp [PySem.sizeLine] <;> omega)) ?_ | refine PL.str_i (by omega) (by omega) ?_ | refine PL.mul_s (by omega) (by omega) (by first | (simp [PySem.sizeLine] <;> omega) | (simp only [List.length_cons, List.length_append] at *; simp [PySem.sizeLine] <;> omega)) ?_ | refine PL.pow_i (by omega) (by omega) (by omega) ?_ | refine PL.ix_int (by first | assumption | exact PL.rdL_l PL.au_same | exact PL.rdL_sub (by assumption) (by assumption)) (by omega) (by simp <;> omega) rfl fun i_ => ?_ | refine ⟨_, rfl, by decide, ?_⟩ | refine ⟨PL.recv_s rfl, ?_⟩ | refine PL.isi_1 rfl rfl ?_ | refine ⟨show _ ≤ PySem.sizeLine by simp [PySem.sizeLine], ?_⟩ | refine fun p_ np_ => ?_)
  refine n1 _ _ ?_
  refine cutS (fun s' h' => h' = h ∧ s' = [some (.ref a), some (.int k), some (.int m), some (.int (cellAt ns k))]) (fun K1 n1 _ _ _ => ?_) ?_
  · try simp only [PL.w_make, PL.w_dct, PL.w_items, PL.w_lrg, PL.w_con, PL.w_bin, PL.w_cmp, PL.w_cmp2, PL.w_neg, PL.w_not, PL.w_and, PL.w_or, PL.w_isN, PL.w_notN, PL.w_tup, PL.w_lst, PL.w_ix, PL.w_fld, PL.w_call, PL.w_meth, PL.w_bm, PL.w_isi, PL.w_nil, PL.w_cons, PL.w_bf, PL.w_varE, PL.q_asg, PL.q_nm, PL.q_tup, PL.q_sub, PL.q_fld, PL.q_ret, PL.q_retN, PL.q_expr, PL.q_if, PL.q_for, PL.q_brk, PL.q_pass, PL.w_seq, PL.w_rng1, PL.w_rng2, PL.w_enum, PL.w_lc, PL.wC_n, PL.wC_c, PL.wO_n, PL.wO_c, PL.w_sl, PL.find_s, PL.it_s, PL.min_i, PL.max_i, PL.exi_int, PL.exi_bl, PL.tru_bl, PL.add_i, PL.sub_i, PL.lt_i, PL.gt_i, PL.le_i, PL.ge_i, PL.eq_i, PL.ne_i, PL.eq_s, PL.ne_s, PL.lt_s, PL.eq_b, PL.ne_b, PL.not_t, PL.not_f, List.getElem?_cons_zero, List.getElem?_cons_succ, List.set_cons_zero, List.set_cons_succ, List.foldl_cons, List.foldl_nil, List.zip_cons_cons, List.zip_nil_left, List.zip_nil_right, Option.some.injEq, exists_eq_left', if_true, if_false, PL.ite_tt, PL.ite_ff, PL.bindA1, PL.kxE, PL.ty_non_int, PL.ty_non_bool, PL.ty_non_str, PL.ty_non_list, PL.ty_non_tuple, PL.ty_non_dict, PL.ty_bl_int, PL.ty_bl_bool, PL.ty_bl_str, PL.ty_bl_list, PL.ty_bl_tuple, PL.ty_bl_dict, PL.ty_int_int, PL.ty_int_bool, PL.ty_int_str, PL.ty_int_list, PL.ty_int_tuple, PL.ty_int_dict, PL.ty_str_int, PL.ty_str_bool, PL.ty_str_str, PL.ty_str_list, PL.ty_str_tuple, PL.ty_str_dict, PL.ty_tup_int, PL.ty_tup_bool, PL.ty_tup_str, PL.ty_tup_list, PL.ty_tup_tuple, PL.ty_tup_dict, PL.wTstE, decide_true, decide_false, eq_self, reduceCtorEq, Bool.not_true, Bool.not_false]
    rw [len_l e]
    try simp only [PL.w_make, PL.w_dct, PL.w_items, PL.w_lrg, PL.w_con, PL.w_bin, PL.w_cmp, PL.w_cmp2, PL.w_neg, PL.w_not, PL.w_and, PL.w_or, PL.w_isN, PL.w_notN, PL.w_tup, PL.w_lst, PL.w_ix, PL.w_fld, PL.w_call, PL.w_meth, PL.w_bm, PL.w_isi, PL.w_nil, PL.w_cons, PL.w_bf, PL.w_varE, PL.q_asg, PL.q_nm, PL.q_tup, PL.q_sub, PL.q_fld, PL.q_ret, PL.q_retN, PL.q_expr, PL.q_if, PL.q_for, PL.q_brk, PL.q_pass, PL.w_seq, PL.w_rng1, PL.w_rng2, PL.w_enum, PL.w_lc, PL.wC_n, PL.wC_c, PL.wO_n, PL.wO_c, PL.w_sl, PL.find_s, PL.it_s, PL.min_i, PL.max_i, PL.exi_int, PL.exi_bl, PL.tru_bl, PL.add_i, PL.sub_i, PL.lt_i, PL.gt_i, PL.le_i, PL.ge_i, PL.eq_i, PL.ne_i, PL.eq_s, PL.ne_s, PL.lt_s, PL.eq_b, PL.ne_b, PL.not_t, PL.not_f, List.getElem?_cons_zero, List.getElem?_cons_succ, List.set_cons_zero, List.set_cons_succ, List.foldl_cons, List.foldl_nil, List.zip_cons_cons, List.zip_nil_left, List.zip_nil_right, Option.some.injEq, exists_eq_left', if_true, if_false, PL.ite_tt, PL.ite_ff, PL.bindA1, PL.kxE, PL.ty_non_int, PL.ty_non_bool, PL.ty_non_str, PL.ty_non_list, PL.ty_non_tuple, PL.ty_non_dict, PL.ty_bl_int, PL.ty_bl_bool, PL.ty_bl_str, PL.ty_bl_list, PL.ty_bl_tuple, PL.ty_bl_dict, PL.ty_int_int, PL.ty_int_bool, PL.ty_int_str, PL.ty_int_list, PL.ty_int_tuple, PL.ty_int_dict, PL.ty_str_int, PL.ty_str_bool, PL.ty_str_str, PL.ty_str_list, PL.ty_str_tuple, PL.ty_str_dict, PL.ty_tup_int, PL.ty_tup_bool, PL.ty_tup_str, PL.ty_tup_list, PL.ty_tup_tuple, PL.ty_tup_dict, PL.wTstE, decide_true, decide_false, eq_self, reduceCtorEq, Bool.not_true, Bool.not_false]
    by_cases hl : 0 < ns.length
    · rw [decide_eq_true (show (0 : Int) < ((ns.map DV.int).length : Int) by simp; omega)]
      walk_at "ts"
      rw [len_l e]
      walk_at "ts"
      have hl' : (0 : Int) < ns.length := by omega
      have l1 := Int.emod_nonneg k (show (ns.length : Int) ≠ 0 by omega)
      have l2 := Int.emod_lt_of_pos k hl'
      have hj : (k % (ns.length : Int)).toNat < ns.length := by omega
      refine mod_i (by simpa using hl') ?_
      refine ix_l e (d := .int (cellAt ns k)) ?_ (n1 _ _ ⟨rfl, rfl⟩)
      rw [atI_nat (by simpa using l1) (by simpa using l2)]
      simp [List.getElem?_map, List.getElem?_eq_getElem hj, cellAt, List.getD_eq_getElem?_getD]
    · have hz : ns = [] := List.length_eq_zero_iff.mp (by omega)
      subst hz
      rw [show decide ((0 : Int) < ((([] : List Int).map DV.int).length : Int)) = false from rfl]
      walk_at "ts"
      exact n1 _ _ ⟨rfl, rfl⟩
  · rintro s' h' ⟨rfl, rfl⟩
    walk_at "ts"
    refine mod_i (by omega) ?_
    walk_at "ts"
    refine mul_l (by omega) (by omega) ?_
    walk_at "ts"
    refine mul_r k1 k2 ?_
    walk_at "ts"
    refine mul_l (by omega) (by omega) ?_
    walk_at "ts"
    refine mul_r (by omega) (by omega) ?_
    refine mod_i (by omega) ?_
    refine mod_i hm ?_
    exact ⟨_, Sub.refl _, q⟩
theorem drw_any {n f : Nat} {a : Addr} {ns : List Int} {k m : Int} (hf : fns f = some fiDraw) (hn : 1 ≤ n) (e : rdL h a = some (ns.map .int)) (k1 : -(2 ^ 64) < k) (k2 : k < 2 ^ 64) (hm : 0 < m) (q : ∀ v : Int, 0 ≤ v → v < m → Q (.int v) h) : wCall T fns n f [.ref a, .int k, .int m] h Q Y :=
  drw_ok hf hn e k1 k2 hm (q _ (drw_nn hm) (drw_lt hm))
def fiGreat : FI := ⟨2, 2, .cons (.ifS (.cmp .eq (.bf .len (.cons (.var 0) .nil)) (.con (.int 0))) (.cons (.ret (.con (.int 0))) .nil) .nil) (.cons (.ret (.bin .mod (.ix (.var 0) (.bin .mod (.var 1) (.bf .len (.cons (.var 0) .nil)))) (.bin .pow (.con (.int 10)) (.con (.int 58))))) .nil)⟩
theorem great_any {n f : Nat} {a : Addr} {ns : List Int} {k : Int} (hf : fns f = some fiGreat) (hn : 1 ≤ n) (e : rdL h a = some (ns.map .int)) (q : ∀ v : Int, 0 ≤ v → v < 10 ^ 58 → Q (.int v) h) : wCall T fns n f [.ref a, .int k] h Q Y := by
  obtain ⟨m', rfl⟩ : ∃ m, n = m + 1 := ⟨n - 1, by omega⟩
  refine ⟨_, hf, rfl, ?_⟩
  simp only [fiGreat]
  simp only [startA, List.map_cons, List.map_nil, List.length_cons, List.length_nil, List.replicate, List.cons_append, List.nil_append, Nat.reduceAdd, Nat.reduceSub]
  walk_at "ts"
  rw [len_l e]
  walk_at "ts"
  by_cases hl : 0 < ns.length
  · rw [decide_eq_false (show ¬ ((ns.map DV.int).length : Int) = 0 by simp; intro z; subst z; simp at hl)]
    walk_at "ts"
    rw [len_l e]
    walk_at "ts"
    have hl' : (0 : Int) < ns.length := by omega
    have l1 := Int.emod_nonneg k (show (ns.length : Int) ≠ 0 by omega)
    have l2 := Int.emod_lt_of_pos k hl'
    have hj : (k % (ns.length : Int)).toNat < ns.length := by omega
    refine mod_i (by simpa using hl') ?_
    refine ix_l e (d := .int (cellAt ns k)) ?_ ?_
    · rw [atI_nat (by simpa using l1) (by simpa using l2)]
      simp [List.getElem?_map, List.getElem?_eq_getElem hj, cellAt, List.getD_eq_getElem?_getD]
    · refine pow_i (by omega) (by omega) (by decide) ?_
      refine mod_i (by decide) ?_
      exact ⟨_, Sub.refl _, q _ (Int.emod_nonneg _ (by decide)) (Int.emod_lt_of_pos _ (by decide))⟩
  · have hz : ns = [] := List.length_eq_zero_iff.mp (by omega)
    subst hz
    rw [show decide (((([] : List Int).map DV.int).length : Int) = 0) = true from rfl]
    walk_at "ts"
    exact ⟨_, Sub.refl _, q 0 (by omega) (by decide)⟩
def fiWhole : FI := ⟨1, 1, .cons (.ret (.andE (.isi (.var 0) [.int] false) (.notE (.isi (.var 0) [.bool] false)))) .nil⟩
theorem whole_ok {n f : Nat} {v : Int} (hf : fns f = some fiWhole) (hn : 1 ≤ n) (q : Q (.bl true) h) : wCall T fns n f [.int v] h Q Y := by
  obtain ⟨m', rfl⟩ : ∃ m, n = m + 1 := ⟨n - 1, by omega⟩
  refine ⟨_, hf, rfl, ?_⟩
  simp only [fiWhole]
  simp only [startA, List.map_cons, List.map_nil, List.length_cons, List.length_nil, List.replicate, List.cons_append, List.nil_append, Nat.reduceAdd, Nat.reduceSub]
  repeat (first | simp only [PL.w_make, PL.w_dct, PL.w_items, PL.w_lrg, PL.w_con, PL.w_bin, PL.w_cmp, PL.w_cmp2, PL.w_neg, PL.w_not, PL.w_and, PL.w_or, PL.w_isN, PL.w_notN, PL.w_tup, PL.w_lst, PL.w_ix, PL.w_fld, PL.w_call, PL.w_meth, PL.w_bm, PL.w_isi, PL.w_nil, PL.w_cons, PL.w_bf, PL.w_varE, PL.q_nil, PL.q_cons, PL.q_asg, PL.q_nm, PL.q_tup, PL.q_sub, PL.q_fld, PL.q_ret, PL.q_retN, PL.q_expr, PL.q_if, PL.q_for, PL.q_brk, PL.q_pass, PL.w_seq, PL.w_rng1, PL.w_rng2, PL.w_enum, PL.w_lc, PL.wC_n, PL.wC_c, PL.wO_n, PL.wO_c, PL.w_sl, PL.find_s, PL.it_s, PL.min_i, PL.max_i, PL.exi_int, PL.exi_bl, PL.tru_bl, PL.add_i, PL.sub_i, PL.lt_i, PL.gt_i, PL.le_i, PL.ge_i, PL.eq_i, PL.ne_i, PL.eq_s, PL.ne_s, PL.lt_s, PL.eq_b, PL.ne_b, PL.not_t, PL.not_f, List.getElem?_cons_zero, List.getElem?_cons_succ, List.set_cons_zero, List.set_cons_succ, List.foldl_cons, List.foldl_nil, List.zip_cons_cons, List.zip_nil_left, List.zip_nil_right, Option.some.injEq, exists_eq_left', if_true, if_false, PL.ite_tt, PL.ite_ff, PL.bindA1, PL.kxE, PL.ty_non_int, PL.ty_non_bool, PL.ty_non_str, PL.ty_non_list, PL.ty_non_tuple, PL.ty_non_dict, PL.ty_bl_int, PL.ty_bl_bool, PL.ty_bl_str, PL.ty_bl_list, PL.ty_bl_tuple, PL.ty_bl_dict, PL.ty_int_int, PL.ty_int_bool, PL.ty_int_str, PL.ty_int_list, PL.ty_int_tuple, PL.ty_int_dict, PL.ty_str_int, PL.ty_str_bool, PL.ty_str_str, PL.ty_str_list, PL.ty_str_tuple, PL.ty_str_dict, PL.ty_tup_int, PL.ty_tup_bool, PL.ty_tup_str, PL.ty_tup_list, PL.ty_tup_tuple, PL.ty_tup_dict, PL.wTstE, decide_true, decide_false, eq_self, reduceCtorEq, Bool.not_true, Bool.not_false] | refine PL.mod_i (by omega) ?_ | refine PL.mul_l (by omega) (by omega) ?_ | refine PL.mul_r (by omega) (by omega) ?_ | refine PL.fdiv_i (by omega) (by omega) ?_ | refine PL.by_any by_ cell (by omega) (by first | assumption | exact PL.rdL_sub (by assumption) (by assumption) | exact PL.rdL_sub (PL.Sub.new (by assumption)) (by assumption) | exact PL.rdL_sub (PL.Sub.trans (PL.Sub.new (by assumption)) (PL.Sub.new (by assumption))) (by assumption)) (by omega) (by omega) (by omega) fun v_ hv1_ hv2_ => ?_ | refine PL.sign_ok sgn_ (by omega) ?_ | refine PL.adds (by first | (simp [PySem.sizeLine] <;> omega) | (simp only [List.length_cons, List.length_append] at *; simp [PySem.sizeLine] <;> omega)) ?_ | refine PL.len_s (by first | (simp [PySem.sizeLine] <;> omega) | (simp only [List.length_cons, List.length_append] at *; simp [PySem.sizeLine] <;> omega)) ?_ | refine PL.sl_s (by first | (simp [PySem.sizeLine] <;> omega) | (simp only [List.length_cons, List.length_append] at *; simp [PySem.sizeLine] <;> omega)) ?_ | refine PL.str_i (by omega) (by omega) ?_ | refine PL.mul_s (by omega) (by omega) (by first | (simp [PySem.sizeLine] <;> omega) | (simp only [List.length_cons, List.length_append] at *; simp [PySem.sizeLine] <;> omega)) ?_ | refine PL.pow_i (by omega) (by omega) (by omega) ?_ | refine PL.ix_int (by first | assumption | exact PL.rdL_l PL.au_same | exact PL.rdL_sub (by assumption) (by assumption)) (by omega) (by simp <;> omega) rfl fun i_ => ?_ | refine ⟨_, rfl, by decide, ?_⟩ | refine ⟨PL.recv_s rfl, ?_⟩ | refine PL.isi_1 rfl rfl ?_ | refine ⟨show _ ≤ PySem.sizeLine by simp [PySem.sizeLine], ?_⟩ | refine fun p_ np_ => ?_)
  exact ⟨_, Sub.refl _, q⟩
end
/-! ### exceptions -/
def xXf (T : PTab) (f : Nat) (x : DV) (h : AH) (Q : AQ) : Prop := ∃ p, x = .ref p ∧ (∃ c fs k d, h p = some (.exc c fs) ∧ T.xp c f = some k ∧ fs[k]? = some d ∧ Q d h)
def xTy (T : PTab) (c : Nat) : TY → Bool
  | .exc d => T.xsub c d
  | .verr => true
  | _ => false
def isXT : TY → Bool
  | .exc _ => true
  | .verr => true
  | _ => false
section
variable {T : PTab} {C : COr} {s : ASt} {h : AH} {Q : AQ} {Y : AX} {K : KT}
theorem q_try {b hs o} : wS T C s h K (.tryS b hs o) = wSs T C s h { nx := fun s' h' => wSs T C s' h' K o, rt := K.rt, bk := K.bk, xr := fun c fs s' h' => wHs T C s' h' K c fs hs } b := propext Iff.rfl
theorem q_raise {x es} : wS T C s h K (.raise x es) = wEs T C s h (fun ds h1 => ds.length = T.xn x ∧ K.xr x ds s h1) (kx K s) es := propext Iff.rfl
theorem hs_nil {c fs} : wHs T C s h K c fs .nil = K.xr c fs s h := propext Iff.rfl
theorem hs_yes {c fs x n b r} (e : hTakes T c x = true) (q : ∀ p, h p = none → wSs T C (hSet n s p) (au h p (.exc c fs)) { nx := fun s' h' => K.nx (hClr n s') h', rt := K.rt, bk := fun s' h' => K.bk (hClr n s') h', xr := fun _ _ _ _ => False } b) : wHs T C s h K c fs (.cons x n b r) := by
  show (if hTakes T c x = true then _ else _)
  rw [if_pos e]; exact q
theorem hs_no {c fs x n b r} (e : hTakes T c x = false) (q : wHs T C s h K c fs r) : wHs T C s h K c fs (.cons x n b r) := by
  show (if hTakes T c x = true then _ else _)
  rw [if_neg (by rw [e]; simp)]; exact q
theorem hSet_s {i : Nat} {p : Addr} : hSet (some i) s p = s.set i (some (.ref p)) := rfl
theorem hSet_n {p : Addr} : hSet none s p = s := rfl
theorem hClr_s {i : Nat} : hClr (some i) s = s.set i none := rfl
theorem hClr_n : hClr none s = s := rfl
theorem w_xfld {a f} : wE T C s h Q Y (.xfld a f) = wE T C s h (fun x h1 => xXf T f x h1 Q) Y a := propext Iff.rfl
theorem xfl_i {p : Addr} {c f k : Nat} {fs : List DV} {d : DV} (e : h p = some (.exc c fs)) (ek : T.xp c f = some k) (ed : fs[k]? = some d) (q : Q d h) : xXf T f (.ref p) h Q := ⟨p, rfl, c, fs, k, d, e, ek, ed, q⟩
theorem isi_x {p : Addr} {c : Nat} {fs : List DV} {ts : List TY} {b : Bool} (e : h p = some (.exc c fs)) (ht : ts.all isXT = true) (eb : ts.any (xTy T c) = b) (q : Q (.bl b) h) : xIsi T ts (.ref p) h Q := by
  have k : ∀ t ∈ ts, isiOk h (.ref p) t = true ∧ tyOf T h (.ref p) t = xTy T c t := fun t m => by
    have z := List.all_eq_true.mp ht t m
    cases t <;> simp [isXT] at z <;> simp [isiOk, tyOf, xTy, e]
  refine ⟨fun t m => (k t m).1, ?_⟩
  have e2 : ts.any (tyOf T h (.ref p)) = b := by
    rw [← eb]
    have : ∀ l : List TY, (∀ t ∈ l, tyOf T h (.ref p) t = xTy T c t) → l.any (tyOf T h (.ref p)) = l.any (xTy T c) := by
      intro l
      induction l with
      | nil => intro _; rfl
      | cons t l ih => intro hl; rw [List.any_cons, List.any_cons, hl t (by simp), ih fun u hu => hl u (by simp [hu])]
    exact this ts fun t m => (k t m).2
  rw [e2]; exact q
end
/-! ### dicts of texts and numbers -/
abbrev KV := List (List Nat × Int)
def kv (l : KV) : List (DV × DV) := l.map fun p => (.str p.1, .int p.2)
def sget (l : KV) (w : List Nat) : Option Int := (l.find? fun p => decide (p.1 = w)).map (·.2)
def sput (l : KV) (w : List Nat) (v : Int) : KV := if (l.any fun p => decide (p.1 = w)) = true then l.map (fun p => if p.1 = w then (p.1, v) else p) else l ++ [(w, v)]
theorem dget_kv (w : List Nat) : ∀ l : KV, dget (kv l) (.str w) = (sget l w).map .int
  | [] => rfl
  | p :: l => by
    have ih := dget_kv w l
    unfold dget sget kv at *
    rw [List.map_cons, List.find?_cons, List.find?_cons]
    by_cases h : p.1 = w
    · simp [h]
    · simp only [DV.str.injEq, h, decide_false]
      exact ih
theorem dput_kv (w : List Nat) (v : Int) (l : KV) : dput (kv l) (.str w) (.int v) = kv (sput l w v) := by
  have e : ((kv l).any fun p => decide (p.1 = .str w)) = (l.any fun p => decide (p.1 = w)) := by
    unfold kv
    rw [List.any_map]
    congr 1
    funext p
    simp
  unfold dput sput
  rw [e]
  split
  · unfold kv
    rw [List.map_map, List.map_map]
    congr 1
    funext p
    simp only [Function.comp_apply, DV.str.injEq]
    split <;> rfl
  · simp [kv]
theorem sget_cons (p : List Nat × Int) (l : KV) (u : List Nat) : sget (p :: l) u = if p.1 = u then some p.2 else sget l u := by
  unfold sget
  rw [List.find?_cons]
  by_cases h : p.1 = u
  · rw [decide_eq_true h, if_pos h]; rfl
  · rw [decide_eq_false h, if_neg h]
theorem sget_app (w : List Nat) (v : Int) (u : List Nat) : ∀ l : KV, sget (l ++ [(w, v)]) u = (sget l u).or (if w = u then some v else none)
  | [] => by rw [List.nil_append, sget_cons]; rfl
  | p :: l => by
    rw [List.cons_append, sget_cons, sget_cons, sget_app w v u l]
    split <;> rfl
theorem sget_map (w : List Nat) (v : Int) (u : List Nat) : ∀ l : KV, sget (l.map fun p => if p.1 = w then (p.1, v) else p) u = if u = w then (sget l u).map (fun _ => v) else sget l u
  | [] => by simp [sget]
  | p :: l => by
    rw [List.map_cons, sget_cons, sget_cons, sget_map w v u l]
    by_cases h : p.1 = w
    · rw [if_pos h]
      by_cases hu : p.1 = u
      · rw [if_pos hu, if_pos hu, if_pos (hu.symm.trans h)]; rfl
      · rw [if_neg hu, if_neg hu]
    · rw [if_neg h]
      by_cases hu : p.1 = u
      · rw [if_pos hu, if_pos hu, if_neg (fun z => h (hu.trans z))]
      · rw [if_neg hu, if_neg hu]
theorem any_sget (w : List Nat) : ∀ l : KV, (l.any fun p => decide (p.1 = w)) = (sget l w).isSome
  | [] => rfl
  | p :: l => by
    rw [List.any_cons, sget_cons, any_sget w l]
    by_cases h : p.1 = w
    · rw [decide_eq_true h, if_pos h]; rfl
    · rw [decide_eq_false h, if_neg h, Bool.false_or]
theorem sget_put (l : KV) (w u : List Nat) (v : Int) : sget (sput l w v) u = if u = w then some v else sget l u := by
  unfold sput
  rw [any_sget]
  cases h : sget l w with
  | none =>
    rw [if_neg (by simp), sget_app]
    by_cases e : u = w
    · subst e; rw [h]; simp
    · rw [if_neg e, if_neg (Ne.symm e)]; cases sget l u <;> rfl
  | some x =>
    rw [if_pos (by simp), sget_map]
    by_cases e : u = w
    · subst e; rw [if_pos rfl, if_pos rfl, h]; rfl
    · rw [if_neg e, if_neg e]
theorem sget_put_same (w : List Nat) (v : Int) (l : KV) : sget (sput l w v) w = some v := by rw [sget_put, if_pos rfl]
theorem sget_put_ne {w u : List Nat} (v : Int) (hn : u ≠ w) (l : KV) : sget (sput l w v) u = sget l u := by rw [sget_put, if_neg hn]
theorem sput_isSome {w u : List Nat} {v : Int} {l : KV} (h : (sget l w).isSome = true) : (sget (sput l w v) u).isSome = (sget l u).isSome := by
  by_cases e : u = w
  · subst e; rw [sget_put_same, h]; rfl
  · rw [sget_put_ne v e]
section
variable {T : PTab} {C : COr} {s : ASt} {h : AH} {Q : AQ} {Y : AX} {K : KT}
theorem q_lockD {t : ST} {p : Addr} {kvs : List (DV × DV)} (e : h p = some (.dct kvs)) (q : ∀ o y, wS T C s (au h p (.fdct kvs o y)) { nx := fun s' h' => h' p = some (.fdct kvs o y) ∧ K.nx s' (au h' p (.dct kvs)), rt := fun d h' => h' p = some (.fdct kvs o y) ∧ K.rt d (au h' p (.dct kvs)), bk := fun s' h' => h' p = some (.fdct kvs o y) ∧ K.bk s' (au h' p (.dct kvs)), xr := K.xr } t) : wS T C s h K (.lock t) := .inr ⟨p, kvs, e, q⟩
theorem rdD_d {p : Addr} {kvs : List (DV × DV)} (e : h p = some (.dct kvs)) : rdD h p = some kvs := by unfold rdD; rw [e]
theorem rdD_f {p : Addr} {kvs : List (DV × DV)} {o y} (e : h p = some (.fdct kvs o y)) : rdD h p = some kvs := by unfold rdD; rw [e]
theorem nin_d {p : Addr} {l : KV} {w : List Nat} (e : rdD h p = some (kv l)) (q : Q (.bl (!(sget l w).isSome)) h) : xCmp .nin (.str w) (.ref p) h Q :=
  .inr ⟨_, e, rfl, by rw [dget_kv, Option.isSome_map, Bool.true_xor]; exact q⟩
theorem isin_d {p : Addr} {l : KV} {w : List Nat} (e : rdD h p = some (kv l)) (q : Q (.bl (sget l w).isSome) h) : xCmp .isin (.str w) (.ref p) h Q :=
  .inr ⟨_, e, rfl, by rw [dget_kv, Option.isSome_map, Bool.false_xor]; exact q⟩
theorem ix_dk {p : Addr} {l : KV} {w : List Nat} {v : Int} (e : rdD h p = some (kv l)) (ev : sget l w = some v) (q : Q (.int v) h) : xIx (.ref p) (.str w) h Q :=
  .inr ⟨_, _, e, rfl, by rw [dget_kv, ev]; rfl, q⟩
theorem set_dk {p : Addr} {l : KV} {w : List Nat} {v : Int} {N} (e : h p = some (.dct (kv l))) (el : l.length < sizeLine) (q : N (au h p (.dct (kv (sput l w v))))) : xSet (.ref p) (.str w) (.int v) h N :=
  set_d e rfl (by rw [kv, List.length_map]; exact el) (by rw [dput_kv]; exact q)
theorem upd_d {p b : Addr} {kvs more : List (DV × DV)} (e : h p = some (.dct kvs)) (e2 : h b = some (.dct more)) (hne : p ≠ b) (l : kvs.length + more.length ≤ sizeLine) (q : Q .non (au h p (.dct (dputs kvs more)))) : xBM .update (.ref p) [.ref b] h Q := ⟨kvs, more, e, e2, hne, l, q⟩
theorem get_dk {p : Addr} {l : KV} {w : List Nat} {v : Int} (e : h p = some (.dct (kv l))) (q : Q (.int ((sget l w).getD v)) h) : xBM .get (.ref p) [.str w, .int v] h Q :=
  ⟨_, e, rfl, by rw [dget_kv]; cases z : sget l w <;> rw [z] at q <;> exact q⟩
end
theorem sput_length {l : KV} {w : List Nat} {v : Int} : (sput l w v).length ≤ l.length + 1 := by
  unfold sput; split <;> simp
theorem sput_length_in {l : KV} {w : List Nat} {v x : Int} (h : sget l w = some x) : (sput l w v).length = l.length := by
  unfold sput
  rw [any_sget, h]
  simp
theorem au_id {h : AH} {p : Addr} {o : AO} (e : h p = some o) : au h p o = h := by
  funext b
  unfold au
  split
  · rename_i hb; rw [hb, e]
  · rfl
/-! ### known objects, apart from each other -/
structure At (h : AH) (os : List (Addr × AO)) : Prop where
  nd : (os.map (·.1)).Nodup
  g : ∀ x ∈ os, h x.1 = some x.2
theorem At.at {h : AH} {os : List (Addr × AO)} (q : At h os) {i : Nat} {p : Addr} {o : AO} (e : os[i]? = some (p, o)) : h p = some o := q.g (p, o) (List.mem_of_getElem? e)
theorem At.sub {g h : AH} {os : List (Addr × AO)} (x : Sub g h) (q : At g os) : At h os := ⟨q.nd, fun y hy => x _ _ (q.g y hy)⟩
theorem At.new {h : AH} {os : List (Addr × AO)} {p : Addr} {o : AO} (q : At h os) (n : h p = none) : At (au h p o) (os ++ [(p, o)]) := by
  have hp : ∀ x ∈ os, x.1 ≠ p := fun x hx z => by
    have := q.g x hx
    rw [z, n] at this; cases this
  refine ⟨?_, fun x hx => ?_⟩
  · rw [List.map_append, List.nodup_append]
    refine ⟨q.nd, by simp, fun a ha b hb => ?_⟩
    simp at hb; subst hb
    obtain ⟨x, hx, rfl⟩ := List.mem_map.mp ha
    exact hp x hx
  · rcases List.mem_append.mp hx with z | z
    · rw [au_ne (hp x z)]; exact q.g x z
    · simp at z; subst z; exact au_same
theorem At.put {h : AH} {os : List (Addr × AO)} {i : Nat} {p : Addr} {o o' : AO} (q : At h os) (e : os[i]? = some (p, o)) : At (au h p o') (os.set i (p, o')) := by
  have hi := (List.getElem?_eq_some_iff.mp e).1
  have hm : (os.set i (p, o')).map (·.1) = os.map (·.1) := by
    rw [List.map_set]
    apply List.ext_getElem?
    intro j
    by_cases hj : i = j
    · subst hj
      rw [List.getElem?_set_self (by simpa using hi), List.getElem?_map, e]; rfl
    · rw [List.getElem?_set_ne hj]
  refine ⟨by rw [hm]; exact q.nd, fun x hx => ?_⟩
  obtain ⟨j, hj, rfl⟩ := List.getElem_of_mem hx
  rw [List.length_set] at hj
  by_cases hij : i = j
  · subst hij
    simp [au_same]
  · rw [List.getElem_set_ne hij]
    have h1 : os[j].1 ≠ p := by
      intro z
      have k1 : (os.map (·.1))[i]? = some p := by rw [List.getElem?_map, e]; rfl
      have k2 : (os.map (·.1))[j]? = some p := by rw [List.getElem?_map, List.getElem?_eq_getElem hj, Option.map_some, z]
      exact hij ((List.getElem?_inj (by simpa using hi) q.nd).mp (k1.trans k2.symm))
    rw [au_ne h1]
    exact q.g _ (List.getElem_mem hj)
end PL

set_option maxHeartbeats 4000000
/-! PL, part v: heaps as lists of assertions, apart from each other. -/
namespace PL
open PySem PySem.Spec PyProof.Rows L2
abbrev OS := List (Addr × AO)
/-- what stands at an address: which objects, that among them -/
abbrev Ast := Addr → OS → Prop
abbrev SLs := List (Addr × Ast)
theorem At.perm {h : AH} {os os' : OS} (q : At h os) (p : os.Perm os') : At h os' := ⟨(p.map (·.1)).nodup_iff.mp q.nd, fun x hx => q.g x (p.mem_iff.mpr hx)⟩
theorem At.drop {h : AH} {os fr : OS} (q : At h (os ++ fr)) : At h os := ⟨by
  have := q.nd
  rw [List.map_append, List.nodup_append] at this
  exact this.1, fun x hx => q.g x (List.mem_append_left _ hx)⟩
theorem At.upd {h : AH} {p : Addr} {o o' : AO} {os : OS} (q : At h ((p, o) :: os)) : At (au h p o') ((p, o') :: os) := At.put (i := 0) q rfl
theorem At.new' {h : AH} {os : OS} {p : Addr} {o : AO} (q : At h os) (n : h p = none) : At (au h p o) ((p, o) :: os) := (q.new n).perm (by simpa using (List.perm_append_comm (l₁ := os) (l₂ := [(p, o)])))
def Sat : SLs → OS → Prop
  | [], os => os = []
  | x :: L, os => ∃ o1 o2, os = o1 ++ o2 ∧ x.2 x.1 o1 ∧ Sat L o2
def Hs (h : AH) (L : SLs) : Prop := ∃ os, At h os ∧ Sat L os
theorem Sat.perm {L L' : SLs} (p : L.Perm L') : ∀ {os : OS}, Sat L os → ∃ os', os.Perm os' ∧ Sat L' os' := by
  induction p with
  | nil => exact fun {os} s => ⟨os, List.Perm.refl _, s⟩
  | cons x _ ih =>
    rintro os ⟨o1, o2, rfl, e, s⟩
    obtain ⟨o3, p3, s3⟩ := ih s
    exact ⟨o1 ++ o3, p3.append_left o1, o1, o3, rfl, e, s3⟩
  | swap x y L =>
    rintro os ⟨o1, _, rfl, e1, o2, o3, rfl, e2, s⟩
    refine ⟨o2 ++ (o1 ++ o3), ?_, o2, _, rfl, e2, o1, o3, rfl, e1, s⟩
    rw [← List.append_assoc, ← List.append_assoc]
    exact List.perm_append_comm.append_right o3
  | trans _ _ i1 i2 =>
    intro os s
    obtain ⟨o1, p1, s1⟩ := i1 s
    obtain ⟨o2, p2, s2⟩ := i2 s1
    exact ⟨o2, p1.trans p2, s2⟩
theorem Sat.app {L L' : SLs} : ∀ {os : OS}, Sat (L ++ L') os ↔ ∃ o1 o2, os = o1 ++ o2 ∧ Sat L o1 ∧ Sat L' o2 := by
  induction L with
  | nil =>
    intro os
    constructor
    · exact fun s => ⟨[], os, rfl, rfl, s⟩
    · rintro ⟨_, o2, rfl, rfl, s⟩; exact s
  | cons x L ih =>
    intro os
    constructor
    · rintro ⟨o1, o2, rfl, e, s⟩
      obtain ⟨o3, o4, rfl, s1, s2⟩ := ih.mp s
      exact ⟨o1 ++ o3, o4, (List.append_assoc ..).symm, ⟨o1, o3, rfl, e, s1⟩, s2⟩
    · rintro ⟨_, o4, rfl, ⟨o1, o3, rfl, e, s1⟩, s2⟩
      exact ⟨o1, o3 ++ o4, List.append_assoc .., e, ih.mpr ⟨o3, o4, rfl, s1, s2⟩⟩
theorem Hs.perm {h : AH} {L L' : SLs} (A : Hs h L) (p : L.Perm L') : Hs h L' := by
  obtain ⟨os, a, s⟩ := A
  obtain ⟨os', p', s'⟩ := s.perm p
  exact ⟨os', a.perm p', s'⟩
theorem Hs.tail {h : AH} {L L' : SLs} (A : Hs h (L ++ L')) : Hs h L := by
  obtain ⟨os, a, s⟩ := A
  obtain ⟨o1, o2, rfl, s1, s2⟩ := Sat.app.mp s
  exact ⟨o1, a.drop, s1⟩
theorem Hs.nil {h : AH} : Hs h [] := ⟨[], ⟨by simp, by simp⟩, rfl⟩
theorem Hs.sub {h h' : AH} {L : SLs} (A : Hs h L) (x : Sub h h') : Hs h' L := by
  obtain ⟨os, a, s⟩ := A
  exact ⟨os, a.sub x, s⟩
/-- one object -/
def one (o : AO) : Ast := fun p os => os = [(p, o)]
def sub (L : Addr → SLs) : Ast := fun p os => Sat (L p) os
def ex {α : Sort _} (B : α → Ast) : Ast := fun p os => ∃ x, B x p os
def pur (φ : Prop) (e : Ast) : Ast := fun p os => φ ∧ e p os
theorem Hs.look {h : AH} {p : Addr} {o : AO} {L : SLs} (A : Hs h ((p, one o) :: L)) : h p = some o := by
  obtain ⟨os, a, o1, o2, rfl, rfl, s⟩ := A
  exact a.g (p, o) (by simp)
theorem Hs.upd {h : AH} {p : Addr} {o o' : AO} {L : SLs} (A : Hs h ((p, one o) :: L)) : Hs (au h p o') ((p, one o') :: L) := by
  obtain ⟨os, a, o1, o2, rfl, rfl, s⟩ := A
  exact ⟨_, a.upd, [(p, o')], o2, rfl, rfl, s⟩
theorem Hs.new {h : AH} {p : Addr} {o : AO} {L : SLs} (A : Hs h L) (n : h p = none) : Hs (au h p o) ((p, one o) :: L) := by
  obtain ⟨os, a, s⟩ := A
  exact ⟨_, a.new' n, [(p, o)], os, rfl, rfl, s⟩
theorem Hs.ex_iff {α : Sort _} {B : α → Ast} {h : AH} {p : Addr} {L : SLs} : Hs h ((p, ex B) :: L) ↔ ∃ x, Hs h ((p, B x) :: L) := by
  constructor
  · rintro ⟨os, a, o1, o2, rfl, ⟨x, b⟩, s⟩; exact ⟨x, _, a, o1, o2, rfl, b, s⟩
  · rintro ⟨x, os, a, o1, o2, rfl, b, s⟩; exact ⟨_, a, o1, o2, rfl, ⟨x, b⟩, s⟩
theorem Hs.pur_iff {φ : Prop} {e : Ast} {h : AH} {p : Addr} {L : SLs} : Hs h ((p, pur φ e) :: L) ↔ φ ∧ Hs h ((p, e) :: L) := by
  constructor
  · rintro ⟨os, a, o1, o2, rfl, ⟨x, b⟩, s⟩; exact ⟨x, _, a, o1, o2, rfl, b, s⟩
  · rintro ⟨x, os, a, o1, o2, rfl, b, s⟩; exact ⟨_, a, o1, o2, rfl, ⟨x, b⟩, s⟩
theorem Hs.sub_iff {M : Addr → SLs} {h : AH} {p : Addr} {L : SLs} : Hs h ((p, PL.sub M) :: L) ↔ Hs h (M p ++ L) := by
  constructor
  · rintro ⟨os, a, o1, o2, rfl, b, s⟩; exact ⟨_, a, Sat.app.mpr ⟨o1, o2, rfl, b, s⟩⟩
  · rintro ⟨os, a, s⟩
    obtain ⟨o1, o2, rfl, b, s⟩ := Sat.app.mp s
    exact ⟨_, a, o1, o2, rfl, b, s⟩
/-- the entry of an address, and the others -/
class Rem (L : SLs) (p : Addr) (e : outParam Ast) (r : outParam SLs) : Prop where
  pm : L.Perm ((p, e) :: r)
instance (priority := 900) Rem.there {L r : SLs} {x : Addr × Ast} {p : Addr} {e : Ast} [i : Rem L p e r] : Rem (x :: L) p e (x :: r) := ⟨(i.pm.cons x).trans (List.Perm.swap _ _ _)⟩
instance (priority := 1000) Rem.here {L : SLs} {p : Addr} {e : Ast} : Rem ((p, e) :: L) p e L := ⟨List.Perm.refl _⟩
theorem Hs.rem {h : AH} {L r : SLs} {e : Ast} (A : Hs h L) (p : Addr) [i : Rem L p e r] : Hs h ((p, e) :: r) := A.perm i.pm
theorem Hs.get {h : AH} {L r : SLs} {p : Addr} {o : AO} (A : Hs h L) [i : Rem L p (one o) r] : h p = some o := (A.rem p).look
/-- written at p, its place kept -/
class Upd (L : SLs) (p : Addr) (e' : Ast) (L' : outParam SLs) : Prop where
  pm : ∃ o r, L.Perm ((p, one o) :: r) ∧ L'.Perm ((p, e') :: r)
instance (priority := 900) Upd.there {L L' : SLs} {x : Addr × Ast} {p : Addr} {e' : Ast} [i : Upd L p e' L'] : Upd (x :: L) p e' (x :: L') := ⟨by
  obtain ⟨o, r, a, b⟩ := i.pm
  exact ⟨o, x :: r, (a.cons x).trans (List.Perm.swap _ _ _), (b.cons x).trans (List.Perm.swap _ _ _)⟩⟩
instance (priority := 1000) Upd.here {L : SLs} {p : Addr} {o : AO} {e' : Ast} : Upd ((p, one o) :: L) p e' ((p, e') :: L) := ⟨⟨o, L, List.Perm.refl _, List.Perm.refl _⟩⟩
theorem Hs.wr {h : AH} {L L' : SLs} {p : Addr} {o' : AO} (A : Hs h L) [i : Upd L p (one o') L'] : Hs (au h p o') L' := by
  obtain ⟨o, r, a, b⟩ := i.pm
  exact (A.perm a).upd.perm b.symm
theorem Hs.wr' {h h' : AH} {L L' : SLs} {p : Addr} {o' : AO} (A : Hs h L) (e : au h p o' = h') [i : Upd L p (one o') L'] : Hs h' L' := e ▸ A.wr
/-- another order, and less -/
def Re (L L' : SLs) : Prop := ∃ M, L.Perm (L' ++ M)
theorem Re.refl (L : SLs) : Re L L := ⟨[], by simp⟩
theorem Re.nil {L : SLs} : Re L [] := ⟨L, by simp⟩
theorem Re.cons {L L' r : SLs} {p : Addr} {e : Ast} [i : Rem L p e r] (x : Re r L') : Re L ((p, e) :: L') := by
  obtain ⟨M, m⟩ := x
  exact ⟨M, i.pm.trans (m.cons _)⟩
theorem Re.skip {L L' : SLs} {x : Addr × Ast} (q : Re L L') : Re (x :: L) L' := by
  obtain ⟨M, m⟩ := q
  exact ⟨x :: M, (m.cons x).trans List.perm_middle.symm⟩
theorem Re.back {L r : SLs} {p : Addr} {e : Ast} [i : Rem L p e r] : Re ((p, e) :: r) L := ⟨[], by simpa using i.pm.symm⟩
theorem Re.drop {L r : SLs} {p : Addr} {e : Ast} (i : Rem L p e r) : Re L r := ⟨[(p, e)], i.pm.trans (List.perm_append_comm (l₁ := [(p, e)]))⟩
theorem Hs.re {h : AH} {L L' : SLs} (A : Hs h L) (x : Re L L') : Hs h L' := by
  obtain ⟨M, m⟩ := x
  exact (A.perm m).tail
/-- lists, dicts: what may be read -/
class IsL (e : Ast) (xs : outParam (List DV)) : Prop where
  r : ∀ p os h, e p os → At h os → rdL h p = some xs
instance IsL.l {xs : List DV} : IsL (one (.lst xs)) xs := ⟨fun p os h e a => by cases e; exact rdL_l (a.g (p, .lst xs) (by simp))⟩
instance IsL.f {xs : List DV} : IsL (one (.flst xs)) xs := ⟨fun p os h e a => by cases e; exact rdL_f (a.g (p, .flst xs) (by simp))⟩
class IsD (e : Ast) (xs : outParam (List (DV × DV))) : Prop where
  r : ∀ p os h, e p os → At h os → rdD h p = some xs
instance IsD.l {xs : List (DV × DV)} : IsD (one (.dct xs)) xs := ⟨fun p os h e a => by cases e; exact rdD_d (a.g (p, .dct xs) (by simp))⟩
instance IsD.f {xs : List (DV × DV)} {o y} : IsD (one (.fdct xs o y)) xs := ⟨fun p os h e a => by cases e; exact rdD_f (a.g (p, .fdct xs o y) (by simp))⟩
/-- an object of a class -/
class IsI (e : Ast) (c : outParam Nat) : Prop where
  r : ∀ p os h, e p os → At h os → ∃ fs, h p = some (.ins c fs)
instance IsI.l {c : Nat} {fs : List (Option DV)} : IsI (one (.ins c fs)) c := ⟨fun p os h e a => by cases e; exact ⟨_, a.g (p, .ins c fs) (by simp)⟩⟩
theorem Hs.ent {h : AH} {L r : SLs} {p : Addr} {e : Ast} (A : Hs h L) [i : Rem L p e r] : ∃ os, e p os ∧ At h os := by
  obtain ⟨os, a, o1, o2, rfl, b, s⟩ := A.perm i.pm
  exact ⟨o1, b, a.drop⟩
theorem Hs.rl {h : AH} {L r : SLs} {p : Addr} {e : Ast} {xs : List DV} (A : Hs h L) [Rem L p e r] [i : IsL e xs] : rdL h p = some xs := by
  obtain ⟨os, b, a⟩ := A.ent (p := p)
  exact i.r p os h b a
theorem Hs.rd {h : AH} {L r : SLs} {p : Addr} {e : Ast} {xs : List (DV × DV)} (A : Hs h L) [Rem L p e r] [i : IsD e xs] : rdD h p = some xs := by
  obtain ⟨os, b, a⟩ := A.ent (p := p)
  exact i.r p os h b a
theorem Hs.ri {h : AH} {L r : SLs} {p : Addr} {e : Ast} {c : Nat} (A : Hs h L) [Rem L p e r] [i : IsI e c] : ∃ fs, h p = some (.ins c fs) := by
  obtain ⟨os, b, a⟩ := A.ent (p := p)
  exact i.r p os h b a
/-- a field's place written, in plain rows -/
class SetAt {α : Type} (l : List α) (k : Nat) (x : α) (r : outParam (List α)) : Prop where
  e : l.set k x = r
instance SetAt.z {α : Type} {l : List α} {x y : α} : SetAt (y :: l) 0 x (x :: l) := ⟨rfl⟩
instance SetAt.s {α : Type} {l r : List α} {k : Nat} {x y : α} [i : SetAt l k x r] : SetAt (y :: l) (k + 1) x (y :: r) := ⟨by rw [List.set_cons_succ, i.e]⟩
section
variable {T : PTab} {C : COr} {s : ASt} {h : AH} {Q : AQ} {Y : AX} {K : KT} {L r : SLs} {p : Addr} {N : AH → Prop}
theorem kx_i {c : Nat} {fs : List DV} {R : Nat → List DV → ASt → AH → Prop} (e : K.xr = R) (q : R c fs s h) : kx K s c fs h := by unfold kx; rw [e]; exact q
theorem newH {o : AO} (A : Hs h L) (q : ∀ p h', Hs h' ((p, one o) :: L) → Q (.ref p) h') : newO o h Q := fun p np => q p _ (A.new np)
theorem fldH {c f k : Nat} {fs : List (Option DV)} {d : DV} (A : Hs h L) [Rem L p (one (.ins c fs)) r] (ek : T.fp c f = some k) (ed : fs[k]? = some (some d)) (q : Q d h) : xFld T f (.ref p) h Q := fld_i A.get ek ed q
theorem putH {c f k : Nat} {fs fs' : List (Option DV)} {d : DV} {L' : SLs} (A : Hs h L) [Rem L p (one (.ins c fs)) r] (ek : T.fp c f = some k) (hk : k < fs.length) [i : SetAt fs k (some d) fs'] [Upd L p (one (.ins c fs')) L'] (q : ∀ h', Hs h' L' → N h') : xPut T f (.ref p) d h N := put_f A.get ek hk (by rw [i.e]; exact q _ A.wr)
theorem mtH {c m f : Nat} {e : Ast} {R} (A : Hs h L) [Rem L p e r] [IsI e c] (ek : T.mt c m = some f) (q : R f) : xMt T m (.ref p) h R := by
  obtain ⟨fs, a⟩ := A.ri (p := p)
  exact mt_i a ek q
theorem ixH {e : Ast} {xs : List DV} {i : Int} {d : DV} (A : Hs h L) [Rem L p e r] [IsL e xs] (e2 : atI xs i = some d) (q : Q d h) : xIx (.ref p) (.int i) h Q := ix_l A.rl e2 q
theorem ixdH {e : Ast} {kvs : List (DV × DV)} {k d : DV} (A : Hs h L) [Rem L p e r] [IsD e kvs] (ek : keyOk k = true) (e2 : dget kvs k = some d) (q : Q d h) : xIx (.ref p) k h Q := .inr ⟨_, _, A.rd, ek, e2, q⟩
theorem ixkH {e : Ast} {l : KV} {w : List Nat} {v : Int} (A : Hs h L) [Rem L p e r] [IsD e (kv l)] (ev : sget l w = some v) (q : Q (.int v) h) : xIx (.ref p) (.str w) h Q := ix_dk A.rd ev q
theorem setlH {xs : List DV} {k : Int} {j : Nat} {d : DV} {L' : SLs} (A : Hs h L) [Rem L p (one (.lst xs)) r] (ej : ixN xs.length k = some j) [Upd L p (one (.lst (xs.set j d))) L'] (q : ∀ h', Hs h' L' → N h') : xSet (.ref p) (.int k) d h N := set_l A.get ej (q _ A.wr)
theorem setdH {kvs : List (DV × DV)} {y d : DV} {L' : SLs} (A : Hs h L) [Rem L p (one (.dct kvs)) r] (ey : keyOk y = true) (el : kvs.length < sizeLine) [Upd L p (one (.dct (dput kvs y d))) L'] (q : ∀ h', Hs h' L' → N h') : xSet (.ref p) y d h N := set_d A.get ey el (q _ A.wr)
theorem Hs.two {h : AH} {p b : Addr} {o o2 : AO} {L : SLs} (A : Hs h ((p, one o) :: (b, one o2) :: L)) : p ≠ b ∧ h b = some o2 := by
  obtain ⟨os, a, o1, o3, rfl, rfl, o4, o5, rfl, rfl, s⟩ := A
  exact ⟨fun e => by have := a.nd; rw [e] at this; simp at this, a.g (b, o2) (by simp)⟩
theorem updH {b : Addr} {kvs more : List (DV × DV)} {L' r2 : SLs} (A : Hs h L) [i : Rem L p (one (.dct kvs)) r] [i2 : Rem r b (one (.dct more)) r2] (el : kvs.length + more.length ≤ sizeLine) [Upd L p (one (.dct (dputs kvs more))) L'] (q : ∀ h', Hs h' L' → Q .non h') : xBM .update (.ref p) [.ref b] h Q :=
  have B := (((A.rem p).perm (i2.pm.cons _)) : Hs h ((p, one (.dct kvs)) :: (b, one (.dct more)) :: r2)).two
  upd_d A.get B.2 B.1 el (q _ A.wr)
theorem setkH {l : KV} {w : List Nat} {v : Int} {L' : SLs} (A : Hs h L) [Rem L p (one (.dct (kv l))) r] (el : l.length < sizeLine) [Upd L p (one (.dct (kv (sput l w v)))) L'] (q : ∀ h', Hs h' L' → N h') : xSet (.ref p) (.str w) (.int v) h N := set_dk A.get el (q _ A.wr)
theorem lenH {e : Ast} {xs : List DV} (A : Hs h L) [Rem L p e r] [IsL e xs] (q : Q (.int xs.length) h) : xBF .len [.ref p] h Q := .inl ⟨xs, A.rl, q⟩
theorem lendH {e : Ast} {xs : List (DV × DV)} (A : Hs h L) [Rem L p e r] [IsD e xs] (q : Q (.int xs.length) h) : xBF .len [.ref p] h Q := .inr ⟨xs, A.rd, q⟩
theorem listH {e : Ast} {xs : List DV} (A : Hs h L) [Rem L p e r] [IsL e xs] (q : ∀ p h', Hs h' ((p, one (.lst xs)) :: L) → Q (.ref p) h') : xBF .list [.ref p] h Q := list_l A.rl (newH A q)
theorem listdH {e : Ast} {xs : List (DV × DV)} (A : Hs h L) [Rem L p e r] [IsD e xs] (q : ∀ p h', Hs h' ((p, one (.lst (xs.map (·.1)))) :: L) → Q (.ref p) h') : xBF .list [.ref p] h Q := .inr ⟨xs, A.rd, newH A q⟩
theorem tupH {e : Ast} {xs : List DV} (A : Hs h L) [Rem L p e r] [IsL e xs] (q : Q (.tup xs) h) : xBF .tuple [.ref p] h Q := ⟨xs, A.rl, q⟩
theorem dictH {e : Ast} {xs : List (DV × DV)} (A : Hs h L) [Rem L p e r] [IsD e xs] (q : ∀ p h', Hs h' ((p, one (.dct xs)) :: L) → Q (.ref p) h') : xBF .dict [.ref p] h Q := ⟨xs, A.rd, newH A q⟩
theorem slH {e : Ast} {xs : List DV} {lo hi : Option Int} (A : Hs h L) [Rem L p e r] [IsL e xs] (q : ∀ p h', Hs h' ((p, one (.lst (cutL xs lo hi))) :: L) → Q (.ref p) h') : xSl (.ref p) lo hi h Q := ⟨xs, A.rl, newH A q⟩
theorem lstH {ds : List DV} (A : Hs h L) (l : ds.length ≤ sizeLine) (q : ∀ p h', Hs h' ((p, one (.lst ds)) :: L) → Q (.ref p) h') : ds.length ≤ sizeLine ∧ newO (.lst ds) h Q := ⟨l, newH A q⟩
theorem recvH {m : BM} {e : Ast} {xs : List DV} (A : Hs h L) [Rem L p e r] [IsL e xs] (hm : m.rt = .list) : recvOk m (.ref p) h := recv_l hm A.rl
theorem recvdH {m : BM} {kvs : List (DV × DV)} (A : Hs h L) [Rem L p (one (.dct kvs)) r] (hm : m.rt = .dict) : recvOk m (.ref p) h := by
  unfold recvOk; rw [hm]; exact ⟨p, kvs, rfl, A.get⟩
theorem appH {xs : List DV} {d : DV} {L' : SLs} (A : Hs h L) [Rem L p (one (.lst xs)) r] (l : xs.length < sizeLine) [Upd L p (one (.lst (xs ++ [d]))) L'] (q : ∀ h', Hs h' L' → Q .non h') : xBM .append (.ref p) [d] h Q := app_l A.get l (q _ A.wr)
theorem addH {p' : Addr} {r' : SLs} {xs ys : List DV} (A : Hs h L) [Rem L p (one (.lst xs)) r] [Rem L p' (one (.lst ys)) r'] (l : xs.length + ys.length ≤ sizeLine) (q : ∀ p h', Hs h' ((p, one (.lst (xs ++ ys))) :: L) → Q (.ref p) h') : xBin .add (.ref p) (.ref p') h Q := add_l A.get A.get l (newH A q)
theorem mulH {xs : List DV} {k : Int} (A : Hs h L) [Rem L p (one (.lst xs)) r] (h1 : -(2 ^ 63) ≤ k) (h2 : k < 2 ^ 63) (l : xs.length * k.toNat ≤ sizeLine) (q : ∀ p h', Hs h' ((p, one (.lst (List.replicate k.toNat xs).flatten)) :: L) → Q (.ref p) h') : xBin .mul (.ref p) (.int k) h Q := mul_rl A.get h1 h2 l (newH A q)
theorem itH {e : Ast} {xs : List DV} {R : (AH → Prop) → List DV → AH → Prop} (A : Hs h L) [Rem L p e r] [IsL e xs] (q : R (fun h' => rdL h' p = some xs) xs h) : itList (.ref p) h R := it_l A.rl q
theorem isilH {e : Ast} {xs : List DV} (A : Hs h L) [Rem L p e r] [IsL e xs] (q : Q (.bl true) h) : xIsi T [.list] (.ref p) h Q := isi_l A.rl q
theorem makeH {c f : Nat} {ds : List DV} (A : Hs h L) (ei : T.init c = some f) (q : ∀ p h', Hs h' ((p, one (.ins c (List.replicate (T.nf c) none))) :: L) → C f (.ref p :: ds) h' (fun v h2 => v = .non ∧ Q (.ref p) h2) (fun _ _ _ => False)) : xMake T C c ds h Q := ⟨f, ei, fun p np => q p _ (A.new np)⟩
theorem ninkH {e : Ast} {l : KV} {w : List Nat} (A : Hs h L) [Rem L p e r] [IsD e (kv l)] (q : Q (.bl (!(sget l w).isSome)) h) : xCmp .nin (.str w) (.ref p) h Q := nin_d A.rd q
theorem inkH {e : Ast} {l : KV} {w : List Nat} (A : Hs h L) [Rem L p e r] [IsD e (kv l)] (q : Q (.bl (sget l w).isSome) h) : xCmp .isin (.str w) (.ref p) h Q := isin_d A.rd q
theorem nindH {e : Ast} {kvs : List (DV × DV)} {w : DV} (A : Hs h L) [Rem L p e r] [IsD e kvs] (ek : keyOk w = true) (q : Q (.bl (!(dget kvs w).isSome)) h) : xCmp .nin w (.ref p) h Q := .inr ⟨_, A.rd, ek, by rw [Bool.true_xor]; exact q⟩
theorem indH {e : Ast} {kvs : List (DV × DV)} {w : DV} (A : Hs h L) [Rem L p e r] [IsD e kvs] (ek : keyOk w = true) (q : Q (.bl (dget kvs w).isSome) h) : xCmp .isin w (.ref p) h Q := .inr ⟨_, A.rd, ek, by rw [Bool.false_xor]; exact q⟩
theorem inlH {e : Ast} {ys : List DV} {x : DV} (A : Hs h L) [Rem L p e r] [IsL e ys] (e1 : flatD x = true) (e2 : ys.all flatD = true) (q : Q (.bl (decide (x ∈ ys))) h) : xCmp .isin x (.ref p) h Q := .inl ⟨_, A.rl, .inl ⟨e1, e2, by rw [Bool.false_xor]; exact q⟩⟩
theorem ninlH {e : Ast} {ys : List DV} {x : DV} (A : Hs h L) [Rem L p e r] [IsL e ys] (e1 : flatD x = true) (e2 : ys.all flatD = true) (q : Q (.bl (!decide (x ∈ ys))) h) : xCmp .nin x (.ref p) h Q := .inl ⟨_, A.rl, .inl ⟨e1, e2, by rw [Bool.true_xor]; exact q⟩⟩
theorem getkH {l : KV} {w : List Nat} {v : Int} (A : Hs h L) [Rem L p (one (.dct (kv l))) r] (q : Q (.int ((sget l w).getD v)) h) : xBM .get (.ref p) [.str w, .int v] h Q := get_dk A.get q
theorem ne_tt {a b : List DV} {v : Bool} (e : EqD h (.tup a) (.tup b) v) (q : Q (.bl (!v)) h) : xCmp .ne (.tup a) (.tup b) h Q := ⟨v, e, by rw [Bool.true_xor]; exact q⟩
theorem eq_tt {a b : List DV} {v : Bool} (e : EqD h (.tup a) (.tup b) v) (q : Q (.bl v) h) : xCmp .eq (.tup a) (.tup b) h Q := ⟨v, e, by rw [Bool.false_xor]; exact q⟩
theorem eqD_refl {x : DV} {p : PyData} (e : py h 8 x = some p) : EqD h x x true := eqD_same e e
theorem eqD_refl' {x : DV} {v : Bool} (p q : PyData) (e : py h 8 x = some p) (hv : PyData.eqv p p = v) : EqD h x x v := ⟨p, p, e, e, hv⟩
/-- a dict display -/
theorem dctH {es : EXs} (A : Hs h L) (q : ∀ p h', Hs h' ((p, one (.dct [])) :: L) → wEs T C s h' (fun ds h2 => h2 p = some (.dct []) ∧ ∃ kvs, pairL ds = some kvs ∧ (kvs.all fun q => keyOk q.1) = true ∧ kvs.length ≤ 15 ∧ Q (.ref p) (au h2 p (.dct (dputs [] kvs)))) Y es) : ∀ p, h p = none → wEs T C s (au h p (.dct [])) (fun ds h2 => h2 p = some (.dct []) ∧ ∃ kvs, pairL ds = some kvs ∧ (kvs.all fun q => keyOk q.1) = true ∧ kvs.length ≤ 15 ∧ Q (.ref p) (au h2 p (.dct (dputs [] kvs)))) Y es := fun p np => q p _ (A.new np)
theorem dctE {ds : List DV} {kvs : List (DV × DV)} {L' : SLs} {M : AH → Prop} (A : Hs h L) [Rem L p (one (.dct [])) r] (e1 : pairL ds = some kvs) (e2 : (kvs.all fun q => keyOk q.1) = true) (e3 : kvs.length ≤ 15) [Upd L p (one (.dct (dputs [] kvs))) L'] (q : ∀ h', Hs h' L' → M h') : h p = some (.dct []) ∧ ∃ kvs, pairL ds = some kvs ∧ (kvs.all fun q => keyOk q.1) = true ∧ kvs.length ≤ 15 ∧ M (au h p (.dct (dputs [] kvs))) := ⟨A.get, kvs, e1, e2, e3, q _ A.wr⟩
/-- a dict is walked -/
theorem lockH {t : ST} {kvs : List (DV × DV)} (A : Hs h L) [Rem L p (one (.dct kvs)) r] (q : ∀ o y h', Hs h' ((p, one (.fdct kvs o y)) :: r) → wS T C s h' { nx := fun s' h' => h' p = some (.fdct kvs o y) ∧ K.nx s' (au h' p (.dct kvs)), rt := fun d h' => h' p = some (.fdct kvs o y) ∧ K.rt d (au h' p (.dct kvs)), bk := fun s' h' => h' p = some (.fdct kvs o y) ∧ K.bk s' (au h' p (.dct kvs)), xr := K.xr } t) : wS T C s h K (.lock t) := q_lockD A.get fun o y => q o y _ (A.rem p).upd
theorem unlockH {kvs : List (DV × DV)} {o y} {L' : SLs} (A : Hs h L) [Rem L p (one (.fdct kvs o y)) r] [Upd L p (one (.dct kvs)) L'] (q : ∀ h', Hs h' L' → N h') : h p = some (.fdct kvs o y) ∧ N (au h p (.dct kvs)) := ⟨A.get, q _ A.wr⟩
/-- a comprehension's item is laid in -/
theorem lcAdd {acc : List DV} {d : DV} {N : AH → Prop} (A : Hs h L) [Rem L p (one (.lst acc)) r] (hac : acc.length < sizeLine) (q : ∀ g, Hs g ((p, one (.lst (acc ++ [d]))) :: r) → N g) : ∃ g acc, Sub g h ∧ g p = some (.lst acc) ∧ acc.length < sizeLine ∧ N (au g p (.lst (acc ++ [d]))) := ⟨h, acc, Sub.refl _, A.get, hac, q _ (A.rem p).upd⟩
/-- a comprehension that leaves what it knows alone -/
theorem lcH {chk : AH → Prop} {t own : List Nat} {cond : ASt → AH → (Bool → AH → Prop) → Prop} {el : ASt → AH → AQ → Prop} {xs : List DV} {QL : Addr → AH → Prop} (A : Hs h L) (f : DV → Option DV) (hz : xs.length ≤ 16777216)
    (hs : ∀ x ∈ xs, ∀ D acc g, Hs g ((D, one (.lst acc)) :: L) → chk g ∧ ∃ s1, bindA t x (wipeA s own) = some s1 ∧ ∀ N : AH → Prop, acc.length < sizeLine → (∀ g', Hs g' ((D, one (.lst (acc ++ (f x).toList))) :: L) → N g') →
      cond s1 g fun b h1 => if b = true then el s1 h1 fun d h2 => ∃ g acc, Sub g h2 ∧ g D = some (.lst acc) ∧ acc.length < sizeLine ∧ N (au g D (.lst (acc ++ [d]))) else ∃ g, Sub g h1 ∧ N g)
    (hc : ∀ D acc g, Hs g ((D, one (.lst acc)) :: L) → chk g) (q : ∀ D g, Hs g ((D, one (.lst (xs.filterMap f))) :: L) → QL D g) : ∀ D, h D = none → wLc chk t own D cond el (fun h' => QL D h') s xs (au h D (.lst [])) := fun D nD => by
  refine lc_ind (fun i acc g => Hs g ((D, one (.lst acc)) :: L) ∧ acc = (xs.take i).filterMap f) ⟨A.new nD, rfl⟩ ?_ hz ?_ ?_
  · rintro i acc g ⟨a, rfl⟩
    exact ⟨Nat.le_trans (List.length_filterMap_le _ _) (List.length_take_le _ _), a.look⟩
  · rintro i x acc g ex ⟨a, rfl⟩
    obtain ⟨c, s1, e, b⟩ := hs x (List.mem_of_getElem? ex) D _ g a
    refine ⟨c, s1, e, fun N hN hac => b N hac fun g' a' => hN _ _ ⟨a', ?_⟩⟩
    obtain ⟨hi, rfl⟩ := List.getElem?_eq_some_iff.mp ex
    rw [List.take_succ_eq_append_getElem hi, List.filterMap_append]
    cases hf : f xs[i] <;> simp [hf]
  · rintro acc g ⟨a, rfl⟩
    rw [List.take_length] at a
    exact ⟨hc _ _ _ a, q _ _ a⟩
end
section
variable {T : PTab} {C : COr} {s : ASt} {h : AH} {Q : AQ} {Y : AX} {K : KT} {L r : SLs} {p : Addr} {N : AH → Prop}
/-- exceptions -/
theorem hsyH {c : Nat} {fs : List DV} {x nm : Option Nat} {b : STs} {hs : HDs} (A : Hs h L) (e : hTakes T c x = true) (q : ∀ p h', Hs h' ((p, one (.exc c fs)) :: L) → wSs T C (hSet nm s p) h' { nx := fun s' h' => K.nx (hClr nm s') h', rt := K.rt, bk := fun s' h' => K.bk (hClr nm s') h', xr := fun _ _ _ _ => False } b) : wHs T C s h K c fs (.cons x nm b hs) := hs_yes e fun p np => q p _ (A.new np)
theorem isxH {c : Nat} {fs : List DV} {ts : List TY} {b : Bool} (A : Hs h L) [Rem L p (one (.exc c fs)) r] (ht : ts.all isXT = true) (eb : ts.any (xTy T c) = b) (q : Q (.bl b) h) : xIsi T ts (.ref p) h Q := isi_x A.get ht eb q
theorem xflH {c f k : Nat} {fs : List DV} {d : DV} (A : Hs h L) [Rem L p (one (.exc c fs)) r] (ek : T.xp c f = some k) (ed : fs[k]? = some d) (q : Q d h) : xXf T f (.ref p) h Q := xfl_i A.get ek ed q
theorem isiltH {e : Ast} {xs : List DV} (A : Hs h L) [Rem L p e r] [IsL e xs] (q : Q (.bl false) h) : xIsi T [.tuple] (.ref p) h Q := isi_1 (by
  show ((rdL h p).isSome || (rdD h p).isSome) = true
  rw [A.rl]; rfl) rfl q
theorem isilsH {e : Ast} {xs : List DV} (A : Hs h L) [Rem L p e r] [IsL e xs] (q : Q (.bl false) h) : xIsi T [.str] (.ref p) h Q := isi_1 (by
  show ((rdL h p).isSome || (rdD h p).isSome) = true
  rw [A.rl]; rfl) rfl q
theorem cutL_last {α : Type} (xs : List α) {k : Int} (h : 0 < k) : cutL xs (some (-k)) none = xs.drop (xs.length - k.toNat) := by
  have e : HT.sIx xs.length 0 (some (-k)) = xs.length - k.toNat := by
    unfold HT.sIx
    exact (if_pos (by omega)).trans (by omega)
  have e0 : HT.sIx xs.length xs.length none = xs.length := rfl
  unfold cutL
  rw [e, e0]
  exact List.take_of_length_le (by simp)
end
/-- the script -/
theorem Hs.script {a : Addr} {ns : List Int} : Hs (scr a ns) [(a, one (.flst (ns.map .int)))] := (Hs.nil (h := fun _ => none)).new (p := a) (o := .flst (ns.map .int)) rfl
end PL

set_option maxHeartbeats 4000000
/-! PL, part w: one statement at a time. -/
namespace PL
open PySem PySem.Spec PyProof.Rows L2
section
variable {T : PTab} {C : COr} {s : ASt} {h : AH} {Q : AQ} {Y : AX} {K : KT} {A B : Prop} {r : STs}
theorem q1_asg {t e} (b : ∀ K' : KT, (∀ s' h', wSs T C s' h' K r → K'.nx s' h') → K'.rt = K.rt → K'.bk = K.bk → K'.xr = K.xr → wE T C s h (fun d h1 => wAsg T C s h1 d K' t) (kx K' s) e) : wSs T C s h K (.cons (.asg t e) r) := b _ (fun _ _ x => x) rfl rfl rfl
theorem q1_expr {e} (b : ∀ K' : KT, (∀ s' h', wSs T C s' h' K r → K'.nx s' h') → K'.rt = K.rt → K'.bk = K.bk → K'.xr = K.xr → wE T C s h (fun _ h1 => K'.nx s h1) (kx K' s) e) : wSs T C s h K (.cons (.expr e) r) := b _ (fun _ _ x => x) rfl rfl rfl
theorem q1_if {c a e} (b : ∀ K' : KT, (∀ s' h', wSs T C s' h' K r → K'.nx s' h') → K'.rt = K.rt → K'.bk = K.bk → K'.xr = K.xr → wE T C s h (fun x h1 => xTru x h1 fun k h1 => if k = true then wSs T C s h1 K' a else wSs T C s h1 K' e) (kx K' s) c) : wSs T C s h K (.cons (.ifS c a e) r) := b _ (fun _ _ x => x) rfl rfl rfl
theorem q1_ret {e} (b : wE T C s h K.rt (kx K s) e) : wSs T C s h K (.cons (.ret e) r) := b
theorem q1_retN (b : K.rt .non h) : wSs T C s h K (.cons .retN r) := b
theorem q1_pass (b : wSs T C s h K r) : wSs T C s h K (.cons .pass r) := b
theorem q1_brk (b : K.bk s h) : wSs T C s h K (.cons .brk r) := b
theorem q1_nil (b : K.nx s h) : wSs T C s h K .nil := b
theorem q1_raise {x es} (b : wEs T C s h (fun ds h1 => ds.length = T.xn x ∧ K.xr x ds s h1) (kx K s) es) : wSs T C s h K (.cons (.raise x es) r) := b
theorem ite_t {c : Bool} (e : c = true) (q : A) : if c = true then A else B := by rw [e, if_pos rfl]; exact q
theorem ite_f {c : Bool} (e : c = false) (q : B) : if c = true then A else B := by rw [e, if_neg Bool.false_ne_true]; exact q
theorem ite_c {c : Bool} (q1 : c = true → A) (q2 : c = false → B) : if c = true then A else B := by cases c <;> first | exact ite_t rfl (q1 rfl) | exact ite_f rfl (q2 rfl)
theorem ite_d {p : Prop} [Decidable p] (q1 : p → A) (q2 : ¬ p → B) : if decide p = true then A else B := ite_c (fun e => q1 (of_decide_eq_true e)) (fun e => q2 (of_decide_eq_false e))
theorem ite_n {p : Prop} [Decidable p] (q1 : ¬ p → A) (q2 : p → B) : if (!decide p) = true then A else B := ite_c (fun e => q1 (by simpa using e)) (fun e => q2 (by simpa using e))
theorem kx_e {c : Nat} {fs : List DV} (q : K.xr c fs s h) : kx K s c fs h := q
theorem rt_e {K' : KT} {d : DV} (e : K'.rt = K.rt) (q : K.rt d h) : K'.rt d h := by rw [e]; exact q
theorem xr_e {K' : KT} {c : Nat} {fs : List DV} (e : K'.xr = K.xr) (q : K.xr c fs s h) : K'.xr c fs s h := by rw [e]; exact q
theorem bk_e {K' : KT} (e : K'.bk = K.bk) (q : K.bk s h) : K'.bk s h := by rw [e]; exact q
theorem ret_q {d : DV} (q : Q d h) : ∃ g, Sub g h ∧ Q d g := ⟨h, Sub.refl h, q⟩
theorem ret_n {P : AH → Prop} (q : P h) : ∃ g, Sub g h ∧ P g := ⟨h, Sub.refl h, q⟩
theorem sz2 {ds : List DV} {P : Prop} (l : ds.length ≤ sizeLine) (q : P) : ds.length ≤ sizeLine ∧ P := ⟨l, q⟩
theorem min_t {i j : Int} : xBF .min [.tup [.int i, .int j]] h Q = Q (.int (if j < i then j else i)) h := propext Iff.rfl
theorem bnd {is : List Nat} {d : DV} {s1 : ASt} {N : ASt → Prop} (e : bindA is d s = some s1) (l : 2 ≤ is.length) (q : N s1) : ∃ s1, bindA is d s = some s1 ∧ 2 ≤ is.length ∧ N s1 := ⟨s1, e, l, q⟩
theorem nx_e {K' : KT} (n : ∀ s' h', wSs T C s' h' K r → K'.nx s' h') (q : wSs T C s h K r) : K'.nx s h := n s h q
theorem w_lrg1 {b} : wE T C s h Q Y (.lrg1 b) = wE T C s h (fun y h2 => ∃ j : Int, y = .int j ∧ -(2 ^ 62) ≤ j ∧ j < 2 ^ 62 ∧ j.toNat ≤ 1000000 ∧ newO (.lst ((List.range j.toNat).map fun (k : Nat) => .int (k : Nat))) h2 Q) Y b := propext Iff.rfl
def xLvw (k : Bool) (x : DV) (h : AH) (Q : AQ) : Prop := ∃ p kvs, x = .ref p ∧ h p = some (.dct kvs) ∧ newO (.lst (kvs.map fun q => if k = true then q.1 else q.2)) h Q
def xLrev (x : DV) (h : AH) (Q : AQ) : Prop := ∃ p xs, x = .ref p ∧ rdL h p = some xs ∧ newO (.lst xs.reverse) h Q
theorem w_xmk {c es} : wE T C s h Q Y (.xmk c es) = wEs T C s h (fun ds h1 => ds.length = T.xn c ∧ newO (.exc c ds) h1 Q) Y es := propext Iff.rfl
theorem w_lvw {a k} : wE T C s h Q Y (.lvw a k) = wE T C s h (fun x h1 => xLvw k x h1 Q) Y a := propext Iff.rfl
def xSls (lo n : Nat) (x : DV) (h : AH) (Q : AQ) : Prop := ∃ p xs, x = .ref p ∧ rdL h p = some xs ∧ newO (.lst (stepL lo n xs)) h Q
theorem w_sls {a lo n} : wE T C s h Q Y (.sls a lo n) = wE T C s h (fun x h1 => xSls lo n x h1 Q) Y a := propext Iff.rfl
theorem slsH {L r : SLs} {p : Addr} {e : Ast} {xs : List DV} {lo n : Nat} (A : Hs h L) [Rem L p e r] [IsL e xs] (q : ∀ p' h', Hs h' ((p', one (.lst (stepL lo n xs))) :: L) → Q (.ref p') h') : xSls lo n (.ref p) h Q := ⟨p, xs, rfl, A.rl, newH A q⟩
def xSrk (l : List Nat) (x : DV) (h : AH) (Q : AQ) : Prop := ∃ (p : Addr) (qs : List (DV × Int)), x = .ref p ∧ rdL h p = some (qs.map (·.1)) ∧ (∀ q ∈ qs, pathD h l q.1 = some (.int q.2)) ∧ newO (.lst ((qs.mergeSort fun x y => decide (x.2 ≤ y.2)).map (·.1))) h Q
theorem w_srk {l a} : wE T C s h Q Y (.srk l a) = wE T C s h (fun x h1 => xSrk l x h1 Q) Y a := propext Iff.rfl
theorem srkH {L r : SLs} {p : Addr} {e : Ast} {l : List Nat} {qs : List (DV × Int)} (A : Hs h L) [Rem L p e r] [IsL e (qs.map (·.1))] (hk : ∀ q ∈ qs, pathD h l q.1 = some (.int q.2)) (q : ∀ p' h', Hs h' ((p', one (.lst ((qs.mergeSort fun x y => decide (x.2 ≤ y.2)).map (·.1)))) :: L) → Q (.ref p') h') : xSrk l (.ref p) h Q := ⟨p, qs, rfl, A.rl, hk, newH A q⟩
theorem sortDH {L r : SLs} {p : Addr} {e : Ast} {qs : List (DV × PyData)} (A : Hs h L) [Rem L p e r] [IsL e (qs.map (·.1))] (hk : ∀ q ∈ qs, py h 8 q.1 = some q.2) (al : PySem.W.AllAlike (qs.map (·.2))) (so : PySem.W.Sortable (qs.map (·.2))) (q : ∀ p' h', Hs h' ((p', one (.lst ((qs.mergeSort (PySem.W.dataLe false fun q => q.2)).map (·.1)))) :: L) → Q (.ref p') h') : xBF .sorted [.ref p] h Q :=
  .inr (.inl ⟨qs, A.rl, hk, al, so, newH A q⟩)
def xHsum (x : DV) (h : AH) (Q : AQ) : Prop := ∃ (p : Addr) (bs : List Bool), x = .ref p ∧ rdL h p = some (bs.map .bl) ∧ Q (.int ((bs.count true : Nat) : Int)) h
theorem w_hsum {a} : wE T C s h Q Y (.hsum a) = wE T C s h (fun x h1 => xHsum x h1 Q) Y a := propext Iff.rfl
theorem w_repq {n a b} : wE T C s h Q Y (.repq n a b) = wE T C s h (fun x h1 => ∃ p : PyData, isRf x = true ∧ py h1 8 x = some p ∧ p.showable = true ∧ p.shown.length ≤ sizeLine ∧ wE T C s h1 (fun y h2 => isRf y = true ∧ py h2 8 y = some p ∧ Q (.bl (!n)) h2) Y b) Y a := propext Iff.rfl
theorem hsumH {L r : SLs} {p : Addr} {e : Ast} {bs : List Bool} (A : Hs h L) [Rem L p e r] [IsL e (bs.map .bl)] (q : Q (.int ((bs.count true : Nat) : Int)) h) : xHsum (.ref p) h Q := ⟨p, bs, rfl, A.rl, q⟩
theorem w_lrev {a} : wE T C s h Q Y (.lrev a) = wE T C s h (fun x h1 => xLrev x h1 Q) Y a := propext Iff.rfl
theorem w_ife {c a b} : wE T C s h Q Y (.ife c a b) = wE T C s h (fun x h1 => ∃ k, x = .bl k ∧ if k = true then wE T C s h1 Q Y a else wE T C s h1 Q Y b) Y c := propext Iff.rfl
theorem lvalH {L r : SLs} {p : Addr} {kvs : List (DV × DV)} (A : Hs h L) [Rem L p (one (.dct kvs)) r] (q : ∀ p' h', Hs h' ((p', one (.lst (kvs.map (·.2)))) :: L) → Q (.ref p') h') : xLvw false (.ref p) h Q := ⟨p, kvs, rfl, A.get, newH A q⟩
theorem lkeyH {L r : SLs} {p : Addr} {kvs : List (DV × DV)} (A : Hs h L) [Rem L p (one (.dct kvs)) r] (q : ∀ p' h', Hs h' ((p', one (.lst (kvs.map (·.1)))) :: L) → Q (.ref p') h') : xLvw true (.ref p) h Q := ⟨p, kvs, rfl, A.get, newH A q⟩
theorem lrevH {L r : SLs} {p : Addr} {e : Ast} {xs : List DV} (A : Hs h L) [Rem L p e r] [IsL e xs] (q : ∀ p' h', Hs h' ((p', one (.lst xs.reverse)) :: L) → Q (.ref p') h') : xLrev (.ref p) h Q := ⟨p, xs, rfl, A.rl, newH A q⟩
theorem eqT_q {x y : DV} (e : EqC h (EqT h 6) x y) (q : Q (.bl true) h) : xCmp .eqT x y h Q := ⟨e, q⟩
theorem neT_q {x y : DV} (e : EqC h (EqT h 6) x y) (q : Q (.bl false) h) : xCmp .neT x y h Q := ⟨e, q⟩
theorem isb_b {a b : Bool} : xCmp .isb (.bl a) (.bl b) h Q = Q (.bl (decide (a = b))) h := propext Iff.rfl
theorem nisb_b {a b : Bool} : xCmp .nisb (.bl a) (.bl b) h Q = Q (.bl (!decide (a = b))) h := propext Iff.rfl
theorem cntH {L r : SLs} {p : Addr} {e : Ast} {ys : List DV} {x : DV} {d : PyData} {qs : List PyData} (A : Hs h L) [Rem L p e r] [IsL e ys] (e1 : py h 8 x = some d) (e2 : allO (ys.map (py h 7)) = some qs) (q : Q (.int ((qs.countP fun z => PyData.eqv z d : Nat) : Int)) h) : xBM .count (.ref p) [x] h Q := ⟨ys, d, qs, A.rl, e1, e2, q⟩
theorem cnt_strs {L r : SLs} {p : Addr} {e : Ast} {ws : List (List Nat)} {w : List Nat} (A : Hs h L) [Rem L p e r] [IsL e (ws.map .str)] (q : Q (.int ((ws.count w : Nat) : Int)) h) : xBM .count (.ref p) [.str w] h Q := by
  refine cntH A (d := pyS w) (qs := ws.map pyS) rfl (by rw [List.map_map]; exact allO_map fun x _ => rfl) ?_
  rw [List.countP_map]
  have : List.countP ((fun z => PyData.eqv z (pyS w)) ∘ pyS) ws = ws.count w := by
    unfold List.count
    refine List.countP_congr fun x _ => ?_
    show PyData.eqv (pyS x) (pyS w) = true ↔ (x == w) = true
    rw [eqv_str]; simp
  rw [this]; exact q
theorem cnt_bls {L r : SLs} {p : Addr} {e : Ast} {ws : List Bool} {w : Bool} (A : Hs h L) [Rem L p e r] [IsL e (ws.map .bl)] (q : Q (.int ((ws.count w : Nat) : Int)) h) : xBM .count (.ref p) [.bl w] h Q := by
  refine cntH A (d := .bool w) (qs := ws.map .bool) rfl (by rw [List.map_map]; exact allO_map fun x _ => rfl) ?_
  rw [List.countP_map]
  have : List.countP ((fun z => PyData.eqv z (.bool w)) ∘ PyData.bool) ws = ws.count w := by
    unfold List.count
    refine List.countP_congr fun x _ => ?_
    show PyData.eqv (.bool x) (.bool w) = true ↔ (x == w) = true
    cases x <;> cases w <;> decide
  rw [this]; exact q
theorem idx_bls {L r : SLs} {p : Addr} {e : Ast} {ws : List Bool} {w : Bool} {j : Nat} (A : Hs h L) [Rem L p e r] [IsL e (ws.map .bl)] (ej : ws[j]? = some w) (no : ∀ m z, m < j → ws[m]? = some z → z ≠ w) (q : Q (.int (j : Nat)) h) : xBM .indexD (.ref p) [.bl w] h Q := by
  have ev : ∀ a b : Bool, PyData.eqv (.bool a) (.bool b) = decide (a = b) := fun a b => by cases a <;> cases b <;> rfl
  refine ⟨ws.map .bl, .bool w, ws.map .bool, j, .bool w, A.rl, rfl, by rw [List.map_map]; exact allO_map fun x _ => rfl, by rw [List.getElem?_map, ej]; rfl, by rw [ev]; simp, fun m z' hm hz => ?_, q⟩
  rw [List.getElem?_map] at hz
  obtain ⟨y, hy, rfl⟩ := Option.map_eq_some_iff.mp hz
  rw [ev]
  exact decide_eq_false (no m y hm hy)
theorem in_t {x : DV} {ys : List DV} (e1 : flatD x = true) (e2 : ys.all flatD = true) (q : Q (.bl (decide (x ∈ ys))) h) : xCmp .isin x (.tup ys) h Q := ⟨e1, e2, by rw [Bool.false_xor]; exact q⟩
theorem nin_t {x : DV} {ys : List DV} (e1 : flatD x = true) (e2 : ys.all flatD = true) (q : Q (.bl (!decide (x ∈ ys))) h) : xCmp .nin x (.tup ys) h Q := ⟨e1, e2, by rw [Bool.true_xor]; exact q⟩
theorem d_ns {x : List Nat} : decide (DV.non = .str x) = false := rfl
theorem d_nr {x : Addr} : decide (DV.ref x = .non) = false := rfl
theorem d_ni {x : Int} : decide (DV.int x = .non) = false := rfl
theorem d_nS {x : List Nat} : decide (DV.str x = .non) = false := rfl
theorem d_nt {x : List DV} : decide (DV.tup x = .non) = false := rfl
theorem d_nn : decide (DV.non = .non) = true := rfl
end
end PL

set_option maxHeartbeats 0

namespace K66
open PySem PySem.Spec PyProof.Rows L2 PL
theorem chk : (D.fns.all fun d => D.chk d) = true := by decide +kernel
theorem chkx : D.chkX = true := by decide +kernel
theorem ob_eq (s : PySem.W.SharedT) : ob s = hk.obs s.abs := PL.obsPG_eq (HandSHeadRun.getT_eq s)

end K66
namespace K66
open PySem PySem.W PySem.Calls PyProof.Rows
theorem holds_of (law : ∀ (a : Addr) (ns : List Int), ns.length ≤ 63 → PL.wCall D.T D.fi 30 16 [.ref a] (PL.scr a ns) (fun v _ => v = .bl true) (fun _ _ _ => False)) : PySem.Challenge.rw_spoolhall_k66_no_way.Holds := by
  w_on; o_law
  refine HandSHeadRun.head_any (r := OpenLaw.row PySem.Challenge.rw_spoolhall_k66_no_way) (q := view (OpenLaw.row PySem.Challenge.rw_spoolhall_k66_no_way).prog [33]) (H := hk) (ob := ob) (M := 20000) (loose := loose) (d := HandSHeadRun.topDef (OpenLaw.row PySem.Challenge.rw_spoolhall_k66_no_way).prog 33) (kwd := []) ob_eq
    (by kernel_rfl) (fun s => by kernel_rfl) run (by kernel_rfl) (by kernel_rfl) (by kernel_rfl) (by rfl) (by first | assumption | decide +kernel) (by decide +kernel) ⟨rfl, rfl, rfl, rfl, rfl, by decide +kernel⟩ ?hw ?hc
  case hw => w_witness2
  case hc =>
    exact PL.walk_pl (D := D) (nR := 6) (F := 16) (lv := 30) (dF := d_law) (x := "_law_script") rfl (by kernel_rfl) ⟨by decide, by decide, rfl⟩ chk chkx rfl (by kernel_rfl) rfl (by kernel_rfl) law
end K66

set_option maxHeartbeats 4000000
/-! PL, part z: dicts of any values, dicts of objects. -/
namespace PL
open PySem PySem.Spec PyProof.Rows L2
/-! ### association lists -/
section
variable {κ α : Type} [DecidableEq κ]
def lk (l : List (κ × α)) (k : κ) : Option α := (l.find? fun p => decide (p.1 = k)).map (·.2)
def pt (l : List (κ × α)) (k : κ) (v : α) : List (κ × α) := if (l.any fun p => decide (p.1 = k)) = true then l.map (fun p => if p.1 = k then (p.1, v) else p) else l ++ [(k, v)]
theorem lk_nil {k : κ} : lk ([] : List (κ × α)) k = none := rfl
theorem lk_cons (p : κ × α) (l : List (κ × α)) (u : κ) : lk (p :: l) u = if p.1 = u then some p.2 else lk l u := by
  unfold lk
  rw [List.find?_cons]
  by_cases h : p.1 = u <;> simp [h]
theorem lk_any (w : κ) : ∀ l : List (κ × α), (l.any fun p => decide (p.1 = w)) = (lk l w).isSome
  | [] => rfl
  | p :: l => by
    rw [List.any_cons, lk_cons, lk_any w l]
    by_cases h : p.1 = w <;> simp [h]
theorem lk_mem {l : List (κ × α)} {k : κ} {v : α} (h : lk l k = some v) : (k, v) ∈ l := by
  induction l with
  | nil => cases h
  | cons p l ih =>
    rw [lk_cons] at h
    split at h
    · rename_i e; cases h; subst e; simp
    · exact List.mem_cons_of_mem _ (ih h)
theorem lk_none {l : List (κ × α)} {k : κ} : lk l k = none ↔ k ∉ l.map (·.1) := by
  induction l with
  | nil => simp [lk_nil]
  | cons p l ih =>
    rw [lk_cons, List.map_cons, List.mem_cons]
    by_cases h : p.1 = k
    · subst h; simp
    · rw [if_neg h, ih]
      constructor
      · rintro a (b | b)
        · exact h b.symm
        · exact a b
      · exact fun a b => a (.inr b)
theorem lk_isSome {l : List (κ × α)} {k : κ} : (lk l k).isSome = true ↔ k ∈ l.map (·.1) := by
  have := lk_none (l := l) (k := k)
  cases h : lk l k with
  | none => simpa using this.mp h
  | some v => simp; exact ⟨v, lk_mem h⟩
theorem lk_app (l m : List (κ × α)) (u : κ) : lk (l ++ m) u = (lk l u).or (lk m u) := by
  induction l with
  | nil => simp [lk_nil]
  | cons p l ih =>
    rw [List.cons_append, lk_cons, lk_cons, ih]
    split <;> simp
theorem lk_map (w : κ) (v : α) (u : κ) : ∀ l : List (κ × α), lk (l.map fun p => if p.1 = w then (p.1, v) else p) u = if u = w then (lk l u).map (fun _ => v) else lk l u
  | [] => by simp [lk_nil]
  | p :: l => by
    rw [List.map_cons, lk_cons, lk_map w v u l, lk_cons]
    by_cases h1 : p.1 = w
    · rw [if_pos h1]
      by_cases h2 : p.1 = u
      · subst h2; simp [h1]
      · have : ¬ u = w := fun z => h2 (by rw [z, h1])
        simp [h2, this]
    · rw [if_neg h1]
      by_cases h2 : p.1 = u
      · subst h2; simp [h1]
      · simp [h2]
theorem lk_pt (l : List (κ × α)) (w u : κ) (v : α) : lk (pt l w v) u = if u = w then some v else lk l u := by
  unfold pt
  rw [lk_any]
  cases hs : lk l w with
  | none =>
    rw [if_neg (by simp), lk_app, lk_cons, lk_nil]
    by_cases h : u = w
    · subst h; rw [hs]; simp
    · have : ¬ w = u := fun z => h z.symm
      simp [h, this]
  | some x =>
    rw [if_pos (by simp), lk_map]
    by_cases h : u = w
    · subst h; rw [hs]; simp
    · simp [h]
theorem lk_pt_same (w : κ) (v : α) (l : List (κ × α)) : lk (pt l w v) w = some v := by rw [lk_pt, if_pos rfl]
theorem lk_pt_ne {w u : κ} (v : α) (hn : u ≠ w) (l : List (κ × α)) : lk (pt l w v) u = lk l u := by rw [lk_pt, if_neg hn]
theorem pt_new {l : List (κ × α)} {w : κ} {v : α} (h : lk l w = none) : pt l w v = l ++ [(w, v)] := by
  unfold pt
  rw [lk_any, h, if_neg (by simp)]
theorem pt_length {l : List (κ × α)} {w : κ} {v : α} : (pt l w v).length ≤ l.length + 1 := by
  unfold pt; split <;> simp
theorem pt_length_in {l : List (κ × α)} {w : κ} {v x : α} (h : lk l w = some x) : (pt l w v).length = l.length := by
  unfold pt
  rw [lk_any, h, if_pos (by rfl), List.length_map]
theorem pt_keys_in {l : List (κ × α)} {w : κ} {v x : α} (h : lk l w = some x) : (pt l w v).map (·.1) = l.map (·.1) := by
  unfold pt
  rw [lk_any, h, if_pos (by rfl), List.map_map]
  refine List.map_congr_left fun p _ => ?_
  show (if p.1 = w then (p.1, v) else p).1 = p.1
  split <;> rfl
theorem pt_keys_new {l : List (κ × α)} {w : κ} {v : α} (h : lk l w = none) : (pt l w v).map (·.1) = l.map (·.1) ++ [w] := by rw [pt_new h, List.map_append]; rfl
theorem pt_nodup {l : List (κ × α)} {w : κ} {v : α} (h : (l.map (·.1)).Nodup) : ((pt l w v).map (·.1)).Nodup := by
  cases hs : lk l w with
  | none =>
    rw [pt_keys_new hs]
    refine List.nodup_append.mpr ⟨h, by simp, ?_⟩
    intro a ha b hb
    rw [List.mem_singleton.mp hb]
    rintro rfl
    exact lk_none.mp hs ha
  | some x => rw [pt_keys_in hs]; exact h
theorem lk_split {l : List (κ × α)} {w : κ} {x : α} (nd : (l.map (·.1)).Nodup) (h : lk l w = some x) : ∃ l1 l2, l = l1 ++ (w, x) :: l2 ∧ ∀ v, pt l w v = l1 ++ (w, v) :: l2 := by
  induction l with
  | nil => cases h
  | cons p l ih =>
    rw [List.map_cons, List.nodup_cons] at nd
    rw [lk_cons] at h
    by_cases e : p.1 = w
    · rw [if_pos e] at h
      cases h
      refine ⟨[], l, by rw [← e]; rfl, fun v => ?_⟩
      unfold pt
      rw [List.any_cons, decide_eq_true e, Bool.true_or, if_pos rfl, List.map_cons, if_pos e, e]
      congr 1
      rw [List.map_congr_left (g := id), List.map_id]
      intro q hq
      rw [if_neg]
      · rfl
      · rintro z
        exact nd.1 (by rw [e, ← z]; exact List.mem_map_of_mem hq)
    · rw [if_neg e] at h
      obtain ⟨l1, l2, e1, e2⟩ := ih nd.2 h
      refine ⟨p :: l1, l2, by rw [e1]; rfl, fun v => ?_⟩
      have e3 := e2 v
      unfold pt at e3 ⊢
      rw [lk_any, h, if_pos (by rfl)] at e3
      rw [lk_any, lk_cons, if_neg e, h, if_pos (by rfl), List.map_cons, if_neg e, e3]
      rfl
theorem pt_id {l : List (κ × α)} {w : κ} {x : α} (nd : (l.map (·.1)).Nodup) (h : lk l w = some x) : pt l w x = l := by
  obtain ⟨l1, l2, e1, e2⟩ := lk_split nd h
  rw [e2, ← e1]
theorem lk_of_mem {l : List (κ × α)} {w : κ} {x : α} (nd : (l.map (·.1)).Nodup) (h : (w, x) ∈ l) : lk l w = some x := by
  induction l with
  | nil => cases h
  | cons p l ih =>
    rw [List.map_cons, List.nodup_cons] at nd
    rw [lk_cons]
    rcases List.mem_cons.mp h with rfl | h
    · rw [if_pos rfl]
    · rw [if_neg ?_]
      · exact ih nd.2 h
      · rintro e
        exact nd.1 (by rw [e]; exact List.mem_map_of_mem (f := (·.1)) h)
end
theorem lk_vals {κ α β : Type} [DecidableEq κ] (g : α → β) (w : κ) : ∀ l : List (κ × α), lk (l.map fun p => (p.1, g p.2)) w = (lk l w).map g
  | [] => rfl
  | p :: l => by
    rw [List.map_cons, lk_cons, lk_cons, lk_vals g w l]
    split <;> rfl
theorem pt_vals {κ α β : Type} [DecidableEq κ] (g : α → β) (w : κ) (v : α) (l : List (κ × α)) : (pt l w v).map (fun p => (p.1, g p.2)) = pt (l.map fun p => (p.1, g p.2)) w (g v) := by
  unfold pt
  rw [lk_any, lk_any, lk_vals]
  cases lk l w with
  | none => simp
  | some x =>
    simp only [Option.isSome_some, Option.map_some, if_true, List.map_map]
    refine List.map_congr_left fun p _ => ?_
    show ((if p.1 = w then (p.1, v) else p).1, g (if p.1 = w then (p.1, v) else p).2) = _
    simp only [Function.comp]
    split <;> rfl
theorem sget_lk (l : KV) (w : List Nat) : sget l w = lk l w := rfl
theorem sput_pt (l : KV) (w : List Nat) (v : Int) : sput l w v = pt l w v := rfl
/-! ### dicts of any values -/
section
variable {α : Type}
def ens (f : α → DV) (l : List (List Nat × α)) : List (DV × DV) := l.map fun p => (.str p.1, f p.2)
def eni (f : α → DV) (l : List (Int × α)) : List (DV × DV) := l.map fun p => (.int p.1, f p.2)
theorem dget_ens (f : α → DV) (w : List Nat) : ∀ l : List (List Nat × α), dget (ens f l) (.str w) = (lk l w).map f
  | [] => rfl
  | p :: l => by
    have ih := dget_ens f w l
    unfold dget ens at ih ⊢
    rw [lk_cons, List.map_cons, List.find?_cons]
    by_cases h : p.1 = w
    · simp [h]
    · simp only [DV.str.injEq, h, decide_false, if_false]
      exact ih
theorem dget_eni (f : α → DV) (w : Int) : ∀ l : List (Int × α), dget (eni f l) (.int w) = (lk l w).map f
  | [] => rfl
  | p :: l => by
    have ih := dget_eni f w l
    unfold dget eni at ih ⊢
    rw [lk_cons, List.map_cons, List.find?_cons]
    by_cases h : p.1 = w
    · simp [h]
    · simp only [DV.int.injEq, h, decide_false, if_false]
      exact ih
theorem dput_ens (f : α → DV) (w : List Nat) (v : α) (l : List (List Nat × α)) : dput (ens f l) (.str w) (f v) = ens f (pt l w v) := by
  have ea : ((ens f l).any fun p => decide (p.1 = .str w)) = (l.any fun p => decide (p.1 = w)) := by
    unfold ens
    rw [List.any_map]
    congr 1
    funext p
    simp
  unfold dput pt
  rw [ea]
  unfold ens
  split
  · rw [List.map_map, List.map_map]
    refine List.map_congr_left fun p _ => ?_
    simp only [Function.comp, DV.str.injEq]
    split <;> rfl
  · rw [List.map_append]; rfl
theorem dput_eni (f : α → DV) (w : Int) (v : α) (l : List (Int × α)) : dput (eni f l) (.int w) (f v) = eni f (pt l w v) := by
  have ea : ((eni f l).any fun p => decide (p.1 = .int w)) = (l.any fun p => decide (p.1 = w)) := by
    unfold eni
    rw [List.any_map]
    congr 1
    funext p
    simp
  unfold dput pt
  rw [ea]
  unfold eni
  split
  · rw [List.map_map, List.map_map]
    refine List.map_congr_left fun p _ => ?_
    simp only [Function.comp, DV.int.injEq]
    split <;> rfl
  · rw [List.map_append]; rfl
theorem ens_length {f : α → DV} {l : List (List Nat × α)} : (ens f l).length = l.length := by simp [ens]
theorem eni_length {f : α → DV} {l : List (Int × α)} : (eni f l).length = l.length := by simp [eni]
theorem ens_keys {f : α → DV} {l : List (List Nat × α)} : (ens f l).map (·.1) = (l.map (·.1)).map .str := by simp [ens]
theorem kv_length {l : KV} : (kv l).length = l.length := by simp [kv]
theorem kv_keys {l : KV} : (kv l).map (·.1) = (l.map (·.1)).map .str := by simp [kv]
end
section
variable {α : Type} {T : PTab} {C : COr} {s : ASt} {h : AH} {Q : AQ} {Y : AX} {K : KT} {L r : SLs} {p : Addr} {N : AH → Prop} {f : α → DV} {e : Ast}
theorem ixsH {l : List (List Nat × α)} {w : List Nat} {v : α} (A : Hs h L) [Rem L p e r] [IsD e (ens f l)] (ev : lk l w = some v) (q : Q (f v) h) : xIx (.ref p) (.str w) h Q := ixdH A rfl (by rw [dget_ens, ev]; rfl) q
theorem ixiH {l : List (Int × α)} {w : Int} {v : α} (A : Hs h L) [Rem L p e r] [IsD e (eni f l)] (ev : lk l w = some v) (q : Q (f v) h) : xIx (.ref p) (.int w) h Q := ixdH A rfl (by rw [dget_eni, ev]; rfl) q
theorem insH {l : List (List Nat × α)} {w : List Nat} (A : Hs h L) [Rem L p e r] [IsD e (ens f l)] (q : Q (.bl (lk l w).isSome) h) : xCmp .isin (.str w) (.ref p) h Q := indH A rfl (by rw [dget_ens, Option.isSome_map]; exact q)
theorem ninsH {l : List (List Nat × α)} {w : List Nat} (A : Hs h L) [Rem L p e r] [IsD e (ens f l)] (q : Q (.bl (!(lk l w).isSome)) h) : xCmp .nin (.str w) (.ref p) h Q := nindH A rfl (by rw [dget_ens, Option.isSome_map]; exact q)
theorem setsH {l : List (List Nat × α)} {w : List Nat} {v : α} {L' : SLs} (A : Hs h L) [Rem L p (one (.dct (ens f l))) r] (el : l.length < sizeLine) [Upd L p (one (.dct (ens f (pt l w v)))) L'] (q : ∀ h', Hs h' L' → N h') : xSet (.ref p) (.str w) (f v) h N := set_d A.get rfl (by rw [ens_length]; exact el) (by rw [dput_ens]; exact q _ A.wr)
theorem setiH {l : List (Int × α)} {w : Int} {v : α} {L' : SLs} (A : Hs h L) [Rem L p (one (.dct (eni f l))) r] (el : l.length < sizeLine) [Upd L p (one (.dct (eni f (pt l w v)))) L'] (q : ∀ h', Hs h' L' → N h') : xSet (.ref p) (.int w) (f v) h N := set_d A.get rfl (by rw [eni_length]; exact el) (by rw [dput_eni]; exact q _ A.wr)
theorem getiH {l : List (Int × α)} {w : Int} {d : DV} (A : Hs h L) [Rem L p (one (.dct (eni f l))) r] (q : Q (((lk l w).map f).getD d) h) : xBM .get (.ref p) [.int w, d] h Q := ⟨_, A.get, rfl, by rw [dget_eni]; exact q⟩
end
theorem raise_a {T : PTab} {ds : List DV} {x : Nat} {P : Prop} (e : ds.length = T.xn x) (q : P) : ds.length = T.xn x ∧ P := ⟨e, q⟩
/-! ### sorted names -/
def srt (l : List (List Nat)) : List (List Nat) := l.mergeSort fun a b => decide (a ≤ b)
theorem srt_perm (l : List (List Nat)) : (srt l).Perm l := List.mergeSort_perm _ _
theorem srt_pw (l : List (List Nat)) : (srt l).Pairwise (· ≤ ·) := by
  have := List.pairwise_mergeSort (le := fun (a b : List Nat) => decide (a ≤ b)) (fun a b c h1 h2 => by
    simp only [decide_eq_true_eq] at *
    exact List.le_trans h1 h2) (fun a b => by
    simp only [Bool.or_eq_true, decide_eq_true_eq]
    exact List.le_total a b) l
  exact this.imp fun h => by simpa using h
theorem sortedS_pw : ∀ (p : List Nat) (l : List (List Nat)), risingS (mkS p) (l.map mkS) = true → (p :: l).Pairwise (· ≤ ·)
  | p, [], _ => by simp
  | p, x :: r, h => by
    simp only [List.map_cons, risingS, Bool.and_eq_true] at h
    obtain ⟨h1, h2⟩ := h
    have ih := sortedS_pw x r h2
    have hpx : p ≤ x := by
      rw [ltCps_eq] at h1
      exact List.not_lt.mp fun z => by
        rw [show decide ((mkS x).cps.toList < (mkS p).cps.toList) = true from decide_eq_true z] at h1
        cases h1
    refine List.pairwise_cons.mpr ⟨fun y hy => ?_, ih⟩
    rcases List.mem_cons.mp hy with rfl | hy
    · exact hpx
    · exact List.le_trans hpx ((List.pairwise_cons.mp ih).1 y hy)
theorem srt_uni {ys xs : List (List Nat)} (hp : ys.Perm xs) (hs : sortedS (ys.map mkS) = true) : ys = srt xs := by
  have h1 : ys.Pairwise (· ≤ ·) := by
    cases ys with
    | nil => exact List.Pairwise.nil
    | cons x r => exact sortedS_pw x r hs
  exact List.Perm.eq_of_pairwise (fun a b _ _ h1 h2 => List.le_antisymm h1 h2) h1 (srt_pw xs) (hp.trans (srt_perm xs).symm)
theorem srt_nodup {l : List (List Nat)} (h : l.Nodup) : (srt l).Nodup := (srt_perm l).nodup_iff.mpr h
theorem srt_length (l : List (List Nat)) : (srt l).length = l.length := (srt_perm l).length_eq
theorem mem_srt {l : List (List Nat)} {w : List Nat} : w ∈ srt l ↔ w ∈ l := (srt_perm l).mem_iff
section
variable {h : AH} {Q : AQ} {L r : SLs} {p : Addr} {e : Ast}
theorem sortdH {kvs : List (DV × DV)} {xs : List (List Nat)} (A : Hs h L) [Rem L p e r] [IsD e kvs] (ek : kvs.map (·.1) = xs.map .str) (hl : xs.length < 64) (q : ∀ P h', Hs h' ((P, one (.lst ((srt xs).map .str))) :: L) → Q (.ref P) h') : xBF .sorted [.ref p] h Q :=
  .inr (.inr ⟨kvs, xs, A.rd, ek, hl, fun ys hp hs => newH A fun P h' B => q P h' (by rw [← srt_uni hp hs]; exact B)⟩)
theorem sortlH {xs : List (List Nat)} (A : Hs h L) [Rem L p e r] [IsL e (xs.map .str)] (hl : xs.length < 64) (q : ∀ P h', Hs h' ((P, one (.lst ((srt xs).map .str))) :: L) → Q (.ref P) h') : xBF .sorted [.ref p] h Q :=
  .inl ⟨xs, A.rl, hl, fun ys hp hs => newH A fun P h' B => q P h' (by rw [← srt_uni hp hs]; exact B)⟩
end
theorem abs_i {h : AH} {Q : AQ} {i : Int} (q : Q (.int (if i < 0 then -i else i)) h) : xBF .abs [.int i] h Q := q
/-! ### dicts of objects -/
section
variable {α : Type} {E : α → Ast} {l : List (List Nat × α)} {h : AH} {L : SLs} {N p : Addr} {w : List Nat} {x : α} {Q : AQ}
abbrev NN (α : Type) := List (List Nat × Addr × α)
def dobD (nn : NN α) : List (DV × DV) := ens (fun t => .ref t.1) nn
def dobL (E : α → Ast) (nn : NN α) : SLs := nn.map fun t => (t.2.1, E t.2.2)
def dobV (nn : NN α) : List (List Nat × α) := nn.map fun t => (t.1, t.2.2)
def dob (E : α → Ast) (l : List (List Nat × α)) : Ast := ex fun (nn : NN α) => pur (dobV nn = l ∧ (l.map (·.1)).Nodup) (sub fun N => (N, one (.dct (dobD nn))) :: dobL E nn)
def dobH (E : α → Ast) (l : List (List Nat × α)) (w : List Nat) (p : Addr) : Ast := ex fun (l1 : NN α) => ex fun (l2 : NN α) => ex fun (x : α) => pur (dobV (l1 ++ (w, p, x) :: l2) = l ∧ (l.map (·.1)).Nodup) (sub fun N => (N, one (.dct (dobD (l1 ++ (w, p, x) :: l2)))) :: (dobL E l1 ++ dobL E l2))
theorem dob_iff : Hs h ((N, dob E l) :: L) ↔ ∃ nn : NN α, (dobV nn = l ∧ (l.map (·.1)).Nodup) ∧ Hs h ((N, one (.dct (dobD nn))) :: (dobL E nn ++ L)) := by
  simp only [dob, Hs.ex_iff, Hs.pur_iff, Hs.sub_iff, List.cons_append]
theorem dob_nd (A : Hs h ((N, dob E l) :: L)) : (l.map (·.1)).Nodup := by
  obtain ⟨nn, z, _⟩ := dob_iff.mp A
  exact z.2
theorem dobV_lk (nn : NN α) : lk (dobV nn) w = (lk nn w).map (·.2) := lk_vals (fun t : Addr × α => t.2) w nn
theorem dobV_keys (nn : NN α) : (dobV nn).map (·.1) = nn.map (·.1) := by simp [dobV]
theorem dob_cl {nn : NN α} (A : Hs h ((N, one (.dct (dobD nn))) :: (dobL E nn ++ L))) (nd : ((dobV nn).map (·.1)).Nodup) : Hs h ((N, dob E (dobV nn)) :: L) := dob_iff.mpr ⟨nn, ⟨rfl, nd⟩, A⟩
theorem dobH_iff : Hs h ((N, dobH E l w p) :: L) ↔ ∃ (l1 l2 : NN α) (x : α), (dobV (l1 ++ (w, p, x) :: l2) = l ∧ (l.map (·.1)).Nodup) ∧ Hs h ((N, one (.dct (dobD (l1 ++ (w, p, x) :: l2)))) :: ((dobL E l1 ++ dobL E l2) ++ L)) := by
  simp only [dobH, Hs.ex_iff, Hs.pur_iff, Hs.sub_iff, List.cons_append]
theorem dobL_app (a b : NN α) : dobL E (a ++ b) = dobL E a ++ dobL E b := by simp [dobL]
theorem dobV_app (a b : NN α) : dobV (a ++ b) = dobV a ++ dobV b := by simp [dobV]
theorem Re.mid {a b c : SLs} {z : Addr × Ast} : Re (a ++ z :: b ++ c) (z :: (a ++ b) ++ c) := ⟨[], by
  rw [List.append_nil]
  exact (List.perm_middle (l₁ := a) (a := z) (l₂ := b)).append_right c⟩
theorem Re.mid' {a b c : SLs} {z : Addr × Ast} : Re (z :: (a ++ b) ++ c) (a ++ z :: b ++ c) := ⟨[], by
  rw [List.append_nil]
  exact (List.perm_middle (l₁ := a) (a := z) (l₂ := b)).symm.append_right c⟩
/-- one object is taken out -/
theorem dob_open {r : SLs} (A : Hs h L) [i : Rem L N (dob E l) r] (hl : lk l w = some x) : ∃ (p : Addr) (kvs : List (DV × DV)), rdD h N = some kvs ∧ dget kvs (.str w) = some (.ref p) ∧ Hs h ((p, E x) :: (N, dobH E l w p) :: r) := by
  obtain ⟨nn, ⟨e1, nd⟩, B⟩ := dob_iff.mp (A.rem N)
  subst e1
  rw [dobV_lk] at hl
  obtain ⟨⟨p, x'⟩, ht, rfl⟩ := Option.map_eq_some_iff.mp hl
  rw [dobV_keys] at nd
  obtain ⟨l1, l2, e1, e2⟩ := lk_split nd ht
  refine ⟨p, dobD nn, B.rd (p := N) (e := one (.dct (dobD nn))), by unfold dobD; rw [dget_ens, ht]; rfl, ?_⟩
  subst e1
  have B : Hs h ((p, E x') :: (N, one (.dct (dobD (l1 ++ (w, p, x') :: l2)))) :: ((dobL E l1 ++ dobL E l2) ++ r)) := by
    rw [dobL_app] at B
    refine B.perm ?_
    refine ((List.perm_middle (l₁ := dobL E l1) (a := (p, E x')) (l₂ := dobL E l2)).append_right r).cons _ |>.trans (List.Perm.swap _ _ _)
  refine (dobH_iff.mpr ⟨l1, l2, x', ⟨rfl, by rw [dobV_keys]; exact nd⟩, (B.perm (List.Perm.swap _ _ _)).perm ?_⟩).perm (List.Perm.swap _ _ _)
  refine List.Perm.cons _ ?_
  exact (List.perm_middle (l₁ := dobL E l1 ++ dobL E l2) (a := (p, E x')) (l₂ := r)).symm
theorem dob_ix {r : SLs} (A : Hs h L) [i : Rem L N (dob E l) r] (hl : lk l w = some x) (q : ∀ p, Hs h ((p, E x) :: (N, dobH E l w p) :: r) → Q (.ref p) h) : xIx (.ref N) (.str w) h Q := by
  obtain ⟨p, kvs, e1, e2, B⟩ := dob_open (N := N) A hl
  exact .inr ⟨kvs, _, e1, rfl, e2, q p B⟩
/-- .. and laid back -/
theorem dob_close {y : α} {r r2 : SLs} (A : Hs h L) (N p : Addr) [i : Rem L p (E y) r] [j : Rem r N (dobH E l w p) r2] : Hs h ((N, dob E (pt l w y)) :: r2) := by
  have B : Hs h ((N, dobH E l w p) :: (p, E y) :: r2) := A.perm ((i.pm.trans (j.pm.cons _)).trans (List.Perm.swap _ _ _))
  obtain ⟨l1, l2, x, ⟨e1, nd⟩, B2⟩ := dobH_iff.mp B
  clear B
  subst e1
  have B := B2
  have hk : dobV (l1 ++ (w, p, x) :: l2) = dobV l1 ++ (w, x) :: dobV l2 := by rw [dobV_app]; rfl
  have hp : pt (dobV (l1 ++ (w, p, x) :: l2)) w y = dobV (l1 ++ (w, p, y) :: l2) := by
    obtain ⟨m1, m2, f1, f2⟩ := lk_split (w := w) (x := x) nd (lk_of_mem nd (by rw [hk]; simp))
    have hk2 : dobV (l1 ++ (w, p, y) :: l2) = dobV l1 ++ (w, y) :: dobV l2 := by rw [dobV_app]; rfl
    rw [hk2, f2]
    rw [hk] at f1 nd
    have : dobV l1 = m1 ∧ dobV l2 = m2 := by
      have key : ∀ (a b c d : List (List Nat × α)), a ++ (w, x) :: b = c ++ (w, x) :: d → ((a ++ (w, x) :: b).map (·.1)).Nodup → a = c ∧ b = d := by
        intro a
        induction a with
        | nil =>
          intro b c d e nd
          cases c with
          | nil => simp at e; exact ⟨rfl, e⟩
          | cons z c =>
            simp only [List.nil_append, List.cons_append, List.cons.injEq] at e
            obtain ⟨rfl, rfl⟩ := e
            simp at nd
        | cons z a ih =>
          intro b c d e nd
          cases c with
          | nil =>
            simp only [List.nil_append, List.cons_append, List.cons.injEq] at e
            obtain ⟨rfl, rfl⟩ := e
            simp at nd
          | cons z2 c =>
            simp only [List.cons_append, List.cons.injEq] at e
            obtain ⟨rfl, e⟩ := e
            rw [List.cons_append, List.map_cons, List.nodup_cons] at nd
            obtain ⟨rfl, rfl⟩ := ih b c d e nd.2
            exact ⟨rfl, rfl⟩
      exact key _ _ _ _ f1 nd
    rw [this.1, this.2]
  rw [hp]
  refine dob_cl ?_ (by rw [← hp]; exact pt_nodup nd)
  rw [show dobD (l1 ++ (w, p, y) :: l2) = dobD (l1 ++ (w, p, x) :: l2) by simp [dobD, ens], dobL_app]
  refine B.perm (List.Perm.cons _ ?_)
  refine (List.perm_middle (l₁ := dobL E l1 ++ dobL E l2) (a := (p, E y)) (l₂ := r2)).trans ?_
  exact ((List.perm_middle (l₁ := dobL E l1) (a := (p, E y)) (l₂ := dobL E l2)).append_right r2).symm
theorem dob_back {r r2 : SLs} (A : Hs h L) (N p : Addr) [i : Rem L p (E x) r] [j : Rem r N (dobH E l w p) r2] (hl : lk l w = some x) : Hs h ((N, dob E l) :: r2) := by
  have B : Hs h ((N, dobH E l w p) :: (p, E x) :: r2) := A.perm ((i.pm.trans (j.pm.cons _)).trans (List.Perm.swap _ _ _))
  have nd : (l.map (·.1)).Nodup := by
    obtain ⟨_, _, _, z, _⟩ := dobH_iff.mp B
    exact z.2
  have := dob_close (y := x) A N p
  rw [pt_id nd hl] at this
  exact this
theorem dob_nil (A : Hs h L) {r : SLs} [i : Rem L N (one (.dct [])) r] : Hs h ((N, dob E []) :: r) := dob_cl (nn := []) (A.rem N) (by simp [dobV])
theorem dob_new {y : α} {r r2 : SLs} {M : AH → Prop} (A : Hs h L) [i : Rem L p (E y) r] [j : Rem r N (dob E l) r2] (hl : lk l w = none) (hz : l.length < sizeLine) (q : ∀ h', Hs h' ((N, dob E (pt l w y)) :: r2) → M h') : xSet (.ref N) (.str w) (.ref p) h M := by
  have B : Hs h ((N, dob E l) :: (p, E y) :: r2) := A.perm ((i.pm.trans (j.pm.cons _)).trans (List.Perm.swap _ _ _))
  obtain ⟨nn, ⟨e1, nd⟩, B2⟩ := dob_iff.mp B
  clear B
  subst e1
  have B := B2
  rw [dobV_lk, Option.map_eq_none_iff] at hl
  have lz : (dobD nn).length < sizeLine := by simp [dobD, ens]; simpa [dobV] using hz
  refine set_d (B.get (o := .dct (dobD nn))) rfl lz (q _ ?_)
  have C := B.wr (p := N) (o' := .dct (dobD (nn ++ [(w, p, y)])))
  have e3 : dput (dobD nn) (.str w) (.ref p) = dobD (nn ++ [(w, p, y)]) := by
    have := dput_ens (fun t : Addr × α => DV.ref t.1) w (p, y) nn
    rw [pt_new hl] at this
    exact this
  rw [e3]
  have e4 : pt (dobV nn) w y = dobV (nn ++ [(w, p, y)]) := by
    rw [pt_new (by rw [dobV_lk, hl]; rfl), dobV_app]; rfl
  rw [e4]
  refine dob_cl (C.perm (List.Perm.cons _ ?_)) (by rw [← e4]; exact pt_nodup nd)
  rw [dobL_app]
  exact (List.perm_middle (l₁ := dobL E nn) (a := (p, E y)) (l₂ := r2)).trans (by rw [List.append_assoc]; exact List.perm_middle.symm)
/-- setdefault of an object -/
theorem dob_setd {y : α} {r r2 : SLs} (A : Hs h L) [i : Rem L p (E y) r] [j : Rem r N (dob E l) r2] (hz : l.length < sizeLine) (q1 : ∀ x p0, lk l w = some x → Hs h ((p0, E x) :: (N, dobH E l w p0) :: r2) → Q (.ref p0) h) (q2 : ∀ h', lk l w = none → Hs h' ((p, E y) :: (N, dobH E (pt l w y) w p) :: r2) → Q (.ref p) h') : xBM .setdefault (.ref N) [.str w, .ref p] h Q := by
  have B : Hs h ((N, dob E l) :: (p, E y) :: r2) := A.perm ((i.pm.trans (j.pm.cons _)).trans (List.Perm.swap _ _ _))
  have B0 : Hs h ((N, dob E l) :: r2) := by
    have := B.perm (List.Perm.swap _ _ _)
    exact this.re (Re.skip (Re.refl _))
  obtain ⟨nn, ⟨e1, nd⟩, B2⟩ := dob_iff.mp B
  clear B
  subst e1
  have lz : (dobD nn).length < sizeLine := by simp [dobD, ens]; simpa [dobV] using hz
  refine ⟨dobD nn, B2.get (o := .dct (dobD nn)), rfl, lz, fun v hv => ?_, fun hv => ?_⟩
  · unfold dobD at hv
    rw [dget_ens] at hv
    obtain ⟨⟨p0, x⟩, hx, rfl⟩ := Option.map_eq_some_iff.mp hv
    have hl : lk (dobV nn) w = some x := by rw [dobV_lk, hx]; rfl
    obtain ⟨p1, kvs, f1, f2, C⟩ := dob_open (N := N) B0 hl
    have g1 := B2.rd (p := N) (e := one (.dct (dobD nn)))
    rw [g1] at f1
    cases f1
    have g2 : dget (dobD nn) (.str w) = some (.ref p0) := by unfold dobD; rw [dget_ens, hx]; rfl
    rw [g2] at f2
    cases f2
    exact q1 x p0 hl C
  · unfold dobD at hv
    rw [dget_ens, Option.map_eq_none_iff] at hv
    have e3 : dput (dobD nn) (.str w) (.ref p) = dobD (nn ++ [(w, p, y)]) := by
      have := dput_ens (fun t : Addr × α => DV.ref t.1) w (p, y) nn
      rw [pt_new hv] at this
      exact this
    have e4 : pt (dobV nn) w y = dobV (nn ++ [(w, p, y)]) := by
      rw [pt_new (by rw [dobV_lk, hv]; rfl), dobV_app]; rfl
    have C := B2.wr (p := N) (o' := .dct (dobD (nn ++ [(w, p, y)])))
    rw [e3]
    refine q2 _ (by rw [dobV_lk, hv]; rfl) ?_
    have key : Hs (au h N (.dct (dobD (nn ++ [(w, p, y)])))) ((N, dobH E (pt (dobV nn) w y) w p) :: (p, E y) :: r2) := by
      refine dobH_iff.mpr ⟨nn, [], y, ⟨e4.symm, pt_nodup nd⟩, C.perm (List.Perm.cons _ ?_)⟩
      rw [show dobL E ([] : NN α) = [] from rfl, List.append_nil]
    exact key.perm (List.Perm.swap _ _ _)
theorem dob_rd {r : SLs} (A : Hs h L) [i : Rem L N (dob E l) r] : ∃ kvs, rdD h N = some kvs ∧ kvs.map (·.1) = (l.map (·.1)).map .str ∧ kvs.length = l.length ∧ ∀ w, (dget kvs (.str w)).isSome = (lk l w).isSome := by
  obtain ⟨nn, ⟨e1, nd⟩, B⟩ := dob_iff.mp (A.rem N)
  subst e1
  refine ⟨dobD nn, B.rd (p := N) (e := one (.dct (dobD nn))), by simp [dobD, ens, dobV], by simp [dobD, ens, dobV], fun w => ?_⟩
  unfold dobD
  rw [dget_ens, dobV_lk]
  simp
theorem dob_in {r : SLs} (A : Hs h L) [i : Rem L N (dob E l) r] (q : Q (.bl (lk l w).isSome) h) : xCmp .isin (.str w) (.ref N) h Q := by
  obtain ⟨kvs, e1, _, _, e2⟩ := dob_rd (N := N) A
  exact .inr ⟨kvs, e1, rfl, by rw [Bool.false_xor, e2]; exact q⟩
theorem dob_nin {r : SLs} (A : Hs h L) [i : Rem L N (dob E l) r] (q : Q (.bl (!(lk l w).isSome)) h) : xCmp .nin (.str w) (.ref N) h Q := by
  obtain ⟨kvs, e1, _, _, e2⟩ := dob_rd (N := N) A
  exact .inr ⟨kvs, e1, rfl, by rw [Bool.true_xor, e2]; exact q⟩
theorem dob_sort {r : SLs} (A : Hs h L) [i : Rem L N (dob E l) r] (hl : l.length < 64) (q : ∀ P h', Hs h' ((P, one (.lst ((srt (l.map (·.1))).map .str))) :: L) → Q (.ref P) h') : xBF .sorted [.ref N] h Q := by
  obtain ⟨kvs, e1, e2, e3, _⟩ := dob_rd (N := N) A
  exact .inr (.inr ⟨kvs, l.map (·.1), e1, e2, by simpa using hl, fun ys hp hs => newH A fun P h' B => q P h' (by rw [← srt_uni hp hs]; exact B)⟩)
end
/-! ### pairs of like lists, held -/
def Pln (d : DV) : Prop := ∃ p, ∀ (h : AH) (n : Nat), py h (n + 1) d = some p
theorem pln_leaf {d : DV} {p : PyData} (e : leafP d = some p) : Pln d := ⟨p, fun h n => by cases d <;> first | exact e | cases e⟩
theorem leaf_py {d : DV} {p : PyData} (e : leafP d = some p) (h : AH) (n : Nat) : py h n d = some p := by
  cases n with
  | zero => exact e
  | succ n => cases d <;> first | exact e | cases e
theorem pln_tup {ds : List DV} (hl : ∀ d ∈ ds, ∃ p, leafP d = some p) : Pln (.tup ds) := by
  have key : ∀ ds : List DV, (∀ d ∈ ds, ∃ p, leafP d = some p) → ∃ ps, ∀ (h : AH) (n : Nat), allO (ds.map (py h n)) = some ps := by
    intro ds
    induction ds with
    | nil => exact fun _ => ⟨[], fun _ _ => rfl⟩
    | cons d ds ih =>
      intro hl
      obtain ⟨p, hp⟩ := hl d (by simp)
      obtain ⟨ps, hps⟩ := ih fun x hx => hl x (by simp [hx])
      refine ⟨p :: ps, fun h n => ?_⟩
      rw [List.map_cons, leaf_py hp]
      show (allO (ds.map (py h n))).map _ = _
      rw [hps]; rfl
  obtain ⟨ps, hps⟩ := key ds hl
  exact ⟨.tuple ps, fun h n => by simp only [py]; rw [hps]; rfl⟩
theorem eqD_pln {h : AH} {p q : Addr} {xs : List DV} (e1 : rdL h p = some xs) (e2 : rdL h q = some xs) (hp : ∀ d ∈ xs, Pln d) : EqD h (.ref p) (.ref q) true := by
  have : ∃ ps, allO (xs.map (py h 7)) = some ps := by
    clear e1 e2
    induction xs with
    | nil => exact ⟨[], rfl⟩
    | cons d xs ih =>
      obtain ⟨p, hd⟩ := hp d (by simp)
      obtain ⟨ps, hps⟩ := ih fun x hx => hp x (by simp [hx])
      refine ⟨p :: ps, ?_⟩
      rw [List.map_cons, hd h 6]
      show (allO (xs.map (py h 7))).map _ = _
      rw [hps]; rfl
  obtain ⟨ps, hps⟩ := this
  exact eqD_same (py_lst e1 hps) (py_lst e2 hps)
abbrev PP := List (Addr × Addr × List DV)
def prD (t : Addr × Addr × List DV) : DV := .tup [.ref t.1, .ref t.2.1]
def hldL (ps : PP) : SLs := ps.flatMap fun t => [(t.1, one (.lst t.2.2)), (t.2.1, one (.lst t.2.2))]
def bun (ps : PP) : Ast := sub fun _ => hldL ps
def hld (m : Nat) : Ast := ex fun (ps : PP) => ex fun (B : Addr) => pur ((∀ t ∈ ps, t.2.2.length ≤ 100000 ∧ ∀ d ∈ t.2.2, Pln d) ∧ ps.length ≤ m) (sub fun H => [(H, one (.lst (ps.map prD))), (B, bun ps)])
section
variable {h : AH} {L : SLs} {H p q : Addr} {m : Nat} {ps : PP} {xs : List DV}
theorem hld_iff : Hs h ((H, hld m) :: L) ↔ ∃ (ps : PP) (B : Addr), ((∀ t ∈ ps, t.2.2.length ≤ 100000 ∧ ∀ d ∈ t.2.2, Pln d) ∧ ps.length ≤ m) ∧ Hs h ((H, one (.lst (ps.map prD))) :: (B, bun ps) :: L) := by
  simp only [hld, Hs.ex_iff, Hs.pur_iff, Hs.sub_iff, List.cons_append, List.nil_append]
theorem bun_iff : Hs h ((H, bun ps) :: L) ↔ Hs h (hldL ps ++ L) := by
  simp only [bun, Hs.sub_iff]
theorem bun_nil (A : Hs h L) : Hs h ((H, bun []) :: L) := bun_iff.mpr A
theorem bun_add (A : Hs h ((p, one (.lst xs)) :: (q, one (.lst xs)) :: (H, bun ps) :: L)) : Hs h ((H, bun (ps ++ [(p, q, xs)])) :: L) := by
  have A : Hs h ((H, bun ps) :: (p, one (.lst xs)) :: (q, one (.lst xs)) :: L) := A.re (by repeat (first | exact PL.Re.refl _ | exact PL.Re.nil | refine PL.Re.cons ?_ | refine PL.Re.skip ?_ | exact PL.Re.drop (by assumption)))
  rw [bun_iff] at A ⊢
  simpa [hldL] using A
theorem bun_out {t : Addr × Addr × List DV} (A : Hs h ((H, bun (t :: ps)) :: L)) : Hs h ((t.1, one (.lst t.2.2)) :: (t.2.1, one (.lst t.2.2)) :: (H, bun ps) :: L) := by
  rw [bun_iff] at A
  have A : Hs h ((t.1, one (.lst t.2.2)) :: (t.2.1, one (.lst t.2.2)) :: (hldL ps ++ L)) := A
  have : Hs h ((H, bun ps) :: (t.1, one (.lst t.2.2)) :: (t.2.1, one (.lst t.2.2)) :: L) := by
    rw [bun_iff]
    refine A.perm ?_
    have := List.perm_append_comm_assoc [(t.1, one (.lst t.2.2)), (t.2.1, one (.lst t.2.2))] (hldL ps) L
    exact this
  exact this.re (by repeat (first | exact PL.Re.refl _ | exact PL.Re.nil | refine PL.Re.cons ?_ | refine PL.Re.skip ?_ | exact PL.Re.drop (by assumption)))
theorem hld_nil (A : Hs h L) {r : SLs} [i : Rem L H (one (.lst [])) r] : Hs h ((H, hld 0) :: r) := hld_iff.mpr ⟨[], H, by simp, by
  have B : Hs h ((H, one (.lst [])) :: r) := A.rem H
  have C : Hs h ((H, bun []) :: (H, one (.lst [])) :: r) := bun_nil B
  exact C.perm (List.Perm.swap _ _ _)⟩
end
end PL

set_option maxHeartbeats 4000000
/-! PL, part y: lists of objects, known by place. -/
namespace PL
open PySem PySem.Spec PyProof.Rows L2
section
variable {α β : Type} {f : α → β → DV} {E : α → β → SLs} {h : AH} {L r : SLs} {N : Addr} {nn : List (α × β)} {x : α} {b : β} {i : Nat} {Q : AQ}
def lobX (f : α → β → DV) (nn : List (α × β)) : List DV := nn.map fun t => f t.1 t.2
def lobL (E : α → β → SLs) (nn : List (α × β)) : SLs := nn.flatMap fun t => E t.1 t.2
def lobN (f : α → β → DV) (E : α → β → SLs) (nn : List (α × β)) : Ast := sub fun N => (N, one (.lst (lobX f nn))) :: lobL E nn
/-- the i-th is out -/
def lobO (f : α → β → DV) (E : α → β → SLs) (nn : List (α × β)) (i : Nat) : Ast := sub fun N => (N, one (.lst (lobX f nn))) :: lobL E (nn.eraseIdx i)
instance lobN_L : IsL (lobN f E nn) (lobX f nn) := ⟨fun p os h e a => by
  obtain ⟨o1, o2, rfl, rfl, _⟩ := e
  exact rdL_l (a.g (p, .lst (lobX f nn)) (by simp))⟩
instance lobO_L : IsL (lobO f E nn i) (lobX f nn) := ⟨fun p os h e a => by
  obtain ⟨o1, o2, rfl, rfl, _⟩ := e
  exact rdL_l (a.g (p, .lst (lobX f nn)) (by simp))⟩
theorem lobX_length : (lobX f nn).length = nn.length := by simp [lobX]
theorem lobX_at (hi : nn[i]? = some (x, b)) : (lobX f nn)[i]? = some (f x b) := by simp [lobX, hi]
theorem lobX_atI (hi : nn[i]? = some (x, b)) : L2.atI (lobX f nn) (i : Int) = some (f x b) := by
  have := (List.getElem?_eq_some_iff.mp hi).1
  rw [atI_nat (by omega) (by rw [lobX_length]; omega)]
  exact lobX_at hi
theorem lobN_iff : Hs h ((N, lobN f E nn) :: L) ↔ Hs h ((N, one (.lst (lobX f nn))) :: (lobL E nn ++ L)) := by
  simp only [lobN, Hs.sub_iff, List.cons_append]
theorem lobO_iff : Hs h ((N, lobO f E nn i) :: L) ↔ Hs h ((N, one (.lst (lobX f nn))) :: (lobL E (nn.eraseIdx i) ++ L)) := by
  simp only [lobO, Hs.sub_iff, List.cons_append]
theorem lobL_app (a c : List (α × β)) : lobL E (a ++ c) = lobL E a ++ lobL E c := by simp [lobL]
theorem lobL_perm (hi : nn[i]? = some (x, b)) : (lobL E nn).Perm (E x b ++ lobL E (nn.eraseIdx i)) := by
  induction nn generalizing i with
  | nil => simp at hi
  | cons t nn ih =>
    cases i with
    | zero => simp at hi; subst hi; exact List.Perm.refl _
    | succ i =>
      have := ih (i := i) (by simpa using hi)
      rw [List.eraseIdx_cons_succ]
      show (E t.1 t.2 ++ lobL E nn).Perm (E x b ++ (E t.1 t.2 ++ lobL E (nn.eraseIdx i)))
      refine (this.append_left _).trans ?_
      rw [← List.append_assoc, ← List.append_assoc]
      exact List.perm_append_comm.append_right _
theorem lob_open (A : Hs h L) [j : Rem L N (lobN f E nn) r] (hi : nn[i]? = some (x, b)) : Hs h (E x b ++ (N, lobO f E nn i) :: r) := by
  have A := lobN_iff.mp (A.rem N)
  have : Hs h ((N, lobO f E nn i) :: (E x b ++ r)) := lobO_iff.mpr (A.perm (by
    refine List.Perm.cons _ ?_
    refine ((lobL_perm hi).append_right r).trans ?_
    rw [List.append_assoc, ← List.append_assoc, ← List.append_assoc]
    exact List.perm_append_comm.append_right _))
  exact this.perm (List.perm_middle (l₁ := E x b)).symm
theorem lobX_set {y : α} (hi : nn[i]? = some (x, b)) (e : f y b = f x b) : lobX f (nn.set i (y, b)) = lobX f nn := by
  unfold lobX
  rw [List.map_set]
  refine List.ext_getElem? fun k => ?_
  by_cases hk : i = k
  · subst hk
    have hl := (List.getElem?_eq_some_iff.mp hi).1
    rw [List.getElem?_set_self (by simpa using hl), List.getElem?_map, hi]
    simp [e]
  · rw [List.getElem?_set_ne hk]
theorem lob_close {y : α} (A : Hs h (E y b ++ (N, lobO f E nn i) :: r)) (hi : nn[i]? = some (x, b)) (e : f y b = f x b) : Hs h ((N, lobN f E (nn.set i (y, b))) :: r) := by
  have B : Hs h ((N, lobO f E nn i) :: (E y b ++ r)) := A.perm (List.perm_middle (l₁ := E y b))
  have hl := (List.getElem?_eq_some_iff.mp hi).1
  refine lobN_iff.mpr ?_
  rw [lobX_set hi e]
  refine (lobO_iff.mp B).perm (List.Perm.cons _ ?_)
  have hp := lobL_perm (E := E) (nn := nn.set i (y, b)) (i := i) (x := y) (b := b) (by rw [List.getElem?_set_self hl])
  rw [List.eraseIdx_set_eq] at hp
  refine List.Perm.trans ?_ (hp.append_right r).symm
  rw [← List.append_assoc]
  exact List.perm_append_comm.append_right _
theorem lob_back (A : Hs h (E x b ++ (N, lobO f E nn i) :: r)) (hi : nn[i]? = some (x, b)) : Hs h ((N, lobN f E nn) :: r) := by
  have := lob_close A hi rfl
  have hl := (List.getElem?_eq_some_iff.mp hi)
  rwa [show nn.set i (x, b) = nn by rw [← hl.2]; exact List.set_getElem_self _] at this
theorem lob_nil (A : Hs h L) [j : Rem L N (one (.lst [])) r] : Hs h ((N, lobN f E []) :: r) := lobN_iff.mpr (A.rem N)
theorem lob_add (A : Hs h (E x b ++ (N, lobN f E nn) :: r)) : h N = some (.lst (lobX f nn)) ∧ Hs (au h N (.lst (lobX f nn ++ [f x b]))) ((N, lobN f E (nn ++ [(x, b)])) :: r) := by
  have B : Hs h ((N, lobN f E nn) :: (E x b ++ r)) := A.perm (List.perm_middle (l₁ := E x b))
  have B := lobN_iff.mp B
  refine ⟨B.look, ?_⟩
  refine lobN_iff.mpr ?_
  rw [show lobX f (nn ++ [(x, b)]) = lobX f nn ++ [f x b] by simp [lobX], lobL_app]
  refine B.upd.perm (List.Perm.cons _ ?_)
  rw [List.append_assoc, show lobL E [(x, b)] = E x b by simp [lobL]]
theorem lob_app (A : Hs h (E x b ++ (N, lobN f E nn) :: r)) (hz : nn.length < sizeLine) (q : ∀ h', Hs h' ((N, lobN f E (nn ++ [(x, b)])) :: r) → Q .non h') : xBM .append (.ref N) [f x b] h Q := by
  obtain ⟨a, c⟩ := lob_add A
  exact app_l a (by rw [lobX_length]; exact hz) (q _ c)
/-- a comprehension that makes objects -/
theorem lob_lcAdd {M : AH → Prop} (A : Hs h (E x b ++ (N, lobN f E nn) :: r)) (hz : nn.length < sizeLine) (q : ∀ g, Hs g ((N, lobN f E (nn ++ [(x, b)])) :: r) → M g) : ∃ g acc, Sub g h ∧ g N = some (.lst acc) ∧ acc.length < sizeLine ∧ M (au g N (.lst (acc ++ [f x b]))) := by
  obtain ⟨a, c⟩ := lob_add A
  exact ⟨h, _, Sub.refl _, a, by rw [lobX_length]; exact hz, q _ c⟩
theorem lcO {chk : AH → Prop} {t own : List Nat} {s : ASt} {cond : ASt → AH → (Bool → AH → Prop) → Prop} {el : ASt → AH → AQ → Prop} {xs : List DV} {QL : Addr → AH → Prop} (A : Hs h L) (g : List α) (hg : g.length = xs.length) (hz : xs.length ≤ 16777216)
    (hs : ∀ i x y, xs[i]? = some x → g[i]? = some y → ∀ D (nn : List (α × β)) k, nn.length < sizeLine → nn.map (·.1) = g.take i → Hs k ((D, lobN f E nn) :: L) → chk k ∧ ∃ s1, bindA t x (wipeA s own) = some s1 ∧ ∀ M : AH → Prop, (∀ b k', Hs k' ((D, lobN f E (nn ++ [(y, b)])) :: L) → M k') →
      cond s1 k fun b h1 => if b = true then el s1 h1 fun d h2 => ∃ k acc, Sub k h2 ∧ k D = some (.lst acc) ∧ acc.length < sizeLine ∧ M (au k D (.lst (acc ++ [d]))) else ∃ k, Sub k h1 ∧ M k)
    (hc : ∀ D (nn : List (α × β)) k, Hs k ((D, lobN f E nn) :: L) → chk k) (q : ∀ D (nn : List (α × β)) k, nn.map (·.1) = g → Hs k ((D, lobN f E nn) :: L) → QL D k) : ∀ D, h D = none → wLc chk t own D cond el (fun h' => QL D h') s xs (au h D (.lst [])) := fun D nD => by
  refine lc_ind (fun i acc k => ∃ nn : List (α × β), acc = lobX f nn ∧ nn.map (·.1) = g.take i ∧ Hs k ((D, lobN f E nn) :: L)) ⟨[], rfl, rfl, lob_nil (N := D) (A.new nD)⟩ ?_ hz ?_ ?_
  · rintro i acc k ⟨nn, rfl, e, B⟩
    refine ⟨?_, (lobN_iff.mp B).look⟩
    have := congrArg List.length e
    rw [List.length_map, List.length_take] at this
    rw [lobX_length]; omega
  · rintro i x acc k ex ⟨nn, rfl, e, B⟩
    have hi := (List.getElem?_eq_some_iff.mp ex).1
    have hl := congrArg List.length e
    rw [List.length_map, List.length_take] at hl
    have hgi : i < g.length := by omega
    obtain ⟨c, s1, e1, b⟩ := hs i x g[i] ex (List.getElem?_eq_getElem hgi) D nn k (by rw [sizeLine_eq]; omega) e B
    refine ⟨c, s1, e1, fun M hM hac => b M fun b k' B' => hM _ _ ⟨_, rfl, ?_, B'⟩⟩
    rw [List.map_append, e, List.take_succ_eq_append_getElem hgi]; rfl
  · rintro acc k ⟨nn, rfl, e, B⟩
    rw [← hg, List.take_length] at e
    exact ⟨hc _ _ _ B, q _ _ _ e B⟩
/-- a comprehension, item by item as told -/
theorem lcG {chk : AH → Prop} {t own : List Nat} {s : ASt} {cond : ASt → AH → (Bool → AH → Prop) → Prop} {el : ASt → AH → AQ → Prop} {xs : List DV} {QL : Addr → AH → Prop} (A : Hs h L) (g : List (Option DV)) (hg : g.length = xs.length) (hz : xs.length ≤ 16777216)
    (hs : ∀ (i : Nat) (x : DV) (y : Option DV), xs[i]? = some x → g[i]? = some y → ∀ D acc k, acc.length < sizeLine → Hs k ((D, one (.lst acc)) :: L) → chk k ∧ ∃ s1, bindA t x (wipeA s own) = some s1 ∧ ∀ M : AH → Prop, (∀ k', Hs k' ((D, one (.lst (acc ++ y.toList))) :: L) → M k') →
      cond s1 k fun b h1 => if b = true then el s1 h1 fun d h2 => ∃ k acc, Sub k h2 ∧ k D = some (.lst acc) ∧ acc.length < sizeLine ∧ M (au k D (.lst (acc ++ [d]))) else ∃ k, Sub k h1 ∧ M k)
    (hc : ∀ D acc k, Hs k ((D, one (.lst acc)) :: L) → chk k) (q : ∀ D k, Hs k ((D, one (.lst (g.filterMap id))) :: L) → QL D k) : ∀ D, h D = none → wLc chk t own D cond el (fun h' => QL D h') s xs (au h D (.lst [])) := fun D nD => by
  refine lc_ind (fun i acc k => acc = (g.take i).filterMap id ∧ Hs k ((D, one (.lst acc)) :: L)) ⟨rfl, A.new nD⟩ ?_ hz ?_ ?_
  · rintro i acc k ⟨rfl, B⟩
    exact ⟨Nat.le_trans (List.length_filterMap_le _ _) (List.length_take_le _ _), B.look⟩
  · rintro i x acc k ex ⟨rfl, B⟩
    have hi := (List.getElem?_eq_some_iff.mp ex).1
    have hgi : i < g.length := by omega
    have hle : ((g.take i).filterMap id).length ≤ i := Nat.le_trans (List.length_filterMap_le _ _) (List.length_take_le _ _)
    obtain ⟨c, s1, e1, b⟩ := hs i x g[i] ex (List.getElem?_eq_getElem hgi) D _ k (by rw [sizeLine_eq]; omega) B
    refine ⟨c, s1, e1, fun M hM hac => b M fun k' B' => hM _ _ ⟨?_, B'⟩⟩
    rw [List.take_succ_eq_append_getElem hgi, List.filterMap_append]
    cases hh : g[i] <;> simp
  · rintro acc k ⟨rfl, B⟩
    rw [← hg, List.take_length] at B
    exact ⟨hc _ _ _ B, q _ _ B⟩
theorem lcAddS {acc : List (List Nat)} {w : List Nat} {M : AH → Prop} (A : Hs h L) [Rem L N (one (.lst (acc.map .str))) r] (hac : acc.length < sizeLine) (q : ∀ g, Hs g ((N, one (.lst ((acc ++ [w]).map .str))) :: r) → M g) : ∃ g xs, Sub g h ∧ g N = some (.lst xs) ∧ xs.length < sizeLine ∧ M (au g N (.lst (xs ++ [.str w]))) :=
  lcAdd (p := N) A (by rw [List.length_map]; exact hac) fun g B => q g (by rw [List.map_append]; exact B)
/-- texts, one of each item -/
theorem lcT {chk : AH → Prop} {t own : List Nat} {s : ASt} {cond : ASt → AH → (Bool → AH → Prop) → Prop} {el : ASt → AH → AQ → Prop} {xs : List DV} {QL : Addr → AH → Prop} (A : Hs h L) (PW : Nat → List Nat → Prop) (hz : xs.length ≤ 16777215)
    (hs : ∀ (i : Nat) (x : DV), xs[i]? = some x → ∀ D (acc : List (List Nat)) k, acc.length = i → acc.length < sizeLine → Hs k ((D, one (.lst (acc.map .str))) :: L) → chk k ∧ ∃ s1, bindA t x (wipeA s own) = some s1 ∧ ∀ M : AH → Prop, (∀ w k', PW i w → Hs k' ((D, one (.lst ((acc ++ [w]).map .str))) :: L) → M k') →
      cond s1 k fun b h1 => if b = true then el s1 h1 fun d h2 => ∃ k acc, Sub k h2 ∧ k D = some (.lst acc) ∧ acc.length < sizeLine ∧ M (au k D (.lst (acc ++ [d]))) else ∃ k, Sub k h1 ∧ M k)
    (hc : ∀ D acc k, Hs k ((D, one (.lst acc)) :: L) → chk k) (q : ∀ D (ws : List (List Nat)) k, ws.length = xs.length → (∀ i w, ws[i]? = some w → PW i w) → Hs k ((D, one (.lst (ws.map .str))) :: L) → QL D k) : ∀ D, h D = none → wLc chk t own D cond el (fun h' => QL D h') s xs (au h D (.lst [])) := fun D nD => by
  refine lc_ind (fun i acc k => ∃ ws : List (List Nat), acc = ws.map .str ∧ ws.length = i ∧ (∀ i w, ws[i]? = some w → PW i w) ∧ Hs k ((D, one (.lst (ws.map .str))) :: L)) ⟨[], rfl, rfl, fun i w e => by simp at e, A.new nD⟩ ?_ (by omega) ?_ ?_
  · rintro i acc k ⟨ws, rfl, e, _, B⟩
    exact ⟨by rw [List.length_map]; omega, B.look⟩
  · rintro i x acc k ex ⟨ws, rfl, e, hp, B⟩
    have hi := (List.getElem?_eq_some_iff.mp ex).1
    obtain ⟨c, s1, e1, b⟩ := hs i x ex D ws k e (by rw [sizeLine_eq]; omega) B
    refine ⟨c, s1, e1, fun M hM hac => b M fun w k' hw B' => hM _ _ ⟨ws ++ [w], rfl, by simp [e], fun m u hu => ?_, B'⟩⟩
    by_cases hm : m < ws.length
    · rw [List.getElem?_append_left hm] at hu; exact hp m u hu
    · rw [List.getElem?_append_right (by omega)] at hu
      have : m - ws.length = 0 := by
        have := (List.getElem?_eq_some_iff.mp hu).1
        simp at this; omega
      rw [this] at hu
      simp at hu
      subst hu
      rw [show m = i by omega]; exact hw
  · rintro acc k ⟨ws, rfl, e, hp, B⟩
    exact ⟨hc _ _ _ B, q _ ws _ e hp B⟩
/-- some of them -/
theorem lcS {chk : AH → Prop} {t own : List Nat} {s : ASt} {cond : ASt → AH → (Bool → AH → Prop) → Prop} {el : ASt → AH → AQ → Prop} {xs : List DV} {QL : Addr → AH → Prop} (A : Hs h L) (PW : List Nat → Prop) (hz : xs.length ≤ 16777215)
    (hs : ∀ (i : Nat) (x : DV), xs[i]? = some x → ∀ D (acc : List (List Nat)) k, acc.length < sizeLine → Hs k ((D, one (.lst (acc.map .str))) :: L) → chk k ∧ ∃ s1, bindA t x (wipeA s own) = some s1 ∧ ∀ M : AH → Prop, (∀ w k', PW w → Hs k' ((D, one (.lst ((acc ++ [w]).map .str))) :: L) → M k') → (∀ k', Hs k' ((D, one (.lst (acc.map .str))) :: L) → M k') →
      cond s1 k fun b h1 => if b = true then el s1 h1 fun d h2 => ∃ k acc, Sub k h2 ∧ k D = some (.lst acc) ∧ acc.length < sizeLine ∧ M (au k D (.lst (acc ++ [d]))) else ∃ k, Sub k h1 ∧ M k)
    (hc : ∀ D acc k, Hs k ((D, one (.lst acc)) :: L) → chk k) (q : ∀ D (ws : List (List Nat)) k, ws.length ≤ xs.length → (∀ w ∈ ws, PW w) → Hs k ((D, one (.lst (ws.map .str))) :: L) → QL D k) : ∀ D, h D = none → wLc chk t own D cond el (fun h' => QL D h') s xs (au h D (.lst [])) := fun D nD => by
  refine lc_ind (fun i acc k => ∃ ws : List (List Nat), acc = ws.map .str ∧ ws.length ≤ i ∧ (∀ w ∈ ws, PW w) ∧ Hs k ((D, one (.lst (ws.map .str))) :: L)) ⟨[], rfl, Nat.le_refl _, fun w e => by simp at e, A.new nD⟩ ?_ (by omega) ?_ ?_
  · rintro i acc k ⟨ws, rfl, e, _, B⟩
    exact ⟨by rw [List.length_map]; omega, B.look⟩
  · rintro i x acc k ex ⟨ws, rfl, e, hp, B⟩
    have hi := (List.getElem?_eq_some_iff.mp ex).1
    obtain ⟨c, s1, e1, b⟩ := hs i x ex D ws k (by rw [sizeLine_eq]; omega) B
    refine ⟨c, s1, e1, fun M hM hac => b M (fun w k' hw B' => hM _ _ ⟨ws ++ [w], rfl, by simp; omega, fun u hu => ?_, B'⟩) fun k' B' => hM _ _ ⟨ws, rfl, by omega, hp, B'⟩⟩
    rcases List.mem_append.mp hu with hu | hu
    · exact hp u hu
    · rw [List.mem_singleton.mp hu]; exact hw
  · rintro acc k ⟨ws, rfl, e, hp, B⟩
    exact ⟨hc _ _ _ B, q _ ws _ e hp B⟩
theorem in_strsH {p : Addr} {e : Ast} {ws : List (List Nat)} {w : List Nat} (A : Hs h L) [Rem L p e r] [IsL e (ws.map .str)] (q : Q (.bl (decide (w ∈ ws))) h) : xCmp .isin (.str w) (.ref p) h Q := by
  refine inlH (p := p) A rfl (by rw [List.all_map]; exact List.all_eq_true.mpr fun _ _ => rfl) ?_
  have : (DV.str w ∈ ws.map DV.str) ↔ w ∈ ws := by simp
  rw [show decide (DV.str w ∈ ws.map DV.str) = decide (w ∈ ws) from decide_eq_decide.mpr this]; exact q
theorem nin_strsH {p : Addr} {e : Ast} {ws : List (List Nat)} {w : List Nat} (A : Hs h L) [Rem L p e r] [IsL e (ws.map .str)] (q : Q (.bl (!decide (w ∈ ws))) h) : xCmp .nin (.str w) (.ref p) h Q := by
  refine ninlH (p := p) A rfl (by rw [List.all_map]; exact List.all_eq_true.mpr fun _ _ => rfl) ?_
  have : (DV.str w ∈ ws.map DV.str) ↔ w ∈ ws := by simp
  rw [show decide (DV.str w ∈ ws.map DV.str) = decide (w ∈ ws) from decide_eq_decide.mpr this]; exact q
/-- True in a list of Bools -/
theorem in_bls {p : Addr} {bs : List Bool} (e : rdL h p = some (bs.map .bl)) (q : Q (.bl (bs.any id)) h) : xCmp .isin (.bl true) (.ref p) h Q := by
  refine .inl ⟨_, e, .inr ⟨bs.any id, ⟨.bool true, bs.map .bool, rfl, by rw [List.map_map]; exact allO_map fun x _ => rfl, ?_⟩, by rw [Bool.false_xor]; exact q⟩⟩
  rw [List.any_map]
  congr 1
  funext b
  cases b <;> rfl
theorem lob_swap {p : Addr} (A : Hs h ((p, one (.lst (lobX f nn))) :: (N, lobN f E nn) :: L)) : Hs h ((p, lobN f E nn) :: (N, one (.lst (lobX f nn))) :: L) := by
  have A := lobN_iff.mp (A.perm (List.Perm.swap _ _ _))
  refine lobN_iff.mpr ?_
  refine A.perm ?_
  have : ((N, one (.lst (lobX f nn))) :: (lobL E nn ++ (p, one (.lst (lobX f nn))) :: L)).Perm ((N, one (.lst (lobX f nn))) :: (p, one (.lst (lobX f nn))) :: (lobL E nn ++ L)) := List.Perm.cons _ List.perm_middle
  refine this.trans ((List.Perm.swap _ _ _).trans (List.Perm.cons _ List.perm_middle.symm))
theorem py_t2 {m : Nat} {a b : DV} {p q : PyData} (e1 : py h m a = some p) (e2 : py h m b = some q) : py h (m + 1) (.tup [a, b]) = some (.tuple [p, q]) := by
  show (allO [py h m a, py h m b]).map _ = _
  rw [e1, e2]; rfl
theorem py_t3 {m : Nat} {a b c : DV} {p q u : PyData} (e1 : py h m a = some p) (e2 : py h m b = some q) (e3 : py h m c = some u) : py h (m + 1) (.tup [a, b, c]) = some (.tuple [p, q, u]) := by
  show (allO [py h m a, py h m b, py h m c]).map _ = _
  rw [e1, e2, e3]; rfl
theorem py_s {m : Nat} {w : List Nat} : py h m (.str w) = some (pyS w) := leaf_py rfl h m
theorem py_i {m : Nat} {i : Int} : py h m (.int i) = some (.int i) := leaf_py rfl h m
/-! ### lists of lists of plain values -/
def llF (_ : List DV) (p : Addr) : DV := .ref p
def llE (xs : List DV) (p : Addr) : SLs := [(p, one (.lst xs))]
theorem pln_all : ∀ {xs : List DV}, (∀ d ∈ xs, Pln d) → ∃ ps, ∀ (h : AH) (n : Nat), allO (xs.map (py h (n + 1))) = some ps
  | [], _ => ⟨[], fun _ _ => rfl⟩
  | d :: xs, hp => by
    obtain ⟨p, hd⟩ := hp d (by simp)
    obtain ⟨ps, hps⟩ := pln_all (xs := xs) fun x hx => hp x (by simp [hx])
    refine ⟨p :: ps, fun h n => ?_⟩
    rw [List.map_cons, hd h n]
    show (allO (xs.map (py h (n + 1)))).map _ = _
    rw [hps]; rfl
theorem ll_all : ∀ (l : List (List DV)), (∀ xs ∈ l, ∀ d ∈ xs, Pln d) → ∃ ps, ∀ (h : AH) (nn : List (List DV × Addr)), nn.map (·.1) = l → (∀ t ∈ nn, rdL h t.2 = some t.1) → allO ((lobX llF nn).map (py h 7)) = some ps
  | [], _ => ⟨[], fun h nn e _ => by rw [List.map_eq_nil_iff.mp e]; rfl⟩
  | xs :: l, hp => by
    obtain ⟨p, hd⟩ := pln_all (hp xs (by simp))
    obtain ⟨ps, hps⟩ := ll_all l fun x hx => hp x (by simp [hx])
    refine ⟨.list p :: ps, fun h nn e hr => ?_⟩
    cases nn with
    | nil => cases e
    | cons t nn =>
      rw [List.map_cons, List.cons.injEq] at e
      obtain ⟨rfl, e⟩ := e
      show allO (py h 7 (.ref t.2) :: (lobX llF nn).map (py h 7)) = _
      rw [py_lst (n := 6) (hr t (by simp)) (hd h 5)]
      show (allO ((lobX llF nn).map (py h 7))).map _ = _
      rw [hps h nn e fun u hu => hr u (by simp [hu])]; rfl
theorem ll_rd {p : Addr} {nn : List (List DV × Addr)} (A : Hs h L) [j : Rem L p (lobN llF llE nn) r] : ∀ t ∈ nn, rdL h t.2 = some t.1 := fun t ht => by
  obtain ⟨i, hi⟩ := List.getElem?_of_mem ht
  have B : Hs h ((t.2, one (.lst t.1)) :: (p, lobO llF llE nn i) :: r) := lob_open (N := p) (f := llF) (E := llE) A hi
  exact B.rl (p := t.2)
theorem eqD_ll {p q : Addr} {nn kk : List (List DV × Addr)} {r2 : SLs} (A : Hs h L) [j : Rem L p (lobN llF llE nn) r] [j2 : Rem L q (lobN llF llE kk) r2] (e : nn.map (·.1) = kk.map (·.1)) (hp : ∀ t ∈ nn, ∀ d ∈ t.1, Pln d) : EqD h (.ref p) (.ref q) true := by
  obtain ⟨ps, hps⟩ := ll_all (nn.map (·.1)) fun xs hx => by
    obtain ⟨t, ht, rfl⟩ := List.mem_map.mp hx
    exact hp t ht
  exact eqD_same (py_lst (n := 7) (A.rl (p := p)) (hps h nn rfl (ll_rd (p := p) A))) (py_lst (n := 7) (A.rl (p := q)) (hps h kk e.symm (ll_rd (p := q) A)))
theorem py_blsH {m : Nat} {p : Addr} {bs : List Bool} (e : rdL h p = some (bs.map .bl)) : py h (m + 1) (.ref p) = some (.list (bs.map .bool)) := by
  refine py_lst e ?_
  rw [List.map_map]
  exact allO_map fun x _ => leaf_py rfl h m
theorem eqv_bls : ∀ xs ys : List Bool, PyData.eqvAll (xs.map .bool) (ys.map .bool) = decide (xs = ys)
  | [], [] => rfl
  | [], _ :: _ => rfl
  | _ :: _, [] => rfl
  | x :: xs, y :: ys => by
    show (PyData.eqv (.bool x) (.bool y) && PyData.eqvAll (xs.map .bool) (ys.map .bool)) = _
    rw [eqv_bls xs ys]
    have : PyData.eqv (.bool x) (.bool y) = decide (x = y) := by cases x <;> cases y <;> rfl
    rw [this]
    by_cases h1 : x = y <;> by_cases h2 : xs = ys <;> simp [h1, h2]
theorem eqD_bls {p d : Addr} {xs ys : List Bool} (e1 : rdL h p = some (xs.map .bl)) (e2 : rdL h d = some (ys.map .bl)) : EqD h (.ref p) (.ref d) (decide (xs = ys)) :=
  ⟨_, _, py_blsH (m := 7) e1, py_blsH (m := 7) e2, eqv_bls xs ys⟩
theorem cutL_map {α β : Type} (f : α → β) (xs : List α) (lo hi : Option Int) : cutL (xs.map f) lo hi = (cutL xs lo hi).map f := by
  unfold cutL
  rw [List.length_map, List.map_take, List.map_drop]
theorem cutL_mid {α : Type} (xs : List α) {a b : Int} (h : 0 ≤ a) (h2 : 0 ≤ b) : cutL xs (some a) (some b) = (xs.take b.toNat).drop a.toNat := by
  have e : ∀ (k : Int) d, 0 ≤ k → HT.sIx xs.length d (some k) = min k.toNat xs.length := fun k d h => by
    unfold HT.sIx
    exact if_neg (by omega)
  unfold cutL
  rw [e _ _ h, e _ _ h2]
  refine List.ext_getElem? fun i => ?_
  simp only [List.getElem?_take, List.getElem?_drop]
  by_cases h1 : a.toNat ≤ xs.length
  · rw [Nat.min_eq_left h1]
    by_cases h3 : a.toNat + i < xs.length
    · by_cases h4 : a.toNat + i < b.toNat
      · rw [if_pos (by omega), if_pos h4]
      · rw [if_neg (by omega), if_neg h4]
    · rw [List.getElem?_eq_none (by omega)]
      split <;> split <;> rfl
  · have h5 : min a.toNat xs.length = xs.length := by omega
    rw [h5, List.getElem?_eq_none (l := xs) (i := xs.length + i) (by omega), List.getElem?_eq_none (l := xs) (i := a.toNat + i) (by omega)]
    split <;> split <;> rfl
end
section
variable {h : AH} {Q : AQ} {L r r' L' : SLs} {p b : Addr}
theorem extH {xs ys : List DV} (A : Hs h L) [Rem L p (one (.lst xs)) r] [Rem L b (one (.lst ys)) r'] (l : xs.length + ys.length ≤ sizeLine) [Upd L p (one (.lst (xs ++ ys))) L'] (q : ∀ h', Hs h' L' → Q .non h') : xBM .extend (.ref p) [.ref b] h Q := ⟨xs, ys, A.get, A.get, l, q _ A.wr⟩
end
/-! ### x.f += e, i += e -/
section
variable {T : PTab} {C : COr} {s : ASt} {h : AH} {Q : AQ} {Y : AX} {K : KT} {L r : SLs} {p : Addr} {N : AH → Prop}
theorem q1_aug {rr : STs} {t o e} (b : ∀ K' : KT, (∀ s' h', wSs T C s' h' K rr → K'.nx s' h') → K'.rt = K.rt → K'.bk = K.bk → K'.xr = K.xr → wAug T C s h o e K' t) : wSs T C s h K (.cons (.aug t o e) rr) := b _ (fun _ _ x => x) rfl rfl rfl
def xAugF (T : PTab) (C : COr) (s : ASt) (o : BO) (e : EX) (K : KT) (f : Nat) (x : DV) (h1 : AH) : Prop := ∃ p c fs k v, x = .ref p ∧ h1 p = some (.ins c fs) ∧ T.fp c f = some k ∧ fs[k]? = some (some v) ∧ wE T C s h1 (fun y h2 => (∃ a b, v = .int a ∧ y = .int b) ∧ xBin o v y h2 fun z h3 =>
      ∃ gs, h3 p = some (.ins c gs) ∧ k < gs.length ∧ K.nx s (au h3 p (.ins c (gs.set k (some z))))) (kx K s) e
theorem aug_f {a f o e} : wAug T C s h o e K (.fld a f) = wE T C s h (fun x h1 => xAugF T C s o e K f x h1) (kx K s) a := propext Iff.rfl
theorem aug_n {i o e} : wAug T C s h o e K (.name i) = (∃ x, s[i]? = some (some x) ∧ wE T C s h (fun y h1 => (∃ a b, x = .int a ∧ y = .int b) ∧ xBin o x y h1 fun z h2 => K.nx (s.set i (some z)) h2) (kx K s) e) := propext Iff.rfl
theorem aug_ii {i j : Int} {P : Prop} : ((∃ a b, DV.int i = .int a ∧ DV.int j = .int b) ∧ P) = P := propext ⟨fun z => z.2, fun z => ⟨⟨i, j, rfl, rfl⟩, z⟩⟩
/-- what stands at the end of x.f += e -/
def augE (K : KT) (s : ASt) (p : Addr) (c k : Nat) (z : DV) (h3 : AH) : Prop := ∃ gs, h3 p = some (.ins c gs) ∧ k < gs.length ∧ K.nx s (au h3 p (.ins c (gs.set k (some z))))
theorem augH {f c k o : _} {e : EX} {fs : List (Option DV)} {v : Int} (A : Hs h L) [Rem L p (one (.ins c fs)) r] (ek : T.fp c f = some k) (ev : fs[k]? = some (some (.int v))) (q : wE T C s h (fun y h2 => ∃ w, y = .int w ∧ xBin o (.int v) (.int w) h2 fun z h3 => augE K s p c k z h3) (kx K s) e) (mono : ∀ {Q1 Q2 : AQ}, (∀ d h, Q1 d h → Q2 d h) → wE T C s h Q1 (kx K s) e → wE T C s h Q2 (kx K s) e) : xAugF T C s o e K f (.ref p) h :=
  ⟨p, c, fs, k, .int v, rfl, A.get, ek, ev, mono (fun d h ⟨w, e1, e2⟩ => by subst e1; exact ⟨⟨v, w, rfl, rfl⟩, e2⟩) q⟩
/-- by a constant -/
theorem augcH {f c k : Nat} {fs fs' : List (Option DV)} {v w : Int} {L' : SLs} (A : Hs h L) [Rem L p (one (.ins c fs)) r] (ek : T.fp c f = some k) (ev : fs[k]? = some (some (.int v))) (hk : k < fs.length) [i : SetAt fs k (some (.int (v + w))) fs'] [Upd L p (one (.ins c fs')) L'] (q : ∀ h', Hs h' L' → K.nx s h') : xAugF T C s .add (.con (.int w)) K f (.ref p) h :=
  ⟨p, c, fs, k, .int v, rfl, A.get, ek, ev, ⟨v, w, rfl, rfl⟩, fs, A.get, hk, by
    have e := i.e
    show K.nx s (au h p (.ins c (fs.set k (some (.int (v + w))))))
    rw [e]
    exact q _ A.wr⟩
theorem augvH {f c k : Nat} {o : BO} {e : EX} {fs : List (Option DV)} {v : Int} (A : Hs h L) [Rem L p (one (.ins c fs)) r] (ek : T.fp c f = some k) (ev : fs[k]? = some (some (.int v))) (q : wE T C s h (fun y h2 => (∃ a b, DV.int v = .int a ∧ y = .int b) ∧ xBin o (.int v) y h2 fun z h3 => augE K s p c k z h3) (kx K s) e) : xAugF T C s o e K f (.ref p) h :=
  ⟨p, c, fs, k, .int v, rfl, A.get, ek, ev, q⟩
theorem augeH {c k : Nat} {fs fs' : List (Option DV)} {z : DV} {L' : SLs} (A : Hs h L) [Rem L p (one (.ins c fs)) r] (hk : k < fs.length) [i : SetAt fs k (some z) fs'] [Upd L p (one (.ins c fs')) L'] (q : ∀ h', Hs h' L' → K.nx s h') : augE K s p c k z h :=
  ⟨fs, A.get, hk, by
    have e := i.e
    show K.nx s (au h p (.ins c (fs.set k (some z))))
    rw [e]
    exact q _ A.wr⟩
def augT (K : KT) (s : ASt) (p : Addr) (k : Nat) (u : DV) (h4 : AH) : Prop := ∃ ys, h4 p = some (.lst ys) ∧ k < ys.length ∧ K.nx s (au h4 p (.lst (ys.set k u)))
def xAugS (T : PTab) (C : COr) (s : ASt) (o : BO) (e : EX) (K : KT) (x y : DV) (h2 : AH) : Prop := ∃ p k xs v, x = .ref p ∧ y = .int k ∧ 0 ≤ k ∧ k < 2 ^ 63 ∧ h2 p = some (.lst xs) ∧ xs[k.toNat]? = some (.int v) ∧ wE T C s h2 (fun z h3 => (∃ b, z = .int b) ∧ xBin o (.int v) z h3 fun u h4 =>
      ∃ ys, h4 p = some (.lst ys) ∧ k.toNat < ys.length ∧ K.nx s (au h4 p (.lst (ys.set k.toNat u)))) (kx K s) e
theorem aug_s {a i o e} : wAug T C s h o e K (.sub a i) = wE T C s h (fun x h1 => wE T C s h1 (fun y h2 => xAugS T C s o e K x y h2) (kx K s) i) (kx K s) a := propext Iff.rfl
theorem aug_i1 {j : Int} {P : Prop} : ((∃ b, DV.int j = .int b) ∧ P) = P := propext ⟨fun z => z.2, fun z => ⟨⟨j, rfl⟩, z⟩⟩
theorem augsH {k : Int} {o : BO} {e : EX} {xs : List DV} {v : Int} (A : Hs h L) [Rem L p (one (.lst xs)) r] (k0 : 0 ≤ k) (k1 : k < 2 ^ 63) (ev : xs[k.toNat]? = some (.int v)) (q : wE T C s h (fun z h3 => (∃ b, z = .int b) ∧ xBin o (.int v) z h3 fun u h4 => augT K s p k.toNat u h4) (kx K s) e) : xAugS T C s o e K (.ref p) (.int k) h :=
  ⟨p, k, xs, v, rfl, rfl, k0, k1, A.get, ev, q⟩
theorem augtH {k : Nat} {xs : List DV} {u : DV} {L' : SLs} (A : Hs h L) [Rem L p (one (.lst xs)) r] (hk : k < xs.length) [Upd L p (one (.lst (xs.set k u))) L'] (q : ∀ h', Hs h' L' → K.nx s h') : augT K s p k u h := ⟨xs, A.get, hk, q _ A.wr⟩
end
/-! ### comprehensions of values, with a state -/
section
variable {h : AH} {L r : SLs} {N : Addr}
theorem lcAddV {β : Type} {f : β → DV} {acc : List β} {b : β} {d : DV} {M : AH → Prop} (A : Hs h L) [Rem L N (one (.lst (acc.map f))) r] (hac : acc.length < sizeLine) (e : d = f b) (q : ∀ g, Hs g ((N, one (.lst ((acc ++ [b]).map f))) :: r) → M g) : ∃ g xs, Sub g h ∧ g N = some (.lst xs) ∧ xs.length < sizeLine ∧ M (au g N (.lst (xs ++ [d]))) := by
  subst e
  exact lcAdd (p := N) A (by rw [List.length_map]; exact hac) fun g B => q g (by rw [List.map_append]; exact B)
theorem lcV {β σ : Type} {chk : AH → Prop} {t own : List Nat} {s : ASt} {cond : ASt → AH → (Bool → AH → Prop) → Prop} {el : ASt → AH → AQ → Prop} {xs : List DV} {QL : Addr → AH → Prop} (f : β → DV) (F : σ → SLs) (P : List β → σ → Prop) {st0 : σ} (A : Hs h (F st0)) (p0 : P [] st0) (hz : xs.length ≤ 16777215)
    (hs : ∀ (i : Nat) (x : DV), xs[i]? = some x → ∀ D (acc : List β) st k, acc.length = i → acc.length < sizeLine → P acc st → Hs k ((D, one (.lst (acc.map f))) :: F st) → chk k ∧ ∃ s1, bindA t x (wipeA s own) = some s1 ∧ ∀ M : AH → Prop, (∀ b st' k', P (acc ++ [b]) st' → Hs k' ((D, one (.lst ((acc ++ [b]).map f))) :: F st') → M k') →
      cond s1 k fun b h1 => if b = true then el s1 h1 fun d h2 => ∃ k acc, Sub k h2 ∧ k D = some (.lst acc) ∧ acc.length < sizeLine ∧ M (au k D (.lst (acc ++ [d]))) else ∃ k, Sub k h1 ∧ M k)
    (hc : ∀ D acc st k, Hs k ((D, one (.lst acc)) :: F st) → chk k) (q : ∀ D (bs : List β) st k, bs.length = xs.length → P bs st → Hs k ((D, one (.lst (bs.map f))) :: F st) → QL D k) : ∀ D, h D = none → wLc chk t own D cond el (fun h' => QL D h') s xs (au h D (.lst [])) := fun D nD => by
  refine lc_ind (fun i acc k => ∃ (bs : List β) (st : σ), acc = bs.map f ∧ bs.length = i ∧ P bs st ∧ Hs k ((D, one (.lst (bs.map f))) :: F st)) ⟨[], st0, rfl, rfl, p0, A.new nD⟩ ?_ (by omega) ?_ ?_
  · rintro i acc k ⟨bs, st, rfl, e, _, B⟩
    exact ⟨by rw [List.length_map]; omega, B.look⟩
  · rintro i x acc k ex ⟨bs, st, rfl, e, hp, B⟩
    have hi := (List.getElem?_eq_some_iff.mp ex).1
    obtain ⟨c, s1, e1, b⟩ := hs i x ex D bs st k e (by rw [sizeLine_eq]; omega) hp B
    exact ⟨c, s1, e1, fun M hM hac => b M fun w st' k' hw B' => hM _ _ ⟨bs ++ [w], st', rfl, by simp [e], hw, B'⟩⟩
  · rintro acc k ⟨bs, st, rfl, e, hp, B⟩
    exact ⟨hc _ _ _ _ B, q _ bs st _ e hp B⟩
end
/-! ### bundles -/
section
variable {h : AH} {L r : SLs} {p B N : Addr} {o : AO} {M : SLs} {T : PTab} {Q : AQ}
theorem hs_mem (A : Hs h L) (m : (p, one o) ∈ L) : h p = some o := by
  obtain ⟨s, t, rfl⟩ := List.append_of_mem m
  exact (A.perm List.perm_middle).look
def bndl (M : SLs) : Ast := sub fun _ => M
theorem bndl_iff : Hs h ((B, bndl M) :: L) ↔ Hs h (M ++ L) := by simp only [bndl, Hs.sub_iff]
theorem bnd_get (A : Hs h L) [i : Rem L B (bndl M) r] (m : (p, one o) ∈ M) : h p = some o := hs_mem (bndl_iff.mp (A.rem B)) (List.mem_append_left _ m)
theorem isidH {e : Ast} {xs : List (DV × DV)} (A : Hs h L) [Rem L p e r] [IsD e xs] (q : Q (.bl true) h) : xIsi T [.dict] (.ref p) h Q := isi_1 (b := true) (by
  show ((rdL h p).isSome || (rdD h p).isSome) = true
  rw [A.rd]; simp) (by
  show (rdD h p).isSome = true
  rw [A.rd]; rfl) q
variable {α : Type} {E : α → Ast} {l : List (List Nat × α)}
theorem dob_bnd (A : Hs h ((N, dob E l) :: L)) : ∃ (nn : NN α) (B : Addr), dobV nn = l ∧ (l.map (·.1)).Nodup ∧ Hs h ((N, one (.dct (dobD nn))) :: (B, bndl (dobL E nn)) :: L) := by
  obtain ⟨nn, ⟨e1, e2⟩, A⟩ := dob_iff.mp A
  refine ⟨nn, N, e1, e2, ?_⟩
  have A := A.perm (L' := dobL E nn ++ (N, one (.dct (dobD nn))) :: L) List.perm_middle.symm
  have A : Hs h ((N, bndl (dobL E nn)) :: (N, one (.dct (dobD nn))) :: L) := bndl_iff.mpr A
  exact A.perm (List.Perm.swap _ _ _)
theorem dob_unb {nn : NN α} (A : Hs h ((N, one (.dct (dobD nn))) :: (B, bndl (dobL E nn)) :: L)) (e1 : dobV nn = l) (e2 : (l.map (·.1)).Nodup) : Hs h ((N, dob E l) :: L) := by
  have A := bndl_iff.mp (A.perm (List.Perm.swap _ _ _))
  exact dob_iff.mpr ⟨nn, ⟨e1, e2⟩, A.perm List.perm_middle⟩
theorem dobD_keys (nn : NN α) : (dobD nn).map (·.1) = (nn.map (·.1)).map .str := by simp [dobD, ens]
theorem dobD_get {nn : NN α} {w : List Nat} {t : Addr × α} (e : lk nn w = some t) : dget (dobD nn) (.str w) = some (.ref t.1) := by unfold dobD; rw [dget_ens, e]; rfl
theorem dobL_mem {nn : NN α} {w : List Nat} {t : Addr × α} (e : lk nn w = some t) : (t.1, E t.2) ∈ dobL E nn := List.mem_map.mpr ⟨(w, t), lk_mem e, rfl⟩
theorem dobV_lk2 {nn : NN α} {w : List Nat} {x : α} (e : lk (dobV nn) w = some x) : ∃ p, lk nn w = some (p, x) := by
  rw [dobV_lk] at e
  obtain ⟨t, h1, rfl⟩ := Option.map_eq_some_iff.mp e
  exact ⟨t.1, h1⟩
end
end PL

set_option maxHeartbeats 4000000
namespace K66
open PySem PySem.Spec PL
set_option hygiene false in
local macro_rules | `(tactic| walk_at "ts") => `(tactic| try simp only [PL.q_try, PL.q_raise, PL.hs_nil, PL.hSet_s, PL.hSet_n, PL.hClr_s, PL.hClr_n, PL.w_xfld, PL.w_mk0, PL.w_make, PL.w_dct, PL.w_items, PL.w_dseq, PL.w_lrg, PL.w_con, PL.w_bin, PL.w_cmp, PL.w_cmp2, PL.w_cmp3, PL.w_neg, PL.w_not, PL.w_and, PL.w_or, PL.w_isN, PL.w_notN, PL.w_tup, PL.w_lst, PL.w_ix, PL.w_fld, PL.w_call, PL.w_meth, PL.w_bm, PL.w_isi, PL.w_nil, PL.w_cons, PL.w_bf, PL.w_varE, PL.q_nil, PL.q_cons, PL.q_asg, PL.q_nm, PL.q_tup, PL.q_sub, PL.q_fld, PL.q_ret, PL.q_retN, PL.q_expr, PL.q_if, PL.q_for, PL.q_brk, PL.q_pass, PL.w_seq, PL.w_rng1, PL.w_rng2, PL.w_enum, PL.w_lc, PL.wC_n, PL.wC_c, PL.wO_n, PL.wO_c, PL.w_sl, PL.find_s, PL.it_s, PL.min_i, PL.max_i, PL.exi_int, PL.exi_bl, PL.tru_bl, PL.add_i, PL.sub_i, PL.lt_i, PL.gt_i, PL.le_i, PL.ge_i, PL.eq_i, PL.ne_i, PL.eq_s, PL.ne_s, PL.lt_s, PL.eq_b, PL.ne_b, PL.not_t, PL.not_f, List.getElem?_cons_zero, List.getElem?_cons_succ, List.set_cons_zero, List.set_cons_succ, List.foldl_cons, List.foldl_nil, List.zip_cons_cons, List.zip_nil_left, List.zip_nil_right, Option.some.injEq, exists_eq_left', if_true, if_false, PL.ite_tt, PL.ite_ff, PL.bindA1, PL.kxE, PL.ty_non_int, PL.ty_non_bool, PL.ty_non_str, PL.ty_non_list, PL.ty_non_tuple, PL.ty_non_dict, PL.ty_bl_int, PL.ty_bl_bool, PL.ty_bl_str, PL.ty_bl_list, PL.ty_bl_tuple, PL.ty_bl_dict, PL.ty_int_int, PL.ty_int_bool, PL.ty_int_str, PL.ty_int_list, PL.ty_int_tuple, PL.ty_int_dict, PL.ty_str_int, PL.ty_str_bool, PL.ty_str_str, PL.ty_str_list, PL.ty_str_tuple, PL.ty_str_dict, PL.ty_tup_int, PL.ty_tup_bool, PL.ty_tup_str, PL.ty_tup_list, PL.ty_tup_tuple, PL.ty_tup_dict, PL.wTstE, decide_true, decide_false, eq_self, reduceCtorEq, Bool.not_true, Bool.not_false])
set_option hygiene false in
local macro_rules | `(tactic| walk_at "es") => `(tactic| try simp only [PL.q_try, PL.q_raise, PL.hs_nil, PL.hSet_s, PL.hSet_n, PL.hClr_s, PL.hClr_n, PL.w_xfld, PL.w_mk0, PL.w_make, PL.w_dct, PL.w_items, PL.w_dseq, PL.w_lrg, PL.w_con, PL.w_bin, PL.w_cmp, PL.w_cmp2, PL.w_cmp3, PL.w_neg, PL.w_not, PL.w_and, PL.w_or, PL.w_isN, PL.w_notN, PL.w_tup, PL.w_lst, PL.w_ix, PL.w_fld, PL.w_call, PL.w_meth, PL.w_bm, PL.w_isi, PL.w_nil, PL.w_cons, PL.w_bf, PL.w_varE, PL.q_asg, PL.q_nm, PL.q_tup, PL.q_sub, PL.q_fld, PL.q_ret, PL.q_retN, PL.q_expr, PL.q_if, PL.q_for, PL.q_brk, PL.q_pass, PL.w_seq, PL.w_rng1, PL.w_rng2, PL.w_enum, PL.w_lc, PL.wC_n, PL.wC_c, PL.wO_n, PL.wO_c, PL.w_sl, PL.find_s, PL.it_s, PL.min_i, PL.max_i, PL.exi_int, PL.exi_bl, PL.tru_bl, PL.add_i, PL.sub_i, PL.lt_i, PL.gt_i, PL.le_i, PL.ge_i, PL.eq_i, PL.ne_i, PL.eq_s, PL.ne_s, PL.lt_s, PL.eq_b, PL.ne_b, PL.not_t, PL.not_f, List.getElem?_cons_zero, List.getElem?_cons_succ, List.set_cons_zero, List.set_cons_succ, List.foldl_cons, List.foldl_nil, List.zip_cons_cons, List.zip_nil_left, List.zip_nil_right, Option.some.injEq, exists_eq_left', if_true, if_false, PL.ite_tt, PL.ite_ff, PL.bindA1, PL.kxE, PL.ty_non_int, PL.ty_non_bool, PL.ty_non_str, PL.ty_non_list, PL.ty_non_tuple, PL.ty_non_dict, PL.ty_bl_int, PL.ty_bl_bool, PL.ty_bl_str, PL.ty_bl_list, PL.ty_bl_tuple, PL.ty_bl_dict, PL.ty_int_int, PL.ty_int_bool, PL.ty_int_str, PL.ty_int_list, PL.ty_int_tuple, PL.ty_int_dict, PL.ty_str_int, PL.ty_str_bool, PL.ty_str_str, PL.ty_str_list, PL.ty_str_tuple, PL.ty_str_dict, PL.ty_tup_int, PL.ty_tup_bool, PL.ty_tup_str, PL.ty_tup_list, PL.ty_tup_tuple, PL.ty_tup_dict, PL.wTstE, decide_true, decide_false, eq_self, reduceCtorEq, Bool.not_true, Bool.not_false])
abbrev Jb := List (Nat × Int)
def pD (p : Nat × Int) : DV := .tup [.int (p.1 : Nat), .int p.2]
def jobD (j : Jb) : List DV := j.map pD
structure GJ (rooms : List Int) (j : Jb) : Prop where
  nd : (j.map Prod.fst).Nodup
  lt : ∀ p ∈ j, p.1 < rooms.length
  nn : ∀ p ∈ j, 0 ≤ p.2
  le : ∀ p ∈ j, p.2 ≤ rooms.getD p.1 0
def sub1 (l : List Int) (p : Nat × Int) : List Int := l.set p.1 (l.getD p.1 0 - p.2)
def subJ (l : List Int) (j : Jb) : List Int := j.foldl sub1 l
def short (l : List Int) : Jb → Option Nat
  | [] => none
  | p :: r => if l.getD p.1 0 < p.2 then some p.1 else short l r
abbrev Wn := Nat × Nat × Nat
def wk (rooms : List Int) : List Int → Nat → Nat → List Jb → List Nat × List Wn
  | _, _, _, [] => ([], [])
  | left, since, place, j :: js => match short left j with
    | none => wk rooms (subJ left j) since (place + 1) js
    | some t => (place :: (wk rooms (subJ rooms j) (place + 1) (place + 1) js).1, (t, since, place) :: (wk rooms (subJ rooms j) (place + 1) (place + 1) js).2)
def natD (i : Nat) : DV := .int (i : Nat)
def wnD (w : Wn) : DV := .tup [natD w.1, natD w.2.1, natD w.2.2]
def optD : Option Nat → DV
  | none => .non
  | some t => natD t
structure LL (h : AH) (W : Addr) (ps : List Addr) (js : List Jb) : Prop where
  e : rdL h W = some (ps.map .ref)
  l : ps.length = js.length
  g : ∀ (i : Nat) p j, ps[i]? = some p → js[i]? = some j → rdL h p = some (jobD j)
theorem LL.sub {g h : AH} {W : Addr} {ps : List Addr} {js : List Jb} (x : Sub g h) (q : LL g W ps js) : LL h W ps js := ⟨rdL_sub x q.e, q.l, fun i p j a b => rdL_sub x (q.g i p j a b)⟩
theorem sub1_len (l : List Int) (p : Nat × Int) : (sub1 l p).length = l.length := by simp [sub1]
theorem subJ_len : ∀ (j : Jb) (l : List Int), (subJ l j).length = l.length
  | [], l => rfl
  | p :: j, l => by
    show (subJ (sub1 l p) j).length = _
    rw [subJ_len j, sub1_len]
theorem jobD_get {j : Jb} {i : Nat} {x : DV} (e : (jobD j)[i]? = some x) : ∃ p, j[i]? = some p ∧ x = pD p := by
  unfold jobD at e
  rw [List.getElem?_map] at e
  cases h : j[i]? with
  | none => rw [h] at e; cases e
  | some p => rw [h] at e; cases e; exact ⟨p, rfl, rfl⟩
theorem LL.at {h : AH} {W : Addr} {ps : List Addr} {js : List Jb} (q : LL h W ps js) {i : Nat} {x : DV} (e : (enumL 0 (ps.map DV.ref))[i]? = some x) : ∃ p j, ps[i]? = some p ∧ js[i]? = some j ∧ rdL h p = some (jobD j) ∧ x = .tup [natD i, .ref p] := by
  rw [enumL_get, List.getElem?_map] at e
  cases hp : ps[i]? with
  | none => rw [hp] at e; cases e
  | some p =>
    rw [hp] at e
    cases e
    have hi := (List.getElem?_eq_some_iff.mp hp).1
    have hj := List.getElem?_eq_getElem (show i < js.length by rw [← q.l]; exact hi)
    refine ⟨p, _, rfl, hj, q.g i p _ hp hj, by simp [natD]⟩
section
variable {h : AH} {Q : AQ} {Y : AX} {n : Nat}
theorem ix_nat {a : Addr} {l : List Int} {i : Nat} (e : rdL h a = some (l.map .int)) (hi : i < l.length) (q : Q (.int (l.getD i 0)) h) : xIx (.ref a) (natD i) h Q := ix_l e (at_int hi) q
theorem app_x {p : Addr} {xs : List DV} {d : DV} (e : h p = some (.lst xs)) (l : xs.length < sizeLine) (q : Q .non (au h p (.lst (xs ++ [d])))) : recvOk .append (.ref p) h ∧ xBM .append (.ref p) [d] h Q := ⟨recv_l rfl (rdL_l e), app_l e l q⟩
theorem app_x' {p : Addr} {xs : List DV} {d : DV} {R : Prop} (e : h p = some (.lst xs)) (r : R) (l : xs.length < sizeLine) (q : Q .non (au h p (.lst (xs ++ [d])))) : recvOk .append (.ref p) h ∧ R ∧ xBM .append (.ref p) [d] h Q := ⟨recv_l rfl (rdL_l e), r, app_l e l q⟩
theorem look_ok {R W : Addr} {rooms : List Int} {ps : List Addr} {js : List Jb} (hn : 1 ≤ n) (eR : rdL h R = some (rooms.map .int)) (eW : LL h W ps js) (hj : ∀ j ∈ js, GJ rooms j) (q : Q .non h) : wCall D.T D.fi n 0 [.ref R, .ref W] h Q Y := by
  obtain ⟨m', rfl⟩ : ∃ m, n = m + 1 := ⟨n - 1, by omega⟩
  refine ⟨_, rfl, rfl, ?_⟩
  show wSs D.T (wCall D.T D.fi m') (startA 6 [.ref R, .ref W]) _ _ b_look_at_needs
  simp only [b_look_at_needs]
  simp only [startA, List.map_cons, List.map_nil, List.length_cons, List.length_nil, List.replicate, List.cons_append, List.nil_append, Nat.reduceAdd, Nat.reduceSub]
  walk_at "ts"
  refine ⟨_, _, rfl, eW.e, ?_⟩
  refine list_ind (fun i s' h' => h' = h ∧ ∃ a b c d, s' = [some (.ref R), some (.ref W), a, b, c, d]) ⟨rfl, _, _, _, _, rfl⟩ ?_ ?_
  · rintro i x s' h' e ⟨rfl, a, b, c, d, rfl⟩
    obtain ⟨p, j, e1, e2, e3, rfl⟩ := eW.at e
    have G := hj j (List.mem_of_getElem? e2)
    refine ⟨eW.e, _, rfl, fun K' q' _ _ _ => ?_⟩
    simp only [l1_look_at_needs]
    walk_at "ts"
    refine it_l e3 ?_
    refine list_ind (fun i s2 h2 => h2 = h' ∧ ∃ a b c d, s2 = [some (.ref R), some (.ref W), a, b, c, d]) ⟨rfl, _, _, _, _, rfl⟩ ?_ ?_
    · rintro k x s2 h2 e' ⟨rfl, a2, b2, c2, d2, rfl⟩
      obtain ⟨p2, f1, rfl⟩ := jobD_get e'
      have m := List.mem_of_getElem? f1
      refine ⟨e3, _, rfl, fun K2 q2 _ _ _ => ?_⟩
      simp only [l0_look_at_needs]
      walk_at "ts"
      refine ix_nat eR (G.lt p2 m) ?_
      walk_at "ts"
      rw [decide_eq_false (show ¬ rooms.getD p2.1 0 < p2.2 by have := G.le p2 m; omega)]
      walk_at "ts"
      exact q2 _ _ ⟨_, Sub.refl _, rfl, _, _, _, _, rfl⟩
    · rintro s2 h2 ⟨rfl, a2, b2, c2, d2, rfl⟩
      refine ⟨e3, ?_⟩
      walk_at "ts"
      exact q' _ _ ⟨_, Sub.refl _, rfl, _, _, _, _, rfl⟩
  · rintro s' h' ⟨rfl, a, b, c, d, rfl⟩
    refine ⟨eW.e, ?_⟩
    walk_at "ts"
    exact ⟨_, Sub.refl _, q⟩
theorem short_ok {L P : Addr} {left : List Int} {j : Jb} (hn : 1 ≤ n) (eL : rdL h L = some (left.map .int)) (eJ : rdL h P = some (jobD j)) (hlt : ∀ p ∈ j, p.1 < left.length) (q : Q (optD (short left j)) h) : wCall D.T D.fi n 1 [.ref L, .ref P] h Q Y := by
  obtain ⟨m', rfl⟩ : ∃ m, n = m + 1 := ⟨n - 1, by omega⟩
  refine ⟨_, rfl, rfl, ?_⟩
  show wSs D.T (wCall D.T D.fi m') (startA 4 [.ref L, .ref P]) _ _ b_short_tray
  simp only [b_short_tray]
  simp only [startA, List.map_cons, List.map_nil, List.length_cons, List.length_nil, List.replicate, List.cons_append, List.nil_append, Nat.reduceAdd, Nat.reduceSub]
  walk_at "ts"
  refine it_l eJ ?_
  refine items_ind (fun r s' h' => h' = h ∧ ∃ j' a b, r = jobD j' ∧ (∀ p ∈ j', p ∈ j) ∧ short left j' = short left j ∧ s' = [some (.ref L), some (.ref P), a, b]) ?_ ?_ _ _ _ ⟨rfl, j, _, _, rfl, fun _ h => h, rfl, rfl⟩
  · rintro s' h' ⟨rfl, j', a, b, e1, sb, e2, rfl⟩
    cases j' with
    | cons _ _ => cases e1
    | nil =>
      refine ⟨eJ, ?_⟩
      walk_at "ts"
      rw [← e2] at q
      exact ⟨_, Sub.refl _, q⟩
  · rintro x r s' h' ⟨rfl, j', a, b, e1, sb, e2, rfl⟩
    cases j' with
    | nil => cases e1
    | cons p j' =>
      cases e1
      refine ⟨eJ, _, rfl, fun K' q' hrt _ _ => ?_⟩
      simp only [l0_short_tray]
      walk_at "ts"
      refine ix_nat eL (hlt p (sb p (by simp))) ?_
      walk_at "ts"
      by_cases hd : left.getD p.1 0 < p.2
      · rw [decide_eq_true hd]
        walk_at "ts"
        rw [hrt]
        rw [← e2] at q
        simp only [short, if_pos hd, optD] at q
        exact ⟨_, Sub.refl _, q⟩
      · rw [decide_eq_false hd]
        walk_at "ts"
        refine q' _ _ ⟨_, Sub.refl _, rfl, j', _, _, rfl, fun p hp => sb p (by simp [hp]), ?_, rfl⟩
        rw [← e2]
        simp only [short, if_neg hd]
theorem walks_ok {R Hd W : Addr} {rooms held : List Int} {ps : List Addr} {js : List Jb} (hn : 2 ≤ n) (eR : rdL h R = some (rooms.map .int)) (eH : rdL h Hd = some (held.map .int)) (eW : LL h W ps js) (hl : held.length = rooms.length) (hj : ∀ j ∈ js, GJ rooms j) (hc : js.length ≤ 1000)
    (q : ∀ p1 p2, h p1 = none → h p2 = none → p1 ≠ p2 → Q (.tup [.ref p1, .ref p2]) (au (au h p1 (.lst ((wk rooms held 0 0 js).1.map natD))) p2 (.lst ((wk rooms held 0 0 js).2.map wnD)))) : wCall D.T D.fi n 2 [.ref R, .ref Hd, .ref W] h Q Y := by
  obtain ⟨m', rfl⟩ : ∃ m, n = m + 1 := ⟨n - 1, by omega⟩
  refine ⟨_, rfl, rfl, ?_⟩
  show wSs D.T (wCall D.T D.fi m') (startA 12 [.ref R, .ref Hd, .ref W]) _ _ b_walks
  simp only [b_walks]
  simp only [startA, List.map_cons, List.map_nil, List.length_cons, List.length_nil, List.replicate, List.cons_append, List.nil_append, Nat.reduceAdd, Nat.reduceSub]
  walk_at "ts"
  refine look_ok (by omega) eR eW hj ?_
  walk_at "ts"
  refine list_l eH fun pl nl => ?_
  walk_at "ts"
  refine ⟨by decide, fun pw nw => ?_⟩
  refine ⟨by decide, fun pv nv => ?_⟩
  obtain ⟨nw1, nw2⟩ := au_none.mp nw
  obtain ⟨nv1, nv2⟩ := au_none.mp nv
  obtain ⟨nv2, nv3⟩ := au_none.mp nv2
  refine ⟨_, _, rfl, rdL_sub (Sub.trans (Sub.new nl) (Sub.trans (Sub.new nw) (Sub.new nv))) eW.e, ?_⟩
  refine list_ind (fun i s' h' => ∃ (pl : Addr) (left : List Int) (since : Nat) (ways : List Nat) (wins : List Wn) (a b c d e : Option DV), Sub h h' ∧ h pl = none ∧ pl ≠ pw ∧ pl ≠ pv ∧ h' pl = some (.lst (left.map .int)) ∧ h' pw = some (.lst (ways.map natD)) ∧ h' pv = some (.lst (wins.map wnD)) ∧ left.length = rooms.length ∧ ways.length ≤ i ∧ wins.length ≤ i ∧
    s' = [some (.ref R), some (.ref Hd), some (.ref W), some (.ref pl), some (.ref pw), some (.ref pv), some (natD since), a, b, c, d, e] ∧ ways ++ (wk rooms left since i (js.drop i)).1 = (wk rooms held 0 0 js).1 ∧ wins ++ (wk rooms left since i (js.drop i)).2 = (wk rooms held 0 0 js).2) ?_ ?_ ?_
  · refine ⟨pl, held, 0, [], [], _, _, _, _, _, Sub.trans (Sub.new nl) (Sub.trans (Sub.new nw) (Sub.new nv)), nl, Ne.symm nw1, Ne.symm nv2, ?_, ?_, au_same, hl, by simp, by simp, rfl, by simp, by simp⟩
    · rw [au_ne (Ne.symm nv2), au_ne (Ne.symm nw1)]; exact au_same
    · rw [au_ne (Ne.symm nv1)]; exact au_same
  · rintro i x s' h' e ⟨pl, left, since, ways, wins, a, b, c, d, e_, sb, npl, n1, n2, el, ew, ev, ll, lw, lv, rfl, k1, k2⟩
    have eW' := eW.sub sb
    obtain ⟨p, j, e1, e2, e3, rfl⟩ := eW'.at e
    have hi := (List.getElem?_eq_some_iff.mp e2).1
    have G := hj j (List.mem_of_getElem? e2)
    rw [List.drop_eq_getElem_cons hi] at k1 k2
    have ej : js[i] = j := by
      rw [List.getElem?_eq_getElem hi] at e2; exact Option.some.inj e2
    rw [ej] at k1 k2
    refine ⟨eW'.e, _, rfl, fun K' q' _ _ _ => ?_⟩
    simp only [l1_walks]
    refine q_one fun K1 n1' _ _ _ => ?_
    walk_at "es"
    refine short_ok (by omega) (rdL_l el) e3 (fun p hp => by rw [ll]; exact G.lt p hp) ?_
    refine n1' _ _ ?_
    clear n1'
    refine cutS (fun s2 h2 => ∃ (pl : Addr) (left : List Int) (since : Nat) (ways : List Nat) (wins : List Wn) (c d e : Option DV), Sub h h2 ∧ h pl = none ∧ pl ≠ pw ∧ pl ≠ pv ∧ h2 pl = some (.lst (left.map .int)) ∧ h2 pw = some (.lst (ways.map natD)) ∧ h2 pv = some (.lst (wins.map wnD)) ∧ left.length = rooms.length ∧ ways.length ≤ i + 1 ∧ wins.length ≤ i + 1 ∧
      s2 = [some (.ref R), some (.ref Hd), some (.ref W), some (.ref pl), some (.ref pw), some (.ref pv), some (natD since), some (natD i), some (.ref p), c, d, e] ∧ ways ++ (wk rooms (subJ left j) since (i + 1) (js.drop (i + 1))).1 = (wk rooms held 0 0 js).1 ∧ wins ++ (wk rooms (subJ left j) since (i + 1) (js.drop (i + 1))).2 = (wk rooms held 0 0 js).2) (fun K1 n1' _ _ _ => ?_) ?_
    · cases hs : short left j with
      | none =>
        simp only [wk, hs] at k1 k2
        simp only [optD]
        walk_at "ts"
        exact n1' _ _ ⟨pl, left, since, ways, wins, _, _, _, sb, npl, n1, n2, el, ew, ev, ll, by omega, by omega, rfl, k1, k2⟩
      | some t =>
        simp only [wk, hs] at k1 k2
        simp only [optD, natD]
        walk_at "ts"
        have hz : sizeLine = 16777216 := sizeLine_eq
        refine app_x ew (by simp; omega) ?_
        refine app_x' (by rw [au_ne (Ne.symm nv1.symm)]; exact ev) (Nat.le_of_ble_eq_true rfl) (by simp; omega) ?_
        have hs1 : Sub h (au (au h' pw (.lst (ways.map natD ++ [.int (i : Nat)]))) pv (.lst (wins.map wnD ++ [.tup [.int (t : Nat), .int (since : Nat), .int (i : Nat)]]))) := (sb.wr nw2).wr nv3
        refine list_l (rdL_sub hs1 eR) fun pl2 nl2 => ?_
        obtain ⟨m1, m2⟩ := au_none.mp nl2
        obtain ⟨m2, m3⟩ := au_none.mp m2
        refine n1' _ _ ⟨pl2, rooms, i + 1, ways ++ [i], wins ++ [(t, since, i)], some (.int (t : Nat)), d, e_, hs1.trans (Sub.new nl2), hs1.no nl2, m2, m1, au_same, ?_, ?_, rfl, by simp; omega, by simp; omega, ?_, by rw [← k1]; simp, by rw [← k2]; simp⟩
        · rw [au_ne (Ne.symm m2), au_ne (Ne.symm nv1), au_same]
          simp [natD]
        · rw [au_ne (Ne.symm m1), au_same]
          simp [wnD, natD]
        · simp [natD]
    · rintro s2 h2 ⟨pl, left, since, ways, wins, c, d, e_, sb, npl, n1, n2, el, ew, ev, ll, lw, lv, rfl, k1, k2⟩
      walk_at "ts"
      have e3' := (eW.sub sb).g i p j e1 e2
      refine it_l e3' ?_
      refine items_ind (fun r s' h' => ∃ (left2 : List Int) (j' : Jb) (d e : Option DV), r = jobD j' ∧ (∀ p ∈ j', p ∈ j) ∧ Sub h h' ∧ h' pl = some (.lst (left2.map .int)) ∧ h' pw = some (.lst (ways.map natD)) ∧ h' pv = some (.lst (wins.map wnD)) ∧ left2.length = rooms.length ∧ subJ left2 j' = subJ left j ∧
        s' = [some (.ref R), some (.ref Hd), some (.ref W), some (.ref pl), some (.ref pw), some (.ref pv), some (natD since), some (natD i), some (.ref p), c, d, e]) ?_ ?_ _ _ _ ⟨left, j, _, _, rfl, fun _ h => h, sb, el, ew, ev, ll, rfl, rfl⟩
      · rintro s' h' ⟨left2, j', d, e, f1, f2, sb, el, ew, ev, ll, f3, rfl⟩
        cases j' with
        | cons _ _ => cases f1
        | nil =>
          refine ⟨(eW.sub sb).g i p j e1 e2, ?_⟩
          walk_at "ts"
          refine q' _ _ ⟨_, Sub.refl _, pl, left2, since, ways, wins, _, _, _, _, _, sb, npl, n1, n2, el, ew, ev, ll, by omega, by omega, rfl, ?_, ?_⟩
          · rw [← k1, ← f3]; rfl
          · rw [← k2, ← f3]; rfl
      · rintro x r s' h' ⟨left2, j', d, e, f1, f2, sb, el, ew, ev, ll, f3, rfl⟩
        cases j' with
        | nil => cases f1
        | cons p2 j' =>
          cases f1
          refine ⟨(eW.sub sb).g i p j e1 e2, _, rfl, fun K2 q2 _ _ _ => ?_⟩
          have hp := G.lt p2 (f2 p2 (by simp))
          simp only [l0_walks]
          walk_at "ts"
          refine ix_nat (rdL_l el) (by omega) ?_
          walk_at "ts"
          refine set_l el (ixN_nat (by omega) (by simp; omega)) ?_
          refine q2 _ _ ⟨_, Sub.refl _, sub1 left2 p2, j', _, _, rfl, fun p hp => f2 p (by simp [hp]), sb.wr npl, ?_, by rw [au_ne (Ne.symm n1)]; exact ew, by rw [au_ne (Ne.symm n2)]; exact ev, by rw [sub1_len]; exact ll, by rw [← f3]; rfl, rfl⟩
          rw [au_same]
          simp [sub1, List.map_set]
  · rintro s' h' ⟨pl, left, since, ways, wins, a, b, c, d, e_, sb, npl, n1, n2, el, ew, ev, ll, lw, lv, rfl, k1, k2⟩
    have hln : (enumL 0 (ps.map DV.ref)).length = js.length := by rw [enumL_len, List.length_map, eW.l]
    rw [hln, List.drop_length] at k1 k2
    refine ⟨(eW.sub sb).e, ?_⟩
    walk_at "ts"
    refine ⟨Nat.le_of_ble_eq_true rfl, _, ?_, q pw pv nw2 nv3 (Ne.symm nv1)⟩
    rw [← k1, ← k2]
    simp only [wk, List.append_nil]
    exact Sub.au (Sub.au sb ew) ev
end
/-! ### the plain law -/
def tot (t : Nat) : Jb → Int
  | [] => 0
  | p :: r => (if p.1 = t then p.2 else 0) + tot t r
theorem tot_nn {t : Nat} : ∀ {j : Jb}, (∀ p ∈ j, 0 ≤ p.2) → 0 ≤ tot t j
  | [], _ => by simp [tot]
  | p :: r, h => by
    have h1 := h p (by simp)
    have h2 := tot_nn (t := t) (j := r) fun q hq => h q (by simp [hq])
    simp only [tot]
    split <;> omega
theorem tot_ge {p : Nat × Int} : ∀ {j : Jb}, (∀ p ∈ j, 0 ≤ p.2) → p ∈ j → p.2 ≤ tot p.1 j
  | q :: r, h, m => by
    have h1 := h q (by simp)
    have h2 := tot_nn (t := p.1) (j := r) fun q hq => h q (by simp [hq])
    rcases List.mem_cons.mp m with rfl | m
    · simp [tot]; omega
    · have h3 := tot_ge (p := p) (j := r) (fun q hq => h q (by simp [hq])) m
      simp only [tot]
      split <;> omega
theorem sub1_get {l : List Int} {p : Nat × Int} {t : Nat} (ht : t < l.length) : (sub1 l p).getD t 0 = l.getD t 0 - (if p.1 = t then p.2 else 0) := by
  unfold sub1
  simp only [List.getD_eq_getElem?_getD]
  by_cases h : p.1 = t
  · subst h
    rw [List.getElem?_set_self ht]
    simp
  · rw [List.getElem?_set_ne h]
    simp [h]
theorem subJ_get {t : Nat} : ∀ {j : Jb} {l : List Int}, t < l.length → (subJ l j).getD t 0 = l.getD t 0 - tot t j
  | [], l, _ => by simp [subJ, tot]
  | p :: r, l, ht => by
    show (subJ (sub1 l p) r).getD t 0 = _
    rw [subJ_get (j := r) (by rw [sub1_len]; exact ht), sub1_get ht]
    simp only [tot]
    omega
theorem short_some {l : List Int} {t : Nat} : ∀ {j : Jb}, short l j = some t → ∃ p ∈ j, p.1 = t ∧ l.getD t 0 < p.2
  | p :: r, h => by
    unfold short at h
    split at h
    · cases h
      exact ⟨p, by simp, rfl, by assumption⟩
    · obtain ⟨q, h1, h2⟩ := short_some h
      exact ⟨q, by simp [h1], h2⟩
theorem short_none {l : List Int} : ∀ {j : Jb}, short l j = none → ∀ p ∈ j, p.2 ≤ l.getD p.1 0
  | p :: r, h, q, hq => by
    unfold short at h
    split at h
    · cases h
    · rcases List.mem_cons.mp hq with rfl | hq
      · omega
      · exact short_none h q hq
def sumR (js : List Jb) (t a : Nat) : Nat → Int
  | 0 => 0
  | m + 1 => sumR js t a m + tot t (js.getD (a + m) [])
def cap (rooms held : List Int) (since t : Nat) : Int := if since = 0 then held.getD t 0 else rooms.getD t 0
def Gd (rooms held : List Int) (js : List Jb) (w : Wn) : Prop := w.1 < rooms.length ∧ w.2.1 ≤ w.2.2 ∧ w.2.2 < js.length ∧ cap rooms held w.2.1 w.1 < sumR js w.1 (w.2.1 - 1) (w.2.2 + 1 - (w.2.1 - 1))
def chain (a : Int) : List Wn → Prop
  | [] => True
  | w :: r => a < w.2.1 ∧ chain w.2.2 r
def ris (a : Int) (m : Nat) : List Nat → Prop
  | [] => True
  | w :: r => a < (w : Int) ∧ w < m ∧ ris w m r
theorem wk_gd {rooms held : List Int} {js : List Jb} (hj : ∀ j ∈ js, GJ rooms j) : ∀ (js' : List Jb) (place since : Nat) (left : List Int) (a b : Int), js.drop place = js' → left.length = rooms.length → since ≤ place → a < (since : Int) → b < (place : Int) →
    (∀ t, t < rooms.length → left.getD t 0 = cap rooms held since t - sumR js t (since - 1) (place - (since - 1))) → (∀ w ∈ (wk rooms left since place js').2, Gd rooms held js w) ∧ chain a (wk rooms left since place js').2 ∧ ris b js.length (wk rooms left since place js').1 ∧ (wk rooms left since place js').1.length = (wk rooms left since place js').2.length
  | [], place, since, left, a, b, e, l, _, _, _, _ => by simp [wk, chain, ris]
  | j :: js', place, since, left, a, b, e, l, sp, ha, hb, inv => by
    have hi : place < js.length := by
      have := congrArg List.length e
      rw [List.length_drop, List.length_cons] at this
      omega
    have ej : js[place]? = some j := by
      have := congrArg (fun l => l[0]?) e
      simpa [List.getElem?_drop] using this
    have ed : js.drop (place + 1) = js' := by
      have := congrArg List.tail e
      simpa [List.tail_drop] using this
    have G := hj j (List.mem_of_getElem? ej)
    have eg : js.getD place [] = j := by rw [List.getD_eq_getElem?_getD, ej]; rfl
    have nx : ∀ t s, s ≤ place → sumR js t s (place + 1 - s) = sumR js t s (place - s) + tot t j := fun t s h => by
      rw [show place + 1 - s = (place - s) + 1 by omega]
      show sumR js t s (place - s) + tot t (js.getD (s + (place - s)) []) = _
      rw [show s + (place - s) = place by omega, eg]
    cases hs : short left j with
    | none =>
      simp only [wk, hs]
      refine wk_gd hj js' (place + 1) since (subJ left j) a b ed (by rw [subJ_len, l]) (by omega) ha (by omega) fun t ht => ?_
      rw [subJ_get (by omega), inv t ht, nx t _ (by omega)]
      omega
    | some t =>
      simp only [wk, hs]
      obtain ⟨h1, h2, h3, h4⟩ := wk_gd hj js' (place + 1) (place + 1) (subJ rooms j) (place : Int) (place : Int) ed (by rw [subJ_len]) (Nat.le_refl _) (by omega) (by omega) fun t ht => by
        rw [subJ_get ht]
        unfold cap
        rw [if_neg (by omega)]
        rw [show place + 1 - 1 = place by omega, show place + 1 - place = 0 + 1 by omega]
        show _ = _ - (0 + tot t (js.getD (place + 0) []))
        rw [Nat.add_zero, eg]
        omega
      obtain ⟨p, hp, rfl, hlt⟩ := short_some hs
      have ht := G.lt p hp
      have hg := tot_ge (p := p) (j := j) G.nn hp
      refine ⟨?_, ⟨ha, h2⟩, ⟨hb, hi, h3⟩, by simp [h4]⟩
      intro w hw
      rcases List.mem_cons.mp hw with rfl | hw
      · refine ⟨ht, sp, hi, ?_⟩
        show cap rooms held since p.1 < sumR js p.1 (since - 1) (place + 1 - (since - 1))
        rw [nx _ _ (by omega)]
        have := inv p.1 ht
        omega
      · exact h1 w hw
section
variable {h : AH} {Q : AQ} {Y : AX} {n : Nat}
theorem rising_ok {P : Addr} {ws : List Nat} {m : Nat} (hn : 2 ≤ n) (e : rdL h P = some (ws.map natD)) (hr : ris (-1) m ws) (q : Q (.bl true) h) : wCall D.T D.fi n 14 [.ref P, .int (m : Nat)] h Q Y := by
  obtain ⟨m', rfl⟩ : ∃ m, n = m + 1 := ⟨n - 1, by omega⟩
  refine ⟨_, rfl, rfl, ?_⟩
  show wSs D.T (wCall D.T D.fi m') (startA 4 [.ref P, .int (m : Nat)]) _ _ b__law_rising
  simp only [b__law_rising]
  simp only [startA, List.map_cons, List.map_nil, List.length_cons, List.length_nil, List.replicate, List.cons_append, List.nil_append, Nat.reduceAdd, Nat.reduceSub]
  walk_at "ts"
  refine isi_l e ?_
  walk_at "ts"
  refine it_l e ?_
  refine items_ind (fun r s' h' => h' = h ∧ ∃ (ws' : List Nat) (a : Int) (b : Option DV), r = ws'.map natD ∧ ris a m ws' ∧ s' = [some (.ref P), some (.int (m : Nat)), some (.int a), b]) ?_ ?_ _ _ _ ⟨rfl, ws, -1, _, rfl, hr, rfl⟩
  · rintro s' h' ⟨rfl, ws', a, b, e1, _, rfl⟩
    refine ⟨e, ?_⟩
    walk_at "ts"
    exact ⟨_, Sub.refl _, q⟩
  · rintro x r s' h' ⟨rfl, ws', a, b, e1, hr, rfl⟩
    cases ws' with
    | nil => cases e1
    | cons w ws' =>
      cases e1
      obtain ⟨h1, h2, h3⟩ := hr
      refine ⟨e, _, rfl, fun K' q' _ _ _ => ?_⟩
      simp only [l0__law_rising, natD]
      walk_at "ts"
      refine whole_ok rfl (by omega) ?_
      walk_at "ts"
      rw [decide_eq_false (show ¬ (w : Int) ≤ a by omega)]
      walk_at "ts"
      rw [decide_eq_false (show ¬ (m : Int) ≤ (w : Int) by omega)]
      walk_at "ts"
      exact q' _ _ ⟨_, Sub.refl _, rfl, ws', w, _, rfl, h3, rfl⟩
theorem LL.ix {W : Addr} {ps : List Addr} {js : List Jb} (q : LL h W ps js) {i : Nat} (hi : i < js.length) : ∃ p, ps[i]? = some p ∧ L2.atI (ps.map DV.ref) (i : Int) = some (.ref p) ∧ rdL h p = some (jobD (js.getD i [])) := by
  have hp : i < ps.length := by rw [q.l]; exact hi
  refine ⟨ps[i], List.getElem?_eq_getElem hp, ?_, ?_⟩
  · rw [atI_nat (by omega) (by simpa using hp)]
    simp
  · exact q.g i _ _ (List.getElem?_eq_getElem hp) (by rw [List.getElem?_eq_getElem hi]; simp [List.getD_eq_getElem?_getD, List.getElem?_eq_getElem hi])
/-- what is left holds all that a job needs -/
def okJ (l : List Int) (j : Jb) : Prop := ∀ p ∈ j, p.2 ≤ l.getD p.1 0
theorem okJ_sub {l : List Int} {p : Nat × Int} {j : Jb} (nd : ((p :: j).map Prod.fst).Nodup) (o : okJ l (p :: j)) : okJ (sub1 l p) j := fun q hq => by
  have hne : p.1 ≠ q.1 := by
    rw [List.map_cons, List.nodup_cons] at nd
    intro e
    exact nd.1 (List.mem_map.mpr ⟨q, hq, e.symm⟩)
  have := o q (by simp [hq])
  unfold sub1
  rw [List.getD_eq_getElem?_getD, List.getElem?_set_ne hne, ← List.getD_eq_getElem?_getD]
  exact this
theorem wk_ge {rooms : List Int} : ∀ (js' : List Jb) (left : List Int) (since place : Nat), ∀ k ∈ (wk rooms left since place js').1, place ≤ k
  | [], _, _, _, k, hk => by simp [wk] at hk
  | j :: js', left, since, place, k, hk => by
    cases hs : short left j with
    | none =>
      simp only [wk, hs] at hk
      have := wk_ge js' _ _ _ k hk
      omega
    | some t =>
      simp only [wk, hs] at hk
      rcases List.mem_cons.mp hk with rfl | hk
      · omega
      · have := wk_ge js' _ _ _ k hk
        omega
theorem wk_len {rooms : List Int} : ∀ (js' : List Jb) (left : List Int) (since place : Nat), (wk rooms left since place js').1.length ≤ js'.length
  | [], _, _, _ => by simp [wk]
  | j :: js', left, since, place => by
    cases hs : short left j with
    | none =>
      simp only [wk, hs]
      have := wk_len (rooms := rooms) js' (subJ left j) since (place + 1)
      simp; omega
    | some t =>
      simp only [wk, hs]
      have := wk_len (rooms := rooms) js' (subJ rooms j) (place + 1) (place + 1)
      simp; omega
theorem mem_nats {i : Nat} {ws : List Nat} : natD i ∈ ws.map natD ↔ i ∈ ws := by
  constructor
  · intro h
    obtain ⟨k, h1, h2⟩ := List.mem_map.mp h
    simp only [natD, DV.int.injEq] at h2
    rwa [show i = k by omega]
  · exact fun h => List.mem_map.mpr ⟨i, h, rfl⟩
theorem in_nats {a : Addr} {ws : List Nat} {i : Nat} (e : rdL h a = some (ws.map natD)) (q : Q (.bl (decide (i ∈ ws))) h) : xCmp .isin (.int (i : Nat)) (.ref a) h Q :=
  .inl ⟨_, e, .inl ⟨rfl, List.all_eq_true.mpr (fun x hx => by obtain ⟨k, _, rfl⟩ := List.mem_map.mp hx; rfl), by
    rw [Bool.false_xor, show decide (DV.int (i : Nat) ∈ ws.map natD) = decide (i ∈ ws) from decide_eq_decide.mpr mem_nats]
    exact q⟩⟩
theorem dry_ok {R Hd W P : Addr} {rooms held : List Int} {ps : List Addr} {js : List Jb} (hn : 1 ≤ n) (eR : rdL h R = some (rooms.map .int)) (eH : rdL h Hd = some (held.map .int)) (eW : LL h W ps js) (eP : rdL h P = some ((wk rooms held 0 0 js).1.map natD)) (hl : held.length = rooms.length) (hj : ∀ j ∈ js, GJ rooms j) (hc : js.length ≤ 1000) (q : Q (.bl true) h) : wCall D.T D.fi n 15 [.ref R, .ref Hd, .ref W, .ref P] h Q Y := by
  obtain ⟨m', rfl⟩ : ∃ m, n = m + 1 := ⟨n - 1, by omega⟩
  refine ⟨_, rfl, rfl, ?_⟩
  show wSs D.T (wCall D.T D.fi m') (startA 8 [.ref R, .ref Hd, .ref W, .ref P]) _ _ b__law_never_dry
  simp only [b__law_never_dry]
  simp only [startA, List.map_cons, List.map_nil, List.length_cons, List.length_nil, List.replicate, List.cons_append, List.nil_append, Nat.reduceAdd, Nat.reduceSub]
  walk_at "ts"
  refine list_l eH fun pl nl => ?_
  walk_at "ts"
  rw [len_l (rdL_sub (Sub.new nl) eW.e)]
  walk_at "ts"
  have hlp : (ps.map DV.ref).length = js.length := by rw [List.length_map, eW.l]
  refine ⟨by omega, by omega, ?_⟩
  rw [hlp, show ((js.length : Nat) : Int).toNat = js.length by omega]
  refine range_ind (fun i s' h' => ∃ (pl : Addr) (left : List Int) (since : Nat) (pre : List Nat) (x y z : Option DV), Sub h h' ∧ h pl = none ∧ h' pl = some (.lst (left.map .int)) ∧ left.length = rooms.length ∧ since ≤ i ∧ (∀ k ∈ pre, k < i) ∧ pre ++ (wk rooms left since i (js.drop i)).1 = (wk rooms held 0 0 js).1 ∧
    s' = [some (.ref R), some (.ref Hd), some (.ref W), some (.ref P), some (.ref pl), x, y, z]) ?_ ?_ ?_
  · exact ⟨pl, held, 0, [], _, _, _, Sub.new nl, nl, au_same, hl, by omega, by simp, by simp, rfl⟩
  · rintro i s' h' hi ⟨pl, left, since, pre, x, y, z, sb, npl, el, ll, si, hp, k1, rfl⟩
    have eW' := eW.sub sb
    obtain ⟨p, hpi, e1, e2⟩ := eW'.ix hi
    generalize ej : js.getD i [] = j at e2
    have ej' : js[i]? = some j := by
      rw [← ej, List.getElem?_eq_getElem hi]
      simp [List.getD_eq_getElem?_getD, List.getElem?_eq_getElem hi]
    have G := hj j (List.mem_of_getElem? ej')
    have ed : js.drop i = j :: js.drop (i + 1) := by
      rw [List.drop_eq_getElem_cons hi]
      rw [List.getElem?_eq_getElem hi] at ej'
      rw [Option.some.inj ej']
    rw [ed] at k1
    refine ⟨trivial, _, rfl, fun K' q' hrt _ _ => ?_⟩
    simp only [l1__law_never_dry]
    have hge := wk_ge (rooms := rooms) (js.drop (i + 1))
    refine cutS (fun s2 h2 => ∃ (pl : Addr) (left : List Int) (since : Nat) (pre : List Nat) (y z : Option DV), Sub h h2 ∧ h pl = none ∧ h2 pl = some (.lst (left.map .int)) ∧ left.length = rooms.length ∧ since ≤ i + 1 ∧ (∀ k ∈ pre, k < i + 1) ∧ okJ left j ∧ pre ++ (wk rooms (subJ left j) since (i + 1) (js.drop (i + 1))).1 = (wk rooms held 0 0 js).1 ∧
      s2 = [some (.ref R), some (.ref Hd), some (.ref W), some (.ref P), some (.ref pl), some (.int (i : Nat)), y, z]) (fun K1 n1 _ _ _ => ?_) ?_
    · walk_at "es"
      refine in_nats (rdL_sub sb eP) ?_
      cases hs : short left j with
      | none =>
        simp only [wk, hs] at k1
        rw [decide_eq_false (show ¬ i ∈ (wk rooms held 0 0 js).1 by
          rw [← k1]
          intro hm
          rcases List.mem_append.mp hm with hm | hm
          · have := hp _ hm; omega
          · have := hge _ _ _ _ hm; omega)]
        walk_at "ts"
        exact n1 _ _ ⟨pl, left, since, pre, _, _, sb, npl, el, ll, by omega, fun k hk => by have := hp k hk; omega, short_none hs, k1, rfl⟩
      | some t =>
        simp only [wk, hs] at k1
        rw [decide_eq_true (show i ∈ (wk rooms held 0 0 js).1 by rw [← k1]; simp)]
        walk_at "ts"
        refine list_l (rdL_sub sb eR) fun pl2 nl2 => ?_
        exact n1 _ _ ⟨pl2, rooms, i + 1, pre ++ [i], _, _, sb.trans (Sub.new nl2), sb.no nl2, au_same, rfl, Nat.le_refl _, fun k hk => by
          rcases List.mem_append.mp hk with hk | hk
          · have := hp k hk; omega
          · simp at hk; omega, G.le, by rw [← k1]; simp, rfl⟩
    · rintro s2 h2 ⟨pl, left, since, pre, y, z, sb, npl, el, ll, si, hp, ok, k1, rfl⟩
      walk_at "ts"
      refine ix_l (rdL_sub sb eW.e) e1 ?_
      have e2' : ∀ {h3 : AH}, Sub h h3 → rdL h3 p = some (jobD j) := fun {h3} x => by
        rw [← ej]
        have hpl : i < ps.length := by rw [eW.l]; exact hi
        exact rdL_sub x (eW.g i p _ hpi (by rw [ej', ej]))
      refine it_l (e2' sb) ?_
      refine items_ind (fun r s3 h3 => ∃ (left2 : List Int) (j' : Jb) (y z : Option DV), r = jobD j' ∧ (j'.map Prod.fst).Nodup ∧ (∀ p ∈ j', p.1 < rooms.length) ∧ okJ left2 j' ∧ Sub h h3 ∧ h3 pl = some (.lst (left2.map .int)) ∧ left2.length = rooms.length ∧ subJ left2 j' = subJ left j ∧
        s3 = [some (.ref R), some (.ref Hd), some (.ref W), some (.ref P), some (.ref pl), some (.int (i : Nat)), y, z]) ?_ ?_ _ _ _ ⟨left, j, _, _, rfl, G.nd, G.lt, ok, sb, el, ll, rfl, rfl⟩
      · rintro s3 h3 ⟨left2, j', y, z, f1, _, _, _, sb, el, ll, f3, rfl⟩
        cases j' with
        | cons _ _ => cases f1
        | nil =>
          exact ⟨e2' sb, q' _ _ ⟨_, Sub.refl _, pl, left2, since, pre, _, _, _, sb, npl, el, ll, si, hp, by rw [← k1, ← f3]; rfl, rfl⟩⟩
      · rintro x r s3 h3 ⟨left2, j', y, z, f1, nd, lt, ok, sb, el, ll, f3, rfl⟩
        cases j' with
        | nil => cases f1
        | cons p2 j' =>
          cases f1
          refine ⟨e2' sb, _, rfl, fun K2 q2 _ _ _ => ?_⟩
          have hp2 := lt p2 (by simp)
          simp only [l0__law_never_dry]
          walk_at "ts"
          refine ix_nat (rdL_l el) (by omega) ?_
          walk_at "ts"
          rw [decide_eq_false (show ¬ left2.getD p2.1 0 < p2.2 by have := ok p2 (by simp); omega)]
          walk_at "ts"
          refine ix_nat (rdL_l el) (by omega) ?_
          walk_at "ts"
          refine set_l el (ixN_nat (by omega) (by simp; omega)) ?_
          refine q2 _ _ ⟨_, Sub.refl _, sub1 left2 p2, j', _, _, rfl, (by rw [List.map_cons, List.nodup_cons] at nd; exact nd.2), fun p hp => lt p (by simp [hp]), okJ_sub nd ok, sb.wr npl, ?_, by rw [sub1_len]; exact ll, by rw [← f3]; rfl, rfl⟩
          rw [au_same]
          simp [sub1, List.map_set]
  · rintro s' h' ⟨pl, left, since, pre, x, y, z, sb, npl, el, ll, si, hp, k1, rfl⟩
    refine ⟨trivial, ?_⟩
    walk_at "ts"
    exact ⟨_, sb, q⟩
end
/-! ### the draws -/
section
variable {h : AH} {Q : AQ} {Y : AX} {n : Nat} {a : Addr} {ns : List Int}
theorem room_ok {k : Int} (hn : 2 ≤ n) (e : rdL h a = some (ns.map .int)) (k1 : -1000000 < k) (k2 : k < 1000000) (q : ∀ v : Int, 1 ≤ v → Q (.int v) h) : wCall D.T D.fi n 6 [.ref a, .int k] h Q Y := by
  obtain ⟨m', rfl⟩ : ∃ m, n = m + 1 := ⟨n - 1, by omega⟩
  refine ⟨_, rfl, rfl, ?_⟩
  show wSs D.T (wCall D.T D.fi m') (startA 2 [.ref a, .int k]) _ _ b__law_room
  simp only [b__law_room]
  simp only [startA, List.map_cons, List.map_nil, List.length_cons, List.length_nil, List.replicate, List.cons_append, List.nil_append, Nat.reduceAdd, Nat.reduceSub]
  walk_at "ts"
  refine drw_any rfl (by omega) e (by omega) (by omega) (by omega) fun v v0 v1 => ?_
  walk_at "ts"
  by_cases hv : v = 0
  · rw [decide_eq_true hv]
    walk_at "ts"
    refine great_any rfl (by omega) e fun w w0 w1 => ?_
    exact ⟨_, Sub.refl _, q _ (by omega)⟩
  · rw [decide_eq_false hv]
    walk_at "ts"
    refine drw_any rfl (by omega) e (by omega) (by omega) (by omega) fun w w0 w1 => ?_
    exact ⟨_, Sub.refl _, q _ (by omega)⟩
theorem part_ok {k r : Int} (hn : 2 ≤ n) (e : rdL h a = some (ns.map .int)) (k1 : -1000000 < k) (k2 : k < 1000000) (hr : 0 ≤ r) (q : ∀ v : Int, 0 ≤ v → v ≤ r → Q (.int v) h) : wCall D.T D.fi n 7 [.ref a, .int k, .int r] h Q Y := by
  obtain ⟨m', rfl⟩ : ∃ m, n = m + 1 := ⟨n - 1, by omega⟩
  refine ⟨_, rfl, rfl, ?_⟩
  show wSs D.T (wCall D.T D.fi m') (startA 4 [.ref a, .int k, .int r]) _ _ b__law_part
  simp only [b__law_part]
  simp only [startA, List.map_cons, List.map_nil, List.length_cons, List.length_nil, List.replicate, List.cons_append, List.nil_append, Nat.reduceAdd, Nat.reduceSub]
  walk_at "ts"
  refine drw_any rfl (by omega) e (by omega) (by omega) (by omega) fun v v0 v1 => ?_
  walk_at "ts"
  refine mod_i (by omega) ?_
  have m1 := Int.emod_nonneg v (show r + 1 ≠ 0 by omega)
  have m2 := Int.emod_lt_of_pos v (show 0 < r + 1 by omega)
  generalize v % (r + 1) = sm at m1 m2
  walk_at "ts"
  refine fdiv_i (by omega) (by omega) ?_
  walk_at "ts"
  refine great_any rfl (by omega) e fun w w0 w1 => ?_
  walk_at "ts"
  refine mod_i (by omega) ?_
  have l1 := Int.emod_nonneg w (show r + 1 ≠ 0 by omega)
  have l2 := Int.emod_lt_of_pos w (show 0 < r + 1 by omega)
  generalize w % (r + 1) = gr at l1 l2
  walk_at "ts"
  refine ⟨by simp [sizeLine], fun p np => ?_⟩
  refine drw_any rfl (by omega) (rdL_sub (Sub.new np) e) (by omega) (by omega) (by omega) fun u u0 u1 => ?_
  have key : ∀ i : Nat, i < 6 → ∃ x : Int, 0 ≤ x ∧ x ≤ r ∧ [DV.int 0, .int r, .int (r / 2), .int sm, .int gr, .int sm][i]? = some (.int x) := by
    intro i hi
    match i, hi with
    | 0, _ => exact ⟨0, by omega, by omega, rfl⟩
    | 1, _ => exact ⟨r, by omega, by omega, rfl⟩
    | 2, _ => exact ⟨r / 2, by omega, by omega, rfl⟩
    | 3, _ => exact ⟨sm, by omega, by omega, rfl⟩
    | 4, _ => exact ⟨gr, by omega, by omega, rfl⟩
    | 5, _ => exact ⟨sm, by omega, by omega, rfl⟩
  obtain ⟨x, x0, x1, ex⟩ := key u.toNat (by omega)
  refine ix_l (rdL_l au_same) (d := .int x) (by rw [atI_nat u0 (by simpa using u1)]; exact ex) ?_
  exact ⟨_, Sub.new np, q x x0 x1⟩
theorem mod4 {L t i j : Nat} (hL : 0 < L) (hL4 : L ≤ 4) (ht : t < L) (hi : i < j) (hj : j < L) : (t + i) % L ≠ (t + j) % L := by
  have : L = 1 ∨ L = 2 ∨ L = 3 ∨ L = 4 := by omega
  rcases this with rfl | rfl | rfl | rfl <;> omega
theorem need_ok {k : Int} {R : Addr} {rooms : List Int} (hn : 3 ≤ n) (e : rdL h a = some (ns.map .int)) (eR : rdL h R = some (rooms.map .int)) (l0 : 0 < rooms.length) (l4 : rooms.length ≤ 4) (hr : ∀ x ∈ rooms, 1 ≤ x) (k1 : -100000 < k) (k2 : k < 100000) (q : ∀ j : Jb, GJ rooms j → newO (.lst (jobD j)) h Q) : wCall D.T D.fi n 8 [.ref a, .int k, .ref R] h Q Y := by
  obtain ⟨m', rfl⟩ : ∃ m, n = m + 1 := ⟨n - 1, by omega⟩
  refine ⟨_, rfl, rfl, ?_⟩
  show wSs D.T (wCall D.T D.fi m') (startA 7 [.ref a, .int k, .ref R]) _ _ b__law_need
  simp only [b__law_need]
  simp only [startA, List.map_cons, List.map_nil, List.length_cons, List.length_nil, List.replicate, List.cons_append, List.nil_append, Nat.reduceAdd, Nat.reduceSub]
  walk_at "ts"
  refine ⟨by decide, fun p np => ?_⟩
  walk_at "ts"
  have x0 : Sub h (au h p (.lst [])) := Sub.new np
  rw [len_l (rdL_sub x0 eR)]
  refine drw_any rfl (by omega) (rdL_sub x0 e) (by omega) (by omega) (by simp; omega) fun t t0 t1 => ?_
  walk_at "ts"
  rw [len_l (rdL_sub x0 eR)]
  walk_at "ts"
  refine ⟨by omega, by simp; omega, ?_⟩
  rw [List.length_map, show ((rooms.length : Nat) : Int).toNat = rooms.length by omega]
  rw [List.length_map] at t1
  obtain ⟨t', rfl⟩ := Int.eq_ofNat_of_zero_le t0
  refine range_ind (fun i s' h' => ∃ (j : Jb) (x y : Option DV), h' = au h p (.lst (jobD j)) ∧ j.length ≤ i ∧ GJ rooms j ∧ (∀ q ∈ j, ∃ i' < i, q.1 = (t' + i') % rooms.length) ∧ s' = [some (.ref a), some (.int k), some (.ref R), some (.ref p), some (.int (t' : Nat)), x, y]) ?_ ?_ ?_
  · exact ⟨[], _, _, rfl, by simp, ⟨by simp, by simp, by simp, by simp⟩, by simp, rfl⟩
  · rintro i s' h' hi ⟨j, x, y, rfl, hl, G, hd, rfl⟩
    have x1 : Sub h (au h p (.lst (jobD j))) := Sub.new np
    refine ⟨trivial, _, rfl, fun K' q' _ _ _ => ?_⟩
    simp only [l0__law_need]
    walk_at "ts"
    rw [len_l (rdL_sub x1 eR)]
    rw [List.length_map]
    refine mod_i (by omega) ?_
    have ec : ((t' : Int) + (i : Int)) % (rooms.length : Int) = (((t' + i) % rooms.length : Nat) : Int) := by simp
    rw [ec]
    have htr := Nat.mod_lt (t' + i) l0
    walk_at "ts"
    refine drw_any rfl (by omega) (rdL_sub x1 e) (by omega) (by omega) (by omega) fun v v0 v1 => ?_
    walk_at "ts"
    by_cases hv : 0 < v
    · rw [decide_eq_true hv]
      walk_at "ts"
      refine ⟨recv_l rfl (rdL_l au_same), ?_⟩
      refine mul_l (by omega) (by omega) ?_
      walk_at "ts"
      refine ix_nat (rdL_sub x1 eR) htr ?_
      have hro : 1 ≤ rooms.getD ((t' + i) % rooms.length) 0 := by
        rw [List.getD_eq_getElem?_getD, List.getElem?_eq_getElem htr]
        exact hr _ (List.getElem_mem htr)
      refine part_ok (by omega) (rdL_sub x1 e) (by omega) (by omega) (by omega) fun w w0 w1 => ?_
      refine ⟨by simp [sizeLine], ?_⟩
      refine app_l au_same (by have : sizeLine = 16777216 := sizeLine_eq; simp [jobD]; omega) ?_
      rw [au_au]
      refine q' _ _ ⟨_, Sub.refl _, j ++ [((t' + i) % rooms.length, w)], _, _, ?_, by simp; omega, ⟨?_, ?_, ?_, ?_⟩, ?_, rfl⟩
      · simp [jobD, pD]
      · rw [List.map_append, List.nodup_append]
        refine ⟨G.nd, by simp, ?_⟩
        intro b hb c hc
        simp only [List.map_cons, List.map_nil, List.mem_cons, List.not_mem_nil, or_false] at hc
        subst hc
        obtain ⟨r, hr1, rfl⟩ := List.mem_map.mp hb
        obtain ⟨i', hi', er⟩ := hd r hr1
        rw [er]
        exact mod4 l0 l4 (by omega) hi' hi
      · intro r hr1
        rcases List.mem_append.mp hr1 with hr1 | hr1
        · exact G.lt r hr1
        · simp at hr1; subst hr1; exact htr
      · intro r hr1
        rcases List.mem_append.mp hr1 with hr1 | hr1
        · exact G.nn r hr1
        · simp at hr1; subst hr1; exact w0
      · intro r hr1
        rcases List.mem_append.mp hr1 with hr1 | hr1
        · exact G.le r hr1
        · simp at hr1; subst hr1; exact w1
      · intro r hr1
        rcases List.mem_append.mp hr1 with hr1 | hr1
        · obtain ⟨i', hi', er⟩ := hd r hr1
          exact ⟨i', by omega, er⟩
        · simp at hr1; subst hr1; exact ⟨i, by omega, rfl⟩
    · rw [decide_eq_false hv]
      walk_at "ts"
      exact q' _ _ ⟨_, Sub.refl _, j, _, _, rfl, by omega, G, fun r hr1 => by
        obtain ⟨i', hi', er⟩ := hd r hr1
        exact ⟨i', by omega, er⟩, rfl⟩
  · rintro s' h' ⟨j, x, y, rfl, hl, G, hd, rfl⟩
    refine ⟨trivial, ?_⟩
    walk_at "ts"
    exact ⟨_, Sub.refl _, q j G p np⟩
theorem needs_ok {R : Addr} {rooms : List Int} (hn : 4 ≤ n) (e : rdL h a = some (ns.map .int)) (eR : rdL h R = some (rooms.map .int)) (l0 : 0 < rooms.length) (l4 : rooms.length ≤ 4) (hr : ∀ x ∈ rooms, 1 ≤ x) (q : ∀ (W : Addr) (ps : List Addr) (js : List Jb) (h' : AH), Sub h h' → LL h' W ps js → (∀ j ∈ js, GJ rooms j) → 1 ≤ js.length ∧ js.length ≤ 61 → Q (.ref W) h') : wCall D.T D.fi n 9 [.ref a, .ref R] h Q Y := by
  obtain ⟨m', rfl⟩ : ∃ m, n = m + 1 := ⟨n - 1, by omega⟩
  refine ⟨_, rfl, rfl, ?_⟩
  show wSs D.T (wCall D.T D.fi m') (startA 4 [.ref a, .ref R]) _ _ b__law_needs
  simp only [b__law_needs]
  simp only [startA, List.map_cons, List.map_nil, List.length_cons, List.length_nil, List.replicate, List.cons_append, List.nil_append, Nat.reduceAdd, Nat.reduceSub]
  refine q_one fun K1 n1 _ _ _ => ?_
  walk_at "es"
  refine drw_any rfl (by omega) e (by omega) (by omega) (by omega) fun v v0 v1 => ?_
  refine n1 _ _ ?_
  clear n1
  refine cutS (fun s' h' => h' = h ∧ ∃ m : Nat, (1 ≤ m ∧ m ≤ 61) ∧ s' = [some (.ref a), some (.ref R), some (.int (m : Nat)), none]) (fun K1 n1 _ _ _ => ?_) ?_
  · obtain ⟨v, rfl⟩ := Int.eq_ofNat_of_zero_le v0
    walk_at "es"
    refine drw_any rfl (by omega) e (by omega) (by omega) (by omega) fun w w0 w1 => ?_
    walk_at "es"
    by_cases hw : w = 1
    · rw [decide_eq_true hw]
      walk_at "ts"
      refine drw_any rfl (by omega) e (by omega) (by omega) (by omega) fun u u0 u1 => ?_
      walk_at "ts"
      obtain ⟨u, rfl⟩ := Int.eq_ofNat_of_zero_le u0
      exact n1 _ _ ⟨rfl, 22 + u, by omega, rfl⟩
    · rw [decide_eq_false hw]
      walk_at "ts"
      exact n1 _ _ ⟨rfl, 1 + v, by omega, rfl⟩
  · rintro s' h' ⟨rfl, m, hm, rfl⟩
    walk_at "ts"
    refine ⟨by omega, by omega, fun W nW => ?_⟩
    rw [show ((m : Nat) : Int).toNat = m by omega]
    refine lc_ind (fun i acc g => ∃ (ps : List Addr) (js : List Jb), acc = ps.map .ref ∧ ps.length = i ∧ js.length = i ∧ Sub h' g ∧ g W = some (.lst acc) ∧ (∀ (i : Nat) p j, ps[i]? = some p → js[i]? = some j → rdL g p = some (jobD j)) ∧ (∀ j ∈ js, GJ rooms j) ∧ (∀ p ∈ ps, p ≠ W)) ⟨[], [], rfl, rfl, rfl, Sub.new nW, au_same, by simp, by simp, by simp⟩ ?_ (by simp; omega) ?_ ?_
    · rintro i acc g ⟨ps, js, rfl, l1, l2, _, eg, _⟩
      exact ⟨by simp; omega, eg⟩
    · rintro i x acc g ex ⟨ps, js, rfl, l1, l2, sb, eg, hg, hj, hw⟩
      have hi := (List.getElem?_eq_some_iff.mp ex).1
      simp only [List.length_map, List.length_range] at hi
      rw [List.getElem?_map, List.getElem?_range hi] at ex
      cases ex
      refine ⟨trivial, _, rfl, fun N qN lN => ?_⟩
      simp only [wipeA, c0__law_needs]
      walk_at "ts"
      refine mul_l (by omega) (by omega) ?_
      walk_at "ts"
      refine need_ok (by omega) (rdL_sub sb e) (rdL_sub sb eR) l0 l4 hr (by omega) (by omega) fun j G p np => ?_
      have neW : W ≠ p := by
        rintro rfl
        rw [eg] at np; cases np
      refine ⟨_, _, Sub.refl _, by rw [au_ne neW]; exact eg, lN, ?_⟩
      refine qN _ _ ⟨ps ++ [p], js ++ [j], by simp, by simp [l1], by simp [l2], ?_, au_same, ?_, ?_, ?_⟩
      · exact (sb.trans (Sub.new np)).wr nW
      · intro k p' j' e1 e2
        by_cases hk : k < ps.length
        · rw [List.getElem?_append_left hk] at e1
          rw [List.getElem?_append_left (by omega)] at e2
          have hm := hg k p' j' e1 e2
          have h1 := hw p' (List.mem_of_getElem? e1)
          have h3 : rdL (au g p (.lst (jobD j))) p' = some (jobD j') := rdL_sub (Sub.new np) hm
          unfold rdL at h3 ⊢
          rw [au_ne h1]
          exact h3
        · have hk2 : k = ps.length := by
            have := (List.getElem?_eq_some_iff.mp e1).1
            simp at this; omega
          subst hk2
          rw [List.getElem?_append_right (Nat.le_refl _), Nat.sub_self] at e1
          rw [List.getElem?_append_right (by omega), show ps.length - js.length = 0 by omega] at e2
          cases e1; cases e2
          refine rdL_l ?_
          rw [au_ne (Ne.symm neW)]
          exact au_same
      · intro j' hj'
        rcases List.mem_append.mp hj' with hj' | hj'
        · exact hj j' hj'
        · simp at hj'; subst hj'; exact G
      · intro p' hp'
        rcases List.mem_append.mp hp' with hp' | hp'
        · exact hw p' hp'
        · simp at hp'; subst hp'; exact Ne.symm neW
    · rintro acc g ⟨ps, js, rfl, l1, l2, sb, eg, hg, hj, hw⟩
      refine ⟨trivial, _, Sub.refl _, q W ps js g sb ⟨rdL_l eg, by omega, hg⟩ hj ?_⟩
      rw [l2]; simp; omega
def pyP (p : Nat × Int) : PyData := .tuple [.int (p.1 : Nat), .int p.2]
def pyJ (j : Jb) : PyData := .list (j.map pyP)
theorem py_job {m : Nat} {p : Addr} {j : Jb} (e : rdL h p = some (jobD j)) : py h (m + 3) (.ref p) = some (pyJ j) := by
  refine py_lst e ?_
  rw [jobD, List.map_map]
  exact allO_map fun x _ => rfl
theorem py_ints {m : Nat} {p : Addr} {l : List Int} (e : rdL h p = some (l.map .int)) : py h (m + 2) (.ref p) = some (.list (l.map .int)) := by
  refine py_lst e ?_
  rw [List.map_map]
  exact allO_map fun x _ => rfl
theorem LL.py {m : Nat} {W : Addr} {ps : List Addr} {js : List Jb} (q : LL h W ps js) : PL.py h (m + 4) (.ref W) = some (.list (js.map pyJ)) := by
  refine py_lst q.e ?_
  rw [List.map_map]
  exact allO_same (by simp [q.l]) fun i p d e1 e2 => by
    rw [List.getElem?_map] at e2
    cases e3 : js[i]? with
    | none => rw [e3] at e2; cases e2
    | some j =>
      rw [e3] at e2
      cases e2
      exact py_job (q.g i p j e1 e3)
structure LB (h0 g : AH) (W : Addr) (ps : List Addr) (js : List Jb) : Prop where
  sb : Sub h0 g
  e : g W = some (.lst (ps.map .ref))
  l : ps.length = js.length
  g : ∀ (i : Nat) p j, ps[i]? = some p → js[i]? = some j → rdL g p = some (jobD j)
  ne : ∀ p ∈ ps, p ≠ W
theorem LB.ll {h0 g : AH} {W : Addr} {ps : List Addr} {js : List Jb} (q : LB h0 g W ps js) : LL g W ps js := ⟨rdL_l q.e, q.l, q.g⟩
theorem LB.step {h0 g : AH} {W p : Addr} {ps : List Addr} {js : List Jb} {j : Jb} (nW : h0 W = none) (q : LB h0 g W ps js) (np : g p = none) : LB h0 (au (au g p (.lst (jobD j))) W (.lst (ps.map .ref ++ [.ref p]))) W (ps ++ [p]) (js ++ [j]) := by
  have neW : W ≠ p := by
    rintro rfl
    rw [q.e] at np; cases np
  refine ⟨(q.sb.trans (Sub.new np)).wr nW, by rw [au_same]; simp, by simp [q.l], ?_, ?_⟩
  · intro k p' j' e1 e2
    by_cases hk : k < ps.length
    · rw [List.getElem?_append_left hk] at e1
      rw [List.getElem?_append_left (by rw [← q.l]; exact hk)] at e2
      have hm := q.g k p' j' e1 e2
      have h1 := q.ne p' (List.mem_of_getElem? e1)
      have h3 : rdL (au g p (.lst (jobD j))) p' = some (jobD j') := rdL_sub (Sub.new np) hm
      unfold rdL at h3 ⊢
      rw [au_ne h1]
      exact h3
    · have hk2 : k = ps.length := by
        have := (List.getElem?_eq_some_iff.mp e1).1
        simp at this; omega
      subst hk2
      rw [List.getElem?_append_right (Nat.le_refl _), Nat.sub_self] at e1
      rw [List.getElem?_append_right (by rw [q.l]; exact Nat.le_refl _), show ps.length - js.length = 0 by have := q.l; omega] at e2
      cases e1; cases e2
      refine rdL_l ?_
      rw [au_ne (Ne.symm neW)]
      exact au_same
  · intro p' hp'
    rcases List.mem_append.mp hp' with hp' | hp'
    · exact q.ne p' hp'
    · simp at hp'; subst hp'; exact Ne.symm neW
end

set_option maxHeartbeats 4000000
open PySem PySem.Spec PL
section
variable {h : AH} {Q : AQ} {Y : AX} {n : Nat}
theorem others_ok {e : Addr} {c : Nat} {fs : List DV} (hn : 1 ≤ n) (c1 : 1 ≤ c) (c2 : c ≤ 13) (eE : h e = some (.exc c fs)) (q : Q (.int 1) h) : wCall D.T D.fi n 12 [.ref e] h Q Y := by
  obtain ⟨m', rfl⟩ : ∃ m, n = m + 1 := ⟨n - 1, by omega⟩
  refine ⟨_, rfl, rfl, ?_⟩
  show wSs D.T (wCall D.T D.fi m') (startA 2 [.ref e]) _ _ b__law_others
  simp only [b__law_others]
  simp only [startA, List.map_cons, List.map_nil, List.length_cons, List.length_nil, List.replicate, List.cons_append, List.nil_append, Nat.reduceAdd, Nat.reduceSub]
  have nw : ∀ {g : AH} {o : AO} {Q' : AQ}, Sub h g → (∀ p g', Sub h g' → (∀ b u, g b = some u → g' b = some u) → g' p = some o → Q' (.ref p) g') → newO o g Q' := fun sb k p np => k p _ (sb.trans (Sub.new np)) (Sub.new np) au_same
  rcases (show c = 1 ∨ c = 2 ∨ c = 3 ∨ c = 4 ∨ c = 5 ∨ c = 6 ∨ c = 7 ∨ c = 8 ∨ c = 9 ∨ c = 10 ∨ c = 11 ∨ c = 12 ∨ c = 13 by omega) with rfl | rfl | rfl | rfl | rfl | rfl | rfl | rfl | rfl | rfl | rfl | rfl | rfl
  all_goals
    have sb := Sub.refl h
    walk_at "ts"
    iterate 4 (first | refine isi_x (b := true) (sb _ _ eE) rfl rfl ?_ | refine isi_x (b := false) (sb _ _ eE) rfl rfl ?_); walk_at "ts"
    refine ⟨Nat.le_of_ble_eq_true rfl, nw sb fun p1 g1 sb1 k1 e1 => ?_⟩
    walk_at "ts"
    iterate 4 (first | refine isi_x (b := true) (sb1 _ _ eE) rfl rfl ?_ | refine isi_x (b := false) (sb1 _ _ eE) rfl rfl ?_); walk_at "ts"
    refine ⟨Nat.le_of_ble_eq_true rfl, nw sb1 fun p2 g2 sb2 k2 e2 => ?_⟩
    walk_at "ts"
    refine add_l (k2 _ _ e1) e2 (Nat.le_of_ble_eq_true rfl) (nw sb2 fun p3 g3 sb3 k3 e3 => ?_)
    walk_at "ts"
    iterate 4 (first | refine isi_x (b := true) (sb3 _ _ eE) rfl rfl ?_ | refine isi_x (b := false) (sb3 _ _ eE) rfl rfl ?_); walk_at "ts"
    refine ⟨Nat.le_of_ble_eq_true rfl, nw sb3 fun p4 g4 sb4 k4 e4 => ?_⟩
    walk_at "ts"
    refine add_l (k4 _ _ e3) e4 (Nat.le_of_ble_eq_true rfl) (nw sb4 fun p5 g5 sb5 k5 e5 => ?_)
    walk_at "ts"
    rw [w_hsum]
    walk_at "ts"
    (first | refine isi_x (b := true) (sb5 _ _ eE) rfl rfl ?_ | refine isi_x (b := false) (sb5 _ _ eE) rfl rfl ?_); walk_at "ts"
    refine ⟨Nat.le_of_ble_eq_true rfl, nw sb5 fun p6 g6 sb6 k6 e6 => ?_⟩
    walk_at "ts"
    refine add_l (k6 _ _ e5) e6 (Nat.le_of_ble_eq_true rfl) (nw sb6 fun p7 g7 sb7 k7 e7 => ?_)
    first
    | exact ⟨p7, [true, false, false, false, false, false, false, false, false, false, false, false, false], rfl, rdL_l e7, h, sb7, q⟩
    | exact ⟨p7, [false, true, false, false, false, false, false, false, false, false, false, false, false], rfl, rdL_l e7, h, sb7, q⟩
    | exact ⟨p7, [false, false, true, false, false, false, false, false, false, false, false, false, false], rfl, rdL_l e7, h, sb7, q⟩
    | exact ⟨p7, [false, false, false, true, false, false, false, false, false, false, false, false, false], rfl, rdL_l e7, h, sb7, q⟩
    | exact ⟨p7, [false, false, false, false, true, false, false, false, false, false, false, false, false], rfl, rdL_l e7, h, sb7, q⟩
    | exact ⟨p7, [false, false, false, false, false, true, false, false, false, false, false, false, false], rfl, rdL_l e7, h, sb7, q⟩
    | exact ⟨p7, [false, false, false, false, false, false, true, false, false, false, false, false, false], rfl, rdL_l e7, h, sb7, q⟩
    | exact ⟨p7, [false, false, false, false, false, false, false, true, false, false, false, false, false], rfl, rdL_l e7, h, sb7, q⟩
    | exact ⟨p7, [false, false, false, false, false, false, false, false, true, false, false, false, false], rfl, rdL_l e7, h, sb7, q⟩
    | exact ⟨p7, [false, false, false, false, false, false, false, false, false, true, false, false, false], rfl, rdL_l e7, h, sb7, q⟩
    | exact ⟨p7, [false, false, false, false, false, false, false, false, false, false, true, false, false], rfl, rdL_l e7, h, sb7, q⟩
    | exact ⟨p7, [false, false, false, false, false, false, false, false, false, false, false, true, false], rfl, rdL_l e7, h, sb7, q⟩
    | exact ⟨p7, [false, false, false, false, false, false, false, false, false, false, false, false, true], rfl, rdL_l e7, h, sb7, q⟩
end

set_option maxHeartbeats 4000000
open PySem PySem.Spec PL
section
variable {h : AH} {Q : AQ} {Y : AX} {n : Nat}
theorem copy_ok {el : ASt → AH → AQ → Prop} {x : ASt} {W : Addr} {ps : List Addr} {js : List Jb} {i : Nat} {Qf : Addr → AH → Prop} (hc : ∀ (g : AH) (p : Addr) (xs : List DV) (Q : AQ), rdL g p = some xs → newO (.lst xs) g Q → el ((wipeA x [i]).set i (some (.ref p))) g Q) (eW : LL h W ps js) (hl : js.length ≤ 1000)
    (q : ∀ W' ps' g, h W' = none → LB h g W' ps' js → Qf W' g) : ∀ D, h D = none → wLc (fun h' => rdL h' W = some (ps.map .ref)) [i] [i] D (fun s h R => R true h) el (fun h' => Qf D h') x (ps.map .ref) (au h D (.lst [])) := by
  intro W' nW'
  refine lc_ind (fun i acc g => ∃ (ps' : List Addr), acc = ps'.map .ref ∧ ps'.length = i ∧ LB h g W' ps' (js.take i)) ⟨[], rfl, rfl, ⟨Sub.new nW', au_same, by simp, by simp, by simp⟩⟩ ?_ (by simp [eW.l]; omega) ?_ ?_
  · rintro i acc g ⟨ps', rfl, l1, B⟩
    exact ⟨by simp; omega, B.e⟩
  · rintro k x acc g ex ⟨ps', rfl, l1, B⟩
    rw [List.getElem?_map] at ex
    cases ep : ps[k]? with
    | none => rw [ep] at ex; cases ex
    | some p0 =>
      rw [ep] at ex
      cases ex
      have hi := (List.getElem?_eq_some_iff.mp ep).1
      have hi' : k < js.length := by rw [← eW.l]; exact hi
      have ej := List.getElem?_eq_getElem hi'
      refine ⟨rdL_sub B.sb eW.e, _, rfl, fun N qN lN => ?_⟩
      simp only [if_true]
      refine hc _ _ _ _ (rdL_sub B.sb (eW.g k p0 _ ep ej)) fun p np => ?_
      have neW : W' ≠ p := by
        rintro rfl
        rw [B.e] at np; cases np
      refine ⟨_, _, Sub.refl _, by rw [au_ne neW]; exact B.e, lN, ?_⟩
      refine qN (ps'.map DV.ref ++ [.ref p]) _ ⟨ps' ++ [p], by simp, by simp [l1], ?_⟩
      have := B.step (j := js[k]) nW' np
      rwa [List.take_append_getElem hi'] at this
  · rintro acc g ⟨ps', rfl, l1', B⟩
    rw [List.take_of_length_le (by simp [eW.l])] at B
    exact ⟨rdL_sub B.sb eW.e, q _ _ _ nW' B⟩
/-! ### jobs that need too much -/
def bj (rooms : List Int) (j : Jb) : Bool := j.any fun p => decide (rooms.getD p.1 0 < p.2)
def Lt (rooms : List Int) (js : List Jb) : Prop := ∀ j ∈ js, ∀ p ∈ j, p.1 < rooms.length
/-- the first of them -/
def FB (rooms : List Int) (js : List Jb) (k : Nat) : Prop := (∀ m, m < k → ∀ p ∈ js.getD m [], ¬ rooms.getD p.1 0 < p.2) ∧ k < js.length ∧ ∃ p ∈ js.getD k [], rooms.getD p.1 0 < p.2
theorem fb_of {rooms : List Int} : ∀ {js : List Jb}, (∃ j ∈ js, ∃ p ∈ j, rooms.getD p.1 0 < p.2) → ∃ k, FB rooms js k
  | [], h => by obtain ⟨j, hj, _⟩ := h; cases hj
  | j :: js, h => by
    by_cases hb : ∃ p ∈ j, rooms.getD p.1 0 < p.2
    · exact ⟨0, fun m hm => absurd hm (Nat.not_lt_zero _), by simp, by simpa using hb⟩
    · obtain ⟨k, h1, h2, h3⟩ := fb_of (js := js) (by
        obtain ⟨j', hj', hp⟩ := h
        rcases List.mem_cons.mp hj' with rfl | hj'
        · exact absurd hp hb
        · exact ⟨j', hj', hp⟩)
      refine ⟨k + 1, fun m hm => ?_, by simpa using h2, by simpa using h3⟩
      cases m with
      | zero => exact fun p hp hl => hb ⟨p, by simpa using hp, hl⟩
      | succ m => simpa using h1 m (by omega)
theorem look_bad {R W : Addr} {rooms : List Int} {ps : List Addr} {js : List Jb} {k : Nat} (hn : 1 ≤ n) (eR : rdL h R = some (rooms.map .int)) (eW : LL h W ps js) (hlt : Lt rooms js) (hk : FB rooms js k) (q : Y 13 [natD k] h) : wCall D.T D.fi n 0 [.ref R, .ref W] h Q Y := by
  obtain ⟨k1, k2, k3⟩ := hk
  obtain ⟨m', rfl⟩ : ∃ m, n = m + 1 := ⟨n - 1, by omega⟩
  refine ⟨_, rfl, rfl, ?_⟩
  show wSs D.T (wCall D.T D.fi m') (startA 6 [.ref R, .ref W]) _ _ b_look_at_needs
  simp only [b_look_at_needs]
  simp only [startA, List.map_cons, List.map_nil, List.length_cons, List.length_nil, List.replicate, List.cons_append, List.nil_append, Nat.reduceAdd, Nat.reduceSub]
  walk_at "ts"
  refine ⟨_, _, rfl, eW.e, ?_⟩
  refine list_ind (fun i s' h' => h' = h ∧ i ≤ k ∧ ∃ a b c d, s' = [some (.ref R), some (.ref W), a, b, c, d]) ⟨rfl, Nat.zero_le _, _, _, _, _, rfl⟩ ?_ ?_
  · rintro i x s' h' e ⟨rfl, hi, a, b, c, d, rfl⟩
    obtain ⟨p, j, e1, e2, e3, rfl⟩ := eW.at e
    have ej : js.getD i [] = j := by rw [List.getD_eq_getElem?_getD, e2]; rfl
    refine ⟨eW.e, _, rfl, fun K' q' hrt hb hx => ?_⟩
    simp only [l1_look_at_needs]
    walk_at "ts"
    refine it_l e3 ?_
    refine list_ind (fun i2 s2 h2 => h2 = h' ∧ (∀ m p, m < i2 → j[m]? = some p → ¬ rooms.getD p.1 0 < p.2) ∧ ∃ a b, s2 = [some (.ref R), some (.ref W), some (natD i), some (.ref p), a, b]) ⟨rfl, fun _ _ z => absurd z (Nat.not_lt_zero _), _, _, rfl⟩ ?_ ?_
    · rintro i2 x s2 h2 e' ⟨rfl, hg, a2, b2, rfl⟩
      obtain ⟨p2, f1, rfl⟩ := jobD_get e'
      have m := List.mem_of_getElem? f1
      refine ⟨e3, _, rfl, fun K2 q2 hrt2 hb2 hx2 => ?_⟩
      simp only [l0_look_at_needs]
      walk_at "ts"
      refine ix_nat eR (hlt j (List.mem_of_getElem? e2) p2 m) ?_
      walk_at "ts"
      by_cases hd : rooms.getD p2.1 0 < p2.2
      · have ei : i = k := by
          refine Nat.le_antisymm hi (Nat.le_of_not_lt fun hl => ?_)
          exact k1 i hl p2 (by rw [ej]; exact m) hd
        subst ei
        rw [decide_eq_true hd]
        walk_at "ts"
        refine ⟨rfl, ?_⟩
        rw [hx2, hx]
        exact ⟨_, Sub.refl _, q⟩
      · rw [decide_eq_false hd]
        walk_at "ts"
        refine q2 _ _ ⟨_, Sub.refl _, rfl, fun m p3 hm e3 => ?_, _, _, rfl⟩
        by_cases hm2 : m < i2
        · exact hg m p3 hm2 e3
        · have : m = i2 := by omega
          subst this
          rw [f1] at e3
          cases e3
          exact hd
    · rintro s2 h2 ⟨rfl, hg, a2, b2, rfl⟩
      refine ⟨e3, ?_⟩
      walk_at "ts"
      refine q' _ _ ⟨_, Sub.refl _, rfl, ?_, _, _, _, _, rfl⟩
      refine Nat.lt_of_le_of_ne hi fun ei => ?_
      subst ei
      obtain ⟨p3, hp3, hl3⟩ := k3
      rw [ej] at hp3
      obtain ⟨m, hm⟩ := List.getElem?_of_mem hp3
      have hml := (List.getElem?_eq_some_iff.mp hm).1
      exact hg m p3 (by simpa [jobD] using hml) hm hl3
  · rintro s' h' ⟨rfl, hi, a, b, c, d, rfl⟩
    have hln : (enumL 0 (ps.map DV.ref)).length = js.length := by rw [enumL_len, List.length_map, eW.l]
    omega
theorem walks_bad {R Hd W : Addr} {rooms : List Int} {ps : List Addr} {js : List Jb} {k : Nat} (hn : 2 ≤ n) (eR : rdL h R = some (rooms.map .int)) (eW : LL h W ps js) (hlt : Lt rooms js) (hk : FB rooms js k) (q : Y 13 [natD k] h) : wCall D.T D.fi n 2 [.ref R, .ref Hd, .ref W] h Q Y := by
  obtain ⟨m', rfl⟩ : ∃ m, n = m + 1 := ⟨n - 1, by omega⟩
  refine ⟨_, rfl, rfl, ?_⟩
  show wSs D.T (wCall D.T D.fi m') (startA 12 [.ref R, .ref Hd, .ref W]) _ _ b_walks
  simp only [b_walks]
  simp only [startA, List.map_cons, List.map_nil, List.length_cons, List.length_nil, List.replicate, List.cons_append, List.nil_append, Nat.reduceAdd, Nat.reduceSub]
  walk_at "ts"
  refine look_bad (by omega) eR eW hlt hk ?_
  exact ⟨_, Sub.refl _, q⟩
theorem first_ok {R W : Addr} {rooms : List Int} {ps : List Addr} {js : List Jb} {k : Nat} (hn : 1 ≤ n) (eR : rdL h R = some (rooms.map .int)) (eW : LL h W ps js) (hc : js.length ≤ 1000) (hlt : Lt rooms js) (hk : FB rooms js k) (q : Q (natD k) h) : wCall D.T D.fi n 11 [.ref R, .ref W] h Q Y := by
  obtain ⟨k1, k2, k3⟩ := hk
  obtain ⟨m', rfl⟩ : ∃ m, n = m + 1 := ⟨n - 1, by omega⟩
  refine ⟨_, rfl, rfl, ?_⟩
  show wSs D.T (wCall D.T D.fi m') (startA 5 [.ref R, .ref W]) _ _ b__law_first_bad
  simp only [b__law_first_bad]
  simp only [startA, List.map_cons, List.map_nil, List.length_cons, List.length_nil, List.replicate, List.cons_append, List.nil_append, Nat.reduceAdd, Nat.reduceSub]
  walk_at "ts"
  rw [len_l eW.e]
  walk_at "ts"
  rw [List.length_map, eW.l]
  refine ⟨by omega, by omega, ?_⟩
  rw [Int.toNat_natCast]
  refine range_ind (fun i s' h' => h' = h ∧ i ≤ k ∧ ∃ a b c, s' = [some (.ref R), some (.ref W), a, b, c]) ⟨rfl, Nat.zero_le _, _, _, _, rfl⟩ ?_ ?_
  · rintro i s' h' hil ⟨rfl, hi, a, b, c, rfl⟩
    obtain ⟨p, e1, e2, e3⟩ := eW.ix hil
    refine ⟨trivial, _, rfl, fun K' q' hrt hb hx => ?_⟩
    simp only [l1__law_first_bad]
    walk_at "ts"
    refine ix_l eW.e e2 ?_
    walk_at "ts"
    refine it_l e3 ?_
    refine list_ind (fun i2 s2 h2 => h2 = h' ∧ (∀ m p, m < i2 → (js.getD i [])[m]? = some p → ¬ rooms.getD p.1 0 < p.2) ∧ ∃ a b, s2 = [some (.ref R), some (.ref W), some (natD i), a, b]) ⟨rfl, fun _ _ z => absurd z (Nat.not_lt_zero _), _, _, rfl⟩ ?_ ?_
    · rintro i2 x s2 h2 e' ⟨rfl, hg, a2, b2, rfl⟩
      obtain ⟨p2, f1, rfl⟩ := jobD_get e'
      have m := List.mem_of_getElem? f1
      have mj : js.getD i [] ∈ js := by
        rw [List.getD_eq_getElem?_getD, List.getElem?_eq_getElem hil]
        exact List.getElem_mem hil
      refine ⟨e3, _, rfl, fun K2 q2 hrt2 hb2 hx2 => ?_⟩
      simp only [l0__law_first_bad]
      walk_at "ts"
      refine ix_nat eR (hlt _ mj p2 m) ?_
      walk_at "ts"
      by_cases hd : rooms.getD p2.1 0 < p2.2
      · have ei : i = k := by
          refine Nat.le_antisymm hi (Nat.le_of_not_lt fun hl => ?_)
          exact k1 i hl p2 m hd
        subst ei
        rw [decide_eq_true hd]
        walk_at "ts"
        rw [hrt2, hrt]
        exact ⟨_, Sub.refl _, q⟩
      · rw [decide_eq_false hd]
        walk_at "ts"
        refine q2 _ _ ⟨_, Sub.refl _, rfl, fun m p3 hm e3 => ?_, _, _, rfl⟩
        by_cases hm2 : m < i2
        · exact hg m p3 hm2 e3
        · have : m = i2 := by omega
          subst this
          rw [f1] at e3
          cases e3
          exact hd
    · rintro s2 h2 ⟨rfl, hg, a2, b2, rfl⟩
      refine ⟨e3, ?_⟩
      walk_at "ts"
      refine q' _ _ ⟨_, Sub.refl _, rfl, ?_, _, _, _, rfl⟩
      refine Nat.lt_of_le_of_ne hi fun ei => ?_
      subst ei
      obtain ⟨p3, hp3, hl3⟩ := k3
      obtain ⟨m, hm⟩ := List.getElem?_of_mem hp3
      have hml := (List.getElem?_eq_some_iff.mp hm).1
      exact hg m p3 (by simpa [jobD] using hml) hm hl3
  · rintro s' h' ⟨rfl, hi, a, b, c, rfl⟩
    omega
end

set_option maxHeartbeats 4000000
open PySem PySem.Spec PL
section
variable {h : AH} {Q : AQ} {Y : AX} {n : Nat}
theorem whole_h {i : Int} (hn : 1 ≤ n) (q : Q (.bl true) h) : wCall D.T D.fi n 17 [.int i] h Q Y := by
  obtain ⟨m', rfl⟩ : ∃ m, n = m + 1 := ⟨n - 1, by omega⟩
  refine ⟨_, rfl, rfl, ?_⟩
  show wSs D.T (wCall D.T D.fi m') (startA 1 [.int i]) _ _ b__law_whole_h
  simp only [b__law_whole_h]
  simp only [startA, List.map_cons, List.map_nil, List.length_cons, List.length_nil, List.replicate, List.cons_append, List.nil_append, Nat.reduceAdd, Nat.reduceSub]
  walk_at "ts"
  refine isi_1 rfl rfl ?_
  walk_at "ts"
  refine isi_1 rfl rfl ?_
  walk_at "ts"
  exact ⟨_, Sub.refl _, q⟩
theorem refused_ok {R Hd W : Addr} {rooms held : List Int} {ps : List Addr} {js : List Jb} {k : Nat} (hn : 3 ≤ n) (eR : rdL h R = some (rooms.map .int)) (eH : rdL h Hd = some (held.map .int)) (eW : LL h W ps js) (hc : js.length ≤ 1000) (hlt : Lt rooms js) (hk : FB rooms js k) (q : Q (.bl true) h) : wCall D.T D.fi n 13 [.ref R, .ref Hd, .ref W, natD k] h Q Y := by
  obtain ⟨m', rfl⟩ : ∃ m, n = m + 1 := ⟨n - 1, by omega⟩
  refine ⟨_, rfl, rfl, ?_⟩
  show wSs D.T (wCall D.T D.fi m') (startA 8 [.ref R, .ref Hd, .ref W, natD k]) _ _ b__law_refused
  simp only [b__law_refused]
  simp only [startA, List.map_cons, List.map_nil, List.length_cons, List.length_nil, List.replicate, List.cons_append, List.nil_append, Nat.reduceAdd, Nat.reduceSub]
  refine q_one fun K1 n1 rt1 bk1 xr1 => ?_
  walk_at "es"
  refine list_l eR fun R' nR' => ?_
  walk_at "ts"
  refine list_l (rdL_sub (Sub.new nR') eH) fun H' nH' => ?_
  walk_at "ts"
  have s1 : Sub h (au (au h R' (.lst (rooms.map .int))) H' (.lst (held.map .int))) := (Sub.new nR').trans (Sub.new nH')
  have eR4 : rdL (au (au h R' (.lst (rooms.map .int))) H' (.lst (held.map .int))) R' = some (rooms.map .int) := rdL_sub (Sub.new nH') (rdL_l au_same)
  have eH4 : rdL (au (au h R' (.lst (rooms.map .int))) H' (.lst (held.map .int))) H' = some (held.map .int) := rdL_l au_same
  generalize au (au h R' (.lst (rooms.map .int))) H' (.lst (held.map .int)) = h4 at s1 eR4 eH4
  have eW4 := eW.sub s1
  clear nR' nH'
  refine it_l eW4.e ?_
  refine copy_ok (i := 7) (fun g p xs Q e qn => ?_) eW4 hc fun W' ps' g _ B => ?_
  · simp only [wipeA, c0__law_refused]
    walk_at "ts"
    exact list_l e qn
  · have s5 := s1.trans B.sb
    have eR5 := rdL_sub B.sb eR4
    have eH5 := rdL_sub B.sb eH4
    have eW5 := B.ll
    clear B eW4 eR4 eH4 s1
    refine ⟨Nat.le_of_ble_eq_true rfl, fun Z nZ => ?_⟩
    refine n1 _ _ ?_
    clear n1 rt1 bk1 xr1 K1
    have s6 : Sub g (au g Z (.lst [.ref R', .ref H', .ref W'])) := Sub.new nZ
    have eZ : rdL (au g Z (.lst [.ref R', .ref H', .ref W'])) Z = some [.ref R', .ref H', .ref W'] := rdL_l au_same
    generalize au g Z (.lst [.ref R', .ref H', .ref W']) = h6 at s6 eZ
    have s7 := s5.trans s6
    have eW5 := eW5.sub s6
    have eR5 := rdL_sub s6 eR5
    have eH5 := rdL_sub s6 eH5
    clear s6 nZ s5
    refine q_one fun K1 n1 _ _ _ => ?_
    walk_at "ts"
    refine n1 _ _ ?_
    clear n1
    refine q_one fun K1 n1 rt1 bk1 xr1 => ?_
    walk_at "ts"
    simp only [l0__law_refused]
    walk_at "ts"
    refine ix_l eZ (d := .ref R') rfl ?_
    refine ix_l eZ (d := .ref H') rfl ?_
    refine ix_l eZ (d := .ref W') rfl ?_
    refine walks_bad (by omega) eR5 eW5 hlt hk ?_
    refine hs_yes rfl fun E nE => ?_
    have s8 : Sub h6 (au h6 E (.exc 13 [natD k])) := Sub.new nE
    have eE : au h6 E (.exc 13 [natD k]) E = some (.exc 13 [natD k]) := au_same
    generalize au h6 E (.exc 13 [natD k]) = h8 at s8 eE
    walk_at "ts"
    refine isi_x (b := true) eE rfl rfl ?_
    walk_at "ts"
    refine isi_x (b := true) eE rfl rfl ?_
    walk_at "ts"
    refine others_ok (by omega) (by omega) (by omega) eE ?_
    walk_at "ts"
    refine xfl_i eE rfl rfl ?_
    simp only [natD]
    refine whole_h (by omega) ?_
    walk_at "ts"
    refine xfl_i eE rfl rfl ?_
    walk_at "ts"
    refine n1 _ _ ?_
    clear n1 rt1 bk1 xr1 K1
    have s9 := s7.trans s8
    walk_at "ts"
    refine ⟨Nat.le_of_ble_eq_true rfl, fun Z2 nZ2 => ?_⟩
    have sA := s8.trans (Sub.new (o := .lst [.ref R, .ref Hd, .ref W]) nZ2)
    have sB := s7.trans sA
    refine eq_r (b := true) (eqD_same (p := .list [.list (rooms.map .int), .list (held.map .int), .list (js.map pyJ)]) (py_lst (rdL_sub sA eZ) ?_) (py_lst (rdL_l au_same) ?_)) ?_
    · rw [List.map_cons, List.map_cons, List.map_cons, List.map_nil, py_ints (rdL_sub sA eR5), py_ints (rdL_sub sA eH5), (eW5.sub sA).py]; rfl
    · rw [List.map_cons, List.map_cons, List.map_cons, List.map_nil, py_ints (rdL_sub sB eR), py_ints (rdL_sub sB eH), (eW.sub sB).py]; rfl
    walk_at "ts"
    exact ⟨_, sB, q⟩
end

set_option maxHeartbeats 4000000
open PySem PySem.Spec PL
theorem LB.up {h0 g g' : AH} {W : Addr} {ps : List Addr} {js : List Jb} (B : LB h0 g W ps js) (x : Sub g g') : LB h0 g' W ps js :=
  ⟨B.sb.trans x, x _ _ B.e, B.l, fun i p j a b => rdL_sub x (B.g i p j a b), B.ne⟩
theorem LB.put {h0 g : AH} {W p : Addr} {ps : List Addr} {js : List Jb} {j : Jb} {i : Nat} (nW : h0 W = none) (B : LB h0 g W ps js) (ep : rdL g p = some (jobD j)) (np : p ≠ W) (hi : i < js.length) : LB h0 (au g W (.lst ((ps.map DV.ref).set i (.ref p)))) W (ps.set i p) (js.set i j) := by
  have keep : ∀ b xs, b ≠ W → rdL g b = some xs → rdL (au g W (.lst ((ps.map DV.ref).set i (.ref p)))) b = some xs := fun b xs hb e => by
    unfold rdL at e ⊢
    rw [au_ne hb]
    exact e
  refine ⟨B.sb.wr nW, by rw [au_same, List.map_set], by simp [B.l], ?_, ?_⟩
  · intro k p' j' e1 e2
    by_cases hk : i = k
    · subst hk
      rw [List.getElem?_set_self (by rw [B.l]; exact hi)] at e1
      rw [List.getElem?_set_self hi] at e2
      cases e1; cases e2
      exact keep _ _ np ep
    · rw [List.getElem?_set_ne hk] at e1 e2
      exact keep _ _ (B.ne p' (List.mem_of_getElem? e1)) (B.g k p' j' e1 e2)
  · intro p' hp'
    rcases List.mem_or_eq_of_mem_set hp' with h | h
    · exact B.ne p' h
    · rw [h]; exact np
theorem nd_len : ∀ (L : Nat) (l : List Nat), l.Nodup → (∀ x ∈ l, x < L) → l.length ≤ L
  | 0, l, _, h => by
    cases l with
    | nil => simp
    | cons x l => exact absurd (h x (by simp)) (Nat.not_lt_zero _)
  | L + 1, l, nd, h => by
    by_cases hm : L ∈ l
    · have h1 := nd_len L (l.erase L) (nd.erase L) fun x hx => by
        have h2 := (nd.mem_erase_iff).mp hx
        have h3 := h x h2.2
        omega
      rw [List.length_erase_of_mem hm] at h1
      have := List.length_pos_of_mem hm
      omega
    · have h1 := nd_len L l nd fun x hx => by
        have h3 := h x hx
        have : x ≠ L := by rintro rfl; exact hm hx
        omega
      omega
theorem GJ.len {rooms : List Int} {j : Jb} (G : GJ rooms j) : j.length ≤ rooms.length := by
  have := nd_len rooms.length (j.map Prod.fst) G.nd fun x hx => by
    obtain ⟨p, hp, rfl⟩ := List.mem_map.mp hx
    exact G.lt p hp
  simpa using this
def Bad (rooms : List Int) (js : List Jb) : Prop := ∃ j ∈ js, ∃ p ∈ j, rooms.getD p.1 0 < p.2
section
variable {h : AH} {Q : AQ} {Y : AX} {n : Nat} {a : Addr} {ns : List Int}
theorem spoilt_ok {R W : Addr} {rooms : List Int} {ps : List Addr} {js : List Jb} (hn : 3 ≤ n) (e : rdL h a = some (ns.map .int)) (eR : rdL h R = some (rooms.map .int)) (eW : LL h W ps js) (l0 : 0 < rooms.length) (l4 : rooms.length ≤ 4) (hj : ∀ j ∈ js, GJ rooms j) (c0 : 1 ≤ js.length) (hc : js.length ≤ 61)
    (q : ∀ (W' : Addr) (ps' : List Addr) (js' : List Jb) (h' : AH), Sub h h' → LL h' W' ps' js' → js'.length = js.length → Lt rooms js' → Bad rooms js' → Q (.ref W') h') : wCall D.T D.fi n 10 [.ref a, .ref R, .ref W] h Q Y := by
  obtain ⟨m', rfl⟩ : ∃ m, n = m + 1 := ⟨n - 1, by omega⟩
  refine ⟨_, rfl, rfl, ?_⟩
  show wSs D.T (wCall D.T D.fi m') (startA 12 [.ref a, .ref R, .ref W]) _ _ b__law_spoilt
  simp only [b__law_spoilt]
  simp only [startA, List.map_cons, List.map_nil, List.length_cons, List.length_nil, List.replicate, List.cons_append, List.nil_append, Nat.reduceAdd, Nat.reduceSub]
  refine q_one fun K1 n1 rt1 bk1 xr1 => ?_
  walk_at "es"
  refine it_l eW.e ?_
  refine copy_ok (i := 10) (fun g p xs Q e qn => ?_) eW (by omega) fun W' ps' g nW' B => ?_
  · simp only [wipeA, c0__law_spoilt]
    walk_at "ts"
    exact list_l e qn
  · refine n1 _ _ ?_
    clear n1 rt1 bk1 xr1 K1
    refine q_one fun K1 n1 rt1 bk1 xr1 => ?_
    walk_at "es"
    refine drw_any rfl (by omega) (rdL_sub B.sb e) (by omega) (by omega) (by omega) fun v v0 v1 => ?_
    walk_at "ts"
    obtain ⟨v, rfl⟩ := Int.eq_ofNat_of_zero_le v0
    refine ⟨by omega, by omega, ?_⟩
    rw [show ((1 : Int) + (v : Int)).toNat = 1 + v by omega]
    refine range_ind (fun i s' g => ∃ (ps' : List Addr) (js' : List Jb) (b c d e f x y z : Option DV), LB h g W' ps' js' ∧ js'.length = js.length ∧ Lt rooms js' ∧ (∀ j ∈ js', j.length ≤ 4 + i) ∧ (1 ≤ i → Bad rooms js') ∧ s' = [some (.ref a), some (.ref R), some (.ref W), some (.ref W'), b, c, d, e, f, x, y, z]) ?_ ?_ ?_
    · exact ⟨ps', js, _, _, _, _, _, _, _, _, B, rfl, fun j hj' p hp => (hj j hj').lt p hp, fun j hj' => Nat.le_trans (hj j hj').len l4, fun h => absurd h (by omega), rfl⟩
    · rintro i s' g2 hi ⟨ps2, js2, b, c, d, e_, f, x, y, z, B2, l2, lt2, ln2, _, rfl⟩
      refine ⟨trivial, _, rfl, fun K' q' _ _ _ => ?_⟩
      clear B
      simp only [l0__law_spoilt]
      have ea2 := rdL_sub B2.sb e
      have eR2 := rdL_sub B2.sb eR
      have eW2 := (eW.sub B2.sb)
      refine q_one fun K1 n1 _ _ _ => ?_
      walk_at "ts"
      refine mul_l (by omega) (by omega) ?_
      walk_at "ts"
      rw [len_l eW2.e]
      walk_at "ts"
      rw [List.length_map, eW.l]
      refine drw_any rfl (by omega) ea2 (by omega) (by omega) (by omega) fun pl p0 p1 => ?_
      obtain ⟨pl, rfl⟩ := Int.eq_ofNat_of_zero_le p0
      walk_at "ts"
      refine n1 _ _ ?_
      clear n1
      refine q_one fun K1 n1 _ _ _ => ?_
      walk_at "ts"
      refine mul_l (by omega) (by omega) ?_
      walk_at "ts"
      rw [len_l eR2]
      walk_at "ts"
      rw [List.length_map]
      refine drw_any rfl (by omega) ea2 (by omega) (by omega) (by omega) fun tr t0 t1 => ?_
      obtain ⟨tr, rfl⟩ := Int.eq_ofNat_of_zero_le t0
      walk_at "ts"
      refine n1 _ _ ?_
      clear n1
      refine cutS (fun s' g3 => ∃ (mo : Int), 1 ≤ mo ∧ Sub g2 g3 ∧ s' = [some (.ref a), some (.ref R), some (.ref W), some (.ref W'), some (.int (i : Nat)), some (.int (pl : Nat)), some (.int (tr : Nat)), some (.int mo), f, x, y, z]) (fun K1 n1 _ _ _ => ?_) ?_
      · walk_at "ts"
        refine mul_l (by omega) (by omega) ?_
        walk_at "ts"
        refine great_any rfl (by omega) ea2 fun gr g0 g1 => ?_
        walk_at "ts"
        refine ⟨Nat.le_of_ble_eq_true rfl, fun P nP => ?_⟩
        walk_at "ts"
        refine mul_l (by omega) (by omega) ?_
        walk_at "ts"
        refine drw_any rfl (by omega) (rdL_sub (Sub.new nP) ea2) (by omega) (by omega) (by omega) fun w w0 w1 => ?_
        have hw : w = 0 ∨ w = 1 := by omega
        rcases hw with rfl | rfl
        · refine ix_l (rdL_l au_same) (d := .int 0) rfl ?_
          walk_at "ts"
          exact n1 _ _ ⟨1 + 0, by omega, Sub.new nP, rfl⟩
        · refine ix_l (rdL_l au_same) (d := .int gr) rfl ?_
          walk_at "ts"
          exact n1 _ _ ⟨1 + gr, by omega, Sub.new nP, rfl⟩
      · rintro s' g3 ⟨mo, hmo, sb3, rfl⟩
        have B3 := B2.up sb3
        have ea3 := rdL_sub sb3 ea2
        have eR3 := rdL_sub sb3 eR2
        clear sb3 ea2 eR2 eW2 B2
        have hpl : pl < js2.length := by omega
        obtain ⟨pj, ep1, ep2, ep3⟩ := B3.ll.ix hpl
        refine q_one fun K1 n1 _ _ _ => ?_
        walk_at "es"
        refine ix_l (rdL_l B3.e) ep2 ?_
        walk_at "ts"
        refine it_l ep3 ?_
        intro D nD
        generalize hJ : js2.getD pl [] = J at ep3
        have hJm : J ∈ js2 := by
          rw [← hJ, List.getD_eq_getElem?_getD, List.getElem?_eq_getElem hpl]
          exact List.getElem_mem hpl
        have sD : ∀ xs, Sub g3 (au g3 D (.lst xs)) := fun xs => Sub.new nD
        refine lc_ind (fun k acc g => acc = jobD ((J.take k).filter fun p => decide (p.1 ≠ tr)) ∧ g = au g3 D (.lst acc)) ⟨rfl, rfl⟩ ?_ ?_ ?_ ?_
        · rintro k acc g ⟨rfl, rfl⟩
          refine ⟨?_, au_same⟩
          simp only [jobD, List.length_map]
          exact Nat.le_trans (List.length_filter_le _ _) (by rw [List.length_take]; omega)
        · have := ln2 J hJm
          simp only [jobD, List.length_map]
          omega
        · rintro k x acc g ex ⟨rfl, rfl⟩
          obtain ⟨p2, f1, rfl⟩ := jobD_get ex
          have hk := (List.getElem?_eq_some_iff.mp f1).1
          have ek : J.take (k + 1) = J.take k ++ [p2] := by
            rw [← List.take_append_getElem hk]
            congr 2
            rw [List.getElem?_eq_getElem hk] at f1
            rw [Option.some.inj f1]
          refine ⟨rdL_sub (sD _) ep3, _, rfl, fun N qN lN => ?_⟩
          simp only [wipeA, i1__law_spoilt, c1__law_spoilt]
          walk_at "ts"
          refine ix_t rfl ?_
          walk_at "ts"
          by_cases hp : p2.1 = tr
          · rw [hp, decide_eq_true rfl]
            simp only [Bool.not_true, Bool.false_eq_true, if_false]
            refine ⟨_, Sub.refl _, qN _ _ ⟨?_, rfl⟩⟩
            rw [ek, List.filter_append]
            simp [hp, jobD]
          · rw [decide_eq_false (show ¬ ((p2.1 : Int) = (tr : Int)) by omega)]
            simp only [Bool.not_false, if_true]
            refine ⟨_, _, Sub.refl _, au_same, lN, ?_⟩
            rw [au_au]
            refine qN _ _ ⟨?_, rfl⟩
            rw [ek, List.filter_append]
            simp [hp, jobD]
        · rintro acc g ⟨rfl, rfl⟩
          have hlen : (jobD J).length = J.length := by simp [jobD]
          rw [hlen, List.take_length]
          generalize hO : J.filter (fun p => decide (p.1 ≠ tr)) = O
          have eO : (au g3 D (.lst (jobD O))) D = some (.lst (jobD O)) := au_same
          have B4 := B3.up (sD (jobD O))
          have ea4 := rdL_sub (sD (jobD O)) ea3
          have eR4 := rdL_sub (sD (jobD O)) eR3
          have nDW : D ≠ W' := by
            rintro rfl
            rw [B3.e] at nD; cases nD
          refine ⟨rdL_sub (sD _) ep3, n1 _ _ ?_⟩
          clear n1 B3 ea3 eR3 ep3 ep1
          generalize au g3 D (.lst (jobD O)) = g4 at eO B4 ea4 eR4
          have hOl : O.length ≤ J.length := by rw [← hO]; exact List.length_filter_le _ _
          have hOm : ∀ p ∈ O, p ∈ J := fun p hp => by rw [← hO] at hp; exact (List.mem_filter.mp hp).1
          have hJl := ln2 J hJm
          refine q_one fun K1 n1 _ _ _ => ?_
          walk_at "es"
          refine mul_l (by omega) (by omega) ?_
          walk_at "es"
          rw [len_l (rdL_l eO)]
          walk_at "es"
          refine drw_any rfl (by omega) ea4 (by omega) (by omega) (by omega) fun at_ a0 a1 => ?_
          obtain ⟨at_, rfl⟩ := Int.eq_ofNat_of_zero_le a0
          refine n1 _ _ ?_
          clear n1
          walk_at "ts"
          refine sl_l (rdL_l eO) fun S1 nS1 => ?_
          rw [cutL_to _ (by omega), Int.toNat_natCast]
          have s5 : Sub g4 (au g4 S1 (.lst ((jobD O).take at_))) := Sub.new nS1
          have e5 : (au g4 S1 (.lst ((jobD O).take at_))) S1 = some (.lst ((jobD O).take at_)) := au_same
          generalize au g4 S1 (.lst ((jobD O).take at_)) = g5 at s5 e5
          walk_at "ts"
          refine ix_nat (i := tr) (rdL_sub s5 eR4) (by omega) ?_
          walk_at "ts"
          refine ⟨Nat.le_of_ble_eq_true rfl, Nat.le_of_ble_eq_true rfl, fun S2 nS2 => ?_⟩
          have s6 : Sub g5 (au g5 S2 (.lst [.tup [.int (tr : Nat), .int (rooms.getD tr 0 + mo)]])) := Sub.new nS2
          have e6 : (au g5 S2 (.lst [.tup [.int (tr : Nat), .int (rooms.getD tr 0 + mo)]])) S2 = some (.lst [pD (tr, rooms.getD tr 0 + mo)]) := au_same
          generalize au g5 S2 (.lst [.tup [.int (tr : Nat), .int (rooms.getD tr 0 + mo)]]) = g6 at s6 e6
          walk_at "ts"
          refine add_l (s6 _ _ e5) e6 ?_ fun S3 nS3 => ?_
          · rw [List.length_take, sizeLine_eq]; simp only [jobD, List.length_map, List.length_singleton]; omega
          have s7 : Sub g6 (au g6 S3 (.lst ((jobD O).take at_ ++ [pD (tr, rooms.getD tr 0 + mo)]))) := Sub.new nS3
          have e7 : (au g6 S3 (.lst ((jobD O).take at_ ++ [pD (tr, rooms.getD tr 0 + mo)]))) S3 = some (.lst ((jobD O).take at_ ++ [pD (tr, rooms.getD tr 0 + mo)])) := au_same
          generalize au g6 S3 (.lst ((jobD O).take at_ ++ [pD (tr, rooms.getD tr 0 + mo)])) = g7 at s7 e7
          walk_at "ts"
          have s57 := s5.trans (s6.trans s7)
          refine sl_l (rdL_sub s57 (rdL_l eO)) fun S4 nS4 => ?_
          rw [cutL_from _ (by omega), Int.toNat_natCast]
          have s8 : Sub g7 (au g7 S4 (.lst ((jobD O).drop at_))) := Sub.new nS4
          have e8 : (au g7 S4 (.lst ((jobD O).drop at_))) S4 = some (.lst ((jobD O).drop at_)) := au_same
          generalize au g7 S4 (.lst ((jobD O).drop at_)) = g8 at s8 e8
          walk_at "ts"
          refine add_l (s8 _ _ e7) e8 ?_ fun S5 nS5 => ?_
          · rw [List.length_append, List.length_take, List.length_drop, sizeLine_eq]; simp only [jobD, List.length_map, List.length_singleton]; omega
          have B8 := B4.up (s57.trans s8)
          have nS5W : S5 ≠ W' := by
            rintro rfl
            rw [B8.e] at nS5; cases nS5
          have hN : (jobD O).take at_ ++ [pD (tr, rooms.getD tr 0 + mo)] ++ (jobD O).drop at_ = jobD (O.take at_ ++ [(tr, rooms.getD tr 0 + mo)] ++ O.drop at_) := by
            simp [jobD, List.map_take, List.map_drop]
          rw [hN]
          have B9 := B8.up (Sub.new (o := .lst (jobD (O.take at_ ++ [(tr, rooms.getD tr 0 + mo)] ++ O.drop at_))) nS5)
          have e9 : (au g8 S5 (.lst (jobD (O.take at_ ++ [(tr, rooms.getD tr 0 + mo)] ++ O.drop at_)))) S5 = some (.lst (jobD (O.take at_ ++ [(tr, rooms.getD tr 0 + mo)] ++ O.drop at_))) := au_same
          walk_at "ts"
          refine set_l B9.e (ixN_nat (by omega) (by rw [List.length_map, B9.l]; omega)) ?_
          have hNm : ∀ p ∈ O.take at_ ++ [(tr, rooms.getD tr 0 + mo)] ++ O.drop at_, p ∈ J ∨ p = (tr, rooms.getD tr 0 + mo) := fun p hp => by
            rcases List.mem_append.mp hp with hp | hp
            · rcases List.mem_append.mp hp with hp | hp
              · exact .inl (hOm p (List.mem_of_mem_take hp))
              · exact .inr (by simpa using hp)
            · exact .inl (hOm p (List.mem_of_mem_drop hp))
          refine q' _ _ ⟨_, Sub.refl _, _, _, _, _, _, _, _, _, _, _, B9.put nW' (rdL_l e9) nS5W hpl, by rw [List.length_set]; exact l2, ?_, ?_, fun _ => ?_, rfl⟩
          · intro j hj' p hp
            rcases List.mem_or_eq_of_mem_set hj' with hj' | rfl
            · exact lt2 j hj' p hp
            · rcases hNm p hp with hp | rfl
              · exact lt2 J hJm p hp
              · show tr < rooms.length
                omega
          · intro j hj'
            rcases List.mem_or_eq_of_mem_set hj' with hj' | rfl
            · have := ln2 j hj'; omega
            · rw [List.length_append, List.length_append, List.length_take, List.length_drop, List.length_singleton]; omega
          · refine ⟨_, List.mem_set hpl _, (tr, rooms.getD tr 0 + mo), by simp, ?_⟩
            show rooms.getD tr 0 < rooms.getD tr 0 + mo
            omega
    · rintro s' g2 ⟨ps2, js2, b, c, d, e_, f, x, y, z, B2, l2, lt2, ln2, bad, rfl⟩
      refine ⟨trivial, ?_⟩
      walk_at "ts"
      refine n1 _ _ ?_
      walk_at "ts"
      exact ⟨_, Sub.refl _, q _ _ _ _ B2.sb B2.ll l2 lt2 (bad (by omega))⟩
end

set_option maxHeartbeats 4000000
open PySem PySem.Spec PL
section
variable {h : AH} {Q : AQ} {Y : AX} {n : Nat} {a : Addr} {ns : List Int}
theorem law_ok {Q : AQ} (hn : 6 ≤ n) (e : rdL h a = some (ns.map .int)) (q : ∀ h', Q (.bl true) h') : wCall D.T D.fi n 16 [.ref a] h Q Y := by
  obtain ⟨m', rfl⟩ : ∃ m, n = m + 1 := ⟨n - 1, by omega⟩
  refine ⟨_, rfl, rfl, ?_⟩
  show wSs D.T (wCall D.T D.fi m') (startA 9 [.ref a]) _ _ b_law
  simp only [b_law]
  simp only [startA, List.map_cons, List.map_nil, List.length_cons, List.length_nil, List.replicate, List.cons_append, List.nil_append, Nat.reduceAdd, Nat.reduceSub]
  refine q_one fun K1 n1 _ _ _ => ?_
  walk_at "es"
  refine drw_any rfl (by omega) e (by omega) (by omega) (by omega) fun v v0 v1 => ?_
  walk_at "es"
  refine ⟨by omega, by omega, fun R nR => ?_⟩
  obtain ⟨v, rfl⟩ := Int.eq_ofNat_of_zero_le v0
  rw [show ((1 : Int) + (v : Int)).toNat = 1 + v by omega]
  refine lc_ind (fun i acc g => ∃ l : List Int, acc = l.map .int ∧ l.length = i ∧ (∀ x ∈ l, 1 ≤ x) ∧ g = au h R (.lst acc)) ⟨[], rfl, rfl, by simp, rfl⟩ ?_ (by simp; omega) ?_ ?_
  · rintro i acc g ⟨l, rfl, l1, _, rfl⟩
    exact ⟨by simp; omega, au_same⟩
  · rintro i x acc g ex ⟨l, rfl, l1, hl, rfl⟩
    have hi := (List.getElem?_eq_some_iff.mp ex).1
    simp only [List.length_map, List.length_range] at hi
    rw [List.getElem?_map, List.getElem?_range hi] at ex
    cases ex
    refine ⟨trivial, _, rfl, fun N qN lN => ?_⟩
    simp only [wipeA, c0_law]
    walk_at "ts"
    refine mul_l (by omega) (by omega) ?_
    walk_at "ts"
    refine room_ok (by omega) (rdL_sub (Sub.new nR) e) (by omega) (by omega) fun w w0 => ?_
    refine ⟨_, _, Sub.refl _, au_same, lN, ?_⟩
    rw [au_au]
    exact qN _ _ ⟨l ++ [w], by simp, by simp [l1], fun x hx => by
      rcases List.mem_append.mp hx with hx | hx
      · exact hl x hx
      · simp at hx; subst hx; exact w0, rfl⟩
  · rintro acc g ⟨rooms, rfl, l1, hr, rfl⟩
    refine ⟨trivial, n1 _ _ ?_⟩
    clear n1
    have hrl : rooms.length = 1 + v := by rw [l1]; simp
    have eR0 : (au h R (.lst (rooms.map .int))) R = some (.lst (rooms.map .int)) := au_same
    have e1 : rdL (au h R (.lst (rooms.map .int))) a = some (ns.map .int) := rdL_sub (Sub.new nR) e
    generalize au h R (.lst (rooms.map .int)) = h1 at eR0 e1
    have eR := rdL_l eR0
    clear eR0 nR
    refine q_one fun K1 n1 _ _ _ => ?_
    walk_at "es"
    rw [len_l eR]
    walk_at "es"
    rw [List.length_map, hrl]
    refine ⟨by omega, by omega, fun H nH => ?_⟩
    rw [show (((1 + v : Nat)) : Int).toNat = 1 + v by omega]
    refine lc_ind (fun i acc g => ∃ l : List Int, acc = l.map .int ∧ l.length = i ∧ g = au h1 H (.lst acc)) ⟨[], rfl, rfl, rfl⟩ ?_ (by simp; omega) ?_ ?_
    · rintro i acc g ⟨l, rfl, l1, rfl⟩
      exact ⟨by simp; omega, au_same⟩
    · rintro i x acc g ex ⟨l, rfl, l1, rfl⟩
      have hi := (List.getElem?_eq_some_iff.mp ex).1
      simp only [List.length_map, List.length_range] at hi
      rw [List.getElem?_map, List.getElem?_range hi] at ex
      cases ex
      refine ⟨trivial, _, rfl, fun N qN lN => ?_⟩
      simp only [wipeA, c1_law]
      walk_at "ts"
      refine mul_l (by omega) (by omega) ?_
      walk_at "ts"
      refine ix_nat (i := i) (rdL_sub (Sub.new nH) eR) (by omega) ?_
      have hro : 1 ≤ rooms.getD i 0 := by
        have hi' : i < rooms.length := by omega
        rw [List.getD_eq_getElem?_getD, List.getElem?_eq_getElem hi']
        exact hr _ (List.getElem_mem hi')
      refine part_ok (by omega) (rdL_sub (Sub.new nH) e1) (by omega) (by omega) (by omega) fun w w0 w1 => ?_
      refine ⟨_, _, Sub.refl _, au_same, lN, ?_⟩
      rw [au_au]
      exact qN _ _ ⟨l ++ [w], by simp, by simp [l1], rfl⟩
    · rintro acc g ⟨held, rfl, l2, rfl⟩
      refine ⟨trivial, n1 _ _ ?_⟩
      clear n1
      have hl : held.length = rooms.length := by rw [l2, hrl]; simp
      have eH0 : (au h1 H (.lst (held.map .int))) H = some (.lst (held.map .int)) := au_same
      have e2 : rdL (au h1 H (.lst (held.map .int))) a = some (ns.map .int) := rdL_sub (Sub.new nH) e1
      have eR2 : rdL (au h1 H (.lst (held.map .int))) R = some (rooms.map .int) := rdL_sub (Sub.new nH) eR
      generalize au h1 H (.lst (held.map .int)) = h2 at eH0 e2 eR2
      have eH := rdL_l eH0
      clear eH0 nH eR e1
      refine q_one fun K1 n1 _ _ _ => ?_
      walk_at "es"
      refine needs_ok (by omega) e2 eR2 (by omega) (by omega) hr fun W ps js h3 sb3 eW hj hc => ?_
      refine n1 _ _ ?_
      clear n1
      have eR3 := rdL_sub sb3 eR2
      have eH3 := rdL_sub sb3 eH
      have ea3 := rdL_sub sb3 e2
      clear eR2 eH sb3 e2
      obtain ⟨c0, hc⟩ := hc
      refine q_one fun K1 n1 _ _ _ => ?_
      walk_at "es"
      refine spoilt_ok (by omega) ea3 eR3 eW (by omega) (by omega) hj c0 hc fun W2 ps2 js2 h4 s4 eW2 ll2 lt2 bad => ?_
      refine n1 _ _ ?_
      clear n1
      have eR4 := rdL_sub s4 eR3
      have eH4 := rdL_sub s4 eH3
      have eW4 := eW.sub s4
      clear eR3 eH3 eW ea3 s4
      obtain ⟨k, hk⟩ := fb_of bad
      refine q_one fun K1 n1 _ _ _ => ?_
      walk_at "es"
      refine first_ok (by omega) eR4 eW2 (by omega) lt2 hk ?_
      refine n1 _ _ ?_
      clear n1
      refine q_one fun K1 n1 _ _ _ => ?_
      walk_at "es"
      refine refused_ok (by omega) eR4 eH4 eW2 (by omega) lt2 hk ?_
      walk_at "ts"
      refine n1 _ _ ?_
      clear n1
      refine q_one fun K1 n1 _ _ _ => ?_
      walk_at "es"
      refine list_l eR4 fun R' nR' => ?_
      walk_at "ts"
      refine list_l (rdL_sub (Sub.new nR') eH4) fun H' nH' => ?_
      walk_at "ts"
      have s1 : Sub h4 (au (au h4 R' (.lst (rooms.map .int))) H' (.lst (held.map .int))) := (Sub.new nR').trans (Sub.new nH')
      have eR5 : rdL (au (au h4 R' (.lst (rooms.map .int))) H' (.lst (held.map .int))) R' = some (rooms.map .int) := rdL_sub (Sub.new nH') (rdL_l au_same)
      have eH5 : rdL (au (au h4 R' (.lst (rooms.map .int))) H' (.lst (held.map .int))) H' = some (held.map .int) := rdL_l au_same
      generalize au (au h4 R' (.lst (rooms.map .int))) H' (.lst (held.map .int)) = h5 at s1 eR5 eH5
      have eW5 := eW4.sub s1
      have eW25 := eW2.sub s1
      have eRo := rdL_sub s1 eR4
      have eHo := rdL_sub s1 eH4
      clear nR' nH' eW4 eW2 eR4 eH4 s1
      refine it_l eW5.e ?_
      refine copy_ok (i := 8) (fun g p xs Q e qn => ?_) eW5 (by omega) fun W' ps' g _ B => ?_
      · simp only [wipeA, c2_law]
        walk_at "ts"
        exact list_l e qn
      · have eWo := eW5.sub B.sb
        have eW26 := eW25.sub B.sb
        have eR6 := rdL_sub B.sb eR5
        have eH6 := rdL_sub B.sb eH5
        have eRo6 := rdL_sub B.sb eRo
        have eHo6 := rdL_sub B.sb eHo
        have eW6 := B.ll
        clear B eW5 eW25 eR5 eH5 eRo eHo
        refine walks_ok (by omega) eR6 eH6 eW6 hl hj (by omega) fun p1 p2 np1 np2 ne => ?_
        refine n1 _ _ ?_
        clear n1
        have np2' : au g p1 (.lst ((wk rooms held 0 0 js).1.map natD)) p2 = none := au_none.mpr ⟨Ne.symm ne, np2⟩
        have s7 : Sub g (au (au g p1 (.lst ((wk rooms held 0 0 js).1.map natD))) p2 (.lst ((wk rooms held 0 0 js).2.map wnD))) := (Sub.new np1).trans (Sub.new np2')
        have eP : (au (au g p1 (.lst ((wk rooms held 0 0 js).1.map natD))) p2 (.lst ((wk rooms held 0 0 js).2.map wnD))) p1 = some (.lst ((wk rooms held 0 0 js).1.map natD)) := by rw [au_ne ne]; exact au_same
        generalize au (au g p1 (.lst ((wk rooms held 0 0 js).1.map natD))) p2 (.lst ((wk rooms held 0 0 js).2.map wnD)) = h7 at s7 eP
        obtain ⟨_, _, g3, _⟩ := wk_gd (rooms := rooms) (held := held) hj js 0 0 held (-1) (-1) (by simp) hl (Nat.le_refl _) (by omega) (by omega) fun t ht => by simp [cap, sumR]
        have eW8 := eWo.sub s7
        have eR8 := rdL_sub s7 eRo6
        have eH8 := rdL_sub s7 eHo6
        have eW28 := eW26.sub s7
        refine q_one fun K1 n1 _ _ _ => ?_
        walk_at "es"
        refine isi_1 rfl rfl ?_
        walk_at "es"
        refine ix_t rfl ?_
        rw [len_l eW8.e, List.length_map, eW8.l]
        refine rising_ok (by omega) (rdL_l eP) g3 ?_
        walk_at "ts"
        refine n1 _ _ ?_
        clear n1
        walk_at "ts"
        refine ix_t rfl ?_
        refine dry_ok (by omega) eR8 eH8 eW8 (rdL_l eP) hl hj (by omega) ?_
        walk_at "ts"
        refine refused_ok (by omega) eR8 eH8 eW28 (by omega) lt2 hk ?_
        exact ⟨_, Sub.refl _, q _⟩
end
theorem holds : PySem.Challenge.rw_spoolhall_k66_no_way.Holds := holds_of fun a ns _ => law_ok (by omega) (rdL_f (by unfold scr; exact if_pos rfl)) fun _ => rfl
end K66
theorem PySem.Challenge.cw_spoolhall_k66_no_way_holds : PySem.Challenge.rw_spoolhall_k66_no_way.Holds := by
  exact K66.holds
