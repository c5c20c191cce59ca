import PyProof.Rows.All
import Wide.All
import OpenK.AllK
import Wide.FinOn
import HandS.ForMost
import HandS.Wide
import HandS.IsInst
import HandS.Conv
import HandS.Flow
import HandS.Style
import HandS.Walk
import HandS.Evl
import HandS.Lambda
import HandS.EndTab
import HandS.Iter
import KE.DataMinKey
import KE.KNest
import KE.KNestM
import PyProof.Rows.CallKwBuiltin
import PySem.Challenge.RW_onebrick_k13_sums_kernels_and_meets
set_option Elab.async false
set_option linter.all false
set_option maxRecDepth 100000
set_option maxHeartbeats 4000000
namespace Mine
open PySem PySem.Spec PyProof.Rows L2 Evl
/-! ### a lambda of one name, as key= of min -/
/-- the lambda's names: its one parameter; captured ones and globals -/
structure LamS1 (sc scope : Scope) (one : Str) : Prop where
  kind : scope.kind = .function
  co : scope.isCoroutine = false
  gen : scope.isGenerator = false
  par : scope.names.lookup one = some .local
  own : ∀ y ∈ scope.names, y.2 ≠ .cell ∧ (y.2 = .local → y.1 = one)
  free : ∀ y ∈ scope.names, y.2 = .free → sc.names.lookup y.1 = some .cell ∨ sc.names.lookup y.1 = some .free
def lamS1B (sc scope : Scope) (one : Str) : Bool :=
  decide (scope.kind = .function) && !scope.isCoroutine && !scope.isGenerator && decide (scope.names.lookup one = some .local) && scope.names.all fun y => !decide (y.2 = .cell) && (!decide (y.2 = .local) || decide (y.1 = one)) && (!decide (y.2 = .free) || decide (sc.names.lookup y.1 = some .cell) || decide (sc.names.lookup y.1 = some .free))
theorem lamS1_by {sc scope : Scope} {one : Str} (h : lamS1B sc scope one = true) : LamS1 sc scope one := by
  unfold lamS1B at h
  simp only [Bool.and_eq_true, Bool.or_eq_true, Bool.not_eq_true', decide_eq_true_eq, decide_eq_false_iff_not, List.all_eq_true] at h
  obtain ⟨⟨⟨⟨h1, h2⟩, h3⟩, h5⟩, h4⟩ := h
  refine ⟨h1, h2, h3, h5, fun y hy => ⟨(h4 y hy).1.1, fun e => ?_⟩, fun y hy e => ?_⟩
  · rcases (h4 y hy).1.2 with z | z
    · exact absurd e z
    · exact z
  · rcases (h4 y hy).2 with (z | z) | z
    · exact absurd e z
    · exact .inl z
    · exact .inr z
theorem LamS1.has {X : Cx} {scope : Scope} {one : Str} (L : LamS1 X.env.scope scope one) (ok : X.Ok) : ∀ y ∈ scope.names, y.2 = .free → ∃ c, X.env.cells.lookup y.1 = some c := fun y hy e => by
  rcases L.free y hy e with k | k
  · exact ok.has _ (.inl k)
  · exact ok.has _ (.inr k)
section
variable {X : Cx} {pins : List (Addr × Obj)} {σ : L2.St} {H HZ : Hp} {s s1 : Shared}
/-- the lambda's body begins: the parameter holds v -/
theorem lam_start1 {A : Around} {outer : List Env} {E : XK} {scope : Scope} {one : Str} {i : Nat} {f c' : Addr} {h₁ : Heap} {tk : Nat} {v : V} {u : Value} (I : Inv X pins σ H s) (L : LamS1 X.env.scope scope one) (hN : X.N[i]? = some one) (hnd : X.N.Nodup) (rv : L2.RelV v u)
    (e0 : Env0 X.prog X.w X.K X.mg X.base A outer s HZ) (hd : A.handled = none) (eH : HZ = H)
    (hns : h₁.Ns s.heap.objs.size fun y => ([(one, u)] : List (Str × Value)).reverse.lookup y) (kp : ∀ b o, s.heap.get? b = some o → h₁.get? b = some o) :
    Inv (LamX.lamCx X A outer s HZ E scope f c') [] (σ.set i (some v)) HZ { s with heap := h₁, toks := tk } := by
  subst eH
  have hfree := L.has I.ok
  have cm : ∀ {y c}, (cloFrom X.env.cells scope.names []).lookup y = some c → X.env.cells.lookup y = some c := fun {y c} e => by
    rcases cloFrom_mem (PySem.mem_of_lookup e) with hm | ⟨h1, h2⟩
    · cases hm
    · obtain ⟨c1, hc⟩ := hfree _ h1 rfl
      have hc : X.env.cells.lookup y = some c1 := hc
      have e2 : c = c1 := by
        rw [h2, hc] <;> rfl
      rw [e2]
      exact hc
  have look : ∀ {y}, scope.names.lookup y = some .free → ∃ c, (cloFrom X.env.cells scope.names []).lookup y = some c := fun {y} hl => by
    have hy : (y, NameKind.free) ∈ scope.names := PySem.mem_of_lookup hl
    exact mem_lookup (cloFrom_has (cells := X.env.cells) (acc := []) hy)
  have cellK : ∀ {c : Addr} {v : Option Value}, HZ c = none → s.heap.IsCell c v → h₁.IsCell c v := fun {c v} n ⟨o, ho, hd⟩ => ⟨_, kp _ _ ho, hd⟩
  have noA : ∀ b : Addr, b ∉ (LamX.lamCx X A outer s HZ E scope f c').ex := fun b z => absurd (show b ∈ ([] : List Addr) from z) (by simp)
  refine ⟨⟨e0.mod, L.kind, rfl, rfl, Nat.le_refl _, fun y z c e1 e2 => I.ok.inj y z c (cm e1) (cm e2), fun y hy => ?_, fun y c z _ => ?_, fun _ => hd, Around.frames_deeper e0.frames, .inr ⟨rfl, rfl⟩, fun b z => absurd z (noA b), e0.bs, e0.bsz, fun b _ _ => noA b,
      fun b z => absurd z (noA b), e0.funs, e0.frf⟩,
    rfl, e0.bare, Un.kept kp, ⟨_, hns, fun j y v' e1 e2 e3 => ?_⟩, fun y c e => ?_, e0.hok.fresh (Nat.le_refl _), fun y c e => ?_, fun q hq => absurd (show q ∈ ([] : List (Addr × Obj)) ++ [] from hq) (by simp), e0.hok.kept kp, by rw [List.length_set]; exact I.len⟩
  · have hy : scope.names.lookup y = some .cell ∨ scope.names.lookup y = some .free := hy
    rcases hy with hy | hy
    · exact absurd rfl (L.own _ (PySem.mem_of_lookup hy)).1
    · exact look hy
  · have z : false = true := z
    cases z
  · have e1 : X.N[j]? = some y := e1
    have e3 : Vis scope y := e3
    by_cases hj : i = j
    · subst hj
      rw [hN] at e1
      cases e1
      rw [List.getElem?_set] at e2
      split at e2
      · split at e2
        · cases e2
          refine ⟨u, rv, .inl ⟨L.par, ?_⟩⟩
          simp
        · cases e2
      · rename_i hne
        exact absurd rfl hne
    · rw [List.getElem?_set, if_neg hj] at e2
      have hyo : y ≠ one := fun z => by
        subst z
        obtain ⟨l1, a1⟩ := List.getElem?_eq_some_iff.mp hN
        obtain ⟨l2, a2⟩ := List.getElem?_eq_some_iff.mp e1
        rcases Nat.lt_trichotomy i j with h | h | h
        · exact List.pairwise_iff_getElem.mp hnd i j l1 l2 h (a1.trans a2.symm)
        · exact hj h
        · exact List.pairwise_iff_getElem.mp hnd j i l2 l1 h (a2.trans a1.symm)
      rcases e3 with k | k | k
      · exact absurd ((L.own _ (PySem.mem_of_lookup k)).2 rfl) hyo
      · exact absurd rfl (L.own _ (PySem.mem_of_lookup k)).1
      · obtain ⟨m, hn, hl⟩ := I.loc
        have hvis : Vis X.env.scope y := (L.free _ (PySem.mem_of_lookup k) rfl).elim (fun k => .inr (.inl k)) (fun k => .inr (.inr k))
        obtain ⟨w', r, q⟩ := hl j y v' e1 e2 hvis
        obtain ⟨c2, h2⟩ := look k
        refine ⟨w', r, .inr ⟨.inr k, c2, h2, ?_⟩⟩
        have c1 := cm h2
        rcases q with ⟨k', _⟩ | ⟨_, c3, e', z⟩
        · have k' : X.env.scope.names.lookup y = some .local := k'
          rcases L.free _ (PySem.mem_of_lookup k) rfl with k2 | k2 <;> rw [show X.env.scope.names.lookup y = _ from k2] at k' <;> cases k'
        · rw [c1] at e'
          cases e'
          exact cellK (I.freeC y _ c1) z
  · obtain ⟨w', z⟩ := I.cell y c (cm e)
    exact ⟨w', cellK (I.freeC y c (cm e)) z⟩
  · exact I.freeC y c (cm e)
/-- the lambda's body never raises -/
theorem cx_no {P : Program} {w : World} {outer : List Env} {u : Value} {s' : Shared} (h : L2.CX P w outer H s (fun _ _ _ => False) u s') : False := by
  obtain ⟨_, _, _, _, _, _, _, _, _, _, _, _, z⟩ := h
  exact z
/-- the lambda called from a built-in -/
theorem lam_call1 {A : Around} {scope : Scope} {one : Str} {params : Arguments} {body : Expr} {i k : Nat} {f c' : Addr} {pm ctv : Value} {v : V} {u : Value} {tb : TE} {Q : VK} {Q' : Value → Shared → Prop} {E' : Value → Shared → Prop}
    (I : Inv X pins σ H s) (L : LamS1 X.env.scope scope one) (hN : X.N[i]? = some one) (hnd : X.N.Nodup) (rv : L2.RelV v u) (e0 : Env0 X.prog X.w X.K X.mg X.base A X.stack s H) (hr : Room (k + 1) A)
    (hf : s.heap.get? f = some (PySem.W.kla_obj "<lambda>" (X.env.qual ++ "<lambda>") params body scope (cloFrom X.env.cells scope.names []) pm c' ctv))
    (hbind : bindArgs (PySem.W.kla_fn "<lambda>" (X.env.qual ++ "<lambda>") params body scope (cloFrom X.env.cells scope.names []) pm (.ref c') ctv) ⟨[u], []⟩ = pure [(one, u)])
    (hc : H c' = some (LamX.CodeO c' (X.env.qual ++ "<lambda>")))
    (hbody : PE (LamX.lamCx X A X.stack s H (fun _ _ _ => False) scope f c') body tb) (ht : tb (σ.set i (some v)) H Q)
    (hQ : ∀ r s', CE X.stack X.prog X.w H s Q r s' → Q' r s') :
    wpAny (model X.prog X.w) A (call (.ref f) [u]) Q' E' s := by
  obtain ⟨⟨oc, vs, t, hoc, hdc, hvc⟩, _, _⟩ := I.hok c' _ hc
  have rc : codeAny (model X.prog X.w) A (.call (.ref f) ⟨[u], []⟩) (CR (L2.CX X.prog X.w) X.stack X.prog X.w H s Q (fun _ _ _ => False)) s := by
    refine PySem.W.kla_callFunE hr.depth hf rfl L.co L.gen rfl ⟨c', oc, vs, t, rfl, hoc, hdc, hvc⟩ ?_
    rw [hbind]
    refine wpAny_pure (wpAny_newFunctionEnv (fun y hy => (L.own y hy).1) (fun y hy => by rw [List.mem_singleton.mp hy]; exact L.par) (fun h₁ hns hsb => ⟨I.nolimit.fresh _ hsb, ?_⟩) L.kind)
    show codeAny _ _ (.expr body (LamX.lamEnv X scope s.heap.objs.size f c')) _ _
    have kp : ∀ b o, s.heap.get? b = some o → h₁.get? b = some o := fun b o e => hsb.extBut b o (Nat.ne_of_lt (Heap.lt_size e)) (Heap.get?_push_of_some _ e)
    have J : Inv (LamX.lamCx X A X.stack s H (fun _ _ _ => False) scope f c') [] (σ.set i (some v)) H { s with heap := h₁, toks := s.toks + ([(one, u)] : List (Str × Value)).length } :=
      lam_start1 I L hN hnd rv e0 hr.hd rfl hns kp
    refine PySem.W.kla_codeExpr (wpAny_mono (hbody.run [] _ _ H Q J ht) (fun v s' hq => ?_) fun e s' hq => hq)
    obtain ⟨w', H', J', rv, q⟩ := hq
    exact ⟨w', H', J'.os, J'.bare, J'.base, J'.hok, rv, q⟩
  refine wpAny_call (codeAny_mono rc fun r s' hq => ?_)
  cases r with
  | error e => exact (cx_no hq).elim
  | ok fl =>
    cases fl with
    | ret u => exact hQ _ _ hq
    | next => exact False.elim hq
    | brk => exact False.elim hq
    | cont => exact False.elim hq
/-- what key= gave, at the least place -/
theorem arg_best {key : Nat → Int} : ∀ j, argBest (fun i j => decide (key i < key j)) j ≤ j ∧ ∀ i, i ≤ j → key (argBest (fun i j => decide (key i < key j)) j) ≤ key i
  | 0 => ⟨Nat.le_refl _, fun i hi => by rw [Nat.le_zero.mp hi]; exact Int.le_refl _⟩
  | j + 1 => by
    obtain ⟨h1, h2⟩ := arg_best (key := key) j
    unfold argBest
    by_cases h : key (j + 1) < key (argBest (fun i j => decide (key i < key j)) j)
    · rw [if_pos (by simpa using h)]
      refine ⟨Nat.le_refl _, fun i hi => ?_⟩
      rcases Nat.lt_or_ge i (j + 1) with z | z
      · have := h2 i (by omega); omega
      · rw [show i = j + 1 by omega]; exact Int.le_refl _
    · rw [if_neg (by simpa using h)]
      refine ⟨by omega, fun i hi => ?_⟩
      rcases Nat.lt_or_ge i (j + 1) with z | z
      · exact h2 i (by omega)
      · rw [show i = j + 1 by omega]; omega
theorem min_lam {scope : Scope} {one : Str} {params : Arguments} {body : Expr} {i k : Nat} {f c' a : Addr} {xs : List V} {pm ctv : Value} {tb : TE} {Q : VK} {key : Nat → Int}
    (I : Inv X pins σ H s) (L : LamS1 X.env.scope scope one) (hN : X.N[i]? = some one) (hnd : X.N.Nodup) (hcalm : X.calm = true) (hr : Room (k + 2) X.A)
    (hf : s.heap.get? f = some (PySem.W.kla_obj "<lambda>" (X.env.qual ++ "<lambda>") params body scope (cloFrom X.env.cells scope.names []) pm c' ctv)) (hfn : H f = none) (hfr : f ∉ frs X.stack)
    (hbind : ∀ u, bindArgs (PySem.W.kla_fn "<lambda>" (X.env.qual ++ "<lambda>") params body scope (cloFrom X.env.cells scope.names []) pm (.ref c') ctv) ⟨[u], []⟩ = pure [(one, u)])
    (hc : H c' = some (LamX.CodeO c' (X.env.qual ++ "<lambda>")))
    (hbody : ∀ (A : Around) (s : Shared) (H : Hp), Room k (A.deeper (LamX.lamEnv X scope s.heap.objs.size f c')) → PE (LamX.lamCx X A X.stack s H (fun _ _ _ => False) scope f c') body tb)
    (ha : H a = some (.lst xs)) (hne : xs ≠ [])
    (hkey : ∀ (j : Nat) (v : V) (H2 : Hp), xs[j]? = some v → (∀ b o, b ≠ a → H b = some o → H2 b = some o) → Ev tb (σ.set i (some v)) H2 (.int (key j)))
    (hQ : ∀ (m : Nat) (v : V) (H2 : Hp), xs[m]? = some v → (∀ j, j < xs.length → key m ≤ key j) → Ex H H2 → Q v H2) :
    wpAny (model X.prog X.w) X.A (call (.builtin "min") [.ref a] [(Str.ofString "key", .ref f)]) (EP X pins σ Q) X.xe s := by
  obtain ⟨od, I2⟩ := I.lock ha True.intro
  have ca : c' ≠ a := fun z => by rw [z, ha] at hc; cases hc
  have fa : f ≠ a := fun z => by rw [z, ha] at hfn; cases hfn
  have nofrz := I.nofrz ha True.intro
  generalize hHf : upd H a (.frz od (.lst xs)) = Hf at I2
  have hfa : Hf a = some (.frz od (.lst xs)) := by rw [← hHf, upd_same]
  have hff : Hf f = none := by rw [← hHf, upd_ne fa]; exact hfn
  have hfc : Hf c' = some (LamX.CodeO c' (X.env.qual ++ "<lambda>")) := by rw [← hHf, upd_ne ca]; exact hc
  have hfo : ∀ b o, b ≠ a → H b = some o → Hf b = some o := fun b o hb e => by rw [← hHf, upd_ne hb]; exact e
  obtain ⟨hod, hlen, its, n0, rv, hits⟩ := I2.hok a _ hfa
  have hil : its.length = xs.length := rv.length.symm
  have hl : s.heap.IsList a its.toArray := ⟨_, hits, rfl, n0, rfl⟩
  have eod : od = { cls := .type "list", data := .seq its.toArray n0 } := Option.some.inj (hod.symm.trans hits)
  have nofr : ∀ b, s.heap.objs.size ≤ b → b ∉ frs X.stack := fun b hb z => by
    rcases List.mem_cons.mp (I.stkSub _ z) with e | e
    · have h1 := I.lt
      rw [← e] at h1
      exact Nat.lt_irrefl _ (Nat.lt_of_lt_of_le h1 hb)
    · exact I.nofs hb e
  refine call_min_walkK (iter_any hl fun s₂ e2 st hne2 => ?_)
  have hsz : s₂.heap.objs.size = s.heap.objs.size + 1 := by rw [e2]; exact Heap.size_push ..
  have hk2 : ∀ b o, s.heap.get? b = some o → s₂.heap.get? b = some o := fun b o e => by rw [e2]; exact Heap.get?_push_of_some _ e
  have hos2 : s₂.os = s.os := by rw [e2]
  have hg2 : s₂.gens = s.gens := by rw [e2]
  let fo := PySem.W.kla_obj "<lambda>" (X.env.qual ++ "<lambda>") params body scope (cloFrom X.env.cells scope.names []) pm c' ctv
  let J : Shared → Prop := fun t => t.os = s.os ∧ AllBare t.gens ∧ ∃ H', Ex Hf H' ∧ Un (frs X.stack) [] Hf H' s.heap t.heap ∧ HOk X.prog X.w H' t.heap ∧ H' f = none ∧ H' s.heap.objs.size = none ∧ H' s₂.heap.objs.size = none ∧ t.heap.get? f = some fo
  have jinv : ∀ {t : Shared} {H' : Hp}, t.os = s.os → AllBare t.gens → Un (frs X.stack) [] Hf H' s.heap t.heap → HOk X.prog X.w H' t.heap → Inv X pins σ H' t := fun {t H'} h1 h2 h3 h4 => I2.call' (ch := []) h1 h3 h4 h2 fun b z => absurd z (by simp)
  have flt : f < s.heap.objs.size := Heap.lt_size hf
  refine ⟨s.heap.objs.size, [s.heap.objs.size, a], [s.heap.objs.size], _, _, _, _, J, fun j k _ => L2.RelV (.int (key j)) k, fun i j => decide (key i < key j), rfl, (PySem.Walks.list (prog := X.prog) (w := X.w) (A := X.A.in1) (I.ok.hd hcalm) _ a hne2 its.toArray).toS, st, fun b hb => ?_, ?_, ⟨fun t t' hJ hm => ?_, fun _ _ _ _ h _ => h, fun j v t o Q1 E1 hj hP hJ hst hS cont => ?_, fun i j ki kj t Q1 E1 _ hi hj q => ?_⟩, ?_, fun v t hP hJ => ?_⟩
  · rcases List.mem_cons.mp hb with e | hb
    · rw [e, hsz]; exact Nat.lt_succ_self _
    · rw [List.mem_singleton.mp hb, hsz]
      exact Nat.lt_succ_of_lt (Heap.lt_size hits)
  · rw [List.size_toArray, hil]; exact List.length_pos_iff.mpr hne
  · -- what min itself turns
    obtain ⟨h1, h2, H', h3, h4, h5, h6, h7, h8, h9⟩ := hJ
    have nb : ∀ b o, s.heap.get? b = some o → b ∉ [s₂.heap.objs.size, s.heap.objs.size] := fun b o e z => by
      have := Heap.lt_size e
      rcases List.mem_cons.mp z with z | z
      · rw [z, hsz] at this
        exact absurd this (Nat.not_lt_of_le (Nat.le_succ _))
      · rw [List.mem_singleton.mp z] at this
        exact Nat.lt_irrefl _ this
    have nk : ∀ b u, H' b = some u → b ∉ [s₂.heap.objs.size, s.heap.objs.size] := fun b u e z => by
      rcases List.mem_cons.mp z with z | z
      · rw [z, h8] at e; cases e
      · rw [List.mem_singleton.mp z, h7] at e; cases e
    have hG : t'.gens = t.gens := hm.gens
    refine ⟨hm.os.trans h1, by rw [hG]; exact h2, H', h3, ⟨fun b o e n hb hx => hm.heap b o (nb b o e) (h4.keep b o e n hb hx), fun b o e n hb hx => ?_, h4.free, fun b o e hx => ?_, h4.tups, h4.frzs, h4.tbls⟩, fun b u e => ?_, h6, h7, h8, hm.heap f _ (nb f _ hf) h9⟩
    · obtain ⟨sl, q⟩ := h4.slot b o e n hb hx
      exact ⟨sl, hm.heap b _ (nb b o e) q⟩
    · obtain ⟨o', q⟩ := h4.there b o e hx
      exact ⟨o', hm.heap b _ (nb b o e) q⟩
    · refine (h5 b u e).stay (fun c v hc q => hm.heap c v ?_ q) (fun _ q => q) fun _ _ q => q
      rcases hc with z | z
      · rw [z]; exact nk b u e
      · exact nk c _ z
  · -- a turn
    obtain ⟨h1, h2, H', h3, h4, h5, h6, h7, h8, h9⟩ := hJ
    have It := jinv h1 h2 h4 h5
    have hj' : j < xs.length := by rw [List.size_toArray, hil] at hj; exact hj
    obtain ⟨u, hu, ru⟩ := rv.get (List.getElem?_eq_getElem hj')
    have hv : its[j]? = some v := by simpa using hP
    rw [hv] at hu
    cases hu
    refine lam_call1 (A := X.A.in1) It L hN hnd ru It.env0.in1 hr.in1 h9 (hbind v) (h3 _ _ hfc) (hbody X.A.in1 t H' (hr.in1.deeper _)) (Q := fun v' H'' => v' = .int (key j) ∧ Ex H' H'')
      (hkey j _ H' (List.getElem?_eq_getElem hj') (fun b o hb e => h3 _ _ (hfo b o hb e)) H' (Ex.refl H') _ fun H'' e => ⟨rfl, e⟩) fun r t' hce => ?_
    obtain ⟨v', H'', g1, g2, g3, g4, g5, e5, g6⟩ := hce
    subst e5
    obtain ⟨⟨oi, oi1, oi2⟩, _⟩ := hst
    have kI := g3.keep _ oi oi1 h7 (nofr _ (Nat.le_refl _)) (by simp)
    refine cont r t' ⟨g1.trans h1, g2, H'', h3.trans g6, h4.trans g3, g4, g3.free f _ h9 h6 (by simp), g3.free _ _ oi1 h7 (by simp), g3.free _ _ hS h8 (by simp), g3.keep f _ h9 h6 hfr (by simp)⟩ ⟨⟨oi, kI, oi2⟩, ?_⟩ (g3.keep _ _ hS h8 (nofr _ (by omega)) (by simp)) g5 fun _ _ h => h
    have hl2 := (g4 a _ (g6 _ _ (h3 _ _ hfa))).1
    rw [eod] at hl2
    exact ⟨_, hl2, rfl, n0, rfl⟩
  · -- two keys
    obtain ⟨t1, rfl⟩ := hi
    obtain ⟨t2, rfl⟩ := hj
    exact CmpOf.ints_lt (prog := X.prog) (w := X.w) (A := X.A.in1) (P := fun i v => ∃ t, v = .int (key i) t) key (fun i v h => h) i j _ _ _ _ _ ⟨t1, rfl⟩ ⟨t2, rfl⟩ q
  · -- the start
    refine ⟨hos2, by rw [hg2]; exact I2.bare, Hf, Ex.refl Hf, Un.kept hk2, I2.hok.kept hk2, hff, I2.hok.fresh (Nat.le_refl _), I2.hok.fresh (by omega), hk2 _ _ hf⟩
  · -- the end
    obtain ⟨h1, h2, H', h3, h4, h5, h6, h7, h8, h9⟩ := hJ
    have It := jinv h1 h2 h4 h5
    have Iu := It.unlock (h3 _ _ hfa) nofrz
    have hpos : 0 < xs.length := List.length_pos_iff.mpr hne
    obtain ⟨b1, b2⟩ := arg_best (key := key) (xs.length - 1)
    have hv : its[argBest (fun i j => decide (key i < key j)) (xs.length - 1)]? = some v := by
      have : its.toArray[argBest (fun i j => decide (key i < key j)) (its.toArray.size - 1)]? = some v := hP
      rw [List.size_toArray, hil] at this
      simpa using this
    generalize argBest (fun i j => decide (key i < key j)) (xs.length - 1) = m at b1 b2 hv
    have hm : m < xs.length := by omega
    obtain ⟨u, hu, ru⟩ := rv.get (List.getElem?_eq_getElem hm)
    rw [hv] at hu
    cases hu
    refine ⟨xs[m], _, Iu, ru, hQ m _ _ (List.getElem?_eq_getElem hm) (fun j hj => b2 j (by omega)) fun b o e => ?_⟩
    by_cases hb : b = a
    · subst hb; rw [upd_same, ← e, ha]
    · rw [upd_ne hb]; exact h3 _ _ (hfo b o hb e)
/-- the lambda is made -/
theorem lam_make1 {one : Str} {T : List (Addr × Str)} {c P : Addr} {params : Arguments} {body : Expr} {scope : Scope} {pos : Pos} {E : Value → Shared → Prop} {Q : Value → Shared → Prop} (I : Inv X pins σ H s) (TB : LamX.TabB X.base X.mg c P) (hcode : X.env.code = .ref c) (L : LamS1 X.env.scope scope one)
    (hm : (P, X.env.qual ++ "<lambda>") ∈ T) (hu : ∀ p ∈ T, p.1 = P → p.2 = X.env.qual ++ "<lambda>") (hT : LamX.Tabs T H) (hdef : defaultsOf params X.env = ([], []))
    (h : ∀ (f c' : Addr) (pm ctv : Value) (H1 : Hp) (s' : Shared), Inv X pins σ H1 s' → LamX.ExtN H H1 → LamX.Tabs T H1 →
      s'.heap.get? f = some (PySem.W.kla_obj "<lambda>" (X.env.qual ++ "<lambda>") params body scope (cloFrom X.env.cells scope.names []) pm c' ctv) → H1 f = none → f ∉ frs X.stack → H1 c' = some (LamX.CodeO c' (X.env.qual ++ "<lambda>")) → Q (.ref f) s') :
    wpAny (model X.prog X.w) X.A (eval (.Lambda params body scope pos) X.env) Q E s := LamX.lam_make2 I TB hcode hm hu hT hdef (L.has I.ok) h
end
/-- min(xs, key=lambda one: ..) -/
def tMinLam (T : List (Addr × Str)) (i : Nat) (tl tb : TE) : TE := fun σ H Q => tl σ H fun x H1 => ∃ (a : Addr) (xs : List V) (key : Nat → Int), x = .ref a ∧ H1 a = some (.lst xs) ∧ xs ≠ [] ∧ LamX.Tabs T H1 ∧
  (∀ (j : Nat) (v : V) (H2 : Hp), xs[j]? = some v → (∀ b o, b ≠ a → H1 b = some o → (∀ ps, o ≠ .tbl ps) → H2 b = some o) → Ev tb (σ.set i (some v)) H2 (.int (key j))) ∧
  ∀ (m : Nat) (v : V) (H2 : Hp), xs[m]? = some v → (∀ j, j < xs.length → key m ≤ key j) → LamX.ExtN H1 H2 → LamX.Tabs T H2 → Q v H2
section
variable {X : Cx}
theorem pe_minLam {T : List (Addr × Str)} {x one : Str} {c P : Addr} {i k : Nat} {params : Arguments} {e body : Expr} {scope : Scope} {tl tb : TE} {p lpos pos kpos : Pos}
    (hg : Gl X x) (hx : x = "min") (hm : X.mg x = none) (hl : PE X e tl) (TB : LamX.TabB X.base X.mg c P) (hcode : X.env.code = .ref c) (hmT : (P, X.env.qual ++ "<lambda>") ∈ T) (hu : ∀ p ∈ T, p.1 = P → p.2 = X.env.qual ++ "<lambda>") (hr : Room (k + 2) X.A) (hcalm : X.calm = true)
    (L : LamS1 X.env.scope scope one) (hN : X.N[i]? = some one) (hnd : X.N.Nodup) (hdef : defaultsOf params X.env = ([], []))
    (hbind : ∀ (q : Str) (cl : List (Str × Addr)) (pm cv ctv u : Value), bindArgs (PySem.W.kla_fn "<lambda>" q params body scope cl pm cv ctv) ⟨[u], []⟩ = pure [(one, u)])
    (hbody : ∀ (A : Around) (s : Shared) (H : Hp) (f c' : Addr), Room k (A.deeper (LamX.lamEnv X scope s.heap.objs.size f c')) → PE (LamX.lamCx X A X.stack s H (fun _ _ _ => False) scope f c') body tb)
    (he : backTo pos (starEach [e] X.env) = (false, eval e X.env) :: backTo pos (starEach [] X.env) := by rfl) (hpl : (backTo pos (starEach [e] X.env)).any (·.1) = false := by rfl) :
    PE X (.Call (.Name x p) [e] [⟨some "key", .Lambda params body scope lpos, kpos⟩] pos) (tMinLam T i tl tb) := by
  subst hx
  refine ⟨fun pins s σ H Q I h => ?_⟩
  refine wpAny_Call_Name_kw (ld_blt I hg hm (show bootBuiltins "min" = some (.builtin "min") by decide +kernel) ?_ (by decide) (by decide))
  refine PyProof.Rows.callWith_kw ?_ he hpl rfl rfl
  rw [he]
  show wpAny _ _ (spliced ((false, eval e X.env) :: backTo pos (starEach [] X.env))) _ _ s
  refine Calls.spliced_cons (thn (hl.run pins s σ H _ I h) fun u s1 ⟨v, H1, I1, r1, q1⟩ => ?_)
  obtain ⟨a, xs, key, rfl, ha, hne, hT, hkey, hQ⟩ := q1
  obtain rfl : u = Value.ref a := r1
  refine Calls.spliced_nil ?_
  show wpAny _ _ (evalAll ((do let v ← eval (.Lambda params body scope lpos) X.env; standAt pos; pure v) :: (backToKw pos (keywordEach [] X.env)).map (·.2))) _ _ s1
  refine wpAny_evalAll_cons (wpAny_bind (lam_make1 I1 TB hcode L hmT hu hT hdef fun f c' pm ctv H2 s2 I2 hx2 hT2 hf hfn hfr hc => wpAny_bind (wpAny_standAt (wpAny_pure ?_))))
  refine wpAny_evalAll_nil ?_
  show wpAny _ _ (call (.builtin "min") [.ref a] [(Str.ofString "key", .ref f)]) _ _ s2
  have ha2 : H2 a = some (.lst xs) := hx2 _ _ ha fun ps z => by cases z
  refine min_lam I2 L hN hnd hcalm hr hf hfn hfr (fun u => hbind _ _ _ _ _ u) hc (fun A s H hr' => hbody A s H f c' hr') ha2 hne (fun j v H3 hj hk => hkey j v H3 hj fun b o hb e hn => hk b o hb (hx2 _ _ e hn)) fun m v H3 hm hle e3 => ?_
  exact hQ m v H3 hm hle (hx2.trans (LamX.ExtN.of e3)) (hT2.ext e3)
end
/-! ### defs that make lambdas: their code is known -/
structure FunC (K : PySem.W.Frag) (x qual : Str) (st : Stmt) (f : Addr) (fd : FuncData) (c : Addr) : Prop where
  ex : ∃ (oc : Value) (od : Option Addr) (kV doc pm : Value) (an : Option Addr) (ct : Value) (osl : Array (Option Value)),
    fd = PySem.W.fnOf x qual (defArgs st) (defBody st) (defScope st) .none kV doc pm an (.ref c) ct ∧ K.lookup f = some ⟨oc, od, .func fd, osl⟩ ∧ PySem.W.codeIn K (.ref c) qual = true
theorem FunC.ok {P : Program} {w : World} {K : PySem.W.Frag} {mg : Str → Option Value} {base : Heap} {x qual : Str} {st : Stmt} {f c : Addr} {fd : FuncData} {N ps : List Str} {k : Nat} {sp : Sp} (F : FunC K x qual st f fd c) (S : FnScope N ps (defScope st)) (len : ∀ vs H Q E, sp vs H Q E → vs.length = ps.length)
    (hbody : ∀ (A : Around) (outer : List Env) (s : Shared) (H : Hp) (vs : List V) (Q : VK) (E : XK), Room k (A.deeper (envOfC qual (defScope st) s.heap.objs.size f (.ref c))) → sp vs H Q E →
      ∃ t, PSs (cxOf CX0 P w K mg base N qual (defScope st) f (.ref c) A outer s H E).nox (defBody st) t ∧ t { nx := fun _ H' => Q .non H', rt := Q } (start N vs) H) : FnOk P w K mg base CX0 (k + 1) f fd ps sp := by
  obtain ⟨oc, od, kV, doc, pm, an, ct, osl, rfl, lk, hcd⟩ := F.ex
  refine fn_of lk hcd S len fun A outer s H vs Q E hr hsp => ?_
  obtain ⟨t, h, q⟩ := hbody A outer s H vs Q E hr hsp
  exact ⟨t, h.nox, q⟩
theorem func_mk {K : PySem.W.Frag} {x qual : Str} {st : Stmt} {f c : Addr} {oc : Value} {od an : Option Addr} {osl : Array (Option Value)} {kV doc pm ct : Value} (l : K.lookup f = some ⟨oc, od, .func (PySem.W.fnOf x qual (defArgs st) (defBody st) (defScope st) .none kV doc pm an (.ref c) ct), osl⟩)
    (hc : PySem.W.codeIn K (.ref c) qual = true) : FunC K x qual st f (PySem.W.fnOf x qual (defArgs st) (defBody st) (defScope st) .none kV doc pm an (.ref c) ct) c := ⟨oc, od, kV, doc, pm, an, ct, osl, rfl, l, hc⟩
/-- the law's walk where defs make lambdas: the tables are known at the start -/
theorem walk_tab {l : PySem.W.OpenLaw} {n k : Nat} {q : Program} {loose : List Str} {XP : (Str → Option Value) → Heap → Prop} {YP : World → Heap → Prop} {d : DefRec} {K : Params → PySem.W.Frag} {CX : World → CXT} {x : Str}
    (hn : l.most = some n) (hn2 : n ≤ sizeLine) (hdf : d.params.defaults = []) (hr : Room k callerA) (hY : ∀ (w : World) (h : Heap), YP w h → (K w.params).In h)
    (F : ∀ (w : World) (mg : Str → Option Value) (fa : Addr) (h : Heap), (K w.params).In h → h.Ns mainGlobals mg → mg d.name = some (.ref fa) →
      ∃ (fd : FuncData) (cs : List (Addr × Addr)) (sp : Sp), (∀ p ∈ cs, (K w.params).lookup p.2 = none ∧ ∃ y : Str, ((recsOf q).find? fun e => e.name == y).isSome = true ∧ PySem.W.tabIn (K w.params) y = some p) ∧ (∀ (s : Shared) (u : Value), BindsTo s fd ⟨[u], []⟩ [(x, u)]) ∧
        (∀ (H : Hp) (a : Addr) (ns : List Int), ns.length ≤ n → (∀ z ∈ ns, Builtin.Int.intBits z ≤ 1048576) → (∀ p ∈ cs, H p.2 = some (.tbl #[])) → SqL (K w.params) H a (ns.map V.int) → sp [.ref a] H (fun v _ => v = .bl true) fun _ _ _ => False) ∧
        ∀ base : Heap, (K w.params).In base → base.Ns mainGlobals mg → (∀ p ∈ cs, LamX.TabB base mg p.1 p.2) → FnOk l.prog w (K w.params) mg base (CX w) k fa fd [x] sp)
    (hCX : ∀ (w : World) (H : Hp) (s : Shared) (e : Value) (s' : Shared), CX w [] H s (fun _ _ _ => False) e s' → False) :
    PySem.W.WalkO q loose XP YP l.row.toRowW d [] (fun f vs => PySem.call f vs) := by
  refine Att.attach_callB hn hdf fun w s₀ s₁ mg mb fa o pm cd doc a vs ns G Y ho hd hcd hmg hobj hints hlen hbits hg => ?_
  have KX := hY w _ Y
  obtain ⟨fd, cs, sp, hT, hb, hsp, hF⟩ := F w mg fa _ KX G.T.g hmg
  have tb : ∀ p ∈ cs, PySem.W.CodeHd s₁.heap p.1 p.2 ∧ s₁.heap.get? p.2 = some (PySem.W.tabObj #[]) := fun p hp => by
    obtain ⟨_, y, h1, h2⟩ := hT p hp
    obtain ⟨dd, h3⟩ := Option.isSome_iff_exists.mp h1
    exact PySem.W.tab_of G.T KX h3 h2
  exact LamX.law_callTs KX G.T.g G.T.b G.T.builtins G.T.nolimit hg (fun p hp => (tb p hp).2) (fun p hp => (hT p hp).1) (fun p hp => (tb p hp).1) G.T.bmain hobj hints (Nat.le_trans hlen hn2) hr hF hb (fun H hH hS => hsp H a ns hlen hbits hH hS) fun H e s' => hCX w H s₁ e s'
end Mine
set_option Elab.async false
set_option linter.all false
namespace Mine
abbrev Row := List Int
/-- the number at a place, 0 beyond the end -/
def en (r : Row) (j : Nat) : Int := r.getD j 0
theorem en_get {r : Row} {j : Nat} {x : Int} (h : r[j]? = some x) : en r j = x := by simp [en, List.getD, h]
theorem en_lt {r : Row} {j : Nat} (h : j < r.length) : r[j]? = some (en r j) := by simp [en, List.getD, h]
theorem en_ge {r : Row} {j : Nat} (h : r.length ≤ j) : en r j = 0 := by simp [en, List.getD, List.getElem?_eq_none h]
theorem en_ext {r s : Row} (hl : r.length = s.length) (h : ∀ j, j < r.length → en r j = en s j) : r = s := by
  apply List.ext_getElem? ; intro j
  by_cases hj : j < r.length
  · rw [en_lt hj, en_lt (hl ▸ hj), h j hj]
  · rw [List.getElem?_eq_none (by omega), List.getElem?_eq_none (by omega)]
theorem en_map {r : Row} {f : Int → Int} (h0 : f 0 = 0) (j : Nat) : en (r.map f) j = f (en r j) := by
  simp only [en, List.getD, List.getElem?_map]
  cases r[j]? <;> simp [h0]
theorem en_zip {r s : Row} {f : Int → Int → Int} (h0 : f 0 0 = 0) (hl : r.length = s.length) (j : Nat) : en (List.zipWith f r s) j = f (en r j) (en s j) := by
  simp only [en, List.getD, List.getElem?_zipWith]
  by_cases hj : j < r.length
  · rw [List.getElem?_eq_getElem hj, List.getElem?_eq_getElem (hl ▸ hj)]; simp
  · rw [List.getElem?_eq_none (show r.length ≤ j by omega), List.getElem?_eq_none (show s.length ≤ j by omega)]; simp [h0]
theorem en_zero (n j : Nat) : en (List.replicate n 0) j = 0 := by
  simp only [en, List.getD]
  by_cases h : j < n
  · simp [h]
  · simp [h]
theorem en_set {r : Row} {k j : Nat} {x : Int} (hk : k < r.length) : en (r.set k x) j = if j = k then x else en r j := by
  simp only [en, List.getD, List.getElem?_set]
  by_cases h : k = j
  · subst h; simp [hk]
  · have h' : ¬ j = k := fun e => h e.symm
    simp [h, h']

/-! ### lattices: all sums of rows, modulo M (M = 0: exactly) -/
def InL (M : Int) : List Row → (Nat → Int) → Prop
  | [], v => ∀ j, M ∣ v j
  | r :: R, v => ∃ a : Int, InL M R fun j => v j - a * en r j
theorem InL.congr {M : Int} : ∀ {R : List Row} {v w : Nat → Int}, (∀ j, M ∣ v j - w j) → InL M R v → InL M R w
  | [], v, w, h, hv => fun j => by
    have e : w j = v j - (v j - w j) := by omega
    rw [e]; exact Int.dvd_sub (hv j) (h j)
  | r :: R, v, w, h, ⟨a, ha⟩ => ⟨a, InL.congr (fun j => by
      have e : (v j - a * en r j) - (w j - a * en r j) = v j - w j := by omega
      rw [e]; exact h j) ha⟩
theorem InL.eq {M : Int} {R : List Row} {v w : Nat → Int} (h : InL M R v) (e : ∀ j, v j = w j) : InL M R w :=
  h.congr fun j => by rw [e j, Int.sub_self]; exact Int.dvd_zero M
theorem InL.zero {M : Int} : ∀ {R : List Row}, InL M R fun _ => 0
  | [] => fun _ => Int.dvd_zero M
  | r :: R => ⟨0, (InL.zero (R := R)).eq fun j => by simp⟩
theorem InL.add {M : Int} : ∀ {R : List Row} {v w : Nat → Int}, InL M R v → InL M R w → InL M R fun j => v j + w j
  | [], _, _, hv, hw => fun j => Int.dvd_add (hv j) (hw j)
  | r :: R, v, w, ⟨a, ha⟩, ⟨b, hb⟩ => ⟨a + b, (InL.add ha hb).eq fun j => by
      show v j - a * en r j + (w j - b * en r j) = v j + w j - (a + b) * en r j
      rw [Int.add_mul]; omega⟩
theorem InL.smul {M : Int} (k : Int) : ∀ {R : List Row} {v : Nat → Int}, InL M R v → InL M R fun j => k * v j
  | [], _, hv => fun j => Int.dvd_mul_of_dvd_right (hv j)
  | r :: R, v, ⟨a, ha⟩ => ⟨k * a, (InL.smul k ha).eq fun j => by rw [Int.mul_sub, Int.mul_assoc]⟩
theorem InL.sub {M : Int} {R : List Row} {v w : Nat → Int} (hv : InL M R v) (hw : InL M R w) : InL M R fun j => v j - w j :=
  (hv.add (hw.smul (-1))).eq fun j => by omega
theorem InL.cons {M : Int} {r : Row} {R : List Row} {v : Nat → Int} (h : InL M R v) : InL M (r :: R) v := ⟨0, h.eq fun j => by simp⟩
theorem InL.mem {M : Int} : ∀ {R : List Row} {r : Row}, r ∈ R → InL M R (en r)
  | r :: R, s, h => by
    rcases List.mem_cons.mp h with e | h
    · subst e
      exact ⟨1, (InL.zero (R := R)).eq fun j => by omega⟩
    · exact (InL.mem h).cons
theorem InL.trans {M : Int} {R' : List Row} : ∀ {R : List Row} {v : Nat → Int}, (∀ r ∈ R, InL M R' (en r)) → InL M R v → InL M R' v
  | [], v, _, hv => (InL.zero (R := R')).congr fun j => by
    have e : (0 : Int) - v j = -(v j) := by omega
    rw [e]; exact Int.dvd_neg.mpr (hv j)
  | r :: R, v, h, ⟨a, ha⟩ => ((InL.trans (fun s hs => h s (List.mem_cons_of_mem _ hs)) ha).add ((h r (List.mem_cons_self ..)).smul a)).eq fun j => by omega
theorem InL.mono {M : Int} {R R' : List Row} {v : Nat → Int} (h : ∀ r ∈ R, r ∈ R') (hv : InL M R v) : InL M R' v := hv.trans fun r hr => InL.mem (h r hr)
/-- where all rows have 0, all sums have 0 (modulo M) -/
theorem InL.col {M : Int} {j : Nat} : ∀ {R : List Row} {v : Nat → Int}, (∀ r ∈ R, M ∣ en r j) → InL M R v → M ∣ v j
  | [], _, _, hv => hv j
  | r :: R, v, h, ⟨a, ha⟩ => by
    have h1 := InL.col (fun s hs => h s (List.mem_cons_of_mem _ hs)) ha
    have h2 : M ∣ a * en r j := Int.dvd_mul_of_dvd_right (h r (List.mem_cons_self ..))
    have e : v j = (v j - a * en r j) + a * en r j := by omega
    rw [e]; exact Int.dvd_add h1 h2
/-- one lattice -/
def SameL (M : Int) (R R' : List Row) : Prop := (∀ r ∈ R, InL M R' (en r)) ∧ ∀ r ∈ R', InL M R (en r)
theorem SameL.refl {M : Int} {R : List Row} : SameL M R R := ⟨fun _ h => InL.mem h, fun _ h => InL.mem h⟩
theorem SameL.symm {M : Int} {R R' : List Row} (h : SameL M R R') : SameL M R' R := ⟨h.2, h.1⟩
theorem SameL.trans {M : Int} {R R' R'' : List Row} (h : SameL M R R') (h' : SameL M R' R'') : SameL M R R'' := ⟨fun r hr => (h.1 r hr).trans h'.1, fun r hr => (h'.2 r hr).trans h.2⟩
theorem SameL.into {M : Int} {R R' : List Row} {v : Nat → Int} (h : SameL M R R') (hv : InL M R v) : InL M R' v := hv.trans h.1
theorem SameL.of_mem {M : Int} {R R' : List Row} (h : ∀ r, r ∈ R ↔ r ∈ R') : SameL M R R' := ⟨fun r hr => InL.mem ((h r).mp hr), fun r hr => InL.mem ((h r).mpr hr)⟩
theorem SameL.append {M : Int} {A A' B B' : List Row} (h : SameL M A A') (h' : SameL M B B') : SameL M (A ++ B) (A' ++ B') :=
  ⟨fun r hr => (List.mem_append.mp hr).elim (fun z => (h.1 r z).mono fun s hs => List.mem_append_left _ hs) fun z => (h'.1 r z).mono fun s hs => List.mem_append_right _ hs,
   fun r hr => (List.mem_append.mp hr).elim (fun z => (h.2 r z).mono fun s hs => List.mem_append_left _ hs) fun z => (h'.2 r z).mono fun s hs => List.mem_append_right _ hs⟩
/-- rows told otherwise by multiples of M -/
theorem SameL.mods {M : Int} {R : List Row} {f : Row → Row} (h : ∀ r ∈ R, ∀ j, M ∣ en (f r) j - en r j) : SameL M R (R.map f) := by
  refine ⟨fun r hr => ?_, fun r hr => ?_⟩
  · exact (InL.mem (List.mem_map.mpr ⟨r, hr, rfl⟩)).congr (h r hr)
  · obtain ⟨s, hs, rfl⟩ := List.mem_map.mp hr
    exact (InL.mem hs).congr fun j => by
      have e : en s j - en (f s) j = -(en (f s) j - en s j) := by omega
      rw [e]; exact Int.dvd_neg.mpr (h s hs j)

/-! ### echelons -/
/-- pivots rise from lo on, below w; each row begins at its pivot, with a positive number (modulo M: 1) -/
def Ech (M : Int) (w : Nat) (lo : Nat) : List (Nat × Row) → Prop
  | [] => True
  | (p, r) :: L => lo ≤ p ∧ p < w ∧ (∀ j, j < p → en r j = 0) ∧ 0 < en r p ∧ (M ≠ 0 → en r p = 1) ∧ Ech M w (p + 1) L
theorem Ech.all {M : Int} {w : Nat} : ∀ {lo : Nat} {L : List (Nat × Row)}, Ech M w lo L → ∀ x ∈ L, lo ≤ x.1 ∧ x.1 < w ∧ (∀ j, j < x.1 → en x.2 j = 0) ∧ 0 < en x.2 x.1 ∧ (M ≠ 0 → en x.2 x.1 = 1)
  | lo, (p, r) :: L, h, x, hx => by
    obtain ⟨h1, h2, h3, h4, h5, h6⟩ := h
    rcases List.mem_cons.mp hx with e | hx
    · subst e; exact ⟨h1, h2, h3, h4, h5⟩
    · obtain ⟨g1, g2⟩ := h6.all x hx
      exact ⟨by omega, g2⟩
/-- rows with early pivots give nothing to what begins late -/
theorem tri {M : Int} {w c : Nat} {B : List Row} (hB : ∀ r ∈ B, ∀ j, j < c → en r j = 0) : ∀ {lo : Nat} {L : List (Nat × Row)} {v : Nat → Int}, Ech M w lo L → (∀ x ∈ L, x.1 < c) → (∀ j, j < c → M ∣ v j) →
    InL M (L.map (·.2) ++ B) v → InL M B v
  | _, [], _, _, _, _, hv => hv
  | lo, (p, r) :: L, v, hE, hp, hc, ⟨a, ha⟩ => by
    obtain ⟨_, _, h3, h4, h5, h6⟩ := hE
    have hpc : p < c := hp _ (List.mem_cons_self ..)
    have h7 : M ∣ v p - a * en r p := ha.col fun s hs => by
      rcases List.mem_append.mp hs with hs | hs
      · obtain ⟨x, hx, rfl⟩ := List.mem_map.mp hs
        obtain ⟨g1, _, g3, _⟩ := h6.all x hx
        rw [g3 p (by omega)]; exact Int.dvd_zero M
      · rw [hB s hs p hpc]; exact Int.dvd_zero M
    have h8 : M ∣ a * en r p := by
      have e : a * en r p = v p - (v p - a * en r p) := by omega
      rw [e]; exact Int.dvd_sub (hc p hpc) h7
    have h9 : M ∣ a := by
      by_cases hM : M = 0
      · subst hM
        have e : a * en r p = 0 := Int.zero_dvd.mp h8
        rcases Int.mul_eq_zero.mp e with z | z
        · rw [z]; exact Int.dvd_zero _
        · omega
      · rw [h5 hM, Int.mul_one] at h8; exact h8
    have h10 : InL M (L.map (·.2) ++ B) v := ha.congr fun j => by
      have e : v j - a * en r j - v j = -(a * en r j) := by omega
      rw [e]; exact Int.dvd_neg.mpr (Int.dvd_mul_of_dvd_left h9)
    exact tri hB h6 (fun x hx => hp x (List.mem_cons_of_mem _ hx)) hc h10
/-- the pivots below c | from c on -/
def lows (c : Nat) (D : List (Nat × Row)) : List (Nat × Row) := D.filter fun x => decide (x.1 < c)
def highs (c : Nat) (D : List (Nat × Row)) : List (Nat × Row) := D.filter fun x => decide (c ≤ x.1)
theorem Ech.highs_all {M : Int} {w lo : Nat} {L : List (Nat × Row)} (h : Ech M w lo L) {c : Nat} (hc : c ≤ lo) : highs c L = L ∧ lows c L = [] := by
  refine ⟨List.filter_eq_self.mpr fun x hx => ?_, List.filter_eq_nil_iff.mpr fun x hx => ?_⟩
  · have := (h.all x hx).1
    exact decide_eq_true (by omega)
  · have := (h.all x hx).1
    simp; omega
theorem Ech.split {M : Int} {w : Nat} (c : Nat) : ∀ {lo : Nat} {L : List (Nat × Row)}, Ech M w lo L → L = lows c L ++ highs c L ∧ Ech M w lo (lows c L) ∧ Ech M w (max lo c) (highs c L)
  | lo, [], _ => ⟨rfl, True.intro, True.intro⟩
  | lo, (p, r) :: L, h => by
    obtain ⟨h1, h2, h3, h4, h5, h6⟩ := id h
    by_cases hp : p < c
    · obtain ⟨g1, g2, g3⟩ := Ech.split c h6
      have e1 : lows c ((p, r) :: L) = (p, r) :: lows c L := List.filter_cons_of_pos (by simpa using hp)
      have e2 : highs c ((p, r) :: L) = highs c L := List.filter_cons_of_neg (by simp; omega)
      rw [e1, e2]
      refine ⟨by rw [List.cons_append, ← g1], ⟨h1, h2, h3, h4, h5, g2⟩, ?_⟩
      have e3 : max lo c = max (p + 1) c := by omega
      rw [e3]; exact g3
    · have e1 : lows c ((p, r) :: L) = [] := List.filter_eq_nil_iff.mpr fun x hx => by
        rcases List.mem_cons.mp hx with e | hx
        · subst e; simpa using hp
        · have := (h6.all x hx).1
          simp; omega
      have e2 : highs c ((p, r) :: L) = (p, r) :: L := List.filter_eq_self.mpr fun x hx => by
        rcases List.mem_cons.mp hx with e | hx
        · subst e; simp; omega
        · have := (h6.all x hx).1
          simp; omega
      rw [e1, e2]
      exact ⟨rfl, True.intro, by omega, h2, h3, h4, h5, h6⟩
end Mine
set_option Elab.async false
set_option linter.all false
namespace Mine
/-! ### rows less multiples; inverses -/
def lessT (r o : Row) (t M : Int) : Row := if t = 0 then r else if M = 0 then List.zipWith (fun a b => a - t * b) r o else List.zipWith (fun a b => (a - t * b) % M) r o
def Rng (M : Int) (r : Row) : Prop := M ≠ 0 → ∀ j, 0 ≤ en r j ∧ en r j < M
def Md (M : Int) : Prop := M = 0 ∨ M = 2 ∨ M = 3 ∨ M = 5
theorem Md.nonneg {M : Int} (h : Md M) : 0 ≤ M := by rcases h with h | h | h | h <;> omega
theorem Md.pos {M : Int} (h : Md M) (h0 : M ≠ 0) : 2 ≤ M ∧ M ≤ 5 := by rcases h with h | h | h | h <;> omega
theorem mod_dvd (x M : Int) : M ∣ x % M - x := ⟨-(x / M), by have := Int.emod_add_mul_ediv x M; rw [Int.mul_neg]; omega⟩
theorem lessT_len {r o : Row} {t M : Int} (h : r.length = o.length) : (lessT r o t M).length = r.length := by
  unfold lessT
  split
  · rfl
  · split <;> simp [List.length_zipWith, h]
theorem lessT_0 {r o : Row} {t : Int} (h : r.length = o.length) (j : Nat) : en (lessT r o t 0) j = en r j - t * en o j := by
  unfold lessT
  split
  · rename_i e; rw [e]; simp
  · rw [if_pos rfl, en_zip (by simp) h]
theorem lessT_dvd {r o : Row} {t M : Int} (h : r.length = o.length) (j : Nat) : M ∣ en (lessT r o t M) j - (en r j - t * en o j) := by
  unfold lessT
  split
  · rename_i e; rw [e]; simp
  · split
    · rw [en_zip (by simp) h, Int.sub_self]; exact Int.dvd_zero M
    · rw [en_zip (by simp) h]; exact mod_dvd _ M
theorem lessT_M {r o : Row} {t M : Int} (h : r.length = o.length) (hM : M ≠ 0) (hr : Rng M r) (j : Nat) : en (lessT r o t M) j = (en r j - t * en o j) % M := by
  unfold lessT
  split
  · rename_i e
    rw [e, Int.zero_mul, Int.sub_zero]
    obtain ⟨h1, h2⟩ := hr hM j
    exact (Int.emod_eq_of_lt h1 h2).symm
  · rw [en_zip (by simp) h]
theorem lessT_rng {r o : Row} {t M : Int} (h : r.length = o.length) (hm : Md M) (hr : Rng M r) : Rng M (lessT r o t M) := fun hM j => by
  rw [lessT_M h hM hr]
  have := hm.pos hM
  exact ⟨Int.emod_nonneg _ hM, Int.emod_lt_of_pos _ (by omega)⟩
def invGo : Nat → Int → Int → Int → Int → Int → Int
  | 0, _, _, _, b, p => b % p
  | k + 1, h, l, a, b, p => if 1 < l then invGo k l (h - h / l * l) b (a - h / l * b) p else b % p
def inv (n p : Int) : Int := invGo p.toNat p (n % p) 0 1 p
theorem inv_ok {n M : Int} (h : Md M) (hM : M ≠ 0) (h1 : 0 < n) (h2 : n < M) : (n * inv n M) % M = 1 ∧ 0 ≤ inv n M ∧ inv n M < M := by
  rcases h with h | h | h | h
  · exact absurd h hM
  · subst h
    have : n = 1 := by omega
    subst this; decide
  · subst h
    have : n = 1 ∨ n = 2 := by omega
    rcases this with e | e <;> subst e <;> decide
  · subst h
    have : n = 1 ∨ n = 2 ∨ n = 3 ∨ n = 4 := by omega
    rcases this with e | e | e | e <;> subst e <;> decide
def quot (n p M : Int) : Int := if M = 0 then n.fdiv p else (n * inv p M) % M
theorem fdiv_facts (n v : Int) (hv : v ≠ 0) : (0 < v → 0 ≤ n - n.fdiv v * v ∧ n - n.fdiv v * v < v) ∧ (v < 0 → v < n - n.fdiv v * v ∧ n - n.fdiv v * v ≤ 0) := by
  have key : ∀ a b : Int, 0 < b → 0 ≤ a - a / b * b ∧ a - a / b * b < b := fun a b hb => by
    have e : a - a / b * b = a % b := by have := Int.emod_add_mul_ediv a b; rw [Int.mul_comm b] at this; omega
    rw [e]; exact ⟨Int.emod_nonneg _ (by omega), Int.emod_lt_of_pos _ hb⟩
  refine ⟨fun h => ?_, fun h => ?_⟩
  · rw [Int.fdiv_eq_ediv_of_nonneg n (by omega)]
    exact key n v h
  · have e : n.fdiv v = (-n) / (-v) := by
      rw [← Int.fdiv_eq_ediv_of_nonneg (-n) (by omega), Int.neg_fdiv_neg]
    obtain ⟨h1, h2⟩ := key (-n) (-v) (by omega)
    rw [e]
    have e2 : (-n) / (-v) * (-v) = -((-n) / (-v) * v) := Int.mul_neg _ _
    omega
/-- what is left at the pivot's place -/
theorem short_at {r v : Row} {M : Int} {at' w : Nat} (hl : r.length = v.length) (hm : Md M) (hr : Rng M r) (hv : Rng M v) (h0 : en v at' ≠ 0) :
    (M ≠ 0 → en (lessT r v (quot (en r at') (en v at') M) M) at' = 0) ∧ (M = 0 → en (lessT r v (quot (en r at') (en v at') M) M) at' = en r at' - (en r at').fdiv (en v at') * en v at') := by
  refine ⟨fun hM => ?_, fun hM => ?_⟩
  · rw [lessT_M hl hM hr]
    unfold quot; rw [if_neg hM]
    obtain ⟨g1, g2⟩ := hv hM at'
    obtain ⟨i1, _⟩ := inv_ok hm hM (show 0 < en v at' by omega) g2
    have e1 : ((en r at' * inv (en v at') M) % M * en v at') % M = (en r at') % M := by
      rw [Int.mul_emod, Int.emod_emod_of_dvd _ (Int.dvd_refl M), ← Int.mul_emod]
      have e2 : en r at' * inv (en v at') M * en v at' = en r at' * (en v at' * inv (en v at') M) := by
        rw [Int.mul_assoc, Int.mul_comm (inv _ _)]
      rw [e2, Int.mul_emod, i1, Int.mul_one, Int.emod_emod_of_dvd _ (Int.dvd_refl M)]
    rw [Int.sub_emod, e1, Int.sub_self]; rfl
  · subst hM
    rw [lessT_0 hl]
    unfold quot; rw [if_pos rfl]
end Mine
set_option Elab.async false
set_option linter.all false
namespace Mine
/-! ### one pivot -/
def Bnd (m : Nat) (R : List Row) : Prop := ∀ r ∈ R, ∀ j, (en r j).natAbs ≤ m
theorem Bnd.mono {m m' : Nat} {R : List Row} (h : Bnd m R) (l : m ≤ m') : Bnd m' R := fun r hr j => Nat.le_trans (h r hr j) l
theorem Bnd.sub {m : Nat} {R R' : List Row} (h : Bnd m R) (l : ∀ r ∈ R', r ∈ R) : Bnd m R' := fun r hr j => h r (l r hr) j
def shortOf (v : Row) (a : Nat) (M : Int) (r : Row) : Row := lessT r v (quot (en r a) (en v a) M) M
def meas (a : Nat) (busy : List Row) : Nat := (busy.map fun r => (en r a).natAbs).sum
def Sz (B a : Nat) (zeros busy : List Row) : Prop :=
  Bnd B (zeros ++ busy) ∨ ∃ m R : Nat, Bnd m (zeros ++ busy) ∧ m ≤ 6 * B ^ 4 ∧
    (2 ≤ busy.length → ((∀ x ∈ busy, 0 < en x a) ∨ ∀ x ∈ busy, en x a < 0) ∧ (∀ x ∈ busy, (en x a).natAbs ≤ R) ∧ ∃ x ∈ busy, m * R * R * (en x a).natAbs ≤ 3 * B ^ 4)
structure PI (M : Int) (w a B : Nat) (R0 zeros busy : List Row) : Prop where
  same : SameL M R0 (zeros ++ busy)
  len : ∀ r ∈ zeros ++ busy, r.length = w
  z0 : ∀ r ∈ zeros, en r a = 0
  b0 : ∀ r ∈ busy, en r a ≠ 0
  rng : ∀ r ∈ zeros ++ busy, Rng M r
  sz : M = 0 → Sz B a zeros busy
theorem mem_erase {α : Type} {l : List α} {k : Nat} {v x : α} (h : l[k]? = some v) (hx : x ∈ l) : x = v ∨ x ∈ l.eraseIdx k := by
  obtain ⟨hk, e⟩ := List.getElem?_eq_some_iff.mp h
  obtain ⟨i, hi⟩ := List.getElem?_of_mem hx
  by_cases hik : i = k
  · subst hik; rw [h] at hi; exact .inl (Option.some.inj hi).symm
  · refine .inr ?_
    by_cases hlt : i < k
    · exact List.mem_of_getElem? (i := i) (by rw [List.getElem?_eraseIdx, if_pos hlt]; exact hi)
    · refine List.mem_of_getElem? (i := i - 1) ?_
      rw [List.getElem?_eraseIdx, if_neg (by omega), show i - 1 + 1 = i by omega]; exact hi
theorem sum_erase : ∀ {l : List Nat} {k v : Nat}, l[k]? = some v → l.sum = v + (l.eraseIdx k).sum
  | x :: l, 0, v, h => by
    have e : x = v := Option.some.inj h
    subst e; simp
  | x :: l, k + 1, v, h => by
    have ih := sum_erase (l := l) (k := k) (v := v) h
    simp only [List.eraseIdx_cons_succ, List.sum_cons]; omega
theorem map_erase {α β : Type} (f : α → β) : ∀ (l : List α) (k : Nat), (l.map f).eraseIdx k = (l.eraseIdx k).map f
  | [], k => by simp
  | x :: l, 0 => rfl
  | x :: l, k + 1 => by simp only [List.map_cons, List.eraseIdx_cons_succ, map_erase f l k]
theorem sum_filter_le {α : Type} (f : α → Nat) (p : α → Bool) : ∀ l : List α, ((l.filter p).map f).sum ≤ (l.map f).sum
  | [] => by simp
  | x :: l => by
    have ih := sum_filter_le f p l
    by_cases h : p x = true
    · rw [List.filter_cons_of_pos h]; simp only [List.map_cons, List.sum_cons]; omega
    · rw [List.filter_cons_of_neg h]; simp only [List.map_cons, List.sum_cons]; omega
theorem sum_map_lt {α : Type} (f g : α → Nat) : ∀ l : List α, (∀ x ∈ l, f x < g x) → (l.map f).sum + l.length ≤ (l.map g).sum
  | [], _ => by simp
  | x :: l, h => by
    have ih := sum_map_lt f g l fun y hy => h y (List.mem_cons_of_mem _ hy)
    have := h x (List.mem_cons_self ..)
    simp only [List.map_cons, List.sum_cons, List.length_cons]; omega
section
variable {M : Int} {w a B k : Nat} {R0 zeros busy : List Row} {v : Row}
/-- the short rows -/
theorem short_facts (hm : Md M) (P : PI M w a B R0 zeros busy) (hv : v ∈ busy) (hmin : ∀ x ∈ busy, (en v a).natAbs ≤ (en x a).natAbs) {r : Row} (hr : r ∈ busy) :
    (shortOf v a M r).length = w ∧ Rng M (shortOf v a M r) ∧ (en (shortOf v a M r) a).natAbs < (en v a).natAbs ∧ (∃ q : Int, ∀ j, M ∣ en (shortOf v a M r) j - (en r j - q * en v j)) := by
  have lv := P.len v (List.mem_append_right _ hv)
  have lr := P.len r (List.mem_append_right _ hr)
  have hl : r.length = v.length := by rw [lr, lv]
  have rr := P.rng r (List.mem_append_right _ hr)
  have rv := P.rng v (List.mem_append_right _ hv)
  have hne := P.b0 v hv
  refine ⟨(lessT_len hl).trans lr, lessT_rng hl hm rr, ?_, _, fun j => lessT_dvd hl j⟩
  obtain ⟨s1, s2⟩ := short_at (at' := a) (w := w) hl hm rr rv hne
  unfold shortOf
  by_cases hM : M = 0
  · rw [s2 hM]
    obtain ⟨f1, f2⟩ := fdiv_facts (en r a) (en v a) hne
    rcases Int.lt_or_gt_of_ne hne with h | h
    · have := f2 h; omega
    · have := f1 h; omega
  · rw [s1 hM]; omega
/-- what a short row's numbers are, modulus 0 -/
theorem short_size (P : PI M w a B R0 zeros busy) (hM : M = 0) (hv : v ∈ busy) {r : Row} (hr : r ∈ busy) : ∃ q : Int, (∀ j, en (shortOf v a M r) j = en r j - q * en v j) ∧ en (shortOf v a M r) a = en r a - q * en v a ∧
    (q * en v a).natAbs ≤ (en r a).natAbs + (en v a).natAbs ∧ ((0 < en r a ∧ 0 < en v a ∨ en r a < 0 ∧ en v a < 0) → (en v a).natAbs ≤ (en r a).natAbs → (q * en v a).natAbs ≤ (en r a).natAbs ∧ 2 * (en (shortOf v a M r) a).natAbs < (en r a).natAbs) ∧
    ((0 < en v a → 0 ≤ en (shortOf v a M r) a) ∧ (en v a < 0 → en (shortOf v a M r) a ≤ 0)) := by
  subst hM
  have lv := P.len v (List.mem_append_right _ hv)
  have lr := P.len r (List.mem_append_right _ hr)
  have hl : r.length = v.length := by rw [lr, lv]
  have hne := P.b0 v hv
  have e : ∀ j, en (shortOf v a 0 r) j = en r j - (en r a).fdiv (en v a) * en v j := fun j => by
    unfold shortOf quot; rw [if_pos rfl]; exact lessT_0 hl j
  refine ⟨(en r a).fdiv (en v a), e, e a, ?_, ?_, ?_⟩
  all_goals obtain ⟨f1, f2⟩ := fdiv_facts (en r a) (en v a) hne
  all_goals try rw [e a]
  · rcases Int.lt_or_gt_of_ne hne with h | h
    · have := f2 h; omega
    · have := f1 h; omega
  · intro hs hle
    generalize hq : (en r a).fdiv (en v a) = q at *
    rcases hs with ⟨h1, h2⟩ | ⟨h1, h2⟩
    · obtain ⟨g1, g2⟩ := f1 h2
      have hq1 : 1 ≤ q := by
        rcases Int.lt_or_le q 1 with z | z
        · have : q * en v a ≤ 0 := Int.mul_nonpos_of_nonpos_of_nonneg (by omega) (by omega)
          omega
        · exact z
      have hq2 : en v a ≤ q * en v a := by
        have := Int.mul_le_mul_of_nonneg_right hq1 (show 0 ≤ en v a by omega)
        omega
      omega
    · obtain ⟨g1, g2⟩ := f2 h2
      have hq1 : 1 ≤ q := by
        rcases Int.lt_or_le q 1 with z | z
        · have : 0 ≤ q * en v a := Int.mul_nonneg_of_nonpos_of_nonpos (by omega) (by omega)
          omega
        · exact z
      have hq2 : q * en v a ≤ en v a := by
        have := Int.mul_le_mul_of_nonpos_right hq1 (show en v a ≤ 0 by omega)
        omega
      omega
  · refine ⟨fun h => ?_, fun h => ?_⟩
    · exact (f1 h).1
    · exact (f2 h).2
def zerosOf (zeros : List Row) (busy : List Row) (k : Nat) (v : Row) (a : Nat) (M : Int) : List Row := zeros ++ ((busy.eraseIdx k).map (shortOf v a M)).filter fun s => decide (en s a = 0)
def behindOf (busy : List Row) (k : Nat) (v : Row) (a : Nat) (M : Int) : List Row := v :: ((busy.eraseIdx k).map (shortOf v a M)).filter fun s => decide (en s a ≠ 0)
theorem mem_step (hk : busy[k]? = some v) {s : Row} : s ∈ zerosOf zeros busy k v a M ++ behindOf busy k v a M ↔ s ∈ zeros ∨ s = v ∨ ∃ r ∈ busy.eraseIdx k, s = shortOf v a M r := by
  unfold zerosOf behindOf
  simp only [List.mem_append, List.mem_cons, List.mem_filter, List.mem_map, decide_eq_true_eq]
  constructor
  · rintro ((h | ⟨⟨r, hr, rfl⟩, _⟩) | h | ⟨⟨r, hr, rfl⟩, _⟩)
    · exact .inl h
    · exact .inr (.inr ⟨r, hr, rfl⟩)
    · exact .inr (.inl h)
    · exact .inr (.inr ⟨r, hr, rfl⟩)
  · rintro (h | h | ⟨r, hr, rfl⟩)
    · exact .inl (.inl h)
    · exact .inr (.inl h)
    · by_cases z : en (shortOf v a M r) a = 0
      · exact .inl (.inr ⟨⟨r, hr, rfl⟩, z⟩)
      · exact .inr (.inr ⟨⟨r, hr, rfl⟩, z⟩)
theorem PI.step (hm : Md M) (hB : 1 ≤ B) (P : PI M w a B R0 zeros busy) (h2 : 2 ≤ busy.length) (hk : busy[k]? = some v) (hmin : ∀ x ∈ busy, (en v a).natAbs ≤ (en x a).natAbs) :
    PI M w a B R0 (zerosOf zeros busy k v a M) (behindOf busy k v a M) ∧ meas a (behindOf busy k v a M) < meas a busy := by
  have hv : v ∈ busy := List.mem_of_getElem? hk
  have hsub : ∀ r ∈ busy.eraseIdx k, r ∈ busy := fun r hr => List.mem_of_mem_eraseIdx hr
  have hne := P.b0 v hv
  refine ⟨⟨?_, ?_, ?_, ?_, ?_, ?_⟩, ?_⟩
  · -- one lattice
    refine P.same.trans ⟨fun r hr => ?_, fun s hs => ?_⟩
    · have inV : InL M (zerosOf zeros busy k v a M ++ behindOf busy k v a M) (en v) := InL.mem ((mem_step hk).mpr (.inr (.inl rfl)))
      rcases List.mem_append.mp hr with z | hb
      · exact InL.mem ((mem_step hk).mpr (.inl z))
      · rcases mem_erase hk hb with e | he
        · rw [e]; exact inV
        · obtain ⟨_, _, _, q, hq⟩ := short_facts hm P hv hmin hb
          have inS : InL M (zerosOf zeros busy k v a M ++ behindOf busy k v a M) (en (shortOf v a M r)) := InL.mem ((mem_step hk).mpr (.inr (.inr ⟨r, he, rfl⟩)))
          exact (inS.add (inV.smul q)).congr fun j => by
            have e : en (shortOf v a M r) j + q * en v j - en r j = en (shortOf v a M r) j - (en r j - q * en v j) := by omega
            rw [e]; exact hq j
    · rcases (mem_step hk).mp hs with h | h | ⟨r, hr, rfl⟩
      · exact InL.mem (List.mem_append_left _ h)
      · rw [h]; exact InL.mem (List.mem_append_right _ hv)
      · have hb := hsub r hr
        obtain ⟨_, _, _, q, hq⟩ := short_facts hm P hv hmin hb
        have inR : InL M (zeros ++ busy) (en r) := InL.mem (List.mem_append_right _ hb)
        have inV : InL M (zeros ++ busy) (en v) := InL.mem (List.mem_append_right _ hv)
        exact (inR.sub (inV.smul q)).congr fun j => by
          have e : en r j - q * en v j - en (shortOf v a M r) j = -(en (shortOf v a M r) j - (en r j - q * en v j)) := by omega
          rw [e]; exact Int.dvd_neg.mpr (hq j)
  · intro s hs
    rcases (mem_step hk).mp hs with h | h | ⟨r, hr, rfl⟩
    · exact P.len s (List.mem_append_left _ h)
    · rw [h]; exact P.len v (List.mem_append_right _ hv)
    · exact (short_facts hm P hv hmin (hsub r hr)).1
  · intro s hs
    rcases List.mem_append.mp hs with h | h
    · exact P.z0 s h
    · exact of_decide_eq_true (List.mem_filter.mp h).2
  · intro s hs
    rcases List.mem_cons.mp hs with h | h
    · rw [h]; exact hne
    · exact of_decide_eq_true (List.mem_filter.mp h).2
  · intro s hs
    rcases (mem_step hk).mp hs with h | h | ⟨r, hr, rfl⟩
    · exact P.rng s (List.mem_append_left _ h)
    · rw [h]; exact P.rng v (List.mem_append_right _ hv)
    · exact (short_facts hm P hv hmin (hsub r hr)).2.1
  · intro hM
    have hp : 1 ≤ (en v a).natAbs := by omega
    have small : ∀ x ∈ behindOf busy k v a M, (en x a).natAbs ≤ (en v a).natAbs := fun x hx => by
      rcases List.mem_cons.mp hx with h | h
      · rw [h]; exact Nat.le_refl _
      · obtain ⟨r, hr, rfl⟩ := List.mem_map.mp (List.mem_filter.mp h).1
        exact Nat.le_of_lt (short_facts hm P hv hmin (hsub r hr)).2.2.1
    have sgn : (∀ x ∈ behindOf busy k v a M, 0 < en x a) ∨ ∀ x ∈ behindOf busy k v a M, en x a < 0 := by
      rcases Int.lt_or_gt_of_ne hne with h | h
      · refine .inr fun x hx => ?_
        rcases List.mem_cons.mp hx with e | hx
        · rw [e]; exact h
        · have hx2 := of_decide_eq_true (List.mem_filter.mp hx).2
          obtain ⟨r, hr, rfl⟩ := List.mem_map.mp (List.mem_filter.mp hx).1
          obtain ⟨q, _, _, _, _, g⟩ := short_size P hM hv (hsub r hr)
          have := g.2 h; omega
      · refine .inl fun x hx => ?_
        rcases List.mem_cons.mp hx with e | hx
        · rw [e]; exact h
        · have hx2 := of_decide_eq_true (List.mem_filter.mp hx).2
          obtain ⟨r, hr, rfl⟩ := List.mem_map.mp (List.mem_filter.mp hx).1
          obtain ⟨q, _, _, _, _, g⟩ := short_size P hM hv (hsub r hr)
          have := g.1 h; omega
    have ex : 2 ≤ (behindOf busy k v a M).length → ∃ r ∈ busy.eraseIdx k, shortOf v a M r ∈ behindOf busy k v a M := fun hl => by
      unfold behindOf at hl ⊢
      rw [List.length_cons] at hl
      obtain ⟨x, hx⟩ := List.exists_mem_of_length_pos (show 0 < (((busy.eraseIdx k).map (shortOf v a M)).filter fun s => decide (en s a ≠ 0)).length by omega)
      obtain ⟨r, hr, rfl⟩ := List.mem_map.mp (List.mem_filter.mp hx).1
      exact ⟨r, hr, List.mem_cons_of_mem _ hx⟩
    have b4 : B ^ 4 = B * B * (B * B) := by rw [show (4 : Nat) = 2 + 2 from rfl, Nat.pow_add, Nat.pow_two]
    have hBB : 1 ≤ B * B := Nat.mul_pos hB hB
    have hB4 : B * B ≤ B ^ 4 := by rw [b4]; exact Nat.le_mul_of_pos_right _ hBB
    have hBl : B ≤ B * B := Nat.le_mul_of_pos_right _ hB
    rcases P.sz hM with hb | ⟨m, R, hb, hm6, hrest⟩
    · -- the first turn
      refine .inr ⟨3 * (B * B) / (en v a).natAbs, (en v a).natAbs, fun s hs j => ?_, ?_, fun hl => ⟨sgn, small, ?_⟩⟩
      · have hpB : (en v a).natAbs ≤ B := hb v (List.mem_append_right _ hv) a
        have base : ∀ y : Nat, y ≤ B → y ≤ 3 * (B * B) / (en v a).natAbs := fun y hy => (Nat.le_div_iff_mul_le hp).mpr (by
          have := Nat.mul_le_mul hy hpB; omega)
        rcases (mem_step hk).mp hs with h | h | ⟨r, hr, rfl⟩
        · exact base _ (hb s (List.mem_append_left _ h) j)
        · rw [h]; exact base _ (hb v (List.mem_append_right _ hv) j)
        · obtain ⟨q, e, _, hq, _⟩ := short_size P hM hv (hsub r hr)
          refine (Nat.le_div_iff_mul_le hp).mpr ?_
          have h1 := hb r (List.mem_append_right _ (hsub r hr)) j
          have h1a := hb r (List.mem_append_right _ (hsub r hr)) a
          have h3 := hb v (List.mem_append_right _ hv) j
          rw [e j]
          have h4 : (en r j - q * en v j).natAbs ≤ (en r j).natAbs + q.natAbs * (en v j).natAbs := by
            have := Int.natAbs_sub_le (en r j) (q * en v j)
            rwa [Int.natAbs_mul] at this
          rw [Int.natAbs_mul] at hq
          have h5 := Nat.mul_le_mul_right (en v a).natAbs h4
          have h6 : ((en r j).natAbs + q.natAbs * (en v j).natAbs) * (en v a).natAbs = (en r j).natAbs * (en v a).natAbs + (q.natAbs * (en v a).natAbs) * (en v j).natAbs := by
            rw [Nat.add_mul, Nat.mul_right_comm]
          have h7 : (en r j).natAbs * (en v a).natAbs ≤ B * B := Nat.mul_le_mul h1 hpB
          have h8 : (q.natAbs * (en v a).natAbs) * (en v j).natAbs ≤ (B + B) * B := Nat.mul_le_mul (by omega) h3
          rw [Nat.add_mul] at h8
          omega
      · have := Nat.div_le_self (3 * (B * B)) (en v a).natAbs
        omega
      · obtain ⟨r, hr, hx⟩ := ex hl
        refine ⟨_, hx, ?_⟩
        have h1 : 3 * (B * B) / (en v a).natAbs * (en v a).natAbs ≤ 3 * (B * B) := Nat.div_mul_le_self _ _
        have h3 : (en (shortOf v a M r) a).natAbs ≤ (en v a).natAbs := small _ hx
        have h4 : (en v a).natAbs ≤ B := hb v (List.mem_append_right _ hv) a
        have h5 : (en v a).natAbs * (en (shortOf v a M r) a).natAbs ≤ B * B := Nat.mul_le_mul h4 (Nat.le_trans h3 h4)
        have h6 := Nat.mul_le_mul h1 h5
        rw [Nat.mul_assoc (3 * (B * B) / (en v a).natAbs * (en v a).natAbs), b4]
        rw [Nat.mul_assoc 3] at h6
        exact h6
    · -- the later turns
      obtain ⟨sg, hR, x0, hx0, hx⟩ := hrest h2
      have hpR : (en v a).natAbs ≤ R := hR v hv
      have hp0 := hmin x0 hx0
      have same : ∀ r ∈ busy, (0 < en r a ∧ 0 < en v a ∨ en r a < 0 ∧ en v a < 0) := fun r hr => by
        rcases sg with sg | sg
        · exact .inl ⟨sg r hr, sg v hv⟩
        · exact .inr ⟨sg r hr, sg v hv⟩
      refine .inr ⟨2 * m * R / (en v a).natAbs, (en v a).natAbs, fun s hs j => ?_, ?_, fun hl => ⟨sgn, small, ?_⟩⟩
      · have base : ∀ y : Nat, y ≤ m → y ≤ 2 * m * R / (en v a).natAbs := fun y hy => (Nat.le_div_iff_mul_le hp).mpr (by
          have := Nat.mul_le_mul hy hpR
          rw [Nat.mul_assoc]; omega)
        rcases (mem_step hk).mp hs with h | h | ⟨r, hr, rfl⟩
        · exact base _ (hb s (List.mem_append_left _ h) j)
        · rw [h]; exact base _ (hb v (List.mem_append_right _ hv) j)
        · obtain ⟨q, e, _, _, hq, _⟩ := short_size P hM hv (hsub r hr)
          obtain ⟨hq, _⟩ := hq (same r (hsub r hr)) (hmin r (hsub r hr))
          refine (Nat.le_div_iff_mul_le hp).mpr ?_
          have h1 := hb r (List.mem_append_right _ (hsub r hr)) j
          have h1a := hR r (hsub r hr)
          have h3 := hb v (List.mem_append_right _ hv) j
          rw [e j]
          have h4 : (en r j - q * en v j).natAbs ≤ (en r j).natAbs + q.natAbs * (en v j).natAbs := by
            have := Int.natAbs_sub_le (en r j) (q * en v j)
            rwa [Int.natAbs_mul] at this
          rw [Int.natAbs_mul] at hq
          have h5 := Nat.mul_le_mul_right (en v a).natAbs h4
          have h6 : ((en r j).natAbs + q.natAbs * (en v j).natAbs) * (en v a).natAbs = (en r j).natAbs * (en v a).natAbs + (q.natAbs * (en v a).natAbs) * (en v j).natAbs := by
            rw [Nat.add_mul, Nat.mul_right_comm]
          have h7 : (en r j).natAbs * (en v a).natAbs ≤ m * R := Nat.mul_le_mul h1 hpR
          have h8 : (q.natAbs * (en v a).natAbs) * (en v j).natAbs ≤ R * m := Nat.mul_le_mul (by omega) h3
          rw [Nat.mul_comm R m] at h8
          rw [Nat.mul_assoc]
          omega
      · have g1 := Nat.div_le_self (2 * m * R) (en v a).natAbs
        have hR1 : 1 ≤ R := Nat.le_trans hp hpR
        have hx1 : 1 ≤ (en x0 a).natAbs := Nat.le_trans hp hp0
        have g2 : m * R ≤ m * R * R * (en x0 a).natAbs := by
          rw [Nat.mul_assoc (m * R)]
          exact Nat.le_mul_of_pos_right _ (Nat.mul_pos hR1 hx1)
        rw [Nat.mul_assoc] at g1
        rw [Nat.mul_assoc]
        omega
      · obtain ⟨r, hr, hx'⟩ := ex hl
        refine ⟨_, hx', ?_⟩
        obtain ⟨q, _, _, _, hq, _⟩ := short_size P hM hv (hsub r hr)
        obtain ⟨_, hq⟩ := hq (same r (hsub r hr)) (hmin r (hsub r hr))
        have hrR := hR r (hsub r hr)
        have h1 : 2 * m * R / (en v a).natAbs * (en v a).natAbs ≤ 2 * m * R := Nat.div_mul_le_self _ _
        have h5 : 2 * ((en v a).natAbs * (en (shortOf v a M r) a).natAbs) ≤ (en v a).natAbs * R := by
          rw [Nat.mul_left_comm]; exact Nat.mul_le_mul_left _ (by omega)
        have h6 : 2 * m * R / (en v a).natAbs * (en v a).natAbs * ((en v a).natAbs * (en (shortOf v a M r) a).natAbs) ≤ 2 * m * R * ((en v a).natAbs * (en (shortOf v a M r) a).natAbs) := Nat.mul_le_mul_right _ h1
        have h7 : 2 * m * R * ((en v a).natAbs * (en (shortOf v a M r) a).natAbs) = m * R * (2 * ((en v a).natAbs * (en (shortOf v a M r) a).natAbs)) := by
          rw [Nat.mul_assoc 2, Nat.mul_assoc 2, Nat.mul_left_comm]
        have h8 : m * R * (2 * ((en v a).natAbs * (en (shortOf v a M r) a).natAbs)) ≤ m * R * ((en v a).natAbs * R) := Nat.mul_le_mul_left _ h5
        have h9 : m * R * ((en v a).natAbs * R) ≤ m * R * ((en x0 a).natAbs * R) := Nat.mul_le_mul_left _ (Nat.mul_le_mul_right _ hp0)
        have h10 : m * R * ((en x0 a).natAbs * R) = m * R * R * (en x0 a).natAbs := by rw [Nat.mul_comm (en x0 a).natAbs, Nat.mul_assoc (m * R)]
        rw [Nat.mul_assoc (2 * m * R / (en v a).natAbs * (en v a).natAbs)]
        omega
  · -- the measure
    unfold meas behindOf
    have e1 : (busy.map fun r => (en r a).natAbs).sum = (en v a).natAbs + ((busy.eraseIdx k).map fun r => (en r a).natAbs).sum := by
      rw [← map_erase]; exact sum_erase (by rw [List.getElem?_map, hk]; rfl)
    have hlen : (busy.eraseIdx k).length = busy.length - 1 := by
      rw [List.length_eraseIdx, if_pos (List.getElem?_eq_some_iff.mp hk).1]
    have g1 := sum_filter_le (fun r => (en r a).natAbs) (fun s => decide (en s a ≠ 0)) ((busy.eraseIdx k).map (shortOf v a M))
    have g2 := sum_map_lt (fun r => (en (shortOf v a M r) a).natAbs) (fun r => (en r a).natAbs) (busy.eraseIdx k) fun r hr =>
      Nat.lt_of_lt_of_le (short_facts hm P hv hmin (hsub r hr)).2.2.1 (hmin r (hsub r hr))
    rw [List.map_map] at g1
    have e2 : ((fun r => (en r a).natAbs) ∘ shortOf v a M) = fun r => (en (shortOf v a M r) a).natAbs := rfl
    rw [e2] at g1
    rw [e1, List.map_cons, List.sum_cons]
    omega
end
end Mine
set_option Elab.async false
set_option linter.all false
namespace Mine
/-! ### the pivot that is handed back -/
def normP (v : Row) (a : Nat) (M : Int) : Row := if M ≠ 0 then v.map (fun x => x * inv (en v a) M % M) else if en v a < 0 then v.map (fun x => 0 - x) else v
structure PPost (M : Int) (w a B : Nat) (R0 zs : List Row) (pv : Option Row) : Prop where
  same : SameL M R0 (zs ++ pv.toList)
  len : ∀ r ∈ zs ++ pv.toList, r.length = w
  z0 : ∀ r ∈ zs, en r a = 0
  pos : ∀ v, pv = some v → 0 < en v a ∧ (M ≠ 0 → en v a = 1)
  rng : ∀ r ∈ zs ++ pv.toList, Rng M r
  bnd : M = 0 → Bnd (6 * B ^ 4) (zs ++ pv.toList)
theorem Bnd6 {B : Nat} (hB : 1 ≤ B) : B ≤ 6 * B ^ 4 := by
  have b4 : B ^ 4 = B * (B * B * B) := by rw [show (4 : Nat) = 1 + 3 from rfl, Nat.pow_add, Nat.pow_one, show (3 : Nat) = 2 + 1 from rfl, Nat.pow_add, Nat.pow_two, Nat.pow_one]
  have : B ≤ B ^ 4 := by rw [b4]; exact Nat.le_mul_of_pos_right _ (Nat.mul_pos (Nat.mul_pos hB hB) hB)
  omega
theorem Sz.bnd {B a : Nat} {zeros busy : List Row} (hB : 1 ≤ B) (h : Sz B a zeros busy) : Bnd (6 * B ^ 4) (zeros ++ busy) := by
  rcases h with h | ⟨m, R, h, hm, _⟩
  · exact h.mono (Bnd6 hB)
  · exact h.mono hm
theorem PI.none {M : Int} {w a B : Nat} {R0 zeros : List Row} (hB : 1 ≤ B) (P : PI M w a B R0 zeros []) : PPost M w a B R0 zeros none :=
  ⟨P.same, P.len, P.z0, fun _ h => (nomatch h), P.rng, fun h => (P.sz h).bnd hB⟩
theorem PI.one {M : Int} {w a B : Nat} {R0 zeros : List Row} {v : Row} (hm : Md M) (hB : 1 ≤ B) (P : PI M w a B R0 zeros [v]) : PPost M w a B R0 zeros (some (normP v a M)) := by
  have hne := P.b0 v (List.mem_singleton.mpr rfl)
  have hin : v ∈ zeros ++ [v] := List.mem_append_right _ (List.mem_singleton.mpr rfl)
  have rv := P.rng v hin
  have lv := P.len v hin
  -- what the pivot's numbers are
  have key : (normP v a M).length = w ∧ Rng M (normP v a M) ∧ (0 < en (normP v a M) a ∧ (M ≠ 0 → en (normP v a M) a = 1)) ∧ (∃ q, ∀ j, M ∣ en (normP v a M) j - q * en v j) ∧ (∃ q, ∀ j, M ∣ en v j - q * en (normP v a M) j) ∧ (M = 0 → ∀ j, (en (normP v a M) j).natAbs = (en v j).natAbs) := by
    unfold normP
    by_cases hM : M = 0
    · rw [if_neg (by simpa using hM)]
      subst hM
      by_cases hn : en v a < 0
      · rw [if_pos hn]
        have e : ∀ j, en (v.map fun x => 0 - x) j = 0 - en v j := fun j => en_map (f := fun x => 0 - x) (by simp) j
        refine ⟨by rw [List.length_map]; exact lv, fun h => absurd rfl h, ⟨by rw [e a]; omega, fun h => absurd rfl h⟩, ⟨-1, fun j => ?_⟩, ⟨-1, fun j => ?_⟩, fun _ j => ?_⟩
        · rw [e j, show 0 - en v j - -1 * en v j = 0 by omega]; exact Int.dvd_zero _
        · rw [e j, show en v j - -1 * (0 - en v j) = 0 by omega]; exact Int.dvd_zero _
        · rw [e j]; omega
      · rw [if_neg hn]
        refine ⟨lv, fun h => absurd rfl h, ⟨by omega, fun h => absurd rfl h⟩, ⟨1, fun j => ?_⟩, ⟨1, fun j => ?_⟩, fun _ j => rfl⟩
        all_goals (rw [Int.one_mul, Int.sub_self]; exact Int.dvd_zero _)
    · rw [if_pos hM]
      obtain ⟨g1, g2⟩ := rv hM a
      obtain ⟨i1, i2, i3⟩ := inv_ok hm hM (show 0 < en v a by omega) g2
      have hM2 := hm.pos hM
      have e : ∀ j, en (v.map fun x => x * inv (en v a) M % M) j = en v j * inv (en v a) M % M := fun j => en_map (f := fun x => x * inv (en v a) M % M) (by simp) j
      refine ⟨by rw [List.length_map]; exact lv, fun _ j => ?_, ⟨by rw [e a, i1]; omega, fun _ => by rw [e a]; exact i1⟩, ⟨inv (en v a) M, fun j => ?_⟩, ⟨en v a, fun j => ?_⟩, fun h => absurd h hM⟩
      · rw [e j]; exact ⟨Int.emod_nonneg _ hM, Int.emod_lt_of_pos _ (by omega)⟩
      · rw [e j, Int.mul_comm (inv _ _)]; exact mod_dvd _ M
      · rw [e j]
        -- v j - v_a * ((v j * i) % M)
        have h1 : M ∣ en v a * (en v j * inv (en v a) M % M) - en v a * (en v j * inv (en v a) M) := by
          rw [← Int.mul_sub]; exact Int.dvd_mul_of_dvd_right (mod_dvd _ M)
        have h2 : M ∣ en v a * inv (en v a) M * en v j - en v j := by
          have h3 : M ∣ en v a * inv (en v a) M - 1 := by
            have := mod_dvd (en v a * inv (en v a) M) M
            rw [i1] at this
            have e2 : en v a * inv (en v a) M - 1 = -(1 - en v a * inv (en v a) M) := by omega
            rw [e2]; exact Int.dvd_neg.mpr this
          have e3 : en v a * inv (en v a) M * en v j - en v j = (en v a * inv (en v a) M - 1) * en v j := by rw [Int.sub_mul, Int.one_mul]
          rw [e3]; exact Int.dvd_mul_of_dvd_left h3
        have e4 : en v a * (en v j * inv (en v a) M) = en v a * inv (en v a) M * en v j := by rw [Int.mul_comm (en v j), Int.mul_assoc]
        rw [e4] at h1
        have e5 : en v j - en v a * (en v j * inv (en v a) M % M) = -((en v a * (en v j * inv (en v a) M % M) - en v a * inv (en v a) M * en v j) + (en v a * inv (en v a) M * en v j - en v j)) := by omega
        rw [e5]; exact Int.dvd_neg.mpr (Int.dvd_add h1 h2)
  obtain ⟨k1, k2, k3, ⟨q1, k4⟩, ⟨q2, k5⟩, k6⟩ := key
  have one : SameL M [v] [normP v a M] := by
    refine ⟨fun r hr => ?_, fun r hr => ?_⟩
    · rw [List.mem_singleton.mp hr]
      exact ((InL.mem (List.mem_singleton.mpr rfl)).smul q2).congr fun j => by
        have e : q2 * en (normP v a M) j - en v j = -(en v j - q2 * en (normP v a M) j) := by omega
        rw [e]; exact Int.dvd_neg.mpr (k5 j)
    · rw [List.mem_singleton.mp hr]
      exact ((InL.mem (List.mem_singleton.mpr rfl)).smul q1).congr fun j => by
        have e : q1 * en v j - en (normP v a M) j = -(en (normP v a M) j - q1 * en v j) := by omega
        rw [e]; exact Int.dvd_neg.mpr (k4 j)
  refine ⟨P.same.trans (SameL.append SameL.refl one), fun r hr => ?_, P.z0, fun x hx => ?_, fun r hr => ?_, fun hM => ?_⟩
  · rcases List.mem_append.mp hr with h | h
    · exact P.len r (List.mem_append_left _ h)
    · rw [List.mem_singleton.mp h]; exact k1
  · rw [← Option.some.inj hx]; exact k3
  · rcases List.mem_append.mp hr with h | h
    · exact P.rng r (List.mem_append_left _ h)
    · rw [List.mem_singleton.mp h]; exact k2
  · have hb := (P.sz hM).bnd hB
    intro r hr j
    rcases List.mem_append.mp hr with h | h
    · exact hb r (List.mem_append_left _ h) j
    · rw [List.mem_singleton.mp h, k6 hM j]; exact hb v hin j
theorem PI.start {M : Int} {w a B : Nat} {rows : List Row} (hl : ∀ r ∈ rows, r.length = w) (hr : ∀ r ∈ rows, Rng M r) (hb : M = 0 → Bnd B rows) :
    PI M w a B rows (rows.filter fun r => decide (en r a = 0)) (rows.filter fun r => decide (en r a ≠ 0)) := by
  have hm : ∀ r, r ∈ rows ↔ r ∈ (rows.filter fun r => decide (en r a = 0)) ++ (rows.filter fun r => decide (en r a ≠ 0)) := fun r => by
    simp only [List.mem_append, List.mem_filter, decide_eq_true_eq]
    constructor
    · intro h
      by_cases z : en r a = 0
      · exact .inl ⟨h, z⟩
      · exact .inr ⟨h, z⟩
    · rintro (h | h) <;> exact h.1
  exact ⟨SameL.of_mem hm, fun r h => hl r ((hm r).mpr h), fun r h => of_decide_eq_true (List.mem_filter.mp h).2, fun r h => of_decide_eq_true (List.mem_filter.mp h).2, fun r h => hr r ((hm r).mpr h), fun z => .inl ((hb z).sub fun r h => (hm r).mpr h)⟩

/-! ### the reduced form -/
structure Herm (M : Int) (w : Nat) (D : List (Nat × Row)) : Prop where
  ech : Ech M w 0 D
  len : ∀ x ∈ D, x.2.length = w
  red : D.Pairwise fun x y => 0 ≤ en x.2 y.1 ∧ en x.2 y.1 < en y.2 y.1
  rng : ∀ x ∈ D, Rng M x.2
theorem lows_succ {M : Int} {w : Nat} {D : List (Nat × Row)} (h : Ech M w 0 D) (c : Nat) :
    (∃ d, (c, d) ∈ D ∧ lows (c + 1) D = lows c D ++ [(c, d)] ∧ highs c D = (c, d) :: highs (c + 1) D) ∨ ((∀ x ∈ highs c D, c < x.1) ∧ lows (c + 1) D = lows c D) := by
  obtain ⟨h1, _, h3⟩ := h.split c
  have e1 : lows (c + 1) (lows c D) = lows c D := List.filter_eq_self.mpr fun x hx => by
    have := of_decide_eq_true (List.mem_filter.mp hx).2
    exact decide_eq_true (by omega)
  have e2 : lows (c + 1) D = lows c D ++ lows (c + 1) (highs c D) := by
    conv => lhs; rw [h1]
    unfold lows
    rw [List.filter_append]
    congr 1
  have e3 : highs (c + 1) D = highs (c + 1) (highs c D) := by
    unfold highs
    rw [List.filter_filter]
    congr 1; funext x
    by_cases z : c + 1 ≤ x.1
    · simp [z]; omega
    · simp [z]
  cases hh : highs c D with
  | nil => exact .inr ⟨fun x hx => absurd hx (by simp), by rw [e2, hh]; simp [lows]⟩
  | cons y L =>
    obtain ⟨p, d⟩ := y
    rw [hh] at h3
    obtain ⟨g1, g2, g3, g4, g5, g6⟩ := h3
    by_cases hp : p = c
    · subst hp
      obtain ⟨f1, f2⟩ := g6.highs_all (c := p + 1) (Nat.le_refl _)
      refine .inl ⟨d, ?_, ?_, ?_⟩
      · have : (p, d) ∈ highs p D := by rw [hh]; exact List.mem_cons_self ..
        exact (List.mem_filter.mp this).1
      · rw [e2, hh]
        have : lows (p + 1) ((p, d) :: L) = (p, d) :: lows (p + 1) L := List.filter_cons_of_pos (by simp)
        rw [this, f2]
      · rw [e3, hh]
        have : highs (p + 1) ((p, d) :: L) = highs (p + 1) L := List.filter_cons_of_neg (by simp)
        rw [this, f1]
    · refine .inr ⟨fun x hx => ?_, ?_⟩
      · rcases List.mem_cons.mp hx with e | hx
        · subst e; show c < p; omega
        · have := (g6.all x hx).1; omega
      · rw [e2, hh]
        have : lows (c + 1) ((p, d) :: L) = [] := List.filter_eq_nil_iff.mpr fun x hx => by
          rcases List.mem_cons.mp hx with e | hx
          · subst e; simp; omega
          · have := (g6.all x hx).1; simp; omega
        rw [this, List.append_nil]
/-- what lies in the lattice and begins at c or later | its number at c -/
theorem Herm.at {M : Int} {w : Nat} {D : List (Nat × Row)} (h : Ech M w 0 D) {c : Nat} {v : Nat → Int} (hv : InL M (D.map (·.2)) v) (hz : ∀ j, j < c → M ∣ v j) : InL M ((highs c D).map (·.2)) v := by
  obtain ⟨h1, h2, h3⟩ := h.split c
  rw [h1, List.map_append] at hv
  refine tri (c := c) (fun r hr j hj => ?_) h2 (fun x hx => of_decide_eq_true (List.mem_filter.mp hx).2) hz hv
  obtain ⟨x, hx, rfl⟩ := List.mem_map.mp hr
  obtain ⟨g1, _, g3, _⟩ := h3.all x hx
  exact g3 j (by omega)
theorem Herm.at_no {M : Int} {w : Nat} {D : List (Nat × Row)} (h : Ech M w 0 D) {c : Nat} {v : Nat → Int} (hv : InL M (D.map (·.2)) v) (hz : ∀ j, j < c → M ∣ v j) (hc : ∀ x ∈ highs c D, c < x.1) : M ∣ v c := by
  refine (Herm.at h hv hz).col fun r hr => ?_
  obtain ⟨x, hx, rfl⟩ := List.mem_map.mp hr
  obtain ⟨_, _, g3, _⟩ := (h.split c).2.2.all x hx
  rw [g3 c (hc x hx)]; exact Int.dvd_zero M
theorem Herm.at_yes {M : Int} {w : Nat} {D : List (Nat × Row)} (h : Ech M w 0 D) {c : Nat} {d : Row} {v : Nat → Int} (hv : InL M (D.map (·.2)) v) (hz : ∀ j, j < c → M ∣ v j) (hc : highs c D = (c, d) :: highs (c + 1) D) : ∃ a : Int, M ∣ v c - a * en d c := by
  have h1 := Herm.at h hv hz
  rw [hc] at h1
  obtain ⟨a, ha⟩ := h1
  refine ⟨a, ha.col fun r hr => ?_⟩
  obtain ⟨x, hx, rfl⟩ := List.mem_map.mp hr
  have hx2 := of_decide_eq_true (List.mem_filter.mp hx).2
  obtain ⟨_, _, g3, _⟩ := h.all x (List.mem_filter.mp hx).1
  rw [g3 c (by omega)]; exact Int.dvd_zero M
end Mine
set_option Elab.async false
set_option linter.all false
namespace Mine
/-! ### one pivot, by any way of keeping the rows -/
theorem short_base {M : Int} {w a : Nat} {v r : Row} (hm : Md M) (lv : v.length = w) (lr : r.length = w) (rv : Rng M v) (rr : Rng M r) (hne : en v a ≠ 0) :
    (shortOf v a M r).length = w ∧ Rng M (shortOf v a M r) ∧ (en (shortOf v a M r) a).natAbs < (en v a).natAbs ∧ (∃ q : Int, ∀ j, M ∣ en (shortOf v a M r) j - (en r j - q * en v j)) ∧ (M ≠ 0 → en (shortOf v a M r) a = 0) := by
  have hl : r.length = v.length := by rw [lr, lv]
  obtain ⟨s1, s2⟩ := short_at (at' := a) (w := w) hl hm rr rv hne
  refine ⟨(lessT_len hl).trans lr, lessT_rng hl hm rr, ?_, ⟨_, fun j => lessT_dvd hl j⟩, s1⟩
  unfold shortOf
  by_cases hM : M = 0
  · rw [s2 hM]
    obtain ⟨f1, f2⟩ := fdiv_facts (en r a) (en v a) hne
    rcases Int.lt_or_gt_of_ne hne with h | h
    · have := f2 h; omega
    · have := f1 h; omega
  · rw [s1 hM]; omega
/-- a quotient of like signs -/
theorem fdiv_abs {n v : Int} (h : 0 < n ∧ 0 < v ∨ n < 0 ∧ v < 0) : ∃ k : Nat, n.fdiv v = (k : Int) ∧ k * v.natAbs ≤ n.natAbs ∧ (n - n.fdiv v * v).natAbs + k * v.natAbs = n.natAbs := by
  have hv : v ≠ 0 := by omega
  obtain ⟨f1, f2⟩ := fdiv_facts n v hv
  generalize n.fdiv v = q at *
  have hq : 0 ≤ q := by
    rcases Int.lt_or_le q 0 with z | z
    · exfalso
      rcases h with ⟨h1, h2⟩ | ⟨h1, h2⟩
      · have := Int.mul_le_mul_of_nonneg_right (show q ≤ -1 by omega) (show 0 ≤ v by omega)
        have := f1 h2; omega
      · have := Int.mul_le_mul_of_nonpos_right (show q ≤ -1 by omega) (show v ≤ 0 by omega)
        have := f2 h2; omega
    · exact z
  obtain ⟨k, rfl⟩ : ∃ k : Nat, q = k := ⟨q.toNat, by omega⟩
  have e : (k * v.natAbs : Nat) = ((k : Int) * v).natAbs := by rw [Int.natAbs_mul]; rfl
  refine ⟨k, rfl, ?_, ?_⟩
  all_goals rw [e]
  all_goals rcases h with ⟨h1, h2⟩ | ⟨h1, h2⟩
  · have := Int.mul_nonneg hq (show 0 ≤ v by omega)
    have := f1 h2; omega
  · have := Int.mul_nonpos_of_nonneg_of_nonpos hq (show v ≤ 0 by omega)
    have := f2 h2; omega
  · have := Int.mul_nonneg hq (show 0 ≤ v by omega)
    have := f1 h2; omega
  · have := Int.mul_nonpos_of_nonneg_of_nonpos hq (show v ≤ 0 by omega)
    have := f2 h2; omega
def SzE (B a R X m : Nat) (busy : List Row) : Prop :=
  ((∀ x ∈ busy, 0 < en x a) ∨ ∀ x ∈ busy, en x a < 0) ∧ (∀ x ∈ busy, (en x a).natAbs ≤ m) ∧ (∃ x ∈ busy, (en x a).natAbs = m) ∧
    ((∃ t, m < 2 ^ t ∧ 2 * t ≤ R ∧ X * (m * m) ≤ 3 * B ^ 3) ∨ ∃ t mp, mp < 2 ^ t ∧ 2 * t ≤ R + 1 ∧ X * (mp * mp) ≤ 6 * B ^ 3 ∧ ∃ x ∈ busy, (en x a).natAbs + m ≤ mp)
def SzJ (B a R : Nat) (zeros busy : List Row) : Prop :=
  (∃ t, B < 2 ^ t ∧ 2 * t + 1 ≤ R ∧ Bnd B (zeros ++ busy)) ∨ ∃ X m : Nat, Bnd X (zeros ++ busy) ∧ X ≤ 6 * B ^ 3 ∧ (2 ≤ busy.length → SzE B a R X m busy)
def nzAt (a : Nat) (rows : List Row) : List Row := rows.filter fun r => decide (en r a ≠ 0)
def zAt (a : Nat) (rows : List Row) : List Row := rows.filter fun r => decide (en r a = 0)
structure PJ (M : Int) (w a B N R : Nat) (R0 zeros busy : List Row) : Prop where
  same : SameL M R0 (zeros ++ busy)
  len : ∀ r ∈ zeros ++ busy, r.length = w
  z0 : ∀ r ∈ zeros, en r a = 0
  b0 : ∀ r ∈ busy, en r a ≠ 0
  rng : ∀ r ∈ zeros ++ busy, Rng M r
  cnt : zeros.length + busy.length ≤ N
  sz : M = 0 → SzJ B a R zeros busy
  szM : M ≠ 0 → 1 ≤ R ∨ busy.length < 2
  few : (nzAt a R0).length ≤ 1 → zeros = zAt a R0 ∧ busy = nzAt a R0
  emp : busy = [] → nzAt a R0 = []
  keep : ∀ r ∈ zAt a R0, r ∈ zeros ∨ ∀ j, en r j = 0
variable {M : Int} {w a B N R : Nat} {R0 zeros busy zeros' busy' : List Row} {v : Row}
theorem PJ.fin (P : PJ M w a B N 0 R0 zeros busy) : busy.length < 2 := by
  rcases Nat.lt_or_ge busy.length 2 with h | h
  · exact h
  exfalso
  by_cases hM : M = 0
  · rcases P.sz hM with ⟨t, _, h1, _⟩ | ⟨X, m, hb, _, hE⟩
    · omega
    · obtain ⟨_, hx, _, ho⟩ := hE h
      obtain ⟨x, hxb⟩ := List.exists_mem_of_length_pos (show 0 < busy.length by omega)
      have h0 := P.b0 x hxb
      have h1 := hx x hxb
      rcases ho with ⟨t, h2, h3, _⟩ | ⟨t, mp, h2, h3, _, y, hy, h4⟩
      · have : t = 0 := by omega
        subst this; simp at h2; omega
      · have : t = 0 := by omega
        subst this; simp at h2; omega
  · rcases P.szM hM with h1 | h1 <;> omega
/-- a turn -/
theorem PJ.step (hm : Md M) (hB : 1 ≤ B) (P : PJ M w a B N (R + 1) R0 zeros busy) (h2 : 2 ≤ busy.length) (hv : v ∈ busy) (hmin : ∀ x ∈ busy, (en v a).natAbs ≤ (en x a).natAbs)
    (hin : ∀ s ∈ zeros' ++ busy', s ∈ zeros ∨ s = v ∨ ∃ r ∈ busy, s = shortOf v a M r) (hv' : v ∈ busy') (hz' : ∀ s ∈ zeros', en s a = 0) (hb' : ∀ s ∈ busy', en s a ≠ 0)
    (hc1 : ∀ r ∈ zeros, r ∈ zeros' ∨ ∀ j, en r j = 0) (hc2 : ∀ r ∈ busy, r = v ∨ shortOf v a M r ∈ zeros' ++ busy' ∨ ∀ j, en (shortOf v a M r) j = 0)
    (h1v : 2 ≤ busy'.length → ∃ r ∈ busy, shortOf v a M r ∈ busy') (hcnt : zeros'.length + busy'.length ≤ zeros.length + busy.length) :
    PJ M w a B N R R0 zeros' busy' := by
  have hne := P.b0 v hv
  have lv := P.len v (List.mem_append_right _ hv)
  have rv := P.rng v (List.mem_append_right _ hv)
  have sf : ∀ r ∈ busy, (shortOf v a M r).length = w ∧ Rng M (shortOf v a M r) ∧ (en (shortOf v a M r) a).natAbs < (en v a).natAbs ∧ (∃ q : Int, ∀ j, M ∣ en (shortOf v a M r) j - (en r j - q * en v j)) ∧ (M ≠ 0 → en (shortOf v a M r) a = 0) := fun r hr =>
    short_base hm lv (P.len r (List.mem_append_right _ hr)) rv (P.rng r (List.mem_append_right _ hr)) hne
  have hvn : v ∈ zeros' ++ busy' := List.mem_append_right _ hv'
  refine ⟨P.same.trans ⟨fun r hr => ?_, fun s hs => ?_⟩, fun s hs => ?_, hz', hb', fun s hs => ?_, Nat.le_trans hcnt P.cnt, fun hM => ?_, fun hM => ?_, fun hf => ?_, fun he => ?_, fun r hr => ?_⟩
  · rcases List.mem_append.mp hr with z | hb
    · rcases hc1 r z with h | h
      · exact InL.mem (List.mem_append_left _ h)
      · exact InL.zero.eq fun j => (h j).symm
    · rcases hc2 r hb with e | h | h
      · rw [e]; exact InL.mem hvn
      · obtain ⟨_, _, _, ⟨q, hq⟩, _⟩ := sf r hb
        exact ((InL.mem h).add ((InL.mem hvn).smul q)).congr fun j => by
          have e : en (shortOf v a M r) j + q * en v j - en r j = en (shortOf v a M r) j - (en r j - q * en v j) := by omega
          rw [e]; exact hq j
      · obtain ⟨_, _, _, ⟨q, hq⟩, _⟩ := sf r hb
        exact ((InL.mem hvn).smul q).congr fun j => by
          have e : q * en v j - en r j = en (shortOf v a M r) j - (en r j - q * en v j) := by rw [h j]; omega
          rw [e]; exact hq j
  · rcases hin s hs with h | h | ⟨r, hb, rfl⟩
    · exact InL.mem (List.mem_append_left _ h)
    · rw [h]; exact InL.mem (List.mem_append_right _ hv)
    · obtain ⟨_, _, _, ⟨q, hq⟩, _⟩ := sf r hb
      have inR : InL M (zeros ++ busy) (en r) := InL.mem (List.mem_append_right _ hb)
      have inV : InL M (zeros ++ busy) (en v) := InL.mem (List.mem_append_right _ hv)
      exact (inR.sub (inV.smul q)).congr fun j => by
        have e : en r j - q * en v j - en (shortOf v a M r) j = -(en (shortOf v a M r) j - (en r j - q * en v j)) := by omega
        rw [e]; exact Int.dvd_neg.mpr (hq j)
  · rcases hin s hs with h | h | ⟨r, hb, rfl⟩
    · exact P.len s (List.mem_append_left _ h)
    · rw [h]; exact lv
    · exact (sf r hb).1
  · rcases hin s hs with h | h | ⟨r, hb, rfl⟩
    · exact P.rng s (List.mem_append_left _ h)
    · rw [h]; exact rv
    · exact (sf r hb).2.1
  · -- the sizes
    subst hM
    have lr : ∀ r ∈ busy, r.length = v.length := fun r hr => by rw [lv]; exact P.len r (List.mem_append_right _ hr)
    have e : ∀ r ∈ busy, ∀ j, en (shortOf v a 0 r) j = en r j - (en r a).fdiv (en v a) * en v j := fun r hr j => by
      unfold shortOf quot; rw [if_pos rfl]; exact lessT_0 (lr r hr) j
    have hp : 1 ≤ (en v a).natAbs := by omega
    have small : ∀ x ∈ busy', (en x a).natAbs ≤ (en v a).natAbs := fun x hx => by
      rcases hin x (List.mem_append_right _ hx) with h | h | ⟨r, hb, rfl⟩
      · exact absurd (P.z0 x h) (hb' x hx)
      · rw [h]; exact Nat.le_refl _
      · exact Nat.le_of_lt (sf r hb).2.2.1
    have sgn : (∀ x ∈ busy', 0 < en x a) ∨ ∀ x ∈ busy', en x a < 0 := by
      rcases Int.lt_or_gt_of_ne hne with h | h
      · refine .inr fun x hx => ?_
        have hx0 := hb' x hx
        rcases hin x (List.mem_append_right _ hx) with g | g | ⟨r, hb, rfl⟩
        · exact absurd (P.z0 x g) hx0
        · rw [g]; exact h
        · have := (fdiv_facts (en r a) (en v a) hne).2 h
          rw [e r hb] at hx0 ⊢; omega
      · refine .inl fun x hx => ?_
        have hx0 := hb' x hx
        rcases hin x (List.mem_append_right _ hx) with g | g | ⟨r, hb, rfl⟩
        · exact absurd (P.z0 x g) hx0
        · rw [g]; exact h
        · have := (fdiv_facts (en r a) (en v a) hne).1 h
          rw [e r hb] at hx0 ⊢; omega
    have b3 : B ^ 3 = B * B * B := by rw [show (3 : Nat) = 2 + 1 from rfl, Nat.pow_add, Nat.pow_two, Nat.pow_one]
    have hBB : 1 ≤ B * B := Nat.mul_pos hB hB
    rcases P.sz rfl with ⟨t, ht, hR, hb⟩ | ⟨X, m, hb, hX6, hE⟩
    · -- the first turn
      have hpB : (en v a).natAbs ≤ B := hb v (List.mem_append_right _ hv) a
      generalize hp' : (en v a).natAbs = p at *
      have bX : ∀ s ∈ zeros' ++ busy', ∀ j, (en s j).natAbs ≤ 2 * B + B * (B / p) := fun s hs j => by
        rcases hin s hs with h | h | ⟨r, hr, rfl⟩
        · have := hb s (List.mem_append_left _ h) j; omega
        · rw [h]; have := hb v (List.mem_append_right _ hv) j; omega
        · rw [e r hr]
          have h1 := hb r (List.mem_append_right _ hr) j
          have h1a := hb r (List.mem_append_right _ hr) a
          have h3 := hb v (List.mem_append_right _ hv) j
          have h4 : ((en r a).fdiv (en v a)).natAbs ≤ B / p + 1 := by
            have hq : ((en r a).fdiv (en v a) * en v a).natAbs ≤ (en r a).natAbs + p := by
              obtain ⟨f1, f2⟩ := fdiv_facts (en r a) (en v a) hne
              rcases Int.lt_or_gt_of_ne hne with h | h
              · have := f2 h; omega
              · have := f1 h; omega
            rw [Int.natAbs_mul, hp'] at hq
            have h5 : ((en r a).fdiv (en v a)).natAbs ≤ (B + p) / p := (Nat.le_div_iff_mul_le hp).mpr (by omega)
            rw [Nat.add_div_right _ hp] at h5; exact h5
          have h6 : ((en r a).fdiv (en v a) * en v j).natAbs ≤ (B / p + 1) * B := by
            rw [Int.natAbs_mul]; exact Nat.mul_le_mul h4 h3
          rw [Nat.add_mul, Nat.one_mul, Nat.mul_comm (B / p)] at h6
          omega
      have hq : B / p * p ≤ B := Nat.div_mul_le_self ..
      have hq1 : B / p ≤ B := Nat.div_le_self ..
      have hX1 : B * (B / p) * (p * p) ≤ B * B * B := by
        have h1 : B * (B / p) * (p * p) = B * (B / p * p) * p := by simp only [Nat.mul_assoc, Nat.mul_comm, Nat.mul_left_comm]
        rw [h1]
        exact Nat.mul_le_mul (Nat.mul_le_mul (Nat.le_refl _) hq) hpB
      have hX2 : B * (p * p) ≤ B * (B * B) := Nat.mul_le_mul_left _ (Nat.mul_le_mul hpB hpB)
      rw [← Nat.mul_assoc B B B] at hX2
      refine .inr ⟨2 * B + B * (B / p), p, bX, ?_, fun _ => ⟨sgn, small, ⟨v, hv', hp'⟩, .inl ⟨t, by omega, by omega, ?_⟩⟩⟩
      · rw [b3]
        have h1 : B * (B / p) ≤ B * B := Nat.mul_le_mul_left _ hq1
        have h2 : B * B ≤ B * B * B := Nat.le_mul_of_pos_right _ hB
        have h3 : B ≤ B * B := Nat.le_mul_of_pos_right _ hB
        omega
      · rw [b3, Nat.add_mul, Nat.mul_assoc 2]
        omega
    · -- the later turns
      obtain ⟨sg, hR, ⟨px, hpx, hpm⟩, hc⟩ := hE h2
      have like : ∀ r ∈ busy, (0 < en r a ∧ 0 < en v a ∨ en r a < 0 ∧ en v a < 0) := fun r hr => by
        rcases sg with sg | sg
        · exact .inl ⟨sg r hr, sg v hv⟩
        · exact .inr ⟨sg r hr, sg v hv⟩
      have hpR : (en v a).natAbs ≤ m := hR v hv
      generalize hp' : (en v a).natAbs = p at *
      generalize hq' : m / p = q at *
      have hq1 : 1 ≤ q := by rw [← hq']; exact (Nat.le_div_iff_mul_le hp).mpr (by omega)
      have hqm : q * p ≤ m := by rw [← hq']; exact Nat.div_mul_le_self ..
      have bX : ∀ s ∈ zeros' ++ busy', ∀ j, (en s j).natAbs ≤ (1 + q) * X := fun s hs j => by
        have base : ∀ y : Nat, y ≤ X → y ≤ (1 + q) * X := fun y hy => Nat.le_trans hy (Nat.le_mul_of_pos_left _ (by omega))
        rcases hin s hs with h | h | ⟨r, hr, rfl⟩
        · exact base _ (hb s (List.mem_append_left _ h) j)
        · rw [h]; exact base _ (hb v (List.mem_append_right _ hv) j)
        · rw [e r hr]
          obtain ⟨k, hk, hk1, _⟩ := fdiv_abs (like r hr)
          have h1 := hb r (List.mem_append_right _ hr) j
          have h3 := hb v (List.mem_append_right _ hv) j
          have h4 : k ≤ q := by
            rw [← hq']
            refine (Nat.le_div_iff_mul_le hp).mpr ?_
            rw [hp'] at hk1
            exact Nat.le_trans hk1 (hR r hr)
          rw [hk]
          have h6 : ((k : Int) * en v j).natAbs ≤ q * X := by
            rw [Int.natAbs_mul]; exact Nat.mul_le_mul h4 h3
          rw [Nat.add_mul, Nat.one_mul]
          omega
      rcases hc with ⟨t, ht, htR, hXm⟩ | ⟨t, mp, ht, htR, hXm, x0, hx0, hx0m⟩
      · by_cases hq2 : 2 ≤ q
        · have h1 : (1 + q) * X * (p * p) ≤ 3 * B ^ 3 := by
            refine Nat.le_trans ?_ hXm
            have g1 : 1 + q ≤ q * q := by
              have := Nat.mul_le_mul hq2 (Nat.le_refl q); omega
            have g2 : (q * p) * (q * p) ≤ m * m := Nat.mul_le_mul hqm hqm
            have g3 : (1 + q) * X * (p * p) ≤ q * q * X * (p * p) := Nat.mul_le_mul_right _ (Nat.mul_le_mul_right _ g1)
            have g4 : q * q * X * (p * p) = X * ((q * p) * (q * p)) := by simp only [Nat.mul_assoc, Nat.mul_comm, Nat.mul_left_comm]
            rw [g4] at g3
            exact Nat.le_trans g3 (Nat.mul_le_mul_left _ g2)
          refine .inr ⟨(1 + q) * X, p, bX, ?_, fun _ => ⟨sgn, small, ⟨v, hv', hp'⟩, .inl ⟨t - 1, ?_, by omega, h1⟩⟩⟩
          · have : (1 + q) * X * 1 ≤ (1 + q) * X * (p * p) := Nat.mul_le_mul_left _ (Nat.mul_pos hp hp)
            omega
          · have h2p : 2 * p ≤ q * p := Nat.mul_le_mul_right _ hq2
            have ht1 : t ≠ 0 := fun z => by subst z; simp at ht; omega
            obtain ⟨u, rfl⟩ := Nat.exists_eq_succ_of_ne_zero ht1
            rw [Nat.pow_succ] at ht
            show p < 2 ^ u
            omega
        · have hq2 : q = 1 := by omega
          subst hq2
          have h1 : (1 + 1) * X * (m * m) ≤ 6 * B ^ 3 := by rw [Nat.mul_assoc]; omega
          refine .inr ⟨(1 + 1) * X, p, bX, ?_, fun hl => ⟨sgn, small, ⟨v, hv', hp'⟩, .inr ⟨t, m, ht, by omega, h1, ?_⟩⟩⟩
          · have : (1 + 1) * X * 1 ≤ (1 + 1) * X * (m * m) := Nat.mul_le_mul_left _ (Nat.mul_pos (by omega) (by omega))
            omega
          · obtain ⟨r0, hr0, hs0⟩ := h1v hl
            have hs0' := hb' _ hs0
            have gt : p < m := by
              rcases Nat.lt_or_ge p m with z | z
              · exact z
              · exfalso
                obtain ⟨k, hk, _, hk2⟩ := fdiv_abs (like r0 hr0)
                rw [e r0 hr0] at hs0'
                have h3 := hR r0 hr0
                have h4 := hmin r0 hr0
                rw [hp'] at hk2
                have hk1 : 1 ≤ k := by
                  rcases Nat.eq_zero_or_pos k with y | y
                  · subst y
                    have h5 := (sf r0 hr0).2.2.1
                    rw [e r0 hr0] at h5; omega
                  · exact y
                have : 1 * p ≤ k * p := Nat.mul_le_mul_right _ hk1
                omega
            obtain ⟨k, hk, hk1, hk2⟩ := fdiv_abs (like px hpx)
            rw [hp', hpm] at hk1 hk2
            have hk3 : k = 1 := by
              have h5 := (sf px hpx).2.2.1
              rw [e px hpx] at h5
              have h6 : k ≤ 1 := by
                rw [← hq']; exact (Nat.le_div_iff_mul_le hp).mpr hk1
              rcases Nat.eq_zero_or_pos k with y | y
              · subst y; omega
              · omega
            subst hk3
            have hes := e px hpx a
            have hnz : en (shortOf v a 0 px) a ≠ 0 := by rw [hes]; omega
            refine ⟨shortOf v a 0 px, ?_, by rw [hes]; omega⟩
            rcases hc2 px hpx with h | h | h
            · rw [h] at hpm; omega
            · rcases List.mem_append.mp h with h | h
              · exact absurd (hz' _ h) hnz
              · exact h
            · exact absurd (h a) hnz
      · have hp0 := hmin x0 hx0
        have hqp : (1 + q) * p ≤ mp := by rw [Nat.add_mul, Nat.one_mul]; omega
        have h1 : (1 + q) * X * (p * p) * (1 + q) ≤ 6 * B ^ 3 := by
          have g4 : (1 + q) * X * (p * p) * (1 + q) = X * (((1 + q) * p) * ((1 + q) * p)) := by simp only [Nat.mul_assoc, Nat.mul_comm, Nat.mul_left_comm]
          rw [g4]
          exact Nat.le_trans (Nat.mul_le_mul_left _ (Nat.mul_le_mul hqp hqp)) hXm
        have h1' : (1 + q) * X * (p * p) ≤ 3 * B ^ 3 := by
          have : (1 + q) * X * (p * p) * 2 ≤ (1 + q) * X * (p * p) * (1 + q) := Nat.mul_le_mul_left _ (by omega)
          omega
        refine .inr ⟨(1 + q) * X, p, bX, ?_, fun _ => ⟨sgn, small, ⟨v, hv', hp'⟩, .inl ⟨t - 1, ?_, by omega, h1'⟩⟩⟩
        · have : (1 + q) * X * 1 ≤ (1 + q) * X * (p * p) := Nat.mul_le_mul_left _ (Nat.mul_pos hp hp)
          omega
        · have h2p : 2 * p ≤ (1 + q) * p := Nat.mul_le_mul_right _ (by omega)
          have ht1 : t ≠ 0 := fun z => by subst z; simp at ht; omega
          obtain ⟨u, rfl⟩ := Nat.exists_eq_succ_of_ne_zero ht1
          rw [Nat.pow_succ] at ht
          show p < 2 ^ u
          omega
  · right
    rcases Nat.lt_or_ge busy'.length 2 with h | h
    · exact h
    · obtain ⟨r, hr, hs⟩ := h1v h
      exact absurd ((sf r hr).2.2.2.2 hM) (hb' _ hs)
  · have := (P.few hf).2
    rw [this] at h2; omega
  · rw [he] at hv'; exact absurd hv' (by simp)
  · rcases P.keep r hr with h | h
    · exact hc1 r h
    · exact .inr h
end Mine
set_option Elab.async false
set_option linter.all false
namespace Mine
/-! ### the pivot handed back -/
theorem normP_key {M : Int} {w a : Nat} {v : Row} (hm : Md M) (lv : v.length = w) (rv : Rng M v) (hne : en v a ≠ 0) :
    (normP v a M).length = w ∧ Rng M (normP v a M) ∧ (0 < en (normP v a M) a ∧ (M ≠ 0 → en (normP v a M) a = 1)) ∧ SameL M [v] [normP v a M] ∧ (M = 0 → ∀ j, (en (normP v a M) j).natAbs = (en v j).natAbs) := by
  have key : (normP v a M).length = w ∧ Rng M (normP v a M) ∧ (0 < en (normP v a M) a ∧ (M ≠ 0 → en (normP v a M) a = 1)) ∧ (∃ q, ∀ j, M ∣ en (normP v a M) j - q * en v j) ∧ (∃ q, ∀ j, M ∣ en v j - q * en (normP v a M) j) ∧ (M = 0 → ∀ j, (en (normP v a M) j).natAbs = (en v j).natAbs) := by
    unfold normP
    by_cases hM : M = 0
    · rw [if_neg (by simpa using hM)]
      subst hM
      by_cases hn : en v a < 0
      · rw [if_pos hn]
        have e : ∀ j, en (v.map fun x => 0 - x) j = 0 - en v j := fun j => en_map (f := fun x => 0 - x) (by simp) j
        refine ⟨by rw [List.length_map]; exact lv, fun h => absurd rfl h, ⟨by rw [e a]; omega, fun h => absurd rfl h⟩, ⟨-1, fun j => ?_⟩, ⟨-1, fun j => ?_⟩, fun _ j => ?_⟩
        · rw [e j, show 0 - en v j - -1 * en v j = 0 by omega]; exact Int.dvd_zero _
        · rw [e j, show en v j - -1 * (0 - en v j) = 0 by omega]; exact Int.dvd_zero _
        · rw [e j]; omega
      · rw [if_neg hn]
        refine ⟨lv, fun h => absurd rfl h, ⟨by omega, fun h => absurd rfl h⟩, ⟨1, fun j => ?_⟩, ⟨1, fun j => ?_⟩, fun _ j => rfl⟩
        all_goals (rw [Int.one_mul, Int.sub_self]; exact Int.dvd_zero _)
    · rw [if_pos hM]
      obtain ⟨g1, g2⟩ := rv hM a
      obtain ⟨i1, i2, i3⟩ := inv_ok hm hM (show 0 < en v a by omega) g2
      have hM2 := hm.pos hM
      have e : ∀ j, en (v.map fun x => x * inv (en v a) M % M) j = en v j * inv (en v a) M % M := fun j => en_map (f := fun x => x * inv (en v a) M % M) (by simp) j
      refine ⟨by rw [List.length_map]; exact lv, fun _ j => ?_, ⟨by rw [e a, i1]; omega, fun _ => by rw [e a]; exact i1⟩, ⟨inv (en v a) M, fun j => ?_⟩, ⟨en v a, fun j => ?_⟩, fun h => absurd h hM⟩
      · rw [e j]; exact ⟨Int.emod_nonneg _ hM, Int.emod_lt_of_pos _ (by omega)⟩
      · rw [e j, Int.mul_comm (inv _ _)]; exact mod_dvd _ M
      · rw [e j]
        -- v j - v_a * ((v j * i) % M)
        have h1 : M ∣ en v a * (en v j * inv (en v a) M % M) - en v a * (en v j * inv (en v a) M) := by
          rw [← Int.mul_sub]; exact Int.dvd_mul_of_dvd_right (mod_dvd _ M)
        have h2 : M ∣ en v a * inv (en v a) M * en v j - en v j := by
          have h3 : M ∣ en v a * inv (en v a) M - 1 := by
            have := mod_dvd (en v a * inv (en v a) M) M
            rw [i1] at this
            have e2 : en v a * inv (en v a) M - 1 = -(1 - en v a * inv (en v a) M) := by omega
            rw [e2]; exact Int.dvd_neg.mpr this
          have e3 : en v a * inv (en v a) M * en v j - en v j = (en v a * inv (en v a) M - 1) * en v j := by rw [Int.sub_mul, Int.one_mul]
          rw [e3]; exact Int.dvd_mul_of_dvd_left h3
        have e4 : en v a * (en v j * inv (en v a) M) = en v a * inv (en v a) M * en v j := by rw [Int.mul_comm (en v j), Int.mul_assoc]
        rw [e4] at h1
        have e5 : en v j - en v a * (en v j * inv (en v a) M % M) = -((en v a * (en v j * inv (en v a) M % M) - en v a * inv (en v a) M * en v j) + (en v a * inv (en v a) M * en v j - en v j)) := by omega
        rw [e5]; exact Int.dvd_neg.mpr (Int.dvd_add h1 h2)
  obtain ⟨k1, k2, k3, ⟨q1, k4⟩, ⟨q2, k5⟩, k6⟩ := key
  have one : SameL M [v] [normP v a M] := by
    refine ⟨fun r hr => ?_, fun r hr => ?_⟩
    · rw [List.mem_singleton.mp hr]
      exact ((InL.mem (List.mem_singleton.mpr rfl)).smul q2).congr fun j => by
        have e : q2 * en (normP v a M) j - en v j = -(en v j - q2 * en (normP v a M) j) := by omega
        rw [e]; exact Int.dvd_neg.mpr (k5 j)
    · rw [List.mem_singleton.mp hr]
      exact ((InL.mem (List.mem_singleton.mpr rfl)).smul q1).congr fun j => by
        have e : q1 * en v j - en (normP v a M) j = -(en (normP v a M) j - q1 * en v j) := by omega
        rw [e]; exact Int.dvd_neg.mpr (k4 j)
  exact ⟨k1, k2, k3, one, k6⟩
structure QPost (M : Int) (w a B N : Nat) (R0 zs : List Row) (pv : Option Row) : Prop where
  same : SameL M R0 (zs ++ pv.toList)
  len : ∀ r ∈ zs ++ pv.toList, r.length = w
  z0 : ∀ r ∈ zs, en r a = 0
  pos : ∀ v, pv = some v → 0 < en v a ∧ (M ≠ 0 → en v a = 1)
  rng : ∀ r ∈ zs ++ pv.toList, Rng M r
  cnt : zs.length + pv.toList.length ≤ N
  bnd : M = 0 → Bnd (6 * B ^ 3) (zs ++ pv.toList)
  few : (nzAt a R0).length ≤ 1 → zs = zAt a R0 ∧ (M = 0 → Bnd B R0 → Bnd B (zs ++ pv.toList)) ∧ pv.toList = (nzAt a R0).map fun v => normP v a M
  emp : pv = none → nzAt a R0 = []
theorem Bnd3 {B : Nat} (hB : 1 ≤ B) : B ≤ 6 * B ^ 3 := by
  have b3 : B ^ 3 = B * (B * B) := by rw [show (3 : Nat) = 2 + 1 from rfl, Nat.pow_add, Nat.pow_two, Nat.pow_one, Nat.mul_assoc]
  have : B ≤ B ^ 3 := by rw [b3]; exact Nat.le_mul_of_pos_right _ (Nat.mul_pos hB hB)
  omega
theorem SzJ.bnd {B a R : Nat} {zeros busy : List Row} (hB : 1 ≤ B) (h : SzJ B a R zeros busy) : Bnd (6 * B ^ 3) (zeros ++ busy) := by
  rcases h with ⟨_, _, _, h⟩ | ⟨X, m, h, hm, _⟩
  · exact h.mono (Bnd3 hB)
  · exact h.mono hm
theorem mem_zn {a : Nat} {rows : List Row} {r : Row} : r ∈ rows ↔ r ∈ zAt a rows ++ nzAt a rows := by
  unfold zAt nzAt
  simp only [List.mem_append, List.mem_filter, decide_eq_true_eq]
  constructor
  · intro h
    by_cases z : en r a = 0
    · exact .inl ⟨h, z⟩
    · exact .inr ⟨h, z⟩
  · rintro (h | h) <;> exact h.1
theorem len_zn (a : Nat) : ∀ rows : List Row, (zAt a rows).length + (nzAt a rows).length = rows.length
  | [] => rfl
  | r :: rows => by
    have ih := len_zn a rows
    unfold zAt nzAt at ih ⊢
    by_cases z : en r a = 0
    · rw [List.filter_cons_of_pos (by simpa using z), List.filter_cons_of_neg (by simpa using z), List.length_cons, List.length_cons]; omega
    · rw [List.filter_cons_of_neg (by simpa using z), List.filter_cons_of_pos (by simpa using z), List.length_cons, List.length_cons]; omega
/-- the rounds that B asks -/
def rnd (B : Nat) : Nat := 2 * (B.log2 + 1) + 1
theorem PJ.start {M : Int} {w a B N : Nat} {rows : List Row} (hl : ∀ r ∈ rows, r.length = w) (hr : ∀ r ∈ rows, Rng M r) (hb : M = 0 → Bnd B rows) (hN : rows.length ≤ N) :
    PJ M w a B N (rnd B) rows (zAt a rows) (nzAt a rows) :=
  ⟨SameL.of_mem fun r => mem_zn, fun r h => hl r (mem_zn.mpr h), fun r h => of_decide_eq_true (List.mem_filter.mp h).2, fun r h => of_decide_eq_true (List.mem_filter.mp h).2, fun r h => hr r (mem_zn.mpr h), by rw [len_zn]; exact hN,
    fun z => .inl ⟨B.log2 + 1, Nat.lt_log2_self, Nat.le_refl _, (hb z).sub fun r h => mem_zn.mpr h⟩, fun _ => .inl (by unfold rnd; omega), fun _ => ⟨rfl, rfl⟩, fun h => h, fun r h => .inl h⟩
theorem PJ.none {M : Int} {w a B N R : Nat} {R0 zeros : List Row} (hB : 1 ≤ B) (P : PJ M w a B N R R0 zeros []) : QPost M w a B N R0 zeros none :=
  ⟨P.same, P.len, P.z0, fun _ h => (nomatch h), P.rng, P.cnt, fun h => (P.sz h).bnd hB, fun hf => by
    obtain ⟨h1, h2⟩ := P.few hf
    refine ⟨h1, fun hM hb r hr => ?_, by rw [← h2]; rfl⟩
    rw [h1] at hr
    have hr' : r ∈ zAt a R0 ++ [] := hr
    rw [List.append_nil] at hr'
    exact hb r (List.mem_filter.mp hr').1, fun _ => P.emp rfl⟩
theorem PJ.one {M : Int} {w a B N R : Nat} {R0 zeros : List Row} {v : Row} (hm : Md M) (hB : 1 ≤ B) (P : PJ M w a B N R R0 zeros [v]) : QPost M w a B N R0 zeros (some (normP v a M)) := by
  have hne := P.b0 v (List.mem_singleton.mpr rfl)
  have hin : v ∈ zeros ++ [v] := List.mem_append_right _ (List.mem_singleton.mpr rfl)
  obtain ⟨k1, k2, k3, one, k6⟩ := normP_key hm (P.len v hin) (P.rng v hin) hne
  have bd : ∀ {X : Nat}, M = 0 → Bnd X (zeros ++ [v]) → Bnd X (zeros ++ [normP v a M]) := fun {X} hM hb r hr j => by
    rcases List.mem_append.mp hr with h | h
    · exact hb r (List.mem_append_left _ h) j
    · rw [List.mem_singleton.mp h, k6 hM j]; exact hb v hin j
  refine ⟨P.same.trans (SameL.append SameL.refl one), fun r hr => ?_, P.z0, fun x hx => ?_, fun r hr => ?_, P.cnt, fun hM => bd hM ((P.sz hM).bnd hB), fun hf => ?_, fun h => nomatch h⟩
  · rcases List.mem_append.mp hr with h | h
    · exact P.len r (List.mem_append_left _ h)
    · rw [List.mem_singleton.mp h]; exact k1
  · rw [← Option.some.inj hx]; exact k3
  · rcases List.mem_append.mp hr with h | h
    · exact P.rng r (List.mem_append_left _ h)
    · rw [List.mem_singleton.mp h]; exact k2
  · obtain ⟨h1, h2⟩ := P.few hf
    refine ⟨h1, fun hM hb => bd hM ?_, by rw [← h2]; rfl⟩
    refine hb.sub fun r hr => mem_zn (a := a) |>.mpr ?_
    rw [← h1, ← h2]; exact hr
end Mine
set_option Elab.async false
set_option linter.all false
namespace Mine
/-! ### the reduced rows, column by column -/
def gI (β : Nat) : Nat → Nat
  | 0 => β
  | k + 1 => 6 * gI β k ^ 3
theorem gI_1 {β : Nat} (h : 1 ≤ β) : ∀ k, 1 ≤ gI β k
  | 0 => h
  | k + 1 => Nat.le_trans (gI_1 h k) (Bnd3 (gI_1 h k))
theorem gI_mono {β : Nat} (h : 1 ≤ β) {i j : Nat} (hij : i ≤ j) : gI β i ≤ gI β j := by
  induction j with
  | zero => rw [Nat.le_zero.mp hij]; exact Nat.le_refl _
  | succ j ih =>
    rcases Nat.lt_or_ge i (j + 1) with h1 | h1
    · exact Nat.le_trans (ih (by omega)) (Bnd3 (gI_1 h j))
    · rw [show i = j + 1 by omega]; exact Nat.le_refl _
/-- the bound of what is left behind e pivots; tr: nothing is mixed -/
def bJ (tr : Bool) (β n e : Nat) : Nat := if tr then β else gI β (min e (n - 1))
theorem bJ_1 {tr : Bool} {β n e : Nat} (h : 1 ≤ β) : 1 ≤ bJ tr β n e := by
  unfold bJ; split
  · exact h
  · exact gI_1 h _
theorem bJ_mono {tr : Bool} {β n i j : Nat} (h : 1 ≤ β) (hij : i ≤ j) : bJ tr β n i ≤ bJ tr β n j := by
  unfold bJ; split
  · exact Nat.le_refl _
  · exact gI_mono h (by omega)
def tJ (B : Nat) : Nat → Nat
  | 0 => 0
  | e + 1 => tJ B e + (tJ B e + 1) * B + B
theorem tJ_mono {B i j : Nat} (hij : i ≤ j) : tJ B i ≤ tJ B j := by
  induction j with
  | zero => rw [Nat.le_zero.mp hij]; exact Nat.le_refl _
  | succ j ih =>
    rcases Nat.lt_or_ge i (j + 1) with h1 | h1
    · exact Nat.le_trans (ih (by omega)) (by show tJ B j ≤ tJ B j + (tJ B j + 1) * B + B; omega)
    · rw [show i = j + 1 by omega]; exact Nat.le_refl _
structure TJ (M : Int) (w c β n : Nat) (tr : Bool) (R0 : List Row) (L : List (Nat × Row)) (left : List Row) : Prop where
  ech : Ech M w 0 L
  lt : ∀ x ∈ L, x.1 < c
  same : SameL M R0 (L.map (·.2) ++ left)
  lenL : ∀ x ∈ L, x.2.length = w
  lenR : ∀ r ∈ left, r.length = w
  rngL : ∀ x ∈ L, Rng M x.2
  rngR : ∀ r ∈ left, Rng M r
  zero : ∀ r ∈ left, ∀ j, j < c → en r j = 0
  red : L.Pairwise fun x y => 0 ≤ en x.2 y.1 ∧ en x.2 y.1 < en y.2 y.1
  bL : M = 0 → Bnd (bJ tr β n L.length) left
  piv : M = 0 → ∀ x ∈ L, (en x.2 x.1).natAbs ≤ bJ tr β n n
  bT : M = 0 → Bnd (tJ (bJ tr β n n) L.length) (L.map (·.2))
  cnt : L.length + left.length ≤ n
  sing : tr = true → ∃ L' : List (Nat × Row), Ech M w c L' ∧ left = L'.map (·.2)
theorem TJ.start {M : Int} {w β n : Nat} {tr : Bool} {left : List Row} (hl : ∀ r ∈ left, r.length = w) (hr : ∀ r ∈ left, Rng M r) (hb : M = 0 → Bnd β left) (hn : left.length ≤ n) (hs : tr = true → ∃ L' : List (Nat × Row), Ech M w 0 L' ∧ left = L'.map (·.2)) : TJ M w 0 β n tr left [] left :=
  ⟨True.intro, fun x h => absurd h (by simp), SameL.refl, fun x h => absurd h (by simp), hl, fun x h => absurd h (by simp), hr, fun r _ j h => absurd h (by omega), List.Pairwise.nil, fun hM => by
    have := hb hM
    unfold bJ; split
    · exact this
    · rw [show min [].length (n - 1) = 0 by simp]; exact this, fun _ x h => absurd h (by simp), fun _ r h => absurd h (by simp), by simpa using hn, hs⟩
/-- the told rows, made shorter by a pivot -/
def redBy (v : Row) (c : Nat) (M : Int) (r : Row) : Row := lessT r v ((en r c).fdiv (en v c)) M
def toldJ (L : List (Nat × Row)) (pv : Option Row) (c : Nat) (M : Int) : List (Nat × Row) := match pv with
  | none => L
  | some v => (L.map fun x => (x.1, redBy v c M x.2)) ++ [(c, v)]
theorem ech_snoc {M : Int} {w c : Nat} {v : Row} (hc : c < w) (hz : ∀ j, j < c → en v j = 0) (hp : 0 < en v c) (h1 : M ≠ 0 → en v c = 1) : ∀ {lo : Nat} {L : List (Nat × Row)}, lo ≤ c → Ech M w lo L → (∀ x ∈ L, x.1 < c) → Ech M w lo (L ++ [(c, v)])
  | lo, [], hl, _, _ => ⟨hl, hc, hz, hp, h1, True.intro⟩
  | lo, (p, r) :: L, hl, hE, hlt => by
    obtain ⟨a1, a2, a3, a4, a5, a6⟩ := hE
    have := hlt (p, r) (List.mem_cons_self ..)
    exact ⟨a1, a2, a3, a4, a5, ech_snoc hc hz hp h1 (by have : p < c := this; omega) a6 fun x hx => hlt x (List.mem_cons_of_mem _ hx)⟩
theorem ech_map {M : Int} {w c : Nat} {f : Row → Row} (hf : ∀ (r : Row) (j : Nat), j < c → (∃ x : Nat × Row, x.2 = r) → en (f r) j = en r j) : ∀ {lo : Nat} {L : List (Nat × Row)}, Ech M w lo L → (∀ x ∈ L, x.1 < c) → Ech M w lo (L.map fun x => (x.1, f x.2))
  | lo, [], _, _ => True.intro
  | lo, (p, r) :: L, hE, hlt => by
    obtain ⟨a1, a2, a3, a4, a5, a6⟩ := hE
    have hp : p < c := hlt (p, r) (List.mem_cons_self ..)
    exact ⟨a1, a2, fun j hj => by rw [hf r j (by omega) ⟨(p, r), rfl⟩]; exact a3 j hj, by rw [hf r p hp ⟨(p, r), rfl⟩]; exact a4, fun hM => by rw [hf r p hp ⟨(p, r), rfl⟩]; exact a5 hM, ech_map hf a6 fun x hx => hlt x (List.mem_cons_of_mem _ hx)⟩
/-- an echelon's rows at a column: at most one begins there -/
theorem ech_col {M : Int} {w c : Nat} : ∀ {L : List (Nat × Row)}, Ech M w c L → (nzAt c (L.map (·.2))).length ≤ 1 ∧ ∃ L', Ech M w (c + 1) L' ∧ zAt c (L.map (·.2)) = L'.map (·.2)
  | [], _ => ⟨by simp [nzAt], [], True.intro, rfl⟩
  | (p, r) :: L, hE => by
    obtain ⟨a1, a2, a3, a4, a5, a6⟩ := hE
    have hz : ∀ y ∈ L, c < y.1 → en y.2 c = 0 := fun y hy h => (a6.all y hy).2.2.1 c h
    by_cases hp : p = c
    · subst hp
      have hall : ∀ y ∈ L, en y.2 p = 0 := fun y hy => hz y hy (by have := (a6.all y hy).1; omega)
      have e1 : zAt p (L.map (·.2)) = L.map (·.2) := List.filter_eq_self.mpr fun x hx => by
        obtain ⟨y, hy, rfl⟩ := List.mem_map.mp hx
        exact decide_eq_true (hall y hy)
      have e2 : nzAt p (L.map (·.2)) = [] := List.filter_eq_nil_iff.mpr fun x hx => by
        obtain ⟨y, hy, rfl⟩ := List.mem_map.mp hx
        simpa using hall y hy
      refine ⟨?_, L, a6, ?_⟩
      · unfold nzAt at e2 ⊢
        rw [List.map_cons, List.filter_cons_of_pos (by simp; omega), e2]; simp
      · unfold zAt at e1 ⊢
        rw [List.map_cons, List.filter_cons_of_neg (by simp; omega), e1]
    · have hE2 : Ech M w (c + 1) ((p, r) :: L) := ⟨by omega, a2, a3, a4, a5, a6⟩
      have hall : ∀ y ∈ (p, r) :: L, en y.2 c = 0 := fun y hy => (hE2.all y hy).2.2.1 c (by have := (hE2.all y hy).1; omega)
      refine ⟨?_, (p, r) :: L, hE2, ?_⟩
      · have e2 : nzAt c (((p, r) :: L).map (·.2)) = [] := List.filter_eq_nil_iff.mpr fun x hx => by
          obtain ⟨y, hy, rfl⟩ := List.mem_map.mp hx
          simpa using hall y hy
        rw [e2]; simp
      · exact List.filter_eq_self.mpr fun x hx => by
          obtain ⟨y, hy, rfl⟩ := List.mem_map.mp hx
          exact decide_eq_true (hall y hy)
section
variable {M : Int} {w c β n : Nat} {tr : Bool} {R0 left zs : List Row} {L : List (Nat × Row)} {pv : Option Row}
theorem redBy_facts (hm : Md M) {v r : Row} (lv : v.length = w) (lr : r.length = w) (rr : Rng M r) (hz : ∀ j, j < c → en v j = 0) (hp : 0 < en v c) (h1 : M ≠ 0 → en v c = 1) :
    (redBy v c M r).length = w ∧ Rng M (redBy v c M r) ∧ (∀ j, j < c → en (redBy v c M r) j = en r j) ∧ (0 ≤ en (redBy v c M r) c ∧ en (redBy v c M r) c < en v c) ∧ (∃ q : Int, ∀ j, M ∣ en (redBy v c M r) j - (en r j - q * en v j)) ∧
      (M = 0 → ∀ {T B : Nat}, (∀ j, (en r j).natAbs ≤ T) → (∀ j, (en v j).natAbs ≤ B) → ∀ j, (en (redBy v c M r) j).natAbs ≤ T + (T + 1) * B) := by
  have hl : r.length = v.length := by rw [lr, lv]
  obtain ⟨f1, f2⟩ := fdiv_facts (en r c) (en v c) (by omega)
  obtain ⟨g1, g2⟩ := f1 hp
  unfold redBy
  refine ⟨(lessT_len hl).trans lr, lessT_rng hl hm rr, fun j hj => ?_, ?_, ⟨_, fun j => lessT_dvd hl j⟩, fun hM T B hT hB j => ?_⟩
  · by_cases hM : M = 0
    · subst hM
      rw [lessT_0 hl, hz j hj]; omega
    · rw [lessT_M hl hM rr, hz j hj]
      rw [Int.mul_zero, Int.sub_zero]
      exact Int.emod_eq_of_lt (rr hM j).1 (rr hM j).2
  · by_cases hM : M = 0
    · subst hM
      rw [lessT_0 hl]; exact ⟨g1, g2⟩
    · have hM2 := hm.pos hM
      have hv := h1 hM
      rw [lessT_M hl hM rr, hv]
      rw [hv] at g1 g2
      have e : en r c - (en r c).fdiv 1 * 1 = 0 := by omega
      rw [e]; simp
  · subst hM
    rw [lessT_0 hl]
    have h3 := hT j
    have h4 := hT c
    have hq : ((en r c).fdiv (en v c)).natAbs ≤ T + 1 := by
      have h5 : ((en r c).fdiv (en v c) * en v c).natAbs < (en r c).natAbs + (en v c).natAbs := by omega
      rw [Int.natAbs_mul] at h5
      rcases Nat.lt_or_ge (T + 1) ((en r c).fdiv (en v c)).natAbs with z | z
      · exfalso
        have h6 : (T + 2) * (en v c).natAbs ≤ ((en r c).fdiv (en v c)).natAbs * (en v c).natAbs := Nat.mul_le_mul_right _ z
        have h7 : T * 1 ≤ T * (en v c).natAbs := Nat.mul_le_mul_left _ (by omega)
        rw [Nat.add_mul] at h6
        omega
      · exact z
    have h8 : ((en r c).fdiv (en v c) * en v j).natAbs ≤ (T + 1) * B := by
      rw [Int.natAbs_mul]; exact Nat.mul_le_mul hq (hB j)
    omega
theorem TJ.step (hm : Md M) (hβ : 1 ≤ β) (T : TJ M w c β n tr R0 L left) (hP : QPost M w c (bJ tr β n L.length) left.length left zs pv) (hc : c < w) : TJ M w (c + 1) β n tr R0 (toldJ L pv c M) zs := by
  have hfew : tr = true → (nzAt c left).length ≤ 1 := fun h => by
    obtain ⟨L', h1, h2⟩ := T.sing h
    rw [h2]; exact (ech_col h1).1
  have zz : ∀ r ∈ zs ++ pv.toList, ∀ j, j < c → en r j = 0 := fun r hr j hj => by
    have h1 : M ∣ en r j := (hP.same.2 r hr).col fun s hs => by rw [T.zero s hs j hj]; exact Int.dvd_zero _
    by_cases hM : M = 0
    · subst hM; exact Int.zero_dvd.mp h1
    · have h2 := hP.rng r hr hM j
      obtain ⟨k, hk⟩ := h1
      have hM2 := hm.pos hM
      have : k = 0 := by
        rcases Int.lt_trichotomy k 0 with z | z | z
        · have := Int.mul_le_mul_of_nonneg_left (show k ≤ -1 by omega) (show 0 ≤ M by omega); omega
        · exact z
        · have := Int.mul_le_mul_of_nonneg_left (show 1 ≤ k by omega) (show 0 ≤ M by omega); omega
      rw [hk, this, Int.mul_zero]
  have sing' : tr = true → ∃ L' : List (Nat × Row), Ech M w (c + 1) L' ∧ zs = L'.map (·.2) := fun h => by
    obtain ⟨L', h1, h2⟩ := T.sing h
    obtain ⟨L2, h3, h4⟩ := (ech_col h1).2
    exact ⟨L2, h3, by rw [(hP.few (hfew h)).1, h2]; exact h4⟩
  have zero' : ∀ r ∈ zs, ∀ j, j < c + 1 → en r j = 0 := fun r hr j hj => by
    rcases Nat.lt_or_ge j c with h | h
    · exact zz r (List.mem_append_left _ hr) j h
    · rw [show j = c by omega]; exact hP.z0 r hr
  cases pv with
  | none =>
    have hnz := hP.emp rfl
    obtain ⟨f1, f2, _⟩ := hP.few (by rw [hnz]; simp)
    have e : zs ++ (none : Option Row).toList = zs := List.append_nil _
    have hs := hP.same
    rw [e] at hs f2
    refine ⟨T.ech, fun x hx => Nat.lt_succ_of_lt (T.lt x hx), T.same.trans (SameL.append SameL.refl hs), T.lenL, fun r hr => hP.len r (List.mem_append_left _ hr), T.rngL, fun r hr => hP.rng r (List.mem_append_left _ hr), zero', T.red, fun hM => f2 hM (T.bL hM), T.piv, T.bT, ?_, sing'⟩
    have h1 := hP.cnt
    have h2 := T.cnt
    show L.length + zs.length ≤ n
    have : zs.length ≤ left.length := by omega
    omega
  | some v =>
    have vin : v ∈ zs ++ (some v).toList := List.mem_append_right _ (by simp)
    have lv := hP.len v vin
    have rv := hP.rng v vin
    have vz := zz v vin
    obtain ⟨vp, v1⟩ := hP.pos v rfl
    have rf : ∀ x ∈ L, _ := fun x hx => redBy_facts (w := w) (c := c) hm lv (T.lenL x hx) (T.rngL x hx) vz vp v1
    have hcnt : L.length + 1 + zs.length ≤ n := by
      have h1 := hP.cnt
      have h2 := T.cnt
      simp at h1; omega
    have hbnd : M = 0 → Bnd (bJ tr β n (L.length + 1)) (zs ++ (some v).toList) := fun hM => by
      by_cases ht : (nzAt c left).length ≤ 1
      · exact ((hP.few ht).2.1 hM (T.bL hM)).mono (bJ_mono hβ (by omega))
      · have h1 : (nzAt c left).length ≤ left.length := List.length_filter_le ..
        have h2 := T.cnt
        have htr : tr = false := by
          cases tr with
          | true => exact absurd (hfew rfl) ht
          | false => rfl
        subst htr
        have e : bJ false β n (L.length + 1) = 6 * bJ false β n L.length ^ 3 := by
          unfold bJ
          rw [if_neg (by decide), if_neg (by decide), show min (L.length + 1) (n - 1) = L.length + 1 by omega, show min L.length (n - 1) = L.length by omega]
          rfl
        rw [e]; exact hP.bnd hM
    have e1 : (toldJ L (some v) c M).map (·.2) = (L.map fun x => redBy v c M x.2) ++ [v] := by
      unfold toldJ; rw [List.map_append, List.map_map]; rfl
    have hvL : InL M left (en v) := hP.same.2 v vin
    refine ⟨?_, fun x hx => ?_, T.same.trans ⟨fun r hr => ?_, fun r hr => ?_⟩, fun x hx => ?_, fun r hr => hP.len r (List.mem_append_left _ hr), fun x hx => ?_, fun r hr => hP.rng r (List.mem_append_left _ hr), zero', ?_, fun hM => ?_, fun hM x hx => ?_, fun hM r hr j => ?_, ?_, sing'⟩
    · refine ech_snoc hc vz vp v1 (Nat.zero_le _) ?_ fun x hx => ?_
      · -- the told rows keep their beginnings
        have gen : ∀ {lo : Nat} {L' : List (Nat × Row)}, Ech M w lo L' → (∀ x ∈ L', x ∈ L) → Ech M w lo (L'.map fun x => (x.1, redBy v c M x.2)) := by
          intro lo L'
          induction L' generalizing lo with
          | nil => intro _ _; exact True.intro
          | cons y L' ih =>
            intro hE hs
            obtain ⟨p, r⟩ := y
            obtain ⟨a1, a2, a3, a4, a5, a6⟩ := hE
            have hin := hs (p, r) (List.mem_cons_self ..)
            have hp : p < c := T.lt _ hin
            have k := (rf _ hin).2.2.1
            exact ⟨a1, a2, fun j hj => by have := k j (by omega); rw [this]; exact a3 j hj, by have := k p hp; rw [this]; exact a4, fun hM => by have := k p hp; rw [this]; exact a5 hM, ih a6 fun x hx => hs x (List.mem_cons_of_mem _ hx)⟩
        exact gen T.ech fun x hx => hx
      · obtain ⟨y, hy, rfl⟩ := List.mem_map.mp hx
        exact T.lt y hy
    · rcases List.mem_append.mp hx with h | h
      · obtain ⟨y, hy, rfl⟩ := List.mem_map.mp h
        have := T.lt y hy
        show y.1 < c + 1
        omega
      · rw [List.mem_singleton.mp h]; exact Nat.lt_succ_self c
    · rw [e1]
      have inV : InL M ((L.map fun x => redBy v c M x.2) ++ [v] ++ zs) (en v) := InL.mem (by simp)
      rcases List.mem_append.mp hr with h | h
      · obtain ⟨x, hx, rfl⟩ := List.mem_map.mp h
        obtain ⟨q, hq⟩ := (rf x hx).2.2.2.2.1
        have inX : InL M ((L.map fun x => redBy v c M x.2) ++ [v] ++ zs) (en (redBy v c M x.2)) := InL.mem (List.mem_append_left _ (List.mem_append_left _ (List.mem_map.mpr ⟨x, hx, rfl⟩)))
        exact (inX.add (inV.smul q)).congr fun j => by
          have e : en (redBy v c M x.2) j + q * en v j - en x.2 j = en (redBy v c M x.2) j - (en x.2 j - q * en v j) := by omega
          rw [e]; exact hq j
      · refine InL.mono (fun y hy => ?_) (hP.same.1 r h)
        rcases List.mem_append.mp hy with h | h
        · exact List.mem_append_right _ h
        · have : y = v := by simpa using h
          subst this; simp
    · rw [e1] at hr
      have inV : InL M (L.map (·.2) ++ left) (en v) := hvL.mono fun y hy => List.mem_append_right _ hy
      rcases List.mem_append.mp hr with h | h
      · rcases List.mem_append.mp h with h | h
        · obtain ⟨x, hx, rfl⟩ := List.mem_map.mp h
          obtain ⟨q, hq⟩ := (rf x hx).2.2.2.2.1
          have inX : InL M (L.map (·.2) ++ left) (en x.2) := InL.mem (List.mem_append_left _ (List.mem_map.mpr ⟨x, hx, rfl⟩))
          exact (inX.sub (inV.smul q)).congr fun j => by
            have e : en x.2 j - q * en v j - en (redBy v c M x.2) j = -(en (redBy v c M x.2) j - (en x.2 j - q * en v j)) := by omega
            rw [e]; exact Int.dvd_neg.mpr (hq j)
        · rw [List.mem_singleton.mp h]; exact inV
      · exact (hP.same.2 r (List.mem_append_left _ h)).mono fun y hy => List.mem_append_right _ hy
    · rcases List.mem_append.mp hx with h | h
      · obtain ⟨y, hy, rfl⟩ := List.mem_map.mp h
        exact (rf y hy).1
      · rw [List.mem_singleton.mp h]; exact lv
    · rcases List.mem_append.mp hx with h | h
      · obtain ⟨y, hy, rfl⟩ := List.mem_map.mp h
        exact (rf y hy).2.1
      · rw [List.mem_singleton.mp h]; exact rv
    · refine List.pairwise_append.mpr ⟨?_, List.pairwise_singleton _ _, fun x hx y hy => ?_⟩
      · refine List.pairwise_map.mpr (T.red.imp_of_mem fun {x y} hx hy h => ?_)
        have k1 := (rf x hx).2.2.1 y.1 (T.lt y hy)
        have k2 := (rf y hy).2.2.1 y.1 (T.lt y hy)
        show 0 ≤ en (redBy v c M x.2) y.1 ∧ en (redBy v c M x.2) y.1 < en (redBy v c M y.2) y.1
        rw [k1, k2]; exact h
      · obtain ⟨z, hz, rfl⟩ := List.mem_map.mp hx
        rw [List.mem_singleton.mp hy]
        exact (rf z hz).2.2.2.1
    · have : (toldJ L (some v) c M).length = L.length + 1 := by unfold toldJ; rw [List.length_append, List.length_map]; rfl
      rw [this]
      exact (hbnd hM).sub fun r hr => List.mem_append_left _ hr
    · rcases List.mem_append.mp hx with h | h
      · obtain ⟨y, hy, rfl⟩ := List.mem_map.mp h
        have k := (rf y hy).2.2.1 y.1 (T.lt y hy)
        show (en (redBy v c M y.2) y.1).natAbs ≤ _
        rw [k]; exact T.piv hM y hy
      · rw [List.mem_singleton.mp h]
        exact Nat.le_trans (hbnd hM v vin c) (bJ_mono hβ (by omega))
    · have hlen : (toldJ L (some v) c M).length = L.length + 1 := by unfold toldJ; rw [List.length_append, List.length_map]; rfl
      have hvB : ∀ j, (en v j).natAbs ≤ bJ tr β n n := fun j => Nat.le_trans (hbnd hM v vin j) (bJ_mono hβ (by omega))
      rw [hlen]
      show (en r j).natAbs ≤ tJ (bJ tr β n n) L.length + (tJ (bJ tr β n n) L.length + 1) * bJ tr β n n + bJ tr β n n
      rw [e1] at hr
      rcases List.mem_append.mp hr with h | h
      · obtain ⟨x, hx, rfl⟩ := List.mem_map.mp h
        have := (rf x hx).2.2.2.2.2 hM (fun j => T.bT hM x.2 (List.mem_map.mpr ⟨x, hx, rfl⟩) j) hvB j
        omega
      · rw [List.mem_singleton.mp h]
        have := hvB j; omega
    · have hlen : (toldJ L (some v) c M).length = L.length + 1 := by unfold toldJ; rw [List.length_append, List.length_map]; rfl
      rw [hlen]; exact hcnt
/-- at the end -/
theorem TJ.herm (T : TJ M w c β n tr R0 L left) (hw : ∀ x ∈ L, x.1 < w) : Herm M w L := ⟨T.ech, T.lenL, T.red, T.rngL⟩
theorem TJ.all (T : TJ M w w β n tr R0 L left) : SameL M R0 (L.map (·.2)) := by
  refine T.same.trans ⟨fun r hr => ?_, fun r hr => InL.mem (List.mem_append_left _ hr)⟩
  rcases List.mem_append.mp hr with h | h
  · exact InL.mem h
  · refine InL.zero.eq fun j => ?_
    rcases Nat.lt_or_ge j w with hj | hj
    · exact (T.zero r h j hj).symm
    · exact (en_ge (by rw [T.lenR r h]; exact hj)).symm
end
end Mine
set_option Elab.async false
set_option linter.all false
namespace Mine
/-! ### what is small at all pivots -/
theorem ech_small {M : Int} {w c : Nat} {Z : List Row} (hZ : ∀ r ∈ Z, ∀ j, j < c → en r j = 0) : ∀ {lo : Nat} {L : List (Nat × Row)} {u : Nat → Int}, Ech M w lo L → (∀ x ∈ L, x.1 < c) → InL M (L.map (·.2) ++ Z) u →
    (∀ x ∈ L, (M = 0 → (u x.1).natAbs < (en x.2 x.1).natAbs) ∧ (M ≠ 0 → M ∣ u x.1)) → InL M Z u
  | _, [], _, _, _, hu, _ => hu
  | lo, (p, r) :: L, u, hE, hc, ⟨a, ha⟩, hs => by
    obtain ⟨_, _, h3, h4, h5, h6⟩ := hE
    have hpc : p < c := hc _ (List.mem_cons_self ..)
    have h7 : M ∣ u p - a * en r p := ha.col fun s hs => by
      rcases List.mem_append.mp hs with hs | hs
      · obtain ⟨x, hx, rfl⟩ := List.mem_map.mp hs
        obtain ⟨g1, _, g3, _⟩ := h6.all x hx
        rw [g3 p (by omega)]; exact Int.dvd_zero M
      · rw [hZ s hs p hpc]; exact Int.dvd_zero M
    have hp := hs (p, r) (List.mem_cons_self ..)
    have h9 : M ∣ a := by
      by_cases hM : M = 0
      · subst hM
        have e := Int.zero_dvd.mp h7
        have h8 : (u p).natAbs < (en r p).natAbs := hp.1 rfl
        have h10 : a = 0 := by
          have e2 : u p = a * en r p := by omega
          rw [e2, Int.natAbs_mul] at h8
          rcases Nat.eq_zero_or_pos a.natAbs with z | z
          · omega
          · have := Nat.mul_le_mul_right (en r p).natAbs (show 1 ≤ a.natAbs from z)
            omega
        rw [h10]; exact Int.dvd_zero _
      · have h8 : M ∣ u p := hp.2 hM
        rw [h5 hM, Int.mul_one] at h7
        have e : a = u p - (u p - a) := by omega
        rw [e]; exact Int.dvd_sub h8 h7
    have h10 : InL M (L.map (·.2) ++ Z) u := ha.congr fun j => by
      have e : u j - a * en r j - u j = -(a * en r j) := by omega
      rw [e]; exact Int.dvd_neg.mpr (Int.dvd_mul_of_dvd_left h9)
    exact ech_small hZ h6 (fun x hx => hc x (List.mem_cons_of_mem _ hx)) h10 fun x hx => hs x (List.mem_cons_of_mem _ hx)
theorem rng_eq {M x y : Int} (h : M ∣ x - y) (hx : 0 ≤ x ∧ x < M) (hy : 0 ≤ y ∧ y < M) : x = y := by
  obtain ⟨k, hk⟩ := h
  have : k = 0 := by
    rcases Int.lt_trichotomy k 0 with z | z | z
    · have := Int.mul_le_mul_of_nonneg_left (show k ≤ -1 by omega) (show 0 ≤ M by omega); omega
    · exact z
    · have := Int.mul_le_mul_of_nonneg_left (show 1 ≤ k by omega) (show 0 ≤ M by omega); omega
  subst this; omega
theorem rows_eq {M : Int} {w : Nat} {d d' : Row} (hl : d.length = w) (hl' : d'.length = w) (hr : Rng M d) (hr' : Rng M d') (h : ∀ j, M ∣ en d j - en d' j) : d = d' := by
  refine en_ext (by rw [hl, hl']) fun j _ => ?_
  by_cases hM : M = 0
  · subst hM; have := Int.zero_dvd.mp (h j); omega
  · exact rng_eq (h j) (hr hM j) (hr' hM j)
theorem highs_next {D : List (Nat × Row)} {c : Nat} (h : ∀ x ∈ highs c D, c < x.1) : highs c D = highs (c + 1) D := by
  unfold highs at h ⊢
  refine List.filter_congr fun x hx => ?_
  by_cases z : c ≤ x.1
  · have := h x (List.mem_filter.mpr ⟨hx, decide_eq_true z⟩)
    simp; omega
  · simp; omega
/-- one form for each lattice -/
theorem herm_unique {M : Int} {w : Nat} {D D' : List (Nat × Row)} (hm : Md M) (H : Herm M w D) (H' : Herm M w D') (hs : SameL M (D.map (·.2)) (D'.map (·.2))) : D = D' := by
  have all0 : ∀ {D : List (Nat × Row)}, Herm M w D → highs 0 D = D := fun {D} _ => List.filter_eq_self.mpr fun x _ => by simp
  have hyes : ∀ {D : List (Nat × Row)} {c : Nat} {d : Row}, Herm M w D → (c, d) ∈ D → (∀ j, j < c → en d j = 0) ∧ 0 < en d c ∧ (M ≠ 0 → en d c = 1) ∧ d.length = w ∧ Rng M d ∧ InL M (D.map (·.2)) (en d) := fun {D c d} H h => by
    obtain ⟨_, _, a3, a4, a5⟩ := H.ech.all _ h
    exact ⟨a3, a4, a5, H.len _ h, H.rng _ h, InL.mem (List.mem_map.mpr ⟨_, h, rfl⟩)⟩
  have nodiv : ∀ {k : Int}, 0 < k → (M ≠ 0 → k = 1) → ¬ M ∣ k := fun {k} h1 h2 h3 => by
    by_cases hM : M = 0
    · subst hM; have := Int.zero_dvd.mp h3; omega
    · rw [h2 hM] at h3
      have := Int.le_of_dvd (by decide) h3
      have := hm.pos hM; omega
  have step : ∀ k, highs (w - k) D = highs (w - k) D' := by
    intro k
    induction k with
    | zero =>
      have em : ∀ {D : List (Nat × Row)}, Herm M w D → highs w D = [] := fun {D} H => List.filter_eq_nil_iff.mpr fun x hx => by
        have := (H.ech.all x hx).2.1
        simp; omega
      rw [Nat.sub_zero, em H, em H']
    | succ k ih =>
      rcases Nat.lt_or_ge k w with hk | hk
      · have e : w - k = w - (k + 1) + 1 := by omega
        rw [e] at ih
        generalize w - (k + 1) = c at ih
        rcases lows_succ H.ech c with ⟨d, hd, _, h1⟩ | ⟨h1, _⟩
        · obtain ⟨z, p, p1, l, r, inD⟩ := hyes H hd
          rcases lows_succ H'.ech c with ⟨d', hd', _, h1'⟩ | ⟨h1', _⟩
          · obtain ⟨z', p', p1', l', r', inD'⟩ := hyes H' hd'
            have inD2 : InL M (D'.map (·.2)) (en d) := hs.into inD
            have inD2' : InL M (D.map (·.2)) (en d') := hs.symm.into inD'
            have hpiv : en d c = en d' c := by
              by_cases hM : M = 0
              · obtain ⟨a, ha⟩ := Herm.at_yes H'.ech inD2 (fun j hj => by rw [z j hj]; exact Int.dvd_zero _) h1'
                obtain ⟨b, hb⟩ := Herm.at_yes H.ech inD2' (fun j hj => by rw [z' j hj]; exact Int.dvd_zero _) h1
                subst hM
                have ea := Int.zero_dvd.mp ha
                have eb := Int.zero_dvd.mp hb
                have a1 : 1 ≤ a := by
                  rcases Int.lt_or_le a 1 with y | y
                  · have := Int.mul_le_mul_of_nonneg_right (show a ≤ 0 by omega) (show 0 ≤ en d' c by omega); omega
                  · exact y
                have b1 : 1 ≤ b := by
                  rcases Int.lt_or_le b 1 with y | y
                  · have := Int.mul_le_mul_of_nonneg_right (show b ≤ 0 by omega) (show 0 ≤ en d c by omega); omega
                  · exact y
                have := Int.mul_le_mul_of_nonneg_right a1 (show 0 ≤ en d' c by omega)
                have := Int.mul_le_mul_of_nonneg_right b1 (show 0 ≤ en d c by omega)
                omega
              · rw [p1 hM, p1' hM]
            have hu : InL M ((highs (c + 1) D).map (·.2)) fun j => en d j - en d' j := Herm.at H.ech (inD.sub inD2') fun j hj => by
              rcases Nat.lt_or_ge j c with y | y
              · rw [z j y, z' j y]; exact ⟨0, by simp⟩
              · rw [show j = c by omega, hpiv, Int.sub_self]; exact Int.dvd_zero _
            have red : ∀ {D : List (Nat × Row)} {d : Row}, Herm M w D → highs c D = (c, d) :: highs (c + 1) D → ∀ x ∈ highs (c + 1) D, 0 ≤ en d x.1 ∧ en d x.1 < en x.2 x.1 := fun {D d} H h x hx => by
              have h2 : (highs c D).Pairwise fun x y => 0 ≤ en x.2 y.1 ∧ en x.2 y.1 < en y.2 y.1 := H.red.sublist List.filter_sublist
              rw [h] at h2
              exact (List.pairwise_cons.mp h2).1 x hx
            have hZ := ech_small (M := M) (w := w) (c := w) (Z := []) (fun r h => absurd h (by simp)) (H.ech.split (c + 1)).2.2 (fun x hx => (H.ech.all x (List.mem_filter.mp hx).1).2.1) (by rw [List.append_nil]; exact hu) fun x hx => by
              have g1 := red H h1 x hx
              have g2 := red H' h1' x (by rw [← ih]; exact hx)
              refine ⟨fun hM => by omega, fun hM => ?_⟩
              have g3 := (H.ech.all x (List.mem_filter.mp hx).1).2.2.2.2 hM
              have e1 : en d x.1 = 0 := by omega
              have e2 : en d' x.1 = 0 := by omega
              show M ∣ en d x.1 - en d' x.1
              rw [e1, e2]; exact Int.dvd_zero _
            have ed : d = d' := rows_eq l l' r r' hZ
            rw [h1, h1', ih, ed]
          · exfalso
            exact nodiv p p1 (Herm.at_no H'.ech (hs.into inD) (fun j hj => by rw [z j hj]; exact Int.dvd_zero _) h1')
        · rcases lows_succ H'.ech c with ⟨d', hd', _, h1'⟩ | ⟨h1', _⟩
          · exfalso
            obtain ⟨z', p', p1', l', r', inD'⟩ := hyes H' hd'
            exact nodiv p' p1' (Herm.at_no H.ech (hs.symm.into inD') (fun j hj => by rw [z' j hj]; exact Int.dvd_zero _) h1)
          · rw [highs_next h1, highs_next h1', ih]
      · have e : w - (k + 1) = w - k := by omega
        rw [e]; exact ih
  have := step w
  rw [Nat.sub_self, all0 H, all0 H'] at this
  exact this
/-! ### reduction -/
def redAll (M : Int) : List (Nat × Row) → Row → Row
  | [], v => v
  | (p, r) :: L, v => redAll M L (redBy r p M v)
theorem redAll_facts {M : Int} {w : Nat} (hm : Md M) : ∀ {lo : Nat} {L : List (Nat × Row)} {v : Row}, Ech M w lo L → (∀ x ∈ L, x.2.length = w) → v.length = w → Rng M v →
    (redAll M L v).length = w ∧ Rng M (redAll M L v) ∧ (∀ j, j < lo → en (redAll M L v) j = en v j) ∧ (∀ x ∈ L, 0 ≤ en (redAll M L v) x.1 ∧ en (redAll M L v) x.1 < en x.2 x.1) ∧ InL M (L.map (·.2)) fun j => en v j - en (redAll M L v) j
  | lo, [], v, _, _, lv, rv => ⟨lv, rv, fun _ _ => rfl, fun x h => absurd h (by simp), fun j => by show M ∣ en v j - en v j; rw [Int.sub_self]; exact Int.dvd_zero _⟩
  | lo, (p, r) :: L, v, hE, hl, lv, rv => by
    obtain ⟨a1, a2, a3, a4, a5, a6⟩ := hE
    obtain ⟨g1, g2, g3, g4, ⟨q, g5⟩, _⟩ := redBy_facts (w := w) (c := p) hm (hl (p, r) (List.mem_cons_self ..)) lv rv a3 a4 a5
    obtain ⟨f1, f2, f3, f4, f5⟩ := redAll_facts hm a6 (fun x hx => hl x (List.mem_cons_of_mem _ hx)) g1 g2
    show (redAll M L (redBy r p M v)).length = w ∧ _
    refine ⟨f1, f2, fun j hj => ?_, fun x hx => ?_, ⟨q, f5.congr fun j => ?_⟩⟩
    · show en (redAll M L (redBy r p M v)) j = _
      rw [f3 j (by omega), g3 j (by omega)]
    · show 0 ≤ en (redAll M L (redBy r p M v)) x.1 ∧ _
      rcases List.mem_cons.mp hx with h | h
      · subst h
        show 0 ≤ en (redAll M L (redBy r p M v)) p ∧ en (redAll M L (redBy r p M v)) p < en r p
        rw [f3 p (by omega)]; exact g4
      · exact f4 x h
    · show M ∣ en (redBy r p M v) j - en (redAll M L (redBy r p M v)) j - (en v j - en (redAll M L (redBy r p M v)) j - q * en r j)
      have e : en (redBy r p M v) j - en (redAll M L (redBy r p M v)) j - (en v j - en (redAll M L (redBy r p M v)) j - q * en r j) = en (redBy r p M v) j - (en v j - q * en r j) := by omega
      rw [e]; exact g5 j
/-- zero at the first c places exactly if the row's first places are in the lattice -/
theorem redAll_zero {M : Int} {w c : Nat} (hm : Md M) {L : List (Nat × Row)} {Z : List Row} {v : Row} (hE : Ech M w 0 L) (hl : ∀ x ∈ L, x.2.length = w) (hc : ∀ x ∈ L, x.1 < c) (hZ : ∀ r ∈ Z, ∀ j, j < c → en r j = 0) (lv : v.length = w) (rv : Rng M v) :
    (∀ j, j < c → en (redAll M L v) j = 0) ↔ ∃ u : Nat → Int, InL M (L.map (·.2) ++ Z) u ∧ ∀ j, j < c → M ∣ en v j - u j := by
  obtain ⟨f1, f2, _, f4, f5⟩ := redAll_facts hm hE hl lv rv
  constructor
  · intro h
    refine ⟨_, f5.mono fun r hr => List.mem_append_left _ hr, fun j hj => ?_⟩
    show M ∣ en v j - (en v j - en (redAll M L v) j)
    rw [h j hj]; exact ⟨0, by simp⟩
  · rintro ⟨u, hu, hj⟩
    -- the rest, changed behind c, is in the lattice
    have h1 : InL M (L.map (·.2) ++ Z) fun j => u j - (en v j - en (redAll M L v) j) := hu.sub (f5.mono fun r hr => List.mem_append_left _ hr)
    have hd : ∀ j, j < c → M ∣ u j - (en v j - en (redAll M L v) j) - en (redAll M L v) j := fun j h => by
      have e : u j - (en v j - en (redAll M L v) j) - en (redAll M L v) j = -(en v j - u j) := by omega
      rw [e]; exact Int.dvd_neg.mpr (hj j h)
    have h2 := ech_small hZ hE hc h1 fun x hx => by
      have g := f4 x hx
      have hxc := hd x.1 (hc x hx)
      refine ⟨fun hM => ?_, fun hM => ?_⟩
      · subst hM
        have := Int.zero_dvd.mp hxc
        show (u x.1 - (en v x.1 - en (redAll 0 L v) x.1)).natAbs < _
        omega
      · have g1 := (hE.all x hx).2.2.2.2 hM
        have e : en (redAll M L v) x.1 = 0 := by omega
        rw [e, Int.sub_zero] at hxc
        show M ∣ u x.1 - (en v x.1 - en (redAll M L v) x.1)
        rw [e]; exact hxc
    intro j h
    have h3 : M ∣ u j - (en v j - en (redAll M L v) j) := h2.col fun r hr => by rw [hZ r hr j h]; exact Int.dvd_zero _
    have h4 : M ∣ en (redAll M L v) j := by
      have e : en (redAll M L v) j = u j - (en v j - en (redAll M L v) j) - (u j - (en v j - en (redAll M L v) j) - en (redAll M L v) j) := by omega
      rw [e]; exact Int.dvd_sub h3 (hd j h)
    by_cases hM : M = 0
    · subst hM; exact Int.zero_dvd.mp h4
    · exact rng_eq (by rw [Int.sub_zero]; exact h4) (f2 hM j) ⟨Int.le_refl 0, by have := hm.pos hM; omega⟩
end Mine
set_option Elab.async false
set_option linter.all false
namespace Mine
/-! ### sums of rows by numbers -/
def comb : List Row → (Nat → Int) → Nat → Int
  | [], _, _ => 0
  | r :: R, x, j => x 0 * en r j + comb R (fun k => x (k + 1)) j
theorem comb_add : ∀ (R : List Row) (x y : Nat → Int) (j : Nat), comb R (fun k => x k + y k) j = comb R x j + comb R y j
  | [], _, _, _ => rfl
  | r :: R, x, y, j => by
    simp only [comb, comb_add R (fun k => x (k + 1)) (fun k => y (k + 1)), Int.add_mul]; omega
theorem comb_smul (a : Int) : ∀ (R : List Row) (x : Nat → Int) (j : Nat), comb R (fun k => a * x k) j = a * comb R x j
  | [], _, _ => by simp [comb]
  | r :: R, x, j => by
    simp only [comb, comb_smul a R (fun k => x (k + 1)), Int.mul_add, Int.mul_assoc]
theorem comb_sub (R : List Row) (x y : Nat → Int) (j : Nat) : comb R (fun k => x k - y k) j = comb R x j - comb R y j := by
  have h := comb_add R x (fun k => -1 * y k) j
  rw [comb_smul] at h
  have e : (fun k => x k - y k) = fun k => x k + -1 * y k := by funext k; omega
  rw [e, h]; omega
theorem comb_zero : ∀ (R : List Row) (j : Nat), comb R (fun _ => 0) j = 0
  | [], _ => rfl
  | r :: R, j => by simp [comb, comb_zero R j]
theorem comb_congr {M : Int} : ∀ {R : List Row} {x y : Nat → Int}, (∀ k, k < R.length → M ∣ x k - y k) → ∀ j, M ∣ comb R x j - comb R y j
  | [], _, _, _, _ => by simp [comb]
  | r :: R, x, y, h, j => by
    have h1 := h 0 (by simp)
    have h2 := comb_congr (R := R) (x := fun k => x (k + 1)) (y := fun k => y (k + 1)) (fun k hk => h (k + 1) (by simpa using hk)) j
    simp only [comb]
    have e : x 0 * en r j + comb R (fun k => x (k + 1)) j - (y 0 * en r j + comb R (fun k => y (k + 1)) j) = (x 0 - y 0) * en r j + (comb R (fun k => x (k + 1)) j - comb R (fun k => y (k + 1)) j) := by rw [Int.sub_mul]; omega
    rw [e]; exact Int.dvd_add (Int.dvd_mul_of_dvd_left h1) h2
theorem comb_eq {R : List Row} {x y : Nat → Int} (h : ∀ k, k < R.length → x k = y k) (j : Nat) : comb R x j = comb R y j := by
  have := comb_congr (M := 0) (R := R) (x := x) (y := y) (fun k hk => by rw [h k hk, Int.sub_self]; exact Int.dvd_zero _) j
  have := Int.zero_dvd.mp this
  omega
theorem comb_far {w : Nat} : ∀ {R : List Row} {x : Nat → Int}, (∀ r ∈ R, r.length = w) → ∀ j, w ≤ j → comb R x j = 0
  | [], _, _, _, _ => rfl
  | r :: R, x, h, j, hj => by
    simp only [comb]
    rw [comb_far (fun r hr => h r (List.mem_cons_of_mem _ hr)) j hj, en_ge (by rw [h r (List.mem_cons_self ..)]; exact hj)]; simp
theorem comb_append : ∀ (R S : List Row) (x : Nat → Int) (j : Nat), comb (R ++ S) x j = comb R x j + comb S (fun k => x (R.length + k)) j
  | [], S, x, j => by simp [comb]
  | r :: R, S, x, j => by
    have e : (fun k => x (R.length + k + 1)) = fun k => x ((r :: R).length + k) := by
      funext k; rw [List.length_cons]; congr 1; omega
    simp only [List.cons_append, comb, comb_append R S, e]; omega
theorem inL_comb {M : Int} : ∀ {R : List Row} {v : Nat → Int}, InL M R v ↔ ∃ x : Nat → Int, ∀ j, M ∣ v j - comb R x j
  | [], v => ⟨fun h => ⟨fun _ => 0, fun j => by simpa [comb] using h j⟩, fun ⟨_, h⟩ j => by simpa [comb] using h j⟩
  | r :: R, v => by
    constructor
    · rintro ⟨k, hk⟩
      obtain ⟨x, hx⟩ := inL_comb.mp hk
      refine ⟨fun i => if i = 0 then k else x (i - 1), fun j => ?_⟩
      have := hx j
      simp only [comb, if_true, Nat.add_sub_cancel]
      have e : (fun i : Nat => if i + 1 = 0 then k else x i) = x := by funext i; simp
      rw [e]
      have e2 : v j - (k * en r j + comb R x j) = v j - k * en r j - comb R x j := by omega
      rw [e2]; exact this
    · rintro ⟨x, hx⟩
      refine ⟨x 0, inL_comb.mpr ⟨fun k => x (k + 1), fun j => ?_⟩⟩
      have := hx j
      simp only [comb] at this
      have e2 : v j - x 0 * en r j - comb R (fun k => x (k + 1)) j = v j - (x 0 * en r j + comb R (fun k => x (k + 1)) j) := by omega
      rw [e2]; exact this
theorem inL_of_comb {M : Int} (R : List Row) (x : Nat → Int) : InL M R (comb R x) := inL_comb.mpr ⟨x, fun j => by rw [Int.sub_self]; exact Int.dvd_zero _⟩
/-- what holds of rows, and of sums, holds in the lattice -/
theorem InL.ind {M : Int} {Q : (Nat → Int) → Prop} (h0 : Q fun _ => 0) (ha : ∀ u v, Q u → Q v → Q fun j => u j + v j) (hs : ∀ (k : Int) u, Q u → Q fun j => k * u j) (hc : ∀ u v, (∀ j, M ∣ u j - v j) → Q u → Q v) : ∀ {R : List Row} {v : Nat → Int}, (∀ r ∈ R, Q (en r)) → InL M R v → Q v
  | [], v, _, hv => hc _ _ (fun j => by have := hv j; rw [← Int.neg_sub]; exact Int.dvd_neg.mpr (by simpa using this)) h0
  | r :: R, v, hr, ⟨k, hk⟩ => by
    have h1 := InL.ind h0 ha hs hc (fun r h => hr r (List.mem_cons_of_mem _ h)) hk
    exact hc _ _ (fun j => by rw [show v j - k * en r j + k * en r j - v j = 0 by omega]; exact Int.dvd_zero _) (ha _ _ h1 (hs k _ (hr r (List.mem_cons_self ..))))
/-! ### numbered rows -/
def unitR (n k : Nat) : Row := (List.replicate n 0).set k 1
theorem unitR_len (n k : Nat) : (unitR n k).length = n := by unfold unitR; rw [List.length_set, List.length_replicate]
theorem en_unit {n k j : Nat} (hk : k < n) : en (unitR n k) j = if j = k then 1 else 0 := by
  unfold unitR
  rw [en_set (by rw [List.length_replicate]; exact hk), en_zero]
def numb (n : Nat) : Nat → List Row → List Row
  | _, [] => []
  | k, r :: R => (r ++ unitR n k) :: numb n (k + 1) R
theorem en_append {r s : Row} {j : Nat} : en (r ++ s) j = if j < r.length then en r j else en s (j - r.length) := by
  unfold en
  rw [List.getD_eq_getElem?_getD, List.getD_eq_getElem?_getD, List.getD_eq_getElem?_getD, List.getElem?_append]
  split <;> rfl
theorem numb_len (n : Nat) : ∀ (k : Nat) (R : List Row), (numb n k R).length = R.length
  | _, [] => rfl
  | k, r :: R => by simp [numb, numb_len n (k + 1) R]
theorem numb_at {n : Nat} : ∀ {k i : Nat} {R : List Row} {r : Row}, R[i]? = some r → (numb n k R)[i]? = some (r ++ unitR n (k + i))
  | _, _, [], _, h => by simp at h
  | k, 0, r :: R, _, h => by simpa [numb] using h
  | k, i + 1, r :: R, s, h => by
    have := numb_at (n := n) (k := k + 1) (i := i) (R := R) (r := s) (by simpa using h)
    rw [show k + 1 + i = k + (i + 1) by omega] at this
    simpa [numb] using this
theorem numb_mem {n k : Nat} {R : List Row} {x : Row} (h : x ∈ numb n k R) : ∃ i r, R[i]? = some r ∧ x = r ++ unitR n (k + i) := by
  obtain ⟨i, hi⟩ := List.getElem?_of_mem h
  have hl := (List.getElem?_eq_some_iff.mp hi).1
  rw [numb_len] at hl
  have hr : R[i]? = some R[i] := List.getElem?_eq_getElem hl
  rw [numb_at hr] at hi
  exact ⟨i, _, hr, (Option.some.inj hi).symm⟩
theorem comb_numb {w n : Nat} : ∀ {k : Nat} {R : List Row} {x : Nat → Int}, (∀ r ∈ R, r.length = w) → k + R.length ≤ n → (∀ j, j < w → comb (numb n k R) x j = comb R x j) ∧ (∀ j, comb (numb n k R) x (w + j) = if k ≤ j ∧ j < k + R.length then x (j - k) else 0)
  | k, [], x, _, _ => ⟨fun _ _ => rfl, fun j => by rw [if_neg (by simp)]; rfl⟩
  | k, r :: R, x, hl, hn => by
    rw [List.length_cons] at hn
    have lr := hl r (List.mem_cons_self ..)
    obtain ⟨h1, h2⟩ := comb_numb (n := n) (k := k + 1) (R := R) (x := fun i => x (i + 1)) (fun r hr => hl r (List.mem_cons_of_mem _ hr)) (by omega)
    refine ⟨fun j hj => ?_, fun j => ?_⟩
    · simp only [numb, comb]
      rw [h1 j hj, en_append, if_pos (by omega)]
    · simp only [numb, comb]
      have e1 : en (r ++ unitR n k) (w + j) = if j = k then 1 else 0 := by rw [en_append, if_neg (by omega), lr, Nat.add_sub_cancel_left, en_unit (by omega)]
      rw [h2 j, e1, List.length_cons]
      by_cases e : j = k
      · subst e
        rw [if_pos rfl, if_neg (by omega), if_pos (by omega), Nat.sub_self]; omega
      · rw [if_neg e]
        by_cases e2 : k + 1 ≤ j ∧ j < k + 1 + R.length
        · rw [if_pos e2, if_pos (by omega), show j - (k + 1) + 1 = j - k by omega]; omega
        · rw [if_neg e2, if_neg (by omega)]; omega
/-- the numbers of a row of the numbered lattice -/
theorem numb_in {M : Int} {w : Nat} {R : List Row} (hl : ∀ r ∈ R, r.length = w) {v : Nat → Int} (h : InL M (numb R.length 0 R) v) : (∀ j, j < w → M ∣ v j - comb R (fun k => v (w + k)) j) ∧ ∀ k, R.length ≤ k → M ∣ v (w + k) := by
  obtain ⟨x, hx⟩ := inL_comb.mp h
  obtain ⟨h1, h2⟩ := comb_numb (n := R.length) (k := 0) (x := x) hl (by omega)
  refine ⟨fun j hj => ?_, fun k hk => ?_⟩
  · have h3 := hx j
    rw [h1 j hj] at h3
    have h4 := comb_congr (M := M) (R := R) (x := x) (y := fun k => v (w + k)) (fun k hk => by
      have h5 := hx (w + k)
      rw [h2 k, if_pos (by omega), Nat.sub_zero] at h5
      rw [← Int.neg_sub]; exact Int.dvd_neg.mpr h5) j
    have e : v j - comb R (fun k => v (w + k)) j = (v j - comb R x j) + (comb R x j - comb R (fun k => v (w + k)) j) := by omega
    rw [e]; exact Int.dvd_add h3 h4
  · have h5 := hx (w + k)
    rw [h2 k, if_neg (by omega), Int.sub_zero] at h5
    exact h5
/-! ### the kernel -/
def Ker (M : Int) (R : List Row) (x : Nat → Int) : Prop := ∀ j, M ∣ comb R x j
theorem Ker.lin {M : Int} {A R : List Row} {v : Nat → Int} (hr : ∀ r ∈ R, Ker M A (en r)) (hv : InL M R v) : Ker M A v :=
  InL.ind (M := M) (Q := Ker M A) (fun j => by rw [comb_zero]; exact Int.dvd_zero _) (fun u v hu hv j => by rw [comb_add]; exact Int.dvd_add (hu j) (hv j)) (fun k u hu j => by rw [comb_smul]; exact Int.dvd_mul_of_dvd_right (hu j))
    (fun u v h hu j => by
      have h1 := comb_congr (M := M) (R := A) (x := u) (y := v) (fun k _ => h k) j
      have e : comb A v j = comb A u j - (comb A u j - comb A v j) := by omega
      rw [e]; exact Int.dvd_sub (hu j) h1) hr hv
/-- these rows are all of the kernel -/
structure KerR (M : Int) (A R : List Row) : Prop where
  len : ∀ r ∈ R, r.length = A.length
  ker : ∀ r ∈ R, Ker M A (en r)
  all : ∀ x : Nat → Int, Ker M A x → (∀ k, A.length ≤ k → M ∣ x k) → InL M R x
theorem KerR.same {M : Int} {A R R' : List Row} (h : KerR M A R) (h' : KerR M A R') : SameL M R R' :=
  ⟨fun r hr => h'.all _ (h.ker r hr) fun k hk => by rw [en_ge (by rw [h.len r hr]; exact hk)]; exact Int.dvd_zero _, fun r hr => h.all _ (h'.ker r hr) fun k hk => by rw [en_ge (by rw [h'.len r hr]; exact hk)]; exact Int.dvd_zero _⟩
theorem KerR.of_same {M : Int} {A R R' : List Row} (h : KerR M A R) (hs : SameL M R R') (hl : ∀ r ∈ R', r.length = A.length) : KerR M A R' :=
  ⟨hl, fun r hr => Ker.lin h.ker (hs.2 r hr), fun x hx hz => hs.into (h.all x hx hz)⟩
theorem KerR.iff {M : Int} {A R : List Row} (h : KerR M A R) {x : Nat → Int} (hz : ∀ k, A.length ≤ k → M ∣ x k) : InL M R x ↔ Ker M A x := ⟨fun hx => Ker.lin h.ker hx, fun hx => h.all x hx hz⟩
theorem inL_drop {M : Int} {w : Nat} : ∀ {Z : List Row} {v : Nat → Int}, InL M Z v → InL M (Z.map fun z => z.drop w) fun k => v (w + k)
  | [], v, h => fun j => h (w + j)
  | r :: Z, v, ⟨k, hk⟩ => ⟨k, (inL_drop (w := w) hk).eq fun j => by
    have e : en (r.drop w) j = en r (w + j) := by unfold en; rw [List.getD_eq_getElem?_getD, List.getD_eq_getElem?_getD, List.getElem?_drop]
    rw [e]⟩
theorem en_drop (r : Row) (w j : Nat) : en (r.drop w) j = en r (w + j) := by unfold en; rw [List.getD_eq_getElem?_getD, List.getD_eq_getElem?_getD, List.getElem?_drop]
/-- what is left of the numbered rows behind their first places -/
theorem ker_rest {M : Int} {w : Nat} {A Z : List Row} {L : List (Nat × Row)} (hl : ∀ r ∈ A, r.length = w) (hE : Ech M (w + A.length) 0 L) (hc : ∀ x ∈ L, x.1 < w) (hZ : ∀ r ∈ Z, ∀ j, j < w → en r j = 0) (lZ : ∀ r ∈ Z, r.length = w + A.length)
    (hs : SameL M (numb A.length 0 A) (L.map (·.2) ++ Z)) : KerR M A (Z.map fun z => z.drop w) := by
  refine ⟨fun r hr => ?_, fun r hr j => ?_, fun x hx hz => ?_⟩
  · obtain ⟨z, hz, rfl⟩ := List.mem_map.mp hr
    rw [List.length_drop, lZ z hz]; omega
  · obtain ⟨z, hz, rfl⟩ := List.mem_map.mp hr
    have h1 := (numb_in hl (hs.2 z (List.mem_append_right _ hz))).1
    have e : en (z.drop w) = fun k => en z (w + k) := by funext k; exact en_drop z w k
    rw [e]
    rcases Nat.lt_or_ge j w with hj | hj
    · have := h1 j hj
      rw [hZ z hz j hj, Int.zero_sub] at this
      exact Int.dvd_neg.mp this
    · rw [comb_far hl j hj]; exact Int.dvd_zero _
  · have h1 : InL M (L.map (·.2) ++ Z) (comb (numb A.length 0 A) x) := hs.into (inL_of_comb _ x)
    obtain ⟨c1, c2⟩ := comb_numb (n := A.length) (k := 0) (x := x) hl (by omega)
    have h2 := tri hZ hE hc (fun j hj => by rw [c1 j hj]; exact hx j) h1
    refine (inL_drop (w := w) h2).congr fun k => ?_
    rw [c2 k]
    by_cases hk : k < A.length
    · rw [if_pos (by omega), Nat.sub_zero, Int.sub_self]; exact Int.dvd_zero _
    · rw [if_neg (by omega), Int.zero_sub]; exact Int.dvd_neg.mpr (hz k (by omega))
/-! ### what lies in two lattices -/
def sumBy (M : Int) : List Row → (Nat → Int) → Row → Row
  | [], _, t => t
  | r :: R, x, t => sumBy M R (fun k => x (k + 1)) (lessT t r (0 - x 0) M)
theorem sumBy_facts {M : Int} {w : Nat} (hm : Md M) : ∀ {R : List Row} {x : Nat → Int} {t : Row}, (∀ r ∈ R, r.length = w) → t.length = w → Rng M t → (sumBy M R x t).length = w ∧ Rng M (sumBy M R x t) ∧ ∀ j, M ∣ en (sumBy M R x t) j - (en t j + comb R x j)
  | [], x, t, _, lt, rt => ⟨lt, rt, fun j => by simp [sumBy, comb]⟩
  | r :: R, x, t, hl, lt, rt => by
    have h0 : t.length = r.length := by rw [lt, hl r (List.mem_cons_self ..)]
    obtain ⟨h1, h2, h3⟩ := sumBy_facts hm (R := R) (x := fun k => x (k + 1)) (t := lessT t r (0 - x 0) M) (fun r hr => hl r (List.mem_cons_of_mem _ hr)) ((lessT_len h0).trans lt) (lessT_rng h0 hm rt)
    refine ⟨h1, h2, fun j => ?_⟩
    have h4 := h3 j
    have h5 := lessT_dvd (t := 0 - x 0) (M := M) h0 j
    simp only [sumBy, comb]
    have e : en (sumBy M R (fun k => x (k + 1)) (lessT t r (0 - x 0) M)) j - (en t j + (x 0 * en r j + comb R (fun k => x (k + 1)) j)) = (en (sumBy M R (fun k => x (k + 1)) (lessT t r (0 - x 0) M)) j - (en (lessT t r (0 - x 0) M) j + comb R (fun k => x (k + 1)) j)) + (en (lessT t r (0 - x 0) M) j - (en t j - (0 - x 0) * en r j)) := by
      rw [Int.sub_mul, Int.zero_mul]; omega
    rw [e]; exact Int.dvd_add h4 h5
/-- the rows of the kernel, summed up by the first list -/
theorem meet_in {M : Int} {one other K : List Row} (hK : KerR M (one ++ other) K) {f : Row → Row} (hf : ∀ x ∈ K, ∀ j, M ∣ en (f x) j - comb one (en x) j) {v : Nat → Int} : InL M (K.map f) v ↔ InL M one v ∧ InL M other v := by
  constructor
  · intro h
    refine ⟨h.trans fun r hr => ?_, h.trans fun r hr => ?_⟩
    · obtain ⟨x, hx, rfl⟩ := List.mem_map.mp hr
      exact inL_comb.mpr ⟨en x, hf x hx⟩
    · obtain ⟨x, hx, rfl⟩ := List.mem_map.mp hr
      refine inL_comb.mpr ⟨fun k => -1 * en x (one.length + k), fun j => ?_⟩
      have h1 := hK.ker x hx j
      rw [comb_append] at h1
      rw [comb_smul]
      have h2 := hf x hx j
      have e : en (f x) j - -1 * comb other (fun k => en x (one.length + k)) j = (en (f x) j - comb one (en x) j) + (comb one (en x) j + comb other (fun k => en x (one.length + k)) j) := by omega
      rw [e]; exact Int.dvd_add h2 h1
  · rintro ⟨h1, h2⟩
    obtain ⟨x, hx⟩ := inL_comb.mp h1
    obtain ⟨y, hy⟩ := inL_comb.mp h2
    have hz : InL M K fun k => if k < one.length then x k else if k < one.length + other.length then -1 * y (k - one.length) else 0 := by
      refine hK.all _ (fun j => ?_) fun k hk => ?_
      · rw [comb_append, comb_eq (y := x) (fun k hk => if_pos hk), comb_eq (R := other) (y := fun k => -1 * y k) (fun k hk => by
          show (if one.length + k < one.length then _ else _) = _
          rw [if_neg (by omega), if_pos (by omega), Nat.add_sub_cancel_left]), comb_smul]
        have e : comb one x j + -1 * comb other y j = (v j - comb other y j) - (v j - comb one x j) := by omega
        rw [e]; exact Int.dvd_sub (hy j) (hx j)
      · rw [List.length_append] at hk
        show M ∣ (if k < one.length then _ else _)
        rw [if_neg (by omega), if_neg (by omega)]; exact Int.dvd_zero _
    have gen : ∀ {K' : List Row} {z : Nat → Int}, (∀ x ∈ K', x ∈ K) → InL M K' z → InL M (K'.map f) fun j => comb one z j := by
      intro K'
      induction K' with
      | nil =>
        intro z _ h j
        have := comb_congr (M := M) (R := one) (x := z) (y := fun _ => 0) (fun k _ => by rw [Int.sub_zero]; exact h k) j
        rw [comb_zero, Int.sub_zero] at this; exact this
      | cons d K' ih =>
        rintro z hs ⟨k, hk⟩
        refine ⟨k, (ih (fun x hx => hs x (List.mem_cons_of_mem _ hx)) hk).congr fun j => ?_⟩
        have h3 := hf d (hs d (List.mem_cons_self ..)) j
        rw [comb_sub, comb_smul]
        have e : comb one z j - k * comb one (en d) j - (comb one z j - k * en (f d) j) = k * (en (f d) j - comb one (en d) j) := by rw [Int.mul_sub]; omega
        rw [e]; exact Int.dvd_mul_of_dvd_right h3
    refine (gen (fun x hx => hx) hz).congr fun j => ?_
    rw [comb_eq (y := x) (fun k hk => if_pos hk), ← Int.neg_sub]
    exact Int.dvd_neg.mpr (hx j)
end Mine
set_option Elab.async false
set_option linter.all false
namespace Mine
/-! ### that there is such a form -/
theorem min_at (f : Row → Nat) : ∀ l : List Row, l ≠ [] → ∃ (k : Nat) (v : Row), l[k]? = some v ∧ ∀ x ∈ l, f v ≤ f x
  | [], h => absurd rfl h
  | [r], _ => ⟨0, r, rfl, fun x hx => by rw [List.mem_singleton.mp hx]; exact Nat.le_refl _⟩
  | r :: s :: l, _ => by
    obtain ⟨k, v, hk, hv⟩ := min_at f (s :: l) (by simp)
    rcases Nat.lt_or_ge (f v) (f r) with h | h
    · exact ⟨k + 1, v, by simpa using hk, fun x hx => by
        rcases List.mem_cons.mp hx with e | hx
        · rw [e]; omega
        · exact hv x hx⟩
    · exact ⟨0, r, rfl, fun x hx => by
        rcases List.mem_cons.mp hx with e | hx
        · rw [e]; exact Nat.le_refl _
        · have := hv x hx; omega⟩
/-- the turn that the program makes -/
theorem PJ.turn {M : Int} {w a B N R k : Nat} {R0 zeros busy : List Row} {v : Row} (hm : Md M) (hB : 1 ≤ B) (P : PJ M w a B N (R + 1) R0 zeros busy) (h2 : 2 ≤ busy.length) (hk : busy[k]? = some v) (hmin : ∀ x ∈ busy, (en v a).natAbs ≤ (en x a).natAbs) :
    PJ M w a B N R R0 (zerosOf zeros busy k v a M) (behindOf busy k v a M) := by
  have hv : v ∈ busy := List.mem_of_getElem? hk
  have hsub : ∀ r ∈ busy.eraseIdx k, r ∈ busy := fun r hr => List.mem_of_mem_eraseIdx hr
  refine P.step hm hB h2 hv hmin (fun s hs => ?_) (List.mem_cons_self ..) (fun s hs => ?_) (fun s hs => ?_) (fun r hr => .inl (List.mem_append_left _ hr)) (fun r hr => ?_) (fun hl => ?_) ?_
  · rcases (mem_step hk).mp hs with h | h | ⟨r, hr, e⟩
    · exact .inl h
    · exact .inr (.inl h)
    · exact .inr (.inr ⟨r, hsub r hr, e⟩)
  · rcases List.mem_append.mp hs with h | h
    · exact P.z0 s h
    · exact of_decide_eq_true (List.mem_filter.mp h).2
  · rcases List.mem_cons.mp hs with h | h
    · rw [h]; exact P.b0 v hv
    · exact of_decide_eq_true (List.mem_filter.mp h).2
  · rcases mem_erase hk hr with e | he
    · exact .inl e
    · exact .inr (.inl ((mem_step hk).mpr (.inr (.inr ⟨r, he, rfl⟩))))
  · unfold behindOf at hl
    rw [List.length_cons] at hl
    obtain ⟨x, hx⟩ := List.exists_mem_of_length_pos (show 0 < (((busy.eraseIdx k).map (shortOf v a M)).filter fun s => decide (en s a ≠ 0)).length by omega)
    obtain ⟨r, hr, rfl⟩ := List.mem_map.mp (List.mem_filter.mp hx).1
    exact ⟨r, hsub r hr, List.mem_cons_of_mem _ hx⟩
  · have h1 := len_zn a ((busy.eraseIdx k).map (shortOf v a M))
    have h3 : (busy.eraseIdx k).length = busy.length - 1 := by rw [List.length_eraseIdx, if_pos (List.getElem?_eq_some_iff.mp hk).1]
    rw [List.length_map, h3] at h1
    unfold zerosOf behindOf
    unfold zAt nzAt at h1
    rw [List.length_append, List.length_cons]
    omega
theorem PJ.ex {M : Int} {w a B N : Nat} {R0 : List Row} (hm : Md M) (hB : 1 ≤ B) : ∀ {R : Nat} {zeros busy : List Row}, PJ M w a B N R R0 zeros busy → ∃ zs pv, QPost M w a B N R0 zs pv
  | R, zeros, busy, P => by
    by_cases h : busy.length < 2
    · match busy, h, P with
      | [], _, P => exact ⟨_, _, P.none hB⟩
      | [v], _, P => exact ⟨_, _, P.one hm hB⟩
      | _ :: _ :: _, h, _ => exact absurd h (by simp only [List.length_cons]; omega)
    · cases R with
      | zero => exact absurd P.fin h
      | succ R =>
        obtain ⟨k, v, hk, hv⟩ := min_at (fun r => (en r a).natAbs) busy (fun z => by rw [z] at h; simp at h)
        exact PJ.ex hm hB (P.turn hm hB (by omega) hk hv)
theorem TJ.ex {M : Int} {w β n : Nat} {tr : Bool} {R0 : List Row} (hm : Md M) (hβ : 1 ≤ β) : ∀ {k c : Nat} {L : List (Nat × Row)} {left : List Row}, c + k ≤ w → TJ M w c β n tr R0 L left → ∃ L' left', TJ M w (c + k) β n tr R0 L' left'
  | 0, c, L, left, _, T => ⟨L, left, T⟩
  | k + 1, c, L, left, hw, T => by
    have hb1 : 1 ≤ bJ tr β n L.length := bJ_1 hβ
    obtain ⟨zs, pv, hq⟩ := (PJ.start (a := c) (N := left.length) T.lenR T.rngR T.bL (Nat.le_refl _)).ex hm hb1
    have := TJ.ex hm hβ (k := k) (c := c + 1) (by omega) (T.step hm hβ hq (by omega))
    rw [show c + 1 + k = c + (k + 1) by omega] at this
    exact this
theorem bnd_ex : ∀ R : List Row, ∃ β, 1 ≤ β ∧ Bnd β R
  | [] => ⟨1, Nat.le_refl _, fun r h => absurd h (by simp)⟩
  | r :: R => by
    obtain ⟨β, h1, h2⟩ := bnd_ex R
    have h3 : ∀ s : Row, ∃ β, ∀ j, (en s j).natAbs ≤ β := fun s => by
      induction s with
      | nil => exact ⟨0, fun j => by simp [en]⟩
      | cons x s ih =>
        obtain ⟨b, hb⟩ := ih
        refine ⟨b + x.natAbs, fun j => ?_⟩
        cases j with
        | zero => show x.natAbs ≤ _; omega
        | succ j => have := hb j; show (en s j).natAbs ≤ _; omega
    obtain ⟨b, hb⟩ := h3 r
    refine ⟨β + b, by omega, fun s hs j => ?_⟩
    rcases List.mem_cons.mp hs with e | hs
    · rw [e]; have := hb j; omega
    · have := h2 s hs j; omega
/-- each lattice has a reduced form -/
theorem herm_ex {M : Int} {w : Nat} {R : List Row} (hm : Md M) (hl : ∀ r ∈ R, r.length = w) (hr : ∀ r ∈ R, Rng M r) : ∃ D, Herm M w D ∧ SameL M R (D.map (·.2)) ∧ D.length ≤ R.length := by
  obtain ⟨β, h1, h2⟩ := bnd_ex R
  obtain ⟨L, left, T⟩ := TJ.ex hm h1 (k := w) (c := 0) (by omega) (TJ.start (β := β) (n := R.length) (tr := false) hl hr (fun _ => h2) (Nat.le_refl _) (fun h => by cases h))
  rw [Nat.zero_add] at T
  exact ⟨L, ⟨T.ech, T.lenL, T.red, T.rngL⟩, T.all, by have := T.cnt; omega⟩
/-! ### of many small vectors two agree -/
theorem pigeon : ∀ (n : Nat) {m : Nat} (f : Nat → Nat), n < m → (∀ i, i < m → f i < n) → ∃ i j, i < j ∧ j < m ∧ f i = f j
  | 0, m, f, h, hf => absurd (hf 0 h) (by omega)
  | n + 1, m, f, h, hf => by
    -- the last one's value, taken out
    by_cases hx : ∃ i, i < m - 1 ∧ f i = f (m - 1)
    · obtain ⟨i, h1, h2⟩ := hx
      exact ⟨i, m - 1, h1, by omega, h2⟩
    · have hne : ∀ i, i < m - 1 → f i ≠ f (m - 1) := fun i hi e => hx ⟨i, hi, e⟩
      obtain ⟨i, j, h1, h2, h3⟩ := pigeon n (m := m - 1) (fun i => if f i < f (m - 1) then f i else f i - 1) (by omega) (fun i hi => by
        have h1 := hf i (by omega)
        have h2 := hne i hi
        have h3 := hf (m - 1) (by omega)
        show (if f i < f (m - 1) then f i else f i - 1) < n
        split <;> omega)
      refine ⟨i, j, h1, by omega, ?_⟩
      have a := hne i (by omega)
      have b := hne j h2
      have h4 : (if f i < f (m - 1) then f i else f i - 1) = if f j < f (m - 1) then f j else f j - 1 := h3
      split at h4 <;> split at h4 <;> omega
/-- the numbers of N in base X + 1, at the places s -/
def xOf (X : Nat) : List Nat → Nat → Nat → Int
  | [], _, _ => 0
  | a :: s, N, k => if k = a then ((N % (X + 1) : Nat) : Int) else xOf X s (N / (X + 1)) k
theorem xOf_le (X : Nat) : ∀ (s : List Nat) (N k : Nat), 0 ≤ xOf X s N k ∧ xOf X s N k ≤ X
  | [], _, _ => by simp [xOf]
  | a :: s, N, k => by
    unfold xOf
    split
    · have := Nat.mod_lt N (show 0 < X + 1 by omega)
      omega
    · exact xOf_le X s _ k
theorem xOf_off {X : Nat} : ∀ {s : List Nat} {N k : Nat}, k ∉ s → xOf X s N k = 0
  | [], _, _, _ => rfl
  | a :: s, N, k, h => by
    unfold xOf
    rw [if_neg (fun e => h (by rw [e]; exact List.mem_cons_self ..))]
    exact xOf_off fun hk => h (List.mem_cons_of_mem _ hk)
theorem xOf_ne {X : Nat} : ∀ {s : List Nat} {N N' : Nat}, s.Nodup → N < (X + 1) ^ s.length → N' < (X + 1) ^ s.length → N ≠ N' → ∃ k ∈ s, xOf X s N k ≠ xOf X s N' k
  | [], N, N', _, h, h', hne => by simp at h h'; omega
  | a :: s, N, N', hnd, h, h', hne => by
    rw [List.length_cons, Nat.pow_succ] at h h'
    obtain ⟨ha, hnd⟩ := List.nodup_cons.mp hnd
    by_cases e : N % (X + 1) = N' % (X + 1)
    · have hne2 : N / (X + 1) ≠ N' / (X + 1) := fun e2 => hne (by
        rw [← Nat.div_add_mod N (X + 1), ← Nat.div_add_mod N' (X + 1), e, e2])
      obtain ⟨k, hk, h1⟩ := xOf_ne hnd (Nat.div_lt_of_lt_mul (by rw [Nat.mul_comm]; exact h)) (Nat.div_lt_of_lt_mul (by rw [Nat.mul_comm]; exact h')) hne2
      refine ⟨k, List.mem_cons_of_mem _ hk, ?_⟩
      unfold xOf
      have : k ≠ a := fun z => ha (by rw [← z]; exact hk)
      rw [if_neg this, if_neg this]; exact h1
    · refine ⟨a, List.mem_cons_self .., ?_⟩
      unfold xOf
      rw [if_pos rfl, if_pos rfl]
      omega
def codeOf (Q : Nat) (val : Nat → Nat) : List Nat → Nat
  | [] => 0
  | c :: C => val c + Q * codeOf Q val C
theorem codeOf_lt {Q : Nat} {val : Nat → Nat} (h : ∀ c, val c < Q) : ∀ C : List Nat, codeOf Q val C < Q ^ C.length
  | [] => by simp [codeOf]
  | c :: C => by
    have h1 := codeOf_lt h C
    have h2 := h c
    rw [List.length_cons, Nat.pow_succ, Nat.mul_comm]
    unfold codeOf
    have h3 : Q * (codeOf Q val C + 1) ≤ Q * Q ^ C.length := Nat.mul_le_mul_left _ h1
    rw [Nat.mul_add, Nat.mul_one] at h3
    omega
theorem codeOf_inj {Q : Nat} {val val' : Nat → Nat} (h : ∀ c, val c < Q) (h' : ∀ c, val' c < Q) : ∀ {C : List Nat}, codeOf Q val C = codeOf Q val' C → ∀ c ∈ C, val c = val' c
  | [], _, c, hc => absurd hc (by simp)
  | a :: C, e, c, hc => by
    unfold codeOf at e
    have hQ : 0 < Q := by have := h a; omega
    have e1 : val a = val' a := by
      have := congrArg (· % Q) e
      simp only [Nat.add_mul_mod_self_left] at this
      rwa [Nat.mod_eq_of_lt (h a), Nat.mod_eq_of_lt (h' a)] at this
    have e2 : codeOf Q val C = codeOf Q val' C := by
      rw [e1] at e
      have : Q * codeOf Q val C = Q * codeOf Q val' C := by omega
      exact Nat.eq_of_mul_eq_mul_left hQ this
    rcases List.mem_cons.mp hc with z | z
    · rw [z]; exact e1
    · exact codeOf_inj h h' e2 c z
theorem comb_abs {b X : Nat} : ∀ {A : List Row} {x : Nat → Int}, Bnd b A → (∀ k, (x k).natAbs ≤ X) → ∀ j, (comb A x j).natAbs ≤ A.length * (X * b)
  | [], x, _, _, j => by simp [comb]
  | r :: A, x, hb, hx, j => by
    have h1 := comb_abs (A := A) (x := fun k => x (k + 1)) (fun r hr => hb r (List.mem_cons_of_mem _ hr)) (fun k => hx (k + 1)) j
    have h2 : (x 0 * en r j).natAbs ≤ X * b := by rw [Int.natAbs_mul]; exact Nat.mul_le_mul (hx 0) (hb r (List.mem_cons_self ..) j)
    rw [List.length_cons, Nat.add_mul, Nat.one_mul]
    simp only [comb]
    omega
/-- a small vector on the places s that vanishes at the columns C -/
theorem siegel {A : List Row} {b X : Nat} {s C : List Nat} (hb : Bnd b A) (hnd : s.Nodup) (hX : (2 * (A.length * (X * b)) + 1) ^ C.length < (X + 1) ^ s.length) :
    ∃ z : Nat → Int, (∀ k, (z k).natAbs ≤ X) ∧ (∀ k, k ∉ s → z k = 0) ∧ (∃ k ∈ s, z k ≠ 0) ∧ ∀ c ∈ C, comb A z c = 0 := by
  have hle : ∀ N k, (xOf X s N k).natAbs ≤ X := fun N k => by have := xOf_le X s N k; omega
  have hv : ∀ N j, (comb A (xOf X s N) j).natAbs ≤ A.length * (X * b) := fun N j => comb_abs hb (hle N) j
  have hlt : ∀ N c, (comb A (xOf X s N) c + ((A.length * (X * b) : Nat) : Int)).toNat < 2 * (A.length * (X * b)) + 1 := fun N c => by have := hv N c; omega
  obtain ⟨i, j, hij, hj, e⟩ := pigeon _ (fun N => codeOf (2 * (A.length * (X * b)) + 1) (fun c => (comb A (xOf X s N) c + ((A.length * (X * b) : Nat) : Int)).toNat) C) hX fun N _ => codeOf_lt (hlt N) C
  have e2 := codeOf_inj (hlt i) (hlt j) e
  obtain ⟨k, hk, hne⟩ := xOf_ne hnd (show i < (X + 1) ^ s.length by omega) hj (show i ≠ j by omega)
  refine ⟨fun k => xOf X s i k - xOf X s j k, fun k => ?_, fun k hk => ?_, ⟨k, hk, fun h => hne (by have h2 : xOf X s i k - xOf X s j k = 0 := h; omega)⟩, fun c hc => ?_⟩
  · have h1 := xOf_le X s i k
    have h2 := xOf_le X s j k
    show (xOf X s i k - xOf X s j k).natAbs ≤ X
    omega
  · show xOf X s i k - xOf X s j k = 0
    rw [xOf_off hk, xOf_off hk]; rfl
  · have h1 := e2 c hc
    have h2 := hv i c
    have h3 := hv j c
    rw [comb_sub]
    omega
end Mine
set_option Elab.async false
set_option linter.all false
namespace Mine
theorem ech_pw {M : Int} {w : Nat} : ∀ {lo : Nat} {L : List (Nat × Row)}, Ech M w lo L → L.Pairwise fun x y => x.1 < y.1
  | _, [], _ => List.Pairwise.nil
  | lo, (p, r) :: L, h => by
    obtain ⟨_, _, _, _, _, h6⟩ := h
    exact List.pairwise_cons.mpr ⟨fun x hx => by have := (h6.all x hx).1; show p < x.1; omega, ech_pw h6⟩
theorem nodup_le : ∀ {m P : List Nat}, m.Nodup → (∀ x ∈ m, x ∈ P) → m.length ≤ P.length
  | [], _, _, _ => Nat.zero_le _
  | x :: m, P, hn, hs => by
    obtain ⟨h1, h2⟩ := List.nodup_cons.mp hn
    have hx := hs x (List.mem_cons_self ..)
    have := nodup_le (P := P.erase x) h2 fun y hy => (List.mem_erase_of_ne (fun e => h1 (by rw [← e]; exact hy))).mpr (hs y (List.mem_cons_of_mem _ hy))
    rw [List.length_erase_of_mem hx] at this
    have := List.length_pos_of_mem hx
    rw [List.length_cons]; omega
theorem filter_two {p : Nat → Bool} : ∀ l : List Nat, (l.filter p).length + (l.filter fun x => !p x).length = l.length
  | [] => rfl
  | x :: l => by
    have := filter_two (p := p) l
    by_cases h : p x
    · rw [List.filter_cons_of_pos h, List.filter_cons_of_neg (by simp [h]), List.length_cons, List.length_cons]; omega
    · rw [List.filter_cons_of_neg h, List.filter_cons_of_pos (by simp [h]), List.length_cons, List.length_cons]; omega
/-- the kernel's reduced rows are small -/
theorem ker_bound {w b : Nat} {A Z : List Row} {L D : List (Nat × Row)} (hl : ∀ r ∈ A, r.length = w) (hE : Ech 0 (w + A.length) 0 L) (hc : ∀ x ∈ L, x.1 < w) (hZ : ∀ r ∈ Z, ∀ j, j < w → en r j = 0)
    (hs : SameL 0 (numb A.length 0 A) (L.map (·.2) ++ Z)) (H : Herm 0 A.length D) (hK : KerR 0 A (D.map (·.2))) (hcnt : D.length + L.length ≤ A.length) (hb1 : 1 ≤ b) (hb : Bnd b A) :
    Bnd (D.length * (2 * A.length * b) ^ L.length) (D.map (·.2)) := by
  generalize hX : (2 * A.length * b) ^ L.length = X
  have zed : ∀ {z : Nat → Int}, InL 0 (D.map (·.2)) z → (∀ x ∈ D, (z x.1).natAbs < (en x.2 x.1).natAbs) → ∀ k, z k = 0 := fun {z} h1 h2 k => by
    have := ech_small (M := 0) (w := A.length) (c := A.length) (Z := []) (fun r h => absurd h (by simp)) H.ech (fun x hx => (H.ech.all x hx).2.1) (by rw [List.append_nil]; exact h1) fun x hx => ⟨fun _ => h2 x hx, fun h => absurd rfl h⟩
    exact Int.zero_dvd.mp (this k)
  have small : ∀ x ∈ D, ∃ z : Nat → Int, (∀ k, (z k).natAbs ≤ X) ∧ InL 0 (D.map (·.2)) z ∧ (∀ y ∈ D, y.1 ≠ x.1 → z y.1 = 0) ∧ (en x.2 x.1).natAbs ≤ (z x.1).natAbs := fun x hx => by
    obtain ⟨_, hxn, _, hxp, _⟩ := H.ech.all x hx
    have hA : 1 ≤ A.length := by omega
    -- the places
    have hnd : (x.1 :: (List.range A.length).filter fun k => !decide (k ∈ D.map (·.1))).Nodup := by
      refine List.nodup_cons.mpr ⟨fun h => ?_, List.nodup_range.filter _⟩
      have := (List.mem_filter.mp h).2
      simp at this
      exact this x.2 hx
    have hlen : A.length + 1 ≤ (x.1 :: (List.range A.length).filter fun k => !decide (k ∈ D.map (·.1))).length + D.length := by
      have h1 := filter_two (p := fun k => decide (k ∈ D.map (·.1))) (List.range A.length)
      have h2 : ((List.range A.length).filter fun k => decide (k ∈ D.map (·.1))).length ≤ (D.map (·.1)).length := nodup_le (List.nodup_range.filter _) fun y hy => of_decide_eq_true (List.mem_filter.mp hy).2
      rw [List.length_range] at h1
      rw [List.length_map] at h2
      rw [List.length_cons]; omega
    generalize hS : (x.1 :: (List.range A.length).filter fun k => !decide (k ∈ D.map (·.1))) = S at hnd hlen
    obtain ⟨z, z1, z2, ⟨k0, hk0, z3⟩, z4⟩ := siegel (A := A) (b := b) (X := X) (s := S) (C := L.map (·.1)) hb hnd (by
      rw [List.length_map]
      have h1 : 2 * (A.length * (X * b)) + 1 ≤ 2 * A.length * b * (X + 1) := by
        have e : 2 * A.length * b * (X + 1) = 2 * (A.length * (X * b)) + 2 * A.length * b := by
          rw [Nat.mul_add, Nat.mul_one]; congr 1; simp only [Nat.mul_assoc, Nat.mul_comm, Nat.mul_left_comm]
        rw [e]
        have : 1 ≤ 2 * A.length * b := Nat.mul_pos (by omega) hb1
        omega
      have h2 : (2 * (A.length * (X * b)) + 1) ^ L.length ≤ X * (X + 1) ^ L.length := by
        refine Nat.le_trans (Nat.pow_le_pow_left h1 _) ?_
        rw [Nat.mul_pow, hX]; exact Nat.le_refl _
      have h3 : X * (X + 1) ^ L.length < (X + 1) ^ (L.length + 1) := by
        rw [Nat.pow_succ, Nat.mul_comm]
        exact Nat.mul_lt_mul_of_pos_left (by omega) (Nat.pow_pos (by omega))
      have h4 : (X + 1) ^ (L.length + 1) ≤ (X + 1) ^ S.length := Nat.pow_le_pow_right (by omega) (by omega)
      omega)
    have hker : Ker 0 A z := by
      obtain ⟨c1, c2⟩ := comb_numb (n := A.length) (k := 0) (x := z) hl (by omega)
      have h1 := ech_small (M := 0) (c := w) hZ hE hc (hs.into (inL_of_comb _ z)) fun y hy => ⟨fun _ => by
        rw [c1 y.1 (hc y hy), z4 y.1 (List.mem_map.mpr ⟨y, hy, rfl⟩)]
        have := (hE.all y hy).2.2.2.1
        show 0 < _
        omega, fun h => absurd rfl h⟩
      intro j
      rcases Nat.lt_or_ge j w with hj | hj
      · rw [← c1 j hj]
        exact h1.col fun r hr => by rw [hZ r hr j hj]; exact Int.dvd_zero _
      · rw [comb_far hl j hj]; exact Int.dvd_zero _
    have hSn : ∀ k ∈ S, k < A.length := fun k hk => by
      rw [← hS] at hk
      rcases List.mem_cons.mp hk with e | hk
      · rw [e]; exact hxn
      · exact List.mem_range.mp (List.mem_filter.mp hk).1
    have hin : InL 0 (D.map (·.2)) z := hK.all z hker fun k hk => by rw [z2 k fun h => by have := hSn k h; omega]; exact Int.dvd_zero _
    have hoff : ∀ y ∈ D, y.1 ≠ x.1 → z y.1 = 0 := fun y hy hne => z2 y.1 fun h => by
      rw [← hS] at h
      rcases List.mem_cons.mp h with e | h
      · exact hne e
      · have := (List.mem_filter.mp h).2
        simp at this
        exact this y.2 hy
    refine ⟨z, z1, hin, hoff, ?_⟩
    rcases Nat.lt_or_ge (z x.1).natAbs (en x.2 x.1).natAbs with h | h
    · exfalso
      refine z3 (zed hin (fun y hy => ?_) k0)
      by_cases e : y.1 = x.1
      · have hyx : y = x := by
          obtain ⟨i, hi⟩ := List.getElem?_of_mem hy
          obtain ⟨j, hj⟩ := List.getElem?_of_mem hx
          obtain ⟨li, ei⟩ := List.getElem?_eq_some_iff.mp hi
          obtain ⟨lj, ej⟩ := List.getElem?_eq_some_iff.mp hj
          have pw := List.pairwise_iff_getElem.mp (ech_pw H.ech)
          rcases Nat.lt_trichotomy i j with h | h | h
          · have := pw i j li lj h; rw [ei, ej] at this; omega
          · subst h; rw [← ei, ← ej]
          · have := pw j i lj li h; rw [ei, ej] at this; omega
        rw [hyx]; exact h
      · rw [hoff y hy e]
        have := (H.ech.all y hy).2.2.2.1
        show 0 < _
        omega
    · exact h
  -- all that is small at the pivots is small
  have main : ∀ (Q : List (Nat × Row)) (κ : Nat) (u : Nat → Int), (∀ x ∈ Q, x ∈ D) → InL 0 (D.map (·.2)) u → (∀ y ∈ D, y ∉ Q → u y.1 = 0) → (∀ x ∈ Q, (u x.1).natAbs ≤ κ * (en x.2 x.1).natAbs) → ∀ j, (u j).natAbs ≤ Q.length * (κ * X) := by
    intro Q
    induction Q with
    | nil =>
      intro κ u _ hu h0 _ j
      have := zed hu (fun y hy => by
        rw [h0 y hy (by simp)]
        have := (H.ech.all y hy).2.2.2.1
        show 0 < _
        omega) j
      rw [this]; simp
    | cons x Q ih =>
      intro κ u hQ hu h0 hle j
      obtain ⟨z, z1, z2, z3, z4⟩ := small x (hQ x (List.mem_cons_self ..))
      have hx := hle x (List.mem_cons_self ..)
      have hxp := (H.ech.all x (hQ x (List.mem_cons_self ..))).2.2.2.1
      have ha : 0 < (z x.1).natAbs := by omega
      have same1 : ∀ y ∈ D, y.1 = x.1 → y = x := fun y hy e => by
        obtain ⟨i, hi⟩ := List.getElem?_of_mem hy
        obtain ⟨j, hj⟩ := List.getElem?_of_mem (hQ x (List.mem_cons_self ..))
        obtain ⟨li, ei⟩ := List.getElem?_eq_some_iff.mp hi
        obtain ⟨lj, ej⟩ := List.getElem?_eq_some_iff.mp hj
        have pw := List.pairwise_iff_getElem.mp (ech_pw H.ech)
        rcases Nat.lt_trichotomy i j with h | h | h
        · have := pw i j li lj h; rw [ei, ej] at this; omega
        · subst h; rw [← ei, ← ej]
        · have := pw j i lj li h; rw [ei, ej] at this; omega
      have h1 := ih ((z x.1).natAbs * κ) (fun k => z x.1 * u k - u x.1 * z k) (fun y hy => hQ y (List.mem_cons_of_mem _ hy)) ((hu.smul _).sub (z2.smul _)) (fun y hy hyQ => ?_) (fun y hy => ?_) j
      · have hxX : (u x.1 * z j).natAbs ≤ κ * (z x.1).natAbs * X := by
          rw [Int.natAbs_mul]
          exact Nat.mul_le_mul (Nat.le_trans hx (Nat.mul_le_mul_left _ z4)) (z1 j)
        have h2 : (z x.1 * u j).natAbs ≤ Q.length * ((z x.1).natAbs * κ * X) + κ * (z x.1).natAbs * X := by
          have : (z x.1 * u j - u x.1 * z j).natAbs ≤ Q.length * ((z x.1).natAbs * κ * X) := h1
          omega
        rw [Int.natAbs_mul] at h2
        have e : Q.length * ((z x.1).natAbs * κ * X) + κ * (z x.1).natAbs * X = (z x.1).natAbs * ((Q.length + 1) * (κ * X)) := by
          rw [Nat.add_mul, Nat.one_mul, Nat.mul_add]
          simp only [Nat.mul_assoc, Nat.mul_comm, Nat.mul_left_comm]
        rw [e] at h2
        rw [List.length_cons]
        exact Nat.le_of_mul_le_mul_left h2 ha
      · show z x.1 * u y.1 - u x.1 * z y.1 = 0
        by_cases e : y = x
        · subst e; rw [Int.mul_comm]; omega
        · have hne : y.1 ≠ x.1 := fun h => e (same1 y hy h)
          rw [z3 y hy hne, h0 y hy (fun h => (List.mem_cons.mp h).elim e hyQ)]; simp
      · show (z x.1 * u y.1 - u x.1 * z y.1).natAbs ≤ _
        have hyl := hle y (List.mem_cons_of_mem _ hy)
        by_cases e : y.1 = x.1
        · have := same1 y (hQ y (List.mem_cons_of_mem _ hy)) e
          subst this; rw [Int.mul_comm]; simp
        · rw [z3 y (hQ y (List.mem_cons_of_mem _ hy)) e, Int.mul_zero, Int.sub_zero, Int.natAbs_mul, Nat.mul_assoc]
          exact Nat.mul_le_mul_left _ hyl
  intro r hr j
  obtain ⟨x, hx, rfl⟩ := List.mem_map.mp hr
  have := main D 1 (en x.2) (fun y hy => hy) (InL.mem (List.mem_map.mpr ⟨x, hx, rfl⟩)) (fun y hy h => absurd hy h) (fun y hy => ?_) j
  · rwa [Nat.one_mul] at this
  · rw [Nat.one_mul]
    obtain ⟨i, hi⟩ := List.getElem?_of_mem hx
    obtain ⟨k, hk⟩ := List.getElem?_of_mem hy
    obtain ⟨li, ei⟩ := List.getElem?_eq_some_iff.mp hi
    obtain ⟨lk, ek⟩ := List.getElem?_eq_some_iff.mp hk
    rcases Nat.lt_trichotomy i k with h | h | h
    · have := List.pairwise_iff_getElem.mp H.red i k li lk h
      rw [ei, ek] at this; omega
    · subst h; rw [← ei, ← ek]; exact Nat.le_refl _
    · have := List.pairwise_iff_getElem.mp (ech_pw H.ech) k i lk li h
      rw [ei, ek] at this
      rw [(H.ech.all x hx).2.2.1 y.1 this]; simp
end Mine
set_option Elab.async false
set_option linter.all false
set_option maxRecDepth 100000
set_option maxHeartbeats 4000000
namespace Mine
open PySem PySem.Spec PyProof.Rows L2 Evl
/-! ### the text by places -/
def top (i : Nat) : Stmt := PySem.Challenge.pw_onebrick_k13_sums_kernels_and_meets.main.body.getD i (.Pass ⟨0, 0, 0, 0⟩)
abbrev s_inverse_of : Stmt := top 1
abbrev N_inverse_of : List Str := ["number", "prime", "high", "low", "above", "below", "times"]
theorem sc_inverse_of : FnScope N_inverse_of ["number", "prime"] (defScope s_inverse_of) := ⟨rfl, rfl, rfl, by decide +kernel, rfl, by decide +kernel, by decide +kernel⟩
abbrev s_plain_row : Stmt := top 2
abbrev N_plain_row : List Str := ["row", "modulus", "number"]
theorem sc_plain_row : FnScope N_plain_row ["row", "modulus"] (defScope s_plain_row) := ⟨rfl, rfl, rfl, by decide +kernel, rfl, by decide +kernel, by decide +kernel⟩
abbrev s_unit_row : Stmt := top 3
abbrev N_unit_row : List Str := ["width", "at", "row"]
theorem sc_unit_row : FnScope N_unit_row ["width", "at"] (defScope s_unit_row) := ⟨rfl, rfl, rfl, by decide +kernel, rfl, by decide +kernel, by decide +kernel⟩
abbrev s_less_times : Stmt := top 4
abbrev N_less_times : List Str := ["row", "other", "times", "modulus", "one", "two"]
theorem sc_less_times : FnScope N_less_times ["row", "other", "times", "modulus"] (defScope s_less_times) := ⟨rfl, rfl, rfl, by decide +kernel, rfl, by decide +kernel, by decide +kernel⟩
abbrev s_sum_of_rows : Stmt := top 5
abbrev N_sum_of_rows : List Str := ["rows", "numbers", "width", "modulus", "total", "row", "number"]
theorem sc_sum_of_rows : FnScope N_sum_of_rows ["rows", "numbers", "width", "modulus"] (defScope s_sum_of_rows) := ⟨rfl, rfl, rfl, by decide +kernel, rfl, by decide +kernel, by decide +kernel⟩
abbrev s_first_place : Stmt := top 6
abbrev N_first_place : List Str := ["row", "at", "number"]
theorem sc_first_place : FnScope N_first_place ["row"] (defScope s_first_place) := ⟨rfl, rfl, rfl, by decide +kernel, rfl, by decide +kernel, by decide +kernel⟩
abbrev s_is_zero : Stmt := top 7
abbrev N_is_zero : List Str := ["row"]
theorem sc_is_zero : FnScope N_is_zero ["row"] (defScope s_is_zero) := ⟨rfl, rfl, rfl, by decide +kernel, rfl, by decide +kernel, by decide +kernel⟩
abbrev s_least_row : Stmt := top 9
abbrev N_least_row : List Str := ["rows", "at", "found", "k", "row"]
theorem sc_least_row : FnScope N_least_row ["rows", "at"] (defScope s_least_row) := ⟨rfl, rfl, rfl, by decide +kernel, rfl, by decide +kernel, by decide +kernel⟩
abbrev s_quotient : Stmt := top 10
abbrev N_quotient : List Str := ["number", "pivot", "modulus"]
theorem sc_quotient : FnScope N_quotient ["number", "pivot", "modulus"] (defScope s_quotient) := ⟨rfl, rfl, rfl, by decide +kernel, rfl, by decide +kernel, by decide +kernel⟩
abbrev s_one_pivot : Stmt := top 11
abbrev N_one_pivot : List Str := ["rows", "at", "modulus", "row", "zeros", "busy", "k", "pivot", "behind", "j", "short", "turned", "number"]
theorem sc_one_pivot : FnScope N_one_pivot ["rows", "at", "modulus"] (defScope s_one_pivot) := ⟨rfl, rfl, rfl, by decide +kernel, rfl, by decide +kernel, by decide +kernel⟩
abbrev s_split_rows : Stmt := top 12
abbrev N_split_rows : List Str := ["rows", "width", "modulus", "left", "told", "at", "pivot", "row"]
theorem sc_split_rows : FnScope N_split_rows ["rows", "width", "modulus"] (defScope s_split_rows) := ⟨rfl, rfl, rfl, by decide +kernel, rfl, by decide +kernel, by decide +kernel⟩
abbrev s_hermite_rows : Stmt := top 13
abbrev N_hermite_rows : List Str := ["rows", "width", "modulus", "told", "rest"]
theorem sc_hermite_rows : FnScope N_hermite_rows ["rows", "width", "modulus"] (defScope s_hermite_rows) := ⟨rfl, rfl, rfl, by decide +kernel, rfl, by decide +kernel, by decide +kernel⟩
abbrev s_rest_of_row : Stmt := top 14
abbrev N_rest_of_row : List Str := ["told", "row", "modulus", "left", "one", "at"]
theorem sc_rest_of_row : FnScope N_rest_of_row ["told", "row", "modulus"] (defScope s_rest_of_row) := ⟨rfl, rfl, rfl, by decide +kernel, rfl, by decide +kernel, by decide +kernel⟩
abbrev s_numbered_rows : Stmt := top 15
abbrev N_numbered_rows : List Str := ["rows", "k", "row"]
theorem sc_numbered_rows : FnScope N_numbered_rows ["rows"] (defScope s_numbered_rows) := ⟨rfl, rfl, rfl, by decide +kernel, rfl, by decide +kernel, by decide +kernel⟩
abbrev s_combine_rows : Stmt := top 16
abbrev N_combine_rows : List Str := ["rows", "row", "modulus", "many", "width", "told", "rest", "left", "number"]
theorem sc_combine_rows : FnScope N_combine_rows ["rows", "row", "modulus"] (defScope s_combine_rows) := ⟨rfl, rfl, rfl, by decide +kernel, rfl, by decide +kernel, by decide +kernel⟩
abbrev s_kernel_rows : Stmt := top 17
abbrev N_kernel_rows : List Str := ["rows", "modulus", "width", "told", "rest", "row"]
theorem sc_kernel_rows : FnScope N_kernel_rows ["rows", "modulus"] (defScope s_kernel_rows) := ⟨rfl, rfl, rfl, by decide +kernel, rfl, by decide +kernel, by decide +kernel⟩
abbrev s_meet_rows : Stmt := top 18
abbrev N_meet_rows : List Str := ["one", "other", "width", "modulus", "both", "found", "numbers", "row"]
theorem sc_meet_rows : FnScope N_meet_rows ["one", "other", "width", "modulus"] (defScope s_meet_rows) := ⟨rfl, rfl, rfl, by decide +kernel, rfl, by decide +kernel, by decide +kernel⟩
abbrev s_law_source : Stmt := top 20
abbrev N_law_source : List Str := ["script", "at", "great", "state", "k", "cell"]
theorem sc_law_source : FnScope N_law_source ["script", "at"] (defScope s_law_source) := ⟨rfl, rfl, rfl, by decide +kernel, rfl, by decide +kernel, by decide +kernel⟩
abbrev s_law_pick : Stmt := top 21
abbrev N_law_pick : List Str := ["s", "many", "told"]
theorem sc_law_pick : FnScope N_law_pick ["s", "many"] (defScope s_law_pick) := ⟨rfl, rfl, rfl, by decide +kernel, rfl, by decide +kernel, by decide +kernel⟩
abbrev s_law_within : Stmt := top 22
abbrev N_law_within : List Str := ["s", "low", "high"]
theorem sc_law_within : FnScope N_law_within ["s", "low", "high"] (defScope s_law_within) := ⟨rfl, rfl, rfl, by decide +kernel, rfl, by decide +kernel, by decide +kernel⟩
abbrev s_law_one : Stmt := top 23
abbrev N_law_one : List Str := ["s", "things"]
theorem sc_law_one : FnScope N_law_one ["s", "things"] (defScope s_law_one) := ⟨rfl, rfl, rfl, by decide +kernel, rfl, by decide +kernel, by decide +kernel⟩
abbrev s_law_modulus : Stmt := top 24
abbrev N_law_modulus : List Str := ["s"]
theorem sc_law_modulus : FnScope N_law_modulus ["s"] (defScope s_law_modulus) := ⟨rfl, rfl, rfl, by decide +kernel, rfl, by decide +kernel, by decide +kernel⟩
abbrev s_law_inverse : Stmt := top 25
abbrev N_law_inverse : List Str := ["M", "k", "j"]
theorem sc_law_inverse : FnScope N_law_inverse ["M", "k"] (defScope s_law_inverse) := ⟨rfl, rfl, rfl, by decide +kernel, rfl, by decide +kernel, by decide +kernel⟩
abbrev s_law_less : Stmt := top 26
abbrev N_law_less : List Str := ["row", "other", "k", "M", "a", "b"]
theorem sc_law_less : FnScope N_law_less ["row", "other", "k", "M"] (defScope s_law_less) := ⟨rfl, rfl, rfl, by decide +kernel, rfl, by decide +kernel, by decide +kernel⟩
abbrev s_law_first : Stmt := top 27
abbrev N_law_first : List Str := ["row", "at"]
theorem sc_law_first : FnScope N_law_first ["row"] (defScope s_law_first) := ⟨rfl, rfl, rfl, by decide +kernel, rfl, by decide +kernel, by decide +kernel⟩
abbrev s_law_hermite : Stmt := top 28
abbrev N_law_hermite : List Str := ["rows", "width", "M", "row", "k", "left", "done", "turn", "live", "least", "fresh", "used", "pivot", "at", "one"]
theorem sc_law_hermite : FnScope N_law_hermite ["rows", "width", "M"] (defScope s_law_hermite) := ⟨rfl, rfl, rfl, by decide +kernel, rfl, by decide +kernel, by decide +kernel⟩
abbrev s_law_reduce : Stmt := top 29
abbrev N_law_reduce : List Str := ["H", "row", "M", "rest", "told", "at", "k"]
theorem sc_law_reduce : FnScope N_law_reduce ["H", "row", "M"] (defScope s_law_reduce) := ⟨rfl, rfl, rfl, by decide +kernel, rfl, by decide +kernel, by decide +kernel⟩
abbrev s_law_inside : Stmt := top 30
abbrev N_law_inside : List Str := ["H", "row", "M"]
theorem sc_law_inside : FnScope N_law_inside ["H", "row", "M"] (defScope s_law_inside) := ⟨rfl, rfl, rfl, by decide +kernel, rfl, by decide +kernel, by decide +kernel⟩
abbrev s_law_unit : Stmt := top 31
abbrev N_law_unit : List Str := ["at", "width", "k"]
theorem sc_law_unit : FnScope N_law_unit ["at", "width", "k"] (defScope s_law_unit) := ⟨rfl, rfl, rfl, by decide +kernel, rfl, by decide +kernel, by decide +kernel⟩
abbrev s_law_kernel : Stmt := top 32
abbrev N_law_kernel : List Str := ["rows", "M", "width", "wide", "told", "at", "row"]
theorem sc_law_kernel : FnScope N_law_kernel ["rows", "M"] (defScope s_law_kernel) := ⟨rfl, rfl, rfl, by decide +kernel, rfl, by decide +kernel, by decide +kernel⟩
abbrev s_law_meet : Stmt := top 33
abbrev N_law_meet : List Str := ["one", "other", "width", "M", "told", "rows", "x", "row", "k"]
theorem sc_law_meet : FnScope N_law_meet ["one", "other", "width", "M"] (defScope s_law_meet) := ⟨rfl, rfl, rfl, by decide +kernel, rfl, by decide +kernel, by decide +kernel⟩
abbrev s_law_same : Stmt := top 34
abbrev N_law_same : List Str := ["a", "b", "at"]
theorem sc_law_same : FnScope N_law_same ["a", "b"] (defScope s_law_same) := ⟨rfl, rfl, rfl, by decide +kernel, rfl, by decide +kernel, by decide +kernel⟩
abbrev s_law_c_box : Stmt := top 35
abbrev N_law_c_box : List Str := ["width", "most", "out", "k", "longer", "row", "number"]
theorem sc_law_c_box : FnScope N_law_c_box ["width", "most"] (defScope s_law_c_box) := ⟨rfl, rfl, rfl, by decide +kernel, rfl, by decide +kernel, by decide +kernel⟩
abbrev s_law_c_number : Stmt := top 36
abbrev N_law_c_number : List Str := ["s", "M", "far"]
theorem sc_law_c_number : FnScope N_law_c_number ["s", "M"] (defScope s_law_c_number) := ⟨rfl, rfl, rfl, by decide +kernel, rfl, by decide +kernel, by decide +kernel⟩
abbrev s_law_c_plain : Stmt := top 37
abbrev N_law_c_plain : List Str := ["row", "M", "number"]
theorem sc_law_c_plain : FnScope N_law_c_plain ["row", "M"] (defScope s_law_c_plain) := ⟨rfl, rfl, rfl, by decide +kernel, rfl, by decide +kernel, by decide +kernel⟩
abbrev s_law_c_add : Stmt := top 38
abbrev N_law_c_add : List Str := ["one", "other", "k", "M", "at"]
theorem sc_law_c_add : FnScope N_law_c_add ["one", "other", "k", "M"] (defScope s_law_c_add) := ⟨rfl, rfl, rfl, by decide +kernel, rfl, by decide +kernel, by decide +kernel⟩
abbrev s_law_c_sum : Stmt := top 39
abbrev N_law_c_sum : List Str := ["rows", "numbers", "width", "M", "k", "total"]
theorem sc_law_c_sum : FnScope N_law_c_sum ["rows", "numbers", "width", "M"] (defScope s_law_c_sum) := ⟨rfl, rfl, rfl, by decide +kernel, rfl, by decide +kernel, by decide +kernel⟩
abbrev s_law_c_copy : Stmt := top 40
abbrev N_law_c_copy : List Str := ["rows", "row"]
theorem sc_law_c_copy : FnScope N_law_c_copy ["rows"] (defScope s_law_c_copy) := ⟨rfl, rfl, rfl, by decide +kernel, rfl, by decide +kernel, by decide +kernel⟩
abbrev s_law_c_table : Stmt := top 41
abbrev N_law_c_table : List Str := ["s", "width", "M", "rows", "j", "k", "row"]
theorem sc_law_c_table : FnScope N_law_c_table ["s", "width", "M"] (defScope s_law_c_table) := ⟨rfl, rfl, rfl, by decide +kernel, rfl, by decide +kernel, by decide +kernel⟩
abbrev s_law_c_combined : Stmt := top 42
abbrev N_law_c_combined : List Str := ["rows", "row", "M", "handed", "one", "told", "number"]
theorem sc_law_c_combined : FnScope N_law_c_combined ["rows", "row", "M"] (defScope s_law_c_combined) := ⟨rfl, rfl, rfl, by decide +kernel, rfl, by decide +kernel, by decide +kernel⟩
abbrev s_law_c_kernel : Stmt := top 43
abbrev N_law_c_kernel : List Str := ["rows", "M", "due", "handed", "told", "x", "zero"]
theorem sc_law_c_kernel : FnScope N_law_c_kernel ["rows", "M"] (defScope s_law_c_kernel) := ⟨rfl, rfl, rfl, by decide +kernel, rfl, by decide +kernel, by decide +kernel⟩
abbrev s_law_c_met : Stmt := top 44
abbrev N_law_c_met : List Str := ["one", "other", "width", "M", "due", "handed", "more", "told", "first", "second", "row", "both"]
theorem sc_law_c_met : FnScope N_law_c_met ["one", "other", "width", "M"] (defScope s_law_c_met) := ⟨rfl, rfl, rfl, by decide +kernel, rfl, by decide +kernel, by decide +kernel⟩
abbrev s_law : Stmt := top 45
abbrev N_law : List Str := ["script", "s", "turn", "M", "width", "one", "other", "asked", "row", "at", "k"]
theorem sc_law : FnScope N_law ["script"] (defScope s_law) := ⟨rfl, rfl, rfl, by decide +kernel, rfl, by decide +kernel, by decide +kernel⟩
/-- a def of the top as a callee -/
structure Fn (K : PySem.W.Frag) (mg : Str → Option Value) (x : Str) (st : Stmt) (ps : List Str) (f : Addr) (fd : FuncData) : Prop where
  F : L2.Fun K x x st f fd
  g : mg x = some (.ref f)
  b : Binds K fd ps []
structure Lib (K : PySem.W.Frag) (mg : Str → Option Value) : Prop where
  abs : mg "abs" = none
  all : mg "all" = none
  any : mg "any" = none
  bool : mg "bool" = none
  dict : mg "dict" = none
  enumerate : mg "enumerate" = none
  int : mg "int" = none
  isinstance : mg "isinstance" = none
  len : mg "len" = none
  list : mg "list" = none
  min : mg "min" = none
  range : mg "range" = none
  str : mg "str" = none
  tuple : mg "tuple" = none
  zip : mg "zip" = none
  inverse_of : ∃ f fd, Fn K mg "inverse_of" s_inverse_of ["number", "prime"] f fd
  plain_row : ∃ f fd, Fn K mg "plain_row" s_plain_row ["row", "modulus"] f fd
  unit_row : ∃ f fd, Fn K mg "unit_row" s_unit_row ["width", "at"] f fd
  less_times : ∃ f fd, Fn K mg "less_times" s_less_times ["row", "other", "times", "modulus"] f fd
  sum_of_rows : ∃ f fd, Fn K mg "sum_of_rows" s_sum_of_rows ["rows", "numbers", "width", "modulus"] f fd
  first_place : ∃ f fd, Fn K mg "first_place" s_first_place ["row"] f fd
  is_zero : ∃ f fd, Fn K mg "is_zero" s_is_zero ["row"] f fd
  least_row : ∃ f fd, Fn K mg "least_row" s_least_row ["rows", "at"] f fd
  quotient : ∃ f fd, Fn K mg "quotient" s_quotient ["number", "pivot", "modulus"] f fd
  one_pivot : ∃ f fd, Fn K mg "one_pivot" s_one_pivot ["rows", "at", "modulus"] f fd
  split_rows : ∃ f fd, Fn K mg "split_rows" s_split_rows ["rows", "width", "modulus"] f fd
  hermite_rows : ∃ f fd, Fn K mg "hermite_rows" s_hermite_rows ["rows", "width", "modulus"] f fd
  rest_of_row : ∃ f fd, Fn K mg "rest_of_row" s_rest_of_row ["told", "row", "modulus"] f fd
  numbered_rows : ∃ f fd, Fn K mg "numbered_rows" s_numbered_rows ["rows"] f fd
  combine_rows : ∃ f fd, Fn K mg "combine_rows" s_combine_rows ["rows", "row", "modulus"] f fd
  kernel_rows : ∃ f fd, Fn K mg "kernel_rows" s_kernel_rows ["rows", "modulus"] f fd
  meet_rows : ∃ f fd, Fn K mg "meet_rows" s_meet_rows ["one", "other", "width", "modulus"] f fd
  law_source : ∃ f fd, Fn K mg "_law_source" s_law_source ["script", "at"] f fd
  law_pick : ∃ f fd, Fn K mg "_law_pick" s_law_pick ["s", "many"] f fd
  law_within : ∃ f fd, Fn K mg "_law_within" s_law_within ["s", "low", "high"] f fd
  law_one : ∃ f fd, Fn K mg "_law_one" s_law_one ["s", "things"] f fd
  law_modulus : ∃ f fd, Fn K mg "_law_modulus" s_law_modulus ["s"] f fd
  law_inverse : ∃ f fd, Fn K mg "_law_inverse" s_law_inverse ["M", "k"] f fd
  law_less : ∃ f fd, Fn K mg "_law_less" s_law_less ["row", "other", "k", "M"] f fd
  law_first : ∃ f fd, Fn K mg "_law_first" s_law_first ["row"] f fd
  law_hermite : ∃ f fd, Fn K mg "_law_hermite" s_law_hermite ["rows", "width", "M"] f fd
  law_reduce : ∃ f fd, Fn K mg "_law_reduce" s_law_reduce ["H", "row", "M"] f fd
  law_inside : ∃ f fd, Fn K mg "_law_inside" s_law_inside ["H", "row", "M"] f fd
  law_unit : ∃ f fd, Fn K mg "_law_unit" s_law_unit ["at", "width", "k"] f fd
  law_kernel : ∃ f fd, Fn K mg "_law_kernel" s_law_kernel ["rows", "M"] f fd
  law_meet : ∃ f fd, Fn K mg "_law_meet" s_law_meet ["one", "other", "width", "M"] f fd
  law_same : ∃ f fd, Fn K mg "_law_same" s_law_same ["a", "b"] f fd
  law_c_box : ∃ f fd, Fn K mg "_law_c_box" s_law_c_box ["width", "most"] f fd
  law_c_number : ∃ f fd, Fn K mg "_law_c_number" s_law_c_number ["s", "M"] f fd
  law_c_plain : ∃ f fd, Fn K mg "_law_c_plain" s_law_c_plain ["row", "M"] f fd
  law_c_add : ∃ f fd, Fn K mg "_law_c_add" s_law_c_add ["one", "other", "k", "M"] f fd
  law_c_sum : ∃ f fd, Fn K mg "_law_c_sum" s_law_c_sum ["rows", "numbers", "width", "M"] f fd
  law_c_copy : ∃ f fd, Fn K mg "_law_c_copy" s_law_c_copy ["rows"] f fd
  law_c_table : ∃ f fd, Fn K mg "_law_c_table" s_law_c_table ["s", "width", "M"] f fd
  law_c_combined : ∃ f fd, Fn K mg "_law_c_combined" s_law_c_combined ["rows", "row", "M"] f fd
  law_c_kernel : ∃ f fd, Fn K mg "_law_c_kernel" s_law_c_kernel ["rows", "M"] f fd
  law_c_met : ∃ f fd, Fn K mg "_law_c_met" s_law_c_met ["one", "other", "width", "M"] f fd
  law : ∃ f fd, Fn K mg "law" s_law ["script"] f fd

/-! ### further rules -/
section
variable {X : Cx}
/-- // by any divisor but 0, below 2 ^ 9000 in size -/
def CDivZ (_ j : Int) : Prop := j ≠ 0 ∧ j.natAbs.log2 < 9000
theorem op_fdivZ : OpR X (binaryOp .FloorDiv) (rI CDivZ fun i j => .int (i.fdiv j)) := opI fun _ _ _ _ _ _ _ hc q => floordiv_int hc.1 q (.inl (PyProof.noPylong_of_log2 hc.2))
/-- any(xs) of whole numbers -/
def rAnyI (K : PySem.W.Frag) : List V → Hp → VK → Prop := fun vs H Q => ∃ (a : Addr) (ns : List Int), vs = [V.ref a] ∧ SqL K H a (ns.map V.int) ∧ Q (.bl (ns.any fun i => i != 0)) H
theorem truth_ints {prog : Program} {w : World} {A : Around} {ns : List Int} {its : List Value} (e : Vals (ns.map V.int) its) :
    PySem.TruthOf prog w A (fun i v => its.toArray[i]? = some v) (fun i => (ns.map fun k => k != 0).getD i false) := fun i v s Q E hv hq => by
  have hv' : its[i]? = some v := by simpa using hv
  have hlen := e.length
  have hi : i < ns.length := by
    have := (List.getElem?_eq_some_iff.mp hv').1
    rw [List.length_map] at hlen; omega
  obtain ⟨u, hu, r⟩ := e.get (i := i) (x := .int ns[i]) (by rw [List.getElem?_map, List.getElem?_eq_getElem hi]; rfl)
  rw [hv'] at hu
  cases hu
  obtain ⟨t, rfl⟩ := r
  have hg : (ns.map fun k => k != 0).getD i false = (ns[i] != 0) := by rw [List.getD_eq_getElem?_getD, List.getElem?_map, List.getElem?_eq_getElem hi]; rfl
  have hq' : Q ((ns.map fun k => k != 0).getD i false) s := hq
  rw [hg] at hq'
  exact PyProof.Rows.truthy_int hq'
theorem cr_anyI (hc : X.calm = true := by rfl) : CallR X (.builtin "any") (rAnyI X.K) := by
  intro pins s σ H vs us Q I r h
  obtain ⟨a, ns, rfl, hs, q⟩ := h
  obtain ⟨its, rv, hl, _⟩ := I.list hs
  rw [Vals.ref1 r]
  refine PySem.call_any_walk (iter_any hl.isList fun s₂ e2 st hne => ?_)
  subst e2
  refine ⟨_, _, _, _, _, _, _, rfl, PySem.Walks.list (A := X.A.in1) (I.ok.hd hc) _ a hne its.toArray, st, truth_ints rv, fun h' tk hk => ?_⟩
  refine ⟨.bl _, H, I.kept fun b o eo => hk b o (fun hmem => ?_) (Heap.get?_push_of_some _ eo), ?_, q⟩
  · rcases List.mem_cons.mp hmem with e1 | hmem
    · exact absurd (e1 ▸ Heap.lt_size eo) (Nat.lt_irrefl _)
    · cases hmem
  · show Value.bool _ = Value.bool _
    have h1 := any_range (ns.map fun k => k != 0)
    have h2 : (ns.map fun k => k != 0).length = its.length := by
      have := rv.length
      rw [List.length_map] at this ⊢; exact this
    rw [h2, List.any_map] at h1
    rw [List.size_toArray, h1]; rfl
/-- the rules that read the written part, with K told (for comprehensions' blocks) -/
theorem ix_listK {K : PySem.W.Frag} (h : X.K = K := by rfl) : IxR X (rIxL K) := h ▸ ix_list
theorem ix_tupK {K : PySem.W.Frag} (h : X.K = K := by rfl) : IxR X (rIxT K) := h ▸ ix_tup
theorem ix_seqK {K : PySem.W.Frag} (h : X.K = K := by rfl) : IxR X (rIx K) := h ▸ ix_seq
theorem sl_listK {K : PySem.W.Frag} (h : X.K = K := by rfl) : SlR X (rSlL K) := h ▸ sl_list
theorem call_len_seqK {K : PySem.W.Frag} (h : X.K = K := by rfl) : CallR X (.builtin "len") (rLenS K) := h ▸ call_len_seq
theorem call_list_ofK {K : PySem.W.Frag} (h : X.K = K := by rfl) : CallR X (.type "list") (rListS K) := h ▸ call_list_of
theorem cr_anyIK {K : PySem.W.Frag} (h : X.K = K := by rfl) (hc : X.calm = true := by rfl) : CallR X (.builtin "any") (rAnyI K) := h ▸ cr_anyI hc
theorem pi_listK {K : PySem.W.Frag} {tg l : Expr} {tl : TE} (hl : PE X l tl) (h : X.K = K := by rfl) : L2.PI X tg l (iList K tl) := h ▸ pi_list hl
def tTruK (K : PySem.W.Frag) (ta : TE) : TT := fun σ H Q => ta σ H fun x H' => ∃ k, TruV K x H' k ∧ Q k H'
theorem pt_truthK {K : PySem.W.Frag} {a : Expr} {ta : TE} (ha : PE X a ta) (he : ∀ whole, isTrue a X.env whole = (do let v ← whole; standAt a.pos; holding [v] (truthy v)) := by intro _; rfl) (h : X.K = K := by rfl) : PT X a (tTruK K ta) := h ▸ pt_truth ha he
end
theorem blkOk_nest {N N' : List Str} {sc sc' scope : Scope} {own : List (Str × Nat)} (h : blkC N sc scope own = true) (hN : N' = N := by rfl) (hs : sc' = sc := by rfl) : BlkOk N' sc' scope own := by
  subst hN; subst hs; exact blkOk_by h
end Mine
set_option Elab.async false
set_option linter.all false
set_option maxRecDepth 100000
set_option maxHeartbeats 4000000
namespace Mine
open PySem PySem.Spec PyProof.Rows L2 Evl
/-! ### rows in the heap -/
def iL (r : Row) : List V := r.map V.int
theorem iL_len (r : Row) : (iL r).length = r.length := List.length_map ..
theorem iL_get {r : Row} {i : Nat} {x : V} (h : (iL r)[i]? = some x) : ∃ k, x = .int k ∧ r[i]? = some k := by
  unfold iL at h; rw [List.getElem?_map] at h
  obtain ⟨k, h1, h2⟩ := Option.map_eq_some_iff.mp h
  exact ⟨k, h2.symm, h1⟩
theorem iL_at {r : Row} {i : Nat} {k : Int} (h : r[i]? = some k) : (iL r)[i]? = some (.int k) := by
  unfold iL; rw [List.getElem?_map, h]; rfl
theorem iL_en {r : Row} {i : Nat} (h : i < r.length) : atI (iL r) (i : Int) = some (.int (en r i)) := atI_nat (iL_at (en_lt h))
abbrev AR := Addr × Row
def adr (ps : List AR) : List V := ps.map fun x => V.ref x.1
def rws (ps : List AR) : List Row := ps.map (·.2)
def Rws (H : Hp) (ps : List AR) : Prop := ∀ x ∈ ps, H x.1 = some (.lst (iL x.2))
theorem adr_len (ps : List AR) : (adr ps).length = ps.length := List.length_map ..
theorem rws_len (ps : List AR) : (rws ps).length = ps.length := List.length_map ..
theorem adr_get {ps : List AR} {i : Nat} {x : V} (h : (adr ps)[i]? = some x) : ∃ q, ps[i]? = some q ∧ x = .ref q.1 := by
  unfold adr at h; rw [List.getElem?_map] at h
  obtain ⟨k, h1, h2⟩ := Option.map_eq_some_iff.mp h
  exact ⟨k, h1, h2.symm⟩
theorem adr_at {ps : List AR} {i : Nat} {q : AR} (h : ps[i]? = some q) : (adr ps)[i]? = some (.ref q.1) := by
  unfold adr; rw [List.getElem?_map, h]; rfl
theorem Rws.ex {H H' : Hp} {ps : List AR} (e : Ex H H') (h : Rws H ps) : Rws H' ps := fun x hx => e _ _ (h x hx)
theorem Rws.nil {H : Hp} : Rws H [] := fun x hx => absurd hx (by simp)
theorem Rws.append {H : Hp} {ps qs : List AR} (h : Rws H ps) (h' : Rws H qs) : Rws H (ps ++ qs) := fun x hx => (List.mem_append.mp hx).elim (h x) (h' x)
theorem Rws.sub {H : Hp} {ps qs : List AR} (h : Rws H ps) (s : ∀ x ∈ qs, x ∈ ps) : Rws H qs := fun x hx => h x (s x hx)
theorem Rws.seq {K : PySem.W.Frag} {H : Hp} {ps : List AR} (h : Rws H ps) {x : AR} (hx : x ∈ ps) : SqL K H x.1 (iL x.2) := SqL.of (h x hx)
theorem same_ex {H H' : Hp} : Same H H' = Ex H H' := rfl
/-! ### tests, values -/
section
variable {K : PySem.W.Frag} {σ : L2.St} {H H' : Hp} {ta tb te tx tl : TE} {t u : TT} {x y z v : V} {r : R2}
theorem yes_turn {σ2 : L2.St} {H2 : Hp} {P : V → Hp → Prop} {N : Hp → Prop} (h : te σ2 H2 P) : tYes σ2 H2 (fun b H3 => if b = true then te σ2 H3 P else N H3) := (iteT h : if true = true then te σ2 H2 P else N H2)
theorem et_yes : EvT tYes σ H true := fun H1 _ _ q => q H1 (Ex.refl H1)
theorem rv_mulW {i j : Int} (h : CMulW i j) : RV (rI CMulW fun i j => .int (i * j)) (.int i) (.int j) H (.int (i * j)) := rv_I (g := fun i j => .int (i * j)) h
theorem ev_add {i j : Int} (ha : Ev ta σ H (.int i)) (hb : Ev tb σ H (.int j)) : Ev (tOp (rI0 fun i j => .int (i + j)) ta tb) σ H (.int (i + j)) := ev_op ha hb (rv_I0 (g := fun i j => .int (i + j)))
theorem ev_sub {i j : Int} (ha : Ev ta σ H (.int i)) (hb : Ev tb σ H (.int j)) : Ev (tOp (rI0 fun i j => .int (i - j)) ta tb) σ H (.int (i - j)) := ev_op ha hb (rv_I0 (g := fun i j => .int (i - j)))
theorem ev_mul {i j : Int} (ha : Ev ta σ H (.int i)) (hb : Ev tb σ H (.int j)) (h : CMul i j) : Ev (tOp (rI CMul fun i j => .int (i * j)) ta tb) σ H (.int (i * j)) := ev_op ha hb (rv_I (g := fun i j => .int (i * j)) h)
theorem ev_mulW {i j : Int} (ha : Ev ta σ H (.int i)) (hb : Ev tb σ H (.int j)) (h : CMulW i j) : Ev (tOp (rI CMulW fun i j => .int (i * j)) ta tb) σ H (.int (i * j)) := ev_op ha hb (rv_I (g := fun i j => .int (i * j)) h)
theorem ev_mod {i j : Int} (ha : Ev ta σ H (.int i)) (hb : Ev tb σ H (.int j)) (h : 0 < j) : Ev (tOp (rI (fun _ j => 0 < j) fun i j => .int (i % j)) ta tb) σ H (.int (i % j)) := ev_op ha hb (rv_I (g := fun i j => .int (i % j)) h)
theorem ev_fdiv {i j : Int} (ha : Ev ta σ H (.int i)) (hb : Ev tb σ H (.int j)) (h : CDivZ i j) : Ev (tOp (rI CDivZ fun i j => .int (i.fdiv j)) ta tb) σ H (.int (i.fdiv j)) := ev_op ha hb (rv_I (g := fun i j => .int (i.fdiv j)) h)
theorem ev_lt {i j : Int} (ha : Ev ta σ H (.int i)) (hb : Ev tb σ H (.int j)) : Ev (tOp (rI0 fun i j => .bl (decide (i < j))) ta tb) σ H (.bl (decide (i < j))) := ev_op ha hb (rv_I0 (g := fun i j => .bl (decide (i < j))))
theorem ev_gt {i j : Int} (ha : Ev ta σ H (.int i)) (hb : Ev tb σ H (.int j)) : Ev (tOp (rI0 fun i j => .bl (decide (j < i))) ta tb) σ H (.bl (decide (j < i))) := ev_op ha hb (rv_I0 (g := fun i j => .bl (decide (j < i))))
theorem ev_ge {i j : Int} (ha : Ev ta σ H (.int i)) (hb : Ev tb σ H (.int j)) : Ev (tOp (rI0 fun i j => .bl (decide (j ≤ i))) ta tb) σ H (.bl (decide (j ≤ i))) := ev_op ha hb (rv_I0 (g := fun i j => .bl (decide (j ≤ i))))
theorem ev_eqI {i j : Int} (ha : Ev ta σ H (.int i)) (hb : Ev tb σ H (.int j)) : Ev (tOp rEq ta tb) σ H (.bl (decide (i = j))) := ev_is (ev_op ha hb (rv_eq rfl)) (by
  by_cases e : i = j
  · subst e; simp
  · have : ¬ V.int i = V.int j := fun h => e (V.int.inj h)
    simp [e])
theorem ev_neI {i j : Int} (ha : Ev ta σ H (.int i)) (hb : Ev tb σ H (.int j)) : Ev (tOp rNe ta tb) σ H (.bl (decide (i ≠ j))) := ev_is (ev_op ha hb (rv_ne rfl)) (by
  by_cases e : i = j
  · subst e; simp
  · have : ¬ V.int i = V.int j := fun h => e (V.int.inj h)
    simp [e])
theorem ev_ix {p : Addr} {xs : List V} {i : Int} (ha : Ev ta σ H (.ref p)) (hb : Ev tb σ H (.int i)) (h : SqL K H p xs) (hx : atI xs i = some v) : Ev (tOp (rIxL K) ta tb) σ H v := ev_op ha hb (rv_ixL h hx)
theorem ev_abs {i : Int} (ha : Ev ta σ H (.int i)) : Ev (tCB (fun xs H Q => ∃ i, xs = [.int i] ∧ Q (.int (if i < 0 then -i else i)) H) (tCons ta tNil)) σ H (.int (if i < 0 then -i else i)) :=
  ev_cb (ea_cons ha ea_nil) fun H1 _ _ q => ⟨i, rfl, q H1 (Ex.refl H1)⟩
theorem ev_int {i : Int} (ha : Ev ta σ H (.int i)) : Ev (tCB (fun xs H Q => (∃ i, xs = [.int i] ∧ Q (.int i) H) ∨ ∃ k, xs = [.bl k] ∧ Q (.int (if k then 1 else 0)) H) (tCons ta tNil)) σ H (.int i) :=
  ev_cb (ea_cons ha ea_nil) fun H1 _ _ q => .inl ⟨i, rfl, q H1 (Ex.refl H1)⟩
theorem et_truI {i : Int} (ha : Ev ta σ H (.int i)) : EvT (fun σ H Q => ta σ H fun x H' => ∃ k, TruV K x H' k ∧ Q k H') σ H (decide (i ≠ 0)) := fun H1 e _ q => ha H1 e _ fun H2 e2 => ⟨decide (i ≠ 0), (by
  show decide (i ≠ 0) = (i != 0)
  by_cases h : i = 0 <;> simp [h]), q H2 e2⟩
/-! ### comprehensions -/
theorem given_all (n : Nat) (v : Nat → V) (zs : List V) (hl : zs.length = n) (h : ∀ i z, zs[i]? = some z → v i = z) : given n (fun _ => true) v = zs := by
  unfold given
  rw [List.filter_eq_self.mpr fun _ _ => rfl]
  apply List.ext_getElem?
  intro i
  rw [List.getElem?_map]
  by_cases hi : i < n
  · have h1 := List.getElem?_eq_getElem (show i < zs.length by omega)
    rw [List.getElem?_range hi, h1]
    exact congrArg some (h i _ h1)
  · rw [List.getElem?_eq_none (by simp; omega), List.getElem?_eq_none (by omega)]; rfl
theorem getD_at {zs : List V} {i : Nat} {z : V} (h : zs[i]? = some z) : zs.getD i .non = z := by simp [List.getD, h]
theorem at_getD {zs : List V} {i : Nat} (h : i < zs.length) : zs[i]? = some (zs.getD i .non) := by simp [List.getD, h]
/-- [e for x in xs] -/
theorem el_lcS {a : Addr} {xs zs : List V} {j : Nat} {vs : List Nat} (h : Ev tl σ H (.ref a)) (hx : SqL K H a xs) (hz : xs.length ≤ 40000) (hl : zs.length = xs.length) (hw : ∀ x, wipe ((wipe σ vs).set j (some x)) vs = wipe σ vs)
    (he : ∀ (i : Nat) (x z : V) H1, Ex H H1 → xs[i]? = some x → zs[i]? = some z → Ev te ((wipe σ vs).set j (some x)) H1 z) : EvL (tLc (iList K tl) (gName j) tYes te vs) σ H zs := by
  rw [← given_all xs.length (fun i => zs.getD i .non) zs hl fun i z h => getD_at h]
  refine el_lcL (fun _ => true) (fun i => zs.getD i .non) h hx hz hw (fun i x H1 e hi => et_yes) fun i x H1 e hi _ => he i x _ H1 e hi (at_getD ?_)
  rw [hl]; exact (List.getElem?_eq_some_iff.mp hi).1
/-- [e for k in ns], iL to iL -/
theorem el_lcI {a : Addr} {r : Row} {j : Nat} {vs : List Nat} (g : Int → Int) (h : Ev tl σ H (.ref a)) (hx : SqL K H a (iL r)) (hz : r.length ≤ 40000) (hw : ∀ x, wipe ((wipe σ vs).set j (some x)) vs = wipe σ vs)
    (he : ∀ (k : Int) H1, Ex H H1 → k ∈ r → Ev te ((wipe σ vs).set j (some (.int k))) H1 (.int (g k))) : EvL (tLc (iList K tl) (gName j) tYes te vs) σ H (iL (r.map g)) := by
  refine el_lcS h hx (by rw [iL_len]; exact hz) (by rw [iL_len, iL_len, List.length_map]) hw fun i x z H1 e hi hz => ?_
  obtain ⟨k, rfl, hk⟩ := iL_get hi
  obtain ⟨m, rfl, hm⟩ := iL_get hz
  rw [List.getElem?_map, hk] at hm
  rw [← Option.some.inj hm]
  exact he k H1 e (List.mem_of_getElem? hk)
/-- [e for a, b in zip(xs, ys)], iL to iL -/
theorem el_lcZ {ta : TA} {a b : Addr} {r o : Row} {j1 j2 : Nat} {vs : List Nat} (g : Int → Int → Int) (h : EvA ta σ H [.ref a, .ref b]) (hx : SqL K H a (iL r)) (hy : SqL K H b (iL o)) (hz : r.length ≤ 40000) (hw : ∀ x y, wipe (((wipe σ vs).set j1 (some x)).set j2 (some y)) vs = wipe σ vs)
    (he : ∀ (k m : Int) H1, Ex H H1 → k ∈ r → m ∈ o → Ev te (((wipe σ vs).set j1 (some (.int k))).set j2 (some (.int m))) H1 (.int (g k m))) :
    EvL (tLc (iZip K ta) (gTup K 2 (gCons (gName j1) (gCons (gName j2) gNil))) tYes te vs) σ H (iL (List.zipWith g r o)) := fun H0 e Q q =>
  h H0 e _ fun H1 e1 => ⟨a, b, iL r, iL o, rfl, ex_l (e.trans e1) hx, ex_l (e.trans e1) hy, fun Dl hD => by
    have hn : min (iL r).length (iL o).length = min r.length o.length := by rw [iL_len, iL_len]
    refine lc_it (walk_zip (K := K) (a := a) (b := b) (xs := iL r) (ys := iL o) (n := min r.length o.length) hn.symm) (fun i H' => Ex H1 H' ∧ H' Dl = some (.lst (iL ((List.zipWith g r o).take i)))) ⟨Ex.new hD, upd_same⟩
      (fun i H' _ p => ⟨ex_l ((e.trans e1).trans p.1) hx, ex_l ((e.trans e1).trans p.1) hy⟩) (fun i x H' H'' hi p y => ?_) (fun H' p => ?_)
    · obtain ⟨T, x1, x2, rfl, nT, rfl, f1, f2⟩ := y
      obtain ⟨k, rfl, hk⟩ := iL_get f1
      obtain ⟨m, rfl, hm⟩ := iL_get f2
      refine ⟨T, [.int k, .int m], rfl, SqT.of upd_same, rfl, _, _, rfl, _, _, rfl, rfl, hw _ _, ?_⟩
      have eT : Ex H' (upd H' T (.tup [.int k, .int m])) := Ex.new nT
      refine yes_turn ?_
      refine he k m H1 (e.trans e1) (List.mem_of_getElem? hk) (List.mem_of_getElem? hm) _ (p.1.trans eT) _ fun H4 e4 => ?_
      have h4 : H4 Dl = some (.lst (iL ((List.zipWith g r o).take i))) := e4 _ _ (eT _ _ p.2)
      refine ⟨_, h4, sz_lt ?_, Ex.mut ((p.1.trans eT).trans e4) hD, ?_⟩
      · rw [iL_len, List.length_take]; omega
      · rw [upd_same]
        have ez : (List.zipWith g r o)[i]? = some (g k m) := by rw [List.getElem?_zipWith, hk, hm]
        rw [List.take_add_one, ez]
        unfold iL
        rw [List.map_append]; rfl
    · have ei : (List.zipWith g r o).take (min r.length o.length) = List.zipWith g r o := List.take_of_length_le (by rw [List.length_zipWith]; exact Nat.le_refl _)
      obtain ⟨p1, p2⟩ := p
      rw [ei] at p2
      exact q Dl H' (fresh_back e1 hD) (e1.trans p1) p2⟩
end
end Mine
set_option Elab.async false
set_option linter.all false
set_option maxRecDepth 100000
set_option maxHeartbeats 4000000
namespace Mine
open PySem PySem.Spec PyProof.Rows L2 Evl
section
variable {K : PySem.W.Frag} {σ : L2.St} {H H' : Hp} {ta tb te tx tl : TE} {t u : TT} {x y z v w1 : V} {D : Ends} {tu tw tz : TS}
/-! ### statements -/
theorem q_par {i j : Nat} {ta : TA} (h : EvA ta σ H [v, w1]) (k : ∀ H1, Ex H H1 → tz D ((σ.set i (some v)).set j (some w1)) H1) : tSeq (tPar i j ta) tz D σ H :=
  h H (Ex.refl H) _ fun H1 e => ⟨v, w1, rfl, k H1 e⟩
theorem s_par {i j : Nat} {ta : TA} (h : EvA ta σ H [v, w1]) (k : ∀ H1, Ex H H1 → D.nx ((σ.set i (some v)).set j (some w1)) H1) : tPar i j ta D σ H :=
  h H (Ex.refl H) _ fun H1 e => ⟨v, w1, rfl, k H1 e⟩
theorem s_forE {ta : TA} {a : Addr} {xs : List V} {j1 j2 : Nat} (h : EvA ta σ H [.ref a]) (hx : SqL K H a xs) (Pv : Nat → L2.St → Hp → Prop) (h0 : ∀ H1, Ex H H1 → Pv 0 σ H1) (hl : ∀ i σ' H', i ≤ xs.length → Pv i σ' H' → SqL K H' a xs)
    (hs : ∀ i x σ' H' H'', xs[i]? = some x → Pv i σ' H' → Ex H' H'' → tu { D with nx := Pv (i + 1), ct := Pv (i + 1), bk := D.nx } ((σ'.set j1 (some (.int (i : Nat)))).set j2 (some x)) H'') (hd : ∀ σ' H', Pv xs.length σ' H' → D.nx σ' H') :
    tFor (iEnum K ta) (gTup K 2 (gCons (gName j1) (gCons (gName j2) gNil))) tu D σ H :=
  h H (Ex.refl H) _ fun H1 e => ⟨a, xs, rfl, ex_l e hx, for_it walk_enum Pv (h0 H1 e) hl (fun i x σ' H' H'' hi p y => by
    obtain ⟨T, x1, x2, rfl, nT, rfl, f1, f2⟩ := y
    cases f1
    exact ⟨T, _, rfl, SqT.of upd_same, rfl, _, _, rfl, _, _, rfl, rfl, hs i x2 σ' H' _ f2 p (Ex.new nT)⟩) hd⟩
theorem q_forE {ta : TA} {a : Addr} {xs : List V} {j1 j2 : Nat} (h : EvA ta σ H [.ref a]) (hx : SqL K H a xs) (Pv : Nat → L2.St → Hp → Prop) (h0 : ∀ H1, Ex H H1 → Pv 0 σ H1) (hl : ∀ i σ' H', i ≤ xs.length → Pv i σ' H' → SqL K H' a xs)
    (hs : ∀ i x σ' H' H'', xs[i]? = some x → Pv i σ' H' → Ex H' H'' → tu { D with nx := Pv (i + 1), ct := Pv (i + 1), bk := tz D } ((σ'.set j1 (some (.int (i : Nat)))).set j2 (some x)) H'') (hd : ∀ σ' H', Pv xs.length σ' H' → tz D σ' H') :
    tSeq (tFor (iEnum K ta) (gTup K 2 (gCons (gName j1) (gCons (gName j2) gNil))) tu) tz D σ H := s_forE (D := { D with nx := tz D }) h hx Pv h0 hl hs hd
end
section
variable {P : Program} {w : World} {K : PySem.W.Frag} {mg : Str → Option Value} {base : Heap} {H : Hp}
/-! ### plain_row -/
def plainRow (r : Row) (M : Int) : Row := if M = 0 then r else r.map fun x => x % M
def spPlain (K : PySem.W.Frag) : Sp := fun vs H Q _ => ∃ (p : Addr) (r : Row) (M : Int), vs = [.ref p, .int M] ∧ SqL K H p (iL r) ∧ r.length ≤ 1000 ∧ 0 ≤ M ∧ RetL (iL (plainRow r M)) H Q
theorem ok_plain_row (L : Lib K mg) {f : Addr} {fd : FuncData} (F : L2.Fun K "plain_row" "plain_row" s_plain_row f fd) : FnOk P w K mg base CX0 1 f fd ["row", "modulus"] (spPlain K) := by
  refine F.ok sc_plain_row (fun vs H Q E h => ?_) (fun cdv A outer s H vs Q E hr h => ?_)
  · obtain ⟨p, r, M, rfl, _⟩ := h; rfl
  · obtain ⟨p, r, M, rfl, hp, hl, hM, k⟩ := h
    refine ⟨_, (pss_cons (ps_if (pt_cmpR op_eq (pv 1) pe_int (nomark _))
      (pss_one (ps_ret (pe_callTy call_list_of (by rfl) L.list (by decide +kernel) (pa_cons (pv 0) pa_nil))))
      pss_nil)
    (pss_one (ps_ret (pe_lc (own := [("number", 2)]) (g := gName 2) (tt := tYes) rfl sc_plain_row.nd (pi_list (pv 0)) (blkOk_by (own := [("number", 2)]) (N := N_plain_row) (sc := defScope s_plain_row) (by decide +kernel)) (fun _ _ _ _ _ => (pg_name (i := 2) sc_plain_row.nd rfl (Or.inl rfl))) (fun _ _ _ _ _ => pts_nil) (fun _ _ _ _ _ => (pe_op op_mod (pv 2) (pv 1))))))), ?_⟩
    refine q_when (et_test (ev_eqI (ev_var rfl) ev_c)) (fun hb H1 e1 => s_retL (el_list (ev_var rfl) (ex_l e1 hp)) fun p2 H2 n2 e2 h2 => ?_) (fun hb H1 e1 => s_retL (el_lcI (fun x => x % M) (ev_var rfl) (ex_l e1 hp) (by omega) (fun _ => rfl) fun x H2 e2 hx => ev_mod (ev_var rfl) (ev_var rfl) ?_) fun p2 H2 n2 e2 h2 => ?_)
    · refine k.go e1 n2 e2 ?_
      unfold plainRow; rw [if_pos (of_decide_eq_true hb)]; exact h2
    · have := of_decide_eq_false hb; omega
    · refine k.go e1 n2 e2 ?_
      unfold plainRow; rw [if_neg (of_decide_eq_false hb)]; exact h2
/-! ### less_times -/
def spLess (K : PySem.W.Frag) : Sp := fun vs H Q _ => ∃ (p q : Addr) (r o : Row) (t M : Int), vs = [.ref p, .ref q, .int t, .int M] ∧ SqL K H p (iL r) ∧ SqL K H q (iL o) ∧ r.length ≤ 1000 ∧ 0 ≤ M ∧ (M = 0 ∨ M ≠ 0) ∧ (∀ b ∈ o, CMulW t b) ∧ RetL (iL (lessT r o t M)) H Q
theorem ok_less_times (L : Lib K mg) {f : Addr} {fd : FuncData} (F : L2.Fun K "less_times" "less_times" s_less_times f fd) : FnOk P w K mg base CX0 1 f fd ["row", "other", "times", "modulus"] (spLess K) := by
  refine F.ok sc_less_times (fun vs H Q E h => ?_) (fun cdv A outer s H vs Q E hr h => ?_)
  · obtain ⟨p, q, r, o, t, M, rfl, _⟩ := h; rfl
  · obtain ⟨p, q, r, o, t, M, rfl, hp, hq, hl, hM, _, hc, k⟩ := h
    refine ⟨_, (pss_cons (ps_if (pt_cmpR op_eq (pv 2) pe_int (nomark _))
      (pss_one (ps_ret (pe_callTy call_list_of (by rfl) L.list (by decide +kernel) (pa_cons (pv 0) pa_nil))))
      pss_nil)
    (pss_cons (ps_if (pt_cmpR op_eq (pv 3) pe_int (nomark _))
      (pss_one (ps_ret (pe_lc (own := [("one", 4), ("two", 5)]) (g := gTup _ 2 (gCons (gName 4) (gCons (gName 5) gNil))) (tt := tYes) rfl sc_less_times.nd (pi_zip (by rfl) L.zip (pa_cons (pv 0) (pa_cons (pv 1) pa_nil))) (blkOk_by (own := [("one", 4), ("two", 5)]) (N := N_less_times) (sc := defScope s_less_times) (by decide +kernel)) (fun _ _ _ _ _ => (pg_tup rfl (pgs_cons (pg_name (i := 4) sc_less_times.nd rfl (Or.inl rfl)) (pgs_cons (pg_name (i := 5) sc_less_times.nd rfl (Or.inl rfl)) pgs_nil)))) (fun _ _ _ _ _ => pts_nil) (fun _ _ _ _ _ => (pe_op op_sub (pv 4) (pe_op op_mulW (pv 2) (pv 5)))))))
      pss_nil)
    (pss_one (ps_ret (pe_lc (own := [("one", 4), ("two", 5)]) (g := gTup _ 2 (gCons (gName 4) (gCons (gName 5) gNil))) (tt := tYes) rfl sc_less_times.nd (pi_zip (by rfl) L.zip (pa_cons (pv 0) (pa_cons (pv 1) pa_nil))) (blkOk_by (own := [("one", 4), ("two", 5)]) (N := N_less_times) (sc := defScope s_less_times) (by decide +kernel)) (fun _ _ _ _ _ => (pg_tup rfl (pgs_cons (pg_name (i := 4) sc_less_times.nd rfl (Or.inl rfl)) (pgs_cons (pg_name (i := 5) sc_less_times.nd rfl (Or.inl rfl)) pgs_nil)))) (fun _ _ _ _ _ => pts_nil) (fun _ _ _ _ _ => (pe_op op_mod (pe_op op_sub (pv 4) (pe_op op_mulW (pv 2) (pv 5))) (pv 3)))))))), ?_⟩
    refine q_when (et_test (ev_eqI (ev_var rfl) ev_c)) (fun hb H1 e1 => s_retL (el_list (ev_var rfl) (ex_l e1 hp)) fun p2 H2 n2 e2 h2 => ?_) (fun hb H1 e1 => ?_)
    · refine k.go e1 n2 e2 ?_
      unfold lessT; rw [if_pos (of_decide_eq_true hb)]; exact h2
    · refine q_when (et_test (ev_eqI (ev_var rfl) ev_c)) (fun hb2 H2 e2 => s_retL (el_lcZ (fun a b => a - t * b) (ea_cons (ev_var rfl) (ea_cons (ev_var rfl) ea_nil)) (ex_l (e1.trans e2) hp) (ex_l (e1.trans e2) hq) (by omega) (fun _ _ => rfl) fun a b H3 e3 ha hb3 => ev_sub (ev_var rfl) (ev_mulW (ev_var rfl) (ev_var rfl) (hc b hb3))) fun p3 H3 n3 e3 h3 => ?_)
        (fun hb2 H2 e2 => s_retL (el_lcZ (fun a b => (a - t * b) % M) (ea_cons (ev_var rfl) (ea_cons (ev_var rfl) ea_nil)) (ex_l (e1.trans e2) hp) (ex_l (e1.trans e2) hq) (by omega) (fun _ _ => rfl) fun a b H3 e3 ha hb3 => ev_mod (ev_sub (ev_var rfl) (ev_mulW (ev_var rfl) (ev_var rfl) (hc b hb3))) (ev_var rfl) ?_) fun p3 H3 n3 e3 h3 => ?_)
      · refine k.go (e1.trans e2) n3 e3 ?_
        unfold lessT; rw [if_neg (of_decide_eq_false hb), if_pos (of_decide_eq_true hb2)]; exact h3
      · have := of_decide_eq_false hb2; omega
      · refine k.go (e1.trans e2) n3 e3 ?_
        unfold lessT; rw [if_neg (of_decide_eq_false hb), if_neg (of_decide_eq_false hb2)]; exact h3
/-! ### first_place, is_zero -/
def firstP (r : Row) : Nat := r.findIdx fun x => decide (x ≠ 0)
theorem firstP_at {r : Row} {i : Nat} {k : Int} (h : r[i]? = some k) (hk : k ≠ 0) (h0 : ∀ j, j < i → en r j = 0) : firstP r = i := by
  obtain ⟨hi, e⟩ := List.getElem?_eq_some_iff.mp h
  unfold firstP
  rw [List.findIdx_eq hi]
  refine ⟨by rw [e]; simpa using hk, fun j hj => ?_⟩
  have h1 := h0 j hj
  have hjl : j < r.length := by omega
  have h2 := en_lt hjl
  rw [List.getElem?_eq_getElem hjl, h1] at h2
  rw [Option.some.inj h2]; simp
theorem firstP_end {r : Row} (h0 : ∀ j, j < r.length → en r j = 0) : firstP r = r.length := by
  unfold firstP
  rw [List.findIdx_eq_length]
  intro x hx
  obtain ⟨j, hj⟩ := List.getElem?_of_mem hx
  have h1 := h0 j (List.getElem?_eq_some_iff.mp hj).1
  rw [en_get hj] at h1
  simp [h1]
def spFirst (K : PySem.W.Frag) : Sp := fun vs H Q _ => ∃ (p : Addr) (r : Row), vs = [.ref p] ∧ SqL K H p (iL r) ∧ r.length ≤ 1000 ∧ RetV (.int (firstP r : Nat)) H Q
theorem ok_first_place (L : Lib K mg) {f : Addr} {fd : FuncData} (F : L2.Fun K "first_place" "first_place" s_first_place f fd) : FnOk P w K mg base CX0 1 f fd ["row"] (spFirst K) := by
  refine F.ok sc_first_place (fun vs H Q E h => ?_) (fun cdv A outer s H vs Q E hr h => ?_)
  · obtain ⟨p, r, rfl, _⟩ := h; rfl
  · obtain ⟨p, r, rfl, hp, hl, k⟩ := h
    refine ⟨_, (pss_cons (ps_for PassesOwn.never rfl (pi_enum (by rfl) L.enumerate (pa_cons (pv 0) pa_nil)) (pg_tup rfl (pgs_cons (pg_name (i := 1) sc_first_place.nd rfl (Or.inl rfl)) (pgs_cons (pg_name (i := 2) sc_first_place.nd rfl (Or.inl rfl)) pgs_nil)))
      (pss_one (ps_if (pt_cmpR op_ne (pv 2) pe_int (nomark _))
      (pss_one (ps_ret (pv 1)))
      pss_nil)))
    (pss_one (ps_ret (pe_callB call_len_seq (by rfl) L.len (by decide +kernel) (pa_cons (pv 0) pa_nil))))), ?_⟩
    refine q_forE (ea_cons (ev_var rfl) ea_nil) hp (fun i σ' H' => ∃ v1 v2, σ' = [some (.ref p), v1, v2] ∧ Ex H H' ∧ ∀ j, j < i → en r j = 0) (fun H1 e => ⟨none, none, rfl, e, fun j hj => absurd hj (Nat.not_lt_zero _)⟩) (fun i σ' H' _ ⟨_, _, _, e, _⟩ => ex_l e hp) ?_ ?_
    · rintro i x σ' H' H'' hi ⟨v1, v2, rfl, e, h0⟩ e2
      obtain ⟨m, rfl, hm⟩ := iL_get hi
      refine s_when (et_test (ev_neI (ev_var rfl) ev_c)) (fun hb H1 e1 => s_ret (ev_var rfl) fun H2 e3 => ?_) (fun hb H1 e1 => ⟨_, _, rfl, (e.trans e2).trans e1, fun j hj => ?_⟩)
      · have h1 := firstP_at hm (of_decide_eq_true hb) h0
        have := k.go (((e.trans e2).trans e1).trans e3)
        rw [h1] at this; exact this
      · by_cases hji : j = i
        · subst hji
          rw [en_get hm]
          have := of_decide_eq_false hb
          omega
        · exact h0 j (by omega)
    · rintro σ' H' ⟨v1, v2, rfl, e, h0⟩
      rw [iL_len] at h0
      refine s_ret (ev_len (ev_var rfl) (ex_l e hp)) fun H2 e3 => ?_
      have := k.go (e.trans e3)
      rw [firstP_end h0] at this
      rw [iL_len]; exact this
theorem firstP_spv {p : Addr} {r : Row} (hp : SqL K H p (iL r)) (hl : r.length ≤ 1000) : SpV (spFirst K) [.ref p] H (.int (firstP r : Nat)) := fun H1 e Q q _ => ⟨p, r, rfl, ex_l e hp, hl, fun H2 e2 => q H2 e2⟩
def isZ (r : Row) : Bool := decide (firstP r = r.length)
def spIsZ (K : PySem.W.Frag) : Sp := fun vs H Q _ => ∃ (p : Addr) (r : Row), vs = [.ref p] ∧ SqL K H p (iL r) ∧ r.length ≤ 1000 ∧ RetV (.bl (isZ r)) H Q
theorem ok_is_zero (L : Lib K mg) {f : Addr} {fd : FuncData} (F : L2.Fun K "is_zero" "is_zero" s_is_zero f fd) : FnOk P w K mg base CX0 2 f fd ["row"] (spIsZ K) := by
  obtain ⟨f_first_place, fd_first_place, F_first_place⟩ := L.first_place
  have G_first_place : FnOk P w K mg base CX0 1 f_first_place fd_first_place _ (spFirst K) := ok_first_place L F_first_place.F
  refine F.ok sc_is_zero (fun vs H Q E h => ?_) (fun cdv A outer s H vs Q E hr h => ?_)
  · obtain ⟨p, r, rfl, _⟩ := h; rfl
  · obtain ⟨p, r, rfl, hp, hl, k⟩ := h
    refine ⟨_, (pss_one (ps_ret (pe_cmpR op_eq (pe_call G_first_place (hr.mono (by decide)) (by rfl) F_first_place.g F_first_place.F.kp F_first_place.b .nil pass0 (pa_cons (pv 0) pa_nil)) (pe_callB call_len_seq (by rfl) L.len (by decide +kernel) (pa_cons (pv 0) pa_nil)) (nomark _)))), ?_⟩
    refine s_ret (ev_eqI (ev_call (ea_cons (ev_var rfl) ea_nil) (firstP_spv hp hl)) (ev_len (ev_var rfl) hp)) fun H1 e => ?_
    have := k.go e
    unfold isZ at this
    rw [iL_len]
    have e2 : decide ((firstP r : Int) = (r.length : Int)) = decide (firstP r = r.length) := by
      by_cases z : firstP r = r.length
      · simp [z]
      · have : ¬ (firstP r : Int) = (r.length : Int) := by omega
        simp [z, this]
    rw [e2]; exact this
end
end Mine
set_option Elab.async false
set_option linter.all false
set_option maxRecDepth 100000
set_option maxHeartbeats 4000000
namespace Mine
open PySem PySem.Spec PyProof.Rows L2 Evl
theorem cdivz {j : Int} {b : Nat} (i : Int) (h : j ≠ 0) (hb : j.natAbs < 2 ^ b) (h0 : 0 < b) (h9 : b ≤ 9000) : CDivZ i j := ⟨h, Nat.lt_of_lt_of_le (PySem.Flt.log2_lt_of h0 hb) h9⟩
theorem cdivz_small {j : Int} (i : Int) (h : j ≠ 0) (hb : j.natAbs < 1073741824) : CDivZ i j := cdivz (b := 30) i h hb (by decide) (by decide)
theorem CMulW_small {i j : Int} (h1 : i.natAbs < 1073741824) (h2 : j.natAbs < 1073741824) : CMulW i j := wide_mul (a := 30) (b := 30) h1 h2 (by decide) (by decide) (by decide)
theorem cmul_l {i j : Int} (h1 : -1000 ≤ i) (h2 : i ≤ 1000) : CMul i j := .inl ⟨by omega, by omega⟩
section
variable {K : PySem.W.Frag} {σ : L2.St} {H H' : Hp} {ta tb te tx tl : TE} {t u : TT} {x y z v w1 : V} {D : Ends} {tu tw tz : TS}
theorem q_call {sp : Sp} {dvs vs : List V} {E : XK} {ta : TA} {g : TG} (h : EvA ta σ H vs) (k : ∀ H1, Ex H H1 → sp (vs ++ dvs) H1 (fun x H2 => g x σ H2 (tz D)) E) : tSeq (tAsg (tCall sp dvs E ta) g) tz D σ H := h H (Ex.refl H) _ k
theorem s_call {sp : Sp} {dvs vs : List V} {E : XK} {ta : TA} {g : TG} (h : EvA ta σ H vs) (k : ∀ H1, Ex H H1 → sp (vs ++ dvs) H1 (fun x H2 => g x σ H2 D.nx) E) : tAsg (tCall sp dvs E ta) g D σ H := h H (Ex.refl H) _ k
/-- a, b = x, y through a tuple -/
theorem q_tup2 {i j : Nat} {ta : TA} (h : EvA ta σ H [v, w1]) (k : ∀ H1, Ex H H1 → tz D ((σ.set i (some v)).set j (some w1)) H1) : tSeq (tAsg (tTup ta) (gTup K 2 (gCons (gName i) (gCons (gName j) gNil)))) tz D σ H :=
  h H (Ex.refl H) _ fun H1 e => ⟨by show 2 ≤ sizeLine; decide, fun p hp => ⟨p, _, rfl, SqT.of upd_same, rfl, v, _, rfl, w1, _, rfl, rfl, k _ (e.trans (Ex.new hp))⟩⟩
/-- [row for row in rows if ..] -/
theorem given_filter {α : Type} (xs : List α) (d : α) (p : α → Bool) (g : α → V) : given xs.length (fun i => p (xs.getD i d)) (fun i => g (xs.getD i d)) = (xs.filter p).map g := by
  unfold given
  have e : (List.range xs.length).map (fun i => xs.getD i d) = xs := by
    apply List.ext_getElem?
    intro i
    rw [List.getElem?_map]
    by_cases hi : i < xs.length
    · rw [List.getElem?_range hi]; simp [List.getD, hi]
    · rw [List.getElem?_eq_none (by simp; omega), List.getElem?_eq_none (by omega)]; rfl
  conv => rhs; rw [← e]
  rw [List.filter_map, List.map_map]
  rfl
theorem el_lcF {a : Addr} {ps : List AR} {j : Nat} {vs : List Nat} (pr : AR → Bool) (h : Ev tl σ H (.ref a)) (hx : SqL K H a (adr ps)) (hz : ps.length ≤ 40000) (hw : ∀ x, wipe ((wipe σ vs).set j (some x)) vs = wipe σ vs)
    (ht : ∀ (x : AR) H1, Ex H H1 → x ∈ ps → EvT t ((wipe σ vs).set j (some (.ref x.1))) H1 (pr x)) (he : ∀ (x : AR) H1, Ex H H1 → x ∈ ps → Ev te ((wipe σ vs).set j (some (.ref x.1))) H1 (.ref x.1)) : EvL (tLc (iList K tl) (gName j) t te vs) σ H (adr (ps.filter pr)) := by
  unfold adr
  rw [← given_filter ps (0, []) pr fun x => V.ref x.1, ← adr_len ps]
  have hget : ∀ (i : Nat) (x : V), (adr ps)[i]? = some x → ps.getD i (0, []) ∈ ps ∧ x = .ref (ps.getD i (0, [])).1 := fun i x hi => by
    obtain ⟨q, hq, rfl⟩ := adr_get hi
    have : ps.getD i (0, []) = q := by simp [List.getD, hq]
    rw [this]; exact ⟨List.mem_of_getElem? hq, rfl⟩
  refine el_lcL (fun i => pr (ps.getD i (0, []))) (fun i => .ref (ps.getD i (0, [])).1) h hx (by rw [adr_len]; exact hz) hw (fun i x H1 e hi => ?_) fun i x H1 e hi _ => ?_
  · obtain ⟨h1, rfl⟩ := hget i x hi
    exact ht _ H1 e h1
  · obtain ⟨h1, rfl⟩ := hget i x hi
    exact he _ H1 e h1
end
/-! ### data compared as a whole -/
def dI (r : Row) : PyData := .list (r.map PyData.int)
def dR (rs : List Row) : PyData := .list (rs.map dI)
theorem dpI_all {K : PySem.W.Frag} {H : Hp} : ∀ r : Row, DpAll K H (iL r) (r.map PyData.int)
  | [] => .nil
  | x :: r => .cons (.int x) (dpI_all r)
theorem dpI {K : PySem.W.Frag} {H : Hp} {a : Addr} {r : Row} (h : SqL K H a (iL r)) : Dp K H (.ref a) (dI r) := .lst h (dpI_all r)
theorem dpR_all {K : PySem.W.Frag} {H : Hp} : ∀ ps : List AR, Rws H ps → DpAll K H (adr ps) ((rws ps).map dI)
  | [], _ => .nil
  | x :: ps, h => .cons (dpI (SqL.of (h x (List.mem_cons_self ..)))) (dpR_all ps fun y hy => h y (List.mem_cons_of_mem _ hy))
theorem dpR {K : PySem.W.Frag} {H : Hp} {a : Addr} {ps : List AR} (h : SqL K H a (adr ps)) (hr : Rws H ps) : Dp K H (.ref a) (dR (rws ps)) := .lst h (dpR_all ps hr)
theorem can_all : ∀ r : Row, PyData.canLayAll0 (r.map PyData.int) = true
  | [] => rfl
  | x :: r => by simp only [List.map_cons, PyData.canLayAll0, PyData.canLay0, can_all r]; rfl
theorem can_allR : ∀ rs : List Row, PyData.canLayAll0 (rs.map dI) = true
  | [] => rfl
  | r :: rs => by simp only [List.map_cons, PyData.canLayAll0, dI, PyData.canLay0, can_all, can_allR rs]; rfl
theorem dep_all : ∀ r : Row, PyData.depthAll (r.map PyData.int) = 0
  | [] => by simp only [List.map_nil, PyData.depthAll]
  | x :: r => by simp only [List.map_cons, PyData.depthAll, PyData.depth, dep_all r]; rfl
theorem dep_allR : ∀ rs : List Row, PyData.depthAll (rs.map dI) ≤ 1
  | [] => by simp only [List.map_nil, PyData.depthAll]; omega
  | r :: rs => by
    have := dep_allR rs
    simp only [List.map_cons, PyData.depthAll, dI, PyData.depth, dep_all] at this ⊢
    omega
theorem shI (r : Row) : SeqAt.shaped (dI r) = true := by
  unfold SeqAt.shaped dI
  rw [show PyData.canLay0 (.list (r.map PyData.int)) = true by simp only [PyData.canLay0, can_all]]
  simp only [PyData.depth, dep_all]; decide
theorem shR (rs : List Row) : SeqAt.shaped (dR rs) = true := by
  unfold SeqAt.shaped dR
  rw [show PyData.canLay0 (.list (rs.map dI)) = true by simp only [PyData.canLay0, can_allR]]
  have := dep_allR rs
  simp only [PyData.depth, Bool.true_and]
  exact decide_eq_true (by omega)
section
variable {P : Program} {w : World} {K : PySem.W.Frag} {mg : Str → Option Value} {base : Heap} {H : Hp}
/-! ### least_row -/
def spLeast (K : PySem.W.Frag) : Sp := fun vs H Q _ => ∃ (p : Addr) (ps : List AR) (a wd : Nat), vs = [.ref p, .int (a : Nat)] ∧ SqL K H p (adr ps) ∧ Rws H ps ∧ 0 < ps.length ∧ ps.length ≤ 1000 ∧ (∀ x ∈ ps, x.2.length = wd) ∧ a < wd ∧
  ∀ (k : Nat) (q : AR), ps[k]? = some q → (∀ x ∈ ps, (en q.2 a).natAbs ≤ (en x.2 a).natAbs) → RetV (.int (k : Nat)) H Q
theorem ok_least_row (L : Lib K mg) {f : Addr} {fd : FuncData} (F : L2.Fun K "least_row" "least_row" s_least_row f fd) : FnOk P w K mg base CX0 1 f fd ["rows", "at"] (spLeast K) := by
  refine F.ok sc_least_row (fun vs H Q E h => ?_) (fun cdv A outer s H vs Q E hr h => ?_)
  · obtain ⟨p, ps, a, wd, rfl, _⟩ := h; rfl
  · obtain ⟨p, ps, a, wd, rfl, hp, hR, h0, hl, hw, ha, k⟩ := h
    refine ⟨_, (pss_cons (ps_set (i := 2) sc_least_row.nd rfl (Or.inl rfl) pe_int)
    (pss_cons (ps_for PassesOwn.never rfl (pi_enum (by rfl) L.enumerate (pa_cons (pv 0) pa_nil)) (pg_tup rfl (pgs_cons (pg_name (i := 3) sc_least_row.nd rfl (Or.inl rfl)) (pgs_cons (pg_name (i := 4) sc_least_row.nd rfl (Or.inl rfl)) pgs_nil)))
      (pss_one (ps_if (pt_cmpR op_lt (pe_callB call_abs (by rfl) L.abs (by decide +kernel) (pa_cons (pe_ix ix_list (pv 4) (pv 1) (fun _ _ => rfl)) pa_nil)) (pe_callB call_abs (by rfl) L.abs (by decide +kernel) (pa_cons (pe_ix ix_list (pe_ix ix_list (pv 0) (pv 2) (fun _ _ => rfl)) (pv 1) (fun _ _ => rfl)) pa_nil)) (nomark _))
      (pss_one (ps_set (i := 2) sc_least_row.nd rfl (Or.inl rfl) (pv 3)))
      pss_nil)))
    (pss_one (ps_ret (pv 2))))), ?_⟩
    refine q_asg ev_c fun H0 e0 => ?_
    refine q_forE (ea_cons (ev_var rfl) ea_nil) (ex_l e0 hp) (fun i σ' H' => ∃ (fo : Nat) (q : AR) (v3 v4 : Option V), σ' = [some (.ref p), some (.int (a : Nat)), some (.int (fo : Nat)), v3, v4] ∧ Ex H H' ∧ ps[fo]? = some q ∧ ∀ (j : Nat) (x : AR), j < i → ps[j]? = some x → (en q.2 a).natAbs ≤ (en x.2 a).natAbs)
      (fun H1 e => ⟨0, ps[0], none, none, rfl, e0.trans e, List.getElem?_eq_getElem h0, fun j x hj => absurd hj (Nat.not_lt_zero _)⟩) (fun i σ' H' _ ⟨_, _, _, _, _, e, _⟩ => ex_l e hp) ?_ ?_
    · rintro i x σ' H' H'' hi ⟨fo, q, v3, v4, rfl, e, hq, hmin⟩ e2
      obtain ⟨y, hy, rfl⟩ := adr_get hi
      have hyin := List.mem_of_getElem? hy
      have hqin := List.mem_of_getElem? hq
      have E := e.trans e2
      have t1 : Ev _ ((([some (.ref p), some (.int (a : Nat)), some (.int (fo : Nat)), v3, v4] : L2.St).set 3 (some (.int (i : Nat)))).set 4 (some (.ref y.1))) H'' (.int (en y.2 a)) := ev_ix (K := K) (ev_var (i := 4) rfl) (ev_var (i := 1) rfl) (ex_l E (hR.seq hyin)) (iL_en (by rw [hw _ hyin]; exact ha))
      have t2 : Ev _ ((([some (.ref p), some (.int (a : Nat)), some (.int (fo : Nat)), v3, v4] : L2.St).set 3 (some (.int (i : Nat)))).set 4 (some (.ref y.1))) H'' (.int (en q.2 a)) := ev_ix (K := K) (ev_ix (K := K) (ev_var (i := 0) rfl) (ev_var (i := 2) rfl) (ex_l E hp) (atI_nat (adr_at hq))) (ev_var (i := 1) rfl) (ex_l E (hR.seq hqin)) (iL_en (by rw [hw _ hqin]; exact ha))
      refine s_when (et_test (ev_lt (ev_abs t1) (ev_abs t2))) (fun hb H1 e1 => s_asg (ev_var rfl) fun H2 e3 => ?_) (fun hb H1 e1 => ?_)
      · have hlt := of_decide_eq_true hb
        refine ⟨i, y, _, _, rfl, (E.trans e1).trans e3, hy, fun j x hj hx => ?_⟩
        have : (en y.2 a).natAbs ≤ (en q.2 a).natAbs := by
          revert hlt; split <;> split <;> omega
        by_cases hji : j = i
        · subst hji; rw [hy] at hx; rw [Option.some.inj hx]; exact Nat.le_refl _
        · exact Nat.le_trans this (hmin j x (by omega) hx)
      · have hlt := of_decide_eq_false hb
        refine ⟨fo, q, _, _, rfl, E.trans e1, hq, fun j x hj hx => ?_⟩
        by_cases hji : j = i
        · subst hji; rw [hy] at hx; rw [← Option.some.inj hx]
          revert hlt; split <;> split <;> omega
        · exact hmin j x (by omega) hx
    · rintro σ' H' ⟨fo, q, v3, v4, rfl, e, hq, hmin⟩
      rw [adr_len] at hmin
      refine s_ret (ev_var rfl) fun H2 e3 => ?_
      exact (k fo q hq fun x hx => by
        obtain ⟨j, hj⟩ := List.getElem?_of_mem hx
        exact hmin j x (List.getElem?_eq_some_iff.mp hj).1 hj).go (e.trans e3)
/-! ### inverse_of, quotient -/
def spInv (K : PySem.W.Frag) : Sp := fun vs H Q _ => ∃ n p : Int, vs = [.int n, .int p] ∧ 0 < p ∧ p ≤ 5 ∧ RetV (.int (inv n p)) H Q
theorem ok_inverse_of (L : Lib K mg) {f : Addr} {fd : FuncData} (F : L2.Fun K "inverse_of" "inverse_of" s_inverse_of f fd) : FnOk P w K mg base CX0 1 f fd ["number", "prime"] (spInv K) := by
  refine F.ok sc_inverse_of (fun vs H Q E h => ?_) (fun cdv A outer s H vs Q E hr h => ?_)
  · obtain ⟨n, p, rfl, _⟩ := h; rfl
  · obtain ⟨n, p, rfl, hp, hp5, k⟩ := h
    refine ⟨_, (pss_cons (ps_par (i := 2) (j := 3) rfl sc_inverse_of.nd rfl rfl (by decide) rfl rfl (pa_cons (pv 1) (pa_cons (pe_op op_mod (pv 0) (pv 1)) pa_nil)) (by rfl))
    (pss_cons (ps_asg (pe_tup (pa_cons pe_int (pa_cons pe_int pa_nil))) (pg_tup rfl (pgs_cons (pg_name (i := 4) sc_inverse_of.nd rfl (Or.inl rfl)) (pgs_cons (pg_name (i := 5) sc_inverse_of.nd rfl (Or.inl rfl)) pgs_nil))))
    (pss_cons (ps_while PassesOwn.never (pt_cmpR op_gt (pv 3) pe_int (nomark _))
      (pss_cons (ps_set (i := 6) sc_inverse_of.nd rfl (Or.inl rfl) (pe_op op_fdivZ (pv 2) (pv 3)))
    (pss_cons (ps_par (i := 2) (j := 3) rfl sc_inverse_of.nd rfl rfl (by decide) rfl rfl (pa_cons (pv 3) (pa_cons (pe_op op_sub (pv 2) (pe_op op_mul (pv 6) (pv 3))) pa_nil)) (by rfl))
    (pss_one (ps_par (i := 4) (j := 5) rfl sc_inverse_of.nd rfl rfl (by decide) rfl rfl (pa_cons (pv 5) (pa_cons (pe_op op_sub (pv 4) (pe_op op_mul (pv 6) (pv 5))) pa_nil)) (by rfl))))))
    (pss_one (ps_ret (pe_op op_mod (pv 5) (pv 1))))))), ?_⟩
    have hlow := Int.emod_nonneg n (show p ≠ 0 by omega)
    have hlow2 := Int.emod_lt_of_pos n hp
    refine q_par (ea_cons (ev_var rfl) (ea_cons (ev_mod (ev_var rfl) (ev_var rfl) hp) ea_nil)) fun H1 e1 => ?_
    refine q_tup2 (ea_cons ev_c (ea_cons ev_c ea_nil)) fun H2 e2 => ?_
    refine q_while (fun m σ' H' => ∃ (hi lo ab be : Int) (v6 : Option V), σ' = [some (.int n), some (.int p), some (.int hi), some (.int lo), some (.int ab), some (.int be), v6] ∧ Ex H H' ∧ 0 ≤ hi ∧ hi ≤ 5 ∧ 0 ≤ lo ∧ lo ≤ 5 ∧ m = lo.toNat ∧ ∃ fu, m ≤ fu ∧ invGo fu hi lo ab be p = inv n p)
      (n % p).toNat ⟨p, n % p, 0, 1, none, rfl, e1.trans e2, by omega, by omega, hlow, by omega, rfl, p.toNat, by omega, rfl⟩ ?_
    · rintro m σ' H' ⟨hi, lo, ab, be, v6, rfl, e, h1, h2, h3, h4, rfl, fu, hfu, hg⟩
      refine ⟨decide (1 < lo), et_test (ev_gt (ev_var rfl) ev_c), fun hb H3 e3 => ?_, fun hb H3 e3 => ?_⟩
      · have hb := of_decide_eq_true hb
        refine ⟨fun σ2 H2 => ∃ m', m' < lo.toNat ∧ ∃ (hi lo ab be : Int) (v6 : Option V), σ2 = [some (.int n), some (.int p), some (.int hi), some (.int lo), some (.int ab), some (.int be), v6] ∧ Ex H H2 ∧ 0 ≤ hi ∧ hi ≤ 5 ∧ 0 ≤ lo ∧ lo ≤ 5 ∧ m' = lo.toNat ∧ ∃ fu, m' ≤ fu ∧ invGo fu hi lo ab be p = inv n p, fun _ _ z => z, ?_⟩
        have hf : hi.fdiv lo = hi / lo := Int.fdiv_eq_ediv_of_nonneg hi (by omega)
        have hq0 : 0 ≤ hi / lo := Int.ediv_nonneg h1 (by omega)
        have hq1 : hi / lo ≤ 5 := Int.le_trans (Int.ediv_le_self lo h1) h2
        have hr1 := Int.emod_nonneg hi (show lo ≠ 0 by omega)
        have hr2 := Int.emod_lt_of_pos hi (show 0 < lo by omega)
        have hr3 := Int.emod_add_mul_ediv hi lo
        rw [Int.mul_comm lo] at hr3
        refine q_asg (ev_is (ev_fdiv (ev_var rfl) (ev_var rfl) (cdivz_small _ (by omega) (by omega))) (congrArg V.int hf)) fun H4 e4 => ?_
        refine q_par (ea_cons (ev_var rfl) (ea_cons (ev_sub (ev_var rfl) (ev_mul (ev_var rfl) (ev_var rfl) (cmul_l (by omega) (by omega)))) ea_nil)) fun H5 e5 => ?_
        refine s_par (ea_cons (ev_var rfl) (ea_cons (ev_sub (ev_var rfl) (ev_mul (ev_var rfl) (ev_var rfl) (cmul_l (by omega) (by omega)))) ea_nil)) fun H6 e6 => ?_
        refine ⟨(hi - hi / lo * lo).toNat, by omega, lo, hi - hi / lo * lo, be, ab - hi / lo * be, _, rfl, (((e.trans e3).trans e4).trans e5).trans e6, h3, h4, by omega, by omega, rfl, fu - 1, by omega, ?_⟩
        obtain ⟨g, rfl⟩ : ∃ g, fu = g + 1 := ⟨fu - 1, by omega⟩
        rw [← hg]
        show invGo g _ _ _ _ _ = invGo (g + 1) _ _ _ _ _
        conv => rhs; unfold invGo
        rw [if_pos hb]
      · have hb := of_decide_eq_false hb
        refine s_ret (ev_mod (ev_var rfl) (ev_var rfl) hp) fun H4 e4 => ?_
        have := k.go ((e.trans e3).trans e4)
        rw [← hg] at this
        have e9 : invGo fu hi lo ab be p = be % p := by
          cases fu with
          | zero => rfl
          | succ g => unfold invGo; rw [if_neg hb]
        rw [e9] at this
        exact this
def spQuot (K : PySem.W.Frag) : Sp := fun vs H Q _ => ∃ n p M : Int, vs = [.int n, .int p, .int M] ∧ Md M ∧ (M = 0 → CDivZ n p) ∧ (M ≠ 0 → 0 ≤ n ∧ n < M ∧ 0 < p ∧ p < M) ∧ RetV (.int (quot n p M)) H Q
theorem ok_quotient (L : Lib K mg) {f : Addr} {fd : FuncData} (F : L2.Fun K "quotient" "quotient" s_quotient f fd) : FnOk P w K mg base CX0 2 f fd ["number", "pivot", "modulus"] (spQuot K) := by
  obtain ⟨f_inverse_of, fd_inverse_of, F_inverse_of⟩ := L.inverse_of
  have G_inverse_of : FnOk P w K mg base CX0 1 f_inverse_of fd_inverse_of _ (spInv K) := ok_inverse_of L F_inverse_of.F
  refine F.ok sc_quotient (fun vs H Q E h => ?_) (fun cdv A outer s H vs Q E hr h => ?_)
  · obtain ⟨n, p, M, rfl, _⟩ := h; rfl
  · obtain ⟨n, p, M, rfl, hm, h0, h1, k⟩ := h
    refine ⟨_, (pss_cons (ps_if (pt_cmpR op_eq (pv 2) pe_int (nomark _))
      (pss_one (ps_ret (pe_op op_fdivZ (pv 0) (pv 1))))
      pss_nil)
    (pss_one (ps_ret (pe_op op_mod (pe_op op_mulW (pv 0) (pe_call G_inverse_of (hr.mono (by decide)) (by rfl) F_inverse_of.g F_inverse_of.F.kp F_inverse_of.b .nil pass0 (pa_cons (pv 1) (pa_cons (pv 2) pa_nil)))) (pv 2))))), ?_⟩
    refine q_when (et_test (ev_eqI (ev_var rfl) ev_c)) (fun hb H1 e1 => ?_) (fun hb H1 e1 => ?_)
    · have hM := of_decide_eq_true hb
      refine s_ret (ev_fdiv (ev_var rfl) (ev_var rfl) (h0 hM)) fun H2 e2 => ?_
      have := k.go (e1.trans e2)
      unfold quot at this; rw [if_pos hM] at this; exact this
    · have hM := of_decide_eq_false hb
      obtain ⟨a1, a2, a3, a4⟩ := h1 hM
      have hM2 := hm.pos hM
      refine s_ret (ev_mod (ev_mulW (ev_var rfl) (ev_call (z := .int (inv p M)) (ea_cons (ev_var rfl) (ea_cons (ev_var rfl) ea_nil)) (fun H3 e3 Q q _ => ⟨p, M, rfl, by omega, by omega, fun H4 e4 => q H4 e4⟩)) (CMulW_small ?_ ?_)) (ev_var rfl) (by omega)) fun H2 e2 => ?_
      · omega
      · obtain ⟨_, i2, i3⟩ := inv_ok hm hM a3 a4
        omega
      · have := k.go (e1.trans e2)
        unfold quot at this; rw [if_neg hM] at this; exact this
end
end Mine
set_option Elab.async false
set_option linter.all false
set_option maxRecDepth 100000
set_option maxHeartbeats 4000000
namespace Mine
open PySem PySem.Spec PyProof.Rows L2 Evl
theorem iL_ne_adr {r : Row} {ps : List AR} (h : 0 < r.length) : iL r ≠ adr ps := by
  intro e
  cases r with
  | nil => simp at h
  | cons x r =>
    cases ps with
    | nil => simp [iL, adr] at e
    | cons y ps => simp [iL, adr] at e
theorem Rws.ne {H : Hp} {ps qs : List AR} {p : Addr} (h : Rws H ps) (hl : ∀ x ∈ ps, 0 < x.2.length) (hp : H p = some (.lst (adr qs))) : ∀ x ∈ ps, x.1 ≠ p := fun x hx e => by
  have h1 := h x hx
  rw [e, hp] at h1
  injection h1 with h1
  injection h1 with h1
  exact iL_ne_adr (hl x hx) h1.symm
theorem Rws.upd {H : Hp} {ps : List AR} {p : Addr} {o : HO} (h : Rws H ps) (hn : ∀ x ∈ ps, x.1 ≠ p) : Rws (upd H p o) ps := fun x hx => by
  rw [upd_ne (hn x hx)]; exact h x hx
theorem erase_take {α : Type} {l : List α} {i k : Nat} {x : α} (h : l[i]? = some x) : (l.take (i + 1)).eraseIdx k = if i = k then (l.take i).eraseIdx k else (l.take i).eraseIdx k ++ [x] := by
  obtain ⟨hi, e⟩ := List.getElem?_eq_some_iff.mp h
  have hlen : (l.take i).length = i := by rw [List.length_take]; omega
  rw [List.take_add_one, h]
  show (l.take i ++ [x]).eraseIdx k = _
  by_cases hk : k < i
  · rw [if_neg (by omega), List.eraseIdx_append_of_lt_length (by omega)]
  · rw [List.eraseIdx_append_of_length_le (by omega), hlen]
    by_cases he : i = k
    · rw [if_pos he, he, Nat.sub_self, List.eraseIdx_of_length_le (List.length_take_le k l)]
      simp
    · rw [if_neg he, List.eraseIdx_of_length_le (Nat.le_trans (List.length_take_le i l) (by omega))]
      obtain ⟨m, hm⟩ : ∃ m, k - i = m + 1 := ⟨k - i - 1, by omega⟩
      rw [hm]; rfl
theorem filter_len {α : Type} (p : α → Bool) : ∀ l : List α, l.length = (l.filter p).length + (l.filter fun x => !p x).length
  | [] => rfl
  | x :: l => by
    have := filter_len p l
    by_cases h : p x = true
    · rw [List.filter_cons_of_pos h, List.filter_cons_of_neg (by simp [h])]; simp only [List.length_cons]; omega
    · rw [List.filter_cons_of_neg h, List.filter_cons_of_pos (by simp [h])]; simp only [List.length_cons]; omega
theorem natAbs_fdiv {n p : Int} (hp : p ≠ 0) : (n.fdiv p).natAbs ≤ n.natAbs := by
  obtain ⟨f1, f2⟩ := fdiv_facts n p hp
  generalize n.fdiv p = q at *
  have h1 : (q * p).natAbs ≤ n.natAbs + p.natAbs - 1 := by
    rcases Int.lt_or_gt_of_ne hp with h | h
    · have := f2 h; omega
    · have := f1 h; omega
  rw [Int.natAbs_mul] at h1
  have hp1 : 1 ≤ p.natAbs := by omega
  rcases Nat.lt_or_ge n.natAbs q.natAbs with z | z
  · exfalso
    have h2 : (n.natAbs + 1) * p.natAbs ≤ q.natAbs * p.natAbs := Nat.mul_le_mul_right _ z
    have h3 : n.natAbs ≤ n.natAbs * p.natAbs := Nat.le_mul_of_pos_right _ hp1
    rw [Nat.add_mul] at h2
    omega
  · exact z
section
variable {K : PySem.W.Frag} {σ : L2.St} {H H' : Hp} {ta tb te tx tl : TE} {t u : TT} {x y z v w1 : V} {D : Ends} {tu tw tz : TS}
/-- return (a, [..]) -/
theorem s_retPL {xs : List V} (ha : Ev ta σ H x) (h : EvL te σ H xs) (k : ∀ p q H1, H p = none → H q = none → Ex H H1 → H1 q = some (.lst xs) → H1 p = some (.tup [x, .ref q]) → D.rt (.ref p) H1) : tRet (tTup (tCons ta (tCons te tNil))) D σ H :=
  ha H (Ex.refl H) _ fun H1 e1 => h H1 e1 _ fun q H2 hq e2 h2 => ⟨by show 2 ≤ sizeLine; decide, fun p hp => k p q _ (fresh_back (e1.trans e2) hp) (fresh_back e1 hq) ((e1.trans e2).trans (Ex.new hp)) (by rw [upd_ne (ne_of_none h2 hp)]; exact h2) upd_same⟩
theorem less_spl {p q : Addr} {r o : Row} {t M : Int} (hp : SqL K H p (iL r)) (hq : SqL K H q (iL o)) (hl : r.length ≤ 1000) (hM : 0 ≤ M) (hc : ∀ b ∈ o, CMulW t b) : SpL (spLess K) [.ref p, .ref q, .int t, .int M] H (iL (lessT r o t M)) :=
  fun H1 e Q k _ => ⟨p, q, r, o, t, M, rfl, ex_l e hp, ex_l e hq, hl, hM, Classical.em _, hc, k⟩
theorem quot_spv {n p M : Int} (hm : Md M) (h0 : M = 0 → CDivZ n p) (h1 : M ≠ 0 → 0 ≤ n ∧ n < M ∧ 0 < p ∧ p < M) : SpV (spQuot K) [.int n, .int p, .int M] H (.int (quot n p M)) :=
  fun H1 e Q k _ => ⟨n, p, M, rfl, hm, h0, h1, k⟩
end
/-! ### one_pivot -/
/-- the while's word -/
structure PWh (H0 : Hp) (p z : Addr) (ps : List AR) (M : Int) (wd a B R : Nat) (b : Addr) (zs bs : List AR) (H' : Hp) : Prop where
  ex : Ex H0 H'
  hz : H' z = some (.lst (adr zs))
  hb : H' b = some (.lst (adr bs))
  ne : b ≠ z
  rz : Rws H' zs
  rb : Rws H' bs
  pi : PJ M wd a B ps.length R (rws ps) (rws zs) (rws bs)
  al : ∀ x ∈ zs ++ bs, x.1 ∈ ps.map (·.1) ∨ H0 x.1 = none
  ct : zs.length + bs.length ≤ ps.length
theorem PWh.exx {H0 : Hp} {p z : Addr} {ps : List AR} {M : Int} {wd a B R : Nat} {b : Addr} {zs bs : List AR} {H' H'' : Hp} (W : PWh H0 p z ps M wd a B R b zs bs H') (e : Ex H' H'') : PWh H0 p z ps M wd a B R b zs bs H'' :=
  ⟨W.ex.trans e, e _ _ W.hz, e _ _ W.hb, W.ne, W.rz.ex e, W.rb.ex e, W.pi, W.al, W.ct⟩
theorem mem_rws {ps : List AR} {x : AR} (h : x ∈ ps) : x.2 ∈ rws ps := List.mem_map.mpr ⟨x, h, rfl⟩
theorem rws_app (ps qs : List AR) : rws (ps ++ qs) = rws ps ++ rws qs := List.map_append ..
theorem adr_app (ps qs : List AR) : adr (ps ++ qs) = adr ps ++ adr qs := List.map_append ..
theorem rws_at {ps : List AR} {i : Nat} {x : AR} (h : ps[i]? = some x) : (rws ps)[i]? = some x.2 := by unfold rws; rw [List.getElem?_map, h]; rfl
/-- the inner loop's word -/
structure PIn (H0 : Hp) (z bh b : Addr) (ps zs bs : List AR) (M : Int) (a k : Nat) (q : AR) (i : Nat) (zs' bhs : List AR) (H' : Hp) : Prop where
  ex : Ex H0 H'
  hz : H' z = some (.lst (adr zs'))
  hh : H' bh = some (.lst (adr bhs))
  hb : H' b = some (.lst (adr bs))
  rz : Rws H' zs'
  rh : Rws H' bhs
  rb : Rws H' bs
  ez : rws zs' = rws zs ++ ((((rws bs).take i).eraseIdx k).map (shortOf q.2 a M)).filter fun s => decide (en s a = 0)
  eh : rws bhs = q.2 :: ((((rws bs).take i).eraseIdx k).map (shortOf q.2 a M)).filter fun s => decide (en s a ≠ 0)
  al : ∀ x ∈ zs' ++ bhs, x.1 ∈ ps.map (·.1) ∨ H0 x.1 = none
  ct : zs'.length + bhs.length ≤ zs.length + 1 + i
theorem PIn.exx {H0 : Hp} {z bh b : Addr} {ps zs bs : List AR} {M : Int} {a k : Nat} {q : AR} {i : Nat} {zs' bhs : List AR} {H' H'' : Hp} (W : PIn H0 z bh b ps zs bs M a k q i zs' bhs H') (e : Ex H' H'') : PIn H0 z bh b ps zs bs M a k q i zs' bhs H'' :=
  ⟨W.ex.trans e, e _ _ W.hz, e _ _ W.hh, e _ _ W.hb, W.rz.ex e, W.rh.ex e, W.rb.ex e, W.ez, W.eh, W.al, W.ct⟩
def PivV (H0 H' : Hp) (ps : List AR) (v : V) (pv : Option Row) : Prop := (v = .non ∧ pv = none) ∨ ∃ (b : Addr) (r : Row), v = .ref b ∧ pv = some r ∧ H' b = some (.lst (iL r)) ∧ (b ∈ ps.map (·.1) ∨ H0 b = none)
def spPivot (K : PySem.W.Frag) : Sp := fun vs H Q _ => ∃ (p : Addr) (ps : List AR) (a wd B : Nat) (M : Int), vs = [.ref p, .int (a : Nat), .int M] ∧ SqL K H p (adr ps) ∧ Rws H ps ∧ Md M ∧ a < wd ∧ wd ≤ 1000 ∧ 1 ≤ B ∧ (2 ≤ ps.length → 6 * B ^ 3 < 2 ^ 8999) ∧ ps.length ≤ 1000 ∧
  (∀ r ∈ rws ps, r.length = wd) ∧ (∀ r ∈ rws ps, Rng M r) ∧ (M = 0 → Bnd B (rws ps)) ∧
  ∀ (t z : Addr) (zs : List AR) (v : V) (pv : Option Row) (H' : Hp), Ex H H' → H' t = some (.tup [.ref z, v]) → H' z = some (.lst (adr zs)) → H z = none → Rws H' zs → PivV H H' ps v pv → QPost M wd a B ps.length (rws ps) (rws zs) pv → (∀ x ∈ zs, x.1 ∈ ps.map (·.1) ∨ H x.1 = none) → zs.length ≤ ps.length → Q (.ref t) H'
section
variable {P : Program} {w : World} {K : PySem.W.Frag} {mg : Str → Option Value} {base : Heap} {H : Hp}
theorem ok_one_pivot (L : Lib K mg) {f : Addr} {fd : FuncData} (F : L2.Fun K "one_pivot" "one_pivot" s_one_pivot f fd) : FnOk P w K mg base CX0 3 f fd ["rows", "at", "modulus"] (spPivot K) := by
  obtain ⟨f_inverse_of, fd_inverse_of, F_inverse_of⟩ := L.inverse_of
  obtain ⟨f_least_row, fd_least_row, F_least_row⟩ := L.least_row
  obtain ⟨f_less_times, fd_less_times, F_less_times⟩ := L.less_times
  obtain ⟨f_quotient, fd_quotient, F_quotient⟩ := L.quotient
  have G_inverse_of : FnOk P w K mg base CX0 1 f_inverse_of fd_inverse_of _ (spInv K) := ok_inverse_of L F_inverse_of.F
  have G_least_row : FnOk P w K mg base CX0 1 f_least_row fd_least_row _ (spLeast K) := ok_least_row L F_least_row.F
  have G_less_times : FnOk P w K mg base CX0 1 f_less_times fd_less_times _ (spLess K) := ok_less_times L F_less_times.F
  have G_quotient : FnOk P w K mg base CX0 2 f_quotient fd_quotient _ (spQuot K) := ok_quotient L F_quotient.F
  refine F.ok sc_one_pivot (fun vs H Q E h => ?_) (fun cdv A outer s H vs Q E hr h => ?_)
  · obtain ⟨p, ps, a, wd, B, M, rfl, _⟩ := h; rfl
  · obtain ⟨p, ps, a, wd, B, M, rfl, hp, hR, hm, ha, hwd, hB, hBig, hl, hlen, hrng, hbnd, fin⟩ := h
    refine ⟨_, (pss_cons (ps_setLc (i := 4) (own := [("row", 3)]) (g := gName 3) (tt := _) rfl sc_one_pivot.nd rfl rfl (sw_true rfl rfl rfl (by decide +kernel)) (pi_list (pv 0)) (blkOk_by (own := [("row", 3)]) (N := N_one_pivot) (sc := defScope s_one_pivot) (by decide +kernel)) (fun _ _ _ _ _ => (pg_name (i := 3) sc_one_pivot.nd rfl (Or.inl rfl))) (fun _ _ _ _ _ => pts_one (pt_cmpR op_eq (pe_ix (ix_listK (K := K)) (pv 3) (pv 1) (fun _ _ => rfl)) pe_int (nomark _))) (fun _ _ _ _ _ => (pv 3)))
    (pss_cons (ps_setLc (i := 5) (own := [("row", 3)]) (g := gName 3) (tt := _) rfl sc_one_pivot.nd rfl rfl (sw_true rfl rfl rfl (by decide +kernel)) (pi_list (pv 0)) (blkOk_by (own := [("row", 3)]) (N := N_one_pivot) (sc := defScope s_one_pivot) (by decide +kernel)) (fun _ _ _ _ _ => (pg_name (i := 3) sc_one_pivot.nd rfl (Or.inl rfl))) (fun _ _ _ _ _ => pts_one (pt_cmpR op_ne (pe_ix (ix_listK (K := K)) (pv 3) (pv 1) (fun _ _ => rfl)) pe_int (nomark _))) (fun _ _ _ _ _ => (pv 3)))
    (pss_cons (ps_while PassesOwn.never (pt_cmpR op_gt (pe_callB call_len_seq (by rfl) L.len (by decide +kernel) (pa_cons (pv 5) pa_nil)) pe_int (nomark _))
      (pss_cons (ps_set (i := 6) sc_one_pivot.nd rfl (Or.inl rfl) (pe_call G_least_row (hr.mono (by decide)) (by rfl) F_least_row.g F_least_row.F.kp F_least_row.b .nil pass0 (pa_cons (pv 5) (pa_cons (pv 1) pa_nil))))
    (pss_cons (ps_set (i := 7) sc_one_pivot.nd rfl (Or.inl rfl) (pe_ix ix_list (pv 5) (pv 6) (fun _ _ => rfl)))
    (pss_cons (ps_set (i := 8) sc_one_pivot.nd rfl (Or.inl rfl) (pe_lst (pa_cons (pv 7) pa_nil)))
    (pss_cons (ps_for PassesOwn.never rfl (pi_enum (by rfl) L.enumerate (pa_cons (pv 5) pa_nil)) (pg_tup rfl (pgs_cons (pg_name (i := 9) sc_one_pivot.nd rfl (Or.inl rfl)) (pgs_cons (pg_name (i := 3) sc_one_pivot.nd rfl (Or.inl rfl)) pgs_nil)))
      (pss_one (ps_if (pt_cmpR op_ne (pv 9) (pv 6) (nomark _))
      (pss_cons (ps_set (i := 10) sc_one_pivot.nd rfl (Or.inl rfl) (pe_call G_less_times (hr.mono (by decide)) (by rfl) F_less_times.g F_less_times.F.kp F_less_times.b .nil pass0 (pa_cons (pv 3) (pa_cons (pv 7) (pa_cons (pe_call G_quotient (hr.mono (by decide)) (by rfl) F_quotient.g F_quotient.F.kp F_quotient.b .nil pass0 (pa_cons (pe_ix ix_list (pv 3) (pv 1) (fun _ _ => rfl)) (pa_cons (pe_ix ix_list (pv 7) (pv 1) (fun _ _ => rfl)) (pa_cons (pv 2) pa_nil)))) (pa_cons (pv 2) pa_nil))))))
    (pss_one (ps_if (pt_cmpR op_eq (pe_ix ix_list (pv 10) (pv 1) (fun _ _ => rfl)) pe_int (nomark _))
      (pss_one (ps_expr (pe_bm PySem.F.plainAttrs_list PySem.F.slot_list_append PySem.F.type_list_append mt_append (pv 4) (pa_cons (pv 10) pa_nil))))
      (pss_one (ps_expr (pe_bm PySem.F.plainAttrs_list PySem.F.slot_list_append PySem.F.type_list_append mt_append (pv 8) (pa_cons (pv 10) pa_nil)))))))
      pss_nil)))
    (pss_one (ps_set (i := 5) sc_one_pivot.nd rfl (Or.inl rfl) (pv 8))))))))
    (pss_cons (ps_if (pt_cmpR (op_eqD hr.units) (pv 5) (pe_lst pa_nil) (nomark _))
      (pss_one (ps_ret (pe_tup (pa_cons (pv 4) (pa_cons pe_non pa_nil)))))
      pss_nil)
    (pss_cons (ps_set (i := 7) sc_one_pivot.nd rfl (Or.inl rfl) (pe_ix ix_list (pv 5) pe_int (fun _ _ => rfl)))
    (pss_cons (ps_if (pt_cmpR op_ne (pv 2) pe_int (nomark _))
      (pss_cons (ps_set (i := 11) sc_one_pivot.nd rfl (Or.inr rfl) (pe_call G_inverse_of (hr.mono (by decide)) (by rfl) F_inverse_of.g F_inverse_of.F.kp F_inverse_of.b .nil pass0 (pa_cons (pe_ix ix_list (pv 7) (pv 1) (fun _ _ => rfl)) (pa_cons (pv 2) pa_nil))))
    (pss_one (ps_ret (pe_tup (pa_cons (pv 4) (pa_cons (pe_lc (own := [("number", 12)]) (g := gName 12) (tt := tYes) rfl sc_one_pivot.nd (pi_list (pv 7)) (blkOk_by (own := [("number", 12)]) (N := N_one_pivot) (sc := defScope s_one_pivot) (by decide +kernel)) (fun _ _ _ _ _ => (pg_name (i := 12) sc_one_pivot.nd rfl (Or.inl rfl))) (fun _ _ _ _ _ => pts_nil) (fun _ _ _ _ _ => (pe_op op_mod (pe_op op_mulW (pv 12) (pv 11)) (pv 2)))) pa_nil))))))
      pss_nil)
    (pss_cons (ps_if (pt_cmpR op_lt (pe_ix ix_list (pv 7) (pv 1) (fun _ _ => rfl)) pe_int (nomark _))
      (pss_one (ps_ret (pe_tup (pa_cons (pv 4) (pa_cons (pe_lc (own := [("number", 12)]) (g := gName 12) (tt := tYes) rfl sc_one_pivot.nd (pi_list (pv 7)) (blkOk_by (own := [("number", 12)]) (N := N_one_pivot) (sc := defScope s_one_pivot) (by decide +kernel)) (fun _ _ _ _ _ => (pg_name (i := 12) sc_one_pivot.nd rfl (Or.inl rfl))) (fun _ _ _ _ _ => pts_nil) (fun _ _ _ _ _ => (pe_op op_sub pe_int (pv 12)))) pa_nil)))))
      pss_nil)
    (pss_one (ps_ret (pe_tup (pa_cons (pv 4) (pa_cons (pv 7) pa_nil)))))))))))), ?_⟩
    have lenp : ∀ x ∈ ps, a < x.2.length := fun x hx => by rw [hlen x.2 (mem_rws hx)]; exact ha
    refine q_asgL (el_lcF (fun x => decide (en x.2 a = 0)) (ev_var rfl) hp (by omega) (fun _ => rfl) (fun x H1 e1 hx => et_test (ev_eqI (ev_ix (ev_var rfl) (ev_var rfl) (ex_l e1 (hR.seq hx)) (iL_en (lenp x hx))) ev_c)) (fun x H1 e1 hx => ev_var rfl)) fun z H1 nz e1 hz => ?_
    refine q_asgL (el_lcF (fun x => decide (en x.2 a ≠ 0)) (ev_var rfl) (ex_l e1 hp) (by omega) (fun _ => rfl) (fun x H2 e2 hx => et_test (ev_neI (ev_ix (ev_var rfl) (ev_var rfl) (ex_l (e1.trans e2) (hR.seq hx)) (iL_en (lenp x hx))) ev_c)) (fun x H1 e1 hx => ev_var rfl)) fun b H2 nb e2 hb => ?_
    have fz : ∀ pr : AR → Bool, ∀ x ∈ ps.filter pr, x ∈ ps := fun pr x hx => (List.mem_filter.mp hx).1
    have start : PWh H p z ps M wd a B (rnd B) b (ps.filter fun x => decide (en x.2 a = 0)) (ps.filter fun x => decide (en x.2 a ≠ 0)) H2 := by
      have r2 : ∀ pr : Row → Bool, rws (ps.filter fun x => pr x.2) = (rws ps).filter pr := fun pr => by unfold rws; rw [List.filter_map]; rfl
      refine ⟨e1.trans e2, e2 _ _ hz, hb, (ne_of_none hz nb).symm, (hR.ex (e1.trans e2)).sub (fz _), (hR.ex (e1.trans e2)).sub (fz _), ?_, fun x hx => .inl ?_, ?_⟩
      · rw [r2 fun r => decide (en r a = 0), r2 fun r => decide (en r a ≠ 0)]
        exact PJ.start hlen hrng hbnd (by rw [rws_len]; exact Nat.le_refl _)
      · have : x ∈ ps := (List.mem_append.mp hx).elim (fz _ x) (fz _ x)
        exact List.mem_map.mpr ⟨x, this, rfl⟩
      · have := filter_len (fun x => decide (en x.2 a = 0)) ps
        have e : (fun x : AR => !decide (en x.2 a = 0)) = fun x => decide (en x.2 a ≠ 0) := by funext x; simp
        rw [e] at this; omega
    refine q_while (fun m σ' H' => ∃ (b : Addr) (zs bs : List AR) (v3 v6 v7 v8 v9 v10 v11 v12 : Option V), σ' = [some (.ref p), some (.int (a : Nat)), some (.int M), v3, some (.ref z), some (.ref b), v6, v7, v8, v9, v10, v11, v12] ∧ PWh H p z ps M wd a B m b zs bs H')
      _ ⟨b, _, _, none, none, none, none, none, none, none, none, rfl, start⟩ ?_
    rintro m σ' H3 ⟨b, zs, bs, v3, v6, v7, v8, v9, v10, v11, v12, rfl, W⟩
    have lenz : ∀ x ∈ zs, x.2.length = wd := fun x hx => W.pi.len x.2 (List.mem_append_left _ (mem_rws hx))
    have lenb : ∀ x ∈ bs, x.2.length = wd := fun x hx => W.pi.len x.2 (List.mem_append_right _ (mem_rws hx))
    have ct := W.ct
    have mbnd : M = 0 → Bnd (6 * B ^ 3) (rws zs ++ rws bs) := fun hM => (W.pi.sz hM).bnd hB
    refine ⟨decide ((1 : Int) < ((adr bs).length : Nat)), et_test (ev_gt (ev_len (ev_var rfl) (sq_of W.hb)) ev_c), fun hb2 H4 e4 => ?_, fun hb2 H4 e4 => ?_⟩
    · -- one turn
      have h2 : 2 ≤ bs.length := by
        have := of_decide_eq_true hb2
        rw [adr_len] at this; omega
      have W4 := W.exx e4
      have hBig := hBig (by omega)
      refine ⟨fun σ2 H2 => ∃ m', m' < m ∧ ∃ (b : Addr) (zs bs : List AR) (v3 v6 v7 v8 v9 v10 v11 v12 : Option V), σ2 = [some (.ref p), some (.int (a : Nat)), some (.int M), v3, some (.ref z), some (.ref b), v6, v7, v8, v9, v10, v11, v12] ∧ PWh H p z ps M wd a B m' b zs bs H2, fun _ _ q => q, ?_⟩
      refine q_call (ea_cons (ev_var rfl) (ea_cons (ev_var rfl) ea_nil)) fun H5 e5 => ⟨b, bs, a, wd, rfl, sq_of (e5 _ _ W4.hb), W4.rb.ex e5, by omega, by omega, lenb, ha, fun k q hq hmin H6 e6 => ?_⟩
      have W6 := W4.exx (e5.trans e6)
      have hqin := List.mem_of_getElem? hq
      have hqr : q.2 ∈ rws bs := mem_rws hqin
      have hne := W.pi.b0 q.2 hqr
      refine q_asg (ev_ix (ev_var rfl) (ev_var rfl) (sq_of W6.hb) (atI_nat (adr_at hq))) fun H7 e7 => ?_
      refine q_asgL (el_lst (ea_cons (ev_var rfl) ea_nil) (by simp)) fun bh H8 nbh e8 hbh => ?_
      have W8 := W6.exx (e7.trans e8)
      have nbh7 : H7 bh = none := nbh
      have nbhH : H bh = none := fresh_back (W6.ex.trans e7) nbh
      have bhz : bh ≠ z := (ne_of_none (e7 _ _ W6.hz) nbh).symm
      have bhb : bh ≠ b := (ne_of_none (e7 _ _ W6.hb) nbh).symm
      have nzH : H z = none := nz
      have in0 : PIn H z bh b ps zs bs M a k q 0 zs [q] H8 := by
        refine ⟨W8.ex, W8.hz, hbh, W8.hb, W8.rz, fun x hx => ?_, W8.rb, by simp, by simp [rws], fun x hx => ?_, by simp⟩
        · rw [List.mem_singleton.mp hx]; exact W8.rb q hqin
        · rcases List.mem_append.mp hx with h | h
          · exact W8.al x (List.mem_append_left _ h)
          · rw [List.mem_singleton.mp h]; exact W8.al q (List.mem_append_right _ hqin)
      refine q_forE (ea_cons (ev_var rfl) ea_nil) (sq_of W8.hb) (fun i σ' H' => ∃ (zs' bhs : List AR) (v3 v9 v10 v11 v12 : Option V), σ' = [some (.ref p), some (.int (a : Nat)), some (.int M), v3, some (.ref z), some (.ref b), some (.int (k : Nat)), some (.ref q.1), some (.ref bh), v9, v10, v11, v12] ∧ PIn H z bh b ps zs bs M a k q i zs' bhs H')
        (fun H9 e9 => ⟨zs, [q], _, _, _, _, _, rfl, in0.exx e9⟩) (fun i σ' H' _ ⟨_, _, _, _, _, _, _, _, I⟩ => sq_of I.hb) ?_ ?_
      · rintro i x σ' H' H'' hi ⟨zs', bhs, v3, v9, v10, v11, v12, rfl, I⟩ e9
        obtain ⟨y, hy, rfl⟩ := adr_get hi
        have hyin := List.mem_of_getElem? hy
        have hyr : y.2 ∈ rws bs := mem_rws hyin
        have I9 := I.exx e9
        have hin : i < bs.length := (List.getElem?_eq_some_iff.mp hy).1
        have et := erase_take (k := k) (rws_at hy)
        have cti := I.ct
        have kne : (decide ((i : Int) ≠ (k : Int)) = true) ↔ ¬ i = k := by
          constructor
          · intro h e; subst e; simp at h
          · intro h; exact decide_eq_true (by omega)
        refine s_when (et_test (ev_neI (ev_var rfl) (ev_var rfl))) (fun hb3 H10 e10 => ?_) (fun hb3 H10 e10 => ?_)
        · have hik : ¬ i = k := kne.mp hb3
          rw [if_neg hik] at et
          have I10 := I9.exx e10
          have exA := I10.ex
          -- the sizes
          have dz : M = 0 → CDivZ (en y.2 a) (en q.2 a) := fun hM => cdivz (b := 8999) _ hne (Nat.lt_of_le_of_lt (mbnd hM q.2 (List.mem_append_right _ hqr) a) hBig) (by decide) (by decide)
          have dM : M ≠ 0 → 0 ≤ en y.2 a ∧ en y.2 a < M ∧ 0 < en q.2 a ∧ en q.2 a < M := fun hM => by
            have h1 := W.pi.rng y.2 (List.mem_append_right _ hyr) hM a
            have h2 := W.pi.rng q.2 (List.mem_append_right _ hqr) hM a
            omega
          have mulOk : ∀ c ∈ q.2, CMulW (quot (en y.2 a) (en q.2 a) M) c := fun c hc => by
            obtain ⟨j, hj⟩ := List.getElem?_of_mem hc
            have ec := en_get hj
            by_cases hM : M = 0
            · have hq1 : (quot (en y.2 a) (en q.2 a) M).natAbs < 2 ^ 8999 := by
                unfold quot; rw [if_pos hM]
                exact Nat.lt_of_le_of_lt (Nat.le_trans (natAbs_fdiv hne) (mbnd hM y.2 (List.mem_append_right _ hyr) a)) hBig
              have hc1 : c.natAbs < 2 ^ 8999 := by
                rw [← ec]; exact Nat.lt_of_le_of_lt (mbnd hM q.2 (List.mem_append_right _ hqr) j) hBig
              exact wide_mul hq1 hc1 (by decide) (by decide) (by decide)
            · have hM2 := hm.pos hM
              have h2 := W.pi.rng q.2 (List.mem_append_right _ hqr) hM j
              have h3 : 0 ≤ quot (en y.2 a) (en q.2 a) M ∧ quot (en y.2 a) (en q.2 a) M < M := by
                unfold quot; rw [if_neg hM]
                exact ⟨Int.emod_nonneg _ hM, Int.emod_lt_of_pos _ (by omega)⟩
              rw [← ec]
              exact CMulW_small (by omega) (by omega)
          have ly : y.2.length = wd := lenb y hyin
          have lq : q.2.length = wd := lenb q hqin
          refine q_asgL (el_call (ea_cons (ev_var rfl) (ea_cons (ev_var rfl) (ea_cons (ev_call (z := .int (quot (en y.2 a) (en q.2 a) M)) (ea_cons (ev_ix (ev_var rfl) (ev_var rfl) (I10.rb.seq hyin) (iL_en (by rw [ly]; exact ha))) (ea_cons (ev_ix (ev_var rfl) (ev_var rfl) (I10.rb.seq hqin) (iL_en (by rw [lq]; exact ha))) (ea_cons (ev_var rfl) ea_nil))) (quot_spv hm dz dM)) (ea_cons (ev_var rfl) ea_nil)))) (less_spl (I10.rb.seq hyin) (I10.rb.seq hqin) (by rw [ly]; exact hwd) hm.nonneg mulOk)) fun sh H11 nsh e11 hsh => ?_
          have esh : lessT y.2 q.2 (quot (en y.2 a) (en q.2 a) M) M = shortOf q.2 a M y.2 := rfl
          rw [esh] at hsh
          have I11 := I10.exx e11
          have lsh : (shortOf q.2 a M y.2).length = wd := (lessT_len (by rw [ly, lq])).trans ly
          have nshH : H sh = none := fresh_back I10.ex nsh
          have lenz' : ∀ x ∈ zs', 0 < x.2.length := fun x hx => by
            have h1 : x.2 ∈ rws zs' := mem_rws hx
            rw [I.ez] at h1
            rcases List.mem_append.mp h1 with h | h
            · rw [W.pi.len x.2 (List.mem_append_left _ h)]; omega
            · obtain ⟨r, hr, e⟩ := List.mem_map.mp (List.mem_filter.mp h).1
              have hrb : r ∈ rws bs := List.mem_of_mem_take (List.mem_of_mem_eraseIdx hr)
              rw [← e, show (shortOf q.2 a M r).length = r.length from lessT_len (by rw [lq]; exact W.pi.len r (List.mem_append_right _ hrb)), W.pi.len r (List.mem_append_right _ hrb)]; omega
          have lenh' : ∀ x ∈ bhs, 0 < x.2.length := fun x hx => by
            have h1 : x.2 ∈ rws bhs := mem_rws hx
            rw [I.eh] at h1
            rcases List.mem_cons.mp h1 with h | h
            · rw [h, lq]; omega
            · obtain ⟨r, hr, e⟩ := List.mem_map.mp (List.mem_filter.mp h).1
              have hrb : r ∈ rws bs := List.mem_of_mem_take (List.mem_of_mem_eraseIdx hr)
              rw [← e, show (shortOf q.2 a M r).length = r.length from lessT_len (by rw [lq]; exact W.pi.len r (List.mem_append_right _ hrb)), W.pi.len r (List.mem_append_right _ hrb)]; omega
          have lenb' : ∀ x ∈ bs, 0 < x.2.length := fun x hx => by rw [lenb x hx]; omega
          refine s_if (et_test (ev_eqI (ev_ix (ev_var rfl) (ev_var rfl) (sq_of hsh) (iL_en (by rw [lsh]; exact ha))) ev_c)) (fun hb4 H12 e12 => ?_) (fun hb4 H12 e12 => ?_)
          · have h0 := of_decide_eq_true hb4
            refine s_app (I11.exx e12).hz (ev_var rfl) (ev_var rfl) (by rw [adr_len]; omega) fun H13 e13 => ?_
            have J := I11.exx (e12.trans e13)
            have hsh13 := (e12.trans e13) _ _ hsh
            have shz : sh ≠ z := by
              intro e; rw [e] at hsh13; rw [J.hz] at hsh13
              injection hsh13 with h1; injection h1 with h1
              exact iL_ne_adr (by rw [lsh]; omega) h1.symm
            refine ⟨zs' ++ [(sh, shortOf q.2 a M y.2)], bhs, _, _, _, _, _, rfl, ?_⟩
            refine ⟨Ex.mut J.ex nzH, by rw [upd_same, adr_app]; rfl, by rw [upd_ne bhz]; exact J.hh, by rw [upd_ne W.ne]; exact J.hb, ?_, J.rh.upd (J.rh.ne lenh' J.hz), J.rb.upd (J.rb.ne lenb' J.hz), ?_, ?_, fun x hx => ?_, ?_⟩
            · refine Rws.append (J.rz.upd (J.rz.ne lenz' J.hz)) fun x hx => ?_
              rw [List.mem_singleton.mp hx, upd_ne shz]; exact hsh13
            · rw [rws_app, J.ez, et, List.map_append, List.filter_append, ← List.append_assoc]
              congr 1
              show [shortOf q.2 a M y.2] = List.filter _ [shortOf q.2 a M y.2]
              rw [List.filter_cons_of_pos (by simpa using h0)]; rfl
            · rw [J.eh, et, List.map_append, List.filter_append]
              congr 1
              show _ = _ ++ List.filter _ [shortOf q.2 a M y.2]
              rw [List.filter_cons_of_neg (by simpa using h0)]; simp
            · rcases List.mem_append.mp hx with h | h
              · rcases List.mem_append.mp h with h | h
                · exact J.al x (List.mem_append_left _ h)
                · rw [List.mem_singleton.mp h]; exact .inr nshH
              · exact J.al x (List.mem_append_right _ h)
            · rw [List.length_append, List.length_singleton]; omega
          · have h0 := of_decide_eq_false hb4
            refine s_app (I11.exx e12).hh (ev_var rfl) (ev_var rfl) (by rw [adr_len]; omega) fun H13 e13 => ?_
            have J := I11.exx (e12.trans e13)
            have hsh13 := (e12.trans e13) _ _ hsh
            have shz : sh ≠ bh := by
              intro e; rw [e] at hsh13; rw [J.hh] at hsh13
              injection hsh13 with h1; injection h1 with h1
              exact iL_ne_adr (by rw [lsh]; omega) h1.symm
            refine ⟨zs', bhs ++ [(sh, shortOf q.2 a M y.2)], _, _, _, _, _, rfl, ?_⟩
            refine ⟨Ex.mut J.ex nbhH, by rw [upd_ne bhz.symm]; exact J.hz, by rw [upd_same, adr_app]; rfl, by rw [upd_ne bhb.symm]; exact J.hb, J.rz.upd (J.rz.ne lenz' J.hh), ?_, J.rb.upd (J.rb.ne lenb' J.hh), ?_, ?_, fun x hx => ?_, ?_⟩
            · refine Rws.append (J.rh.upd (J.rh.ne lenh' J.hh)) fun x hx => ?_
              rw [List.mem_singleton.mp hx, upd_ne shz]; exact hsh13
            · rw [J.ez, et, List.map_append, List.filter_append]
              congr 1
              show _ = _ ++ List.filter _ [shortOf q.2 a M y.2]
              rw [List.filter_cons_of_neg (by simpa using h0)]; simp
            · rw [rws_app, J.eh, et, List.map_append, List.filter_append]
              show q.2 :: (_ ++ [shortOf q.2 a M y.2]) = q.2 :: (_ ++ List.filter _ [shortOf q.2 a M y.2])
              rw [List.filter_cons_of_pos (by simpa using h0)]; rfl
            · rcases List.mem_append.mp hx with h | h
              · exact J.al x (List.mem_append_left _ h)
              · rcases List.mem_append.mp h with h | h
                · exact J.al x (List.mem_append_right _ h)
                · rw [List.mem_singleton.mp h]; exact .inr nshH
            · rw [List.length_append, List.length_singleton]; omega
        · have hik : i = k := by
            rcases Decidable.em (i = k) with h | h
            · exact h
            · rw [kne.mpr h] at hb3; cases hb3
          rw [if_pos hik] at et
          have J := I9.exx e10
          exact ⟨zs', bhs, _, _, _, _, _, rfl, J.ex, J.hz, J.hh, J.hb, J.rz, J.rh, J.rb, by rw [et]; exact J.ez, by rw [et]; exact J.eh, J.al, by omega⟩
      · rintro σ' H' ⟨zs', bhs, v3, v9, v10, v11, v12, rfl, I⟩
        rw [adr_len] at I
        have et : (rws bs).take bs.length = rws bs := List.take_of_length_le (by rw [rws_len]; exact Nat.le_refl _)
        have ez := I.ez
        have eh := I.eh
        rw [et] at ez eh
        have hminR : ∀ r ∈ rws bs, (en q.2 a).natAbs ≤ (en r a).natAbs := fun r hr => by
          obtain ⟨x, hx, rfl⟩ := List.mem_map.mp hr
          exact hmin x hx
        obtain ⟨m', rfl⟩ : ∃ m', m = m' + 1 := by
          cases m with
          | zero => have := W.pi.fin; rw [rws_len] at this; omega
          | succ m' => exact ⟨m', rfl⟩
        have S1 := W.pi.turn hm hB (by rw [rws_len]; exact h2) (rws_at hq) hminR
        have ez' : rws zs' = zerosOf (rws zs) (rws bs) k q.2 a M := ez
        have eh' : rws bhs = behindOf (rws bs) k q.2 a M := eh
        rw [← ez', ← eh'] at S1
        refine s_asg (ev_var rfl) fun H9 e9 => ?_
        refine ⟨m', Nat.lt_succ_self _, bh, zs', bhs, _, _, _, _, _, _, _, _, rfl, ?_⟩
        have J := I.exx e9
        refine ⟨J.ex, J.hz, J.hh, bhz, J.rz, J.rh, S1, J.al, ?_⟩
        have l1 := congrArg List.length ez
        have l2 := congrArg List.length eh
        rw [rws_len, List.length_append, rws_len] at l1
        rw [rws_len, List.length_cons] at l2
        have l3 := filter_len (fun s => decide (en s a = 0)) (((rws bs).eraseIdx k).map (shortOf q.2 a M))
        have e3 : (fun s : Row => !decide (en s a = 0)) = fun s => decide (en s a ≠ 0) := by funext s; simp
        rw [e3, List.length_map, List.length_eraseIdx, if_pos (by rw [rws_len]; exact (List.getElem?_eq_some_iff.mp hq).1), rws_len] at l3
        omega
    · -- behind the while
      have h1 : bs.length ≤ 1 := by
        have := of_decide_eq_false hb2
        rw [adr_len] at this; omega
      have W4 := W.exx e4
      have nzH : H z = none := nz
      refine q_when (b := decide (bs = [])) (et_test (ev_opL (xs := adr []) (ev_var rfl) (el_lst ea_nil (by decide)) fun p5 H5 h5 e5 => ?_)) (fun hb3 H5 e5 => ?_) (fun hb3 H5 e5 => ?_)
      · intro H6 e6 Q6 q6
        refine ⟨dR (rws bs), dR (rws []), dpR (sq_of ((e5.trans e6) _ _ W4.hb)) (W4.rb.ex (e5.trans e6)), dpR (sq_of (e6 _ _ h5)) Rws.nil, shR _, shR _, ?_⟩
        have ee : PyData.eqv (dR (rws bs)) (dR (rws [])) = decide (bs = []) := by
          cases bs with
          | nil => simp [dR, rws, PyData.eqv, PyData.eqvAll]
          | cons x xs => simp [dR, rws, PyData.eqv, PyData.eqvAll]
        rw [ee]; exact q6 H6 (Ex.refl H6)
      · have hbs := of_decide_eq_true hb3
        subst hbs
        refine s_retU (eu_tup (ea_cons (ev_var rfl) (ea_cons ev_c ea_nil)) (by simp)) fun t H6 nt e6 ht => ?_
        have W6 := W4.exx (e5.trans e6)
        exact fin t z zs .non none H6 W6.ex ht W6.hz nzH W6.rz (.inl ⟨rfl, rfl⟩) (W6.pi.none hB) (fun x hx => W6.al x (List.mem_append_left _ hx)) (by simp at ct; exact ct)
      · obtain ⟨q, rfl⟩ : ∃ q, bs = [q] := by
          have := of_decide_eq_false hb3
          match bs, h1, this with
          | [], _, h => exact absurd rfl h
          | [q], _, _ => exact ⟨q, rfl⟩
          | _ :: _ :: _, h, _ => simp at h
        have W5 := W4.exx e5
        have lq : q.2.length = wd := lenb q (List.mem_singleton.mpr rfl)
        have hqin : q ∈ [q] := List.mem_singleton.mpr rfl
        have post := W5.pi.one hm hB
        have hne := W.pi.b0 q.2 (List.mem_singleton.mpr rfl)
        have hqr : q.2 ∈ rws zs ++ rws [q] := List.mem_append_right _ (List.mem_singleton.mpr rfl)
        have alz : ∀ x ∈ zs, x.1 ∈ ps.map (·.1) ∨ H x.1 = none := fun x hx => W5.al x (List.mem_append_left _ hx)
        have ctz : zs.length ≤ ps.length := by omega
        refine q_asg (ev_ix (ev_var rfl) ev_c (sq_of W5.hb) (atI_nat (j := 0) rfl)) fun H6 e6 => ?_
        have W6 := W5.exx e6
        have evAt : ∀ {σ : L2.St} {H' : Hp}, Ex H6 H' → σ[7]? = some (some (.ref q.1)) → σ[1]? = some (some (.int (a : Nat))) → Ev (tOp (rIxL K) (tVar 7) (tVar 1)) σ H' (.int (en q.2 a)) := fun e h1 h2 => ev_ix (ev_var h1) (ev_var h2) (ex_l e (W6.rb.seq hqin)) (iL_en (by rw [lq]; exact ha))
        refine q_when (et_test (ev_neI (ev_var rfl) ev_c)) (fun hb4 H7 e7 => ?_) (fun hb4 H7 e7 => ?_)
        · have hM := of_decide_eq_true hb4
          have hM2 := hm.pos hM
          have hq2 := W.pi.rng q.2 hqr hM a
          obtain ⟨i1, i2, i3⟩ := inv_ok hm hM (show 0 < en q.2 a by omega) hq2.2
          refine q_asg (ev_call (z := .int (inv (en q.2 a) M)) (ea_cons (evAt e7 rfl rfl) (ea_cons (ev_var rfl) ea_nil)) (fun H8 e8 Q8 q8 _ => ⟨_, M, rfl, by omega, by omega, fun H9 e9 => q8 H9 e9⟩)) fun H8 e8 => ?_
          refine s_retPL (ev_var rfl) (el_lcI (fun x => x * inv (en q.2 a) M % M) (ev_var rfl) ((W6.exx (e7.trans e8)).rb.seq hqin) (by rw [lq]; omega) (fun _ => rfl) fun x H9 e9 hx => ev_mod (ev_mulW (ev_var rfl) (ev_var rfl) ?_) (ev_var rfl) (by omega)) fun t pq H9 nt npq e9 hpq ht => ?_
          · obtain ⟨j, hj⟩ := List.getElem?_of_mem hx
            have h2 := W.pi.rng q.2 hqr hM j
            rw [en_get hj] at h2
            exact CMulW_small (by omega) (by omega)
          · have W9 := W6.exx ((e7.trans e8).trans e9)
            refine fin t z zs _ _ H9 W9.ex ht W9.hz nzH W9.rz (.inr ⟨pq, _, rfl, rfl, ?_, .inr (fresh_back ((W6.exx (e7.trans e8))).ex npq)⟩) post alz ctz
            unfold normP; rw [if_pos hM]; exact hpq
        · have hM : M = 0 := by have := of_decide_eq_false hb4; omega
          refine q_when (et_test (ev_lt (evAt e7 rfl rfl) ev_c)) (fun hb5 H8 e8 => ?_) (fun hb5 H8 e8 => ?_)
          · have hn := of_decide_eq_true hb5
            refine s_retPL (ev_var rfl) (el_lcI (fun x => 0 - x) (ev_var rfl) ((W6.exx (e7.trans e8)).rb.seq hqin) (by rw [lq]; omega) (fun _ => rfl) fun x H9 e9 hx => ev_sub ev_c (ev_var rfl)) fun t pq H9 nt npq e9 hpq ht => ?_
            have W9 := W6.exx ((e7.trans e8).trans e9)
            refine fin t z zs _ _ H9 W9.ex ht W9.hz nzH W9.rz (.inr ⟨pq, _, rfl, rfl, ?_, .inr (fresh_back ((W6.exx (e7.trans e8))).ex npq)⟩) post alz ctz
            unfold normP; rw [if_neg (by simpa using hM), if_pos hn]; exact hpq
          · have hn := of_decide_eq_false hb5
            refine s_retU (eu_tup (ea_cons (ev_var rfl) (ea_cons (ev_var rfl) ea_nil)) (by simp)) fun t H9 nt e9 ht => ?_
            have W9 := W6.exx ((e7.trans e8).trans e9)
            refine fin t z zs _ _ H9 W9.ex ht W9.hz nzH W9.rz (.inr ⟨q.1, _, rfl, rfl, ?_, W9.al q (List.mem_append_right _ hqin)⟩) post alz ctz
            unfold normP; rw [if_neg (by simpa using hM), if_neg hn]; exact W9.rb q hqin
end
end Mine
set_option Elab.async false
set_option linter.all false
set_option maxRecDepth 100000
set_option maxHeartbeats 4000000
namespace Mine
open PySem PySem.Spec PyProof.Rows L2 Evl
/-- a new list of new rows -/
def EvR (te : TE) (σ : L2.St) (H : Hp) (rs : List Row) : Prop := ∀ H1, Ex H H1 → ∀ Q : VK, (∀ (p : Addr) (qs : List AR) (H2 : Hp), H1 p = none → Ex H1 H2 → H2 p = some (.lst (adr qs)) → Rws H2 qs → rws qs = rs → (∀ x ∈ qs, H1 x.1 = none) → (∀ x ∈ qs, x.1 ≠ p) → Q (.ref p) H2) → te σ H1 Q
section
variable {K : PySem.W.Frag} {σ : L2.St} {H H' : Hp} {ta tb te tx tl : TE} {t u : TT} {x y z v w1 : V} {D : Ends} {tu tw tz : TS}
theorem el_lcR {a : Addr} {ps : List AR} {j : Nat} {vs : List Nat} (g : Row → Row) (h : Ev tl σ H (.ref a)) (hx : SqL K H a (adr ps)) (hz : ps.length ≤ 40000) (hw : ∀ x, wipe ((wipe σ vs).set j (some x)) vs = wipe σ vs)
    (he : ∀ (x : AR) H1, Ex H H1 → x ∈ ps → EvL te ((wipe σ vs).set j (some (.ref x.1))) H1 (iL (g x.2))) : EvR (tLc (iList K tl) (gName j) tYes te vs) σ H ((rws ps).map g) := fun H0 e0 Q q => h H0 e0 _ fun H1 e1 => ⟨a, rfl, ⟨adr ps, ex_l (e0.trans e1) hx⟩, fun Dl hD =>
  lc_list (xs := adr ps) (fun i H' => ∃ qs : List AR, Ex H1 H' ∧ H' Dl = some (.lst (adr qs)) ∧ Rws H' qs ∧ rws qs = ((rws ps).take i).map g ∧ (∀ x ∈ qs, H1 x.1 = none) ∧ ∀ x ∈ qs, x.1 ≠ Dl) ⟨[], Ex.new hD, upd_same, Rws.nil, by simp [rws], fun x h => absurd h (by simp), fun x h => absurd h (by simp)⟩
    (fun i H' _ ⟨_, e, _⟩ => ex_l ((e0.trans e1).trans e) hx)
    (fun i x H' hi ⟨qs, e, hl, hr, hq, hn, hne⟩ => by
      obtain ⟨y, hy, rfl⟩ := adr_get hi
      refine ⟨hw _, yes_turn ?_⟩
      refine he y H1 (e0.trans e1) (List.mem_of_getElem? hy) _ e _ fun p H2 np e2 h2 => ?_
      have hl2 := e2 _ _ hl
      have pne : p ≠ Dl := (ne_of_none hl np).symm
      have cnt : qs.length ≤ i := by
        have := congrArg List.length hq
        rw [rws_len, List.length_map, List.length_take] at this; omega
      have hi2 := (List.getElem?_eq_some_iff.mp hy).1
      refine ⟨_, hl2, sz_lt (by rw [adr_len]; omega), qs ++ [(p, g y.2)], Ex.mut (e.trans e2) hD, by rw [upd_same, adr_app]; rfl, ?_, ?_, ?_, ?_⟩
      · refine Rws.append ((hr.ex e2).upd hne) fun z hz => ?_
        rw [List.mem_singleton.mp hz, upd_ne pne]; exact h2
      · rw [rws_app, hq, List.take_add_one, rws_at hy, List.map_append]; rfl
      · intro z hz
        rcases List.mem_append.mp hz with h | h
        · exact hn z h
        · rw [List.mem_singleton.mp h]; exact fresh_back e np
      · intro z hz
        rcases List.mem_append.mp hz with h | h
        · exact hne z h
        · rw [List.mem_singleton.mp h]; exact pne)
    (fun H' ⟨qs, e, hl, hr, hq, hn, hne⟩ => by
      rw [adr_len, List.take_of_length_le (by rw [rws_len]; exact Nat.le_refl _)] at hq
      exact q Dl qs H' (fresh_back e1 hD) (e1.trans e) hl hr hq (fun x hx => fresh_back e1 (hn x hx)) hne)⟩
theorem q_asgR {i : Nat} {rs : List Row} (h : EvR te σ H rs) (k : ∀ (p : Addr) (qs : List AR) (H2 : Hp), H p = none → Ex H H2 → H2 p = some (.lst (adr qs)) → Rws H2 qs → rws qs = rs → (∀ x ∈ qs, H x.1 = none) → (∀ x ∈ qs, x.1 ≠ p) → tz D (σ.set i (some (.ref p))) H2) : tSeq (tAsg te (gName i)) tz D σ H := h H (Ex.refl H) _ k
theorem s_asgR {i : Nat} {rs : List Row} (h : EvR te σ H rs) (k : ∀ (p : Addr) (qs : List AR) (H2 : Hp), H p = none → Ex H H2 → H2 p = some (.lst (adr qs)) → Rws H2 qs → rws qs = rs → (∀ x ∈ qs, H x.1 = none) → (∀ x ∈ qs, x.1 ≠ p) → D.nx (σ.set i (some (.ref p))) H2) : tAsg te (gName i) D σ H := h H (Ex.refl H) _ k
theorem s_retR {rs : List Row} (h : EvR te σ H rs) (k : ∀ (p : Addr) (qs : List AR) (H2 : Hp), H p = none → Ex H H2 → H2 p = some (.lst (adr qs)) → Rws H2 qs → rws qs = rs → (∀ x ∈ qs, H x.1 = none) → (∀ x ∈ qs, x.1 ≠ p) → D.rt (.ref p) H2) : tRet te D σ H := h H (Ex.refl H) _ k
theorem rv_notN {x : V} : RV (fun x y H Q => y = .non ∧ Q (.bl (!decide (x = .non))) H) x .non H (.bl (!decide (x = .non))) := fun H1 _ _ q => ⟨rfl, q H1 (Ex.refl H1)⟩
theorem rv_isN {x : V} : RV (fun x y H Q => y = .non ∧ Q (.bl (decide (x = .non))) H) x .non H (.bl (decide (x = .non))) := fun H1 _ _ q => ⟨rfl, q H1 (Ex.refl H1)⟩
theorem plain_spl {p : Addr} {r : Row} {M : Int} (hp : SqL K H p (iL r)) (hl : r.length ≤ 1000) (hM : 0 ≤ M) : SpL (spPlain K) [.ref p, .int M] H (iL (plainRow r M)) := fun H1 e Q k _ => ⟨p, r, M, rfl, ex_l e hp, hl, hM, k⟩
end
/-! ### the bounds of the columns -/
theorem tJ_eq (B : Nat) : ∀ e, tJ B e + 2 = 2 * (B + 1) ^ e
  | 0 => rfl
  | e + 1 => by
    have := tJ_eq B e
    rw [Nat.pow_succ, ← Nat.mul_assoc, ← this]
    simp only [tJ, Nat.add_mul, Nat.mul_add]
    omega
theorem two_pow {n m : Nat} (h : n + 1 ≤ m) : 2 * 2 ^ n ≤ 2 ^ m := by
  rw [← Nat.pow_succ']; exact Nat.pow_le_pow_right (by decide) h
theorem pow_bound {B e k : Nat} (hB : B < 2 ^ k) (he : e ≤ 6) : (B + 1) ^ e ≤ 2 ^ (k * 6) := by
  rw [Nat.pow_mul]
  exact Nat.le_trans (Nat.pow_le_pow_left hB e) (Nat.pow_le_pow_right (Nat.pow_pos (by decide)) he)
theorem tJ_lt' {B e k m : Nat} (hB : B < 2 ^ k) (he : e ≤ 6) (hm : k * 6 + 1 ≤ m) : tJ B e < 2 ^ m := by
  have h1 := tJ_eq B e
  have h2 := pow_bound hB he
  have h3 := two_pow hm
  omega
theorem tJ_lt {B e : Nat} (hB : B < 2 ^ 8999) (he : e ≤ 6) : tJ B e < 2 ^ 54000 := tJ_lt' hB he (by decide)
theorem TJ.from {M : Int} {w c β n : Nat} {tr : Bool} {R0 R1 : List Row} {L : List (Nat × Row)} {left : List Row} (T : TJ M w c β n tr R0 L left) (h : SameL M R1 R0) : TJ M w c β n tr R1 L left :=
  ⟨T.ech, T.lt, h.trans T.same, T.lenL, T.lenR, T.rngL, T.rngR, T.zero, T.red, T.bL, T.piv, T.bT, T.cnt, T.sing⟩
theorem bJ_le {tr : Bool} {β n e : Nat} (hβ : 1 ≤ β) (he : e ≤ n) : bJ tr β n e ≤ bJ tr β n n := bJ_mono hβ he
theorem plainRow_len (r : Row) (M : Int) : (plainRow r M).length = r.length := by unfold plainRow; split <;> simp
theorem plainRow_rng {r : Row} {M : Int} (hm : Md M) : Rng M (plainRow r M) := fun hM j => by
  unfold plainRow; rw [if_neg hM, en_map (by simp)]
  have := hm.pos hM
  exact ⟨Int.emod_nonneg _ hM, Int.emod_lt_of_pos _ (by omega)⟩
theorem plainRow_dvd (r : Row) (M : Int) (j : Nat) : M ∣ en (plainRow r M) j - en r j := by
  unfold plainRow
  split
  · rw [Int.sub_self]; exact Int.dvd_zero M
  · rw [en_map (by simp)]; exact mod_dvd _ M
theorem plainRow_0 (r : Row) : plainRow r 0 = r := if_pos rfl
theorem plainRow_same {M : Int} (rs : List Row) : SameL M rs (rs.map fun r => plainRow r M) := SameL.mods fun r _ j => plainRow_dvd r M j
/-! ### split_rows, hermite_rows -/
def spSplit (K : PySem.W.Frag) : Sp := fun vs H Q _ => ∃ (p : Addr) (ps : List AR) (wd W β : Nat) (M : Int), vs = [.ref p, .int (wd : Nat), .int M] ∧ SqL K H p (adr ps) ∧ Rws H ps ∧ Md M ∧ wd ≤ W ∧ W ≤ 1000 ∧ ps.length ≤ 6 ∧ 1 ≤ β ∧ gI β (ps.length - 1) < 2 ^ 8999 ∧
  (∀ r ∈ rws ps, r.length = W) ∧ (M = 0 → Bnd β (rws ps)) ∧
  ∀ (t a l : Addr) (ts zs : List AR) (L : List (Nat × Row)) (H' : Hp), Ex H H' → H' t = some (.tup [.ref a, .ref l]) → H' a = some (.lst (adr ts)) → H' l = some (.lst (adr zs)) → H a = none → Rws H' ts → Rws H' zs → rws ts = L.map (·.2) → TJ M W wd β ps.length false (rws ps) L (rws zs) →
    (∀ x ∈ zs ++ ts, H x.1 = none) → (∀ x ∈ ts, x.1 ≠ a) → Q (.ref t) H'
section
variable {P : Program} {w : World} {K : PySem.W.Frag} {mg : Str → Option Value} {base : Heap} {H : Hp}
theorem ok_split_rows (L : Lib K mg) {f : Addr} {fd : FuncData} (F : L2.Fun K "split_rows" "split_rows" s_split_rows f fd) : FnOk P w K mg base CX0 4 f fd ["rows", "width", "modulus"] (spSplit K) := by
  obtain ⟨f_less_times, fd_less_times, F_less_times⟩ := L.less_times
  obtain ⟨f_one_pivot, fd_one_pivot, F_one_pivot⟩ := L.one_pivot
  obtain ⟨f_plain_row, fd_plain_row, F_plain_row⟩ := L.plain_row
  have G_less_times : FnOk P w K mg base CX0 1 f_less_times fd_less_times _ (spLess K) := ok_less_times L F_less_times.F
  have G_one_pivot : FnOk P w K mg base CX0 3 f_one_pivot fd_one_pivot _ (spPivot K) := ok_one_pivot L F_one_pivot.F
  have G_plain_row : FnOk P w K mg base CX0 1 f_plain_row fd_plain_row _ (spPlain K) := ok_plain_row L F_plain_row.F
  refine F.ok sc_split_rows (fun vs H Q E h => ?_) (fun cdv A outer s H vs Q E hr h => ?_)
  · obtain ⟨p, ps, wd, W, β, M, rfl, _⟩ := h; rfl
  · obtain ⟨p, ps, wd, W, β, M, rfl, hp, hR, hm, hwW, hW, hl, hβ, hg, hlen, hbnd, fin⟩ := h
    refine ⟨_, (pss_cons (ps_setLc (i := 3) (own := [("row", 7)]) (g := gName 7) (tt := tYes) rfl sc_split_rows.nd rfl rfl (sw_true rfl rfl rfl (by decide +kernel)) (pi_list (pv 0)) (blkOk_by (own := [("row", 7)]) (N := N_split_rows) (sc := defScope s_split_rows) (by decide +kernel)) (fun _ _ _ _ _ => (pg_name (i := 7) sc_split_rows.nd rfl (Or.inl rfl))) (fun _ _ _ _ _ => pts_nil) (fun _ _ _ _ _ => (pe_call G_plain_row (hr.mono (by decide)) (by rfl) F_plain_row.g F_plain_row.F.kp F_plain_row.b .nil pass0 (pa_cons (pv 7) (pa_cons (pv 2) pa_nil)))))
    (pss_cons (ps_set (i := 4) sc_split_rows.nd rfl (Or.inl rfl) (pe_lst pa_nil))
    (pss_cons (ps_for PassesOwn.never rfl (pi_range1 (by rfl) L.range (pa_cons (pv 1) pa_nil)) (pg_name (i := 5) sc_split_rows.nd rfl (Or.inr rfl))
      (pss_cons (ps_asg (pe_call G_one_pivot (hr.mono (by decide)) (by rfl) F_one_pivot.g F_one_pivot.F.kp F_one_pivot.b .nil pass0 (pa_cons (pv 3) (pa_cons (pv 5) (pa_cons (pv 2) pa_nil)))) (pg_tup rfl (pgs_cons (pg_name (i := 3) sc_split_rows.nd rfl (Or.inl rfl)) (pgs_cons (pg_name (i := 6) sc_split_rows.nd rfl (Or.inr rfl)) pgs_nil))))
    (pss_one (ps_if (pt_cmpR op_notN (pv 6) pe_non (nomark _))
      (pss_cons (ps_setLc (i := 4) (own := [("row", 7)]) (g := gName 7) (tt := tYes) rfl sc_split_rows.nd rfl rfl (sw_true rfl rfl rfl (by decide +kernel)) (pi_list (pv 4)) (blkOk_by (own := [("row", 7)]) (N := N_split_rows) (sc := defScope s_split_rows) (by decide +kernel)) (fun _ _ _ _ _ => (pg_name (i := 7) sc_split_rows.nd rfl (Or.inl rfl))) (fun _ _ _ _ _ => pts_nil) (fun _ _ _ _ _ => (pe_call G_less_times (hr.mono (by decide)) (by rfl) F_less_times.g F_less_times.F.kp F_less_times.b .nil pass0 (pa_cons (pv 7) (pa_cons (pv 6) (pa_cons (pe_op op_fdivZ (pe_ix (ix_listK (K := K)) (pv 7) (pv 5) (fun _ _ => rfl)) (pe_ix (ix_listK (K := K)) (pv 6) (pv 5) (fun _ _ => rfl))) (pa_cons (pv 2) pa_nil)))))))
    (pss_one (ps_expr (pe_bm PySem.F.plainAttrs_list PySem.F.slot_list_append PySem.F.type_list_append mt_append (pv 4) (pa_cons (pv 6) pa_nil)))))
      pss_nil))))
    (pss_one (ps_ret (pe_tup (pa_cons (pv 4) (pa_cons (pv 3) pa_nil)))))))), ?_⟩
    refine q_asgR (el_lcR (fun r => plainRow r M) (ev_var rfl) hp (by omega) (fun _ => rfl) fun x H1 e1 hx => el_call (ea_cons (ev_var rfl) (ea_cons (ev_var rfl) ea_nil)) (plain_spl (ex_l e1 (hR.seq hx)) (by rw [hlen _ (mem_rws hx)]; omega) hm.nonneg)) fun l ls H1 nl e1 hl1 hr1 eqls nls nel => ?_
    refine q_asgL (el_lst ea_nil (by simp)) fun t H2 nt e2 ht => ?_
    have len1 : ∀ r ∈ rws ls, r.length = W := fun r hr => by
      rw [eqls] at hr
      obtain ⟨s, hs, rfl⟩ := List.mem_map.mp hr
      rw [plainRow_len]; exact hlen s hs
    have lsl : ls.length = ps.length := by
      have := congrArg List.length eqls
      rw [rws_len, List.length_map, rws_len] at this; exact this
    have T0 : TJ M W 0 β ps.length false (rws ps) [] (rws ls) := by
      refine TJ.from (TJ.start len1 (fun r hr => ?_) (fun hM => ?_) (by rw [rws_len, lsl]; exact Nat.le_refl _) (fun h => by cases h)) ?_
      · rw [eqls] at hr
        obtain ⟨s, hs, rfl⟩ := List.mem_map.mp hr
        exact plainRow_rng hm
      · rw [eqls]
        intro r hr j
        obtain ⟨s, hs, rfl⟩ := List.mem_map.mp hr
        rw [hM, plainRow_0]; exact hbnd hM s hs j
      · rw [eqls]; exact plainRow_same _
    have hBn : bJ false β ps.length ps.length < 2 ^ 8999 := by
      unfold bJ; rw [if_neg (by decide), Nat.min_eq_right (by omega)]; exact hg
    refine q_forR1 (n := (wd : Nat)) (ea_cons (ev_var rfl) ea_nil) (by omega) (fun i σ' H' => ∃ (l t : Addr) (ls ts : List AR) (LL : List (Nat × Row)) (v5 v6 v7 : Option V), σ' = [some (.ref p), some (.int (wd : Nat)), some (.int M), some (.ref l), some (.ref t), v5, v6, v7] ∧ Ex H H' ∧ H' l = some (.lst (adr ls)) ∧ H' t = some (.lst (adr ts)) ∧ H t = none ∧ Rws H' ls ∧ Rws H' ts ∧
        rws ts = LL.map (·.2) ∧ TJ M W i β ps.length false (rws ps) LL (rws ls) ∧ (∀ x ∈ ls ++ ts, H x.1 = none) ∧ (∀ x ∈ ts, x.1 ≠ t))
      (fun H3 e3 => ⟨l, t, ls, [], [], none, none, none, rfl, (e1.trans e2).trans e3, (e2.trans e3) _ _ hl1, e3 _ _ ht, fresh_back e1 nt, hr1.ex (e2.trans e3), Rws.nil, rfl, T0, fun x hx => by rw [List.append_nil] at hx; exact nls x hx, fun x hx => absurd hx (by simp)⟩) ?_ ?_
    · rintro i σ' H3 hi ⟨l, t, ls, ts, LL, v5, v6, v7, rfl, ex, hl3, ht3, ntH, rl, rt, etl, T, nn, tne⟩
      have hi : i < wd := by omega
      have ll : LL.length + ls.length ≤ ps.length := by have := T.cnt; rw [rws_len] at this; exact this
      have tl : ts.length = LL.length := by have := congrArg List.length etl; rw [rws_len, List.length_map] at this; exact this
      refine q_call (ea_cons (ev_var rfl) (ea_cons (ev_var rfl) (ea_cons (ev_var rfl) ea_nil))) fun H4 e4 => ⟨l, ls, i, W, bJ false β ps.length LL.length, M, rfl, sq_of (e4 _ _ hl3), rl.ex e4, hm, by omega, by omega, bJ_1 hβ, fun h2 => ?_, by omega, T.lenR, T.rngR, T.bL, fun tt z zs v pv H5 e5 htt hz nz rz hv post alz ctz => ?_⟩
      · have e : 6 * bJ false β ps.length LL.length ^ 3 = gI β (LL.length + 1) := by
          unfold bJ; rw [if_neg (by decide), Nat.min_eq_left (by omega)]; rfl
        rw [e]
        exact Nat.lt_of_le_of_lt (gI_mono hβ (by omega)) hg
      refine ⟨tt, _, rfl, SqT.of htt, rfl, _, _, rfl, _, _, rfl, rfl, ?_⟩
      have TS := T.step hm hβ (by rw [rws_len]; exact post) (by omega)
      have ex5 := (ex.trans e4).trans e5
      have ht5 := (e4.trans e5) _ _ ht3
      have rt5 := rt.ex (e4.trans e5)
      have nzs : ∀ x ∈ zs, H x.1 = none := fun x hx => by
        rcases alz x hx with h | h
        · obtain ⟨y, hy, e⟩ := List.mem_map.mp h
          rw [← e]; exact nn y (List.mem_append_left _ hy)
        · exact fresh_back (ex.trans e4) h
      refine s_when (et_test (ev_op (ev_var rfl) ev_c rv_notN)) (fun hb H6 e6 => ?_) (fun hb H6 e6 => ?_)
      · rcases hv with ⟨rfl, _⟩ | ⟨b, r, rfl, rfl, hbr, alb⟩
        · simp at hb
        · obtain ⟨vp, v1⟩ := post.pos r rfl
          have rin : r ∈ rws zs ++ (some r).toList := List.mem_append_right _ (List.mem_singleton.mpr rfl)
          have rl' : r.length = W := post.len r rin
          have rinT : (i, r) ∈ toldJ LL (some r) i M := List.mem_append_right _ (List.mem_singleton.mpr rfl)
          have cntT : (toldJ LL (some r) i M).length ≤ 6 := by have := TS.cnt; omega
          have dz : ∀ n : Int, CDivZ n (en r i) := fun n => by
            by_cases hM : M = 0
            · exact cdivz (b := 8999) _ (by omega) (Nat.lt_of_le_of_lt (TS.piv hM _ rinT) hBn) (by decide) (by decide)
            · rw [v1 hM]; exact cdivz_small _ (by decide) (by decide)
          have lent : ∀ x ∈ ts, x.2.length = W := fun x hx => by
            have h1 : x.2 ∈ rws ts := mem_rws hx
            rw [etl] at h1
            obtain ⟨y, hy, e⟩ := List.mem_map.mp h1
            rw [← e]; exact T.lenL y hy
          refine q_asgR (el_lcR (fun s => redBy r i M s) (ev_var rfl) (sq_of (e6 _ _ ht5)) (by omega) (fun _ => rfl) fun x H7 e7 hx => ?_) fun t2 ts2 H7 nt2 e7 ht2 rt2 eqt2 nts2 tne2 => ?_
          · have hxr : x.2 ∈ rws ts := mem_rws hx
            refine el_call (ea_cons (ev_var rfl) (ea_cons (ev_var rfl) (ea_cons (ev_fdiv (ev_ix (ev_var rfl) (ev_var rfl) ((rt5.ex (e6.trans e7)).seq hx) (iL_en (by rw [lent x hx]; omega))) (ev_ix (ev_var rfl) (ev_var rfl) (sq_of ((e6.trans e7) _ _ hbr)) (iL_en (by rw [rl']; omega))) (dz _)) (ea_cons (ev_var rfl) ea_nil)))) (less_spl ((rt5.ex (e6.trans e7)).seq hx) (sq_of ((e6.trans e7) _ _ hbr)) (by rw [lent x hx]; omega) hm.nonneg fun c hc => ?_)
            obtain ⟨j, hj⟩ := List.getElem?_of_mem hc
            have ec := en_get hj
            rw [← ec]
            rw [etl] at hxr
            by_cases hM : M = 0
            · have h1 : ((en x.2 i).fdiv (en r i)).natAbs < 2 ^ 54000 := Nat.lt_of_le_of_lt (Nat.le_trans (natAbs_fdiv (by omega)) (T.bT hM x.2 hxr i)) (tJ_lt hBn (by omega))
              have h2 : (en r j).natAbs < 2 ^ 54000 := Nat.lt_of_le_of_lt (TS.bT hM r (List.mem_map.mpr ⟨_, rinT, rfl⟩) j) (tJ_lt hBn cntT)
              exact wide_mul h1 h2 (by decide) (by decide) (by decide)
            · have hM2 := hm.pos hM
              obtain ⟨y, hy, e⟩ := List.mem_map.mp hxr
              have h1 := T.rngL y hy hM i
              have h2 := post.rng r rin hM j
              rw [v1 hM, Int.fdiv_one, ← e]
              exact CMulW_small (by omega) (by omega)
          · have ct2 : ts2.length = ts.length := by have := congrArg List.length eqt2; rw [rws_len, List.length_map, rws_len] at this; exact this
            refine s_app ht2 (ev_var rfl) (ev_var rfl) (by rw [adr_len]; omega) fun H8 e8 => ?_
            have ex8 := ((ex5.trans e6).trans e7).trans e8
            have nt2H : H t2 = none := fresh_back (ex5.trans e6) nt2
            have hb8 := (e6.trans (e7.trans e8)) _ _ hbr
            have bH : H b = none := by
              rcases alb with h | h
              · obtain ⟨y, hy, e⟩ := List.mem_map.mp h
                rw [← e]; exact nn y (List.mem_append_left _ hy)
              · exact fresh_back (ex.trans e4) h
            have bt2 : b ≠ t2 := ne_of_none (e6 _ _ hbr) nt2
            have zt2 : z ≠ t2 := ne_of_none (e6 _ _ hz) nt2
            have znt : ∀ x ∈ zs, x.1 ≠ t2 := fun x hx => ne_of_none (e6 _ _ (rz x hx)) nt2
            refine ⟨z, t2, zs, ts2 ++ [(b, r)], toldJ LL (some r) i M, _, _, _, rfl, Ex.mut ex8 nt2H, by rw [upd_ne zt2]; exact (e6.trans (e7.trans e8)) _ _ hz, by rw [upd_same, adr_app]; rfl, nt2H, ((rz.ex (e6.trans (e7.trans e8))).upd znt), Rws.append ((rt2.ex e8).upd tne2) (fun x hx => by rw [List.mem_singleton.mp hx, upd_ne bt2]; exact hb8), ?_, TS, fun x hx => ?_, fun x hx => ?_⟩
            · rw [rws_app, eqt2, etl]
              unfold toldJ
              rw [List.map_append, List.map_map, List.map_map]; rfl
            · rcases List.mem_append.mp hx with h | h
              · exact nzs x h
              · rcases List.mem_append.mp h with h | h
                · exact fresh_back (ex5.trans e6) (nts2 x h)
                · rw [List.mem_singleton.mp h]; exact bH
            · rcases List.mem_append.mp hx with h | h
              · exact tne2 x h
              · rw [List.mem_singleton.mp h]; exact bt2
      · rcases hv with ⟨rfl, rfl⟩ | ⟨b, r, rfl, rfl, _⟩
        · exact ⟨z, t, zs, ts, LL, _, _, _, rfl, ex5.trans e6, e6 _ _ hz, e6 _ _ ht5, ntH, rz.ex e6, rt5.ex e6, etl, TS, fun x hx => (List.mem_append.mp hx).elim (nzs x) fun h => nn x (List.mem_append_right _ h), tne⟩
        · simp at hb
    · rintro σ' H3 ⟨l, t, ls, ts, LL, v5, v6, v7, rfl, ex, hl3, ht3, ntH, rl, rt, etl, T, nn, tne⟩
      have T' : TJ M W wd β ps.length false (rws ps) LL (rws ls) := T
      refine s_retU (eu_tup (ea_cons (ev_var rfl) (ea_cons (ev_var rfl) ea_nil)) (by simp)) fun tt H4 ntt e4 htt => ?_
      exact fin tt t l ts ls LL H4 (ex.trans e4) htt (e4 _ _ ht3) (e4 _ _ hl3) ntH (rt.ex e4) (rl.ex e4) etl T' nn tne
def spHermite (K : PySem.W.Frag) : Sp := fun vs H Q _ => ∃ (p : Addr) (ps : List AR) (wd β : Nat) (M : Int) (D : List (Nat × Row)), vs = [.ref p, .int (wd : Nat), .int M] ∧ SqL K H p (adr ps) ∧ Rws H ps ∧ Md M ∧ wd ≤ 1000 ∧ ps.length ≤ 6 ∧ 1 ≤ β ∧ gI β (ps.length - 1) < 2 ^ 8999 ∧
  (∀ r ∈ rws ps, r.length = wd) ∧ (M = 0 → Bnd β (rws ps)) ∧ Herm M wd D ∧ SameL M (rws ps) (D.map (·.2)) ∧
  ∀ (a : Addr) (ts : List AR) (H' : Hp), Ex H H' → H' a = some (.lst (adr ts)) → H a = none → Rws H' ts → rws ts = D.map (·.2) → (∀ x ∈ ts, H x.1 = none) → (∀ x ∈ ts, x.1 ≠ a) → Q (.ref a) H'
theorem ok_hermite_rows (L : Lib K mg) {f : Addr} {fd : FuncData} (F : L2.Fun K "hermite_rows" "hermite_rows" s_hermite_rows f fd) : FnOk P w K mg base CX0 5 f fd ["rows", "width", "modulus"] (spHermite K) := by
  obtain ⟨f_split_rows, fd_split_rows, F_split_rows⟩ := L.split_rows
  have G_split_rows : FnOk P w K mg base CX0 4 f_split_rows fd_split_rows _ (spSplit K) := ok_split_rows L F_split_rows.F
  refine F.ok sc_hermite_rows (fun vs H Q E h => ?_) (fun cdv A outer s H vs Q E hr h => ?_)
  · obtain ⟨p, ps, wd, β, M, D, rfl, _⟩ := h; rfl
  · obtain ⟨p, ps, wd, β, M, D, rfl, hp, hR, hm, hwd, hl, hβ, hg, hlen, hbnd, hH, hS, fin⟩ := h
    refine ⟨_, (pss_cons (ps_asg (pe_call G_split_rows (hr.mono (by decide)) (by rfl) F_split_rows.g F_split_rows.F.kp F_split_rows.b .nil pass0 (pa_cons (pv 0) (pa_cons (pv 1) (pa_cons (pv 2) pa_nil)))) (pg_tup rfl (pgs_cons (pg_name (i := 3) sc_hermite_rows.nd rfl (Or.inl rfl)) (pgs_cons (pg_name (i := 4) sc_hermite_rows.nd rfl (Or.inl rfl)) pgs_nil))))
    (pss_one (ps_ret (pv 3)))), ?_⟩
    refine q_call (ea_cons (ev_var rfl) (ea_cons (ev_var rfl) (ea_cons (ev_var rfl) ea_nil))) fun H1 e1 => ⟨p, ps, wd, wd, β, M, rfl, ex_l e1 hp, hR.ex e1, hm, Nat.le_refl _, hwd, hl, hβ, hg, hlen, hbnd, fun t a l ts zs LL H2 e2 ht ha hl2 na rt rz eq T nts tne => ?_⟩
    refine ⟨t, _, rfl, SqT.of ht, rfl, _, _, rfl, _, _, rfl, rfl, ?_⟩
    refine s_ret (ev_var rfl) fun H3 e3 => ?_
    have eD : LL = D := herm_unique hm ⟨T.ech, T.lenL, T.red, T.rngL⟩ hH (T.all.symm.trans hS)
    exact fin a ts H3 ((e1.trans e2).trans e3) (e3 _ _ ha) (fresh_back e1 na) (rt.ex e3) (by rw [eq, eD]) (fun x hx => fresh_back e1 (nts x (List.mem_append_right _ hx))) tne
end
end Mine
set_option Elab.async false
set_option linter.all false
set_option maxRecDepth 100000
set_option maxHeartbeats 4000000
namespace Mine
open PySem PySem.Spec PyProof.Rows L2 Evl
section
variable {K : PySem.W.Frag} {σ : L2.St} {H H' : Hp} {ta tb te tx tl : TE} {t u : TT} {x y z v w1 : V} {D : Ends} {tu tw tz : TS}
/-- a call whose first argument is a new list -/
theorem el_callL1 {sp : Sp} {dvs vs xs out : List V} {E : XK} {ta : TA} (h : EvL te σ H xs) (ha : EvA ta σ H vs) (hs : ∀ p H1, Ex H H1 → H1 p = some (.lst xs) → SpL sp (.ref p :: (vs ++ dvs)) H1 out) : EvL (tCall sp dvs E (tCons te ta)) σ H out := fun H0 e0 Q q =>
  h H0 e0 _ fun p H1 np e1 h1 => ha H1 (e0.trans e1) _ fun H2 e2 => hs p H2 ((e0.trans e1).trans e2) (e2 _ _ h1) H2 (Ex.refl H2) Q (fun r H3 nr e3 h3 => q r H3 (fresh_back (e1.trans e2) nr) ((e1.trans e2).trans e3) h3) E
theorem ev_callL1 {sp : Sp} {dvs vs xs : List V} {E : XK} {ta : TA} (h : EvL te σ H xs) (ha : EvA ta σ H vs) (hs : ∀ p H1, Ex H H1 → H1 p = some (.lst xs) → SpV sp (.ref p :: (vs ++ dvs)) H1 z) : Ev (tCall sp dvs E (tCons te ta)) σ H z := fun H0 e0 Q q =>
  h H0 e0 _ fun p H1 np e1 h1 => ha H1 (e0.trans e1) _ fun H2 e2 => hs p H2 ((e0.trans e1).trans e2) (e2 _ _ h1) H2 (Ex.refl H2) Q (fun H3 e3 => q H3 ((e1.trans e2).trans e3)) E
theorem el_cat {p : Addr} {xs ys : List V} (ha : Ev ta σ H (.ref p)) (hx : H p = some (.lst xs)) (hb : EvL tb σ H ys) (hz : xs.length + ys.length ≤ 100000) : EvL (tOp rCat ta tb) σ H (xs ++ ys) := fun H0 e0 Q q =>
  ha H0 e0 _ fun H1 e1 => hb H1 (e0.trans e1) _ fun p2 H2 n2 e2 h2 => ⟨p, p2, xs, ys, rfl, rfl, ((e0.trans e1).trans e2) _ _ hx, h2, sz_of hz, fun r nr => q r _ (fresh_back (e1.trans e2) nr) ((e1.trans e2).trans (Ex.new nr)) upd_same⟩
theorem s_forR2Z {ta : TA} {j : Nat} {lo n : Int} (h : EvA ta σ H [.int lo, .int n]) (hn : -100000 ≤ lo ∧ lo ≤ 100000 ∧ -100000 ≤ n ∧ n ≤ 100000) (Pv : Nat → L2.St → Hp → Prop) (h0 : ∀ H1, Ex H H1 → Pv 0 σ H1)
    (hs : ∀ (i : Nat) σ' H', lo + (i : Int) < n → Pv i σ' H' → tu { D with nx := Pv (i + 1), ct := Pv (i + 1), bk := D.nx } (σ'.set j (some (.int (lo + (i : Int))))) H') (hd : ∀ σ' H', Pv (n - lo).toNat σ' H' → D.nx σ' H') : tFor (iRng2 ta) (gName j) tu D σ H :=
  h H (Ex.refl H) _ fun H1 e => ⟨lo, n, rfl, ⟨by omega, by omega, by omega, by omega⟩, for_range (lo := lo) (n := (n - lo).toNat) Pv (h0 H1 e) (fun i σ' H' hi p => hs i σ' H' (by omega) p) hd⟩
/-- [e for k in range(n)], ints -/
theorem el_lcRI {ta : TA} {j : Nat} {vs : List Nat} {n : Nat} (r : Row) (hr : r.length = n) (h : EvA ta σ H [.int (n : Nat)]) (hn : n ≤ 40000) (hw : ∀ x, wipe ((wipe σ vs).set j (some x)) vs = wipe σ vs)
    (he : ∀ (i : Nat) H1, Ex H H1 → i < n → Ev te ((wipe σ vs).set j (some (.int (i : Int)))) H1 (.int (en r i))) : EvL (tLc (iRng1 ta) (gName j) tYes te vs) σ H (iL r) := by
  have e : given ((n : Nat) : Int).toNat (fun _ => true) (fun i => V.int (en r i)) = iL r := given_all _ _ _ (by rw [iL_len, hr]; simp) fun i z hz => by
    obtain ⟨k, rfl, hk⟩ := iL_get hz
    rw [en_get hk]
  rw [← e]
  exact el_lcR1 (fun _ => true) (fun i => V.int (en r i)) h (by omega) hw (fun i H1 e hi => et_yes) fun i H1 e hi _ => he i H1 e (by omega)
theorem ev_ifB {b : Bool} {i j : V} (h : EvT t σ H b) (h1 : b = true → Ev ta σ H i) (h2 : b = false → Ev tb σ H j) : Ev (tIf t ta tb) σ H (if b = true then i else j) := ev_if h (fun e => by rw [if_pos e]; exact h1 e) (fun e => by rw [if_neg (by rw [e]; decide)]; exact h2 e)
end
section
variable {P : Program} {w : World} {K : PySem.W.Frag} {mg : Str → Option Value} {base : Heap} {H : Hp}
/-! ### _law_c_plain, _law_c_add, _law_c_sum, _law_c_copy -/
theorem ok_law_c_plain (L : Lib K mg) {f : Addr} {fd : FuncData} (F : L2.Fun K "_law_c_plain" "_law_c_plain" s_law_c_plain f fd) : FnOk P w K mg base CX0 1 f fd ["row", "M"] (spPlain K) := by
  refine F.ok sc_law_c_plain (fun vs H Q E h => ?_) (fun cdv A outer s H vs Q E hr h => ?_)
  · obtain ⟨p, r, M, rfl, _⟩ := h; rfl
  · obtain ⟨p, r, M, rfl, hp, hl, hM, k⟩ := h
    refine ⟨_, (pss_one (ps_ret (pe_lc (own := [("number", 2)]) (g := gName 2) (tt := tYes) rfl sc_law_c_plain.nd (pi_list (pv 0)) (blkOk_by (own := [("number", 2)]) (N := N_law_c_plain) (sc := defScope s_law_c_plain) (by decide +kernel)) (fun _ _ _ _ _ => (pg_name (i := 2) sc_law_c_plain.nd rfl (Or.inl rfl))) (fun _ _ _ _ _ => pts_nil) (fun _ _ _ _ _ => (pe_ifExp (pt_cmpR op_ne (pv 1) pe_int (nomark _)) (pe_op op_mod (pe_callTy call_int1 (by rfl) L.int (by decide +kernel) (pa_cons (pv 2) pa_nil)) (pv 1)) (pv 2)))))), ?_⟩
    refine s_retL (el_lcI (fun x => if M ≠ 0 then x % M else x) (ev_var rfl) hp (by omega) (fun _ => rfl) fun x H2 e2 hx => ev_is (ev_ifB (et_test (ev_neI (ev_var rfl) ev_c)) (fun hb => ev_mod (ev_int (ev_var rfl)) (ev_var rfl) (by have := of_decide_eq_true hb; omega)) (fun hb => ev_var rfl)) ?_) fun p2 H2 n2 e2 h2 => ?_
    · by_cases z : M = 0 <;> simp [z]
    · refine k p2 H2 n2 e2 ?_
      have e : plainRow r M = r.map fun x => if M ≠ 0 then x % M else x := by
        unfold plainRow
        by_cases z : M = 0
        · rw [if_pos z]; subst z; simp
        · rw [if_neg z]; simp [z]
      rw [e]; exact h2
def addT (r o : Row) (k M : Int) : Row := plainRow (List.zipWith (fun a b => a + k * b) r o) M
def spAdd (K : PySem.W.Frag) : Sp := fun vs H Q _ => ∃ (p q : Addr) (r o : Row) (k M : Int), vs = [.ref p, .ref q, .int k, .int M] ∧ SqL K H p (iL r) ∧ SqL K H q (iL o) ∧ r.length = o.length ∧ r.length ≤ 1000 ∧ 0 ≤ M ∧ (∀ j, CMulW k (en o j)) ∧ RetL (iL (addT r o k M)) H Q
theorem ok_law_c_add (L : Lib K mg) {f : Addr} {fd : FuncData} (F : L2.Fun K "_law_c_add" "_law_c_add" s_law_c_add f fd) : FnOk P w K mg base CX0 2 f fd ["one", "other", "k", "M"] (spAdd K) := by
  obtain ⟨f_law_c_plain, fd_law_c_plain, F_law_c_plain⟩ := L.law_c_plain
  have G_law_c_plain : FnOk P w K mg base CX0 1 f_law_c_plain fd_law_c_plain _ (spPlain K) := ok_law_c_plain L F_law_c_plain.F
  refine F.ok sc_law_c_add (fun vs H Q E h => ?_) (fun cdv A outer s H vs Q E hr h => ?_)
  · obtain ⟨p, q, r, o, k, M, rfl, _⟩ := h; rfl
  · obtain ⟨p, q, r, o, k, M, rfl, hp, hq, hl, hl2, hM, hc, fin⟩ := h
    refine ⟨_, (pss_one (ps_ret (pe_call G_law_c_plain (hr.mono (by decide)) (by rfl) F_law_c_plain.g F_law_c_plain.F.kp F_law_c_plain.b .nil pass0 (pa_cons (pe_lc (own := [("at", 4)]) (g := gName 4) (tt := tYes) rfl sc_law_c_add.nd (pi_range1 (by rfl) L.range (pa_cons (pe_callB call_len_seq (by rfl) L.len (by decide +kernel) (pa_cons (pv 0) pa_nil)) pa_nil)) (blkOk_by (own := [("at", 4)]) (N := N_law_c_add) (sc := defScope s_law_c_add) (by decide +kernel)) (fun _ _ _ _ _ => (pg_name (i := 4) sc_law_c_add.nd rfl (Or.inl rfl))) (fun _ _ _ _ _ => pts_nil) (fun _ _ _ _ _ => (pe_op op_add (pe_ix (ix_listK (K := K)) (pv 0) (pv 4) (fun _ _ => rfl)) (pe_op op_mulW (pv 2) (pe_ix (ix_listK (K := K)) (pv 1) (pv 4) (fun _ _ => rfl)))))) (pa_cons (pv 3) pa_nil))))), ?_⟩
    have hzl : (List.zipWith (fun a b => a + k * b) r o).length = r.length := by rw [List.length_zipWith]; omega
    refine s_retL (el_callL1 (xs := iL (List.zipWith (fun a b => a + k * b) r o)) (el_lcRI (n := r.length) _ hzl (ea_cons (ev_is (ev_len (ev_var rfl) hp) (by rw [iL_len])) ea_nil) (by omega) (fun _ => rfl) fun i H1 e1 hi => ?_) (ea_cons (ev_var rfl) ea_nil) fun p1 H1 e1 h1 => plain_spl (sq_of h1) (by omega) hM) fun p2 H2 n2 e2 h2 => fin p2 H2 n2 e2 h2
    rw [en_zip (by simp) hl]
    exact ev_add (ev_ix (ev_var rfl) (ev_var rfl) (ex_l e1 hp) (iL_en hi)) (ev_mulW (ev_var rfl) (ev_ix (ev_var rfl) (ev_var rfl) (ex_l e1 hq) (iL_en (by omega))) (hc i))
theorem add_spl {p q : Addr} {r o : Row} {k M : Int} (hp : SqL K H p (iL r)) (hq : SqL K H q (iL o)) (hl : r.length = o.length) (hl2 : r.length ≤ 1000) (hM : 0 ≤ M) (hc : ∀ j, CMulW k (en o j)) : SpL (spAdd K) [.ref p, .ref q, .int k, .int M] H (iL (addT r o k M)) :=
  fun H1 e Q q' _ => ⟨p, q, r, o, k, M, rfl, ex_l e hp, ex_l e hq, hl, hl2, hM, hc, q'⟩
theorem addT_len {r o : Row} {k M : Int} (h : r.length = o.length) : (addT r o k M).length = r.length := by unfold addT; rw [plainRow_len, List.length_zipWith]; omega
def sumT : List Row → List Int → Row → Int → Row
  | r :: rs, k :: ks, t, M => sumT rs ks (addT t r k M) M
  | _, _, t, _ => t
theorem sumT_take {rs : List Row} {ks : List Int} {t : Row} {M : Int} : ∀ {i : Nat} {r : Row} {k : Int}, rs[i]? = some r → ks[i]? = some k → sumT (rs.take (i + 1)) (ks.take (i + 1)) t M = addT (sumT (rs.take i) (ks.take i) t M) r k M := by
  intro i
  induction i generalizing rs ks t with
  | zero =>
    intro r k hr hk
    match rs, ks, hr, hk with
    | a :: rs, b :: ks, hr, hk =>
      have e1 : a = r := Option.some.inj hr
      have e2 : b = k := Option.some.inj hk
      subst e1 e2
      simp [sumT]
  | succ i ih =>
    intro r k hr hk
    match rs, ks, hr, hk with
    | a :: rs, b :: ks, hr, hk => exact ih (rs := rs) (ks := ks) (t := addT t a b M) hr hk
theorem sumT_len {w' : Nat} {M : Int} : ∀ {rs : List Row} {ks : List Int} {t : Row}, (∀ r ∈ rs, r.length = w') → t.length = w' → (sumT rs ks t M).length = w'
  | [], _, _, _, h => by unfold sumT; exact h
  | _ :: _, [], _, _, h => by unfold sumT; exact h
  | r :: rs, k :: ks, t, hr, h => by
    unfold sumT
    exact sumT_len (fun s hs => hr s (List.mem_cons_of_mem _ hs)) ((addT_len (by rw [h, hr r (List.mem_cons_self ..)])).trans h)
def spSum (K : PySem.W.Frag) : Sp := fun vs H Q _ => ∃ (p q : Addr) (ps : List AR) (ks : Row) (wd : Nat) (M : Int), vs = [.ref p, .ref q, .int (wd : Nat), .int M] ∧ SqL K H p (adr ps) ∧ Rws H ps ∧ SqL K H q (iL ks) ∧ ks.length = ps.length ∧ ps.length ≤ 1000 ∧ wd ≤ 1000 ∧ 0 ≤ M ∧ (∀ r ∈ rws ps, r.length = wd) ∧
  (∀ k ∈ ks, ∀ r ∈ rws ps, ∀ j, CMulW k (en r j)) ∧ RetL (iL (sumT (rws ps) ks (List.replicate wd 0) M)) H Q
theorem ok_law_c_sum (L : Lib K mg) {f : Addr} {fd : FuncData} (F : L2.Fun K "_law_c_sum" "_law_c_sum" s_law_c_sum f fd) : FnOk P w K mg base CX0 3 f fd ["rows", "numbers", "width", "M"] (spSum K) := by
  obtain ⟨f_law_c_add, fd_law_c_add, F_law_c_add⟩ := L.law_c_add
  have G_law_c_add : FnOk P w K mg base CX0 2 f_law_c_add fd_law_c_add _ (spAdd K) := ok_law_c_add L F_law_c_add.F
  refine F.ok sc_law_c_sum (fun vs H Q E h => ?_) (fun cdv A outer s H vs Q E hr h => ?_)
  · obtain ⟨p, q, ps, ks, wd, M, rfl, _⟩ := h; rfl
  · obtain ⟨p, q, ps, ks, wd, M, rfl, hp, hR, hq, hkl, hl, hwd, hM, hlen, hc, fin⟩ := h
    refine ⟨_, (pss_cons (ps_setLc (i := 5) (own := [("k", 4)]) (g := gName 4) (tt := tYes) rfl sc_law_c_sum.nd rfl rfl (sw_true rfl rfl rfl (by decide +kernel)) (pi_range1 (by rfl) L.range (pa_cons (pv 2) pa_nil)) (blkOk_by (own := [("k", 4)]) (N := N_law_c_sum) (sc := defScope s_law_c_sum) (by decide +kernel)) (fun _ _ _ _ _ => (pg_name (i := 4) sc_law_c_sum.nd rfl (Or.inl rfl))) (fun _ _ _ _ _ => pts_nil) (fun _ _ _ _ _ => pe_int))
    (pss_cons (ps_for PassesOwn.never rfl (pi_range1 (by rfl) L.range (pa_cons (pe_callB call_len_seq (by rfl) L.len (by decide +kernel) (pa_cons (pv 0) pa_nil)) pa_nil)) (pg_name (i := 4) sc_law_c_sum.nd rfl (Or.inl rfl))
      (pss_one (ps_set (i := 5) sc_law_c_sum.nd rfl (Or.inl rfl) (pe_call G_law_c_add (hr.mono (by decide)) (by rfl) F_law_c_add.g F_law_c_add.F.kp F_law_c_add.b .nil pass0 (pa_cons (pv 5) (pa_cons (pe_ix ix_list (pv 0) (pv 4) (fun _ _ => rfl)) (pa_cons (pe_ix ix_list (pv 1) (pv 4) (fun _ _ => rfl)) (pa_cons (pv 3) pa_nil))))))))
    (pss_one (ps_ret (pv 5))))), ?_⟩
    refine q_asgL (el_lcRI (n := wd) (List.replicate wd 0) (by simp) (ea_cons (ev_var rfl) ea_nil) (by omega) (fun _ => rfl) fun i H1 e1 hi => by rw [en_zero]; exact ev_c) fun t0 H1 nt0 e1 ht0 => ?_
    refine q_forR1 (n := ((adr ps).length : Nat)) (ea_cons (ev_len (ev_var rfl) (ex_l e1 hp)) ea_nil) (by rw [adr_len]; omega) (fun i σ' H' => ∃ (t : Addr) (v4 : Option V), σ' = [some (.ref p), some (.ref q), some (.int (wd : Nat)), some (.int M), v4, some (.ref t)] ∧ Ex H H' ∧ H t = none ∧ H' t = some (.lst (iL (sumT ((rws ps).take i) (ks.take i) (List.replicate wd 0) M))))
      (fun H2 e2 => ⟨t0, none, rfl, e1.trans e2, nt0, by simpa [sumT] using e2 _ _ ht0⟩) ?_ ?_
    · rintro i σ' H' hi ⟨t, v4, rfl, ex, nt, ht⟩
      rw [adr_len] at hi
      have hi : i < ps.length := by omega
      have hpi := List.getElem?_eq_getElem hi
      have hki : i < ks.length := by omega
      have hk := en_lt hki
      have hr := rws_at hpi
      have hin : ps[i] ∈ ps := List.getElem_mem hi
      have lt : (sumT ((rws ps).take i) (ks.take i) (List.replicate wd 0) M).length = wd := sumT_len (fun r hr => hlen r (List.mem_of_mem_take hr)) (by simp)
      refine s_asgL (el_call (ea_cons (ev_var rfl) (ea_cons (ev_ix (ev_var rfl) (ev_var rfl) (ex_l ex hp) (atI_nat (adr_at hpi))) (ea_cons (ev_ix (ev_var rfl) (ev_var rfl) (ex_l ex hq) (iL_en hki)) (ea_cons (ev_var rfl) ea_nil)))) (add_spl (sq_of ht) ((hR.ex ex).seq hin) (by rw [lt, hlen _ (mem_rws hin)]) (by omega) hM fun j => hc _ (List.mem_of_getElem? hk) _ (mem_rws hin) j)) fun t2 H2 nt2 e2 ht2 => ?_
      exact ⟨t2, _, rfl, ex.trans e2, fresh_back ex nt2, by rw [sumT_take hr hk]; exact ht2⟩
    · rintro σ' H' ⟨t, v4, rfl, ex, nt, ht⟩
      have hn : ((adr ps).length : Int).toNat = ps.length := by rw [adr_len]; simp
      rw [hn, List.take_of_length_le (by rw [rws_len]; exact Nat.le_refl _), List.take_of_length_le (by omega)] at ht
      exact s_ret (ev_var rfl) fun H2 e2 => fin t H2 nt (ex.trans e2) (e2 _ _ ht)
def RetR (rs : List Row) (H : Hp) (Q : VK) : Prop := ∀ (p : Addr) (qs : List AR) (H2 : Hp), H p = none → Ex H H2 → H2 p = some (.lst (adr qs)) → Rws H2 qs → rws qs = rs → (∀ x ∈ qs, H x.1 = none) → (∀ x ∈ qs, x.1 ≠ p) → Q (.ref p) H2
def spCopy (K : PySem.W.Frag) : Sp := fun vs H Q _ => ∃ (p : Addr) (ps : List AR), vs = [.ref p] ∧ SqL K H p (adr ps) ∧ Rws H ps ∧ ps.length ≤ 1000 ∧ RetR (rws ps) H Q
theorem ok_law_c_copy (L : Lib K mg) {f : Addr} {fd : FuncData} (F : L2.Fun K "_law_c_copy" "_law_c_copy" s_law_c_copy f fd) : FnOk P w K mg base CX0 1 f fd ["rows"] (spCopy K) := by
  refine F.ok sc_law_c_copy (fun vs H Q E h => ?_) (fun cdv A outer s H vs Q E hr h => ?_)
  · obtain ⟨p, ps, rfl, _⟩ := h; rfl
  · obtain ⟨p, ps, rfl, hp, hR, hl, fin⟩ := h
    refine ⟨_, (pss_one (ps_ret (pe_lc (own := [("row", 1)]) (g := gName 1) (tt := tYes) rfl sc_law_c_copy.nd (pi_list (pv 0)) (blkOk_by (own := [("row", 1)]) (N := N_law_c_copy) (sc := defScope s_law_c_copy) (by decide +kernel)) (fun _ _ _ _ _ => (pg_name (i := 1) sc_law_c_copy.nd rfl (Or.inl rfl))) (fun _ _ _ _ _ => pts_nil) (fun _ _ _ _ _ => (pe_callTy (call_list_ofK (K := K)) (by rfl) L.list (by decide +kernel) (pa_cons (pv 1) pa_nil)))))), ?_⟩
    refine s_retR (el_lcR (fun r => r) (ev_var rfl) hp (by omega) (fun _ => rfl) fun x H1 e1 hx => el_list (ev_var rfl) (ex_l e1 (hR.seq hx))) fun p2 qs H2 n2 e2 h2 r2 eq nq ne => ?_
    rw [List.map_id'] at eq
    exact fin p2 qs H2 n2 e2 h2 r2 eq nq ne
/-! ### what is left of a row: both ways -/
def stepR (M : Int) (l o : Row) : Row := lessT l o ((en l (firstP o)).fdiv (en o (firstP o))) M
def restOf (told : List Row) (row : Row) (M : Int) : Row := told.foldl (stepR M) (plainRow row M)
/-- the bits of what is taken off -/
def tb : Nat := 60000
/-- a row that may be taken off -/
structure RO (M : Int) (wd : Nat) (o : Row) : Prop where
  len : o.length = wd
  fp : firstP o < wd
  nz : en o (firstP o) ≠ 0
  piv : (en o (firstP o)).natAbs < 2 ^ 8999
  bnd : M = 0 → ∀ j, (en o j).natAbs ≤ 2 ^ tb
  rng : Rng M o
theorem rest_inv {M : Int} (hm : Md M) {wd : Nat} {row : Row} (hl : row.length = wd) (hb : M = 0 → ∀ j, (en row j).natAbs ≤ 2 ^ tb) : ∀ {n : Nat} {told : List Row}, told.length ≤ n → (∀ o ∈ told, RO M wd o) →
    (restOf told row M).length = wd ∧ Rng M (restOf told row M) ∧ ∀ j, (en (restOf told row M) j).natAbs ≤ 2 ^ (tb + (tb + 1) * told.length) := by
  intro n told hn h
  have gen : ∀ (told : List Row) (l : Row) (b : Nat), 4 ≤ b → l.length = wd → Rng M l → (∀ j, (en l j).natAbs ≤ 2 ^ b) → (∀ o ∈ told, RO M wd o) → (told.foldl (stepR M) l).length = wd ∧ Rng M (told.foldl (stepR M) l) ∧ ∀ j, (en (told.foldl (stepR M) l) j).natAbs ≤ 2 ^ (b + (tb + 1) * told.length) := by
    intro told
    induction told with
    | nil => intro l b _ h1 h2 h3 _; exact ⟨h1, h2, h3⟩
    | cons o told ih =>
      intro l b hb4 h1 h2 h3 h4
      have ho := h4 o (List.mem_cons_self ..)
      have hlo : l.length = o.length := by rw [h1, ho.len]
      have r1 := lessT_rng (t := (en l (firstP o)).fdiv (en o (firstP o))) hlo hm h2
      have := ih (stepR M l o) (b + (tb + 1)) (by omega) ((lessT_len hlo).trans h1) r1 (fun j => ?_) (fun o' ho' => h4 o' (List.mem_cons_of_mem _ ho'))
      · rw [List.length_cons, show b + (tb + 1) * (told.length + 1) = b + (tb + 1) + (tb + 1) * told.length by rw [Nat.mul_add]; omega]; exact this
      · by_cases hM : M = 0
        · subst hM
          unfold stepR
          rw [lessT_0 hlo]
          have q1 : ((en l (firstP o)).fdiv (en o (firstP o))).natAbs ≤ 2 ^ b := Nat.le_trans (natAbs_fdiv ho.nz) (h3 _)
          have q2 := Nat.mul_le_mul q1 (ho.bnd rfl j)
          have q3 := Int.natAbs_sub_le (en l j) ((en l (firstP o)).fdiv (en o (firstP o)) * en o j)
          rw [Int.natAbs_mul] at q3
          have q4 := h3 j
          rw [← Nat.pow_add] at q2
          have q5 : 2 ^ b ≤ 2 ^ (b + tb) := Nat.pow_le_pow_right (by decide) (by omega)
          have q6 : 2 ^ (b + (tb + 1)) = 2 ^ (b + tb) + 2 ^ (b + tb) := by rw [← Nat.add_assoc, Nat.pow_succ]; omega
          omega
        · have := hm.pos hM
          have h9 := r1 hM j
          have q5 : 2 ^ 4 ≤ 2 ^ (b + (tb + 1)) := Nat.pow_le_pow_right (by decide) (by omega)
          unfold stepR
          omega
  refine gen told (plainRow row M) tb (by decide) ((plainRow_len _ _).trans hl) (plainRow_rng hm) (fun j => ?_) h
  by_cases hM : M = 0
  · rw [hM, plainRow_0]; exact hb hM j
  · have := hm.pos hM
    have h9 := plainRow_rng (r := row) hm hM j
    have : (2 : Nat) ^ 4 ≤ 2 ^ tb := Nat.pow_le_pow_right (by decide) (by decide)
    omega
theorem restOf_take {told : List Row} {row : Row} {M : Int} {i : Nat} {o : Row} (h : told[i]? = some o) : restOf (told.take (i + 1)) row M = stepR M (restOf (told.take i) row M) o := by
  unfold restOf
  rw [List.take_add_one, h, List.foldl_append]; rfl
/-- both ask the same of what they are handed -/
def RedPre (K : PySem.W.Frag) (H : Hp) (p q : Addr) (ps : List AR) (row : Row) (wd : Nat) (M : Int) : Prop :=
  SqL K H p (adr ps) ∧ Rws H ps ∧ SqL K H q (iL row) ∧ Md M ∧ row.length = wd ∧ wd ≤ 1000 ∧ ps.length ≤ 6 ∧ (M = 0 → ∀ j, (en row j).natAbs ≤ 2 ^ tb) ∧ ∀ o ∈ rws ps, RO M wd o
theorem red_div {M : Int} {wd : Nat} {o : Row} (h : RO M wd o) (n : Int) : CDivZ n (en o (firstP o)) := cdivz (b := 8999) _ h.nz h.piv (by decide) (by decide)
theorem red_mul {M : Int} (hm : Md M) {wd : Nat} {row : Row} {told : List Row} (hl : row.length = wd) (hb : M = 0 → ∀ j, (en row j).natAbs ≤ 2 ^ tb) (ht : told.length ≤ 6) (h : ∀ o ∈ told, RO M wd o) {o : Row} (ho : RO M wd o) {c : Int} (hc : c ∈ o) :
    CMulW ((en (restOf told row M) (firstP o)).fdiv (en o (firstP o))) c := by
  obtain ⟨_, _, h3⟩ := rest_inv hm hl hb ht h
  obtain ⟨j, hj⟩ := List.getElem?_of_mem hc
  have q1 := Nat.le_trans (natAbs_fdiv ho.nz) (h3 (firstP o))
  have h5 : (2 : Nat) ^ (tb + (tb + 1) * told.length) < 2 ^ 500000 := Nat.pow_lt_pow_right (by decide) (by unfold tb; omega)
  have h6 : c.natAbs < 2 ^ 60001 := by
    by_cases hM : M = 0
    · have h4 := ho.bnd hM j
      rw [en_get hj] at h4
      exact Nat.lt_of_le_of_lt h4 (Nat.pow_lt_pow_right (by decide) (by decide))
    · have h4 := ho.rng hM j
      rw [en_get hj] at h4
      have := hm.pos hM
      have h7 : (2 : Nat) ^ 4 ≤ 2 ^ 60001 := Nat.pow_le_pow_right (by decide) (by decide)
      omega
  exact wide_mul (a := 500000) (b := 60001) (Nat.lt_of_le_of_lt q1 h5) h6 (by decide) (by decide) (by decide)
def spRest (K : PySem.W.Frag) : Sp := fun vs H Q _ => ∃ (p q : Addr) (ps : List AR) (row : Row) (wd : Nat) (M : Int), vs = [.ref p, .ref q, .int M] ∧ RedPre K H p q ps row wd M ∧ RetL (iL (restOf (rws ps) row M)) H Q
theorem ok_rest_of_row (L : Lib K mg) {f : Addr} {fd : FuncData} (F : L2.Fun K "rest_of_row" "rest_of_row" s_rest_of_row f fd) : FnOk P w K mg base CX0 2 f fd ["told", "row", "modulus"] (spRest K) := by
  obtain ⟨f_first_place, fd_first_place, F_first_place⟩ := L.first_place
  obtain ⟨f_less_times, fd_less_times, F_less_times⟩ := L.less_times
  obtain ⟨f_plain_row, fd_plain_row, F_plain_row⟩ := L.plain_row
  have G_plain_row : FnOk P w K mg base CX0 1 f_plain_row fd_plain_row _ (spPlain K) := ok_plain_row L F_plain_row.F
  have G_first_place : FnOk P w K mg base CX0 1 f_first_place fd_first_place _ (spFirst K) := ok_first_place L F_first_place.F
  have G_less_times : FnOk P w K mg base CX0 1 f_less_times fd_less_times _ (spLess K) := ok_less_times L F_less_times.F
  refine F.ok sc_rest_of_row (fun vs H Q E h => ?_) (fun cdv A outer s H vs Q E hr h => ?_)
  · obtain ⟨p, q, ps, row, wd, M, rfl, _⟩ := h; rfl
  · obtain ⟨p, q, ps, row, wd, M, rfl, ⟨hp, hR, hq, hm, hl, hwd, hps, hb, hro⟩, fin⟩ := h
    refine ⟨_, (pss_cons (ps_set (i := 3) sc_rest_of_row.nd rfl (Or.inl rfl) (pe_call G_plain_row (hr.mono (by decide)) (by rfl) F_plain_row.g F_plain_row.F.kp F_plain_row.b .nil pass0 (pa_cons (pv 1) (pa_cons (pv 2) pa_nil))))
    (pss_cons (ps_for PassesOwn.never rfl (pi_list (pv 0)) (pg_name (i := 4) sc_rest_of_row.nd rfl (Or.inl rfl))
      (pss_cons (ps_set (i := 5) sc_rest_of_row.nd rfl (Or.inl rfl) (pe_call G_first_place (hr.mono (by decide)) (by rfl) F_first_place.g F_first_place.F.kp F_first_place.b .nil pass0 (pa_cons (pv 4) pa_nil)))
    (pss_one (ps_set (i := 3) sc_rest_of_row.nd rfl (Or.inl rfl) (pe_call G_less_times (hr.mono (by decide)) (by rfl) F_less_times.g F_less_times.F.kp F_less_times.b .nil pass0 (pa_cons (pv 3) (pa_cons (pv 4) (pa_cons (pe_op op_fdivZ (pe_ix ix_list (pv 3) (pv 5) (fun _ _ => rfl)) (pe_ix ix_list (pv 4) (pv 5) (fun _ _ => rfl))) (pa_cons (pv 2) pa_nil)))))))))
    (pss_one (ps_ret (pv 3))))), ?_⟩
    refine q_asgL (el_call (ea_cons (ev_var rfl) (ea_cons (ev_var rfl) ea_nil)) (plain_spl hq (by omega) hm.nonneg)) fun l H1 nl e1 hl1 => ?_
    refine q_forLn (ev_var rfl) (ex_l e1 hp) (fun i σ' H' => ∃ (l : Addr) (v4 v5 : Option V), σ' = [some (.ref p), some (.ref q), some (.int M), some (.ref l), v4, v5] ∧ Ex H H' ∧ H l = none ∧ H' l = some (.lst (iL (restOf ((rws ps).take i) row M))))
      (fun H2 e2 => ⟨l, none, none, rfl, e1.trans e2, nl, by simpa [restOf] using e2 _ _ hl1⟩) (fun i σ' H' _ ⟨_, _, _, _, e, _⟩ => ex_l e hp) ?_ ?_
    · rintro i x σ' H' hi ⟨l, v4, v5, rfl, ex, nl, hl3⟩
      obtain ⟨y, hy, rfl⟩ := adr_get hi
      have hyin := List.mem_of_getElem? hy
      have ho := hro y.2 (mem_rws hyin)
      have hro' : ∀ o ∈ (rws ps).take i, RO M wd o := fun o h => hro o (List.mem_of_mem_take h)
      have htl : ((rws ps).take i).length ≤ 6 := by rw [List.length_take, rws_len]; omega
      obtain ⟨i1, _, _⟩ := rest_inv hm hl hb htl hro'
      have hy2 : SqL K H' y.1 (iL y.2) := (hR.ex ex).seq hyin
      refine q_asg (ev_call (z := .int (firstP y.2 : Nat)) (ea_cons (ev_var rfl) ea_nil) (firstP_spv hy2 (by rw [ho.len]; exact hwd))) fun H2 e2 => ?_
      refine s_asgL (el_call (ea_cons (ev_var rfl) (ea_cons (ev_var rfl) (ea_cons (ev_fdiv (ev_ix (ev_var rfl) (ev_var rfl) (sq_of (e2 _ _ hl3)) (iL_en (by rw [i1]; exact ho.fp))) (ev_ix (ev_var rfl) (ev_var rfl) (ex_l e2 hy2) (iL_en (by rw [ho.len]; exact ho.fp))) (red_div ho _)) (ea_cons (ev_var rfl) ea_nil)))) (less_spl (sq_of (e2 _ _ hl3)) (ex_l e2 hy2) (by rw [i1]; exact hwd) hm.nonneg fun c hc => red_mul hm hl hb htl hro' ho hc)) fun l2 H3 nl2 e3 hl4 => ?_
      exact ⟨l2, _, _, rfl, (ex.trans e2).trans e3, fresh_back (ex.trans e2) nl2, by rw [restOf_take (rws_at hy)]; exact hl4⟩
    · rintro σ' H' ⟨l, v4, v5, rfl, ex, nl, hl3⟩
      rw [adr_len, List.take_of_length_le (by rw [rws_len]; exact Nat.le_refl _)] at hl3
      exact s_ret (ev_var rfl) fun H2 e2 => fin l H2 nl (ex.trans e2) (e2 _ _ hl3)
theorem rest_spl {p q : Addr} {ps : List AR} {row : Row} {wd : Nat} {M : Int} (h : RedPre K H p q ps row wd M) : SpL (spRest K) [.ref p, .ref q, .int M] H (iL (restOf (rws ps) row M)) := fun H1 e1 Q q' _ => by
  obtain ⟨h1, h2, h3, hrest⟩ := h
  exact ⟨p, q, ps, row, wd, M, rfl, ⟨ex_l e1 h1, h2.ex e1, ex_l e1 h3, hrest⟩, q'⟩
def spIn (K : PySem.W.Frag) : Sp := fun vs H Q _ => ∃ (p q : Addr) (ps : List AR) (row : Row) (wd : Nat) (M : Int), vs = [.ref p, .ref q, .int M] ∧ RedPre K H p q ps row wd M ∧ RetV (.bl (isZ (restOf (rws ps) row M))) H Q
end
end Mine
set_option Elab.async false
set_option linter.all false
set_option maxRecDepth 100000
set_option maxHeartbeats 4000000
namespace Mine
open PySem PySem.Spec PyProof.Rows L2 Evl
/-! ### tracked data of any depth -/
mutual
inductive Dt (H : Hp) : V → PyData → Prop
  | non : Dt H .non .none
  | bl (b : Bool) : Dt H (.bl b) (.bool b)
  | int (i : Int) : Dt H (.int i) (.int i)
  | str (x : Str) : Dt H (.str x) (.str x)
  | lst {a : Addr} {xs : List V} {ds : List PyData} : H a = some (.lst xs) → DtAll H xs ds → Dt H (.ref a) (.list ds)
  | tup {a : Addr} {xs : List V} {ds : List PyData} : H a = some (.tup xs) → DtAll H xs ds → Dt H (.ref a) (.tuple ds)
inductive DtAll (H : Hp) : List V → List PyData → Prop
  | nil : DtAll H [] []
  | cons {v : V} {vs : List V} {d : PyData} {ds : List PyData} : Dt H v d → DtAll H vs ds → DtAll H (v :: vs) (d :: ds)
end
mutual
theorem Dt.ex {H H' : Hp} (e : Ex H H') : ∀ {v : V} {d : PyData}, Dt H v d → Dt H' v d
  | _, _, .non => .non
  | _, _, .bl b => .bl b
  | _, _, .int i => .int i
  | _, _, .str x => .str x
  | _, _, .lst h a => .lst (e _ _ h) (DtAll.ex e a)
  | _, _, .tup h a => .tup (e _ _ h) (DtAll.ex e a)
theorem DtAll.ex {H H' : Hp} (e : Ex H H') : ∀ {vs : List V} {ds : List PyData}, DtAll H vs ds → DtAll H' vs ds
  | _, _, .nil => .nil
  | _, _, .cons h t => .cons (Dt.ex e h) (DtAll.ex e t)
end
theorem DtAll.len {H : Hp} : ∀ {vs : List V} {ds : List PyData}, DtAll H vs ds → vs.length = ds.length
  | _, _, .nil => rfl
  | _, _, .cons _ t => by rw [List.length_cons, List.length_cons, DtAll.len t]
theorem DtAll.get {H : Hp} : ∀ {vs : List V} {ds : List PyData}, DtAll H vs ds → ∀ {i : Nat}, i < ds.length → ∃ v d, vs[i]? = some v ∧ ds[i]? = some d ∧ Dt H v d
  | _, _, .nil, i, h => by simp at h
  | _, _, .cons h t, 0, _ => ⟨_, _, rfl, rfl, h⟩
  | _, _, .cons h t, i + 1, hi => by
    obtain ⟨v, d, h1, h2, h3⟩ := DtAll.get t (i := i) (by simpa using hi)
    exact ⟨v, d, by simpa using h1, by simpa using h2, h3⟩
theorem dtI_all {H : Hp} : ∀ r : Row, DtAll H (iL r) (r.map PyData.int)
  | [] => .nil
  | x :: r => .cons (.int x) (dtI_all r)
theorem dtI {H : Hp} {a : Addr} {r : Row} (h : H a = some (.lst (iL r))) : Dt H (.ref a) (dI r) := .lst h (dtI_all r)
theorem dtR_all {H : Hp} : ∀ ps : List AR, Rws H ps → DtAll H (adr ps) ((rws ps).map dI)
  | [], _ => .nil
  | x :: ps, h => .cons (dtI (h x (List.mem_cons_self ..))) (dtR_all ps fun y hy => h y (List.mem_cons_of_mem _ hy))
theorem dtR {H : Hp} {a : Addr} {ps : List AR} (h : H a = some (.lst (adr ps))) (hr : Rws H ps) : Dt H (.ref a) (dR (rws ps)) := .lst h (dtR_all ps hr)
def tyN : PyData → String
  | .none => "NoneType"
  | .bool _ => "bool"
  | .int _ => "int"
  | .str _ => "str"
  | .list _ => "list"
  | .tuple _ => "tuple"
  | .dict _ => "dict"
theorem kb_NoneType_list : kitB "NoneType" "list" = some false := by decide +kernel
theorem kb_NoneType_tuple : kitB "NoneType" "tuple" = some false := by decide +kernel
theorem kb_NoneType_dict : kitB "NoneType" "dict" = some false := by decide +kernel
theorem kb_NoneType_bool : kitB "NoneType" "bool" = some false := by decide +kernel
theorem kb_NoneType_str : kitB "NoneType" "str" = some false := by decide +kernel
theorem kb_NoneType_int : kitB "NoneType" "int" = some false := by decide +kernel
theorem kb_bool_list : kitB "bool" "list" = some false := by decide +kernel
theorem kb_bool_tuple : kitB "bool" "tuple" = some false := by decide +kernel
theorem kb_bool_dict : kitB "bool" "dict" = some false := by decide +kernel
theorem kb_bool_bool : kitB "bool" "bool" = some true := by decide +kernel
theorem kb_bool_str : kitB "bool" "str" = some false := by decide +kernel
theorem kb_bool_int : kitB "bool" "int" = some true := by decide +kernel
theorem kb_int_list : kitB "int" "list" = some false := by decide +kernel
theorem kb_int_tuple : kitB "int" "tuple" = some false := by decide +kernel
theorem kb_int_dict : kitB "int" "dict" = some false := by decide +kernel
theorem kb_int_bool : kitB "int" "bool" = some false := by decide +kernel
theorem kb_int_str : kitB "int" "str" = some false := by decide +kernel
theorem kb_int_int : kitB "int" "int" = some true := by decide +kernel
theorem kb_str_list : kitB "str" "list" = some false := by decide +kernel
theorem kb_str_tuple : kitB "str" "tuple" = some false := by decide +kernel
theorem kb_str_dict : kitB "str" "dict" = some false := by decide +kernel
theorem kb_str_bool : kitB "str" "bool" = some false := by decide +kernel
theorem kb_str_str : kitB "str" "str" = some true := by decide +kernel
theorem kb_str_int : kitB "str" "int" = some false := by decide +kernel
theorem kb_list_list : kitB "list" "list" = some true := by decide +kernel
theorem kb_list_tuple : kitB "list" "tuple" = some false := by decide +kernel
theorem kb_list_dict : kitB "list" "dict" = some false := by decide +kernel
theorem kb_list_bool : kitB "list" "bool" = some false := by decide +kernel
theorem kb_list_str : kitB "list" "str" = some false := by decide +kernel
theorem kb_list_int : kitB "list" "int" = some false := by decide +kernel
theorem kb_tuple_list : kitB "tuple" "list" = some false := by decide +kernel
theorem kb_tuple_tuple : kitB "tuple" "tuple" = some true := by decide +kernel
theorem kb_tuple_dict : kitB "tuple" "dict" = some false := by decide +kernel
theorem kb_tuple_bool : kitB "tuple" "bool" = some false := by decide +kernel
theorem kb_tuple_str : kitB "tuple" "str" = some false := by decide +kernel
theorem kb_tuple_int : kitB "tuple" "int" = some false := by decide +kernel
theorem kb_dict_list : kitB "dict" "list" = some false := by decide +kernel
theorem kb_dict_tuple : kitB "dict" "tuple" = some false := by decide +kernel
theorem kb_dict_dict : kitB "dict" "dict" = some true := by decide +kernel
theorem kb_dict_bool : kitB "dict" "bool" = some false := by decide +kernel
theorem kb_dict_str : kitB "dict" "str" = some false := by decide +kernel
theorem kb_dict_int : kitB "dict" "int" = some false := by decide +kernel
theorem Dt.ty {K : PySem.W.Frag} {H : Hp} {v : V} {d : PyData} (h : Dt H v d) : TyX K H v (.type (tyN d)) := by
  cases h with
  | non => exact .base .non
  | bl b => exact .base (.bl b)
  | int i => exact .base (.int i)
  | str x => exact .base (.str x)
  | lst h _ => exact .base (.lst h)
  | tup h _ => exact .base (.tup h)
section
variable {K : PySem.W.Frag} {σ : L2.St} {H H' : Hp} {ta tb te tx tl : TE} {t u : TT} {x y z v w1 : V} {D : Ends} {tu tw tz : TS}
theorem ev_isi {d : PyData} {n : String} {b : Bool} (hx : Ev ta σ H x) (hd : Dt H x d) (hk : kitB (tyN d) n = some b) : Ev (tCB (rIsi K) (tCons ta (tCons (tC (.ty n)) tNil))) σ H (.bl b) :=
  ev_cb (ea_cons hx (ea_cons ev_c ea_nil)) fun H1 e Q q => ⟨x, .ty n, _, _, b, rfl, .ty n, (hd.ex e).ty, kit_ty hk, q H1 (Ex.refl H1)⟩
theorem ev_isiT {d : PyData} {n m : String} {b c : Bool} (hx : Ev ta σ H x) (hd : Dt H x d) (hk : kitB (tyN d) n = some b) (hk2 : kitB (tyN d) m = some c) : Ev (tCB (rIsiT K) (tCons ta (tCons (tTup (tCons (tC (.ty n)) (tCons (tC (.ty m)) tNil))) tNil))) σ H (.bl (b || c)) := fun H0 e0 Q q =>
  hx H0 e0 _ fun H1 e1 => ⟨by show 2 ≤ sizeLine; decide, fun p np => ⟨x, p, _, _, [.type n, .type m], b || c, rfl, upd_same, .cons (.ty n) (.cons (.ty m) .nil), (hd.ex ((e0.trans e1).trans (Ex.new np))).ty, kitAny_cons (kit_ty hk) (fun hb => by
    rw [hb, Bool.false_or]
    exact kitAny_cons (kit_ty hk2) (fun hc => by rw [hc]; exact kitAny_nil) (fun hc => hc)) (fun hb => by rw [hb]; rfl), q _ (e1.trans (Ex.new np))⟩⟩
theorem et_is' {a b : V} (h : Ev te σ H a) (e : a = b) : Ev te σ H b := ev_is h e
theorem rv_ixS2 {p : Addr} {xs : List V} {i : Int} {b : Bool} (h : ∀ H1, Ex H H1 → SqL K H1 p xs ∨ SqT K H1 p xs) (ha : atI xs i = some v) : RV (rIx K) (.ref p) (.int i) H v := fun H1 e _ q => by
  rcases h H1 e with h | h
  · exact .inl ⟨p, xs, i, v, rfl, rfl, h, ha, q H1 (Ex.refl H1)⟩
  · exact .inr (.inl ⟨p, xs, i, v, rfl, rfl, h, ha, q H1 (Ex.refl H1)⟩)
theorem ev_len2 {p : Addr} {xs : List V} (ha : Ev ta σ H (.ref p)) (h : ∀ H1, Ex H H1 → SqL K H1 p xs ∨ SqT K H1 p xs) : Ev (tCB (rLenS K) (tCons ta tNil)) σ H (.int (xs.length : Int)) := fun H1 e Q q =>
  ha H1 e _ fun H2 e2 => ⟨p, xs, rfl, h _ (e.trans e2), q H2 e2⟩
theorem ev_neB {i j : Bool} (ha : Ev ta σ H (.bl i)) (hb : Ev tb σ H (.bl j)) : Ev (tOp rNe ta tb) σ H (.bl (!decide (i = j))) := ev_is (ev_op ha hb (rv_ne rfl)) (by
  by_cases e : i = j
  · subst e; simp
  · have : ¬ V.bl i = V.bl j := fun h => e (V.bl.inj h)
    simp [e])
theorem ev_eqS (hs : scal x x = true) (ha : Ev ta σ H x) (hb : Ev tb σ H x) : Ev (tOp rEq ta tb) σ H (.bl true) := ev_is (ev_op ha hb (rv_eq hs)) (by simp)
theorem ev_cbL {r : List V → Hp → VK → Prop} {xs : List V} (h : EvL te σ H xs) (hr : ∀ p H1, Ex H H1 → H1 p = some (.lst xs) → RC r [.ref p] H1 z) : Ev (tCB r (tCons te tNil)) σ H z := fun H0 e0 Q q =>
  h H0 e0 _ fun p H1 np e1 hp => hr p H1 (e0.trans e1) hp H1 (Ex.refl H1) Q fun H2 e2 => q H2 (e1.trans e2)
theorem el_allT {ta : TA} {n : Nat} {j : Nat} {vs : List Nat} (h : EvA ta σ H [.int (n : Nat)]) (hn : n ≤ 40000) (hw : ∀ x, wipe ((wipe σ vs).set j (some x)) vs = wipe σ vs)
    (he : ∀ (i : Nat) H1, Ex H H1 → i < n → Ev te ((wipe σ vs).set j (some (.int (i : Int)))) H1 (.bl true)) : Ev (tCB (rAll K) (tCons (tLc (iRng1 ta) (gName j) tYes te vs) tNil)) σ H (.bl true) := by
  have e : given ((n : Nat) : Int).toNat (fun _ => true) (fun i => V.bl true) = (List.replicate n true).map V.bl := given_all _ _ _ (by simp) fun i z hz => by
    rw [List.getElem?_map] at hz
    obtain ⟨b, hb, rfl⟩ := Option.map_eq_some_iff.mp hz
    have := List.mem_of_getElem? hb
    rw [List.eq_of_mem_replicate this]
  have h1 : EvL (tLc (iRng1 ta) (gName j) tYes te vs) σ H ((List.replicate n true).map V.bl) := by
    rw [← e]
    exact el_lcR1 (fun _ => true) (fun i => V.bl true) h (by omega) hw (fun i H1 e hi => et_yes) fun i H1 e hi _ => he i H1 e (by omega)
  have h2 : (List.replicate n true).all id = true := by simp
  exact ev_cbL h1 fun p H1 e1 hp H2 e2 Q q => ⟨p, List.replicate n true, rfl, ex_l e2 (sq_of hp), by rw [h2]; exact q H2 (Ex.refl H2)⟩
end
section
variable {P : Program} {w : World} {K : PySem.W.Frag} {mg : Str → Option Value} {base : Heap} {H : Hp}
/-! ### _law_same of equal data -/
mutual
def cnt : PyData → Nat
  | .list xs => cntAll xs
  | .tuple xs => cntAll xs
  | _ => 0
def cntAll : List PyData → Nat
  | [] => 0
  | x :: xs => cnt x + 1 + cntAll xs
end
theorem cnt_le {d : PyData} : ∀ {ds : List PyData}, d ∈ ds → cnt d ≤ cntAll ds
  | e :: ds, h => by
    rcases List.mem_cons.mp h with z | z
    · subst z; simp only [cntAll]; omega
    · have := cnt_le z
      simp only [cntAll]; omega
theorem len_cnt : ∀ ds : List PyData, ds.length ≤ cntAll ds
  | [] => Nat.zero_le _
  | d :: ds => by
    have := len_cnt ds
    simp only [cntAll, List.length_cons]; omega
theorem depth_le {d : PyData} : ∀ {ds : List PyData}, d ∈ ds → d.depth ≤ PyData.depthAll ds
  | e :: ds, h => by
    rcases List.mem_cons.mp h with z | z
    · subst z; simp only [PyData.depthAll]; omega
    · have := depth_le z
      simp only [PyData.depthAll]; omega
def spSame (n : Nat) : Sp := fun vs H Q _ => ∃ (x y : V) (d : PyData), vs = [x, y] ∧ Dt H x d ∧ Dt H y d ∧ d.depth ≤ n ∧ cnt d ≤ 40000 ∧ RetV (.bl true) H Q
theorem same_step {f : Addr} {fd : FuncData} (L : Lib K mg) (F_law_same : Fn K mg "_law_same" s_law_same ["a", "b"] f fd) {n lv : Nat} {sp : Sp} (G_law_same : FnOk P w K mg base CX0 lv f fd ["a", "b"] sp)
    (rec : ∀ (x y : V) (d : PyData) (H : Hp), Dt H x d → Dt H y d → d.depth < n → cnt d ≤ 40000 → SpV sp [x, y] H (.bl true)) : FnOk P w K mg base CX0 (lv + 1) f fd ["a", "b"] (spSame n) := by
  refine F_law_same.F.ok sc_law_same (fun vs H Q E h => ?_) (fun cdv A outer s H vs Q E hr h => ?_)
  · obtain ⟨x, y, d, rfl, _⟩ := h; rfl
  · obtain ⟨x, y, d, rfl, hx, hy, hdep, hcnt, fin⟩ := h
    refine ⟨_, (pss_cons (ps_if (pt_val (pe_callB call_isiT (by rfl) L.isinstance (by decide +kernel) (pa_cons (pv 1) (pa_cons (pe_tup (pa_cons (pe_bltn (v := .ty "list") (by rfl) L.list (by decide +kernel) rfl) (pa_cons (pe_bltn (v := .ty "tuple") (by rfl) L.tuple (by decide +kernel) rfl) pa_nil))) pa_nil))))
      (pss_cons (ps_if (PW.pt (pw_or (pt_not (pt_val (pe_callB call_isiT (by rfl) L.isinstance (by decide +kernel) (pa_cons (pv 0) (pa_cons (pe_tup (pa_cons (pe_bltn (v := .ty "list") (by rfl) L.list (by decide +kernel) rfl) (pa_cons (pe_bltn (v := .ty "tuple") (by rfl) L.tuple (by decide +kernel) rfl) pa_nil))) pa_nil))))) (pw_or (pt_cmpR op_ne (pe_callB call_isi (by rfl) L.isinstance (by decide +kernel) (pa_cons (pv 0) (pa_cons (pe_bltn (v := .ty "list") (by rfl) L.list (by decide +kernel) rfl) pa_nil))) (pe_callB call_isi (by rfl) L.isinstance (by decide +kernel) (pa_cons (pv 1) (pa_cons (pe_bltn (v := .ty "list") (by rfl) L.list (by decide +kernel) rfl) pa_nil))) (nomark _)) (pw_or1 (pt_cmpR op_ne (pe_callB call_len_seq (by rfl) L.len (by decide +kernel) (pa_cons (pv 0) pa_nil)) (pe_callB call_len_seq (by rfl) L.len (by decide +kernel) (pa_cons (pv 1) pa_nil)) (nomark _))))))
      (pss_one (ps_ret pe_bl))
      pss_nil)
    (pss_one (ps_ret (pe_callB (cr_all rfl) (by rfl) L.all (by decide +kernel) (pa_cons (pe_lc (own := [("at", 2)]) (g := gName 2) (tt := tYes) rfl sc_law_same.nd (pi_range1 (by rfl) L.range (pa_cons (pe_callB call_len_seq (by rfl) L.len (by decide +kernel) (pa_cons (pv 1) pa_nil)) pa_nil)) (blkOk_by (own := [("at", 2)]) (N := N_law_same) (sc := defScope s_law_same) (by decide +kernel)) (fun _ _ _ _ _ => (pg_name (i := 2) sc_law_same.nd rfl (Or.inl rfl))) (fun _ _ _ _ _ => pts_nil) (fun _ _ _ _ _ => (pe_call G_law_same hr (by rfl) F_law_same.g F_law_same.F.kp F_law_same.b .nil pass0 (pa_cons (pe_ix (ix_seqK (K := K)) (pv 0) (pv 2) (fun _ _ => rfl)) (pa_cons (pe_ix (ix_seqK (K := K)) (pv 1) (pv 2) (fun _ _ => rfl)) pa_nil))))) pa_nil)))))
      pss_nil)
    (pss_cons (ps_if (pt_val (pe_callB call_isi (by rfl) L.isinstance (by decide +kernel) (pa_cons (pv 1) (pa_cons (pe_bltn (v := .ty "dict") (by rfl) L.dict (by decide +kernel) rfl) pa_nil))))
      (pss_one ps_never)
      pss_nil)
    (pss_cons (ps_if (pt_cmpR op_isN (pv 1) pe_non (nomark _))
      (pss_one (ps_ret (pe_cmpR op_isN (pv 0) pe_non (nomark _))))
      pss_nil)
    (pss_cons (ps_if (pt_val (pe_callB call_isi (by rfl) L.isinstance (by decide +kernel) (pa_cons (pv 1) (pa_cons (pe_bltn (v := .ty "bool") (by rfl) L.bool (by decide +kernel) rfl) pa_nil))))
      (pss_one (ps_ret (pe_and (pe_callB call_isi (by rfl) L.isinstance (by decide +kernel) (pa_cons (pv 0) (pa_cons (pe_bltn (v := .ty "bool") (by rfl) L.bool (by decide +kernel) rfl) pa_nil))) (pe_one (pe_cmpR op_eq (pv 0) (pv 1) (nomark _))))))
      pss_nil)
    (pss_cons (ps_if (pt_val (pe_callB call_isi (by rfl) L.isinstance (by decide +kernel) (pa_cons (pv 1) (pa_cons (pe_bltn (v := .ty "str") (by rfl) L.str (by decide +kernel) rfl) pa_nil))))
      (pss_one (ps_ret (pe_and (pe_callB call_isi (by rfl) L.isinstance (by decide +kernel) (pa_cons (pv 0) (pa_cons (pe_bltn (v := .ty "str") (by rfl) L.str (by decide +kernel) rfl) pa_nil))) (pe_one (pe_cmpR op_eq (pv 0) (pv 1) (nomark _))))))
      pss_nil)
    (pss_one (ps_ret (pe_and (pe_callB call_isi (by rfl) L.isinstance (by decide +kernel) (pa_cons (pv 0) (pa_cons (pe_bltn (v := .ty "int") (by rfl) L.int (by decide +kernel) rfl) pa_nil))) (pe_and (pe_not (pe_callB call_isi (by rfl) L.isinstance (by decide +kernel) (pa_cons (pv 0) (pa_cons (pe_bltn (v := .ty "bool") (by rfl) L.bool (by decide +kernel) rfl) pa_nil)))) (pe_one (pe_cmpR op_eq (pv 0) (pv 1) (nomark _)))))))))))), ?_⟩
    have seq : ∀ {xs ys : List V} {ds : List PyData} {a b : Addr} {H1 : Hp}, Ex H H1 → DtAll H xs ds → DtAll H ys ds → (∀ H2, Ex H1 H2 → SqL K H2 a xs ∨ SqT K H2 a xs) → (∀ H2, Ex H1 H2 → SqL K H2 b ys ∨ SqT K H2 b ys) → x = .ref a → y = .ref b → (PyData.depthAll ds < n) → cntAll ds ≤ 40000 →
        Ev (tCB (rAll K) (tCons (tLc (iRng1 (tCons (tCB (rLenS K) (tCons (tVar 1) tNil)) tNil)) (gName 2) tYes (tCall sp [] (fun _ _ _ => False) (tCons (tOp (rIx K) (tVar 0) (tVar 2)) (tCons (tOp (rIx K) (tVar 1) (tVar 2)) tNil))) [2]) tNil)) (start N_law_same [x, y]) H1 (.bl true) := by
      intro xs ys ds a b H1 e1 hxs hys sx sy ex ey hd hc
      subst ex ey
      have lx := hxs.len
      have ly := hys.len
      have ll := len_cnt ds
      refine el_allT (n := ys.length) (ea_cons (ev_len2 (ev_var rfl) sy) ea_nil) (by omega) (fun _ => rfl) fun i H2 e2 hi => ?_
      obtain ⟨v1, d1, g1, g2, g3⟩ := hxs.get (i := i) (by omega)
      obtain ⟨v2, d2, k1, k2, k3⟩ := hys.get (i := i) (by omega)
      rw [g2] at k2
      cases k2
      have dm := List.mem_of_getElem? g2
      exact ev_call (vs := [v1, v2]) (dvs := []) (ea_cons (ev_op (ev_var rfl) (ev_var rfl) (rv_ixS2 (b := true) (fun H3 e3 => sx H3 (e2.trans e3)) (atI_nat g1))) (ea_cons (ev_op (ev_var rfl) (ev_var rfl) (rv_ixS2 (b := true) (fun H3 e3 => sy H3 (e2.trans e3)) (atI_nat k1))) ea_nil))
        (rec v1 v2 d1 H2 (g3.ex (e1.trans e2)) (k3.ex (e1.trans e2)) (Nat.lt_of_le_of_lt (depth_le dm) hd) (Nat.le_trans (cnt_le dm) hc))
    cases hx with
    | non =>
      refine q_when (b := false) (et_B (ev_isiT (b := false) (c := false) (ev_var rfl) hy kb_NoneType_list kb_NoneType_tuple)) (fun h => nomatch h) fun _ H1 e1 => ?_
      refine q_when (b := false) (et_B (ev_isi (ev_var rfl) (hy.ex e1) kb_NoneType_dict)) (fun h => nomatch h) fun _ H2 e2 => ?_
      cases hy
      refine q_when (b := true) (et_test (et_is' (ev_op (ev_var rfl) ev_c rv_isN) (by simp))) (fun _ H3 e3 => s_ret (ev_is (ev_op (ev_var rfl) ev_c rv_isN) (by simp)) fun H4 e4 => fin H4 (((e1.trans e2).trans e3).trans e4)) (fun h => nomatch h)
    | bl b =>
      refine q_when (b := false) (et_B (ev_isiT (b := false) (c := false) (ev_var rfl) hy kb_bool_list kb_bool_tuple)) (fun h => nomatch h) fun _ H1 e1 => ?_
      refine q_when (b := false) (et_B (ev_isi (ev_var rfl) (hy.ex e1) kb_bool_dict)) (fun h => nomatch h) fun _ H2 e2 => ?_
      cases hy
      refine q_when (b := false) (et_test (et_is' (ev_op (ev_var rfl) ev_c rv_isN) (by simp))) (fun h => nomatch h) fun _ H3 e3 => ?_
      refine q_when (b := true) (et_B (ev_isi (ev_var rfl) (.bl b) kb_bool_bool)) (fun _ H4 e4 => s_ret (ev_is (ev_andV (a := true) (b := true) (ev_isi (ev_var rfl) (.bl b) kb_bool_bool) fun _ => ev_eqS rfl (ev_var rfl) (ev_var rfl)) (by rfl)) fun H5 e5 => fin H5 ((((e1.trans e2).trans e3).trans e4).trans e5)) (fun h => nomatch h)
    | int i =>
      refine q_when (b := false) (et_B (ev_isiT (b := false) (c := false) (ev_var rfl) hy kb_int_list kb_int_tuple)) (fun h => nomatch h) fun _ H1 e1 => ?_
      refine q_when (b := false) (et_B (ev_isi (ev_var rfl) (hy.ex e1) kb_int_dict)) (fun h => nomatch h) fun _ H2 e2 => ?_
      cases hy
      refine q_when (b := false) (et_test (et_is' (ev_op (ev_var rfl) ev_c rv_isN) (by simp))) (fun h => nomatch h) fun _ H3 e3 => ?_
      refine q_when (b := false) (et_B (ev_isi (ev_var rfl) (.int i) kb_int_bool)) (fun h => nomatch h) fun _ H4 e4 => ?_
      refine q_when (b := false) (et_B (ev_isi (ev_var rfl) (.int i) kb_int_str)) (fun h => nomatch h) fun _ H5 e5 => ?_
      exact s_ret (ev_is (ev_andV (ev_isi (ev_var rfl) (.int i) (b := true) kb_int_int) fun _ => ev_andV (ev_notV (ev_isi (ev_var rfl) (.int i) (b := false) kb_int_bool)) fun _ => ev_eqS rfl (ev_var rfl) (ev_var rfl)) (by rfl)) fun H6 e6 => fin H6 (((((e1.trans e2).trans e3).trans e4).trans e5).trans e6)
    | str z =>
      refine q_when (b := false) (et_B (ev_isiT (b := false) (c := false) (ev_var rfl) hy kb_str_list kb_str_tuple)) (fun h => nomatch h) fun _ H1 e1 => ?_
      refine q_when (b := false) (et_B (ev_isi (ev_var rfl) (hy.ex e1) kb_str_dict)) (fun h => nomatch h) fun _ H2 e2 => ?_
      cases hy
      refine q_when (b := false) (et_test (et_is' (ev_op (ev_var rfl) ev_c rv_isN) (by simp))) (fun h => nomatch h) fun _ H3 e3 => ?_
      refine q_when (b := false) (et_B (ev_isi (ev_var rfl) (.str z) kb_str_bool)) (fun h => nomatch h) fun _ H4 e4 => ?_
      refine q_when (b := true) (et_B (ev_isi (ev_var rfl) (.str z) kb_str_str)) (fun _ H5 e5 => s_ret (ev_is (ev_andV (a := true) (b := true) (ev_isi (ev_var rfl) (.str z) kb_str_str) fun _ => ev_eqS rfl (ev_var rfl) (ev_var rfl)) (by rfl)) fun H6 e6 => fin H6 (((((e1.trans e2).trans e3).trans e4).trans e5).trans e6)) (fun h => nomatch h)
    | @lst a xs ds ha hxs =>
      have hx' : Dt H (.ref a) (.list ds) := .lst ha hxs
      have hy' := hy
      cases hy with
      | @lst b ys _ hb hys =>
        have hdep' : PyData.depthAll ds + 1 ≤ n := by simpa only [PyData.depth] using hdep
        have hcnt' : cntAll ds ≤ 40000 := by simpa only [cnt] using hcnt
        refine q_when (b := true) (et_B (ev_isiT (b := true) (c := false) (ev_var rfl) hy' kb_list_list kb_list_tuple)) (fun _ H1 e1 => ?_) (fun h => nomatch h)
        refine q_when (b := false) (et_is (et_or (a := false) (et_is (et_not (et_B (ev_isiT (b := true) (c := false) (ev_var rfl) (hx'.ex e1) kb_list_list kb_list_tuple))) rfl) fun _ => et_or (a := false) (et_test (ev_is (ev_neB (ev_isi (b := true) (ev_var rfl) (hx'.ex e1) kb_list_list) (ev_isi (b := true) (ev_var rfl) (hy'.ex e1) kb_list_list)) (by simp)))
          fun _ => et_test (b := false) (ev_is (ev_neI (ev_len2 (ev_var rfl) fun H2 e2 => .inl (sq_of (e2 _ _ (e1 _ _ ha)))) (ev_len2 (ev_var rfl) fun H2 e2 => .inl (sq_of (e2 _ _ (e1 _ _ hb))))) (by rw [hxs.len, hys.len]; simp))) rfl) (fun h => nomatch h) fun _ H2 e2 => ?_
        exact s_ret (seq (e1.trans e2) hxs hys (fun H3 e3 => .inl (sq_of (((e1.trans e2).trans e3) _ _ ha))) (fun H3 e3 => .inl (sq_of (((e1.trans e2).trans e3) _ _ hb))) rfl rfl (by omega) hcnt') fun H3 e3 => fin H3 ((e1.trans e2).trans e3)
    | @tup a xs ds ha hxs =>
      have hx' : Dt H (.ref a) (.tuple ds) := .tup ha hxs
      have hy' := hy
      cases hy with
      | @tup b ys _ hb hys =>
        have hdep' : PyData.depthAll ds + 1 ≤ n := by simpa only [PyData.depth] using hdep
        have hcnt' : cntAll ds ≤ 40000 := by simpa only [cnt] using hcnt
        refine q_when (b := true) (et_B (ev_isiT (b := false) (c := true) (ev_var rfl) hy' kb_tuple_list kb_tuple_tuple)) (fun _ H1 e1 => ?_) (fun h => nomatch h)
        refine q_when (b := false) (et_is (et_or (a := false) (et_is (et_not (et_B (ev_isiT (b := false) (c := true) (ev_var rfl) (hx'.ex e1) kb_tuple_list kb_tuple_tuple))) rfl) fun _ => et_or (a := false) (et_test (ev_is (ev_neB (ev_isi (b := false) (ev_var rfl) (hx'.ex e1) kb_tuple_list) (ev_isi (b := false) (ev_var rfl) (hy'.ex e1) kb_tuple_list)) (by simp)))
          fun _ => et_test (b := false) (ev_is (ev_neI (ev_len2 (ev_var rfl) fun H2 e2 => .inr (st_of (e2 _ _ (e1 _ _ ha)))) (ev_len2 (ev_var rfl) fun H2 e2 => .inr (st_of (e2 _ _ (e1 _ _ hb))))) (by rw [hxs.len, hys.len]; simp))) rfl) (fun h => nomatch h) fun _ H2 e2 => ?_
        exact s_ret (seq (e1.trans e2) hxs hys (fun H3 e3 => .inr (st_of (((e1.trans e2).trans e3) _ _ ha))) (fun H3 e3 => .inr (st_of (((e1.trans e2).trans e3) _ _ hb))) rfl rfl (by omega) hcnt') fun H3 e3 => fin H3 ((e1.trans e2).trans e3)
theorem ok_law_same {f : Addr} {fd : FuncData} (L : Lib K mg) (F : Fn K mg "_law_same" s_law_same ["a", "b"] f fd) : ∀ n, FnOk P w K mg base CX0 (n + 2) f fd ["a", "b"] (spSame n)
  | 0 => same_step L F (sp := fun _ _ _ _ => False) (F.F.ok sc_law_same (fun _ _ _ _ h => h.elim) (fun _ _ _ _ _ _ _ _ _ h => h.elim)) fun _ _ _ _ _ _ h => absurd h (Nat.not_lt_zero _)
  | n + 1 => same_step L F (ok_law_same L F n) fun x y d H hx hy hd hc H1 e Q q _ => ⟨x, y, d, rfl, hx.ex e, hy.ex e, by omega, hc, q⟩
theorem same_spv {n : Nat} {x y : V} {d : PyData} (hx : Dt H x d) (hy : Dt H y d) (hd : d.depth ≤ n) (hc : cnt d ≤ 40000) : SpV (spSame n) [x, y] H (.bl true) := fun H1 e Q q _ => ⟨x, y, d, rfl, hx.ex e, hy.ex e, hd, hc, q⟩
end
end Mine
set_option Elab.async false
set_option linter.all false
set_option maxRecDepth 100000
set_option maxHeartbeats 4000000
namespace Mine
open PySem PySem.Spec PyProof.Rows L2 Evl
section
variable {K : PySem.W.Frag} {σ : L2.St} {H H' : Hp} {ta tb te tx tl : TE} {t u : TT} {x y z v w1 : V} {D : Ends} {tu tw tz : TS}
theorem et_truK {i : Int} (ha : Ev ta σ H (.int i)) : EvT (tTruK K ta) σ H (decide (i ≠ 0)) := et_truI (K := K) ha
end
section
variable {P : Program} {w : World} {K : PySem.W.Frag} {mg : Str → Option Value} {base : Heap} {H : Hp}
/-! ### _law_less, _law_first, _law_reduce, _law_inside -/
def spLawLess (K : PySem.W.Frag) : Sp := fun vs H Q _ => ∃ (p q : Addr) (r o : Row) (t M : Int), vs = [.ref p, .ref q, .int t, .int M] ∧ H p = some (.lst (iL r)) ∧ SqL K H q (iL o) ∧ r.length ≤ 1000 ∧ 0 ≤ M ∧ (∀ b ∈ o, CMulW t b) ∧
  ∀ (a : Addr) (H2 : Hp), Ex H H2 → H2 a = some (.lst (iL (lessT r o t M))) → (a = p ∨ H a = none) → Q (.ref a) H2
theorem ok_law_less (L : Lib K mg) {f : Addr} {fd : FuncData} (F : L2.Fun K "_law_less" "_law_less" s_law_less f fd) : FnOk P w K mg base CX0 1 f fd ["row", "other", "k", "M"] (spLawLess K) := by
  refine F.ok sc_law_less (fun vs H Q E h => ?_) (fun cdv A outer s H vs Q E hr h => ?_)
  · obtain ⟨p, q, r, o, t, M, rfl, _⟩ := h; rfl
  · obtain ⟨p, q, r, o, t, M, rfl, hp, hq, hl, hM, hc, k⟩ := h
    refine ⟨_, (pss_cons (ps_if (pt_cmpR op_eq (pv 2) pe_int (nomark _))
      (pss_one (ps_ret (pv 0)))
      pss_nil)
    (pss_cons (ps_if (pt_truth (pv 3) (by intro _; rfl))
      (pss_one (ps_ret (pe_lc (own := [("a", 4), ("b", 5)]) (g := gTup _ 2 (gCons (gName 4) (gCons (gName 5) gNil))) (tt := tYes) rfl sc_law_less.nd (pi_zip (by rfl) L.zip (pa_cons (pv 0) (pa_cons (pv 1) pa_nil))) (blkOk_by (own := [("a", 4), ("b", 5)]) (N := N_law_less) (sc := defScope s_law_less) (by decide +kernel)) (fun _ _ _ _ _ => (pg_tup rfl (pgs_cons (pg_name (i := 4) sc_law_less.nd rfl (Or.inl rfl)) (pgs_cons (pg_name (i := 5) sc_law_less.nd rfl (Or.inl rfl)) pgs_nil)))) (fun _ _ _ _ _ => pts_nil) (fun _ _ _ _ _ => (pe_op op_mod (pe_callTy call_int1 (by rfl) L.int (by decide +kernel) (pa_cons (pe_op op_sub (pv 4) (pe_op op_mulW (pv 2) (pv 5))) pa_nil)) (pv 3))))))
      pss_nil)
    (pss_one (ps_ret (pe_lc (own := [("a", 4), ("b", 5)]) (g := gTup _ 2 (gCons (gName 4) (gCons (gName 5) gNil))) (tt := tYes) rfl sc_law_less.nd (pi_zip (by rfl) L.zip (pa_cons (pv 0) (pa_cons (pv 1) pa_nil))) (blkOk_by (own := [("a", 4), ("b", 5)]) (N := N_law_less) (sc := defScope s_law_less) (by decide +kernel)) (fun _ _ _ _ _ => (pg_tup rfl (pgs_cons (pg_name (i := 4) sc_law_less.nd rfl (Or.inl rfl)) (pgs_cons (pg_name (i := 5) sc_law_less.nd rfl (Or.inl rfl)) pgs_nil)))) (fun _ _ _ _ _ => pts_nil) (fun _ _ _ _ _ => (pe_op op_sub (pv 4) (pe_op op_mulW (pv 2) (pv 5))))))))), ?_⟩
    refine q_when (et_test (ev_eqI (ev_var rfl) ev_c)) (fun hb H1 e1 => s_ret (ev_var rfl) fun H2 e2 => ?_) (fun hb H1 e1 => ?_)
    · refine k p H2 (e1.trans e2) ?_ (.inl rfl)
      unfold lessT; rw [if_pos (of_decide_eq_true hb)]; exact (e1.trans e2) _ _ hp
    · refine q_when (et_truI (K := K) (ev_var rfl)) (fun hb2 H2 e2 => s_retL (el_lcZ (fun a b => (a - t * b) % M) (ea_cons (ev_var rfl) (ea_cons (ev_var rfl) ea_nil)) (sq_of ((e1.trans e2) _ _ hp)) (ex_l (e1.trans e2) hq) (by omega) (fun _ _ => rfl) fun a b H3 e3 ha hb3 => ev_mod (ev_int (ev_sub (ev_var rfl) (ev_mulW (ev_var rfl) (ev_var rfl) (hc b hb3)))) (ev_var rfl) ?_) fun p3 H3 n3 e3 h3 => ?_)
        (fun hb2 H2 e2 => s_retL (el_lcZ (fun a b => a - t * b) (ea_cons (ev_var rfl) (ea_cons (ev_var rfl) ea_nil)) (sq_of ((e1.trans e2) _ _ hp)) (ex_l (e1.trans e2) hq) (by omega) (fun _ _ => rfl) fun a b H3 e3 ha hb3 => ev_sub (ev_var rfl) (ev_mulW (ev_var rfl) (ev_var rfl) (hc b hb3))) fun p3 H3 n3 e3 h3 => ?_)
      · have := of_decide_eq_true hb2; omega
      · refine k p3 H3 ((e1.trans e2).trans e3) ?_ (.inr (fresh_back (e1.trans e2) n3))
        unfold lessT; rw [if_neg (of_decide_eq_false hb), if_neg (of_decide_eq_true hb2)]; exact h3
      · refine k p3 H3 ((e1.trans e2).trans e3) ?_ (.inr (fresh_back (e1.trans e2) n3))
        have hM0 : M = 0 := by have := of_decide_eq_false hb2; omega
        unfold lessT; rw [if_neg (of_decide_eq_false hb), if_pos hM0]; exact h3
theorem ok_law_first (L : Lib K mg) {f : Addr} {fd : FuncData} (F : L2.Fun K "_law_first" "_law_first" s_law_first f fd) : FnOk P w K mg base CX0 1 f fd ["row"] (spFirst K) := by
  refine F.ok sc_law_first (fun vs H Q E h => ?_) (fun cdv A outer s H vs Q E hr h => ?_)
  · obtain ⟨p, r, rfl, _⟩ := h; rfl
  · obtain ⟨p, r, rfl, hp, hl, k⟩ := h
    refine ⟨_, (pss_cons (ps_for PassesOwn.never rfl (pi_range1 (by rfl) L.range (pa_cons (pe_callB call_len_seq (by rfl) L.len (by decide +kernel) (pa_cons (pv 0) pa_nil)) pa_nil)) (pg_name (i := 1) sc_law_first.nd rfl (Or.inl rfl))
      (pss_one (ps_if (pt_truth (pe_ix ix_list (pv 0) (pv 1) (fun _ _ => rfl)) (by intro _; rfl))
      (pss_one (ps_ret (pv 1)))
      pss_nil)))
    (pss_one (ps_ret (pe_callB call_len_seq (by rfl) L.len (by decide +kernel) (pa_cons (pv 0) pa_nil))))), ?_⟩
    refine q_forR1 (n := (r.length : Nat)) (ea_cons (ev_is (ev_len (ev_var rfl) hp) (by rw [iL_len])) ea_nil) (by omega) (fun i σ' H' => ∃ v1, σ' = [some (.ref p), v1] ∧ Ex H H' ∧ ∀ j, j < i → en r j = 0) (fun H1 e => ⟨none, rfl, e, fun j hj => absurd hj (Nat.not_lt_zero _)⟩) ?_ ?_
    · rintro i σ' H' hi ⟨v1, rfl, e, h0⟩
      have hi : i < r.length := by omega
      refine s_when (et_truI (K := K) (ev_ix (ev_var rfl) (ev_var rfl) (ex_l e hp) (iL_en hi))) (fun hb H1 e1 => s_ret (ev_var rfl) fun H2 e3 => ?_) (fun hb H1 e1 => ⟨_, rfl, e.trans e1, fun j hj => ?_⟩)
      · have h1 := firstP_at (en_lt hi) (of_decide_eq_true hb) h0
        have := k.go ((e.trans e1).trans e3)
        rw [h1] at this; exact this
      · by_cases hji : j = i
        · subst hji
          have := of_decide_eq_false hb
          omega
        · exact h0 j (by omega)
    · rintro σ' H' ⟨v1, rfl, e, h0⟩
      have h0 : ∀ j, j < r.length → en r j = 0 := fun j hj => h0 j (by omega)
      refine s_ret (ev_len (ev_var rfl) (ex_l e hp)) fun H2 e3 => ?_
      have := k.go (e.trans e3)
      rw [firstP_end h0] at this
      rw [iL_len]; exact this
theorem ok_law_reduce (L : Lib K mg) {f : Addr} {fd : FuncData} (F : L2.Fun K "_law_reduce" "_law_reduce" s_law_reduce f fd) : FnOk P w K mg base CX0 2 f fd ["H", "row", "M"] (spRest K) := by
  obtain ⟨f_law_first, fd_law_first, F_law_first⟩ := L.law_first
  obtain ⟨f_law_less, fd_law_less, F_law_less⟩ := L.law_less
  have G_law_first : FnOk P w K mg base CX0 1 f_law_first fd_law_first _ (spFirst K) := ok_law_first L F_law_first.F
  have G_law_less : FnOk P w K mg base CX0 1 f_law_less fd_law_less _ (spLawLess K) := ok_law_less L F_law_less.F
  refine F.ok sc_law_reduce (fun vs H Q E h => ?_) (fun cdv A outer s H vs Q E hr h => ?_)
  · obtain ⟨p, q, ps, row, wd, M, rfl, _⟩ := h; rfl
  · obtain ⟨p, q, ps, row, wd, M, rfl, ⟨hp, hR, hq, hm, hl, hwd, hps, hb, hro⟩, fin⟩ := h
    refine ⟨_, (pss_cons (ps_setLc (i := 3) (own := [("k", 6)]) (g := gName 6) (tt := tYes) rfl sc_law_reduce.nd rfl rfl (sw_true rfl rfl rfl (by decide +kernel)) (pi_list (pv 1)) (blkOk_by (own := [("k", 6)]) (N := N_law_reduce) (sc := defScope s_law_reduce) (by decide +kernel)) (fun _ _ _ _ _ => (pg_name (i := 6) sc_law_reduce.nd rfl (Or.inl rfl))) (fun _ _ _ _ _ => pts_nil) (fun _ _ _ _ _ => (pe_ifExp (pt_truthK (K := K) (pv 2)) (pe_op op_mod (pe_callTy call_int1 (by rfl) L.int (by decide +kernel) (pa_cons (pv 6) pa_nil)) (pv 2)) (pv 6))))
    (pss_cons (ps_for PassesOwn.never rfl (pi_list (pv 0)) (pg_name (i := 4) sc_law_reduce.nd rfl (Or.inl rfl))
      (pss_cons (ps_set (i := 5) sc_law_reduce.nd rfl (Or.inl rfl) (pe_call G_law_first (hr.mono (by decide)) (by rfl) F_law_first.g F_law_first.F.kp F_law_first.b .nil pass0 (pa_cons (pv 4) pa_nil)))
    (pss_one (ps_set (i := 3) sc_law_reduce.nd rfl (Or.inl rfl) (pe_call G_law_less (hr.mono (by decide)) (by rfl) F_law_less.g F_law_less.F.kp F_law_less.b .nil pass0 (pa_cons (pv 3) (pa_cons (pv 4) (pa_cons (pe_op op_fdivZ (pe_ix ix_list (pv 3) (pv 5) (fun _ _ => rfl)) (pe_ix ix_list (pv 4) (pv 5) (fun _ _ => rfl))) (pa_cons (pv 2) pa_nil)))))))))
    (pss_one (ps_ret (pv 3))))), ?_⟩
    have hM0 := hm.nonneg
    refine q_asgL (el_lcI (fun x => if M ≠ 0 then x % M else x) (ev_var rfl) hq (by omega) (fun _ => rfl) fun x H2 e2 hx => ev_is (ev_ifB (et_truK (K := K) (ev_var rfl)) (fun hb => ev_mod (ev_int (ev_var rfl)) (ev_var rfl) (by have := of_decide_eq_true hb; omega)) (fun hb => ev_var rfl)) ?_) fun l H1 nl e1 hl1 => ?_
    · by_cases z : M = 0 <;> simp [z]
    have ep : plainRow row M = row.map fun x => if M ≠ 0 then x % M else x := by
      unfold plainRow
      by_cases z : M = 0
      · rw [if_pos z]; subst z; simp
      · rw [if_neg z]; simp [z]
    rw [← ep] at hl1
    refine q_forLn (ev_var rfl) (ex_l e1 hp) (fun i σ' H' => ∃ (l : Addr) (v4 v5 v6 : Option V), σ' = [some (.ref p), some (.ref q), some (.int M), some (.ref l), v4, v5, v6] ∧ Ex H H' ∧ H l = none ∧ H' l = some (.lst (iL (restOf ((rws ps).take i) row M))))
      (fun H2 e2 => ⟨l, none, none, none, rfl, e1.trans e2, nl, by simpa [restOf] using e2 _ _ hl1⟩) (fun i σ' H' _ ⟨_, _, _, _, _, e, _⟩ => ex_l e hp) ?_ ?_
    · rintro i x σ' H' hi ⟨l, v4, v5, v6, rfl, ex, nl, hl3⟩
      obtain ⟨y, hy, rfl⟩ := adr_get hi
      have hyin := List.mem_of_getElem? hy
      have ho := hro y.2 (mem_rws hyin)
      have hro' : ∀ o ∈ (rws ps).take i, RO M wd o := fun o h => hro o (List.mem_of_mem_take h)
      have htl : ((rws ps).take i).length ≤ 6 := by rw [List.length_take, rws_len]; omega
      obtain ⟨i1, _, _⟩ := rest_inv hm hl hb htl hro'
      have hy2 : SqL K H' y.1 (iL y.2) := (hR.ex ex).seq hyin
      refine q_asg (ev_call (z := .int (firstP y.2 : Nat)) (ea_cons (ev_var rfl) ea_nil) (firstP_spv hy2 (by rw [ho.len]; exact hwd))) fun H2 e2 => ?_
      refine s_call (ea_cons (ev_var rfl) (ea_cons (ev_var rfl) (ea_cons (ev_fdiv (ev_ix (ev_var rfl) (ev_var rfl) (sq_of (e2 _ _ hl3)) (iL_en (by rw [i1]; exact ho.fp))) (ev_ix (ev_var rfl) (ev_var rfl) (ex_l e2 hy2) (iL_en (by rw [ho.len]; exact ho.fp))) (red_div ho _)) (ea_cons (ev_var rfl) ea_nil)))) fun H3 e3 => ⟨l, y.1, _, _, _, M, rfl, (e2.trans e3) _ _ hl3, ex_l (e2.trans e3) hy2, by rw [i1]; exact hwd, hm.nonneg, fun c hc => red_mul hm hl hb htl hro' ho hc, fun l2 H4 e4 hl4 hor => ?_⟩
      refine ⟨l2, _, _, _, rfl, ((ex.trans e2).trans e3).trans e4, ?_, by rw [restOf_take (rws_at hy)]; exact hl4⟩
      rcases hor with h | h
      · rw [h]; exact nl
      · exact fresh_back ((ex.trans e2).trans e3) h
    · rintro σ' H' ⟨l, v4, v5, v6, rfl, ex, nl, hl3⟩
      rw [adr_len, List.take_of_length_le (by rw [rws_len]; exact Nat.le_refl _)] at hl3
      exact s_ret (ev_var rfl) fun H2 e2 => fin l H2 nl (ex.trans e2) (e2 _ _ hl3)
theorem any_isZ (r : Row) : (!(r.any fun i => i != 0)) = isZ r := by
  unfold isZ firstP
  by_cases h : ∃ x ∈ r, x ≠ 0
  · obtain ⟨x, hx, hx0⟩ := h
    have h1 : (r.any fun i => i != 0) = true := List.any_eq_true.mpr ⟨x, hx, by simpa using hx0⟩
    have h2 : r.findIdx (fun x => decide (x ≠ 0)) < r.length := List.findIdx_lt_length.mpr ⟨x, hx, by simpa using hx0⟩
    rw [h1, decide_eq_false (by omega)]; rfl
  · have h0 : ∀ x ∈ r, x = 0 := fun x hx => by
      rcases Decidable.em (x = 0) with z | z
      · exact z
      · exact absurd ⟨x, hx, z⟩ h
    have h1 : (r.any fun i => i != 0) = false := List.any_eq_false.mpr fun x hx => by simp [h0 x hx]
    have h2 : r.findIdx (fun x => decide (x ≠ 0)) = r.length := List.findIdx_eq_length.mpr fun x hx => by simp [h0 x hx]
    rw [h1, h2]; simp
theorem ok_law_inside (L : Lib K mg) {f : Addr} {fd : FuncData} (F : L2.Fun K "_law_inside" "_law_inside" s_law_inside f fd) : FnOk P w K mg base CX0 3 f fd ["H", "row", "M"] (spIn K) := by
  obtain ⟨f_law_reduce, fd_law_reduce, F_law_reduce⟩ := L.law_reduce
  have G_law_reduce : FnOk P w K mg base CX0 2 f_law_reduce fd_law_reduce _ (spRest K) := ok_law_reduce L F_law_reduce.F
  refine F.ok sc_law_inside (fun vs H Q E h => ?_) (fun cdv A outer s H vs Q E hr h => ?_)
  · obtain ⟨p, q, ps, row, wd, M, rfl, _⟩ := h; rfl
  · obtain ⟨p, q, ps, row, wd, M, rfl, hpre, fin⟩ := h
    refine ⟨_, (pss_one (ps_ret (pe_not (pe_callB cr_anyI (by rfl) L.any (by decide +kernel) (pa_cons (pe_call G_law_reduce (hr.mono (by decide)) (by rfl) F_law_reduce.g F_law_reduce.F.kp F_law_reduce.b .nil pass0 (pa_cons (pv 0) (pa_cons (pv 1) (pa_cons (pv 2) pa_nil)))) pa_nil))))), ?_⟩
    refine s_ret (ev_notV (a := (restOf (rws ps) row M).any fun i => i != 0) (ev_cbL (el_call (ea_cons (ev_var rfl) (ea_cons (ev_var rfl) (ea_cons (ev_var rfl) ea_nil))) (rest_spl hpre)) fun l H1 e1 h1 H2 e2 Q2 q2 => ⟨l, _, rfl, ex_l e2 (sq_of h1), q2 H2 (Ex.refl H2)⟩)) fun H1 e1 => ?_
    have := fin H1 e1
    rw [← any_isZ] at this
    exact this
/-! ### _law_c_box -/
def spBox : Sp := fun vs H Q _ => ∃ (wd most : Nat), vs = [.int (wd : Nat), .int (most : Nat)] ∧ wd ≤ 6 ∧ most ≤ 2 ∧ (2 * most + 1) ^ wd ≤ 1000 ∧
  ∀ (p : Addr) (qs : List AR) (H2 : Hp), H p = none → Ex H H2 → H2 p = some (.lst (adr qs)) → Rws H2 qs → (∀ x ∈ qs, x.2.length = wd ∧ ∀ j, (en x.2 j).natAbs ≤ 2) → qs.length ≤ 1000 → (∀ x ∈ qs, x.1 ≠ p) → (∀ x ∈ qs, H x.1 = none) → Q (.ref p) H2
theorem ok_law_c_box (L : Lib K mg) {f : Addr} {fd : FuncData} (F : L2.Fun K "_law_c_box" "_law_c_box" s_law_c_box f fd) : FnOk P w K mg base CX0 1 f fd ["width", "most"] spBox := by
  refine F.ok sc_law_c_box (fun vs H Q E h => ?_) (fun cdv A outer s H vs Q E hr h => ?_)
  · obtain ⟨wd, most, rfl, _⟩ := h; rfl
  · obtain ⟨wd, most, rfl, hwd, hmost, hpow, fin⟩ := h
    refine ⟨_, (pss_cons (ps_set (i := 2) sc_law_c_box.nd rfl (Or.inl rfl) (pe_lst (pa_cons (pe_lst pa_nil) pa_nil)))
    (pss_cons (ps_for PassesOwn.never rfl (pi_range1 (by rfl) L.range (pa_cons (pv 0) pa_nil)) (pg_name (i := 3) sc_law_c_box.nd rfl (Or.inl rfl))
      (pss_cons (ps_set (i := 4) sc_law_c_box.nd rfl (Or.inl rfl) (pe_lst pa_nil))
    (pss_cons (ps_for PassesOwn.never rfl (pi_list (pv 2)) (pg_name (i := 5) sc_law_c_box.nd rfl (Or.inl rfl))
      (pss_one (ps_for PassesOwn.never rfl (pi_range2 (by rfl) L.range (pa_cons (pe_op op_sub pe_int (pv 1)) (pa_cons (pe_op op_add (pv 1) pe_int) pa_nil))) (pg_name (i := 6) sc_law_c_box.nd rfl (Or.inl rfl))
      (pss_one (ps_expr (pe_bm PySem.F.plainAttrs_list PySem.F.slot_list_append PySem.F.type_list_append mt_append (pv 4) (pa_cons (pe_op op_cat (pv 5) (pe_lst (pa_cons (pv 6) pa_nil))) pa_nil)))))))
    (pss_one (ps_set (i := 2) sc_law_c_box.nd rfl (Or.inl rfl) (pv 4))))))
    (pss_one (ps_ret (pv 2))))), ?_⟩
    refine ⟨by show 0 ≤ sizeLine; exact Nat.zero_le _, fun i1 n1 => ⟨by show 1 ≤ sizeLine; decide, fun o1 m1 => ?_⟩⟩
    have e01 : Ex H (upd H i1 (.lst [])) := Ex.new n1
    have e02 : Ex (upd H i1 (.lst [])) (upd (upd H i1 (.lst [])) o1 (.lst [.ref i1])) := Ex.new m1
    have i1o : i1 ≠ o1 := fun e => by rw [e, upd_same] at m1; cases m1
    refine q_forR1 (n := (wd : Nat)) (ea_cons (ev_var rfl) ea_nil) (by omega) (fun i σ' H' => ∃ (o : Addr) (qs : List AR) (v3 v4 v5 v6 : Option V), σ' = [some (.int (wd : Nat)), some (.int (most : Nat)), some (.ref o), v3, v4, v5, v6] ∧ Ex H H' ∧ H o = none ∧ H' o = some (.lst (adr qs)) ∧ Rws H' qs ∧ (∀ x ∈ qs, x.2.length = i ∧ ∀ j, (en x.2 j).natAbs ≤ 2) ∧ qs.length ≤ (2 * most + 1) ^ i ∧ (∀ x ∈ qs, x.1 ≠ o) ∧ ∀ x ∈ qs, H x.1 = none)
      (fun H1 e1 => ⟨o1, [(i1, [])], none, none, none, none, rfl, (e01.trans e02).trans e1, fresh_back e01 m1, e1 _ _ upd_same, fun x hx => ?_, fun x hx => ?_, by simp, fun x hx => ?_, fun x hx => ?_⟩) ?_ ?_
    · rw [List.mem_singleton.mp hx]
      refine e1 _ _ ?_
      rw [upd_ne i1o, upd_same]; rfl
    · rw [List.mem_singleton.mp hx]; exact ⟨rfl, fun j => by simp [en]⟩
    · rw [List.mem_singleton.mp hx]; exact i1o
    · rw [List.mem_singleton.mp hx]; exact n1
    · rintro i σ' H' hi ⟨o, qs, v3, v4, v5, v6, rfl, ex, no, ho, hR, hq, hn, hne, hnH⟩
      have hi : i < wd := by omega
      refine q_asgL (el_lst ea_nil (by simp)) fun lg H1 nlg e1 hlg => ?_
      have nlgH : H lg = none := fresh_back ex nlg
      have olg : o ≠ lg := ne_of_none ho nlg
      have rlg : ∀ x ∈ qs, x.1 ≠ lg := fun x hx => ne_of_none (hR x hx) nlg
      have pow1 : (2 * most + 1) ^ (i + 1) ≤ 1000 := Nat.le_trans (Nat.pow_le_pow_right (by omega) (by omega)) hpow
      have pow0 : (2 * most + 1) ^ (i + 1) = (2 * most + 1) ^ i * (2 * most + 1) := Nat.pow_succ ..
      have qsl : qs.length * (2 * most + 1) ≤ (2 * most + 1) ^ (i + 1) := by rw [pow0]; exact Nat.mul_le_mul_right _ hn
      refine q_forLn (ev_var rfl) (sq_of (e1 _ _ ho)) (fun j σ' H' => ∃ (ls : List AR) (v3 v5 v6 : Option V), σ' = [some (.int (wd : Nat)), some (.int (most : Nat)), some (.ref o), v3, some (.ref lg), v5, v6] ∧ Ex H H' ∧ H' o = some (.lst (adr qs)) ∧ Rws H' qs ∧ H' lg = some (.lst (adr ls)) ∧ Rws H' ls ∧ (∀ x ∈ ls, x.2.length = i + 1 ∧ ∀ j, (en x.2 j).natAbs ≤ 2) ∧ ls.length ≤ j * (2 * most + 1) ∧ (∀ x ∈ ls, x.1 ≠ lg) ∧ ∀ x ∈ ls, H x.1 = none)
        (fun H2 e2 => ⟨[], _, _, _, rfl, (ex.trans e1).trans e2, (e1.trans e2) _ _ ho, hR.ex (e1.trans e2), e2 _ _ hlg, Rws.nil, fun x h => absurd h (by simp), by simp, fun x h => absurd h (by simp), fun x h => absurd h (by simp)⟩) (fun j σ' H' _ ⟨_, _, _, _, _, _, h, _⟩ => sq_of h) ?_ ?_
      · rintro j x σ' H' hj ⟨ls, v3, v5, v6, rfl, ex2, ho2, hR2, hlg2, hRl, hq2, hn2, hne2, hnH2⟩
        obtain ⟨y, hy, rfl⟩ := adr_get hj
        have hyin := List.mem_of_getElem? hy
        have jl := (List.getElem?_eq_some_iff.mp hy).1
        refine s_forR2Z (lo := 0 - (most : Nat)) (n := (most : Nat) + 1) (ea_cons (ev_sub ev_c (ev_var rfl)) (ea_cons (ev_add (ev_var rfl) ev_c) ea_nil)) (by omega) (fun m σ' H' => ∃ (ls : List AR) (v3 v6 : Option V), σ' = [some (.int (wd : Nat)), some (.int (most : Nat)), some (.ref o), v3, some (.ref lg), some (.ref y.1), v6] ∧ Ex H H' ∧ H' o = some (.lst (adr qs)) ∧ Rws H' qs ∧ H' lg = some (.lst (adr ls)) ∧ Rws H' ls ∧ (∀ x ∈ ls, x.2.length = i + 1 ∧ ∀ j, (en x.2 j).natAbs ≤ 2) ∧ ls.length ≤ j * (2 * most + 1) + m ∧ (∀ x ∈ ls, x.1 ≠ lg) ∧ ∀ x ∈ ls, H x.1 = none)
          (fun H2 e2 => ⟨ls, _, _, rfl, ex2.trans e2, e2 _ _ ho2, hR2.ex e2, e2 _ _ hlg2, hRl.ex e2, hq2, hn2, hne2, hnH2⟩) ?_ ?_
        · rintro m σ' H' hm ⟨ls, v3, v6, rfl, ex3, ho3, hR3, hlg3, hRl3, hq3, hn3, hne3, hnH3⟩
          have jj : j * (2 * most + 1) + (2 * most + 1) ≤ qs.length * (2 * most + 1) := by
            have := Nat.mul_le_mul_right (2 * most + 1) jl
            rw [Nat.succ_mul] at this; exact this
          have ly := (hq y hyin).1
          refine s_appL (ys := iL (y.2 ++ [0 - (most : Int) + (m : Int)])) hlg3 (ev_var rfl) ?_ (by rw [adr_len]; omega) fun p H2 np e2 hp2 => ?_
          · have := el_cat (xs := iL y.2) (ys := [.int (0 - (most : Int) + (m : Int))]) (ta := tVar 5) (tb := tLst (tCons (tVar 6) tNil)) (σ := (([some (.int (wd : Nat)), some (.int (most : Nat)), some (.ref o), v3, some (.ref lg), some (.ref y.1), v6] : L2.St).set 6 (some (.int (0 - (most : Int) + (m : Int)))))) (H := H') (ev_var rfl) (hR3 y hyin) (el_lst (ea_cons (ev_var rfl) ea_nil) (by simp)) (by rw [iL_len]; simp; omega)
            unfold iL at this ⊢
            rw [List.map_append]; exact this
          · have npH : H p = none := fresh_back ex3 np
            have plg : p ≠ lg := (ne_of_none hlg3 np).symm
            refine ⟨ls ++ [(p, y.2 ++ [0 - (most : Int) + (m : Int)])], _, _, rfl, Ex.mut (ex3.trans e2) nlgH, by rw [upd_ne olg]; exact e2 _ _ ho3, (hR3.ex e2).upd rlg, by rw [upd_same, adr_app]; rfl, ?_, ?_, by rw [List.length_append, List.length_singleton]; omega, ?_, ?_⟩
            · refine Rws.append ((hRl3.ex e2).upd hne3) fun x hx => ?_
              rw [List.mem_singleton.mp hx, upd_ne plg]; exact hp2
            · intro x hx
              rcases List.mem_append.mp hx with h | h
              · exact hq3 x h
              · rw [List.mem_singleton.mp h]
                refine ⟨by rw [List.length_append, ly]; rfl, fun k => ?_⟩
                by_cases hk : k < i
                · have e : en (y.2 ++ [0 - (most : Int) + (m : Int)]) k = en y.2 k := by simp [en, List.getD, List.getElem?_append_left (show k < y.2.length by omega)]
                  show (en (y.2 ++ [0 - (most : Int) + (m : Int)]) k).natAbs ≤ 2
                  rw [e]; exact (hq y hyin).2 k
                · by_cases hk2 : k = i
                  · have e : en (y.2 ++ [0 - (most : Int) + (m : Int)]) k = 0 - (most : Int) + (m : Int) := by simp [en, List.getD, hk2, ← ly]
                    show (en (y.2 ++ [0 - (most : Int) + (m : Int)]) k).natAbs ≤ 2
                    rw [e]; omega
                  · show (en (y.2 ++ [0 - (most : Int) + (m : Int)]) k).natAbs ≤ 2
                    rw [en_ge (by rw [List.length_append, List.length_singleton]; omega)]; decide
            · intro x hx
              rcases List.mem_append.mp hx with h | h
              · exact hne3 x h
              · rw [List.mem_singleton.mp h]; exact plg
            · intro x hx
              rcases List.mem_append.mp hx with h | h
              · exact hnH3 x h
              · rw [List.mem_singleton.mp h]; exact npH
        · rintro σ' H' ⟨ls, v3, v6, rfl, ex3, ho3, hR3, hlg3, hRl3, hq3, hn3, hne3, hnH3⟩
          have e2 : (((most : Nat) : Int) + 1 - (0 - (most : Int))).toNat = 2 * most + 1 := by omega
          rw [e2] at hn3
          exact ⟨ls, _, _, _, rfl, ex3, ho3, hR3, hlg3, hRl3, hq3, by rw [Nat.succ_mul]; exact hn3, hne3, hnH3⟩
      · rintro σ' H' ⟨ls, v3, v5, v6, rfl, ex2, ho2, hR2, hlg2, hRl, hq2, hn2, hne2, hnH2⟩
        rw [adr_len] at hn2
        exact s_asg (ev_var rfl) fun H2 e2 => ⟨lg, ls, _, _, _, _, rfl, ex2.trans e2, nlgH, e2 _ _ hlg2, hRl.ex e2, hq2, Nat.le_trans hn2 qsl, hne2, hnH2⟩
    · rintro σ' H' ⟨o, qs, v3, v4, v5, v6, rfl, ex, no, ho, hR, hq, hn, hne, hnH⟩
      have e2 : ((wd : Nat) : Int).toNat = wd := by simp
      rw [e2] at hq hn
      exact s_ret (ev_var rfl) fun H2 e2 => fin o qs H2 no (ex.trans e2) (e2 _ _ ho) (hR.ex e2) hq (Nat.le_trans hn hpow) hne hnH
end
end Mine
set_option Elab.async false
set_option linter.all false
set_option maxRecDepth 100000
set_option maxHeartbeats 4000000
namespace Mine
open PySem PySem.Spec PyProof.Rows L2 Evl
/-! ### the source of draws -/
def kG : Key := .inr "great"
def kB : Key := .inr "big"
def kT : Key := .inr "state"
def kE : Key := .inr "step"
theorem nGB : ¬ (("great" : Str) = "big") := by decide +kernel
theorem nGT : ¬ (("great" : Str) = "state") := by decide +kernel
theorem nGE : ¬ (("great" : Str) = "step") := by decide +kernel
theorem nBT : ¬ (("big" : Str) = "state") := by decide +kernel
theorem nBE : ¬ (("big" : Str) = "step") := by decide +kernel
theorem nTE : ¬ (("state" : Str) = "step") := by decide +kernel
def kvS (g : Addr) (b t e : Int) : List (Key × V) := [(kG, .ref g), (kB, .int b), (kT, .int t), (kE, .int e)]
theorem kvL {g : Addr} {b t e : Int} : (kvS g b t e).length < 1000 := by show 4 < 1000; decide
theorem inrN {x y : Str} (h : ¬ x = y) : ¬ (Sum.inr x : Key) = Sum.inr y := fun e => h (Sum.inr.inj e)
theorem kvG (g : Addr) (b t e : Int) : valV (kvS g b t e) kG = some (.ref g) := valV_pos rfl
theorem kvB (g : Addr) (b t e : Int) : valV (kvS g b t e) kB = some (.int b) := (valV_neg (inrN nGB)).trans (valV_pos rfl)
theorem kvT (g : Addr) (b t e : Int) : valV (kvS g b t e) kT = some (.int t) := (valV_neg (inrN nGT)).trans ((valV_neg (inrN nBT)).trans (valV_pos rfl))
theorem kvE (g : Addr) (b t e : Int) : valV (kvS g b t e) kE = some (.int e) := (valV_neg (inrN nGE)).trans ((valV_neg (inrN nBE)).trans ((valV_neg (inrN nTE)).trans (valV_pos rfl)))
theorem putK_in {kvs : List (Key × V)} {k : Key} {v : V} (h : (kvs.any fun kv => decide (kv.1 = k)) = true) : putK kvs k v = kvs.map fun kv => if kv.1 = k then (kv.1, v) else kv := by unfold putK; rw [if_pos h]
theorem xGB : ¬ kG = kB := inrN nGB
theorem xGT : ¬ kG = kT := inrN nGT
theorem xGE : ¬ kG = kE := inrN nGE
theorem xBT : ¬ kB = kT := inrN nBT
theorem xBE : ¬ kB = kE := inrN nBE
theorem xTE : ¬ kT = kE := inrN nTE
theorem xTB : ¬ kT = kB := fun h => xBT h.symm
theorem xEB : ¬ kE = kB := fun h => xBE h.symm
theorem xET : ¬ kE = kT := fun h => xTE h.symm
theorem putB (g : Addr) (b t e x : Int) : putK (kvS g b t e) kB (.int x) = kvS g x t e := by
  rw [putK_in (by rw [valV_any, kvB]; rfl)]
  simp only [kvS, List.map_cons, List.map_nil, xGB, xTB, xEB, if_false, if_true]
theorem putT (g : Addr) (b t e x : Int) : putK (kvS g b t e) kT (.int x) = kvS g b x e := by
  rw [putK_in (by rw [valV_any, kvT]; rfl)]
  simp only [kvS, List.map_cons, List.map_nil, xGT, xBT, xET, if_false, if_true]
theorem putE (g : Addr) (b t e x : Int) : putK (kvS g b t e) kE (.int x) = kvS g b t x := by
  rw [putK_in (by rw [valV_any, kvE]; rfl)]
  simp only [kvS, List.map_cons, List.map_nil, xGE, xBE, xTE, if_false, if_true]
def Src (s g : Addr) (H : Hp) : Prop := ∃ (gs : Row) (b t e : Int), H s = some (.dK (kvS g b t e)) ∧ H g = some (.lst (iL gs))
theorem Src.ne {s g : Addr} {H : Hp} (h : Src s g H) : s ≠ g := by
  obtain ⟨gs, b, t, e, h1, h2⟩ := h
  exact ne_of h1 h2 (fun z => nomatch z)
theorem Src.ex {s g : Addr} {H H' : Hp} (h : Src s g H) (e : Ex H H') : Src s g H' := by
  obtain ⟨gs, b, t, st, h1, h2⟩ := h
  exact ⟨gs, b, t, st, e _ _ h1, e _ _ h2⟩
theorem Src.newG {s g p : Addr} {H : Hp} (h : Src s g H) (hp : H p = none) : p ≠ g := by
  obtain ⟨gs, b, t, st, h1, h2⟩ := h
  exact (ne_of_none h2 hp).symm
theorem Src.newS {s g p : Addr} {H : Hp} (h : Src s g H) (hp : H p = none) : p ≠ s := by
  obtain ⟨gs, b, t, st, h1, h2⟩ := h
  exact (ne_of_none h1 hp).symm
theorem Src.lstS {s g p : Addr} {H : Hp} {xs : List V} (h : Src s g H) (hp : H p = some (.lst xs)) : p ≠ s := by
  obtain ⟨gs, b, t, st, h1, h2⟩ := h
  exact ne_of hp h1 (fun z => nomatch z)
theorem Src.upd {s g p : Addr} {H : Hp} {o : HO} (h : Src s g H) (h1 : p ≠ s) (h2 : p ≠ g) : Src s g (upd H p o) := by
  obtain ⟨gs, b, t, st, h3, h4⟩ := h
  exact ⟨gs, b, t, st, by rw [upd_ne h1.symm]; exact h3, by rw [upd_ne h2.symm]; exact h4⟩
/-- what a draw leaves: all but the source -/
structure Le (s g : Addr) (H H' : Hp) : Prop where
  keep : ∀ a o, H a = some o → a ≠ s → a ≠ g → H' a = some o
  src : Src s g H'
theorem Le.refl {s g : Addr} {H : Hp} (h : Src s g H) : Le s g H H := ⟨fun _ _ h _ _ => h, h⟩
theorem Le.trans {s g : Addr} {H H' H'' : Hp} (h : Le s g H H') (h' : Le s g H' H'') : Le s g H H'' := ⟨fun a o e h1 h2 => h'.keep a o (h.keep a o e h1 h2) h1 h2, h'.src⟩
theorem Le.of {s g : Addr} {H H' : Hp} (h : Src s g H) (e : Ex H H') : Le s g H H' := ⟨fun a o h1 _ _ => e a o h1, h.ex e⟩
/-- an object that H does not know may change -/
theorem Le.mut {s g : Addr} {H H' : Hp} {p : Addr} {o : HO} (e : Le s g H H') (hs : Src s g H) (h : H p = none) : Le s g H (upd H' p o) := ⟨fun a u ha h1 h2 => by
  rw [upd_ne (ne_of_none ha h)]
  exact e.keep a u ha h1 h2, e.src.upd (hs.newS h) (hs.newG h)⟩
theorem Le.back {s g : Addr} {H H' : Hp} {p : Addr} (e : Le s g H H') (h : H' p = none) : H p = none := by
  cases h1 : H p with
  | none => rfl
  | some o =>
    exfalso
    have h2 := e.src.newS h
    have h3 := e.src.newG h
    rw [e.keep p o h1 h2 h3] at h
    cases h
theorem Le.lst {s g p : Addr} {H H' : Hp} {xs : List V} (e : Le s g H H') (hs : Src s g H) (h : H p = some (.lst xs)) (hg : p ≠ g) : H' p = some (.lst xs) := e.keep p _ h (hs.lstS h) hg
def OffG (g : Addr) (ps : List AR) : Prop := ∀ x ∈ ps, x.1 ≠ g
theorem Le.rws {s g : Addr} {H H' : Hp} {ps : List AR} (e : Le s g H H') (hs : Src s g H) (h : Rws H ps) (hg : OffG g ps) : Rws H' ps := fun x hx => e.lst hs (h x hx) (hg x hx)
/-! ### evaluations that draw -/
def EvK (s g : Addr) (te : TE) (σ : L2.St) (H : Hp) (P : V → Prop) : Prop := ∀ H1, Le s g H H1 → ∀ Q : VK, (∀ v H2, Le s g H1 H2 → P v → Q v H2) → te σ H1 Q
def isI (A : Int → Prop) (v : V) : Prop := ∃ i, v = .int i ∧ A i
section
variable {K : PySem.W.Frag} {s g : Addr} {σ : L2.St} {H H' : Hp} {ta tb te tx tl : TE} {t u : TT} {x y z v w1 : V} {D : Ends} {tu tw tz : TS} {A B C : Int → Prop} {P P' : V → Prop}
theorem evk_of (h : ∀ H1, Le s g H H1 → Ev te σ H1 v) : EvK s g te σ H (fun x => x = v) := fun H1 e Q q => h H1 e H1 (Ex.refl H1) Q fun H2 e2 => q v H2 (Le.of e.src e2) rfl
theorem evi_of {i : Int} (h : ∀ H1, Le s g H H1 → Ev te σ H1 (.int i)) : EvK s g te σ H (isI fun j => j = i) := fun H1 e Q q => h H1 e H1 (Ex.refl H1) Q fun H2 e2 => q _ H2 (Le.of e.src e2) ⟨i, rfl, rfl⟩
theorem EvK.imp (h : EvK s g te σ H P) (hi : ∀ v, P v → P' v) : EvK s g te σ H P' := fun H1 e Q q => h H1 e Q fun v H2 e2 p => q v H2 e2 (hi v p)
theorem EvK.mono (h : EvK s g te σ H P) (e : Le s g H H') : EvK s g te σ H' P := fun H1 e1 Q q => h H1 (e.trans e1) Q q
theorem evi_op {g' : Int → Int → Int} (ha : EvK s g ta σ H (isI A)) (hb : EvK s g tb σ H (isI B)) (hc : ∀ i j, A i → B j → C (g' i j)) : EvK s g (tOp (rI0 fun i j => .int (g' i j)) ta tb) σ H (isI C) := fun H1 e Q q =>
  ha H1 e _ fun x H2 e2 ⟨i, hi, ai⟩ => hb H2 (e.trans e2) _ fun y H3 e3 ⟨j, hj, bj⟩ => ⟨i, j, hi, hj, q _ H3 (e2.trans e3) ⟨_, rfl, hc i j ai bj⟩⟩
theorem evi_opC {C' : Int → Int → Prop} {g' : Int → Int → Int} (ha : EvK s g ta σ H (isI A)) (hb : EvK s g tb σ H (isI B)) (hs : ∀ i j, A i → B j → C' i j) (hc : ∀ i j, A i → B j → C (g' i j)) : EvK s g (tOp (rI C' fun i j => .int (g' i j)) ta tb) σ H (isI C) := fun H1 e Q q =>
  ha H1 e _ fun x H2 e2 ⟨i, hi, ai⟩ => hb H2 (e.trans e2) _ fun y H3 e3 ⟨j, hj, bj⟩ => ⟨i, j, hi, hj, hs i j ai bj, q _ H3 (e2.trans e3) ⟨_, rfl, hc i j ai bj⟩⟩
theorem q_asgK {i : Nat} (hs : Src s g H) (h : EvK s g te σ H P) (k : ∀ v H1, Le s g H H1 → P v → tz D (σ.set i (some v)) H1) : tSeq (tAsg te (gName i)) tz D σ H := h H (Le.refl hs) _ fun v H1 e p => k v H1 e p
theorem s_asgK {i : Nat} (hs : Src s g H) (h : EvK s g te σ H P) (k : ∀ v H1, Le s g H H1 → P v → D.nx (σ.set i (some v)) H1) : tAsg te (gName i) D σ H := h H (Le.refl hs) _ fun v H1 e p => k v H1 e p
theorem s_retK (hs : Src s g H) (h : EvK s g te σ H P) (k : ∀ v H1, Le s g H H1 → P v → D.rt v H1) : tRet te D σ H := h H (Le.refl hs) _ fun v H1 e p => k v H1 e p
/-- a test over a drawn int -/
theorem etk_ne0 {j : Int} (ha : EvK s g ta σ H (isI A)) (hb : ∀ H1, Ev tb σ H1 (.int j)) : ∀ H1, Le s g H H1 → ∀ Q : Bool → Hp → Prop, (∀ i H2, Le s g H1 H2 → A i → Q (decide (i ≠ j)) H2) → tTest (tOp rNe ta tb) σ H1 Q := fun H1 e Q q =>
  ha H1 e _ fun x H2 e2 ⟨i, hi, ai⟩ => hb H2 H2 (Ex.refl H2) _ fun H3 e3 => by
    subst hi
    refine ⟨rfl, decide (i ≠ j), ?_, q i H3 (e2.trans (Le.of e2.src e3)) ai⟩
    by_cases z : i = j
    · subst z; simp
    · have : ¬ V.int i = V.int j := fun h => z (V.int.inj h)
      simp [z]
theorem etk_eq0 {j : Int} (ha : EvK s g ta σ H (isI A)) (hb : ∀ H1, Ev tb σ H1 (.int j)) : ∀ H1, Le s g H H1 → ∀ Q : Bool → Hp → Prop, (∀ i H2, Le s g H1 H2 → A i → Q (decide (i = j)) H2) → tTest (tOp rEq ta tb) σ H1 Q := fun H1 e Q q =>
  ha H1 e _ fun x H2 e2 ⟨i, hi, ai⟩ => hb H2 H2 (Ex.refl H2) _ fun H3 e3 => by
    subst hi
    refine ⟨rfl, decide (i = j), ?_, q i H3 (e2.trans (Le.of e2.src e3)) ai⟩
    by_cases z : i = j
    · subst z; simp
    · have : ¬ V.int i = V.int j := fun h => z (V.int.inj h)
      simp [z]
theorem ev_dget {k : Key} {d : Addr} {kvs : List (Key × V)} (ha : Ev ta σ H (.ref d)) (hb : Ev tb σ H (kV k)) (hd : H d = some (.dK kvs)) (hv : valV kvs k = some v) : Ev (tDGet ta tb) σ H v := fun H1 e Q q =>
  ha H1 e _ fun H2 e2 => hb H2 (e.trans e2) _ fun H3 e3 => ⟨d, v, rfl, by rw [← hv]; exact DGet.k (((e.trans e2).trans e3) _ _ hd), q H3 (e2.trans e3)⟩
theorem s_dput {k : Key} {d : Addr} {kvs : List (Key × V)} {tv td ty : TE} (h : Ev tv σ H v) (ha : Ev td σ H (.ref d)) (hb : Ev ty σ H (kV k)) (hd : H d = some (.dK kvs)) (hl : kvs.length < 1000) (q : ∀ H1, Ex H H1 → D.nx σ (upd H1 d (.dK (putK kvs k v)))) : sDPut td ty tv D σ H :=
  h H (Ex.refl H) _ fun H1 e1 => ha H1 e1 _ fun H2 e2 => hb H2 (e1.trans e2) _ fun H3 e3 => ⟨d, _, rfl, DPut.k (((e1.trans e2).trans e3) _ _ hd) (small1000 (Nat.le_of_lt hl)), q H3 ((e1.trans e2).trans e3)⟩
/-- if without else, what follows told once -/
theorem q_whenJ {b : Bool} {J : Hp → Prop} (h : EvT t σ H b) (rest : ∀ H2, J H2 → tz D σ H2) (h1 : b = true → ∀ H1, Ex H H1 → (∀ H2, J H2 → tz D σ H2) → tu { D with nx := tz D } σ H1) (h2 : b = false → ∀ H1, Ex H H1 → J H1) : tSeq (tIfS t tu tNext) tz D σ H :=
  q_when h (fun hb H1 e => h1 hb H1 e rest) fun hb H1 e => rest H1 (h2 hb H1 e)
theorem q_dput {k : Key} {d : Addr} {kvs : List (Key × V)} {tv td ty : TE} (h : Ev tv σ H v) (ha : Ev td σ H (.ref d)) (hb : Ev ty σ H (kV k)) (hd : H d = some (.dK kvs)) (hl : kvs.length < 1000) (q : ∀ H1, Ex H H1 → tz D σ (upd H1 d (.dK (putK kvs k v)))) : tSeq (sDPut td ty tv) tz D σ H :=
  h H (Ex.refl H) _ fun H1 e1 => ha H1 e1 _ fun H2 e2 => hb H2 (e1.trans e2) _ fun H3 e3 => ⟨d, _, rfl, DPut.k (((e1.trans e2).trans e3) _ _ hd) (small1000 (Nat.le_of_lt hl)), q H3 ((e1.trans e2).trans e3)⟩
end
def PickOk (n k : Int) : Prop := (n < 2 → k = 0) ∧ (2 ≤ n → 0 ≤ k ∧ k < n)
theorem PickOk.lt {n k : Int} (h : PickOk n k) (hn : 1 ≤ n) : 0 ≤ k ∧ k < n := by
  by_cases z : n < 2
  · have := h.1 z; omega
  · exact h.2 (by omega)
def spPick : Sp := fun vs H Q _ => ∃ (s g : Addr) (n : Int), vs = [.ref s, .int n] ∧ Src s g H ∧ n ≤ 1000000000 ∧ ∀ (k : Int) (H' : Hp), Le s g H H' → PickOk n k → Q (.int k) H'
section
variable {P : Program} {w : World} {K : PySem.W.Frag} {mg : Str → Option Value} {base : Heap} {H : Hp}
theorem ok_law_pick (L : Lib K mg) {f : Addr} {fd : FuncData} (F : L2.Fun K "_law_pick" "_law_pick" s_law_pick f fd) : FnOk P w K mg base CX0 1 f fd ["s", "many"] spPick := by
  refine F.ok sc_law_pick (fun vs H Q E h => ?_) (fun cdv A outer s H vs Q E hr h => ?_)
  · obtain ⟨s, g, n, rfl, _⟩ := h; rfl
  · obtain ⟨s, g, n, rfl, hs, hn, fin⟩ := h
    have hu := hu_of hr
    refine ⟨_, (pss_cons (ps_if (pt_cmpR op_lt (pv 1) pe_int (nomark _))
      (pss_one (ps_ret pe_int))
      pss_nil)
    (pss_cons (ps_if (PW.pt (pw_and (pt_cmpR op_lt (pe_dget hu (pv 0) pe_str (fun _ _ => rfl)) pe_int (nomark _)) (pw_and1 (pt_truth (pe_dget hu (pv 0) pe_str (fun _ _ => rfl)) (by intro _; rfl)))))
      (pss_one (ps_dput hu (pv 0) pe_str (pe_bm PySem.F.plainAttrs_list PySem.F.slot_list_pop PySem.F.type_list_pop mt_popAt (pe_dget hu (pv 0) pe_str (fun _ _ => rfl)) (pa_cons pe_int pa_nil)) rfl))
      pss_nil)
    (pss_cons (ps_if (pt_cmpR op_gt (pe_dget hu (pv 0) pe_str (fun _ _ => rfl)) pe_int (nomark _))
      (pss_cons (ps_set (i := 2) sc_law_pick.nd rfl (Or.inl rfl) (pe_op op_mod (pe_callTy call_int1 (by rfl) L.int (by decide +kernel) (pa_cons (pe_dget hu (pv 0) pe_str (fun _ _ => rfl)) pa_nil)) (pv 1)))
    (pss_cons (ps_dput hu (pv 0) pe_str (pe_op op_fdivZ (pe_dget hu (pv 0) pe_str (fun _ _ => rfl)) (pv 1)) rfl)
    (pss_one (ps_ret (pv 2)))))
      pss_nil)
    (pss_cons (ps_dput hu (pv 0) pe_str (pe_op op_add (pe_dget hu (pv 0) pe_str (fun _ _ => rfl)) pe_int) rfl)
    (pss_cons (ps_dput hu (pv 0) pe_str (pe_op op_mod (pe_callTy call_int1 (by rfl) L.int (by decide +kernel) (pa_cons (pe_op op_add (pe_op op_add (pe_op op_mul (pe_dget hu (pv 0) pe_str (fun _ _ => rfl)) pe_int) (pe_op op_mul (pe_dget hu (pv 0) pe_str (fun _ _ => rfl)) pe_int)) pe_int) pa_nil)) pe_int) rfl)
    (pss_one (ps_ret (pe_op op_mod (pe_callTy call_int1 (by rfl) L.int (by decide +kernel) (pa_cons (pe_op op_fdivZ (pe_op op_mod (pe_callTy call_int1 (by rfl) L.int (by decide +kernel) (pa_cons (pe_op op_add (pe_op op_mul (pe_dget hu (pv 0) pe_str (fun _ _ => rfl)) pe_int) (pe_op op_fdivZ (pe_dget hu (pv 0) pe_str (fun _ _ => rfl)) pe_int)) pa_nil)) pe_int) pe_int) pa_nil)) (pv 1))))))))), ?_⟩
    have sg := hs.ne
    have hs0 := hs
    refine q_when (et_test (ev_lt (ev_var rfl) ev_c)) (fun hb H1 e1 => s_ret ev_c fun H2 e2 => fin 0 H2 (Le.of hs0 (e1.trans e2)) ⟨fun _ => rfl, fun h => by have := of_decide_eq_true hb; omega⟩) (fun hb H1 e1 => ?_)
    have hn2 := of_decide_eq_false hb
    obtain ⟨gs, b, t, e, h1, h2⟩ := hs
    have h1 := e1 _ _ h1
    have h2 := e1 _ _ h2
    have L1 : Le s g H H1 := Le.of hs0 e1
    refine q_whenJ (J := fun H2 => Le s g H H2) (b := decide (b < 2) && !gs.isEmpty) (et_and (et_test (ev_lt (ev_dget (k := kB) (ev_var rfl) ev_c h1 (kvB ..)) ev_c)) fun _ => fun H2 e2 Q2 q2 => ?_) (fun H2 L2 => ?_) (fun hb2 H2 e2 rest => ?_) (fun hb2 H2 e2 => L1.trans (Le.of L1.src e2))
    · exact (ev_dget (σ := [some (.ref s), some (.int n), none]) (ta := tVar 0) (tb := tC (.str "great")) (k := kG) (ev_var rfl) ev_c h1 (kvG ..)) H2 e2 _ fun H3 e3 => ⟨!gs.isEmpty, .inl ⟨iL gs, sq_of ((e2.trans e3) _ _ h2), by cases gs <;> rfl⟩, q2 H3 e3⟩
    · -- from here on
      obtain ⟨gs, b, t, e, h1, h2⟩ := L2.src
      have upS : ∀ {H3 : Hp} {b t e : Int}, Ex H2 H3 → Le s g H (upd H3 s (.dK (kvS g b t e))) := fun {H3 b t e} e3 => ⟨fun a o ha n1 n2 => by rw [upd_ne n1]; exact e3 _ _ (L2.keep a o ha n1 n2), gs, b, t, e, upd_same, by rw [upd_ne sg.symm]; exact e3 _ _ h2⟩
      refine q_when (et_test (ev_gt (ev_dget (k := kB) (ev_var rfl) ev_c h1 (kvB ..)) ev_c)) (fun hb3 H3 e3 => ?_) (fun hb3 H3 e3 => ?_)
      · have hn0 : (0 : Int) < n := by omega
        refine q_asg (ev_mod (ev_int (ev_dget (k := kB) (ev_var rfl) ev_c (e3 _ _ h1) (kvB ..))) (ev_var rfl) hn0) fun H4 e4 => ?_
        refine q_dput (k := kB) (ev_fdiv (ev_dget (k := kB) (ev_var rfl) ev_c ((e3.trans e4) _ _ h1) (kvB ..)) (ev_var rfl) (cdivz_small _ (by omega) (by omega))) (ev_var rfl) ev_c ((e3.trans e4) _ _ h1) kvL fun H5 e5 => ?_
        rw [putB]
        refine s_ret (ev_var rfl) fun H6 e6 => ?_
        have L5 := upS (H3 := H5) (b := b.fdiv n) (t := t) (e := e) ((e3.trans e4).trans e5)
        exact fin (b % n) H6 (L5.trans (Le.of L5.src e6)) ⟨fun h => by omega, fun _ => ⟨Int.emod_nonneg _ (by omega), Int.emod_lt_of_pos _ hn0⟩⟩
      · refine q_dput (k := kE) (ev_add (ev_dget (k := kE) (ev_var rfl) ev_c (e3 _ _ h1) (kvE ..)) ev_c) (ev_var rfl) ev_c (e3 _ _ h1) kvL fun H4 e4 => ?_
        rw [putE]
        have a1 : (upd H4 s (.dK (kvS g b t (e + 1)))) s = some (.dK (kvS g b t (e + 1))) := upd_same
        refine q_dput (k := kT) (ev_mod (ev_int (ev_add (ev_add (ev_mul (ev_dget (k := kT) (ev_var rfl) ev_c a1 (kvT ..)) ev_c (.inr ⟨by decide, by decide⟩)) (ev_mul (ev_dget (k := kE) (ev_var rfl) ev_c a1 (kvE ..)) ev_c (.inr ⟨by decide, by decide⟩))) ev_c)) ev_c (by decide)) (ev_var rfl) ev_c a1 kvL fun H5 e5 => ?_
        rw [putT]
        generalize hst : (t * 48271 + (e + 1) * 69621 + 11) % 2147483647 = st
        have a2 : (upd H5 s (.dK (kvS g b st (e + 1)))) s = some (.dK (kvS g b st (e + 1))) := upd_same
        have hn0 : (0 : Int) < n := by omega
        refine s_ret (ev_mod (ev_int (ev_fdiv (ev_mod (ev_int (ev_add (ev_mul (ev_dget (k := kT) (ev_var rfl) ev_c a2 (kvT ..)) ev_c (.inr ⟨by decide, by decide⟩)) (ev_fdiv (ev_dget (k := kT) (ev_var rfl) ev_c a2 (kvT ..)) ev_c (cdivz_small _ (by decide) (by decide))))) ev_c (by decide)) ev_c (cdivz_small _ (by decide) (by decide)))) (ev_var rfl) hn0) fun H6 e6 => ?_
        have L4 := upS (H3 := H4) (b := b) (t := t) (e := e + 1) (e3.trans e4)
        have L5 : Le s g H (upd H5 s (.dK (kvS g b st (e + 1)))) := by
          have L4' := L4.trans (Le.of L4.src e5)
          obtain ⟨gs', b', t', e', g1, g2⟩ := L4'.src
          exact ⟨fun a o ha n1 n2 => by rw [upd_ne n1]; exact L4'.keep a o ha n1 n2, gs', b, st, e + 1, upd_same, by rw [upd_ne sg.symm]; exact g2⟩
        exact fin _ H6 (L5.trans (Le.of L5.src e6)) ⟨fun h => by omega, fun _ => ⟨Int.emod_nonneg _ (by omega), Int.emod_lt_of_pos _ hn0⟩⟩
    · -- a great cell is taken
      have hne : gs ≠ [] := by
        intro z; subst z; simp at hb2
      obtain ⟨x, gs', rfl⟩ : ∃ x gs', gs = x :: gs' := by
        cases gs with
        | nil => exact absurd rfl hne
        | cons x gs' => exact ⟨x, gs', rfl⟩
      have h1' := e2 _ _ h1
      have h2' := e2 _ _ h2
      refine (ev_dget (σ := [some (.ref s), some (.int n), none]) (ta := tVar 0) (tb := tC (.str "great")) (k := kG) (ev_var rfl) ev_c h1' (kvG ..)) H2 (Ex.refl H2) _ fun H3 e3 => ⟨.inl ⟨rfl, _, sq_of (e3 _ _ h2')⟩, ?_⟩
      refine ⟨g, iL (x :: gs'), 0, 0, .int x, rfl, rfl, e3 _ _ h2', by decide, by decide, by simp [seqIndex?, iL], rfl, ?_⟩
      have u1 : (upd H3 g (.lst ((iL (x :: gs')).eraseIdx 0))) s = some (.dK (kvS g b t e)) := by rw [upd_ne sg]; exact e3 _ _ h1'
      refine ⟨_, rfl, s, _, rfl, DPut.k (k := kB) u1 (small1000 (Nat.le_of_lt kvL)), ?_⟩
      rw [putB]
      refine rest _ ⟨fun a o ha n1 n2 => by rw [upd_ne n1, upd_ne n2]; exact (e2.trans e3) _ _ (L1.keep a o ha n1 n2), gs', x, t, e, upd_same, ?_⟩
      rw [upd_ne sg.symm, upd_same]; rfl
theorem evk_pick {s g : Addr} {σ : L2.St} {ta : TA} {E : XK} {n : Int} (ha : ∀ H1, Le s g H H1 → EvA ta σ H1 [.ref s, .int n]) (hn : n ≤ 1000000000) : EvK s g (tCall spPick [] E ta) σ H (isI (PickOk n)) := fun H1 e Q q =>
  ha H1 e H1 (Ex.refl H1) _ fun H2 e2 => ⟨s, g, n, rfl, e.src.ex e2, hn, fun k H3 e3 hk => q _ H3 ((Le.of e.src e2).trans e3) ⟨k, rfl, hk⟩⟩
/-! ### within, one, modulus, number -/
def spWithin : Sp := fun vs H Q _ => ∃ (s g : Addr) (lo hi : Int), vs = [.ref s, .int lo, .int hi] ∧ Src s g H ∧ lo ≤ hi ∧ hi - lo < 100000000 ∧ ∀ (k : Int) (H' : Hp), Le s g H H' → lo ≤ k → k ≤ hi → Q (.int k) H'
theorem ok_law_within (L : Lib K mg) {f : Addr} {fd : FuncData} (F : L2.Fun K "_law_within" "_law_within" s_law_within f fd) : FnOk P w K mg base CX0 2 f fd ["s", "low", "high"] spWithin := by
  obtain ⟨f_law_pick, fd_law_pick, F_law_pick⟩ := L.law_pick
  have G_law_pick : FnOk P w K mg base CX0 1 f_law_pick fd_law_pick _ spPick := ok_law_pick L F_law_pick.F
  refine F.ok sc_law_within (fun vs H Q E h => ?_) (fun cdv A outer s H vs Q E hr h => ?_)
  · obtain ⟨s, g, lo, hi, rfl, _⟩ := h; rfl
  · obtain ⟨s, g, lo, hi, rfl, hs, h1, h2, fin⟩ := h
    refine ⟨_, (pss_one (ps_ret (pe_op op_add (pv 1) (pe_call G_law_pick (hr.mono (by decide)) (by rfl) F_law_pick.g F_law_pick.F.kp F_law_pick.b .nil pass0 (pa_cons (pv 0) (pa_cons (pe_op op_add (pe_op op_sub (pv 2) (pv 1)) pe_int) pa_nil)))))), ?_⟩
    refine s_retK hs (evi_op (g' := fun i j => i + j) (C := fun k => lo ≤ k ∧ k ≤ hi) (evi_of (i := lo) fun H1 e => ev_var rfl) (evk_pick (n := hi - lo + 1) (fun H1 e => ea_cons (ev_var rfl) (ea_cons (ev_add (ev_sub (ev_var rfl) (ev_var rfl)) ev_c) ea_nil)) (by omega)) fun i j hi' hj => ?_) fun v H1 e ⟨k, hv, hk⟩ => by rw [hv]; exact fin k H1 e hk.1 hk.2
    have := hj.lt (by omega)
    omega
theorem evk_within {s g : Addr} {σ : L2.St} {ta : TA} {E : XK} {lo hi : Int} (ha : ∀ H1, Le s g H H1 → EvA ta σ H1 [.ref s, .int lo, .int hi]) (h1 : lo ≤ hi) (h2 : hi - lo < 100000000) : EvK s g (tCall spWithin [] E ta) σ H (isI fun k => lo ≤ k ∧ k ≤ hi) := fun H1 e Q q =>
  ha H1 e H1 (Ex.refl H1) _ fun H2 e2 => ⟨s, g, lo, hi, rfl, e.src.ex e2, h1, h2, fun k H3 e3 hk1 hk2 => q _ H3 ((Le.of e.src e2).trans e3) ⟨k, rfl, hk1, hk2⟩⟩
def spOne : Sp := fun vs H Q _ => ∃ (s g p : Addr) (xs : List V), vs = [.ref s, .ref p] ∧ Src s g H ∧ H p = some (.lst xs) ∧ p ≠ g ∧ 0 < xs.length ∧ xs.length ≤ 1000000 ∧ ∀ (x : V) (H' : Hp), Le s g H H' → x ∈ xs → Q x H'
theorem ok_law_one (L : Lib K mg) {f : Addr} {fd : FuncData} (F : L2.Fun K "_law_one" "_law_one" s_law_one f fd) : FnOk P w K mg base CX0 2 f fd ["s", "things"] spOne := by
  obtain ⟨f_law_pick, fd_law_pick, F_law_pick⟩ := L.law_pick
  have G_law_pick : FnOk P w K mg base CX0 1 f_law_pick fd_law_pick _ spPick := ok_law_pick L F_law_pick.F
  refine F.ok sc_law_one (fun vs H Q E h => ?_) (fun cdv A outer s H vs Q E hr h => ?_)
  · obtain ⟨s, g, p, xs, rfl, _⟩ := h; rfl
  · obtain ⟨s, g, p, xs, rfl, hs, hp, hpg, hl, hl2, fin⟩ := h
    refine ⟨_, (pss_one (ps_ret (pe_ix ix_list (pv 1) (pe_call G_law_pick (hr.mono (by decide)) (by rfl) F_law_pick.g F_law_pick.F.kp F_law_pick.b .nil pass0 (pa_cons (pv 0) (pa_cons (pe_callB call_len_seq (by rfl) L.len (by decide +kernel) (pa_cons (pv 1) pa_nil)) pa_nil))) (fun _ _ => rfl)))), ?_⟩
    refine ⟨_, rfl, ?_⟩
    refine (evk_pick (s := s) (g := g) (H := H) (n := (xs.length : Int)) (fun H1 e => ea_cons (ev_var rfl) (ea_cons (ev_len (ev_var rfl) (sq_of (e.lst hs hp hpg))) ea_nil)) (by omega)) H (Le.refl hs) _ fun v H1 e ⟨k, hv, hk⟩ => ?_
    have hk := hk.lt (by omega)
    have hkl : k.toNat < xs.length := by omega
    refine ⟨p, xs, k, xs[k.toNat], rfl, hv, sq_of (e.lst hs hp hpg), ?_, fin _ H1 e (List.getElem_mem hkl)⟩
    exact at_of (j := k.toNat) (by omega) (List.getElem?_eq_getElem hkl)
def spMod : Sp := fun vs H Q _ => ∃ (s g : Addr), vs = [.ref s] ∧ Src s g H ∧ ∀ (M : Int) (H' : Hp), Le s g H H' → Md M → Q (.int M) H'
theorem ok_law_modulus (L : Lib K mg) {f : Addr} {fd : FuncData} (F : L2.Fun K "_law_modulus" "_law_modulus" s_law_modulus f fd) : FnOk P w K mg base CX0 3 f fd ["s"] spMod := by
  obtain ⟨f_law_one, fd_law_one, F_law_one⟩ := L.law_one
  have G_law_one : FnOk P w K mg base CX0 2 f_law_one fd_law_one _ spOne := ok_law_one L F_law_one.F
  refine F.ok sc_law_modulus (fun vs H Q E h => ?_) (fun cdv A outer s H vs Q E hr h => ?_)
  · obtain ⟨s, g, rfl, _⟩ := h; rfl
  · obtain ⟨s, g, rfl, hs, fin⟩ := h
    refine ⟨_, (pss_one (ps_ret (pe_call G_law_one (hr.mono (by decide)) (by rfl) F_law_one.g F_law_one.F.kp F_law_one.b .nil pass0 (pa_cons (pv 0) (pa_cons (pe_lst (pa_cons pe_int (pa_cons pe_int (pa_cons pe_int (pa_cons pe_int (pa_cons pe_int (pa_cons pe_int pa_nil))))))) pa_nil))))), ?_⟩
    refine ⟨_, rfl, by show 6 ≤ sizeLine; decide, fun p np => ?_⟩
    have ex : Ex H (upd H p (.lst [.int 0, .int 0, .int 0, .int 2, .int 3, .int 5])) := Ex.new np
    refine ⟨s, g, p, _, rfl, hs.ex ex, upd_same, hs.newG np, by decide, by decide, fun x H1 e hx => ?_⟩
    have hx : x = .int 0 ∨ x = .int 2 ∨ x = .int 3 ∨ x = .int 5 := by
      simp only [List.mem_cons, List.not_mem_nil, or_false] at hx
      rcases hx with h | h | h | h | h | h <;> simp [h]
    have Lf := (Le.of hs ex).trans e
    rcases hx with h | h | h | h <;> rw [h]
    · exact fin 0 H1 Lf (.inl rfl)
    · exact fin 2 H1 Lf (.inr (.inl rfl))
    · exact fin 3 H1 Lf (.inr (.inr (.inl rfl)))
    · exact fin 5 H1 Lf (.inr (.inr (.inr rfl)))
def NumOk (M k : Int) : Prop := (M ≠ 0 → 0 ≤ k ∧ k < M) ∧ (M = 0 → -1000000 ≤ k ∧ k ≤ 1000000)
def spNum : Sp := fun vs H Q _ => ∃ (s g : Addr) (M : Int), vs = [.ref s, .int M] ∧ Src s g H ∧ Md M ∧ ∀ (k : Int) (H' : Hp), Le s g H H' → NumOk M k → Q (.int k) H'
theorem ok_law_c_number (L : Lib K mg) {f : Addr} {fd : FuncData} (F : L2.Fun K "_law_c_number" "_law_c_number" s_law_c_number f fd) : FnOk P w K mg base CX0 3 f fd ["s", "M"] spNum := by
  obtain ⟨f_law_pick, fd_law_pick, F_law_pick⟩ := L.law_pick
  obtain ⟨f_law_within, fd_law_within, F_law_within⟩ := L.law_within
  have G_law_pick : FnOk P w K mg base CX0 1 f_law_pick fd_law_pick _ spPick := ok_law_pick L F_law_pick.F
  have G_law_within : FnOk P w K mg base CX0 2 f_law_within fd_law_within _ spWithin := ok_law_within L F_law_within.F
  refine F.ok sc_law_c_number (fun vs H Q E h => ?_) (fun cdv A outer s H vs Q E hr h => ?_)
  · obtain ⟨s, g, M, rfl, _⟩ := h; rfl
  · obtain ⟨s, g, M, rfl, hs, hm, fin⟩ := h
    refine ⟨_, (pss_cons (ps_if (pt_cmpR op_ne (pv 1) pe_int (nomark _))
      (pss_one (ps_ret (pe_call G_law_pick (hr.mono (by decide)) (by rfl) F_law_pick.g F_law_pick.F.kp F_law_pick.b .nil pass0 (pa_cons (pv 0) (pa_cons (pv 1) pa_nil)))))
      pss_nil)
    (pss_cons (ps_set (i := 2) sc_law_c_number.nd rfl (Or.inl rfl) (pe_call G_law_pick (hr.mono (by decide)) (by rfl) F_law_pick.g F_law_pick.F.kp F_law_pick.b .nil pass0 (pa_cons (pv 0) (pa_cons pe_int pa_nil))))
    (pss_one (ps_ret (pe_ifExp (pt_cmpR op_eq (pv 2) pe_int (nomark _)) (pe_call G_law_within (hr.mono (by decide)) (by rfl) F_law_within.g F_law_within.F.kp F_law_within.b .nil pass0 (pa_cons (pv 0) (pa_cons (pe_op op_sub pe_int pe_int) (pa_cons pe_int pa_nil)))) (pe_call G_law_within (hr.mono (by decide)) (by rfl) F_law_within.g F_law_within.F.kp F_law_within.b .nil pass0 (pa_cons (pv 0) (pa_cons (pe_op op_sub pe_int pe_int) (pa_cons pe_int pa_nil))))))))), ?_⟩
    refine q_when (et_test (ev_neI (ev_var rfl) ev_c)) (fun hb H1 e1 => ?_) (fun hb H1 e1 => ?_)
    · have hM := of_decide_eq_true hb
      have hM2 := hm.pos hM
      refine s_retK (hs.ex e1) (evk_pick (n := M) (fun H2 e => ea_cons (ev_var rfl) (ea_cons (ev_var rfl) ea_nil)) (by omega)) fun v H2 e2 ⟨k, hv, hk⟩ => ?_
      rw [hv]
      exact fin k H2 ((Le.of hs e1).trans e2) ⟨fun _ => hk.lt (by omega), fun h => absurd h hM⟩
    · have hM : M = 0 := by have := of_decide_eq_false hb; omega
      refine q_asgK (hs.ex e1) (evk_pick (n := 12) (fun H2 e => ea_cons (ev_var rfl) (ea_cons ev_c ea_nil)) (by decide)) fun v H2 e2 ⟨k, hv, hk⟩ => ?_
      subst hv
      have L2 := (Le.of hs e1).trans e2
      refine (et_test (b := decide (k = 0)) (ev_eqI (ev_var rfl) ev_c)) H2 (Ex.refl H2) _ fun H3 e3 => ?_
      have L3 := L2.trans (Le.of L2.src e3)
      by_cases hk0 : k = 0
      · rw [decide_eq_true hk0]
        refine iteT ?_
        refine (evk_within (s := s) (g := g) (H := H3) (lo := 0 - 1000000) (hi := 1000000) (fun H4 e => ea_cons (ev_var rfl) (ea_cons (ev_sub ev_c ev_c) (ea_cons ev_c ea_nil))) (by decide) (by decide)) H3 (Le.refl L3.src) _ fun v H4 e4 ⟨k, hv, hk⟩ => ?_
        rw [hv]
        exact fin k H4 (L3.trans e4) ⟨fun h => absurd hM h, fun _ => by omega⟩
      · rw [decide_eq_false hk0]
        refine iteF ?_
        refine (evk_within (s := s) (g := g) (H := H3) (lo := 0 - 6) (hi := 6) (fun H4 e => ea_cons (ev_var rfl) (ea_cons (ev_sub ev_c ev_c) (ea_cons ev_c ea_nil))) (by decide) (by decide)) H3 (Le.refl L3.src) _ fun v H4 e4 ⟨k, hv, hk⟩ => ?_
        rw [hv]
        exact fin k H4 (L3.trans e4) ⟨fun h => absurd hM h, fun _ => by omega⟩
end
end Mine
set_option Elab.async false
set_option linter.all false
set_option maxRecDepth 100000
set_option maxHeartbeats 4000000
namespace Mine
open PySem PySem.Spec PyProof.Rows L2 Evl
section
variable {K : PySem.W.Frag} {σ : L2.St} {H H' : Hp} {ta tb te tf tx tl : TE} {t u : TT} {x y z v w1 : V} {D : Ends} {tu tw tz : TS}
/-- a, b = [..], [..] | [..], v -/
theorem q_parLL {i j : Nat} {xs ys : List V} (h : EvL te σ H xs) (h2 : ∀ H1, Ex H H1 → EvL tf σ H1 ys) (k : ∀ p q H1, H p = none → H q = none → p ≠ q → Ex H H1 → H1 p = some (.lst xs) → H1 q = some (.lst ys) → tz D ((σ.set i (some (.ref p))).set j (some (.ref q))) H1) : tSeq (tPar i j (tCons te (tCons tf tNil))) tz D σ H :=
  h H (Ex.refl H) _ fun p H1 np e1 h1 => h2 H1 e1 H1 (Ex.refl H1) _ fun q H2 nq e2 h2 => ⟨_, _, rfl, k p q H2 np (fresh_back e1 nq) (ne_of_none h1 nq) (e1.trans e2) (e2 _ _ h1) h2⟩
theorem q_parLV {i j : Nat} {xs : List V} (h : EvL te σ H xs) (h2 : ∀ H1, Ex H H1 → Ev tf σ H1 v) (k : ∀ p H1, H p = none → Ex H H1 → H1 p = some (.lst xs) → tz D ((σ.set i (some (.ref p))).set j (some v)) H1) : tSeq (tPar i j (tCons te (tCons tf tNil))) tz D σ H :=
  h H (Ex.refl H) _ fun p H1 np e1 h1 => h2 H1 e1 H1 (Ex.refl H1) _ fun H2 e2 => ⟨_, _, rfl, k p H2 np (e1.trans e2) (e2 _ _ h1)⟩
end
section
variable {P : Program} {w : World} {K : PySem.W.Frag} {mg : Str → Option Value} {base : Heap} {H : Hp}
/-! ### source -/
def spSource (K : PySem.W.Frag) : Sp := fun vs H Q _ => ∃ (a : Addr) (ns : List Int), vs = [.ref a, .int 0] ∧ SqL K H a (ns.map V.int) ∧ ns.length ≤ 63 ∧ ∀ (s g : Addr) (H' : Hp), Ex H H' → Src s g H' → H s = none → H g = none → Q (.ref s) H'
theorem ok_law_source (L : Lib K mg) {f : Addr} {fd : FuncData} (F : L2.Fun K "_law_source" "_law_source" s_law_source f fd) : FnOk P w K mg base CX0 1 f fd ["script", "at"] (spSource K) := by
  refine F.ok sc_law_source (fun vs H Q E h => ?_) (fun cdv A outer s H vs Q E hr h => ?_)
  · obtain ⟨a, ns, rfl, _⟩ := h; rfl
  · obtain ⟨a, ns, rfl, hS, hl, fin⟩ := h
    refine ⟨_, (pss_cons (ps_par (i := 2) (j := 3) rfl sc_law_source.nd rfl rfl (by decide) rfl rfl (pa_cons (pe_lst pa_nil) (pa_cons (pe_op op_add pe_int (pv 1)) pa_nil)) (by rfl))
    (pss_cons (ps_for PassesOwn.never rfl (pi_range1 (by rfl) L.range (pa_cons (pe_callB (call_min2 rfl) (by rfl) L.min (by decide +kernel) (pa_cons (pe_callB call_len_seq (by rfl) L.len (by decide +kernel) (pa_cons (pv 0) pa_nil)) (pa_cons pe_int pa_nil))) pa_nil)) (pg_name (i := 4) sc_law_source.nd rfl (Or.inl rfl))
      (pss_cons (ps_set (i := 5) sc_law_source.nd rfl (Or.inl rfl) (pe_callTy call_int1 (by rfl) L.int (by decide +kernel) (pa_cons (pe_ix ix_list (pv 0) (pe_op op_mod (pe_op op_add (pv 1) (pv 4)) (pe_callB (call_min2 rfl) (by rfl) L.min (by decide +kernel) (pa_cons (pe_callB call_len_seq (by rfl) L.len (by decide +kernel) (pa_cons (pv 0) pa_nil)) (pa_cons pe_int pa_nil)))) (fun _ _ => rfl)) pa_nil)))
    (pss_cons (ps_set (i := 3) sc_law_source.nd rfl (Or.inl rfl) (pe_op op_mod (pe_callTy call_int1 (by rfl) L.int (by decide +kernel) (pa_cons (pe_op op_add (pe_op op_add (pe_op op_mul (pv 3) pe_int) (pe_op op_mod (pv 5) pe_int)) pe_int) pa_nil)) pe_int))
    (pss_one (ps_if (pt_cmpR op_ge (pe_callB call_abs (by rfl) L.abs (by decide +kernel) (pa_cons (pv 5) pa_nil)) (pe_op op_pow pe_int pe_int) (nomark _))
      (pss_one (ps_expr (pe_bm PySem.F.plainAttrs_list PySem.F.slot_list_append PySem.F.type_list_append mt_append (pv 2) (pa_cons (pe_callB call_abs (by rfl) L.abs (by decide +kernel) (pa_cons (pv 5) pa_nil)) pa_nil))))
      pss_nil)))))
    (pss_one (ps_ret (pe_disp (pps_cons pe_str (pv 2) (pps_cons pe_str pe_int (pps_cons pe_str (pv 3) (pps_cons pe_str pe_int pps_nil)))) (by rfl) (by rfl) (fun z => by cases z) (by decide)))))), ?_⟩
    refine q_parLV (el_lst ea_nil (by simp)) (fun H1 e1 => ev_add ev_c (ev_var rfl)) fun g H1 ng e1 hg1 => ?_
    have hS1 : SqL K H1 a (iL ns) := ex_l e1 hS
    have evMin : ∀ {σ : L2.St} {H2 : Hp}, Ex H1 H2 ∨ SqL K H2 a (iL ns) → σ[0]? = some (some (.ref a)) → Ev (tCB (fun xs H Q => ∃ i j, xs = [.int i, .int j] ∧ Q (.int (if j < i then j else i)) H) (tCons (tCB (rLenS K) (tCons (tVar 0) tNil)) (tCons (tC (.int 63)) tNil))) σ H2 (.int (ns.length : Int)) := fun {σ H2} e h0 => by
      have hq : SqL K H2 a (iL ns) := e.elim (fun e => ex_l e hS1) id
      refine ev_is (ev_cb (vs := [.int (ns.length : Int), .int 63]) (z := .int (if (63 : Int) < ns.length then 63 else (ns.length : Int))) (ea_cons (ev_is (ev_len (ev_var h0) hq) (by rw [iL_len])) (ea_cons ev_c ea_nil)) fun H3 e3 Q q => ⟨_, _, rfl, q H3 (Ex.refl H3)⟩) ?_
      rw [if_neg (by omega)]
    refine q_forR1 (n := (ns.length : Nat)) (ea_cons (evMin (.inl (Ex.refl _)) rfl) ea_nil) (by omega) (fun i σ' H' => ∃ (gs : Row) (st : Int) (v4 v5 : Option V), σ' = [some (.ref a), some (.int 0), some (.ref g), some (.int st), v4, v5] ∧ Ex H H' ∧ H' g = some (.lst (iL gs)) ∧ gs.length ≤ i)
      (fun H3 e3 => ⟨[], _, none, none, rfl, e1.trans e3, e3 _ _ hg1, Nat.le_refl _⟩) ?_ ?_
    · rintro i σ' H' hi ⟨gs, st, v4, v5, rfl, ex, hg, hgl⟩
      have hi : i < ns.length := by omega
      have hq : SqL K H' a (iL ns) := ex_l ex hS
      refine q_asg (v := .int (en ns i)) (ev_int (ev_ix (ev_var rfl) (ev_is (ev_mod (ev_add (ev_var rfl) (ev_var rfl)) (evMin (.inr hq) rfl) (by omega)) (by rw [Int.zero_add, Int.emod_eq_of_lt (by omega) (by omega)])) hq (iL_en hi))) fun H2 e2 => ?_
      refine q_asg (ev_mod (ev_int (ev_add (ev_add (ev_mul (ev_var rfl) ev_c (.inr ⟨by decide, by decide⟩)) (ev_mod (ev_var rfl) ev_c (by decide))) ev_c)) ev_c (by decide)) fun H3 e3 => ?_
      have ex3 := (ex.trans e2).trans e3
      have hg3 := (e2.trans e3) _ _ hg
      refine s_when (et_test (ev_ge (ev_abs (ev_var rfl)) (ev_op ev_c ev_c (rv_I (g := fun i j => .int (i ^ j.toNat)) ⟨by decide, by decide, by decide⟩)))) (fun hb H4 e4 => ?_) (fun hb H4 e4 => ⟨gs, _, _, _, rfl, ex3.trans e4, e4 _ _ hg3, by omega⟩)
      refine s_app (e4 _ _ hg3) (ev_var rfl) (ev_abs (ev_var rfl)) (by rw [iL_len]; omega) fun H5 e5 => ?_
      refine ⟨gs ++ [if en ns i < 0 then -(en ns i) else en ns i], _, _, _, rfl, Ex.mut ((ex3.trans e4).trans e5) ng, ?_, by rw [List.length_append, List.length_singleton]; omega⟩
      rw [upd_same]; unfold iL; rw [List.map_append]; rfl
    · rintro σ' H' ⟨gs, st, v4, v5, rfl, ex, hg, hgl⟩
      intro s ns'
      have e2 : Ex H' (upd H' s (.dK [])) := Ex.new ns'
      have sg : s ≠ g := (ne_of_none hg ns').symm
      refine ⟨_, rfl, _, rfl, ?_⟩
      refine ⟨upd_same, kvS g 0 st 0, rfl, by show 4 ≤ 15; decide, ?_⟩
      have hm : mergeK [] (kvS g 0 st 0) = kvS g 0 st 0 := by
        unfold mergeK kvS
        simp only [List.foldl_cons, List.foldl_nil]
        rw [putK_new (k := kG) _ valV_nil, putK_new (k := kB) _ (by simp [valV, xGB]), putK_new (k := kT) _ (by simp [valV, xGT, xBT]), putK_new (k := kE) _ (by simp [valV, xGE, xBE, xTE])]
        rfl
      rw [hm]
      refine fin s g _ ?_ ⟨gs, 0, st, 0, upd_same, by rw [upd_ne sg.symm, upd_ne sg.symm]; exact hg⟩ (fresh_back ex ns') ng
      intro b o hb
      have hb' := ex b o hb
      have bs : b ≠ s := ne_of_none hb' ns'
      rw [upd_ne bs, upd_ne bs]; exact hb'
end
theorem mem_set_or {α : Type} {l : List α} {i : Nat} {x y : α} (h : y ∈ l.set i x) : y = x ∨ y ∈ l := by
  rcases List.mem_or_eq_of_mem_set h with h | h
  · exact .inr h
  · exact .inl h
/-! ### an own list of own rows -/
structure Own (s g : Addr) (H H' : Hp) (p : Addr) (ps : List AR) : Prop where
  le : Le s g H H'
  np : H p = none
  lst : H' p = some (.lst (adr ps))
  rws : Rws H' ps
  fr : ∀ x ∈ ps, H x.1 = none ∧ x.1 ≠ p
theorem Own.off {s g p : Addr} {H H' : Hp} {ps : List AR} (hs : Src s g H) (o : Own s g H H' p ps) : p ≠ g ∧ OffG g ps := ⟨hs.newG o.np, fun x hx => hs.newG (o.fr x hx).1⟩
theorem Own.to {s g p : Addr} {H H' H'' : Hp} {ps : List AR} (hs : Src s g H) (o : Own s g H H' p ps) (e : Le s g H' H'') : Own s g H H'' p ps :=
  ⟨o.le.trans e, o.np, e.lst o.le.src o.lst (o.off hs).1, e.rws o.le.src o.rws (o.off hs).2, o.fr⟩
theorem Own.ex {s g p : Addr} {H H' H'' : Hp} {ps : List AR} (hs : Src s g H) (o : Own s g H H' p ps) (e : Ex H' H'') : Own s g H H'' p ps := o.to hs (Le.of o.le.src e)
theorem rws_set {ps : List AR} {i : Nat} {x : AR} : rws (ps.set i x) = (rws ps).set i x.2 := by unfold rws; rw [List.map_set]
theorem adr_set' {ps : List AR} {i : Nat} {x : AR} : adr (ps.set i x) = (adr ps).set i (.ref x.1) := by unfold adr; rw [List.map_set]
theorem Own.put {s g p q : Addr} {H H' : Hp} {ps : List AR} {r : Row} {i : Nat} (hs : Src s g H) (o : Own s g H H' p ps) (hq : H' q = some (.lst (iL r))) (nq : H q = none) (qp : q ≠ p) : Own s g H (L2.upd H' p (.lst ((adr ps).set i (.ref q)))) p (ps.set i (q, r)) := by
  refine ⟨o.le.mut hs o.np, o.np, by rw [upd_same, adr_set'], fun x hx => ?_, fun x hx => ?_⟩
  · rcases mem_set_or hx with h | h
    · rw [h, upd_ne qp]; exact hq
    · rw [upd_ne (o.fr x h).2]; exact o.rws x h
  · rcases mem_set_or hx with h | h
    · rw [h]; exact ⟨nq, qp⟩
    · exact o.fr x h
theorem Own.app {s g p q : Addr} {H H' : Hp} {ps : List AR} {r : Row} (hs : Src s g H) (o : Own s g H H' p ps) (hq : H' q = some (.lst (iL r))) (nq : H q = none) (qp : q ≠ p) : Own s g H (L2.upd H' p (.lst (adr ps ++ [.ref q]))) p (ps ++ [(q, r)]) := by
  refine ⟨o.le.mut hs o.np, o.np, by rw [upd_same, adr_app]; rfl, fun x hx => ?_, fun x hx => ?_⟩
  · rcases List.mem_append.mp hx with h | h
    · rw [upd_ne (o.fr x h).2]; exact o.rws x h
    · rw [List.mem_singleton.mp h, upd_ne qp]; exact hq
  · rcases List.mem_append.mp hx with h | h
    · exact o.fr x h
    · rw [List.mem_singleton.mp h]; exact ⟨nq, qp⟩
/-! ### comprehensions that draw -/
def ElK (s g : Addr) (te : TE) (σ : L2.St) (H : Hp) (P : List V → Prop) : Prop := ∀ H1, Le s g H H1 → ∀ Q : VK, (∀ (p : Addr) (xs : List V) (H2 : Hp), H1 p = none → Le s g H1 H2 → H2 p = some (.lst xs) → P xs → Q (.ref p) H2) → te σ H1 Q
section
variable {K : PySem.W.Frag} {s g : Addr} {σ : L2.St} {H H' : Hp} {ta tb te tx tl : TE} {t u : TT} {x y z v w1 : V} {D : Ends} {tu tw tz : TS} {A B C : Int → Prop}
theorem ElK.imp {P P' : List V → Prop} (h : ElK s g te σ H P) (hi : ∀ v, P v → P' v) : ElK s g te σ H P' := fun H1 e Q q => h H1 e Q fun p v H2 n e2 hp pv => q p v H2 n e2 hp (hi v pv)
theorem elk_lc {a : Addr} {xs : List V} {j : Nat} {vs : List Nat} (P : Nat → V → Prop) (h : ∀ H1, Le s g H H1 → Ev tl σ H1 (.ref a)) (hs : Src s g H) (hx : H a = some (.lst xs)) (hg : a ≠ g) (hz : xs.length ≤ 40000) (hw : ∀ x, wipe ((wipe σ vs).set j (some x)) vs = wipe σ vs)
    (he : ∀ (i : Nat) (x : V), xs[i]? = some x → EvK s g te ((wipe σ vs).set j (some x)) H (P i)) : ElK s g (tLc (iList K tl) (gName j) tYes te vs) σ H (fun zs => zs.length = xs.length ∧ ∀ i z, zs[i]? = some z → P i z) := fun H0 e0 Q q => h H0 e0 H0 (Ex.refl H0) _ fun H1 e1 => ⟨a, rfl, ⟨xs, sq_of ((e0.trans (Le.of e0.src e1)).lst hs hx hg)⟩, fun Dl hD => by
  have L1 := e0.trans (Le.of e0.src e1)
  exact lc_list (xs := xs) (fun i H' => ∃ zs : List V, Le s g H1 H' ∧ H' Dl = some (.lst zs) ∧ zs.length = i ∧ ∀ i z, zs[i]? = some z → P i z) ⟨[], Le.of L1.src (Ex.new hD), upd_same, rfl, fun i z h => by simp at h⟩
    (fun i H' _ ⟨_, e, _⟩ => sq_of ((L1.trans e).lst hs hx hg))
    (fun i x H' hi ⟨zs, e, hl, hq, hp⟩ => by
      refine ⟨hw _, yes_turn ?_⟩
      refine he i x hi H' (L1.trans e) _ fun v H2 e2 pv => ?_
      have hl2 := e2.lst e.src hl (L1.src.newG hD)
      have hi2 := (List.getElem?_eq_some_iff.mp hi).1
      refine ⟨_, hl2, sz_lt (by omega), zs ++ [v], (e.trans e2).mut L1.src hD, upd_same, by rw [List.length_append, hq]; rfl, fun k z hk => ?_⟩
      rw [List.getElem?_append] at hk
      split at hk
      · exact hp k z hk
      · have hkl := (List.getElem?_eq_some_iff.mp hk).1
        have : k = i := by simp at hkl; omega
        subst this
        rw [hq, Nat.sub_self] at hk
        rw [← Option.some.inj hk]; exact pv)
    (fun H' ⟨zs, e, hl, hq, hp⟩ => q Dl zs H' (fresh_back e1 hD) ((Le.of e0.src e1).trans e) hl ⟨hq, hp⟩)⟩
theorem all_ints {P : Nat → Int → Prop} : ∀ {zs : List V}, (∀ i z, zs[i]? = some z → ∃ k, z = .int k ∧ P i k) → ∃ r : Row, zs = iL r ∧ ∀ i k, r[i]? = some k → P i k
  | [], _ => ⟨[], rfl, fun i k h => by simp at h⟩
  | z :: zs, h => by
    obtain ⟨k, rfl, hk⟩ := h 0 z rfl
    obtain ⟨r, rfl, hr⟩ := all_ints (P := fun i => P (i + 1)) (zs := zs) fun i z hz => h (i + 1) z hz
    refine ⟨k :: r, rfl, fun i k' hi => ?_⟩
    cases i with
    | zero => rw [← Option.some.inj hi]; exact hk
    | succ i => exact hr i k' hi
/-- rows of drawn numbers -/
theorem elk_lcR {a : Addr} {ps : List AR} {j : Nat} {vs : List Nat} (P : Row → Row → Prop) (h : ∀ H1, Le s g H H1 → Ev tl σ H1 (.ref a)) (hs : Src s g H) (hx : H a = some (.lst (adr ps))) (hg : a ≠ g) (hz : ps.length ≤ 40000) (hw : ∀ x, wipe ((wipe σ vs).set j (some x)) vs = wipe σ vs)
    (he : ∀ (i : Nat) (x : AR), ps[i]? = some x → ElK s g te ((wipe σ vs).set j (some (.ref x.1))) H (fun zs => ∃ r, zs = iL r ∧ P x.2 r)) {Q : VK}
    (q : ∀ (p : Addr) (qs : List AR) (H2 : Hp), Own s g H H2 p qs → qs.length = ps.length → (∀ (i : Nat) (x y : AR), ps[i]? = some x → qs[i]? = some y → P x.2 y.2) → Q (.ref p) H2) : tLc (iList K tl) (gName j) tYes te vs σ H Q := h H (Le.refl hs) H (Ex.refl H) _ fun H1 e1 => ⟨a, rfl, ⟨adr ps, sq_of (e1 _ _ hx)⟩, fun Dl hD => by
  have L1 := Le.of hs e1
  have nD := fresh_back e1 hD
  exact lc_list (xs := adr ps) (fun i H' => ∃ qs : List AR, Own s g H H' Dl qs ∧ qs.length = i ∧ ∀ (i : Nat) (x y : AR), ps[i]? = some x → qs[i]? = some y → P x.2 y.2) ⟨[], ⟨L1.trans (Le.of L1.src (Ex.new hD)), nD, upd_same, Rws.nil, fun x h => absurd h (by simp)⟩, rfl, fun i x y _ h => by simp at h⟩
    (fun i H' _ ⟨_, o, _⟩ => sq_of (o.le.lst hs hx hg))
    (fun i x H' hi ⟨qs, o, hq, hp⟩ => by
      obtain ⟨y, hy, rfl⟩ := adr_get hi
      refine ⟨hw _, yes_turn ?_⟩
      refine he i y hy H' o.le _ fun v zs H2 nv e2 hv ⟨r, hr, pr⟩ => ?_
      subst hr
      have o2 := o.to hs e2
      have hi2 := (List.getElem?_eq_some_iff.mp hy).1
      have vD : v ≠ Dl := (ne_of_none o.lst nv).symm
      refine ⟨_, o2.lst, sz_lt (by rw [adr_len]; omega), qs ++ [(v, r)], o2.app hs hv (o.le.back nv) vD, by rw [List.length_append, hq]; rfl, fun k x z hk hz => ?_⟩
      rw [List.getElem?_append] at hz
      split at hz
      · exact hp k x z hk hz
      · have hkl := (List.getElem?_eq_some_iff.mp hz).1
        have : k = i := by simp at hkl; omega
        subst this
        rw [hq, Nat.sub_self] at hz
        rw [hy] at hk
        rw [← Option.some.inj hk, ← Option.some.inj hz]; exact pr)
    (fun H' ⟨qs, o, hq, hp⟩ => by rw [adr_len] at hq; exact q Dl qs H' o hq hp)⟩
theorem q_forK {j : Nat} (hs : Src s g H) (h : EvK s g te σ H (isI A)) (k : ∀ n H1, Le s g H H1 → A n → tSeq (tFor (iRng1 (fun _ H Q => Q [.int n] H)) (gName j) tu) tz D σ H1) : tSeq (tFor (iRng1 (tCons te tNil)) (gName j) tu) tz D σ H := h H (Le.refl hs) _ fun v H1 e ⟨n, hv, hn⟩ => by
  subst hv; exact k n H1 e hn
theorem s_forK {j : Nat} (hs : Src s g H) (h : EvK s g te σ H (isI A)) (k : ∀ n H1, Le s g H H1 → A n → tFor (iRng1 (fun _ H Q => Q [.int n] H)) (gName j) tu D σ H1) : tFor (iRng1 (tCons te tNil)) (gName j) tu D σ H := h H (Le.refl hs) _ fun v H1 e ⟨n, hv, hn⟩ => by
  subst hv; exact k n H1 e hn
/-- if without else, the state too, what follows told once -/
theorem q_whenJ2 {b : Bool} {J : L2.St → Hp → Prop} (h : EvT t σ H b) (rest : ∀ σ' H', J σ' H' → tz D σ' H') (h1 : b = true → ∀ H1, Ex H H1 → (∀ σ' H', J σ' H' → tz D σ' H') → tu { D with nx := tz D } σ H1) (h2 : b = false → ∀ H1, Ex H H1 → J σ H1) : tSeq (tIfS t tu tNext) tz D σ H :=
  q_when h (fun hb H1 e => h1 hb H1 e rest) fun hb H1 e => rest σ H1 (h2 hb H1 e)
theorem el_lstRg {n : Nat} (h : Ev te σ H (.int (n : Nat))) (hn : n ≤ 1000000) : EvL (tLstRg (tRg1 te)) σ H (rgV 0 (n : Nat)) := fun H0 e0 Q q => h H0 e0 _ fun H1 e1 => ⟨_, rfl, by refine ⟨?_, ?_, ?_, ?_, ?_⟩ <;> omega, fun p np => q p _ (fresh_back e1 np) (e1.trans (Ex.new np)) upd_same⟩
theorem q_callVL {sp : Sp} {dvs vs xs : List V} {E : XK} {ta : TA} {g : TG} (h1 : Ev tb σ H v) (h2 : EvL te σ H xs) (h3 : EvA ta σ H vs) (k : ∀ p H1, H p = none → Ex H H1 → H1 p = some (.lst xs) → sp (v :: .ref p :: (vs ++ dvs)) H1 (fun x H2 => g x σ H2 (tz D)) E) : tSeq (tAsg (tCall sp dvs E (tCons tb (tCons te ta))) g) tz D σ H :=
  h1 H (Ex.refl H) _ fun H1 e1 => h2 H1 e1 _ fun p H2 np e2 hp => h3 H2 (e1.trans e2) _ fun H3 e3 => k p H3 (fresh_back e1 np) ((e1.trans e2).trans e3) (e3 _ _ hp)
theorem s_callLV {sp : Sp} {dvs vs xs : List V} {E : XK} {ta : TA} {g : TG} (h2 : EvL te σ H xs) (h3 : EvA ta σ H vs) (k : ∀ p H1, H p = none → Ex H H1 → H1 p = some (.lst xs) → sp (.ref p :: (vs ++ dvs)) H1 (fun x H2 => g x σ H2 D.nx) E) : tAsg (tCall sp dvs E (tCons te ta)) g D σ H :=
  h2 H (Ex.refl H) _ fun p H2 np e2 hp => h3 H2 e2 _ fun H3 e3 => k p H3 np (e2.trans e3) (e3 _ _ hp)
theorem ea_raw {vs : List V} : EvA (fun _ H Q => Q vs H) σ H vs := fun H1 e Q q => q H1 (Ex.refl H1)
end
theorem rgV0 (n : Nat) : rgV 0 (n : Int) = (List.range n).map fun i => V.int (i : Nat) := by unfold rgV; simp
theorem eqv_ints : ∀ r : Row, PyData.eqvAll (r.map PyData.int) (r.map PyData.int) = true
  | [] => by simp [PyData.eqvAll]
  | x :: r => by simp [PyData.eqvAll, PyData.eqv, eqv_ints r]
theorem eqv_I (r : Row) : PyData.eqv (dI r) (dI r) = true := by simp [dI, PyData.eqv, eqv_ints r]
theorem eqv_rows : ∀ rs : List Row, PyData.eqvAll (rs.map dI) (rs.map dI) = true
  | [] => by simp [PyData.eqvAll]
  | x :: r => by simp [PyData.eqvAll, eqv_I, eqv_rows r]
theorem eqv_R (rs : List Row) : PyData.eqv (dR rs) (dR rs) = true := by simp [dR, PyData.eqv, eqv_rows rs]
theorem cnt_ints : ∀ r : Row, cntAll (r.map PyData.int) = r.length
  | [] => rfl
  | x :: r => by
    simp only [List.map_cons, cntAll, cnt, cnt_ints r, List.length_cons]; omega
theorem cnt_rows {wd : Nat} : ∀ rs : List Row, (∀ r ∈ rs, r.length ≤ wd) → cntAll (rs.map dI) ≤ rs.length * (wd + 1)
  | [], _ => Nat.zero_le _
  | r :: rs, h => by
    have h1 := cnt_rows rs fun x hx => h x (List.mem_cons_of_mem _ hx)
    have h2 := h r (List.mem_cons_self ..)
    have h3 : cnt (dI r) = r.length := cnt_ints r
    rw [List.map_cons, List.length_cons, Nat.add_mul, Nat.one_mul]
    show cnt (dI r) + 1 + cntAll (rs.map dI) ≤ _
    omega
theorem dep_R (rs : List Row) : (dR rs).depth ≤ 2 := by
  have := dep_allR rs
  simp only [dR, PyData.depth]; omega
theorem same_R {K : PySem.W.Frag} {H : Hp} {a b : Addr} {ps qs : List AR} {wd : Nat} (ha : H a = some (.lst (adr ps))) (hp : Rws H ps) (hb : H b = some (.lst (adr qs))) (hq : Rws H qs) (e : rws ps = rws qs) (hw : ∀ r ∈ rws ps, r.length ≤ wd) (hwd : wd ≤ 4) (hl : ps.length ≤ 20) : SpV (spSame 2) [.ref a, .ref b] H (.bl true) := by
  refine same_spv (dtR ha hp) (by rw [e]; exact dtR hb hq) (dep_R _) ?_
  have h1 := cnt_rows (wd := wd) (rws ps) hw
  rw [rws_len] at h1
  show cntAll ((rws ps).map dI) ≤ 40000
  have h2 : ps.length * (wd + 1) ≤ 20 * 5 := Nat.mul_le_mul hl (by omega)
  omega
theorem sum_bnd {M : Int} (hm : Md M) {B wd : Nat} (hB : 5 ≤ B) : ∀ {rs : List Row} {ks : List Int} {t : Row} {C : Nat}, (∀ k ∈ ks, -4 ≤ k ∧ k ≤ 4) → (∀ r ∈ rs, r.length = wd) → t.length = wd → (∀ r ∈ rs, ∀ j, (en r j).natAbs ≤ B) → (∀ j, (en t j).natAbs ≤ C) → ∀ j, (en (sumT rs ks t M) j).natAbs ≤ C + rs.length * (4 * B)
  | [], ks, t, C, _, _, _, _, h, j => by
    have : sumT [] ks t M = t := by cases ks <;> rfl
    rw [this]; have := h j; simp; omega
  | r :: rs, [], t, C, _, _, _, _, h, j => by
    have : sumT (r :: rs) [] t M = t := rfl
    rw [this]; have := h j; omega
  | r :: rs, k :: ks, t, C, hk, hl, ht, hr, h, j => by
    have e : sumT (r :: rs) (k :: ks) t M = sumT rs ks (addT t r k M) M := rfl
    rw [e]
    have rl := hl r (List.mem_cons_self ..)
    have ez : ∀ j, en (List.zipWith (fun a b => a + k * b) t r) j = en t j + k * en r j := fun j => en_zip (by simp) (by omega) j
    have h2 : ∀ j, (en (addT t r k M) j).natAbs ≤ C + 4 * B := fun j => by
      by_cases hM : M = 0
      · subst hM
        unfold addT
        rw [plainRow_0, ez]
        have h1 := h j
        have h3 : (k * en r j).natAbs ≤ 4 * B := by
          rw [Int.natAbs_mul]
          exact Nat.mul_le_mul (by have := hk k (List.mem_cons_self ..); omega) (hr r (List.mem_cons_self ..) j)
        omega
      · have h3 : Rng M (addT t r k M) := plainRow_rng hm
        have := h3 hM j
        have := hm.pos hM
        omega
    have := sum_bnd hm hB (rs := rs) (ks := ks) (t := addT t r k M) (C := C + 4 * B) (fun k h => hk k (List.mem_cons_of_mem _ h)) (fun x hx => hl x (List.mem_cons_of_mem _ hx)) (by rw [addT_len (by omega)]; exact ht) (fun x hx => hr x (List.mem_cons_of_mem _ hx)) h2 j
    rw [List.length_cons, Nat.add_mul, Nat.one_mul]; omega
section
variable {K : PySem.W.Frag} {s g : Addr} {σ : L2.St} {H H' : Hp} {ta tb te tf tx tl : TE} {t u : TT} {x y z v w1 : V} {D : Ends} {tu tw tz : TS} {A B C : Int → Prop} {P P' : V → Prop}
theorem q_parKK {i j : Nat} (hs : Src s g H) (h : EvK s g te σ H P) (h2 : EvK s g tf σ H P') (k : ∀ v w H1, Le s g H H1 → P v → P' w → tz D ((σ.set i (some v)).set j (some w)) H1) : tSeq (tPar i j (tCons te (tCons tf tNil))) tz D σ H :=
  h H (Le.refl hs) _ fun v H1 e1 pv => h2 H1 e1 _ fun w H2 e2 pw => ⟨_, _, rfl, k v w H2 (e1.trans e2) pv pw⟩
theorem evk_mod {ta : TA} {E : XK} (ha : ∀ H1, Le s g H H1 → EvA ta σ H1 [.ref s]) : EvK s g (tCall spMod [] E ta) σ H (isI Md) := fun H1 e Q q => ha H1 e H1 (Ex.refl H1) _ fun H2 e2 => ⟨s, g, rfl, e.src.ex e2, fun M H3 e3 hm => q _ H3 ((Le.of e.src e2).trans e3) ⟨M, rfl, hm⟩⟩
theorem rv_neD {d e : PyData} (hx : ∀ H1, Ex H H1 → Dp K H1 x d) (hy : ∀ H1, Ex H H1 → Dp K H1 y e) (h1 : SeqAt.shaped d = true) (h2 : SeqAt.shaped e = true) : RV (rNeD K) x y H (.bl (!d.eqv e)) := fun H1 e1 Q q => ⟨d, e, hx H1 e1, hy H1 e1, h1, h2, q H1 (Ex.refl H1)⟩
theorem Own.mut {p q : Addr} {H0 : Hp} {ps : List AR} {u : HO} (hs : Src s g H) (o0 : Own s g H H0 p ps) (n : H0 q = none) (o : Own s g H H' p ps) : Own s g H (L2.upd H' q u) p ps :=
  ⟨o.le.mut hs (o0.le.back n), o.np, by rw [upd_ne (ne_of_none o0.lst n)]; exact o.lst, o.rws.upd fun x hx => ne_of_none (o0.rws x hx) n, o.fr⟩
def EvX (te : TE) (σ : L2.St) (H : Hp) (R : V → Hp → Prop) : Prop := ∀ H1, Ex H H1 → ∀ Q : VK, (∀ v H2, Ex H1 H2 → R v H2 → Q v H2) → te σ H1 Q
theorem exx_call {sp : Sp} {dvs vs : List V} {E : XK} {ta : TA} {R : V → Hp → Prop} (ha : EvA ta σ H vs) (hs : ∀ H1, Ex H H1 → ∀ Q : VK, (∀ v H2, Ex H1 H2 → R v H2 → Q v H2) → sp (vs ++ dvs) H1 Q E) : EvX (tCall sp dvs E ta) σ H R := fun H1 e1 Q q => ha H1 e1 _ fun H2 e2 => hs H2 (e1.trans e2) Q fun v H3 e3 r => q v H3 (e2.trans e3) r
theorem ev_callX {sp : Sp} {dvs vs : List V} {E : XK} {ta : TA} {R : V → Hp → Prop} (h : EvX te σ H R) (ha : EvA ta σ H vs) (hs : ∀ v H1 H2, Ex H H1 → R v H1 → Ex H1 H2 → SpV sp (v :: (vs ++ dvs)) H2 z) : Ev (tCall sp dvs E (tCons te ta)) σ H z := fun H1 e1 Q q =>
  h H1 e1 _ fun v H2 e2 r => ha H2 (e1.trans e2) _ fun H3 e3 => hs v H2 H3 (e1.trans e2) r e3 H3 (Ex.refl H3) Q (fun H4 e4 => q H4 ((e2.trans e3).trans e4)) E
theorem q_callVK {sp : Sp} {dvs vs : List V} {E : XK} {ta : TA} {g' : TG} {R : List V → Prop} (hs : Src s g H) (h1 : Ev tb σ H v) (h2 : ElK s g te σ H R) (h3 : ∀ H1, Le s g H H1 → EvA ta σ H1 vs) (k : ∀ p xs H1, H p = none → Le s g H H1 → H1 p = some (.lst xs) → R xs → sp (v :: .ref p :: (vs ++ dvs)) H1 (fun x H2 => g' x σ H2 (tz D)) E) : tSeq (tAsg (tCall sp dvs E (tCons tb (tCons te ta))) g') tz D σ H :=
  h1 H (Ex.refl H) _ fun H1 e1 => h2 H1 (Le.of hs e1) _ fun p xs H2 np e2 hp hr => h3 H2 ((Le.of hs e1).trans e2) H2 (Ex.refl H2) _ fun H3 e3 => k p xs H3 (fresh_back e1 np) (((Le.of hs e1).trans e2).trans (Le.of e2.src e3)) (e3 _ _ hp) hr
theorem evr_copy {E : XK} {ta : TA} {p : Addr} {ps : List AR} (ha : EvA ta σ H [.ref p]) (hp : SqL K H p (adr ps)) (hR : Rws H ps) (hl : ps.length ≤ 1000) : EvR (tCall (spCopy K) [] E ta) σ H (rws ps) := fun H1 e1 Q q => ha H1 e1 _ fun H2 e2 => ⟨p, ps, rfl, ex_l (e1.trans e2) hp, hR.ex (e1.trans e2), hl, fun a qs H3 na e3 h1 h2 h3 h4 h5 => q a qs H3 (fresh_back e2 na) (e2.trans e3) h1 h2 h3 (fun x hx => fresh_back e2 (h4 x hx)) h5⟩
theorem q_parRL {i j : Nat} {rs : List Row} {xs : List V} (h : EvR te σ H rs) (h2 : ∀ H1, Ex H H1 → EvL tf σ H1 xs) (k : ∀ p qs q H1, Ex H H1 → H1 p = some (.lst (adr qs)) → Rws H1 qs → rws qs = rs → H1 q = some (.lst xs) → tz D ((σ.set i (some (.ref p))).set j (some (.ref q))) H1) : tSeq (tPar i j (tCons te (tCons tf tNil))) tz D σ H :=
  h H (Ex.refl H) _ fun p qs H1 np e1 hp hR he _ _ => h2 H1 e1 H1 (Ex.refl H1) _ fun q H2 nq e2 hq => ⟨_, _, rfl, k p qs q H2 (e1.trans e2) (e2 _ _ hp) (hR.ex e2) he hq⟩
theorem et_whenF {b : Bool} (h : EvT t σ H b) (hb : b = false) (k : ∀ H1, Ex H H1 → tz D σ H1) : tSeq (tIfS t tu tNext) tz D σ H := q_when h (fun z => absurd z (by rw [hb]; decide)) fun _ H1 e => k H1 e
theorem et_whenS {b : Bool} (h : EvT t σ H b) (hb : b = false) (k : ∀ H1, Ex H H1 → D.nx σ H1) : tIfS t tu tNext D σ H := s_when h (fun z => absurd z (by rw [hb]; decide)) fun _ H1 e => k H1 e
end
end Mine
set_option Elab.async false
set_option linter.all false
set_option maxRecDepth 100000
set_option maxHeartbeats 4000000
namespace Mine
open PySem PySem.Spec PyProof.Rows L2 Evl
section
variable {K : PySem.W.Frag} {σ : L2.St} {H H' : Hp} {ta tb te tx tl : TE} {t u : TT} {x y z v w1 : V} {D : Ends} {tu tw tz : TS}
theorem flat_rep (n : Nat) : (List.replicate n [V.int 0]).flatten = iL (List.replicate n 0) := by
  induction n with
  | zero => rfl
  | succ n ih =>
    rw [List.replicate_succ, List.flatten_cons, ih, List.replicate_succ]; rfl
/-- [0] * n -/
theorem el_rep0 {n : Nat} (hb : ∀ H1, Ex H H1 → Ev tb σ H1 (.int (n : Nat))) (hn : n ≤ 40000) : EvL (tOp rRep (tLst (tCons (tC (.int 0)) tNil)) tb) σ H (iL (List.replicate n 0)) := fun H0 e0 Q q =>
  (el_lst (σ := σ) (H := H0) (ea_cons (ev_c (v := .int 0)) ea_nil) (by simp)) H0 (Ex.refl H0) _ fun p H1 np e1 hp => hb H1 (e0.trans e1) H1 (Ex.refl H1) _ fun H2 e2 => ⟨p, (n : Nat), [.int 0], rfl, rfl, e2 _ _ hp, by omega, by omega, by
    have : (1 : Nat) * ((n : Nat) : Int).toNat ≤ 100000 := by omega
    exact Nat.le_trans this (by decide), fun p2 np2 => q p2 _ (fresh_back (e1.trans e2) np2) ((e1.trans e2).trans (Ex.new np2)) (by rw [upd_same, ← flat_rep]; rfl)⟩
/-- a new list and a new list -/
theorem el_catLL {xs ys : List V} (ha : EvL ta σ H xs) (hb : ∀ H1, Ex H H1 → EvL tb σ H1 ys) (hz : xs.length + ys.length ≤ 100000) : EvL (tOp rCat ta tb) σ H (xs ++ ys) := fun H0 e0 Q q =>
  ha H0 e0 _ fun p H1 np e1 hp => hb H1 (e0.trans e1) H1 (Ex.refl H1) _ fun p2 H2 np2 e2 hp2 => ⟨p, p2, xs, ys, rfl, rfl, e2 _ _ hp, hp2, Nat.le_trans hz (by decide), fun p3 np3 => q p3 _ (fresh_back (e1.trans e2) np3) ((e1.trans e2).trans (Ex.new np3)) upd_same⟩
/-- [e for k, row in enumerate(rows)], new rows -/
theorem el_lcER {ta' : TA} {a : Addr} {ps : List AR} {j1 j2 : Nat} {vs : List Nat} (g : Nat → Row → Row) {rs : List Row} (hrs : rs.length = ps.length) (hg : ∀ i x, ps[i]? = some x → rs[i]? = some (g i x.2)) (h : EvA ta' σ H [.ref a]) (hx : SqL K H a (adr ps)) (hz : ps.length ≤ 40000)
    (hw : ∀ x y, wipe (((wipe σ vs).set j1 (some x)).set j2 (some y)) vs = wipe σ vs)
    (he : ∀ (i : Nat) (x : AR) H1, Ex H H1 → ps[i]? = some x → EvL te (((wipe σ vs).set j1 (some (.int (i : Nat)))).set j2 (some (.ref x.1))) H1 (iL (g i x.2))) : EvR (tLc (iEnum K ta') (gTup K 2 (gCons (gName j1) (gCons (gName j2) gNil))) tYes te vs) σ H rs := fun H0 e0 Q q =>
  h H0 e0 _ fun H1 e1 => ⟨a, adr ps, rfl, ex_l (e0.trans e1) hx, fun Dl hD => by
    refine lc_it walk_enum (fun i H' => ∃ qs : List AR, Ex H1 H' ∧ H' Dl = some (.lst (adr qs)) ∧ Rws H' qs ∧ rws qs = rs.take i ∧ (∀ x ∈ qs, H1 x.1 = none) ∧ ∀ x ∈ qs, x.1 ≠ Dl) ⟨[], Ex.new hD, upd_same, Rws.nil, by simp [rws], fun x h => absurd h (by simp), fun x h => absurd h (by simp)⟩
      (fun i H' _ ⟨_, e, _⟩ => ex_l ((e0.trans e1).trans e) hx) (fun i x H' H'' hi ⟨qs, e, hl, hr, hq, hn, hne⟩ y => ?_) (fun H' ⟨qs, e, hl, hr, hq, hn, hne⟩ => ?_)
    · obtain ⟨T, x1, x2, rfl, nT, rfl, f1, f2⟩ := y
      cases f1
      obtain ⟨y, hy, rfl⟩ := adr_get f2
      refine ⟨T, _, rfl, SqT.of upd_same, rfl, _, _, rfl, _, _, rfl, rfl, hw _ _, yes_turn ?_⟩
      have eT : Ex H' (upd H' T (.tup [.int (i : Nat), .ref y.1])) := Ex.new nT
      refine he i y H1 (e0.trans e1) hy _ (e.trans eT) _ fun p H2 np e2 h2 => ?_
      have hl2 := e2 _ _ (eT _ _ hl)
      have pne : p ≠ Dl := (ne_of_none (eT _ _ hl) np).symm
      have hi2 := (List.getElem?_eq_some_iff.mp hy).1
      have cnt : qs.length ≤ i := by
        have := congrArg List.length hq
        rw [rws_len, List.length_take] at this; omega
      refine ⟨_, hl2, sz_lt (by rw [adr_len]; omega), qs ++ [(p, g i y.2)], Ex.mut ((e.trans eT).trans e2) hD, by rw [upd_same, adr_app]; rfl, ?_, ?_, ?_, ?_⟩
      · refine Rws.append (((hr.ex eT).ex e2).upd hne) fun z hz => ?_
        rw [List.mem_singleton.mp hz, upd_ne pne]; exact h2
      · rw [rws_app, hq, List.take_add_one, hg i y hy]; rfl
      · intro z hz
        rcases List.mem_append.mp hz with h | h
        · exact hn z h
        · rw [List.mem_singleton.mp h]; exact fresh_back (e.trans eT) np
      · intro z hz
        rcases List.mem_append.mp hz with h | h
        · exact hne z h
        · rw [List.mem_singleton.mp h]; exact pne
    · rw [adr_len, List.take_of_length_le (by omega)] at hq
      exact q Dl qs H' (fresh_back e1 hD) (e1.trans e) hl hr hq (fun x hx => fresh_back e1 (hn x hx)) hne⟩
theorem s_forZ {ta : TA} {a b : Addr} {xs ys : List V} {n : Nat} {j1 j2 : Nat} (hn : n = min xs.length ys.length) (h : EvA ta σ H [.ref a, .ref b]) (hx : SqL K H a xs) (hy : SqL K H b ys) (Pv : Nat → L2.St → Hp → Prop) (h0 : ∀ H1, Ex H H1 → Pv 0 σ H1) (hl : ∀ i σ' H', i ≤ n → Pv i σ' H' → SqL K H' a xs ∧ SqL K H' b ys)
    (hs : ∀ i x y σ' H' H'', xs[i]? = some x → ys[i]? = some y → Pv i σ' H' → Ex H' H'' → tu { D with nx := Pv (i + 1), ct := Pv (i + 1), bk := D.nx } ((σ'.set j1 (some x)).set j2 (some y)) H'') (hd : ∀ σ' H', Pv n σ' H' → D.nx σ' H') :
    tFor (iZip K ta) (gTup K 2 (gCons (gName j1) (gCons (gName j2) gNil))) tu D σ H :=
  h H (Ex.refl H) _ fun H1 e => ⟨a, b, xs, ys, rfl, ex_l e hx, ex_l e hy, for_it (walk_zip hn) Pv (h0 H1 e) hl (fun i x σ' H' H'' hi p y => by
    obtain ⟨T, x1, x2, rfl, nT, rfl, f1, f2⟩ := y
    exact ⟨T, _, rfl, SqT.of upd_same, rfl, _, _, rfl, _, _, rfl, rfl, hs i x1 x2 σ' H' _ f1 f2 p (Ex.new nT)⟩) hd⟩
theorem q_forZ {ta : TA} {a b : Addr} {xs ys : List V} {n : Nat} {j1 j2 : Nat} (hn : n = min xs.length ys.length) (h : EvA ta σ H [.ref a, .ref b]) (hx : SqL K H a xs) (hy : SqL K H b ys) (Pv : Nat → L2.St → Hp → Prop) (h0 : ∀ H1, Ex H H1 → Pv 0 σ H1) (hl : ∀ i σ' H', i ≤ n → Pv i σ' H' → SqL K H' a xs ∧ SqL K H' b ys)
    (hs : ∀ i x y σ' H' H'', xs[i]? = some x → ys[i]? = some y → Pv i σ' H' → Ex H' H'' → tu { D with nx := Pv (i + 1), ct := Pv (i + 1), bk := tz D } ((σ'.set j1 (some x)).set j2 (some y)) H'') (hd : ∀ σ' H', Pv n σ' H' → tz D σ' H') :
    tSeq (tFor (iZip K ta) (gTup K 2 (gCons (gName j1) (gCons (gName j2) gNil))) tu) tz D σ H := s_forZ (D := { D with nx := tz D }) hn h hx hy Pv h0 hl hs hd
end
theorem sumBy_take {M : Int} : ∀ {R : List Row} {x : Nat → Int} {t : Row} {i : Nat} {r : Row}, R[i]? = some r → sumBy M (R.take (i + 1)) x t = lessT (sumBy M (R.take i) x t) r (0 - x i) M
  | [], _, _, _, _, h => by simp at h
  | s :: R, x, t, 0, r, h => by
    have e : s = r := by simpa using h
    subst e; simp [sumBy]
  | s :: R, x, t, i + 1, r, h => by
    have := sumBy_take (M := M) (R := R) (x := fun k => x (k + 1)) (t := lessT t s (0 - x 0) M) (i := i) (r := r) (by simpa using h)
    simp only [List.take_succ_cons, sumBy]
    exact this
section
variable {P : Program} {w : World} {K : PySem.W.Frag} {mg : Str → Option Value} {base : Heap} {H : Hp}
/-! ### unit_row, numbered_rows, sum_of_rows -/
def spUnit : Sp := fun vs H Q _ => ∃ n k : Nat, vs = [.int (n : Nat), .int (k : Nat)] ∧ k < n ∧ n ≤ 1000 ∧ RetL (iL (unitR n k)) H Q
theorem ok_unit_row (L : Lib K mg) {f : Addr} {fd : FuncData} (F : L2.Fun K "unit_row" "unit_row" s_unit_row f fd) : FnOk P w K mg base CX0 1 f fd ["width", "at"] spUnit := by
  refine F.ok sc_unit_row (fun vs H Q E h => ?_) (fun cdv A outer s H vs Q E hr h => ?_)
  · obtain ⟨n, k, rfl, _⟩ := h; rfl
  · obtain ⟨n, k, rfl, hk, hn, fin⟩ := h
    refine ⟨_, (pss_cons (ps_set (i := 2) sc_unit_row.nd rfl (Or.inl rfl) (pe_op op_rep (pe_lst (pa_cons pe_int pa_nil)) (pv 0)))
    (pss_cons (ps_asg pe_int (pg_sub (pv 2) (pv 1) set_list))
    (pss_one (ps_ret (pv 2))))), ?_⟩
    refine q_asgL (el_rep0 (fun H1 e1 => ev_var rfl) (by omega)) fun p H1 np e1 hp => ?_
    refine q_setL hp ev_c (ev_var rfl) (ev_var rfl) (by rw [iL_len, List.length_replicate]; exact hk) fun H2 e2 => ?_
    have e : (iL (List.replicate n 0)).set k (.int 1) = iL (unitR n k) := by unfold unitR iL; rw [List.map_set]
    rw [e]
    exact s_ret (ev_var rfl) fun H3 e3 => fin p H3 np ((Ex.mut (e1.trans e2) np).trans e3) (e3 _ _ upd_same)
theorem unit_spl {n k : Nat} (hk : k < n) (hn : n ≤ 1000) : SpL spUnit [.int (n : Nat), .int (k : Nat)] H (iL (unitR n k)) := fun H1 e Q q _ => ⟨n, k, rfl, hk, hn, q⟩
def spNumb (K : PySem.W.Frag) : Sp := fun vs H Q _ => ∃ (p : Addr) (ps : List AR), vs = [.ref p] ∧ SqL K H p (adr ps) ∧ Rws H ps ∧ ps.length ≤ 1000 ∧ (∀ r ∈ rws ps, r.length ≤ 1000) ∧ RetR (numb ps.length 0 (rws ps)) H Q
theorem ok_numbered_rows (L : Lib K mg) {f : Addr} {fd : FuncData} (F : L2.Fun K "numbered_rows" "numbered_rows" s_numbered_rows f fd) : FnOk P w K mg base CX0 2 f fd ["rows"] (spNumb K) := by
  obtain ⟨f_unit_row, fd_unit_row, F_unit_row⟩ := L.unit_row
  have G_unit_row : FnOk P w K mg base CX0 1 f_unit_row fd_unit_row _ spUnit := ok_unit_row L F_unit_row.F
  refine F.ok sc_numbered_rows (fun vs H Q E h => ?_) (fun cdv A outer s H vs Q E hr h => ?_)
  · obtain ⟨p, ps, rfl, _⟩ := h; rfl
  · obtain ⟨p, ps, rfl, hp, hR, hl, hw, fin⟩ := h
    refine ⟨_, (pss_one (ps_ret (pe_lc (own := [("k", 1), ("row", 2)]) (g := gTup _ 2 (gCons (gName 1) (gCons (gName 2) gNil))) (tt := tYes) rfl sc_numbered_rows.nd (pi_enum (by rfl) L.enumerate (pa_cons (pv 0) pa_nil)) (blkOk_by (own := [("k", 1), ("row", 2)]) (N := N_numbered_rows) (sc := defScope s_numbered_rows) (by decide +kernel)) (fun _ _ _ _ _ => (pg_tup rfl (pgs_cons (pg_name (i := 1) sc_numbered_rows.nd rfl (Or.inl rfl)) (pgs_cons (pg_name (i := 2) sc_numbered_rows.nd rfl (Or.inl rfl)) pgs_nil)))) (fun _ _ _ _ _ => pts_nil) (fun _ _ _ _ _ => (pe_op op_cat (pe_callTy (call_list_ofK (K := K)) (by rfl) L.list (by decide +kernel) (pa_cons (pv 2) pa_nil)) (pe_call G_unit_row (hr.mono (by decide)) (by rfl) F_unit_row.g F_unit_row.F.kp F_unit_row.b .nil pass0 (pa_cons (pe_callB (call_len_seqK (K := K)) (by rfl) L.len (by decide +kernel) (pa_cons (pv 0) pa_nil)) (pa_cons (pv 1) pa_nil)))))))), ?_⟩
    refine s_retR (el_lcER (fun i r => r ++ unitR ps.length i) (rs := numb ps.length 0 (rws ps)) (by rw [numb_len, rws_len]) (fun i x hx => by have := numb_at (n := ps.length) (k := 0) (rws_at hx); rwa [Nat.zero_add] at this) (ea_cons (ev_var rfl) ea_nil) hp (by omega) (fun _ _ => rfl) fun i x H1 e1 hx => ?_) fin
    have hil := (List.getElem?_eq_some_iff.mp hx).1
    have hxl := hw x.2 (mem_rws (List.mem_of_getElem? hx))
    have e : iL (x.2 ++ unitR ps.length i) = iL x.2 ++ iL (unitR ps.length i) := List.map_append ..
    rw [e]
    refine el_catLL (el_list (ev_var rfl) (ex_l e1 (hR.seq (List.mem_of_getElem? hx)))) (fun H2 e2 => el_call (ea_cons (ev_is (ev_len (ev_var rfl) (ex_l (e1.trans e2) hp)) (by rw [adr_len])) (ea_cons (ev_var rfl) ea_nil)) (unit_spl hil (by omega))) (by rw [iL_len, iL_len, unitR_len]; omega)
def spSumOf (K : PySem.W.Frag) : Sp := fun vs H Q _ => ∃ (p q : Addr) (ps : List AR) (ks : Row) (wd : Nat) (M : Int), vs = [.ref p, .ref q, .int (wd : Nat), .int M] ∧ SqL K H p (adr ps) ∧ Rws H ps ∧ SqL K H q (iL ks) ∧ ks.length = ps.length ∧ ps.length ≤ 1000 ∧ wd ≤ 1000 ∧ Md M ∧ (∀ r ∈ rws ps, r.length = wd) ∧
  (∀ k ∈ ks, ∀ r ∈ rws ps, ∀ c ∈ r, CMulW (0 - k) c) ∧ RetL (iL (sumBy M (rws ps) (en ks) (List.replicate wd 0))) H Q
theorem ok_sum_of_rows (L : Lib K mg) {f : Addr} {fd : FuncData} (F : L2.Fun K "sum_of_rows" "sum_of_rows" s_sum_of_rows f fd) : FnOk P w K mg base CX0 2 f fd ["rows", "numbers", "width", "modulus"] (spSumOf K) := by
  obtain ⟨f_less_times, fd_less_times, F_less_times⟩ := L.less_times
  have G_less_times : FnOk P w K mg base CX0 1 f_less_times fd_less_times _ (spLess K) := ok_less_times L F_less_times.F
  refine F.ok sc_sum_of_rows (fun vs H Q E h => ?_) (fun cdv A outer s H vs Q E hr h => ?_)
  · obtain ⟨p, q, ps, ks, wd, M, rfl, _⟩ := h; rfl
  · obtain ⟨p, q, ps, ks, wd, M, rfl, hp, hR, hq, hkl, hl, hwd, hm, hlen, hc, fin⟩ := h
    refine ⟨_, (pss_cons (ps_set (i := 4) sc_sum_of_rows.nd rfl (Or.inl rfl) (pe_op op_rep (pe_lst (pa_cons pe_int pa_nil)) (pv 2)))
    (pss_cons (ps_for PassesOwn.never rfl (pi_zip (by rfl) L.zip (pa_cons (pv 0) (pa_cons (pv 1) pa_nil))) (pg_tup rfl (pgs_cons (pg_name (i := 5) sc_sum_of_rows.nd rfl (Or.inl rfl)) (pgs_cons (pg_name (i := 6) sc_sum_of_rows.nd rfl (Or.inl rfl)) pgs_nil)))
      (pss_one (ps_set (i := 4) sc_sum_of_rows.nd rfl (Or.inl rfl) (pe_call G_less_times (hr.mono (by decide)) (by rfl) F_less_times.g F_less_times.F.kp F_less_times.b .nil pass0 (pa_cons (pv 4) (pa_cons (pv 5) (pa_cons (pe_op op_sub pe_int (pv 6)) (pa_cons (pv 3) pa_nil))))))))
    (pss_one (ps_ret (pv 4))))), ?_⟩
    refine q_asgL (el_rep0 (fun H1 e1 => ev_var rfl) (by omega)) fun t H1 nt e1 ht => ?_
    refine q_forZ (n := ps.length) (by rw [adr_len, iL_len, hkl, Nat.min_self]) (ea_cons (ev_var rfl) (ea_cons (ev_var rfl) ea_nil)) (ex_l e1 hp) (ex_l e1 hq) (fun i σ' H' => ∃ (t : Addr) (v5 v6 : Option V), σ' = [some (.ref p), some (.ref q), some (.int (wd : Nat)), some (.int M), some (.ref t), v5, v6] ∧ Ex H H' ∧ H t = none ∧ H' t = some (.lst (iL (sumBy M ((rws ps).take i) (en ks) (List.replicate wd 0)))))
      (fun H2 e2 => ⟨t, _, _, rfl, e1.trans e2, nt, e2 _ _ ht⟩) (fun i σ' H' _ ⟨_, _, _, _, e, _⟩ => ⟨ex_l e hp, ex_l e hq⟩) ?_ ?_
    · rintro i x y σ' H' H'' hx hy ⟨t, v5, v6, rfl, ex, nt, ht⟩ e2
      obtain ⟨z, hz, rfl⟩ := adr_get hx
      obtain ⟨k, rfl, hk⟩ := iL_get hy
      have zin := List.mem_of_getElem? hz
      have lt : (sumBy M ((rws ps).take i) (en ks) (List.replicate wd 0)).length = wd := (sumBy_facts hm (fun r hr => hlen r (List.mem_of_mem_take hr)) (by simp) (fun hM j => by rw [en_zero]; have := hm.pos hM; omega)).1
      refine s_asgL (el_call (ea_cons (ev_var rfl) (ea_cons (ev_var rfl) (ea_cons (ev_sub ev_c (ev_var rfl)) (ea_cons (ev_var rfl) ea_nil)))) (less_spl (sq_of (e2 _ _ ht)) ((hR.ex (ex.trans e2)).seq zin) (by omega) hm.nonneg fun c hcc => hc k (List.mem_of_getElem? hk) z.2 (mem_rws zin) c hcc)) fun t2 H3 nt2 e3 ht2 => ?_
      refine ⟨t2, _, _, rfl, (ex.trans e2).trans e3, fresh_back (ex.trans e2) nt2, ?_⟩
      rw [sumBy_take (rws_at hz), en_get hk]; exact ht2
    · rintro σ' H' ⟨t, v5, v6, rfl, ex, nt, ht⟩
      rw [List.take_of_length_le (by rw [rws_len]; exact Nat.le_refl _)] at ht
      exact s_ret (ev_var rfl) fun H2 e2 => fin t H2 nt (ex.trans e2) (e2 _ _ ht)
end
end Mine
set_option Elab.async false
set_option linter.all false
set_option maxRecDepth 100000
set_option maxHeartbeats 4000000
namespace Mine
open PySem PySem.Spec PyProof.Rows L2 Evl
theorem cutV_take (ys : List V) (n : Nat) : cutV ys none (some (n : Int)) = ys.take n := by
  unfold cutV
  rw [show HT.sIx ys.length ys.length (some (n : Int)) = min n ys.length from HT.sIx_nat ys.length ys.length n, HT.sIx_none, Nat.sub_zero, List.drop_zero]
  by_cases h : n ≤ ys.length
  · rw [Nat.min_eq_left h]
  · rw [Nat.min_eq_right (by omega), List.take_of_length_le (Nat.le_refl _), List.take_of_length_le (by omega)]
theorem cutV_drop (ys : List V) (n : Nat) : cutV ys (some (n : Int)) none = ys.drop n := by
  unfold cutV
  rw [show HT.sIx ys.length 0 (some (n : Int)) = min n ys.length from HT.sIx_nat ys.length 0 n, HT.sIx_none]
  by_cases h : n ≤ ys.length
  · rw [Nat.min_eq_left h, List.take_of_length_le (by rw [List.length_drop]; exact Nat.le_refl _)]
  · rw [Nat.min_eq_right (by omega), List.drop_of_length_le (Nat.le_refl _), List.drop_of_length_le (by omega)]; simp
section
variable {K : PySem.W.Frag} {σ : L2.St} {H H' : Hp} {ta tb te tx tl : TE} {t u : TT} {x y z v w1 : V} {D : Ends} {tu tw tz : TS}
theorem q_callR {sp : Sp} {dvs vs : List V} {rs : List Row} {E : XK} {ta : TA} {g : TG} (h2 : EvR te σ H rs) (h3 : EvA ta σ H vs) (k : ∀ p qs H1, H p = none → Ex H H1 → H1 p = some (.lst (adr qs)) → Rws H1 qs → rws qs = rs → (∀ x ∈ qs, H x.1 = none) → sp (.ref p :: (vs ++ dvs)) H1 (fun x H2 => g x σ H2 (tz D)) E) : tSeq (tAsg (tCall sp dvs E (tCons te ta)) g) tz D σ H :=
  h2 H (Ex.refl H) _ fun p qs H2 np e2 hp hR he hf _ => h3 H2 e2 _ fun H3 e3 => k p qs H3 np (e2.trans e3) (e3 _ _ hp) (hR.ex e3) he hf
theorem el_callVL {sp : Sp} {dvs vs xs out : List V} {E : XK} {ta : TA} (h1 : Ev tb σ H v) (h : EvL te σ H xs) (ha : EvA ta σ H vs) (hs : ∀ p H1, Ex H H1 → H1 p = some (.lst xs) → SpL sp (v :: .ref p :: (vs ++ dvs)) H1 out) : EvL (tCall sp dvs E (tCons tb (tCons te ta))) σ H out := fun H0 e0 Q q =>
  h1 H0 e0 _ fun H1 e1 => h H1 (e0.trans e1) _ fun p H2 np e2 hp => ha H2 ((e0.trans e1).trans e2) _ fun H3 e3 => hs p H3 (((e0.trans e1).trans e2).trans e3) (e3 _ _ hp) H3 (Ex.refl H3) _ (fun p2 H4 n4 e4 h4 => q p2 H4 (fresh_back ((e1.trans e2).trans e3) n4) (((e1.trans e2).trans e3).trans e4) h4) E
theorem evr_numb {E : XK} {ta : TA} {p : Addr} {ps : List AR} (ha : EvA ta σ H [.ref p]) (hp : SqL K H p (adr ps)) (hR : Rws H ps) (hl : ps.length ≤ 1000) (hw : ∀ r ∈ rws ps, r.length ≤ 1000) : EvR (tCall (spNumb K) [] E ta) σ H (numb ps.length 0 (rws ps)) := fun H1 e1 Q q => ha H1 e1 _ fun H2 e2 => ⟨p, ps, rfl, ex_l (e1.trans e2) hp, hR.ex (e1.trans e2), hl, hw, fun a qs H3 na e3 h1 h2 h3 h4 h5 => q a qs H3 (fresh_back e2 na) (e2.trans e3) h1 h2 h3 (fun x hx => fresh_back e2 (h4 x hx)) h5⟩
end
/-! ### plain facts of the numbered rows, split -/
theorem numb_lens {wd : Nat} {R : List Row} (h : ∀ r ∈ R, r.length = wd) : ∀ r ∈ numb R.length 0 R, r.length = wd + R.length := fun r hr => by
  obtain ⟨i, s, hs, rfl⟩ := numb_mem hr
  rw [List.length_append, unitR_len, h s (List.mem_of_getElem? hs)]
theorem numb_bnd {β : Nat} {R : List Row} (hβ : 1 ≤ β) (h : Bnd β R) : Bnd β (numb R.length 0 R) := fun r hr j => by
  obtain ⟨i, s, hs, rfl⟩ := numb_mem hr
  have hi := (List.getElem?_eq_some_iff.mp hs).1
  rw [en_append]
  split
  · exact h s (List.mem_of_getElem? hs) j
  · rw [en_unit (by omega)]
    split <;> simp <;> omega
theorem restOf_red {M : Int} : ∀ {L : List (Nat × Row)} {v : Row}, (∀ x ∈ L, firstP x.2 = x.1) → (L.map (·.2)).foldl (stepR M) v = redAll M L v
  | [], _, _ => rfl
  | (p, r) :: L, v, h => by
    have e : stepR M v r = redBy r p M v := by unfold stepR redBy; rw [h (p, r) (List.mem_cons_self ..)]
    simp only [List.map_cons, List.foldl_cons, redAll]
    rw [e]; exact restOf_red fun x hx => h x (List.mem_cons_of_mem _ hx)
theorem ech_first {M : Int} {w : Nat} {L : List (Nat × Row)} (hE : Ech M w 0 L) (hl : ∀ x ∈ L, x.2.length = w) : ∀ x ∈ L, firstP x.2 = x.1 := fun x hx => by
  obtain ⟨_, h1, h2, h3, _⟩ := hE.all x hx
  exact firstP_at (en_lt (by rw [hl x hx]; exact h1)) (by omega) h2
theorem ro_tj {M : Int} {W c β n : Nat} {R0 left : List Row} {L : List (Nat × Row)} {tr : Bool} (T : TJ M W c β n tr R0 L left) (hb : bJ tr β n n < 2 ^ 8999) (hn : n ≤ 6) : ∀ o ∈ L.map (·.2), RO M W o := fun o ho => by
  obtain ⟨x, hx, rfl⟩ := List.mem_map.mp ho
  obtain ⟨_, h1, h2, h3, h4⟩ := T.ech.all x hx
  have fp := ech_first T.ech T.lenL x hx
  have hcl : L.length ≤ 6 := by have := T.cnt; omega
  refine ⟨T.lenL x hx, by rw [fp]; exact h1, by rw [fp]; omega, ?_, fun hM j => ?_, T.rngL x hx⟩
  · rw [fp]
    by_cases hM : M = 0
    · exact Nat.lt_of_le_of_lt (T.piv hM x hx) hb
    · rw [h4 hM]
      exact Nat.lt_of_lt_of_le (show (1 : Int).natAbs < 2 ^ 4 by decide) (Nat.pow_le_pow_right (by decide) (by decide))
  · exact Nat.le_of_lt (Nat.lt_of_lt_of_le (Nat.lt_of_le_of_lt (T.bT hM x.2 ho j) (tJ_lt hb hcl)) (Nat.pow_le_pow_right (by decide) (by decide)))
/-- the row lies in the lattice exactly if nothing is left at its places; then the numbers behind are right -/
theorem comb_left {M : Int} {wd β : Nat} {A Z : List Row} {L : List (Nat × Row)} {row : Row} (hm : Md M) (hl : ∀ r ∈ A, r.length = wd) (hrow : row.length = wd) (T : TJ M (wd + A.length) wd β A.length false (numb A.length 0 A) L Z) {v : Row} (hv : v = plainRow (plainRow row M ++ List.replicate A.length 0) M) :
    ((∀ j, j < wd → en (redAll M L v) j = 0) ↔ InL M A (en row)) ∧ ((∀ j, j < wd → en (redAll M L v) j = 0) → ∀ j, M ∣ en row j - comb A (fun k => 0 - en (redAll M L v) (wd + k)) j) := by
  have pl : (plainRow row M).length = wd := (plainRow_len _ _).trans hrow
  have lv : v.length = wd + A.length := by rw [hv, plainRow_len, List.length_append, pl, List.length_replicate]
  have rv : Rng M v := by rw [hv]; exact plainRow_rng hm
  have v1 : ∀ j, j < wd → M ∣ en v j - en row j := fun j hj => by
    have h1 := plainRow_dvd (plainRow row M ++ List.replicate A.length 0) M j
    rw [en_append, if_pos (by omega)] at h1
    have h2 := plainRow_dvd row M j
    rw [← hv] at h1
    have e : en v j - en row j = (en v j - en (plainRow row M) j) + (en (plainRow row M) j - en row j) := by omega
    rw [e]; exact Int.dvd_add h1 h2
  have v2 : ∀ k, M ∣ en v (wd + k) := fun k => by
    have h1 := plainRow_dvd (plainRow row M ++ List.replicate A.length 0) M (wd + k)
    rw [en_append, if_neg (by omega), en_zero, Int.sub_zero, ← hv] at h1
    exact h1
  have far : ∀ (x : Nat → Int) (j : Nat), wd ≤ j → M ∣ en row j - comb A x j := fun x j hj => by
    rw [comb_far hl j hj, en_ge (by omega)]; exact ⟨0, by simp⟩
  have zero := redAll_zero (c := wd) hm T.ech T.lenL T.lt T.zero lv rv
  obtain ⟨f1, f2, _, f4, f5⟩ := redAll_facts hm T.ech T.lenL lv rv
  refine ⟨⟨fun h => ?_, fun h => zero.mpr ?_⟩, fun h j => ?_⟩
  · obtain ⟨u, hu, hj⟩ := zero.mp h
    have h1 := (numb_in hl (T.same.symm.into hu)).1
    refine inL_comb.mpr ⟨fun k => u (wd + k), fun j => ?_⟩
    rcases Nat.lt_or_ge j wd with hjw | hjw
    · have e : en row j - comb A (fun k => u (wd + k)) j = (en v j - u j) - (en v j - en row j) + (u j - comb A (fun k => u (wd + k)) j) := by omega
      rw [e]; exact Int.dvd_add (Int.dvd_sub (hj j hjw) (v1 j hjw)) (h1 j hjw)
    · exact far _ j hjw
  · obtain ⟨x, hx⟩ := inL_comb.mp h
    obtain ⟨c1, _⟩ := comb_numb (n := A.length) (k := 0) (x := x) hl (by omega)
    refine ⟨_, T.same.into (inL_of_comb _ x), fun j hj => ?_⟩
    rw [c1 j hj]
    have e : en v j - comb A x j = (en v j - en row j) + (en row j - comb A x j) := by omega
    rw [e]; exact Int.dvd_add (v1 j hj) (hx j)
  · rcases Nat.lt_or_ge j wd with hjw | hjw
    · have hu : InL M (L.map (·.2) ++ Z) fun j => en v j - en (redAll M L v) j := f5.mono fun r hr => List.mem_append_left _ hr
      have h1 := (numb_in hl (T.same.symm.into hu)).1 j hjw
      have h2 := comb_congr (M := M) (R := A) (x := fun k => en v (wd + k) - en (redAll M L v) (wd + k)) (y := fun k => 0 - en (redAll M L v) (wd + k)) (fun k _ => by
        have e : en v (wd + k) - en (redAll M L v) (wd + k) - (0 - en (redAll M L v) (wd + k)) = en v (wd + k) := by omega
        rw [e]; exact v2 k) j
      rw [h j hjw, Int.sub_zero] at h1
      have e : en row j - comb A (fun k => 0 - en (redAll M L v) (wd + k)) j = -(en v j - en row j) + (en v j - comb A (fun k => en v (wd + k) - en (redAll M L v) (wd + k)) j) + (comb A (fun k => en v (wd + k) - en (redAll M L v) (wd + k)) j - comb A (fun k => 0 - en (redAll M L v) (wd + k)) j) := by omega
      rw [e]
      exact Int.dvd_add (Int.dvd_add (Int.dvd_neg.mpr (v1 j hjw)) h1) h2
    · exact far _ j hjw
theorem isZ_iff {r : Row} : isZ r = true ↔ ∀ j, j < r.length → en r j = 0 := by
  unfold isZ
  rw [decide_eq_true_eq]
  constructor
  · intro h j hj
    by_cases z : en r j = 0
    · exact z
    · exfalso
      have h1 : firstP r ≤ j := by
        unfold firstP
        rcases Nat.lt_or_ge j (r.findIdx fun x => decide (x ≠ 0)) with y | y
        · have := List.not_of_lt_findIdx y
          rw [show r[j] = en r j from (Option.some.inj ((List.getElem?_eq_getElem hj).symm.trans (en_lt hj)))] at this
          simp [z] at this
        · exact y
      omega
  · intro h; exact firstP_end h
end Mine
set_option Elab.async false
set_option linter.all false
set_option maxRecDepth 100000
set_option maxHeartbeats 4000000
namespace Mine
open PySem PySem.Spec PyProof.Rows L2 Evl
section
variable {K : PySem.W.Frag} {σ : L2.St} {H H' : Hp} {ta tb te tx tl : TE} {t u : TT} {x y z v w1 : V} {D : Ends} {tu tw tz : TS}
theorem el_lcIL {r : Row} {j : Nat} {vs : List Nat} (g : Int → Int) (h : EvL tl σ H (iL r)) (hz : r.length ≤ 40000) (hw : ∀ x, wipe ((wipe σ vs).set j (some x)) vs = wipe σ vs)
    (he : ∀ (k : Int) H1, Ex H H1 → k ∈ r → Ev te ((wipe σ vs).set j (some (.int k))) H1 (.int (g k))) : EvL (tLc (iList K tl) (gName j) tYes te vs) σ H (iL (r.map g)) := fun H0 e0 Q q =>
  h H0 e0 _ fun a H1 na e1 ha => (el_lcI (K := K) (tl := fun _ H Q => Q (.ref a) H) g (fun H2 e2 Q2 q2 => q2 H2 (Ex.refl H2)) (sq_of ha) hz hw fun k H2 e2 hk => he k H2 ((e0.trans e1).trans e2) hk) H1 (Ex.refl H1) Q fun p H2 np e2 hp => q p H2 (fresh_back e1 np) (e1.trans e2) hp
theorem el_slT {r : Row} {n : Nat} {a : Addr} (h : Ev te σ H (.ref a)) (h2 : Ev tb σ H (.int (n : Nat))) (hs : SqL K H a (iL r)) : EvL (tSl (rSlL K) te tNoPart (tPart tb)) σ H (iL (r.take n)) := by
  have := el_sl (K := K) h eo_none (eo_some h2) hs
  rw [cutV_take] at this
  have e : iL (r.take n) = (iL r).take n := List.map_take ..
  rw [e]; exact this
theorem el_slD {r : Row} {n : Nat} {a : Addr} (h : Ev te σ H (.ref a)) (h2 : Ev tb σ H (.int (n : Nat))) (hs : SqL K H a (iL r)) : EvL (tSl (rSlL K) te (tPart tb) tNoPart) σ H (iL (r.drop n)) := by
  have := el_sl (K := K) h (eo_some h2) eo_none hs
  rw [cutV_drop] at this
  have e : iL (r.drop n) = (iL r).drop n := List.map_drop ..
  rw [e]; exact this
theorem s_retCallR {sp : Sp} {dvs vs : List V} {rs : List Row} {E : XK} {ta : TA} (h2 : EvR te σ H rs) (h3 : EvA ta σ H vs) (k : ∀ p qs H1, H p = none → Ex H H1 → H1 p = some (.lst (adr qs)) → Rws H1 qs → rws qs = rs → (∀ x ∈ qs, H x.1 = none) → sp (.ref p :: (vs ++ dvs)) H1 D.rt E) : tRet (tCall sp dvs E (tCons te ta)) D σ H :=
  h2 H (Ex.refl H) _ fun p qs H2 np e2 hp hR he hf _ => h3 H2 e2 _ fun H3 e3 => k p qs H3 np (e2.trans e3) (e3 _ _ hp) (hR.ex e3) he hf
theorem s_retCall {sp : Sp} {dvs vs : List V} {E : XK} {ta : TA} (h3 : EvA ta σ H vs) (k : ∀ H1, Ex H H1 → sp (vs ++ dvs) H1 D.rt E) : tRet (tCall sp dvs E ta) D σ H := h3 H (Ex.refl H) _ fun H1 e1 => k H1 e1
theorem q_forCall {sp : Sp} {dvs vs : List V} {E : XK} {ta : TA} {j : Nat} (h : EvA ta σ H vs) (k : ∀ H1, Ex H H1 → sp (vs ++ dvs) H1 (fun x H2 => tSeq (tFor (iList K (fun _ H Q => Q x H)) (gName j) tu) tz D σ H2) E) : tSeq (tFor (iList K (tCall sp dvs E ta)) (gName j) tu) tz D σ H := h H (Ex.refl H) _ fun H1 e1 => k H1 e1
theorem ev_raw {a : V} : Ev (fun _ H Q => Q a H) σ H a := fun H1 e Q q => q H1 (Ex.refl H1)
/-- rows == [] -/
theorem ev_eqNil {p : Addr} {ps : List AR} (h : Ev ta σ H (.ref p)) (hp : SqL K H p (adr ps)) (hR : Rws H ps) : Ev (tOp (rEqD K) ta (tLst tNil)) σ H (.bl (decide (ps = []))) :=
  ev_opL (xs := adr []) h (el_lst ea_nil (by decide)) fun p5 H5 h5 e5 => fun H6 e6 Q6 q6 => ⟨dR (rws ps), dR (rws []), dpR (ex_l (e5.trans e6) hp) (hR.ex (e5.trans e6)), dpR (sq_of (e6 _ _ h5)) Rws.nil, shR _, shR _, by
    have ee : PyData.eqv (dR (rws ps)) (dR (rws [])) = decide (ps = []) := by
      cases ps with
      | nil => simp [dR, rws, PyData.eqv, PyData.eqvAll]
      | cons x xs => simp [dR, rws, PyData.eqv, PyData.eqvAll]
    rw [ee]; exact q6 H6 (Ex.refl H6)⟩
end
theorem gI_add (β : Nat) (e : Nat) : ∀ k, gI (gI β e) k = gI β (e + k)
  | 0 => rfl
  | k + 1 => by
    show 6 * gI (gI β e) k ^ 3 = 6 * gI β (e + k) ^ 3
    rw [gI_add β e k]
theorem herm_nil {M : Int} {D : List (Nat × Row)} (h : Herm M 0 D) : D = [] := by
  cases D with
  | nil => rfl
  | cons x D => exact absurd (h.ech.all x (List.mem_cons_self ..)).2.1 (by omega)
section
variable {P : Program} {w : World} {K : PySem.W.Frag} {mg : Str → Option Value} {base : Heap} {H : Hp}
/-! ### combine_rows -/
def spComb (K : PySem.W.Frag) : Sp := fun vs H Q _ => ∃ (p q : Addr) (ps : List AR) (row : Row) (wd β : Nat) (M : Int), vs = [.ref p, .ref q, .int M] ∧ SqL K H p (adr ps) ∧ Rws H ps ∧ SqL K H q (iL row) ∧ Md M ∧ row.length = wd ∧ wd ≤ 6 ∧ ps.length ≤ 6 ∧ 1 ≤ β ∧ gI β (ps.length - 1) < 2 ^ 8999 ∧
  (∀ r ∈ rws ps, r.length = wd) ∧ (M = 0 → Bnd β (rws ps)) ∧ (M = 0 → ∀ j, (en row j).natAbs ≤ 2 ^ tb) ∧
  (¬ InL M (rws ps) (en row) → ∀ H', Ex H H' → Q .non H') ∧
  (InL M (rws ps) (en row) → ∀ (a : Addr) (ns : Row) (H' : Hp), H a = none → Ex H H' → H' a = some (.lst (iL ns)) → ns.length = ps.length → Rng M ns → (M = 0 → ∀ j, (en ns j).natAbs ≤ 2 ^ 500000) → (∀ j, M ∣ en row j - comb (rws ps) (en ns) j) → Q (.ref a) H')
theorem ok_combine_rows (L : Lib K mg) {f : Addr} {fd : FuncData} (F : L2.Fun K "combine_rows" "combine_rows" s_combine_rows f fd) : FnOk P w K mg base CX0 5 f fd ["rows", "row", "modulus"] (spComb K) := by
  obtain ⟨f_is_zero, fd_is_zero, F_is_zero⟩ := L.is_zero
  obtain ⟨f_numbered_rows, fd_numbered_rows, F_numbered_rows⟩ := L.numbered_rows
  obtain ⟨f_plain_row, fd_plain_row, F_plain_row⟩ := L.plain_row
  obtain ⟨f_rest_of_row, fd_rest_of_row, F_rest_of_row⟩ := L.rest_of_row
  obtain ⟨f_split_rows, fd_split_rows, F_split_rows⟩ := L.split_rows
  have G_split_rows : FnOk P w K mg base CX0 4 f_split_rows fd_split_rows _ (spSplit K) := ok_split_rows L F_split_rows.F
  have G_numbered_rows : FnOk P w K mg base CX0 2 f_numbered_rows fd_numbered_rows _ (spNumb K) := ok_numbered_rows L F_numbered_rows.F
  have G_rest_of_row : FnOk P w K mg base CX0 2 f_rest_of_row fd_rest_of_row _ (spRest K) := ok_rest_of_row L F_rest_of_row.F
  have G_plain_row : FnOk P w K mg base CX0 1 f_plain_row fd_plain_row _ (spPlain K) := ok_plain_row L F_plain_row.F
  have G_is_zero : FnOk P w K mg base CX0 2 f_is_zero fd_is_zero _ (spIsZ K) := ok_is_zero L F_is_zero.F
  refine F.ok sc_combine_rows (fun vs H Q E h => ?_) (fun cdv A outer s H vs Q E hr h => ?_)
  · obtain ⟨p, q, ps, row, wd, β, M, rfl, _⟩ := h; rfl
  · obtain ⟨p, q, ps, row, wd, β, M, rfl, hp, hR, hq, hm, hrow, hwd, hn, hβ, hg, hlen, hbnd, hrb, finN, finY⟩ := h
    refine ⟨_, (pss_cons (ps_par (i := 3) (j := 4) rfl sc_combine_rows.nd rfl rfl (by decide) rfl rfl (pa_cons (pe_callB call_len_seq (by rfl) L.len (by decide +kernel) (pa_cons (pv 0) pa_nil)) (pa_cons (pe_callB call_len_seq (by rfl) L.len (by decide +kernel) (pa_cons (pv 1) pa_nil)) pa_nil)) (by rfl))
    (pss_cons (ps_asg (pe_call G_split_rows (hr.mono (by decide)) (by rfl) F_split_rows.g F_split_rows.F.kp F_split_rows.b .nil pass0 (pa_cons (pe_call G_numbered_rows (hr.mono (by decide)) (by rfl) F_numbered_rows.g F_numbered_rows.F.kp F_numbered_rows.b .nil pass0 (pa_cons (pv 0) pa_nil)) (pa_cons (pv 4) (pa_cons (pv 2) pa_nil)))) (pg_tup rfl (pgs_cons (pg_name (i := 5) sc_combine_rows.nd rfl (Or.inl rfl)) (pgs_cons (pg_name (i := 6) sc_combine_rows.nd rfl (Or.inl rfl)) pgs_nil))))
    (pss_cons (ps_set (i := 7) sc_combine_rows.nd rfl (Or.inl rfl) (pe_call G_rest_of_row (hr.mono (by decide)) (by rfl) F_rest_of_row.g F_rest_of_row.F.kp F_rest_of_row.b .nil pass0 (pa_cons (pv 5) (pa_cons (pe_op op_cat (pe_call G_plain_row (hr.mono (by decide)) (by rfl) F_plain_row.g F_plain_row.F.kp F_plain_row.b .nil pass0 (pa_cons (pv 1) (pa_cons (pv 2) pa_nil))) (pe_op op_rep (pe_lst (pa_cons pe_int pa_nil)) (pv 3))) (pa_cons (pv 2) pa_nil)))))
    (pss_cons (ps_if (pt_not (pt_val (pe_call G_is_zero (hr.mono (by decide)) (by rfl) F_is_zero.g F_is_zero.F.kp F_is_zero.b .nil pass0 (pa_cons (pe_slice sl_list (pv 7) po_none (po_some (pv 4))) pa_nil))))
      (pss_one (ps_ret pe_non))
      pss_nil)
    (pss_one (ps_ret (pe_call G_plain_row (hr.mono (by decide)) (by rfl) F_plain_row.g F_plain_row.F.kp F_plain_row.b .nil pass0 (pa_cons (pe_lc (own := [("number", 8)]) (g := gName 8) (tt := tYes) rfl sc_combine_rows.nd (pi_list (pe_slice sl_list (pv 7) (po_some (pv 4)) po_none)) (blkOk_by (own := [("number", 8)]) (N := N_combine_rows) (sc := defScope s_combine_rows) (by decide +kernel)) (fun _ _ _ _ _ => (pg_name (i := 8) sc_combine_rows.nd rfl (Or.inl rfl))) (fun _ _ _ _ _ => pts_nil) (fun _ _ _ _ _ => (pe_op op_sub pe_int (pv 8)))) (pa_cons (pv 2) pa_nil))))))))), ?_⟩
    refine q_par (v := .int (ps.length : Nat)) (w1 := .int (wd : Nat)) (ea_cons (ev_is (ev_len (ev_var rfl) hp) (by rw [adr_len])) (ea_cons (ev_is (ev_len (ev_var rfl) hq) (by rw [iL_len, hrow])) ea_nil)) fun H1 e1 => ?_
    refine q_callR (evr_numb (ea_cons (ev_var rfl) ea_nil) (ex_l e1 hp) (hR.ex e1) (by omega) (fun r hr => by rw [hlen r hr]; omega)) (ea_cons (ev_var rfl) (ea_cons (ev_var rfl) ea_nil)) fun np nqs H2 nnp e2 hnp hnR hne hnf => ?_
    have nl : nqs.length = ps.length := by have := congrArg List.length hne; rw [rws_len, numb_len, rws_len] at this; exact this
    have hne' : rws nqs = numb (rws ps).length 0 (rws ps) := by rw [rws_len]; exact hne
    refine ⟨np, nqs, wd, wd + ps.length, β, M, rfl, sq_of hnp, hnR, hm, by omega, by omega, by omega, hβ, by rw [nl]; exact hg, fun r hr => ?_, fun hM => by rw [hne']; exact numb_bnd hβ (hbnd hM), fun t a l ts zs LL H3 e3 ht ha hl3 na rt rz etl T nts tne => ?_⟩
    · rw [hne'] at hr
      have := numb_lens hlen r hr
      rwa [rws_len] at this
    refine ⟨t, _, rfl, SqT.of ht, rfl, _, _, rfl, _, _, rfl, rfl, ?_⟩
    have ex3 := (e1.trans e2).trans e3
    have hq3 := ex_l ex3 hq
    have T' : TJ M (wd + (rws ps).length) wd β (rws ps).length false (numb (rws ps).length 0 (rws ps)) LL (rws zs) := by
      rw [← hne', rws_len, ← nl]; rw [nl]; rw [nl] at T; exact T
    have hbJ : bJ false β (rws ps).length (rws ps).length < 2 ^ 8999 := by
      unfold bJ; rw [if_neg (by decide), Nat.min_eq_right (by omega), rws_len]; exact hg
    have hro := ro_tj T' hbJ (by rw [rws_len]; exact hn)
    have tsl : ts.length ≤ 6 := by
      have h1 := congrArg List.length etl
      rw [rws_len, List.length_map] at h1
      have h2 := T'.cnt
      rw [rws_len, rws_len] at h2; omega
    have lx : (plainRow row M ++ List.replicate ps.length 0).length = wd + ps.length := by rw [List.length_append, plainRow_len, hrow, List.length_replicate]
    have bx : M = 0 → ∀ j, (en (plainRow row M ++ List.replicate ps.length 0) j).natAbs ≤ 2 ^ tb := fun hM j => by
      rw [en_append]
      split
      · rw [hM, plainRow_0]; exact hrb hM j
      · rw [en_zero]; exact Nat.zero_le _
    have hroT : ∀ o ∈ rws ts, RO M (wd + ps.length) o := fun o ho => by
      rw [etl] at ho
      have := hro o ho
      rwa [rws_len] at this
    refine q_asgL (el_callVL (xs := iL (plainRow row M ++ List.replicate ps.length 0)) (ev_var rfl) ?_ (ea_cons (ev_var rfl) ea_nil) fun lp H4 e4 hlp => rest_spl (wd := wd + ps.length) ⟨sq_of (e4 _ _ ha), rt.ex e4, sq_of hlp, hm, lx, by omega, tsl, bx, hroT⟩) fun lp H4 nlp e4 hlp => ?_
    · have e : iL (plainRow row M ++ List.replicate ps.length 0) = iL (plainRow row M) ++ iL (List.replicate ps.length 0) := List.map_append ..
      rw [e]
      exact el_catLL (el_call (ea_cons (ev_var rfl) (ea_cons (ev_var rfl) ea_nil)) (plain_spl hq3 (by omega) hm.nonneg)) (fun H5 e5 => el_rep0 (fun H6 e6 => ev_var rfl) (by omega)) (by rw [iL_len, iL_len, plainRow_len, List.length_replicate]; omega)
    -- what is left
    obtain ⟨r1, r2, r3⟩ := rest_inv hm lx bx (show (rws ts).length ≤ 6 by rw [rws_len]; exact tsl) hroT
    have eL : restOf (rws ts) (plainRow row M ++ List.replicate ps.length 0) M = redAll M LL (plainRow (plainRow row M ++ List.replicate ps.length 0) M) := by
      unfold restOf
      rw [etl]
      exact restOf_red (ech_first T'.ech T'.lenL)
    obtain ⟨c1, c2⟩ := comb_left (row := row) hm hlen hrow T' (v := plainRow (plainRow row M ++ List.replicate ps.length 0) M) (by rw [rws_len])
    rw [← eL] at c1 c2
    generalize restOf (rws ts) (plainRow row M ++ List.replicate ps.length 0) M = lf at hlp r1 r2 r3 c1 c2
    have ex4 := ex3.trans e4
    have tk : (lf.take wd).length = wd := by rw [List.length_take]; omega
    have hz : isZ (lf.take wd) = true ↔ ∀ j, j < wd → en lf j = 0 := by
      rw [isZ_iff, tk]
      have e : ∀ j, j < wd → en (lf.take wd) j = en lf j := fun j hj => by unfold en; rw [List.getD_eq_getElem?_getD, List.getD_eq_getElem?_getD, List.getElem?_take, if_pos hj]
      exact ⟨fun h j hj => by rw [← e j hj]; exact h j hj, fun h j hj => by rw [e j hj]; exact h j hj⟩
    refine q_when (et_not (et_test (b := isZ (lf.take wd)) (ev_callL1 (xs := iL (lf.take wd)) (el_slT (ev_var rfl) (ev_var rfl) (sq_of hlp)) ea_nil fun p5 H5 e5 h5 => fun H6 e6 Q6 q6 _ => ⟨p5, _, rfl, ex_l e6 (sq_of h5), by rw [tk]; omega, q6⟩))) (fun hb H5 e5 => ?_) (fun hb H5 e5 => ?_)
    · refine s_ret ev_c fun H6 e6 => finN (fun h => ?_) H6 ((ex4.trans e5).trans e6)
      rw [hz.mpr (c1.mpr h)] at hb
      simp at hb
    · have hzz : isZ (lf.take wd) = true := by
        cases hq : isZ (lf.take wd) with
        | true => rfl
        | false => rw [hq] at hb; simp at hb
      have hz0 := hz.mp hzz
      have dl : (lf.drop wd).length = ps.length := by rw [List.length_drop]; omega
      have en_ns : ∀ j, en ((lf.drop wd).map fun x => 0 - x) j = 0 - en lf (wd + j) := fun j => by rw [en_map (f := fun x => 0 - x) rfl, en_drop]
      refine s_retL (el_callL1 (xs := iL ((lf.drop wd).map fun x => 0 - x)) (el_lcIL (fun x => 0 - x) (el_slD (ev_var rfl) (ev_var rfl) (sq_of (e5 _ _ hlp))) (by omega) (fun _ => rfl) fun k H6 e6 hk => ev_sub ev_c (ev_var rfl)) (ea_cons (ev_var rfl) ea_nil) fun p6 H6 e6 h6 => plain_spl (sq_of h6) (by rw [List.length_map]; omega) hm.nonneg) fun p7 H7 np7 e7 h7 => ?_
      refine finY (c1.mp hz0) p7 _ H7 (fresh_back (ex4.trans e5) np7) ((ex4.trans e5).trans e7) h7 (by rw [plainRow_len, List.length_map, dl]) (plainRow_rng hm) (fun hM j => ?_) fun j => ?_
      · rw [hM, plainRow_0, en_ns]
        have h8 := r3 (wd + j)
        have h9 : (2 : Nat) ^ (tb + (tb + 1) * (rws ts).length) ≤ 2 ^ 500000 := Nat.pow_le_pow_right (by decide) (by rw [rws_len]; unfold tb; omega)
        omega
      · have h8 := c2 hz0 j
        have h9 := comb_congr (M := M) (R := rws ps) (x := fun k => 0 - en lf (wd + k)) (y := en (plainRow ((lf.drop wd).map fun x => 0 - x) M)) (fun k _ => by
          have := plainRow_dvd ((lf.drop wd).map fun x => 0 - x) M k
          rw [en_ns] at this
          rw [← Int.neg_sub]; exact Int.dvd_neg.mpr this) j
        have e : en row j - comb (rws ps) (en (plainRow ((lf.drop wd).map fun x => 0 - x) M)) j = (en row j - comb (rws ps) (fun k => 0 - en lf (wd + k)) j) + (comb (rws ps) (fun k => 0 - en lf (wd + k)) j - comb (rws ps) (en (plainRow ((lf.drop wd).map fun x => 0 - x) M)) j) := by omega
        rw [e]; exact Int.dvd_add h8 h9
end
end Mine
set_option Elab.async false
set_option linter.all false
set_option maxRecDepth 100000
set_option maxHeartbeats 4000000
namespace Mine
open PySem PySem.Spec PyProof.Rows L2 Evl
section
variable {P : Program} {w : World} {K : PySem.W.Frag} {mg : Str → Option Value} {base : Heap} {H : Hp}
theorem ne_of_none_ne {H1 H2 : Hp} {a b : Addr} {o : HO} (h : H1 a = some o) (h' : H2 b = none) (e : Ex H1 H2) : b ≠ a := fun z => by
  have := e _ _ h
  rw [← z, h'] at this; cases this
theorem sumBy_congr {M : Int} : ∀ {R : List Row} {x y : Nat → Int} {t : Row}, (∀ k, k < R.length → x k = y k) → sumBy M R x t = sumBy M R y t
  | [], _, _, _, _ => rfl
  | r :: R, x, y, t, h => by
    simp only [sumBy]
    rw [h 0 (by simp), sumBy_congr (R := R) (x := fun k => x (k + 1)) (y := fun k => y (k + 1)) fun k hk => h (k + 1) (by simpa using hk)]
/-! ### kernel_rows -/
def spKer (K : PySem.W.Frag) : Sp := fun vs H Q _ => ∃ (p : Addr) (ps : List AR) (wd β : Nat) (M : Int) (D : List (Nat × Row)), vs = [.ref p, .int M] ∧ SqL K H p (adr ps) ∧ Rws H ps ∧ Md M ∧ wd ≤ 6 ∧ ps.length ≤ 6 ∧ 1 ≤ β ∧ gI β (ps.length - 1) < 2 ^ 8999 ∧
  (∀ r ∈ rws ps, r.length = wd) ∧ (M = 0 → Bnd β (rws ps)) ∧ Herm M ps.length D ∧ KerR M (rws ps) (D.map (·.2)) ∧
  ∀ (a : Addr) (ts : List AR) (H' : Hp), Ex H H' → H' a = some (.lst (adr ts)) → H a = none → Rws H' ts → rws ts = D.map (·.2) → (∀ x ∈ ts, H x.1 = none) → (∀ x ∈ ts, x.1 ≠ a) → Q (.ref a) H'
theorem ok_kernel_rows (L : Lib K mg) {f : Addr} {fd : FuncData} (F : L2.Fun K "kernel_rows" "kernel_rows" s_kernel_rows f fd) : FnOk P w K mg base CX0 6 f fd ["rows", "modulus"] (spKer K) := by
  obtain ⟨f_hermite_rows, fd_hermite_rows, F_hermite_rows⟩ := L.hermite_rows
  obtain ⟨f_numbered_rows, fd_numbered_rows, F_numbered_rows⟩ := L.numbered_rows
  obtain ⟨f_split_rows, fd_split_rows, F_split_rows⟩ := L.split_rows
  have G_split_rows : FnOk P w K mg base CX0 4 f_split_rows fd_split_rows _ (spSplit K) := ok_split_rows L F_split_rows.F
  have G_numbered_rows : FnOk P w K mg base CX0 2 f_numbered_rows fd_numbered_rows _ (spNumb K) := ok_numbered_rows L F_numbered_rows.F
  have G_hermite_rows : FnOk P w K mg base CX0 5 f_hermite_rows fd_hermite_rows _ (spHermite K) := ok_hermite_rows L F_hermite_rows.F
  refine F.ok sc_kernel_rows (fun vs H Q E h => ?_) (fun cdv A outer s H vs Q E hr h => ?_)
  · obtain ⟨p, ps, wd, β, M, D, rfl, _⟩ := h; rfl
  · obtain ⟨p, ps, wd, β, M, D, rfl, hp, hR, hm, hwd, hn, hβ, hg, hlen, hbnd, hD, hK, fin⟩ := h
    refine ⟨_, (pss_cons (ps_if (pt_cmpR (op_eqD hr.units) (pv 0) (pe_lst pa_nil) (nomark _))
      (pss_one (ps_ret (pe_lst pa_nil)))
      pss_nil)
    (pss_cons (ps_set (i := 2) sc_kernel_rows.nd rfl (Or.inr rfl) (pe_callB call_len_seq (by rfl) L.len (by decide +kernel) (pa_cons (pe_ix ix_list (pv 0) pe_int (fun _ _ => rfl)) pa_nil)))
    (pss_cons (ps_asg (pe_call G_split_rows (hr.mono (by decide)) (by rfl) F_split_rows.g F_split_rows.F.kp F_split_rows.b .nil pass0 (pa_cons (pe_call G_numbered_rows (hr.mono (by decide)) (by rfl) F_numbered_rows.g F_numbered_rows.F.kp F_numbered_rows.b .nil pass0 (pa_cons (pv 0) pa_nil)) (pa_cons (pv 2) (pa_cons (pv 1) pa_nil)))) (pg_tup rfl (pgs_cons (pg_name (i := 3) sc_kernel_rows.nd rfl (Or.inl rfl)) (pgs_cons (pg_name (i := 4) sc_kernel_rows.nd rfl (Or.inl rfl)) pgs_nil))))
    (pss_one (ps_ret (pe_call G_hermite_rows (hr.mono (by decide)) (by rfl) F_hermite_rows.g F_hermite_rows.F.kp F_hermite_rows.b .nil pass0 (pa_cons (pe_lc (own := [("row", 5)]) (g := gName 5) (tt := tYes) rfl sc_kernel_rows.nd (pi_list (pv 4)) (blkOk_by (own := [("row", 5)]) (N := N_kernel_rows) (sc := defScope s_kernel_rows) (by decide +kernel)) (fun _ _ _ _ _ => (pg_name (i := 5) sc_kernel_rows.nd rfl (Or.inl rfl))) (fun _ _ _ _ _ => pts_nil) (fun _ _ _ _ _ => (pe_slice (sl_listK (K := K)) (pv 5) (po_some (pv 2)) po_none))) (pa_cons (pe_callB call_len_seq (by rfl) L.len (by decide +kernel) (pa_cons (pv 0) pa_nil)) (pa_cons (pv 1) pa_nil))))))))), ?_⟩
    refine q_when (et_test (ev_eqNil (ev_var rfl) hp hR)) (fun hb H1 e1 => ?_) (fun hb H1 e1 => ?_)
    · have hps := of_decide_eq_true hb
      subst hps
      have : D = [] := herm_nil hD
      subst this
      exact s_retL (el_lst ea_nil (by decide)) fun a H2 na e2 ha => fin a [] H2 (e1.trans e2) ha (fresh_back e1 na) Rws.nil rfl (fun x h => absurd h (by simp)) (fun x h => absurd h (by simp))
    · have hne := of_decide_eq_false hb
      obtain ⟨x0, ps', rfl⟩ : ∃ x ps', ps = x :: ps' := by
        cases ps with
        | nil => exact absurd rfl hne
        | cons x ps' => exact ⟨x, ps', rfl⟩
      generalize hps : x0 :: ps' = ps at *
      have hx0 : ps[0]? = some x0 := by rw [← hps]; rfl
      have x0in := List.mem_of_getElem? hx0
      refine q_asg (v := .int (wd : Nat)) (ev_is (ev_len (ev_ix (ev_var rfl) ev_c (ex_l e1 hp) (atI_nat (j := 0) (adr_at hx0))) ((hR.ex e1).seq x0in)) (by rw [iL_len, hlen x0.2 (mem_rws x0in)])) fun H2 e2 => ?_
      have ex2 := e1.trans e2
      refine q_callR (evr_numb (ea_cons (ev_var rfl) ea_nil) (ex_l ex2 hp) (hR.ex ex2) (by omega) (fun r hr => by rw [hlen r hr]; omega)) (ea_cons (ev_var rfl) (ea_cons (ev_var rfl) ea_nil)) fun np nqs H3 nnp e3 hnp hnR hne2 hnf => ?_
      have nl : nqs.length = ps.length := by have := congrArg List.length hne2; rw [rws_len, numb_len, rws_len] at this; exact this
      have hne' : rws nqs = numb (rws ps).length 0 (rws ps) := by rw [rws_len]; exact hne2
      refine ⟨np, nqs, wd, wd + ps.length, β, M, rfl, sq_of hnp, hnR, hm, by omega, by omega, by omega, hβ, by rw [nl]; exact hg, fun r hr => ?_, fun hM => by rw [hne']; exact numb_bnd hβ (hbnd hM), fun t a l ts zs LL H4 e4 ht ha hl4 na rt rz etl T nts tne => ?_⟩
      · rw [hne'] at hr
        have := numb_lens hlen r hr
        rwa [rws_len] at this
      refine ⟨t, _, rfl, SqT.of ht, rfl, _, _, rfl, _, _, rfl, rfl, ?_⟩
      have T' : TJ M (wd + (rws ps).length) wd β (rws ps).length false (numb (rws ps).length 0 (rws ps)) LL (rws zs) := by
        rw [← hne', rws_len, ← nl]; rw [nl]; rw [nl] at T; exact T
      have zc : LL.length + zs.length ≤ ps.length := by have := T'.cnt; rw [rws_len, rws_len] at this; exact this
      have kr : KerR M (rws ps) ((rws zs).map fun z => z.drop wd) := ker_rest hlen T'.ech T'.lt T'.zero T'.lenR T'.same
      have ex4 := (ex2.trans e3).trans e4
      have bz : M = 0 → Bnd (bJ false β ps.length LL.length) ((rws zs).map fun z => z.drop wd) := fun hM r hr j => by
        obtain ⟨z, hz, rfl⟩ := List.mem_map.mp hr
        have := T'.bL hM z hz (wd + j)
        rw [rws_len] at this
        rw [en_drop]; exact this
      refine s_retCallR (el_lcR (fun z => z.drop wd) (ev_var rfl) (sq_of hl4) (by omega) (fun _ => rfl) fun x H5 e5 hx => el_slD (ev_var rfl) (ev_var rfl) (sq_of (e5 _ _ (rz x hx)))) (ea_cons (ev_is (ev_len (ev_var rfl) (ex_l ex4 hp)) (by rw [adr_len])) (ea_cons (ev_var rfl) ea_nil)) fun kp kqs H5 nkp e5 hkp hkR hke hkf => ?_
      have kl : kqs.length = zs.length := by have := congrArg List.length hke; rw [rws_len, List.length_map, rws_len] at this; exact this
      refine ⟨kp, kqs, ps.length, bJ false β ps.length LL.length, M, D, rfl, sq_of hkp, hkR, hm, by omega, by omega, bJ_1 hβ, ?_, fun r hr => ?_, fun hM => by rw [hke]; exact bz hM, hD, by rw [hke]; exact kr.same hK, fun a2 us H6 e6 ha2 na2 hu eu nu neu => ?_⟩
      · unfold bJ
        rw [if_neg (by decide), gI_add]
        exact Nat.lt_of_le_of_lt (gI_mono hβ (by omega)) hg
      · rw [hke] at hr
        have := kr.len r hr
        rwa [rws_len] at this
      · have ex5 := ex4.trans e5
        exact fin a2 us H6 (ex5.trans e6) ha2 (fresh_back ex5 na2) hu eu (fun x hx => fresh_back ex5 (nu x hx)) neu
/-! ### meet_rows -/
def metR (M : Int) (A : List Row) (wd : Nat) (KD : List Row) : List Row := KD.map fun x => sumBy M A (en x) (List.replicate wd 0)
def spMeet (K : PySem.W.Frag) : Sp := fun vs H Q _ => ∃ (p q : Addr) (ps qs : List AR) (wd β φ : Nat) (M : Int) (KD D : List (Nat × Row)), vs = [.ref p, .ref q, .int (wd : Nat), .int M] ∧ SqL K H p (adr ps) ∧ Rws H ps ∧ SqL K H q (adr qs) ∧ Rws H qs ∧ Md M ∧ wd ≤ 6 ∧ ps.length + qs.length ≤ 6 ∧ 1 ≤ β ∧ gI β (ps.length + qs.length - 1) < 2 ^ 8999 ∧
  (∀ r ∈ rws ps ++ rws qs, r.length = wd) ∧ (M = 0 → Bnd β (rws ps ++ rws qs)) ∧ Herm M (ps.length + qs.length) KD ∧ KerR M (rws ps ++ rws qs) (KD.map (·.2)) ∧ KD.length ≤ 6 ∧ (M = 0 → Bnd (2 ^ 1000) (KD.map (·.2)) ∧ Bnd (2 ^ 1000) (rws ps)) ∧
  1 ≤ φ ∧ (M = 0 → Bnd φ (metR M (rws ps) wd (KD.map (·.2)))) ∧ gI φ (KD.length - 1) < 2 ^ 8999 ∧ Herm M wd D ∧ SameL M (metR M (rws ps) wd (KD.map (·.2))) (D.map (·.2)) ∧ (M ≠ 0 → ∀ r ∈ rws ps, ∀ j, (en r j).natAbs ≤ 5) ∧
  ∀ (a : Addr) (ts : List AR) (H' : Hp), Ex H H' → H' a = some (.lst (adr ts)) → H a = none → Rws H' ts → rws ts = D.map (·.2) → (∀ x ∈ ts, H x.1 = none) → (∀ x ∈ ts, x.1 ≠ a) → Q (.ref a) H'
/-- two new lists of new rows -/
theorem evr_cat {σ : L2.St} {ta tb : TE} {rs ss : List Row} (ha : EvR ta σ H rs) (hb : ∀ H1, Ex H H1 → EvR tb σ H1 ss) (hz : rs.length + ss.length ≤ 1000) : EvR (tOp rCat ta tb) σ H (rs ++ ss) := fun H0 e0 Q q =>
  ha H0 e0 _ fun p ps H1 np e1 hp hR he hf hn => hb H1 (e0.trans e1) H1 (Ex.refl H1) _ fun p2 qs H2 np2 e2 hp2 hR2 he2 hf2 hn2 => ⟨p, p2, adr ps, adr qs, rfl, rfl, e2 _ _ hp, hp2, by
    have h1 := congrArg List.length he
    have h2 := congrArg List.length he2
    rw [rws_len] at h1 h2
    rw [adr_len, adr_len]
    exact Nat.le_trans (show ps.length + qs.length ≤ 1000 by omega) (by decide), fun p3 np3 => by
    have h2 : Rws H2 (ps ++ qs) := Rws.append (hR.ex e2) hR2
    refine q p3 (ps ++ qs) _ (fresh_back (e1.trans e2) np3) ((e1.trans e2).trans (Ex.new np3)) (by rw [upd_same, adr_app]) (h2.ex (Ex.new np3)) (by rw [rws_app, he, he2]) (fun x hx => ?_) (fun x hx => ne_of_none (h2 x hx) np3)
    rcases List.mem_append.mp hx with h | h
    · exact hf x h
    · exact fresh_back e1 (hf2 x h)⟩
theorem ok_meet_rows (L : Lib K mg) {f : Addr} {fd : FuncData} (F : L2.Fun K "meet_rows" "meet_rows" s_meet_rows f fd) : FnOk P w K mg base CX0 7 f fd ["one", "other", "width", "modulus"] (spMeet K) := by
  obtain ⟨f_hermite_rows, fd_hermite_rows, F_hermite_rows⟩ := L.hermite_rows
  obtain ⟨f_kernel_rows, fd_kernel_rows, F_kernel_rows⟩ := L.kernel_rows
  obtain ⟨f_sum_of_rows, fd_sum_of_rows, F_sum_of_rows⟩ := L.sum_of_rows
  have G_kernel_rows : FnOk P w K mg base CX0 6 f_kernel_rows fd_kernel_rows _ (spKer K) := ok_kernel_rows L F_kernel_rows.F
  have G_sum_of_rows : FnOk P w K mg base CX0 2 f_sum_of_rows fd_sum_of_rows _ (spSumOf K) := ok_sum_of_rows L F_sum_of_rows.F
  have G_hermite_rows : FnOk P w K mg base CX0 5 f_hermite_rows fd_hermite_rows _ (spHermite K) := ok_hermite_rows L F_hermite_rows.F
  refine F.ok sc_meet_rows (fun vs H Q E h => ?_) (fun cdv A outer s H vs Q E hr h => ?_)
  · obtain ⟨p, q, ps, qs, wd, β, φ, M, KD, D, rfl, _⟩ := h; rfl
  · obtain ⟨p, q, ps, qs, wd, β, φ, M, KD, D, rfl, hp, hR, hq, hRq, hm, hwd, hn, hβ, hg, hlen, hbnd, hKD, hK, hkn, hkb, hφ, hfb, hg2, hD, hS, h5, fin⟩ := h
    refine ⟨_, (pss_cons (ps_set (i := 4) sc_meet_rows.nd rfl (Or.inl rfl) (pe_op op_cat (pe_lc (own := [("row", 7)]) (g := gName 7) (tt := tYes) rfl sc_meet_rows.nd (pi_list (pv 0)) (blkOk_by (own := [("row", 7)]) (N := N_meet_rows) (sc := defScope s_meet_rows) (by decide +kernel)) (fun _ _ _ _ _ => (pg_name (i := 7) sc_meet_rows.nd rfl (Or.inl rfl))) (fun _ _ _ _ _ => pts_nil) (fun _ _ _ _ _ => (pe_callTy (call_list_ofK (K := K)) (by rfl) L.list (by decide +kernel) (pa_cons (pv 7) pa_nil)))) (pe_lc (own := [("row", 7)]) (g := gName 7) (tt := tYes) rfl sc_meet_rows.nd (pi_list (pv 1)) (blkOk_by (own := [("row", 7)]) (N := N_meet_rows) (sc := defScope s_meet_rows) (by decide +kernel)) (fun _ _ _ _ _ => (pg_name (i := 7) sc_meet_rows.nd rfl (Or.inl rfl))) (fun _ _ _ _ _ => pts_nil) (fun _ _ _ _ _ => (pe_callTy (call_list_ofK (K := K)) (by rfl) L.list (by decide +kernel) (pa_cons (pv 7) pa_nil))))))
    (pss_cons (ps_set (i := 5) sc_meet_rows.nd rfl (Or.inl rfl) (pe_lst pa_nil))
    (pss_cons (ps_for PassesOwn.never rfl (pi_list (pe_call G_kernel_rows (hr.mono (by decide)) (by rfl) F_kernel_rows.g F_kernel_rows.F.kp F_kernel_rows.b .nil pass0 (pa_cons (pv 4) (pa_cons (pv 3) pa_nil)))) (pg_name (i := 6) sc_meet_rows.nd rfl (Or.inl rfl))
      (pss_one (ps_expr (pe_bm PySem.F.plainAttrs_list PySem.F.slot_list_append PySem.F.type_list_append mt_append (pv 5) (pa_cons (pe_call G_sum_of_rows (hr.mono (by decide)) (by rfl) F_sum_of_rows.g F_sum_of_rows.F.kp F_sum_of_rows.b .nil pass0 (pa_cons (pv 0) (pa_cons (pe_slice sl_list (pv 6) po_none (po_some (pe_callB call_len_seq (by rfl) L.len (by decide +kernel) (pa_cons (pv 0) pa_nil)))) (pa_cons (pv 2) (pa_cons (pv 3) pa_nil))))) pa_nil)))))
    (pss_one (ps_ret (pe_call G_hermite_rows (hr.mono (by decide)) (by rfl) F_hermite_rows.g F_hermite_rows.F.kp F_hermite_rows.b .nil pass0 (pa_cons (pv 5) (pa_cons (pv 2) (pa_cons (pv 3) pa_nil))))))))), ?_⟩
    refine q_asgR (evr_cat (el_lcR (fun r => r) (ev_var rfl) hp (by omega) (fun _ => rfl) fun x H1 e1 hx => el_list (ev_var rfl) (ex_l e1 (hR.seq hx))) (fun H1 e1 => el_lcR (fun r => r) (ev_var rfl) (ex_l e1 hq) (by omega) (fun _ => rfl) fun x H2 e2 hx => el_list (ev_var rfl) (ex_l (e1.trans e2) (hRq.seq hx))) (by rw [List.length_map, List.length_map, rws_len, rws_len]; omega)) fun bp bs H1 nbp e1 hbp hbR hbe hbf hbn => ?_
    rw [List.map_id', List.map_id'] at hbe
    have bl : bs.length = ps.length + qs.length := by have := congrArg List.length hbe; rw [rws_len, List.length_append, rws_len, rws_len] at this; exact this
    refine q_asgL (el_lst ea_nil (by simp)) fun fp H2 nfp e2 hfp => ?_
    refine q_forCall (ea_cons (ev_var rfl) (ea_cons (ev_var rfl) ea_nil)) fun H3 e3 => ?_
    have e13 := e2.trans e3
    refine ⟨bp, bs, wd, β, M, KD, rfl, sq_of (e13 _ _ hbp), hbR.ex e13, hm, hwd, by omega, hβ, by rw [bl]; exact hg, by rw [hbe]; exact hlen, by rw [hbe]; exact hbnd, by rw [bl]; exact hKD, by rw [hbe]; exact hK, fun kp ks H4 e4 hkp nkp hkR hke hkf hkn2 => ?_⟩
    have ex4 := ((e1.trans e2).trans e3).trans e4
    have kl : ks.length = KD.length := by have := congrArg List.length hke; rw [rws_len, List.length_map] at this; exact this
    refine q_forLn ev_raw (sq_of hkp) (fun i σ' H' => ∃ (fs : List AR) (v6 v7 : Option V), σ' = [some (.ref p), some (.ref q), some (.int (wd : Nat)), some (.int M), some (.ref bp), some (.ref fp), v6, v7] ∧ Ex H H' ∧ H' kp = some (.lst (adr ks)) ∧ H' fp = some (.lst (adr fs)) ∧ Rws H' ks ∧ Rws H' fs ∧ rws fs = metR M (rws ps) wd ((KD.map (·.2)).take i) ∧ ∀ x ∈ fs, x.1 ≠ fp)
      (fun H5 e5 => ⟨[], _, _, rfl, ex4.trans e5, e5 _ _ hkp, ((e3.trans e4).trans e5) _ _ hfp, hkR.ex e5, Rws.nil, rfl, fun x h => absurd h (by simp)⟩) (fun i σ' H' _ ⟨_, _, _, _, _, h, _⟩ => sq_of h) ?_ ?_
    · rintro i x σ' H5 hi ⟨fs, v6, v7, rfl, ex5, hk5, hf5, hkR5, hfR5, hfe5, hfn5⟩
      obtain ⟨y, hy, rfl⟩ := adr_get hi
      have yin := List.mem_of_getElem? hy
      have hil := (List.getElem?_eq_some_iff.mp hy).1
      have hyD : (KD.map (·.2))[i]? = some y.2 := by rw [← hke]; exact rws_at hy
      have yl : y.2.length = ps.length + qs.length := by
        have := hK.len y.2 (List.mem_of_getElem? hyD)
        rw [List.length_append, rws_len, rws_len] at this; exact this
      have fl : fs.length ≤ i := by
        have := congrArg List.length hfe5
        rw [rws_len] at this
        unfold metR at this
        rw [List.length_map, List.length_take] at this; omega
      have cm : ∀ k ∈ y.2.take ps.length, ∀ r ∈ rws ps, ∀ c ∈ r, CMulW (0 - k) c := fun k hk r hr c hc => by
        have hk2 := List.mem_of_mem_take hk
        obtain ⟨j, hj⟩ := List.getElem?_of_mem hk2
        obtain ⟨j', hj'⟩ := List.getElem?_of_mem hc
        rw [← en_get hj']
        by_cases hM : M = 0
        · obtain ⟨b1, b2⟩ := hkb hM
          have b3 := b1 y.2 (List.mem_of_getElem? hyD) j
          rw [en_get hj] at b3
          have b4 := b2 r hr j'
          have b5 : (2 : Nat) ^ 1000 < 2 ^ 1001 := Nat.pow_lt_pow_right (by decide) (by decide)
          exact wide_mul (a := 1001) (b := 1001) (by omega) (by omega) (by decide) (by decide) (by decide)
        · have b3 := hKD.rng
          obtain ⟨z, hz, ez⟩ := List.mem_map.mp (List.mem_of_getElem? hyD)
          have b4 := b3 z hz hM j
          rw [ez, en_get hj] at b4
          have b5 := h5 hM r hr j'
          have := hm.pos hM
          exact CMulW_small (by omega) (by omega)
      have tkl : (y.2.take ps.length).length = ps.length := by rw [List.length_take]; omega
      refine s_appL hf5 (ev_var rfl) (el_callVL (ev_var rfl) (el_slT (ev_var rfl) (ev_is (ev_len (ev_var rfl) (ex_l ex5 hp)) (by rw [adr_len])) (sq_of (hkR5 y yin))) (ea_cons (ev_var rfl) (ea_cons (ev_var rfl) ea_nil)) fun np H6 e6 hnp => fun H7 e7 Q7 q7 _ => ⟨p, np, ps, y.2.take ps.length, wd, M, rfl, ex_l ((ex5.trans e6).trans e7) hp, hR.ex ((ex5.trans e6).trans e7), sq_of (e7 _ _ hnp), tkl, by omega, by omega, hm, fun r hr => hlen r (List.mem_append_left _ hr), cm, q7⟩) (by rw [adr_len]; omega) fun sp H6 nsp e6 hsp => ?_
      have nspH := fresh_back ex5 nsp
      have nfpH : H fp = none := fresh_back e1 nfp
      have spf : sp ≠ fp := (ne_of_none hf5 nsp).symm
      have kpf : kp ≠ fp := ne_of_none_ne hfp nkp e3
      refine ⟨fs ++ [(sp, sumBy M (rws ps) (en (y.2.take ps.length)) (List.replicate wd 0))], _, _, rfl, Ex.mut (ex5.trans e6) nfpH, by rw [upd_ne kpf]; exact e6 _ _ hk5, by rw [upd_same, adr_app]; rfl, ?_, ?_, ?_, fun x hx => ?_⟩
      · refine (hkR5.ex e6).upd fun x hx => ?_
        have := hkf x hx
        exact ne_of_none_ne hfp this e3
      · refine Rws.append ((hfR5.ex e6).upd hfn5) fun x hx => ?_
        rw [List.mem_singleton.mp hx, upd_ne spf]; exact hsp
      · rw [rws_app, hfe5]
        unfold metR
        rw [List.take_add_one, hyD, List.map_append]
        congr 1
        show [_] = [_]
        congr 1
        exact sumBy_congr (fun k hk => by rw [rws_len] at hk; unfold en; rw [List.getD_eq_getElem?_getD, List.getD_eq_getElem?_getD, List.getElem?_take, if_pos hk])
      · rcases List.mem_append.mp hx with h | h
        · exact hfn5 x h
        · rw [List.mem_singleton.mp h]; exact spf
    · rintro σ' H5 ⟨fs, v6, v7, rfl, ex5, hk5, hf5, hkR5, hfR5, hfe5, hfn5⟩
      rw [adr_len, List.take_of_length_le (by rw [List.length_map]; omega)] at hfe5
      have fl : fs.length = KD.length := by have := congrArg List.length hfe5; rw [rws_len] at this; unfold metR at this; rw [List.length_map, List.length_map] at this; exact this
      refine s_retCall (ea_cons (ev_var rfl) (ea_cons (ev_var rfl) (ea_cons (ev_var rfl) ea_nil))) fun H6 e6 => ?_
      refine ⟨fp, fs, wd, φ, M, D, rfl, sq_of (e6 _ _ hf5), hfR5.ex e6, hm, by omega, by omega, hφ, Nat.lt_of_le_of_lt (gI_mono hφ (by omega)) hg2, fun r hr => ?_, fun hM => by rw [hfe5]; exact hfb hM, hD, by rw [hfe5]; exact hS, fun a us H7 e7 ha na hu eu nu neu => ?_⟩
      · rw [hfe5] at hr
        obtain ⟨x, hx, rfl⟩ := List.mem_map.mp hr
        exact (sumBy_facts hm (fun r hr => hlen r (List.mem_append_left _ hr)) (by simp) (fun hM j => by rw [en_zero]; have := hm.pos hM; omega)).1
      · exact fin a us H7 ((ex5.trans e6).trans e7) ha (fresh_back (ex5.trans e6) na) hu eu (fun x hx => fresh_back (ex5.trans e6) (nu x hx)) neu
end
end Mine
set_option Elab.async false
set_option linter.all false
set_option maxRecDepth 100000
set_option maxHeartbeats 4000000
namespace Mine
open PySem PySem.Spec PyProof.Rows L2 Evl
section
variable {K : PySem.W.Frag} {σ : L2.St} {H H' : Hp} {ta tb te tx tl : TE} {t u : TT} {x y z v w1 : V} {D : Ends} {tu tw tz : TS}
/-- [e for j in range(lo, n) if t] -/
theorem el_lcR2 {ta : TA} {j : Nat} {vs : List Nat} {lo n : Int} {m : Nat} (f : Nat → Bool) (v : Nat → V) (h : EvA ta σ H [.int lo, .int n]) (hn : -100000 ≤ lo ∧ lo ≤ 100000 ∧ -100000 ≤ n ∧ n ≤ 100000) (hm : m = (n - lo).toNat) (hm2 : m ≤ 40000) (hw : ∀ x, wipe ((wipe σ vs).set j (some x)) vs = wipe σ vs)
    (ht : ∀ (i : Nat) H1, Ex H H1 → i < m → EvT t ((wipe σ vs).set j (some (.int (lo + (i : Int))))) H1 (f i)) (he : ∀ (i : Nat) H1, Ex H H1 → i < m → f i = true → Ev te ((wipe σ vs).set j (some (.int (lo + (i : Int))))) H1 (v i)) :
    EvL (tLc (iRng2 ta) (gName j) t te vs) σ H (given m f v) := fun H0 e Q q => h H0 e _ fun H1 e1 => ⟨lo, n, rfl, by refine ⟨?_, ?_, ?_, ?_⟩ <;> omega, fun Dl hD => by
  subst hm
  exact lc_range (lo := lo) (n := (n - lo).toNat) (Cw H1 f v Dl) ⟨hD, Ex.new hD, upd_same⟩ (fun i H' hi p => ⟨hw _, cw_turn p (by omega) (ht i H1 (e.trans e1) (by omega)) (fun hf => he i H1 (e.trans e1) (by omega) hf)⟩) (fun H' p => q Dl H' (fresh_back e1 p.1) (e1.trans p.2.1) p.2.2)⟩
/-- xs[i] of a new list -/
theorem ev_ixL {xs : List V} {i : Int} (ha : EvL ta σ H xs) (hb : ∀ H1, Ex H H1 → Ev tb σ H1 (.int i)) (hx : atI xs i = some v) : Ev (tOp (rIxL K) ta tb) σ H v := ev_opL1 ha hb fun p H1 h1 e1 => rv_ixL (sq_of h1) hx
end
theorem inv_list {M k : Int} (hm : Md M) (hM : M ≠ 0) (h1 : 0 < k) (h2 : k < M) : given (M - 1).toNat (fun i => decide (((1 + (i : Int)) * k) % M = 1)) (fun i => .int (1 + (i : Int))) = [V.int (inv k M)] := by
  rcases hm with rfl | rfl | rfl | rfl
  · exact absurd rfl hM
  · have : k = 1 := by omega
    subst this; rfl
  · have : k = 1 ∨ k = 2 := by omega
    rcases this with rfl | rfl <;> rfl
  · have : k = 1 ∨ k = 2 ∨ k = 3 ∨ k = 4 := by omega
    rcases this with rfl | rfl | rfl | rfl <;> rfl
section
variable {P : Program} {w : World} {K : PySem.W.Frag} {mg : Str → Option Value} {base : Heap} {H : Hp}
/-! ### _law_inverse -/
def invT (M k : Int) : Int := if M = 0 then k else inv k M
def spLInv : Sp := fun vs H Q _ => ∃ M k : Int, vs = [.int M, .int k] ∧ Md M ∧ (M ≠ 0 → 0 < k ∧ k < M) ∧ RetV (.int (invT M k)) H Q
theorem ok_law_inverse (L : Lib K mg) {f : Addr} {fd : FuncData} (F : L2.Fun K "_law_inverse" "_law_inverse" s_law_inverse f fd) : FnOk P w K mg base CX0 1 f fd ["M", "k"] spLInv := by
  refine F.ok sc_law_inverse (fun vs H Q E h => ?_) (fun cdv A outer s H vs Q E hr h => ?_)
  · obtain ⟨M, k, rfl, _⟩ := h; rfl
  · obtain ⟨M, k, rfl, hm, hk, fin⟩ := h
    refine ⟨_, (pss_cons (ps_if (pt_cmpR op_eq (pv 0) pe_int (nomark _))
      (pss_one (ps_ret (pv 1)))
      pss_nil)
    (pss_one (ps_ret (pe_ix ix_list (pe_lc (own := [("j", 2)]) (g := gName 2) (tt := _) rfl sc_law_inverse.nd (pi_range2 (by rfl) L.range (pa_cons pe_int (pa_cons (pv 0) pa_nil))) (blkOk_by (own := [("j", 2)]) (N := N_law_inverse) (sc := defScope s_law_inverse) (by decide +kernel)) (fun _ _ _ _ _ => (pg_name (i := 2) sc_law_inverse.nd rfl (Or.inl rfl))) (fun _ _ _ _ _ => pts_one (pt_cmpR op_eq (pe_op op_mod (pe_callTy call_int1 (by rfl) L.int (by decide +kernel) (pa_cons (pe_op op_mul (pv 2) (pv 1)) pa_nil)) (pv 0)) pe_int (nomark _))) (fun _ _ _ _ _ => (pv 2))) pe_int (fun _ _ => rfl))))), ?_⟩
    refine q_when (et_test (ev_eqI (ev_var rfl) ev_c)) (fun hb H1 e1 => ?_) (fun hb H1 e1 => ?_)
    · have hM := of_decide_eq_true hb
      refine s_ret (ev_var rfl) fun H2 e2 => ?_
      have := fin H2 (e1.trans e2)
      unfold invT at this; rw [if_pos hM] at this; exact this
    · have hM := of_decide_eq_false hb
      obtain ⟨k1, k2⟩ := hk hM
      have hM2 := hm.pos hM
      have hl := inv_list hm hM k1 k2
      refine s_ret (v := .int (inv k M)) (ev_ixL (el_lcR2 (lo := 1) (n := M) (m := (M - 1).toNat) (fun i => decide (((1 + (i : Int)) * k) % M = 1)) (fun i => .int (1 + (i : Int))) (ea_cons ev_c (ea_cons (ev_var rfl) ea_nil)) (by omega) rfl (by omega) (fun _ => rfl) (fun i H2 e2 hi => et_test (ev_eqI (ev_mod (ev_int (ev_mul (ev_var rfl) (ev_var rfl) (cmul_l (by omega) (by omega)))) (ev_var rfl) (by omega)) ev_c)) (fun i H2 e2 hi hf => ev_var rfl)) (fun H2 e2 => ev_c) (by rw [hl]; rfl)) fun H2 e2 => ?_
      have := fin H2 (e1.trans e2)
      unfold invT at this; rw [if_neg hM] at this; exact this
theorem linv_spv {M k : Int} (hm : Md M) (hk : M ≠ 0 → 0 < k ∧ k < M) : SpV spLInv [.int M, .int k] H (.int (invT M k)) := fun H1 e Q q _ => ⟨M, k, rfl, hm, hk, q⟩
/-! ### _law_unit -/
def spLUnit : Sp := fun vs H Q _ => ∃ at_ n : Nat, vs = [.int (at_ : Nat), .int (n : Nat), .int 1] ∧ at_ < n ∧ n ≤ 1000 ∧ RetL (iL (unitR n at_)) H Q
theorem unit_cat {n k : Nat} (hk : k < n) : List.replicate k 0 ++ [1] ++ List.replicate (n - k - 1) 0 = unitR n k := by
  refine en_ext (by rw [unitR_len]; simp; omega) fun j hj => ?_
  rw [en_unit hk, en_append, en_append]
  have l1 : (List.replicate k (0 : Int) ++ [1]).length = k + 1 := by simp
  rw [l1, List.length_replicate]
  by_cases h : j < k + 1
  · rw [if_pos h]
    by_cases h2 : j < k
    · rw [if_pos h2, en_zero, if_neg (by omega)]
    · rw [if_neg h2, show j - k = 0 by omega, if_pos (by omega)]; rfl
  · rw [if_neg h, en_zero, if_neg (by omega)]
theorem ok_law_unit (L : Lib K mg) {f : Addr} {fd : FuncData} (F : L2.Fun K "_law_unit" "_law_unit" s_law_unit f fd) : FnOk P w K mg base CX0 1 f fd ["at", "width", "k"] spLUnit := by
  refine F.ok sc_law_unit (fun vs H Q E h => ?_) (fun cdv A outer s H vs Q E hr h => ?_)
  · obtain ⟨a, n, rfl, _⟩ := h; rfl
  · obtain ⟨a, n, rfl, ha, hn, fin⟩ := h
    refine ⟨_, (pss_one (ps_ret (pe_op op_cat (pe_op op_cat (pe_op op_rep (pe_lst (pa_cons pe_int pa_nil)) (pv 0)) (pe_lst (pa_cons (pv 2) pa_nil))) (pe_op op_rep (pe_lst (pa_cons pe_int pa_nil)) (pe_op op_sub (pe_op op_sub (pv 1) (pv 0)) pe_int))))), ?_⟩
    refine s_retL (el_catLL (xs := iL (List.replicate a 0 ++ [1])) (ys := iL (List.replicate (n - a - 1) 0)) ?_ (fun H1 e1 => el_rep0 (fun H2 e2 => ev_is (ev_sub (ev_sub (ev_var rfl) (ev_var rfl)) ev_c) (congrArg V.int (by omega))) (by omega)) ?_) fun p H1 np e1 hp => fin p H1 np e1 ?_
    · have e : iL (List.replicate a 0 ++ [1]) = iL (List.replicate a 0) ++ [.int 1] := List.map_append ..
      rw [e]
      exact el_catLL (el_rep0 (fun H2 e2 => ev_var rfl) (by omega)) (fun H1 e1 => el_lst (ea_cons (ev_var rfl) ea_nil) (by simp)) (by rw [iL_len, List.length_replicate]; simp; omega)
    · rw [iL_len, iL_len]; simp; omega
    · rw [hp, ← unit_cat ha]
      unfold iL
      rw [List.map_append (l₁ := List.replicate a 0 ++ [1])]
theorem lunit_spl {a n : Nat} (ha : a < n) (hn : n ≤ 1000) : SpL spLUnit [.int (a : Nat), .int (n : Nat), .int 1] H (iL (unitR n a)) := fun H1 e Q q _ => ⟨a, n, rfl, ha, hn, q⟩
end
end Mine
set_option Elab.async false
set_option linter.all false
namespace Mine
/-- the kernel's pairs out of the reduced numbered rows -/
def kerOf (w : Nat) (D : List (Nat × Row)) : List (Nat × Row) := (highs w D).map fun x => (x.1 - w, x.2.drop w)
theorem ech_shift {M : Int} {w n : Nat} : ∀ {D : List (Nat × Row)} {lo : Nat}, w ≤ lo → Ech M (w + n) lo D → Ech M n (lo - w) (D.map fun x => (x.1 - w, x.2.drop w))
  | [], _, _, _ => True.intro
  | (p, r) :: L, lo, hw, h => by
    obtain ⟨h1, h2, h3, h4, h5, h6⟩ := h
    have e : w + (p - w) = p := by omega
    refine ⟨by omega, by omega, fun j hj => ?_, ?_, fun hM => ?_, ?_⟩
    · show en (r.drop w) j = 0
      rw [en_drop]; exact h3 _ (by omega)
    · show 0 < en (r.drop w) (p - w)
      rw [en_drop, e]; exact h4
    · show en (r.drop w) (p - w) = 1
      rw [en_drop, e]; exact h5 hM
    · have := ech_shift (M := M) (w := w) (n := n) (D := L) (lo := p + 1) (by omega) h6
      rw [show p - w + 1 = p + 1 - w by omega]; exact this
theorem herm_ker {M : Int} {w n : Nat} {D : List (Nat × Row)} (H : Herm M (w + n) D) : Herm M n (kerOf w D) := by
  have hs := (H.ech.split w).2.2
  rw [Nat.zero_max] at hs
  have hsub : ∀ x ∈ highs w D, x ∈ D := fun x hx => (List.mem_filter.mp hx).1
  refine ⟨?_, fun x hx => ?_, ?_, fun x hx hM j => ?_⟩
  · have := ech_shift (Nat.le_refl w) hs
    rw [Nat.sub_self] at this; exact this
  · obtain ⟨y, hy, rfl⟩ := List.mem_map.mp hx
    show (y.2.drop w).length = n
    rw [List.length_drop, H.len y (hsub y hy)]; omega
  · refine List.pairwise_map.mpr ?_
    refine (H.red.filter _).imp_of_mem fun {x y} hx hy h => ?_
    have hy2 := of_decide_eq_true (List.mem_filter.mp hy).2
    have e : w + (y.1 - w) = y.1 := by omega
    show 0 ≤ en (x.2.drop w) (y.1 - w) ∧ en (x.2.drop w) (y.1 - w) < en (y.2.drop w) (y.1 - w)
    rw [en_drop, en_drop, e]; exact h
  · obtain ⟨y, hy, rfl⟩ := List.mem_map.mp hx
    have := H.rng y (hsub y hy) hM (w + j)
    rw [← en_drop] at this; exact this
theorem ker_len {M : Int} {w n : Nat} {D : List (Nat × Row)} (H : Herm M (w + n) D) : (kerOf w D).length + (lows w D).length = D.length := by
  have := congrArg List.length (H.ech.split w).1
  rw [List.length_append] at this
  unfold kerOf; rw [List.length_map]; omega
theorem kerOf_rows {w : Nat} {D : List (Nat × Row)} : (kerOf w D).map (·.2) = ((highs w D).map (·.2)).map fun z => z.drop w := by
  unfold kerOf; rw [List.map_map, List.map_map]; rfl
theorem ker_of {M : Int} {w : Nat} {A : List Row} {D : List (Nat × Row)} (hl : ∀ r ∈ A, r.length = w) (H : Herm M (w + A.length) D) (hs : SameL M (numb A.length 0 A) (D.map (·.2))) :
    KerR M A ((kerOf w D).map (·.2)) := by
  obtain ⟨h1, h2, h3⟩ := H.ech.split w
  rw [kerOf_rows]
  refine ker_rest hl h2 (fun x hx => of_decide_eq_true (List.mem_filter.mp hx).2) (fun r hr j hj => ?_) (fun r hr => ?_) ?_
  · obtain ⟨x, hx, rfl⟩ := List.mem_map.mp hr
    have := h3.all x hx
    exact this.2.2.1 j (by omega)
  · obtain ⟨x, hx, rfl⟩ := List.mem_map.mp hr
    exact H.len x (List.mem_filter.mp hx).1
  · rw [← List.map_append, ← h1]; exact hs
theorem ker_bd {w b : Nat} {A : List Row} {D : List (Nat × Row)} (hl : ∀ r ∈ A, r.length = w) (H : Herm 0 (w + A.length) D) (hs : SameL 0 (numb A.length 0 A) (D.map (·.2))) (hc : D.length ≤ A.length) (hb1 : 1 ≤ b) (hb : Bnd b A) :
    Bnd ((kerOf w D).length * (2 * A.length * b) ^ (lows w D).length) ((kerOf w D).map (·.2)) := by
  obtain ⟨h1, h2, h3⟩ := H.ech.split w
  refine ker_bound hl h2 (Z := (highs w D).map (·.2)) (fun x hx => of_decide_eq_true (List.mem_filter.mp hx).2) (fun r hr j hj => ?_) ?_ (herm_ker H) (ker_of hl H hs) (by rw [ker_len H]; exact hc) hb1 hb
  · obtain ⟨x, hx, rfl⟩ := List.mem_map.mp hr
    have := h3.all x hx
    exact this.2.2.1 j (by omega)
  · rw [← List.map_append, ← h1]; exact hs
/-- the kernel's reduced form is one -/
theorem ker_one {M : Int} {n : Nat} {A : List Row} {D D' : List (Nat × Row)} (hm : Md M) (H : Herm M n D) (H' : Herm M n D') (hK : KerR M A (D.map (·.2))) (hK' : KerR M A (D'.map (·.2))) : D = D' := herm_unique hm H H' (hK.same hK')
/-- the rows that begin with w zeros are the high ones -/
theorem high_rows {M : Int} {w n : Nat} {D : List (Nat × Row)} (H : Herm M (w + n) D) : (D.map (·.2)).filter (fun r => !(r.take w).any fun i => i != 0) = (highs w D).map (·.2) := by
  rw [List.filter_map]
  refine congrArg (List.map (fun x : Nat × Row => x.2)) (List.filter_congr (p := (fun r : Row => !(List.take w r).any fun i => i != 0) ∘ fun x : Nat × Row => x.2) (q := fun x => decide (w ≤ x.1)) fun x hx => ?_)
  obtain ⟨_, g2, g3, g4, _⟩ := H.ech.all x hx
  have hl := H.len x hx
  by_cases h : w ≤ x.1
  · rw [decide_eq_true h]
    show (!(x.2.take w).any fun i => i != 0) = true
    rw [Bool.not_eq_true', List.any_eq_false]
    intro i hi
    obtain ⟨j, hj, e⟩ := List.getElem_of_mem hi
    rw [List.length_take] at hj
    rw [List.getElem_take] at e
    have := g3 j (by omega)
    rw [en, List.getD_eq_getElem?_getD, List.getElem?_eq_getElem (by omega)] at this
    have e0 : i = 0 := by rw [← e]; exact this
    rw [e0]; simp
  · rw [decide_eq_false h]
    show (!(x.2.take w).any fun i => i != 0) = false
    rw [Bool.not_eq_false', List.any_eq_true]
    have hx1 : x.1 < x.2.length := by omega
    refine ⟨x.2[x.1], ?_, ?_⟩
    · refine List.mem_iff_getElem.mpr ⟨x.1, by rw [List.length_take]; omega, ?_⟩
      rw [List.getElem_take]
    · have e : en x.2 x.1 = x.2[x.1] := by rw [en, List.getD_eq_getElem?_getD, List.getElem?_eq_getElem hx1]; rfl
      rw [← e]
      have : en x.2 x.1 ≠ 0 := by omega
      simpa using this
end Mine
set_option Elab.async false
set_option linter.all false
namespace Mine
/-! ### a turn of the law's own reduction -/
theorem lessT_congr {r v : Row} {k k' M : Int} (hl : r.length = v.length) (hM : M ≠ 0) (hr : Rng M r) (h : M ∣ k - k') : lessT r v k M = lessT r v k' M := by
  refine en_ext (by rw [lessT_len hl, lessT_len hl]) fun j _ => ?_
  rw [lessT_M hl hM hr, lessT_M hl hM hr]
  refine Int.emod_eq_emod_iff_emod_sub_eq_zero.mpr (Int.emod_eq_zero_of_dvd ?_)
  have e : en r j - k * en v j - (en r j - k' * en v j) = -((k - k') * en v j) := by rw [Int.sub_mul]; omega
  rw [e]; exact Int.dvd_neg.mpr (Int.dvd_mul_of_dvd_left h)
/-- the factor that the law takes -/
def lawK (v : Row) (c : Nat) (M : Int) (r : Row) : Int := if M ≠ 0 then en r c * inv (en v c) M else (en r c).fdiv (en v c)
theorem lawK_short {v r : Row} {c : Nat} {M : Int} (hl : r.length = v.length) (hr : Rng M r) : lessT r v (lawK v c M r) M = shortOf v c M r := by
  unfold lawK shortOf quot
  by_cases hM : M = 0
  · rw [if_neg (by simpa using hM), if_pos hM]
  · rw [if_pos hM, if_neg hM]
    refine lessT_congr hl hM hr ?_
    rw [← Int.neg_sub]; exact Int.dvd_neg.mpr (mod_dvd _ M)
theorem short_zero {v r : Row} {c : Nat} {M : Int} (hv : en v c ≠ 0) (h : en r c = 0) : shortOf v c M r = r := by
  have : quot (en r c) (en v c) M = 0 := by
    unfold quot; rw [h]
    split
    · exact Int.zero_fdiv _
    · simp
  unfold shortOf lessT; rw [this, if_pos rfl]
section
variable (v : Row) (c wd : Nat) (M : Int)
/-- one row in the turn: what is kept so far, whether the least one was met -/
def stepL (acc : List Row × Bool) (r : Row) : List Row × Bool := if acc.2 = true ∨ r ≠ v then (acc.1 ++ (if firstP (shortOf v c M r) < wd then [shortOf v c M r] else []), acc.2) else (acc.1 ++ (if firstP r < wd then [r] else []), true)
def turnL (R : List Row) : List Row × Bool := R.foldl (stepL v c wd M) ([], false)
theorem turnL_take {R : List Row} {i : Nat} {r : Row} (h : R[i]? = some r) : turnL v c wd M (R.take (i + 1)) = stepL v c wd M (turnL v c wd M (R.take i)) r := by
  unfold turnL
  rw [List.take_add_one, h, List.foldl_append]; rfl
/-- all short ones -/
def Shorts (R out : List Row) : Prop := ∀ s ∈ out, ∃ r ∈ R, s = shortOf v c M r
theorem turn_gen : ∀ (R : List Row) (acc : List Row) (u : Bool), ∃ out u', R.foldl (stepL v c wd M) (acc, u) = (acc ++ out, u') ∧ out.length ≤ R.length ∧ (∀ r ∈ R, r = v ∨ shortOf v c M r ∈ out ∨ ¬ firstP (shortOf v c M r) < wd) ∧ (firstP v < wd → u = false → v ∈ R → v ∈ out) ∧
    ((Shorts v c M R out) ∨ (u = false ∧ ∃ A B, out = A ++ v :: B ∧ Shorts v c M R A ∧ Shorts v c M R B)) ∧ (u = true → Shorts v c M R out)
  | [], acc, u => ⟨[], u, by simp, Nat.le_refl _, fun r h => absurd h (by simp), fun _ _ h => absurd h (by simp), .inl fun s h => absurd h (by simp), fun _ s h => absurd h (by simp)⟩
  | r :: R, acc, u => by
    by_cases h : u = true ∨ r ≠ v
    · obtain ⟨out, u', h1, h2, h3, h4, h5, h6⟩ := turn_gen R (acc ++ if firstP (shortOf v c M r) < wd then [shortOf v c M r] else []) u
      have e : (r :: R).foldl (stepL v c wd M) (acc, u) = (acc ++ ((if firstP (shortOf v c M r) < wd then [shortOf v c M r] else []) ++ out), u') := by
        rw [List.foldl_cons]
        have : stepL v c wd M (acc, u) r = (acc ++ (if firstP (shortOf v c M r) < wd then [shortOf v c M r] else []), u) := by unfold stepL; rw [if_pos h]
        rw [this, h1, List.append_assoc]
      have hd : Shorts v c M (r :: R) (if firstP (shortOf v c M r) < wd then [shortOf v c M r] else []) := fun s hs => by
        split at hs
        · exact ⟨r, List.mem_cons_self .., List.mem_singleton.mp hs⟩
        · exact absurd hs (by simp)
      have up : ∀ {o : List Row}, Shorts v c M R o → Shorts v c M (r :: R) o := fun ho s hs => by
        obtain ⟨x, hx, e⟩ := ho s hs
        exact ⟨x, List.mem_cons_of_mem _ hx, e⟩
      have ap : ∀ {o p : List Row}, Shorts v c M (r :: R) o → Shorts v c M (r :: R) p → Shorts v c M (r :: R) (o ++ p) := fun ho hp s hs => (List.mem_append.mp hs).elim (ho s) (hp s)
      refine ⟨_, u', e, ?_, fun x hx => ?_, fun hv hu hm => ?_, ?_, fun hu => ap hd (up (h6 hu))⟩
      · rw [List.length_append, List.length_cons]
        split
        · simp; omega
        · simp; omega
      · rcases List.mem_cons.mp hx with z | z
        · subst z
          by_cases y : firstP (shortOf v c M x) < wd
          · exact .inr (.inl (List.mem_append_left _ (by rw [if_pos y]; exact List.mem_singleton.mpr rfl)))
          · exact .inr (.inr y)
        · rcases h3 x z with y | y | y
          · exact .inl y
          · exact .inr (.inl (List.mem_append_right _ y))
          · exact .inr (.inr y)
      · have hne : r ≠ v := h.elim (fun z => by rw [hu] at z; cases z) id
        rcases List.mem_cons.mp hm with z | z
        · exact absurd z.symm hne
        · exact List.mem_append_right _ (h4 hv hu z)
      · rcases h5 with z | ⟨hu, A, B, z1, z2, z3⟩
        · exact .inl (ap hd (up z))
        · exact .inr ⟨hu, _, B, by rw [z1, ← List.append_assoc], ap hd (up z2), up z3⟩
    · have hu : u = false := by cases u with
        | true => exact absurd (.inl rfl) h
        | false => rfl
      have hr : r = v := Decidable.byContradiction fun z => h (.inr z)
      subst hu
      obtain ⟨out, u', h1, h2, h3, h4, h5, h6⟩ := turn_gen R (acc ++ if firstP r < wd then [r] else []) true
      have e : (r :: R).foldl (stepL v c wd M) (acc, false) = (acc ++ ((if firstP r < wd then [r] else []) ++ out), u') := by
        rw [List.foldl_cons]
        have : stepL v c wd M (acc, false) r = (acc ++ (if firstP r < wd then [r] else []), true) := by unfold stepL; rw [if_neg h]
        rw [this, h1, List.append_assoc]
      have up : ∀ {o : List Row}, Shorts v c M R o → Shorts v c M (r :: R) o := fun ho s hs => by
        obtain ⟨x, hx, e⟩ := ho s hs
        exact ⟨x, List.mem_cons_of_mem _ hx, e⟩
      refine ⟨_, u', e, ?_, fun x hx => ?_, fun hv _ _ => ?_, ?_, fun z => by cases z⟩
      · rw [List.length_append, List.length_cons]
        split
        · simp; omega
        · simp; omega
      · rcases List.mem_cons.mp hx with z | z
        · exact .inl (z.trans hr)
        · rcases h3 x z with y | y | y
          · exact .inl y
          · exact .inr (.inl (List.mem_append_right _ y))
          · exact .inr (.inr y)
      · rw [← hr] at hv ⊢
        exact List.mem_append_left _ (by rw [if_pos hv]; exact List.mem_singleton.mpr rfl)
      · by_cases hv : firstP r < wd
        · exact .inr ⟨rfl, [], out, by rw [if_pos hv, hr]; rfl, fun s h => absurd h (by simp), up (h6 rfl)⟩
        · exact .inl (by rw [if_neg hv]; exact up (h6 rfl))
end
/-- the law's turn, as the pivots' word asks it -/
theorem PJ.lturn {M : Int} {wd a B N R : Nat} {R0 rows : List Row} {v : Row} (hm : Md M) (hB : 1 ≤ B) (P : PJ M wd a B N (R + 1) R0 (zAt a rows) (nzAt a rows)) (ha : a < wd) (h2 : 2 ≤ (nzAt a rows).length) (hv : v ∈ nzAt a rows) (hmin : ∀ x ∈ nzAt a rows, (en v a).natAbs ≤ (en x a).natAbs) :
    PJ M wd a B N R R0 (zAt a (turnL v a wd M rows).1) (nzAt a (turnL v a wd M rows).1) := by
  have hne := P.b0 v hv
  have hvr : v ∈ rows := (List.mem_filter.mp hv).1
  have lv := P.len v (List.mem_append_right _ hv)
  have fv : firstP v < wd := by
    rcases Nat.lt_or_ge (firstP v) wd with h | h
    · exact h
    · exfalso
      have h1 : firstP v ≤ a := by
        unfold firstP
        rcases Nat.lt_or_ge a (v.findIdx fun x => decide (x ≠ 0)) with y | y
        · have := List.not_of_lt_findIdx y
          rw [show v[a] = en v a from (Option.some.inj ((List.getElem?_eq_getElem (by omega)).symm.trans (en_lt (by omega))))] at this
          simp [hne] at this
        · exact y
      omega
  obtain ⟨out, u', g1, g2, g3, g4, g5, _⟩ := turn_gen v a wd M rows [] false
  have eo : (turnL v a wd M rows).1 = out := by unfold turnL; rw [g1]; rfl
  rw [eo]
  have zr : ∀ r ∈ rows, en r a = 0 → shortOf v a M r = r := fun r hr h => short_zero hne h
  have inOut : ∀ s ∈ out, s = v ∨ ∃ r ∈ rows, s = shortOf v a M r := fun s hs => by
    rcases g5 with z | ⟨_, A, B', z1, z2, z3⟩
    · exact .inr (z s hs)
    · rw [z1] at hs
      rcases List.mem_append.mp hs with h | h
      · exact .inr (z2 s h)
      · rcases List.mem_cons.mp h with h | h
        · exact .inl h
        · exact .inr (z3 s h)
  have zeroes : ∀ r, r.length = wd → ¬ firstP r < wd → ∀ j, en r j = 0 := fun r hl h j => by
    rcases Nat.lt_or_ge j r.length with hj | hj
    · have hle : firstP r ≤ r.length := List.findIdx_le_length
      exact isZ_iff.mp (by unfold isZ; exact decide_eq_true (by omega)) j hj
    · exact en_ge hj
  have lsh : ∀ r ∈ rows, (shortOf v a M r).length = wd := fun r hr => by
    have lr := P.len r (mem_zn.mp hr)
    exact (lessT_len (by rw [lr, lv])).trans lr
  refine P.step hm hB h2 hv hmin (fun s hs => ?_) (List.mem_filter.mpr ⟨g4 fv rfl hvr, decide_eq_true hne⟩) (fun s hs => of_decide_eq_true (List.mem_filter.mp hs).2) (fun s hs => of_decide_eq_true (List.mem_filter.mp hs).2) (fun r hr => ?_) (fun r hr => ?_) (fun hl => ?_) ?_
  · rcases inOut s (mem_zn.mpr hs) with h | ⟨r, hr, h⟩
    · exact .inr (.inl h)
    · rcases List.mem_append.mp (mem_zn (a := a) |>.mp hr) with y | y
      · rw [zr r hr (of_decide_eq_true (List.mem_filter.mp y).2)] at h
        rw [h]; exact .inl y
      · exact .inr (.inr ⟨r, y, h⟩)
  · have hr0 := of_decide_eq_true (List.mem_filter.mp hr).2
    have hrr := (List.mem_filter.mp hr).1
    rcases g3 r hrr with h | h | h
    · rw [h] at hr0; exact absurd hr0 hne
    · rw [zr r hrr hr0] at h
      exact .inl (List.mem_filter.mpr ⟨h, decide_eq_true hr0⟩)
    · rw [zr r hrr hr0] at h
      exact .inr (zeroes r (P.len r (mem_zn.mp hrr)) h)
  · have hrr := (List.mem_filter.mp hr).1
    rcases g3 r hrr with h | h | h
    · exact .inl h
    · exact .inr (.inl (mem_zn.mp h))
    · exact .inr (.inr (zeroes _ (lsh r hrr) h))
  · have key : ∀ s ∈ out, (∃ r ∈ rows, s = shortOf v a M r) → en s a ≠ 0 → ∃ r ∈ nzAt a rows, shortOf v a M r ∈ nzAt a out := fun s hs ⟨r, hr, e⟩ hs0 => by
      refine ⟨r, List.mem_filter.mpr ⟨hr, decide_eq_true fun z => ?_⟩, by rw [← e]; exact List.mem_filter.mpr ⟨hs, decide_eq_true hs0⟩⟩
      rw [zr r hr z] at e
      rw [e] at hs0; exact hs0 z
    rcases g5 with z | ⟨_, A, B', z1, z2, z3⟩
    · obtain ⟨s, hs⟩ := List.exists_mem_of_length_pos (show 0 < (nzAt a out).length by omega)
      have h := List.mem_filter.mp hs
      exact key s h.1 (z s h.1) (of_decide_eq_true h.2)
    · have e : nzAt a out = nzAt a A ++ (v :: nzAt a B') := by
        rw [z1]; unfold nzAt
        rw [List.filter_append, List.filter_cons_of_pos (by simpa using hne)]
      rw [e, List.length_append, List.length_cons] at hl
      have : 0 < (nzAt a A).length ∨ 0 < (nzAt a B').length := by omega
      rcases this with h | h
      · obtain ⟨s, hs⟩ := List.exists_mem_of_length_pos h
        have h := List.mem_filter.mp hs
        exact key s (by rw [z1]; exact List.mem_append_left _ h.1) (z2 s h.1) (of_decide_eq_true h.2)
      · obtain ⟨s, hs⟩ := List.exists_mem_of_length_pos h
        have h := List.mem_filter.mp hs
        exact key s (by rw [z1]; exact List.mem_append_right _ (List.mem_cons_of_mem _ h.1)) (z3 s h.1) (of_decide_eq_true h.2)
  · rw [len_zn, len_zn]; exact g2
end Mine
set_option Elab.async false
set_option linter.all false
set_option maxRecDepth 100000
set_option maxHeartbeats 4000000
namespace Mine
open PySem PySem.Spec PyProof.Rows L2 Evl
section
variable {K : PySem.W.Frag} {σ : L2.St} {H H' : Hp} {ta tb te tx tl : TE} {t u : TT} {x y z v w1 : V} {D : Ends} {tu tw tz : TS}
theorem et_truB {b : Bool} (ha : Ev ta σ H (.bl b)) : EvT (fun σ H Q => ta σ H fun x H' => ∃ k, TruV K x H' k ∧ Q k H') σ H b := fun H1 e _ q => ha H1 e _ fun H2 e2 => ⟨b, rfl, q H2 e2⟩
theorem et_truL {p : Addr} {xs : List V} (ha : Ev ta σ H (.ref p)) (hx : SqL K H p xs) : EvT (fun σ H Q => ta σ H fun x H' => ∃ k, TruV K x H' k ∧ Q k H') σ H (!xs.isEmpty) := fun H1 e _ q => ha H1 e _ fun H2 e2 => ⟨!xs.isEmpty, .inl ⟨xs, ex_l (e.trans e2) hx, rfl⟩, q H2 e2⟩
theorem q_forR1J {ta : TA} {j : Nat} {n : Int} (h : EvA ta σ H [.int n]) (hn : 0 ≤ n ∧ n ≤ 100000) (Pv : Nat → L2.St → Hp → Prop) (J : L2.St → Hp → Prop) (h0 : ∀ H1, Ex H H1 → Pv 0 σ H1) (after : ∀ σ' H', J σ' H' → tz D σ' H')
    (hs : (∀ σ' H', J σ' H' → tz D σ' H') → ∀ (i : Nat) σ' H', (i : Int) < n → Pv i σ' H' → tu { nx := Pv (i + 1), rt := D.rt, bk := tz D, ct := Pv (i + 1) } (List.set σ' j (some (.int (i : Nat)))) H') (hd : ∀ σ' H', Pv n.toNat σ' H' → J σ' H') : tSeq (tFor (iRng1 ta) (gName j) tu) tz D σ H :=
  q_forR1 h hn Pv h0 (hs after) fun σ' H' hp => after σ' H' (hd σ' H' hp)
theorem q_ifJ {b : Bool} {J : L2.St → Hp → Prop} (h : EvT t σ H b) (rest : ∀ σ' H', J σ' H' → tz D σ' H') (h1 : b = true → ∀ H1, Ex H H1 → (∀ σ' H', J σ' H' → tz D σ' H') → tu { D with nx := tz D } σ H1) (h2 : b = false → ∀ H1, Ex H H1 → (∀ σ' H', J σ' H' → tz D σ' H') → tw { D with nx := tz D } σ H1) : tSeq (tIfS t tu tw) tz D σ H :=
  s_if (D := { D with nx := tz D }) h (fun hb H1 e => h1 hb H1 e rest) fun hb H1 e => h2 hb H1 e rest
theorem q_minLam {T : List (Addr × Str)} {i j : Nat} {a : Addr} {xs : List V} (key : Nat → Int) (h : Ev tl σ H (.ref a)) (ha : H a = some (.lst xs)) (hne : xs ≠ []) (hT : LamX.Tabs T H)
    (hkey : ∀ (m : Nat) (v : V) (H1 H2 : Hp), Ex H H1 → xs[m]? = some v → (∀ b o, b ≠ a → H1 b = some o → (∀ ps, o ≠ .tbl ps) → H2 b = some o) → Ev tb (σ.set j (some v)) H2 (.int (key m)))
    (k : ∀ (m : Nat) (v : V) (H2 : Hp), xs[m]? = some v → (∀ m', m' < xs.length → key m ≤ key m') → LamX.ExtN H H2 → LamX.Tabs T H2 → tz D (σ.set i (some v)) H2) : tSeq (tAsg (tMinLam T j tl tb) (gName i)) tz D σ H :=
  h H (Ex.refl H) _ fun H1 e1 => ⟨a, xs, key, rfl, e1 _ _ ha, hne, hT.ext e1, fun m v H2 hm hk => hkey m v H1 H2 e1 hm hk, fun m v H2 hm hle ex hT2 => k m v H2 hm hle ((LamX.ExtN.of e1).trans ex) hT2⟩
theorem extN_lst {H1 H2 : Hp} {a : Addr} {xs : List V} (e : LamX.ExtN H1 H2) (h : H1 a = some (.lst xs)) : H2 a = some (.lst xs) := e _ _ h fun ps z => by cases z
theorem extN_rws {H1 H2 : Hp} {ps : List AR} (e : LamX.ExtN H1 H2) (h : Rws H1 ps) : Rws H2 ps := fun x hx => extN_lst e (h x hx)
/-- not a known thing, but for tables -/
def NewN (H : Hp) (a : Addr) : Prop := ∀ o, H a = some o → ∃ ps, o = .tbl ps
theorem NewN.of {H1 : Hp} {a : Addr} (h : H1 a = none) : NewN H1 a := fun o e => by rw [h] at e; cases e
theorem NewN.back {H1 H2 : Hp} {a : Addr} (e : LamX.ExtN H1 H2) (h : NewN H2 a) : NewN H1 a := fun o ho => by
  cases o with
  | tbl ps => exact ⟨ps, rfl⟩
  | _ => exact h _ (e _ _ ho fun ps z => by cases z)
theorem NewN.ne {H1 : Hp} {a b : Addr} {xs : List V} (h : NewN H1 a) (hb : H1 b = some (.lst xs)) : a ≠ b := fun z => by
  rw [← z] at hb
  obtain ⟨ps, e⟩ := h _ hb
  cases e
theorem extN_mut {H1 H2 : Hp} {p : Addr} {o : HO} (e : LamX.ExtN H1 H2) (h : NewN H1 p) : LamX.ExtN H1 (L2.upd H2 p o) := fun b u hb hn => by
  have : b ≠ p := fun z => by
    rw [z] at hb
    obtain ⟨ps, e⟩ := h _ hb
    exact hn ps e
  rw [upd_ne this]; exact e b u hb hn
theorem tabs_mut {T : List (Addr × Str)} {H1 : Hp} {p : Addr} {xs ys : List V} (h : LamX.Tabs T H1) (hp : H1 p = some (.lst xs)) : LamX.Tabs T (L2.upd H1 p (.lst ys)) := fun q hq => by
  obtain ⟨ps, h1, h2, h3⟩ := h q hq
  have n1 : q.1 ≠ p := fun z => by rw [z, hp] at h1; cases h1
  refine ⟨ps, by rw [upd_ne n1]; exact h1, h2, fun pos cv hc => ?_⟩
  obtain ⟨c, e1, e2⟩ := h3 pos cv hc
  have n2 : c ≠ p := fun z => by rw [z, hp] at e2; cases e2
  exact ⟨c, e1, by rw [upd_ne n2]; exact e2⟩
/-- [f(row) for row in rows], f gives the row itself or a new one -/
theorem lc_same {a : Addr} {ps : List AR} {j : Nat} {vs : List Nat} {Q : VK} (g : Row → Row) (h : Ev tl σ H (.ref a)) (hx : H a = some (.lst (adr ps))) (hR : Rws H ps) (hz : ps.length ≤ 40000) (hw : ∀ x, wipe ((wipe σ vs).set j (some x)) vs = wipe σ vs)
    (he : ∀ (x : AR) H1, Ex H H1 → x ∈ ps → ∀ Q1 : VK, (∀ (b : Addr) (H2 : Hp), Ex H1 H2 → H2 b = some (.lst (iL (g x.2))) → (b = x.1 ∨ H1 b = none) → Q1 (.ref b) H2) → te ((wipe σ vs).set j (some (.ref x.1))) H1 Q1)
    (q : ∀ (p : Addr) (qs : List AR) (H2 : Hp), H p = none → Ex H H2 → H2 p = some (.lst (adr qs)) → Rws H2 qs → rws qs = (rws ps).map g → (∀ x ∈ qs, x.1 ∈ ps.map (·.1) ∨ H x.1 = none) → (∀ x ∈ qs, x.1 ≠ p) → Q (.ref p) H2) : tLc (iList K tl) (gName j) tYes te vs σ H Q := h H (Ex.refl H) _ fun H1 e1 => ⟨a, rfl, ⟨adr ps, sq_of (e1 _ _ hx)⟩, fun Dl hD =>
  lc_list (xs := adr ps) (fun i H' => ∃ qs : List AR, Ex H1 H' ∧ H' Dl = some (.lst (adr qs)) ∧ Rws H' qs ∧ rws qs = ((rws ps).take i).map g ∧ (∀ x ∈ qs, x.1 ∈ ps.map (·.1) ∨ H1 x.1 = none) ∧ ∀ x ∈ qs, x.1 ≠ Dl) ⟨[], Ex.new hD, upd_same, Rws.nil, by simp [rws], fun x h => absurd h (by simp), fun x h => absurd h (by simp)⟩
    (fun i H' _ ⟨_, e, _⟩ => sq_of ((e1.trans e) _ _ hx))
    (fun i x H' hi ⟨qs, e, hl, hr, hq, hn, hne⟩ => by
      obtain ⟨y, hy, rfl⟩ := adr_get hi
      have yin := List.mem_of_getElem? hy
      refine ⟨hw _, yes_turn ?_⟩
      refine he y H' (e1.trans e) yin _ fun b H2 e2 h2 hb => ?_
      have hl2 := e2 _ _ hl
      have bD : b ≠ Dl := by
        rcases hb with z | z
        · rw [z]; exact ne_of_none ((hR.ex e1) y yin) hD
        · exact (ne_of_none hl z).symm
      have cnt : qs.length ≤ i := by
        have := congrArg List.length hq
        rw [rws_len, List.length_map, List.length_take] at this; omega
      have hi2 := (List.getElem?_eq_some_iff.mp hy).1
      refine ⟨_, hl2, sz_lt (by rw [adr_len]; omega), qs ++ [(b, g y.2)], Ex.mut (e.trans e2) hD, by rw [upd_same, adr_app]; rfl, ?_, ?_, ?_, ?_⟩
      · refine Rws.append ((hr.ex e2).upd hne) fun z hz => ?_
        rw [List.mem_singleton.mp hz, upd_ne bD]; exact h2
      · rw [rws_app, hq, List.take_add_one, rws_at hy, List.map_append]; rfl
      · intro z hz
        rcases List.mem_append.mp hz with h | h
        · exact hn z h
        · rw [List.mem_singleton.mp h]
          rcases hb with w | w
          · exact .inl (by rw [w]; exact List.mem_map.mpr ⟨y, yin, rfl⟩)
          · exact .inr (fresh_back e w)
      · intro z hz
        rcases List.mem_append.mp hz with h | h
        · exact hne z h
        · rw [List.mem_singleton.mp h]; exact bD)
    (fun H' ⟨qs, e, hl, hr, hq, hn, hne⟩ => by
      rw [adr_len, List.take_of_length_le (by rw [rws_len]; exact Nat.le_refl _)] at hq
      exact q Dl qs H' (fresh_back e1 hD) (e1.trans e) hl hr hq (fun x hx => (hn x hx).imp id fun h => fresh_back e1 h) hne)⟩
theorem et_isB {a b : Bool} (h : EvT t σ H a) (e : a = b) : EvT t σ H b := e ▸ h
theorem callRaw {sp : Sp} {dvs vs : List V} {E : XK} {ta : TA} {Q : VK} (ha : EvA ta σ H vs) (k : ∀ H1, Ex H H1 → sp (vs ++ dvs) H1 Q E) : tCall sp dvs E ta σ H Q := ha H (Ex.refl H) _ fun H1 e1 => k H1 e1
theorem s_asgCat {i : Nat} (h : te σ H fun x H1 => tb σ H1 fun y H2 => rCat x y H2 fun z H3 => D.nx (σ.set i (some z)) H3) : tAsg (tOp rCat te tb) (gName i) D σ H := h
theorem ev_neg {i : Int} (ha : Ev ta σ H (.int i)) : Ev (tUn (fun x H Q => ∃ i, x = .int i ∧ Q (.int (-i)) H) ta) σ H (.int (-i)) := fun H1 e Q q => ha H1 e _ fun H2 e2 => ⟨i, rfl, q H2 e2⟩
theorem eqv_dI : ∀ r s : Row, PyData.eqv (dI r) (dI s) = decide (r = s) := by
  have gen : ∀ r s : Row, PyData.eqvAll (r.map PyData.int) (s.map PyData.int) = decide (r = s) := by
    intro r
    induction r with
    | nil => intro s; cases s <;> simp [PyData.eqvAll]
    | cons x r ih =>
      intro s
      cases s with
      | nil => simp [PyData.eqvAll]
      | cons y s =>
        by_cases h : x = y <;> simp [PyData.eqvAll, PyData.eqv, ih s, h]
  intro r s
  show PyData.eqv (.list _) (.list _) = _
  simp only [PyData.eqv]
  exact gen r s
end
def nzR (wd : Nat) (r : Row) : Bool := decide (firstP r < wd)
theorem nzR_false {wd : Nat} {r : Row} (hl : r.length = wd) (h : nzR wd r = false) : ∀ j, en r j = 0 := fun j => by
  have h1 : ¬ firstP r < wd := of_decide_eq_false h
  have hle : firstP r ≤ r.length := List.findIdx_le_length
  rcases Nat.lt_or_ge j r.length with hj | hj
  · exact isZ_iff.mp (by unfold isZ; exact decide_eq_true (by omega)) j hj
  · exact en_ge hj
theorem nzR_true {wd : Nat} {r : Row} {j : Nat} (hl : r.length = wd) (hj : j < wd) (h : en r j ≠ 0) : nzR wd r = true := by
  cases q : nzR wd r with
  | true => rfl
  | false => exact absurd (nzR_false hl q j) h
theorem lh_start {M : Int} {wd β n : Nat} {tr : Bool} {R : List Row} (hm : Md M) (hl : ∀ r ∈ R, r.length = wd) (hb : M = 0 → Bnd β R) (hn : R.length ≤ n) (htr : tr = true → ∃ L' : List (Nat × Row), Ech M wd 0 L' ∧ R.map (fun r => plainRow r M) = L'.map (·.2)) :
    TJ M wd 0 β n tr R [] ((R.map fun r => plainRow r M).filter (nzR wd)) := by
  have l1 : ∀ r ∈ R.map (fun r => plainRow r M), r.length = wd := fun r hr => by
    obtain ⟨s, hs, rfl⟩ := List.mem_map.mp hr
    rw [plainRow_len]; exact hl s hs
  have sub : ∀ r ∈ (R.map fun r => plainRow r M).filter (nzR wd), r ∈ R.map fun r => plainRow r M := fun r hr => (List.mem_filter.mp hr).1
  refine TJ.from (TJ.start (fun r hr => l1 r (sub r hr)) (fun r hr => ?_) (fun hM r hr j => ?_) (Nat.le_trans (List.length_filter_le ..) (by rw [List.length_map]; exact hn)) (fun h => ?_)) ((plainRow_same R).trans ⟨fun r hr => ?_, fun r hr => InL.mem (sub r hr)⟩)
  · obtain ⟨s, hs, rfl⟩ := List.mem_map.mp (sub r hr)
    exact plainRow_rng hm
  · obtain ⟨s, hs, rfl⟩ := List.mem_map.mp (sub r hr)
    rw [hM, plainRow_0]; exact hb hM s hs j
  · obtain ⟨L', h1, h2⟩ := htr h
    refine ⟨L', h1, ?_⟩
    rw [← h2]
    refine List.filter_eq_self.mpr fun r hr => ?_
    have hr2 := hr
    rw [h2] at hr2
    obtain ⟨x, hx, rfl⟩ := List.mem_map.mp hr2
    obtain ⟨_, a1, _, a3, _⟩ := h1.all x hx
    exact nzR_true (l1 _ hr) a1 (by omega)
  · cases q : nzR wd r with
    | true => exact InL.mem (List.mem_filter.mpr ⟨hr, q⟩)
    | false => exact InL.zero.eq fun j => (nzR_false (l1 r hr) q j).symm
theorem plain_if (r : Row) (M : Int) : plainRow r M = r.map fun x => if decide (M ≠ 0) = true then x % M else x := by
  unfold plainRow
  by_cases z : M = 0
  · rw [if_pos z]; simp [z]
  · rw [if_neg z]; simp [z]
theorem rws_filter (p : Row → Bool) (ps : List AR) : rws (ps.filter fun x => p x.2) = (rws ps).filter p := by unfold rws; rw [List.filter_map]; rfl
theorem turnL_len {v : Row} {c wd : Nat} {M : Int} (R : List Row) : (turnL v c wd M R).1.length ≤ R.length := by
  obtain ⟨out, u', g1, g2, _⟩ := turn_gen v c wd M R [] false
  unfold turnL; rw [g1]; exact g2
/-- the name of the lambda's code -/
def lhQ : Str := (("_law_hermite" : Str) ++ (".<locals>." : Str)) ++ ("<lambda>" : Str)
section
variable {P : Program} {w : World} {K : PySem.W.Frag} {mg : Str → Option Value} {base : Heap} {H : Hp}
def spLH (K : PySem.W.Frag) (T : List (Addr × Str)) : Sp := fun vs H Q _ => ∃ (p : Addr) (ps : List AR) (wd β : Nat) (M : Int) (D : List (Nat × Row)) (tr : Bool), vs = [.ref p, .int (wd : Nat), .int M] ∧ SqL K H p (adr ps) ∧ Rws H ps ∧ Md M ∧ wd ≤ 100 ∧ ps.length ≤ 6 ∧ 1 ≤ β ∧ bJ tr β ps.length ps.length < 2 ^ 8999 ∧
  (∀ r ∈ rws ps, r.length = wd) ∧ (M = 0 → Bnd β (rws ps)) ∧ (tr = true → ∃ L' : List (Nat × Row), Ech M wd 0 L' ∧ (rws ps).map (fun r => plainRow r M) = L'.map (·.2)) ∧ Herm M wd D ∧ SameL M (rws ps) (D.map (·.2)) ∧ LamX.Tabs T H ∧
  ∀ (a : Addr) (ts : List AR) (H' : Hp), LamX.ExtN H H' → LamX.Tabs T H' → H' a = some (.lst (adr ts)) → NewN H a → Rws H' ts → rws ts = D.map (·.2) → (∀ x ∈ ts, NewN H x.1) → (∀ x ∈ ts, x.1 ≠ a) → Q (.ref a) H'
theorem ok_law_hermite (L : Lib K mg) {T : List (Addr × Str)} {c Pt : Addr} {f : Addr} {fd : FuncData} (F : FunC K "_law_hermite" "_law_hermite" s_law_hermite f fd c) (TB : LamX.TabB base mg c Pt) (hmT : (Pt, lhQ) ∈ T) (hu : ∀ p ∈ T, p.1 = Pt → p.2 = lhQ) : FnOk P w K mg base CX0 3 f fd ["rows", "width", "M"] (spLH K T) := by
  obtain ⟨f_law_first, fd_law_first, F_law_first⟩ := L.law_first
  obtain ⟨f_law_inverse, fd_law_inverse, F_law_inverse⟩ := L.law_inverse
  obtain ⟨f_law_less, fd_law_less, F_law_less⟩ := L.law_less
  have G_law_first : FnOk P w K mg base CX0 1 f_law_first fd_law_first _ (spFirst K) := ok_law_first L F_law_first.F
  have G_law_inverse : FnOk P w K mg base CX0 1 f_law_inverse fd_law_inverse _ spLInv := ok_law_inverse L F_law_inverse.F
  have G_law_less : FnOk P w K mg base CX0 1 f_law_less fd_law_less _ (spLawLess K) := ok_law_less L F_law_less.F
  refine F.ok sc_law_hermite (fun vs H Q E h => ?_) (fun A outer s H vs Q E hr h => ?_)
  · obtain ⟨p, ps, wd, β, M, D, tr, rfl, _⟩ := h; rfl
  · obtain ⟨p, ps, wd, β, M, D, tr, rfl, hp, hR, hm, hwd, hn, hβ, hg, hlen, hbnd, htr, hD, hS, hT, fin⟩ := h
    refine ⟨_, (pss_cons (ps_setLc (i := 5) (own := [("row", 3)]) (g := gName 3) (tt := tYes) rfl sc_law_hermite.nd rfl rfl (sw_true rfl rfl rfl (by decide +kernel)) (pi_list (pv 0)) (blkOk_by (own := [("row", 3)]) (N := N_law_hermite) (sc := defScope s_law_hermite) (by decide +kernel)) (fun _ _ _ _ _ => (pg_name (i := 3) sc_law_hermite.nd rfl (Or.inl rfl))) (fun _ _ _ _ _ => pts_nil) (fun _ _ _ _ _ => (pe_lc (own := [("k", 4)]) (g := gName 4) (tt := tYes) rfl sc_law_hermite.nd (pi_listK (K := K) (pv 3)) (blkOk_nest (own := [("k", 4)]) (N := N_law_hermite) (sc := { kind := .function, names := [(".0", .local), ("row", .local), ("M", .cell)], isGenerator := false, isCoroutine := false }) (by decide +kernel)) (fun _ _ _ _ _ => (pg_name (i := 4) sc_law_hermite.nd rfl (Or.inl rfl))) (fun _ _ _ _ _ => pts_nil) (fun _ _ _ _ _ => (pe_ifExp (pt_truthK (K := K) (pv 2)) (pe_op op_mod (pe_callTy call_int1 (by rfl) L.int (by decide +kernel) (pa_cons (pv 4) pa_nil)) (pv 2)) (pv 4))))))
    (pss_cons (ps_setLc (i := 5) (own := [("row", 3)]) (g := gName 3) (tt := _) rfl sc_law_hermite.nd rfl rfl (sw_true rfl rfl rfl (by decide +kernel)) (pi_list (pv 5)) (blkOk_by (own := [("row", 3)]) (N := N_law_hermite) (sc := defScope s_law_hermite) (by decide +kernel)) (fun _ _ _ _ _ => (pg_name (i := 3) sc_law_hermite.nd rfl (Or.inl rfl))) (fun _ _ _ _ _ => pts_one (pt_cmpR op_lt (pe_call G_law_first (hr.mono (by decide)) (by rfl) F_law_first.g F_law_first.F.kp F_law_first.b .nil pass0 (pa_cons (pv 3) pa_nil)) (pv 1) (nomark _))) (fun _ _ _ _ _ => (pv 3)))
    (pss_cons (ps_set (i := 6) sc_law_hermite.nd rfl (Or.inl rfl) (pe_lst pa_nil))
    (pss_cons (ps_for PassesOwn.never rfl (pi_range1 (by rfl) L.range (pa_cons (pv 1) pa_nil)) (pg_name (i := 13) sc_law_hermite.nd rfl (Or.inr rfl))
      (pss_cons (ps_for PassesOwn.never rfl (pi_range1 (by rfl) L.range (pa_cons pe_int pa_nil)) (pg_name (i := 7) sc_law_hermite.nd rfl (Or.inl rfl))
      (pss_cons (ps_setLc (i := 8) (own := [("row", 3)]) (g := gName 3) (tt := _) rfl sc_law_hermite.nd rfl rfl (sw_true rfl rfl rfl (by decide +kernel)) (pi_list (pv 5)) (blkOk_by (own := [("row", 3)]) (N := N_law_hermite) (sc := defScope s_law_hermite) (by decide +kernel)) (fun _ _ _ _ _ => (pg_name (i := 3) sc_law_hermite.nd rfl (Or.inl rfl))) (fun _ _ _ _ _ => pts_one (pt_truthK (K := K) (pe_ix (ix_listK (K := K)) (pv 3) (pv 13) (fun _ _ => rfl)))) (fun _ _ _ _ _ => (pv 3)))
    (pss_cons (ps_if (pt_cmpR op_lt (pe_callB call_len_seq (by rfl) L.len (by decide +kernel) (pa_cons (pv 8) pa_nil)) pe_int (nomark _))
      (pss_one ps_break)
      pss_nil)
    (pss_cons (ps_set (i := 9) sc_law_hermite.nd rfl (Or.inl rfl) (pe_minLam (T := T) (one := "one") (i := 14) (k := 0) (by rfl) rfl L.min (pv 8) TB rfl hmT hu (hr.mono (by decide)) rfl (lamS1_by (sc := defScope s_law_hermite) (by decide +kernel)) rfl sc_law_hermite.nd rfl (fun _ _ _ _ _ _ => rfl) (fun _ _ _ _ _ _ => (pe_callB call_abs (by rfl) L.abs (by decide +kernel) (pa_cons (pe_ix (ix_listK (K := K)) (pv 14) (pv 13) (fun _ _ => rfl)) pa_nil)))))
    (pss_cons (ps_par (i := 10) (j := 11) rfl sc_law_hermite.nd rfl rfl (by decide) rfl rfl (pa_cons (pe_lst pa_nil) (pa_cons pe_bl pa_nil)) (by rfl))
    (pss_cons (ps_for PassesOwn.never rfl (pi_list (pv 5)) (pg_name (i := 3) sc_law_hermite.nd rfl (Or.inl rfl))
      (pss_cons (ps_if (PW.pt (pw_or (pt_truth (pv 11) (by intro _; rfl)) (pw_or1 (pt_cmpR (op_neD hr.units) (pv 3) (pv 9) (nomark _)))))
      (pss_cons (ps_set (i := 4) sc_law_hermite.nd rfl (Or.inl rfl) (pe_ifExp (pt_truth (pv 2) (by intro _; rfl)) (pe_op op_mulW (pe_ix ix_list (pv 3) (pv 13) (fun _ _ => rfl)) (pe_call G_law_inverse (hr.mono (by decide)) (by rfl) F_law_inverse.g F_law_inverse.F.kp F_law_inverse.b .nil pass0 (pa_cons (pv 2) (pa_cons (pe_ix ix_list (pv 9) (pv 13) (fun _ _ => rfl)) pa_nil)))) (pe_op op_fdivZ (pe_ix ix_list (pv 3) (pv 13) (fun _ _ => rfl)) (pe_ix ix_list (pv 9) (pv 13) (fun _ _ => rfl)))))
    (pss_one (ps_set (i := 3) sc_law_hermite.nd rfl (Or.inl rfl) (pe_call G_law_less (hr.mono (by decide)) (by rfl) F_law_less.g F_law_less.F.kp F_law_less.b .nil pass0 (pa_cons (pv 3) (pa_cons (pv 9) (pa_cons (pv 4) (pa_cons (pv 2) pa_nil))))))))
      (pss_one (ps_set (i := 11) sc_law_hermite.nd rfl (Or.inl rfl) pe_bl)))
    (pss_one (ps_if (pt_cmpR op_lt (pe_call G_law_first (hr.mono (by decide)) (by rfl) F_law_first.g F_law_first.F.kp F_law_first.b .nil pass0 (pa_cons (pv 3) pa_nil)) (pv 1) (nomark _))
      (pss_one (ps_expr (pe_bm PySem.F.plainAttrs_list PySem.F.slot_list_append PySem.F.type_list_append mt_append (pv 10) (pa_cons (pv 3) pa_nil))))
      pss_nil))))
    (pss_one (ps_set (i := 5) sc_law_hermite.nd rfl (Or.inl rfl) (pv 10)))))))))
    (pss_cons (ps_setLc (i := 8) (own := [("row", 3)]) (g := gName 3) (tt := _) rfl sc_law_hermite.nd rfl rfl (sw_true rfl rfl rfl (by decide +kernel)) (pi_list (pv 5)) (blkOk_by (own := [("row", 3)]) (N := N_law_hermite) (sc := defScope s_law_hermite) (by decide +kernel)) (fun _ _ _ _ _ => (pg_name (i := 3) sc_law_hermite.nd rfl (Or.inl rfl))) (fun _ _ _ _ _ => pts_one (pt_truthK (K := K) (pe_ix (ix_listK (K := K)) (pv 3) (pv 13) (fun _ _ => rfl)))) (fun _ _ _ _ _ => (pv 3)))
    (pss_one (ps_if (pt_truth (pv 8) (by intro _; rfl))
      (pss_cons (ps_set (i := 12) sc_law_hermite.nd rfl (Or.inr rfl) (pe_ix ix_list (pv 8) pe_int (fun _ _ => rfl)))
    (pss_cons (ps_setLc (i := 5) (own := [("row", 3)]) (g := gName 3) (tt := _) rfl sc_law_hermite.nd rfl rfl (sw_true rfl rfl rfl (by decide +kernel)) (pi_list (pv 5)) (blkOk_by (own := [("row", 3)]) (N := N_law_hermite) (sc := defScope s_law_hermite) (by decide +kernel)) (fun _ _ _ _ _ => (pg_name (i := 3) sc_law_hermite.nd rfl (Or.inl rfl))) (fun _ _ _ _ _ => pts_one (pt_not (pt_truthK (K := K) (pe_ix (ix_listK (K := K)) (pv 3) (pv 13) (fun _ _ => rfl))))) (fun _ _ _ _ _ => (pv 3)))
    (pss_cons (ps_if (pt_truth (pv 2) (by intro _; rfl))
      (pss_one (ps_set (i := 12) sc_law_hermite.nd rfl (Or.inr rfl) (pe_lc (own := [("k", 4)]) (g := gName 4) (tt := tYes) rfl sc_law_hermite.nd (pi_list (pv 12)) (blkOk_by (own := [("k", 4)]) (N := N_law_hermite) (sc := defScope s_law_hermite) (by decide +kernel)) (fun _ _ _ _ _ => (pg_name (i := 4) sc_law_hermite.nd rfl (Or.inl rfl))) (fun _ _ _ _ _ => pts_nil) (fun _ _ _ _ _ => (pe_op op_mod (pe_callTy call_int1 (by rfl) L.int (by decide +kernel) (pa_cons (pe_op op_mulW (pv 4) (pe_call G_law_inverse (hr.mono (by decide)) (by rfl) F_law_inverse.g F_law_inverse.F.kp F_law_inverse.b .nil pass0 (pa_cons (pv 2) (pa_cons (pe_ix (ix_listK (K := K)) (pv 12) (pv 13) (fun _ _ => rfl)) pa_nil)))) pa_nil)) (pv 2))))))
      (pss_one (ps_if (pt_cmpR op_lt (pe_ix ix_list (pv 12) (pv 13) (fun _ _ => rfl)) pe_int (nomark _))
      (pss_one (ps_set (i := 12) sc_law_hermite.nd rfl (Or.inr rfl) (pe_lc (own := [("k", 4)]) (g := gName 4) (tt := tYes) rfl sc_law_hermite.nd (pi_list (pv 12)) (blkOk_by (own := [("k", 4)]) (N := N_law_hermite) (sc := defScope s_law_hermite) (by decide +kernel)) (fun _ _ _ _ _ => (pg_name (i := 4) sc_law_hermite.nd rfl (Or.inl rfl))) (fun _ _ _ _ _ => pts_nil) (fun _ _ _ _ _ => (pe_un un_neg (pv 4))))))
      pss_nil)))
    (pss_one (ps_set (i := 6) sc_law_hermite.nd rfl (Or.inl rfl) (pe_op op_cat (pe_lc (own := [("row", 3)]) (g := gName 3) (tt := tYes) rfl sc_law_hermite.nd (pi_list (pv 6)) (blkOk_by (own := [("row", 3)]) (N := N_law_hermite) (sc := defScope s_law_hermite) (by decide +kernel)) (fun _ _ _ _ _ => (pg_name (i := 3) sc_law_hermite.nd rfl (Or.inl rfl))) (fun _ _ _ _ _ => pts_nil) (fun _ _ _ _ _ => (pe_call G_law_less (hr.mono (by decide)) (by rfl) F_law_less.g F_law_less.F.kp F_law_less.b .nil pass0 (pa_cons (pv 3) (pa_cons (pv 12) (pa_cons (pe_op op_fdivZ (pe_ix (ix_listK (K := K)) (pv 3) (pv 13) (fun _ _ => rfl)) (pe_ix (ix_listK (K := K)) (pv 12) (pv 13) (fun _ _ => rfl))) (pa_cons (pv 2) pa_nil))))))) (pe_lst (pa_cons (pv 12) pa_nil))))))))
      pss_nil)))))
    (pss_one (ps_ret (pv 6))))))), ?_⟩
    refine q_asgR (el_lcR (fun r => plainRow r M) (ev_var rfl) hp (by omega) (fun _ => rfl) fun x H1 e1 hx => ?_) fun l1 ls1 H1 nl1 e1 hl1 hR1 eq1 nq1 ne1 => ?_
    · rw [plain_if]
      exact el_lcI (fun k => if decide (M ≠ 0) = true then k % M else k) (ev_var rfl) (ex_l e1 (hR.seq hx)) (by rw [hlen _ (mem_rws hx)]; omega) (fun _ => rfl) fun k H2 e2 hk => ev_is (ev_ifB (et_truK (ev_var rfl)) (fun hb => ev_mod (ev_int (ev_var rfl)) (ev_var rfl) (by have := of_decide_eq_true hb; have := hm.pos this; omega)) (fun hb => ev_var rfl)) (by split <;> rfl)
    have len1 : ∀ x ∈ ls1, x.2.length = wd := fun x hx => by
      have h1 : x.2 ∈ rws ls1 := mem_rws hx
      rw [eq1] at h1
      obtain ⟨s, hs, e⟩ := List.mem_map.mp h1
      rw [← e, plainRow_len]; exact hlen s hs
    have cnt1 : ls1.length = ps.length := by have := congrArg List.length eq1; rw [rws_len, List.length_map, rws_len] at this; exact this
    refine q_asgL (el_lcF (fun x => nzR wd x.2) (ev_var rfl) (sq_of hl1) (by omega) (fun _ => rfl) (fun x H2 e2 hx => et_test (ev_is (ev_lt (ev_call (z := .int (firstP x.2 : Nat)) (ea_cons (ev_var rfl) ea_nil) (firstP_spv (sq_of (e2 _ _ (hR1 x hx))) (by rw [len1 x hx]; omega))) (ev_var rfl)) (congrArg V.bl (decide_eq_decide.mpr Int.ofNat_lt)))) (fun x H2 e2 hx => ev_var rfl)) fun l2 H2 nl2 e2 hl2 => ?_
    refine q_asgL (el_lst ea_nil (by simp)) fun d0 H3 nd0 e3 hd0 => ?_
    have T0 := lh_start (n := ps.length) hm hlen hbnd (by rw [rws_len]; exact Nat.le_refl _) htr
    rw [← eq1, ← rws_filter (nzR wd)] at T0
    have hgB : ∀ e, e ≤ ps.length → bJ tr β ps.length e < 2 ^ 8999 := fun e he => Nat.lt_of_le_of_lt (bJ_mono hβ he) hg
    have ex3 : LamX.ExtN H H3 := LamX.ExtN.of ((e1.trans e2).trans e3)
    have hT3 : LamX.Tabs T H3 := hT.ext ((e1.trans e2).trans e3)
    refine q_forR1 (n := (wd : Nat)) (ea_cons (ev_var rfl) ea_nil) (by omega) (fun i σ' H' => ∃ (l d : Addr) (ls ds : List AR) (LL : List (Nat × Row)) (v3 v4 v7 v8 v9 v10 v11 v12 v13 v14 : Option V), σ' = [some (.ref p), some (.int (wd : Nat)), some (.int M), v3, v4, some (.ref l), some (.ref d), v7, v8, v9, v10, v11, v12, v13, v14] ∧ LamX.ExtN H H' ∧ LamX.Tabs T H' ∧ H' l = some (.lst (adr ls)) ∧ H' d = some (.lst (adr ds)) ∧ Rws H' ls ∧ Rws H' ds ∧
        rws ds = LL.map (·.2) ∧ TJ M wd i β ps.length tr (rws ps) LL (rws ls) ∧ (∀ x ∈ ls ++ ds, NewN H x.1) ∧ NewN H d ∧ (∀ x ∈ ds, x.1 ≠ d))
      (fun H4 e4 => ⟨l2, d0, _, [], [], _, _, _, _, _, _, _, _, _, _, rfl, LamX.ExtN.trans ex3 (LamX.ExtN.of e4), hT3.ext e4, (e3.trans e4) _ _ hl2, e4 _ _ hd0, (hR1.ex ((e2.trans e3).trans e4)).sub (fun x hx => (List.mem_filter.mp hx).1), Rws.nil, rfl, T0, fun x hx => ?_, NewN.of (fresh_back (e1.trans e2) nd0), fun x h => absurd h (by simp)⟩) ?_ ?_
    · rw [List.append_nil] at hx
      exact NewN.of (nq1 x (List.mem_filter.mp hx).1)
    · rintro c σ' H4 hc ⟨l, d, ls, ds, LL, v3, v4, v7, v8, v9, v10, v11, v12, v13, v14, rfl, ex4, hT4, hl4, hd4, hR4, hD4, edl, TT, nn, ndH, dne⟩
      have hc : c < wd := by omega
      have B1 := bJ_1 (tr := tr) (n := ps.length) (e := LL.length) hβ
      have cntT : LL.length + ls.length ≤ ps.length := by have := TT.cnt; rw [rws_len] at this; exact this
      have Bg := hgB LL.length (by omega)
      have P0 := PJ.start (a := c) (N := ls.length) TT.lenR TT.rngR TT.bL (by rw [rws_len]; exact Nat.le_refl _)
      have hBig : ∀ {R : Nat} {ls' : List AR}, PJ M wd c (bJ tr β ps.length LL.length) ls.length R (rws ls) (zAt c (rws ls')) (nzAt c (rws ls')) → 2 ≤ (nzAt c (rws ls')).length → 6 * bJ tr β ps.length LL.length ^ 3 < 2 ^ 8999 := fun {R ls'} P h2 => by
        cases tr with
        | true =>
          exfalso
          obtain ⟨L', h3, h4⟩ := TT.sing rfl
          have h5 : (nzAt c (rws ls)).length ≤ 1 := by rw [h4]; exact (ech_col h3).1
          have h6 := (P.few h5).2
          rw [h6] at h2; omega
        | false =>
          have h7 := P.cnt
          have e : 6 * bJ false β ps.length LL.length ^ 3 = gI β (LL.length + 1) := by
            unfold bJ; rw [if_neg (by decide), Nat.min_eq_left (by omega)]; rfl
          rw [e]
          have h8 : gI β (ps.length - 1) < 2 ^ 8999 := by
            have := hg
            unfold bJ at this; rw [if_neg (by decide), Nat.min_eq_right (by omega)] at this; exact this
          exact Nat.lt_of_le_of_lt (gI_mono hβ (by omega)) h8
      have hrnd : rnd (bJ tr β ps.length LL.length) < 20000 := by
        unfold rnd
        have : (bJ tr β ps.length LL.length).log2 < 8999 := by
          rcases Nat.eq_zero_or_pos (bJ tr β ps.length LL.length) with z | z
          · omega
          · exact (Nat.log2_lt (by omega)).mpr Bg
        omega
      refine q_forR1J (n := 20000) (ea_cons ev_c ea_nil) (by omega) (fun j σ' H' => ∃ (l : Addr) (ls' : List AR) (R : Nat) (v3 v4 v7 v8 v9 v10 v11 v12 v14 : Option V), σ' = [some (.ref p), some (.int (wd : Nat)), some (.int M), v3, v4, some (.ref l), some (.ref d), v7, v8, v9, v10, v11, v12, some (.int (c : Nat)), v14] ∧ LamX.ExtN H H' ∧ LamX.Tabs T H' ∧ H' l = some (.lst (adr ls')) ∧ H' d = some (.lst (adr ds)) ∧ Rws H' ls' ∧ Rws H' ds ∧ R + j = rnd (bJ tr β ps.length LL.length) ∧
          PJ M wd c (bJ tr β ps.length LL.length) ls.length R (rws ls) (zAt c (rws ls')) (nzAt c (rws ls')) ∧ ∀ x ∈ ls', NewN H x.1)
        (fun σ' H' => ∃ (l : Addr) (ls' : List AR) (R : Nat) (v3 v4 v7 v8 v9 v10 v11 v12 v14 : Option V), σ' = [some (.ref p), some (.int (wd : Nat)), some (.int M), v3, v4, some (.ref l), some (.ref d), v7, v8, v9, v10, v11, v12, some (.int (c : Nat)), v14] ∧ LamX.ExtN H H' ∧ LamX.Tabs T H' ∧ H' l = some (.lst (adr ls')) ∧ H' d = some (.lst (adr ds)) ∧ Rws H' ls' ∧ Rws H' ds ∧
          PJ M wd c (bJ tr β ps.length LL.length) ls.length R (rws ls) (zAt c (rws ls')) (nzAt c (rws ls')) ∧ (nzAt c (rws ls')).length < 2 ∧ ∀ x ∈ ls', NewN H x.1)
        (fun H5 e5 => ⟨l, ls, _, _, _, _, _, _, _, _, _, _, rfl, LamX.ExtN.trans ex4 (LamX.ExtN.of e5), hT4.ext e5, e5 _ _ hl4, e5 _ _ hd4, hR4.ex e5, hD4.ex e5, rfl, P0, fun x hx => nn x (List.mem_append_left _ hx)⟩) (fun σ' H5 hJ => ?_) (fun after j σ' H5 hj hP => ?_) (fun σ' H5 ⟨l, ls', R, v3, v4, v7, v8, v9, v10, v11, v12, v14, _, _, _, _, _, _, _, hR, _⟩ => ?_)
      · obtain ⟨l, ls', R, v3, v4, v7, v8, v9, v10, v11, v12, v14, rfl, ex5, hT5, hl5, hd5, hR5, hD5, PP, hlt2, nn5⟩ := hJ
        have lens : ∀ x ∈ ls', x.2.length = wd := fun x hx => PP.len x.2 (mem_zn.mp (mem_rws hx))
        have rngs : ∀ x ∈ ls', Rng M x.2 := fun x hx => PP.rng x.2 (mem_zn.mp (mem_rws hx))
        have lcnt : ls'.length ≤ 6 := by
          have h1 := PP.cnt
          rw [len_zn, rws_len] at h1; omega
        refine q_asgL (el_lcF (fun x => decide (en x.2 c ≠ 0)) (ev_var rfl) (sq_of hl5) (by omega) (fun _ => rfl) (fun x H6 e6 hx => et_truK (ev_ix (ev_var rfl) (ev_var rfl) (sq_of (e6 _ _ (hR5 x hx))) (iL_en (by rw [lens x hx]; exact hc)))) (fun x H6 e6 hx => ev_var rfl)) fun lv H6 nlv e6 hlv => ?_
        have elv : rws (ls'.filter fun x => decide (en x.2 c ≠ 0)) = nzAt c (rws ls') := rws_filter (fun r => decide (en r c ≠ 0)) ls'
        have lvin : ∀ x, x ∈ (ls'.filter fun x => decide (en x.2 c ≠ 0)) → x ∈ ls' ∧ en x.2 c ≠ 0 := fun x hx => ⟨(List.mem_filter.mp hx).1, of_decide_eq_true (List.mem_filter.mp hx).2⟩
        generalize hlives : (ls'.filter fun x => decide (en x.2 c ≠ 0)) = lives at hlv elv lvin
        have ex6 := LamX.ExtN.trans ex5 (LamX.ExtN.of e6)
        refine s_when (b := !(adr lives).isEmpty) (et_truL (ev_var rfl) (sq_of hlv)) (fun hb H7 e7 => ?_) (fun hb H7 e7 => ?_)
        · obtain ⟨q, rfl⟩ : ∃ q, lives = [q] := by
            have h1 : lives.length < 2 := by have := congrArg List.length elv; rw [rws_len] at this; omega
            match lives, hb, h1 with
            | [], hb, _ => simp [adr] at hb
            | [q], _, _ => exact ⟨q, rfl⟩
            | _ :: _ :: _, _, h => exact absurd h (by simp only [List.length_cons]; omega)
          obtain ⟨qin, qne⟩ := lvin q (List.mem_singleton.mpr rfl)
          have hnz : nzAt c (rws ls') = [q.2] := elv.symm
          have P1 := PP
          rw [hnz] at P1
          have post := P1.one hm B1
          have TS := TT.step hm hβ (by rw [rws_len]; exact post) hc
          have lq := lens q qin
          have rq := rngs q qin
          obtain ⟨k1, k2, ⟨k3, k4⟩, _, _⟩ := normP_key hm lq rq qne
          have mM : M ≠ 0 → 0 < en q.2 c ∧ en q.2 c < M ∧ 0 ≤ inv (en q.2 c) M ∧ inv (en q.2 c) M < M := fun hM => by
            have h1 := rq hM c
            obtain ⟨_, i2, i3⟩ := inv_ok hm hM (show 0 < en q.2 c by omega) h1.2
            omega
          refine q_asg (v := .ref q.1) (ev_ix (ev_var rfl) ev_c (sq_of (e7 _ _ hlv)) (atI_nat (j := 0) rfl)) fun H8 e8 => ?_
          have e58 := (e6.trans e7).trans e8
          refine q_asgL (el_lcF (fun x => decide (en x.2 c = 0)) (ev_var rfl) (sq_of (e58 _ _ hl5)) (by omega) (fun _ => rfl) (fun x H9 e9 hx => et_isB (et_not (et_truK (ev_ix (ev_var rfl) (ev_var rfl) (sq_of ((e58.trans e9) _ _ (hR5 x hx))) (iL_en (by rw [lens x hx]; exact hc))))) (by simp)) (fun x H9 e9 hx => ev_var rfl)) fun l2 H9 nl2 e9 hl2 => ?_
          have e59 := e58.trans e9
          have el2 : rws (ls'.filter fun x => decide (en x.2 c = 0)) = zAt c (rws ls') := rws_filter (fun r => decide (en r c = 0)) ls'
          have hq9 := e59 _ _ (hR5 q qin)
          have ex9 := LamX.ExtN.trans ex5 (LamX.ExtN.of e59)
          refine q_ifJ (J := fun σ' H' => ∃ (a' : Addr), σ' = [some (.ref p), some (.int (wd : Nat)), some (.int M), v3, v4, some (.ref l2), some (.ref d), v7, some (.ref lv), v9, v10, v11, some (.ref a'), some (.int (c : Nat)), v14] ∧ Ex H9 H' ∧ H' a' = some (.lst (iL (normP q.2 c M))) ∧ NewN H a') (et_truI (K := K) (ev_var rfl)) (fun σ' H10 hJ => ?_) (fun hb H10 e10 rest => ?_) (fun hb H10 e10 rest => ?_)
          · obtain ⟨a', rfl, e10, ha', na'⟩ := hJ
            have e510 := e59.trans e10
            have hd10 := e510 _ _ hd5
            have hD10 := hD5.ex e510
            have dl : ds.length = LL.length := by have := congrArg List.length edl; rw [rws_len, List.length_map] at this; exact this
            have rinT : (c, normP q.2 c M) ∈ toldJ LL (some (normP q.2 c M)) c M := List.mem_append_right _ (List.mem_singleton.mpr rfl)
            have cntT : (toldJ LL (some (normP q.2 c M)) c M).length ≤ 6 := by have := TS.cnt; omega
            have lend : ∀ x ∈ ds, x.2.length = wd ∧ Rng M x.2 ∧ x.2 ∈ LL.map (·.2) := fun x hx => by
              have h1 : x.2 ∈ rws ds := mem_rws hx
              rw [edl] at h1
              obtain ⟨y, hy, e⟩ := List.mem_map.mp h1
              exact ⟨by rw [← e]; exact TT.lenL y hy, by rw [← e]; exact TT.rngL y hy, h1⟩
            refine s_asgCat (lc_same (K := K) (fun r => redBy (normP q.2 c M) c M r) (ev_var rfl) hd10 hD10 (by omega) (fun _ => rfl) (fun x H11 e11 hx Q1 q1 => ?_) fun pn qs H11 npn e11 hpn hRn hne hal hnn => ?_)
            · obtain ⟨lx, rx, xin⟩ := lend x hx
              refine callRaw (ea_cons (ev_var rfl) (ea_cons (ev_var rfl) (ea_cons (ev_fdiv (ev_ix (ev_var rfl) (ev_var rfl) (sq_of (e11 _ _ (hD10 x hx))) (iL_en (by rw [lx]; exact hc))) (ev_ix (ev_var rfl) (ev_var rfl) (sq_of (e11 _ _ ha')) (iL_en (by rw [k1]; exact hc))) ?_) (ea_cons (ev_var rfl) ea_nil)))) fun H12 e12 => ⟨x.1, a', x.2, normP q.2 c M, _, M, rfl, (e11.trans e12) _ _ (hD10 x hx), sq_of ((e11.trans e12) _ _ ha'), by omega, hm.nonneg, fun b hbm => ?_, fun b H13 e13 hb13 hal => q1 b H13 (e12.trans e13) hb13 (hal.imp id fun h => fresh_back e12 h)⟩
              · by_cases hM : M = 0
                · exact cdivz (b := 8999) _ (by omega) (Nat.lt_of_le_of_lt (TS.piv hM _ rinT) hg) (by decide) (by decide)
                · rw [k4 hM]; exact cdivz_small _ (by decide) (by decide)
              · obtain ⟨k, hk⟩ := List.getElem?_of_mem hbm
                rw [← en_get hk]
                by_cases hM : M = 0
                · have h1 : ((en x.2 c).fdiv (en (normP q.2 c M) c)).natAbs < 2 ^ 54000 := Nat.lt_of_le_of_lt (Nat.le_trans (natAbs_fdiv (by omega)) (TT.bT hM x.2 xin c)) (tJ_lt hg (by omega))
                  have h2 : (en (normP q.2 c M) k).natAbs < 2 ^ 54000 := Nat.lt_of_le_of_lt (TS.bT hM _ (List.mem_map.mpr ⟨_, rinT, rfl⟩) k) (tJ_lt hg cntT)
                  exact wide_mul h1 h2 (by decide) (by decide) (by decide)
                · have h1 := rx hM c
                  have h2 := k2 hM k
                  have := hm.pos hM
                  rw [k4 hM, Int.fdiv_one]
                  exact CMulW_small (by omega) (by omega)
            · have qsl : qs.length = ds.length := by have := congrArg List.length hne; rw [rws_len, List.length_map, rws_len] at this; exact this
              refine (el_lst (σ := [some (.ref p), some (.int (wd : Nat)), some (.int M), v3, v4, some (.ref l2), some (.ref d), v7, some (.ref lv), v9, v10, v11, some (.ref a'), some (.int (c : Nat)), v14]) (ea_cons (ev_var (i := 12) rfl) ea_nil) (by simp)) H11 (Ex.refl H11) _ fun p2 H12 np2 e12 hp2 => ⟨pn, p2, adr qs, [.ref a'], rfl, rfl, e12 _ _ hpn, hp2, Nat.le_trans (show (adr qs).length + 1 ≤ 1000 by rw [adr_len]; omega) (by decide), fun p3 np3 => ?_⟩
              have eN := (e11.trans e12).trans (Ex.new (o := .lst (adr qs ++ [.ref a'])) np3)
              have exN := LamX.ExtN.trans ex9 (LamX.ExtN.of (e10.trans eN))
              have e13 : Ex H12 (L2.upd H12 p3 (.lst (adr qs ++ [.ref a']))) := Ex.new np3
              have np3H : NewN H p3 := NewN.back (LamX.ExtN.trans ex9 (LamX.ExtN.of ((e10.trans e11).trans e12))) (NewN.of np3)
              have hR13 : Rws (L2.upd H12 p3 (.lst (adr qs ++ [.ref a']))) (qs ++ [(a', normP q.2 c M)]) := Rws.append (hRn.ex (e12.trans e13)) fun x hx => by rw [List.mem_singleton.mp hx]; exact eN _ _ ha'
              refine ⟨l2, p3, _, qs ++ [(a', normP q.2 c M)], toldJ LL (some (normP q.2 c M)) c M, _, _, _, _, _, _, _, _, _, _, rfl, exN, hT5.ext (e510.trans eN), (e10.trans eN) _ _ hl2, by rw [upd_same, adr_app]; rfl, (hR5.ex (e510.trans eN)).sub (fun x hx => (List.mem_filter.mp hx).1), hR13, ?_, by rw [el2]; exact TS, fun x hx => ?_, np3H, fun x hx => ?_⟩
              · rw [rws_app, hne, edl]
                unfold toldJ
                rw [List.map_append, List.map_map, List.map_map]; rfl
              · rcases List.mem_append.mp hx with h | h
                · exact nn5 x (List.mem_filter.mp h).1
                · rcases List.mem_append.mp h with h | h
                  · rcases hal x h with z | z
                    · obtain ⟨y, hy, e⟩ := List.mem_map.mp z
                      rw [← e]; exact nn y (List.mem_append_right _ hy)
                    · exact NewN.back (LamX.ExtN.trans ex9 (LamX.ExtN.of e10)) (NewN.of z)
                  · rw [List.mem_singleton.mp h]; exact na'
              · rcases List.mem_append.mp hx with h | h
                · exact ne_of_none ((hRn.ex e12) x h) np3
                · rw [List.mem_singleton.mp h]; exact ne_of_none ((e11.trans e12) _ _ ha') np3
          · have hM := of_decide_eq_true hb
            have h2 := mM hM
            have hM2 := hm.pos hM
            refine s_asgL (el_lcI (fun x => x * invT M (en q.2 c) % M) (ev_var rfl) (sq_of (e10 _ _ hq9)) (by omega) (fun _ => rfl) fun k H11 e11 hk => ev_mod (ev_int (ev_mulW (ev_var rfl) (ev_call (ea_cons (ev_var rfl) (ea_cons (ev_ix (ev_var rfl) (ev_var rfl) (sq_of ((e10.trans e11) _ _ hq9)) (iL_en (by rw [lq]; exact hc))) ea_nil)) (linv_spv hm fun _ => ⟨h2.1, h2.2.1⟩)) ?_)) (ev_var rfl) (by omega)) fun a' H11 na' e11 ha' => ?_
            · obtain ⟨k', hk'⟩ := List.getElem?_of_mem hk
              have h3 := rq hM k'
              rw [en_get hk'] at h3
              unfold invT; rw [if_neg hM]
              exact CMulW_small (by omega) (by omega)
            · refine rest _ _ ⟨a', rfl, e10.trans e11, ?_, NewN.back (LamX.ExtN.trans ex9 (LamX.ExtN.of e10)) (NewN.of na')⟩
              unfold normP; rw [if_pos hM]
              unfold invT at ha'; rw [if_neg hM] at ha'; exact ha'
          · have hM : M = 0 := by have := of_decide_eq_false hb; omega
            refine s_when (et_test (ev_lt (ev_ix (ev_var rfl) (ev_var rfl) (sq_of (e10 _ _ hq9)) (iL_en (by rw [lq]; exact hc))) ev_c)) (fun hb2 H11 e11 => ?_) (fun hb2 H11 e11 => ?_)
            · have hn := of_decide_eq_true hb2
              refine s_asgL (el_lcI (fun x => -x) (ev_var rfl) (sq_of ((e10.trans e11) _ _ hq9)) (by omega) (fun _ => rfl) fun k H12 e12 hk => ev_neg (ev_var rfl)) fun a' H12 na' e12 ha' => ?_
              refine rest _ _ ⟨a', rfl, (e10.trans e11).trans e12, ?_, NewN.back (LamX.ExtN.trans ex9 (LamX.ExtN.of (e10.trans e11))) (NewN.of na')⟩
              unfold normP; rw [if_neg (by simpa using hM), if_pos hn]
              have e : (q.2.map fun x => 0 - x) = q.2.map fun x => -x := List.map_congr_left fun x _ => by omega
              rw [e]; exact ha'
            · have hn := of_decide_eq_false hb2
              refine rest _ _ ⟨q.1, rfl, e10.trans e11, ?_, nn5 q qin⟩
              unfold normP; rw [if_neg (by simpa using hM), if_neg hn]; exact (e10.trans e11) _ _ hq9
        · have he : lives = [] := by
            cases lives with
            | nil => rfl
            | cons x xs => simp [adr] at hb
          rw [he] at elv
          have hnz : nzAt c (rws ls') = [] := elv.symm
          have hz : zAt c (rws ls') = rws ls' := List.filter_eq_self.mpr fun r hr => by
            have := List.filter_eq_nil_iff.mp hnz r hr
            simpa using this
          have P1 := PP
          rw [hnz, hz] at P1
          have TS := TT.step hm hβ (by rw [rws_len]; exact P1.none B1) hc
          have e := e6.trans e7
          exact ⟨l, d, ls', ds, LL, _, _, _, _, _, _, _, _, _, _, rfl, LamX.ExtN.trans ex6 (LamX.ExtN.of e7), hT5.ext e, e _ _ hl5, e _ _ hd5, hR5.ex e, hD5.ex e, edl, TS, fun x hx => (List.mem_append.mp hx).elim (nn5 x) fun h => nn x (List.mem_append_right _ h), ndH, dne⟩
      · obtain ⟨l, ls', R, v3, v4, v7, v8, v9, v10, v11, v12, v14, rfl, ex5, hT5, hl5, hd5, hR5, hD5, hRj, PP, nn5⟩ := hP
        have lens : ∀ x ∈ ls', x.2.length = wd := fun x hx => PP.len x.2 (mem_zn.mp (mem_rws hx))
        have rngs : ∀ x ∈ ls', Rng M x.2 := fun x hx => PP.rng x.2 (mem_zn.mp (mem_rws hx))
        have lcnt : ls'.length ≤ 6 := by
          have h1 := PP.cnt
          rw [len_zn, rws_len] at h1; omega
        refine q_asgL (el_lcF (fun x => decide (en x.2 c ≠ 0)) (ev_var rfl) (sq_of hl5) (by omega) (fun _ => rfl) (fun x H6 e6 hx => et_truK (ev_ix (ev_var rfl) (ev_var rfl) (sq_of (e6 _ _ (hR5 x hx))) (iL_en (by rw [lens x hx]; exact hc)))) (fun x H6 e6 hx => ev_var rfl)) fun lv H6 nlv e6 hlv => ?_
        have elv : rws (ls'.filter fun x => decide (en x.2 c ≠ 0)) = nzAt c (rws ls') := rws_filter (fun r => decide (en r c ≠ 0)) ls'
        have llv : (ls'.filter fun x => decide (en x.2 c ≠ 0)).length = (nzAt c (rws ls')).length := by rw [← elv, rws_len]
        have ex6 := LamX.ExtN.trans ex5 (LamX.ExtN.of e6)
        refine q_when (et_test (ev_lt (ev_len (ev_var rfl) (sq_of hlv)) ev_c)) (fun hb H7 e7 => ?_) (fun hb H7 e7 => ?_)
        · have hb := of_decide_eq_true hb
          rw [adr_len, llv] at hb
          exact after _ _ ⟨l, ls', R, _, _, _, _, _, _, _, _, _, rfl, LamX.ExtN.trans ex6 (LamX.ExtN.of e7), hT5.ext (e6.trans e7), (e6.trans e7) _ _ hl5, (e6.trans e7) _ _ hd5, hR5.ex (e6.trans e7), hD5.ex (e6.trans e7), PP, by omega, nn5⟩
        · have hb := of_decide_eq_false hb
          rw [adr_len, llv] at hb
          have h2 : 2 ≤ (nzAt c (rws ls')).length := by omega
          have big := hBig PP h2
          have lvin : ∀ x, x ∈ (ls'.filter fun x => decide (en x.2 c ≠ 0)) → x ∈ ls' ∧ en x.2 c ≠ 0 := fun x hx => ⟨(List.mem_filter.mp hx).1, of_decide_eq_true (List.mem_filter.mp hx).2⟩
          generalize hlives : (ls'.filter fun x => decide (en x.2 c ≠ 0)) = lives at hlv elv llv lvin
          have lpos : 0 < lives.length := by omega
          have hlv7 := e7 _ _ hlv
          have lvl : ∀ x ∈ ls', x.1 ≠ lv := fun x hx => ne_of_none (hR5 x hx) nlv
          have hR7 := hR5.ex (e6.trans e7)
          refine q_minLam (fun m => ((en (lives.getD m (0, [])).2 c).natAbs : Int)) (ev_var rfl) hlv7 (fun z => by have h := congrArg List.length z; rw [adr_len] at h; have h' : lives.length = 0 := h; omega) (hT5.ext (e6.trans e7)) (fun m v H8 H9 e8 hm' hk => ?_) fun m v H8 hm' hle ex8 hT8 => ?_
          · obtain ⟨y, hy, rfl⟩ := adr_get hm'
            obtain ⟨yin, _⟩ := lvin y (List.mem_of_getElem? hy)
            have eg : lives.getD m (0, []) = y := by simp [List.getD, hy]
            have hrow : H9 y.1 = some (.lst (iL y.2)) := hk _ _ (lvl y yin) (e8 _ _ (hR7 y yin)) fun ps z => by cases z
            refine ev_is (ev_abs (ev_ix (ev_var rfl) (ev_var rfl) (sq_of hrow) (iL_en (by rw [lens y yin]; exact hc)))) ?_
            rw [eg]
            congr 1
            omega
          obtain ⟨y, hy, rfl⟩ := adr_get hm'
          have ylv := List.mem_of_getElem? hy
          obtain ⟨yin, yne⟩ := lvin y ylv
          have hmin : ∀ x ∈ nzAt c (rws ls'), (en y.2 c).natAbs ≤ (en x c).natAbs := fun x hx => by
            rw [← elv] at hx
            obtain ⟨z, hz, rfl⟩ := List.mem_map.mp hx
            obtain ⟨m', hm''⟩ := List.getElem?_of_mem hz
            have hl' := (List.getElem?_eq_some_iff.mp hm'').1
            have := hle m' (by rw [adr_len]; exact hl')
            have e1 : lives.getD m (0, []) = y := by simp [List.getD, hy]
            have e2 : lives.getD m' (0, []) = z := by simp [List.getD, hm'']
            rw [e1, e2] at this
            omega
          have ynz : y.2 ∈ nzAt c (rws ls') := by rw [← elv]; exact mem_rws ylv
          have ex7 := LamX.ExtN.trans ex6 (LamX.ExtN.of e7)
          have exM := LamX.ExtN.trans ex7 ex8
          have toM : ∀ {a : Addr} {xs : List V}, H5 a = some (.lst xs) → H8 a = some (.lst xs) := fun h => extN_lst ex8 ((e6.trans e7) _ _ h)
          have hl8 := toM hl5
          have hd8 := toM hd5
          have hR8 := extN_rws ex8 hR7
          have hD8 := extN_rws ex8 (hD5.ex (e6.trans e7))
          refine q_parLV (el_lst ea_nil (by simp)) (fun H9 e9 => ev_c) fun fr H9 nfr e9 hfr => ?_
          have nfrH : NewN H fr := NewN.back exM (NewN.of nfr)
          have frl : fr ≠ l := (ne_of_none hl8 nfr).symm
          have frd : fr ≠ d := (ne_of_none hd8 nfr).symm
          have frs' : ∀ x ∈ ls', x.1 ≠ fr := fun x hx => ne_of_none (hR8 x hx) nfr
          have frD : ∀ x ∈ ds, x.1 ≠ fr := fun x hx => ne_of_none (hD8 x hx) nfr
          have ly := lens y yin
          have bnd : M = 0 → ∀ x ∈ ls', ∀ k, (en x.2 k).natAbs < 2 ^ 8999 := fun hM x hx k => Nat.lt_of_le_of_lt ((PP.sz hM).bnd B1 x.2 (mem_zn.mp (mem_rws hx)) k) big
          refine q_forLn (ev_var rfl) (sq_of (e9 _ _ hl8)) (fun m σ' H' => ∃ (fs : List AR) (u : Bool) (v3 v4 v14 : Option V), σ' = [some (.ref p), some (.int (wd : Nat)), some (.int M), v3, v4, some (.ref l), some (.ref d), some (.int (j : Nat)), some (.ref lv), some (.ref y.1), some (.ref fr), some (.bl u), v12, some (.int (c : Nat)), v14] ∧ LamX.ExtN H H' ∧ LamX.Tabs T H' ∧ H' l = some (.lst (adr ls')) ∧ H' d = some (.lst (adr ds)) ∧ Rws H' ls' ∧ Rws H' ds ∧ H' fr = some (.lst (adr fs)) ∧ Rws H' fs ∧ (rws fs, u) = turnL y.2 c wd M ((rws ls').take m) ∧ ∀ x ∈ fs, NewN H x.1 ∧ x.1 ≠ fr)
            (fun H10 e10 => ⟨[], false, _, _, _, rfl, LamX.ExtN.trans exM (LamX.ExtN.of (e9.trans e10)), hT8.ext (e9.trans e10), (e9.trans e10) _ _ hl8, (e9.trans e10) _ _ hd8, hR8.ex (e9.trans e10), hD8.ex (e9.trans e10), e10 _ _ hfr, Rws.nil, rfl, fun x h => absurd h (by simp)⟩) (fun i σ' H' _ ⟨_, _, _, _, _, _, _, _, h, _⟩ => sq_of h) ?_ ?_
          · rintro m x σ' H10 hx ⟨fs, u, v3, v4, v14, rfl, ex10, hT10, hl10, hd10, hR10, hD10, hf10, hF10, htn, hfn⟩
            obtain ⟨z, hz, rfl⟩ := adr_get hx
            have zin := List.mem_of_getElem? hz
            have lz := lens z zin
            have htk := turnL_take y.2 c wd M (rws_at hz)
            rw [← htn] at htk
            have flen : fs.length ≤ m := by
              have h1 := turnL_len (v := y.2) (c := c) (wd := wd) (M := M) ((rws ls').take m)
              rw [← htn, List.length_take] at h1
              have h3 : (rws fs).length ≤ m := by
                have : (rws fs, u).1.length ≤ min m (rws ls').length := h1
                have h5 : (rws fs).length ≤ min m (rws ls').length := this
                omega
              rw [rws_len] at h3; exact h3
            have ml := (List.getElem?_eq_some_iff.mp hz).1
            have rz := rngs z zin
            refine q_ifJ (b := u || !decide (z.2 = y.2)) (J := fun σ' H' => ∃ (a' : Addr) (r' : Row) (u' : Bool) (v4 v14 : Option V), σ' = [some (.ref p), some (.int (wd : Nat)), some (.int M), some (.ref a'), v4, some (.ref l), some (.ref d), some (.int (j : Nat)), some (.ref lv), some (.ref y.1), some (.ref fr), some (.bl u'), v12, some (.int (c : Nat)), v14] ∧ Ex H10 H' ∧ H' a' = some (.lst (iL r')) ∧ r'.length = wd ∧ NewN H a' ∧ a' ≠ fr ∧ turnL y.2 c wd M ((rws ls').take (m + 1)) = (rws fs ++ (if firstP r' < wd then [r'] else []), u'))
              (et_or (et_truB (ev_var rfl)) fun _ => et_test (ev_is (ev_op (ev_var rfl) (ev_var rfl) (rv_neD (d := dI z.2) (e := dI y.2) (fun H1 e => dpI (sq_of (e _ _ (hR10 z zin)))) (fun H1 e => dpI (sq_of (e _ _ (hR10 y yin)))) (shI _) (shI _))) (by rw [eqv_dI]))) (fun σ' H11 hJ => ?_) (fun hb H11 e11 rest => ?_) (fun hb H11 e11 rest => ?_)
            · obtain ⟨a', r', u', v4, v14, rfl, e11, ha', rl', na', af', htk'⟩ := hJ
              refine s_when (b := decide (firstP r' < wd)) (et_test (ev_is (ev_lt (ev_call (z := .int (firstP r' : Nat)) (ea_cons (ev_var rfl) ea_nil) (firstP_spv (sq_of ha') (by omega))) (ev_var rfl)) (congrArg V.bl (decide_eq_decide.mpr (Int.ofNat_lt (n := firstP r') (m := wd)))))) (fun hb H12 e12 => ?_) (fun hb H12 e12 => ?_)
              · have hb := of_decide_eq_true hb
                rw [if_pos hb] at htk'
                refine s_app ((e11.trans e12) _ _ hf10) (ev_var rfl) (ev_var rfl) (by rw [adr_len]; omega) fun H13 e13 => ?_
                have e := (e11.trans e12).trans e13
                refine ⟨fs ++ [(a', r')], u', _, _, _, rfl, extN_mut (LamX.ExtN.trans ex10 (LamX.ExtN.of e)) nfrH, tabs_mut (hT10.ext e) (e _ _ hf10), by rw [upd_ne frl.symm]; exact e _ _ hl10, by rw [upd_ne frd.symm]; exact e _ _ hd10, (hR10.ex e).upd frs', (hD10.ex e).upd frD, by rw [upd_same, adr_app]; rfl, ?_, by rw [rws_app, htk']; rfl, fun x hx => ?_⟩
                · refine Rws.append ((hF10.ex e).upd fun x hx => (hfn x hx).2) fun x hx => ?_
                  rw [List.mem_singleton.mp hx, upd_ne af']; exact (e12.trans e13) _ _ ha'
                · rcases List.mem_append.mp hx with h | h
                  · exact hfn x h
                  · rw [List.mem_singleton.mp h]; exact ⟨na', af'⟩
              · have hb := of_decide_eq_false hb
                rw [if_neg hb, List.append_nil] at htk'
                have e := e11.trans e12
                exact ⟨fs, u', _, _, _, rfl, LamX.ExtN.trans ex10 (LamX.ExtN.of e), hT10.ext e, e _ _ hl10, e _ _ hd10, hR10.ex e, hD10.ex e, e _ _ hf10, hF10.ex e, htk'.symm, hfn⟩
            · have hcond : u = true ∨ z.2 ≠ y.2 := by
                cases u with
                | true => exact .inl rfl
                | false => exact .inr (by simpa using hb)
              have hst : stepL y.2 c wd M (rws fs, u) z.2 = (rws fs ++ (if firstP (shortOf y.2 c M z.2) < wd then [shortOf y.2 c M z.2] else []), u) := by unfold stepL; rw [if_pos hcond]
              rw [hst] at htk
              have iz : ∀ {H12 : Hp}, Ex H10 H12 → SqL K H12 z.1 (iL z.2) := fun e => sq_of (e _ _ (hR10 z zin))
              have iy : ∀ {H12 : Hp}, Ex H10 H12 → SqL K H12 y.1 (iL y.2) := fun e => sq_of (e _ _ (hR10 y yin))
              have mM : M ≠ 0 → 0 < en y.2 c ∧ en y.2 c < M ∧ 0 ≤ inv (en y.2 c) M ∧ inv (en y.2 c) M < M := fun hM => by
                have h1 := rngs y yin hM c
                obtain ⟨_, i2, i3⟩ := inv_ok hm hM (show 0 < en y.2 c by omega) h1.2
                omega
              refine q_asg (v := .int (lawK y.2 c M z.2)) (ev_is (ev_ifB (i := .int (en z.2 c * invT M (en y.2 c))) (j := .int ((en z.2 c).fdiv (en y.2 c))) (et_truI (K := K) (ev_var rfl)) (fun hb => ev_mulW (ev_ix (ev_var rfl) (ev_var rfl) (iz e11) (iL_en (by rw [lz]; exact hc))) (ev_call (ea_cons (ev_var rfl) (ea_cons (ev_ix (ev_var rfl) (ev_var rfl) (iy e11) (iL_en (by rw [ly]; exact hc))) ea_nil)) (linv_spv hm fun hM => ⟨(mM hM).1, (mM hM).2.1⟩)) ?_) (fun hb => ev_fdiv (ev_ix (ev_var rfl) (ev_var rfl) (iz e11) (iL_en (by rw [lz]; exact hc))) (ev_ix (ev_var rfl) (ev_var rfl) (iy e11) (iL_en (by rw [ly]; exact hc))) ?_)) ?_) fun H12 e12 => ?_
              · have hM := of_decide_eq_true hb
                have h1 := rz hM c
                have h2 := mM hM
                have := hm.pos hM
                unfold invT; rw [if_neg hM]
                exact CMulW_small (by omega) (by omega)
              · have hM : M = 0 := by have := of_decide_eq_false hb; omega
                exact cdivz (b := 8999) _ yne (bnd hM y yin c) (by decide) (by decide)
              · unfold lawK invT
                by_cases hM : M = 0 <;> simp [hM]
              · have e1012 := e11.trans e12
                have lyz : z.2.length = y.2.length := by rw [lz, ly]
                refine s_call (ea_cons (ev_var rfl) (ea_cons (ev_var rfl) (ea_cons (ev_var rfl) (ea_cons (ev_var rfl) ea_nil)))) fun H13 e13 => ⟨z.1, y.1, z.2, y.2, lawK y.2 c M z.2, M, rfl, (e1012.trans e13) _ _ (hR10 z zin), iy (e1012.trans e13), by omega, hm.nonneg, fun b hbm => ?_, fun a' H14 e14 ha' hal => ?_⟩
                · obtain ⟨k, hk⟩ := List.getElem?_of_mem hbm
                  rw [← en_get hk]
                  by_cases hM : M = 0
                  · have h1 : (lawK y.2 c M z.2).natAbs < 2 ^ 8999 := by
                      unfold lawK; rw [if_neg (by simpa using hM)]
                      exact Nat.lt_of_le_of_lt (natAbs_fdiv yne) (bnd hM z zin c)
                    exact wide_mul h1 (bnd hM y yin k) (by decide) (by decide) (by decide)
                  · have h1 := rz hM c
                    have h2 := mM hM
                    have h3 := rngs y yin hM k
                    have h4 := hm.pos hM
                    have h5 : (lawK y.2 c M z.2).natAbs ≤ 5 * 5 := by
                      unfold lawK; rw [if_pos hM, Int.natAbs_mul]
                      exact Nat.mul_le_mul (by omega) (by omega)
                    exact CMulW_small (by omega) (by omega)
                · rw [lawK_short lyz rz] at ha'
                  refine rest _ _ ⟨a', shortOf y.2 c M z.2, u, _, _, rfl, (e1012.trans e13).trans e14, ha', (lessT_len lyz).trans lz, ?_, ?_, htk⟩
                  · rcases hal with h | h
                    · rw [h]; exact nn5 z zin
                    · exact NewN.back (LamX.ExtN.trans ex10 (LamX.ExtN.of (e1012.trans e13))) (NewN.of h)
                  · rcases hal with h | h
                    · rw [h]; exact frs' z zin
                    · exact (ne_of_none ((e1012.trans e13) _ _ hf10) h).symm
            · have hu : u = false ∧ z.2 = y.2 := by
                cases u with
                | true => simp at hb
                | false => exact ⟨rfl, by simpa using hb⟩
              have hst : stepL y.2 c wd M (rws fs, u) z.2 = (rws fs ++ (if firstP z.2 < wd then [z.2] else []), true) := by
                unfold stepL
                rw [if_neg (fun h => h.elim (fun h => by rw [hu.1] at h; cases h) (fun h => h hu.2))]
              rw [hst] at htk
              exact s_asg (v := .bl true) ev_c fun H12 e12 => rest _ _ ⟨z.1, z.2, true, _, _, rfl, e11.trans e12, (e11.trans e12) _ _ (hR10 z zin), lz, nn5 z zin, frs' z zin, htk⟩
          · rintro σ' H10 ⟨fs, u, v3, v4, v14, rfl, ex10, hT10, hl10, hd10, hR10, hD10, hf10, hF10, htn, hfn⟩
            rw [adr_len, List.take_of_length_le (by rw [rws_len]; exact Nat.le_refl _)] at htn
            refine s_asg (ev_var rfl) fun H11 e11 => ?_
            obtain ⟨R', rfl⟩ : ∃ R', R = R' + 1 := by
              cases R with
              | zero => exact absurd PP.fin (Nat.not_lt_of_le h2)
              | succ R' => exact ⟨R', rfl⟩
            have S1 := PP.lturn hm B1 hc h2 ynz hmin
            rw [← htn] at S1
            exact ⟨fr, fs, R', _, _, _, _, _, _, _, _, _, rfl, LamX.ExtN.trans ex10 (LamX.ExtN.of e11), hT10.ext e11, e11 _ _ hf10, e11 _ _ hd10, hF10.ex e11, hD10.ex e11, by omega, S1, fun x hx => (hfn x hx).1⟩
      · exfalso
        have : R + 20000 = rnd (bJ tr β ps.length LL.length) := hR
        omega
    · rintro σ' H4 ⟨l, d, ls, ds, LL, v3, v4, v7, v8, v9, v10, v11, v12, v13, v14, rfl, ex4, hT4, hl4, hd4, hR4, hD4, edl, TT, nn, ndH, dne⟩
      have TT' : TJ M wd wd β ps.length tr (rws ps) LL (rws ls) := TT
      refine s_ret (ev_var rfl) fun H5 e5 => ?_
      have eD : LL = D := herm_unique hm ⟨TT'.ech, TT'.lenL, TT'.red, TT'.rngL⟩ hD (TT'.all.symm.trans hS)
      exact fin d ds H5 (ex4.trans (LamX.ExtN.of e5)) (hT4.ext e5) (e5 _ _ hd4) ndH (hD4.ex e5) (by rw [edl, eD]) (fun x hx => nn x (List.mem_append_right _ hx)) dne
end
end Mine
set_option Elab.async false
set_option linter.all false
set_option maxRecDepth 100000
set_option maxHeartbeats 4000000
namespace Mine
open PySem PySem.Spec PyProof.Rows L2 Evl
section
variable {K : PySem.W.Frag} {σ : L2.St} {H H' : Hp} {ta tb te tx tl : TE} {t u : TT} {x y z v w1 : V} {D : Ends} {tu tw tz : TS}
/-- [g(row) for row in rows if pr(row)] -/
theorem el_lcRF {a : Addr} {ps : List AR} {j : Nat} {vs : List Nat} (pr : Row → Bool) (g : Row → Row) (h : Ev tl σ H (.ref a)) (hx : SqL K H a (adr ps)) (hz : ps.length ≤ 40000) (hw : ∀ x, wipe ((wipe σ vs).set j (some x)) vs = wipe σ vs)
    (ht : ∀ (x : AR) H1, Ex H H1 → x ∈ ps → EvT t ((wipe σ vs).set j (some (.ref x.1))) H1 (pr x.2))
    (he : ∀ (x : AR) H1, Ex H H1 → x ∈ ps → EvL te ((wipe σ vs).set j (some (.ref x.1))) H1 (iL (g x.2))) : EvR (tLc (iList K tl) (gName j) t te vs) σ H (((rws ps).filter pr).map g) := fun H0 e0 Q q => h H0 e0 _ fun H1 e1 => ⟨a, rfl, ⟨adr ps, ex_l (e0.trans e1) hx⟩, fun Dl hD =>
  lc_list (xs := adr ps) (fun i H' => ∃ qs : List AR, Ex H1 H' ∧ H' Dl = some (.lst (adr qs)) ∧ Rws H' qs ∧ rws qs = (((rws ps).take i).filter pr).map g ∧ (∀ x ∈ qs, H1 x.1 = none) ∧ ∀ x ∈ qs, x.1 ≠ Dl) ⟨[], Ex.new hD, upd_same, Rws.nil, by simp [rws], fun x h => absurd h (by simp), fun x h => absurd h (by simp)⟩
    (fun i H' _ ⟨_, e, _⟩ => ex_l ((e0.trans e1).trans e) hx)
    (fun i x H' hi ⟨qs, e, hl, hr, hq, hn, hne⟩ => by
      obtain ⟨y, hy, rfl⟩ := adr_get hi
      have yin := List.mem_of_getElem? hy
      refine ⟨hw _, ?_⟩
      refine ht y H1 (e0.trans e1) yin H' e _ fun H3 e3 => ?_
      have cnt : qs.length ≤ i := by
        have h1 := congrArg List.length hq
        have h2 := List.length_filter_le pr ((rws ps).take i)
        rw [rws_len, List.length_map] at h1
        rw [List.length_take] at h2; omega
      have tk : (rws ps).take (i + 1) = (rws ps).take i ++ [y.2] := by rw [List.take_add_one, rws_at hy]; rfl
      cases hp : pr y.2 with
      | true =>
        show te _ H3 _
        refine he y H1 (e0.trans e1) yin _ (e.trans e3) _ fun p H2 np e2 h2 => ?_
        have hl3 := e3 _ _ hl
        have hl2 := e2 _ _ hl3
        have pne : p ≠ Dl := (ne_of_none hl3 np).symm
        have hi2 := (List.getElem?_eq_some_iff.mp hy).1
        refine ⟨_, hl2, sz_lt (by rw [adr_len]; omega), qs ++ [(p, g y.2)], Ex.mut ((e.trans e3).trans e2) hD, by rw [upd_same, adr_app]; rfl, ?_, ?_, ?_, ?_⟩
        · refine Rws.append ((hr.ex (e3.trans e2)).upd hne) fun z hz => ?_
          rw [List.mem_singleton.mp hz, upd_ne pne]; exact h2
        · rw [rws_app, hq, tk, List.filter_append, List.map_append, List.filter_cons_of_pos hp]; rfl
        · intro z hz
          rcases List.mem_append.mp hz with h | h
          · exact hn z h
          · rw [List.mem_singleton.mp h]; exact fresh_back (e.trans e3) np
        · intro z hz
          rcases List.mem_append.mp hz with h | h
          · exact hne z h
          · rw [List.mem_singleton.mp h]; exact pne
      | false =>
        show ∃ qs : List AR, _
        refine ⟨qs, e.trans e3, e3 _ _ hl, hr.ex e3, ?_, hn, hne⟩
        rw [hq, tk, List.filter_append, List.filter_cons_of_neg (by rw [hp]; decide), List.filter_nil, List.append_nil])
    (fun H' ⟨qs, e, hl, hr, hq, hn, hne⟩ => by
      rw [adr_len, List.take_of_length_le (by rw [rws_len]; exact Nat.le_refl _)] at hq
      exact q Dl qs H' (fresh_back e1 hD) (e1.trans e) hl hr hq (fun x hx => fresh_back e1 (hn x hx)) hne)⟩
theorem et_anyI {r : Row} (h : EvL te σ H (iL r)) : EvT (tB (tCB (rAnyI K) (tCons te tNil))) σ H (r.any fun i => i != 0) := fun H1 e Q q => h H1 e _ fun p H2 np e2 hp => ⟨p, r, rfl, sq_of hp, _, rfl, q H2 e2⟩
theorem extN_sq {a : Addr} {xs : List V} {H1 H2 : Hp} (e : LamX.ExtN H1 H2) (h : SqL K H1 a xs) : SqL K H2 a xs := by
  rcases h with h | h
  · refine Or.inl ?_
    rcases h with h | h
    · exact .inl (extN_lst e h)
    · obtain ⟨o, h⟩ := h
      exact .inr ⟨o, e _ _ h fun ps z => by cases z⟩
  · exact Or.inr h
theorem plain_id {M : Int} {r : Row} (hm : Md M) (h : Rng M r) : plainRow r M = r := by
  by_cases hM : M = 0
  · rw [hM]; exact plainRow_0 r
  · refine en_ext (plainRow_len r M) fun j _ => ?_
    unfold plainRow; rw [if_neg hM, en_map (by simp)]
    have := h hM j
    exact Int.emod_eq_of_lt this.1 this.2
theorem q_asgCall {sp : Sp} {dvs vs : List V} {E : XK} {ta : TA} {i : Nat} (h : EvA ta σ H vs) (k : ∀ H1, Ex H H1 → sp (vs ++ dvs) H1 (fun x H2 => tz D (σ.set i (some x)) H2) E) : tSeq (tAsg (tCall sp dvs E ta) (gName i)) tz D σ H := h H (Ex.refl H) _ k
end
section
variable {P : Program} {w : World} {K : PySem.W.Frag} {mg : Str → Option Value} {base : Heap} {H : Hp}
/-- law_hermite as a callee, with its code's table -/
structure HL (K : PySem.W.Frag) (mg : Str → Option Value) (base : Heap) (T : List (Addr × Str)) : Prop where
  has : ∃ (c f : Addr) (fd : FuncData) (Pt : Addr), Fn K mg "_law_hermite" s_law_hermite ["rows", "width", "M"] f fd ∧ FunC K "_law_hermite" "_law_hermite" s_law_hermite f fd c ∧ LamX.TabB base mg c Pt ∧ (Pt, lhQ) ∈ T ∧ ∀ p ∈ T, p.1 = Pt → p.2 = lhQ
end
/-! ### _law_kernel -/
def spLKer (K : PySem.W.Frag) (T : List (Addr × Str)) : Sp := fun vs H Q _ => ∃ (p : Addr) (ps : List AR) (wd β φ : Nat) (M : Int) (D : List (Nat × Row)), vs = [.ref p, .int M] ∧ SqL K H p (adr ps) ∧ Rws H ps ∧ Md M ∧ wd ≤ 6 ∧ ps.length ≤ 6 ∧ 1 ≤ β ∧ gI β (ps.length - 1) < 2 ^ 8999 ∧
  (∀ r ∈ rws ps, r.length = wd) ∧ (M = 0 → Bnd β (rws ps)) ∧ Herm M ps.length D ∧ KerR M (rws ps) (D.map (·.2)) ∧ 1 ≤ φ ∧ φ < 2 ^ 8999 ∧ (M = 0 → Bnd φ (D.map (·.2))) ∧ LamX.Tabs T H ∧
  ∀ (a : Addr) (ts : List AR) (H' : Hp), LamX.ExtN H H' → LamX.Tabs T H' → H' a = some (.lst (adr ts)) → NewN H a → Rws H' ts → rws ts = D.map (·.2) → (∀ x ∈ ts, NewN H x.1) → (∀ x ∈ ts, x.1 ≠ a) → Q (.ref a) H'
section
variable {P : Program} {w : World} {K : PySem.W.Frag} {mg : Str → Option Value} {base : Heap} {H : Hp}
theorem ok_law_kernel (L : Lib K mg) {T : List (Addr × Str)} (HH : HL K mg base T) {f : Addr} {fd : FuncData} (F : L2.Fun K "_law_kernel" "_law_kernel" s_law_kernel f fd) : FnOk P w K mg base CX0 4 f fd ["rows", "M"] (spLKer K T) := by
  obtain ⟨f_law_hermite, fd_law_hermite, F_law_hermite⟩ := L.law_hermite
  obtain ⟨f_law_unit, fd_law_unit, F_law_unit⟩ := L.law_unit
  obtain ⟨c, f_law_hermite, fd_law_hermite, Pt, F_law_hermite, FC, TB, hmT, hu⟩ := HH.has
  have G_law_hermite : FnOk P w K mg base CX0 3 f_law_hermite fd_law_hermite _ (spLH K T) := ok_law_hermite L FC TB hmT hu
  have G_law_unit : FnOk P w K mg base CX0 1 f_law_unit fd_law_unit _ spLUnit := ok_law_unit L F_law_unit.F
  refine F.ok sc_law_kernel (fun vs H Q E h => ?_) (fun cdv A outer s H vs Q E hr h => ?_)
  · obtain ⟨p, ps, wd, β, φ, M, D, rfl, _⟩ := h; rfl
  · obtain ⟨p, ps, wd0, β, φ, M, D, rfl, hp, hR, hm, hwd0, hn, hβ, hg, hlen0, hbnd, hD, hK, hφ, hφ2, hφb, hT, fin⟩ := h
    refine ⟨_, (pss_cons (ps_set (i := 2) sc_law_kernel.nd rfl (Or.inr rfl) (pe_ifExp (pt_truth (pv 0) (by intro _; rfl)) (pe_callB call_len_seq (by rfl) L.len (by decide +kernel) (pa_cons (pe_ix ix_list (pv 0) pe_int (fun _ _ => rfl)) pa_nil)) pe_int))
    (pss_cons (ps_setLc (i := 3) (own := [("at", 5), ("row", 6)]) (g := gTup _ 2 (gCons (gName 5) (gCons (gName 6) gNil))) (tt := tYes) rfl sc_law_kernel.nd rfl rfl (sw_true rfl rfl rfl (by decide +kernel)) (pi_enum (by rfl) L.enumerate (pa_cons (pv 0) pa_nil)) (blkOk_by (own := [("at", 5), ("row", 6)]) (N := N_law_kernel) (sc := defScope s_law_kernel) (by decide +kernel)) (fun _ _ _ _ _ => (pg_tup rfl (pgs_cons (pg_name (i := 5) sc_law_kernel.nd rfl (Or.inl rfl)) (pgs_cons (pg_name (i := 6) sc_law_kernel.nd rfl (Or.inl rfl)) pgs_nil)))) (fun _ _ _ _ _ => pts_nil) (fun _ _ _ _ _ => (pe_op op_cat (pe_callTy (call_list_ofK (K := K)) (by rfl) L.list (by decide +kernel) (pa_cons (pv 6) pa_nil)) (pe_call G_law_unit (hr.mono (by decide)) (by rfl) F_law_unit.g F_law_unit.F.kp F_law_unit.b .nil pass0 (pa_cons (pv 5) (pa_cons (pe_callB (call_len_seqK (K := K)) (by rfl) L.len (by decide +kernel) (pa_cons (pv 0) pa_nil)) (pa_cons pe_int pa_nil)))))))
    (pss_cons (ps_set (i := 4) sc_law_kernel.nd rfl (Or.inl rfl) (pe_call G_law_hermite (hr.mono (by decide)) (by rfl) F_law_hermite.g F_law_hermite.F.kp F_law_hermite.b .nil pass0 (pa_cons (pv 3) (pa_cons (pe_op op_add (pv 2) (pe_callB call_len_seq (by rfl) L.len (by decide +kernel) (pa_cons (pv 0) pa_nil))) (pa_cons (pv 1) pa_nil)))))
    (pss_one (ps_ret (pe_call G_law_hermite (hr.mono (by decide)) (by rfl) F_law_hermite.g F_law_hermite.F.kp F_law_hermite.b .nil pass0 (pa_cons (pe_lc (own := [("row", 6)]) (g := gName 6) (tt := _) rfl sc_law_kernel.nd (pi_list (pv 4)) (blkOk_by (own := [("row", 6)]) (N := N_law_kernel) (sc := defScope s_law_kernel) (by decide +kernel)) (fun _ _ _ _ _ => (pg_name (i := 6) sc_law_kernel.nd rfl (Or.inl rfl))) (fun _ _ _ _ _ => pts_one (pt_not (pt_val (pe_callB (cr_anyIK (K := K)) (by rfl) L.any (by decide +kernel) (pa_cons (pe_slice (sl_listK (K := K)) (pv 6) po_none (po_some (pv 2))) pa_nil))))) (fun _ _ _ _ _ => (pe_slice (sl_listK (K := K)) (pv 6) (po_some (pv 2)) po_none))) (pa_cons (pe_callB call_len_seq (by rfl) L.len (by decide +kernel) (pa_cons (pv 0) pa_nil)) (pa_cons (pv 1) pa_nil))))))))), ?_⟩
    obtain ⟨wd, hwd, hlen, hfst⟩ : ∃ wd : Nat, wd ≤ 6 ∧ (∀ r ∈ rws ps, r.length = wd) ∧ (ps = [] → wd = 0) := by
      cases ps with
      | nil => exact ⟨0, by omega, fun r h => absurd h (by simp [rws]), fun _ => rfl⟩
      | cons x ps' => exact ⟨wd0, hwd0, hlen0, fun h => by cases h⟩
    obtain ⟨DL, HD, hSD, cntD⟩ := herm_ex (R := (numb ps.length 0 (rws ps)).map fun r => plainRow r M) (w := wd + ps.length) hm (fun r hr => by
      obtain ⟨s, hs, rfl⟩ := List.mem_map.mp hr
      rw [plainRow_len]
      have := numb_lens hlen s (by rw [rws_len]; exact hs)
      rwa [rws_len] at this) (fun r hr => by
      obtain ⟨s, hs, rfl⟩ := List.mem_map.mp hr
      exact plainRow_rng hm)
    have hSn : SameL M (numb ps.length 0 (rws ps)) (DL.map (·.2)) := (SameL.mods fun r hr j => plainRow_dvd r M j).trans hSD
    have hSn' : SameL M (numb (rws ps).length 0 (rws ps)) (DL.map (·.2)) := by rw [rws_len]; exact hSn
    have HD' : Herm M (wd + (rws ps).length) DL := by rw [rws_len]; exact HD
    have eD : kerOf wd DL = D := ker_one hm (herm_ker HD) hD (ker_of hlen HD' hSn') hK
    refine q_asg (v := .int (wd : Nat)) (ev_is (ev_ifB (i := .int (wd : Nat)) (j := .int 0) (et_truL (ev_var rfl) hp) (fun hb => ?_) (fun hb => ev_c)) ?_) fun H1 e1 => ?_
    · cases ps with
      | nil => simp [adr] at hb
      | cons x ps' =>
        have xin : x ∈ x :: ps' := List.mem_cons_self ..
        exact ev_is (ev_len (ev_ix (ev_var rfl) ev_c hp (atI_nat (j := 0) rfl)) (hR.seq xin)) (by rw [iL_len, hlen x.2 (mem_rws xin)])
    · cases ps with
      | nil => rw [hfst rfl]; rfl
      | cons x ps' => rfl
    refine q_asgR (el_lcER (fun i r => r ++ unitR ps.length i) (rs := numb ps.length 0 (rws ps)) (by rw [numb_len, rws_len]) (fun i x hx => by have := numb_at (n := ps.length) (k := 0) (rws_at hx); rwa [Nat.zero_add] at this) (ea_cons (ev_var rfl) ea_nil) (ex_l e1 hp) (by omega) (fun _ _ => rfl) fun i x H2 e2 hx => ?_) fun np nqs H2 nnp e2 hnp hnR hne hnf hnn => ?_
    · have hil := (List.getElem?_eq_some_iff.mp hx).1
      have hxl := hlen x.2 (mem_rws (List.mem_of_getElem? hx))
      have e : iL (x.2 ++ unitR ps.length i) = iL x.2 ++ iL (unitR ps.length i) := List.map_append ..
      rw [e]
      refine el_catLL (el_list (ev_var rfl) (ex_l (e1.trans e2) (hR.seq (List.mem_of_getElem? hx)))) (fun H3 e3 => el_call (ea_cons (ev_var rfl) (ea_cons (ev_is (ev_len (ev_var rfl) (ex_l ((e1.trans e2).trans e3) hp)) (by rw [adr_len])) (ea_cons ev_c ea_nil))) (lunit_spl hil (by omega))) (by rw [iL_len, iL_len, unitR_len]; omega)
    have nl : nqs.length = ps.length := by have := congrArg List.length hne; rw [rws_len, numb_len, rws_len] at this; exact this
    have e12 := e1.trans e2
    refine q_asgCall (vs := [.ref np, .int ((wd + ps.length : Nat) : Int), .int M]) (ea_cons (ev_var rfl) (ea_cons (ev_is (ev_add (ev_var rfl) (ev_len (ev_var rfl) (ex_l e12 hp))) (by rw [adr_len]; rfl)) (ea_cons (ev_var rfl) ea_nil))) fun H3 e3 => ?_
    have e13 := e12.trans e3
    refine ⟨np, nqs, wd + ps.length, β, M, DL, false, rfl, sq_of (e3 _ _ hnp), hnR.ex e3, hm, by omega, by omega, hβ, ?_, fun r hr => ?_, fun hM => ?_, fun h => absurd h (by decide), HD, by rw [hne]; exact hSn, hT.ext e13, fun a ts H4 x4 T4 ha na tR te tf tn => ?_⟩
    · unfold bJ; rw [if_neg (by decide), nl, Nat.min_eq_right (by omega)]; exact hg
    · rw [hne] at hr
      have := numb_lens hlen r (by rw [rws_len]; exact hr)
      rwa [rws_len] at this
    · rw [hne]; have := numb_bnd hβ (hbnd hM); rwa [rws_len] at this
    have tlen : ∀ x ∈ ts, x.2.length = wd + ps.length := fun x hx => by
      have := mem_rws hx
      rw [te] at this
      obtain ⟨y, hy, e⟩ := List.mem_map.mp this
      rw [← e]; exact HD.len y hy
    have tcnt : ts.length ≤ 6 := by
      have h1 := congrArg List.length te
      rw [rws_len, List.length_map] at h1
      rw [List.length_map, numb_len, rws_len] at cntD; omega
    have hp4 : SqL K H4 p (adr ps) := extN_sq x4 (ex_l e13 hp)
    have rowsE : ((rws ts).filter fun r => !(r.take wd).any fun i => i != 0).map (fun r => r.drop wd) = D.map (·.2) := by
      rw [te, high_rows HD, ← kerOf_rows, eD]
    refine s_retCallR (vs := [.int (ps.length : Nat), .int M]) (el_lcRF (fun r => !(r.take wd).any fun i => i != 0) (fun r => r.drop wd) (ev_var rfl) (sq_of ha) (by omega) (fun _ => rfl) (fun x H5 e5 hx => et_not (et_anyI (el_slT (ev_var rfl) (ev_var rfl) (sq_of (e5 _ _ (tR x hx)))))) (fun x H5 e5 hx => el_slD (ev_var rfl) (ev_var rfl) (sq_of (e5 _ _ (tR x hx))))) (ea_cons (ev_is (ev_len (ev_var rfl) hp4) (by rw [adr_len])) (ea_cons (ev_var rfl) ea_nil)) fun q qs H5 nq e5 hq qR qe qf => ?_
    rw [rowsE] at qe
    have dcnt : D.length ≤ 6 := by rw [← eD]; have := ker_len HD; have h1 := congrArg List.length te; rw [rws_len, List.length_map] at h1; omega
    have qcnt : qs.length ≤ 6 := by have h1 := congrArg List.length qe; rw [rws_len, List.length_map] at h1; omega
    refine ⟨q, qs, ps.length, φ, M, D, true, rfl, sq_of hq, qR, hm, by omega, qcnt, hφ, hφ2, fun r hr => ?_, fun hM => by rw [qe]; exact hφb hM, fun _ => ⟨D, hD.ech, ?_⟩, hD, by rw [qe]; exact SameL.refl, T4.ext e5, fun a2 zs H6 x6 T6 ha2 na2 zR ze zf zn => ?_⟩
    · rw [qe] at hr
      obtain ⟨y, hy, rfl⟩ := List.mem_map.mp hr
      exact hD.len y hy
    · rw [qe, List.map_map]; exact List.map_congr_left fun x hx => plain_id hm (hD.rng x hx)
    · have x05 := ((LamX.ExtN.of e13).trans x4).trans (LamX.ExtN.of e5)
      exact fin a2 zs H6 (x05.trans x6) T6 ha2 (NewN.back x05 na2) zR ze (fun x hx => NewN.back x05 (zf x hx)) zn
end
end Mine
set_option Elab.async false
set_option linter.all false
set_option maxRecDepth 100000
set_option maxHeartbeats 4000000
namespace Mine
open PySem PySem.Spec PyProof.Rows L2 Evl
section
variable {K : PySem.W.Frag} {σ : L2.St} {H H' : Hp} {ta tb te tx tl : TE} {t u : TT} {x y z v w1 : V} {D : Ends} {tu tw tz : TS}
theorem s_asgCall {sp : Sp} {dvs vs : List V} {E : XK} {ta : TA} {i : Nat} (h : EvA ta σ H vs) (k : ∀ H1, Ex H H1 → sp (vs ++ dvs) H1 (fun x H2 => D.nx (σ.set i (some x)) H2) E) : tAsg (tCall sp dvs E ta) (gName i) D σ H := h H (Ex.refl H) _ fun H1 e1 => k H1 e1
theorem el_catVV {p q : Addr} {xs ys : List V} (ha : Ev ta σ H (.ref p)) (hx : H p = some (.lst xs)) (hb : Ev tb σ H (.ref q)) (hy : H q = some (.lst ys)) (hz : xs.length + ys.length ≤ 100000) : EvL (tOp rCat ta tb) σ H (xs ++ ys) := fun H0 e0 Q k =>
  ha H0 e0 _ fun H1 e1 => hb H1 (e0.trans e1) _ fun H2 e2 => ⟨p, q, xs, ys, rfl, rfl, ((e0.trans e1).trans e2) _ _ hx, ((e0.trans e1).trans e2) _ _ hy, Nat.le_trans hz (by decide), fun r nr => k r _ (fresh_back (e1.trans e2) nr) ((e1.trans e2).trans (Ex.new nr)) upd_same⟩
theorem q_asgCallL {sp : Sp} {dvs vs xs : List V} {E : XK} {ta : TA} {i : Nat} (h : EvL te σ H xs) (h2 : EvA ta σ H vs) (k : ∀ a H1, Ex H H1 → H a = none → H1 a = some (.lst xs) → sp (.ref a :: (vs ++ dvs)) H1 (fun x H2 => tz D (σ.set i (some x)) H2) E) : tSeq (tAsg (tCall sp dvs E (tCons te ta)) (gName i)) tz D σ H :=
  h H (Ex.refl H) _ fun a H1 na e1 ha => h2 H1 e1 _ fun H2 e2 => k a H2 (e1.trans e2) na (e2 _ _ ha)
end
def spLMeet (K : PySem.W.Frag) (T : List (Addr × Str)) : Sp := fun vs H Q _ => ∃ (p q : Addr) (ps qs : List AR) (wd β φ : Nat) (M : Int) (KD D : List (Nat × Row)), vs = [.ref p, .ref q, .int (wd : Nat), .int M] ∧ H p = some (.lst (adr ps)) ∧ Rws H ps ∧ H q = some (.lst (adr qs)) ∧ Rws H qs ∧ Md M ∧ wd ≤ 6 ∧ ps.length + qs.length ≤ 6 ∧ 1 ≤ β ∧ gI β (ps.length + qs.length - 1) < 2 ^ 8999 ∧
  (∀ r ∈ rws ps ++ rws qs, r.length = wd) ∧ (M = 0 → Bnd β (rws ps ++ rws qs)) ∧ Herm M (ps.length + qs.length) KD ∧ KerR M (rws ps ++ rws qs) (KD.map (·.2)) ∧ KD.length ≤ 6 ∧ (M = 0 → Bnd (2 ^ 1000) (KD.map (·.2)) ∧ Bnd (2 ^ 1000) (rws ps)) ∧
  1 ≤ φ ∧ (M = 0 → Bnd φ (metR M (rws ps) wd (KD.map (·.2)))) ∧ gI φ (KD.length - 1) < 2 ^ 8999 ∧ Herm M wd D ∧ SameL M (metR M (rws ps) wd (KD.map (·.2))) (D.map (·.2)) ∧ (M ≠ 0 → ∀ r ∈ rws ps, ∀ j, (en r j).natAbs ≤ 5) ∧ LamX.Tabs T H ∧
  ∀ (a : Addr) (ts : List AR) (H' : Hp), LamX.ExtN H H' → LamX.Tabs T H' → H' a = some (.lst (adr ts)) → NewN H a → Rws H' ts → rws ts = D.map (·.2) → (∀ x ∈ ts, NewN H x.1) → (∀ x ∈ ts, x.1 ≠ a) → Q (.ref a) H'
section
variable {P : Program} {w : World} {K : PySem.W.Frag} {mg : Str → Option Value} {base : Heap} {H : Hp}
theorem ok_law_meet (L : Lib K mg) {T : List (Addr × Str)} (HH : HL K mg base T) {f : Addr} {fd : FuncData} (F : L2.Fun K "_law_meet" "_law_meet" s_law_meet f fd) : FnOk P w K mg base CX0 5 f fd ["one", "other", "width", "M"] (spLMeet K T) := by
  obtain ⟨f_law_hermite, fd_law_hermite, F_law_hermite⟩ := L.law_hermite
  obtain ⟨f_law_kernel, fd_law_kernel, F_law_kernel⟩ := L.law_kernel
  obtain ⟨f_law_less, fd_law_less, F_law_less⟩ := L.law_less
  have G_law_kernel : FnOk P w K mg base CX0 4 f_law_kernel fd_law_kernel _ (spLKer K T) := ok_law_kernel L HH F_law_kernel.F
  obtain ⟨c, f_law_hermite, fd_law_hermite, Pt, F_law_hermite, FC, TB, hmT, hu⟩ := HH.has
  have G_law_hermite : FnOk P w K mg base CX0 3 f_law_hermite fd_law_hermite _ (spLH K T) := ok_law_hermite L FC TB hmT hu
  have G_law_less : FnOk P w K mg base CX0 1 f_law_less fd_law_less _ (spLawLess K) := ok_law_less L F_law_less.F
  refine F.ok sc_law_meet (fun vs H Q E h => ?_) (fun cdv A outer s H vs Q E hr h => ?_)
  · obtain ⟨p, q, ps, qs, wd, β, φ, M, KD, D, rfl, _⟩ := h; rfl
  · obtain ⟨p, q, ps, qs, wd, β, φ, M, KD, D, rfl, hp, hR, hq, hRq, hm, hwd, hn, hβ, hg, hlen, hbnd, hKD, hK, hkn, hkb, hφ, hfb, hg2, hD, hS, h5, hT, fin⟩ := h
    refine ⟨_, (pss_cons (ps_set (i := 4) sc_law_meet.nd rfl (Or.inl rfl) (pe_call G_law_kernel (hr.mono (by decide)) (by rfl) F_law_kernel.g F_law_kernel.F.kp F_law_kernel.b .nil pass0 (pa_cons (pe_op op_cat (pv 0) (pv 1)) (pa_cons (pv 3) pa_nil))))
    (pss_cons (ps_set (i := 5) sc_law_meet.nd rfl (Or.inl rfl) (pe_lst pa_nil))
    (pss_cons (ps_for PassesOwn.never rfl (pi_list (pv 4)) (pg_name (i := 6) sc_law_meet.nd rfl (Or.inl rfl))
      (pss_cons (ps_set (i := 7) sc_law_meet.nd rfl (Or.inl rfl) (pe_op op_rep (pe_lst (pa_cons pe_int pa_nil)) (pv 2)))
    (pss_cons (ps_for PassesOwn.never rfl (pi_range1 (by rfl) L.range (pa_cons (pe_callB call_len_seq (by rfl) L.len (by decide +kernel) (pa_cons (pv 0) pa_nil)) pa_nil)) (pg_name (i := 8) sc_law_meet.nd rfl (Or.inl rfl))
      (pss_one (ps_set (i := 7) sc_law_meet.nd rfl (Or.inl rfl) (pe_call G_law_less (hr.mono (by decide)) (by rfl) F_law_less.g F_law_less.F.kp F_law_less.b .nil pass0 (pa_cons (pv 7) (pa_cons (pe_ix ix_list (pv 0) (pv 8) (fun _ _ => rfl)) (pa_cons (pe_un un_neg (pe_ix ix_list (pv 6) (pv 8) (fun _ _ => rfl))) (pa_cons (pv 3) pa_nil))))))))
    (pss_one (ps_expr (pe_bm PySem.F.plainAttrs_list PySem.F.slot_list_append PySem.F.type_list_append mt_append (pv 5) (pa_cons (pv 7) pa_nil)))))))
    (pss_one (ps_ret (pe_call G_law_hermite (hr.mono (by decide)) (by rfl) F_law_hermite.g F_law_hermite.F.kp F_law_hermite.b .nil pass0 (pa_cons (pv 5) (pa_cons (pv 2) (pa_cons (pv 3) pa_nil))))))))), ?_⟩
    refine q_asgCallL (xs := adr (ps ++ qs)) (by rw [adr_app]; exact el_catVV (ev_var rfl) hp (ev_var rfl) hq (by rw [adr_len, adr_len]; omega)) (ea_cons (ev_var rfl) ea_nil) fun b H1 e1 nb hb => ?_
    have bl : (ps ++ qs).length = ps.length + qs.length := List.length_append
    refine ⟨b, ps ++ qs, wd, β, 2 ^ 1000, M, KD, rfl, sq_of hb, (hR.ex e1).append (hRq.ex e1), hm, hwd, by omega, hβ, by rw [bl]; exact hg, by rw [rws_app]; exact hlen, by rw [rws_app]; exact hbnd, by rw [bl]; exact hKD, by rw [rws_app]; exact hK, Nat.one_le_two_pow, Nat.pow_lt_pow_right (by decide) (by decide), fun hM => (hkb hM).1, hT.ext e1, fun kp ks H4 x4 T4 hkp nkp hkR hke hkf hkn2 => ?_⟩
    have x04 := (LamX.ExtN.of e1).trans x4
    have kl : ks.length = KD.length := by have := congrArg List.length hke; rw [rws_len, List.length_map] at this; exact this
    have hp4 : H4 p = some (.lst (adr ps)) := extN_lst x04 hp
    have hR4 : Rws H4 ps := extN_rws x04 hR
    refine q_asgL (el_lst ea_nil (by simp)) fun fp H5 nfp e5 hfp => ?_
    refine q_forLn (ev_var rfl) (sq_of (e5 _ _ hkp)) (fun i σ' H' => ∃ (fs : List AR) (v6 v7 v8 : Option V), σ' = [some (.ref p), some (.ref q), some (.int (wd : Nat)), some (.int M), some (.ref kp), some (.ref fp), v6, v7, v8] ∧ Ex H4 H' ∧ H' fp = some (.lst (adr fs)) ∧ Rws H' fs ∧ rws fs = metR M (rws ps) wd ((KD.map (·.2)).take i) ∧ ∀ x ∈ fs, x.1 ≠ fp)
      (fun H6 e6 => ⟨[], _, _, _, rfl, e5.trans e6, e6 _ _ hfp, Rws.nil, rfl, fun x h => absurd h (by simp)⟩) (fun i σ' H' _ ⟨_, _, _, _, _, e, _⟩ => sq_of (e _ _ hkp)) ?_ ?_
    · rintro i x σ' H6 hi ⟨fs, v6, v7, v8, rfl, ex6, hf6, hfR6, hfe6, hfn6⟩
      obtain ⟨y, hy, rfl⟩ := adr_get hi
      have yin := List.mem_of_getElem? hy
      have hil := (List.getElem?_eq_some_iff.mp hy).1
      have hyD : (KD.map (·.2))[i]? = some y.2 := by rw [← hke]; exact rws_at hy
      have yl : y.2.length = ps.length + qs.length := by
        have := hK.len y.2 (List.mem_of_getElem? hyD)
        rw [List.length_append, rws_len, rws_len] at this; exact this
      have fl : fs.length ≤ i := by
        have := congrArg List.length hfe6
        rw [rws_len] at this
        unfold metR at this
        rw [List.length_map, List.length_take] at this; omega
      have cm : ∀ j, ∀ r ∈ rws ps, ∀ c ∈ r, CMulW (-en y.2 j) c := fun j r hr c hc => by
        obtain ⟨j', hj'⟩ := List.getElem?_of_mem hc
        rw [← en_get hj']
        by_cases hM : M = 0
        · obtain ⟨b1, b2⟩ := hkb hM
          have b3 := b1 y.2 (List.mem_of_getElem? hyD) j
          have b4 := b2 r hr j'
          have b5 : (2 : Nat) ^ 1000 < 2 ^ 1001 := Nat.pow_lt_pow_right (by decide) (by decide)
          exact wide_mul (a := 1001) (b := 1001) (by omega) (by omega) (by decide) (by decide) (by decide)
        · have b3 := hKD.rng
          obtain ⟨z, hz, ez⟩ := List.mem_map.mp (List.mem_of_getElem? hyD)
          have b4 := b3 z hz hM j
          rw [ez] at b4
          have b5 := h5 hM r hr j'
          have := hm.pos hM
          exact CMulW_small (by omega) (by omega)
      refine q_asgL (el_rep0 (fun H7 e7 => ev_var rfl) (by omega)) fun z0 H7 nz e7 hz0 => ?_
      have e47 := ex6.trans e7
      refine q_forR1 (n := (ps.length : Nat)) (ea_cons (ev_is (ev_len (ev_var rfl) (sq_of (e47 _ _ hp4))) (by rw [adr_len])) ea_nil) (by omega) (fun k σ' H' => ∃ (ra : Addr) (v8 : Option V), σ' = [some (.ref p), some (.ref q), some (.int (wd : Nat)), some (.int M), some (.ref kp), some (.ref fp), some (.ref y.1), some (.ref ra), v8] ∧ Ex H6 H' ∧ H' ra = some (.lst (iL (sumBy M ((rws ps).take k) (en y.2) (List.replicate wd 0)))) ∧ ra ≠ fp)
        (fun H8 e8 => ⟨z0, _, rfl, e7.trans e8, e8 _ _ hz0, (ne_of_none hf6 nz).symm⟩) ?_ ?_
      · rintro k σ' H8 hk ⟨ra, v8, rfl, e8, hra, raf⟩
        have hk : k < ps.length := by omega
        obtain ⟨z, hz⟩ : ∃ z, ps[k]? = some z := ⟨_, List.getElem?_eq_getElem hk⟩
        have zin := List.mem_of_getElem? hz
        have e48 := ex6.trans e8
        have lt : (sumBy M ((rws ps).take k) (en y.2) (List.replicate wd 0)).length = wd := (sumBy_facts hm (fun r hr => hlen r (List.mem_append_left _ (List.mem_of_mem_take hr))) (by simp) (fun hM j => by rw [en_zero]; have := hm.pos hM; omega)).1
        refine s_asgCall (vs := [.ref ra, .ref z.1, .int (-en y.2 k), .int M]) (ea_cons (ev_var rfl) (ea_cons (ev_ix (ev_var rfl) (ev_var rfl) (sq_of (e48 _ _ hp4)) (atI_nat (adr_at hz))) (ea_cons (ev_neg (ev_ix (ev_var rfl) (ev_var rfl) (sq_of (e48 _ _ (hkR y yin))) (iL_en (by omega)))) (ea_cons (ev_var rfl) ea_nil)))) fun H9 e9 => ?_
        refine ⟨ra, z.1, _, z.2, _, M, rfl, e9 _ _ hra, (hR4.ex (e48.trans e9)).seq zin, by omega, hm.nonneg, fun b hb => cm k z.2 (mem_rws zin) b hb, fun a2 H10 e10 ha2 na2 => ⟨a2, _, rfl, (e8.trans e9).trans e10, ?_, ?_⟩⟩
        · rw [sumBy_take (rws_at hz), Int.zero_sub]; exact ha2
        · rcases na2 with h | h
          · rw [h]; exact raf
          · exact (ne_of_none ((e8.trans e9) _ _ hf6) h).symm
      · rintro σ' H8 ⟨ra, v8, rfl, e8, hra, raf⟩
        rw [Int.toNat_natCast, List.take_of_length_le (by rw [rws_len]; exact Nat.le_refl _)] at hra
        refine s_app (e8 _ _ hf6) (ev_var rfl) (ev_var rfl) (by rw [adr_len]; omega) fun H9 e9 => ?_
        have e69 := e8.trans e9
        have nfp4 : H4 fp = none := nfp
        refine ⟨fs ++ [(ra, sumBy M (rws ps) (en y.2) (List.replicate wd 0))], _, _, _, rfl, Ex.mut (ex6.trans e69) nfp4, by rw [upd_same, adr_app]; rfl, ?_, ?_, fun x hx => ?_⟩
        · refine Rws.append ((hfR6.ex e69).upd hfn6) fun x hx => ?_
          rw [List.mem_singleton.mp hx, upd_ne raf]; exact e9 _ _ hra
        · rw [rws_app, hfe6]
          unfold metR
          rw [List.take_add_one, hyD, List.map_append]; rfl
        · rcases List.mem_append.mp hx with h | h
          · exact hfn6 x h
          · rw [List.mem_singleton.mp h]; exact raf
    · rintro σ' H6 ⟨fs, v6, v7, v8, rfl, ex6, hf6, hfR6, hfe6, hfn6⟩
      rw [adr_len, List.take_of_length_le (by rw [List.length_map]; omega)] at hfe6
      have fl : fs.length = KD.length := by have := congrArg List.length hfe6; rw [rws_len] at this; unfold metR at this; rw [List.length_map, List.length_map] at this; exact this
      refine s_retCall (ea_cons (ev_var rfl) (ea_cons (ev_var rfl) (ea_cons (ev_var rfl) ea_nil))) fun H7 e7 => ?_
      have e47 := ex6.trans e7
      have x07 := x04.trans (LamX.ExtN.of e47)
      refine ⟨fp, fs, wd, φ, M, D, false, rfl, sq_of (e7 _ _ hf6), hfR6.ex e7, hm, by omega, by omega, hφ, ?_, fun r hr => ?_, fun hM => by rw [hfe6]; exact hfb hM, fun h => absurd h (by decide), hD, by rw [hfe6]; exact hS, T4.ext e47, fun a us H8 x8 T8 ha na hu2 eu nu neu => ?_⟩
      · unfold bJ; rw [if_neg (by decide)]
        exact Nat.lt_of_le_of_lt (gI_mono hφ (by omega)) hg2
      · rw [hfe6] at hr
        obtain ⟨x, hx, rfl⟩ := List.mem_map.mp hr
        exact (sumBy_facts hm (fun r hr => hlen r (List.mem_append_left _ hr)) (by simp) (fun hM j => by rw [en_zero]; have := hm.pos hM; omega)).1
      · exact fin a us H8 (x07.trans x8) T8 ha (NewN.back x07 na) hu2 eu (fun x hx => NewN.back x07 (nu x hx)) neu
end
end Mine
set_option Elab.async false
set_option linter.all false
set_option maxRecDepth 100000
set_option maxHeartbeats 4000000
namespace Mine
open PySem PySem.Spec PyProof.Rows L2 Evl
section
variable {K : PySem.W.Frag} {s g : Addr} {σ : L2.St} {H H' : Hp} {ta : TA} {tb te tx tl : TE} {t u : TT} {x y z v w1 : V} {D : Ends} {tu tw tz : TS}
/-- [draw for k in range(n)] -/
theorem elk_lcN {j : Nat} {vs : List Nat} {n : Nat} (P : Nat → V → Prop) (h : ∀ H1, Le s g H H1 → EvA ta σ H1 [.int (n : Nat)]) (hn : n ≤ 40000) (hw : ∀ x, wipe ((wipe σ vs).set j (some x)) vs = wipe σ vs)
    (he : ∀ (i : Nat), i < n → EvK s g te ((wipe σ vs).set j (some (.int (i : Nat)))) H (P i)) : ElK s g (tLc (iRng1 ta) (gName j) tYes te vs) σ H (fun zs => zs.length = n ∧ ∀ i z, zs[i]? = some z → P i z) := fun H0 e0 Q q => h H0 e0 H0 (Ex.refl H0) _ fun H1 e1 => ⟨(n : Nat), rfl, by omega, by omega, fun Dl hD => by
  have L1 := e0.trans (Le.of e0.src e1)
  refine lc_range (lo := 0) (n := Int.toNat (n : Nat)) (fun i H' => ∃ zs : List V, Le s g H1 H' ∧ H' Dl = some (.lst zs) ∧ zs.length = i ∧ ∀ i z, zs[i]? = some z → P i z) ⟨[], Le.of L1.src (Ex.new hD), upd_same, rfl, fun i z h => by simp at h⟩
    (fun i H' hi ⟨zs, e, hl, hq, hp⟩ => by
      rw [Int.toNat_natCast] at hi
      have ez : (0 : Int) + (i : Int) = (i : Int) := Int.zero_add _
      rw [ez]
      refine ⟨hw _, yes_turn ?_⟩
      refine he i hi H' (L1.trans e) _ fun v H2 e2 pv => ?_
      have hl2 := e2.lst e.src hl (L1.src.newG hD)
      refine ⟨_, hl2, sz_lt (by omega), zs ++ [v], (e.trans e2).mut L1.src hD, upd_same, by rw [List.length_append, hq]; rfl, fun k z hk => ?_⟩
      rw [List.getElem?_append] at hk
      split at hk
      · exact hp k z hk
      · have hkl := (List.getElem?_eq_some_iff.mp hk).1
        have : k = i := by simp at hkl; omega
        subst this
        rw [hq, Nat.sub_self] at hk
        rw [← Option.some.inj hk]; exact pv)
    (fun H' ⟨zs, e, hl, hq, hp⟩ => q Dl zs H' (fresh_back e1 hD) ((Le.of e0.src e1).trans e) hl ⟨by rw [hq, Int.toNat_natCast], hp⟩)⟩
/-- rows of drawn numbers, over range(n) -/
theorem elk_lcNR {j : Nat} {vs : List Nat} {n : Nat} (P : Row → Prop) (hs : Src s g H) (h : EvA ta σ H [.int (n : Nat)]) (hn : n ≤ 40000) (hw : ∀ x, wipe ((wipe σ vs).set j (some x)) vs = wipe σ vs)
    (he : ∀ (i : Nat), i < n → ElK s g te ((wipe σ vs).set j (some (.int (i : Nat)))) H (fun zs => ∃ r, zs = iL r ∧ P r)) {Q : VK}
    (q : ∀ (p : Addr) (qs : List AR) (H2 : Hp), Own s g H H2 p qs → qs.length = n → (∀ y ∈ qs, P y.2) → Q (.ref p) H2) : tLc (iRng1 ta) (gName j) tYes te vs σ H Q := h H (Ex.refl H) _ fun H1 e1 => ⟨(n : Nat), rfl, by omega, by omega, fun Dl hD => by
  have L1 := Le.of hs e1
  have nD := fresh_back e1 hD
  exact lc_range (lo := 0) (n := Int.toNat (n : Nat)) (fun i H' => ∃ qs : List AR, Own s g H H' Dl qs ∧ qs.length = i ∧ ∀ y ∈ qs, P y.2) ⟨[], ⟨L1.trans (Le.of L1.src (Ex.new hD)), nD, upd_same, Rws.nil, fun x h => absurd h (by simp)⟩, rfl, fun y h => absurd h (by simp)⟩
    (fun i H' hi ⟨qs, o, hq, hp⟩ => by
      rw [Int.toNat_natCast] at hi
      have ez : (0 : Int) + (i : Int) = (i : Int) := Int.zero_add _
      rw [ez]
      refine ⟨hw _, yes_turn ?_⟩
      refine he i hi H' o.le _ fun v zs H2 nv e2 hv ⟨r, hr, pr⟩ => ?_
      subst hr
      have o2 := o.to hs e2
      have vD : v ≠ Dl := (ne_of_none o.lst nv).symm
      refine ⟨_, o2.lst, sz_lt (by rw [adr_len]; omega), qs ++ [(v, r)], o2.app hs hv (o.le.back nv) vD, by rw [List.length_append, hq]; rfl, fun y hy => ?_⟩
      rcases List.mem_append.mp hy with h | h
      · exact hp y h
      · rw [List.mem_singleton.mp h]; exact pr)
    (fun H' ⟨qs, o, hq, hp⟩ => by rw [Int.toNat_natCast] at hq; exact q Dl qs H' o hq hp)⟩
end
end Mine
set_option Elab.async false
set_option linter.all false
set_option maxRecDepth 100000
set_option maxHeartbeats 4000000
namespace Mine
open PySem PySem.Spec PyProof.Rows L2 Evl
/-- a table's row: its width, its numbers' size, their range -/
structure TabR (M : Int) (wd : Nat) (r : Row) : Prop where
  len : r.length = wd
  bnd : ∀ j, (en r j).natAbs ≤ 8000000
  rng : Rng M r
theorem sumT_rng {M : Int} (hm : Md M) : ∀ {rs : List Row} {ks : List Int} {t : Row}, Rng M t → Rng M (sumT rs ks t M)
  | [], ks, t, h => by
    have : sumT [] ks t M = t := by cases ks <;> rfl
    rw [this]; exact h
  | r :: rs, [], t, h => h
  | r :: rs, k :: ks, t, h => sumT_rng hm (rs := rs) (ks := ks) (t := addT t r k M) (plainRow_rng hm)
theorem rng_zero {M : Int} (hm : Md M) {n : Nat} : Rng M (List.replicate n 0) := fun hM j => by
  rw [en_zero]; have := hm.pos hM; omega
theorem cutV_init (ys : List V) : cutV ys none (some (-1)) = ys.take (ys.length - 1) := by
  unfold cutV
  have e : HT.sIx ys.length ys.length (some (-1)) = ys.length - 1 := by
    show (if (-1 : Int) < 0 then ((-1 : Int) + (ys.length : Int)).toNat else min (-1 : Int).toNat ys.length) = _
    rw [if_pos (by decide)]; omega
  rw [e, HT.sIx_none, Nat.sub_zero, List.drop_zero]
theorem numOk_row {M : Int} (hm : Md M) {wd : Nat} {r : Row} (hl : r.length = wd) (h : ∀ (i : Nat) (k : Int), r[i]? = some k → NumOk M k) : TabR M wd r ∧ ∀ j, (en r j).natAbs ≤ 1000000 := by
  have gen : ∀ j, (M ≠ 0 → 0 ≤ en r j ∧ en r j < M) ∧ (en r j).natAbs ≤ 1000000 := fun j => by
    rcases Nat.lt_or_ge j r.length with hj | hj
    · have := h j (en r j) (en_lt hj)
      refine ⟨this.1, ?_⟩
      by_cases hM : M = 0
      · have := this.2 hM; omega
      · have h1 := this.1 hM
        have := hm.pos hM
        omega
    · rw [en_ge hj]
      refine ⟨fun hM => ?_, by decide⟩
      have := hm.pos hM; omega
  exact ⟨⟨hl, fun j => Nat.le_trans (gen j).2 (by decide), fun hM j => (gen j).1 hM⟩, fun j => (gen j).2⟩
def spTab : Sp := fun vs H Q _ => ∃ (s g : Addr) (wd : Nat) (M : Int), vs = [.ref s, .int (wd : Nat), .int M] ∧ Src s g H ∧ Md M ∧ 1 ≤ wd ∧ wd ≤ 3 ∧ ∀ (p : Addr) (ps : List AR) (H' : Hp), Own s g H H' p ps → ps.length ≤ 3 → (∀ x ∈ ps, TabR M wd x.2) → Q (.ref p) H'
/-- a test that may draw -/
def EtK (s g : Addr) (t : TT) (σ : L2.St) (H : Hp) (P : Bool → Prop) : Prop := ∀ H1, Le s g H H1 → ∀ Q : Bool → Hp → Prop, (∀ b H2, Le s g H1 H2 → P b → Q b H2) → t σ H1 Q
theorem Own.from {s g p : Addr} {H H1 H' : Hp} {ps : List AR} (e : Le s g H H1) (o : Own s g H1 H' p ps) : Own s g H H' p ps :=
  ⟨e.trans o.le, e.back o.np, o.lst, o.rws, fun x hx => ⟨e.back (o.fr x hx).1, (o.fr x hx).2⟩⟩
theorem adr_take {ps : List AR} {n : Nat} : (adr ps).take n = adr (ps.take n) := by unfold adr; rw [List.map_take]
theorem rws_take {ps : List AR} {n : Nat} : (rws ps).take n = rws (ps.take n) := by unfold rws; rw [List.map_take]
section
variable {K : PySem.W.Frag} {s g : Addr} {σ : L2.St} {H H' : Hp} {tb te tt tx tl : TE} {t u : TT} {A : Int → Prop} {D : Ends} {tu tw tz : TS} {P P' : Bool → Prop}
theorem evk_num {ta : TA} {E : XK} {M : Int} (ha : ∀ H1, Le s g H H1 → EvA ta σ H1 [.ref s, .int M]) (hm : Md M) : EvK s g (tCall spNum [] E ta) σ H (isI (NumOk M)) := fun H1 e Q q => ha H1 e H1 (Ex.refl H1) _ fun H2 e2 => ⟨s, g, M, rfl, e.src.ex e2, hm, fun k H3 e3 hk => q _ H3 ((Le.of e.src e2).trans e3) ⟨k, rfl, hk⟩⟩
theorem q_lcK {j : Nat} {vs : List Nat} {Q : VK} {gg : TG} (hs : Src s g H) (h : EvK s g te σ H (isI A)) (k : ∀ n H1, Le s g H H1 → A n → tLc (iRng1 (fun _ H Q => Q [.int n] H)) gg t tb vs σ H1 Q) : tLc (iRng1 (tCons te tNil)) gg t tb vs σ H Q := h H (Le.refl hs) _ fun v H1 e ⟨n, hv, hn⟩ => by
  subst hv; exact k n H1 e hn
theorem q_asgLcK {i : Nat} {vs : List Nat} {gg : TG} {D : Ends} {tz : TS} (hs : Src s g H) (h : EvK s g te σ H (isI A)) (k : ∀ n H1, Le s g H H1 → A n → tLc (iRng1 (fun _ H Q => Q [.int n] H)) gg t tb vs σ H1 fun x H2 => tz D (σ.set i (some x)) H2) : tSeq (tAsg (tLc (iRng1 (tCons te tNil)) gg t tb vs) (gName i)) tz D σ H := q_lcK (j := 0) hs h k
theorem etk_of {b : Bool} (h : ∀ H1, Le s g H H1 → EvT t σ H1 b) : EtK s g t σ H fun c => c = b := fun H1 e Q q => h H1 e H1 (Ex.refl H1) Q fun H2 e2 => q b H2 (Le.of e.src e2) rfl
theorem etk_and (h1 : EtK s g t σ H P) (h2 : EtK s g u σ H P') : EtK s g (tAnd t u) σ H fun c => c = true → P true ∧ P' true := fun H1 e Q q => h1 H1 e _ fun b H2 e2 pb => by
  cases b with
  | true =>
    show u σ H2 Q
    refine h2 H2 (e.trans e2) Q fun c H3 e3 pc => q c H3 (e2.trans e3) fun hc => ?_
    subst hc; exact ⟨pb, pc⟩
  | false =>
    show Q false H2
    exact q false H2 e2 fun h => nomatch h
theorem etk_eq {j : Int} (ha : EvK s g te σ H (isI A)) (hb : ∀ H1, Ev tb σ H1 (.int j)) : EtK s g (tTest (tOp rEq te tb)) σ H fun _ => True := fun H1 e Q q => etk_eq0 ha hb H1 e Q fun i H2 e2 _ => q _ H2 e2 trivial
theorem q_whenKJ {J : Hp → Prop} (hs : Src s g H) (h : EtK s g t σ H P) (rest : ∀ H2, J H2 → tz D σ H2) (h1 : P true → ∀ H1, Le s g H H1 → (∀ H2, J H2 → tz D σ H2) → tu { D with nx := tz D } σ H1) (h2 : P false → ∀ H1, Le s g H H1 → J H1) : tSeq (tIfS t tu tNext) tz D σ H := h H (Le.refl hs) _ fun b H1 e pb => by
  cases b with
  | true => exact h1 pb H1 e rest
  | false => exact rest H1 (h2 pb H1 e)
/-- [draw for x in a new list] -/
theorem elk_lcNew {xs : List V} {j : Nat} {vs : List Nat} (P : Nat → V → Prop) (h : ∀ H1, Le s g H H1 → EvL tl σ H1 xs) (hz : xs.length ≤ 40000) (hw : ∀ x, wipe ((wipe σ vs).set j (some x)) vs = wipe σ vs)
    (he : ∀ (i : Nat) (x : V), xs[i]? = some x → EvK s g te ((wipe σ vs).set j (some x)) H (P i)) : ElK s g (tLc (iList K tl) (gName j) tYes te vs) σ H (fun zs => zs.length = xs.length ∧ ∀ i z, zs[i]? = some z → P i z) := fun H0 e0 Q q =>
  h H0 e0 H0 (Ex.refl H0) _ fun a H1 na e1 ha => by
    have L1 := e0.trans (Le.of e0.src e1)
    exact (elk_lc (K := K) (tl := fun _ H Q => Q (.ref a) H) P (fun H2 _ => ev_raw) L1.src ha (e0.src.newG na) hz hw fun i x hx => (he i x hx).mono L1) H1 (Le.refl L1.src) Q fun p zs H2 np e2 hp hP => q p zs H2 (fresh_back e1 np) ((Le.of e0.src e1).trans e2) hp hP
end
section
variable {P : Program} {w : World} {K : PySem.W.Frag} {mg : Str → Option Value} {base : Heap} {H : Hp}
theorem ok_law_c_table (L : Lib K mg) {f : Addr} {fd : FuncData} (F : L2.Fun K "_law_c_table" "_law_c_table" s_law_c_table f fd) : FnOk P w K mg base CX0 4 f fd ["s", "width", "M"] spTab := by
  obtain ⟨f_law_c_number, fd_law_c_number, F_law_c_number⟩ := L.law_c_number
  obtain ⟨f_law_c_sum, fd_law_c_sum, F_law_c_sum⟩ := L.law_c_sum
  obtain ⟨f_law_pick, fd_law_pick, F_law_pick⟩ := L.law_pick
  obtain ⟨f_law_within, fd_law_within, F_law_within⟩ := L.law_within
  have G_law_c_number : FnOk P w K mg base CX0 3 f_law_c_number fd_law_c_number _ spNum := ok_law_c_number L F_law_c_number.F
  have G_law_pick : FnOk P w K mg base CX0 1 f_law_pick fd_law_pick _ spPick := ok_law_pick L F_law_pick.F
  have G_law_within : FnOk P w K mg base CX0 2 f_law_within fd_law_within _ spWithin := ok_law_within L F_law_within.F
  have G_law_c_sum : FnOk P w K mg base CX0 3 f_law_c_sum fd_law_c_sum _ (spSum K) := ok_law_c_sum L F_law_c_sum.F
  refine F.ok sc_law_c_table (fun vs H Q E h => ?_) (fun cdv A outer s H vs Q E hr h => ?_)
  · obtain ⟨s, g, wd, M, rfl, _⟩ := h; rfl
  · obtain ⟨s, g, wd, M, rfl, hs, hm, hw1, hw3, fin⟩ := h
    refine ⟨_, (pss_cons (ps_setLc (i := 3) (own := [("j", 4)]) (g := gName 4) (tt := tYes) rfl sc_law_c_table.nd rfl rfl (sw_true rfl rfl rfl (by decide +kernel)) (pi_range1 (by rfl) L.range (pa_cons (pe_call G_law_pick (hr.mono (by decide)) (by rfl) F_law_pick.g F_law_pick.F.kp F_law_pick.b .nil pass0 (pa_cons (pv 0) (pa_cons pe_int pa_nil))) pa_nil)) (blkOk_by (own := [("j", 4)]) (N := N_law_c_table) (sc := defScope s_law_c_table) (by decide +kernel)) (fun _ _ _ _ _ => (pg_name (i := 4) sc_law_c_table.nd rfl (Or.inl rfl))) (fun _ _ _ _ _ => pts_nil) (fun _ _ _ _ _ => (pe_lc (own := [("k", 5)]) (g := gName 5) (tt := tYes) rfl sc_law_c_table.nd (pi_range1 (by rfl) L.range (pa_cons (pv 1) pa_nil)) (blkOk_nest (own := [("k", 5)]) (N := N_law_c_table) (sc := { kind := .function, names := [(".0", .local), ("j", .local), ("range", .globalImplicit), ("M", .cell), ("s", .cell), ("width", .cell)], isGenerator := false, isCoroutine := false }) (by decide +kernel)) (fun _ _ _ _ _ => (pg_name (i := 5) sc_law_c_table.nd rfl (Or.inl rfl))) (fun _ _ _ _ _ => pts_nil) (fun _ _ _ _ _ => (pe_call G_law_c_number (hr.mono (by decide)) (by rfl) F_law_c_number.g F_law_c_number.F.kp F_law_c_number.b .nil pass0 (pa_cons (pv 0) (pa_cons (pv 2) pa_nil)))))))
    (pss_cons (ps_if (PW.pt (pw_and (pt_cmpR op_gt (pe_callB call_len_seq (by rfl) L.len (by decide +kernel) (pa_cons (pv 3) pa_nil)) pe_int (nomark _)) (pw_and1 (pt_cmpR op_eq (pe_call G_law_pick (hr.mono (by decide)) (by rfl) F_law_pick.g F_law_pick.F.kp F_law_pick.b .nil pass0 (pa_cons (pv 0) (pa_cons pe_int pa_nil))) pe_int (nomark _)))))
      (pss_one (ps_asg (pe_call G_law_c_sum (hr.mono (by decide)) (by rfl) F_law_c_sum.g F_law_c_sum.F.kp F_law_c_sum.b .nil pass0 (pa_cons (pe_slice sl_list (pv 3) po_none (po_some (pe_un un_neg pe_int))) (pa_cons (pe_lc (own := [("row", 6)]) (g := gName 6) (tt := tYes) rfl sc_law_c_table.nd (pi_list (pe_slice sl_list (pv 3) po_none (po_some (pe_un un_neg pe_int)))) (blkOk_by (own := [("row", 6)]) (N := N_law_c_table) (sc := defScope s_law_c_table) (by decide +kernel)) (fun _ _ _ _ _ => (pg_name (i := 6) sc_law_c_table.nd rfl (Or.inl rfl))) (fun _ _ _ _ _ => pts_nil) (fun _ _ _ _ _ => (pe_call G_law_within (hr.mono (by decide)) (by rfl) F_law_within.g F_law_within.F.kp F_law_within.b .nil pass0 (pa_cons (pv 0) (pa_cons (pe_op op_sub pe_int pe_int) (pa_cons pe_int pa_nil)))))) (pa_cons (pv 1) (pa_cons (pv 2) pa_nil))))) (pg_sub (pv 3) (pe_op op_sub (pe_callB call_len_seq (by rfl) L.len (by decide +kernel) (pa_cons (pv 3) pa_nil)) pe_int) set_list)))
      pss_nil)
    (pss_one (ps_ret (pv 3))))), ?_⟩
    refine q_asgLcK hs (evk_pick (n := 4) (fun H1 e1 => ea_cons (ev_var rfl) (ea_cons ev_c ea_nil)) (by omega)) fun n H1 e1 hn => ?_
    have hn4 := hn.lt (by omega)
    obtain ⟨m, rfl⟩ : ∃ m : Nat, n = (m : Int) := ⟨n.toNat, by omega⟩
    refine elk_lcNR (fun r => r.length = wd ∧ ∀ (i : Nat) (k : Int), r[i]? = some k → NumOk M k) e1.src ea_raw (by omega) (fun _ => rfl) (fun i hi => ?_) fun p qs H2 o2 hq hP => ?_
    · refine (elk_lcN (n := wd) (fun _ v => ∃ k, v = .int k ∧ NumOk M k) (fun H3 e3 => ea_cons (ev_var rfl) ea_nil) (by omega) (fun _ => rfl) fun j hj => ?_).imp fun zs ⟨h1, h2⟩ => ?_
      · exact evk_num (fun H3 e3 => ea_cons (ev_var rfl) (ea_cons (ev_var rfl) ea_nil)) hm
      · obtain ⟨r, rfl, hr⟩ := all_ints (P := fun _ => NumOk M) h2
        exact ⟨r, rfl, by rw [← h1, iL_len], hr⟩
    · have O2 := o2.from e1
      have hT : ∀ x ∈ qs, TabR M wd x.2 ∧ ∀ j, (en x.2 j).natAbs ≤ 1000000 := fun x hx => numOk_row hm (hP x hx).1 (hP x hx).2
      refine q_whenKJ (J := fun H3 => ∃ qs' : List AR, Own s g H H3 p qs' ∧ qs'.length ≤ 3 ∧ ∀ x ∈ qs', TabR M wd x.2) O2.le.src (etk_and (etk_of (b := decide (1 < qs.length)) fun H3 e3 => et_test (ev_is (ev_gt (ev_len (ev_var rfl) (sq_of (O2.to hs e3).lst)) ev_c) (by rw [adr_len]; simp; omega)))
        (etk_eq (evk_pick (n := 3) (fun H3 e3 => ea_cons (ev_var rfl) (ea_cons ev_c ea_nil)) (by omega)) fun H3 => ev_c)) (fun H3 ⟨qs', o3, l3, t3⟩ => s_ret (ev_var rfl) fun H4 e4 => fin p qs' H4 (o3.ex hs e4) l3 t3) (fun hb H3 e3 rest => ?_) (fun hb H3 e3 => ⟨qs, O2.to hs e3, by omega, fun x hx => (hT x hx).1⟩)
      have h1q : 1 < qs.length := by simpa using (hb rfl).1.symm
      have O3 := O2.to hs e3
      -- rows[:-1]
      have sl : ∀ {σ' : L2.St} {H1 : Hp}, Own s g H H1 p qs → σ'[3]? = some (some (.ref p)) → EvL (tSl (rSlL K) (tVar 3) tNoPart (tPart (tUn (rU fun i => .int (-i)) (tC (.int 1))))) σ' H1 (adr (qs.take (qs.length - 1))) := fun {σ' H1} o h => by
        have := el_sl (K := K) (lo := none) (hi := some (-1)) (σ := σ') (H := H1) (te := tVar 3) (th := tPart (tUn (rU fun i => .int (-i)) (tC (.int 1)))) (ev_var h) eo_none (eo_some (ev_un ev_c ru_neg)) (sq_of o.lst)
        rw [cutV_init, adr_len, adr_take] at this
        exact this
      refine sl O3 rfl H3 (Ex.refl _) _ fun p4 H4 np4 e4 hp4 => ?_
      have O4 := O3.ex hs e4
      have g4 : p4 ≠ g := O3.le.src.newG np4
      refine (elk_lcNew (K := K) (s := s) (g := g) (H := H4) (fun _ v => ∃ k, v = .int k ∧ (-3 ≤ k ∧ k ≤ 3)) (fun H5 e5 => sl (O4.to hs e5) rfl) (by rw [adr_len, List.length_take]; omega) (fun _ => rfl) (fun i x hx => ?_)) H4 (Le.refl O4.le.src) _ fun p5 zs H5 np5 e5 hp5 ⟨hl5, hz5⟩ => ?_
      · exact (evk_within (lo := 0 - 3) (hi := 3) (fun H5 e => ea_cons (ev_var rfl) (ea_cons (ev_sub ev_c ev_c) (ea_cons ev_c ea_nil))) (by decide) (by decide)).imp fun v ⟨k, hv, hk⟩ => ⟨k, hv, by omega⟩
      · obtain ⟨ks, rfl, hks⟩ := all_ints (P := fun _ k => -3 ≤ k ∧ k ≤ 3) hz5
        have O5 := O4.to hs e5
        have hks' : ∀ k ∈ ks, -3 ≤ k ∧ k ≤ 3 := fun k hk => by
          obtain ⟨i, hi⟩ := List.getElem?_of_mem hk
          exact hks i k hi
        have hp45 := e5.lst O4.le.src hp4 g4
        refine ⟨_, rfl, _, rfl, ?_⟩
        have sub : ∀ x ∈ qs.take (qs.length - 1), x ∈ qs := fun x hx => List.mem_of_mem_take hx
        have lk : ks.length = (qs.take (qs.length - 1)).length := by rw [← iL_len, hl5, adr_len]
        have lens : ∀ r ∈ rws (qs.take (qs.length - 1)), r.length = wd ∧ ∀ j, (en r j).natAbs ≤ 1000000 := fun r hr => by
          obtain ⟨x, hx, rfl⟩ := List.mem_map.mp hr
          exact ⟨(hT x (sub x hx)).1.len, (hT x (sub x hx)).2⟩
        refine ⟨p4, p5, qs.take (qs.length - 1), ks, wd, M, rfl, sq_of hp45, O5.rws.sub sub, sq_of hp5, lk, by rw [List.length_take]; omega, by omega, hm.nonneg, fun r hr => (lens r hr).1, fun k hk r hr j => CMulW_small (by have := hks' k hk; omega) (by have := (lens r hr).2 j; omega), fun p6 H6 np6 e6 hp6 => ?_⟩
        have O6 := O5.ex hs e6
        refine ⟨_, rfl, ?_⟩
        refine (ev_sub (ev_len (K := K) (ta := tVar 3) (σ := [some (.ref s), some (.int (wd : Nat)), some (.int M), some (.ref p), none, none, none]) (ev_var rfl) (sq_of O6.lst)) ev_c) H6 (Ex.refl _) _ fun H7 e7 => ?_
        have O7 := O6.ex hs e7
        refine ⟨p, adr qs, _, qs.length - 1, rfl, rfl, O7.lst, ?_, ?_⟩
        · rw [adr_len, show ((qs.length : Int) - 1) = ((qs.length - 1 : Nat) : Int) by omega]; exact ixN_nat (by omega)
        · refine rest _ ⟨qs.set (qs.length - 1) (p6, sumT (rws (qs.take (qs.length - 1))) ks (List.replicate wd 0) M), O7.put hs (e7 _ _ hp6) (O5.le.back np6) (ne_of_none O5.lst np6).symm, by rw [List.length_set]; omega, fun x hx => ?_⟩
          rcases mem_set_or hx with h | h
          · rw [h]
            have hsb := sum_bnd (M := M) hm (B := 1000000) (wd := wd) (by decide) (rs := rws (qs.take (qs.length - 1))) (ks := ks) (t := List.replicate wd 0) (C := 0) (fun k hk => by have := hks' k hk; omega) (fun r hr => (lens r hr).1) (by simp) (fun r hr => (lens r hr).2) (fun j => by rw [en_zero]; decide)
            refine ⟨sumT_len (fun r hr => (lens r hr).1) (by simp), fun j => ?_, sumT_rng hm (rng_zero hm)⟩
            show (en (sumT (rws (qs.take (qs.length - 1))) ks (List.replicate wd 0) M) j).natAbs ≤ 8000000
            have h1 := hsb j
            rw [rws_len, List.length_take] at h1
            have h2 : min (qs.length - 1) qs.length * (4 * 1000000) ≤ 2 * (4 * 1000000) := Nat.mul_le_mul_right _ (by omega)
            omega
          · exact (hT x h).1
end
end Mine
set_option Elab.async false
set_option linter.all false
set_option maxRecDepth 100000
set_option maxHeartbeats 4000000
namespace Mine
open PySem PySem.Spec PyProof.Rows L2 Evl
/-! ### the reduced form, its bounds; what lies in it -/
theorem herm_ro {M : Int} {wd β : Nat} {R : List Row} (hm : Md M) (hβ : 1 ≤ β) (hl : ∀ r ∈ R, r.length = wd) (hb : M = 0 → Bnd β R) (hn : R.length ≤ 6) (hg : gI β (R.length - 1) < 2 ^ 8999) :
    ∃ D, Herm M wd D ∧ SameL M R (D.map (·.2)) ∧ D.length ≤ R.length ∧ ∀ o ∈ D.map (·.2), RO M wd o := by
  obtain ⟨L, left, T⟩ := TJ.ex (w := wd) hm hβ (k := wd) (c := 0) (by omega) (TJ.start (M := M) (β := β) (n := R.length) (tr := false) (left := R.map fun r => plainRow r M) (fun r hr => by
    obtain ⟨s, hs, rfl⟩ := List.mem_map.mp hr
    rw [plainRow_len]; exact hl s hs) (fun r hr => by
    obtain ⟨s, hs, rfl⟩ := List.mem_map.mp hr
    exact plainRow_rng hm) (fun hM r hr j => by
    obtain ⟨s, hs, rfl⟩ := List.mem_map.mp hr
    rw [hM, plainRow_0]; exact hb hM s hs j) (by rw [List.length_map]; exact Nat.le_refl _) (fun h => nomatch h))
  rw [Nat.zero_add] at T
  refine ⟨L, ⟨T.ech, T.lenL, T.red, T.rngL⟩, (plainRow_same R).trans T.all, by have := T.cnt; omega, ro_tj T ?_ hn⟩
  unfold bJ; rw [if_neg (by decide), Nat.min_eq_right (by omega)]; exact hg
theorem ro_bnd {M : Int} {wd : Nat} {D : List (Nat × Row)} (h : Herm M wd D) (hb : M = 0 → Bnd (2 ^ 2000) (D.map (·.2))) : ∀ o ∈ D.map (·.2), RO M wd o := fun o ho => by
  obtain ⟨d, hd, rfl⟩ := List.mem_map.mp ho
  obtain ⟨_, h1, h2, h3, h4⟩ := h.ech.all d hd
  have hl := h.len d hd
  have fp : firstP d.2 = d.1 := firstP_at (en_lt (by omega)) (by omega) h2
  refine ⟨hl, by rw [fp]; exact h1, by rw [fp]; omega, ?_, fun hM j => Nat.le_trans (hb hM _ ho j) (Nat.pow_le_pow_right (by decide) (by decide)), h.rng d hd⟩
  rw [fp]
  by_cases hM : M = 0
  · exact Nat.lt_of_le_of_lt (hb hM _ ho _) (Nat.pow_lt_pow_right (by decide) (by decide))
  · rw [h4 hM]
    exact Nat.lt_of_lt_of_le (show (1 : Int).natAbs < 2 ^ 4 by decide) (Nat.pow_le_pow_right (by decide) (by decide))
theorem inL_far {M : Int} {wd : Nat} : ∀ {R : List Row} {v : Nat → Int}, (∀ r ∈ R, r.length = wd) → InL M R v → ∀ j, wd ≤ j → M ∣ v j := fun {R v} hl h j hj => by
  obtain ⟨x, hx⟩ := inL_comb.mp h
  have := hx j
  rw [comb_far hl j hj, Int.sub_zero] at this
  exact this
theorem inside_iff {M : Int} {wd : Nat} {D : List (Nat × Row)} {row : Row} (hm : Md M) (H : Herm M wd D) (hrow : row.length = wd) : isZ (restOf (D.map (·.2)) row M) = true ↔ InL M (D.map (·.2)) (en row) := by
  have e : restOf (D.map (·.2)) row M = redAll M D (plainRow row M) := by
    unfold restOf; exact restOf_red (ech_first H.ech H.len)
  have lp : (plainRow row M).length = wd := (plainRow_len _ _).trans hrow
  have z := redAll_zero (c := wd) (Z := []) hm H.ech H.len (fun x hx => (H.ech.all x hx).2.1) (fun r h => absurd h (by simp)) lp (plainRow_rng hm)
  have lr := (redAll_facts hm H.ech H.len lp (plainRow_rng hm)).1
  rw [e, isZ_iff, lr, z]
  have hl : ∀ r ∈ D.map (·.2), r.length = wd := fun r hr => by
    obtain ⟨x, hx, rfl⟩ := List.mem_map.mp hr
    exact H.len x hx
  constructor
  · rintro ⟨u, hu, hj⟩
    rw [List.append_nil] at hu
    refine hu.congr fun j => ?_
    have pd := plainRow_dvd row M j
    rcases Nat.lt_or_ge j wd with h | h
    · have e : u j - en row j = (en (plainRow row M) j - en row j) - (en (plainRow row M) j - u j) := by omega
      rw [e]; exact Int.dvd_sub pd (hj j h)
    · rw [en_ge (show row.length ≤ j by omega), Int.sub_zero]; exact inL_far hl hu j h
  · intro h
    exact ⟨en row, by rw [List.append_nil]; exact h, fun j _ => plainRow_dvd row M j⟩
theorem addT_dvd {r o : Row} {k M : Int} (h : r.length = o.length) (j : Nat) : M ∣ en (addT r o k M) j - (en r j + k * en o j) := by
  have := plainRow_dvd (List.zipWith (fun a b => a + k * b) r o) M j
  rw [en_zip (by simp) h] at this
  exact this
theorem sumT_comb {M : Int} {wd : Nat} : ∀ {rs : List Row} {ks : List Int} {t : Row}, (∀ r ∈ rs, r.length = wd) → t.length = wd → ks.length = rs.length → ∀ j, M ∣ en (sumT rs ks t M) j - (en t j + comb rs (en ks) j)
  | [], ks, t, _, _, _, j => by
    have : sumT [] ks t M = t := by cases ks <;> rfl
    rw [this]; simp [comb]
  | r :: rs, [], t, _, _, h, j => by simp at h
  | r :: rs, k :: ks, t, hl, ht, h, j => by
    have e : sumT (r :: rs) (k :: ks) t M = sumT rs ks (addT t r k M) M := rfl
    have l0 : t.length = r.length := by rw [ht, hl r (List.mem_cons_self ..)]
    have h1 := sumT_comb (M := M) (rs := rs) (ks := ks) (t := addT t r k M) (fun s hs => hl s (List.mem_cons_of_mem _ hs)) ((addT_len l0).trans ht) (by simpa using h) j
    have h2 := addT_dvd (k := k) (M := M) l0 j
    have e2 : comb (r :: rs) (en (k :: ks)) j = k * en r j + comb rs (en ks) j := rfl
    rw [e, e2]
    have e3 : en (sumT rs ks (addT t r k M) M) j - (en t j + (k * en r j + comb rs (en ks) j)) = (en (sumT rs ks (addT t r k M) M) j - (en (addT t r k M) j + comb rs (en ks) j)) + (en (addT t r k M) j - (en t j + k * en r j)) := by omega
    rw [e3]; exact Int.dvd_add h1 h2
theorem sumT_plain {M : Int} (hm : Md M) {wd : Nat} {rs : List Row} {ks : List Int} {row : Row} (hl : ∀ r ∈ rs, r.length = wd) (hk : ks.length = rs.length) (hrow : row.length = wd) (h : ∀ j, M ∣ en row j - comb rs (en ks) j) : sumT rs ks (List.replicate wd 0) M = plainRow row M := by
  refine rows_eq (w := wd) (M := M) (sumT_len hl (by simp)) ((plainRow_len _ _).trans hrow) (sumT_rng hm (rng_zero hm)) (plainRow_rng hm) fun j => ?_
  have h1 := sumT_comb (M := M) hl (t := List.replicate wd 0) (by simp) hk j
  have h2 := plainRow_dvd row M j
  have h3 := h j
  rw [en_zero] at h1
  have e : en (sumT rs ks (List.replicate wd 0) M) j - en (plainRow row M) j = (en (sumT rs ks (List.replicate wd 0) M) j - (0 + comb rs (en ks) j)) - (en row j - comb rs (en ks) j) - (en (plainRow row M) j - en row j) := by omega
  rw [e]; exact Int.dvd_sub (Int.dvd_sub h1 h3) h2
theorem gI_s {β a : Nat} (h : β ≤ 2 ^ a) : 6 * β ^ 3 ≤ 2 ^ (3 * a + 3) := by
  have h1 : β ^ 3 ≤ (2 ^ a) ^ 3 := Nat.pow_le_pow_left h 3
  rw [← Nat.pow_mul, Nat.mul_comm a 3] at h1
  rw [Nat.pow_add]
  have : (2 : Nat) ^ 3 = 8 := by decide
  omega
theorem gI_pow {β a : Nat} (h : β ≤ 2 ^ a) : gI β 1 ≤ 2 ^ (3 * a + 3) ∧ gI β 2 ≤ 2 ^ (9 * a + 12) ∧ gI β 3 ≤ 2 ^ (27 * a + 39) ∧ gI β 4 ≤ 2 ^ (81 * a + 120) ∧ gI β 5 ≤ 2 ^ (243 * a + 363) := by
  have h1 : gI β 1 ≤ 2 ^ (3 * a + 3) := gI_s h
  have h2 : gI β 2 ≤ 2 ^ (3 * (3 * a + 3) + 3) := gI_s h1
  have h3 : gI β 3 ≤ 2 ^ (3 * (3 * (3 * a + 3) + 3) + 3) := gI_s h2
  have h4 : gI β 4 ≤ 2 ^ (3 * (3 * (3 * (3 * a + 3) + 3) + 3) + 3) := gI_s h3
  have h5 : gI β 5 ≤ 2 ^ (3 * (3 * (3 * (3 * (3 * a + 3) + 3) + 3) + 3) + 3) := gI_s h4
  refine ⟨h1, ?_, ?_, ?_, ?_⟩
  · rw [show 9 * a + 12 = 3 * (3 * a + 3) + 3 by omega]; exact h2
  · rw [show 27 * a + 39 = 3 * (3 * (3 * a + 3) + 3) + 3 by omega]; exact h3
  · rw [show 81 * a + 120 = 3 * (3 * (3 * (3 * a + 3) + 3) + 3) + 3 by omega]; exact h4
  · rw [show 243 * a + 363 = 3 * (3 * (3 * (3 * (3 * a + 3) + 3) + 3) + 3) + 3 by omega]; exact h5
theorem gI_tab {k : Nat} (hk : k ≤ 5) : gI (2 ^ 23) k < 2 ^ 8999 :=
  Nat.lt_of_le_of_lt (gI_mono (by decide) hk) (Nat.lt_of_le_of_lt (gI_pow (Nat.le_refl (2 ^ 23))).2.2.2.2 (Nat.pow_lt_pow_right (by decide) (by decide)))
theorem tab_bnd {M : Int} {wd : Nat} {ps : List AR} (h : ∀ x ∈ ps, TabR M wd x.2) : Bnd (2 ^ 23) (rws ps) := fun r hr j => by
  obtain ⟨x, hx, rfl⟩ := List.mem_map.mp hr
  exact Nat.le_trans ((h x hx).bnd j) (by decide)
theorem tab_len {M : Int} {wd : Nat} {ps : List AR} (h : ∀ x ∈ ps, TabR M wd x.2) : ∀ r ∈ rws ps, r.length = wd := fun r hr => by
  obtain ⟨x, hx, rfl⟩ := List.mem_map.mp hr
  exact (h x hx).len
/-! ### _law_c_combined -/
def spCmb (T : List (Addr × Str)) : Sp := fun vs H Q _ => ∃ (p q : Addr) (ps : List AR) (row : Row) (wd : Nat) (M : Int), vs = [.ref p, .ref q, .int M] ∧ H p = some (.lst (adr ps)) ∧ Rws H ps ∧ H q = some (.lst (iL row)) ∧ Md M ∧ row.length = wd ∧ wd ≤ 3 ∧ ps.length ≤ 3 ∧ (∀ x ∈ ps, TabR M wd x.2) ∧ (∀ j, (en row j).natAbs ≤ 2 ^ 40) ∧ LamX.Tabs T H ∧
  ∀ H', LamX.ExtN H H' → LamX.Tabs T H' → Q (.bl true) H'
section
variable {K : PySem.W.Frag} {σ : L2.St} {H H' : Hp} {ta tb te tf tx tl : TE} {t u : TT} {x y z v w1 : V} {D : Ends} {tu tw tz : TS}
theorem q_callJ {sp : Sp} {dvs vs : List V} {E : XK} {ta : TA} {i : Nat} {J : V → Hp → Prop} (h : EvA ta σ H vs) (rest : ∀ v H2, J v H2 → tz D (σ.set i (some v)) H2) (k : ∀ H1, Ex H H1 → ∀ Q : VK, (∀ v H2, J v H2 → Q v H2) → sp (vs ++ dvs) H1 Q E) : tSeq (tAsg (tCall sp dvs E ta) (gName i)) tz D σ H := h H (Ex.refl H) _ fun H1 e1 => k H1 e1 _ rest
/-- if not f(g(..), ..): .. -/
theorem q_notCC {sp sp' : Sp} {dvs dvs' vs : List V} {E E' : XK} {ta tr : TA} (h : EvA ta σ H vs) (k : ∀ H1, Ex H H1 → sp' (vs ++ dvs') H1 (fun x H2 => tr σ H2 fun ws H3 => sp (x :: ws ++ dvs) H3 (fun y H4 => ∃ c, y = .bl c ∧ if (!c) = true then tu { D with nx := tz D } σ H4 else tw { D with nx := tz D } σ H4) E) E') :
    tSeq (tIfS (tNot (tB (tCall sp dvs E (tCons (tCall sp' dvs' E' ta) tr)))) tu tw) tz D σ H := h H (Ex.refl H) _ k
theorem et_chain {i j k : Int} (ha : Ev ta σ H (.int i)) (hb : Ev tb σ H (.int j)) (hc : Ev tx σ H (.int k)) (h : i ≤ j ∧ j < k) : EvT (tTest (tChain (rI0 fun i j => .bl (decide (i ≤ j))) (rI0 fun i j => .bl (decide (i < j))) ta tb tx)) σ H true := fun H1 e Q q =>
  ha H1 e _ fun H2 e2 => hb H2 (e.trans e2) _ fun H3 e3 => ⟨i, j, rfl, rfl, decide (i ≤ j), rfl, by
    rw [if_pos (decide_eq_true h.1)]
    exact hc H3 ((e.trans e2).trans e3) _ fun H4 e4 => ⟨j, k, rfl, rfl, true, (by show V.bl (decide (j < k)) = V.bl true; rw [decide_eq_true h.2]), q H4 ((e2.trans e3).trans e4)⟩⟩
end
section
variable {P : Program} {w : World} {K : PySem.W.Frag} {mg : Str → Option Value} {base : Heap} {H : Hp}
theorem ok_law_c_combined (L : Lib K mg) {T : List (Addr × Str)} (HH : HL K mg base T) {f : Addr} {fd : FuncData} (F : L2.Fun K "_law_c_combined" "_law_c_combined" s_law_c_combined f fd) : FnOk P w K mg base CX0 6 f fd ["rows", "row", "M"] (spCmb T) := by
  obtain ⟨f_law_c_copy, fd_law_c_copy, F_law_c_copy⟩ := L.law_c_copy
  obtain ⟨f_law_c_plain, fd_law_c_plain, F_law_c_plain⟩ := L.law_c_plain
  obtain ⟨f_law_c_sum, fd_law_c_sum, F_law_c_sum⟩ := L.law_c_sum
  obtain ⟨f_law_hermite, fd_law_hermite, F_law_hermite⟩ := L.law_hermite
  obtain ⟨f_law_inside, fd_law_inside, F_law_inside⟩ := L.law_inside
  obtain ⟨f_combine_rows, fd_combine_rows, F_combine_rows⟩ := L.combine_rows
  obtain ⟨c, f_law_hermite, fd_law_hermite, Pt, F_law_hermite, FC, TB, hmT, hu⟩ := HH.has
  have G_law_hermite : FnOk P w K mg base CX0 3 f_law_hermite fd_law_hermite _ (spLH K T) := ok_law_hermite L FC TB hmT hu
  have G_law_c_copy : FnOk P w K mg base CX0 1 f_law_c_copy fd_law_c_copy _ (spCopy K) := ok_law_c_copy L F_law_c_copy.F
  have G_combine_rows : FnOk P w K mg base CX0 5 f_combine_rows fd_combine_rows _ (spComb K) := ok_combine_rows L F_combine_rows.F
  have G_law_inside : FnOk P w K mg base CX0 3 f_law_inside fd_law_inside _ (spIn K) := ok_law_inside L F_law_inside.F
  have G_law_c_sum : FnOk P w K mg base CX0 3 f_law_c_sum fd_law_c_sum _ (spSum K) := ok_law_c_sum L F_law_c_sum.F
  have G_law_c_plain : FnOk P w K mg base CX0 1 f_law_c_plain fd_law_c_plain _ (spPlain K) := ok_law_c_plain L F_law_c_plain.F
  refine F.ok sc_law_c_combined (fun vs H Q E h => ?_) (fun cdv A outer s H vs Q E hr h => ?_)
  · obtain ⟨p, q, ps, row, wd, M, rfl, _⟩ := h; rfl
  · obtain ⟨p, q, ps, row, wd, M, rfl, hp, hR, hq, hm, hrow, hwd, hn, hT, hrb, hTa, fin⟩ := h
    refine ⟨_, (pss_cons (ps_par (i := 3) (j := 4) rfl sc_law_c_combined.nd rfl rfl (by decide) rfl rfl (pa_cons (pe_call G_law_c_copy (hr.mono (by decide)) (by rfl) F_law_c_copy.g F_law_c_copy.F.kp F_law_c_copy.b .nil pass0 (pa_cons (pv 0) pa_nil)) (pa_cons (pe_callTy call_list_of (by rfl) L.list (by decide +kernel) (pa_cons (pv 1) pa_nil)) pa_nil)) (by rfl))
    (pss_cons (ps_set (i := 5) sc_law_c_combined.nd rfl (Or.inl rfl) (pe_call G_combine_rows (hr.mono (by decide)) (by rfl) F_combine_rows.g F_combine_rows.F.kp F_combine_rows.b .nil pass0 (pa_cons (pv 3) (pa_cons (pv 4) (pa_cons (pv 2) pa_nil)))))
    (pss_cons (ps_if (PW.pt (pw_or (pt_cmpR (op_neD hr.units) (pv 3) (pv 0) (nomark _)) (pw_or1 (pt_cmpR (op_neD hr.units) (pv 4) (pv 1) (nomark _)))))
      (pss_one (ps_ret pe_bl))
      pss_nil)
    (pss_cons (ps_if (pt_not (pt_val (pe_call G_law_inside (hr.mono (by decide)) (by rfl) F_law_inside.g F_law_inside.F.kp F_law_inside.b .nil pass0 (pa_cons (pe_call G_law_hermite (hr.mono (by decide)) (by rfl) F_law_hermite.g F_law_hermite.F.kp F_law_hermite.b .nil pass0 (pa_cons (pv 0) (pa_cons (pe_callB call_len_seq (by rfl) L.len (by decide +kernel) (pa_cons (pv 1) pa_nil)) (pa_cons (pv 2) pa_nil)))) (pa_cons (pv 1) (pa_cons (pv 2) pa_nil))))))
      (pss_one (ps_ret (pe_cmpR op_isN (pv 5) pe_non (nomark _))))
      pss_nil)
    (pss_cons (ps_if (PW.pt (pw_or (pt_not (pt_val (pe_callB call_isi (by rfl) L.isinstance (by decide +kernel) (pa_cons (pv 5) (pa_cons (pe_bltn (v := .ty "list") (by rfl) L.list (by decide +kernel) rfl) pa_nil))))) (pw_or1 (pt_cmpR op_ne (pe_callB call_len_seq (by rfl) L.len (by decide +kernel) (pa_cons (pv 5) pa_nil)) (pe_callB call_len_seq (by rfl) L.len (by decide +kernel) (pa_cons (pv 0) pa_nil)) (nomark _)))))
      (pss_one (ps_ret pe_bl))
      pss_nil)
    (pss_cons (ps_for PassesOwn.never rfl (pi_list (pv 5)) (pg_name (i := 6) sc_law_c_combined.nd rfl (Or.inl rfl))
      (pss_cons (ps_if (PW.pt (pw_or (pt_not (pt_val (pe_callB call_isi (by rfl) L.isinstance (by decide +kernel) (pa_cons (pv 6) (pa_cons (pe_bltn (v := .ty "int") (by rfl) L.int (by decide +kernel) rfl) pa_nil))))) (pw_or1 (pt_val (pe_callB call_isi (by rfl) L.isinstance (by decide +kernel) (pa_cons (pv 6) (pa_cons (pe_bltn (v := .ty "bool") (by rfl) L.bool (by decide +kernel) rfl) pa_nil)))))))
      (pss_one (ps_ret pe_bl))
      pss_nil)
    (pss_one (ps_if (PW.pt (pw_and (pt_cmpR op_ne (pv 2) pe_int (nomark _)) (pw_and1 (pt_not (pt_chain op_le op_lt pe_int (pv 6) (pv 2))))))
      (pss_one (ps_ret pe_bl))
      pss_nil))))
    (pss_one (ps_ret (pe_cmpR (op_eqD hr.units) (pe_call G_law_c_sum (hr.mono (by decide)) (by rfl) F_law_c_sum.g F_law_c_sum.F.kp F_law_c_sum.b .nil pass0 (pa_cons (pv 0) (pa_cons (pv 5) (pa_cons (pe_callB call_len_seq (by rfl) L.len (by decide +kernel) (pa_cons (pv 1) pa_nil)) (pa_cons (pv 2) pa_nil))))) (pe_call G_law_c_plain (hr.mono (by decide)) (by rfl) F_law_c_plain.g F_law_c_plain.F.kp F_law_c_plain.b .nil pass0 (pa_cons (pv 1) (pa_cons (pv 2) pa_nil))) (nomark _)))))))))), ?_⟩
    have hlen := tab_len hT
    have hbnd := tab_bnd hT
    have hg : gI (2 ^ 23) (ps.length - 1) < 2 ^ 8999 := gI_tab (by omega)
    obtain ⟨D, hD, hSD, hDl, hRO⟩ := herm_ro hm (β := 2 ^ 23) (by decide) hlen (fun _ => hbnd) (by rw [rws_len]; omega) (by rw [rws_len]; exact hg)
    have hin := inside_iff hm hD hrow
    have hinD : InL M (D.map (·.2)) (en row) ↔ InL M (rws ps) (en row) := ⟨fun h => hSD.symm.into h, fun h => hSD.into h⟩
    refine q_parRL (evr_copy (K := K) (ea_cons (ev_var rfl) ea_nil) (sq_of hp) hR (by omega)) (fun H1 e1 => el_list (ev_var rfl) (sq_of (e1 _ _ hq))) fun hp' hs' op H1 e1 hhp hRh eqh hop => ?_
    have hhl : hs'.length = ps.length := by have := congrArg List.length eqh; rw [rws_len, rws_len] at this; exact this
    refine q_callJ (vs := [.ref hp', .ref op, .int M]) (J := fun v H2 => Ex H1 H2 ∧ ((v = .non ∧ ¬ InL M (rws ps) (en row)) ∨ ∃ (a : Addr) (ns : Row), v = .ref a ∧ InL M (rws ps) (en row) ∧ H2 a = some (.lst (iL ns)) ∧ ns.length = ps.length ∧ Rng M ns ∧ (M = 0 → ∀ j, (en ns j).natAbs ≤ 2 ^ 500000) ∧ ∀ j, M ∣ en row j - comb (rws ps) (en ns) j)) (ea_cons (ev_var rfl) (ea_cons (ev_var rfl) (ea_cons (ev_var rfl) ea_nil))) (fun v H2 ⟨e2, hv⟩ => ?_) (fun H2 e2 Q2 q2 => ?_)
    rotate_left
    · exact ⟨hp', op, hs', row, wd, 2 ^ 23, M, rfl, sq_of (e2 _ _ hhp), hRh.ex e2, sq_of (e2 _ _ hop), hm, hrow, by omega, by omega, by decide, by rw [hhl]; exact hg, by rw [eqh]; exact hlen, by rw [eqh]; exact fun _ => hbnd, fun _ j => Nat.le_trans (hrb j) (Nat.pow_le_pow_right (by decide) (by decide)),
        fun hno H3 e3 => q2 _ H3 ⟨e2.trans e3, .inl ⟨rfl, by rw [← eqh]; exact hno⟩⟩,
        fun hyes a ns H3 na e3 ha ln rn bn hd => q2 _ H3 ⟨e2.trans e3, .inr ⟨a, ns, rfl, by rw [← eqh]; exact hyes, ha, by rw [ln, hhl], rn, bn, by rw [← eqh]; exact hd⟩⟩⟩
    have e02 := e1.trans e2
    refine et_whenF (et_or (et_test (b := false) (ev_is (ev_op (ev_var rfl) (ev_var rfl) (rv_neD (d := dR (rws hs')) (e := dR (rws ps)) (fun H3 e => dpR (sq_of (e _ _ (e2 _ _ hhp))) ((hRh.ex e2).ex e)) (fun H3 e => dpR (sq_of (e _ _ (e02 _ _ hp))) ((hR.ex e02).ex e)) (shR _) (shR _))) (by rw [eqh, eqv_R]; rfl))) fun _ => et_test (b := false) (ev_is (ev_op (ev_var rfl) (ev_var rfl) (rv_neD (d := dI row) (e := dI row) (fun H3 e => dpI (sq_of (e _ _ (e2 _ _ hop)))) (fun H3 e => dpI (sq_of (e _ _ (e02 _ _ hq)))) (shI _) (shI _))) (by rw [eqv_I]; rfl))) rfl fun H3 e3 => ?_
    have e03 := e02.trans e3
    -- the law's own reduced rows, and whether the row lies in them
    refine q_notCC (ea_cons (ev_var rfl) (ea_cons (ev_len (ev_var rfl) (sq_of (e03 _ _ hq))) (ea_cons (ev_var rfl) ea_nil))) fun H4 e4 => ?_
    have e04 := e03.trans e4
    refine ⟨p, ps, wd, 2 ^ 23, M, D, false, by rw [iL_len, hrow]; rfl, sq_of (e04 _ _ hp), hR.ex e04, hm, by omega, by omega, by decide, ?_, hlen, fun _ => hbnd, fun h => (nomatch h), hD, hSD, hTa.ext e04, fun a2 ts H5 x5 T5 ha2 na2 tR te tf tn => ?_⟩
    · unfold bJ; rw [if_neg (by decide), Nat.min_eq_right (by omega)]; exact hg
    refine ⟨_, rfl, _, rfl, ?_⟩
    have x05 := (LamX.ExtN.of e04).trans x5
    have tsl : ts.length ≤ 6 := by
      have h1 := congrArg List.length te
      rw [rws_len, List.length_map] at h1
      rw [rws_len] at hDl; omega
    refine ⟨a2, q, ts, row, wd, M, rfl, ⟨sq_of ha2, tR, sq_of (extN_lst x05 hq), hm, hrow, by omega, tsl, fun _ j => Nat.le_trans (hrb j) (Nat.pow_le_pow_right (by decide) (by decide)), by rw [te]; exact hRO⟩, fun H6 e6 => ?_⟩
    rw [te]
    refine ⟨_, rfl, ?_⟩
    have x06 := x05.trans (LamX.ExtN.of e6)
    have T6 := T5.ext e6
    have x26 : LamX.ExtN H2 H6 := ((LamX.ExtN.of (e3.trans e4)).trans x5).trans (LamX.ExtN.of e6)
    rcases hv with ⟨rfl, hno⟩ | ⟨a, ns, rfl, hyes, ha, ln, rn, bn, hd⟩
    · have : isZ (restOf (D.map (·.2)) row M) = false := by
        cases hz : isZ (restOf (D.map (·.2)) row M) with
        | false => rfl
        | true => exact absurd (hinD.mp (hin.mp hz)) hno
      rw [this]
      refine iteT ?_
      exact s_ret (ev_is (ev_op (ev_var rfl) ev_c rv_isN) (by simp)) fun H7 e7 => fin H7 (x06.trans (LamX.ExtN.of e7)) (T6.ext e7)
    · rw [hin.mpr (hinD.mpr hyes)]
      refine iteF ?_
      have ha6 := extN_lst x26 ha
      have hp6 := extN_lst x06 hp
      have hR6 := extN_rws x06 hR
      have hq6 := extN_lst x06 hq
      refine et_whenF (et_or (a := false) (et_is (et_not (et_B (ev_isi (b := true) (ev_var rfl) (dtI ha6) kb_list_list))) rfl) fun _ => et_test (b := false) (ev_is (ev_neI (ev_len (ev_var rfl) (sq_of ha6)) (ev_len (ev_var rfl) (sq_of hp6))) (by rw [iL_len, adr_len, ln]; simp))) rfl fun H7 e7 => ?_
      refine q_forLn (ev_var rfl) (sq_of (e7 _ _ ha6)) (fun i σ' H' => ∃ v6 : Option V, σ' = [some (.ref p), some (.ref q), some (.int M), some (.ref hp'), some (.ref op), some (.ref a), v6] ∧ Ex H7 H') (fun H8 e8 => ⟨_, rfl, e8⟩) (fun i σ' H' _ ⟨_, _, e⟩ => sq_of ((e7.trans e) _ _ ha6)) ?_ ?_
      · rintro i x σ' H8 hi ⟨v6, rfl, e8⟩
        obtain ⟨k, rfl, hk⟩ := iL_get hi
        have hkr : M ≠ 0 → 0 ≤ k ∧ k < M := fun hM => by have := rn hM i; rwa [en_get hk] at this
        refine et_whenF (et_or (a := false) (et_is (et_not (et_B (ev_isi (b := true) (ev_var rfl) (.int k) kb_int_int))) rfl) fun _ => et_B (ev_isi (b := false) (ev_var rfl) (.int k) kb_int_bool)) rfl fun H9 e9 => ?_
        refine et_whenS (b := false) (et_is (et_and (a := decide (M ≠ 0)) (b := false) (et_test (ev_neI (ev_var rfl) ev_c)) fun hM => et_is (et_not (et_chain ev_c (ev_var rfl) (ev_var rfl) (hkr (of_decide_eq_true hM)))) rfl) (by simp)) rfl fun H10 e10 => ⟨_, rfl, (e8.trans e9).trans e10⟩
      · rintro σ' H8 ⟨v6, rfl, e8⟩
        have e68 := e7.trans e8
        refine s_ret (v := .bl true) (ev_opLL (xs := iL (plainRow row M)) (ys := iL (plainRow row M)) (el_call (ea_cons (ev_var rfl) (ea_cons (ev_var rfl) (ea_cons (ev_is (ev_len (ev_var rfl) (sq_of (e68 _ _ hq6))) (w := .int (wd : Nat)) (by rw [iL_len, hrow])) (ea_cons (ev_var rfl) ea_nil)))) fun H9 e9 Q9 q9 _ => ?_) (el_call (ea_cons (ev_var rfl) (ea_cons (ev_var rfl) ea_nil)) (plain_spl (sq_of (e68 _ _ hq6)) (by omega) hm.nonneg)) fun p1 q1 H9 h1 h2 e9 H10 e10 Q10 q10 => ⟨dI (plainRow row M), dI (plainRow row M), dpI (sq_of (e10 _ _ h1)), dpI (sq_of (e10 _ _ h2)), shI _, shI _, by rw [eqv_I]; exact q10 H10 (Ex.refl _)⟩) fun H9 e9 => fin H9 ((x06.trans (LamX.ExtN.of e68)).trans (LamX.ExtN.of e9)) ((T6.ext e68).ext e9)
        refine ⟨p, a, ps, ns, wd, M, rfl, sq_of ((e68.trans e9) _ _ hp6), hR6.ex (e68.trans e9), sq_of ((e68.trans e9) _ _ ha6), ln, by omega, by omega, hm.nonneg, hlen, fun k hk r hr j => ?_, by rw [sumT_plain hm hlen (by rw [rws_len]; exact ln) hrow hd]; exact q9⟩
        obtain ⟨i, hi⟩ := List.getElem?_of_mem hk
        have hb := hbnd r hr j
        have h23 : (2 : Nat) ^ 23 < 2 ^ 24 := by decide
        have hkb : k.natAbs < 2 ^ 500001 := by
          by_cases hM : M = 0
          · have := bn hM i
            rw [en_get hi] at this
            exact Nat.lt_of_le_of_lt this (Nat.pow_lt_pow_right (by decide) (by decide))
          · have := rn hM i
            rw [en_get hi] at this
            have := hm.pos hM
            exact Nat.lt_of_lt_of_le (show k.natAbs < 2 ^ 4 by omega) (Nat.pow_le_pow_right (by decide) (by decide))
        exact wide_mul (a := 500001) (b := 24) hkb (by omega) (by decide) (by decide) (by decide)
end
end Mine
set_option Elab.async false
set_option linter.all false
set_option maxRecDepth 100000
set_option maxHeartbeats 4000000
namespace Mine
open PySem PySem.Spec PyProof.Rows L2 Evl
theorem lows_le {M : Int} {w n : Nat} {D : List (Nat × Row)} (H : Ech M n 0 D) : (lows w D).length ≤ w := by
  have h1 := (ech_pw H).filter (fun x => decide (x.1 < w))
  have h2 : ((lows w D).map (·.1)).Nodup := by
    unfold lows
    rw [List.Nodup, List.pairwise_map]
    exact h1.imp fun h => by omega
  have h3 := nodup_le (P := List.range w) h2 fun x hx => by
    obtain ⟨y, hy, rfl⟩ := List.mem_map.mp hx
    exact List.mem_range.mpr (of_decide_eq_true (List.mem_filter.mp hy).2)
  rw [List.length_map, List.length_range] at h3
  exact h3
theorem ker_data {M : Int} {wd b : Nat} {R : List Row} (hm : Md M) (hl : ∀ r ∈ R, r.length = wd) (hn : R.length ≤ 6) (hb1 : 1 ≤ b) (hb : M = 0 → Bnd b R) :
    ∃ (KD : List (Nat × Row)) (r : Nat), Herm M R.length KD ∧ KerR M R (KD.map (·.2)) ∧ KD.length + r ≤ R.length ∧ r ≤ wd ∧ (M = 0 → Bnd (6 * (12 * b) ^ r) (KD.map (·.2))) := by
  obtain ⟨DL, HD, hSD, cntD⟩ := herm_ex (R := (numb R.length 0 R).map fun r => plainRow r M) (w := wd + R.length) hm (fun r hr => by
    obtain ⟨s, hs, rfl⟩ := List.mem_map.mp hr
    rw [plainRow_len]
    exact numb_lens hl s hs) (fun r hr => by
    obtain ⟨s, hs, rfl⟩ := List.mem_map.mp hr
    exact plainRow_rng hm)
  rw [List.length_map, numb_len] at cntD
  have hSn : SameL M (numb R.length 0 R) (DL.map (·.2)) := (SameL.mods fun r hr j => plainRow_dvd r M j).trans hSD
  have kl := ker_len HD
  refine ⟨kerOf wd DL, (lows wd DL).length, herm_ker HD, ker_of hl HD hSn, by omega, lows_le HD.ech, fun hM => ?_⟩
  subst hM
  have h1 := ker_bd hl HD hSn cntD hb1 (hb rfl)
  intro r hr j
  have h2 := h1 r hr j
  have h3 : (2 * R.length * b) ^ (lows wd DL).length ≤ (12 * b) ^ (lows wd DL).length := Nat.pow_le_pow_left (Nat.mul_le_mul_right b (by omega)) _
  have h4 : (kerOf wd DL).length * (2 * R.length * b) ^ (lows wd DL).length ≤ 6 * (12 * b) ^ (lows wd DL).length := Nat.mul_le_mul (by omega) h3
  omega
theorem ker_big {r : Nat} (hr : r ≤ 3) : 6 * (12 * 2 ^ 23) ^ r ≤ 2 ^ 84 := by
  have h1 : (12 * 2 ^ 23) ^ r ≤ (2 ^ 27) ^ 3 := Nat.le_trans (Nat.pow_le_pow_right (by decide) hr) (Nat.pow_le_pow_left (by decide) 3)
  have : 6 * (2 ^ 27) ^ 3 ≤ 2 ^ 84 := by decide
  omega
theorem same_R2 {K : PySem.W.Frag} {H : Hp} {a b : Addr} {ps qs : List AR} {wd : Nat} (ha : H a = some (.lst (adr ps))) (hp : Rws H ps) (hb : H b = some (.lst (adr qs))) (hq : Rws H qs) (e : rws ps = rws qs) (hw : ∀ r ∈ rws ps, r.length ≤ wd) (hwd : wd ≤ 10) (hl : ps.length ≤ 20) : SpV (spSame 2) [.ref a, .ref b] H (.bl true) := by
  refine same_spv (dtR ha hp) (by rw [e]; exact dtR hb hq) (dep_R _) ?_
  have h1 := cnt_rows (wd := wd) (rws ps) hw
  rw [rws_len] at h1
  show cntAll ((rws ps).map dI) ≤ 40000
  have h2 : ps.length * (wd + 1) ≤ 20 * 11 := Nat.mul_le_mul hl (by omega)
  omega
/-- the box's row sums to zero exactly if it lies in the kernel's reduced rows -/
theorem zero_iff {M : Int} (hm : Md M) {wd : Nat} {R : List Row} {KD : List (Nat × Row)} {x : Row} (hl : ∀ r ∈ R, r.length = wd) (H : Herm M R.length KD) (hK : KerR M R (KD.map (·.2))) (hx : x.length = R.length) : isZ (sumT R x (List.replicate wd 0) M) = isZ (restOf (KD.map (·.2)) x M) := by
  have ls : (sumT R x (List.replicate wd 0) M).length = wd := sumT_len hl (by simp)
  have rs : Rng M (sumT R x (List.replicate wd 0) M) := sumT_rng hm (rng_zero hm)
  have e1 : isZ (sumT R x (List.replicate wd 0) M) = true ↔ Ker M R (en x) := by
    rw [isZ_iff, ls]
    constructor
    · intro h j
      have h1 := sumT_comb (M := M) hl (t := List.replicate wd 0) (by simp) hx j
      rw [en_zero] at h1
      have h2 : en (sumT R x (List.replicate wd 0) M) j = 0 := by
        rcases Nat.lt_or_ge j wd with hj | hj
        · exact h j hj
        · exact en_ge (by omega)
      rw [h2] at h1
      have e : comb R (en x) j = -(0 - (0 + comb R (en x) j)) := by omega
      rw [e]; exact Int.dvd_neg.mpr h1
    · intro h j hj
      have h1 := sumT_comb (M := M) hl (t := List.replicate wd 0) (by simp) hx j
      rw [en_zero] at h1
      have h3 : M ∣ en (sumT R x (List.replicate wd 0) M) j - 0 := by
        have e : en (sumT R x (List.replicate wd 0) M) j - 0 = (en (sumT R x (List.replicate wd 0) M) j - (0 + comb R (en x) j)) + comb R (en x) j := by omega
        rw [e]; exact Int.dvd_add h1 (h j)
      by_cases hM : M = 0
      · subst hM; rw [Int.sub_zero] at h3; exact Int.zero_dvd.mp h3
      · exact rng_eq h3 (rs hM j) ⟨Int.le_refl 0, by have := hm.pos hM; omega⟩
  have e2 := inside_iff hm H hx
  have e3 := hK.iff (x := en x) fun k hk => by rw [en_ge (by omega)]; exact Int.dvd_zero _
  rw [Bool.eq_iff_iff, e1, e2, e3]
theorem kd_len {M : Int} {n : Nat} {KD : List (Nat × Row)} (H : Herm M n KD) : ∀ r ∈ KD.map (·.2), r.length = n := fun r hr => by
  obtain ⟨x, hx, rfl⟩ := List.mem_map.mp hr
  exact H.len x hx
def spCKer (T : List (Addr × Str)) : Sp := fun vs H Q _ => ∃ (p : Addr) (ps : List AR) (wd : Nat) (M : Int), vs = [.ref p, .int M] ∧ H p = some (.lst (adr ps)) ∧ Rws H ps ∧ Md M ∧ wd ≤ 3 ∧ ps.length ≤ 6 ∧ (∀ x ∈ ps, TabR M wd x.2) ∧ LamX.Tabs T H ∧
  ∀ H', LamX.ExtN H H' → LamX.Tabs T H' → Q (.bl true) H'
section
variable {P : Program} {w : World} {K : PySem.W.Frag} {mg : Str → Option Value} {base : Heap} {H : Hp}
theorem ok_law_c_kernel (L : Lib K mg) {T : List (Addr × Str)} (HH : HL K mg base T) {f : Addr} {fd : FuncData} (F : L2.Fun K "_law_c_kernel" "_law_c_kernel" s_law_c_kernel f fd) : FnOk P w K mg base CX0 7 f fd ["rows", "M"] (spCKer T) := by
  obtain ⟨f_law_c_box, fd_law_c_box, F_law_c_box⟩ := L.law_c_box
  obtain ⟨f_law_c_copy, fd_law_c_copy, F_law_c_copy⟩ := L.law_c_copy
  obtain ⟨f_law_c_sum, fd_law_c_sum, F_law_c_sum⟩ := L.law_c_sum
  obtain ⟨f_law_inside, fd_law_inside, F_law_inside⟩ := L.law_inside
  obtain ⟨f_law_kernel, fd_law_kernel, F_law_kernel⟩ := L.law_kernel
  obtain ⟨f_law_same, fd_law_same, F_law_same⟩ := L.law_same
  obtain ⟨f_kernel_rows, fd_kernel_rows, F_kernel_rows⟩ := L.kernel_rows
  have G_law_kernel : FnOk P w K mg base CX0 4 f_law_kernel fd_law_kernel _ (spLKer K T) := ok_law_kernel L HH F_law_kernel.F
  have G_law_c_copy : FnOk P w K mg base CX0 1 f_law_c_copy fd_law_c_copy _ (spCopy K) := ok_law_c_copy L F_law_c_copy.F
  have G_kernel_rows : FnOk P w K mg base CX0 6 f_kernel_rows fd_kernel_rows _ (spKer K) := ok_kernel_rows L F_kernel_rows.F
  have G_law_same : FnOk P w K mg base CX0 4 f_law_same fd_law_same _ (spSame 2) := ok_law_same L F_law_same 2
  have G_law_c_box : FnOk P w K mg base CX0 1 f_law_c_box fd_law_c_box _ spBox := ok_law_c_box L F_law_c_box.F
  have G_law_c_sum : FnOk P w K mg base CX0 3 f_law_c_sum fd_law_c_sum _ (spSum K) := ok_law_c_sum L F_law_c_sum.F
  have G_law_inside : FnOk P w K mg base CX0 3 f_law_inside fd_law_inside _ (spIn K) := ok_law_inside L F_law_inside.F
  refine F.ok sc_law_c_kernel (fun vs H Q E h => ?_) (fun cdv A outer s H vs Q E hr h => ?_)
  · obtain ⟨p, ps, wd, M, rfl, _⟩ := h; rfl
  · obtain ⟨p, ps, wd, M, rfl, hp, hR, hm, hwd, hn, hT, hTa, fin⟩ := h
    refine ⟨_, (pss_cons (ps_set (i := 2) sc_law_c_kernel.nd rfl (Or.inl rfl) (pe_call G_law_kernel (hr.mono (by decide)) (by rfl) F_law_kernel.g F_law_kernel.F.kp F_law_kernel.b .nil pass0 (pa_cons (pv 0) (pa_cons (pv 1) pa_nil))))
    (pss_cons (ps_set (i := 3) sc_law_c_kernel.nd rfl (Or.inl rfl) (pe_call G_law_c_copy (hr.mono (by decide)) (by rfl) F_law_c_copy.g F_law_c_copy.F.kp F_law_c_copy.b .nil pass0 (pa_cons (pv 0) pa_nil)))
    (pss_cons (ps_set (i := 4) sc_law_c_kernel.nd rfl (Or.inl rfl) (pe_call G_kernel_rows (hr.mono (by decide)) (by rfl) F_kernel_rows.g F_kernel_rows.F.kp F_kernel_rows.b .nil pass0 (pa_cons (pv 3) (pa_cons (pv 1) pa_nil))))
    (pss_cons (ps_if (PW.pt (pw_or (pt_not (pt_val (pe_call G_law_same (hr.mono (by decide)) (by rfl) F_law_same.g F_law_same.F.kp F_law_same.b .nil pass0 (pa_cons (pv 4) (pa_cons (pv 2) pa_nil))))) (pw_or1 (pt_cmpR (op_neD hr.units) (pv 3) (pv 0) (nomark _)))))
      (pss_one (ps_ret pe_bl))
      pss_nil)
    (pss_cons (ps_for PassesOwn.never rfl (pi_list (pv 4)) (pg_name (i := 5) sc_law_c_kernel.nd rfl (Or.inl rfl))
      (pss_one (ps_expr (pe_bm PySem.F.plainAttrs_list PySem.F.slot_list_append PySem.F.type_list_append mt_append (pv 5) (pa_cons pe_int pa_nil)))))
    (pss_cons (ps_if (pt_not (pt_val (pe_call G_law_same (hr.mono (by decide)) (by rfl) F_law_same.g F_law_same.F.kp F_law_same.b .nil pass0 (pa_cons (pe_call G_kernel_rows (hr.mono (by decide)) (by rfl) F_kernel_rows.g F_kernel_rows.F.kp F_kernel_rows.b .nil pass0 (pa_cons (pv 3) (pa_cons (pv 1) pa_nil))) (pa_cons (pv 2) pa_nil)))))
      (pss_one (ps_ret pe_bl))
      pss_nil)
    (pss_cons (ps_if (pt_cmpR (op_eqD hr.units) (pv 0) (pe_lst pa_nil) (nomark _))
      (pss_one (ps_ret (pe_cmpR (op_eqD hr.units) (pv 2) (pe_lst pa_nil) (nomark _))))
      pss_nil)
    (pss_cons (ps_for PassesOwn.never rfl (pi_list (pe_call G_law_c_box (hr.mono (by decide)) (by rfl) F_law_c_box.g F_law_c_box.F.kp F_law_c_box.b .nil pass0 (pa_cons (pe_callB call_len_seq (by rfl) L.len (by decide +kernel) (pa_cons (pv 0) pa_nil)) (pa_cons (pe_ifExp (pt_cmpR op_lt (pe_callB call_len_seq (by rfl) L.len (by decide +kernel) (pa_cons (pv 0) pa_nil)) pe_int (nomark _)) pe_int pe_int) pa_nil)))) (pg_name (i := 5) sc_law_c_kernel.nd rfl (Or.inl rfl))
      (pss_cons (ps_set (i := 6) sc_law_c_kernel.nd rfl (Or.inl rfl) (pe_not (pe_callB cr_anyI (by rfl) L.any (by decide +kernel) (pa_cons (pe_call G_law_c_sum (hr.mono (by decide)) (by rfl) F_law_c_sum.g F_law_c_sum.F.kp F_law_c_sum.b .nil pass0 (pa_cons (pv 0) (pa_cons (pv 5) (pa_cons (pe_callB call_len_seq (by rfl) L.len (by decide +kernel) (pa_cons (pe_ix ix_list (pv 0) pe_int (fun _ _ => rfl)) pa_nil)) (pa_cons (pv 1) pa_nil))))) pa_nil))))
    (pss_one (ps_if (pt_cmpR op_ne (pv 6) (pe_call G_law_inside (hr.mono (by decide)) (by rfl) F_law_inside.g F_law_inside.F.kp F_law_inside.b .nil pass0 (pa_cons (pv 2) (pa_cons (pv 5) (pa_cons (pv 1) pa_nil)))) (nomark _))
      (pss_one (ps_ret pe_bl))
      pss_nil))))
    (pss_one (ps_ret pe_bl)))))))))), ?_⟩
    have hlen := tab_len hT
    have hbnd := tab_bnd hT
    have hg : gI (2 ^ 23) (ps.length - 1) < 2 ^ 8999 := gI_tab (by omega)
    obtain ⟨KD, r, hKD, hK, hcnt, hrw, hKb⟩ := ker_data hm hlen (by rw [rws_len]; exact hn) (b := 2 ^ 23) (by decide) (fun _ => hbnd)
    rw [rws_len] at hcnt
    have hKD' : Herm M ps.length KD := by rw [rws_len] at hKD; exact hKD
    have hKb' : M = 0 → Bnd (2 ^ 84) (KD.map (·.2)) := fun hM r' hr' j => Nat.le_trans (hKb hM r' hr' j) (ker_big (by omega))
    have hKR := ro_bnd hKD' fun hM r' hr' j => Nat.le_trans (hKb' hM r' hr' j) (Nat.pow_le_pow_right (by decide) (by decide))
    have hkl := kd_len hKD'
    refine q_asgCall (vs := [.ref p, .int M]) (ea_cons (ev_var rfl) (ea_cons (ev_var rfl) ea_nil)) fun H1 e1 => ?_
    refine ⟨p, ps, wd, 2 ^ 23, 2 ^ 84, M, KD, rfl, sq_of (e1 _ _ hp), hR.ex e1, hm, by omega, hn, by decide, hg, hlen, fun _ => hbnd, hKD', hK, by decide, Nat.pow_lt_pow_right (by decide) (by decide), hKb', hTa.ext e1, fun du ds H2 x2 T2 hdu ndu dR de df dn => ?_⟩
    have x02 := (LamX.ExtN.of e1).trans x2
    have hp2 := extN_lst x02 hp
    have hR2 := extN_rws x02 hR
    have dl : ds.length = KD.length := by have := congrArg List.length de; rw [rws_len, List.length_map] at this; exact this
    refine q_asgR (evr_copy (K := K) (ea_cons (ev_var rfl) ea_nil) (sq_of hp2) hR2 (by omega)) fun hp' hs' H3 nhp e3 hhp hRh eqh nhs hne => ?_
    have hhl : hs'.length = ps.length := by have := congrArg List.length eqh; rw [rws_len, rws_len] at this; exact this
    refine q_asgCall (vs := [.ref hp', .int M]) (ea_cons (ev_var rfl) (ea_cons (ev_var rfl) ea_nil)) fun H4 e4 => ?_
    have ker : ∀ {H5 : Hp}, H5 hp' = some (.lst (adr hs')) → Rws H5 hs' → ∀ {Q2 : VK} {E2 : XK}, (∀ (a : Addr) (ts : List AR) (H' : Hp), Ex H5 H' → H' a = some (.lst (adr ts)) → H5 a = none → Rws H' ts → rws ts = KD.map (·.2) → (∀ x ∈ ts, H5 x.1 = none) → (∀ x ∈ ts, x.1 ≠ a) → Q2 (.ref a) H') → spKer K [.ref hp', .int M] H5 Q2 E2 := fun {H5} h1 h2 {Q2 E2} q2 =>
      ⟨hp', hs', wd, 2 ^ 23, M, KD, rfl, sq_of h1, h2, hm, by omega, by omega, by decide, by rw [hhl]; exact hg, by rw [eqh]; exact hlen, by rw [eqh]; exact fun _ => hbnd, by rw [hhl]; exact hKD', by rw [eqh]; exact hK, q2⟩
    refine ker (e4 _ _ hhp) (hRh.ex e4) fun to ts H5 e5 hto nto tR te tf tn => ?_
    have e25 := (e3.trans e4).trans e5
    have tl : ts.length = KD.length := by have := congrArg List.length te; rw [rws_len, List.length_map] at this; exact this
    have sameD : ∀ {H6 : Hp} {t : Addr} {us : List AR}, H6 t = some (.lst (adr us)) → Rws H6 us → rws us = KD.map (·.2) → H6 du = some (.lst (adr ds)) → Rws H6 ds → SpV (spSame 2) [.ref t, .ref du] H6 (.bl true) := fun {H6 t us} h1 h2 h3 h4 h5 => by
      have ul : us.length = KD.length := by have := congrArg List.length h3; rw [rws_len, List.length_map] at this; exact this
      exact same_R2 (K := K) (wd := ps.length) h1 h2 h4 h5 (h3.trans de.symm) (fun r hr => by rw [h3] at hr; exact Nat.le_of_eq (hkl r hr)) (by omega) (by omega)
    refine et_whenF (et_or (a := false) (et_is (et_not (et_B (b := true) (ev_call (ea_cons (ev_var rfl) (ea_cons (ev_var rfl) ea_nil)) (sameD hto tR te (e25 _ _ hdu) (dR.ex e25))))) rfl) fun _ => et_test (b := false) (ev_is (ev_op (ev_var rfl) (ev_var rfl) (rv_neD (d := Mine.dR (rws hs')) (e := Mine.dR (rws ps)) (fun H6 e => dpR (sq_of (e _ _ ((e4.trans e5) _ _ hhp))) ((hRh.ex (e4.trans e5)).ex e)) (fun H6 e => dpR (sq_of (e _ _ (e25 _ _ hp2))) ((hR2.ex e25).ex e)) (shR _) (shR _))) (by rw [eqh, eqv_R]; rfl))) rfl fun H6 e6 => ?_
    have e26 := e25.trans e6
    have T6 := T2.ext e26
    -- what was told is spoilt
    have f4 : ∀ x ∈ ts, H4 x.1 = none := tf
    refine q_forLn (ev_var rfl) (sq_of (e6 _ _ hto)) (fun i σ' H' => ∃ v5 : Option V, σ' = [some (.ref p), some (.int M), some (.ref du), some (.ref hp'), some (.ref to), v5, none] ∧ (∀ a o, H6 a = some o → (∀ x ∈ ts, a ≠ x.1) → H' a = some o) ∧ LamX.Tabs T H' ∧ ∀ x ∈ ts, ∃ zs : List V, H' x.1 = some (.lst zs) ∧ zs.length ≤ 6 + i)
      (fun H7 e7 => ⟨_, rfl, fun a o h _ => e7 _ _ h, T6.ext e7, fun x hx => ⟨iL x.2, (e6.trans e7) _ _ (tR x hx), by rw [iL_len, hkl x.2 (by rw [← te]; exact mem_rws hx)]; omega⟩⟩) (fun i σ' H' _ ⟨_, _, h, _⟩ => sq_of (h _ _ (e6 _ _ hto) fun x hx => (tn x hx).symm)) ?_ ?_
    · rintro i x σ' H7 hi ⟨v5, rfl, kp, T7, zz⟩
      obtain ⟨y, hy, rfl⟩ := adr_get hi
      have yin := List.mem_of_getElem? hy
      have il := (List.getElem?_eq_some_iff.mp hy).1
      obtain ⟨zs, hz, zl⟩ := zz y yin
      refine s_app hz (ev_var rfl) ev_c (by omega) fun H8 e8 => ?_
      refine ⟨_, rfl, fun a o h hne => by rw [upd_ne (hne y yin)]; exact e8 _ _ (kp a o h hne), tabs_mut (T7.ext e8) (e8 _ _ hz), fun x hx => ?_⟩
      by_cases h : x.1 = y.1
      · rw [h]; exact ⟨_, upd_same, by rw [List.length_append, List.length_singleton]; omega⟩
      · obtain ⟨ws, hw, wl⟩ := zz x hx
        exact ⟨ws, by rw [upd_ne h]; exact e8 _ _ hw, by omega⟩
    · rintro σ' H7 ⟨v5, rfl, kp, T7, _⟩
      -- what stood ahead of the first asking stands
      have kept : ∀ a o, H4 a = some o → H7 a = some o := fun a o h => kp a o ((e5.trans e6) _ _ h) fun x hx => ne_of_none h (tf x hx)
      have k4 : Ex H4 H7 := kept
      have k2 := (e3.trans e4).trans k4
      have hhp7 := k4 _ _ (e4 _ _ hhp)
      have hRh7 := (hRh.ex e4).ex k4
      refine q_notCC (vs := [.ref hp', .int M]) (ea_cons (ev_var rfl) (ea_cons (ev_var rfl) ea_nil)) fun H8 e8 => ?_
      refine ker (e8 _ _ hhp7) (hRh7.ex e8) fun t2 ts2 H9 e9 ht2 nt2 tR2 te2 tf2 tn2 => ?_
      have k29 := (k2.trans e8).trans e9
      refine ⟨_, rfl, ?_⟩
      refine (sameD ht2 tR2 te2 (k29 _ _ hdu) (dR.ex k29)) H9 (Ex.refl _) _ (fun H10 e10 => ⟨true, rfl, ?_⟩) E0
      have k210 := k29.trans e10
      have x010 := x02.trans (LamX.ExtN.of k210)
      have T10 : LamX.Tabs T H10 := T7.ext ((e8.trans e9).trans e10)
      refine iteF ?_
      have hp10 := extN_lst x010 hp
      have hR10 := extN_rws x010 hR
      have hdu10 := k210 _ _ hdu
      have dR10 := dR.ex k210
      refine q_when (et_test (ev_eqNil (ev_var rfl) (sq_of hp10) hR10)) (fun hb H11 e11 => ?_) (fun hb H11 e11 => ?_)
      · have hps := of_decide_eq_true hb
        subst hps
        have hKn : KD = [] := herm_nil hKD'
        subst hKn
        have dsn : ds = [] := List.length_eq_zero_iff.mp dl
        subst dsn
        exact s_ret (ev_is (ev_eqNil (ev_var rfl) (sq_of (e11 _ _ hdu10)) (dR10.ex e11)) (by simp)) fun H12 e12 => fin H12 (x010.trans (LamX.ExtN.of (e11.trans e12))) (T10.ext (e11.trans e12))
      · have hne := of_decide_eq_false hb
        obtain ⟨x0, hx0⟩ : ∃ x, ps[0]? = some x := by
          cases ps with
          | nil => exact absurd rfl hne
          | cons x ps' => exact ⟨x, rfl⟩
        have x0in := List.mem_of_getElem? hx0
        have npos : 0 < ps.length := (List.getElem?_eq_some_iff.mp hx0).1
        refine q_forCall (vs := [.int (ps.length : Nat), .int ((if ps.length < 3 then 2 else 1 : Nat) : Nat)]) (ea_cons (ev_is (ev_len (ev_var rfl) (sq_of (e11 _ _ hp10))) (by rw [adr_len])) (ea_cons (ev_is (ev_ifB (et_test (ev_lt (ev_len (ev_var rfl) (sq_of (e11 _ _ hp10))) ev_c)) (fun _ => ev_c) (fun _ => ev_c)) (by
          rw [adr_len]
          by_cases h : ps.length < 3
          · rw [if_pos (by simp; omega), if_pos h]; rfl
          · rw [if_neg (by simp; omega), if_neg h]; rfl)) ea_nil)) fun H12 e12 => ?_
        have e1012 := e11.trans e12
        refine ⟨ps.length, _, rfl, by omega, by split <;> omega, ?_, fun bx bs H13 nbx e13 hbx bR bq bl bn bf => ?_⟩
        · have : ps.length = 1 ∨ ps.length = 2 ∨ ps.length = 3 ∨ ps.length = 4 ∨ ps.length = 5 ∨ ps.length = 6 := by omega
          rcases this with h | h | h | h | h | h <;> rw [h] <;> decide
        have e1013 := e1012.trans e13
        refine q_forLn ev_raw (sq_of hbx) (fun i σ' H' => ∃ v5 v6 : Option V, σ' = [some (.ref p), some (.int M), some (.ref du), some (.ref hp'), some (.ref to), v5, v6] ∧ Ex H13 H')
          (fun H14 e14 => ⟨_, _, rfl, e14⟩) (fun i σ' H' _ ⟨_, _, _, e⟩ => sq_of (e _ _ hbx)) ?_ ?_
        · rintro i x σ' H14 hi ⟨v5, v6, rfl, e14⟩
          obtain ⟨y, hy, rfl⟩ := adr_get hi
          have yin := List.mem_of_getElem? hy
          obtain ⟨yl, yb⟩ := bq y yin
          have eA := e1013.trans e14
          have hpA := eA _ _ hp10
          have hRA := hR10.ex eA
          have hyA := e14 _ _ (bR y yin)
          have hz := zero_iff hm (R := rws ps) (KD := KD) (x := y.2) hlen hKD hK (by rw [yl, rws_len])
          refine q_asg (v := .bl (isZ (restOf (KD.map (·.2)) y.2 M))) (ev_is (ev_notV (ev_cbL (xs := iL (sumT (rws ps) y.2 (List.replicate wd 0) M)) (el_call (ea_cons (ev_var rfl) (ea_cons (ev_var rfl) (ea_cons (ev_is (ev_len (ev_ix (ev_var rfl) ev_c (sq_of hpA) (atI_nat (j := 0) (adr_at hx0))) (hRA.seq x0in)) (w := .int (wd : Nat)) (by rw [iL_len, hlen x0.2 (mem_rws x0in)])) (ea_cons (ev_var rfl) ea_nil)))) fun H15 e15 Q15 q15 _ => ?_) fun l H15 e15 h15 H16 e16 Q16 q16 => ⟨l, _, rfl, ex_l e16 (sq_of h15), q16 H16 (Ex.refl H16)⟩)) (by rw [any_isZ, hz])) fun H15 e15 => ?_
          · exact ⟨p, y.1, ps, y.2, wd, M, rfl, sq_of (e15 _ _ hpA), hRA.ex e15, sq_of (e15 _ _ hyA), yl, by omega, by omega, hm.nonneg, hlen, fun k hk r hr j => CMulW_small (by
              obtain ⟨i, hi⟩ := List.getElem?_of_mem hk
              have := yb i
              rw [en_get hi] at this
              omega) (by have := hbnd r hr j; omega), q15⟩
          · refine et_whenS (b := false) (et_test (ev_is (ev_neB (ev_var rfl) (ev_call (z := .bl (isZ (restOf (KD.map (·.2)) y.2 M))) (ea_cons (ev_var rfl) (ea_cons (ev_var rfl) (ea_cons (ev_var rfl) ea_nil))) fun H16 e16 Q16 q16 _ => ?_)) (by simp))) rfl fun H16 e16 => ⟨_, _, rfl, (e14.trans e15).trans e16⟩
            have eB := (eA.trans e15).trans e16
            exact ⟨du, y.1, ds, y.2, ps.length, M, rfl, ⟨sq_of (eB _ _ hdu10), dR10.ex eB, sq_of ((e15.trans e16) _ _ hyA), hm, yl, by omega, by omega, fun _ j => Nat.le_trans (yb j) (by have : (2 : Nat) ^ 1 ≤ 2 ^ tb := Nat.pow_le_pow_right (by decide) (by decide); omega), by rw [de]; exact hKR⟩, by rw [de]; exact q16⟩
        · rintro σ' H14 ⟨v5, v6, rfl, e14⟩
          exact s_ret ev_c fun H15 e15 => fin H15 (x010.trans (LamX.ExtN.of ((e1013.trans e14).trans e15))) (T10.ext ((e1013.trans e14).trans e15))
end
end Mine
set_option Elab.async false
set_option linter.all false
set_option maxRecDepth 100000
set_option maxHeartbeats 4000000
namespace Mine
open PySem PySem.Spec PyProof.Rows L2 Evl
theorem metR_facts {M : Int} (hm : Md M) {wd : Nat} {R : List Row} (hl : ∀ r ∈ R, r.length = wd) (x : Row) : (sumBy M R (en x) (List.replicate wd 0)).length = wd ∧ ∀ j, M ∣ en (sumBy M R (en x) (List.replicate wd 0)) j - comb R (en x) j := by
  obtain ⟨h1, h2, h3⟩ := sumBy_facts (M := M) hm (R := R) (x := en x) (t := List.replicate wd 0) hl (by simp) (rng_zero hm)
  refine ⟨h1, fun j => ?_⟩
  have := h3 j
  rw [en_zero, Int.zero_add] at this
  exact this
theorem met_data {M : Int} {wd : Nat} {R S : List Row} (hm : Md M) (hR : ∀ r ∈ R, r.length = wd) (hS : ∀ r ∈ S, r.length = wd) (hwd : wd ≤ 3) (nR : R.length ≤ 3) (nS : S.length ≤ 3) (bR : Bnd (2 ^ 23) R) (bS : Bnd (2 ^ 23) S) :
    ∃ (KD : List (Nat × Row)) (φ : Nat), Herm M (R.length + S.length) KD ∧ KerR M (R ++ S) (KD.map (·.2)) ∧ KD.length ≤ 6 ∧ (M = 0 → Bnd (2 ^ 1000) (KD.map (·.2))) ∧ 1 ≤ φ ∧ (M = 0 → Bnd φ (metR M R wd (KD.map (·.2)))) ∧ gI φ (KD.length - 1) < 2 ^ 8999 ∧
      (∀ v, InL M (metR M R wd (KD.map (·.2))) v ↔ InL M R v ∧ InL M S v) ∧ ∀ r ∈ metR M R wd (KD.map (·.2)), r.length = wd := by
  have hl : ∀ r ∈ R ++ S, r.length = wd := fun r hr => (List.mem_append.mp hr).elim (hR r) (hS r)
  have hb : Bnd (2 ^ 23) (R ++ S) := fun r hr => (List.mem_append.mp hr).elim (bR r) (bS r)
  obtain ⟨KD, r, hKD, hK, hcnt, hrw, hKb⟩ := ker_data hm hl (by rw [List.length_append]; omega) (b := 2 ^ 23) (by decide) (fun _ => hb)
  rw [List.length_append] at hKD hcnt
  have mb : ∀ {X φ : Nat}, M = 0 → (∀ x ∈ KD.map (·.2), ∀ j, (en x j).natAbs ≤ X) → 3 * (X * 2 ^ 23) ≤ φ → Bnd φ (metR M R wd (KD.map (·.2))) := fun {X φ} hM hX hφ y hy j => by
    obtain ⟨x, hx, rfl⟩ := List.mem_map.mp hy
    have h1 := (metR_facts hm hR x).2 j
    have h2 := comb_abs bR (hX x hx) j
    subst hM
    have h3 := Int.zero_dvd.mp h1
    have h4 : R.length * (X * 2 ^ 23) ≤ 3 * (X * 2 ^ 23) := Nat.mul_le_mul_right _ nR
    omega
  have hX : M = 0 → ∀ x ∈ KD.map (·.2), ∀ j, (en x j).natAbs ≤ 6 * (12 * 2 ^ 23) ^ r := fun hM x hx j => hKb hM x hx j
  refine ⟨KD, if r = 0 then 2 ^ 28 else if r = 1 then 2 ^ 55 else if r = 2 then 2 ^ 82 else 2 ^ 109, hKD, hK, by omega, fun hM x hx j => Nat.le_trans (hX hM x hx j) (Nat.le_trans (ker_big (by omega)) (Nat.pow_le_pow_right (by decide) (by decide))), ?_, ?_, ?_, fun v => meet_in hK fun x _ j => (metR_facts hm hR x).2 j, fun y hy => ?_⟩
  · split
    · decide
    · split
      · decide
      · split <;> decide
  · intro hM
    refine mb hM (hX hM) ?_
    have : r = 0 ∨ r = 1 ∨ r = 2 ∨ r = 3 := by omega
    rcases this with h | h | h | h <;> subst h <;> decide
  · have : r = 0 ∨ r = 1 ∨ r = 2 ∨ r = 3 := by omega
    rcases this with h | h | h | h <;> subst h
    · exact Nat.lt_of_le_of_lt (gI_mono (by decide) (show KD.length - 1 ≤ 5 by omega)) (Nat.lt_of_le_of_lt (gI_pow (Nat.le_refl (2 ^ 28))).2.2.2.2 (Nat.pow_lt_pow_right (by decide) (by decide)))
    · exact Nat.lt_of_le_of_lt (gI_mono (by decide) (show KD.length - 1 ≤ 4 by omega)) (Nat.lt_of_le_of_lt (gI_pow (Nat.le_refl (2 ^ 55))).2.2.2.1 (Nat.pow_lt_pow_right (by decide) (by decide)))
    · exact Nat.lt_of_le_of_lt (gI_mono (by decide) (show KD.length - 1 ≤ 3 by omega)) (Nat.lt_of_le_of_lt (gI_pow (Nat.le_refl (2 ^ 82))).2.2.1 (Nat.pow_lt_pow_right (by decide) (by decide)))
    · exact Nat.lt_of_le_of_lt (gI_mono (by decide) (show KD.length - 1 ≤ 2 by omega)) (Nat.lt_of_le_of_lt (gI_pow (Nat.le_refl (2 ^ 109))).2.1 (Nat.pow_lt_pow_right (by decide) (by decide)))
  · obtain ⟨x, hx, rfl⟩ := List.mem_map.mp hy
    exact (metR_facts hm hR x).1
theorem met_same {M : Int} {A B : List Row} {P : (Nat → Int) → Prop} (hA : ∀ v, InL M A v ↔ P v) (hB : ∀ v, InL M B v ↔ P v) : SameL M A B :=
  ⟨fun r hr => (hB _).mpr ((hA _).mp (InL.mem hr)), fun r hr => (hA _).mpr ((hB _).mp (InL.mem hr))⟩
section
variable {K : PySem.W.Frag} {σ : L2.St} {H H' : Hp} {ta tb te tf tx tl : TE} {t u : TT} {x y z v w1 : V} {D : Ends} {tu tw tz : TS}
theorem q_parRR {i j : Nat} {rs ss : List Row} (h : EvR te σ H rs) (h2 : ∀ H1, Ex H H1 → EvR tf σ H1 ss) (k : ∀ p ps q qs H1, Ex H H1 → H1 p = some (.lst (adr ps)) → Rws H1 ps → rws ps = rs → H1 q = some (.lst (adr qs)) → Rws H1 qs → rws qs = ss → tz D ((σ.set i (some (.ref p))).set j (some (.ref q))) H1) : tSeq (tPar i j (tCons te (tCons tf tNil))) tz D σ H :=
  h H (Ex.refl H) _ fun p ps H1 np e1 hp hR he _ _ => h2 H1 e1 H1 (Ex.refl H1) _ fun q qs H2 nq e2 hq hRq heq _ _ => ⟨_, _, rfl, k p ps q qs H2 (e1.trans e2) (e2 _ _ hp) (hR.ex e2) he hq hRq heq⟩
theorem q_parCC {sp sp' : Sp} {dvs dvs' vs : List V} {E E' : XK} {a a' : TA} {i j : Nat} (h : EvA a σ H vs) (k : ∀ H1, Ex H H1 → sp (vs ++ dvs) H1 (fun x H2 => ∃ ws : List V, EvA a' σ H2 ws ∧ ∀ H3, Ex H2 H3 → sp' (ws ++ dvs') H3 (fun y H4 => tz D ((σ.set i (some x)).set j (some y)) H4) E') E)
    (mono : ∀ (vs : List V) (H1 : Hp) (Q1 Q2 : VK), (∀ x H2, Q1 x H2 → Q2 x H2) → sp vs H1 Q1 E → sp vs H1 Q2 E) (mono' : ∀ (vs : List V) (H1 : Hp) (Q1 Q2 : VK), (∀ x H2, Q1 x H2 → Q2 x H2) → sp' vs H1 Q1 E' → sp' vs H1 Q2 E') : tSeq (tPar i j (tCons (tCall sp dvs E a) (tCons (tCall sp' dvs' E' a') tNil))) tz D σ H :=
  h H (Ex.refl H) _ fun H1 e1 => mono _ _ _ _ (fun x H2 ⟨ws, hw, q⟩ => hw H2 (Ex.refl H2) _ fun H3 e3 => mono' _ _ _ _ (fun y H4 q4 => ⟨x, y, rfl, q4⟩) (q H3 e3)) (k H1 e1)
theorem s_retCC {sp sp' : Sp} {dvs dvs' vs : List V} {E E' : XK} {ta tr : TA} (h : EvA ta σ H vs) (k : ∀ H1, Ex H H1 → sp' (vs ++ dvs') H1 (fun x H2 => tr σ H2 fun ws H3 => sp (x :: ws ++ dvs) H3 D.rt E) E') : tRet (tCall sp dvs E (tCons (tCall sp' dvs' E' ta) tr)) D σ H := h H (Ex.refl H) _ k
end
theorem spLH_mono {K : PySem.W.Frag} {T : List (Addr × Str)} {E : XK} (vs : List V) (H1 : Hp) (Q1 Q2 : VK) (h : ∀ x H2, Q1 x H2 → Q2 x H2) : spLH K T vs H1 Q1 E → spLH K T vs H1 Q2 E := by
  rintro ⟨p, ps, wd, β, M, D, tr, h1, h2, h3, h4, h5, h6, h7, h8, h9, h10, h11, h12, h13, h14, q⟩
  exact ⟨p, ps, wd, β, M, D, tr, h1, h2, h3, h4, h5, h6, h7, h8, h9, h10, h11, h12, h13, h14, fun a ts H' a1 a2 a3 a4 a5 a6 a7 a8 => h _ _ (q a ts H' a1 a2 a3 a4 a5 a6 a7 a8)⟩
def spCMet (T : List (Addr × Str)) : Sp := fun vs H Q _ => ∃ (p q : Addr) (ps qs : List AR) (wd : Nat) (M : Int), vs = [.ref p, .ref q, .int (wd : Nat), .int M] ∧ H p = some (.lst (adr ps)) ∧ Rws H ps ∧ H q = some (.lst (adr qs)) ∧ Rws H qs ∧ Md M ∧ wd ≤ 3 ∧ ps.length ≤ 3 ∧ qs.length ≤ 3 ∧ (∀ x ∈ ps, TabR M wd x.2) ∧ (∀ x ∈ qs, TabR M wd x.2) ∧ LamX.Tabs T H ∧
  ∀ H', LamX.ExtN H H' → LamX.Tabs T H' → Q (.bl true) H'
section
variable {P : Program} {w : World} {K : PySem.W.Frag} {mg : Str → Option Value} {base : Heap} {H : Hp}
theorem ok_law_c_met (L : Lib K mg) {T : List (Addr × Str)} (HH : HL K mg base T) {f : Addr} {fd : FuncData} (F : L2.Fun K "_law_c_met" "_law_c_met" s_law_c_met f fd) : FnOk P w K mg base CX0 8 f fd ["one", "other", "width", "M"] (spCMet T) := by
  obtain ⟨f_law_c_box, fd_law_c_box, F_law_c_box⟩ := L.law_c_box
  obtain ⟨f_law_c_copy, fd_law_c_copy, F_law_c_copy⟩ := L.law_c_copy
  obtain ⟨f_law_hermite, fd_law_hermite, F_law_hermite⟩ := L.law_hermite
  obtain ⟨f_law_inside, fd_law_inside, F_law_inside⟩ := L.law_inside
  obtain ⟨f_law_meet, fd_law_meet, F_law_meet⟩ := L.law_meet
  obtain ⟨f_law_same, fd_law_same, F_law_same⟩ := L.law_same
  obtain ⟨f_meet_rows, fd_meet_rows, F_meet_rows⟩ := L.meet_rows
  obtain ⟨c, f_law_hermite, fd_law_hermite, Pt, F_law_hermite, FC, TB, hmT, hu⟩ := HH.has
  have G_law_hermite : FnOk P w K mg base CX0 3 f_law_hermite fd_law_hermite _ (spLH K T) := ok_law_hermite L FC TB hmT hu
  have G_law_meet : FnOk P w K mg base CX0 5 f_law_meet fd_law_meet _ (spLMeet K T) := ok_law_meet L HH F_law_meet.F
  have G_law_c_copy : FnOk P w K mg base CX0 1 f_law_c_copy fd_law_c_copy _ (spCopy K) := ok_law_c_copy L F_law_c_copy.F
  have G_meet_rows : FnOk P w K mg base CX0 7 f_meet_rows fd_meet_rows _ (spMeet K) := ok_meet_rows L F_meet_rows.F
  have G_law_same : FnOk P w K mg base CX0 4 f_law_same fd_law_same _ (spSame 2) := ok_law_same L F_law_same 2
  have G_law_c_box : FnOk P w K mg base CX0 1 f_law_c_box fd_law_c_box _ spBox := ok_law_c_box L F_law_c_box.F
  have G_law_inside : FnOk P w K mg base CX0 3 f_law_inside fd_law_inside _ (spIn K) := ok_law_inside L F_law_inside.F
  refine F.ok sc_law_c_met (fun vs H Q E h => ?_) (fun cdv A outer s H vs Q E hr h => ?_)
  · obtain ⟨p, q, ps, qs, wd, M, rfl, _⟩ := h; rfl
  · obtain ⟨p, q, ps, qs, wd, M, rfl, hp, hR, hq, hRq, hm, hwd, hn, hnq, hT, hTq, hTa, fin⟩ := h
    refine ⟨_, (pss_cons (ps_set (i := 4) sc_law_c_met.nd rfl (Or.inl rfl) (pe_call G_law_meet (hr.mono (by decide)) (by rfl) F_law_meet.g F_law_meet.F.kp F_law_meet.b .nil pass0 (pa_cons (pv 0) (pa_cons (pv 1) (pa_cons (pv 2) (pa_cons (pv 3) pa_nil))))))
    (pss_cons (ps_par (i := 5) (j := 6) rfl sc_law_c_met.nd rfl rfl (by decide) rfl rfl (pa_cons (pe_call G_law_c_copy (hr.mono (by decide)) (by rfl) F_law_c_copy.g F_law_c_copy.F.kp F_law_c_copy.b .nil pass0 (pa_cons (pv 0) pa_nil)) (pa_cons (pe_call G_law_c_copy (hr.mono (by decide)) (by rfl) F_law_c_copy.g F_law_c_copy.F.kp F_law_c_copy.b .nil pass0 (pa_cons (pv 1) pa_nil)) pa_nil)) (by rfl))
    (pss_cons (ps_set (i := 7) sc_law_c_met.nd rfl (Or.inl rfl) (pe_call G_meet_rows (hr.mono (by decide)) (by rfl) F_meet_rows.g F_meet_rows.F.kp F_meet_rows.b .nil pass0 (pa_cons (pv 5) (pa_cons (pv 6) (pa_cons (pv 2) (pa_cons (pv 3) pa_nil))))))
    (pss_cons (ps_if (PW.pt (pw_or (pt_not (pt_val (pe_call G_law_same (hr.mono (by decide)) (by rfl) F_law_same.g F_law_same.F.kp F_law_same.b .nil pass0 (pa_cons (pv 7) (pa_cons (pv 4) pa_nil))))) (pw_or (pt_cmpR (op_neD hr.units) (pv 5) (pv 0) (nomark _)) (pw_or1 (pt_cmpR (op_neD hr.units) (pv 6) (pv 1) (nomark _))))))
      (pss_one (ps_ret pe_bl))
      pss_nil)
    (pss_cons (ps_par (i := 8) (j := 9) rfl sc_law_c_met.nd rfl rfl (by decide) rfl rfl (pa_cons (pe_call G_law_hermite (hr.mono (by decide)) (by rfl) F_law_hermite.g F_law_hermite.F.kp F_law_hermite.b .nil pass0 (pa_cons (pv 0) (pa_cons (pv 2) (pa_cons (pv 3) pa_nil)))) (pa_cons (pe_call G_law_hermite (hr.mono (by decide)) (by rfl) F_law_hermite.g F_law_hermite.F.kp F_law_hermite.b .nil pass0 (pa_cons (pv 1) (pa_cons (pv 2) (pa_cons (pv 3) pa_nil)))) pa_nil)) (by rfl))
    (pss_cons (ps_for PassesOwn.never rfl (pi_list (pe_call G_law_c_box (hr.mono (by decide)) (by rfl) F_law_c_box.g F_law_c_box.F.kp F_law_c_box.b .nil pass0 (pa_cons (pv 2) (pa_cons (pe_ifExp (pt_cmpR op_lt (pv 2) pe_int (nomark _)) pe_int pe_int) pa_nil)))) (pg_name (i := 10) sc_law_c_met.nd rfl (Or.inl rfl))
      (pss_cons (ps_set (i := 11) sc_law_c_met.nd rfl (Or.inl rfl) (pe_and (pe_call G_law_inside (hr.mono (by decide)) (by rfl) F_law_inside.g F_law_inside.F.kp F_law_inside.b .nil pass0 (pa_cons (pv 8) (pa_cons (pv 10) (pa_cons (pv 3) pa_nil)))) (pe_one (pe_call G_law_inside (hr.mono (by decide)) (by rfl) F_law_inside.g F_law_inside.F.kp F_law_inside.b .nil pass0 (pa_cons (pv 9) (pa_cons (pv 10) (pa_cons (pv 3) pa_nil)))))))
    (pss_one (ps_if (pt_cmpR op_ne (pv 11) (pe_call G_law_inside (hr.mono (by decide)) (by rfl) F_law_inside.g F_law_inside.F.kp F_law_inside.b .nil pass0 (pa_cons (pv 4) (pa_cons (pv 10) (pa_cons (pv 3) pa_nil)))) (nomark _))
      (pss_one (ps_ret pe_bl))
      pss_nil))))
    (pss_one (ps_ret (pe_call G_law_same (hr.mono (by decide)) (by rfl) F_law_same.g F_law_same.F.kp F_law_same.b .nil pass0 (pa_cons (pe_call G_meet_rows (hr.mono (by decide)) (by rfl) F_meet_rows.g F_meet_rows.F.kp F_meet_rows.b .nil pass0 (pa_cons (pv 6) (pa_cons (pv 5) (pa_cons (pv 2) (pa_cons (pv 3) pa_nil))))) (pa_cons (pv 4) pa_nil))))))))))), ?_⟩
    have hlen := tab_len hT
    have hlenq := tab_len hTq
    have hbnd := tab_bnd hT
    have hbndq := tab_bnd hTq
    have hlen2 : ∀ r ∈ rws ps ++ rws qs, r.length = wd := fun r hr => (List.mem_append.mp hr).elim (hlen r) (hlenq r)
    have hbnd2 : Bnd (2 ^ 23) (rws ps ++ rws qs) := fun r hr => (List.mem_append.mp hr).elim (hbnd r) (hbndq r)
    have h5 : ∀ {zs : List AR}, (∀ x ∈ zs, TabR M wd x.2) → M ≠ 0 → ∀ r ∈ rws zs, ∀ j, (en r j).natAbs ≤ 5 := fun {zs} hz hM r hr j => by
      obtain ⟨x, hx, rfl⟩ := List.mem_map.mp hr
      have := (hz x hx).rng hM j
      have := hm.pos hM
      omega
    obtain ⟨KD, φ, hKD, hK, hkn, hkb, hφ, hfb, hgφ, hmet, hml⟩ := met_data hm hlen hlenq hwd (by rw [rws_len]; exact hn) (by rw [rws_len]; exact hnq) hbnd hbndq
    obtain ⟨KD2, φ2, hKD2, hK2, hkn2, hkb2, hφ2, hfb2, hgφ2, hmet2, hml2⟩ := met_data hm hlenq hlen hwd (by rw [rws_len]; exact hnq) (by rw [rws_len]; exact hn) hbndq hbnd
    rw [rws_len, rws_len] at hKD hKD2
    have ml : (metR M (rws ps) wd (KD.map (·.2))).length = KD.length := by unfold metR; rw [List.length_map, List.length_map]
    obtain ⟨D, hD, hSD, hDl, hRO⟩ := herm_ro hm hφ hml hfb (by rw [ml]; exact hkn) (by rw [ml]; exact hgφ)
    have hSD2 : SameL M (metR M (rws qs) wd (KD2.map (·.2))) (D.map (·.2)) := (met_same (P := fun v => InL M (rws ps) v ∧ InL M (rws qs) v) (fun v => (hmet2 v).trans ⟨fun h => ⟨h.2, h.1⟩, fun h => ⟨h.2, h.1⟩⟩) hmet).trans hSD
    obtain ⟨D1, hD1, hS1, hD1l, hRO1⟩ := herm_ro hm (β := 2 ^ 23) (by decide) hlen (fun _ => hbnd) (by rw [rws_len]; omega) (gI_tab (by rw [rws_len]; omega))
    obtain ⟨D2, hD2, hS2, hD2l, hRO2⟩ := herm_ro hm (β := 2 ^ 23) (by decide) hlenq (fun _ => hbndq) (by rw [rws_len]; omega) (gI_tab (by rw [rws_len]; omega))
    have hb1000 : Bnd (2 ^ 1000) (rws ps) := fun r hr j => Nat.le_trans (hbnd r hr j) (Nat.pow_le_pow_right (by decide) (by decide))
    have hb1000q : Bnd (2 ^ 1000) (rws qs) := fun r hr j => Nat.le_trans (hbndq r hr j) (Nat.pow_le_pow_right (by decide) (by decide))
    have hdl := kd_len hD
    refine q_asgCall (vs := [.ref p, .ref q, .int (wd : Nat), .int M]) (ea_cons (ev_var rfl) (ea_cons (ev_var rfl) (ea_cons (ev_var rfl) (ea_cons (ev_var rfl) ea_nil)))) fun H1 e1 => ?_
    refine ⟨p, q, ps, qs, wd, 2 ^ 23, φ, M, KD, D, rfl, e1 _ _ hp, hR.ex e1, e1 _ _ hq, hRq.ex e1, hm, by omega, by omega, by decide, gI_tab (by omega), hlen2, fun _ => hbnd2, hKD, hK, hkn, fun hM => ⟨hkb hM, hb1000⟩, hφ, hfb, hgφ, hD, hSD, h5 hT, hTa.ext e1, fun du ds H2 x2 T2 hdu ndu dR de df dn => ?_⟩
    have x02 := (LamX.ExtN.of e1).trans x2
    have hp2 := extN_lst x02 hp
    have hR2 := extN_rws x02 hR
    have hq2 := extN_lst x02 hq
    have hRq2 := extN_rws x02 hRq
    have dl : ds.length = D.length := by have := congrArg List.length de; rw [rws_len, List.length_map] at this; exact this
    refine q_parRR (evr_copy (K := K) (ea_cons (ev_var rfl) ea_nil) (sq_of hp2) hR2 (by omega)) (fun H3 e3 => evr_copy (K := K) (ea_cons (ev_var rfl) ea_nil) (sq_of (e3 _ _ hq2)) (hRq2.ex e3) (by omega)) fun hp' hs' mo ms H3 e3 hhp hRh eqh hmo hRm eqm => ?_
    have hhl : hs'.length = ps.length := by have := congrArg List.length eqh; rw [rws_len, rws_len] at this; exact this
    have hml' : ms.length = qs.length := by have := congrArg List.length eqm; rw [rws_len, rws_len] at this; exact this
    refine q_asgCall (vs := [.ref hp', .ref mo, .int (wd : Nat), .int M]) (ea_cons (ev_var rfl) (ea_cons (ev_var rfl) (ea_cons (ev_var rfl) (ea_cons (ev_var rfl) ea_nil)))) fun H4 e4 => ?_
    refine ⟨hp', mo, hs', ms, wd, 2 ^ 23, φ, M, KD, D, rfl, sq_of (e4 _ _ hhp), hRh.ex e4, sq_of (e4 _ _ hmo), hRm.ex e4, hm, by omega, by omega, by decide, gI_tab (by omega), by rw [eqh, eqm]; exact hlen2, by rw [eqh, eqm]; exact fun _ => hbnd2, by rw [hhl, hml']; exact hKD, by rw [eqh, eqm]; exact hK, hkn, fun hM => ⟨hkb hM, by rw [eqh]; exact hb1000⟩, hφ, by rw [eqh]; exact hfb, hgφ, hD, by rw [eqh]; exact hSD, by rw [eqh]; exact h5 hT, fun to ts H5 e5 hto nto tR te tf tn => ?_⟩
    have e25 := (e3.trans e4).trans e5
    have e35 := e4.trans e5
    have tl : ts.length = D.length := by have := congrArg List.length te; rw [rws_len, List.length_map] at this; exact this
    have Dl6 : D.length ≤ 6 := by rw [ml] at hDl; omega
    have sameD : ∀ {H6 : Hp} {t : Addr} {us : List AR}, H6 t = some (.lst (adr us)) → Rws H6 us → rws us = D.map (·.2) → H6 du = some (.lst (adr ds)) → Rws H6 ds → SpV (spSame 2) [.ref t, .ref du] H6 (.bl true) := fun {H6 t us} h1 h2 h3 h4 h5 => by
      have ul : us.length = D.length := by have := congrArg List.length h3; rw [rws_len, List.length_map] at this; exact this
      exact same_R2 (K := K) (wd := wd) h1 h2 h4 h5 (h3.trans de.symm) (fun r hr => by rw [h3] at hr; exact Nat.le_of_eq (hdl r hr)) (by omega) (by omega)
    refine et_whenF (et_or (a := false) (et_is (et_not (et_B (b := true) (ev_call (ea_cons (ev_var rfl) (ea_cons (ev_var rfl) ea_nil)) (sameD hto tR te (e25 _ _ hdu) (dR.ex e25))))) rfl) fun _ => et_or (a := false) (et_test (b := false) (ev_is (ev_op (ev_var rfl) (ev_var rfl) (rv_neD (d := Mine.dR (rws hs')) (e := Mine.dR (rws ps)) (fun H6 e => dpR (sq_of (e _ _ (e35 _ _ hhp))) ((hRh.ex e35).ex e)) (fun H6 e => dpR (sq_of (e _ _ (e25 _ _ hp2))) ((hR2.ex e25).ex e)) (shR _) (shR _))) (by rw [eqh, eqv_R]; rfl))) fun _ => et_test (b := false) (ev_is (ev_op (ev_var rfl) (ev_var rfl) (rv_neD (d := Mine.dR (rws ms)) (e := Mine.dR (rws qs)) (fun H6 e => dpR (sq_of (e _ _ (e35 _ _ hmo))) ((hRm.ex e35).ex e)) (fun H6 e => dpR (sq_of (e _ _ (e25 _ _ hq2))) ((hRq2.ex e25).ex e)) (shR _) (shR _))) (by rw [eqm, eqv_R]; rfl))) rfl fun H6 e6 => ?_
    have e26 := e25.trans e6
    have T6 := T2.ext e26
    have x06 := x02.trans (LamX.ExtN.of e26)
    -- the law's own reduced rows of both
    refine q_parCC (vs := [.ref p, .int (wd : Nat), .int M]) (ea_cons (ev_var rfl) (ea_cons (ev_var rfl) (ea_cons (ev_var rfl) ea_nil))) (fun H7 e7 => ?_) spLH_mono spLH_mono
    have x07 := x06.trans (LamX.ExtN.of e7)
    refine ⟨p, ps, wd, 2 ^ 23, M, D1, false, rfl, sq_of (extN_lst x07 hp), extN_rws x07 hR, hm, by omega, by omega, by decide, by unfold bJ; rw [if_neg (by decide)]; exact gI_tab (by omega), hlen, fun _ => hbnd, fun h => (nomatch h), hD1, hS1, T6.ext e7, fun a1 us1 H8 x8 T8 ha1 na1 uR1 ue1 uf1 un1 => ?_⟩
    have x08 := x07.trans x8
    refine ⟨[.ref q, .int (wd : Nat), .int M], ea_cons (ev_var rfl) (ea_cons (ev_var rfl) (ea_cons (ev_var rfl) ea_nil)), fun H9 e9 => ?_⟩
    have x09 := x08.trans (LamX.ExtN.of e9)
    refine ⟨q, qs, wd, 2 ^ 23, M, D2, false, rfl, sq_of (extN_lst x09 hq), extN_rws x09 hRq, hm, by omega, by omega, by decide, by unfold bJ; rw [if_neg (by decide)]; exact gI_tab (by omega), hlenq, fun _ => hbndq, fun h => (nomatch h), hD2, hS2, T8.ext e9, fun a2 us2 H10 x10 T10 ha2 na2 uR2 ue2 uf2 un2 => ?_⟩
    have x010 := x09.trans x10
    have x810 := (LamX.ExtN.of e9).trans x10
    have x210 := ((LamX.ExtN.of (e26.trans e7)).trans x8).trans x810
    have x310 := ((LamX.ExtN.of ((e35.trans e6).trans e7)).trans x8).trans x810
    have ha1' := extN_lst x810 ha1
    have uR1' := extN_rws x810 uR1
    have hdu10 := extN_lst x210 hdu
    have dR10 := extN_rws x210 dR
    have u1l : us1.length ≤ 6 := by have h1 := congrArg List.length ue1; rw [rws_len, List.length_map] at h1; rw [rws_len] at hD1l; omega
    have u2l : us2.length ≤ 6 := by have h1 := congrArg List.length ue2; rw [rws_len, List.length_map] at h1; rw [rws_len] at hD2l; omega
    refine q_forCall (vs := [.int (wd : Nat), .int ((if wd < 3 then 2 else 1 : Nat) : Nat)]) (ea_cons (ev_var rfl) (ea_cons (ev_is (ev_ifB (et_test (ev_lt (ev_var rfl) ev_c)) (fun _ => ev_c) (fun _ => ev_c)) (by
      by_cases h : wd < 3
      · rw [if_pos (by simp; omega), if_pos h]; rfl
      · rw [if_neg (by simp; omega), if_neg h]; rfl)) ea_nil)) fun H11 e11 => ?_
    refine ⟨wd, _, rfl, by omega, by split <;> omega, ?_, fun bx bs H12 nbx e12 hbx bR bq bl bn bf => ?_⟩
    · have : wd = 0 ∨ wd = 1 ∨ wd = 2 ∨ wd = 3 := by omega
      rcases this with h | h | h | h <;> rw [h] <;> decide
    have e1012 := e11.trans e12
    refine q_forLn ev_raw (sq_of hbx) (fun i σ' H' => ∃ v10 v11 : Option V, σ' = [some (.ref p), some (.ref q), some (.int (wd : Nat)), some (.int M), some (.ref du), some (.ref hp'), some (.ref mo), some (.ref to), some (.ref a1), some (.ref a2), v10, v11] ∧ Ex H12 H')
      (fun H13 e13 => ⟨_, _, rfl, e13⟩) (fun i σ' H' _ ⟨_, _, _, e⟩ => sq_of (e _ _ hbx)) ?_ ?_
    · rintro i x σ' H13 hi ⟨v10, v11, rfl, e13⟩
      obtain ⟨y, hy, rfl⟩ := adr_get hi
      have yin := List.mem_of_getElem? hy
      obtain ⟨yl, yb⟩ := bq y yin
      have eA := e1012.trans e13
      have hyA := e13 _ _ (bR y yin)
      have ybb : M = 0 → ∀ j, (en y.2 j).natAbs ≤ 2 ^ tb := fun _ j => Nat.le_trans (yb j) (by have : (2 : Nat) ^ 1 ≤ 2 ^ tb := Nat.pow_le_pow_right (by decide) (by decide); omega)
      have ins : ∀ {σ2 : L2.St} {H14 : Hp} {k : Nat} {a : Addr} {us : List AR} {DD : List (Nat × Row)} {E' : XK}, Ex H13 H14 → σ2[k]? = some (some (.ref a)) → σ2[10]? = some (some (.ref y.1)) → σ2[3]? = some (some (.int M)) → H14 a = some (.lst (adr us)) → Rws H14 us → us.length ≤ 6 → rws us = DD.map (·.2) → (∀ o ∈ DD.map (·.2), RO M wd o) →
          Ev (tCall (spIn K) [] E' (tCons (tVar k) (tCons (tVar 10) (tCons (tVar 3) tNil)))) σ2 H14 (.bl (isZ (restOf (DD.map (·.2)) y.2 M))) := fun {σ2 H14 k a us DD E'} e14 s1 s2 s3 h1 h2 h3 h4 h5 =>
        ev_call (ea_cons (ev_var s1) (ea_cons (ev_var s2) (ea_cons (ev_var s3) ea_nil))) fun H15 e15 Q15 q15 _ => ⟨a, y.1, us, y.2, wd, M, rfl, ⟨sq_of (e15 _ _ h1), h2.ex e15, sq_of ((e14.trans e15) _ _ hyA), hm, yl, by omega, h3, ybb, by rw [h4]; exact h5⟩, by rw [h4]; exact q15⟩
      refine q_asg (v := .bl (isZ (restOf (D1.map (·.2)) y.2 M) && isZ (restOf (D2.map (·.2)) y.2 M))) (ev_andV (ins (Ex.refl _) rfl rfl rfl (eA _ _ ha1') (uR1'.ex eA) u1l ue1 hRO1) fun _ => ins (Ex.refl _) rfl rfl rfl (eA _ _ ha2) (uR2.ex eA) u2l ue2 hRO2) fun H14 e14 => ?_
      refine et_whenS (b := false) (et_test (ev_is (ev_neB (ev_var rfl) (ins e14 rfl rfl rfl ((eA.trans e14) _ _ hdu10) (dR10.ex (eA.trans e14)) (by omega) de hRO)) ?_)) rfl fun H15 e15 => ⟨_, _, rfl, (e13.trans e14).trans e15⟩
      have g1 := inside_iff hm hD1 yl
      have g2 := inside_iff hm hD2 yl
      have g := inside_iff hm hD yl
      have g1' : InL M (D1.map (·.2)) (en y.2) ↔ InL M (rws ps) (en y.2) := ⟨fun h => hS1.symm.into h, fun h => hS1.into h⟩
      have g2' : InL M (D2.map (·.2)) (en y.2) ↔ InL M (rws qs) (en y.2) := ⟨fun h => hS2.symm.into h, fun h => hS2.into h⟩
      have g' : InL M (D.map (·.2)) (en y.2) ↔ InL M (metR M (rws ps) wd (KD.map (·.2))) (en y.2) := ⟨fun h => hSD.symm.into h, fun h => hSD.into h⟩
      have ee : (isZ (restOf (D1.map (·.2)) y.2 M) && isZ (restOf (D2.map (·.2)) y.2 M)) = isZ (restOf (D.map (·.2)) y.2 M) := by
        rw [Bool.eq_iff_iff, Bool.and_eq_true, g1, g2, g, g1', g2', g', hmet]
      rw [ee]; simp
    · rintro σ' H13 ⟨v10, v11, rfl, e13⟩
      have eA := e1012.trans e13
      have x013 := x010.trans (LamX.ExtN.of eA)
      refine s_retCC (vs := [.ref mo, .ref hp', .int (wd : Nat), .int M]) (ea_cons (ev_var rfl) (ea_cons (ev_var rfl) (ea_cons (ev_var rfl) (ea_cons (ev_var rfl) ea_nil)))) fun H14 e14 => ?_
      have x314 := (x310.trans (LamX.ExtN.of eA)).trans (LamX.ExtN.of e14)
      refine ⟨mo, hp', ms, hs', wd, 2 ^ 23, φ2, M, KD2, D, rfl, sq_of (extN_lst x314 hmo), extN_rws x314 hRm, sq_of (extN_lst x314 hhp), extN_rws x314 hRh, hm, by omega, by omega, by decide, gI_tab (by omega), by rw [eqh, eqm]; exact fun r hr => (List.mem_append.mp hr).elim (hlenq r) (hlen r), by rw [eqh, eqm]; exact fun _ r hr => (List.mem_append.mp hr).elim (hbndq r) (hbnd r), by rw [hhl, hml']; exact hKD2, by rw [eqh, eqm]; exact hK2, hkn2, fun hM => ⟨hkb2 hM, by rw [eqm]; exact hb1000q⟩, hφ2, by rw [eqm]; exact hfb2, hgφ2, hD, by rw [eqm]; exact hSD2, by rw [eqm]; exact h5 hTq, fun t2 ts2 H15 e15 ht2 nt2 tR2 te2 tf2 tn2 => ?_⟩
      refine ⟨_, rfl, ?_⟩
      have eB := (eA.trans e14).trans e15
      refine (sameD ht2 tR2 te2 (eB _ _ hdu10) (dR10.ex eB)) H15 (Ex.refl _) _ (fun H16 e16 => ?_) E0
      exact fin H16 (x010.trans (LamX.ExtN.of (eB.trans e16))) (T10.ext (eB.trans e16))
end
end Mine
set_option Elab.async false
set_option linter.all false
set_option maxRecDepth 100000
set_option maxHeartbeats 4000000
namespace Mine
open PySem PySem.Spec PyProof.Rows L2 Evl
theorem tabs_le {T : List (Addr × Str)} {s g : Addr} {H1 H2 : Hp} (e : Le s g H1 H2) (hs : Src s g H1) (h : LamX.Tabs T H1) : LamX.Tabs T H2 := fun q hq => by
  obtain ⟨ps, h1, h2, h3⟩ := h q hq
  obtain ⟨gs, b, t, st, hs1, hs2⟩ := hs
  have n1 : q.1 ≠ s := fun z => by rw [z, hs1] at h1; cases h1
  have n2 : q.1 ≠ g := fun z => by rw [z, hs2] at h1; cases h1
  refine ⟨ps, e.keep _ _ h1 n1 n2, h2, fun pos cv hc => ?_⟩
  obtain ⟨c, e1, e2⟩ := h3 pos cv hc
  have n3 : c ≠ s := fun z => by rw [z, hs1] at e2; cases e2
  have n4 : c ≠ g := fun z => by rw [z, hs2] at e2; cases e2
  exact ⟨c, e1, e.keep _ _ e2 n3 n4⟩
theorem Src.extN {s g : Addr} {H H' : Hp} (h : Src s g H) (e : LamX.ExtN H H') : Src s g H' := by
  obtain ⟨gs, b, t, st, h1, h2⟩ := h
  exact ⟨gs, b, t, st, e _ _ h1 (fun ps z => by cases z), extN_lst e h2⟩
/-- an own list, drawn -/
def EvOwn (s g : Addr) (te : TE) (σ : L2.St) (H : Hp) (P : List AR → Prop) : Prop := ∀ H1, Le s g H H1 → ∀ Q : VK, (∀ p ps H2, Own s g H1 H2 p ps → P ps → Q (.ref p) H2) → te σ H1 Q
/-- a test that comes out as b, whatever lambdas are made -/
def EvTX (T : List (Addr × Str)) (t : TT) (σ : L2.St) (H : Hp) (b : Bool) : Prop := ∀ H1, LamX.ExtN H H1 → LamX.Tabs T H1 → ∀ Q : Bool → Hp → Prop, (∀ H2, LamX.ExtN H1 H2 → LamX.Tabs T H2 → Q b H2) → t σ H1 Q
section
variable {K : PySem.W.Frag} {s g : Addr} {σ : L2.St} {H H' : Hp} {ta tb te tf tx tl : TE} {t u : TT} {x y z v w1 : V} {D : Ends} {tu tw tz : TS} {A B C : Int → Prop} {P P' : V → Prop} {T : List (Addr × Str)}
theorem evo_tab {ta : TA} {E : XK} {M : Int} {wd : Nat} (ha : ∀ H1, Le s g H H1 → EvA ta σ H1 [.ref s, .int (wd : Nat), .int M]) (hm : Md M) (h1 : 1 ≤ wd) (h3 : wd ≤ 3) : EvOwn s g (tCall spTab [] E ta) σ H (fun ps => ps.length ≤ 3 ∧ ∀ x ∈ ps, TabR M wd x.2) := fun H1 e Q q =>
  ha H1 e H1 (Ex.refl H1) _ fun H2 e2 => ⟨s, g, wd, M, rfl, e.src.ex e2, hm, h1, h3, fun p ps H3 o hl ht => q p ps H3 (o.from (Le.of e.src e2)) ⟨hl, ht⟩⟩
theorem q_parOO {i j : Nat} {P P' : List AR → Prop} (hs : Src s g H) (h : EvOwn s g te σ H P) (h2 : EvOwn s g tf σ H P') (k : ∀ p ps q qs H1, Own s g H H1 p ps → P ps → Own s g H H1 q qs → P' qs → tz D ((σ.set i (some (.ref p))).set j (some (.ref q))) H1) : tSeq (tPar i j (tCons te (tCons tf tNil))) tz D σ H :=
  h H (Le.refl hs) _ fun p ps H1 o1 pp => h2 H1 o1.le _ fun q qs H2 o2 pq => ⟨_, _, rfl, k p ps q qs H2 (o1.to hs o2.le) pp (o2.from o1.le) pq⟩
theorem q_tupKK {i j : Nat} (hs : Src s g H) (h : EvK s g te σ H P) (h2 : EvK s g tf σ H P') (k : ∀ v w H1, Le s g H H1 → P v → P' w → tz D ((σ.set i (some v)).set j (some w)) H1) : tSeq (tAsg (tTup (tCons te (tCons tf tNil))) (gTup K 2 (gCons (gName i) (gCons (gName j) gNil)))) tz D σ H :=
  h H (Le.refl hs) _ fun v H1 e1 pv => h2 H1 e1 _ fun w H2 e2 pw => ⟨by show 2 ≤ sizeLine; decide, fun p np => ⟨p, _, rfl, SqT.of upd_same, rfl, _, _, rfl, _, _, rfl, rfl, k v w _ ((e1.trans e2).trans (Le.of e2.src (Ex.new np))) pv pw⟩⟩
theorem q_asgLst2 {i : Nat} {r : Row} {R : List V → Prop} {P2 : Row → Prop} (hs : Src s g H) (h1 : EvL te σ H (iL r)) (h2 : ElK s g tf σ H R) (hP : ∀ xs, R xs → ∃ r2, xs = iL r2 ∧ P2 r2) (k : ∀ p q1 q2 r2 H1, Own s g H H1 p [(q1, r), (q2, r2)] → P2 r2 → tz D (σ.set i (some (.ref p))) H1) : tSeq (tAsg (tLst (tCons te (tCons tf tNil))) (gName i)) tz D σ H :=
  h1 H (Ex.refl H) _ fun q1 H1 n1 e1 hq1 => h2 H1 (Le.of hs e1) _ fun q2 xs H2 n2 e2 hq2 hR => by
    obtain ⟨r2, rfl, p2⟩ := hP xs hR
    have L1 := Le.of hs e1
    have g1 : q1 ≠ g := hs.newG n1
    have hq1' := e2.lst L1.src hq1 g1
    refine ⟨by show 2 ≤ sizeLine; decide, fun p np => ?_⟩
    have L2' := L1.trans e2
    have c1 : q1 ≠ p := ne_of_none hq1' np
    have c2 : q2 ≠ p := ne_of_none hq2 np
    refine k p q1 q2 r2 _ ⟨L2'.trans (Le.of L2'.src (Ex.new np)), L2'.back np, upd_same, fun x hx => ?_, fun x hx => ?_⟩ p2
    · rcases List.mem_cons.mp hx with h | h
      · rw [h, upd_ne c1]; exact hq1'
      · rw [List.mem_singleton.mp h, upd_ne c2]; exact hq2
    · rcases List.mem_cons.mp hx with h | h
      · rw [h]; exact ⟨n1, c1⟩
      · rw [List.mem_singleton.mp h]; exact ⟨fresh_back e1 n2, c2⟩
theorem q_appK {i : Nat} {l : Addr} {xs : List V} {R : List V → Prop} (hs : Src s g H) (hv : σ[i]? = some (some (.ref l))) (hl : H l = some (.lst xs)) (hg : l ≠ g) (h : ElK s g te σ H R) (hz : xs.length < 100000) (k : ∀ p ys H1, H p = none → Le s g H H1 → H1 l = some (.lst xs) → H1 p = some (.lst ys) → R ys → tz D σ (L2.upd H1 l (.lst (xs ++ [.ref p])))) :
    tSeq (tDrop (tBM K "list" rAppend (tVar i) (tCons te tNil))) tz D σ H :=
  ⟨_, hv, Or.inl ⟨rfl, xs, sq_of hl⟩, h H (Le.refl hs) _ fun p ys H2 hp e2 h2 hr => ⟨l, xs, .ref p, rfl, rfl, e2.lst hs hl hg, sz_lt hz, k p ys H2 hp e2 (e2.lst hs hl hg) h2 hr⟩⟩
/-- f(v, a drawn list, ..) gives a new list -/
theorem elk_callVK {sp : Sp} {dvs vs : List V} {E : XK} {ta : TA} {R R' : List V → Prop} (h1 : ∀ H1, Le s g H H1 → Ev tb σ H1 v) (h2 : ElK s g te σ H R) (h3 : ∀ H1, Le s g H H1 → EvA ta σ H1 vs) (k : ∀ p xs H1, Le s g H H1 → H1 p = some (.lst xs) → R xs → ∃ ys, R' ys ∧ SpL sp (v :: .ref p :: (vs ++ dvs)) H1 ys) : ElK s g (tCall sp dvs E (tCons tb (tCons te ta))) σ H R' := fun H0 e0 Q q =>
  h1 H0 e0 H0 (Ex.refl H0) _ fun H1 e1 => by
    have L1 := e0.trans (Le.of e0.src e1)
    refine h2 H1 L1 _ fun p xs H2 np e2 hp hr => ?_
    have L2' := L1.trans e2
    refine h3 H2 L2' H2 (Ex.refl H2) _ fun H3 e3 => ?_
    obtain ⟨ys, hy, hsp⟩ := k p xs H3 (L2'.trans (Le.of L2'.src e3)) (e3 _ _ hp) hr
    refine hsp H3 (Ex.refl H3) _ (fun p2 H4 n4 e4 h4 => q p2 ys H4 ?_ ?_ h4 hy) E
    · exact fresh_back e1 (e2.back (fresh_back e3 n4))
    · exact ((Le.of e0.src e1).trans e2).trans (Le.of e2.src (e3.trans e4))
theorem etx_or {a b : Bool} (h1 : EvTX T t σ H a) (h2 : EvTX T u σ H b) : EvTX T (tOr t u) σ H (a || b) := fun H1 e hT Q q => h1 H1 e hT _ fun H2 e2 T2 => by
  cases a with
  | true => show Q true H2; exact q H2 e2 T2
  | false =>
    show u σ H2 Q
    exact h2 H2 (e.trans e2) T2 Q fun H3 e3 T3 => q H3 (e2.trans e3) T3
theorem etx_not {a : Bool} (h1 : EvTX T t σ H a) : EvTX T (tNot t) σ H (!a) := fun H1 e hT _ q => h1 H1 e hT _ fun H2 e2 T2 => q H2 e2 T2
theorem etx_call {sp : Sp} {dvs vs : List V} {E : XK} {ta : TA} (h : ∀ H1, LamX.ExtN H H1 → EvA ta σ H1 vs) (k : ∀ H1, LamX.ExtN H H1 → LamX.Tabs T H1 → ∀ Q : VK, (∀ H2, LamX.ExtN H1 H2 → LamX.Tabs T H2 → Q (.bl true) H2) → sp (vs ++ dvs) H1 Q E) : EvTX T (tB (tCall sp dvs E ta)) σ H true := fun H1 e hT Q q =>
  h H1 e H1 (Ex.refl H1) _ fun H2 e2 => k H2 (e.trans (LamX.ExtN.of e2)) (hT.ext e2) _ fun H3 e3 T3 => ⟨true, rfl, q H3 ((LamX.ExtN.of e2).trans e3) T3⟩
theorem etx_callL {sp : Sp} {dvs vs xs : List V} {E : XK} {ta : TA} (h : ∀ H1, LamX.ExtN H H1 → EvL te σ H1 xs) (h2 : ∀ H1, LamX.ExtN H H1 → EvA ta σ H1 vs) (k : ∀ p H1, LamX.ExtN H H1 → H1 p = some (.lst xs) → LamX.Tabs T H1 → ∀ Q : VK, (∀ H2, LamX.ExtN H1 H2 → LamX.Tabs T H2 → Q (.bl true) H2) → sp (.ref p :: (vs ++ dvs)) H1 Q E) : EvTX T (tB (tCall sp dvs E (tCons te ta))) σ H true := fun H1 e hT Q q =>
  h H1 e H1 (Ex.refl H1) _ fun p H2 np e2 hp => h2 H2 (e.trans (LamX.ExtN.of e2)) H2 (Ex.refl H2) _ fun H3 e3 => k p H3 ((e.trans (LamX.ExtN.of e2)).trans (LamX.ExtN.of e3)) (e3 _ _ hp) (hT.ext (e2.trans e3)) _ fun H4 e4 T4 => ⟨true, rfl, q H4 ((LamX.ExtN.of (e2.trans e3)).trans e4) T4⟩
theorem q_whenX {b : Bool} (h : EvTX T t σ H b) (hT : LamX.Tabs T H) (hb : b = false) (k : ∀ H1, LamX.ExtN H H1 → LamX.Tabs T H1 → tz D σ H1) : tSeq (tIfS t tu tNext) tz D σ H := h H (LamX.ExtN.refl H) hT _ fun H1 e T1 => by
  subst hb; exact k H1 e T1
theorem s_whenX {b : Bool} (h : EvTX T t σ H b) (hT : LamX.Tabs T H) (hb : b = false) (k : ∀ H1, LamX.ExtN H H1 → LamX.Tabs T H1 → D.nx σ H1) : tIfS t tu tNext D σ H := h H (LamX.ExtN.refl H) hT _ fun H1 e T1 => by
  subst hb; exact k H1 e T1
end
theorem numOk_bnd {M : Int} (hm : Md M) {r : Row} (h : ∀ (i : Nat) (k : Int), r[i]? = some k → NumOk M k) : ∀ j, (en r j).natAbs ≤ 1000000 := (numOk_row hm (wd := r.length) rfl h).2
section
variable {P : Program} {w : World} {K : PySem.W.Frag} {mg : Str → Option Value} {base : Heap} {H : Hp}
def spLaw (K : PySem.W.Frag) (T : List (Addr × Str)) : Sp := fun vs H Q _ => ∃ (a : Addr) (ns : List Int), vs = [.ref a] ∧ SqL K H a (ns.map V.int) ∧ ns.length ≤ 63 ∧ LamX.Tabs T H ∧ ∀ H', Q (.bl true) H'
theorem ok_law (L : Lib K mg) {T : List (Addr × Str)} (HH : HL K mg base T) {f : Addr} {fd : FuncData} (F : L2.Fun K "law" "law" s_law f fd) : FnOk P w K mg base CX0 9 f fd ["script"] (spLaw K T) := by
  obtain ⟨f_law_c_combined, fd_law_c_combined, F_law_c_combined⟩ := L.law_c_combined
  obtain ⟨f_law_c_kernel, fd_law_c_kernel, F_law_c_kernel⟩ := L.law_c_kernel
  obtain ⟨f_law_c_met, fd_law_c_met, F_law_c_met⟩ := L.law_c_met
  obtain ⟨f_law_c_number, fd_law_c_number, F_law_c_number⟩ := L.law_c_number
  obtain ⟨f_law_c_sum, fd_law_c_sum, F_law_c_sum⟩ := L.law_c_sum
  obtain ⟨f_law_c_table, fd_law_c_table, F_law_c_table⟩ := L.law_c_table
  obtain ⟨f_law_modulus, fd_law_modulus, F_law_modulus⟩ := L.law_modulus
  obtain ⟨f_law_pick, fd_law_pick, F_law_pick⟩ := L.law_pick
  obtain ⟨f_law_source, fd_law_source, F_law_source⟩ := L.law_source
  obtain ⟨f_law_within, fd_law_within, F_law_within⟩ := L.law_within
  have G_law_source : FnOk P w K mg base CX0 1 f_law_source fd_law_source _ (spSource K) := ok_law_source L F_law_source.F
  have G_law_modulus : FnOk P w K mg base CX0 3 f_law_modulus fd_law_modulus _ spMod := ok_law_modulus L F_law_modulus.F
  have G_law_pick : FnOk P w K mg base CX0 1 f_law_pick fd_law_pick _ spPick := ok_law_pick L F_law_pick.F
  have G_law_within : FnOk P w K mg base CX0 2 f_law_within fd_law_within _ spWithin := ok_law_within L F_law_within.F
  have G_law_c_table : FnOk P w K mg base CX0 4 f_law_c_table fd_law_c_table _ spTab := ok_law_c_table L F_law_c_table.F
  have G_law_c_number : FnOk P w K mg base CX0 3 f_law_c_number fd_law_c_number _ spNum := ok_law_c_number L F_law_c_number.F
  have G_law_c_sum : FnOk P w K mg base CX0 3 f_law_c_sum fd_law_c_sum _ (spSum K) := ok_law_c_sum L F_law_c_sum.F
  have G_law_c_combined : FnOk P w K mg base CX0 6 f_law_c_combined fd_law_c_combined _ (spCmb T) := ok_law_c_combined L HH F_law_c_combined.F
  have G_law_c_kernel : FnOk P w K mg base CX0 7 f_law_c_kernel fd_law_c_kernel _ (spCKer T) := ok_law_c_kernel L HH F_law_c_kernel.F
  have G_law_c_met : FnOk P w K mg base CX0 8 f_law_c_met fd_law_c_met _ (spCMet T) := ok_law_c_met L HH F_law_c_met.F
  refine F.ok sc_law (fun vs H Q E h => ?_) (fun cdv A outer s0 H vs Q E hr h => ?_)
  · obtain ⟨a, ns, rfl, _⟩ := h; rfl
  · obtain ⟨a, ns, rfl, hS, hl, hTa, fin⟩ := h
    refine ⟨_, (pss_cons (ps_set (i := 1) sc_law.nd rfl (Or.inr rfl) (pe_call G_law_source (hr.mono (by decide)) (by rfl) F_law_source.g F_law_source.F.kp F_law_source.b .nil pass0 (pa_cons (pv 0) (pa_cons pe_int pa_nil))))
    (pss_cons (ps_for PassesOwn.never rfl (pi_range1 (by rfl) L.range (pa_cons pe_int pa_nil)) (pg_name (i := 2) sc_law.nd rfl (Or.inl rfl))
      (pss_cons (ps_asg (pe_tup (pa_cons (pe_call G_law_modulus (hr.mono (by decide)) (by rfl) F_law_modulus.g F_law_modulus.F.kp F_law_modulus.b .nil pass0 (pa_cons (pv 1) pa_nil)) (pa_cons (pe_op op_add pe_int (pe_call G_law_pick (hr.mono (by decide)) (by rfl) F_law_pick.g F_law_pick.F.kp F_law_pick.b .nil pass0 (pa_cons (pv 1) (pa_cons pe_int pa_nil)))) pa_nil))) (pg_tup rfl (pgs_cons (pg_name (i := 3) sc_law.nd rfl (Or.inr rfl)) (pgs_cons (pg_name (i := 4) sc_law.nd rfl (Or.inl rfl)) pgs_nil))))
    (pss_cons (ps_par (i := 5) (j := 6) rfl sc_law.nd rfl rfl (by decide) rfl rfl (pa_cons (pe_call G_law_c_table (hr.mono (by decide)) (by rfl) F_law_c_table.g F_law_c_table.F.kp F_law_c_table.b .nil pass0 (pa_cons (pv 1) (pa_cons (pv 4) (pa_cons (pv 3) pa_nil)))) (pa_cons (pe_call G_law_c_table (hr.mono (by decide)) (by rfl) F_law_c_table.g F_law_c_table.F.kp F_law_c_table.b .nil pass0 (pa_cons (pv 1) (pa_cons (pv 4) (pa_cons (pv 3) pa_nil)))) pa_nil)) (by rfl))
    (pss_cons (ps_set (i := 7) sc_law.nd rfl (Or.inr rfl) (pe_lst (pa_cons (pe_lc (own := [("k", 10)]) (g := gName 10) (tt := tYes) rfl sc_law.nd (pi_range1 (by rfl) L.range (pa_cons (pv 4) pa_nil)) (blkOk_by (own := [("k", 10)]) (N := N_law) (sc := defScope s_law) (by decide +kernel)) (fun _ _ _ _ _ => (pg_name (i := 10) sc_law.nd rfl (Or.inl rfl))) (fun _ _ _ _ _ => pts_nil) (fun _ _ _ _ _ => pe_int)) (pa_cons (pe_lc (own := [("k", 10)]) (g := gName 10) (tt := tYes) rfl sc_law.nd (pi_range1 (by rfl) L.range (pa_cons (pv 4) pa_nil)) (blkOk_by (own := [("k", 10)]) (N := N_law) (sc := defScope s_law) (by decide +kernel)) (fun _ _ _ _ _ => (pg_name (i := 10) sc_law.nd rfl (Or.inl rfl))) (fun _ _ _ _ _ => pts_nil) (fun _ _ _ _ _ => (pe_call G_law_c_number (hr.mono (by decide)) (by rfl) F_law_c_number.g F_law_c_number.F.kp F_law_c_number.b .nil pass0 (pa_cons (pv 1) (pa_cons (pv 3) pa_nil))))) pa_nil))))
    (pss_cons (ps_expr (pe_bm PySem.F.plainAttrs_list PySem.F.slot_list_append PySem.F.type_list_append mt_append (pv 7) (pa_cons (pe_call G_law_c_sum (hr.mono (by decide)) (by rfl) F_law_c_sum.g F_law_c_sum.F.kp F_law_c_sum.b .nil pass0 (pa_cons (pv 5) (pa_cons (pe_lc (own := [("row", 8)]) (g := gName 8) (tt := tYes) rfl sc_law.nd (pi_list (pv 5)) (blkOk_by (own := [("row", 8)]) (N := N_law) (sc := defScope s_law) (by decide +kernel)) (fun _ _ _ _ _ => (pg_name (i := 8) sc_law.nd rfl (Or.inl rfl))) (fun _ _ _ _ _ => pts_nil) (fun _ _ _ _ _ => (pe_call G_law_within (hr.mono (by decide)) (by rfl) F_law_within.g F_law_within.F.kp F_law_within.b .nil pass0 (pa_cons (pv 1) (pa_cons (pe_op op_sub pe_int pe_int) (pa_cons pe_int pa_nil)))))) (pa_cons (pv 4) (pa_cons (pv 3) pa_nil))))) pa_nil)))
    (pss_cons (ps_set (i := 9) sc_law.nd rfl (Or.inr rfl) (pe_call G_law_pick (hr.mono (by decide)) (by rfl) F_law_pick.g F_law_pick.F.kp F_law_pick.b .nil pass0 (pa_cons (pv 1) (pa_cons (pv 4) pa_nil))))
    (pss_cons (ps_expr (pe_bm PySem.F.plainAttrs_list PySem.F.slot_list_append PySem.F.type_list_append mt_append (pv 7) (pa_cons (pe_lc (own := [("k", 10)]) (g := gName 10) (tt := tYes) rfl sc_law.nd (pi_range1 (by rfl) L.range (pa_cons (pv 4) pa_nil)) (blkOk_by (own := [("k", 10)]) (N := N_law) (sc := defScope s_law) (by decide +kernel)) (fun _ _ _ _ _ => (pg_name (i := 10) sc_law.nd rfl (Or.inl rfl))) (fun _ _ _ _ _ => pts_nil) (fun _ _ _ _ _ => (pe_op op_add (pe_ix (ix_listK (K := K)) (pe_ix (ix_listK (K := K)) (pv 7) pe_int (fun _ _ => rfl)) (pv 10) (fun _ _ => rfl)) (pe_ifExp (pt_cmpR op_eq (pv 10) (pv 9) (nomark _)) pe_int pe_int)))) pa_nil)))
    (pss_cons (ps_for PassesOwn.never rfl (pi_list (pv 7)) (pg_name (i := 8) sc_law.nd rfl (Or.inl rfl))
      (pss_one (ps_if (pt_not (pt_val (pe_call G_law_c_combined (hr.mono (by decide)) (by rfl) F_law_c_combined.g F_law_c_combined.F.kp F_law_c_combined.b .nil pass0 (pa_cons (pv 5) (pa_cons (pv 8) (pa_cons (pv 3) pa_nil))))))
      (pss_one (ps_ret pe_bl))
      pss_nil)))
    (pss_cons (ps_if (PW.pt (pw_or (pt_not (pt_val (pe_call G_law_c_kernel (hr.mono (by decide)) (by rfl) F_law_c_kernel.g F_law_c_kernel.F.kp F_law_c_kernel.b .nil pass0 (pa_cons (pv 5) (pa_cons (pv 3) pa_nil))))) (pw_or1 (pt_not (pt_val (pe_call G_law_c_kernel (hr.mono (by decide)) (by rfl) F_law_c_kernel.g F_law_c_kernel.F.kp F_law_c_kernel.b .nil pass0 (pa_cons (pe_op op_cat (pv 5) (pv 6)) (pa_cons (pv 3) pa_nil))))))))
      (pss_one (ps_ret pe_bl))
      pss_nil)
    (pss_one (ps_if (pt_not (pt_val (pe_call G_law_c_met (hr.mono (by decide)) (by rfl) F_law_c_met.g F_law_c_met.F.kp F_law_c_met.b .nil pass0 (pa_cons (pv 5) (pa_cons (pv 6) (pa_cons (pv 4) (pa_cons (pv 3) pa_nil)))))))
      (pss_one (ps_ret pe_bl))
      pss_nil)))))))))))
    (pss_one (ps_ret pe_bl)))), ?_⟩
    refine q_call (ea_cons (ev_var rfl) (ea_cons ev_c ea_nil)) fun H1 e1 => ?_
    refine ⟨a, ns, rfl, ex_l e1 hS, hl, fun s g H2 e2 hs2 hs hg => ?_⟩
    refine q_forR1 (n := 2) (ea_cons ev_c ea_nil) (by omega) (fun i σ' H' => ∃ (v2 v3 v4 v5 v6 v7 v8 v9 v10 : Option V), σ' = [some (.ref a), some (.ref s), v2, v3, v4, v5, v6, v7, v8, v9, v10] ∧ Src s g H' ∧ LamX.Tabs T H')
      (fun H3 e3 => ⟨_, _, _, _, _, _, _, _, _, rfl, hs2.ex e3, hTa.ext ((e1.trans e2).trans e3)⟩) ?_ (fun σ' H' _ => s_ret ev_c fun H2 _ => fin H2)
    rintro turn σ' H3 ht ⟨v2, v3, v4, v5, v6, v7, v8, v9, v10, rfl, hs3, hT3⟩
    refine q_tupKK (K := K) hs3 (evk_mod fun H1 e => ea_cons (ev_var rfl) ea_nil) (evi_op (g' := fun i j => i + j) (C := fun k => 1 ≤ k ∧ k ≤ 3) (evi_of (i := 1) fun H1 e => ev_c) (evk_pick (n := 3) (fun H1 e => ea_cons (ev_var rfl) (ea_cons ev_c ea_nil)) (by decide)) fun i j hi hj => by have := hj.lt (by decide); subst hi; omega) fun v v' H4 e4 ⟨M, hv, hm⟩ ⟨wi, hv', hwi⟩ => ?_
    subst hv hv'
    obtain ⟨wd, rfl⟩ : ∃ wd : Nat, wi = (wd : Nat) := ⟨wi.toNat, by omega⟩
    have hs4 := e4.src
    refine q_parOO hs4 (evo_tab (wd := wd) (fun H1 e => ea_cons (ev_var rfl) (ea_cons (ev_var rfl) (ea_cons (ev_var rfl) ea_nil))) hm (by omega) (by omega)) (evo_tab (wd := wd) (fun H1 e => ea_cons (ev_var rfl) (ea_cons (ev_var rfl) (ea_cons (ev_var rfl) ea_nil))) hm (by omega) (by omega)) fun p ps q qs H5 Op ⟨np, tp⟩ Oq ⟨nq, tq⟩ => ?_
    have hs5 := Op.le.src
    have T5 : LamX.Tabs T H5 := tabs_le (e4.trans Op.le) hs3 hT3
    have hlen := tab_len tp
    have hbnd := tab_bnd tp
    -- what is asked
    refine q_asgLst2 (r := List.replicate wd 0) (P2 := fun r => r.length = wd ∧ ∀ j, (en r j).natAbs ≤ 1000000) hs5 (el_lcRI (n := wd) (List.replicate wd 0) (by simp) (ea_cons (ev_var rfl) ea_nil) (by omega) (fun _ => rfl) fun i H1 e1 hi => by rw [en_zero]; exact ev_c) (elk_lcN (n := wd) (fun _ v => ∃ k, v = .int k ∧ NumOk M k) (fun H3 e3 => ea_cons (ev_var rfl) ea_nil) (by omega) (fun _ => rfl) fun j hj => evk_num (fun H3 e3 => ea_cons (ev_var rfl) (ea_cons (ev_var rfl) ea_nil)) hm) (fun xs ⟨h1, h2⟩ => ?_) fun as q1 q2 r2 H6 O6 ⟨l2, b2⟩ => ?_
    · obtain ⟨r, rfl, hr⟩ := all_ints (P := fun _ => NumOk M) h2
      exact ⟨r, rfl, by rw [← h1, iL_len], numOk_bnd hm hr⟩
    have L6 := O6.le
    have hp6 : ∀ {H7 : Hp}, Le s g H5 H7 → H7 p = some (.lst (adr ps)) ∧ Rws H7 ps := fun {H7} e => ⟨e.lst hs5 Op.lst (Op.off hs4).1, e.rws hs5 Op.rws (Op.off hs4).2⟩
    have hq6 : ∀ {H7 : Hp}, Le s g H5 H7 → H7 q = some (.lst (adr qs)) ∧ Rws H7 qs := fun {H7} e => ⟨e.lst hs5 Oq.lst (Oq.off hs4).1, e.rws hs5 Oq.rws (Oq.off hs4).2⟩
    refine q_appK (K := K) (xs := adr [(q1, List.replicate wd 0), (q2, r2)]) (R := fun ys => ∃ r3, ys = iL r3 ∧ r3.length = wd ∧ ∀ j, (en r3 j).natAbs ≤ 200000000) L6.src rfl O6.lst (O6.off hs5).1 (elk_callVK (v := .ref p) (R := fun zs => zs.length = (adr ps).length ∧ ∀ (i : Nat) (z : V), zs[i]? = some z → ∃ k, z = .int k ∧ (-4 ≤ k ∧ k ≤ 4)) (fun H1 e => ev_var rfl) (elk_lc (K := K) (xs := adr ps) (fun _ v => ∃ k, v = .int k ∧ (-4 ≤ k ∧ k ≤ 4)) (fun H1 e => ev_var rfl) L6.src (hp6 L6).1 (Op.off hs4).1 (by rw [adr_len]; omega) (fun _ => rfl) fun i x hx => (evk_within (lo := 0 - 4) (hi := 4) (fun H5 e => ea_cons (ev_var rfl) (ea_cons (ev_sub ev_c ev_c) (ea_cons ev_c ea_nil))) (by decide) (by decide)).imp fun v ⟨k, hv, hk⟩ => ⟨k, hv, by omega⟩) (fun H1 e => ea_cons (ev_var rfl) (ea_cons (ev_var rfl) ea_nil)) fun p5 zs H7 e7 hp5 ⟨hl5, hz5⟩ => ?_) (by rw [adr_len]; exact (by decide : 2 < 100000)) fun p3 ys H7 np3 e7 h7 hp3 ⟨r3, hr3, l3, b3⟩ => ?_
    · obtain ⟨ks, rfl, hks⟩ := all_ints (P := fun _ k => -4 ≤ k ∧ k ≤ 4) hz5
      have hks' : ∀ k ∈ ks, -4 ≤ k ∧ k ≤ 4 := fun k hk => by
        obtain ⟨i, hi⟩ := List.getElem?_of_mem hk
        exact hks i k hi
      have lk : ks.length = ps.length := by rw [← iL_len, hl5, adr_len]
      obtain ⟨g1, g2⟩ := hp6 (L6.trans e7)
      have tb8 : ∀ r ∈ rws ps, ∀ j, (en r j).natAbs ≤ 8000000 := fun r hr j => by
        obtain ⟨x, hx, rfl⟩ := List.mem_map.mp hr
        exact (tp x hx).bnd j
      refine ⟨iL (sumT (rws ps) ks (List.replicate wd 0) M), ⟨_, rfl, sumT_len hlen (by simp), fun j => ?_⟩, fun H8 e8 Q8 q8 E8 => ⟨p, p5, ps, ks, wd, M, rfl, ex_l e8 (sq_of g1), g2.ex e8, ex_l e8 (sq_of hp5), lk, by omega, by omega, hm.nonneg, hlen, fun k hk r hr j => CMulW_small (by have := hks' k hk; omega) (by have := tb8 r hr j; omega), q8⟩⟩
      have h1 := sum_bnd hm (B := 8000000) (wd := wd) (by decide) (rs := rws ps) (ks := ks) (t := List.replicate wd 0) (C := 0) hks' hlen (by simp) tb8 (fun j => by rw [en_zero]; decide) j
      rw [rws_len] at h1
      have h2 : ps.length * (4 * 8000000) ≤ 3 * (4 * 8000000) := Nat.mul_le_mul_right _ np
      omega
    subst hr3
    have O7 := O6.to hs5 e7
    have n3H : H5 p3 = none := L6.back np3
    have O8 := O7.app hs5 hp3 n3H (ne_of_none O6.lst np3).symm
    have ea : adr [(q1, List.replicate wd (0 : Int)), (q2, r2)] ++ [V.ref p3] = adr ([(q1, List.replicate wd 0), (q2, r2)] ++ [(p3, r3)]) := by rw [adr_app]; rfl
    generalize hH8 : L2.upd H7 as (.lst (adr [(q1, List.replicate wd 0), (q2, r2)] ++ [V.ref p3])) = H8 at O8
    refine q_asgK O8.le.src (evk_pick (n := (wd : Nat)) (fun H1 e => ea_cons (ev_var rfl) (ea_cons (ev_var rfl) ea_nil)) (by omega)) fun v H9 e9 ⟨at_, hv, hat⟩ => ?_
    subst hv
    have O9 := O8.to hs5 e9
    have hp39 : H9 p3 = some (.lst (iL r3)) := O9.rws (p3, r3) (by simp)
    refine q_appL O9.lst (ev_var rfl) (el_lcRI (n := wd) ((List.range wd).map fun j => en r3 j + if (j : Int) = at_ then 1 else 0) (by simp) (ea_cons (ev_var rfl) ea_nil) (by omega) (fun _ => rfl) fun j H1 e1 hj => ?_) (by rw [adr_len]; exact (by decide : 3 < 100000)) fun p4 H10 np4 e10 hp4 => ?_
    · refine ev_is (ev_add (ev_ix (K := K) (ev_ix (K := K) (ev_var rfl) ev_c (sq_of (e1 _ _ O9.lst)) (atI_nat (j := 2) rfl)) (ev_var rfl) (sq_of (e1 _ _ hp39)) (iL_en (by omega))) (ev_is (ev_ifB (et_test (ev_eqI (ev_var rfl) (ev_var rfl))) (fun _ => ev_c) (fun _ => ev_c)) (w := .int (if (j : Int) = at_ then 1 else 0)) (by by_cases z : (j : Int) = at_ <;> simp [z]))) ?_
      rw [en_get (r := (List.range wd).map fun j => en r3 j + if (j : Int) = at_ then 1 else 0) (x := en r3 j + if (j : Int) = at_ then 1 else 0) (by simp [hj])]
    have O10 := (O9.ex hs5 e10).app hs5 hp4 (O9.le.back np4) (ne_of_none O9.lst np4).symm
    generalize hAS : [(q1, List.replicate wd (0 : Int)), (q2, r2)] ++ [(p3, r3)] ++ [(p4, (List.range wd).map fun j => en r3 j + if (j : Int) = at_ then 1 else 0)] = AS at O10
    have asOk : ∀ x ∈ AS, x.2.length = wd ∧ ∀ j, (en x.2 j).natAbs ≤ 2 ^ 40 := fun x hx => by
      rw [← hAS] at hx
      have hx : x = (q1, List.replicate wd (0 : Int)) ∨ x = (q2, r2) ∨ x = (p3, r3) ∨ x = (p4, (List.range wd).map fun j => en r3 j + if (j : Int) = at_ then 1 else 0) := by simpa using hx
      have h40 : 1000000000 ≤ 2 ^ 40 := by decide
      rcases hx with h | h | h | h <;> rw [h]
      · exact ⟨by simp, fun j => by rw [en_zero]; exact Nat.zero_le _⟩
      · exact ⟨l2, fun j => by have := b2 j; show (en r2 j).natAbs ≤ _; omega⟩
      · exact ⟨l3, fun j => by have := b3 j; show (en r3 j).natAbs ≤ _; omega⟩
      · refine ⟨by simp, fun j => ?_⟩
        show (en ((List.range wd).map fun j => en r3 j + if (j : Int) = at_ then 1 else 0) j).natAbs ≤ _
        by_cases hj : j < wd
        · rw [en_get (r := (List.range wd).map fun j => en r3 j + if (j : Int) = at_ then 1 else 0) (x := en r3 j + if (j : Int) = at_ then 1 else 0) (by simp [hj])]
          have := b3 j
          split <;> omega
        · rw [en_ge (by simp; omega)]; simp
    have asl : AS.length = 4 := by rw [← hAS]; rfl
    generalize L2.upd H10 as (.lst (adr ([(q1, List.replicate wd (0 : Int)), (q2, r2)] ++ [(p3, r3)]) ++ [V.ref p4])) = H11 at O10
    have T11 : LamX.Tabs T H11 := tabs_le O10.le hs5 T5
    obtain ⟨hp11, hR11⟩ := hp6 O10.le
    obtain ⟨hq11, hRq11⟩ := hq6 O10.le
    -- each row
    refine q_forLn (ev_var rfl) (sq_of O10.lst) (fun i σ' H' => ∃ v8 : Option V, σ' = [some (.ref a), some (.ref s), some (.int (turn : Nat)), some (.int M), some (.int (wd : Nat)), some (.ref p), some (.ref q), some (.ref as), v8, some (.int at_), v10] ∧ LamX.ExtN H11 H' ∧ LamX.Tabs T H')
      (fun H12 e12 => ⟨_, rfl, LamX.ExtN.of e12, T11.ext e12⟩) (fun i σ' H' _ ⟨_, _, e, _⟩ => sq_of (extN_lst e O10.lst)) ?_ ?_
    · rintro i x σ' H12 hi ⟨v8, rfl, x12, T12⟩
      obtain ⟨y, hy, rfl⟩ := adr_get hi
      have yin := List.mem_of_getElem? hy
      obtain ⟨yl, yb⟩ := asOk y yin
      refine s_whenX (b := false) (etx_not (etx_call (T := T) (vs := [.ref p, .ref y.1, .int M]) (fun H13 e13 => ea_cons (ev_var rfl) (ea_cons (ev_var rfl) (ea_cons (ev_var rfl) ea_nil))) fun H13 x13 T13 Q13 q13 => ?_)) T12 rfl fun H13 x13 T13 => ⟨_, rfl, x12.trans x13, T13⟩
      have x1113 := x12.trans x13
      exact ⟨p, y.1, ps, y.2, wd, M, rfl, extN_lst x1113 hp11, extN_rws x1113 hR11, extN_lst x1113 (O10.rws y yin), hm, yl, by omega, np, tp, yb, T13, q13⟩
    · rintro σ' H12 ⟨v8, rfl, x12, T12⟩
      have hpX : ∀ {H13 : Hp}, LamX.ExtN H12 H13 → H13 p = some (.lst (adr ps)) ∧ Rws H13 ps ∧ H13 q = some (.lst (adr qs)) ∧ Rws H13 qs := fun {H13} e => ⟨extN_lst (x12.trans e) hp11, extN_rws (x12.trans e) hR11, extN_lst (x12.trans e) hq11, extN_rws (x12.trans e) hRq11⟩
      refine q_whenX (b := false) (etx_or (a := false) (b := false) (etx_not (etx_call (T := T) (vs := [.ref p, .int M]) (fun H13 e13 => ea_cons (ev_var rfl) (ea_cons (ev_var rfl) ea_nil)) fun H13 x13 T13 Q13 q13 => ?_)) (etx_not (etx_callL (T := T) (xs := adr (ps ++ qs)) (vs := [.int M]) (fun H13 x13 => ?_) (fun H13 e13 => ea_cons (ev_var rfl) ea_nil) fun b H13 x13 hb T13 Q13 q13 => ?_))) T12 rfl fun H13 x13 T13 => ?_
      · obtain ⟨g1, g2, g3, g4⟩ := hpX x13
        exact ⟨p, ps, wd, M, rfl, g1, g2, hm, by omega, by omega, tp, T13, q13⟩
      · obtain ⟨g1, g2, g3, g4⟩ := hpX x13
        rw [adr_app]
        exact el_catVV (ev_var rfl) g1 (ev_var rfl) g3 (by rw [adr_len, adr_len]; omega)
      · obtain ⟨g1, g2, g3, g4⟩ := hpX x13
        exact ⟨b, ps ++ qs, wd, M, rfl, hb, g2.append g4, hm, by omega, by rw [List.length_append]; omega, fun x hx => (List.mem_append.mp hx).elim (tp x) (tq x), T13, q13⟩
      · refine s_whenX (b := false) (etx_not (etx_call (T := T) (vs := [.ref p, .ref q, .int (wd : Nat), .int M]) (fun H13 e13 => ea_cons (ev_var rfl) (ea_cons (ev_var rfl) (ea_cons (ev_var rfl) (ea_cons (ev_var rfl) ea_nil)))) fun H14 x14 T14 Q14 q14 => ?_)) T13 rfl fun H14 x14 T14 => ⟨_, _, _, _, _, _, _, _, _, rfl, (O10.le.src.extN x12).extN (x13.trans x14), T14⟩
        obtain ⟨g1, g2, g3, g4⟩ := hpX (x13.trans x14)
        exact ⟨p, q, ps, qs, wd, M, rfl, g1, g2, g3, g4, hm, by omega, np, nq, tp, tq, T14, q14⟩
end
end Mine
set_option Elab.async false
set_option linter.all false
set_option maxRecDepth 100000
set_option maxHeartbeats 4000000
namespace Mine
open PySem PySem.Spec PyProof.Rows L2 Evl
theorem tabIn_of {K : PySem.W.Frag} {x : Str} {f c P : Addr} {oc occ : Value} {od odc : Option Addr} {fd : FuncData} {sl slc : Array (Option Value)} {vs : Array Value} (a : PySem.W.nsIn K mainGlobals x = some (some (.ref f))) (l : K.lookup f = some ⟨oc, od, .func fd, sl⟩) (hc : fd.code = .ref c) (lc : K.lookup c = some ⟨occ, odc, .fields vs, slc⟩) (hv : (vs[11]? : Option Value) = some (.ref P)) : PySem.W.tabIn K x = some (c, P) := by
  unfold PySem.W.tabIn; simp only [a, l, hc, lc, hv]
theorem all_mk {q : Program} {l : PySem.W.OpenLaw} {w : World} {K : PySem.W.Frag} {h : Heap} {mg : Str → Option Value} {fa : Addr} (X : K.In h) (G : h.Ns mainGlobals mg) (hfa : mg "law" = some (.ref fa))
    {cH tH : Addr}
    {f0 : Addr} {od0 an0 : Option Addr} {sl0 : Array (Option Value)} {oc0 kV0 dc0 pm0 cd0 ct0 : Value}
    (a0 : PySem.W.nsIn K mainGlobals "inverse_of" = some (some (.ref f0))) (l0 : K.lookup f0 = some ⟨oc0, od0, .func (PySem.W.fnOf "inverse_of" "inverse_of" (defArgs s_inverse_of) (defBody s_inverse_of) (defScope s_inverse_of) .none kV0 dc0 pm0 an0 cd0 ct0), sl0⟩) (c0 : PySem.W.codeIn K cd0 "inverse_of" = true) (k0 : PySem.W.keepIn K (.ref f0) = true)
    {f1 : Addr} {od1 an1 : Option Addr} {sl1 : Array (Option Value)} {oc1 kV1 dc1 pm1 cd1 ct1 : Value}
    (a1 : PySem.W.nsIn K mainGlobals "plain_row" = some (some (.ref f1))) (l1 : K.lookup f1 = some ⟨oc1, od1, .func (PySem.W.fnOf "plain_row" "plain_row" (defArgs s_plain_row) (defBody s_plain_row) (defScope s_plain_row) .none kV1 dc1 pm1 an1 cd1 ct1), sl1⟩) (c1 : PySem.W.codeIn K cd1 "plain_row" = true) (k1 : PySem.W.keepIn K (.ref f1) = true)
    {f2 : Addr} {od2 an2 : Option Addr} {sl2 : Array (Option Value)} {oc2 kV2 dc2 pm2 cd2 ct2 : Value}
    (a2 : PySem.W.nsIn K mainGlobals "unit_row" = some (some (.ref f2))) (l2 : K.lookup f2 = some ⟨oc2, od2, .func (PySem.W.fnOf "unit_row" "unit_row" (defArgs s_unit_row) (defBody s_unit_row) (defScope s_unit_row) .none kV2 dc2 pm2 an2 cd2 ct2), sl2⟩) (c2 : PySem.W.codeIn K cd2 "unit_row" = true) (k2 : PySem.W.keepIn K (.ref f2) = true)
    {f3 : Addr} {od3 an3 : Option Addr} {sl3 : Array (Option Value)} {oc3 kV3 dc3 pm3 cd3 ct3 : Value}
    (a3 : PySem.W.nsIn K mainGlobals "less_times" = some (some (.ref f3))) (l3 : K.lookup f3 = some ⟨oc3, od3, .func (PySem.W.fnOf "less_times" "less_times" (defArgs s_less_times) (defBody s_less_times) (defScope s_less_times) .none kV3 dc3 pm3 an3 cd3 ct3), sl3⟩) (c3 : PySem.W.codeIn K cd3 "less_times" = true) (k3 : PySem.W.keepIn K (.ref f3) = true)
    {f4 : Addr} {od4 an4 : Option Addr} {sl4 : Array (Option Value)} {oc4 kV4 dc4 pm4 cd4 ct4 : Value}
    (a4 : PySem.W.nsIn K mainGlobals "sum_of_rows" = some (some (.ref f4))) (l4 : K.lookup f4 = some ⟨oc4, od4, .func (PySem.W.fnOf "sum_of_rows" "sum_of_rows" (defArgs s_sum_of_rows) (defBody s_sum_of_rows) (defScope s_sum_of_rows) .none kV4 dc4 pm4 an4 cd4 ct4), sl4⟩) (c4 : PySem.W.codeIn K cd4 "sum_of_rows" = true) (k4 : PySem.W.keepIn K (.ref f4) = true)
    {f5 : Addr} {od5 an5 : Option Addr} {sl5 : Array (Option Value)} {oc5 kV5 dc5 pm5 cd5 ct5 : Value}
    (a5 : PySem.W.nsIn K mainGlobals "first_place" = some (some (.ref f5))) (l5 : K.lookup f5 = some ⟨oc5, od5, .func (PySem.W.fnOf "first_place" "first_place" (defArgs s_first_place) (defBody s_first_place) (defScope s_first_place) .none kV5 dc5 pm5 an5 cd5 ct5), sl5⟩) (c5 : PySem.W.codeIn K cd5 "first_place" = true) (k5 : PySem.W.keepIn K (.ref f5) = true)
    {f6 : Addr} {od6 an6 : Option Addr} {sl6 : Array (Option Value)} {oc6 kV6 dc6 pm6 cd6 ct6 : Value}
    (a6 : PySem.W.nsIn K mainGlobals "is_zero" = some (some (.ref f6))) (l6 : K.lookup f6 = some ⟨oc6, od6, .func (PySem.W.fnOf "is_zero" "is_zero" (defArgs s_is_zero) (defBody s_is_zero) (defScope s_is_zero) .none kV6 dc6 pm6 an6 cd6 ct6), sl6⟩) (c6 : PySem.W.codeIn K cd6 "is_zero" = true) (k6 : PySem.W.keepIn K (.ref f6) = true)
    {f7 : Addr} {od7 an7 : Option Addr} {sl7 : Array (Option Value)} {oc7 kV7 dc7 pm7 cd7 ct7 : Value}
    (a7 : PySem.W.nsIn K mainGlobals "least_row" = some (some (.ref f7))) (l7 : K.lookup f7 = some ⟨oc7, od7, .func (PySem.W.fnOf "least_row" "least_row" (defArgs s_least_row) (defBody s_least_row) (defScope s_least_row) .none kV7 dc7 pm7 an7 cd7 ct7), sl7⟩) (c7 : PySem.W.codeIn K cd7 "least_row" = true) (k7 : PySem.W.keepIn K (.ref f7) = true)
    {f8 : Addr} {od8 an8 : Option Addr} {sl8 : Array (Option Value)} {oc8 kV8 dc8 pm8 cd8 ct8 : Value}
    (a8 : PySem.W.nsIn K mainGlobals "quotient" = some (some (.ref f8))) (l8 : K.lookup f8 = some ⟨oc8, od8, .func (PySem.W.fnOf "quotient" "quotient" (defArgs s_quotient) (defBody s_quotient) (defScope s_quotient) .none kV8 dc8 pm8 an8 cd8 ct8), sl8⟩) (c8 : PySem.W.codeIn K cd8 "quotient" = true) (k8 : PySem.W.keepIn K (.ref f8) = true)
    {f9 : Addr} {od9 an9 : Option Addr} {sl9 : Array (Option Value)} {oc9 kV9 dc9 pm9 cd9 ct9 : Value}
    (a9 : PySem.W.nsIn K mainGlobals "one_pivot" = some (some (.ref f9))) (l9 : K.lookup f9 = some ⟨oc9, od9, .func (PySem.W.fnOf "one_pivot" "one_pivot" (defArgs s_one_pivot) (defBody s_one_pivot) (defScope s_one_pivot) .none kV9 dc9 pm9 an9 cd9 ct9), sl9⟩) (c9 : PySem.W.codeIn K cd9 "one_pivot" = true) (k9 : PySem.W.keepIn K (.ref f9) = true)
    {f10 : Addr} {od10 an10 : Option Addr} {sl10 : Array (Option Value)} {oc10 kV10 dc10 pm10 cd10 ct10 : Value}
    (a10 : PySem.W.nsIn K mainGlobals "split_rows" = some (some (.ref f10))) (l10 : K.lookup f10 = some ⟨oc10, od10, .func (PySem.W.fnOf "split_rows" "split_rows" (defArgs s_split_rows) (defBody s_split_rows) (defScope s_split_rows) .none kV10 dc10 pm10 an10 cd10 ct10), sl10⟩) (c10 : PySem.W.codeIn K cd10 "split_rows" = true) (k10 : PySem.W.keepIn K (.ref f10) = true)
    {f11 : Addr} {od11 an11 : Option Addr} {sl11 : Array (Option Value)} {oc11 kV11 dc11 pm11 cd11 ct11 : Value}
    (a11 : PySem.W.nsIn K mainGlobals "hermite_rows" = some (some (.ref f11))) (l11 : K.lookup f11 = some ⟨oc11, od11, .func (PySem.W.fnOf "hermite_rows" "hermite_rows" (defArgs s_hermite_rows) (defBody s_hermite_rows) (defScope s_hermite_rows) .none kV11 dc11 pm11 an11 cd11 ct11), sl11⟩) (c11 : PySem.W.codeIn K cd11 "hermite_rows" = true) (k11 : PySem.W.keepIn K (.ref f11) = true)
    {f12 : Addr} {od12 an12 : Option Addr} {sl12 : Array (Option Value)} {oc12 kV12 dc12 pm12 cd12 ct12 : Value}
    (a12 : PySem.W.nsIn K mainGlobals "rest_of_row" = some (some (.ref f12))) (l12 : K.lookup f12 = some ⟨oc12, od12, .func (PySem.W.fnOf "rest_of_row" "rest_of_row" (defArgs s_rest_of_row) (defBody s_rest_of_row) (defScope s_rest_of_row) .none kV12 dc12 pm12 an12 cd12 ct12), sl12⟩) (c12 : PySem.W.codeIn K cd12 "rest_of_row" = true) (k12 : PySem.W.keepIn K (.ref f12) = true)
    {f13 : Addr} {od13 an13 : Option Addr} {sl13 : Array (Option Value)} {oc13 kV13 dc13 pm13 cd13 ct13 : Value}
    (a13 : PySem.W.nsIn K mainGlobals "numbered_rows" = some (some (.ref f13))) (l13 : K.lookup f13 = some ⟨oc13, od13, .func (PySem.W.fnOf "numbered_rows" "numbered_rows" (defArgs s_numbered_rows) (defBody s_numbered_rows) (defScope s_numbered_rows) .none kV13 dc13 pm13 an13 cd13 ct13), sl13⟩) (c13 : PySem.W.codeIn K cd13 "numbered_rows" = true) (k13 : PySem.W.keepIn K (.ref f13) = true)
    {f14 : Addr} {od14 an14 : Option Addr} {sl14 : Array (Option Value)} {oc14 kV14 dc14 pm14 cd14 ct14 : Value}
    (a14 : PySem.W.nsIn K mainGlobals "combine_rows" = some (some (.ref f14))) (l14 : K.lookup f14 = some ⟨oc14, od14, .func (PySem.W.fnOf "combine_rows" "combine_rows" (defArgs s_combine_rows) (defBody s_combine_rows) (defScope s_combine_rows) .none kV14 dc14 pm14 an14 cd14 ct14), sl14⟩) (c14 : PySem.W.codeIn K cd14 "combine_rows" = true) (k14 : PySem.W.keepIn K (.ref f14) = true)
    {f15 : Addr} {od15 an15 : Option Addr} {sl15 : Array (Option Value)} {oc15 kV15 dc15 pm15 cd15 ct15 : Value}
    (a15 : PySem.W.nsIn K mainGlobals "kernel_rows" = some (some (.ref f15))) (l15 : K.lookup f15 = some ⟨oc15, od15, .func (PySem.W.fnOf "kernel_rows" "kernel_rows" (defArgs s_kernel_rows) (defBody s_kernel_rows) (defScope s_kernel_rows) .none kV15 dc15 pm15 an15 cd15 ct15), sl15⟩) (c15 : PySem.W.codeIn K cd15 "kernel_rows" = true) (k15 : PySem.W.keepIn K (.ref f15) = true)
    {f16 : Addr} {od16 an16 : Option Addr} {sl16 : Array (Option Value)} {oc16 kV16 dc16 pm16 cd16 ct16 : Value}
    (a16 : PySem.W.nsIn K mainGlobals "meet_rows" = some (some (.ref f16))) (l16 : K.lookup f16 = some ⟨oc16, od16, .func (PySem.W.fnOf "meet_rows" "meet_rows" (defArgs s_meet_rows) (defBody s_meet_rows) (defScope s_meet_rows) .none kV16 dc16 pm16 an16 cd16 ct16), sl16⟩) (c16 : PySem.W.codeIn K cd16 "meet_rows" = true) (k16 : PySem.W.keepIn K (.ref f16) = true)
    {f17 : Addr} {od17 an17 : Option Addr} {sl17 : Array (Option Value)} {oc17 kV17 dc17 pm17 cd17 ct17 : Value}
    (a17 : PySem.W.nsIn K mainGlobals "_law_source" = some (some (.ref f17))) (l17 : K.lookup f17 = some ⟨oc17, od17, .func (PySem.W.fnOf "_law_source" "_law_source" (defArgs s_law_source) (defBody s_law_source) (defScope s_law_source) .none kV17 dc17 pm17 an17 cd17 ct17), sl17⟩) (c17 : PySem.W.codeIn K cd17 "_law_source" = true) (k17 : PySem.W.keepIn K (.ref f17) = true)
    {f18 : Addr} {od18 an18 : Option Addr} {sl18 : Array (Option Value)} {oc18 kV18 dc18 pm18 cd18 ct18 : Value}
    (a18 : PySem.W.nsIn K mainGlobals "_law_pick" = some (some (.ref f18))) (l18 : K.lookup f18 = some ⟨oc18, od18, .func (PySem.W.fnOf "_law_pick" "_law_pick" (defArgs s_law_pick) (defBody s_law_pick) (defScope s_law_pick) .none kV18 dc18 pm18 an18 cd18 ct18), sl18⟩) (c18 : PySem.W.codeIn K cd18 "_law_pick" = true) (k18 : PySem.W.keepIn K (.ref f18) = true)
    {f19 : Addr} {od19 an19 : Option Addr} {sl19 : Array (Option Value)} {oc19 kV19 dc19 pm19 cd19 ct19 : Value}
    (a19 : PySem.W.nsIn K mainGlobals "_law_within" = some (some (.ref f19))) (l19 : K.lookup f19 = some ⟨oc19, od19, .func (PySem.W.fnOf "_law_within" "_law_within" (defArgs s_law_within) (defBody s_law_within) (defScope s_law_within) .none kV19 dc19 pm19 an19 cd19 ct19), sl19⟩) (c19 : PySem.W.codeIn K cd19 "_law_within" = true) (k19 : PySem.W.keepIn K (.ref f19) = true)
    {f20 : Addr} {od20 an20 : Option Addr} {sl20 : Array (Option Value)} {oc20 kV20 dc20 pm20 cd20 ct20 : Value}
    (a20 : PySem.W.nsIn K mainGlobals "_law_one" = some (some (.ref f20))) (l20 : K.lookup f20 = some ⟨oc20, od20, .func (PySem.W.fnOf "_law_one" "_law_one" (defArgs s_law_one) (defBody s_law_one) (defScope s_law_one) .none kV20 dc20 pm20 an20 cd20 ct20), sl20⟩) (c20 : PySem.W.codeIn K cd20 "_law_one" = true) (k20 : PySem.W.keepIn K (.ref f20) = true)
    {f21 : Addr} {od21 an21 : Option Addr} {sl21 : Array (Option Value)} {oc21 kV21 dc21 pm21 cd21 ct21 : Value}
    (a21 : PySem.W.nsIn K mainGlobals "_law_modulus" = some (some (.ref f21))) (l21 : K.lookup f21 = some ⟨oc21, od21, .func (PySem.W.fnOf "_law_modulus" "_law_modulus" (defArgs s_law_modulus) (defBody s_law_modulus) (defScope s_law_modulus) .none kV21 dc21 pm21 an21 cd21 ct21), sl21⟩) (c21 : PySem.W.codeIn K cd21 "_law_modulus" = true) (k21 : PySem.W.keepIn K (.ref f21) = true)
    {f22 : Addr} {od22 an22 : Option Addr} {sl22 : Array (Option Value)} {oc22 kV22 dc22 pm22 cd22 ct22 : Value}
    (a22 : PySem.W.nsIn K mainGlobals "_law_inverse" = some (some (.ref f22))) (l22 : K.lookup f22 = some ⟨oc22, od22, .func (PySem.W.fnOf "_law_inverse" "_law_inverse" (defArgs s_law_inverse) (defBody s_law_inverse) (defScope s_law_inverse) .none kV22 dc22 pm22 an22 cd22 ct22), sl22⟩) (c22 : PySem.W.codeIn K cd22 "_law_inverse" = true) (k22 : PySem.W.keepIn K (.ref f22) = true)
    {f23 : Addr} {od23 an23 : Option Addr} {sl23 : Array (Option Value)} {oc23 kV23 dc23 pm23 cd23 ct23 : Value}
    (a23 : PySem.W.nsIn K mainGlobals "_law_less" = some (some (.ref f23))) (l23 : K.lookup f23 = some ⟨oc23, od23, .func (PySem.W.fnOf "_law_less" "_law_less" (defArgs s_law_less) (defBody s_law_less) (defScope s_law_less) .none kV23 dc23 pm23 an23 cd23 ct23), sl23⟩) (c23 : PySem.W.codeIn K cd23 "_law_less" = true) (k23 : PySem.W.keepIn K (.ref f23) = true)
    {f24 : Addr} {od24 an24 : Option Addr} {sl24 : Array (Option Value)} {oc24 kV24 dc24 pm24 cd24 ct24 : Value}
    (a24 : PySem.W.nsIn K mainGlobals "_law_first" = some (some (.ref f24))) (l24 : K.lookup f24 = some ⟨oc24, od24, .func (PySem.W.fnOf "_law_first" "_law_first" (defArgs s_law_first) (defBody s_law_first) (defScope s_law_first) .none kV24 dc24 pm24 an24 cd24 ct24), sl24⟩) (c24 : PySem.W.codeIn K cd24 "_law_first" = true) (k24 : PySem.W.keepIn K (.ref f24) = true)
    {f25 : Addr} {od25 an25 : Option Addr} {sl25 : Array (Option Value)} {oc25 kV25 dc25 pm25 ct25 : Value}
    (a25 : PySem.W.nsIn K mainGlobals "_law_hermite" = some (some (.ref f25))) (l25 : K.lookup f25 = some ⟨oc25, od25, .func (PySem.W.fnOf "_law_hermite" "_law_hermite" (defArgs s_law_hermite) (defBody s_law_hermite) (defScope s_law_hermite) .none kV25 dc25 pm25 an25 (.ref cH) ct25), sl25⟩) (c25 : PySem.W.codeIn K (.ref cH) "_law_hermite" = true) (k25 : PySem.W.keepIn K (.ref f25) = true)
    {f26 : Addr} {od26 an26 : Option Addr} {sl26 : Array (Option Value)} {oc26 kV26 dc26 pm26 cd26 ct26 : Value}
    (a26 : PySem.W.nsIn K mainGlobals "_law_reduce" = some (some (.ref f26))) (l26 : K.lookup f26 = some ⟨oc26, od26, .func (PySem.W.fnOf "_law_reduce" "_law_reduce" (defArgs s_law_reduce) (defBody s_law_reduce) (defScope s_law_reduce) .none kV26 dc26 pm26 an26 cd26 ct26), sl26⟩) (c26 : PySem.W.codeIn K cd26 "_law_reduce" = true) (k26 : PySem.W.keepIn K (.ref f26) = true)
    {f27 : Addr} {od27 an27 : Option Addr} {sl27 : Array (Option Value)} {oc27 kV27 dc27 pm27 cd27 ct27 : Value}
    (a27 : PySem.W.nsIn K mainGlobals "_law_inside" = some (some (.ref f27))) (l27 : K.lookup f27 = some ⟨oc27, od27, .func (PySem.W.fnOf "_law_inside" "_law_inside" (defArgs s_law_inside) (defBody s_law_inside) (defScope s_law_inside) .none kV27 dc27 pm27 an27 cd27 ct27), sl27⟩) (c27 : PySem.W.codeIn K cd27 "_law_inside" = true) (k27 : PySem.W.keepIn K (.ref f27) = true)
    {f28 : Addr} {od28 an28 : Option Addr} {sl28 : Array (Option Value)} {oc28 kV28 dc28 pm28 cd28 ct28 : Value}
    (a28 : PySem.W.nsIn K mainGlobals "_law_unit" = some (some (.ref f28))) (l28 : K.lookup f28 = some ⟨oc28, od28, .func (PySem.W.fnOf "_law_unit" "_law_unit" (defArgs s_law_unit) (defBody s_law_unit) (defScope s_law_unit) .none kV28 dc28 pm28 an28 cd28 ct28), sl28⟩) (c28 : PySem.W.codeIn K cd28 "_law_unit" = true) (k28 : PySem.W.keepIn K (.ref f28) = true)
    {f29 : Addr} {od29 an29 : Option Addr} {sl29 : Array (Option Value)} {oc29 kV29 dc29 pm29 cd29 ct29 : Value}
    (a29 : PySem.W.nsIn K mainGlobals "_law_kernel" = some (some (.ref f29))) (l29 : K.lookup f29 = some ⟨oc29, od29, .func (PySem.W.fnOf "_law_kernel" "_law_kernel" (defArgs s_law_kernel) (defBody s_law_kernel) (defScope s_law_kernel) .none kV29 dc29 pm29 an29 cd29 ct29), sl29⟩) (c29 : PySem.W.codeIn K cd29 "_law_kernel" = true) (k29 : PySem.W.keepIn K (.ref f29) = true)
    {f30 : Addr} {od30 an30 : Option Addr} {sl30 : Array (Option Value)} {oc30 kV30 dc30 pm30 cd30 ct30 : Value}
    (a30 : PySem.W.nsIn K mainGlobals "_law_meet" = some (some (.ref f30))) (l30 : K.lookup f30 = some ⟨oc30, od30, .func (PySem.W.fnOf "_law_meet" "_law_meet" (defArgs s_law_meet) (defBody s_law_meet) (defScope s_law_meet) .none kV30 dc30 pm30 an30 cd30 ct30), sl30⟩) (c30 : PySem.W.codeIn K cd30 "_law_meet" = true) (k30 : PySem.W.keepIn K (.ref f30) = true)
    {f31 : Addr} {od31 an31 : Option Addr} {sl31 : Array (Option Value)} {oc31 kV31 dc31 pm31 cd31 ct31 : Value}
    (a31 : PySem.W.nsIn K mainGlobals "_law_same" = some (some (.ref f31))) (l31 : K.lookup f31 = some ⟨oc31, od31, .func (PySem.W.fnOf "_law_same" "_law_same" (defArgs s_law_same) (defBody s_law_same) (defScope s_law_same) .none kV31 dc31 pm31 an31 cd31 ct31), sl31⟩) (c31 : PySem.W.codeIn K cd31 "_law_same" = true) (k31 : PySem.W.keepIn K (.ref f31) = true)
    {f32 : Addr} {od32 an32 : Option Addr} {sl32 : Array (Option Value)} {oc32 kV32 dc32 pm32 cd32 ct32 : Value}
    (a32 : PySem.W.nsIn K mainGlobals "_law_c_box" = some (some (.ref f32))) (l32 : K.lookup f32 = some ⟨oc32, od32, .func (PySem.W.fnOf "_law_c_box" "_law_c_box" (defArgs s_law_c_box) (defBody s_law_c_box) (defScope s_law_c_box) .none kV32 dc32 pm32 an32 cd32 ct32), sl32⟩) (c32 : PySem.W.codeIn K cd32 "_law_c_box" = true) (k32 : PySem.W.keepIn K (.ref f32) = true)
    {f33 : Addr} {od33 an33 : Option Addr} {sl33 : Array (Option Value)} {oc33 kV33 dc33 pm33 cd33 ct33 : Value}
    (a33 : PySem.W.nsIn K mainGlobals "_law_c_number" = some (some (.ref f33))) (l33 : K.lookup f33 = some ⟨oc33, od33, .func (PySem.W.fnOf "_law_c_number" "_law_c_number" (defArgs s_law_c_number) (defBody s_law_c_number) (defScope s_law_c_number) .none kV33 dc33 pm33 an33 cd33 ct33), sl33⟩) (c33 : PySem.W.codeIn K cd33 "_law_c_number" = true) (k33 : PySem.W.keepIn K (.ref f33) = true)
    {f34 : Addr} {od34 an34 : Option Addr} {sl34 : Array (Option Value)} {oc34 kV34 dc34 pm34 cd34 ct34 : Value}
    (a34 : PySem.W.nsIn K mainGlobals "_law_c_plain" = some (some (.ref f34))) (l34 : K.lookup f34 = some ⟨oc34, od34, .func (PySem.W.fnOf "_law_c_plain" "_law_c_plain" (defArgs s_law_c_plain) (defBody s_law_c_plain) (defScope s_law_c_plain) .none kV34 dc34 pm34 an34 cd34 ct34), sl34⟩) (c34 : PySem.W.codeIn K cd34 "_law_c_plain" = true) (k34 : PySem.W.keepIn K (.ref f34) = true)
    {f35 : Addr} {od35 an35 : Option Addr} {sl35 : Array (Option Value)} {oc35 kV35 dc35 pm35 cd35 ct35 : Value}
    (a35 : PySem.W.nsIn K mainGlobals "_law_c_add" = some (some (.ref f35))) (l35 : K.lookup f35 = some ⟨oc35, od35, .func (PySem.W.fnOf "_law_c_add" "_law_c_add" (defArgs s_law_c_add) (defBody s_law_c_add) (defScope s_law_c_add) .none kV35 dc35 pm35 an35 cd35 ct35), sl35⟩) (c35 : PySem.W.codeIn K cd35 "_law_c_add" = true) (k35 : PySem.W.keepIn K (.ref f35) = true)
    {f36 : Addr} {od36 an36 : Option Addr} {sl36 : Array (Option Value)} {oc36 kV36 dc36 pm36 cd36 ct36 : Value}
    (a36 : PySem.W.nsIn K mainGlobals "_law_c_sum" = some (some (.ref f36))) (l36 : K.lookup f36 = some ⟨oc36, od36, .func (PySem.W.fnOf "_law_c_sum" "_law_c_sum" (defArgs s_law_c_sum) (defBody s_law_c_sum) (defScope s_law_c_sum) .none kV36 dc36 pm36 an36 cd36 ct36), sl36⟩) (c36 : PySem.W.codeIn K cd36 "_law_c_sum" = true) (k36 : PySem.W.keepIn K (.ref f36) = true)
    {f37 : Addr} {od37 an37 : Option Addr} {sl37 : Array (Option Value)} {oc37 kV37 dc37 pm37 cd37 ct37 : Value}
    (a37 : PySem.W.nsIn K mainGlobals "_law_c_copy" = some (some (.ref f37))) (l37 : K.lookup f37 = some ⟨oc37, od37, .func (PySem.W.fnOf "_law_c_copy" "_law_c_copy" (defArgs s_law_c_copy) (defBody s_law_c_copy) (defScope s_law_c_copy) .none kV37 dc37 pm37 an37 cd37 ct37), sl37⟩) (c37 : PySem.W.codeIn K cd37 "_law_c_copy" = true) (k37 : PySem.W.keepIn K (.ref f37) = true)
    {f38 : Addr} {od38 an38 : Option Addr} {sl38 : Array (Option Value)} {oc38 kV38 dc38 pm38 cd38 ct38 : Value}
    (a38 : PySem.W.nsIn K mainGlobals "_law_c_table" = some (some (.ref f38))) (l38 : K.lookup f38 = some ⟨oc38, od38, .func (PySem.W.fnOf "_law_c_table" "_law_c_table" (defArgs s_law_c_table) (defBody s_law_c_table) (defScope s_law_c_table) .none kV38 dc38 pm38 an38 cd38 ct38), sl38⟩) (c38 : PySem.W.codeIn K cd38 "_law_c_table" = true) (k38 : PySem.W.keepIn K (.ref f38) = true)
    {f39 : Addr} {od39 an39 : Option Addr} {sl39 : Array (Option Value)} {oc39 kV39 dc39 pm39 cd39 ct39 : Value}
    (a39 : PySem.W.nsIn K mainGlobals "_law_c_combined" = some (some (.ref f39))) (l39 : K.lookup f39 = some ⟨oc39, od39, .func (PySem.W.fnOf "_law_c_combined" "_law_c_combined" (defArgs s_law_c_combined) (defBody s_law_c_combined) (defScope s_law_c_combined) .none kV39 dc39 pm39 an39 cd39 ct39), sl39⟩) (c39 : PySem.W.codeIn K cd39 "_law_c_combined" = true) (k39 : PySem.W.keepIn K (.ref f39) = true)
    {f40 : Addr} {od40 an40 : Option Addr} {sl40 : Array (Option Value)} {oc40 kV40 dc40 pm40 cd40 ct40 : Value}
    (a40 : PySem.W.nsIn K mainGlobals "_law_c_kernel" = some (some (.ref f40))) (l40 : K.lookup f40 = some ⟨oc40, od40, .func (PySem.W.fnOf "_law_c_kernel" "_law_c_kernel" (defArgs s_law_c_kernel) (defBody s_law_c_kernel) (defScope s_law_c_kernel) .none kV40 dc40 pm40 an40 cd40 ct40), sl40⟩) (c40 : PySem.W.codeIn K cd40 "_law_c_kernel" = true) (k40 : PySem.W.keepIn K (.ref f40) = true)
    {f41 : Addr} {od41 an41 : Option Addr} {sl41 : Array (Option Value)} {oc41 kV41 dc41 pm41 cd41 ct41 : Value}
    (a41 : PySem.W.nsIn K mainGlobals "_law_c_met" = some (some (.ref f41))) (l41 : K.lookup f41 = some ⟨oc41, od41, .func (PySem.W.fnOf "_law_c_met" "_law_c_met" (defArgs s_law_c_met) (defBody s_law_c_met) (defScope s_law_c_met) .none kV41 dc41 pm41 an41 cd41 ct41), sl41⟩) (c41 : PySem.W.codeIn K cd41 "_law_c_met" = true) (k41 : PySem.W.keepIn K (.ref f41) = true)
    {f42 : Addr} {od42 an42 : Option Addr} {sl42 : Array (Option Value)} {oc42 kV42 dc42 pm42 cd42 ct42 : Value}
    (a42 : PySem.W.nsIn K mainGlobals "law" = some (some (.ref f42))) (l42 : K.lookup f42 = some ⟨oc42, od42, .func (PySem.W.fnOf "law" "law" (defArgs s_law) (defBody s_law) (defScope s_law) .none kV42 dc42 pm42 an42 cd42 ct42), sl42⟩) (c42 : PySem.W.codeIn K cd42 "law" = true) (k42 : PySem.W.keepIn K (.ref f42) = true)
    (z0 : PySem.W.nsIn K mainGlobals "abs" = some none)
    (z1 : PySem.W.nsIn K mainGlobals "all" = some none)
    (z2 : PySem.W.nsIn K mainGlobals "any" = some none)
    (z3 : PySem.W.nsIn K mainGlobals "bool" = some none)
    (z4 : PySem.W.nsIn K mainGlobals "dict" = some none)
    (z5 : PySem.W.nsIn K mainGlobals "enumerate" = some none)
    (z6 : PySem.W.nsIn K mainGlobals "int" = some none)
    (z7 : PySem.W.nsIn K mainGlobals "isinstance" = some none)
    (z8 : PySem.W.nsIn K mainGlobals "len" = some none)
    (z9 : PySem.W.nsIn K mainGlobals "list" = some none)
    (z10 : PySem.W.nsIn K mainGlobals "min" = some none)
    (z11 : PySem.W.nsIn K mainGlobals "range" = some none)
    (z12 : PySem.W.nsIn K mainGlobals "str" = some none)
    (z13 : PySem.W.nsIn K mainGlobals "tuple" = some none)
    (z14 : PySem.W.nsIn K mainGlobals "zip" = some none)
    {occ : Value} {odc : Option Addr} {slc : Array (Option Value)} {vsc : Array Value} (lc : K.lookup cH = some ⟨occ, odc, .fields vsc, slc⟩) (vp : (vsc[11]? : Option Value) = some (.ref tH)) (tn : K.lookup tH = none) (tr : ((recsOf q).find? fun e => e.name == ("_law_hermite" : Str)).isSome = true)
    : ∃ (fd : FuncData) (cs : List (Addr × Addr)) (sp : Sp), (∀ p ∈ cs, K.lookup p.2 = none ∧ ∃ y : Str, ((recsOf q).find? fun e => e.name == y).isSome = true ∧ PySem.W.tabIn K y = some p) ∧ (∀ (s : Shared) (v : Value), BindsTo s fd ⟨[v], []⟩ [("script", v)]) ∧
      (∀ (H : Hp) (a : Addr) (ns : List Int), ns.length ≤ 63 → (∀ z ∈ ns, Builtin.Int.intBits z ≤ 1048576) → (∀ p ∈ cs, H p.2 = some (.tbl #[])) → SqL K H a (ns.map V.int) → sp [.ref a] H (fun v _ => v = .bl true) fun _ _ _ => False) ∧
      ∀ base : Heap, K.In base → base.Ns mainGlobals mg → (∀ p ∈ cs, LamX.TabB base mg p.1 p.2) → FnOk l.prog w K mg base CX0 9 fa fd ["script"] sp := by
  have tt : PySem.W.tabIn K "_law_hermite" = some (cH, tH) := tabIn_of a25 l25 rfl lc vp
  have e := hfa.symm.trans (PySem.W.mg_of X G a42)
  cases e
  have F0 := fun_mk (st := s_inverse_of) l0 c0 k0
  have b0 := F0.binds (ps := ["number", "prime"]) fun _ _ _ _ _ _ us hl => match us, hl with | [_, _], _ => rfl
  have F1 := fun_mk (st := s_plain_row) l1 c1 k1
  have b1 := F1.binds (ps := ["row", "modulus"]) fun _ _ _ _ _ _ us hl => match us, hl with | [_, _], _ => rfl
  have F2 := fun_mk (st := s_unit_row) l2 c2 k2
  have b2 := F2.binds (ps := ["width", "at"]) fun _ _ _ _ _ _ us hl => match us, hl with | [_, _], _ => rfl
  have F3 := fun_mk (st := s_less_times) l3 c3 k3
  have b3 := F3.binds (ps := ["row", "other", "times", "modulus"]) fun _ _ _ _ _ _ us hl => match us, hl with | [_, _, _, _], _ => rfl
  have F4 := fun_mk (st := s_sum_of_rows) l4 c4 k4
  have b4 := F4.binds (ps := ["rows", "numbers", "width", "modulus"]) fun _ _ _ _ _ _ us hl => match us, hl with | [_, _, _, _], _ => rfl
  have F5 := fun_mk (st := s_first_place) l5 c5 k5
  have b5 := F5.binds (ps := ["row"]) fun _ _ _ _ _ _ us hl => match us, hl with | [_], _ => rfl
  have F6 := fun_mk (st := s_is_zero) l6 c6 k6
  have b6 := F6.binds (ps := ["row"]) fun _ _ _ _ _ _ us hl => match us, hl with | [_], _ => rfl
  have F7 := fun_mk (st := s_least_row) l7 c7 k7
  have b7 := F7.binds (ps := ["rows", "at"]) fun _ _ _ _ _ _ us hl => match us, hl with | [_, _], _ => rfl
  have F8 := fun_mk (st := s_quotient) l8 c8 k8
  have b8 := F8.binds (ps := ["number", "pivot", "modulus"]) fun _ _ _ _ _ _ us hl => match us, hl with | [_, _, _], _ => rfl
  have F9 := fun_mk (st := s_one_pivot) l9 c9 k9
  have b9 := F9.binds (ps := ["rows", "at", "modulus"]) fun _ _ _ _ _ _ us hl => match us, hl with | [_, _, _], _ => rfl
  have F10 := fun_mk (st := s_split_rows) l10 c10 k10
  have b10 := F10.binds (ps := ["rows", "width", "modulus"]) fun _ _ _ _ _ _ us hl => match us, hl with | [_, _, _], _ => rfl
  have F11 := fun_mk (st := s_hermite_rows) l11 c11 k11
  have b11 := F11.binds (ps := ["rows", "width", "modulus"]) fun _ _ _ _ _ _ us hl => match us, hl with | [_, _, _], _ => rfl
  have F12 := fun_mk (st := s_rest_of_row) l12 c12 k12
  have b12 := F12.binds (ps := ["told", "row", "modulus"]) fun _ _ _ _ _ _ us hl => match us, hl with | [_, _, _], _ => rfl
  have F13 := fun_mk (st := s_numbered_rows) l13 c13 k13
  have b13 := F13.binds (ps := ["rows"]) fun _ _ _ _ _ _ us hl => match us, hl with | [_], _ => rfl
  have F14 := fun_mk (st := s_combine_rows) l14 c14 k14
  have b14 := F14.binds (ps := ["rows", "row", "modulus"]) fun _ _ _ _ _ _ us hl => match us, hl with | [_, _, _], _ => rfl
  have F15 := fun_mk (st := s_kernel_rows) l15 c15 k15
  have b15 := F15.binds (ps := ["rows", "modulus"]) fun _ _ _ _ _ _ us hl => match us, hl with | [_, _], _ => rfl
  have F16 := fun_mk (st := s_meet_rows) l16 c16 k16
  have b16 := F16.binds (ps := ["one", "other", "width", "modulus"]) fun _ _ _ _ _ _ us hl => match us, hl with | [_, _, _, _], _ => rfl
  have F17 := fun_mk (st := s_law_source) l17 c17 k17
  have b17 := F17.binds (ps := ["script", "at"]) fun _ _ _ _ _ _ us hl => match us, hl with | [_, _], _ => rfl
  have F18 := fun_mk (st := s_law_pick) l18 c18 k18
  have b18 := F18.binds (ps := ["s", "many"]) fun _ _ _ _ _ _ us hl => match us, hl with | [_, _], _ => rfl
  have F19 := fun_mk (st := s_law_within) l19 c19 k19
  have b19 := F19.binds (ps := ["s", "low", "high"]) fun _ _ _ _ _ _ us hl => match us, hl with | [_, _, _], _ => rfl
  have F20 := fun_mk (st := s_law_one) l20 c20 k20
  have b20 := F20.binds (ps := ["s", "things"]) fun _ _ _ _ _ _ us hl => match us, hl with | [_, _], _ => rfl
  have F21 := fun_mk (st := s_law_modulus) l21 c21 k21
  have b21 := F21.binds (ps := ["s"]) fun _ _ _ _ _ _ us hl => match us, hl with | [_], _ => rfl
  have F22 := fun_mk (st := s_law_inverse) l22 c22 k22
  have b22 := F22.binds (ps := ["M", "k"]) fun _ _ _ _ _ _ us hl => match us, hl with | [_, _], _ => rfl
  have F23 := fun_mk (st := s_law_less) l23 c23 k23
  have b23 := F23.binds (ps := ["row", "other", "k", "M"]) fun _ _ _ _ _ _ us hl => match us, hl with | [_, _, _, _], _ => rfl
  have F24 := fun_mk (st := s_law_first) l24 c24 k24
  have b24 := F24.binds (ps := ["row"]) fun _ _ _ _ _ _ us hl => match us, hl with | [_], _ => rfl
  have F25 := fun_mk (st := s_law_hermite) l25 c25 k25
  have b25 := F25.binds (ps := ["rows", "width", "M"]) fun _ _ _ _ _ _ us hl => match us, hl with | [_, _, _], _ => rfl
  have F26 := fun_mk (st := s_law_reduce) l26 c26 k26
  have b26 := F26.binds (ps := ["H", "row", "M"]) fun _ _ _ _ _ _ us hl => match us, hl with | [_, _, _], _ => rfl
  have F27 := fun_mk (st := s_law_inside) l27 c27 k27
  have b27 := F27.binds (ps := ["H", "row", "M"]) fun _ _ _ _ _ _ us hl => match us, hl with | [_, _, _], _ => rfl
  have F28 := fun_mk (st := s_law_unit) l28 c28 k28
  have b28 := F28.binds (ps := ["at", "width", "k"]) fun _ _ _ _ _ _ us hl => match us, hl with | [_, _, _], _ => rfl
  have F29 := fun_mk (st := s_law_kernel) l29 c29 k29
  have b29 := F29.binds (ps := ["rows", "M"]) fun _ _ _ _ _ _ us hl => match us, hl with | [_, _], _ => rfl
  have F30 := fun_mk (st := s_law_meet) l30 c30 k30
  have b30 := F30.binds (ps := ["one", "other", "width", "M"]) fun _ _ _ _ _ _ us hl => match us, hl with | [_, _, _, _], _ => rfl
  have F31 := fun_mk (st := s_law_same) l31 c31 k31
  have b31 := F31.binds (ps := ["a", "b"]) fun _ _ _ _ _ _ us hl => match us, hl with | [_, _], _ => rfl
  have F32 := fun_mk (st := s_law_c_box) l32 c32 k32
  have b32 := F32.binds (ps := ["width", "most"]) fun _ _ _ _ _ _ us hl => match us, hl with | [_, _], _ => rfl
  have F33 := fun_mk (st := s_law_c_number) l33 c33 k33
  have b33 := F33.binds (ps := ["s", "M"]) fun _ _ _ _ _ _ us hl => match us, hl with | [_, _], _ => rfl
  have F34 := fun_mk (st := s_law_c_plain) l34 c34 k34
  have b34 := F34.binds (ps := ["row", "M"]) fun _ _ _ _ _ _ us hl => match us, hl with | [_, _], _ => rfl
  have F35 := fun_mk (st := s_law_c_add) l35 c35 k35
  have b35 := F35.binds (ps := ["one", "other", "k", "M"]) fun _ _ _ _ _ _ us hl => match us, hl with | [_, _, _, _], _ => rfl
  have F36 := fun_mk (st := s_law_c_sum) l36 c36 k36
  have b36 := F36.binds (ps := ["rows", "numbers", "width", "M"]) fun _ _ _ _ _ _ us hl => match us, hl with | [_, _, _, _], _ => rfl
  have F37 := fun_mk (st := s_law_c_copy) l37 c37 k37
  have b37 := F37.binds (ps := ["rows"]) fun _ _ _ _ _ _ us hl => match us, hl with | [_], _ => rfl
  have F38 := fun_mk (st := s_law_c_table) l38 c38 k38
  have b38 := F38.binds (ps := ["s", "width", "M"]) fun _ _ _ _ _ _ us hl => match us, hl with | [_, _, _], _ => rfl
  have F39 := fun_mk (st := s_law_c_combined) l39 c39 k39
  have b39 := F39.binds (ps := ["rows", "row", "M"]) fun _ _ _ _ _ _ us hl => match us, hl with | [_, _, _], _ => rfl
  have F40 := fun_mk (st := s_law_c_kernel) l40 c40 k40
  have b40 := F40.binds (ps := ["rows", "M"]) fun _ _ _ _ _ _ us hl => match us, hl with | [_, _], _ => rfl
  have F41 := fun_mk (st := s_law_c_met) l41 c41 k41
  have b41 := F41.binds (ps := ["one", "other", "width", "M"]) fun _ _ _ _ _ _ us hl => match us, hl with | [_, _, _, _], _ => rfl
  have F42 := fun_mk (st := s_law) l42 c42 k42
  have b42 := F42.binds (ps := ["script"]) fun _ _ _ _ _ _ us hl => match us, hl with | [_], _ => rfl
  have FC := func_mk (st := s_law_hermite) l25 c25
  have L : Lib K mg := ⟨PySem.W.mg_none_of X G z0, PySem.W.mg_none_of X G z1, PySem.W.mg_none_of X G z2, PySem.W.mg_none_of X G z3, PySem.W.mg_none_of X G z4, PySem.W.mg_none_of X G z5, PySem.W.mg_none_of X G z6, PySem.W.mg_none_of X G z7, PySem.W.mg_none_of X G z8, PySem.W.mg_none_of X G z9, PySem.W.mg_none_of X G z10, PySem.W.mg_none_of X G z11, PySem.W.mg_none_of X G z12, PySem.W.mg_none_of X G z13, PySem.W.mg_none_of X G z14, ⟨_, _, F0, PySem.W.mg_of X G a0, b0⟩, ⟨_, _, F1, PySem.W.mg_of X G a1, b1⟩, ⟨_, _, F2, PySem.W.mg_of X G a2, b2⟩, ⟨_, _, F3, PySem.W.mg_of X G a3, b3⟩, ⟨_, _, F4, PySem.W.mg_of X G a4, b4⟩, ⟨_, _, F5, PySem.W.mg_of X G a5, b5⟩, ⟨_, _, F6, PySem.W.mg_of X G a6, b6⟩, ⟨_, _, F7, PySem.W.mg_of X G a7, b7⟩, ⟨_, _, F8, PySem.W.mg_of X G a8, b8⟩, ⟨_, _, F9, PySem.W.mg_of X G a9, b9⟩, ⟨_, _, F10, PySem.W.mg_of X G a10, b10⟩, ⟨_, _, F11, PySem.W.mg_of X G a11, b11⟩, ⟨_, _, F12, PySem.W.mg_of X G a12, b12⟩, ⟨_, _, F13, PySem.W.mg_of X G a13, b13⟩, ⟨_, _, F14, PySem.W.mg_of X G a14, b14⟩, ⟨_, _, F15, PySem.W.mg_of X G a15, b15⟩, ⟨_, _, F16, PySem.W.mg_of X G a16, b16⟩, ⟨_, _, F17, PySem.W.mg_of X G a17, b17⟩, ⟨_, _, F18, PySem.W.mg_of X G a18, b18⟩, ⟨_, _, F19, PySem.W.mg_of X G a19, b19⟩, ⟨_, _, F20, PySem.W.mg_of X G a20, b20⟩, ⟨_, _, F21, PySem.W.mg_of X G a21, b21⟩, ⟨_, _, F22, PySem.W.mg_of X G a22, b22⟩, ⟨_, _, F23, PySem.W.mg_of X G a23, b23⟩, ⟨_, _, F24, PySem.W.mg_of X G a24, b24⟩, ⟨_, _, F25, PySem.W.mg_of X G a25, b25⟩, ⟨_, _, F26, PySem.W.mg_of X G a26, b26⟩, ⟨_, _, F27, PySem.W.mg_of X G a27, b27⟩, ⟨_, _, F28, PySem.W.mg_of X G a28, b28⟩, ⟨_, _, F29, PySem.W.mg_of X G a29, b29⟩, ⟨_, _, F30, PySem.W.mg_of X G a30, b30⟩, ⟨_, _, F31, PySem.W.mg_of X G a31, b31⟩, ⟨_, _, F32, PySem.W.mg_of X G a32, b32⟩, ⟨_, _, F33, PySem.W.mg_of X G a33, b33⟩, ⟨_, _, F34, PySem.W.mg_of X G a34, b34⟩, ⟨_, _, F35, PySem.W.mg_of X G a35, b35⟩, ⟨_, _, F36, PySem.W.mg_of X G a36, b36⟩, ⟨_, _, F37, PySem.W.mg_of X G a37, b37⟩, ⟨_, _, F38, PySem.W.mg_of X G a38, b38⟩, ⟨_, _, F39, PySem.W.mg_of X G a39, b39⟩, ⟨_, _, F40, PySem.W.mg_of X G a40, b40⟩, ⟨_, _, F41, PySem.W.mg_of X G a41, b41⟩, ⟨_, _, F42, PySem.W.mg_of X G a42, b42⟩⟩
  have hu : ∀ p ∈ [(tH, lhQ)], p.1 = tH → p.2 = lhQ := fun p hp _ => by rw [List.mem_singleton.mp hp]
  refine ⟨PySem.W.fnOf "law" "law" (defArgs s_law) (defBody s_law) (defScope s_law) .none kV42 dc42 pm42 an42 cd42 ct42, [(cH, tH)], spLaw K [(tH, lhQ)], fun p hp => ?_, fun s v => .of_eq rfl, fun H a ns hl _ hH hS => ?_, fun base _ _ hB => ok_law L ⟨cH, f25, _, tH, ⟨F25, PySem.W.mg_of X G a25, b25⟩, FC, hB (cH, tH) (List.mem_singleton.mpr rfl), List.mem_singleton.mpr rfl, hu⟩ F42⟩
  · rw [List.mem_singleton.mp hp]; exact ⟨tn, "_law_hermite", tr, tt⟩
  · exact ⟨a, ns, rfl, hS, hl, fun p hp => by rw [List.mem_singleton.mp hp]; exact LamX.TabS.nil (hH (cH, tH) (List.mem_singleton.mpr rfl)), fun _ => rfl⟩
end Mine
open PySem PySem.W PyProof.Rows
set_option maxRecDepth 100000 in
set_option maxHeartbeats 0 in
theorem PySem.Challenge.cw_onebrick_k13_sums_kernels_and_meets_holds : PySem.Challenge.rw_onebrick_k13_sums_kernels_and_meets.Holds := by
  w_on; o_law; k_head; (case hw => w_witness2)
  k_fill
  refine Mine.walk_tab (l := PySem.Challenge.rw_onebrick_k13_sums_kernels_and_meets) (n := 63) (k := 9) (x := "script") (CX := fun _ => L2.CX0) rfl (by decide) rfl ⟨rfl, by decide, by decide⟩ (fun w h Y => PySem.W.km_in_of Y) ?F ?E
  case E => exact fun _ _ _ _ _ z => z
  case F =>
    intro w mg fa h KX G hmg
    refine' Mine.all_mk KX G hmg ?a0 ?l0 ?c0 ?k0 ?a1 ?l1 ?c1 ?k1 ?a2 ?l2 ?c2 ?k2 ?a3 ?l3 ?c3 ?k3 ?a4 ?l4 ?c4 ?k4 ?a5 ?l5 ?c5 ?k5 ?a6 ?l6 ?c6 ?k6 ?a7 ?l7 ?c7 ?k7 ?a8 ?l8 ?c8 ?k8 ?a9 ?l9 ?c9 ?k9 ?a10 ?l10 ?c10 ?k10 ?a11 ?l11 ?c11 ?k11 ?a12 ?l12 ?c12 ?k12 ?a13 ?l13 ?c13 ?k13 ?a14 ?l14 ?c14 ?k14 ?a15 ?l15 ?c15 ?k15 ?a16 ?l16 ?c16 ?k16 ?a17 ?l17 ?c17 ?k17 ?a18 ?l18 ?c18 ?k18 ?a19 ?l19 ?c19 ?k19 ?a20 ?l20 ?c20 ?k20 ?a21 ?l21 ?c21 ?k21 ?a22 ?l22 ?c22 ?k22 ?a23 ?l23 ?c23 ?k23 ?a24 ?l24 ?c24 ?k24 ?a25 ?l25 ?c25 ?k25 ?a26 ?l26 ?c26 ?k26 ?a27 ?l27 ?c27 ?k27 ?a28 ?l28 ?c28 ?k28 ?a29 ?l29 ?c29 ?k29 ?a30 ?l30 ?c30 ?k30 ?a31 ?l31 ?c31 ?k31 ?a32 ?l32 ?c32 ?k32 ?a33 ?l33 ?c33 ?k33 ?a34 ?l34 ?c34 ?k34 ?a35 ?l35 ?c35 ?k35 ?a36 ?l36 ?c36 ?k36 ?a37 ?l37 ?c37 ?k37 ?a38 ?l38 ?c38 ?k38 ?a39 ?l39 ?c39 ?k39 ?a40 ?l40 ?c40 ?k40 ?a41 ?l41 ?c41 ?k41 ?a42 ?l42 ?c42 ?k42 ?z0 ?z1 ?z2 ?z3 ?z4 ?z5 ?z6 ?z7 ?z8 ?z9 ?z10 ?z11 ?z12 ?z13 ?z14 ?lc ?vp ?tn ?tr
    (case a0 => k_is)
    (case l0 => k_is)
    (case c0 => k_is)
    (case k0 => k_is)
    (case a1 => k_is)
    (case l1 => k_is)
    (case c1 => k_is)
    (case k1 => k_is)
    (case a2 => k_is)
    (case l2 => k_is)
    (case c2 => k_is)
    (case k2 => k_is)
    (case a3 => k_is)
    (case l3 => k_is)
    (case c3 => k_is)
    (case k3 => k_is)
    (case a4 => k_is)
    (case l4 => k_is)
    (case c4 => k_is)
    (case k4 => k_is)
    (case a5 => k_is)
    (case l5 => k_is)
    (case c5 => k_is)
    (case k5 => k_is)
    (case a6 => k_is)
    (case l6 => k_is)
    (case c6 => k_is)
    (case k6 => k_is)
    (case a7 => k_is)
    (case l7 => k_is)
    (case c7 => k_is)
    (case k7 => k_is)
    (case a8 => k_is)
    (case l8 => k_is)
    (case c8 => k_is)
    (case k8 => k_is)
    (case a9 => k_is)
    (case l9 => k_is)
    (case c9 => k_is)
    (case k9 => k_is)
    (case a10 => k_is)
    (case l10 => k_is)
    (case c10 => k_is)
    (case k10 => k_is)
    (case a11 => k_is)
    (case l11 => k_is)
    (case c11 => k_is)
    (case k11 => k_is)
    (case a12 => k_is)
    (case l12 => k_is)
    (case c12 => k_is)
    (case k12 => k_is)
    (case a13 => k_is)
    (case l13 => k_is)
    (case c13 => k_is)
    (case k13 => k_is)
    (case a14 => k_is)
    (case l14 => k_is)
    (case c14 => k_is)
    (case k14 => k_is)
    (case a15 => k_is)
    (case l15 => k_is)
    (case c15 => k_is)
    (case k15 => k_is)
    (case a16 => k_is)
    (case l16 => k_is)
    (case c16 => k_is)
    (case k16 => k_is)
    (case a17 => k_is)
    (case l17 => k_is)
    (case c17 => k_is)
    (case k17 => k_is)
    (case a18 => k_is)
    (case l18 => k_is)
    (case c18 => k_is)
    (case k18 => k_is)
    (case a19 => k_is)
    (case l19 => k_is)
    (case c19 => k_is)
    (case k19 => k_is)
    (case a20 => k_is)
    (case l20 => k_is)
    (case c20 => k_is)
    (case k20 => k_is)
    (case a21 => k_is)
    (case l21 => k_is)
    (case c21 => k_is)
    (case k21 => k_is)
    (case a22 => k_is)
    (case l22 => k_is)
    (case c22 => k_is)
    (case k22 => k_is)
    (case a23 => k_is)
    (case l23 => k_is)
    (case c23 => k_is)
    (case k23 => k_is)
    (case a24 => k_is)
    (case l24 => k_is)
    (case c24 => k_is)
    (case k24 => k_is)
    (case a25 => k_is)
    (case l25 => k_is)
    (case c25 => k_is)
    (case k25 => k_is)
    (case a26 => k_is)
    (case l26 => k_is)
    (case c26 => k_is)
    (case k26 => k_is)
    (case a27 => k_is)
    (case l27 => k_is)
    (case c27 => k_is)
    (case k27 => k_is)
    (case a28 => k_is)
    (case l28 => k_is)
    (case c28 => k_is)
    (case k28 => k_is)
    (case a29 => k_is)
    (case l29 => k_is)
    (case c29 => k_is)
    (case k29 => k_is)
    (case a30 => k_is)
    (case l30 => k_is)
    (case c30 => k_is)
    (case k30 => k_is)
    (case a31 => k_is)
    (case l31 => k_is)
    (case c31 => k_is)
    (case k31 => k_is)
    (case a32 => k_is)
    (case l32 => k_is)
    (case c32 => k_is)
    (case k32 => k_is)
    (case a33 => k_is)
    (case l33 => k_is)
    (case c33 => k_is)
    (case k33 => k_is)
    (case a34 => k_is)
    (case l34 => k_is)
    (case c34 => k_is)
    (case k34 => k_is)
    (case a35 => k_is)
    (case l35 => k_is)
    (case c35 => k_is)
    (case k35 => k_is)
    (case a36 => k_is)
    (case l36 => k_is)
    (case c36 => k_is)
    (case k36 => k_is)
    (case a37 => k_is)
    (case l37 => k_is)
    (case c37 => k_is)
    (case k37 => k_is)
    (case a38 => k_is)
    (case l38 => k_is)
    (case c38 => k_is)
    (case k38 => k_is)
    (case a39 => k_is)
    (case l39 => k_is)
    (case c39 => k_is)
    (case k39 => k_is)
    (case a40 => k_is)
    (case l40 => k_is)
    (case c40 => k_is)
    (case k40 => k_is)
    (case a41 => k_is)
    (case l41 => k_is)
    (case c41 => k_is)
    (case k41 => k_is)
    (case a42 => k_is)
    (case l42 => k_is)
    (case c42 => k_is)
    (case k42 => k_is)
    (case z0 => k_is)
    (case z1 => k_is)
    (case z2 => k_is)
    (case z3 => k_is)
    (case z4 => k_is)
    (case z5 => k_is)
    (case z6 => k_is)
    (case z7 => k_is)
    (case z8 => k_is)
    (case z9 => k_is)
    (case z10 => k_is)
    (case z11 => k_is)
    (case z12 => k_is)
    (case z13 => k_is)
    (case z14 => k_is)
    (case lc => k_is)
    (case vp => exact rfl)
    (case tn => kernel_rfl)
    (case tr => decide +kernel)
