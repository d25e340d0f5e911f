import PyProof.Rows.All
import Wide.All
import OpenK.AllK
import Wide.FinOn
import Lean
import PySem.Challenge.RW_xm0946_01
open PySem PySem.W PySem.Calls PyProof.Rows
set_option Elab.async false
set_option compiler.extract_closed false
namespace Mine
open LCg

/-! A comprehension of two clauses, [y for x in .. for y in x], over a list of lists: what it gives is the lists' items in one row. -/

theorem flat_turn0 (elt iter it2 : Expr) (x y : Str) (px py : Pos) (scope : Scope) (pos : Pos) (it acc : Value) (env : Env) :
    compTurn (.ListComp elt [⟨.Name x px, iter, [], 0⟩, ⟨.Name y py, it2, [], 0⟩] scope pos) 0 it acc env = (do
      standAt iter.pos
      match ← pyNext it with
      | none => pure (.done .next)
      | some v =>
        assign (.Name x px) env v
        let u ← eval it2 env
        standAt it2.pos
        let u ← foldedSetIterable it2 env u
        let _ ← runOwn (.compStart (.ListComp elt [⟨.Name x px, iter, [], 0⟩, ⟨.Name y py, it2, [], 0⟩] scope pos) 1 (← holding [u] (pyIter u)) acc env) env
        again (.compLoop (.ListComp elt [⟨.Name x px, iter, [], 0⟩, ⟨.Name y py, it2, [], 0⟩] scope pos) 0 it acc env)) := by rfl
theorem flat_turn1 (elt iter it2 : Expr) (x y : Str) (px py : Pos) (scope : Scope) (pos : Pos) (it acc : Value) (env : Env) :
    compTurn (.ListComp elt [⟨.Name x px, iter, [], 0⟩, ⟨.Name y py, it2, [], 0⟩] scope pos) 1 it acc env = (do
      standAt it2.pos
      match ← pyNext it with
      | none => pure (.done .next)
      | some v =>
        assign (.Name y py) env v
        (do let _ ← call (.builtin "list.append") [acc, ← eval elt env])
        again (.compLoop (.ListComp elt [⟨.Name x px, iter, [], 0⟩, ⟨.Name y py, it2, [], 0⟩] scope pos) 1 it acc env)) := by rfl

section
variable {prog : Program} {w : World} {A : Around} {R : Result → Shared → Prop} {s : Shared}

theorem flat_inner {iter it2 : Expr} {x y : Str} {px py pw : Pos} {scope : Scope} {pos : Pos} {I ax D : Addr} {cenv : Env} {xs : List Value} {ys : List Value} {m : Str → Option Value}
    (hh : A.handled = none) (hk : cenv.scope.kind = .function) (hy : cenv.kindOf y = some .local) (hyd : (y == ("__debug__" : Str)) = false)
    (hDI : D ≠ I) (hDC : D ≠ cenv.locals) (hIC : I ≠ cenv.locals) (haI : ax ≠ I) (haC : ax ≠ cenv.locals) (haD : ax ≠ D)
    (hit : s.heap.IsListIter I ax 0) (hl : s.heap.IsList ax xs.toArray) (hacc : s.heap.get? D = some (lst ys)) (hn : s.heap.Ns cenv.locals m) (hsz : ys.length + xs.length ≤ sizeLine)
    (hR : ∀ h' tk m', h'.Ns cenv.locals m' → h'.get? D = some (lst (ys ++ xs)) → (∀ b o, b ≠ cenv.locals → b ≠ I → b ≠ D → s.heap.get? b = some o → h'.get? b = some o) → R (.ok .next) { s with heap := h', toks := tk }) :
    codeAny (model prog w) A (.compLoop (.ListComp (.Name y pw) [⟨.Name x px, iter, [], 0⟩, ⟨.Name y py, it2, [], 0⟩] scope pos) 1 (.ref I) (.ref D) cenv) R s := by
  have hp : (cenv.scope.kind == .class || (cenv.scope.kind == .module && cenv.locals != cenv.globals)) = false := by rw [hk]; rfl
  refine codeAny_loop rfl
    (fun n s' => ∃ h' tk m' i, s' = { s with heap := h', toks := tk } ∧ i ≤ xs.length ∧ n = xs.length + 1 - i ∧ h'.IsListIter I ax i ∧ h'.IsList ax xs.toArray ∧ h'.get? D = some (lst (ys ++ xs.take i)) ∧ h'.Ns cenv.locals m' ∧
      ∀ b o, b ≠ cenv.locals → b ≠ I → b ≠ D → s.heap.get? b = some o → h'.get? b = some o) ?_ (xs.length + 1)
    ⟨s.heap, s.toks, m, 0, rfl, Nat.zero_le _, rfl, hit, hl, by simpa using hacc, hn, fun _ _ _ _ _ e => e⟩
  rintro n s' ⟨H, tk, m', i, rfl, hi, rfl, hit', hl', hacc', hn', hk'⟩
  show wpAny _ A ((compTurn (.ListComp (.Name y pw) [⟨.Name x px, iter, [], 0⟩, ⟨.Name y py, it2, [], 0⟩] scope pos) 1 (.ref I) (.ref D) cenv).onRaise (fun x => do noteFrame x cenv; theTreesLotGoes x)) _ _ _
  refine wpAny_noted ?_
  rw [flat_turn1]
  refine wpAny_bind (wpAny_standAt (wpAny_bind ?_))
  by_cases hlt : i < xs.length
  · have hv : xs.toArray[i]? = some xs[i] := by simp [hlt]
    refine wpAny_pyNext_list_item hit' hl' hv fun h₁ hit₁ hs₁ => ?_
    refine wpAny_bind (wpAny_assign_Name (wpAny_storeName_local hy (hn'.sameBut hs₁ (Ne.symm hIC)) (fun h₂ hn₂ hs₂ => ?_) hp))
    refine wpAny_bind (wpAny_bind (wpAny_Name (wpAny_loadName_local (v := xs[i]) hk hy hn₂ (if_pos rfl) ?_) hyd))
    have hD₂ : h₂.get? D = some (lst (ys ++ xs.take i)) := hs₂.extBut _ _ hDC (hs₁.extBut _ _ hDI hacc')
    refine wpAny_bind (append_at (hsz := by
      show (ys ++ xs.take i).toArray.size ≤ sizeLine
      rw [List.size_toArray, List.length_append, List.length_take]; omega) hD₂ fun h₃ hs₃ hD₃ => wpAny_pure ?_)
    refine wpAny_pure ⟨rfl, xs.length + 1 - (i + 1), by omega, h₃, _, _, i + 1, rfl, hlt, rfl, (hit₁.extBut hs₂.extBut hIC).extBut hs₃.extBut (Ne.symm hDI), ((hl'.extBut hs₁.extBut haI).extBut hs₂.extBut haC).extBut hs₃.extBut haD, ?_,
      hn₂.sameBut hs₃ (Ne.symm hDC), fun b o h1 h2 h3 e => hs₃.extBut b o h3 (hs₂.extBut b o h1 (hs₁.extBut b o h2 (hk' b o h1 h2 h3 e)))⟩
    refine hD₃.trans (congrArg some ?_)
    rw [lst_snoc, List.append_assoc, List.take_add_one, List.getElem?_eq_getElem hlt]; rfl
  · obtain rfl : i = xs.length := Nat.le_antisymm hi (Nat.not_lt.mp hlt)
    refine wpAny_pyNext_list_end hh hit' hl' (by simp) fun h₁ he₁ => wpAny_pure ?_
    refine hR h₁ tk m' (hn'.extBut he₁ (Ne.symm hIC)) ?_ fun b o h1 h2 h3 e => he₁ b o h2 (hk' b o h1 h2 h3 e)
    have := he₁ _ _ hDI hacc'
    rwa [List.take_length] at this

theorem flat_start1 {elt iter it2 : Expr} {x y : Str} {px py : Pos} {scope : Scope} {pos : Pos} {it acc : Value} {env : Env}
    (h0 : codeAny (model prog w) A (.compLoop (.ListComp elt [⟨.Name x px, iter, [], 0⟩, ⟨.Name y py, it2, [], 0⟩] scope pos) 1 it acc env) R s)
    (h : wpAny (model prog w) A (pyIter it) (fun it' s' => codeAny (model prog w) A (.compLoop (.ListComp elt [⟨.Name x px, iter, [], 0⟩, ⟨.Name y py, it2, [], 0⟩] scope pos) 1 it' acc env) R s')
      (notedBy (model prog w) A env fun x s' => R (.error x) s') s) :
    codeAny (model prog w) A (.compStart (.ListComp elt [⟨.Name x px, iter, [], 0⟩, ⟨.Name y py, it2, [], 0⟩] scope pos) 1 it acc env) R s := by
  refine codeAny_of_tree ?_
  show wpAny _ _ ((compStart (.ListComp elt [⟨.Name x px, iter, [], 0⟩, ⟨.Name y py, it2, [], 0⟩] scope pos) 1 it acc env).onRaise (fun x => do noteFrame x env; standAt theWindowsPlace)) _ _ s
  refine wpAny_notedAt ?_
  unfold compStart
  show wpAny _ _ (ask >>= _) _ _ s
  refine wpAny_bind (wpAny_askSetting (wpAny_ite ?_))
  split
  · first
      | exact wpAny_bind (wpAny_pure (wpAny_pure (And.intro rfl h0)))
      | exact wpAny_pure (And.intro rfl h0)
  · first
      | exact wpAny_bind (wpAny_rule (wpAny_bind (wpAny_standAt (wpAny_bind (wpAny_mono h (fun it' s' h' => wpAny_pure (And.intro rfl h')) fun _ _ x => x)))))
      | (refine wpAny_bind (wpAny_rule ?_); show wpAny _ _ (standAt _ >>= _) _ _ s; exact wpAny_bind (wpAny_standAt (wpAny_bind (wpAny_mono h (fun it' s' h' => wpAny_pure (And.intro rfl h')) fun _ _ x => x))))

theorem mark_none (A : Around) : A.mark none = A := rfl

theorem flat_outer {iter : Expr} {x y : Str} {px py pz pw : Pos} {scope : Scope} {pos : Pos} {I ax D : Addr} {cenv : Env} {rs : List (Addr × List Value)} {m : Str → Option Value}
    (hh : A.handled = none) (hk : cenv.scope.kind = .function) (hx : cenv.kindOf x = some .local) (hy : cenv.kindOf y = some .local) (hxd : (x == ("__debug__" : Str)) = false) (hyd : (y == ("__debug__" : Str)) = false)
    (hDI : D ≠ I) (hDC : D ≠ cenv.locals) (hIC : I ≠ cenv.locals) (haI : ax ≠ I) (haC : ax ≠ cenv.locals) (haD : ax ≠ D)
    (hit : s.heap.IsListIter I ax 0) (hl : s.heap.IsList ax (rs.map fun r => Value.ref r.1).toArray) (hrs : ∀ r ∈ rs, s.heap.IsList r.1 r.2.toArray ∧ r.1 ≠ I ∧ r.1 ≠ cenv.locals ∧ r.1 ≠ D)
    (hacc : s.heap.get? D = some (lst [])) (hn : s.heap.Ns cenv.locals m) (hsz : (rs.flatMap (·.2)).length ≤ sizeLine)
    (hR : ∀ h' tk m', h'.Ns cenv.locals m' → h'.get? D = some (lst (rs.flatMap (·.2))) → (∀ b o, b ≠ cenv.locals → b ≠ I → b ≠ D → s.heap.get? b = some o → h'.get? b = some o) → R (.ok .next) { s with heap := h', toks := tk }) :
    codeAny (model prog w) A (.compLoop (.ListComp (.Name y pw) [⟨.Name x px, iter, [], 0⟩, ⟨.Name y py, .Name x pz, [], 0⟩] scope pos) 0 (.ref I) (.ref D) cenv) R s := by
  have hp : (cenv.scope.kind == .class || (cenv.scope.kind == .module && cenv.locals != cenv.globals)) = false := by rw [hk]; rfl
  refine codeAny_loop rfl
    (fun n s' => ∃ h' tk m' i, s' = { s with heap := h', toks := tk } ∧ i ≤ rs.length ∧ n = rs.length + 1 - i ∧ h'.IsListIter I ax i ∧ h'.IsList ax (rs.map fun r => Value.ref r.1).toArray ∧ h'.get? D = some (lst ((rs.take i).flatMap (·.2))) ∧ h'.Ns cenv.locals m' ∧
      ∀ b o, b ≠ cenv.locals → b ≠ I → b ≠ D → s.heap.get? b = some o → h'.get? b = some o) ?_ (rs.length + 1)
    ⟨s.heap, s.toks, m, 0, rfl, Nat.zero_le _, rfl, hit, hl, by simpa using hacc, hn, fun _ _ _ _ _ e => e⟩
  rintro n s' ⟨H, tk, m', i, rfl, hi, rfl, hit', hl', hacc', hn', hk'⟩
  show wpAny _ A ((compTurn (.ListComp (.Name y pw) [⟨.Name x px, iter, [], 0⟩, ⟨.Name y py, .Name x pz, [], 0⟩] scope pos) 0 (.ref I) (.ref D) cenv).onRaise (fun x => do noteFrame x cenv; theTreesLotGoes x)) _ _ _
  refine wpAny_noted ?_
  rw [flat_turn0]
  refine wpAny_bind (wpAny_standAt (wpAny_bind ?_))
  by_cases hlt : i < rs.length
  · have hv : (rs.map fun r => Value.ref r.1).toArray[i]? = some (.ref rs[i].1) := by simp [hlt]
    obtain ⟨hr0, hrI, hrC, hrD⟩ := hrs rs[i] (List.getElem_mem hlt)
    refine wpAny_pyNext_list_item hit' hl' hv fun h₁ hit₁ hs₁ => ?_
    refine wpAny_bind (wpAny_assign_Name (wpAny_storeName_local hx (hn'.sameBut hs₁ (Ne.symm hIC)) (fun h₂ hn₂ hs₂ => ?_) hp))
    refine wpAny_bind (wpAny_Name (wpAny_loadName_local (v := .ref rs[i].1) hk hx hn₂ (if_pos rfl) ?_) hxd)
    have up : ∀ b o, b ≠ cenv.locals → b ≠ I → H.get? b = some o → h₂.get? b = some o := fun b o h1 h2 e => hs₂.extBut b o h1 (hs₁.extBut b o h2 e)
    have hr₂ : h₂.IsList rs[i].1 rs[i].2.toArray := hr0.at fun o e => up _ o hrC hrI (hk' _ o hrC hrI hrD e)
    have hD₂ : h₂.get? D = some (lst ((rs.take i).flatMap (·.2))) := up _ _ hDC hDI hacc'
    have hC₂ := hn₂
    refine wpAny_bind (wpAny_standAt (wpAny_bind (wpAny_of_eq (show foldedSetIterable (.Name x pz) cenv (.ref rs[i].1) = pure (.ref rs[i].1) from rfl) ?_)))
    refine wpAny_bind (wpAny_holding (wpAny_pyIter_list hr₂ ?_))
    have hI₂ : h₂.IsListIter I ax (i + 1) := hit₁.extBut hs₂.extBut hIC
    have ltD : D < h₂.objs.size := Heap.lt_size hD₂
    have ltC : cenv.locals < h₂.objs.size := hn₂.lt
    have ltI : I < h₂.objs.size := by obtain ⟨_, e, _⟩ := hI₂; exact Heap.lt_size e
    have ltR : rs[i].1 < h₂.objs.size := by obtain ⟨_, e, _⟩ := hr₂; exact Heap.lt_size e
    generalize hH3 : h₂.push { cls := .type "list_iterator", data := .fields #[.ref rs[i].1, .int 0 0] } = h₃
    have pu : ∀ b o, h₂.get? b = some o → h₃.get? b = some o := fun b o e => hH3 ▸ Heap.get?_push_of_some _ e
    have hJ₃ : h₃.IsListIter h₂.objs.size rs[i].1 0 := ⟨_, hH3 ▸ Heap.get?_push_size _ rfl, rfl, rfl⟩
    have hlen : ((rs.take i).flatMap (·.2)).length + rs[i].2.length ≤ sizeLine := by
      refine Nat.le_trans ?_ hsz
      have e1 : ((rs.take (i + 1)).flatMap (·.2)).length ≤ (rs.flatMap (·.2)).length := by
        have e2 : rs.flatMap (·.2) = (rs.take (i + 1)).flatMap (·.2) ++ (rs.drop (i + 1)).flatMap (·.2) := by rw [← List.flatMap_append, List.take_append_drop]
        rw [e2, List.length_append]; omega
      have e3 : (rs.take (i + 1)).flatMap (·.2) = (rs.take i).flatMap (·.2) ++ rs[i].2 := by
        rw [List.take_add_one, List.getElem?_eq_getElem hlt, List.flatMap_append]; simp
      rw [e3, List.length_append] at e1
      exact e1
    have go : ∀ s₃ : Shared, (∃ tk₃, s₃ = { s with heap := h₃, toks := tk₃ }) → codeAny (model prog w) A (.compLoop (.ListComp (.Name y pw) [⟨.Name x px, iter, [], 0⟩, ⟨.Name y py, .Name x pz, [], 0⟩] scope pos) 1 (.ref h₂.objs.size) (.ref D) cenv)
        (fun r s' => match r with
          | .ok f => wpAny (model prog w) A (again (.compLoop (.ListComp (.Name y pw) [⟨.Name x px, iter, [], 0⟩, ⟨.Name y py, .Name x pz, [], 0⟩] scope pos) 0 (.ref I) (.ref D) cenv)) (fun fin s' => match fin with | .done f => R (.ok f) s' | .again c' => c' = (Code.compLoop (.ListComp (.Name y pw) [⟨.Name x px, iter, [], 0⟩, ⟨.Name y py, .Name x pz, [], 0⟩] scope pos) 0 (.ref I) (.ref D) cenv) ∧ ∃ m, m < rs.length + 1 - i ∧ (∃ h' tk m' i, s' = { s with heap := h', toks := tk } ∧ i ≤ rs.length ∧ m = rs.length + 1 - i ∧ h'.IsListIter I ax i ∧ h'.IsList ax (rs.map fun r => Value.ref r.1).toArray ∧ h'.get? D = some (lst ((rs.take i).flatMap (·.2))) ∧ h'.Ns cenv.locals m' ∧
      ∀ b o, b ≠ cenv.locals → b ≠ I → b ≠ D → s.heap.get? b = some o → h'.get? b = some o)) (notedBy (model prog w) A cenv fun e s' => R (.error e) s') s'
          | .error e => cameBackBy (model prog w) A cenv (notedBy (model prog w) A cenv fun e s' => R (.error e) s') e s') s₃ := by
      rintro s₃ ⟨tk₃, rfl⟩
      refine flat_inner (xs := rs[i].2) (ys := (rs.take i).flatMap (·.2)) hh hk hy hyd (Nat.ne_of_lt ltD) hDC (Ne.symm (Nat.ne_of_lt ltC)) (Nat.ne_of_lt ltR) hrC hrD hJ₃ (hr₂.at fun o e => pu _ o e) (pu _ _ hD₂) (hn₂.at' fun o e => pu _ o e) hlen fun h₄ tk₄ m₄ hn₄ hD₄ hk₄ => ?_
      refine wpAny_pure ⟨rfl, rs.length + 1 - (i + 1), by omega, h₄, tk₄, m₄, i + 1, rfl, hlt, rfl, hI₂.at fun o e => hk₄ _ o hIC (Nat.ne_of_lt ltI) (Ne.symm hDI) (pu _ o e), ?_, ?_, hn₄, fun b o h1 h2 h3 e => ?_⟩
      · obtain ⟨oa, ea, ra⟩ := id hl'
        have ea₂ := up _ _ haC haI ea
        exact ⟨oa, hk₄ _ _ haC (Nat.ne_of_lt (Heap.lt_size ea₂)) haD (pu _ _ ea₂), ra⟩
      · refine hD₄.trans (congrArg (fun l => some (lst l)) ?_)
        rw [List.take_add_one, List.getElem?_eq_getElem hlt, List.flatMap_append]; simp
      · have e₂ := up b o h1 h2 (hk' b o h1 h2 h3 e)
        exact hk₄ b o h1 (Nat.ne_of_lt (Heap.lt_size e₂)) h3 (pu b o e₂)
    refine wpAny_bind (wpAny_runOwn ?_)
    rw [mark_none]
    exact flat_start1 (go _ ⟨_, rfl⟩) (wpAny_pyIter_listiter hJ₃ (go _ ⟨_, rfl⟩))
  · obtain rfl : i = rs.length := Nat.le_antisymm hi (Nat.not_lt.mp hlt)
    refine wpAny_pyNext_list_end hh hit' hl' (by simp) fun h₁ he₁ => wpAny_pure ?_
    refine hR h₁ tk m' (hn'.extBut he₁ (Ne.symm hIC)) ?_ fun b o h1 h2 h3 e => he₁ b o h2 (hk' b o h1 h2 h3 e)
    have := he₁ _ _ hDI hacc'
    rwa [List.take_length] at this

end
section
variable {prog : Program} {w : World} {A : Around} {E : Value → Shared → Prop} {s : Shared} {h₀ : Heap} {L : Addr} {m : Str → Option Value} {env : Env}

/-- what the outer source of such a comprehension must be, and what then follows -/
noncomputable def FlatSrc (A : Around) (h₀ : Heap) (L : Addr) (m : Str → Option Value) (Q : Value → Shared → Prop) (xv : Value) (s₁ : Shared) : Prop :=
  ∃ (ax : Addr) (rs : List (Addr × List Value)) (k : Nat) (news : List (Addr × Obj)), xv = .ref ax ∧ A.handled = none ∧ Fr h₀ L s₁.heap m ∧ News h₀ L s₁.heap news ∧ (ax, listOf (rs.map fun r => Value.ref r.1).toArray k) ∈ news ∧
    (∀ r ∈ rs, ∃ k, (r.1, listOf r.2.toArray k) ∈ news) ∧ rs.length ≤ sizeLine ∧ (rs.flatMap (·.2)).length ≤ sizeLine ∧
    ∀ D h tk, Fr h₀ L h m → News h₀ L h ((D, lst (rs.flatMap (·.2))) :: news) → (∀ p ∈ news, p.1 < D) → Q (.ref D) { s₁ with heap := h, toks := tk }

theorem ListComp_flat {iter : Expr} {x y : Str} {px py pz pw : Pos} {scope : Scope} {cl : List (Str × Addr)} {pos : Pos} {Q : Value → Shared → Prop} (F₀ : Fr h₀ L s.heap m)
    (hclos : closureFor scope env = pure cl) (hcell : ∀ z ∈ scope.names, z.2 ≠ .cell) (hkind : scope.kind = .function)
    (hnames : ∀ z ∈ scope.names, z.2 = .local → scope.names.lookup z.1 = some .local) (hx : scope.names.lookup x = some .local) (hy : scope.names.lookup y = some .local)
    (hxd : (x == ("__debug__" : Str)) = false) (hyd : (y == ("__debug__" : Str)) = false)
    (h : wpAny (model prog w) A (eval iter env) (FlatSrc A h₀ L m Q) E s)
    (hs : ∀ x, foldedSetIterable iter env x = pure x := by intro _; rfl) :
    wpAny (model prog w) A (eval (.ListComp (.Name y pw) [⟨.Name x px, iter, [], 0⟩, ⟨.Name y py, .Name x pz, [], 0⟩] scope pos) env) Q E s := by
  rw [eval_ListComp]
  refine wpAny_comprehension_free (use := none) rfl hs hclos hkind hnames (wpAny_mono h (fun xv s₁ h₁ => ?_) fun _ _ e => e)
  obtain ⟨ax, rs, k, news, rfl, hh, F, N, hm, hrs, hsz1, hsz2, hQ⟩ := h₁
  have hax := (N _ hm).1
  have hl : s₁.heap.IsList ax (rs.map fun r => Value.ref r.1).toArray := ⟨_, hax, rfl, k, rfl⟩
  refine wpAny_pyIter_list hl (wpAny_newObj_type (hd := by size_fits) (wpAny_newFunctionEnv hcell (by intro y hy; simp at hy) (fun h₁ hns₁ hsb₁ => ?_) hkind))
  dsimp only at hns₁ hsb₁ ⊢
  have ltL : L < s₁.heap.objs.size := F.ns.lt
  have ltax : ax < s₁.heap.objs.size := Heap.lt_size hax
  generalize hH1 : s₁.heap.push { cls := .type "list_iterator", data := .fields #[.ref ax, .int 0 0] } = H1 at hns₁ hsb₁ ⊢
  have hD : H1.objs.size = s₁.heap.objs.size + 1 := by rw [← hH1, Heap.size_push]
  generalize hH2 : H1.push { cls := .type "list", dict := none, data := .seq ([] : List Value).toArray } = H2 at hns₁ hsb₁ ⊢
  have hC : H2.objs.size = s₁.heap.objs.size + 2 := by rw [← hH2, Heap.size_push, hD]
  have hDI : H1.objs.size ≠ s₁.heap.objs.size := by rw [hD]; exact Nat.succ_ne_self _
  have hDC : H1.objs.size ≠ H2.objs.size := by rw [hD, hC]; exact Nat.ne_of_lt (Nat.lt_succ_self _)
  have hIC : s₁.heap.objs.size ≠ H2.objs.size := by rw [hC]; exact Nat.ne_of_lt (Nat.lt_succ_of_lt (Nat.lt_succ_self _))
  have below : ∀ b, b < s₁.heap.objs.size → b ≠ H2.objs.size ∧ b ≠ s₁.heap.objs.size ∧ b ≠ H1.objs.size := fun b hb =>
    ⟨by rw [hC]; exact Nat.ne_of_lt (Nat.lt_succ_of_lt (Nat.lt_succ_of_lt hb)), Nat.ne_of_lt hb, by rw [hD]; exact Nat.ne_of_lt (Nat.lt_succ_of_lt hb)⟩
  have old : ∀ b o, s₁.heap.get? b = some o → h₁.get? b = some o := fun b o e =>
    hsb₁.extBut b o (below b (Heap.lt_size e)).1 (Heap.get?_push_of_some _ (hH2 ▸ Heap.get?_push_of_some _ (hH1 ▸ Heap.get?_push_of_some _ e)))
  have hit : h₁.IsListIter s₁.heap.objs.size ax 0 :=
    ⟨_, hsb₁.extBut _ _ hIC (Heap.get?_push_of_some _ (hH2 ▸ Heap.get?_push_of_some _ (hH1 ▸ Heap.get?_push_size _ rfl))), rfl, rfl⟩
  have hacc : h₁.get? H1.objs.size = some (lst []) := hsb₁.extBut _ _ hDC (Heap.get?_push_of_some _ (hH2 ▸ Heap.get?_push_size _ rfl))
  have fresh₀ : ∀ a, s₁.heap.objs.size ≤ a → h₀.get? a = none := fun a ha => by
    cases e : h₀.get? a with
    | none => rfl
    | some o' => exact absurd (Heap.lt_size (F.keep _ _ e)) (Nat.not_lt.mpr ha)
  have loop : ∀ s₂ : Shared, s₂ = { s₁ with heap := h₁, toks := s₁.toks + ([] : List (Str × Value)).length } →
      codeAny (model prog w) A (.compLoop (.ListComp (.Name y pw) [⟨.Name x px, iter, [], 0⟩, ⟨.Name y py, .Name x pz, [], 0⟩] scope pos) 0 (.ref s₁.heap.objs.size) (.ref H1.objs.size) (compEnvC scope cl H2.objs.size env))
        (compPost (model prog w) A E none Q (.ref H1.objs.size) H2.objs.size) s₂ := by
    rintro s₂ rfl
    refine flat_outer (cenv := compEnvC scope cl H2.objs.size env) (rs := rs) hh hkind (lookup_relabel_local hx) (lookup_relabel_local hy) hxd hyd hDI hDC hIC (below ax ltax).2.1 (below ax ltax).1 (below ax ltax).2.2 hit (hl.at fun o e => old _ o e)
      (fun r hr => ?_) hacc hns₁ hsz2 fun h' tk m' hn' hD' hk' => ?_
    · obtain ⟨k', hr'⟩ := hrs r hr
      have e := (N _ hr').1
      have b := below r.1 (Heap.lt_size e)
      exact ⟨⟨_, old _ _ e, rfl, k', rfl⟩, b.2.1, b.1, b.2.2⟩
    · have kk : ∀ h'', Heap.SameBut H2.objs.size h' h'' → ∀ b o, s₁.heap.get? b = some o → h''.get? b = some o := fun h'' hs b o e =>
        have bl := below b (Heap.lt_size e)
        hs.extBut b o bl.1 (hk' b o bl.1 bl.2.1 bl.2.2 (old b o e))
      refine ⟨m', hn', fun h'' hs'' => hQ _ _ _ (F.keeps (kk _ hs'')) (fun p hp => ?_) fun p hp => by rw [hD]; exact Nat.lt_succ_of_lt (Heap.lt_size (N p hp).1)⟩
      rcases List.mem_cons.mp hp with rfl | hp
      · exact ⟨hs''.extBut _ _ hDC hD', Ne.symm (Nat.ne_of_lt (by rw [hD]; exact Nat.lt_succ_of_lt ltL)), fresh₀ _ (by rw [hD]; exact Nat.le_succ _)⟩
      · exact ⟨kk _ hs'' _ _ (N p hp).1, (N p hp).2⟩
  exact codeAny_compStart_list (loop _ rfl) (wpAny_pyIter_listiter hit (loop _ rfl))

/-! Blocks of any length: by what holds of the turn's number, the list so far and the ledger. -/
theorem end_mono {s₁ s₂ : Shared} {I C D : Addr} {oI oC oD : Obj} {S : List (Addr × Obj) → Prop} {rest rest' : Value → List (Addr × Obj) → Prop} {y y' : Value}
    (h : CompEnd h₀ L m s₁ I oI C oC D oD S rest y s₂) (k : ∀ n, rest y n → rest' y' n) : CompEnd h₀ L m s₁ I oI C oC D oD S rest' y' s₂ :=
  let ⟨h', tk, n', e, F, N, o, hS, r⟩ := h; ⟨h', tk, n', e, F, N, o, hS, k _ r⟩

theorem rest_ind {elt : Expr} {x : Str} {scope : Scope} {cl : List (Str × Addr)} {S : List (Addr × Obj) → Prop} {P : Nat → Value → Prop} {Fin : List Value → List (Addr × Obj) → Prop} {n : Nat} (J : Nat → List Value → List (Addr × Obj) → Prop)
    (turn : ∀ i ys news v I oI C oC D m₂ h tk (E' : Value → Shared → Prop), i < n → J i ys news → P i v → NsObj oC m₂ → m₂ x = some v → Fr h₀ L h m → News h₀ L h ((I, oI) :: (C, oC) :: (D, lst ys) :: news) → Off3 I C D news → ((@Ne Nat I C) ∧ (@Ne Nat I D) ∧ (@Ne Nat C D)) →
      wpAny (model prog w) A (eval elt (compEnvC scope cl C env)) (CompEnd h₀ L m { s with heap := h, toks := tk } I oI C oC D (lst ys) S (fun y news' => J (i + 1) (ys ++ [y]) news')) E' { s with heap := h, toks := tk })
    (done : ∀ ys news, J n ys news → Fin ys news) : ∀ k i ys news, i + k = n → J i ys news → CompRest prog w A h₀ L m env elt x scope cl s S P Fin k i ys news
  | 0, i, ys, news, e, h => by
    subst e
    exact CompRest.zero (done _ _ h)
  | k + 1, i, ys, news, e, h => by
    refine CompRest.succ fun v I oI C oC D m₂ h' tk E' a1 a2 a3 a4 a5 a6 a7 => ?_
    refine wpAny_mono (turn i ys news v I oI C oC D m₂ h' tk E' (by omega) h a1 a2 a3 a4 a5 a6 a7) (fun y s' q => ?_) fun _ _ e => e
    exact end_mono q fun n' hj => rest_ind J turn done k (i + 1) _ n' (by omega) hj

theorem restT_ind {ct elt : Expr} {x : Str} {scope : Scope} {cl : List (Str × Addr)} {S : List (Addr × Obj) → Prop} {P : Nat → Value → Prop} {Fin : List Value → List (Addr × Obj) → Prop} {n : Nat} (J : Nat → List Value → List (Addr × Obj) → Prop)
    (turn : ∀ i ys news v I oI C oC D m₂ h tk (E' : Value → Shared → Prop), i < n → J i ys news → P i v → NsObj oC m₂ → m₂ x = some v → Fr h₀ L h m → News h₀ L h ((I, oI) :: (C, oC) :: (D, lst ys) :: news) → Off3 I C D news → ((@Ne Nat I C) ∧ (@Ne Nat I D) ∧ (@Ne Nat C D)) →
      wpAny (model prog w) A (isTrue ct (compEnvC scope cl C env) (eval ct (compEnvC scope cl C env))) (fun ok s' => if ok = true then
        wpAny (model prog w) A (eval elt (compEnvC scope cl C env)) (CompEnd h₀ L m { s with heap := h, toks := tk } I oI C oC D (lst ys) S (fun y news' => J (i + 1) (ys ++ [y]) news')) E' s'
        else CompEnd h₀ L m { s with heap := h, toks := tk } I oI C oC D (lst ys) S (fun _ news' => J (i + 1) ys news') Value.none s') E' { s with heap := h, toks := tk })
    (done : ∀ ys news, J n ys news → Fin ys news) : ∀ k i ys news, i + k = n → J i ys news → LCt.CompRestT prog w A h₀ L m env ct elt x scope cl s S P Fin k i ys news
  | 0, i, ys, news, e, h => by
    subst e
    exact LCt.CompRestT.zero (done _ _ h)
  | k + 1, i, ys, news, e, h => by
    refine LCt.CompRestT.succ fun v I oI C oC D m₂ h' tk E' a1 a2 a3 a4 a5 a6 a7 => ?_
    refine wpAny_mono (turn i ys news v I oI C oC D m₂ h' tk E' (by omega) h a1 a2 a3 a4 a5 a6 a7) (fun ok s' q => ?_) fun _ _ e => e
    cases ok with
    | true =>
      simp only [if_true] at q ⊢
      exact wpAny_mono q (fun y s' q => end_mono q fun n' hj => restT_ind J turn done k (i + 1) _ n' (by omega) hj) fun _ _ e => e
    | false =>
      simp only [Bool.false_eq_true, if_false] at q ⊢
      exact end_mono q fun n' hj => restT_ind J turn done k (i + 1) _ n' (by omega) hj
end

/-- What a def of the text tells its callers: from any state that bears what is asked it ends, gives r, and lays tl ahead of the ledger; all else stays. -/
noncomputable def Tell (rw : OpenLaw) (K : Params → Frag) (vw : Program) (w : World) (mean : ExcName → Option Value) (mg mb : Str → Option Value) (f : Addr) (news : List (Addr × Obj)) (vs : List Value) (room : Nat) (Post : Value → List (Addr × Obj) → Prop) : Prop :=
  ∀ (dp un : Nat) (gd : Option (List Code)) (cn : Str) (cs : Scope) (a : Addr) (ccd : Value) (cl : List (Str × Addr)) (outer : List Env) (A₀ : Around) (base h₀ : Heap) (L : Addr) (m : Str → Option Value) (s : Shared) (Q E : Value → Shared → Prop),
    Below A₀ base outer h₀ → Fr h₀ L s.heap m → (K w.params).In h₀ → News h₀ L s.heap news → Top vw (looseW vw [Str.ofString "SnobolError"]) mean mg mb h₀ → cs.kind = .function → dp + room < recursionLimit → un + 8 * room < cLine →
    (∀ r tl h' tk', Fr h₀ L h' m → News h₀ L h' (tl ++ news) → (∀ p ∈ tl, ∀ q ∈ news, q.1 < p.1) → Post r tl → Q r { s with heap := h', toks := tk' }) →
    wpAny (model rw.row.prog w) (ktrTop dp un gd cn cs L a ccd cl outer) (call (.ref f) vs) Q E s
theorem Tell.use {rw : OpenLaw} {K : Params → Frag} {vw : Program} {w : World} {mean : ExcName → Option Value} {mg mb : Str → Option Value} {f : Addr} {news : List (Addr × Obj)} {vs : List Value} {room : Nat} {Post : Value → List (Addr × Obj) → Prop} (C : Tell rw K vw w mean mg mb f news vs room Post)
    {dp un : Nat} {gd : Option (List Code)} {cn : Str} {cs : Scope} {a : Addr} {ccd : Value} {cl : List (Str × Addr)} {outer : List Env} {A₀ : Around} {base h₀ : Heap} {L : Addr} {m : Str → Option Value} {s : Shared} {Q E : Value → Shared → Prop}
    (B : Below A₀ base outer h₀) (F : Fr h₀ L s.heap m) (X : (K w.params).In h₀) (N : News h₀ L s.heap news) (T : Top vw (looseW vw [Str.ofString "SnobolError"]) mean mg mb h₀) (hk : cs.kind = .function) (hd : dp + room < recursionLimit) (hu : un + 8 * room < cLine)
    (ret : ∀ r tl h' tk', Fr h₀ L h' m → News h₀ L h' (tl ++ news) → (∀ p ∈ tl, ∀ q ∈ news, q.1 < p.1) → Post r tl → Q r { s with heap := h', toks := tk' }) :
    wpAny (model rw.row.prog w) (ktrTop dp un gd cn cs L a ccd cl outer) (call (.ref f) vs) Q E s := C _ _ _ _ _ _ _ _ _ _ _ _ _ _ _ _ _ B F X N T hk hd hu ret
end Mine
namespace Mine
/-- a place where the walk is to stand still -/
noncomputable def Stop (P : Prop) : Prop := P
theorem Stop.of {P : Prop} (h : Stop P) : P := h
theorem map_set {m m₀ : Str → Option Value} {x : Str} {v : Value} (h1 : m x = some v) (h2 : ∀ z, z ≠ x → m z = m₀ z) : m = fun y => if y = x then some v else m₀ y := by
  funext y
  by_cases h : y = x
  · subst h; rw [if_pos rfl]; exact h1
  · rw [if_neg h]; exact h2 y h
theorem map2 {m m₀ : Str → Option Value} (x1 x2 : Str) (h : ∀ y, y ≠ x1 → y ≠ x2 → m y = m₀ y) : m = fun y => if y = x1 then m x1 else if y = x2 then m x2 else m₀ y := by
  funext y
  by_cases e1 : y = x1
  · rw [if_pos e1, e1]
  · by_cases e2 : y = x2
    · rw [if_neg e1, if_pos e2, e2]
    · rw [if_neg e1, if_neg e2]; exact h y e1 e2
theorem map3 {m m₀ : Str → Option Value} (x1 x2 x3 : Str) (h : ∀ y, y ≠ x1 → y ≠ x2 → y ≠ x3 → m y = m₀ y) : m = fun y => if y = x1 then m x1 else if y = x2 then m x2 else if y = x3 then m x3 else m₀ y := by
  funext y
  by_cases e1 : y = x1
  · rw [if_pos e1, e1]
  · by_cases e2 : y = x2
    · rw [if_neg e1, if_pos e2, e2]
    · by_cases e3 : y = x3
      · rw [if_neg e1, if_neg e2, if_pos e3, e3]
      · rw [if_neg e1, if_neg e2, if_neg e3]; exact h y e1 e2 e3
theorem units_make (A : Around) (args : Args) : (A.under (.builtin "type.__call__" args)).units = A.units + 1 := rfl
/-- the fields of an array, as its class lays them -/
abbrev arrObj (P : Params) (u1 u2 u3 u4 u5 u6 v1 v3 : Tok) (word : Str) (nn : Int) (tn : Tok) (told : Str) (tt : Tok) (B I : Addr) : Obj := dictOf [
  { hash := PyData.keyHash P (Str.ofString "word"), key := .str (Str.ofString "word") u1, val := .str word v1 },
  { hash := PyData.keyHash P (Str.ofString "number"), key := .str (Str.ofString "number") u2, val := .int nn tn },
  { hash := PyData.keyHash P (Str.ofString "mark"), key := .str (Str.ofString "mark") u3, val := .int 0 v3 },
  { hash := PyData.keyHash P (Str.ofString "told"), key := .str (Str.ofString "told") u4, val := .str told tt },
  { hash := PyData.keyHash P (Str.ofString "bounds"), key := .str (Str.ofString "bounds") u5, val := .ref B },
  { hash := PyData.keyHash P (Str.ofString "items"), key := .str (Str.ofString "items") u6, val := .ref I }] 6
/-! Two marks of order, (0, x, "") and (0, y, ""), by < and by >. -/
section
variable {prog : Program} {w : World} {A : Around} {E : Value → Shared → Prop} {s : Shared}
abbrev mk3 (x : Int) (t0 tx t1 : Tok) (e : Str) : Obj := { cls := .type "tuple", data := .seq #[.int 0 t0, .int x tx, .str e t1] }
theorem tup3_lt_tree {a b : Addr} {x y : Int} {t0 tx t1 u0 uy u1 : Tok} {e : Str} {P : Fin → Shared → Prop} (ha : s.heap.get? a = some (mk3 x t0 tx t1 e)) (hb : s.heap.get? b = some (mk3 y u0 uy u1 e))
    (h : P (.done (.ret (.bool (decide (x < y))))) s) : wpAny (model prog w) A (Builtin.«tuple.__lt__» ⟨[.ref a, .ref b], []⟩) P E s := by
  have hTb : s.TypeIs (.ref b) "tuple" := ⟨_, hb, rfl⟩
  show wpAny _ _ (isInstance (.ref b) (.type "tuple") >>= _) _ _ s
  refine wpAny_bind (wpAny_isInstance hTb isSubtype_tuple_tuple ?_)
  simp only [Bool.not_true, Bool.false_eq_true, if_false]
  refine wpAny_bind (wpAny_tupleItemsOf ha rfl ?_)
  refine wpAny_bind (wpAny_tupleItemsOf hb rfl ?_)
  refine wpAny_bind ?_
  simp only [List.zip_cons_cons, List.zip_nil_right, List.forIn_cons, List.forIn_nil]
  refine wpAny_bind (wpAny_bind (wpAny_eqBool_int ?_))
  simp only [beq_self_eq_true, Bool.not_true, Bool.false_eq_true, if_false]
  refine wpAny_pure ?_
  refine wpAny_bind (wpAny_bind (wpAny_eqBool_int ?_))
  by_cases hxy : x = y
  · subst hxy
    simp only [beq_self_eq_true, Bool.not_true, Bool.false_eq_true, if_false]
    refine wpAny_pure ?_
    refine wpAny_bind (wpAny_bind (wpAny_eqBool_str ?_))
    simp only [decide_true, Bool.not_true, Bool.false_eq_true, if_false]
    refine wpAny_pure (wpAny_pure ?_)
    have h' : P (.done (.ret (.bool false))) s := by simpa using h
    exact wpAny_pure h'
  · have hne : (x == y) = false := by simpa using hxy
    rw [hne]
    simp only [Bool.not_false, if_true]
    refine wpAny_bind (wpAny_rule (wpAny_bind ?_))
    show wpAny _ _ (compareOp .Lt (.int x tx) (.int y uy)) _ _ _
    exact lt_int (wpAny_bind (wpAny_pure (wpAny_pure (wpAny_pure (wpAny_pure h)))))
theorem tup3_lt {a b : Addr} {x y : Int} {t0 tx t1 u0 uy u1 : Tok} {e : Str} {Q : Value → Shared → Prop} (ha : s.heap.get? a = some (mk3 x t0 tx t1 e)) (hb : s.heap.get? b = some (mk3 y u0 uy u1 e)) (hu : A.units < cLine)
    (h : Q (.bool (decide (x < y))) s) : wpAny (model prog w) A (compareOp .Lt (.ref a) (.ref b)) Q E s := by
  have hTa : s.TypeIs (.ref a) "tuple" := ⟨_, ha, rfl⟩
  have hTb : s.TypeIs (.ref b) "tuple" := ⟨_, hb, rfl⟩
  show wpAny _ _ (richCompare .Lt (.ref a) (.ref b)) _ _ _
  exact wpAny_richCompare_same_room (op := .Lt) hTa hTb F.slot_tuple_lt (wpAny_call_entry F.slot_tuple_lt hTa F.entry_tuple_lt (tup3_lt_tree ha hb ⟨_, rfl, (fun e => nomatch e), h⟩) (F.args_tuple_lt_2 _ _)) hu
theorem tup3_gt_tree {a b : Addr} {x y : Int} {t0 tx t1 u0 uy u1 : Tok} {e : Str} {P : Fin → Shared → Prop} (ha : s.heap.get? a = some (mk3 x t0 tx t1 e)) (hb : s.heap.get? b = some (mk3 y u0 uy u1 e))
    (h : P (.done (.ret (.bool (decide (y < x))))) s) : wpAny (model prog w) A (Builtin.«tuple.__gt__» ⟨[.ref a, .ref b], []⟩) P E s := by
  have hTb : s.TypeIs (.ref b) "tuple" := ⟨_, hb, rfl⟩
  show wpAny _ _ (isInstance (.ref b) (.type "tuple") >>= _) _ _ s
  refine wpAny_bind (wpAny_isInstance hTb isSubtype_tuple_tuple ?_)
  simp only [Bool.not_true, Bool.false_eq_true, if_false]
  refine wpAny_bind (wpAny_tupleItemsOf ha rfl ?_)
  refine wpAny_bind (wpAny_tupleItemsOf hb rfl ?_)
  refine wpAny_bind ?_
  simp only [List.zip_cons_cons, List.zip_nil_right, List.forIn_cons, List.forIn_nil]
  refine wpAny_bind (wpAny_bind (wpAny_eqBool_int ?_))
  simp only [beq_self_eq_true, Bool.not_true, Bool.false_eq_true, if_false]
  refine wpAny_pure ?_
  refine wpAny_bind (wpAny_bind (wpAny_eqBool_int ?_))
  by_cases hxy : x = y
  · subst hxy
    simp only [beq_self_eq_true, Bool.not_true, Bool.false_eq_true, if_false]
    refine wpAny_pure ?_
    refine wpAny_bind (wpAny_bind (wpAny_eqBool_str ?_))
    simp only [decide_true, Bool.not_true, Bool.false_eq_true, if_false]
    refine wpAny_pure (wpAny_pure ?_)
    have h' : P (.done (.ret (.bool false))) s := by simpa using h
    exact wpAny_pure h'
  · have hne : (x == y) = false := by simpa using hxy
    rw [hne]
    simp only [Bool.not_false, if_true]
    refine wpAny_bind (wpAny_rule (wpAny_bind ?_))
    show wpAny _ _ (compareOp .Gt (.int x tx) (.int y uy)) _ _ _
    exact gt_int (wpAny_bind (wpAny_pure (wpAny_pure (wpAny_pure (wpAny_pure h)))))
theorem tup3_gt {a b : Addr} {x y : Int} {t0 tx t1 u0 uy u1 : Tok} {e : Str} {Q : Value → Shared → Prop} (ha : s.heap.get? a = some (mk3 x t0 tx t1 e)) (hb : s.heap.get? b = some (mk3 y u0 uy u1 e)) (hu : A.units < cLine)
    (h : Q (.bool (decide (y < x))) s) : wpAny (model prog w) A (compareOp .Gt (.ref a) (.ref b)) Q E s := by
  have hTa : s.TypeIs (.ref a) "tuple" := ⟨_, ha, rfl⟩
  have hTb : s.TypeIs (.ref b) "tuple" := ⟨_, hb, rfl⟩
  show wpAny _ _ (richCompare .Gt (.ref a) (.ref b)) _ _ _
  exact wpAny_richCompare_same_room (op := .Gt) hTa hTb F.slot_tuple_gt (wpAny_call_entry F.slot_tuple_gt hTa F.entry_tuple_gt (tup3_gt_tree ha hb ⟨_, rfl, (fun e => nomatch e), h⟩) (F.args_tuple_gt_2 _ _)) hu

theorem item_led {h₀ : Heap} {L l : Addr} {news : List (Addr × Obj)} {value slice : Expr} {vs : List Value} {n : Nat} {k : Int} {u : Tok} {v : Value} {Q : Value → Shared → Prop}
    (N : News h₀ L s.heap news) (hm : (l, listOf vs.toArray n) ∈ news) (h0 : 0 ≤ k) (hhi : k < 2 ^ 63) (hx : vs[k.toNat]? = some v) (h : Q v s)
    (hs : subscripted slice false (.ref l) (.int k u) = operate [.ref l, .int k u] (getItem (.ref l) (.int k u)) := by with_unfolding_all rfl) :
    wpAny (model prog w) A (subscriptTail value slice (.ref l) (.int k u)) Q E s :=
  have hl : s.heap.IsList l vs.toArray := ⟨_, N.get hm, rfl, n, rfl⟩
  tail_any hl.typeIs slot_list_getitem.lookup (wpAny_getItem_list hl h0 hhi (by simpa using hx) h) hs
theorem len_led {h₀ : Heap} {L l : Addr} {news : List (Addr × Obj)} {vs : List Value} {n : Nat} {Q : Value → Shared → Prop}
    (N : News h₀ L s.heap news) (hm : (l, listOf vs.toArray n) ∈ news) (hz : vs.length < 2 ^ 62) (h : Q (.int (vs.length : Int) (s.toks + 1)) { s with toks := s.toks + 1 + 1 }) :
    wpAny (model prog w) A (call (.builtin "len") [.ref l]) Q E s :=
  len_list ⟨_, N.get hm, rfl, n, rfl⟩ (by rw [List.size_toArray]; omega) (by rw [List.size_toArray]; exact h)

/-! The sort that the text does: where a row goes among rows that stand in order, and all rows so. -/
noncomputable def rowKey (r : Addr × List Value) : Int := match r.2 with | .int x _ :: _ => x | _ => 0
noncomputable def posOf (d : Bool) (ks : List Int) (x : Int) : Nat → Nat
  | 0 => 0
  | k + 1 => if (if d then decide (ks.getD k 0 < x) else decide (x < ks.getD k 0)) = true then posOf d ks x k else k + 1
noncomputable def insRow {α : Type} (d : Bool) (key : α → Int) (l : List α) (r : α) : List α := l.take (posOf d (l.map key) (key r) l.length) ++ r :: l.drop (posOf d (l.map key) (key r) l.length)
noncomputable def sortRows {α : Type} (d : Bool) (key : α → Int) (rs : List α) : List α := rs.foldl (insRow d key) []
theorem posOf_le (d : Bool) (ks : List Int) (x : Int) : ∀ k, posOf d ks x k ≤ k
  | 0 => Nat.le_refl _
  | k + 1 => by
    show (if (if d then decide (ks.getD k 0 < x) else decide (x < ks.getD k 0)) = true then posOf d ks x k else k + 1) ≤ k + 1
    generalize (if d then decide (ks.getD k 0 < x) else decide (x < ks.getD k 0)) = b
    cases b with
    | true => exact Nat.le_succ_of_le (posOf_le d ks x k)
    | false => exact Nat.le_refl _
theorem insRow_length {α : Type} (d : Bool) (key : α → Int) (l : List α) (r : α) : (insRow d key l r).length = l.length + 1 := by
  unfold insRow
  rw [List.length_append, List.length_cons, List.length_take, List.length_drop]
  have := posOf_le d (l.map key) (key r) l.length
  omega
theorem insRow_mem {α : Type} {d : Bool} {key : α → Int} {l : List α} {r y : α} (h : y ∈ insRow d key l r) : y = r ∨ y ∈ l := by
  unfold insRow at h
  rcases List.mem_append.mp h with h | h
  · exact .inr (List.mem_of_mem_take h)
  · rcases List.mem_cons.mp h with h | h
    · exact .inl h
    · exact .inr (List.mem_of_mem_drop h)
theorem sortRows_snoc {α : Type} (d : Bool) (key : α → Int) (rs : List α) (r : α) : sortRows d key (rs ++ [r]) = insRow d key (sortRows d key rs) r := by
  unfold sortRows; rw [List.foldl_append]; rfl
theorem sortRows_mem {α : Type} {d : Bool} {key : α → Int} : ∀ {rs : List α} {acc : List α} {y : α}, y ∈ rs.foldl (insRow d key) acc → y ∈ acc ∨ y ∈ rs
  | [], acc, y, h => .inl h
  | r :: rs, acc, y, h => by
    rcases sortRows_mem (rs := rs) h with h | h
    · rcases insRow_mem h with h | h
      · exact .inr (h ▸ .head _)
      · exact .inl h
    · exact .inr (.tail _ h)
theorem sortRows_length {α : Type} (d : Bool) (key : α → Int) : ∀ (rs acc : List α), (rs.foldl (insRow d key) acc).length = acc.length + rs.length
  | [], acc => rfl
  | r :: rs, acc => by rw [List.foldl_cons, sortRows_length d key rs, insRow_length, List.length_cons]; omega
theorem ins_eq {S : List (Addr × List Value)} {r : Addr × List Value} {d : Bool} {n : Nat} (h : posOf d (S.map rowKey) (rowKey r) S.length = n) (hn : n ≤ S.length) :
    kl_ins (S.map fun r => Value.ref r.1).toArray.toList (n : Int) (.ref r.1) = (insRow d rowKey S r).map fun r => Value.ref r.1 := by
  unfold kl_ins insRow
  have h0 : ¬ ((n : Int) < 0) := by omega
  rw [if_neg h0, h, Int.toNat_natCast, List.length_map, Nat.min_eq_left hn, List.map_append, List.map_cons, List.map_take, List.map_drop]
theorem pos_stop {d : Bool} {ks : List Int} {x : Int} {k : Nat} (h : (if d then decide (ks.getD k 0 < x) else decide (x < ks.getD k 0)) = false) : posOf d ks x (k + 1) = k + 1 := by
  show (if (if d then decide (ks.getD k 0 < x) else decide (x < ks.getD k 0)) = true then posOf d ks x k else k + 1) = k + 1
  rw [h]; rfl
theorem pos_go {d : Bool} {ks : List Int} {x : Int} {k : Nat} (h : (if d then decide (ks.getD k 0 < x) else decide (x < ks.getD k 0)) = true) : posOf d ks x (k + 1) = posOf d ks x k := by
  show (if (if d then decide (ks.getD k 0 < x) else decide (x < ks.getD k 0)) = true then posOf d ks x k else k + 1) = posOf d ks x k
  rw [h]; rfl
theorem news_drop1 {h₀ h : Heap} {L : Addr} {news : List (Addr × Obj)} {p : Addr × Obj} (N : News h₀ L h (p :: news)) : News h₀ L h news := fun q hq => N _ (.tail _ hq)
theorem news_add {h₀ h : Heap} {L : Addr} {news : List (Addr × Obj)} {p : Addr × Obj} (N : News h₀ L h news) (hp : p ∈ news) : News h₀ L h (p :: news) := fun q hq => by
  rcases List.mem_cons.mp hq with rfl | hq
  · exact N _ hp
  · exact N _ hq

/-! A loop over a list of the ledger whose target is any; what lies in the ledger stays. -/
noncomputable def TurnEnd (h₀ : Heap) (L : Addr) (news : List (Addr × Obj)) (s : Shared) (Q : Flow → Shared → Prop) (J : (Str → Option Value) → Prop) (f : Flow) (s₃ : Shared) : Prop :=
  match f with
  | .ret v => Q (.ret v) s₃
  | .brk => Q .next s₃
  | _ => ∃ h' tk' m', s₃ = { s with heap := h', toks := tk' } ∧ Fr h₀ L h' m' ∧ News h₀ L h' news ∧ J m'
theorem itemsT {env : Env} {h₀ : Heap} {target : Expr} {body : List Stmt} {Q : Flow → Shared → Prop} {l : Addr} {vs : List Value} {nn : Nat} {m₀ : Str → Option Value} {news : List (Addr × Obj)} (J : Nat → (Str → Option Value) → Prop)
    (hh : A.handled = none) (F : Fr h₀ env.locals s.heap m₀) (N : News h₀ env.locals s.heap news) (hm : (l, listOf vs.toArray nn) ∈ news) (hj : J 0 m₀)
    (turn : ∀ i v m₁ h tk own, vs[i]? = some v → J i m₁ → OwnOff own (news.map (·.1)) → Fr h₀ env.locals h m₁ → News h₀ env.locals h (news ++ own) →
      wpAny (model prog w) A (assign target env v) (fun _ s₂ => wpAny (model prog w) A (execs body env) (TurnEnd h₀ env.locals (news ++ own) { s with heap := h, toks := tk } Q (J (i + 1))) E s₂) E { s with heap := h, toks := tk })
    (done : ∀ m₁ h tk, J vs.length m₁ → Fr h₀ env.locals h m₁ → News h₀ env.locals h news → Q .next { s with heap := h, toks := tk }) :
    wpAny (model prog w) A (pyIter (.ref l)) (fun it s₂ => TurnsAt prog w A h₀ env target body Q E it s₂) E s := by
  refine iter_listTurns hh F N hm rfl rfl fun I hI => ?_
  have all : ∀ k i m₁, i + k = vs.length → J i m₁ → ItemsRest prog w A E h₀ env target body Q s [(I, "list_iterator")] [(l, listOf vs.toArray nn)] ((vs.drop i).map .val) m₁ news := by
    intro k
    induction k with
    | zero =>
      intro i m₁ e hJ
      have e' : i = vs.length := e
      subst e'
      rw [List.drop_length]
      exact ItemsRest.zero fun h tk F' N' => done m₁ h tk hJ F' N'
    | succ k ih =>
      intro i m₁ e hJ
      have hlt : i < vs.length := by omega
      rw [List.drop_eq_getElem_cons hlt, List.map_cons]
      refine ItemsRest.val fun h tk F' => AllObj.cons fun o hc => AllObj.nil fun N' => ?_
      have hoff : OwnOff [(I, o)] (news.map (·.1)) := by
        intro p hp b hb
        obtain ⟨q, hq, rfl⟩ := List.mem_map.mp hb
        rw [List.mem_singleton.mp hp]
        exact (Nat.ne_of_lt (hI q hq)).symm
      have N2 : News h₀ env.locals h (news ++ [(I, o)]) := fun p hp => N' p (by
        rcases List.mem_append.mp hp with hp | hp
        · exact .tail _ hp
        · rw [List.mem_singleton.mp hp]; exact .head _)
      refine wpAny_mono (turn i vs[i] m₁ h tk [(I, o)] (List.getElem?_eq_getElem hlt) hJ hoff F' N2) (fun _ s₂ q => wpAny_mono q (fun f s₃ p => ?_) fun _ _ x => x) fun _ _ x => x
      have fin : (∃ h' tk' m', s₃ = { s with heap := h', toks := tk' } ∧ Fr h₀ env.locals h' m' ∧ News h₀ env.locals h' (news ++ [(I, o)]) ∧ J (i + 1) m') →
          UnrEndW h₀ env.locals { s with heap := h, toks := tk } [(I, o)] (fun m' n' => SubL [(l, listOf vs.toArray nn)] n' ∧ ItemsRest prog w A E h₀ env target body Q s [(I, "list_iterator")] [(l, listOf vs.toArray nn)] ((vs.drop (i + 1)).map .val) m' n') s₃ := by
        rintro ⟨h', tk', m', rfl, F3, N3, hJ'⟩
        refine ⟨h', tk', m', news, rfl, F3, fun p hp => N3 p ?_, fun p hp q hq => ?_, ⟨hm, trivial⟩, ih (i + 1) m' (by omega) hJ'⟩
        · rcases List.mem_append.mp hp with hp | hp
          · exact List.mem_append_right _ hp
          · exact List.mem_append_left _ hp
        · rw [List.mem_singleton.mp hq]; exact Nat.ne_of_lt (hI p hp)
      cases f with
      | ret v => exact p
      | brk => exact p
      | next => exact fin p
      | cont => exact fin p
  exact all vs.length 0 m₀ (Nat.zero_add _) hj

theorem mul_led {h₀ : Heap} {L l : Addr} {m : Str → Option Value} {news : List (Addr × Obj)} {items : Array Value} {k : Nat} {x : Int} {u : Tok} {Q : Value → Shared → Prop}
    (F : Fr h₀ L s.heap m) (N : News h₀ L s.heap news) (hm : (l, listOf items k) ∈ news) (hlo : -(2 ^ 63 : Int) ≤ x) (hhi : x < 2 ^ 63) (hsz : items.size * x.toNat ≤ 2 ^ 24)
    (h : ∀ D its' k' h', Fr h₀ L h' m → News h₀ L h' ((D, listOf its' k') :: news) → (∀ p ∈ news, p.1 < D) → Q (.ref D) { s with heap := h' }) :
    wpAny (model prog w) A (binaryOp .Mult (.ref l) (.int x u)) Q E s :=
  mul_list F N (N.get hm) hlo hhi hsz fun h' F' N' => h _ _ _ h' F' N' fun p hp => Heap.lt_size (N p hp).1

theorem len_led2 {h₀ : Heap} {L l : Addr} {news : List (Addr × Obj)} {vs : List Value} {n k : Nat} {Q : Value → Shared → Prop}
    (N : News h₀ L s.heap news) (hm : (l, listOf vs.toArray n) ∈ news) (hz : vs.length = k) (hk : k < 2 ^ 62) (h : Q (.int (k : Int) (s.toks + 1)) { s with toks := s.toks + 1 + 1 }) :
    wpAny (model prog w) A (call (.builtin "len") [.ref l]) Q E s := by
  subst hz
  exact len_led N hm hk h

theorem flat_len {α β : Type} {n : Nat} : ∀ {rs : List (α × List β)}, (∀ r ∈ rs, r.2.length = n) → (rs.flatMap (·.2)).length = rs.length * n
  | [], _ => by simp
  | r :: rs, h => by
    rw [List.flatMap_cons, List.length_append, flat_len fun q hq => h q (.tail _ hq), h r (.head _), List.length_cons, Nat.add_mul, Nat.one_mul, Nat.add_comm]
theorem flat_small {α β : Type} {n : Nat} {rs : List (α × List β)} (h : ∀ r ∈ rs, r.2.length = n) (h1 : rs.length ≤ 1000) (h2 : n ≤ 1000) : (rs.flatMap (·.2)).length ≤ sizeLine := by
  rw [flat_len h]
  exact Nat.le_trans (Nat.mul_le_mul h1 h2) (by decide)

theorem pick_rows {h₀ h : Heap} {L : Addr} {a b c d e f g q : Addr × Obj} {news : List (Addr × Obj)} (N : News h₀ L h (a :: b :: c :: d :: e :: f :: g :: q :: news)) : News h₀ L h ([a, c, d, e, g, f] ++ news) := fun p hp => N p (by
  simp only [List.cons_append, List.nil_append, List.mem_cons] at hp ⊢
  rcases hp with h | h | h | h | h | h | h <;> simp [h])
theorem lt6 {a b c d e f : Addr × Obj} {news : List (Addr × Obj)} (ha : AllLt a.1 news) (hb : ∀ q ∈ news, q.1 < b.1) (hc : AllLt c.1 news) (hd : AllLt d.1 news) (he : AllLt e.1 news) (hf : AllLt f.1 news) :
    ∀ p ∈ [a, b, c, d, e, f], ∀ q ∈ news, q.1 < p.1 := by
  intro p hp q hq
  simp only [List.mem_cons, List.not_mem_nil, or_false] at hp
  rcases hp with rfl | rfl | rfl | rfl | rfl | rfl
  · exact kst_ltOf ha q hq
  · exact hb q hq
  · exact kst_ltOf hc q hq
  · exact kst_ltOf hd q hq
  · exact kst_ltOf he q hq
  · exact kst_ltOf hf q hq
end
end Mine
namespace Mine
open LCg
theorem ne_up1 {a b : Nat} (h : @LT.lt Nat _ a b) : @Ne Nat a (b + 1) := by omega
theorem ne_up2 {a b : Nat} (h : @LT.lt Nat _ a b) : @Ne Nat a (b + 1 + 1) := by omega
/-! Pieces of one length out of a row. -/
theorem flatten_len {α : Type} {n : Nat} : ∀ {cs : List (List α)}, (∀ c ∈ cs, c.length = n) → cs.flatten.length = cs.length * n
  | [], _ => by simp
  | c :: cs, h => by
    rw [List.flatten_cons, List.length_append, flatten_len fun q hq => h q (.tail _ hq), h c (.head _), List.length_cons, Nat.add_mul, Nat.one_mul, Nat.add_comm]
theorem piece_at {α : Type} {n : Nat} : ∀ {cs : List (List α)} {i : Nat} {c : List α}, (∀ c ∈ cs, c.length = n) → cs[i]? = some c → (cs.flatten.drop (i * n)).take n = c
  | [], i, c, _, e => by simp at e
  | d :: cs, 0, c, h, e => by
    have e' : d = c := by simpa using e
    subst e'
    rw [Nat.zero_mul, List.drop_zero, List.flatten_cons, ← h d (.head _), List.take_left']
    rfl
  | d :: cs, i + 1, c, h, e => by
    have e' : cs[i]? = some c := by simpa using e
    rw [List.flatten_cons, Nat.add_mul, Nat.one_mul, Nat.add_comm, ← List.drop_drop]
    have : (d ++ cs.flatten).drop n = cs.flatten := by rw [← h d (.head _), List.drop_left']; rfl
    rw [this]
    exact piece_at (fun q hq => h q (.tail _ hq)) e'
theorem piece_pick {cs : List (List Value)} {n i : Nat} {c : List Value} {x y : Int} (h : ∀ c ∈ cs, c.length = n) (hc : cs[i]? = some c) (hx : x = ((i * n : Nat) : Int)) (hy : y = ((i * n + n : Nat) : Int)) :
    kms_pick cs.flatten (some x) (some y) = c := by
  subst hx hy
  have hi : i < cs.length := (List.getElem?_eq_some_iff.mp hc).1
  have hl := flatten_len h
  have h1 : i * n + n ≤ cs.length * n := by
    have := Nat.mul_le_mul_right n (Nat.succ_le_of_lt hi)
    rwa [Nat.succ_mul] at this
  unfold kms_pick kms_lo kms_hi
  have z1 : ¬ (((i * n : Nat) : Int) < 0) := by omega
  have z2 : ¬ (((i * n + n : Nat) : Int) < 0) := by omega
  simp only [if_neg z1, if_neg z2, Int.toNat_natCast]
  rw [hl, Nat.min_eq_left h1, Nat.min_eq_left (Nat.le_trans (Nat.le_add_right _ _) h1), Nat.add_sub_cancel_left]
  exact piece_at h hc
theorem add_base3 {h₀ h : Heap} {L : Addr} {a b c : Addr × Obj} {tl base : List (Addr × Obj)} (N : News h₀ L h (a :: b :: c :: (tl ++ base))) : News h₀ L h (a :: b :: c :: (base ++ (tl ++ base))) := fun p hp => by
  rcases List.mem_cons.mp hp with rfl | hp
  · exact N _ (.head _)
  rcases List.mem_cons.mp hp with rfl | hp
  · exact N _ (.tail _ (.head _))
  rcases List.mem_cons.mp hp with rfl | hp
  · exact N _ (.tail _ (.tail _ (.head _)))
  rcases List.mem_append.mp hp with hp | hp
  · exact N p (.tail _ (.tail _ (.tail _ (List.mem_append_right _ hp))))
  · exact N p (.tail _ (.tail _ (.tail _ hp)))
theorem off1_ne {D : Addr} : ∀ {news : List (Addr × Obj)}, Off1 D news → ∀ p ∈ news, @Ne Nat p.1 D
  | [], _, p, hp => by cases hp
  | q :: r, h, p, hp => by
    rcases List.mem_cons.mp hp with rfl | hp
    · exact h.1
    · exact off1_ne h.2 p hp
theorem pick_copy {h₀ h : Heap} {L : Addr} {a b c d e1 e2 e3 e4 e5 e6 : Addr × Obj} {news : List (Addr × Obj)} (N : News h₀ L h (a :: b :: c :: d :: e1 :: e2 :: e3 :: e4 :: e5 :: e6 :: news)) : News h₀ L h ([a, c, d] ++ news) := fun p hp => N p (by
  simp only [List.cons_append, List.nil_append, List.mem_cons] at hp ⊢
  rcases hp with h | h | h | h <;> simp [h])
theorem ne3 {a b c : Addr × Obj} {news : List (Addr × Obj)} (ha : ∀ q ∈ news, q.1 < a.1) (hb : ∀ q ∈ news, q.1 < b.1) (hc : ∀ q ∈ news, q.1 < c.1) : ∀ p ∈ [a, b, c], ∀ q ∈ news, @Ne Nat q.1 p.1 := by
  intro p hp q hq
  simp only [List.mem_cons, List.not_mem_nil, or_false] at hp
  rcases hp with rfl | rfl | rfl
  · exact Nat.ne_of_lt (ha q hq)
  · exact Nat.ne_of_lt (hb q hq)
  · exact Nat.ne_of_lt (hc q hq)
theorem rows_swap {h₀ h : Heap} {L : Addr} {a : Addr × Obj} {tl base : List (Addr × Obj)} (N : News h₀ L h (a :: (tl ++ base))) : News h₀ L h (a :: (base ++ tl)) := fun p hp => by
  rcases List.mem_cons.mp hp with rfl | hp
  · exact N _ (.head _)
  rcases List.mem_append.mp hp with hp | hp
  · exact N p (.tail _ (List.mem_append_right _ hp))
  · exact N p (.tail _ (List.mem_append_left _ hp))
/-- the key of a row by its values alone -/
noncomputable def lstKey (r : List Value) : Int := match r with | .int x _ :: _ => x | _ => 0
theorem insRow_map {α β : Type} {f : α → β} {d : Bool} {k1 : α → Int} {k2 : β → Int} (hk : ∀ a, k2 (f a) = k1 a) (l : List α) (r : α) : (insRow d k1 l r).map f = insRow d k2 (l.map f) (f r) := by
  unfold insRow
  have e : (l.map f).map k2 = l.map k1 := by rw [List.map_map]; exact List.map_congr_left fun a _ => hk a
  rw [e, hk, List.map_append, List.map_cons, List.map_take, List.map_drop, List.length_map]
theorem sortRows_map {α β : Type} {f : α → β} {d : Bool} {k1 : α → Int} {k2 : β → Int} (hk : ∀ a, k2 (f a) = k1 a) : ∀ (rs acc : List α), (rs.foldl (insRow d k1) acc).map f = (rs.map f).foldl (insRow d k2) (acc.map f)
  | [], _ => rfl
  | r :: rs, acc => by
    rw [List.foldl_cons, sortRows_map hk rs, insRow_map hk, List.map_cons, List.foldl_cons]
theorem sort_flat (d : Bool) (rs : List (Addr × List Value)) : (sortRows d rowKey rs).flatMap (·.2) = (sortRows d lstKey (rs.map (·.2))).flatten := by
  have h : (sortRows d rowKey rs).map (·.2) = sortRows d lstKey (rs.map (·.2)) := sortRows_map (f := fun r : Addr × List Value => r.2) (k1 := rowKey) (k2 := lstKey) (fun _ => rfl) rs []
  rw [← h, List.flatMap_def]
theorem row_first {rs : List (Addr × List Value)} {cs : List (List Value)} {n : Nat} (hm : rs.map (·.2) = cs) (h1 : 1 ≤ cs.length) (hcs : ∀ c ∈ cs, c.length = n) :
    ∃ r0, rs[0]? = some r0 ∧ r0.2.length = n ∧ (rs.map fun r => Value.ref r.1)[(0 : Int).toNat]? = some (Value.ref r0.1) := by
  subst hm
  rw [List.length_map] at h1
  refine ⟨rs[0], List.getElem?_eq_getElem h1, hcs _ (List.mem_map.mpr ⟨_, List.getElem_mem h1, rfl⟩), ?_⟩
  show (rs.map fun r => Value.ref r.1)[0]? = _
  rw [List.getElem?_map, List.getElem?_eq_getElem h1]; rfl
theorem ne_split7 {D : Addr} {a b c d e f g : Addr × Obj} {news : List (Addr × Obj)} (h : ∀ q ∈ a :: b :: c :: d :: e :: f :: g :: news, @Ne Nat q.1 D) :
    @Ne Nat a.1 D ∧ @Ne Nat b.1 D ∧ @Ne Nat c.1 D ∧ @Ne Nat d.1 D ∧ @Ne Nat e.1 D ∧ @Ne Nat f.1 D ∧ @Ne Nat g.1 D ∧ ∀ q ∈ news, @Ne Nat q.1 D :=
  ⟨h _ (.head _), h _ (.tail _ (.head _)), h _ (.tail _ (.tail _ (.head _))), h _ (.tail _ (.tail _ (.tail _ (.head _)))), h _ (.tail _ (.tail _ (.tail _ (.tail _ (.head _))))), h _ (.tail _ (.tail _ (.tail _ (.tail _ (.tail _ (.head _)))))),
    h _ (.tail _ (.tail _ (.tail _ (.tail _ (.tail _ (.tail _ (.head _))))))), fun q hq => h q (.tail _ (.tail _ (.tail _ (.tail _ (.tail _ (.tail _ (.tail _ hq)))))))⟩
theorem pick_sort {h₀ h : Heap} {L : Addr} {a b c d e e1 e2 e3 e4 e5 e6 e7 : Addr × Obj} {news tl : List (Addr × Obj)} (N : News h₀ L h (a :: b :: c :: d :: e :: e1 :: e2 :: e3 :: e4 :: e5 :: e6 :: e7 :: (news ++ tl))) : News h₀ L h ([a, d, e] ++ news) := fun p hp => N p (by
  simp only [List.cons_append, List.nil_append, List.mem_cons, List.mem_append] at hp ⊢
  rcases hp with h | h | h | h <;> simp [h])
theorem ne3' {a b c : Addr × Obj} {news : List (Addr × Obj)} (ha : ∀ q ∈ news, @Ne Nat q.1 a.1) (hb : ∀ q ∈ news, @Ne Nat q.1 b.1) (hc : ∀ q ∈ news, @Ne Nat q.1 c.1) : ∀ p ∈ [a, b, c], ∀ q ∈ news, @Ne Nat q.1 p.1 := by
  intro p hp q hq
  simp only [List.mem_cons, List.not_mem_nil, or_false] at hp
  rcases hp with rfl | rfl | rfl
  · exact ha q hq
  · exact hb q hq
  · exact hc q hq
/-- a number and its token as a value -/
abbrev tv (p : Int × Tok) : Value := .int p.1 p.2
theorem flat_single {α : Type} (f : α → Value) : ∀ l : List α, (l.map fun a => [f a]).flatten = l.map f
  | [] => rfl
  | a :: l => by rw [List.map_cons, List.flatten_cons, flat_single f l, List.map_cons]; rfl
/-- as Tell, where what is laid is only said to be none of what lay -/
noncomputable def Tell1 (rw : OpenLaw) (K : Params → Frag) (vw : Program) (w : World) (mean : ExcName → Option Value) (mg mb : Str → Option Value) (f : Addr) (news : List (Addr × Obj)) (vs : List Value) (room : Nat) (Post : Value → List (Addr × Obj) → Prop) : Prop :=
  ∀ (dp un : Nat) (gd : Option (List Code)) (cn : Str) (cs : Scope) (a : Addr) (ccd : Value) (cl : List (Str × Addr)) (outer : List Env) (A₀ : Around) (base h₀ : Heap) (L : Addr) (m : Str → Option Value) (s : Shared) (Q E : Value → Shared → Prop),
    Below A₀ base outer h₀ → Fr h₀ L s.heap m → (K w.params).In h₀ → News h₀ L s.heap news → Top vw (looseW vw [Str.ofString "SnobolError"]) mean mg mb h₀ → cs.kind = .function → dp + room < recursionLimit → un + 8 * room < cLine →
    (∀ r tl h' tk', Fr h₀ L h' m → News h₀ L h' (tl ++ news) → (∀ p ∈ tl, ∀ q ∈ news, @Ne Nat q.1 p.1) → Post r tl → Q r { s with heap := h', toks := tk' }) →
    wpAny (model rw.row.prog w) (ktrTop dp un gd cn cs L a ccd cl outer) (call (.ref f) vs) Q E s
theorem Tell1.use {rw : OpenLaw} {K : Params → Frag} {vw : Program} {w : World} {mean : ExcName → Option Value} {mg mb : Str → Option Value} {f : Addr} {news : List (Addr × Obj)} {vs : List Value} {room : Nat} {Post : Value → List (Addr × Obj) → Prop} (C : Tell1 rw K vw w mean mg mb f news vs room Post)
    {dp un : Nat} {gd : Option (List Code)} {cn : Str} {cs : Scope} {a : Addr} {ccd : Value} {cl : List (Str × Addr)} {outer : List Env} {A₀ : Around} {base h₀ : Heap} {L : Addr} {m : Str → Option Value} {s : Shared} {Q E : Value → Shared → Prop}
    (B : Below A₀ base outer h₀) (F : Fr h₀ L s.heap m) (X : (K w.params).In h₀) (N : News h₀ L s.heap news) (T : Top vw (looseW vw [Str.ofString "SnobolError"]) mean mg mb h₀) (hk : cs.kind = .function) (hd : dp + room < recursionLimit) (hu : un + 8 * room < cLine)
    (ret : ∀ r tl h' tk', Fr h₀ L h' m → News h₀ L h' (tl ++ news) → (∀ p ∈ tl, ∀ q ∈ news, @Ne Nat q.1 p.1) → Post r tl → Q r { s with heap := h', toks := tk' }) :
    wpAny (model rw.row.prog w) (ktrTop dp un gd cn cs L a ccd cl outer) (call (.ref f) vs) Q E s := C _ _ _ _ _ _ _ _ _ _ _ _ _ _ _ _ _ B F X N T hk hd hu ret
theorem range_step {n w : Nat} {c : Int} (hn : 1 ≤ n) (hw : 1 ≤ w) (hw2 : w ≤ 1000) (hb : n * w ≤ 1000 * 1000) (hc : c = (w : Int)) : Builtin.Range.small 0 ((n * w : Nat) : Int) c = true ∧ Builtin.Range.rangeSize 0 ((n * w : Nat) : Int) c = (n : Int) := by
  subst hc
  have h1 : 1 ≤ n * w := Nat.mul_pos hn hw
  have h2 : Builtin.Range.rangeSize 0 ((n * w : Nat) : Int) (w : Int) = (n : Int) := by
    unfold Builtin.Range.rangeSize
    rw [if_pos (by omega), if_pos (by omega)]
    have e : ((n * w : Nat) : Int) - 0 - 1 = ((w : Int) - 1) + ((n : Int) - 1) * (w : Int) := by
      rw [Int.natCast_mul, Int.sub_mul]; omega
    rw [e, Int.add_mul_ediv_right _ _ (by omega), Int.ediv_eq_zero_of_lt (by omega) (by omega)]
    omega
  have h3 : n ≤ n * w := Nat.le_mul_of_pos_right _ hw
  refine ⟨?_, h2⟩
  have f1 : Builtin.Range.rangeFitsLong 0 = true := by decide
  have fits : ∀ x : Int, 0 ≤ x → x ≤ 2000000 → Builtin.Range.rangeFitsLong x = true := fun x a b => by
    unfold Builtin.Range.rangeFitsLong
    rw [Bool.and_eq_true]
    exact ⟨decide_eq_true (by omega), decide_eq_true (by omega)⟩
  have f2 := fits ((n * w : Nat) : Int) (by omega) (by omega)
  have f3 := fits (w : Int) (by omega) (by omega)
  have f4 := fits (n : Int) (by omega) (by omega)
  have f5 := fits (((n * w : Nat) : Int) + ((w : Int) - 1)) (by omega) (by omega)
  have f6 : (w : Int) > 0 := by omega
  unfold Builtin.Range.small
  simp only [h2, f1, f2, f3, f4, f5, if_pos f6, Bool.and_self, Bool.or_true]
section
variable {prog : Program} {w : World} {A : Around} {E : Value → Shared → Prop} {s : Shared} {h₀ : Heap} {L : Addr} {m : Str → Option Value} {env : Env}
/-- a block over a range of any step -/
noncomputable def SrcStep (prog : Program) (w : World) (A : Around) (h₀ : Heap) (L : Addr) (m : Str → Option Value) (env : Env) (elt : Expr) (x : Str) (scope : Scope) (cl : List (Str × Addr)) (Fin : Shared → List Value → List (Addr × Obj) → Prop) (xv : Value) (s₁ : Shared) : Prop :=
  ∃ r a b c t u v n news, xv = .ref r ∧ A.handled = none ∧ Fr h₀ L s₁.heap m ∧ News h₀ L s₁.heap news ∧ IsRange s₁.heap r a b c t u v ∧ Builtin.Range.small a b c = true ∧ Builtin.Range.rangeSize a b c = ((n : Nat) : Int) ∧ n ≤ sizeLine ∧
    ∀ s₂ : Shared, (∃ h, s₂ = { s₁ with heap := h }) → CompRest prog w A h₀ L m env elt x scope cl s₂ (fun _ => True) (fun i v => ∃ t, v = .int (a + (i : Int) * c) t) (Fin s₂) n 0 [] news
theorem step_st {I : Addr} {a c : Int} {n : Nat} : ∀ i (h h' : Heap) (o : Obj) (nw : List (Addr × Obj)), IsRangeIter h I (a + (i : Nat) * c) ((n : Int) - (i : Nat)) c → h.get? I = some o → h'.get? I = some o → (∀ b o, h₀.get? b = some o → h'.get? b = some o) → News h₀ L h' nw → True → IsRangeIter h' I (a + (i : Nat) * c) ((n : Int) - (i : Nat)) c :=
  fun i h h' o nw st e e' _ _ _ => by
    have st' : h.get? I = some _ := st
    show h'.get? I = some _
    rw [e', ← e]; exact st'
theorem ListComp_step {elt iter : Expr} {x : Str} {px : Pos} {scope : Scope} {cl : List (Str × Addr)} {pos : Pos} {Q : Value → Shared → Prop} (_F₀ : Fr h₀ L s.heap m)
    (hclos : closureFor scope env = pure cl) (hcell : ∀ y ∈ scope.names, y.2 ≠ .cell) (hkind : scope.kind = .function)
    (hnames : ∀ y ∈ scope.names, y.2 = .local → scope.names.lookup y.1 = some .local) (hx : scope.names.lookup x = some .local)
    (h : wpAny (model prog w) A (eval iter env) (SrcStep prog w A h₀ L m env elt x scope cl (fun s₂ => FinE h₀ L m s₂ Q)) E s)
    (hs : ∀ x, foldedSetIterable iter env x = pure x := by intro _; rfl) :
    wpAny (model prog w) A (eval (.ListComp elt [⟨.Name x px, iter, [], 0⟩] scope pos) env) Q E s := by
  rw [eval_ListComp]
  refine wpAny_comprehension_free (use := none) rfl hs hclos hkind hnames (wpAny_mono h (fun xv s₁ h₁ => ?_) fun _ _ e => e)
  obtain ⟨r, a, b, c, t, u, v, n, news, rfl, hh, F, N, hr, hsm, hn, hsz, R⟩ := h₁
  refine wpAny_pyIter_range hr hsm ?_
  refine block_U (Walks.range hh s₁.heap.objs.size a c n) hsz (fun i h st => ⟨_, st⟩) step_st hcell hkind hx (by show IsRangeIter _ _ _ _ _; rw [hn]; simpa using Heap.get?_push_size _ rfl) (fun b hb => ?_)
    (F.keeps fun _ _ e => Heap.get?_push_of_some _ e) (N.grown fun _ _ e => Heap.get?_push_of_some _ e) (Nat.ne_of_lt F.ns.lt) (next_is_new F) (fun p hp => Nat.ne_of_lt (Heap.lt_size (N p hp).1)) trivial (R _ ⟨_, rfl⟩) ?_
  · rw [List.mem_singleton.mp hb]
    show s₁.heap.objs.size < (s₁.heap.push _).objs.size
    rw [Heap.size_push]; exact Nat.lt_succ_self _
  · intro D C h tk m' ys news' F' N' o1 hn hC₀ hD₀ hCL hDL hCD offC fin
    refine ⟨m', hn, fun h'' hs'' => fin D h'' tk (F'.change hs'' hCL hC₀) (fun p hp => ?_) o1⟩
    refine ⟨hs''.extBut _ _ ?_ (N' p hp).1, (N' p hp).2⟩
    rcases List.mem_cons.mp hp with rfl | hp
    · exact Ne.symm hCD
    · exact offC p hp
end
end Mine
namespace Mine
open LCg
/-- a heap's part of the sum of the cards' places -/
noncomputable def placeAt (xs : List Int) (k : Nat) : Int := (k : Int) * xs.getD k 0 + Int.fdiv (xs.getD k 0 * (xs.getD k 0 - 1)) 2
noncomputable def places (xs : List Int) : Int := ((List.range xs.length).map (placeAt xs)).sum
theorem ints_tv : ∀ ps : List (Int × Tok), IntsAre (ps.map tv) (ps.map (·.1))
  | [] => .nil
  | p :: ps => .cons p.1 p.2 (ints_tv ps)
end Mine
namespace Mine
section
variable {prog : Program} {w : World} {A : Around} {E : Value → Shared → Prop} {s : Shared} {h₀ : Heap} {env : Env} {x : Str} {body : List Stmt} {Q : Flow → Shared → Prop}
/-- a loop over a range by what holds of the turn's number, the frame and the ledger -/
theorem rangeU_ind {I : Addr} {a : Int} {n : Nat} (J : Nat → (Str → Option Value) → List (Addr × Obj) → Prop)
    (turn : ∀ i m news t h tk, i < n → J i m news → Fr h₀ env.locals h (fun y => if y = x then some (.int (a + (i : Int)) t) else m y) → News h₀ env.locals h ((I, itR (a + ((i + 1 : Nat) : Int)) ((n : Int) - ((i + 1 : Nat) : Int))) :: news) →
      wpAny (model prog w) A (execs body env) (UnrPost h₀ env.locals { s with heap := h, toks := tk } I (itR (a + ((i + 1 : Nat) : Int)) ((n : Int) - ((i + 1 : Nat) : Int))) (J (i + 1)) Q) E { s with heap := h, toks := tk })
    (done : ∀ m news h tk, J n m news → Fr h₀ env.locals h m → News h₀ env.locals h news → Q .next { s with heap := h, toks := tk }) :
    ∀ k i m news, i + k = n → J i m news → RangeRest prog w A E h₀ env x body Q s I a n k i m news
  | 0, i, m, news, e, hj => by
    subst e
    exact RangeRest.zero fun h tk F N => done m news h tk hj F N
  | k + 1, i, m, news, e, hj => by
    refine RangeRest.succ fun t h tk F N => ?_
    refine wpAny_mono (turn i m news t h tk (by omega) hj F N) (fun f s₂ q => ?_) fun _ _ e => e
    have up : UnrEnd h₀ env.locals { s with heap := h, toks := tk } I (itR (a + ((i + 1 : Nat) : Int)) ((n : Int) - ((i + 1 : Nat) : Int))) (J (i + 1)) s₂ → UnrEnd h₀ env.locals { s with heap := h, toks := tk } I (itR (a + ((i + 1 : Nat) : Int)) ((n : Int) - ((i + 1 : Nat) : Int))) (RangeRest prog w A E h₀ env x body Q s I a n k (i + 1)) s₂ := by
      rintro ⟨h', tk', m', news', e', F', N', off, j⟩
      exact ⟨h', tk', m', news', e', F', N', off, rangeU_ind J turn done k (i + 1) m' news' (by omega) j⟩
    cases f with
    | ret v => exact q
    | brk => exact q
    | next => exact up q
    | cont => exact up q
end
theorem ints_pairs {vs : List Value} {xs : List Int} (h : IntsAre vs xs) : ∃ ps : List (Int × Tok), vs = ps.map tv ∧ xs = ps.map (·.1) := by
  induction h with
  | nil => exact ⟨[], rfl, rfl⟩
  | cons n t _ ih =>
    obtain ⟨ps, e1, e2⟩ := ih
    exact ⟨(n, t) :: ps, by rw [e1]; rfl, by rw [e2]; rfl⟩
end Mine
namespace Mine
theorem ints_get {us : List Value} {q : List Int} {i : Nat} {v : Value} (h : IntsAre us q) (hv : us.toArray[i]? = some v) : ∃ z t, v = .int z t ∧ q.take (i + 1) = q.take i ++ [z] := by
  obtain ⟨ps, rfl, rfl⟩ := ints_pairs h
  rw [List.getElem?_toArray, List.getElem?_map] at hv
  cases hp : ps[i]? with
  | none => rw [hp] at hv; cases hv
  | some p =>
    rw [hp] at hv
    refine ⟨p.1, p.2, (Option.some.inj hv).symm, ?_⟩
    rw [List.take_add_one, List.getElem?_map, hp]; rfl
theorem ints_len {us : List Value} {q : List Int} (h : IntsAre us q) : us.toArray.size = q.length := by
  obtain ⟨ps, rfl, rfl⟩ := ints_pairs h
  rw [List.size_toArray, List.length_map, List.length_map]
end Mine
namespace Mine
theorem kc_nine {cm : Str → Option Value} {n₁ n₂ n₃ n₄ n₅ n₆ n₇ n₈ n₉ : Str} {c₁ c₂ c₃ c₄ c₅ c₆ c₇ c₈ c₉ : Addr} {cells : List (Addr × Obj)} (x : CellsAre cm [(n₁, c₁), (n₂, c₂), (n₃, c₃), (n₄, c₄), (n₅, c₅), (n₆, c₆), (n₇, c₇), (n₈, c₈), (n₉, c₉)] cells) :
    ∃ o₁ o₂ o₃ o₄ o₅ o₆ o₇ o₈ o₉, cells = [(c₁, o₁), (c₂, o₂), (c₃, o₃), (c₄, o₄), (c₅, o₅), (c₆, o₆), (c₇, o₇), (c₈, o₈), (c₉, o₉)] ∧ o₁.data = .cell (cm n₁) ∧ o₂.data = .cell (cm n₂) ∧ o₃.data = .cell (cm n₃) ∧ o₄.data = .cell (cm n₄) ∧ o₅.data = .cell (cm n₅) ∧ o₆.data = .cell (cm n₆) ∧ o₇.data = .cell (cm n₇) ∧ o₈.data = .cell (cm n₈) ∧ o₉.data = .cell (cm n₉) := by
  cases x with | cons h r => obtain ⟨o₂, o₃, o₄, o₅, o₆, o₇, o₈, o₉, rfl, h₂, h₃, h₄, h₅, h₆, h₇, h₈, h₉⟩ := kc_eight r; exact ⟨_, o₂, o₃, o₄, o₅, o₆, o₇, o₈, o₉, rfl, h, h₂, h₃, h₄, h₅, h₆, h₇, h₈, h₉⟩
end Mine
namespace Mine
theorem signs_are {x : Str} {acc : Array Value} (h : ItemsOf (SignAt x) acc x.cps.size) : StrsAre acc.toList (signs x) := by
  have h1 := strsAre_map acc.toList (by
    intro v hv
    obtain ⟨j, hj, rfl⟩ := List.mem_iff_getElem.mp hv
    obtain ⟨c, u, _, e⟩ := h.2 j _ (by rw [← Array.getElem?_toList]; exact List.getElem?_eq_getElem hj)
    exact ⟨_, _, e⟩)
  have e : acc.toList.map strOf = signs x := by
    unfold signs
    apply List.ext_getElem?
    intro i
    rw [List.getElem?_map, List.getElem?_map, Array.getElem?_toList, Array.getElem?_toList]
    cases ha : acc[i]? with
    | none =>
      have : x.cps.size ≤ i := by
        have := Array.getElem?_eq_none_iff.mp ha
        rw [h.1] at this; exact this
      rw [Array.getElem?_eq_none this]; rfl
    | some v =>
      obtain ⟨c, u, hc, rfl⟩ := h.2 i v ha
      rw [hc]; rfl
  rw [e] at h1; exact h1
section
variable {prog : Program} {w : World} {A : Around} {E : Value → Shared → Prop} {s : Shared} {h₀ : Heap} {L : Addr} {m : Str → Option Value} {news : List (Addr × Obj)} {Q : Value → Shared → Prop}
theorem sorted_of_str {x : Str} {t : Tok} (hh : A.handled = none) (F : Fr h₀ L s.heap m) (N : News h₀ L s.heap news) (h64 : x.cps.size < 64)
    (h : ∀ (D : Addr) (h' : Heap) (tk : Nat) (vs' : List Value) (ss' : List Str) (e : Nat), Fr h₀ L h' m → News h₀ L h' ((D, seqObj "list" vs'.toArray e) :: news) → (∀ p ∈ news, @LT.lt Nat _ p.1 D) → StrsAre vs' ss' → ss'.Perm (signs x) → sortedS ss' = true → Q (.ref D) { s with heap := h', toks := tk }) :
    wpAny (model prog w) A (call (.builtin "sorted") [.str x t]) Q E s := by
  refine Calls.call_function_entry kind_sorted plain_sorted entry_sorted (args_sorted1 _) ?_
  unfold Builtin.«sorted»
  refine wpAny_bind (m := checkCount "sorted" 1 1 _) (wpAny_pure ?_)
  refine wpAny_bind (wpAny_collect_str (A := A.in1) hh x t (fun s' acc k g d o hacc => ?_) (Nat.le_trans (Nat.le_of_lt h64) (by decide)))
  obtain ⟨hp, gn, dr, tk, os⟩ := s'
  dsimp only at k g d o
  subst g d o
  have hS := signs_are hacc
  have hlen : acc.toList.length < 64 := by rw [Array.length_toList, hacc.1]; exact h64
  refine wpAny_bind (wpAny_newList ?_ (Nat.le_trans (Nat.le_of_lt hlen) (by decide)))
  have hoL : (hp.push (seqObj "list" acc.toList.toArray 0)).get? hp.objs.size = some (seqObj "list" acc.toList.toArray 0) := Heap.get?_push_size _ rfl
  refine wpAny_bind (wpAny_holding (wpAny_call_entry slot_list_sort ⟨_, hoL, rfl⟩ entry_list_sort (list_sort_treeK strKind_oneLt hoL hS.keysOf (fun v₁ v₂ rest e => keyKind_strs (by rw [← e]; exact hS)) hlen fun st' a1 a2 => ⟨_, rfl, ?_⟩) (args_list_sort _)))
  refine wpAny_pure ⟨_, rfl, ?_⟩
  obtain ⟨ss', h1, h2, h3⟩ := sorted_out_str hS a1 a2
  obtain ⟨e, he⟩ := sortedHeap_at (vs := acc.toList) (out := (arrOf st').map (·.2)) hoL
  have old : ∀ b o, s.heap.get? b = some o → (sortedHeap (hp.push (seqObj "list" acc.toList.toArray 0)) hp.objs.size acc.toList ((arrOf st').map (·.2))).get? b = some o := by
    intro b o hb
    have hlt : b < hp.objs.size := Heap.lt_size (k b o hb)
    rw [sortedHeap_old (Nat.ne_of_lt hlt) (by rw [size_push']; exact Nat.lt_succ_of_lt hlt), Heap.get?_push_ne _ _ _ (Nat.ne_of_lt hlt)]
    exact k b o hb
  have lt0 : ∀ b o, s.heap.get? b = some o → @LT.lt Nat _ b hp.objs.size := fun b o hb => Heap.lt_size (k b o hb)
  refine h _ _ _ ((arrOf st').map (·.2)).toList ss' e (F.kept old) (fun p hp' => ?_) (fun p hp' => lt0 _ _ (N p hp').1) h1 h2 h3
  rcases List.mem_cons.mp hp' with rfl | hp'
  · obtain ⟨oL, _, _, hL, _⟩ := F.ns
    refine ⟨by rw [Array.toArray_toList]; exact he, Nat.ne_of_gt (lt0 _ _ hL), ?_⟩
    cases hq : h₀.get? hp.objs.size with
    | none => rfl
    | some o' => exact absurd (lt0 _ _ (F.keep _ _ hq)) (Nat.lt_irrefl _)
  · exact ⟨old _ _ (N p hp').1, (N p hp').2⟩
end
end Mine
namespace Mine
noncomputable def flat2 (ps : List (Value × Value)) : List Value := ps.flatMap fun p => [p.1, p.2]
theorem flat2_len (ps : List (Value × Value)) : (flat2 ps).length = 2 * ps.length := by
  induction ps with
  | nil => rfl
  | cons p ps ih => show (p.1 :: p.2 :: flat2 ps).length = _; rw [List.length_cons, List.length_cons, ih, List.length_cons]; omega
theorem flat2_even : ∀ (ps : List (Value × Value)) (i : Nat), (flat2 ps)[2 * i]? = (ps.map (·.1))[i]?
  | [], i => rfl
  | p :: ps, 0 => rfl
  | p :: ps, i + 1 => by
    show (p.1 :: p.2 :: flat2 ps)[2 * i + 2]? = _
    rw [List.getElem?_cons_succ, List.getElem?_cons_succ, flat2_even ps i]; rfl
theorem flat2_odd : ∀ (ps : List (Value × Value)) (i : Nat), (flat2 ps)[2 * i + 1]? = (ps.map (·.2))[i]?
  | [], i => rfl
  | p :: ps, 0 => rfl
  | p :: ps, i + 1 => by
    show (p.1 :: p.2 :: flat2 ps)[2 * i + 1 + 2]? = _
    rw [List.getElem?_cons_succ, List.getElem?_cons_succ, flat2_odd ps i]; rfl
theorem range2 (a n : Nat) (ha : a ≤ 1) : sliceRange (a : Int) ((2 * n : Nat) : Int) 2 = (List.range n).map fun i => 2 * i + a := by
  unfold sliceRange
  dsimp only
  rw [if_pos (by decide)]
  have e : (if (a : Int) < ((2 * n : Nat) : Int) then (((2 * n : Nat) : Int) - (a : Int) + 2 - 1) / 2 else 0) = (n : Int) := by
    split <;> omega
  rw [e, Int.toNat_natCast]
  exact List.map_congr_left fun i _ => by omega
theorem map_getElem? {α : Type} (l : List α) : (List.range l.length).filterMap (fun i => l[i]?) = l := by
  induction l with
  | nil => rfl
  | cons x l ih =>
    rw [List.length_cons, List.range_succ_eq_map, List.filterMap_cons]
    show x :: _ = _
    rw [List.filterMap_map]
    exact congrArg (x :: ·) ih
theorem pick_even (ps : List (Value × Value)) : (slicePick (flat2 ps).toArray none none (some 2)).toList = ps.map (·.1) := by
  unfold slicePick
  have e : sliceBounds none none (some 2) (flat2 ps).toArray.size = (((0 : Nat) : Int), ((2 * ps.length : Nat) : Int), 2) := by
    rw [List.size_toArray, flat2_len]; rfl
  rw [e]
  dsimp only
  rw [range2 0 ps.length (by decide), List.filterMap_map]
  have h := map_getElem? (ps.map (·.1))
  rw [List.length_map] at h
  refine Eq.trans ?_ h
  refine congrArg (fun f => List.filterMap f _) (funext fun i => ?_)
  show (flat2 ps).toArray[2 * i + 0]? = _
  rw [List.getElem?_toArray, Nat.add_zero, flat2_even]
theorem pick_odd (ps : List (Value × Value)) (h1 : 1 ≤ ps.length) : (slicePick (flat2 ps).toArray (some 1) none (some 2)).toList = ps.map (·.2) := by
  unfold slicePick
  have e : sliceBounds (some 1) none (some 2) (flat2 ps).toArray.size = (((1 : Nat) : Int), ((2 * ps.length : Nat) : Int), 2) := by
    rw [List.size_toArray, flat2_len]
    unfold sliceBounds
    refine Prod.ext ?_ rfl
    show max 0 (min (1 : Int) ((2 * ps.length : Nat) : Int)) = 1
    omega
  rw [e]
  dsimp only
  rw [range2 1 ps.length (by decide), List.filterMap_map]
  have h := map_getElem? (ps.map (·.2))
  rw [List.length_map] at h
  refine Eq.trans ?_ h
  refine congrArg (fun f => List.filterMap f _) (funext fun i => ?_)
  show (flat2 ps).toArray[2 * i + 1]? = _
  rw [List.getElem?_toArray, flat2_odd]
end Mine
namespace Mine
theorem two_of (l : List Int) : ∃ a b : Int, (List.map (fun k' => if k' < 0 then -k' else k') (List.take 2 l) ++ List.drop (((List.take 2 l).length : Int)).toNat [1, 85]) = [a, b] ∧ 0 ≤ a ∧ 0 ≤ b := by
  have h : ∀ x : Int, 0 ≤ (if x < 0 then -x else x) := fun x => by split <;> omega
  match l with
  | [] => exact ⟨1, 85, rfl, by decide, by decide⟩
  | [x] => exact ⟨_, 85, rfl, h x, by decide⟩
  | x :: y :: r => exact ⟨_, _, rfl, h x, h y⟩
theorem ints_two {vs : List Value} {a b : Int} (h : IntsAre vs [a, b]) : ∃ t u : Tok, vs = [.int a t, .int b u] := by
  cases h with
  | cons _ t h => cases h with
    | cons _ u h => cases h; exact ⟨t, u, rfl⟩
theorem many_of {o : Obj} {a b : Int} {t : Tok} (d : o.data = .cell (some (.int (2 + ([a, b].getD (Int.toNat 0) 0).fmod 3) t))) : ∃ S : Nat, 2 ≤ S ∧ S ≤ 4 ∧ o.data = .cell (some (.int (S : Int) t)) := by
  have h0 := Int.fmod_nonneg_of_pos a (b := 3) (by decide)
  have h1 := Int.fmod_lt_of_pos a (b := 3) (by decide)
  refine ⟨(2 + a.fmod 3).toNat, by omega, by omega, ?_⟩
  rw [d]
  show Data.cell (some (.int (2 + a.fmod 3) t)) = _
  rw [show (((2 + a.fmod 3).toNat : Nat) : Int) = 2 + a.fmod 3 by omega]
theorem news_sub {h₀ h : Heap} {L : Addr} {l l' : List (Addr × Obj)} (N : News h₀ L h l) (s : ∀ p ∈ l', p ∈ l) : News h₀ L h l' := fun p hp => N p (s p hp)
theorem start_h {h₀ h : Heap} {L : Addr} {m : Str → Option Value} {q1 q2 q3 q4 q5 q6 c1 c2 c3 c4 c5 c6 c7 c8 c9 : Addr × Obj} (F : Fr h₀ L h m) (N : News h₀ L h [q1, q2, q3, q4, q5, q6, c9, c8, c7, c6, c5, c4, c3, c2, c1]) :
    ∃ bl, Fr h₀ L h bl ∧ News h₀ L h [q1, c1, c2, c3, c4, c5, c6, c7, c8, c9] := by
  refine ⟨m, F, news_sub N (by (repeat refine List.forall_mem_cons.mpr ⟨by k_mem, ?_⟩); first | exact List.forall_mem_nil _ | (intro p hp; repeat (first | exact hp | refine List.Mem.tail _ ?_)))⟩
/-- the weights by the script's second number -/
noncomputable def wts (b : Int) (S : Nat) : List Int := (List.range S).map fun (i : Nat) => 1 + (b.fdiv (9 ^ i)).fmod 9
theorem pow9_ne (n : Nat) : (9 : Int) ^ n ≠ 0 := by
  have : (0 : Int) < 9 ^ n := Int.pow_pos (by decide)
  omega
theorem wts_succ (b : Int) (i : Nat) : wts b (i + 1) = wts b i ++ [1 + (b.fdiv (9 ^ (0 + (i : Int) * 1).toNat)).fmod 9] := by
  unfold wts
  rw [List.range_succ, List.map_append]
  have e : (0 + (i : Int) * 1).toNat = i := by omega
  rw [e]; rfl
abbrev Row4 := (Int × Tok) × (Str × Tok)
noncomputable def sv (p : Str × Tok) : Value := .str p.1 p.2
noncomputable def rv (r : Row4) : List Value := [tv r.1, sv r.2]
/-- a row's weight and word -/
noncomputable def rk (r : Row4) : Int × Str := (r.1.1, r.2.1)
noncomputable def lett (i : Nat) : Str := Txt.item (Str.ofString "abcd") (0 + (i : Int) * 1)
noncomputable def startRows (b : Int) (n : Nat) : List (Int × Str) := (List.range n).map fun (i : Nat) => (1 + (b.fdiv (9 ^ i)).fmod 9, lett i)
theorem abcd_at {i : Nat} (h : i < 4) : fitsSsize (0 + (i : Int) * 1) = true ∧ -((Str.ofString "abcd").length : Int) ≤ 0 + (i : Int) * 1 ∧ 0 + (i : Int) * 1 < ((Str.ofString "abcd").length : Int) := by
  rcases (by omega : i = 0 ∨ i = 1 ∨ i = 2 ∨ i = 3) with rfl | rfl | rfl | rfl <;> decide
theorem wts_at {b : Int} {S i : Nat} (h : i < S) : 1 + (b.fdiv (9 ^ i)).fmod 9 = (wts b S).getD (0 + (i : Int) * 1).toNat 0 := by
  have e : (0 + (i : Int) * 1).toNat = i := by omega
  rw [e]
  unfold wts
  rw [List.getD_eq_getElem?_getD, List.getElem?_map, List.getElem?_range h]; rfl
theorem startRows_succ (b : Int) (i : Nat) : startRows b (i + 1) = startRows b i ++ [(1 + (b.fdiv (9 ^ i)).fmod 9, lett i)] := by
  unfold startRows
  rw [List.range_succ, List.map_append]; rfl
/-- a list of rows under way: its entries point to new objects ahead of the base, which read as the rows -/
noncomputable def RowsJ (base : List (Addr × Obj)) (st : List (Int × Str)) (ys : List Value) (nw : List (Addr × Obj)) : Prop :=
  ∃ (rs : List (Addr × List Value)) (tl' : List (Addr × Obj)) (ps : List Row4), ys = (rs.map fun r => Value.ref r.1) ∧ rs.map (·.2) = ps.map rv ∧ ps.map rk = st ∧ nw = tl' ++ base ∧ (∀ r ∈ rs, ∃ k, (r.1, listOf r.2.toArray k) ∈ tl') ∧ (∀ p ∈ tl', ∀ q ∈ base, @Ne Nat q.1 p.1)
theorem RowsJ.zero (base : List (Addr × Obj)) : RowsJ base [] [] base := ⟨[], [], [], rfl, rfl, rfl, rfl, (fun r hr => by cases hr), fun p hp => by cases hp⟩
theorem row_end {h₀ h' : Heap} {L I C D l7 : Addr} {m : Str → Option Value} {s₁ : Shared} {oI oC oD : Obj} {base nw rest : List (Addr × Obj)} {st st' : List (Int × Str)} {ys : List Value} {x : Int} {tx ts : Tok} {sx : Str} {k tk : Nat}
    (F : Fr h₀ L h' m) (N : News h₀ L h' ((l7, listOf #[.int x tx, .str sx ts] k) :: (I, oI) :: (C, oC) :: (D, oD) :: rest)) (sub : ∀ p ∈ nw, p ∈ rest)
    (hI : @LT.lt Nat _ I l7) (hC : @LT.lt Nat _ C l7) (hD : @LT.lt Nat _ D l7) (hlt : AllLt l7 (base ++ nw)) (off : LCg.Off3 I C D nw) (hJ : RowsJ base st ys nw) (e : st' = st ++ [(x, sx)]) :
    LCg.CompEnd h₀ L m s₁ I oI C oC D oD (fun _ => True) (fun y nw => RowsJ base st' (ys ++ [y]) nw) (.ref l7) { s₁ with heap := h', toks := tk } := by
  subst e
  obtain ⟨rs, tl', ps, rfl, hmap, rfl, rfl, hmem, hne⟩ := hJ
  refine LCg.CompEnd.intro F N ((l7, listOf #[.int x tx, .str sx ts] k) :: (tl' ++ base)) ?_ ⟨⟨Nat.ne_of_gt hI, Nat.ne_of_gt hC, Nat.ne_of_gt hD⟩, off⟩ trivial
    ⟨rs ++ [(l7, rv ((x, tx), (sx, ts)))], (l7, listOf #[.int x tx, .str sx ts] k) :: tl', ps ++ [((x, tx), (sx, ts))], ?_, ?_, ?_, rfl, ?_, ?_⟩
  · intro p hp
    rcases List.mem_cons.mp hp with rfl | hp
    · exact .tail _ (.head _)
    rcases List.mem_cons.mp hp with rfl | hp
    · exact .tail _ (.tail _ (.head _))
    rcases List.mem_cons.mp hp with rfl | hp
    · exact .tail _ (.tail _ (.tail _ (.head _)))
    rcases List.mem_cons.mp hp with rfl | hp
    · exact .head _
    · exact .tail _ (.tail _ (.tail _ (.tail _ (sub p hp))))
  · rw [List.map_append]; rfl
  · rw [List.map_append, List.map_append, hmap]; rfl
  · rw [List.map_append]; rfl
  · intro r hr
    rcases List.mem_append.mp hr with hr | hr
    · obtain ⟨k, hk⟩ := hmem r hr
      exact ⟨k, .tail _ hk⟩
    · rw [List.mem_singleton.mp hr]; exact ⟨_, .head _⟩
  · intro p hp
    rcases List.mem_cons.mp hp with rfl | hp
    · exact fun q hq => Nat.ne_of_lt (kst_ltOf hlt q (List.mem_append_left _ hq))
    · exact hne p hp
theorem base_first {h₀ h : Heap} {L : Addr} {d : Addr × Obj} {tl base : List (Addr × Obj)} (N : News h₀ L h (d :: (tl ++ base))) : News h₀ L h (d :: (base ++ tl)) := news_sub N fun p hp => by
  rcases List.mem_cons.mp hp with rfl | hp
  · exact .head _
  · rcases List.mem_append.mp hp with hp | hp
    · exact .tail _ (List.mem_append_right _ hp)
    · exact .tail _ (List.mem_append_left _ hp)
theorem rep_one (v : Value) : ∀ (n : Nat) (acc : Array Value), (List.foldl (fun x1 x2 => x1 ++ x2) acc (List.replicate n #[v])) = acc ++ (List.replicate n v).toArray
  | 0, acc => by rw [List.replicate_zero, List.replicate_zero]; simp
  | n + 1, acc => by
    rw [List.replicate_succ, List.foldl_cons, rep_one v n, List.replicate_succ]
    apply Array.toList_inj.mp
    simp
theorem ints_rep (x : Int) (t : Tok) : ∀ n : Nat, IntsAre (List.replicate n (Value.int x t)) (List.replicate n x)
  | 0 => .nil
  | n + 1 => .cons x t (ints_rep x t n)
/-- one number in a list, repeated -/
theorem mul_one_led {prog : Program} {w : World} {A : Around} {E : Value → Shared → Prop} {s : Shared} {h₀ : Heap} {L l : Addr} {m : Str → Option Value} {news : List (Addr × Obj)} {y : Int} {ty : Tok} {k n : Nat} {u : Tok} {Q : Value → Shared → Prop}
    (F : Fr h₀ L s.heap m) (N : News h₀ L s.heap news) (hm : (l, listOf #[.int y ty] k) ∈ news) (hn : n ≤ 1000)
    (h : ∀ (D : Addr) (ws : List Value) (k' : Nat) (h' : Heap), Fr h₀ L h' m → News h₀ L h' ((D, listOf ws.toArray k') :: news) → (∀ p ∈ news, p.1 < D) → IntsAre ws (List.replicate n y) → Q (.ref D) { s with heap := h' }) :
    wpAny (model prog w) A (binaryOp .Mult (.ref l) (.int (n : Int) u)) Q E s := by
  refine mul_list F N (N.get hm) (by omega) (by omega) (by show 1 * (n : Int).toNat ≤ 2 ^ 24; omega) fun h' F' N' => ?_
  have e : (List.foldl (fun x1 x2 => x1 ++ x2) #[] (List.replicate (if (#[Value.int y ty] : Array Value).isEmpty = true then 0 else (n : Int).toNat) #[Value.int y ty])) = (List.replicate n (Value.int y ty)).toArray := by
    rw [if_neg (by simp), Int.toNat_natCast, rep_one]; simp
  rw [e] at N'
  exact h _ _ _ h' F' N' (fun p hp => Heap.lt_size (N p hp).1) (ints_rep y ty n)
theorem off1_base {D : Addr} : ∀ {tl base : List (Addr × Obj)}, LCg.Off1 D (tl ++ base) → LCg.Off1 D base
  | [], _, h => h
  | _ :: _, _, h => off1_base h.2
end Mine
namespace Mine
noncomputable def rkey (r : Row4) : Int := r.1.1
noncomputable def pv (r : Row4) : Value × Value := (tv r.1, sv r.2)
theorem flat_rv (ps : List Row4) : (ps.map rv).flatten = flat2 (ps.map pv) := by
  induction ps with
  | nil => rfl
  | cons p ps ih => rw [List.map_cons, List.flatten_cons, ih]; rfl
theorem items_flat (ps : List Row4) : (sortRows false lstKey (ps.map rv)).flatten = flat2 ((sortRows false rkey ps).map pv) := by
  have h : (sortRows false rkey ps).map rv = sortRows false lstKey (ps.map rv) := sortRows_map (f := rv) (k1 := rkey) (k2 := lstKey) (fun _ => rfl) ps []
  rw [← h, flat_rv]
theorem heads_eq (qs : List Row4) : (qs.map pv).map (·.1) = (qs.map (·.1)).map tv := by rw [List.map_map, List.map_map]; rfl
theorem words_eq (qs : List Row4) : (qs.map pv).map (·.2) = (qs.map (·.2)).map sv := by rw [List.map_map, List.map_map]; rfl
/-- the while's start: what is kept of the ledger, with names for the cells -/
theorem loop_start {h₀ h : Heap} {L Dr Dl Dw A2 A3 A4 A5 A6 A7 A8 A9 : Addr} {m : Str → Option Value} {q1 q2 z1 z2 c1 : Addr × Obj} {tl : List (Addr × Obj)} {or ol ow o2 o3 o4 o5 o6 o7 o8 o9 : Obj}
    (F : Fr h₀ L h m) (N : News h₀ L h (q1 :: q2 :: (Dl, ol) :: z1 :: (Dr, or) :: (Dw, ow) :: z2 :: c1 :: (A2, o2) :: (A3, o3) :: (A4, o4) :: (A5, o5) :: (A6, o6) :: (A7, o7) :: (A8, o8) :: (A9, o9) :: tl)) :
    ∃ (Dr' Dl' Dw' : Addr) (p2 p3 p4 p5 p6 p7 p8 p9 : Obj), Dr' = Dr ∧ Dl' = Dl ∧ Dw' = Dw ∧ p2 = o2 ∧ p3 = o3 ∧ p4 = o4 ∧ p5 = o5 ∧ p6 = o6 ∧ p7 = o7 ∧ p8 = o8 ∧ p9 = o9 ∧ Fr h₀ L h m ∧ News h₀ L h ((Dr', or) :: (Dl', ol) :: (Dw', ow) :: (A2, p2) :: (A3, p3) :: (A4, p4) :: (A5, p5) :: (A6, p6) :: (A7, p7) :: (A8, p8) :: (A9, p9) :: tl) := by
  refine ⟨Dr, Dl, Dw, o2, o3, o4, o5, o6, o7, o8, o9, rfl, rfl, rfl, rfl, rfl, rfl, rfl, rfl, rfl, rfl, rfl, F, news_sub N (by (repeat refine List.forall_mem_cons.mpr ⟨by k_mem, ?_⟩); first | exact List.forall_mem_nil _ | (intro p hp; repeat (first | exact hp | refine List.Mem.tail _ ?_)))⟩
noncomputable def Apart (tl : List (Addr × Obj)) (as : List Addr) : Prop := ∀ p ∈ tl, ∀ a ∈ as, @Ne Nat a p.1
theorem rv_len {ps : List Row4} : ∀ c ∈ ps.map rv, c.length = 2 := fun c hc => by
  obtain ⟨p, _, rfl⟩ := List.mem_map.mp hc; rfl
theorem rv_int {ps : List Row4} : ∀ c ∈ ps.map rv, ∃ x t e, c = Value.int x t :: e := fun c hc => by
  obtain ⟨p, _, rfl⟩ := List.mem_map.mp hc; exact ⟨_, _, _, rfl⟩
theorem flat_small2 {qs : List Row4} (h : qs.length ≤ 4) : (flat2 (qs.map pv)).toArray.size ≤ sizeLine := by
  rw [List.size_toArray, flat2_len, List.length_map]; exact Nat.le_trans (by omega : 2 * qs.length ≤ 8) (by decide)
theorem sortRows_len {α : Type} (d : Bool) (key : α → Int) (rs : List α) : (sortRows d key rs).length = rs.length := by
  have h := sortRows_length d key rs []
  rw [List.length_nil, Nat.zero_add] at h; exact h
theorem drop_items {h₀ h : Heap} {L : Addr} {d e i a1 a2 a3 a4 a5 a6 a7 a8 r l w c2 c3 c4 c5 c6 c7 c8 c9 : Addr × Obj} {tl : List (Addr × Obj)}
    (N : News h₀ L h (d :: e :: i :: a1 :: a2 :: a3 :: a4 :: a5 :: a6 :: a7 :: a8 :: r :: l :: w :: c2 :: c3 :: c4 :: c5 :: c6 :: c7 :: c8 :: c9 :: tl)) :
    News h₀ L h [d, e, r, l, w, c2, c3, c4, c5, c6, c7, c8, c9] := news_sub N (by (repeat refine List.forall_mem_cons.mpr ⟨by k_mem, ?_⟩); first | exact List.forall_mem_nil _ | (intro p hp; repeat (first | exact hp | refine List.Mem.tail _ ?_)))
end Mine
namespace Mine
theorem strs_sv : ∀ ws : List (Str × Tok), StrsAre (ws.map sv) (ws.map (·.1))
  | [] => .nil
  | w :: ws => .cons w.1 w.2 (strs_sv ws)
section
variable {prog : Program} {w : World} {A : Around} {E : Value → Shared → Prop} {s : Shared} {h₀ : Heap} {L l : Addr} {m : Str → Option Value} {news : List (Addr × Obj)} {k : Nat}
theorem sorted_asc {vs : List Value} {ns : List Int} {Q : Value → Shared → Prop} (F : Fr h₀ L s.heap m) (N : News h₀ L s.heap news) (hm : (l, listOf vs.toArray k) ∈ news) (hi : IntsAre vs ns) (ha : ns.Pairwise (· ≤ ·)) (h64 : ns.length < 64)
    (h : ∀ (D : Addr) (vs' : List Value) (c : Nat) (h' : Heap), Fr h₀ L h' m → News h₀ L h' ((D, listOf vs'.toArray c) :: news) → (∀ q ∈ news, q.1 < D) → IntsAre vs' ns → Q (.ref D) { s with heap := h' }) :
    wpAny (model prog w) A (call (.builtin "sorted") [.ref l]) Q E s := by
  refine kso_sorted F N ⟨_, (N _ hm).1, rfl, k, rfl⟩ hi h64 fun D vs' ns' c h' F' N' l1 hi' _ hp hs _ => ?_
  have e : ns' = ns := List.Perm.eq_of_pairwise (fun x y _ _ h1 h2 => Int.le_antisymm h1 h2) hs ha hp
  subst e
  exact h D vs' c h' F' N' l1 hi'
theorem join_words {ws : List (Str × Tok)} {t : Tok} {Q : Value → Shared → Prop} (N : News h₀ L s.heap news) (hm : (l, listOf (ws.map sv).toArray k) ∈ news) (hw : ((ws.map (·.1)).map (·.length)).sum + (ws.map (·.1)).length ≤ 1048576)
    (h : ∀ t' k, Q (.str (Txt.join (Str.ofString "") (ws.map (·.1))) t') { s with toks := k }) : wpAny (model prog w) A (call (.builtin "str.join") [.str (Str.ofString "") t, .ref l]) Q E s :=
  join_listW ⟨_, (N _ hm).1, rfl, k, rfl⟩ (strs_sv ws) (by decide) hw h
end
end Mine
namespace Mine
open PyProof.V PySem.Spec
theorem ks_sameAll : ∀ ns : List Str, PySem.Spec.sameAll (ns.map PyData.str) (ns.map PyData.str) = true
  | [] => by simp [PySem.Spec.sameAll]
  | a :: r => by simp [PySem.Spec.sameAll, PySem.Spec.same, ks_sameAll r]
theorem ks_same (ns : List Str) : PySem.Spec.same (.list (ns.map PyData.str)) (.list (ns.map PyData.str)) = true := by
  simp only [PySem.Spec.same]; exact ks_sameAll ns
theorem ks_carried : ∀ {vs : List Value} {ns : List Str}, StrsAre vs ns → CarriedAll vs (ns.map PyData.str)
  | _, _, .nil => .nil
  | _, _, .cons _ t r => .cons (.str _ t) (ks_carried r)
section
variable {prog : Program} {w : World} {A : Around} {E : Value → Shared → Prop} {s : Shared} {a b : Addr} {xs ys : List Value} {ss : List Str} {Q : Value → Shared → Prop}
theorem ne_strs_same (ha : s.heap.IsList a xs.toArray) (hb : s.heap.IsList b ys.toArray) (hi : StrsAre xs ss) (hj : CarriedAll ys (ss.map PyData.str)) (hsh : SeqAt.shaped (.list (ss.map PyData.str)) = true) (hu : A.units + 64 < cLine) (h : Q (.bool false) s) :
    wpAny (model prog w) A (compareOp .NotEq (.ref a) (.ref b)) Q E s :=
  ne_dataH_same (reads_newData ha (ks_carried hi)) (reads_newData hb hj) hsh hsh hu (SeqAt.noMix_of_shape (.list .str) rfl _ _ (list_map_has fun _ => rfl) (list_map_has fun _ => rfl)) (by rw [ks_same]; exact h)
end
noncomputable def one (n : Nat) : Str := ⟨#[n]⟩
theorem lt_one (a b : Nat) : ltCps (one a).cps.toList (one b).cps.toList = decide (a < b) := by
  rw [ltCps_eq]
  show decide ([a] < [b]) = decide (a < b)
  have e : [a] < [b] ↔ a < b := by
    constructor
    · intro h
      rcases List.cons_lt_cons_iff.mp h with h | ⟨_, h⟩
      · exact h
      · exact absurd h (List.not_lt_nil _)
    · intro h
      exact List.cons_lt_cons_iff.mpr (.inl h)
  exact decide_eq_decide.mpr e
theorem rising_one : ∀ (l : List Nat) (p : Nat), risingS (one p) (l.map one) = true → (∀ x ∈ l, p ≤ x) ∧ l.Pairwise (· ≤ ·)
  | [], _, _ => ⟨(fun x hx => by cases hx), List.Pairwise.nil⟩
  | y :: l, p, h => by
    have h' : (!ltCps (one y).cps.toList (one p).cps.toList && risingS (one y) (l.map one)) = true := h
    rw [lt_one, Bool.and_eq_true] at h'
    obtain ⟨h1, h2⟩ := h'
    have hy : p ≤ y := by simpa using h1
    obtain ⟨g1, g2⟩ := rising_one l y h2
    refine ⟨fun x hx => ?_, List.pairwise_cons.mpr ⟨g1, g2⟩⟩
    rcases List.mem_cons.mp hx with rfl | hx
    · exact hy
    · exact Nat.le_trans hy (g1 x hx)
theorem sorted_one {l : List Nat} (h : sortedS (l.map one) = true) : l.Pairwise (· ≤ ·) := by
  cases l with
  | nil => exact List.Pairwise.nil
  | cons x l => exact List.pairwise_cons.mpr (rising_one l x h)
/-- the sorted letters of a word are known by the word's letters -/
theorem letters_of {x : Str} {ss : List Str} {cs : List Nat} (hp : ss.Perm (signs x)) (ho : sortedS ss = true) (hx : x.cps.toList.Perm cs) (hc : cs.Pairwise (· ≤ ·)) : ss = cs.map one := by
  have hp' : ss.Perm (x.cps.toList.map one) := hp
  obtain ⟨l, hl⟩ : ∃ l : List Nat, ss = l.map one := by
    refine ⟨ss.map fun s => s.cps.toList.headD 0, ?_⟩
    rw [List.map_map]
    conv => lhs; rw [← List.map_id ss]
    refine List.map_congr_left fun s hs => ?_
    obtain ⟨n, _, rfl⟩ := List.mem_map.mp (hp'.mem_iff.mp hs)
    rfl
  subst hl
  have h1 := sorted_one ho
  have h2 : l.Perm x.cps.toList := by
    have := hp'.map (fun s : Str => s.cps.toList.headD 0)
    rw [List.map_map, List.map_map] at this
    have e : ∀ q : List Nat, q.map ((fun s : Str => s.cps.toList.headD 0) ∘ one) = q := fun q => by
      conv => rhs; rw [← List.map_id q]
      rfl
    rw [e, e] at this; exact this
  rw [List.Perm.eq_of_pairwise (fun a b _ _ h1 h2 => Nat.le_antisymm h1 h2) h1 hc (h2.trans hx)]
noncomputable def lets (S : Nat) : List Nat := (List.range S).map (97 + ·)
theorem lets_asc {S : Nat} (h : S ≤ 4) : (lets S).Pairwise (· ≤ ·) := by
  rcases (by omega : S = 0 ∨ S = 1 ∨ S = 2 ∨ S = 3 ∨ S = 4) with rfl | rfl | rfl | rfl | rfl <;> decide
theorem lets_slice {S : Nat} (h : S ≤ 4) : signs (Txt.slice (Str.ofString "abcd") none (some (S : Int))) = (lets S).map one := by
  rcases (by omega : S = 0 ∨ S = 1 ∨ S = 2 ∨ S = 3 ∨ S = 4) with rfl | rfl | rfl | rfl | rfl <;> decide
theorem lets_shaped {S : Nat} (h : S ≤ 4) : SeqAt.shaped (.list (((lets S).map one).map PyData.str)) = true := by
  rcases (by omega : S = 0 ∨ S = 1 ∨ S = 2 ∨ S = 3 ∨ S = 4) with rfl | rfl | rfl | rfl | rfl <;> simp [SeqAt.shaped, lets, one, List.range_succ, PyData.canLay0, PyData.canLayAll0, PyData.depth, PyData.depthAll, PyData.strOk] <;> decide
end Mine
namespace Mine
section
variable {prog : Program} {w : World} {A : Around} {E : Value → Shared → Prop} {s : Shared} {h₀ : Heap} {env : Env} {x : Str} {body : List Stmt} {Q : Flow → Shared → Prop}
/-- a loop over a str's letters by what holds of the letters left, the frame and the ledger -/
theorem strU_ind {I : Addr} (J : List Str → (Str → Option Value) → List (Addr × Obj) → Prop)
    (turn : ∀ c r m news u it h tk, J (c :: r) m news → Fr h₀ env.locals h (fun y => if y = x then some (.str c u) else m y) → News h₀ env.locals h ((I, it) :: news) →
      wpAny (model prog w) A (execs body env) (UnrPost h₀ env.locals { s with heap := h, toks := tk } I it (J r) Q) E { s with heap := h, toks := tk })
    (done : ∀ m news h tk, J [] m news → Fr h₀ env.locals h m → News h₀ env.locals h news → Q .next { s with heap := h, toks := tk }) :
    ∀ l m news, J l m news → StrRest prog w A E h₀ env x body Q s I l m news
  | [], m, news, hj => StrRest.zero fun h tk F N => done m news h tk hj F N
  | c :: r, m, news, hj => by
    refine StrRest.succ fun u it h tk F N => ?_
    refine wpAny_mono (turn c r m news u it h tk hj F N) (fun f s₂ q => ?_) fun _ _ e => e
    have up : UnrEnd h₀ env.locals { s with heap := h, toks := tk } I it (J r) s₂ → UnrEnd h₀ env.locals { s with heap := h, toks := tk } I it (StrRest prog w A E h₀ env x body Q s I r) s₂ := by
      rintro ⟨h', tk', m', news', e', F', N', off, j⟩
      exact ⟨h', tk', m', news', e', F', N', off, strU_ind J turn done r m' news' j⟩
    cases f with
    | ret v => exact q
    | brk => exact q
    | next => exact up q
    | cont => exact up q
end
end Mine
namespace Mine
/-! Huffman's merging by its numbers alone: what is asked is so of every two to four weights of one to nine. -/
abbrev NR := Nat × List Nat
noncomputable def nkey (r : NR) : Int := (r.1 : Int)
noncomputable def bump (lz : List Nat) (x : Nat) : List Nat := lz.set (x - 97) (lz.getD (x - 97) 0 + 1)
noncomputable def dot : List Nat → List Nat → Nat
  | x :: xs, y :: ys => x * y + dot xs ys
  | _, _ => 0
noncomputable def ascN : List Nat → Bool
  | x :: y :: r => Nat.ble x y && ascN (y :: r)
  | _ => true
noncomputable def kraft (S : Nat) (o : List Nat) : Nat := (o.map fun l => 2 ^ (S - l)).sum
noncomputable def vecs (k : Nat) : Nat → List (List Nat)
  | 0 => [[]]
  | S + 1 => (List.range k).flatMap fun x => (vecs k S).map fun r => (x + 1) :: r
noncomputable def okV (S : Nat) : List (List Nat) := (vecs (S - 1) S).filter fun o => Nat.ble (kraft S o) (2 ^ S)
noncomputable def okL : Nat → List (List Nat)
  | 2 => [[1, 1]]
  | 3 => [[1, 2, 2], [2, 1, 2], [2, 2, 1]]
  | 4 => [[1, 2, 3, 3], [1, 3, 2, 3], [1, 3, 3, 2], [2, 1, 3, 3], [2, 2, 2, 2], [2, 3, 1, 3], [2, 3, 3, 1], [3, 1, 2, 3], [3, 1, 3, 2], [3, 2, 1, 3], [3, 2, 3, 1], [3, 3, 1, 2], [3, 3, 2, 1]]
  | _ => []
noncomputable def below : List Nat → List Nat → Bool
  | x :: xs, y :: ys => Nat.ble x y && below xs ys
  | [], [] => true
  | _, _ => false
noncomputable def goodEnd (S : Nat) (ws lz : List Nat) (c : Nat) : Bool :=
  Nat.beq c (dot ws lz) && lz.all (fun l => Nat.ble l S) && Nat.beq (kraft S lz) (2 ^ S) && (okL S).all fun o => Nat.ble c (dot ws o)
noncomputable def goodFrom (S : Nat) (ws : List Nat) : Nat → List NR → List Nat → Nat → Nat → Bool
  | 0, _, lz, c, _ => Nat.beq lz.length S && goodEnd S ws lz c
  | n + 1, rows, lz, c, a =>
    match sortRows false nkey rows with
    | r0 :: r1 :: rest =>
      Nat.beq ((r0 :: r1 :: rest).map (·.1)).sum ws.sum && ascN ((r0 :: r1 :: rest).map (·.1)) && Nat.ble a (r0.1 + r1.1) && ((r0 :: r1 :: rest).flatMap (·.2)).isPerm (lets S) && Nat.beq lz.length S
        && goodFrom S ws n (rest ++ [(r0.1 + r1.1, r0.2 ++ r1.2)]) ((r0.2 ++ r1.2).foldl bump lz) (c + (r0.1 + r1.1)) (r0.1 + r1.1)
    | _ => false
noncomputable def startN : Nat → List Nat → List NR
  | k, x :: r => (x, [k]) :: startN (k + 1) r
  | _, [] => []
noncomputable def goodW (S : Nat) (ws : List Nat) : Bool := goodFrom S ws (S - 1) (startN 97 ws) (List.replicate S 0) 0 0
theorem ok2 : ((okV 2).all fun o => (okL 2).any fun t => below t o) = true := by decide +kernel
theorem ok3 : ((okV 3).all fun o => (okL 3).any fun t => below t o) = true := by decide +kernel
theorem ok4 : ((okV 4).all fun o => (okL 4).any fun t => below t o) = true := by decide +kernel
theorem g2 : (vecs 9 2).all (goodW 2) = true := by decide +kernel
theorem g3 : (vecs 9 3).all (goodW 3) = true := by decide +kernel

end Mine
namespace Mine
noncomputable def toRk (r : NR) : Int × Str := ((r.1 : Int), ⟨r.2.toArray⟩)
noncomputable def inZ (l : List Nat) : List Int := List.map (fun x : Nat => (x : Int)) l
theorem ints_sum (l : List Nat) : (inZ l).sum = ((l.sum : Nat) : Int) := by
  induction l with
  | nil => rfl
  | cons x l ih => show (x : Int) + (inZ l).sum = _; rw [ih, List.sum_cons]; omega
theorem vecs_mem : ∀ (l : List Nat) (k S : Nat), l.length = S → (∀ x ∈ l, 1 ≤ x ∧ x ≤ k) → l ∈ vecs k S
  | [], k, S, h, _ => by
    have : S = 0 := h.symm
    subst this; exact .head _
  | x :: l, k, S, h, hx => by
    obtain ⟨S', rfl⟩ : ∃ S', S = S' + 1 := ⟨l.length, h.symm⟩
    have h1 := hx x (.head _)
    refine List.mem_flatMap.mpr ⟨x - 1, List.mem_range.mpr (by omega), List.mem_map.mpr ⟨l, vecs_mem l k S' (by simpa using h) (fun y hy => hx y (.tail _ hy)), ?_⟩⟩
    rw [show x - 1 + 1 = x by omega]
theorem hasc_of : ∀ {l : List Nat}, ascN l = true → (inZ l).Pairwise (· ≤ ·)
  | [], _ => List.Pairwise.nil
  | [x], _ => List.pairwise_cons.mpr ⟨(fun y hy => by cases hy), List.Pairwise.nil⟩
  | x :: y :: r, h => by
    have h' : (Nat.ble x y && ascN (y :: r)) = true := h
    rw [Bool.and_eq_true] at h'
    have h1 := Nat.le_of_ble_eq_true h'.1
    have h2 := hasc_of h'.2
    refine List.pairwise_cons.mpr ⟨fun z hz => ?_, h2⟩
    have h3 : (inZ (y :: r)).Pairwise (· ≤ ·) := h2
    rcases List.mem_cons.mp (show z ∈ (y : Int) :: inZ r from hz) with rfl | hz
    · exact Int.ofNat_le.mpr h1
    · exact Int.le_trans (Int.ofNat_le.mpr h1) ((List.pairwise_cons.mp h3).1 z hz)
theorem rows_split {ps : List Row4} {r0 r1 : NR} {rest : List NR} (h : ps.map rk = (r0 :: r1 :: rest).map toRk) : ∃ q0 q1 qr, ps = q0 :: q1 :: qr ∧ rk q0 = toRk r0 ∧ rk q1 = toRk r1 ∧ qr.map rk = rest.map toRk := by
  match ps, h with
  | [], h => exact absurd (congrArg List.length h) (by simp)
  | [_], h => exact absurd (congrArg List.length h) (by simp)
  | q0 :: q1 :: qr, h =>
    rw [List.map_cons, List.map_cons, List.map_cons, List.map_cons] at h
    obtain ⟨h1, h⟩ := List.cons.inj h
    obtain ⟨h2, h3⟩ := List.cons.inj h
    exact ⟨q0, q1, qr, rfl, h1, h2, h3⟩
theorem sort_rk {ps : List Row4} {nr : List NR} (h : ps.map rk = nr.map toRk) : (sortRows false rkey ps).map rk = (sortRows false nkey nr).map toRk := by
  have h1 : (sortRows false rkey ps).map rk = sortRows false (fun p : Int × Str => p.1) (ps.map rk) := sortRows_map (f := rk) (k1 := rkey) (k2 := fun p : Int × Str => p.1) (fun _ => rfl) ps []
  have h2 : (sortRows false nkey nr).map toRk = sortRows false (fun p : Int × Str => p.1) (nr.map toRk) := sortRows_map (f := toRk) (k1 := nkey) (k2 := fun p : Int × Str => p.1) (fun _ => rfl) nr []
  rw [h1, h2, h]
theorem firsts {qs : List Row4} {nr : List NR} (h : qs.map rk = nr.map toRk) : (qs.map (·.1)).map (·.1) = inZ (nr.map (·.1)) := by
  have := congrArg (List.map (fun p : Int × Str => p.1)) h
  rw [List.map_map, List.map_map] at this
  rw [List.map_map]; unfold inZ; rw [List.map_map]; exact this
theorem seconds {qs : List Row4} {nr : List NR} (h : qs.map rk = nr.map toRk) : (qs.map (·.2)).map (·.1) = nr.map fun r => (⟨r.2.toArray⟩ : Str) := by
  have := congrArg (List.map (fun p : Int × Str => p.2)) h
  rw [List.map_map, List.map_map] at this
  rw [List.map_map]; exact this
/-- the facts of a turn -/
structure Turn1 (S : Nat) (wsN : List Nat) (n : Nat) (ps : List Row4) (nr : List NR) (lzN : List Nat) (cN aN : Nat) (q0 q1 : Row4) (qr : List Row4) (r0 r1 : NR) (rest : List NR) : Prop where
  sort : sortRows false rkey ps = q0 :: q1 :: qr
  e0 : rk q0 = toRk r0
  e1 : rk q1 = toRk r1
  er : qr.map rk = rest.map toRk
  len : rest.length + 2 = nr.length
  sum : (((q0 :: q1 :: qr).map (·.1)).map (·.1)).sum = (inZ wsN).sum
  asc : (((q0 :: q1 :: qr).map (·.1)).map (·.1)).Pairwise (· ≤ ·)
  ahead : aN ≤ r0.1 + r1.1
  perm : ((r0 :: r1 :: rest).flatMap (·.2)).Perm (lets S)
  lz : lzN.length = S
  on : goodFrom S wsN n (rest ++ [(r0.1 + r1.1, r0.2 ++ r1.2)]) ((r0.2 ++ r1.2).foldl bump lzN) (cN + (r0.1 + r1.1)) (r0.1 + r1.1) = true
theorem hturn_facts {S : Nat} {wsN : List Nat} {n : Nat} {ps : List Row4} {nr : List NR} {lzN : List Nat} {cN aN : Nat} (h : ps.map rk = nr.map toRk) (g : goodFrom S wsN (n + 1) nr lzN cN aN = true) :
    ∃ q0 q1 qr r0 r1 rest, Turn1 S wsN n ps nr lzN cN aN q0 q1 qr r0 r1 rest := by
  have hs := sort_rk h
  unfold goodFrom at g
  split at g
  case h_2 => cases g
  case h_1 r0 r1 rest e =>
    rw [e] at hs
    obtain ⟨q0, q1, qr, eq, e0, e1, er⟩ := rows_split hs
    have hl := sortRows_len false nkey nr
    rw [e] at hl
    simp only [Bool.and_eq_true] at g
    obtain ⟨⟨⟨⟨⟨g1, g2⟩, g3⟩, g4⟩, g5⟩, g6⟩ := g
    refine ⟨q0, q1, qr, r0, r1, rest, eq, e0, e1, er, hl, ?_, ?_, Nat.le_of_ble_eq_true g3, List.isPerm_iff.mp g4, Nat.eq_of_beq_eq_true g5, g6⟩
    · rw [← eq, firsts hs, ints_sum, ints_sum, Nat.eq_of_beq_eq_true g1]
    · rw [← eq, firsts hs]; exact hasc_of g2
end Mine
namespace Mine
/-! The order of the weights does not matter: a neighbours' exchange of unlike weights is a change of letters alone. So the weights in rising order are enough. -/
noncomputable def insN (r : NR) : List NR → List NR
  | [] => [r]
  | z :: l => if r.1 < z.1 then r :: z :: l else z :: insN r l
theorem ins_lt {r z : NR} (h : r.1 < z.1) : ∀ l : List NR, insN r (l ++ [z]) = insN r l ++ [z]
  | [] => by show (if r.1 < z.1 then _ else _) = _; rw [if_pos h]; rfl
  | y :: l => by
    show (if r.1 < y.1 then r :: y :: (l ++ [z]) else y :: insN r (l ++ [z])) = (if r.1 < y.1 then r :: y :: l else y :: insN r l) ++ [z]
    by_cases hy : r.1 < y.1
    · rw [if_pos hy, if_pos hy]; rfl
    · rw [if_neg hy, if_neg hy, ins_lt h l]; rfl
theorem ins_ge {r z : NR} (h : ¬ r.1 < z.1) : ∀ l : List NR, (∀ y ∈ l, y.1 ≤ z.1) → insN r (l ++ [z]) = l ++ [z] ++ [r]
  | [], _ => by show (if r.1 < z.1 then _ else _) = _; rw [if_neg h]; rfl
  | y :: l, hl => by
    show (if r.1 < y.1 then r :: y :: (l ++ [z]) else y :: insN r (l ++ [z])) = _
    have := hl y (.head _)
    rw [if_neg (by omega), ins_ge h l fun y hy => hl y (.tail _ hy)]; rfl
theorem ins_mem {r y : NR} : ∀ {l : List NR}, y ∈ insN r l → y = r ∨ y ∈ l
  | [], h => .inl (List.mem_singleton.mp h)
  | z :: l, h => by
    have h' : y ∈ (if r.1 < z.1 then r :: z :: l else z :: insN r l) := h
    by_cases hz : r.1 < z.1
    · rw [if_pos hz] at h'
      exact List.mem_cons.mp h'
    · rw [if_neg hz] at h'
      rcases List.mem_cons.mp h' with rfl | h'
      · exact .inr (.head _)
      · exact (ins_mem h').imp id fun h => .tail _ h
abbrev AscN (l : List NR) : Prop := l.Pairwise fun a b => a.1 ≤ b.1
theorem ins_ascN {r : NR} : ∀ {l : List NR}, AscN l → AscN (insN r l)
  | [], _ => List.pairwise_singleton _ _
  | z :: l, h => by
    show AscN (if r.1 < z.1 then r :: z :: l else z :: insN r l)
    have h1 := List.pairwise_cons.mp h
    by_cases hz : r.1 < z.1
    · rw [if_pos hz]
      refine List.pairwise_cons.mpr ⟨fun y hy => ?_, h⟩
      rcases List.mem_cons.mp hy with rfl | hy
      · omega
      · have := h1.1 y hy; omega
    · rw [if_neg hz]
      refine List.pairwise_cons.mpr ⟨fun y hy => ?_, ins_ascN h1.2⟩
      rcases ins_mem hy with rfl | hy
      · omega
      · exact h1.1 y hy
theorem ins_row {r : NR} {l : List NR} (h : AscN l) : insRow false nkey l r = insN r l := by
  have key : ∀ n, n ≤ l.length → (l.take n).take (posOf false (l.map nkey) (nkey r) n) ++ r :: (l.take n).drop (posOf false (l.map nkey) (nkey r) n) = insN r (l.take n) := by
    intro n
    induction n with
    | zero => intro _; rfl
    | succ n ih =>
      intro hn
      have hl : n < l.length := by omega
      have ht : l.take (n + 1) = l.take n ++ [l[n]] := by rw [List.take_add_one, List.getElem?_eq_getElem hl]; rfl
      have hlen : (l.take n).length = n := by rw [List.length_take]; omega
      have hk : (l.map nkey).getD n 0 = ((l[n].1 : Nat) : Int) := by
        rw [List.getD_eq_getElem?_getD, List.getElem?_map, List.getElem?_eq_getElem hl]; rfl
      by_cases hr : r.1 < l[n].1
      · rw [pos_go (d := false) (by rw [hk]; exact decide_eq_true (Int.ofNat_lt.mpr hr)), ht]
        have hp := posOf_le false (l.map nkey) (nkey r) n
        rw [List.take_append_of_le_length (by rw [hlen]; exact hp), List.drop_append_of_le_length (by rw [hlen]; exact hp), ins_lt hr, ← ih (by omega), List.append_assoc]
        rfl
      · rw [pos_stop (d := false) (by rw [hk]; exact decide_eq_false fun h => hr (Int.ofNat_lt.mp h)), ht]
        have hall : ∀ y ∈ l.take n, y.1 ≤ l[n].1 := by
          intro y hy
          have h2 : AscN (l.take n ++ [l[n]]) := ht ▸ h.sublist (List.take_sublist _ _)
          exact (List.pairwise_append.mp h2).2.2 y hy _ (.head _)
        rw [ins_ge hr _ hall]
        have h3 : (l.take n ++ [l[n]]).length = n + 1 := by rw [List.length_append, hlen]; rfl
        rw [List.take_of_length_le (by rw [h3]; exact Nat.le_refl _), List.drop_of_length_le (by rw [h3]; exact Nat.le_refl _)]
  have := key l.length (Nat.le_refl _)
  rw [List.take_length] at this
  exact this
theorem sort_insN : ∀ (rs acc : List NR), AscN acc → rs.foldl (insRow false nkey) acc = rs.foldl (fun l r => insN r l) acc
  | [], _, _ => rfl
  | r :: rs, acc, h => by
    rw [List.foldl_cons, List.foldl_cons, ins_row h]
    exact sort_insN rs _ (ins_ascN h)
theorem ins_comm {x y : NR} (h : x.1 ≠ y.1) : ∀ l : List NR, insN x (insN y l) = insN y (insN x l)
  | [] => by
    show (if x.1 < y.1 then [x, y] else [y, x]) = (if y.1 < x.1 then [y, x] else [x, y])
    by_cases hxy : x.1 < y.1
    · rw [if_pos hxy, if_neg (by omega)]
    · rw [if_neg hxy, if_pos (by omega)]
  | z :: l => by
    have e : ∀ r : NR, ∀ l, insN r (z :: l) = if r.1 < z.1 then r :: z :: l else z :: insN r l := fun _ _ => rfl
    have e2 : ∀ (r q : NR) l, insN r (q :: l) = if r.1 < q.1 then r :: q :: l else q :: insN r l := fun _ _ _ => rfl
    by_cases hx : x.1 < z.1
    · by_cases hy : y.1 < z.1
      · rw [e y, if_pos hy, e x, if_pos hx, e2 x y, e2 y x, e x, if_pos hx, e y, if_pos hy]
        by_cases hxy : x.1 < y.1
        · rw [if_pos hxy, if_neg (by omega)]
        · rw [if_neg hxy, if_pos (by omega)]
      · rw [e y, if_neg hy, e x, if_pos hx, e x, if_pos hx, e2 y x, if_neg (by omega), e y, if_neg hy]
    · by_cases hy : y.1 < z.1
      · rw [e y, if_pos hy, e x, if_neg hx, e2 x y, if_neg (by omega), e x, if_neg hx, e y, if_pos hy]
      · rw [e y, if_neg hy, e x, if_neg hx, e x, if_neg hx, e y, if_neg hy, ins_comm h l]
theorem sort_swap {x y : NR} (h : x.1 ≠ y.1) (pre post : List NR) : sortRows false nkey (pre ++ x :: y :: post) = sortRows false nkey (pre ++ y :: x :: post) := by
  unfold sortRows
  rw [sort_insN _ _ List.Pairwise.nil, sort_insN _ _ List.Pairwise.nil, List.foldl_append, List.foldl_append, List.foldl_cons, List.foldl_cons, List.foldl_cons, List.foldl_cons, ins_comm (Ne.symm h)]
/-- two neighbours change places -/
noncomputable def swL : Nat → List Nat → List Nat
  | 0, a :: b :: r => b :: a :: r
  | i + 1, a :: r => a :: swL i r
  | _, l => l
noncomputable def swC (i c : Nat) : Nat := if c = 97 + i then 98 + i else if c = 98 + i then 97 + i else c
noncomputable def swR (i : Nat) (r : NR) : NR := (r.1, r.2.map (swC i))
theorem four {l : List Nat} (h : l.length = 4) : ∃ a b c d, l = [a, b, c, d] := by
  match l, h with
  | [a, b, c, d], _ => exact ⟨a, b, c, d, rfl⟩
theorem three {i : Nat} (h : i < 3) : i = 0 ∨ i = 1 ∨ i = 2 := by omega
theorem sw_sw {i : Nat} (hi : i < 3) {l : List Nat} (h : l.length = 4) : swL i (swL i l) = l := by
  obtain ⟨a, b, c, d, rfl⟩ := four h
  rcases three hi with rfl | rfl | rfl <;> rfl
theorem sw_len {i : Nat} (hi : i < 3) {l : List Nat} (h : l.length = 4) : (swL i l).length = 4 := by
  obtain ⟨a, b, c, d, rfl⟩ := four h
  rcases three hi with rfl | rfl | rfl <;> rfl
theorem sw_perm {i : Nat} (hi : i < 3) {l : List Nat} (h : l.length = 4) : (swL i l).Perm l := by
  obtain ⟨a, b, c, d, rfl⟩ := four h
  rcases three hi with rfl | rfl | rfl
  · exact List.Perm.swap _ _ _
  · exact (List.Perm.swap _ _ _).cons _
  · exact ((List.Perm.swap _ _ _).cons _).cons _
theorem sw_dot {i : Nat} (hi : i < 3) {l o : List Nat} (h : l.length = 4) (ho : o.length = 4) : dot (swL i l) (swL i o) = dot l o := by
  obtain ⟨a, b, c, d, rfl⟩ := four h
  obtain ⟨p, q, r, s, rfl⟩ := four ho
  rcases three hi with rfl | rfl | rfl
  · show b * q + (a * p + (c * r + (d * s + 0))) = a * p + (b * q + (c * r + (d * s + 0))); omega
  · show a * p + (c * r + (b * q + (d * s + 0))) = a * p + (b * q + (c * r + (d * s + 0))); omega
  · show a * p + (b * q + (d * s + (c * r + 0))) = a * p + (b * q + (c * r + (d * s + 0))); omega
theorem sw_bump {i : Nat} (hi : i < 3) {lz : List Nat} (h : lz.length = 4) {x : Nat} (hx : x ∈ lets 4) : bump (swL i lz) (swC i x) = swL i (bump lz x) := by
  obtain ⟨p, q, r, s, rfl⟩ := four h
  have hx' : x ∈ [97, 98, 99, 100] := hx
  simp only [List.mem_cons, List.not_mem_nil, or_false] at hx'
  rcases three hi with rfl | rfl | rfl <;> rcases hx' with rfl | rfl | rfl | rfl <;> rfl
theorem bump_four {lz : List Nat} {x : Nat} (h : lz.length = 4) : (bump lz x).length = 4 := by unfold bump; rw [List.length_set]; exact h
theorem sw_bumps {i : Nat} (hi : i < 3) : ∀ (l lz : List Nat), lz.length = 4 → (∀ x ∈ l, x ∈ lets 4) → (l.map (swC i)).foldl bump (swL i lz) = swL i (l.foldl bump lz)
  | [], _, _, _ => rfl
  | x :: l, lz, h, hl => by
    rw [List.map_cons, List.foldl_cons, List.foldl_cons, sw_bump hi h (hl x (.head _))]
    exact sw_bumps hi l _ (bump_four h) fun y hy => hl y (.tail _ hy)
theorem bumps_four : ∀ (l lz : List Nat), lz.length = 4 → (l.foldl bump lz).length = 4
  | [], _, h => h
  | _ :: l, _, h => bumps_four l _ (bump_four h)
theorem sw_lets {i : Nat} (hi : i < 3) : ((lets 4).map (swC i)).Perm (lets 4) := by
  rcases three hi with rfl | rfl | rfl
  · exact List.Perm.swap _ _ _
  · exact (List.Perm.swap _ _ _).cons _
  · exact ((List.Perm.swap _ _ _).cons _).cons _
theorem ok_sw {i : Nat} (hi : i < 3) : ∀ o ∈ okL 4, swL i o ∈ okL 4 ∧ o.length = 4 := by
  rcases three hi with rfl | rfl | rfl <;> decide
theorem sw_end {i : Nat} (hi : i < 3) {ws lz : List Nat} {c : Nat} (hw : ws.length = 4) (h : lz.length = 4) (g : goodEnd 4 ws lz c = true) : goodEnd 4 (swL i ws) (swL i lz) c = true := by
  unfold goodEnd at g ⊢
  rw [Bool.and_eq_true, Bool.and_eq_true, Bool.and_eq_true] at g ⊢
  obtain ⟨⟨⟨g1, g2⟩, g3⟩, g4⟩ := g
  refine ⟨⟨⟨by rw [sw_dot hi hw h]; exact g1, ?_⟩, ?_⟩, ?_⟩
  · exact List.all_eq_true.mpr fun x hx => List.all_eq_true.mp g2 x ((sw_perm hi h).mem_iff.mp hx)
  · have e : kraft 4 (swL i lz) = kraft 4 lz := by
      unfold kraft
      exact ((sw_perm hi h).map _).sum_nat
    rw [e]; exact g3
  · refine List.all_eq_true.mpr fun o ho => ?_
    obtain ⟨h1, h2⟩ := ok_sw hi o ho
    have h3 := List.all_eq_true.mp g4 _ h1
    rw [← sw_dot hi hw (sw_len hi h2), sw_sw hi h2] at h3
    exact h3
theorem sw_from {i : Nat} (hi : i < 3) {ws : List Nat} (hw : ws.length = 4) : ∀ (n : Nat) (rows : List NR) (lz : List Nat) (c a : Nat), lz.length = 4 → goodFrom 4 ws n rows lz c a = true → goodFrom 4 (swL i ws) n (rows.map (swR i)) (swL i lz) c a = true
  | 0, _, lz, c, a, h, g => by
    have g' : (Nat.beq lz.length 4 && goodEnd 4 ws lz c) = true := g
    rw [Bool.and_eq_true] at g'
    show (Nat.beq (swL i lz).length 4 && goodEnd 4 (swL i ws) (swL i lz) c) = true
    rw [Bool.and_eq_true, sw_len hi h]
    exact ⟨rfl, sw_end hi hw h g'.2⟩
  | n + 1, rows, lz, c, a, h, g => by
    have hs : sortRows false nkey (rows.map (swR i)) = (sortRows false nkey rows).map (swR i) := (sortRows_map (f := swR i) (k1 := nkey) (k2 := nkey) (fun _ => rfl) rows []).symm
    unfold goodFrom at g ⊢
    rw [hs]
    revert g
    match sortRows false nkey rows with
    | [] => exact fun g => by cases g
    | [_] => exact fun g => by cases g
    | r0 :: r1 :: rest =>
      intro g
      simp only [List.map_cons, Bool.and_eq_true] at g ⊢
      obtain ⟨⟨⟨⟨⟨g1, g2⟩, g3⟩, g4⟩, g5⟩, g6⟩ := g
      have hm : (rest.map (swR i)).map (·.1) = rest.map (·.1) := by rw [List.map_map]; rfl
      have hp := List.isPerm_iff.mp g4
      have hf : (swR i r0 :: swR i r1 :: rest.map (swR i)).flatMap (·.2) = ((r0 :: r1 :: rest).flatMap (·.2)).map (swC i) := by
        rw [← List.map_cons, ← List.map_cons, List.flatMap_map, List.map_flatMap]; rfl
      have hin : ∀ x ∈ r0.2 ++ r1.2, x ∈ lets 4 := fun x hx => hp.mem_iff.mp (by
        rw [List.flatMap_cons, List.flatMap_cons, ← List.append_assoc]; exact List.mem_append_left _ hx)
      refine ⟨⟨⟨⟨⟨?_, ?_⟩, g3⟩, ?_⟩, by rw [sw_len hi h]; rfl⟩, ?_⟩
      · rw [hm, (sw_perm hi hw).sum_nat]; exact g1
      · rw [hm]; exact g2
      · rw [hf]; exact List.isPerm_iff.mpr ((hp.map _).trans (sw_lets hi))
      · have hr := sw_from hi hw n _ _ _ _ (bumps_four _ _ h) g6
        rw [← sw_bumps hi _ _ h hin, List.map_append, List.map_append] at hr
        have e2 : [(r0.1 + r1.1, r0.2 ++ r1.2)].map (swR i) = [(r0.1 + r1.1, r0.2.map (swC i) ++ r1.2.map (swC i))] := by
          show [(r0.1 + r1.1, (r0.2 ++ r1.2).map (swC i))] = _
          rw [List.map_append]
        rw [e2] at hr
        exact hr
theorem from_sort {S : Nat} {ws : List Nat} {n : Nat} {rows rows' : List NR} {lz : List Nat} {c a : Nat} (h : sortRows false nkey rows = sortRows false nkey rows') (g : goodFrom S ws (n + 1) rows lz c a = true) : goodFrom S ws (n + 1) rows' lz c a = true := by
  unfold goodFrom at g ⊢
  rw [← h]; exact g
theorem good_sw0 {a b c d : Nat} (h : a ≠ b) (g : goodW 4 [b, a, c, d] = true) : goodW 4 [a, b, c, d] = true := by
  have g1 : goodFrom 4 [b, a, c, d] 3 [(b, [97]), (a, [98]), (c, [99]), (d, [100])] [0, 0, 0, 0] 0 0 = true := g
  have g2 := sw_from (i := 0) (by decide) (ws := [b, a, c, d]) rfl 3 _ _ _ _ rfl g1
  have g3 : goodFrom 4 [a, b, c, d] (2 + 1) [(b, [98]), (a, [97]), (c, [99]), (d, [100])] [0, 0, 0, 0] 0 0 = true := g2
  have g5 := from_sort (rows' := [(a, [97]), (b, [98]), (c, [99]), (d, [100])]) (sort_swap (x := (b, [98])) (y := (a, [97])) (Ne.symm h) [] [(c, [99]), (d, [100])]) g3
  exact g5
theorem good_sw1 {a b c d : Nat} (h : b ≠ c) (g : goodW 4 [a, c, b, d] = true) : goodW 4 [a, b, c, d] = true := by
  have g1 : goodFrom 4 [a, c, b, d] 3 [(a, [97]), (c, [98]), (b, [99]), (d, [100])] [0, 0, 0, 0] 0 0 = true := g
  have g2 := sw_from (i := 1) (by decide) (ws := [a, c, b, d]) rfl 3 _ _ _ _ rfl g1
  have g3 : goodFrom 4 [a, b, c, d] (2 + 1) [(a, [97]), (c, [99]), (b, [98]), (d, [100])] [0, 0, 0, 0] 0 0 = true := g2
  have g5 := from_sort (rows' := [(a, [97]), (b, [98]), (c, [99]), (d, [100])]) (sort_swap (x := (c, [99])) (y := (b, [98])) (Ne.symm h) [(a, [97])] [(d, [100])]) g3
  exact g5
theorem good_sw2 {a b c d : Nat} (h : c ≠ d) (g : goodW 4 [a, b, d, c] = true) : goodW 4 [a, b, c, d] = true := by
  have g1 : goodFrom 4 [a, b, d, c] 3 [(a, [97]), (b, [98]), (d, [99]), (c, [100])] [0, 0, 0, 0] 0 0 = true := g
  have g2 := sw_from (i := 2) (by decide) (ws := [a, b, d, c]) rfl 3 _ _ _ _ rfl g1
  have g3 : goodFrom 4 [a, b, c, d] (2 + 1) [(a, [97]), (b, [98]), (d, [100]), (c, [99])] [0, 0, 0, 0] 0 0 = true := g2
  have g5 := from_sort (rows' := [(a, [97]), (b, [98]), (c, [99]), (d, [100])]) (sort_swap (x := (d, [100])) (y := (c, [99])) (Ne.symm h) [(a, [97]), (b, [98])] []) g3
  exact g5
/-- four weights in rising order, the first of them given -/
noncomputable def asc4 (a : Nat) : List (List Nat) := (List.range (10 - a)).flatMap fun b => (List.range (10 - (a + b))).flatMap fun c => (List.range (10 - (a + b + c))).map fun d => [a, a + b, a + b + c, a + b + c + d]
theorem asc4_mem {a b c d : Nat} (h1 : a ≤ b) (h2 : b ≤ c) (h3 : c ≤ d) (h4 : d ≤ 9) : [a, b, c, d] ∈ asc4 a := by
  refine List.mem_flatMap.mpr ⟨b - a, List.mem_range.mpr (by omega), List.mem_flatMap.mpr ⟨c - b, List.mem_range.mpr (by omega), List.mem_map.mpr ⟨d - c, List.mem_range.mpr (by omega), ?_⟩⟩⟩
  rw [show a + (b - a) = b by omega, show b + (c - b) = c by omega, show c + (d - c) = d by omega]
theorem a4_1 : (asc4 1).all (goodW 4) = true := by decide +kernel
theorem a4_2 : (asc4 2).all (goodW 4) = true := by decide +kernel
theorem a4_3 : (asc4 3).all (goodW 4) = true := by decide +kernel
theorem a4_4 : (asc4 4).all (goodW 4) = true := by decide +kernel
theorem a4_5 : (asc4 5).all (goodW 4) = true := by decide +kernel
theorem a4_6 : (asc4 6).all (goodW 4) = true := by decide +kernel
theorem a4_7 : (asc4 7).all (goodW 4) = true := by decide +kernel
theorem a4_8 : (asc4 8).all (goodW 4) = true := by decide +kernel
theorem a4_9 : (asc4 9).all (goodW 4) = true := by decide +kernel
theorem a4 : ∀ k, 1 ≤ k → k ≤ 9 → (asc4 k).all (goodW 4) = true := by
  intro k h1 h9
  rcases (by omega : k = 1 ∨ k = 2 ∨ k = 3 ∨ k = 4 ∨ k = 5 ∨ k = 6 ∨ k = 7 ∨ k = 8 ∨ k = 9) with rfl | rfl | rfl | rfl | rfl | rfl | rfl | rfl | rfl
  · exact a4_1
  · exact a4_2
  · exact a4_3
  · exact a4_4
  · exact a4_5
  · exact a4_6
  · exact a4_7
  · exact a4_8
  · exact a4_9
theorem good_w4 : ∀ (m a b c d : Nat), 3 * a + 2 * b + c ≤ m → 1 ≤ a ∧ a ≤ 9 → 1 ≤ b ∧ b ≤ 9 → 1 ≤ c ∧ c ≤ 9 → 1 ≤ d ∧ d ≤ 9 → goodW 4 [a, b, c, d] = true
  | 0, a, b, c, d, hm, ha, _, _, _ => absurd hm (by omega)
  | m + 1, a, b, c, d, hm, ha, hb, hc, hd => by
    by_cases h1 : b < a
    · exact good_sw0 (by omega) (good_w4 m b a c d (by omega) hb ha hc hd)
    by_cases h2 : c < b
    · exact good_sw1 (by omega) (good_w4 m a c b d (by omega) ha hc hb hd)
    by_cases h3 : d < c
    · exact good_sw2 (by omega) (good_w4 m a b d c (by omega) ha hb hd hc)
    exact List.all_eq_true.mp (a4 a ha.1 ha.2) _ (asc4_mem (by omega) (by omega) (by omega) hd.2)
end Mine
namespace Mine
theorem good_all {S : Nat} {ws : List Nat} (h2 : 2 ≤ S) (h4 : S ≤ 4) (hl : ws.length = S) (hw : ∀ x ∈ ws, 1 ≤ x ∧ x ≤ 9) : goodW S ws = true := by
  rcases (by omega : S = 2 ∨ S = 3 ∨ S = 4) with rfl | rfl | rfl
  · exact List.all_eq_true.mp g2 ws (vecs_mem ws 9 2 hl hw)
  · exact List.all_eq_true.mp g3 ws (vecs_mem ws 9 3 hl hw)
  · obtain ⟨a, b, c, d, rfl⟩ := four hl
    exact good_w4 _ a b c d (Nat.le_refl _) (hw _ (.head _)) (hw _ (.tail _ (.head _))) (hw _ (.tail _ (.tail _ (.head _)))) (hw _ (.tail _ (.tail _ (.tail _ (.head _)))))
noncomputable def wtsN (b : Int) (S : Nat) : List Nat := (List.range S).map fun i => 1 + b.toNat / 9 ^ i % 9
theorem wt_cast {b : Int} (hb : 0 ≤ b) (i : Nat) : 1 + (b.fdiv (9 ^ i)).fmod 9 = ((1 + b.toNat / 9 ^ i % 9 : Nat) : Int) := by
  obtain ⟨n, rfl⟩ := Int.eq_ofNat_of_zero_le hb
  have e : (9 : Int) ^ i = ((9 ^ i : Nat) : Int) := by simp
  rw [e, Int.toNat_natCast, Int.fdiv_eq_ediv_of_nonneg _ (Int.natCast_nonneg _), ← Int.natCast_ediv, Int.fmod_eq_emod_of_nonneg _ (by decide)]
  omega
theorem start_good {b : Int} {S : Nat} (hb : 0 ≤ b) (h2 : 2 ≤ S) (h4 : S ≤ 4) : ∃ wsN : List Nat, wts b S = inZ wsN ∧ startRows b S = (startN 97 wsN).map toRk ∧ wsN.length = S ∧ goodW S wsN = true := by
  have hlen : (wtsN b S).length = S := by unfold wtsN; rw [List.length_map, List.length_range]
  refine ⟨wtsN b S, ?_, ?_, hlen, good_all h2 h4 hlen fun x hx => ?_⟩
  · unfold wts wtsN inZ
    rw [List.map_map]
    exact List.map_congr_left fun i _ => wt_cast hb i
  · rcases (by omega : S = 2 ∨ S = 3 ∨ S = 4) with rfl | rfl | rfl
    all_goals
      unfold startRows wtsN
      simp only [List.range_succ, List.range_zero, List.nil_append, List.map_append, List.map_cons, List.map_nil, List.cons_append, startN, wt_cast hb]
      rfl
  · obtain ⟨i, _, rfl⟩ := List.mem_map.mp hx
    omega
end Mine
namespace Mine
structure Kept (p : Prop) : Prop where
  out : p
theorem inZ_rep (n : Nat) : inZ (List.replicate n 0) = List.replicate n 0 := by
  induction n with
  | zero => rfl
  | succ n ih => rw [List.replicate_succ, List.replicate_succ, ← ih]; rfl
theorem frame_start {bl : Str → Option Value} {a c r : Option Value} :
    (fun y => if y = Str.ofString "ahead" then a else if y = Str.ofString "cost" then c else if y = Str.ofString "rows" then r else bl y) =
    (fun y => if y = Str.ofString "items" then bl (Str.ofString "items") else if y = Str.ofString "made" then bl (Str.ofString "made") else if y = Str.ofString "letter" then bl (Str.ofString "letter") else if y = Str.ofString "ahead" then a else if y = Str.ofString "cost" then c else if y = Str.ofString "rows" then r else bl y) := by
  funext y
  by_cases h1 : y = Str.ofString "items"
  · subst h1; rfl
  by_cases h2 : y = Str.ofString "made"
  · subst h2; rfl
  by_cases h3 : y = Str.ofString "letter"
  · subst h3; rfl
  simp only [if_neg h1, if_neg h2, if_neg h3]
theorem startRows_len {b : Int} {S : Nat} {ps : List Row4} (h : ps.map rk = startRows b S) : ps.length = S := by
  have := congrArg List.length h
  rw [List.length_map] at this
  rw [this]; unfold startRows; rw [List.length_map, List.length_range]
theorem fr_name {h₀ h : Heap} {L : Addr} {m : Str → Option Value} (F : Fr h₀ L h m) : ∃ m0, m0 = m ∧ Fr h₀ L h m0 := ⟨m, rfl, F⟩
theorem self_if {m : Str → Option Value} (x : Str) : m = fun y => if y = x then m x else m y := by
  funext y
  by_cases h : y = x
  · subst h; rw [if_pos rfl]
  · rw [if_neg h]
theorem two_if {m : Str → Option Value} {x : Str} {a b : Option Value} : (fun y => if y = x then a else if y = x then b else m y) = fun y => if y = x then a else m y := by
  funext y
  by_cases h : y = x
  · rw [if_pos h, if_pos h]
  · rw [if_neg h, if_neg h, if_neg h]
theorem find_abcd {c S : Nat} (h : c ∈ lets S) (h4 : S ≤ 4) : Txt.find (Str.ofString "abcd") (one c) = ((c - 97 : Nat) : Int) ∧ c - 97 < S := by
  obtain ⟨i, hi, rfl⟩ := List.mem_map.mp h
  have hi' := List.mem_range.mp hi
  rcases (by omega : i = 0 ∨ i = 1 ∨ i = 2 ∨ i = 3) with rfl | rfl | rfl | rfl
  · exact ⟨by decide +kernel, by omega⟩
  · exact ⟨by decide +kernel, by omega⟩
  · exact ⟨by decide +kernel, by omega⟩
  · exact ⟨by decide +kernel, by omega⟩
section
variable {prog : Program} {w : World} {A : Around} {E : Value → Shared → Prop} {s : Shared} {t u : Tok} {Q : Value → Shared → Prop}
theorem index_abcd {c S : Nat} (hA : A.handled = none) (h : c ∈ lets S) (h4 : S ≤ 4) (hQ : ∀ t' tk, Q (.int ((c - 97 : Nat) : Int) t') { s with toks := tk }) :
    wpAny (model prog w) A (call (.builtin "str.index") [.str (Str.ofString "abcd") t, .str (one c) u]) Q E s := by
  have hf := (find_abcd h h4).1
  refine index_or hA (fun e => ?_) (fun _ _ => ?_)
  · rw [hf] at e
    exact absurd e (by omega)
  · rw [hf]
    exact hQ _ _
end
theorem bump_len (lz : List Nat) (c : Nat) : (bump lz c).length = lz.length := by unfold bump; rw [List.length_set]
theorem inZ_bump (lz : List Nat) (c : Nat) : (inZ lz).set (c - 97) ((inZ lz).getD (c - 97) 0 + 1) = inZ (bump lz c) := by
  unfold inZ bump
  rw [List.map_set]
  congr 1
  rw [List.getD_eq_getElem?_getD, List.getD_eq_getElem?_getD, List.getElem?_map]
  cases lz[c - 97]? with
  | none => rfl
  | some x => rfl
end Mine
namespace Mine
theorem join_cps (l : List Str) : (Txt.join (Str.ofString "") l).cps.toList = l.flatMap (fun s => s.cps.toList) := by
  rw [eq_of_beq (join_plain_closes (Str.ofString "") l)]
  have e : Str.ofString "" = ⟨#[]⟩ := by decide
  rw [e]
  induction l with
  | nil => rfl
  | cons x r ih =>
    cases r with
    | nil => show x.cps.toList = _; simp
    | cons y r =>
      show ((x.cps ++ #[]) ++ (Str.join ⟨#[]⟩ (y :: r)).cps).toList = _
      rw [Array.toList_append, ih, Array.append_empty]; rfl
theorem ints_uniq : ∀ {vs : List Value} {a b : List Int}, IntsAre vs a → IntsAre vs b → a = b
  | _, _, _, .nil, .nil => rfl
  | _, _, _, .cons _ _ h, .cons _ _ g => by rw [ints_uniq h g]
theorem words_join {qs : List Row4} {nr : List NR} (h : qs.map rk = nr.map toRk) : (Txt.join (Str.ofString "") ((qs.map (·.2)).map (·.1))).cps.toList = nr.flatMap (·.2) := by
  rw [join_cps, seconds h, List.flatMap_map]
theorem lets_len (S : Nat) : (lets S).length = S := by unfold lets; rw [List.length_map, List.length_range]
/-- what a turn asks of its words -/
theorem turn_words {S k : Nat} {wsN : List Nat} {ps : List Row4} {nr : List NR} {lzN : List Nat} {cN aN : Nat} {q0 q1 : Row4} {qr : List Row4} {r0 r1 : NR} {rest : List NR} (T : Turn1 S wsN k ps nr lzN cN aN q0 q1 qr r0 r1 rest) (h4 : S ≤ 4) (h3 : k ≤ 3) (hl : ps.length = k + 2) {qs' : List Row4} (hq : qs' = q0 :: q1 :: qr) :
    (Txt.join (Str.ofString "") ((qs'.map (·.2)).map (·.1))).cps.toList.Perm (lets S) ∧ (((qs'.map (·.2)).map (·.1)).map (·.length)).sum + ((qs'.map (·.2)).map (·.1)).length ≤ 1048576 ∧ (Txt.join (Str.ofString "") ((qs'.map (·.2)).map (·.1))).cps.size < 64 ∧
    q0.2.1.length + q1.2.1.length ≤ sizeLine ∧ (q0.2.1 ++ q1.2.1).cps.toList = r0.2 ++ r1.2 ∧ (∀ c ∈ r0.2 ++ r1.2, c ∈ lets S) ∧ q0.1.1 = (r0.1 : Int) ∧ q1.1.1 = (r1.1 : Int) := by
  subst hq
  have hrk : (q0 :: q1 :: qr).map rk = (r0 :: r1 :: rest).map toRk := by
    rw [List.map_cons, List.map_cons, List.map_cons, List.map_cons, T.e0, T.e1, T.er]
  have hj := words_join hrk
  have hp : (Txt.join (Str.ofString "") (((q0 :: q1 :: qr).map (·.2)).map (·.1))).cps.toList.Perm (lets S) := hj ▸ T.perm
  have hlen : (Txt.join (Str.ofString "") (((q0 :: q1 :: qr).map (·.2)).map (·.1))).cps.size = S := by
    have := hp.length_eq
    rw [lets_len] at this
    simpa using this
  have c0 : q0.2.1 = ⟨r0.2.toArray⟩ := congrArg (fun p : Int × Str => p.2) T.e0
  have c1 : q1.2.1 = ⟨r1.2.toArray⟩ := congrArg (fun p : Int × Str => p.2) T.e1
  have hjl : (Txt.join (Str.ofString "") (((q0 :: q1 :: qr).map (·.2)).map (·.1))).length = S := hlen
  have hsum := len_join_ge_sum (Str.ofString "") (((q0 :: q1 :: qr).map (·.2)).map (·.1))
  have hql : (q0 :: q1 :: qr).length = k + 2 := by rw [← T.sort, sortRows_len, hl]
  have h2 : q0.2.1.length + q1.2.1.length ≤ (((q0 :: q1 :: qr).map (·.2)).map (·.1) |>.map (·.length)).sum := by
    simp only [List.map_cons, List.sum_cons]; omega
  refine ⟨hp, ?_, by omega, Nat.le_trans (by omega : _ ≤ 64) (by decide), ?_, fun c hc => ?_, congrArg (fun p : Int × Str => p.1) T.e0, congrArg (fun p : Int × Str => p.1) T.e1⟩
  · have : (((q0 :: q1 :: qr).map (·.2)).map (·.1)).length = k + 2 := by rw [List.length_map, List.length_map, hql]
    omega
  · show (q0.2.1.cps ++ q1.2.1.cps).toList = _
    rw [Array.toList_append, c0, c1]
  · refine T.perm.mem_iff.mp ?_
    rw [List.flatMap_cons, List.flatMap_cons, ← List.append_assoc]
    exact List.mem_append_left _ hc
end Mine
namespace Mine
theorem letters_cut2 {h₀ h : Heap} {L W H Dl A5 A6 : Addr} {ow oh ol o5 o6 : Obj} {q0 q1 q2 q3 r w c2 c3 c4 c7 c8 c9 : Addr × Obj} (N : News h₀ L h (q0 :: q1 :: q2 :: q3 :: (W, ow) :: (H, oh) :: r :: (Dl, ol) :: w :: c2 :: c3 :: c4 :: (A5, o5) :: (A6, o6) :: c7 :: c8 :: c9 :: [])) :
    ∃ (W' H' : Addr) (p5 p6 : Obj), W' = W ∧ H' = H ∧ p5 = o5 ∧ p6 = o6 ∧ News h₀ L h ((W', ow) :: (H', oh) :: (Dl, ol) :: w :: c2 :: c3 :: c4 :: (A5, p5) :: (A6, p6) :: c7 :: c8 :: c9 :: []) := by
  refine ⟨W, H, o5, o6, rfl, rfl, rfl, rfl, news_sub N (by (repeat refine List.forall_mem_cons.mpr ⟨by k_mem, ?_⟩); first | exact List.forall_mem_nil _ | (intro p hp; repeat (first | exact hp | refine List.Mem.tail _ ?_)))⟩
theorem off_of_lt {I : Addr} : ∀ {l l' : List (Addr × Obj)}, (∀ p ∈ l, p.1 < I) → l'.map Prod.fst = l.map Prod.fst → ∀ p ∈ l', p.1 ≠ I := by
  intro l l' h e p hp
  have hm : p.1 ∈ l.map Prod.fst := e ▸ List.mem_map.mpr ⟨p, hp, rfl⟩
  obtain ⟨q, hq, e2⟩ := List.mem_map.mp hm
  rw [← e2]; exact Nat.ne_of_lt (h q hq)
theorem ints_bump {vs : List Value} {lz : List Nat} {x : Nat} {t : Tok} (h : IntsAre vs (inZ lz)) : IntsAre (vs.set ((x - 97 : Nat) : Int).toNat (.int ((inZ lz).getD ((x - 97 : Nat) : Int).toNat 0 + 1) t)) (inZ (bump lz x)) := by
  rw [← inZ_bump, Int.toNat_natCast]; exact ints_set h _
theorem inZ_len (l : List Nat) : (inZ l).length = l.length := by unfold inZ; rw [List.length_map]
end Mine
namespace Mine
section
variable {prog : Program} {w : World} {A : Around} {E : Value → Shared → Prop} {s : Shared} {env : Env} {h₀ : Heap} {x : Str} {px : Pos} {body : List Stmt} {Q : Flow → Shared → Prop}
/-- a loop over a range whose target is any name (a cell too), by what holds of the turn's number, the frame and the ledger -/
theorem iter_rangeC {r : Addr} {a₀ b₀ : Int} {t₀ u₀ v₀ : Tok} {n : Nat} {m₀ : Str → Option Value} {news : List (Addr × Obj)}
    (hh : A.handled = none) (hr : IsRange s.heap r a₀ b₀ 1 t₀ u₀ v₀) (hsmall : Builtin.Range.small a₀ b₀ 1 = true) (hn : Builtin.Range.rangeSize a₀ b₀ 1 = (n : Int)) (F : Fr h₀ env.locals s.heap m₀) (N : News h₀ env.locals s.heap news)
    (rest₀ : ∀ I : Addr, (∀ p ∈ news, p.1 < I) → ∃ J : Nat → (Str → Option Value) → List (Addr × Obj) → Prop, J 0 m₀ news ∧
      (∀ i m news t h tk, i < n → J i m news → Fr h₀ env.locals h m → News h₀ env.locals h ((I, itR (a₀ + ((i + 1 : Nat) : Int)) ((n : Int) - ((i + 1 : Nat) : Int))) :: news) →
        wpAny (model prog w) A (assign (.Name x px) env (.int (a₀ + (i : Int)) t)) (fun _ s₃ => wpAny (model prog w) A (execs body env) (UnrPost h₀ env.locals { s with heap := h, toks := tk } I (itR (a₀ + ((i + 1 : Nat) : Int)) ((n : Int) - ((i + 1 : Nat) : Int))) (J (i + 1)) Q) E s₃) E { s with heap := h, toks := tk }) ∧
      (∀ m news h tk, J n m news → Fr h₀ env.locals h m → News h₀ env.locals h news → Q .next { s with heap := h, toks := tk })) :
    wpAny (model prog w) A (pyIter (.ref r)) (fun it s₂ => TurnsAt prog w A h₀ env (.Name x px) body Q E it s₂) E s := by
  refine wpAny_pyIter_range hr hsmall ?_
  obtain ⟨J, j0, turn, done⟩ := rest₀ s.heap.objs.size fun p hp => Heap.lt_size (N p hp).1
  have W : Walks prog w A s.heap.objs.size [s.heap.objs.size] [s.heap.objs.size] n (fun i v => i < n ∧ ∃ t, v = .int (a₀ + i * 1) t)
      (fun i h => IsRangeIter h s.heap.objs.size (a₀ + (i : Nat) * 1) ((n : Int) - (i : Nat)) 1) := (Walks.range hh _ a₀ 1 n).bound
  have hnew := next_is_new F
  refine ⟨s.heap.objs.size, [s.heap.objs.size], [s.heap.objs.size], n, _, _, _, m₀, news, J, rfl, KTurns.ofWalks W (fun i v s' Q' E' st hQ' => by unfold letOwnedTupleGo; exact wpAny_pure hQ'), ?_, ?_, ?_, (by show IsRangeIter _ _ _ _ _; rw [hn]; simpa using Heap.get?_push_size _ rfl), F.push _, (fun p hp => ⟨Heap.get?_push_of_some _ (N p hp).1, (N p hp).2⟩), j0, ?_, ?_⟩
  · intro hm
    exact absurd F.ns.lt ((List.mem_singleton.mp hm) ▸ Nat.lt_irrefl _)
  · intro b hb
    rw [List.mem_singleton.mp hb]
    exact hnew
  · intro p hp hI
    exact absurd (Heap.lt_size (N p hp).1) ((List.mem_singleton.mp hI) ▸ Nat.lt_irrefl _)
  · rintro i v m₁ news₁ hh' tk' own hin ⟨_, t, rfl⟩ hJ hoff hown hget hall hst F₁ N₁
    have hst' : hh'.get? s.heap.objs.size = some (itR (a₀ + ((i + 1 : Nat) : Int)) ((n : Int) - ((i + 1 : Nat) : Int))) := by
      have q : IsRangeIter hh' s.heap.objs.size (a₀ + ((i + 1 : Nat) : Int) * 1) ((n : Int) - ((i + 1 : Nat) : Int)) 1 := hst
      rw [Int.mul_one] at q
      exact q
    have hmem := hall s.heap.objs.size (List.mem_singleton.mpr rfl) hnew _ hst'
    have N₂ : News h₀ env.locals hh' ((s.heap.objs.size, itR (a₀ + ((i + 1 : Nat) : Int)) ((n : Int) - ((i + 1 : Nat) : Int))) :: news₁) := fun p hp => by
      rcases List.mem_cons.mp hp with rfl | hp
      · exact N₁ _ (List.mem_append_left _ hmem)
      · exact N₁ _ (List.mem_append_right _ hp)
    have h1 := turn i m₁ news₁ t hh' tk' hin hJ F₁ N₂
    rw [← show a₀ + (i : Int) * 1 = a₀ + (i : Int) by rw [Int.mul_one]] at h1
    refine wpAny_mono h1 (fun _ s₃ p => wpAny_mono p (fun f s₂ p => ?_) fun _ _ e => e) fun _ _ e => e
    have fin : UnrEnd h₀ env.locals { s with heap := hh', toks := tk' } s.heap.objs.size (itR (a₀ + ((i + 1 : Nat) : Int)) ((n : Int) - ((i + 1 : Nat) : Int))) (J (i + 1)) s₂ →
        LoopStepU h₀ env.locals [s.heap.objs.size] own (J (i + 1)) { s with heap := hh', toks := tk' } .next s₂ := by
      rintro ⟨h', tk, m', news', e, F', N', ho, r⟩
      refine ⟨rfl, h', tk, m', news', e, F', fun p hp => ?_, fun p hp hI => ho p hp (List.mem_singleton.mp hI), r⟩
      rcases List.mem_append.mp hp with hp | hp
      · have h1 : p.1 = s.heap.objs.size := List.mem_singleton.mp (hown p hp)
        have h2 : hh'.get? p.1 = some p.2 := hget p hp
        have h3 : p = (s.heap.objs.size, itR (a₀ + ((i + 1 : Nat) : Int)) ((n : Int) - ((i + 1 : Nat) : Int))) := by
          rw [h1, hst'] at h2
          exact Prod.ext h1 (Option.some.inj h2).symm
        rw [h3]; exact N' _ (List.mem_cons_self ..)
      · exact N' _ (List.mem_cons_of_mem _ hp)
    cases f with
    | ret v => exact p
    | brk => exact p
    | next => exact fin p
    | cont => exact fin p
  · rintro h' tk m' news' F' N' _ hJ
    exact done m' news' h' tk hJ F' N'
end
end Mine
namespace Mine
theorem range2_step {k : Nat} (h : k ≤ 3) : Builtin.Range.small 2 ((k + 1 + 1 : Nat) : Int) 1 = true ∧ Builtin.Range.rangeSize 2 ((k + 1 + 1 : Nat) : Int) 1 = (k : Int) := by
  rcases (by omega : k = 0 ∨ k = 1 ∨ k = 2 ∨ k = 3) with rfl | rfl | rfl | rfl <;> exact ⟨by decide, by decide⟩
theorem row_at {qs' : List Row4} {q0 q1 : Row4} {qr : List Row4} (h : qs' = q0 :: q1 :: qr) {i : Nat} (hi : i < qr.length) :
    ∃ q : Row4, qr[i]? = some q ∧ ((qs'.map (·.1)).map tv)[(2 + (i : Int) * 1).toNat]? = some (Value.int q.1.1 q.1.2) ∧ ((qs'.map (·.2)).map sv)[(2 + (i : Int) * 1).toNat]? = some (Value.str q.2.1 q.2.2) ∧ (qr.take (i + 1)).map rk = (qr.take i).map rk ++ [(q.1.1, q.2.1)] ∧ ((qs'.map (·.1)).map (·.1)).getD (2 + (i : Int) * 1).toNat 0 = q.1.1 := by
  have e : (2 + (i : Int) * 1).toNat = i + 2 := by omega
  subst h
  have hq : qr[i]? = some qr[i] := List.getElem?_eq_getElem hi
  refine ⟨qr[i], hq, ?_, ?_, ?_, ?_⟩
  · rw [e]
    show ((qr.map (·.1)).map tv)[i]? = _
    rw [List.getElem?_map, List.getElem?_map, hq]; rfl
  · rw [e]
    show ((qr.map (·.2)).map sv)[i]? = _
    rw [List.getElem?_map, List.getElem?_map, hq]; rfl
  · rw [List.take_add_one, hq, List.map_append]; rfl
  · rw [e, List.getD_eq_getElem?_getD]
    show (((qr.map (·.1)).map (·.1))[i]?).getD 0 = _
    rw [List.getElem?_map, List.getElem?_map, hq]; rfl
end Mine
namespace Mine
section
variable {prog : Program} {w : World} {A : Around} {E : Value → Shared → Prop} {s : Shared} {h₀ : Heap} {L l b : Addr} {m : Str → Option Value} {news : List (Addr × Obj)} {xs ys : List Value} {k j : Nat} {Q : Value → Shared → Prop}
theorem add_led (F : Fr h₀ L s.heap m) (N : News h₀ L s.heap news) (hl : (l, listOf xs.toArray k) ∈ news) (hb : (b, listOf ys.toArray j) ∈ news) (hz : xs.length + ys.length ≤ 1000)
    (h : ∀ (D : Addr) (h' : Heap), Fr h₀ L h' m → News h₀ L h' ((D, listOf (xs ++ ys).toArray 0) :: news) → (∀ p ∈ news, p.1 < D) → Q (.ref D) { s with heap := h' }) :
    wpAny (model prog w) A (binaryOp .Add (.ref l) (.ref b)) Q E s :=
  add_arrays (hsz := by rw [List.size_toArray, List.size_toArray]; exact Nat.le_trans hz (by decide)) F N ⟨_, (N _ hl).1, rfl, _, rfl⟩ ⟨_, (N _ hb).1, rfl, _, rfl⟩ fun h' F' N' => h _ h' F' N' fun p hp => Heap.lt_size (N p hp).1
end
end Mine
namespace Mine
theorem frame_turn {bl : Str → Option Value} {c a r l mm it it' m' l' a' c' r' : Option Value} :
    (fun y => if y = Str.ofString "cost" then c else if y = Str.ofString "ahead" then a else if y = Str.ofString "rows" then r else if y = Str.ofString "letter" then l else if y = Str.ofString "made" then mm else if y = Str.ofString "items" then it else if y = Str.ofString "items" then it' else if y = Str.ofString "made" then m' else if y = Str.ofString "letter" then l' else if y = Str.ofString "ahead" then a' else if y = Str.ofString "cost" then c' else if y = Str.ofString "rows" then r' else bl y) =
    (fun y => if y = Str.ofString "items" then it else if y = Str.ofString "made" then mm else if y = Str.ofString "letter" then l else if y = Str.ofString "ahead" then a else if y = Str.ofString "cost" then c else if y = Str.ofString "rows" then r else bl y) := by
  funext y
  by_cases h1 : y = Str.ofString "items"
  · subst h1; rfl
  by_cases h2 : y = Str.ofString "made"
  · subst h2; rfl
  by_cases h3 : y = Str.ofString "letter"
  · subst h3; rfl
  by_cases h4 : y = Str.ofString "ahead"
  · subst h4; rfl
  by_cases h5 : y = Str.ofString "cost"
  · subst h5; rfl
  by_cases h6 : y = Str.ofString "rows"
  · subst h6; rfl
  simp only [if_neg h1, if_neg h2, if_neg h3, if_neg h4, if_neg h5, if_neg h6]
theorem turn_cut {h₀ h : Heap} {L : Addr} {t d9 ll l1 d7 w hh dl dw c2 c3 c4 c5 c6 c7 c8 c9 : Addr × Obj} {tl : List (Addr × Obj)} (N : News h₀ L h (t :: d9 :: ll :: l1 :: d7 :: w :: hh :: dl :: dw :: c2 :: c3 :: c4 :: c5 :: c6 :: c7 :: c8 :: c9 :: tl)) :
    News h₀ L h (d9 :: dl :: dw :: c2 :: c3 :: c4 :: c5 :: c6 :: c7 :: c8 :: c9 :: l1 :: tl) := news_sub N (by (repeat refine List.forall_mem_cons.mpr ⟨by k_mem, ?_⟩); first | exact List.forall_mem_nil _ | (intro p hp; repeat (first | exact hp | refine List.Mem.tail _ ?_)))
theorem made_eq {S k : Nat} {wsN : List Nat} {ps : List Row4} {nr : List NR} {lzN : List Nat} {cN aN : Nat} {q0 q1 : Row4} {qr : List Row4} {r0 r1 : NR} {rest : List NR} (T : Turn1 S wsN k ps nr lzN cN aN q0 q1 qr r0 r1 rest) {qs' : List Row4} (hq : qs' = q0 :: q1 :: qr) :
    ((qs'.map (·.1)).map (·.1)).getD (Int.toNat 0) 0 + ((qs'.map (·.1)).map (·.1)).getD (Int.toNat 1) 0 = ((r0.1 + r1.1 : Nat) : Int) := by
  subst hq
  have h0 : q0.1.1 = (r0.1 : Int) := congrArg (fun p : Int × Str => p.1) T.e0
  have h1 : q1.1.1 = (r1.1 : Int) := congrArg (fun p : Int × Str => p.1) T.e1
  show q0.1.1 + q1.1.1 = _
  omega
theorem rows_next {S k : Nat} {wsN : List Nat} {ps : List Row4} {nr : List NR} {lzN : List Nat} {cN aN : Nat} {q0 q1 : Row4} {qr : List Row4} {r0 r1 : NR} {rest : List NR} (T : Turn1 S wsN k ps nr lzN cN aN q0 q1 qr r0 r1 rest) {ps' : List Row4} (hk : qr.length = k) (hst : ps'.map rk = (qr.take k).map rk)
    (hcat : (q0.2.1 ++ q1.2.1).cps.toList = r0.2 ++ r1.2) (tm tw : Tok) :
    (ps' ++ [((((r0.1 + r1.1 : Nat) : Int), tm), (q0.2.1 ++ q1.2.1, tw))]).map rk = (rest ++ [(r0.1 + r1.1, r0.2 ++ r1.2)]).map toRk := by
  have hw : q0.2.1 ++ q1.2.1 = (⟨(r0.2 ++ r1.2).toArray⟩ : Str) := by
    have : (q0.2.1 ++ q1.2.1).cps = (r0.2 ++ r1.2).toArray := by rw [← hcat, Array.toArray_toList]
    cases h : q0.2.1 ++ q1.2.1 with | mk c => rw [h] at this; exact congrArg Str.mk this
  rw [List.map_append, List.map_append, hst, ← hk, List.take_length, T.er]
  show _ ++ [((((r0.1 + r1.1 : Nat) : Int), q0.2.1 ++ q1.2.1) : Int × Str)] = _
  rw [hw]; rfl
theorem rows_at {rs' : List (Addr × List Value)} {ps' : List Row4} {tl' : List (Addr × Obj)} {l1 : Addr} {q : Row4} (hmap : rs'.map (·.2) = ps'.map rv) (hmem : ∀ r ∈ rs', ∃ k, (r.1, listOf r.2.toArray k) ∈ tl') :
    (rs' ++ [(l1, rv q)]).map (·.2) = (ps' ++ [q]).map rv ∧ ∀ r ∈ rs' ++ [(l1, rv q)], ∃ k, (r.1, listOf r.2.toArray k) ∈ (l1, listOf (rv q).toArray 0) :: tl' := by
  refine ⟨by rw [List.map_append, List.map_append, hmap]; rfl, fun r hr => ?_⟩
  rcases List.mem_append.mp hr with hr | hr
  · obtain ⟨k, hk⟩ := hmem r hr
    exact ⟨k, .tail _ hk⟩
  · rw [List.mem_singleton.mp hr]; exact ⟨0, .head _⟩
theorem refs_at {rs' : List (Addr × List Value)} {l1 : Addr} {v : List Value} : (rs'.map fun r => Value.ref r.1) ++ [Value.ref l1] = ((rs' ++ [(l1, v)]).map fun r => Value.ref r.1) := by rw [List.map_append]; rfl
theorem apart_turn {l1 Dl A5 A6 A7 A8 A9 : Addr} {w hh dw c2 c3 c4 : Addr × Obj} {ol o5 o6 o7 o8 o9 ob : Obj} {tl' : List (Addr × Obj)} (hne : ∀ p ∈ tl', ∀ q ∈ [w, hh, (Dl, ol), dw, c2, c3, c4, (A5, o5), (A6, o6), (A7, o7), (A8, o8), (A9, o9)], q.1 ≠ p.1)
    (h : @LT.lt Nat _ Dl l1 ∧ @LT.lt Nat _ A5 l1 ∧ @LT.lt Nat _ A6 l1 ∧ @LT.lt Nat _ A7 l1 ∧ @LT.lt Nat _ A8 l1 ∧ @LT.lt Nat _ A9 l1) : Apart ((l1, ob) :: tl') [Dl, A5, A6, A7, A8, A9] := by
  obtain ⟨a, b, c, d, e, f⟩ := h
  intro p hp x hx
  simp only [List.mem_cons, List.not_mem_nil, or_false] at hx
  rcases List.mem_cons.mp hp with rfl | hp
  · rcases hx with rfl | rfl | rfl | rfl | rfl | rfl
    · exact Nat.ne_of_lt a
    · exact Nat.ne_of_lt b
    · exact Nat.ne_of_lt c
    · exact Nat.ne_of_lt d
    · exact Nat.ne_of_lt e
    · exact Nat.ne_of_lt f
  · rcases hx with rfl | rfl | rfl | rfl | rfl | rfl
    all_goals exact hne p hp (_, _) (by repeat (first | exact .head _ | refine List.Mem.tail _ ?_))

theorem turn_names {h₀ h : Heap} {L l1 : Addr} {x : Int} {y : Str} {tx ty : Tok} {k : Nat} {t d9 ll d7 w hh dl dw c2 c3 c4 c5 c6 c7 c8 c9 : Addr × Obj} {tl : List (Addr × Obj)} (N : News h₀ L h (t :: d9 :: ll :: (l1, listOf #[.int x tx, .str y ty] k) :: d7 :: w :: hh :: dl :: dw :: c2 :: c3 :: c4 :: c5 :: c6 :: c7 :: c8 :: c9 :: tl)) :
    ∃ (l1' : Addr) (tm tw : Tok), l1' = l1 ∧ News h₀ L h (d9 :: dl :: dw :: c2 :: c3 :: c4 :: c5 :: c6 :: c7 :: c8 :: c9 :: (l1', listOf #[.int x tm, .str y tw] k) :: tl) := ⟨l1, tx, ty, rfl, turn_cut N⟩
end Mine
namespace Mine
theorem after_cut {h₀ h : Heap} {L : Addr} {dr dl dw c2 c3 c4 c5 c6 c7 c8 c9 : Addr × Obj} {tl : List (Addr × Obj)} (N : News h₀ L h (dr :: dl :: dw :: c2 :: c3 :: c4 :: c5 :: c6 :: c7 :: c8 :: c9 :: tl)) : News h₀ L h [dl, dw, c2, c3, c4, c7, c8, c9] := news_sub N (by (repeat refine List.forall_mem_cons.mpr ⟨by k_mem, ?_⟩); first | exact List.forall_mem_nil _ | (intro p hp; repeat (first | exact hp | refine List.Mem.tail _ ?_)))
theorem end_facts {S : Nat} {wsN lz : List Nat} {nr : List NR} {c a : Nat} (g : goodFrom S wsN 0 nr lz c a = true) : lz.length = S ∧ c = dot wsN lz ∧ (∀ l ∈ lz, l ≤ S) ∧ kraft S lz = 2 ^ S ∧ ∀ o ∈ okL S, c ≤ dot wsN o := by
  have g' : (Nat.beq lz.length S && goodEnd S wsN lz c) = true := g
  unfold goodEnd at g'
  simp only [Bool.and_eq_true, List.all_eq_true] at g'
  obtain ⟨g1, ⟨⟨g2, g3⟩, g4⟩, g5⟩ := g'
  exact ⟨Nat.eq_of_beq_eq_true g1, Nat.eq_of_beq_eq_true g2, fun l hl => Nat.le_of_ble_eq_true (g3 l hl), Nat.eq_of_beq_eq_true g4, fun o ho => Nat.le_of_ble_eq_true (g5 o ho)⟩
theorem dot_mono : ∀ (w t o : List Nat), below t o = true → dot w t ≤ dot w o
  | [], _, _, _ => by unfold dot; exact Nat.zero_le _
  | _ :: _, [], _, _ => by unfold dot; exact Nat.zero_le _
  | w :: ws, t :: ts, [], h => by cases h
  | w :: ws, t :: ts, o :: os, h => by
    have h' : (Nat.ble t o && below ts os) = true := h
    rw [Bool.and_eq_true] at h'
    show w * t + dot ws ts ≤ w * o + dot ws os
    exact Nat.add_le_add (Nat.mul_le_mul_left _ (Nat.le_of_ble_eq_true h'.1)) (dot_mono ws ts os h'.2)
theorem best {S : Nat} {wsN : List Nat} {c : Nat} (h2 : 2 ≤ S) (h4 : S ≤ 4) (hb : ∀ o ∈ okL S, c ≤ dot wsN o) {o : List Nat} (hl : o.length = S) (ho : ∀ x ∈ o, 1 ≤ x ∧ x ≤ S - 1) (hk : kraft S o ≤ 2 ^ S) : c ≤ dot wsN o := by
  have hv : o ∈ okV S := List.mem_filter.mpr ⟨vecs_mem o (S - 1) S hl ho, Nat.ble_eq_true_of_le hk⟩
  have ha : ((okV S).all fun o => (okL S).any fun t => below t o) = true := by
    rcases (by omega : S = 2 ∨ S = 3 ∨ S = 4) with rfl | rfl | rfl
    · exact ok2
    · exact ok3
    · exact ok4
  obtain ⟨t, ht, hbl⟩ := List.any_eq_true.mp (List.all_eq_true.mp ha o hv)
  exact Nat.le_trans (hb t ht) (dot_mono wsN t o hbl)
noncomputable def prodsZ (a b : List Nat) (i : Nat) : List Int := (List.range i).map fun (j : Nat) => (inZ a).getD (0 + (j : Int) * 1).toNat 0 * (inZ b).getD (0 + (j : Int) * 1).toNat 0
theorem prods_succ (a b : List Nat) (i : Nat) : prodsZ a b (i + 1) = prodsZ a b i ++ [(inZ a).getD (0 + (i : Int) * 1).toNat 0 * (inZ b).getD (0 + (i : Int) * 1).toNat 0] := by
  unfold prodsZ; rw [List.range_succ, List.map_append]; rfl
theorem prods_dot : ∀ (a b : List Nat), a.length = b.length → (((List.range a.length).map fun (j : Nat) => (inZ a).getD j 0 * (inZ b).getD j 0).sum : Int) = ((dot a b : Nat) : Int)
  | [], [], _ => rfl
  | x :: a, y :: b, h => by
    have ih := prods_dot a b (by simpa using h)
    rw [List.length_cons, List.range_succ_eq_map, List.map_cons, List.map_map, List.sum_cons]
    show ((x : Int) * (y : Int) + (List.map (fun (j : Nat) => (inZ a).getD j 0 * (inZ b).getD j 0) (List.range a.length)).sum) = _
    rw [ih]
    show _ = ((x * y + dot a b : Nat) : Int)
    rw [Int.natCast_add, Int.natCast_mul]
  | [], _ :: _, h => by cases h
  | _ :: _, [], h => by cases h
theorem prods_sum {S : Nat} {a b : List Nat} (ha : a.length = S) (hb : b.length = S) : (prodsZ a b S).sum = ((dot a b : Nat) : Int) := by
  subst ha
  rw [← prods_dot a b hb.symm]
  unfold prodsZ
  refine congrArg List.sum (List.map_congr_left fun j _ => ?_)
  rw [show (0 + (j : Int) * 1).toNat = j by omega]
theorem kraft_sum (S : Nat) (l : List Nat) : ((inZ l).map fun x => (2 : Int) ^ ((S : Int) - x).toNat).sum = ((kraft S l : Nat) : Int) := by
  induction l with
  | nil => rfl
  | cons x l ih =>
    show (2 : Int) ^ ((S : Int) - (x : Int)).toNat + ((inZ l).map fun x => (2 : Int) ^ ((S : Int) - x).toNat).sum = ((2 ^ (S - x) + kraft S l : Nat) : Int)
    rw [ih, show ((S : Int) - (x : Int)).toNat = S - x by omega, Int.natCast_add, Int.natCast_pow]; rfl
theorem inZ_mem {S : Nat} {l : List Nat} (h : ∀ x ∈ l, x ≤ S) : ∀ z ∈ inZ l, 0 ≤ z ∧ z ≤ (S : Int) := by
  intro z hz
  obtain ⟨x, hx, rfl⟩ := List.mem_map.mp hz
  have := h x hx
  show 0 ≤ (x : Int) ∧ (x : Int) ≤ S
  omega

theorem getD_le {l : List Nat} {S : Nat} (h : ∀ x ∈ l, x ≤ S) (j : Nat) : 0 ≤ (inZ l).getD j 0 ∧ (inZ l).getD j 0 ≤ (S : Int) := by
  rw [List.getD_eq_getElem?_getD]
  cases e : (inZ l)[j]? with
  | none => exact ⟨Int.le_refl _, Int.natCast_nonneg _⟩
  | some z => exact inZ_mem h z (List.mem_of_getElem? e)
theorem mulOk_getD {l : List Nat} {S j : Nat} {a : Int} (h : ∀ x ∈ l, x ≤ S) (h4 : S ≤ 4) : IntMulOk a ((inZ l).getD j 0) := by
  have := getD_le h j
  exact IntMulOk.of_right (PySem.intBits_le_64 (by omega) (by omega))
end Mine
namespace Mine
theorem kinds_pow {S : Nat} (h : 1 ≤ S) : ((S : Int) - 1) ^ (S : Int).toNat = (((S - 1) ^ S : Nat) : Int) := by
  rw [Int.toNat_natCast, Int.natCast_pow, show ((S : Int) - 1) = ((S - 1 : Nat) : Int) by omega]
theorem kinds_range {S : Nat} (h2 : 2 ≤ S) (h4 : S ≤ 4) : 1 ≤ (S - 1) ^ S ∧ (S - 1) ^ S ≤ 81 := by
  rcases (by omega : S = 2 ∨ S = 3 ∨ S = 4) with rfl | rfl | rfl <;> decide
theorem nums_cut {h₀ h : Heap} {L A7 : Addr} {o7 : Obj} {d8 d7 dl dw c2 c3 c4 c8 c9 : Addr × Obj} (N : News h₀ L h [d8, d7, dl, dw, c2, c3, c4, (A7, o7), c8, c9]) : ∃ p7, p7 = o7 ∧ News h₀ L h [dw, c2, c3, (A7, p7), c8, c9] := ⟨o7, rfl, news_sub N (by (repeat refine List.forall_mem_cons.mpr ⟨by k_mem, ?_⟩); first | exact List.forall_mem_nil _ | (intro p hp; repeat (first | exact hp | refine List.Mem.tail _ ?_)))⟩
noncomputable def othZ (S num i : Nat) : List Int := (List.range i).map fun (j : Nat) => 1 + ((0 + (num : Int)).fdiv (((S : Int) - 1) ^ (0 + (j : Int) * 1).toNat)).fmod ((S : Int) - 1)
noncomputable def othN (S num : Nat) : List Nat := (List.range S).map fun (j : Nat) => 1 + num / (S - 1) ^ j % (S - 1)
theorem oth_succ (S num i : Nat) : othZ S num (i + 1) = othZ S num i ++ [1 + ((0 + (num : Int)).fdiv (((S : Int) - 1) ^ (0 + (i : Int) * 1).toNat)).fmod ((S : Int) - 1)] := by
  unfold othZ; rw [List.range_succ, List.map_append]; rfl
theorem oth_eq {S : Nat} (h2 : 2 ≤ S) (num : Nat) : othZ S num S = inZ (othN S num) := by
  unfold othZ othN inZ
  rw [List.map_map]
  refine List.map_congr_left fun j _ => ?_
  show _ = ((1 + num / (S - 1) ^ j % (S - 1) : Nat) : Int)
  rw [show (0 + (j : Int) * 1).toNat = j by omega, show ((S : Int) - 1) = ((S - 1 : Nat) : Int) by omega, Int.zero_add, ← Int.natCast_pow, Int.fdiv_eq_ediv_of_nonneg _ (Int.natCast_nonneg _), ← Int.natCast_ediv, Int.fmod_eq_emod_of_nonneg _ (Int.natCast_nonneg _), ← Int.natCast_emod, Int.natCast_add]
  rfl
theorem oth_len (S num : Nat) : (othN S num).length = S := by unfold othN; rw [List.length_map, List.length_range]
theorem oth_mem {S : Nat} (h2 : 2 ≤ S) (num : Nat) : ∀ x ∈ othN S num, 1 ≤ x ∧ x ≤ S - 1 := by
  intro x hx
  obtain ⟨j, _, rfl⟩ := List.mem_map.mp hx
  have := Nat.mod_lt (num / (S - 1) ^ j) (show S - 1 > 0 by omega)
  omega
theorem kpow_ne {S : Nat} (h2 : 2 ≤ S) (n : Nat) : ((S : Int) - 1) ^ n ≠ 0 := by
  have : (0 : Int) < ((S : Int) - 1) ^ n := Int.pow_pos (by omega)
  omega
/-- the law's last question, for each number -/
theorem best_num {S : Nat} {wsN : List Nat} {c : Nat} (h2 : 2 ≤ S) (h4 : S ≤ 4) (hl : wsN.length = S) (hb : ∀ o ∈ okL S, c ≤ dot wsN o) (num : Nat)
    (hk : ((inZ (othN S num)).map fun x => (2 : Int) ^ ((S : Int) - x).toNat).sum ≤ (2 : Int) ^ (S : Int).toNat) : (c : Int) ≤ (prodsZ wsN (othN S num) S).sum := by
  rw [prods_sum hl (oth_len S num)]
  rw [kraft_sum, Int.toNat_natCast] at hk
  have hk' : kraft S (othN S num) ≤ 2 ^ S := by
    have e : (2 : Int) ^ S = ((2 ^ S : Nat) : Int) := by rw [Int.natCast_pow]; rfl
    rw [e] at hk
    exact Int.ofNat_le.mp hk
  exact Int.ofNat_le.mpr (best h2 h4 hb (oth_len S num) (oth_mem h2 num) hk')
end Mine
namespace Mine
theorem nums_back2 {h₀ h : Heap} {L : Addr} {x8 x7 it a b c d e f : Addr × Obj} (N : News h₀ L h [x8, x7, it, a, b, c, d, e, f]) : News h₀ L h [it, a, b, c, d, e, f] := news_sub N fun p hp => .tail _ (.tail _ hp)
theorem nums_back3 {h₀ h : Heap} {L : Addr} {x9 x8 x7 it a b c d e f : Addr × Obj} (N : News h₀ L h [x9, x8, x7, it, a, b, c, d, e, f]) : News h₀ L h [it, a, b, c, d, e, f] := news_sub N fun p hp => .tail _ (.tail _ (.tail _ hp))
theorem oth_le {S : Nat} (h2 : 2 ≤ S) (num : Nat) : ∀ x ∈ othN S num, x ≤ S := fun x hx => by
  have := oth_mem h2 num x hx
  omega
theorem hi_nn (i : Nat) : (0 : Int) ≤ 0 + (i : Int) * 1 := by omega
theorem hi_lt {i S : Nat} (h : i < S) : 0 + (i : Int) * 1 < (S : Int) := by omega
theorem s63 {S : Nat} (h4 : S ≤ 4) : (S : Int) < 2 ^ 63 := by omega
theorem pw_a {S : Nat} {z : Int} (h : z ≤ (S : Int)) : 0 ≤ (S : Int) - z := by omega
theorem pw_b {S : Nat} {x : Int} (h : x < (S : Int)) (h4 : S ≤ 4) : x ≤ 1000000 := by omega
theorem pw_c {S : Nat} {z : Int} (h : 0 ≤ z) (h4 : S ≤ 4) : (S : Int) - z ≤ 1000000 := by omega
theorem pw_d {S : Nat} (h4 : S ≤ 4) : (S : Int) ≤ 1000000 := by omega
theorem pw_e {S : Nat} (h2 : 2 ≤ S) (h4 : S ≤ 4) : ((S : Int) - 1).natAbs < 2 ^ 64 := by omega
end Mine
namespace Mine
theorem In_app {K K' X : Frag} {h : Heap} (e : K' = K ++ X) (H : K'.In h) : K.In h := fun a o l => H a o (by rw [e, List.lookup_append, l]; rfl)
theorem Tell.over {rw : OpenLaw} {K K' : Params → Frag} {v v' : Program} {w : World} {mean : ExcName → Option Value} {mg mb : Str → Option Value} {f : Addr} {news : List (Addr × Obj)} {vs : List Value} {room : Nat} {Post : Value → List (Addr × Obj) → Prop} (hv : v' = v) (hK : ∀ P h, (K' P).In h → (K P).In h)
    (C : Tell rw K v w mean mg mb f news vs room Post) : Tell rw K' v' w mean mg mb f news vs room Post := by
  subst hv
  exact fun _ _ _ _ _ _ _ _ _ _ _ _ _ _ _ _ _ B F X N T hk hd hu ret => C _ _ _ _ _ _ _ _ _ _ _ _ _ _ _ _ _ B F (hK _ _ X) N T hk hd hu ret
theorem Tell1.over {rw : OpenLaw} {K K' : Params → Frag} {v v' : Program} {w : World} {mean : ExcName → Option Value} {mg mb : Str → Option Value} {f : Addr} {news : List (Addr × Obj)} {vs : List Value} {room : Nat} {Post : Value → List (Addr × Obj) → Prop} (hv : v' = v) (hK : ∀ P h, (K' P).In h → (K P).In h)
    (C : Tell1 rw K v w mean mg mb f news vs room Post) : Tell1 rw K' v' w mean mg mb f news vs room Post := by
  subst hv
  exact fun _ _ _ _ _ _ _ _ _ _ _ _ _ _ _ _ _ B F X N T hk hd hu ret => C _ _ _ _ _ _ _ _ _ _ _ _ _ _ _ _ _ B F (hK _ _ X) N T hk hd hu ret
end Mine
namespace Mine
inductive Md : Nat → Prop
  | mk (n : Nat) : Md n
inductive Mk : String → Prop
  | mk (s : String) : Mk s
/-- a place where the walk stands still, and at which key -/
def StopK (_s : String) (P : Prop) : Prop := P
theorem StopK.at {s : String} {P : Prop} (_ : Mk s) (h : StopK s P) : P := h
theorem StopK.of {s : String} {P : Prop} (h : P) : StopK s P := h
noncomputable def pre.tw4887514350273250649 : Nat := 0
noncomputable def pre.tw16371260290275725889 : Nat := 0
noncomputable def pre.tw590388290315067818 : Nat := 0
noncomputable def pre.tw15251814650327888966 : Nat := 0
noncomputable def pre.tw3094614900183604011 : Nat := 0
noncomputable def pre.tw11675234922344106460 : Nat := 0
noncomputable def pre.tw9001571587346983591 : Nat := 0
noncomputable def pre.tw934571974075478693 : Nat := 0
noncomputable def pre.tw18247901484762628050 : Nat := 0
noncomputable def pre.tw6593665237866740819 : Nat := 0
noncomputable def pre.tw16857692971724807165 : Nat := 0
noncomputable def pre.tw15846384593253705126 : Nat := 0
noncomputable def pre.tw10626571451207548414 : Nat := 0
noncomputable def pre.tw15682358330647478352 : Nat := 0
noncomputable def pre.tw13161615724015066127 : Nat := 0
noncomputable def pre.tw3681543890572719473 : Nat := 0
noncomputable def pre.tw16405991477785959986 : Nat := 0
noncomputable def pre.tw6615631486209965517 : Nat := 0
noncomputable def pre.tw5105748471666761287 : Nat := 0
noncomputable def pre.tw2570518636118495876 : Nat := 0
noncomputable def pre.tw5915181514357443041 : Nat := 0
noncomputable def pre.tw2228330938466492814 : Nat := 0
noncomputable def pre.tw8930836413682506088 : Nat := 0
noncomputable def pre.tw238663504596359270 : Nat := 0
noncomputable def pre.tw7227131079710277698 : Nat := 0
noncomputable def pre.tw3744368537293892124 : Nat := 0
noncomputable def pre.tw13233266800153922966 : Nat := 0
noncomputable def pre.tw899124743068861042 : Nat := 0
noncomputable def pre.tw11686044155741065774 : Nat := 0
noncomputable def pre.tw7564766255729297416 : Nat := 0
noncomputable def pre.tw6887083531147954808 : Nat := 0
noncomputable def pre.tw15489355944739424747 : Nat := 0
noncomputable def pre.tw5167664360043482673 : Nat := 0
noncomputable def pre.tw191430818103548243 : Nat := 0
noncomputable def pre.tw11118472615564045499 : Nat := 0
noncomputable def pre.tw512931023691214685 : Nat := 0
noncomputable def pre.tw9293138973955870494 : Nat := 0
noncomputable def pre.tw7071967163186138058 : Nat := 0
noncomputable def pre.tw13663304939719888959 : Nat := 0
noncomputable def pre.tw963679378083677624 : Nat := 0
noncomputable def pre.tw7744840787576684945 : Nat := 0
noncomputable def pre.tw16520217711010471092 : Nat := 0
noncomputable def pre.tw4067389917850719585 : Nat := 0
noncomputable def pre.tw2035697669160248337 : Nat := 0
noncomputable def pre.tw6402240875009053170 : Nat := 0
noncomputable def pre.tw17670664521834963977 : Nat := 0
noncomputable def pre.tw11701290255382674204 : Nat := 0
noncomputable def pre.tw17947361977853104736 : Nat := 0
noncomputable def pre.tw7615275554976931207 : Nat := 0
noncomputable def pre.tw5510518022562020494 : Nat := 0
noncomputable def pre.tw2147516935554881526 : Nat := 0
noncomputable def pre.tw13048787070281555549 : Nat := 0
noncomputable def pre.tw2834345416658533467 : Nat := 0
noncomputable def pre.tw6737512137890597438 : Nat := 0
noncomputable def pre.tw13985651320828149354 : Nat := 0
noncomputable def pre.tw1237946256674663812 : Nat := 0
noncomputable def pre.tw6984639926880643421 : Nat := 0
noncomputable def pre.tw18334436613972320873 : Nat := 0
noncomputable def pre.tw1891802886393711113 : Nat := 0
noncomputable def pre.tw17127464042920951563 : Nat := 0
noncomputable def pre.tw13517933958026703327 : Nat := 0
noncomputable def pre.tw7027690882501090706 : Nat := 0
noncomputable def pre.tw10725728843894480583 : Nat := 0
noncomputable def pre.tw1873049638177181067 : Nat := 0
noncomputable def pre.tw7559264692432220869 : Nat := 0
noncomputable def pre.tw10408196067039045116 : Nat := 0
noncomputable def pre.tw7775569735545919436 : Nat := 0
noncomputable def pre.tw12349771046557744352 : Nat := 0
noncomputable def pre.tw10895488247777486873 : Nat := 0
noncomputable def pre.tw8729141346455856134 : Nat := 0
noncomputable def pre.tw14177746915815934671 : Nat := 0
noncomputable def pre.tw456585482795024358 : Nat := 0
noncomputable def pre.tw3539868169495542887 : Nat := 0
noncomputable def pre.tw2302775849342015749 : Nat := 0
noncomputable def pre.tw17070133332105845622 : Nat := 0
noncomputable def pre.tw8960298273192479886 : Nat := 0
noncomputable def pre.tw3331293935044646375 : Nat := 0
noncomputable def pre.tw14504007709385416882 : Nat := 0
noncomputable def pre.tw8138631344701588614 : Nat := 0
noncomputable def pre.tw1847581664246446794 : Nat := 0
noncomputable def pre.tw13839825171144383216 : Nat := 0
noncomputable def pre.tw9315323111575073388 : Nat := 0
noncomputable def pre.tw10832435889686368783 : Nat := 0
noncomputable def pre.tw13305933163451760600 : Nat := 0
noncomputable def pre.tw12058416156572183381 : Nat := 0
noncomputable def pre.tw5265556644796053535 : Nat := 0
noncomputable def pre.tw18027193599098250407 : Nat := 0
noncomputable def pre.tw13155615532978356968 : Nat := 0
noncomputable def pre.tw13924473152081393076 : Nat := 0
noncomputable def pre.tw1936523389482728524 : Nat := 0
noncomputable def pre.tw698346005061455353 : Nat := 0
noncomputable def pre.tw8301558168250483144 : Nat := 0
noncomputable def pre.tw8406826420958275948 : Nat := 0
noncomputable def pre.tw7264331424420516383 : Nat := 0
noncomputable def pre.tw3212569548485266367 : Nat := 0
noncomputable def pre.tw7334018516034364861 : Nat := 0
noncomputable def pre.tw18054555041288306801 : Nat := 0
noncomputable def pre.tw3653203284003021278 : Nat := 0
noncomputable def pre.tw8089614636097026548 : Nat := 0
noncomputable def pre.tw9571515539528028750 : Nat := 0
noncomputable def pre.tw12660056702362669563 : Nat := 0
noncomputable def pre.tw4076518906421193238 : Nat := 0
noncomputable def pre.tw10584150303738031772 : Nat := 0
noncomputable def pre.tw4251858453314251639 : Nat := 0
noncomputable def pre.tw3583441638673829862 : Nat := 0
noncomputable def pre.tw12109822677291299447 : Nat := 0
noncomputable def pre.tw15123789955226152525 : Nat := 0
noncomputable def pre.tw2142029966526130302 : Nat := 0
noncomputable def pre.tw12633947648045723924 : Nat := 0
noncomputable def pre.tw12354323748567133018 : Nat := 0
noncomputable def pre.tw17224984220818489609 : Nat := 0
noncomputable def pre.tw124356168213406971 : Nat := 0
noncomputable def pre.tw15577061551490466234 : Nat := 0
noncomputable def pre.tw2346428165239446087 : Nat := 0
noncomputable def pre.tw11967863500246565877 : Nat := 0
noncomputable def pre.tw3780960313077853262 : Nat := 0
noncomputable def pre.tw10534597610666090110 : Nat := 0
noncomputable def pre.tw8274623536164426032 : Nat := 0
noncomputable def pre.tw17434239335780912936 : Nat := 0
noncomputable def pre.tw6431232979522229623 : Nat := 0
noncomputable def pre.tw5147264164118438643 : Nat := 0
noncomputable def pre.tw12010930066579576610 : Nat := 0
noncomputable def pre.tw9163486881185348833 : Nat := 0
noncomputable def pre.tw15368396088340907196 : Nat := 0
noncomputable def pre.tw9453402838058930433 : Nat := 0
noncomputable def pre.tw14898805574407847723 : Nat := 0
noncomputable def pre.tw15217727220281956571 : Nat := 0
noncomputable def pre.tw13702654961898353498 : Nat := 0
noncomputable def pre.tw4579400933631224890 : Nat := 0
noncomputable def pre.tw6492504938478613368 : Nat := 0
noncomputable def pre.tw28029345213723098 : Nat := 0
noncomputable def pre.tw10125758760863536837 : Nat := 0
noncomputable def pre.tw9755709050763076478 : Nat := 0
noncomputable def pre.tw8646183201884414562 : Nat := 0
noncomputable def pre.tw13798339373520121222 : Nat := 0
noncomputable def pre.tw7316099461249669598 : Nat := 0
noncomputable def pre.tw6695662797832715526 : Nat := 0
noncomputable def pre.tw5532335634301144135 : Nat := 0
noncomputable def pre.tw2204125747762997160 : Nat := 0
noncomputable def pre.tw1957200725488321114 : Nat := 0
noncomputable def pre.tw1167468095371924960 : Nat := 0
noncomputable def pre.tw11422953727881016366 : Nat := 0
noncomputable def pre.tw16830677165564596964 : Nat := 0
noncomputable def pre.tw13207373630104666366 : Nat := 0
noncomputable def pre.tw2256743641975187207 : Nat := 0
noncomputable def pre.tw9948208398504503780 : Nat := 0
noncomputable def pre.tw578446559104950318 : Nat := 0
noncomputable def pre.tw4936351757903562790 : Nat := 0
noncomputable def pre.tw12464593357960378961 : Nat := 0
noncomputable def pre.tw18151825547678234113 : Nat := 0
noncomputable def pre.tw12723660185843396471 : Nat := 0
noncomputable def pre.tw15625995988735854195 : Nat := 0
noncomputable def pre.tw11632232044515301145 : Nat := 0
noncomputable def pre.tw7190905415377987725 : Nat := 0
noncomputable def pre.tw14795137245576490350 : Nat := 0
noncomputable def pre.tw2793876952464144092 : Nat := 0
noncomputable def pre.tw6075171507606715781 : Nat := 0
noncomputable def pre.tw6170148345488586343 : Nat := 0
noncomputable def pre.tw17454632208202312435 : Nat := 0
noncomputable def pre.tw12600001335209363398 : Nat := 0
noncomputable def pre.tw14967782790706212462 : Nat := 0
noncomputable def pre.tw5504704829203286782 : Nat := 0
noncomputable def pre.tw13503923098360568469 : Nat := 0
noncomputable def pre.tw16187767858317590155 : Nat := 0
noncomputable def pre.tw14628187420673343983 : Nat := 0
noncomputable def pre.tw1083846401382969032 : Nat := 0
noncomputable def pre.tw17951621792752003255 : Nat := 0
noncomputable def pre.tw15364903961692622375 : Nat := 0
noncomputable def pre.tw16614349812334507722 : Nat := 0
noncomputable def pre.tw246745258367748990 : Nat := 0
noncomputable def pre.tw15693231618869550497 : Nat := 0
noncomputable def pre.tw3142542386609302197 : Nat := 0
noncomputable def pre.tw8113819696807641309 : Nat := 0
noncomputable def pre.tw17747810498848355795 : Nat := 0
noncomputable def pre.tw13676013984246606415 : Nat := 0
noncomputable def pre.tw9271824920137149763 : Nat := 0
noncomputable def pre.tw16009375183914227583 : Nat := 0
noncomputable def pre.tw18320262050320308368 : Nat := 0
noncomputable def pre.tw6027166026388233240 : Nat := 0
noncomputable def pre.tw9966088280660723746 : Nat := 0
noncomputable def pre.tw2397827621436535734 : Nat := 0
noncomputable def pre.tw18353081439011116257 : Nat := 0
noncomputable def pre.tw12601736412296754624 : Nat := 0
noncomputable def pre.tw8807187873865674685 : Nat := 0
noncomputable def pre.tw9181419433902100537 : Nat := 0
noncomputable def pre.tw18236615629503518134 : Nat := 0
noncomputable def pre.tw2749649739559614557 : Nat := 0
noncomputable def pre.tw12465533948053986477 : Nat := 0
noncomputable def pre.tw2165444987737528205 : Nat := 0
noncomputable def pre.tw2309899933897382748 : Nat := 0
noncomputable def pre.tw235555817698774555 : Nat := 0
noncomputable def pre.tw1558150184486289097 : Nat := 0
noncomputable def pre.tw8779621719248428499 : Nat := 0
noncomputable def pre.tw13344253833810582256 : Nat := 0
noncomputable def pre.tw15552298541256452641 : Nat := 0
noncomputable def pre.tw10842554608732231118 : Nat := 0
noncomputable def pre.tw1134953709659117593 : Nat := 0
noncomputable def pre.tw4886116117891900527 : Nat := 0
noncomputable def pre.tw6585939558152295258 : Nat := 0
def rw0 : OpenRow := { PySem.Challenge.rw_xm0946_01.row with name := Str.ofString "sorted_array", args := [.none, .int, .bool, .int], returns := .none, pre := .lit (.bool true), post := .lit (.bool true) }
set_option Elab.async true
set_option maxRecDepth 100000 in
set_option maxHeartbeats 400000000 in
theorem pre : rw0.Holds := by
  w_on
  first | o_law | skip
  k_head
  case hw => w_witness2
  w_strict k_go

set_option Elab.async false
local macro_rules | `(tactic| ktr_units) => `(tactic| (have hcL9 := cLine_is; (try simp only [units_make, units_in1, units_deeper, Around.mark_units, units_caller] at *); (try dsimp only [ktrTop] at *); omega))
local macro_rules | `(tactic| k_room) => `(tactic| ktr_room)
local macro_rules | `(tactic| k_lt $h:ident) => `(tactic| (replace $h := allLt_of $h; dsimp only [AllLt] at $h:ident))
local macro_rules | `(tactic| k_ne) => `(tactic| (with_reducible show @LT.lt Nat _ _ _; rename (_ < _ ∧ _) => lc; first | with_reducible exact lc.1 | with_reducible exact lc.2.1 | with_reducible exact lc.2.2.1 | with_reducible exact lc.2.2.2.1 | with_reducible exact lc.2.2.2.2.1 | with_reducible exact lc.2.2.2.2.2.1 | with_reducible exact lc.2.2.2.2.2.2.1 | with_reducible exact lc.2.2.2.2.2.2.2.1 | with_reducible exact lc.2.2.2.2.2.2.2.2.1 | with_reducible exact lc.2.2.2.2.2.2.2.2.2.1 | with_reducible exact lc.2.2.2.2.2.2.2.2.2.2.1 | with_reducible exact lc.2.2.2.2.2.2.2.2.2.2.2.1 | with_reducible exact lc.2.2.2.2.2.2.2.2.2.2.2.2.1 | with_reducible exact lc.2.2.2.2.2.2.2.2.2.2.2.2.2.1 | with_reducible exact lc.2.2.2.2.2.2.2.2.2.2.2.2.2.2.1 | with_reducible exact lc.2.2.2.2.2.2.2.2.2.2.2.2.2.2.2.1 | with_reducible exact lc.2.2.2.2.2.2.2.2.2.2.2.2.2.2.2.2.1 | with_reducible exact lc.2.2.2.2.2.2.2.2.2.2.2.2.2.2.2.2.2.1 | (clear lc; k_ne)))
local macro_rules | `(tactic| k_ne) => `(tactic| (refine neN ?_; (try dsimp only); first | assumption | (refine Ne.symm ?_; assumption) | (refine Nat.ne_of_lt ?_; (repeat (first | (with_reducible exact Nat.lt_add_one _) | (with_reducible refine Nat.lt_add_one_of_lt ?_))); done) | (refine Nat.ne_of_gt ?_; (repeat (first | (with_reducible exact Nat.lt_add_one _) | (with_reducible refine Nat.lt_add_one_of_lt ?_))); done) | (refine Nat.ne_of_gt ?_; first | assumption | k_ne) | (refine Nat.ne_of_lt ?_; first | assumption | k_ne) | omega))
local macro_rules | `(tactic| ktr_units) => `(tactic| (simp only [units_make, units_in1, units_deeper, Around.mark_units, units_caller]; (try dsimp only [ktrTop]); rw [cLine_is]; decide))
local macro_rules | `(tactic| ktr_room) => `(tactic| decide)

local macro_rules | `(tactic| walk_at $s:str) => `(tactic| (with_reducible refine StopK.at (s := $s) ?_ ?_; (focus with_reducible assumption)))
section
set_option maxRecDepth 100000
set_option maxHeartbeats 40000000
section

theorem order_mark_c (w : World) (mean : ExcName → Option Value) (mg mb : Str → Option Value) (news : List (Addr × Obj)) (x : Int) (tx : Tok) :
    Tell PySem.Challenge.rw_xm0946_01 Mine.pre.heap_1_1 Mine.pre.view_1_2 w mean mg mb 268 news [.int x tx] 2 (fun r tl => ∃ t t0 t1, r = .ref t ∧ tl = [(t, { cls := .type "tuple", data := .seq #[.int 0 t0, .int x tx, .str (Str.ofString "") t1] })]) := by
  unfold Tell
  w_on
  k_fill
  intro dp un gd cn cs a ccd cl outer A₀ base h₀ L m s Q E B F X N T hk hd hu hret
  have hMkCallRef : Mk "call ref" := .mk _
  have hMkCompareOpLtRefRef : Mk "compareOp Lt ref ref" := .mk _
  have hMkCompareOpGtRefRef : Mk "compareOp Gt ref ref" := .mk _
  refine wpAny_call ?_
  k_dflt (refine' code_def (binds := [(Str.ofString "value", .int x tx)]) B F X N T rfl rfl hk ?qk6 ?qk7 ?qk8 ?qk9 ?qkB ?_ ?qc2 ?qc3 ?qc4 ?qc5; ((case qk6 => k_is); (case qk7 => k_is); (case qk8 => ktr_room); (case qk9 => exact BindsTo.of_eq rfl); (case qc5 => decide); (case qkB => exact locs rfl); (case qc2 => exact rfl); (case qc3 => exact rfl); (case qc4 => exact rfl); intro g' L' h' FG' F' N' B' X' T'; dsimp only; k_fold))
  k_steps
  repeat' ((first | (first | ((with_reducible refine StopK.of (s := "call ref") ?_); first | (with_reducible ((k_here; k_dflt (refine' Tell.use (order_mark_c _ _ _ _ _ _ _) ?qk1 ?qk2 ?qk3 ?qk4 ?qk5 ?qkK ?qkd ?qku ?_; ((case qk1 => k_asm); (case qk2 => k_asm); (case qk3 => k_asm); (case qk4 => k_asm); (case qk5 => k_asm); (case qkK => first | exact rfl | assumption); (case qkd => ktr_room); (case qku => ktr_units))); intro r9 tl9 h9 tk9 F9 N9 l9 p9; obtain ⟨t9, u9, v9, e9, e8⟩ := p9; subst e9; subst e8; simp only [List.cons_append, List.nil_append] at N9; clear l9; (try dsimp only); (try k_fold)))) | ((k_here; k_dflt (refine' Tell.use (order_mark_c _ _ _ _ _ _ _) ?qk1 ?qk2 ?qk3 ?qk4 ?qk5 ?qkK ?qkd ?qku ?_; ((case qk1 => k_asm); (case qk2 => k_asm); (case qk3 => k_asm); (case qk4 => k_asm); (case qk5 => k_asm); (case qkK => first | exact rfl | assumption); (case qkd => ktr_room); (case qku => ktr_units))); intro r9 tl9 h9 tk9 F9 N9 l9 p9; obtain ⟨t9, u9, v9, e9, e8⟩ := p9; subst e9; subst e8; simp only [List.cons_append, List.nil_append] at N9; clear l9; (try dsimp only); (try k_fold))) | (rename Mk "call ref" => hMkCallRef; clear hMkCallRef; (first | walk1 | (dsimp only; walk1)) <;> have hMkCallRef : Mk "call ref" := .mk _)) | ((with_reducible refine StopK.of (s := "compareOp Lt ref ref") ?_); first | (with_reducible ((k_here; k_dflt (refine' tup3_lt ?a ?b ?u ?_; (case a => exact News.get (by k_asm) (by k_mem)); (case b => exact News.get (by k_asm) (by k_mem)); (case u => ktr_units))))) | ((k_here; k_dflt (refine' tup3_lt ?a ?b ?u ?_; (case a => exact News.get (by k_asm) (by k_mem)); (case b => exact News.get (by k_asm) (by k_mem)); (case u => ktr_units)))) | (rename Mk "compareOp Lt ref ref" => hMkCompareOpLtRefRef; clear hMkCompareOpLtRefRef; (first | walk1 | (dsimp only; walk1)) <;> have hMkCompareOpLtRefRef : Mk "compareOp Lt ref ref" := .mk _)) | ((with_reducible refine StopK.of (s := "compareOp Gt ref ref") ?_); first | (with_reducible ((k_here; k_dflt (refine' tup3_gt ?a ?b ?u ?_; (case a => exact News.get (by k_asm) (by k_mem)); (case b => exact News.get (by k_asm) (by k_mem)); (case u => ktr_units))))) | ((k_here; k_dflt (refine' tup3_gt ?a ?b ?u ?_; (case a => exact News.get (by k_asm) (by k_mem)); (case b => exact News.get (by k_asm) (by k_mem)); (case u => ktr_units)))) | (rename Mk "compareOp Gt ref ref" => hMkCompareOpGtRefRef; clear hMkCompareOpGtRefRef; (first | walk1 | (dsimp only; walk1)) <;> have hMkCompareOpGtRefRef : Mk "compareOp Gt ref ref" := .mk _))) | fail); k_steps)
  all_goals (try dsimp only)
  exact hret _ [_] _ _ (by assumption) (by assumption) (fun p hp q hq => by rw [List.mem_singleton.mp hp]; exact (by assumption : ∀ p ∈ news, p.1 < _) q hq) ⟨_, _, _, rfl, rfl⟩
theorem is_behind_c (w : World) (mean : ExcName → Option Value) (mg mb : Str → Option Value) (news : List (Addr × Obj)) (x y : Int) (tx ty : Tok) (d : Bool) :
    Tell PySem.Challenge.rw_xm0946_01 Mine.pre.heap_1_1 Mine.pre.view_1_2 w mean mg mb 282 news [.int x tx, .int y ty, .bool d] 4 (fun r tl => r = .bool (if d then decide (x < y) else decide (y < x)) ∧ tl = []) := by
  unfold Tell
  w_on
  k_fill
  intro dp un gd cn cs a ccd cl outer A₀ base h₀ L m s Q E B F X N T hk hd hu hret
  have hMkCallRef : Mk "call ref" := .mk _
  have hMkCompareOpLtRefRef : Mk "compareOp Lt ref ref" := .mk _
  have hMkCompareOpGtRefRef : Mk "compareOp Gt ref ref" := .mk _
  refine wpAny_call ?_
  k_dflt (refine' code_def (binds := [(Str.ofString "one", .int x tx), (Str.ofString "other", .int y ty), (Str.ofString "is_down", .bool d)]) B F X N T rfl rfl hk ?qk6 ?qk7 ?qk8 ?qk9 ?qkB ?_ ?qc2 ?qc3 ?qc4 ?qc5; ((case qk6 => k_is); (case qk7 => k_is); (case qk8 => ktr_room); (case qk9 => exact BindsTo.of_eq rfl); (case qc5 => decide); (case qkB => exact locs rfl); (case qc2 => exact rfl); (case qc3 => exact rfl); (case qc4 => exact rfl); intro g' L' h' FG' F' N' B' X' T'; dsimp only; k_fold))
  k_steps
  repeat' ((first | (first | ((with_reducible refine StopK.of (s := "call ref") ?_); first | (with_reducible ((k_here; k_dflt (refine' Tell.use (order_mark_c _ _ _ _ _ _ _) ?qk1 ?qk2 ?qk3 ?qk4 ?qk5 ?qkK ?qkd ?qku ?_; ((case qk1 => k_asm); (case qk2 => k_asm); (case qk3 => k_asm); (case qk4 => k_asm); (case qk5 => k_asm); (case qkK => first | exact rfl | assumption); (case qkd => ktr_room); (case qku => ktr_units))); intro r9 tl9 h9 tk9 F9 N9 l9 p9; obtain ⟨t9, u9, v9, e9, e8⟩ := p9; subst e9; subst e8; simp only [List.cons_append, List.nil_append] at N9; clear l9; (try dsimp only); (try k_fold)))) | ((k_here; k_dflt (refine' Tell.use (order_mark_c _ _ _ _ _ _ _) ?qk1 ?qk2 ?qk3 ?qk4 ?qk5 ?qkK ?qkd ?qku ?_; ((case qk1 => k_asm); (case qk2 => k_asm); (case qk3 => k_asm); (case qk4 => k_asm); (case qk5 => k_asm); (case qkK => first | exact rfl | assumption); (case qkd => ktr_room); (case qku => ktr_units))); intro r9 tl9 h9 tk9 F9 N9 l9 p9; obtain ⟨t9, u9, v9, e9, e8⟩ := p9; subst e9; subst e8; simp only [List.cons_append, List.nil_append] at N9; clear l9; (try dsimp only); (try k_fold))) | (rename Mk "call ref" => hMkCallRef; clear hMkCallRef; (first | walk1 | (dsimp only; walk1)) <;> have hMkCallRef : Mk "call ref" := .mk _)) | ((with_reducible refine StopK.of (s := "compareOp Lt ref ref") ?_); first | (with_reducible ((k_here; k_dflt (refine' tup3_lt ?a ?b ?u ?_; (case a => exact News.get (by k_asm) (by k_mem)); (case b => exact News.get (by k_asm) (by k_mem)); (case u => ktr_units))))) | ((k_here; k_dflt (refine' tup3_lt ?a ?b ?u ?_; (case a => exact News.get (by k_asm) (by k_mem)); (case b => exact News.get (by k_asm) (by k_mem)); (case u => ktr_units)))) | (rename Mk "compareOp Lt ref ref" => hMkCompareOpLtRefRef; clear hMkCompareOpLtRefRef; (first | walk1 | (dsimp only; walk1)) <;> have hMkCompareOpLtRefRef : Mk "compareOp Lt ref ref" := .mk _)) | ((with_reducible refine StopK.of (s := "compareOp Gt ref ref") ?_); first | (with_reducible ((k_here; k_dflt (refine' tup3_gt ?a ?b ?u ?_; (case a => exact News.get (by k_asm) (by k_mem)); (case b => exact News.get (by k_asm) (by k_mem)); (case u => ktr_units))))) | ((k_here; k_dflt (refine' tup3_gt ?a ?b ?u ?_; (case a => exact News.get (by k_asm) (by k_mem)); (case b => exact News.get (by k_asm) (by k_mem)); (case u => ktr_units)))) | (rename Mk "compareOp Gt ref ref" => hMkCompareOpGtRefRef; clear hMkCompareOpGtRefRef; (first | walk1 | (dsimp only; walk1)) <;> have hMkCompareOpGtRefRef : Mk "compareOp Gt ref ref" := .mk _))) | fail); k_steps)
  all_goals (try dsimp only)
  · exact hret _ [] _ _ (by assumption) (cb_drop (by assumption) fun p hp => .tail _ (.tail _ hp)) (fun p hp => nomatch hp) ⟨by simp_all, rfl⟩
  · exact hret _ [] _ _ (by assumption) (cb_drop (by assumption) fun p hp => .tail _ (.tail _ hp)) (fun p hp => nomatch hp) ⟨by simp_all, rfl⟩

end
section

theorem sorted_rows_c (w : World) (mean : ExcName → Option Value) (mg mb : Str → Option Value) (news : List (Addr × Obj)) (D : Addr) (kD : Nat) (rs : List (Addr × List Value)) (d : Bool) (t0 : Tok)
    (hD : (D, listOf (rs.map fun r => Value.ref r.1).toArray kD) ∈ news) (hrs : ∀ r ∈ rs, (∃ k, (r.1, listOf r.2.toArray k) ∈ news) ∧ ∃ x t e, r.2 = .int x t :: e) (hsz : rs.length ≤ 1000) :
    Tell PySem.Challenge.rw_xm0946_01 Mine.pre.heap_1_1 Mine.pre.view_1_2 w mean mg mb 275 news [.ref D, .int 0 t0, .bool d] 8 (fun r tl => ∃ D' k, r = .ref D' ∧ tl = [(D', listOf ((sortRows d rowKey rs).map fun r => Value.ref r.1).toArray k)]) := by
  unfold Tell
  w_on
  k_fill
  intro dp un gd cn cs a ccd cl outer A₀ base h₀ L m s Q E B F X N T hk hd hu hret
  have hMkCallBuiltinListInsert : Mk "call builtin:list.insert" := .mk _
  have hMkSubscriptTail : Mk "subscriptTail" := .mk _
  have hMkCallRef : Mk "call ref" := .mk _
  have hMkExecWhileBoolOpConsNil : Mk "exec While BoolOp cons nil" := .mk _
  have hMkCallBuiltinLen : Mk "call builtin:len" := .mk _
  refine wpAny_call ?_
  k_dflt (refine' code_def (binds := [(Str.ofString "rows", .ref D), (Str.ofString "column", .int 0 t0), (Str.ofString "is_down", .bool d)]) B F X N T rfl rfl hk ?qk6 ?qk7 ?qk8 ?qk9 ?qkB ?_ ?qc2 ?qc3 ?qc4 ?qc5; ((case qk6 => k_is); (case qk7 => k_is); (case qk8 => ktr_room); (case qk9 => exact BindsTo.of_eq rfl); (case qc5 => decide); (case qkB => exact locs rfl); (case qc2 => exact rfl); (case qc3 => exact rfl); (case qc4 => exact rfl); intro g' L' h' FG' F' N' B' X' T'; dsimp only; k_fold))
  k_steps
  repeat' ((first | (first | ((with_reducible refine StopK.of (s := "call builtin:list.insert") ?_); first | (with_reducible ((k_here; (try dsimp only [List.cons_append, List.nil_append]); (with_reducible show wpAny _ _ (call (Value.builtin _) [Value.ref _, Value.int _ _, _]) _ _ _); k_dflt (refine' kl_insert (l := (insRow d rowKey S r).map fun r => Value.ref r.1) ?qF ?qN ?qf ?qe ?qU ?qz ?_; (case qF => k_asm); (case qN => k_asm); (case qU => exact Upd.head hne); (case qf => exact g5); (case qe => first | exact ins_eq g6 (Nat.zero_le _) | exact ins_eq (by rw [hkx, ← hpos]; exact pos_stop (by rw [g7]; assumption)) hk1); (case qz => exact hz2)); intro h7 F7 N7))) | ((k_here; (try dsimp only [List.cons_append, List.nil_append]); (with_reducible show wpAny _ _ (call (Value.builtin _) [Value.ref _, Value.int _ _, _]) _ _ _); k_dflt (refine' kl_insert (l := (insRow d rowKey S r).map fun r => Value.ref r.1) ?qF ?qN ?qf ?qe ?qU ?qz ?_; (case qF => k_asm); (case qN => k_asm); (case qU => exact Upd.head hne); (case qf => exact g5); (case qe => first | exact ins_eq g6 (Nat.zero_le _) | exact ins_eq (by rw [hkx, ← hpos]; exact pos_stop (by rw [g7]; assumption)) hk1); (case qz => exact hz2)); intro h7 F7 N7)) | (rename Mk "call builtin:list.insert" => hMkCallBuiltinListInsert; clear hMkCallBuiltinListInsert; (first | walk1 | (dsimp only; walk1)) <;> have hMkCallBuiltinListInsert : Mk "call builtin:list.insert" := .mk _)) | ((with_reducible refine StopK.of (s := "subscriptTail") ?_); first | (with_reducible ((k_here; (with_reducible show wpAny _ _ (subscriptTail _ _ (Value.ref _) (Value.int _ _)) _ _ _); k_dflt (refine' item_led ?qN ?qm ?qa ?qb ?qx ?_; (case qN => k_asm); (case qm => first | k_mem | exact List.Mem.tail _ (List.mem_append_left _ (by assumption))); (case qx => with_reducible first | exact g2 | exact g3 | exact g4); (case qa => omega); (case qb => omega))))) | ((k_here; (with_reducible show wpAny _ _ (subscriptTail _ _ (Value.ref _) (Value.int _ _)) _ _ _); k_dflt (refine' item_led ?qN ?qm ?qa ?qb ?qx ?_; (case qN => k_asm); (case qm => first | k_mem | exact List.Mem.tail _ (List.mem_append_left _ (by assumption))); (case qx => with_reducible first | exact g2 | exact g3 | exact g4); (case qa => omega); (case qb => omega)))) | (rename Mk "subscriptTail" => hMkSubscriptTail; clear hMkSubscriptTail; (first | walk1 | (dsimp only; walk1)) <;> have hMkSubscriptTail : Mk "subscriptTail" := .mk _)) | ((with_reducible refine StopK.of (s := "call ref") ?_); first | (with_reducible ((k_here; k_dflt (refine' Tell.use (is_behind_c _ _ _ _ _ _ _ _ _ _) ?qk1 ?qk2 ?qk3 ?qk4 ?qk5 ?qkK ?qkd ?qku ?_; ((case qk1 => k_asm); (case qk2 => k_asm); (case qk3 => k_asm); (case qk4 => k_asm); (case qk5 => k_asm); (case qkK => first | exact rfl | assumption); (case qkd => ktr_room); (case qku => ktr_units))); intro r9 tl9 h9 tk9 F9 N9 l9 p9; obtain ⟨e9, e8⟩ := p9; subst e9; subst e8; simp only [List.nil_append] at N9; clear l9; (try dsimp only); (try k_fold)))) | ((k_here; k_dflt (refine' Tell.use (is_behind_c _ _ _ _ _ _ _ _ _ _) ?qk1 ?qk2 ?qk3 ?qk4 ?qk5 ?qkK ?qkd ?qku ?_; ((case qk1 => k_asm); (case qk2 => k_asm); (case qk3 => k_asm); (case qk4 => k_asm); (case qk5 => k_asm); (case qkK => first | exact rfl | assumption); (case qkd => ktr_room); (case qku => ktr_units))); intro r9 tl9 h9 tk9 F9 N9 l9 p9; obtain ⟨e9, e8⟩ := p9; subst e9; subst e8; simp only [List.nil_append] at N9; clear l9; (try dsimp only); (try k_fold))) | (rename Mk "call ref" => hMkCallRef; clear hMkCallRef; (first | walk1 | (dsimp only; walk1)) <;> have hMkCallRef : Mk "call ref" := .mk _)) | ((with_reducible refine StopK.of (s := "exec While BoolOp cons nil") ?_); first | (with_reducible (refine Stop.of ?_))) | ((with_reducible refine StopK.of (s := "call builtin:len") ?_); first | (with_reducible ((k_here; k_dflt (refine' len_led ?qN ?qm ?qz ?_; (case qN => k_asm); (case qm => k_mem); (case qz => assumption))))) | ((k_here; k_dflt (refine' len_led ?qN ?qm ?qz ?_; (case qN => k_asm); (case qm => k_mem); (case qz => assumption)))) | (rename Mk "call builtin:len" => hMkCallBuiltinLen; clear hMkCallBuiltinLen; (first | walk1 | (dsimp only; walk1)) <;> have hMkCallBuiltinLen : Mk "call builtin:len" := .mk _))) | fail); k_steps)
  rename Fr g' L' _ _ => F1
  rename News g' L' _ _ => N1
  rename ∀ p ∈ news, p.1 < _ => lt1
  rename_i FD _ _
  refine For_invVF F1 rfl rfl ?_
  walk1
  refine kdl_iter (l := D) (vs := rs.map fun r => Value.ref r.1) (nn := kD) (fun i m₁ nx => ∃ (u1 u2 : Option Value) (kf : Nat), m₁ = (fun y => if y = Str.ofString "row" then u1 else if y = Str.ofString "at" then u2 else if y = Str.ofString "found" then some (Value.ref FD)
    else [(Str.ofString "rows", Value.ref D), (Str.ofString "column", Value.int 0 t0), (Str.ofString "is_down", Value.bool d)].reverse.lookup y) ∧ nx = (FD, listOf ((sortRows d rowKey (rs.take i)).map fun r => Value.ref r.1).toArray kf) :: news) rfl (.tail _ hD) F1 N1 ?_ ?_ ?_
  · refine ⟨none, none, 0, ?_, rfl⟩
    funext y
    by_cases h1 : y = Str.ofString "row"
    · subst h1; rfl
    · by_cases h2 : y = Str.ofString "at"
      · subst h2; rfl
      · simp only [if_neg h1, if_neg h2]
  · rintro i v m₁ nx h2 tk2 own hv hoff - ⟨u1, u2, kf, rfl, rfl⟩ F2 N2
    change Fr g' L' h2 _ at F2
    change News g' L' h2 _ at N2
    rw [List.getElem?_map] at hv
    obtain ⟨r, hr, rfl⟩ := Option.map_eq_some_iff.mp hv
    obtain ⟨⟨kr, hrm⟩, x, tx, e, hre⟩ := hrs r (List.mem_of_getElem? hr)
    have hS : ∀ y ∈ sortRows d rowKey (rs.take i), y ∈ rs := fun y hy => by
      rcases sortRows_mem hy with h | h
      · cases h
      · exact List.mem_of_mem_take h
    have hlS : (sortRows d rowKey (rs.take i)).length ≤ 1000 := by
      have h1 : (sortRows d rowKey (rs.take i)).length = 0 + (rs.take i).length := sortRows_length d rowKey (rs.take i) []
      rw [List.length_take] at h1; omega
    have hs : sortRows d rowKey (rs.take (i + 1)) = insRow d rowKey (sortRows d rowKey (rs.take i)) r := by
      rw [List.take_add_one, hr]; exact sortRows_snoc d rowKey _ r
    rw [hs]
    generalize sortRows d rowKey (rs.take i) = S at *
    have hkx : rowKey r = x := by unfold rowKey; rw [hre]
    have hne : ∀ p ∈ news ++ own, p.1 ≠ FD := fun p hp => (List.mem_append.mp hp).elim (fun h => Nat.ne_of_lt (lt1 p h)) fun h => hoff p h FD (.head _)
    have hz2 : (S.map fun r => Value.ref r.1).toArray.toList.length ≤ sizeLine := by rw [List.length_map]; exact Nat.le_trans hlS (by decide)
    have hz : (S.map fun r => Value.ref r.1).length < 2 ^ 62 := by rw [List.length_map]; omega
    k_steps
    repeat' ((first | (first | ((with_reducible refine StopK.of (s := "call builtin:list.insert") ?_); first | (with_reducible ((k_here; (try dsimp only [List.cons_append, List.nil_append]); (with_reducible show wpAny _ _ (call (Value.builtin _) [Value.ref _, Value.int _ _, _]) _ _ _); k_dflt (refine' kl_insert (l := (insRow d rowKey S r).map fun r => Value.ref r.1) ?qF ?qN ?qf ?qe ?qU ?qz ?_; (case qF => k_asm); (case qN => k_asm); (case qU => exact Upd.head hne); (case qf => exact g5); (case qe => first | exact ins_eq g6 (Nat.zero_le _) | exact ins_eq (by rw [hkx, ← hpos]; exact pos_stop (by rw [g7]; assumption)) hk1); (case qz => exact hz2)); intro h7 F7 N7))) | ((k_here; (try dsimp only [List.cons_append, List.nil_append]); (with_reducible show wpAny _ _ (call (Value.builtin _) [Value.ref _, Value.int _ _, _]) _ _ _); k_dflt (refine' kl_insert (l := (insRow d rowKey S r).map fun r => Value.ref r.1) ?qF ?qN ?qf ?qe ?qU ?qz ?_; (case qF => k_asm); (case qN => k_asm); (case qU => exact Upd.head hne); (case qf => exact g5); (case qe => first | exact ins_eq g6 (Nat.zero_le _) | exact ins_eq (by rw [hkx, ← hpos]; exact pos_stop (by rw [g7]; assumption)) hk1); (case qz => exact hz2)); intro h7 F7 N7)) | (rename Mk "call builtin:list.insert" => hMkCallBuiltinListInsert; clear hMkCallBuiltinListInsert; (first | walk1 | (dsimp only; walk1)) <;> have hMkCallBuiltinListInsert : Mk "call builtin:list.insert" := .mk _)) | ((with_reducible refine StopK.of (s := "subscriptTail") ?_); first | (with_reducible ((k_here; (with_reducible show wpAny _ _ (subscriptTail _ _ (Value.ref _) (Value.int _ _)) _ _ _); k_dflt (refine' item_led ?qN ?qm ?qa ?qb ?qx ?_; (case qN => k_asm); (case qm => first | k_mem | exact List.Mem.tail _ (List.mem_append_left _ (by assumption))); (case qx => with_reducible first | exact g2 | exact g3 | exact g4); (case qa => omega); (case qb => omega))))) | ((k_here; (with_reducible show wpAny _ _ (subscriptTail _ _ (Value.ref _) (Value.int _ _)) _ _ _); k_dflt (refine' item_led ?qN ?qm ?qa ?qb ?qx ?_; (case qN => k_asm); (case qm => first | k_mem | exact List.Mem.tail _ (List.mem_append_left _ (by assumption))); (case qx => with_reducible first | exact g2 | exact g3 | exact g4); (case qa => omega); (case qb => omega)))) | (rename Mk "subscriptTail" => hMkSubscriptTail; clear hMkSubscriptTail; (first | walk1 | (dsimp only; walk1)) <;> have hMkSubscriptTail : Mk "subscriptTail" := .mk _)) | ((with_reducible refine StopK.of (s := "call ref") ?_); first | (with_reducible ((k_here; k_dflt (refine' Tell.use (is_behind_c _ _ _ _ _ _ _ _ _ _) ?qk1 ?qk2 ?qk3 ?qk4 ?qk5 ?qkK ?qkd ?qku ?_; ((case qk1 => k_asm); (case qk2 => k_asm); (case qk3 => k_asm); (case qk4 => k_asm); (case qk5 => k_asm); (case qkK => first | exact rfl | assumption); (case qkd => ktr_room); (case qku => ktr_units))); intro r9 tl9 h9 tk9 F9 N9 l9 p9; obtain ⟨e9, e8⟩ := p9; subst e9; subst e8; simp only [List.nil_append] at N9; clear l9; (try dsimp only); (try k_fold)))) | ((k_here; k_dflt (refine' Tell.use (is_behind_c _ _ _ _ _ _ _ _ _ _) ?qk1 ?qk2 ?qk3 ?qk4 ?qk5 ?qkK ?qkd ?qku ?_; ((case qk1 => k_asm); (case qk2 => k_asm); (case qk3 => k_asm); (case qk4 => k_asm); (case qk5 => k_asm); (case qkK => first | exact rfl | assumption); (case qkd => ktr_room); (case qku => ktr_units))); intro r9 tl9 h9 tk9 F9 N9 l9 p9; obtain ⟨e9, e8⟩ := p9; subst e9; subst e8; simp only [List.nil_append] at N9; clear l9; (try dsimp only); (try k_fold))) | (rename Mk "call ref" => hMkCallRef; clear hMkCallRef; (first | walk1 | (dsimp only; walk1)) <;> have hMkCallRef : Mk "call ref" := .mk _)) | ((with_reducible refine StopK.of (s := "exec While BoolOp cons nil") ?_); first | (with_reducible (refine Stop.of ?_))) | ((with_reducible refine StopK.of (s := "call builtin:len") ?_); first | (with_reducible ((k_here; k_dflt (refine' len_led ?qN ?qm ?qz ?_; (case qN => k_asm); (case qm => k_mem); (case qz => assumption))))) | ((k_here; k_dflt (refine' len_led ?qN ?qm ?qz ?_; (case qN => k_asm); (case qm => k_mem); (case qz => assumption)))) | (rename Mk "call builtin:len" => hMkCallBuiltinLen; clear hMkCallBuiltinLen; (first | walk1 | (dsimp only; walk1)) <;> have hMkCallBuiltinLen : Mk "call builtin:len" := .mk _))) | fail); k_steps)
    unfold Stop
    refine While_inv2 (n₀ := (S.map fun r => Value.ref r.1).length) (fun n m nx => n ≤ S.length ∧ posOf d (S.map rowKey) x n = posOf d (S.map rowKey) x S.length ∧ nx = (FD, listOf (S.map fun r => Value.ref r.1).toArray kf) :: (news ++ own) ∧
      (∃ ta, m (Str.ofString "at") = some (Value.int (n : Int) ta)) ∧ ∀ z, z ≠ Str.ofString "at" → m z = (fun y => if y = Str.ofString "row" then some (Value.ref r.1) else if y = Str.ofString "found" then some (Value.ref FD)
        else [(Str.ofString "rows", Value.ref D), (Str.ofString "column", Value.int 0 t0), (Str.ofString "is_down", Value.bool d)].reverse.lookup y) z) (by assumption) (by assumption) ?_ ?_
    · refine ⟨by rw [List.length_map]; exact Nat.le_refl _, by rw [List.length_map], rfl, ⟨_, rfl⟩, fun z hz => ?_⟩
      by_cases h2 : z = Str.ofString "row"
      · subst h2; rfl
      · simp only [if_neg hz, if_neg h2]
    · rintro n m₁ nx h3 tk3 F3 N3 ⟨hk1, hpos, rfl, ⟨ta, hma⟩, hmo⟩
      obtain rfl := map_set hma hmo
      cases n with
      | zero =>
        have g0 : ¬ ((0 : Int) < ((0 : Nat) : Int)) := by omega
        have g5 : Builtin.List.listFitsIndex ((0 : Nat) : Int) = true := by decide
        have g6 : posOf d (S.map rowKey) (rowKey r) S.length = 0 := by rw [hkx, ← hpos]; rfl
        k_steps
        repeat' ((first | (first | ((with_reducible refine StopK.of (s := "call builtin:list.insert") ?_); first | (with_reducible ((k_here; (try dsimp only [List.cons_append, List.nil_append]); (with_reducible show wpAny _ _ (call (Value.builtin _) [Value.ref _, Value.int _ _, _]) _ _ _); k_dflt (refine' kl_insert (l := (insRow d rowKey S r).map fun r => Value.ref r.1) ?qF ?qN ?qf ?qe ?qU ?qz ?_; (case qF => k_asm); (case qN => k_asm); (case qU => exact Upd.head hne); (case qf => exact g5); (case qe => first | exact ins_eq g6 (Nat.zero_le _) | exact ins_eq (by rw [hkx, ← hpos]; exact pos_stop (by rw [g7]; assumption)) hk1); (case qz => exact hz2)); intro h7 F7 N7))) | ((k_here; (try dsimp only [List.cons_append, List.nil_append]); (with_reducible show wpAny _ _ (call (Value.builtin _) [Value.ref _, Value.int _ _, _]) _ _ _); k_dflt (refine' kl_insert (l := (insRow d rowKey S r).map fun r => Value.ref r.1) ?qF ?qN ?qf ?qe ?qU ?qz ?_; (case qF => k_asm); (case qN => k_asm); (case qU => exact Upd.head hne); (case qf => exact g5); (case qe => first | exact ins_eq g6 (Nat.zero_le _) | exact ins_eq (by rw [hkx, ← hpos]; exact pos_stop (by rw [g7]; assumption)) hk1); (case qz => exact hz2)); intro h7 F7 N7)) | (rename Mk "call builtin:list.insert" => hMkCallBuiltinListInsert; clear hMkCallBuiltinListInsert; (first | walk1 | (dsimp only; walk1)) <;> have hMkCallBuiltinListInsert : Mk "call builtin:list.insert" := .mk _)) | ((with_reducible refine StopK.of (s := "subscriptTail") ?_); first | (with_reducible ((k_here; (with_reducible show wpAny _ _ (subscriptTail _ _ (Value.ref _) (Value.int _ _)) _ _ _); k_dflt (refine' item_led ?qN ?qm ?qa ?qb ?qx ?_; (case qN => k_asm); (case qm => first | k_mem | exact List.Mem.tail _ (List.mem_append_left _ (by assumption))); (case qx => with_reducible first | exact g2 | exact g3 | exact g4); (case qa => omega); (case qb => omega))))) | ((k_here; (with_reducible show wpAny _ _ (subscriptTail _ _ (Value.ref _) (Value.int _ _)) _ _ _); k_dflt (refine' item_led ?qN ?qm ?qa ?qb ?qx ?_; (case qN => k_asm); (case qm => first | k_mem | exact List.Mem.tail _ (List.mem_append_left _ (by assumption))); (case qx => with_reducible first | exact g2 | exact g3 | exact g4); (case qa => omega); (case qb => omega)))) | (rename Mk "subscriptTail" => hMkSubscriptTail; clear hMkSubscriptTail; (first | walk1 | (dsimp only; walk1)) <;> have hMkSubscriptTail : Mk "subscriptTail" := .mk _)) | ((with_reducible refine StopK.of (s := "call ref") ?_); first | (with_reducible ((k_here; k_dflt (refine' Tell.use (is_behind_c _ _ _ _ _ _ _ _ _ _) ?qk1 ?qk2 ?qk3 ?qk4 ?qk5 ?qkK ?qkd ?qku ?_; ((case qk1 => k_asm); (case qk2 => k_asm); (case qk3 => k_asm); (case qk4 => k_asm); (case qk5 => k_asm); (case qkK => first | exact rfl | assumption); (case qkd => ktr_room); (case qku => ktr_units))); intro r9 tl9 h9 tk9 F9 N9 l9 p9; obtain ⟨e9, e8⟩ := p9; subst e9; subst e8; simp only [List.nil_append] at N9; clear l9; (try dsimp only); (try k_fold)))) | ((k_here; k_dflt (refine' Tell.use (is_behind_c _ _ _ _ _ _ _ _ _ _) ?qk1 ?qk2 ?qk3 ?qk4 ?qk5 ?qkK ?qkd ?qku ?_; ((case qk1 => k_asm); (case qk2 => k_asm); (case qk3 => k_asm); (case qk4 => k_asm); (case qk5 => k_asm); (case qkK => first | exact rfl | assumption); (case qkd => ktr_room); (case qku => ktr_units))); intro r9 tl9 h9 tk9 F9 N9 l9 p9; obtain ⟨e9, e8⟩ := p9; subst e9; subst e8; simp only [List.nil_append] at N9; clear l9; (try dsimp only); (try k_fold))) | (rename Mk "call ref" => hMkCallRef; clear hMkCallRef; (first | walk1 | (dsimp only; walk1)) <;> have hMkCallRef : Mk "call ref" := .mk _)) | ((with_reducible refine StopK.of (s := "exec While BoolOp cons nil") ?_); first | (with_reducible (refine Stop.of ?_))) | ((with_reducible refine StopK.of (s := "call builtin:len") ?_); first | (with_reducible ((k_here; k_dflt (refine' len_led ?qN ?qm ?qz ?_; (case qN => k_asm); (case qm => k_mem); (case qz => assumption))))) | ((k_here; k_dflt (refine' len_led ?qN ?qm ?qz ?_; (case qN => k_asm); (case qm => k_mem); (case qz => assumption)))) | (rename Mk "call builtin:len" => hMkCallBuiltinLen; clear hMkCallBuiltinLen; (first | walk1 | (dsimp only; walk1)) <;> have hMkCallBuiltinLen : Mk "call builtin:len" := .mk _))) | fail); k_steps)
        · refine InvEndG.intro F7 N7 ⟨.tail _ hD, some (Value.ref r.1), some (Value.int ((0 : Nat) : Int) ta), kf + 1, ?_, rfl⟩ ?_ ?_ ?_
          · funext y
            by_cases h1 : y = Str.ofString "row"
            · subst h1; rfl
            · by_cases h2 : y = Str.ofString "at"
              · subst h2; rfl
              · simp only [if_neg h1, if_neg h2]
          · intro p hp b hb
            rcases List.mem_cons.mp hb with rfl | hb
            · exact hoff p hp _ (.head _)
            · exact hoff p hp _ (.tail _ hb)
          · intro p hp
            rcases List.mem_cons.mp hp with rfl | hp
            · exact .head _
            · exact .tail _ (List.mem_append_left _ hp)
          · exact fun p hp => .tail _ (List.mem_append_right _ hp)
      | succ k =>
        have hkl : k < S.length := by omega
        obtain ⟨⟨kq, hqm⟩, xq, tq, eq, hqe⟩ := hrs S[k] (hS _ (List.getElem_mem hkl))
        have g1 : (0 : Int) < ((k + 1 : Nat) : Int) := by omega
        have g2 : (S.map fun r => Value.ref r.1)[(((k + 1 : Nat) : Int) - 1).toNat]? = some (Value.ref S[k].1) := by
          have e1 : (((k + 1 : Nat) : Int) - 1).toNat = k := by omega
          rw [e1, List.getElem?_map, List.getElem?_eq_getElem hkl]; rfl
        have g3 : S[k].2[(0 : Int).toNat]? = some (Value.int xq tq) := by rw [hqe]; rfl
        have g4 : r.2[(0 : Int).toNat]? = some (Value.int x tx) := by rw [hre]; rfl
        have g7 : (S.map rowKey).getD k 0 = xq := by
          rw [List.getD_eq_getElem?_getD, List.getElem?_map, List.getElem?_eq_getElem hkl]
          show rowKey S[k] = xq
          unfold rowKey; rw [hqe]
        have g5 : Builtin.List.listFitsIndex ((k + 1 : Nat) : Int) = true := by
          unfold Builtin.List.listFitsIndex
          rw [Bool.and_eq_true]
          exact ⟨decide_eq_true (by omega), decide_eq_true (by omega)⟩
        k_steps
        repeat' ((first | (first | ((with_reducible refine StopK.of (s := "call builtin:list.insert") ?_); first | (with_reducible ((k_here; (try dsimp only [List.cons_append, List.nil_append]); (with_reducible show wpAny _ _ (call (Value.builtin _) [Value.ref _, Value.int _ _, _]) _ _ _); k_dflt (refine' kl_insert (l := (insRow d rowKey S r).map fun r => Value.ref r.1) ?qF ?qN ?qf ?qe ?qU ?qz ?_; (case qF => k_asm); (case qN => k_asm); (case qU => exact Upd.head hne); (case qf => exact g5); (case qe => first | exact ins_eq g6 (Nat.zero_le _) | exact ins_eq (by rw [hkx, ← hpos]; exact pos_stop (by rw [g7]; assumption)) hk1); (case qz => exact hz2)); intro h7 F7 N7))) | ((k_here; (try dsimp only [List.cons_append, List.nil_append]); (with_reducible show wpAny _ _ (call (Value.builtin _) [Value.ref _, Value.int _ _, _]) _ _ _); k_dflt (refine' kl_insert (l := (insRow d rowKey S r).map fun r => Value.ref r.1) ?qF ?qN ?qf ?qe ?qU ?qz ?_; (case qF => k_asm); (case qN => k_asm); (case qU => exact Upd.head hne); (case qf => exact g5); (case qe => first | exact ins_eq g6 (Nat.zero_le _) | exact ins_eq (by rw [hkx, ← hpos]; exact pos_stop (by rw [g7]; assumption)) hk1); (case qz => exact hz2)); intro h7 F7 N7)) | (rename Mk "call builtin:list.insert" => hMkCallBuiltinListInsert; clear hMkCallBuiltinListInsert; (first | walk1 | (dsimp only; walk1)) <;> have hMkCallBuiltinListInsert : Mk "call builtin:list.insert" := .mk _)) | ((with_reducible refine StopK.of (s := "subscriptTail") ?_); first | (with_reducible ((k_here; (with_reducible show wpAny _ _ (subscriptTail _ _ (Value.ref _) (Value.int _ _)) _ _ _); k_dflt (refine' item_led ?qN ?qm ?qa ?qb ?qx ?_; (case qN => k_asm); (case qm => first | k_mem | exact List.Mem.tail _ (List.mem_append_left _ (by assumption))); (case qx => with_reducible first | exact g2 | exact g3 | exact g4); (case qa => omega); (case qb => omega))))) | ((k_here; (with_reducible show wpAny _ _ (subscriptTail _ _ (Value.ref _) (Value.int _ _)) _ _ _); k_dflt (refine' item_led ?qN ?qm ?qa ?qb ?qx ?_; (case qN => k_asm); (case qm => first | k_mem | exact List.Mem.tail _ (List.mem_append_left _ (by assumption))); (case qx => with_reducible first | exact g2 | exact g3 | exact g4); (case qa => omega); (case qb => omega)))) | (rename Mk "subscriptTail" => hMkSubscriptTail; clear hMkSubscriptTail; (first | walk1 | (dsimp only; walk1)) <;> have hMkSubscriptTail : Mk "subscriptTail" := .mk _)) | ((with_reducible refine StopK.of (s := "call ref") ?_); first | (with_reducible ((k_here; k_dflt (refine' Tell.use (is_behind_c _ _ _ _ _ _ _ _ _ _) ?qk1 ?qk2 ?qk3 ?qk4 ?qk5 ?qkK ?qkd ?qku ?_; ((case qk1 => k_asm); (case qk2 => k_asm); (case qk3 => k_asm); (case qk4 => k_asm); (case qk5 => k_asm); (case qkK => first | exact rfl | assumption); (case qkd => ktr_room); (case qku => ktr_units))); intro r9 tl9 h9 tk9 F9 N9 l9 p9; obtain ⟨e9, e8⟩ := p9; subst e9; subst e8; simp only [List.nil_append] at N9; clear l9; (try dsimp only); (try k_fold)))) | ((k_here; k_dflt (refine' Tell.use (is_behind_c _ _ _ _ _ _ _ _ _ _) ?qk1 ?qk2 ?qk3 ?qk4 ?qk5 ?qkK ?qkd ?qku ?_; ((case qk1 => k_asm); (case qk2 => k_asm); (case qk3 => k_asm); (case qk4 => k_asm); (case qk5 => k_asm); (case qkK => first | exact rfl | assumption); (case qkd => ktr_room); (case qku => ktr_units))); intro r9 tl9 h9 tk9 F9 N9 l9 p9; obtain ⟨e9, e8⟩ := p9; subst e9; subst e8; simp only [List.nil_append] at N9; clear l9; (try dsimp only); (try k_fold))) | (rename Mk "call ref" => hMkCallRef; clear hMkCallRef; (first | walk1 | (dsimp only; walk1)) <;> have hMkCallRef : Mk "call ref" := .mk _)) | ((with_reducible refine StopK.of (s := "exec While BoolOp cons nil") ?_); first | (with_reducible (refine Stop.of ?_))) | ((with_reducible refine StopK.of (s := "call builtin:len") ?_); first | (with_reducible ((k_here; k_dflt (refine' len_led ?qN ?qm ?qz ?_; (case qN => k_asm); (case qm => k_mem); (case qz => assumption))))) | ((k_here; k_dflt (refine' len_led ?qN ?qm ?qz ?_; (case qN => k_asm); (case qm => k_mem); (case qz => assumption)))) | (rename Mk "call builtin:len" => hMkCallBuiltinLen; clear hMkCallBuiltinLen; (first | walk1 | (dsimp only; walk1)) <;> have hMkCallBuiltinLen : Mk "call builtin:len" := .mk _))) | fail); k_steps)
        · rename Fr g' L' _ _ => F8
          rename News g' L' _ _ => N8
          refine ⟨_, _, _, _, k, rfl, F8, N8, Nat.lt_succ_self _, by omega, ?_, rfl, ⟨?tok, ?pf⟩, ?_⟩
          case pf => exact congrArg (fun z => some (Value.int z _)) (show (((k + 1 : Nat) : Int) - 1) = (k : Int) by omega)
          · rw [← hpos]; exact (pos_go (by rw [g7]; assumption)).symm
          · intro z hz
            simp only [if_neg hz]
        · refine InvEndG.intro F7 N7 ⟨.tail _ hD, some (Value.ref r.1), some (Value.int ((k + 1 : Nat) : Int) ta), kf + 1, ?_, rfl⟩ ?_ ?_ ?_
          · funext y
            by_cases h1 : y = Str.ofString "row"
            · subst h1; rfl
            · by_cases h2 : y = Str.ofString "at"
              · subst h2; rfl
              · simp only [if_neg h1, if_neg h2]
          · intro p hp b hb
            rcases List.mem_cons.mp hb with rfl | hb
            · exact hoff p hp _ (.head _)
            · exact hoff p hp _ (.tail _ hb)
          · intro p hp
            rcases List.mem_cons.mp hp with rfl | hp
            · exact .head _
            · exact .tail _ (List.mem_append_left _ hp)
          · exact fun p hp => .tail _ (List.mem_append_right _ hp)
  · rintro m₁ nx h2 tk2 ⟨u1, u2, kf, rfl, rfl⟩ F2 N2
    change Fr g' L' h2 _ at F2
    change News g' L' h2 _ at N2
    rw [List.length_map, List.take_length] at N2
    k_steps
    repeat' ((first | (first | ((with_reducible refine StopK.of (s := "call builtin:list.insert") ?_); first | (with_reducible ((k_here; (try dsimp only [List.cons_append, List.nil_append]); (with_reducible show wpAny _ _ (call (Value.builtin _) [Value.ref _, Value.int _ _, _]) _ _ _); k_dflt (refine' kl_insert (l := (insRow d rowKey S r).map fun r => Value.ref r.1) ?qF ?qN ?qf ?qe ?qU ?qz ?_; (case qF => k_asm); (case qN => k_asm); (case qU => exact Upd.head hne); (case qf => exact g5); (case qe => first | exact ins_eq g6 (Nat.zero_le _) | exact ins_eq (by rw [hkx, ← hpos]; exact pos_stop (by rw [g7]; assumption)) hk1); (case qz => exact hz2)); intro h7 F7 N7))) | ((k_here; (try dsimp only [List.cons_append, List.nil_append]); (with_reducible show wpAny _ _ (call (Value.builtin _) [Value.ref _, Value.int _ _, _]) _ _ _); k_dflt (refine' kl_insert (l := (insRow d rowKey S r).map fun r => Value.ref r.1) ?qF ?qN ?qf ?qe ?qU ?qz ?_; (case qF => k_asm); (case qN => k_asm); (case qU => exact Upd.head hne); (case qf => exact g5); (case qe => first | exact ins_eq g6 (Nat.zero_le _) | exact ins_eq (by rw [hkx, ← hpos]; exact pos_stop (by rw [g7]; assumption)) hk1); (case qz => exact hz2)); intro h7 F7 N7)) | (rename Mk "call builtin:list.insert" => hMkCallBuiltinListInsert; clear hMkCallBuiltinListInsert; (first | walk1 | (dsimp only; walk1)) <;> have hMkCallBuiltinListInsert : Mk "call builtin:list.insert" := .mk _)) | ((with_reducible refine StopK.of (s := "subscriptTail") ?_); first | (with_reducible ((k_here; (with_reducible show wpAny _ _ (subscriptTail _ _ (Value.ref _) (Value.int _ _)) _ _ _); k_dflt (refine' item_led ?qN ?qm ?qa ?qb ?qx ?_; (case qN => k_asm); (case qm => first | k_mem | exact List.Mem.tail _ (List.mem_append_left _ (by assumption))); (case qx => with_reducible first | exact g2 | exact g3 | exact g4); (case qa => omega); (case qb => omega))))) | ((k_here; (with_reducible show wpAny _ _ (subscriptTail _ _ (Value.ref _) (Value.int _ _)) _ _ _); k_dflt (refine' item_led ?qN ?qm ?qa ?qb ?qx ?_; (case qN => k_asm); (case qm => first | k_mem | exact List.Mem.tail _ (List.mem_append_left _ (by assumption))); (case qx => with_reducible first | exact g2 | exact g3 | exact g4); (case qa => omega); (case qb => omega)))) | (rename Mk "subscriptTail" => hMkSubscriptTail; clear hMkSubscriptTail; (first | walk1 | (dsimp only; walk1)) <;> have hMkSubscriptTail : Mk "subscriptTail" := .mk _)) | ((with_reducible refine StopK.of (s := "call ref") ?_); first | (with_reducible ((k_here; k_dflt (refine' Tell.use (is_behind_c _ _ _ _ _ _ _ _ _ _) ?qk1 ?qk2 ?qk3 ?qk4 ?qk5 ?qkK ?qkd ?qku ?_; ((case qk1 => k_asm); (case qk2 => k_asm); (case qk3 => k_asm); (case qk4 => k_asm); (case qk5 => k_asm); (case qkK => first | exact rfl | assumption); (case qkd => ktr_room); (case qku => ktr_units))); intro r9 tl9 h9 tk9 F9 N9 l9 p9; obtain ⟨e9, e8⟩ := p9; subst e9; subst e8; simp only [List.nil_append] at N9; clear l9; (try dsimp only); (try k_fold)))) | ((k_here; k_dflt (refine' Tell.use (is_behind_c _ _ _ _ _ _ _ _ _ _) ?qk1 ?qk2 ?qk3 ?qk4 ?qk5 ?qkK ?qkd ?qku ?_; ((case qk1 => k_asm); (case qk2 => k_asm); (case qk3 => k_asm); (case qk4 => k_asm); (case qk5 => k_asm); (case qkK => first | exact rfl | assumption); (case qkd => ktr_room); (case qku => ktr_units))); intro r9 tl9 h9 tk9 F9 N9 l9 p9; obtain ⟨e9, e8⟩ := p9; subst e9; subst e8; simp only [List.nil_append] at N9; clear l9; (try dsimp only); (try k_fold))) | (rename Mk "call ref" => hMkCallRef; clear hMkCallRef; (first | walk1 | (dsimp only; walk1)) <;> have hMkCallRef : Mk "call ref" := .mk _)) | ((with_reducible refine StopK.of (s := "exec While BoolOp cons nil") ?_); first | (with_reducible (refine Stop.of ?_))) | ((with_reducible refine StopK.of (s := "call builtin:len") ?_); first | (with_reducible ((k_here; k_dflt (refine' len_led ?qN ?qm ?qz ?_; (case qN => k_asm); (case qm => k_mem); (case qz => assumption))))) | ((k_here; k_dflt (refine' len_led ?qN ?qm ?qz ?_; (case qN => k_asm); (case qm => k_mem); (case qz => assumption)))) | (rename Mk "call builtin:len" => hMkCallBuiltinLen; clear hMkCallBuiltinLen; (first | walk1 | (dsimp only; walk1)) <;> have hMkCallBuiltinLen : Mk "call builtin:len" := .mk _))) | fail); k_steps)
    exact hret _ [_] _ _ (by assumption) (by assumption) (fun p hp q hq => by rw [List.mem_singleton.mp hp]; exact lt1 q hq) ⟨_, _, rfl, rfl⟩

end
section

theorem size_of_bounds_c (w : World) (mean : ExcName → Option Value) (mg mb : Str → Option Value) (news : List (Addr × Obj)) (B p1 p2 : Addr) (kB k1 k2 : Nat) (many wide : Int) (t1 t2 t3 t4 : Tok)
    (hB : (B, listOf #[.ref p1, .ref p2] kB) ∈ news) (h1 : (p1, ({ cls := .type "tuple", data := .seq #[.int 1 t1, .int many t2] k1 } : Obj)) ∈ news) (h2 : (p2, ({ cls := .type "tuple", data := .seq #[.int 1 t3, .int wide t4] k2 } : Obj)) ∈ news)
    (g1 : 1 ≤ many) (g2 : many ≤ 1000) (g3 : 1 ≤ wide) (g4 : wide ≤ 1000) :
    Tell PySem.Challenge.rw_xm0946_01 Mine.pre.heap_1_1 Mine.pre.view_1_2 w mean mg mb 227 news [.ref B] 4 (fun r tl => (∃ t, r = .int (many * wide) t) ∧ tl = []) := by
  unfold Tell
  w_on
  k_fill
  intro dp un gd cn cs a ccd cl outer A₀ base h₀ L m s Q E B0 F X N T hk hd hu hret
  have hMkExecForTupleNameConsNil : Mk "exec For Tuple Name cons nil" := .mk _
  refine wpAny_call ?_
  k_dflt (refine' code_def (binds := [(Str.ofString "bounds", .ref B)]) B0 F X N T rfl rfl hk ?qk6 ?qk7 ?qk8 ?qk9 ?qkB ?_ ?qc2 ?qc3 ?qc4 ?qc5; ((case qk6 => k_is); (case qk7 => k_is); (case qk8 => ktr_room); (case qk9 => exact BindsTo.of_eq rfl); (case qc5 => decide); (case qkB => exact locs rfl); (case qc2 => exact rfl); (case qc3 => exact rfl); (case qc4 => exact rfl); intro g' L' h' FG' F' N' B' X' T'; dsimp only; k_fold))
  k_steps
  repeat' ((first | (first | ((with_reducible refine StopK.of (s := "exec For Tuple Name cons nil") ?_); first | (with_reducible (refine Stop.of ?_)))) | fail); k_steps)
  unfold Stop
  rename Fr g' L' _ _ => F1
  rename News g' L' _ _ => N1
  refine For_turns F1 ?_
  walk1
  refine itemsT (l := B) (vs := [.ref p1, .ref p2]) (nn := kB) (fun i m₁ => ∃ (z : Int) (t : Tok) (u1 u2 : Option Value), m₁ = (fun y => if y = Str.ofString "found" then some (Value.int z t) else if y = Str.ofString "high" then u2 else if y = Str.ofString "low" then u1
    else [(Str.ofString "bounds", Value.ref B)].reverse.lookup y) ∧ z = (if i = 0 then 1 else if i = 1 then many else many * wide)) rfl F1 N1 hB ?_ ?_ ?_
  · exact ⟨1, _, _, _, map3 (Str.ofString "found") (Str.ofString "high") (Str.ofString "low") (fun y e1 e2 e3 => by simp only [if_neg e1]), rfl⟩
  · rintro i v m₁ h3 tk3 own hv ⟨z, t, u1, u2, rfl, hz⟩ hoff F3 N3
    change Fr g' L' h3 _ at F3
    change News g' L' h3 _ at N3
    match i, hv, hz with
    | 0, hv, hz =>
      obtain rfl : Value.ref p1 = v := Option.some.inj hv
      have hz' : z = 1 := hz
      subst hz'
      have N4 := news_add N3 (List.mem_append_left own h1)
      clear N3 hv hz
      k_steps
      repeat' ((first | (first | ((with_reducible refine StopK.of (s := "exec For Tuple Name cons nil") ?_); first | (with_reducible (refine Stop.of ?_)))) | fail); k_steps)
      rename Fr g' L' _ _ => F5
      rename News g' L' _ _ => N5
      exact ⟨_, _, _, rfl, F5, news_drop1 N5, _, _, _, _, map3 (Str.ofString "found") (Str.ofString "high") (Str.ofString "low") (fun y e1 e2 e3 => by simp only [if_neg e1, if_neg e2, if_neg e3]), by show 1 * (many - 1 + 1) = many; omega⟩
    | 1, hv, hz =>
      obtain rfl : Value.ref p2 = v := Option.some.inj hv
      have hz' : z = many := hz
      subst hz'
      have N4 := news_add N3 (List.mem_append_left own h2)
      clear N3 hv hz
      k_steps
      repeat' ((first | (first | ((with_reducible refine StopK.of (s := "exec For Tuple Name cons nil") ?_); first | (with_reducible (refine Stop.of ?_)))) | fail); k_steps)
      rename Fr g' L' _ _ => F5
      rename News g' L' _ _ => N5
      exact ⟨_, _, _, rfl, F5, news_drop1 N5, _, _, _, _, map3 (Str.ofString "found") (Str.ofString "high") (Str.ofString "low") (fun y e1 e2 e3 => by simp only [if_neg e1, if_neg e2, if_neg e3]), by show z * (wide - 1 + 1) = z * wide; rw [Int.sub_add_cancel]⟩
    | i + 2, hv, hz => exact absurd hv (by simp)
  · rintro m₁ h3 tk3 ⟨z, t, u1, u2, rfl, hz⟩ F3 N3
    change Fr g' L' h3 _ at F3
    change News g' L' h3 _ at N3
    have hz' : z = many * wide := hz
    subst hz'
    k_steps
    repeat' ((first | (first | ((with_reducible refine StopK.of (s := "exec For Tuple Name cons nil") ?_); first | (with_reducible (refine Stop.of ?_)))) | fail); k_steps)
    exact hret _ [] _ _ (by assumption) (by assumption) (fun p hp => nomatch hp) ⟨⟨_, rfl⟩, rfl⟩

end
section
set_option hygiene false in
local macro_rules | `(tactic| k_all) => `(tactic| (intro p hp; exact Nat.ne_of_lt (l1 p hp)))
theorem array_make_c (w : World) (mean : ExcName → Option Value) (mg mb : Str → Option Value) (news : List (Addr × Obj)) (B p1 p2 : Addr) (kB k1 k2 : Nat) (many wide nn : Int) (t1 t2 t3 t4 tn tt te : Tok) (told emp : Str)
    (hB : (B, listOf #[.ref p1, .ref p2] kB) ∈ news) (h1 : (p1, ({ cls := .type "tuple", data := .seq #[.int 1 t1, .int many t2] k1 } : Obj)) ∈ news) (h2 : (p2, ({ cls := .type "tuple", data := .seq #[.int 1 t3, .int wide t4] k2 } : Obj)) ∈ news)
    (g1 : 1 ≤ many) (g2 : many ≤ 1000) (g3 : 1 ≤ wide) (g4 : wide ≤ 1000) :
    Tell PySem.Challenge.rw_xm0946_01 Mine.pre.heap_1_1 Mine.pre.view_1_2 w mean mg mb 180 news [.int nn tn, .str told tt, .ref B, .str emp te] 12 (fun r tl => ∃ x dx I its k u1 u2 u3 u4 u5 u6 v1 v3, r = .ref x ∧ tl = [(I, listOf its k), (x, instObj 180 dx), (dx, arrObj w.params u1 u2 u3 u4 u5 u6 v1 v3 (Str.ofString "ARRAY") nn tn told tt B I)] ∧ dx < x ∧ x < I) := by
  unfold Tell
  w_on
  k_fill
  intro dp un gd cn cs a ccd cl outer A₀ base h₀ L m s Q E B0 F X N T hk hd hu hret
  have hMkBinaryOpMultRefInt : Mk "binaryOp Mult ref int" := .mk _
  have hMkCallRef : Mk "call ref" := .mk _
  refine' call_cls F X N ?qm ?qi ?qf ?_; (case qm => k_is); (case qi => k_is); (case qf => k_is)
  intro x dx hh1 F1 N1 l1 l2
  have l2' := ltN l2
  have l1q := l1
  k_dflt (refine' code_def (binds := [(Str.ofString "self", .ref x), (Str.ofString "number", .int nn tn), (Str.ofString "told", .str told tt), (Str.ofString "bounds", .ref B), (Str.ofString "value", .str emp te)]) B0 F1 X N1 T rfl rfl hk ?qk6 ?qk7 ?qk8 ?qk9 ?qkB ?_ ?qc2 ?qc3 ?qc4 ?qc5; ((case qk6 => k_is); (case qk7 => k_is); (case qk8 => ktr_room); (case qk9 => exact BindsTo.of_eq rfl); (case qc5 => decide); (case qkB => exact locs rfl); (case qc2 => exact rfl); (case qc3 => exact rfl); (case qc4 => exact rfl); intro g' L' h' FG' F' N' B' X' T'; dsimp only; k_fold))
  have gm1 : 0 ≤ many * wide := Int.mul_nonneg (by omega) (by omega)
  have gm2 : many * wide ≤ 1000 * 1000 := Int.mul_le_mul g2 g4 (by omega) (by omega)
  k_steps
  repeat' ((first | (first | ((with_reducible refine StopK.of (s := "binaryOp Mult ref int") ?_); first | (with_reducible ((k_here; k_dflt (refine' mul_led ?qF ?qN ?qm ?qa ?qb ?qz ?_; (case qF => k_asm); (case qN => k_asm); (case qm => k_mem); (case qa => omega); (case qb => omega); (case qz => (show 1 * (many * wide).toNat ≤ 2 ^ 24; omega))); intro D3 its3 k3 h3 F3 N3 l3; k_lt l3; (try k_sweep)))) | ((k_here; k_dflt (refine' mul_led ?qF ?qN ?qm ?qa ?qb ?qz ?_; (case qF => k_asm); (case qN => k_asm); (case qm => k_mem); (case qa => omega); (case qb => omega); (case qz => (show 1 * (many * wide).toNat ≤ 2 ^ 24; omega))); intro D3 its3 k3 h3 F3 N3 l3; k_lt l3; (try k_sweep))) | (rename Mk "binaryOp Mult ref int" => hMkBinaryOpMultRefInt; clear hMkBinaryOpMultRefInt; (first | walk1 | (dsimp only; walk1)) <;> have hMkBinaryOpMultRefInt : Mk "binaryOp Mult ref int" := .mk _)) | ((with_reducible refine StopK.of (s := "call ref") ?_); first | (with_reducible ((k_here; k_dflt (refine' Tell.use (size_of_bounds_c _ _ _ _ _ _ p1 p2 _ _ _ many wide t1 t2 t3 t4 ?qh1 ?qh2 ?qh3 g1 g2 g3 g4) ?qk1 ?qk2 ?qk3 ?qk4 ?qk5 ?qkK ?qkd ?qku ?_; ((case qk1 => k_asm); (case qk2 => k_asm); (case qk3 => k_asm); (case qk4 => k_asm); (case qk5 => k_asm); (case qkK => first | exact rfl | assumption); (case qkd => ktr_room); (case qku => ktr_units)); (case qh1 => repeat (first | exact hB | refine List.Mem.tail _ ?_)); (case qh2 => repeat (first | exact h1 | refine List.Mem.tail _ ?_)); (case qh3 => repeat (first | exact h2 | refine List.Mem.tail _ ?_))); intro r9 tl9 h9 tk9 F9 N9 l9 p9; obtain ⟨⟨t9, e9⟩, e8⟩ := p9; subst e9; subst e8; simp only [List.nil_append] at N9; clear l9; (try dsimp only); (try k_fold)))) | ((k_here; k_dflt (refine' Tell.use (size_of_bounds_c _ _ _ _ _ _ p1 p2 _ _ _ many wide t1 t2 t3 t4 ?qh1 ?qh2 ?qh3 g1 g2 g3 g4) ?qk1 ?qk2 ?qk3 ?qk4 ?qk5 ?qkK ?qkd ?qku ?_; ((case qk1 => k_asm); (case qk2 => k_asm); (case qk3 => k_asm); (case qk4 => k_asm); (case qk5 => k_asm); (case qkK => first | exact rfl | assumption); (case qkd => ktr_room); (case qku => ktr_units)); (case qh1 => repeat (first | exact hB | refine List.Mem.tail _ ?_)); (case qh2 => repeat (first | exact h1 | refine List.Mem.tail _ ?_)); (case qh3 => repeat (first | exact h2 | refine List.Mem.tail _ ?_))); intro r9 tl9 h9 tk9 F9 N9 l9 p9; obtain ⟨⟨t9, e9⟩, e8⟩ := p9; subst e9; subst e8; simp only [List.nil_append] at N9; clear l9; (try dsimp only); (try k_fold))) | (rename Mk "call ref" => hMkCallRef; clear hMkCallRef; (first | walk1 | (dsimp only; walk1)) <;> have hMkCallRef : Mk "call ref" := .mk _))) | fail); k_steps)
  have q1 := l1q
  have q2 : @LT.lt Nat _ x D3 := by omega
  exact hret _ [(D3, listOf its3 k3), (x, instObj 180 dx), (dx, _)] _ _ (by assumption) (cb_drop (by assumption) fun p hp => by
      rcases List.mem_cons.mp hp with rfl | hp
      · exact .head _
      · rcases List.mem_cons.mp hp with rfl | hp
        · exact .tail _ (.tail _ (.head _))
        · rcases List.mem_cons.mp hp with rfl | hp
          · exact .tail _ (.tail _ (.tail _ (.head _)))
          · exact .tail _ (.tail _ (.tail _ (.tail _ hp))))
    (fun p hp q hq => by
      have e := q1 q hq
      rcases List.mem_cons.mp hp with rfl | hp
      · exact Nat.lt_trans e (Nat.lt_trans l2 q2)
      · rcases List.mem_cons.mp hp with rfl | hp
        · exact Nat.lt_trans e l2
        · rw [List.mem_singleton.mp hp]; exact e)
    ⟨_, _, _, _, _, _, _, _, _, _, _, _, _, rfl, rfl, l2, q2⟩

end
section

theorem text_of_whole_c (w : World) (mean : ExcName → Option Value) (mg mb : Str → Option Value) (news : List (Addr × Obj)) (n : Int) (tn : Tok) (g1 : 1 ≤ n) (g2 : n ≤ 1000) :
    Tell PySem.Challenge.rw_xm0946_01 Mine.pre.heap_1_1 Mine.pre.view_1_2 w mean mg mb 163 news [.int n tn] 4 (fun r tl => (∃ x t, r = .str x t ∧ x.length ≤ 1000) ∧ tl = []) := by
  unfold Tell
  w_on
  k_fill
  intro dp un gd cn cs a ccd cl outer A₀ base h₀ L m s Q E B0 F X N T hk hd hu hret
  have hMkExecWhileBoolOpConsNil : Mk "exec While BoolOp cons nil" := .mk _
  refine wpAny_call ?_
  k_dflt (refine' code_def (binds := [(Str.ofString "number", .int n tn)]) B0 F X N T rfl rfl hk ?qk6 ?qk7 ?qk8 ?qk9 ?qkB ?_ ?qc2 ?qc3 ?qc4 ?qc5; ((case qk6 => k_is); (case qk7 => k_is); (case qk8 => ktr_room); (case qk9 => exact BindsTo.of_eq rfl); (case qc5 => decide); (case qkB => exact locs rfl); (case qc2 => exact rfl); (case qc3 => exact rfl); (case qc4 => exact rfl); intro g' L' h' FG' F' N' B' X' T'; dsimp only; k_fold))
  k_steps
  repeat' ((first | (first | ((with_reducible refine StopK.of (s := "exec While BoolOp cons nil") ?_); first | (with_reducible (refine Stop.of ?_)))) | fail); k_steps)
  unfold Stop
  rename Fr g' L' _ _ => F1
  rename News g' L' _ _ => N1
  refine While_inv2 (n₀ := n.toNat + 1) (fun k m₁ nx => ∃ (z : Int) (f : Str) (t1 t2 : Tok), 0 ≤ z ∧ (f.length : Int) + z ≤ 1000 ∧ k = z.toNat + (if f.length = 0 then 1 else 0) ∧ nx = news ∧
    m₁ = (fun y => if y = Str.ofString "left" then some (Value.int z t1) else if y = Str.ofString "found" then some (Value.str f t2) else [(Str.ofString "number", Value.int n tn)].reverse.lookup y)) F1 (cb_drop N1 fun p hp => .tail _ hp) ?_ ?_
  · have e1 : (if n < 0 then -n else n) = n := if_neg (by omega)
    rw [e1] at F1 ⊢
    exact ⟨n, Str.ofString "", _, _, by omega, by show (0 : Int) + n ≤ 1000; omega, rfl, rfl, rfl⟩
  · rintro k m₁ nx h3 tk3 F3 N3 ⟨z, f, t1, t2, hz0, hz1, rfl, rfl, rfl⟩
    have hlen : ∀ v : Nat, ((⟨#[v]⟩ : Str) ++ f).length = 1 + f.length := fun v => by rw [Str.length_append]; rfl
    have hdiv : z.fdiv 10 = z / 10 := Int.fdiv_eq_ediv_of_nonneg _ (by decide)
    k_steps
    repeat' ((first | (first | ((with_reducible refine StopK.of (s := "exec While BoolOp cons nil") ?_); first | (with_reducible (refine Stop.of ?_)))) | fail); k_steps)
    · rename Fr g' L' _ _ => F8
      rename News g' L' _ _ => N8
      refine ⟨_, _, _, _, _, rfl, F8, N8, ?lt, z.fdiv 10, _, _, _, ?a1, ?a2, rfl, rfl, map2 (Str.ofString "left") (Str.ofString "found") (fun y e1 e2 => by simp only [if_neg e1, if_neg e2])⟩
      case lt => rw [hlen, hdiv]; split <;> split <;> omega
      case a1 => rw [hdiv]; omega
      case a2 => rw [hlen, hdiv]; omega
    · rename Fr g' L' _ _ => F8
      rename News g' L' _ _ => N8
      rename (f == Str.ofString "") = true => hf
      have hf0 : f.length = 0 := by rw [beq_iff_eq.mp hf]; rfl
      refine ⟨_, _, _, _, _, rfl, F8, N8, ?lt, z.fdiv 10, _, _, _, ?a1, ?a2, rfl, rfl, map2 (Str.ofString "left") (Str.ofString "found") (fun y e1 e2 => by simp only [if_neg e1, if_neg e2])⟩
      case lt => rw [hlen, hdiv, hf0]; split <;> split <;> omega
      case a1 => rw [hdiv]; omega
      case a2 => rw [hlen, hdiv]; omega
    · exact hret _ [] _ _ (by assumption) (by assumption) (fun p hp => nomatch hp) ⟨⟨_, _, rfl, by omega⟩, rfl⟩

end
section
set_option hygiene false in
local macro_rules | `(tactic| k_all) => `(tactic| (intro p hp; exact Nat.ne_of_lt (l9d p (by repeat (first | exact hp | refine List.Mem.tail _ ?_)))))
theorem rows_array_c (w : World) (mean : ExcName → Option Value) (mg mb : Str → Option Value) (news : List (Addr × Obj)) (D : Addr) (kD : Nat) (rs : List (Addr × List Value)) (wd : Nat) (nn : Int) (tn : Tok)
    (hD : (D, listOf (rs.map fun r => Value.ref r.1).toArray kD) ∈ news) (hrs : ∀ r ∈ rs, (∃ k, (r.1, listOf r.2.toArray k) ∈ news) ∧ r.2.length = wd) (hs1 : 1 ≤ rs.length) (hs2 : rs.length ≤ 1000) (hw1 : 1 ≤ wd) (hw2 : wd ≤ 1000) :
    Tell PySem.Challenge.rw_xm0946_01 Mine.pre.heap_1_1 Mine.pre.view_1_2 w mean mg mb 256 news [.ref D, .int nn tn] 14 (fun r tl => ∃ x dx B p1 p2 I k u1 u2 u3 u4 u5 u6 v1 v3 told tt kB k1 k2 t1 t2 t3 t4, r = .ref x ∧
      tl = [(I, listOf (rs.flatMap (·.2)).toArray k), (x, instObj 180 dx), (dx, arrObj w.params u1 u2 u3 u4 u5 u6 v1 v3 (Str.ofString "ARRAY") nn tn told tt B I), (B, listOf #[.ref p1, .ref p2] kB),
        (p1, { cls := .type "tuple", data := .seq #[.int 1 t1, .int (rs.length : Int) t2] k1 }), (p2, { cls := .type "tuple", data := .seq #[.int 1 t3, .int (wd : Int) t4] k2 })]) := by
  unfold Tell
  w_on
  k_fill
  intro dp un gd cn cs a ccd cl outer A₀ base h₀ L m s Q E B0 F X N T hk hd hu hret
  have hMkCallBuiltinLen : Mk "call builtin:len" := .mk _
  have hMkSubscriptTail : Mk "subscriptTail" := .mk _
  have hMkCallRef : Mk "call ref" := .mk _
  have hMkEvalListComp : Mk "eval ListComp" := .mk _
  refine wpAny_call ?_
  k_dflt (refine' code_def (binds := [(Str.ofString "rows", .ref D), (Str.ofString "number", .int nn tn)]) B0 F X N T rfl rfl hk ?qk6 ?qk7 ?qk8 ?qk9 ?qkB ?_ ?qc2 ?qc3 ?qc4 ?qc5; ((case qk6 => k_is); (case qk7 => k_is); (case qk8 => ktr_room); (case qk9 => exact BindsTo.of_eq rfl); (case qc5 => decide); (case qkB => exact locs rfl); (case qc2 => exact rfl); (case qc3 => exact rfl); (case qc4 => exact rfl); intro g' L' h' FG' F' N' B' X' T'; dsimp only; k_fold))
  obtain ⟨r0, hr0⟩ : ∃ r, rs[0]? = some r := ⟨rs[0], List.getElem?_eq_getElem hs1⟩
  obtain ⟨⟨kr, hrm⟩, hrl⟩ := hrs r0 (List.mem_of_getElem? hr0)
  have hlen1 : (rs.map fun r => Value.ref r.1).length = rs.length := List.length_map _
  have hlen2 : r0.2.length = wd := hrl
  have hx0 : (rs.map fun r => Value.ref r.1)[(0 : Int).toNat]? = some (Value.ref r0.1) := by
    show (rs.map fun r => Value.ref r.1)[0]? = _
    rw [List.getElem?_map, hr0]; rfl
  k_steps
  repeat' ((first | (first | ((with_reducible refine StopK.of (s := "call builtin:len") ?_); first | (with_reducible ((k_here; k_dflt (refine' len_led2 ?qN ?qm ?qz ?qk ?_; (case qN => k_asm); (case qm => repeat (first | exact hD | exact hrm | refine List.Mem.tail _ ?_)); (case qz => first | exact hlen1 | exact hlen2); (case qk => omega))))) | ((k_here; k_dflt (refine' len_led2 ?qN ?qm ?qz ?qk ?_; (case qN => k_asm); (case qm => repeat (first | exact hD | exact hrm | refine List.Mem.tail _ ?_)); (case qz => first | exact hlen1 | exact hlen2); (case qk => omega)))) | (rename Mk "call builtin:len" => hMkCallBuiltinLen; clear hMkCallBuiltinLen; (first | walk1 | (dsimp only; walk1)) <;> have hMkCallBuiltinLen : Mk "call builtin:len" := .mk _)) | ((with_reducible refine StopK.of (s := "subscriptTail") ?_); first | (with_reducible ((k_here; (with_reducible show wpAny _ _ (subscriptTail _ _ (Value.ref _) (Value.int _ _)) _ _ _); k_dflt (refine' item_led ?qN ?qm ?qa ?qb ?qx ?_; (case qN => k_asm); (case qm => repeat (first | exact hD | refine List.Mem.tail _ ?_)); (case qx => exact hx0); (case qa => omega); (case qb => omega))))) | ((k_here; (with_reducible show wpAny _ _ (subscriptTail _ _ (Value.ref _) (Value.int _ _)) _ _ _); k_dflt (refine' item_led ?qN ?qm ?qa ?qb ?qx ?_; (case qN => k_asm); (case qm => repeat (first | exact hD | refine List.Mem.tail _ ?_)); (case qx => exact hx0); (case qa => omega); (case qb => omega)))) | (rename Mk "subscriptTail" => hMkSubscriptTail; clear hMkSubscriptTail; (first | walk1 | (dsimp only; walk1)) <;> have hMkSubscriptTail : Mk "subscriptTail" := .mk _)) | ((with_reducible refine StopK.of (s := "call ref") ?_); first | (with_reducible ((k_here; k_dflt (refine' Tell.use (array_make_c _ _ _ _ _ _ _ _ _ _ _ _ _ _ _ _ _ _ _ _ _ _ _ ?qh1 ?qh2 ?qh3 ?qh4 ?qh5 ?qh6 ?qh7) ?qk1 ?qk2 ?qk3 ?qk4 ?qk5 ?qkK ?qkd ?qku ?_; ((case qk1 => k_asm); (case qk2 => k_asm); (case qk3 => k_asm); (case qk4 => k_asm); (case qk5 => k_asm); (case qkK => first | exact rfl | assumption); (case qkd => ktr_room); (case qku => ktr_units)); (case qh1 => k_mem); (case qh2 => k_mem); (case qh3 => k_mem); (case qh4 => omega); (case qh5 => omega); (case qh6 => omega); (case qh7 => omega)); intro r9 tl9 h9 tk9 F9 N9 l9 p9; obtain ⟨x9, dx9, I9, its9, k9, u1, u2, u3, u4, u5, u6, v1, v3, e9, e8, lt1, lt2⟩ := p9; subst e9; subst e8; simp only [List.cons_append, List.nil_append] at N9; have l9d := l9 (dx9, _) (List.Mem.tail _ (List.Mem.tail _ (List.Mem.head _))); dsimp only at l9d; have l9e := l9d; k_lt l9e; clear l9; replace lt1 := ltN lt1; replace lt2 := ltN lt2; (try dsimp only at l9e); (try dsimp only); (try k_fold)))) | (with_reducible ((k_here; k_dflt (refine' Tell.use (text_of_whole_c _ _ _ _ _ _ _ ?qh1 ?qh2) ?qk1 ?qk2 ?qk3 ?qk4 ?qk5 ?qkK ?qkd ?qku ?_; ((case qk1 => k_asm); (case qk2 => k_asm); (case qk3 => k_asm); (case qk4 => k_asm); (case qk5 => k_asm); (case qkK => first | exact rfl | assumption); (case qkd => ktr_room); (case qku => ktr_units)); (case qh1 => omega); (case qh2 => omega)); intro r9 tl9 h9 tk9 F9 N9 l9 p9; obtain ⟨⟨x9, t9, e9, le9⟩, e8⟩ := p9; subst e9; subst e8; simp only [List.nil_append] at N9; clear l9; (try dsimp only); (try k_fold)))) | ((k_here; k_dflt (refine' Tell.use (array_make_c _ _ _ _ _ _ _ _ _ _ _ _ _ _ _ _ _ _ _ _ _ _ _ ?qh1 ?qh2 ?qh3 ?qh4 ?qh5 ?qh6 ?qh7) ?qk1 ?qk2 ?qk3 ?qk4 ?qk5 ?qkK ?qkd ?qku ?_; ((case qk1 => k_asm); (case qk2 => k_asm); (case qk3 => k_asm); (case qk4 => k_asm); (case qk5 => k_asm); (case qkK => first | exact rfl | assumption); (case qkd => ktr_room); (case qku => ktr_units)); (case qh1 => k_mem); (case qh2 => k_mem); (case qh3 => k_mem); (case qh4 => omega); (case qh5 => omega); (case qh6 => omega); (case qh7 => omega)); intro r9 tl9 h9 tk9 F9 N9 l9 p9; obtain ⟨x9, dx9, I9, its9, k9, u1, u2, u3, u4, u5, u6, v1, v3, e9, e8, lt1, lt2⟩ := p9; subst e9; subst e8; simp only [List.cons_append, List.nil_append] at N9; have l9d := l9 (dx9, _) (List.Mem.tail _ (List.Mem.tail _ (List.Mem.head _))); dsimp only at l9d; have l9e := l9d; k_lt l9e; clear l9; replace lt1 := ltN lt1; replace lt2 := ltN lt2; (try dsimp only at l9e); (try dsimp only); (try k_fold))) | ((k_here; k_dflt (refine' Tell.use (text_of_whole_c _ _ _ _ _ _ _ ?qh1 ?qh2) ?qk1 ?qk2 ?qk3 ?qk4 ?qk5 ?qkK ?qkd ?qku ?_; ((case qk1 => k_asm); (case qk2 => k_asm); (case qk3 => k_asm); (case qk4 => k_asm); (case qk5 => k_asm); (case qkK => first | exact rfl | assumption); (case qkd => ktr_room); (case qku => ktr_units)); (case qh1 => omega); (case qh2 => omega)); intro r9 tl9 h9 tk9 F9 N9 l9 p9; obtain ⟨⟨x9, t9, e9, le9⟩, e8⟩ := p9; subst e9; subst e8; simp only [List.nil_append] at N9; clear l9; (try dsimp only); (try k_fold))) | (rename Mk "call ref" => hMkCallRef; clear hMkCallRef; (first | walk1 | (dsimp only; walk1)) <;> have hMkCallRef : Mk "call ref" := .mk _)) | ((with_reducible refine StopK.of (s := "eval ListComp") ?_); first | (with_reducible ((k_here; (with_reducible show wpAny _ _ (eval (Expr.ListComp _ [_, _] _ _) _) _ _ _); k_dflt (refine ListComp_flat (F₀ := by k_asm) (by with_unfolding_all rfl) (by decide) (by rfl) (by decide) (by rfl) (by rfl) (by decide) (by decide) ?_)))) | ((k_here; (with_reducible show wpAny _ _ (eval (Expr.ListComp _ [_, _] _ _) _) _ _ _); k_dflt (refine ListComp_flat (F₀ := by k_asm) (by with_unfolding_all rfl) (by decide) (by rfl) (by decide) (by rfl) (by rfl) (by decide) (by decide) ?_))) | (rename Mk "eval ListComp" => hMkEvalListComp; clear hMkEvalListComp; (first | walk1 | (dsimp only; walk1)) <;> have hMkEvalListComp : Mk "eval ListComp" := .mk _))) | fail); k_steps)
  refine ⟨D, rs, kD, _, rfl, rfl, by assumption, by assumption, ?mem, ?rows, Nat.le_trans hs2 (by decide), flat_small (fun r hr => (hrs r hr).2) hs2 hw2, ?_⟩
  case mem => repeat (first | exact hD | refine List.Mem.tail _ ?_)
  case rows =>
    intro r hr
    obtain ⟨k, hk⟩ := (hrs r hr).1
    exact ⟨k, by repeat (first | exact hk | refine List.Mem.tail _ ?_)⟩
  intro Dn hn tkn Fn Nn ln
  k_lt ln
  try dsimp only at ln
  k_steps
  repeat' ((first | (first | ((with_reducible refine StopK.of (s := "call builtin:len") ?_); first | (with_reducible ((k_here; k_dflt (refine' len_led2 ?qN ?qm ?qz ?qk ?_; (case qN => k_asm); (case qm => repeat (first | exact hD | exact hrm | refine List.Mem.tail _ ?_)); (case qz => first | exact hlen1 | exact hlen2); (case qk => omega))))) | ((k_here; k_dflt (refine' len_led2 ?qN ?qm ?qz ?qk ?_; (case qN => k_asm); (case qm => repeat (first | exact hD | exact hrm | refine List.Mem.tail _ ?_)); (case qz => first | exact hlen1 | exact hlen2); (case qk => omega)))) | (rename Mk "call builtin:len" => hMkCallBuiltinLen; clear hMkCallBuiltinLen; (first | walk1 | (dsimp only; walk1)) <;> have hMkCallBuiltinLen : Mk "call builtin:len" := .mk _)) | ((with_reducible refine StopK.of (s := "subscriptTail") ?_); first | (with_reducible ((k_here; (with_reducible show wpAny _ _ (subscriptTail _ _ (Value.ref _) (Value.int _ _)) _ _ _); k_dflt (refine' item_led ?qN ?qm ?qa ?qb ?qx ?_; (case qN => k_asm); (case qm => repeat (first | exact hD | refine List.Mem.tail _ ?_)); (case qx => exact hx0); (case qa => omega); (case qb => omega))))) | ((k_here; (with_reducible show wpAny _ _ (subscriptTail _ _ (Value.ref _) (Value.int _ _)) _ _ _); k_dflt (refine' item_led ?qN ?qm ?qa ?qb ?qx ?_; (case qN => k_asm); (case qm => repeat (first | exact hD | refine List.Mem.tail _ ?_)); (case qx => exact hx0); (case qa => omega); (case qb => omega)))) | (rename Mk "subscriptTail" => hMkSubscriptTail; clear hMkSubscriptTail; (first | walk1 | (dsimp only; walk1)) <;> have hMkSubscriptTail : Mk "subscriptTail" := .mk _)) | ((with_reducible refine StopK.of (s := "call ref") ?_); first | (with_reducible ((k_here; k_dflt (refine' Tell.use (array_make_c _ _ _ _ _ _ _ _ _ _ _ _ _ _ _ _ _ _ _ _ _ _ _ ?qh1 ?qh2 ?qh3 ?qh4 ?qh5 ?qh6 ?qh7) ?qk1 ?qk2 ?qk3 ?qk4 ?qk5 ?qkK ?qkd ?qku ?_; ((case qk1 => k_asm); (case qk2 => k_asm); (case qk3 => k_asm); (case qk4 => k_asm); (case qk5 => k_asm); (case qkK => first | exact rfl | assumption); (case qkd => ktr_room); (case qku => ktr_units)); (case qh1 => k_mem); (case qh2 => k_mem); (case qh3 => k_mem); (case qh4 => omega); (case qh5 => omega); (case qh6 => omega); (case qh7 => omega)); intro r9 tl9 h9 tk9 F9 N9 l9 p9; obtain ⟨x9, dx9, I9, its9, k9, u1, u2, u3, u4, u5, u6, v1, v3, e9, e8, lt1, lt2⟩ := p9; subst e9; subst e8; simp only [List.cons_append, List.nil_append] at N9; have l9d := l9 (dx9, _) (List.Mem.tail _ (List.Mem.tail _ (List.Mem.head _))); dsimp only at l9d; have l9e := l9d; k_lt l9e; clear l9; replace lt1 := ltN lt1; replace lt2 := ltN lt2; (try dsimp only at l9e); (try dsimp only); (try k_fold)))) | (with_reducible ((k_here; k_dflt (refine' Tell.use (text_of_whole_c _ _ _ _ _ _ _ ?qh1 ?qh2) ?qk1 ?qk2 ?qk3 ?qk4 ?qk5 ?qkK ?qkd ?qku ?_; ((case qk1 => k_asm); (case qk2 => k_asm); (case qk3 => k_asm); (case qk4 => k_asm); (case qk5 => k_asm); (case qkK => first | exact rfl | assumption); (case qkd => ktr_room); (case qku => ktr_units)); (case qh1 => omega); (case qh2 => omega)); intro r9 tl9 h9 tk9 F9 N9 l9 p9; obtain ⟨⟨x9, t9, e9, le9⟩, e8⟩ := p9; subst e9; subst e8; simp only [List.nil_append] at N9; clear l9; (try dsimp only); (try k_fold)))) | ((k_here; k_dflt (refine' Tell.use (array_make_c _ _ _ _ _ _ _ _ _ _ _ _ _ _ _ _ _ _ _ _ _ _ _ ?qh1 ?qh2 ?qh3 ?qh4 ?qh5 ?qh6 ?qh7) ?qk1 ?qk2 ?qk3 ?qk4 ?qk5 ?qkK ?qkd ?qku ?_; ((case qk1 => k_asm); (case qk2 => k_asm); (case qk3 => k_asm); (case qk4 => k_asm); (case qk5 => k_asm); (case qkK => first | exact rfl | assumption); (case qkd => ktr_room); (case qku => ktr_units)); (case qh1 => k_mem); (case qh2 => k_mem); (case qh3 => k_mem); (case qh4 => omega); (case qh5 => omega); (case qh6 => omega); (case qh7 => omega)); intro r9 tl9 h9 tk9 F9 N9 l9 p9; obtain ⟨x9, dx9, I9, its9, k9, u1, u2, u3, u4, u5, u6, v1, v3, e9, e8, lt1, lt2⟩ := p9; subst e9; subst e8; simp only [List.cons_append, List.nil_append] at N9; have l9d := l9 (dx9, _) (List.Mem.tail _ (List.Mem.tail _ (List.Mem.head _))); dsimp only at l9d; have l9e := l9d; k_lt l9e; clear l9; replace lt1 := ltN lt1; replace lt2 := ltN lt2; (try dsimp only at l9e); (try dsimp only); (try k_fold))) | ((k_here; k_dflt (refine' Tell.use (text_of_whole_c _ _ _ _ _ _ _ ?qh1 ?qh2) ?qk1 ?qk2 ?qk3 ?qk4 ?qk5 ?qkK ?qkd ?qku ?_; ((case qk1 => k_asm); (case qk2 => k_asm); (case qk3 => k_asm); (case qk4 => k_asm); (case qk5 => k_asm); (case qkK => first | exact rfl | assumption); (case qkd => ktr_room); (case qku => ktr_units)); (case qh1 => omega); (case qh2 => omega)); intro r9 tl9 h9 tk9 F9 N9 l9 p9; obtain ⟨⟨x9, t9, e9, le9⟩, e8⟩ := p9; subst e9; subst e8; simp only [List.nil_append] at N9; clear l9; (try dsimp only); (try k_fold))) | (rename Mk "call ref" => hMkCallRef; clear hMkCallRef; (first | walk1 | (dsimp only; walk1)) <;> have hMkCallRef : Mk "call ref" := .mk _)) | ((with_reducible refine StopK.of (s := "eval ListComp") ?_); first | (with_reducible ((k_here; (with_reducible show wpAny _ _ (eval (Expr.ListComp _ [_, _] _ _) _) _ _ _); k_dflt (refine ListComp_flat (F₀ := by k_asm) (by with_unfolding_all rfl) (by decide) (by rfl) (by decide) (by rfl) (by rfl) (by decide) (by decide) ?_)))) | ((k_here; (with_reducible show wpAny _ _ (eval (Expr.ListComp _ [_, _] _ _) _) _ _ _); k_dflt (refine ListComp_flat (F₀ := by k_asm) (by with_unfolding_all rfl) (by decide) (by rfl) (by decide) (by rfl) (by rfl) (by decide) (by decide) ?_))) | (rename Mk "eval ListComp" => hMkEvalListComp; clear hMkEvalListComp; (first | walk1 | (dsimp only; walk1)) <;> have hMkEvalListComp : Mk "eval ListComp" := .mk _))) | fail); k_steps)
  rename (@LT.lt Nat _ _ _ ∧ @LT.lt Nat _ _ _ ∧ @LT.lt Nat _ _ _ ∧ AllLt _ news) => b1
  rename (@LT.lt Nat _ _ _ ∧ @LT.lt Nat _ _ _ ∧ AllLt _ news) => b2
  rename (@LT.lt Nat _ _ _ ∧ AllLt _ news) => b3
  rename News h₀ L _ (_ :: _) => kN
  exact hret _ [_, _, _, _, _, _] _ _ (by assumption) (pick_rows kN) (lt6 ln.2.2.2.2.2.2.2 (fun q hq => Nat.lt_trans (kst_ltOf l9e.2.2.2.2 q hq) lt1) l9e.2.2.2.2 b1.2.2.2 b3.2 b2.2.2)
    ⟨_, _, _, _, _, _, _, _, _, _, _, _, _, _, _, _, _, _, _, _, _, _, _, _, rfl, rfl⟩

end
section
set_option hygiene false in
local macro_rules | `(tactic| k_all) => `(tactic| (intro p hp; first | exact ne_up1 (l1q p hp) | exact ne_up2 (l1q p hp)))
theorem rows_of_c (w : World) (mean : ExcName → Option Value) (mg mb : Str → Option Value) (news : List (Addr × Obj)) (x dx B p1 p2 I : Addr) (kI kB k1 k2 : Nat) (u1 u2 u3 u4 u5 u6 v1 v3 tn tt t1 t2 t3 t4 : Tok) (nn : Int) (told : Str) (cs : List (List Value)) (wd : Nat)
    (hx : (x, instObj 180 dx) ∈ news) (hdx : (dx, arrObj w.params u1 u2 u3 u4 u5 u6 v1 v3 (Str.ofString "ARRAY") nn tn told tt B I) ∈ news) (hB : (B, listOf #[.ref p1, .ref p2] kB) ∈ news)
    (h1 : (p1, ({ cls := .type "tuple", data := .seq #[.int 1 t1, .int (cs.length : Int) t2] k1 } : Obj)) ∈ news) (h2 : (p2, ({ cls := .type "tuple", data := .seq #[.int 1 t3, .int (wd : Int) t4] k2 } : Obj)) ∈ news)
    (hI : (I, listOf cs.flatten.toArray kI) ∈ news) (hcs : ∀ c ∈ cs, c.length = wd) (hs1 : 1 ≤ cs.length) (hs2 : cs.length ≤ 1000) (hw1 : 1 ≤ wd) (hw2 : wd ≤ 1000) :
    Tell1 PySem.Challenge.rw_xm0946_01 Mine.pre.heap_1_1 Mine.pre.view_1_2 w mean mg mb 261 news [.ref x] 4 (fun r tl => ∃ (D : Addr) (k : Nat) (rs : List (Addr × List Value)) (tl' : List (Addr × Obj)), r = .ref D ∧ tl = (D, listOf (rs.map fun r => Value.ref r.1).toArray k) :: tl' ∧ rs.map (·.2) = cs ∧ ∀ r ∈ rs, ∃ k, (r.1, listOf r.2.toArray k) ∈ tl') := by
  unfold Tell1
  w_on
  k_fill
  intro dp un gd cn cs' a ccd cl outer A₀ base h₀ L m s Q E B0 F X N T hk hd hu hret
  have hMkSubscriptTail : Mk "subscriptTail" := .mk _
  have hMkCallBuiltinLen : Mk "call builtin:len" := .mk _
  have hMkEvalListComp : Mk "eval ListComp" := .mk _
  refine wpAny_call ?_
  have N6 := news_add (news_add (news_add (news_add (news_add (news_add N hI) (.tail _ h2)) (.tail _ (.tail _ h1))) (.tail _ (.tail _ (.tail _ hB)))) (.tail _ (.tail _ (.tail _ (.tail _ hdx))))) (.tail _ (.tail _ (.tail _ (.tail _ (.tail _ hx)))))
  k_dflt (refine' code_defC (binds := [(Str.ofString "array", .ref x)]) B0 F X N6 T rfl rfl hk ?qk6 ?qk7 ?qk8 ?qk9 ?qkB ?qkD ?_ ?qc2 ?qc3 ?qc4; (case qk6 => k_is); (case qk7 => k_is); (case qk8 => ktr_room); (case qk9 => exact BindsTo.of_eq rfl); (case qkB => exact rfl); (case qkD => decide +kernel); (case qc2 => exact rfl); (case qc3 => exact rfl); (case qc4 => exact rfl))
  intro g' L' h' tk' cells' FG' F' N' Y' B' X' T' l1
  have l1q := l1
  k_lt l1
  k_cells Y'
  simp only [List.cons_append, List.nil_append] at N'
  dsimp only
  try k_fold
  have hlen1 : cs.flatten.length = cs.length * wd := flatten_len hcs
  have hbig : cs.length * wd ≤ 1000 * 1000 := Nat.mul_le_mul hs2 hw2
  k_steps
  repeat' ((first | (first | ((with_reducible refine StopK.of (s := "subscriptTail") ?_); first | (with_reducible ((k_here; (with_reducible show wpAny _ _ (subscriptTail _ (Expr.Slice _ _ none _) (Value.ref _) (Value.ref _)) _ _ _); k_dflt (refine' kms_slice_lit (zs := cs[i]) ?qF ?qN ?ql ?qp ?qq ?qe ?_ ?qs ?qt ?qz; (case qF => k_asm); (case qN => k_asm); (case ql => exact News.isList (by k_asm) (by k_mem)); (case qp => kmk_part); (case qq => kmk_part); (case qe => exact piece_pick hcs hci hp1 hp2); (case qs => with_unfolding_all rfl); (case qt => kmk_pure); (case qz => exact hz9)); intro D7 h7 F7 N7 l7))) | ((k_here; (with_reducible show wpAny _ _ (subscriptTail _ (Expr.Slice _ _ none _) (Value.ref _) (Value.ref _)) _ _ _); k_dflt (refine' kms_slice_lit (zs := cs[i]) ?qF ?qN ?ql ?qp ?qq ?qe ?_ ?qs ?qt ?qz; (case qF => k_asm); (case qN => k_asm); (case ql => exact News.isList (by k_asm) (by k_mem)); (case qp => kmk_part); (case qq => kmk_part); (case qe => exact piece_pick hcs hci hp1 hp2); (case qs => with_unfolding_all rfl); (case qt => kmk_pure); (case qz => exact hz9)); intro D7 h7 F7 N7 l7)) | (rename Mk "subscriptTail" => hMkSubscriptTail; clear hMkSubscriptTail; (first | walk1 | (dsimp only; walk1)) <;> have hMkSubscriptTail : Mk "subscriptTail" := .mk _)) | ((with_reducible refine StopK.of (s := "call builtin:len") ?_); first | (with_reducible ((k_here; k_dflt (refine' len_led2 ?qN ?qm ?qz ?qk ?_; (case qN => k_asm); (case qm => k_mem); (case qz => first | exact hlen1 | exact rfl); (case qk => omega))))) | ((k_here; k_dflt (refine' len_led2 ?qN ?qm ?qz ?qk ?_; (case qN => k_asm); (case qm => k_mem); (case qz => first | exact hlen1 | exact rfl); (case qk => omega)))) | (rename Mk "call builtin:len" => hMkCallBuiltinLen; clear hMkCallBuiltinLen; (first | walk1 | (dsimp only; walk1)) <;> have hMkCallBuiltinLen : Mk "call builtin:len" := .mk _)) | ((with_reducible refine StopK.of (s := "eval ListComp") ?_); first | (with_reducible ((k_here; k_dflt (refine ListComp_step (_F₀ := by k_asm) (by with_unfolding_all rfl) (by decide) (by rfl) (by decide) (by rfl) ?_)))) | ((k_here; k_dflt (refine ListComp_step (_F₀ := by k_asm) (by with_unfolding_all rfl) (by decide) (by rfl) (by decide) (by rfl) ?_))) | (rename Mk "eval ListComp" => hMkEvalListComp; clear hMkEvalListComp; (first | walk1 | (dsimp only; walk1)) <;> have hMkEvalListComp : Mk "eval ListComp" := .mk _))) | fail); k_steps)
  obtain ⟨q1, q2⟩ := range_step (c := (wd : Int) - 1 + 1) hs1 hw1 hw2 hbig (Int.sub_add_cancel _ _)
  rename_i HR FB NB KB
  refine ⟨_, _, _, _, _, _, _, cs.length, _, rfl, rfl, FB, NB, HR, q1, q2, Nat.le_trans hs2 (by decide), ?_⟩
  rintro s₂ ⟨hh, rfl⟩
  clear q1 q2 HR KB
  have J0 : ∀ base : List (Addr × Obj), ∃ (rs : List (Addr × List Value)) (tl' : List (Addr × Obj)), ([] : List Value) = (rs.map fun r => Value.ref r.1) ∧ rs.map (·.2) = cs.take 0 ∧ base = tl' ++ base ∧ (∀ r ∈ rs, ∃ k, (r.1, listOf r.2.toArray k) ∈ tl') ∧ (∀ p ∈ tl', ∀ q ∈ news, @Ne Nat q.1 p.1) := by
    intro base
    refine ⟨[], [], rfl, rfl, rfl, ?_, ?_⟩
    · intro r hr; cases hr
    · intro p hp; cases hp
  refine rest_ind (fun i ys nw => ∃ (rs : List (Addr × List Value)) (tl' : List (Addr × Obj)), ys = (rs.map fun r => Value.ref r.1) ∧ rs.map (·.2) = cs.take i ∧ nw = tl' ++ _ ∧ (∀ r ∈ rs, ∃ k, (r.1, listOf r.2.toArray k) ∈ tl') ∧ (∀ p ∈ tl', ∀ q ∈ news, @Ne Nat q.1 p.1)) ?_ ?_ cs.length 0 [] _ (Nat.zero_add _) (J0 _)
  · rintro i ys nw v I7 oI C7 oC D1 m2 h3 tk3 E' hi ⟨rs, tl', rfl, hmap, rfl, hmem, hlt⟩ ⟨t7, rfl⟩ hC' hx' F3 N3 off3 ne3
    have N5 := add_base3 N3
    simp only [List.cons_append, List.nil_append] at N5
    have hci : cs[i]? = some cs[i] := List.getElem?_eq_getElem hi
    have hp1 : (0 : Int) + (i : Int) * ((wd : Int) - 1 + 1) = ((i * wd : Nat) : Int) := by rw [Int.zero_add, Int.sub_add_cancel, Int.natCast_mul]
    have hp2 : (0 : Int) + (i : Int) * ((wd : Int) - 1 + 1) + ((wd : Int) - 1 + 1) = ((i * wd + wd : Nat) : Int) := by rw [hp1, Int.sub_add_cancel, Int.natCast_add]
    have hz9 : cs.flatten.toArray.size ≤ sizeLine := by rw [List.size_toArray, hlen1]; exact Nat.le_trans hbig (by decide)
    k_steps
    repeat' ((first | (first | ((with_reducible refine StopK.of (s := "subscriptTail") ?_); first | (with_reducible ((k_here; (with_reducible show wpAny _ _ (subscriptTail _ (Expr.Slice _ _ none _) (Value.ref _) (Value.ref _)) _ _ _); k_dflt (refine' kms_slice_lit (zs := cs[i]) ?qF ?qN ?ql ?qp ?qq ?qe ?_ ?qs ?qt ?qz; (case qF => k_asm); (case qN => k_asm); (case ql => exact News.isList (by k_asm) (by k_mem)); (case qp => kmk_part); (case qq => kmk_part); (case qe => exact piece_pick hcs hci hp1 hp2); (case qs => with_unfolding_all rfl); (case qt => kmk_pure); (case qz => exact hz9)); intro D7 h7 F7 N7 l7))) | ((k_here; (with_reducible show wpAny _ _ (subscriptTail _ (Expr.Slice _ _ none _) (Value.ref _) (Value.ref _)) _ _ _); k_dflt (refine' kms_slice_lit (zs := cs[i]) ?qF ?qN ?ql ?qp ?qq ?qe ?_ ?qs ?qt ?qz; (case qF => k_asm); (case qN => k_asm); (case ql => exact News.isList (by k_asm) (by k_mem)); (case qp => kmk_part); (case qq => kmk_part); (case qe => exact piece_pick hcs hci hp1 hp2); (case qs => with_unfolding_all rfl); (case qt => kmk_pure); (case qz => exact hz9)); intro D7 h7 F7 N7 l7)) | (rename Mk "subscriptTail" => hMkSubscriptTail; clear hMkSubscriptTail; (first | walk1 | (dsimp only; walk1)) <;> have hMkSubscriptTail : Mk "subscriptTail" := .mk _)) | ((with_reducible refine StopK.of (s := "call builtin:len") ?_); first | (with_reducible ((k_here; k_dflt (refine' len_led2 ?qN ?qm ?qz ?qk ?_; (case qN => k_asm); (case qm => k_mem); (case qz => first | exact hlen1 | exact rfl); (case qk => omega))))) | ((k_here; k_dflt (refine' len_led2 ?qN ?qm ?qz ?qk ?_; (case qN => k_asm); (case qm => k_mem); (case qz => first | exact hlen1 | exact rfl); (case qk => omega)))) | (rename Mk "call builtin:len" => hMkCallBuiltinLen; clear hMkCallBuiltinLen; (first | walk1 | (dsimp only; walk1)) <;> have hMkCallBuiltinLen : Mk "call builtin:len" := .mk _)) | ((with_reducible refine StopK.of (s := "eval ListComp") ?_); first | (with_reducible ((k_here; k_dflt (refine ListComp_step (_F₀ := by k_asm) (by with_unfolding_all rfl) (by decide) (by rfl) (by decide) (by rfl) ?_)))) | ((k_here; k_dflt (refine ListComp_step (_F₀ := by k_asm) (by with_unfolding_all rfl) (by decide) (by rfl) (by decide) (by rfl) ?_))) | (rename Mk "eval ListComp" => hMkEvalListComp; clear hMkEvalListComp; (first | walk1 | (dsimp only; walk1)) <;> have hMkEvalListComp : Mk "eval ListComp" := .mk _))) | fail); k_steps)
    have fr7 : ∀ q ∈ news, @Ne Nat q.1 D7 := fun q hq => Nat.ne_of_lt (l7 q (by repeat (first | exact List.mem_append_left _ hq | refine List.Mem.tail _ ?_)))
    refine LCg.CompEnd.intro F7 N7 ((D7, listOf cs[i].toArray 0) :: (tl' ++ _)) ?sub ?off trivial ⟨rs ++ [(D7, cs[i])], (D7, listOf cs[i].toArray 0) :: tl', ?_, ?_, rfl, ?_, ?_⟩
    case sub =>
      intro p hp
      rcases List.mem_cons.mp hp with rfl | hp
      · exact .tail _ (.head _)
      rcases List.mem_cons.mp hp with rfl | hp
      · exact .tail _ (.tail _ (.head _))
      rcases List.mem_cons.mp hp with rfl | hp
      · exact .tail _ (.tail _ (.tail _ (.head _)))
      rcases List.mem_cons.mp hp with rfl | hp
      · exact .head _
      · repeat (first | exact List.mem_append_right _ hp | refine List.Mem.tail _ ?_)
    case off =>
      exact ⟨⟨Nat.ne_of_gt (l7 _ (.head _)), Nat.ne_of_gt (l7 _ (.tail _ (.head _))), Nat.ne_of_gt (l7 _ (.tail _ (.tail _ (.head _))))⟩, off3⟩
    · rw [List.map_append]; rfl
    · rw [List.map_append, hmap, List.take_add_one, hci]; rfl
    · intro r hr
      rcases List.mem_append.mp hr with hr | hr
      · obtain ⟨k, hk⟩ := hmem r hr
        exact ⟨k, .tail _ hk⟩
      · rw [List.mem_singleton.mp hr]; exact ⟨_, .head _⟩
    · intro p hp
      rcases List.mem_cons.mp hp with rfl | hp
      · exact fr7
      · exact hlt p hp
  · rintro ys nw ⟨rs, tl', rfl, hmap, rfl, hmem, hlt⟩
    intro D7 h7 tk7 F7 N7 off7
    rw [List.take_length] at hmap
    replace off7 := off1_ne off7
    k_steps
    repeat' ((first | (first | ((with_reducible refine StopK.of (s := "subscriptTail") ?_); first | (with_reducible ((k_here; (with_reducible show wpAny _ _ (subscriptTail _ (Expr.Slice _ _ none _) (Value.ref _) (Value.ref _)) _ _ _); k_dflt (refine' kms_slice_lit (zs := cs[i]) ?qF ?qN ?ql ?qp ?qq ?qe ?_ ?qs ?qt ?qz; (case qF => k_asm); (case qN => k_asm); (case ql => exact News.isList (by k_asm) (by k_mem)); (case qp => kmk_part); (case qq => kmk_part); (case qe => exact piece_pick hcs hci hp1 hp2); (case qs => with_unfolding_all rfl); (case qt => kmk_pure); (case qz => exact hz9)); intro D7 h7 F7 N7 l7))) | ((k_here; (with_reducible show wpAny _ _ (subscriptTail _ (Expr.Slice _ _ none _) (Value.ref _) (Value.ref _)) _ _ _); k_dflt (refine' kms_slice_lit (zs := cs[i]) ?qF ?qN ?ql ?qp ?qq ?qe ?_ ?qs ?qt ?qz; (case qF => k_asm); (case qN => k_asm); (case ql => exact News.isList (by k_asm) (by k_mem)); (case qp => kmk_part); (case qq => kmk_part); (case qe => exact piece_pick hcs hci hp1 hp2); (case qs => with_unfolding_all rfl); (case qt => kmk_pure); (case qz => exact hz9)); intro D7 h7 F7 N7 l7)) | (rename Mk "subscriptTail" => hMkSubscriptTail; clear hMkSubscriptTail; (first | walk1 | (dsimp only; walk1)) <;> have hMkSubscriptTail : Mk "subscriptTail" := .mk _)) | ((with_reducible refine StopK.of (s := "call builtin:len") ?_); first | (with_reducible ((k_here; k_dflt (refine' len_led2 ?qN ?qm ?qz ?qk ?_; (case qN => k_asm); (case qm => k_mem); (case qz => first | exact hlen1 | exact rfl); (case qk => omega))))) | ((k_here; k_dflt (refine' len_led2 ?qN ?qm ?qz ?qk ?_; (case qN => k_asm); (case qm => k_mem); (case qz => first | exact hlen1 | exact rfl); (case qk => omega)))) | (rename Mk "call builtin:len" => hMkCallBuiltinLen; clear hMkCallBuiltinLen; (first | walk1 | (dsimp only; walk1)) <;> have hMkCallBuiltinLen : Mk "call builtin:len" := .mk _)) | ((with_reducible refine StopK.of (s := "eval ListComp") ?_); first | (with_reducible ((k_here; k_dflt (refine ListComp_step (_F₀ := by k_asm) (by with_unfolding_all rfl) (by decide) (by rfl) (by decide) (by rfl) ?_)))) | ((k_here; k_dflt (refine ListComp_step (_F₀ := by k_asm) (by with_unfolding_all rfl) (by decide) (by rfl) (by decide) (by rfl) ?_))) | (rename Mk "eval ListComp" => hMkEvalListComp; clear hMkEvalListComp; (first | walk1 | (dsimp only; walk1)) <;> have hMkEvalListComp : Mk "eval ListComp" := .mk _))) | fail); k_steps)
    refine hret _ ((D7, LCg.lst (rs.map fun r => Value.ref r.1)) :: tl') _ _ (by assumption) ?_ ?_ ⟨D7, _, rs, tl', rfl, rfl, hmap, hmem⟩
    · intro p hp
      rename News h₀ L _ _ => N8
      rcases List.mem_cons.mp hp with rfl | hp
      · exact N8 _ (.head _)
      rcases List.mem_append.mp hp with hp | hp
      · exact N8 p (.tail _ (List.mem_append_left _ hp))
      · exact N8 p (.tail _ (List.mem_append_right _ (by repeat (first | exact hp | refine List.Mem.tail _ ?_))))
    · intro p hp q hq
      rcases List.mem_cons.mp hp with rfl | hp
      · exact off7 q (List.mem_append_right _ (by repeat (first | exact hq | refine List.Mem.tail _ ?_)))
      · exact hlt p hp q hq

end
section
set_option hygiene false in
local macro_rules | `(tactic| k_all) => `(tactic| (intro p hp; exact Nat.ne_of_lt (l9d p (by repeat (first | exact hp | refine List.Mem.tail _ ?_)))))
theorem copy_of_c (w : World) (mean : ExcName → Option Value) (mg mb : Str → Option Value) (news : List (Addr × Obj)) (x dx B p1 p2 I : Addr) (kI kB k1 k2 : Nat) (u1 u2 u3 u4 u5 u6 v1 v3 tn tt t1 t2 t3 t4 t0 : Tok) (nn n2 : Int) (told : Str) (its : List Value) (many wide : Int)
    (hx : (x, instObj 180 dx) ∈ news) (hdx : (dx, arrObj w.params u1 u2 u3 u4 u5 u6 v1 v3 (Str.ofString "ARRAY") nn tn told tt B I) ∈ news) (hB : (B, listOf #[.ref p1, .ref p2] kB) ∈ news)
    (h1 : (p1, ({ cls := .type "tuple", data := .seq #[.int 1 t1, .int many t2] k1 } : Obj)) ∈ news) (h2 : (p2, ({ cls := .type "tuple", data := .seq #[.int 1 t3, .int wide t4] k2 } : Obj)) ∈ news)
    (hI : (I, listOf its.toArray kI) ∈ news) (g1 : 1 ≤ many) (g2 : many ≤ 1000) (g3 : 1 ≤ wide) (g4 : wide ≤ 1000) (hz : its.length ≤ 1000 * 1000) :
    Tell1 PySem.Challenge.rw_xm0946_01 Mine.pre.heap_1_1 Mine.pre.view_1_2 w mean mg mb 241 news [.ref x, .int n2 t0] 14 (fun r tl => ∃ (x' dx' I' : Addr) (k : Nat) (a1 a2 a3 a4 a5 a6 b1 b3 : Tok), r = .ref x' ∧ tl = [(I', listOf its.toArray k), (x', instObj 180 dx'), (dx', arrObj w.params a1 a2 a3 a4 a5 a6 b1 b3 (Str.ofString "ARRAY") n2 t0 told tt B I')] ∧ @LT.lt Nat _ dx' x' ∧ @LT.lt Nat _ dx' I') := by
  unfold Tell1
  w_on
  k_fill
  intro dp un gd cn cs a ccd cl outer A₀ base h₀ L m s Q E B0 F X N T hk hd hu hret
  have hMkCallRef : Mk "call ref" := .mk _
  refine wpAny_call ?_
  have N6 := news_add (news_add (news_add (news_add (news_add (news_add N hI) (.tail _ h2)) (.tail _ (.tail _ h1))) (.tail _ (.tail _ (.tail _ hB)))) (.tail _ (.tail _ (.tail _ (.tail _ hdx))))) (.tail _ (.tail _ (.tail _ (.tail _ (.tail _ hx)))))
  k_dflt (refine' code_def (binds := [(Str.ofString "value", .ref x), (Str.ofString "number", .int n2 t0)]) B0 F X N6 T rfl rfl hk ?qk6 ?qk7 ?qk8 ?qk9 ?qkB ?_ ?qc2 ?qc3 ?qc4 ?qc5; ((case qk6 => k_is); (case qk7 => k_is); (case qk8 => ktr_room); (case qk9 => exact BindsTo.of_eq rfl); (case qc5 => decide); (case qkB => exact locs rfl); (case qc2 => exact rfl); (case qc3 => exact rfl); (case qc4 => exact rfl); intro g' L' h' FG' F' N' B' X' T'; dsimp only; k_fold))
  k_steps
  repeat' ((first | (first | ((with_reducible refine StopK.of (s := "call ref") ?_); first | (with_reducible ((k_here; k_dflt (refine' Tell.use (array_make_c _ _ _ _ _ _ p1 p2 _ _ _ _ _ _ t1 t2 t3 t4 _ _ _ _ _ ?qh1 ?qh2 ?qh3 ?qh4 ?qh5 ?qh6 ?qh7) ?qk1 ?qk2 ?qk3 ?qk4 ?qk5 ?qkK ?qkd ?qku ?_; ((case qk1 => k_asm); (case qk2 => k_asm); (case qk3 => k_asm); (case qk4 => k_asm); (case qk5 => k_asm); (case qkK => first | exact rfl | assumption); (case qkd => ktr_room); (case qku => ktr_units)); (case qh1 => k_mem); (case qh2 => k_mem); (case qh3 => k_mem); (case qh4 => omega); (case qh5 => omega); (case qh6 => omega); (case qh7 => omega)); intro r9 tl9 h9 tk9 F9 N9 l9 p9; obtain ⟨x9, dx9, I9, its9, k9, a1, a2, a3, a4, a5, a6, b1, b3, e9, e8, lt1, lt2⟩ := p9; subst e9; subst e8; simp only [List.cons_append, List.nil_append] at N9; have l9d := l9 (dx9, _) (List.Mem.tail _ (List.Mem.tail _ (List.Mem.head _))); dsimp only at l9d; have l9e := l9d; k_lt l9e; clear l9; replace lt1 := ltN lt1; replace lt2 := ltN lt2; (try dsimp only at l9e); (try dsimp only); (try k_fold)))) | ((k_here; k_dflt (refine' Tell.use (array_make_c _ _ _ _ _ _ p1 p2 _ _ _ _ _ _ t1 t2 t3 t4 _ _ _ _ _ ?qh1 ?qh2 ?qh3 ?qh4 ?qh5 ?qh6 ?qh7) ?qk1 ?qk2 ?qk3 ?qk4 ?qk5 ?qkK ?qkd ?qku ?_; ((case qk1 => k_asm); (case qk2 => k_asm); (case qk3 => k_asm); (case qk4 => k_asm); (case qk5 => k_asm); (case qkK => first | exact rfl | assumption); (case qkd => ktr_room); (case qku => ktr_units)); (case qh1 => k_mem); (case qh2 => k_mem); (case qh3 => k_mem); (case qh4 => omega); (case qh5 => omega); (case qh6 => omega); (case qh7 => omega)); intro r9 tl9 h9 tk9 F9 N9 l9 p9; obtain ⟨x9, dx9, I9, its9, k9, a1, a2, a3, a4, a5, a6, b1, b3, e9, e8, lt1, lt2⟩ := p9; subst e9; subst e8; simp only [List.cons_append, List.nil_append] at N9; have l9d := l9 (dx9, _) (List.Mem.tail _ (List.Mem.tail _ (List.Mem.head _))); dsimp only at l9d; have l9e := l9d; k_lt l9e; clear l9; replace lt1 := ltN lt1; replace lt2 := ltN lt2; (try dsimp only at l9e); (try dsimp only); (try k_fold))) | (rename Mk "call ref" => hMkCallRef; clear hMkCallRef; (first | walk1 | (dsimp only; walk1)) <;> have hMkCallRef : Mk "call ref" := .mk _))) | fail); k_steps)
  rename (_ ∧ _ ∧ _ ∧ _ ∧ _ ∧ _ ∧ _ ∧ _ ∧ _ ∧ AllLt _ news) => b7
  rename News h₀ L _ (_ :: _) => N8
  have q3 : ∀ q ∈ news, @LT.lt Nat _ q.1 dx9 := kst_ltOf l9e.2.2.2.2.2.2
  have q4 := kst_ltOf b7.2.2.2.2.2.2.2.2.2
  have q5 := b7.2.2.1
  exact hret _ [_, _, _] _ _ (by assumption) (pick_copy N8) (ne3 q4 (fun q hq => Nat.lt_trans (q3 q hq) lt1) q3) ⟨_, _, _, _, _, _, _, _, _, _, _, _, rfl, rfl, lt1, q5⟩

end
section
set_option hygiene false in
local macro_rules | `(tactic| k_all) => `(tactic| (intro p hp; exact l9d p (by repeat (first | exact hp | refine List.Mem.tail _ ?_))))
theorem sorted_array_c (w : World) (mean : ExcName → Option Value) (mg mb : Str → Option Value) (news : List (Addr × Obj)) (x dx B p1 p2 I : Addr) (kI kB k1 k2 : Nat) (u1 u2 u3 u4 u5 u6 v1 v3 tn tt t1 t2 t3 t4 t0 tc : Tok) (nn n2 : Int) (told : Str) (cs : List (List Value)) (wd : Nat) (d : Bool)
    (hx : (x, instObj 180 dx) ∈ news) (hdx : (dx, arrObj w.params u1 u2 u3 u4 u5 u6 v1 v3 (Str.ofString "ARRAY") nn tn told tt B I) ∈ news) (hB : (B, listOf #[.ref p1, .ref p2] kB) ∈ news)
    (h1 : (p1, ({ cls := .type "tuple", data := .seq #[.int 1 t1, .int (cs.length : Int) t2] k1 } : Obj)) ∈ news) (h2 : (p2, ({ cls := .type "tuple", data := .seq #[.int 1 t3, .int (wd : Int) t4] k2 } : Obj)) ∈ news)
    (hI : (I, listOf cs.flatten.toArray kI) ∈ news) (hcs : ∀ c ∈ cs, c.length = wd) (hs1 : 1 ≤ cs.length) (hs2 : cs.length ≤ 1000) (hw1 : 1 ≤ wd) (hw2 : wd ≤ 1000) (hint : ∀ c ∈ cs, ∃ x t e, c = .int x t :: e) :
    Tell1 PySem.Challenge.rw_xm0946_01 Mine.pre.heap_1_1 Mine.pre.view_1_2 w mean mg mb 287 news [.ref x, .int 1 tc, .bool d, .int n2 t0] 20 (fun r tl => ∃ (x' dx' I' : Addr) (k : Nat) (a1 a2 a3 a4 a5 a6 b1 b3 : Tok), r = .ref x' ∧
      tl = [(I', listOf (sortRows d lstKey cs).flatten.toArray k), (x', instObj 180 dx'), (dx', arrObj w.params a1 a2 a3 a4 a5 a6 b1 b3 (Str.ofString "ARRAY") n2 t0 told tt B I')]) := by
  unfold Tell1
  w_on
  k_fill
  intro dp un gd cn cs' a ccd cl outer A₀ base h₀ L m s Q E B0 F X N T hk hd hu hret
  have hMkCallBuiltinLen : Mk "call builtin:len" := .mk _
  have hMkSubscriptTail : Mk "subscriptTail" := .mk _
  have hMkCallRef : Mk "call ref" := .mk _
  have hMkEvalListComp : Mk "eval ListComp" := .mk _
  refine wpAny_call ?_
  have N6 := news_add (news_add (news_add (news_add (news_add (news_add N hI) (.tail _ h2)) (.tail _ (.tail _ h1))) (.tail _ (.tail _ (.tail _ hB)))) (.tail _ (.tail _ (.tail _ (.tail _ hdx))))) (.tail _ (.tail _ (.tail _ (.tail _ (.tail _ hx)))))
  k_dflt (refine' code_def (binds := [(Str.ofString "value", .ref x), (Str.ofString "column", .int 1 tc), (Str.ofString "is_down", .bool d), (Str.ofString "number", .int n2 t0)]) B0 F X N6 T rfl rfl hk ?qk6 ?qk7 ?qk8 ?qk9 ?qkB ?_ ?qc2 ?qc3 ?qc4 ?qc5; ((case qk6 => k_is); (case qk7 => k_is); (case qk8 => ktr_room); (case qk9 => exact BindsTo.of_eq rfl); (case qc5 => decide); (case qkB => exact locs rfl); (case qc2 => exact rfl); (case qc3 => exact rfl); (case qc4 => exact rfl); intro g' L' h' FG' F' N' B' X' T'; dsimp only; k_fold))
  have hflat : cs.flatten.length ≤ 1000 * 1000 := by rw [flatten_len hcs]; exact Nat.mul_le_mul hs2 hw2
  have hrl0 : ∀ rs : List (Addr × List Value), rs.map (·.2) = cs → rs.length ≤ 1000 := fun rs h => by rw [← h, List.length_map] at hs2; exact hs2
  k_steps
  repeat' ((first | (first | ((with_reducible refine StopK.of (s := "call builtin:len") ?_); first | (with_reducible ((k_here; k_dflt (refine' len_led2 ?qN ?qm ?qz ?qk ?_; (case qN => k_asm); (case qm => first | k_mem | (repeat (first | exact List.mem_append_right _ hr0m | refine List.Mem.tail _ ?_))); (case qz => first | exact hl0 | exact rfl); (case qk => omega))))) | ((k_here; k_dflt (refine' len_led2 ?qN ?qm ?qz ?qk ?_; (case qN => k_asm); (case qm => first | k_mem | (repeat (first | exact List.mem_append_right _ hr0m | refine List.Mem.tail _ ?_))); (case qz => first | exact hl0 | exact rfl); (case qk => omega)))) | (rename Mk "call builtin:len" => hMkCallBuiltinLen; clear hMkCallBuiltinLen; (first | walk1 | (dsimp only; walk1)) <;> have hMkCallBuiltinLen : Mk "call builtin:len" := .mk _)) | ((with_reducible refine StopK.of (s := "subscriptTail") ?_); first | (with_reducible ((k_here; (with_reducible show wpAny _ _ (subscriptTail _ _ (Value.ref D7) (Value.int _ _)) _ _ _); k_dflt (refine' item_led ?qN ?qm ?qa ?qb ?qx ?_; (case qN => k_asm); (case qm => k_mem); (case qx => exact hx0); (case qa => omega); (case qb => omega))))) | ((k_here; (with_reducible show wpAny _ _ (subscriptTail _ _ (Value.ref D7) (Value.int _ _)) _ _ _); k_dflt (refine' item_led ?qN ?qm ?qa ?qb ?qx ?_; (case qN => k_asm); (case qm => k_mem); (case qx => exact hx0); (case qa => omega); (case qb => omega)))) | (rename Mk "subscriptTail" => hMkSubscriptTail; clear hMkSubscriptTail; (first | walk1 | (dsimp only; walk1)) <;> have hMkSubscriptTail : Mk "subscriptTail" := .mk _)) | ((with_reducible refine StopK.of (s := "call ref") ?_); first | (with_reducible ((k_here; k_dflt (refine' Tell.use (sorted_rows_c _ _ _ _ _ D7 _ rs _ _ ?qh1 ?qh2 ?qh3) ?qk1 ?qk2 ?qk3 ?qk4 ?qk5 ?qkK ?qkd ?qku ?_; ((case qk1 => k_asm); (case qk2 => k_asm); (case qk3 => k_asm); (case qk4 => k_asm); (case qk5 => k_asm); (case qkK => first | exact rfl | assumption); (case qkd => ktr_room); (case qku => ktr_units)); (case qh1 => k_mem); (case qh3 => exact hrl); (case qh2 => exact fun r hr => ⟨(hmem r hr).imp fun k hk => by repeat (first | exact List.mem_append_right _ hk | refine List.Mem.tail _ ?_), hint _ (hmap ▸ List.mem_map.mpr ⟨r, hr, rfl⟩)⟩)); intro r9 tl9 h9 tk9 F9 N9 l9 p9; obtain ⟨Ds, ks, e9, e8⟩ := p9; subst e9; subst e8; simp only [List.cons_append, List.nil_append] at N9; have l9s := l9 (Ds, _) (List.Mem.head _); dsimp only at l9s; clear l9; k_lt l9s; (try dsimp only at l9s); (try dsimp only); (try k_fold)))) | (with_reducible ((k_here; k_dflt (refine' Tell1.use (copy_of_c _ _ _ _ _ x dx B p1 p2 I _ _ _ _ _ _ _ _ _ _ _ _ _ _ t1 t2 t3 t4 _ _ _ _ cs.flatten (cs.length : Int) (wd : Int) ?qh1 ?qh2 ?qh3 ?qh4 ?qh5 ?qh6 ?g1 ?g2 ?g3 ?g4 ?g5) ?qk1 ?qk2 ?qk3 ?qk4 ?qk5 ?qkK ?qkd ?qku ?_; ((case qk1 => k_asm); (case qk2 => k_asm); (case qk3 => k_asm); (case qk4 => k_asm); (case qk5 => k_asm); (case qkK => first | exact rfl | assumption); (case qkd => ktr_room); (case qku => ktr_units)); (case qh1 => k_mem); (case qh2 => k_mem); (case qh3 => k_mem); (case qh4 => k_mem); (case qh5 => k_mem); (case qh6 => k_mem); (case g1 => omega); (case g2 => omega); (case g3 => omega); (case g4 => omega); (case g5 => exact hflat)); intro r9 tl9 h9 tk9 F9 N9 l9 p9; obtain ⟨x9, dx9, I9, k9, a1, a2, a3, a4, a5, a6, b1, b3, e9, e8, lt1, lt2⟩ := p9; subst e9; subst e8; simp only [List.cons_append, List.nil_append] at N9; have l9d := l9 (dx9, _) (List.Mem.tail _ (List.Mem.tail _ (List.Mem.head _))); have l9I := l9 (I9, _) (List.Mem.head _); have l9x := l9 (x9, _) (List.Mem.tail _ (List.Mem.head _)); dsimp only at l9d l9I l9x; clear l9; (try dsimp only); (try k_fold)))) | (with_reducible ((k_here; k_dflt (refine' Tell1.use (rows_of_c _ _ _ _ _ x dx B p1 p2 I _ _ _ _ _ _ _ _ _ _ _ _ _ _ t1 t2 t3 t4 _ _ cs wd ?qh1 ?qh2 ?qh3 ?qh4 ?qh5 ?qh6 hcs hs1 hs2 hw1 hw2) ?qk1 ?qk2 ?qk3 ?qk4 ?qk5 ?qkK ?qkd ?qku ?_; ((case qk1 => k_asm); (case qk2 => k_asm); (case qk3 => k_asm); (case qk4 => k_asm); (case qk5 => k_asm); (case qkK => first | exact rfl | assumption); (case qkd => ktr_room); (case qku => ktr_units)); (case qh1 => k_mem); (case qh2 => k_mem); (case qh3 => k_mem); (case qh4 => k_mem); (case qh5 => k_mem); (case qh6 => k_mem)); intro r9 tl9 h9 tk9 F9 N9 l9 p9; obtain ⟨D7, k7, rs, tl', e9, e8, hmap, hmem⟩ := p9; subst e9; subst e8; replace N9 := rows_swap N9; simp only [List.cons_append, List.nil_append] at N9; clear l9; obtain ⟨r0, hr0, hl0, hx0⟩ := row_first hmap hs1 hcs; obtain ⟨kr0, hr0m⟩ := hmem r0 (List.mem_of_getElem? hr0); have hrl := hrl0 rs hmap; (try dsimp only); (try k_fold)))) | ((k_here; k_dflt (refine' Tell.use (sorted_rows_c _ _ _ _ _ D7 _ rs _ _ ?qh1 ?qh2 ?qh3) ?qk1 ?qk2 ?qk3 ?qk4 ?qk5 ?qkK ?qkd ?qku ?_; ((case qk1 => k_asm); (case qk2 => k_asm); (case qk3 => k_asm); (case qk4 => k_asm); (case qk5 => k_asm); (case qkK => first | exact rfl | assumption); (case qkd => ktr_room); (case qku => ktr_units)); (case qh1 => k_mem); (case qh3 => exact hrl); (case qh2 => exact fun r hr => ⟨(hmem r hr).imp fun k hk => by repeat (first | exact List.mem_append_right _ hk | refine List.Mem.tail _ ?_), hint _ (hmap ▸ List.mem_map.mpr ⟨r, hr, rfl⟩)⟩)); intro r9 tl9 h9 tk9 F9 N9 l9 p9; obtain ⟨Ds, ks, e9, e8⟩ := p9; subst e9; subst e8; simp only [List.cons_append, List.nil_append] at N9; have l9s := l9 (Ds, _) (List.Mem.head _); dsimp only at l9s; clear l9; k_lt l9s; (try dsimp only at l9s); (try dsimp only); (try k_fold))) | ((k_here; k_dflt (refine' Tell1.use (copy_of_c _ _ _ _ _ x dx B p1 p2 I _ _ _ _ _ _ _ _ _ _ _ _ _ _ t1 t2 t3 t4 _ _ _ _ cs.flatten (cs.length : Int) (wd : Int) ?qh1 ?qh2 ?qh3 ?qh4 ?qh5 ?qh6 ?g1 ?g2 ?g3 ?g4 ?g5) ?qk1 ?qk2 ?qk3 ?qk4 ?qk5 ?qkK ?qkd ?qku ?_; ((case qk1 => k_asm); (case qk2 => k_asm); (case qk3 => k_asm); (case qk4 => k_asm); (case qk5 => k_asm); (case qkK => first | exact rfl | assumption); (case qkd => ktr_room); (case qku => ktr_units)); (case qh1 => k_mem); (case qh2 => k_mem); (case qh3 => k_mem); (case qh4 => k_mem); (case qh5 => k_mem); (case qh6 => k_mem); (case g1 => omega); (case g2 => omega); (case g3 => omega); (case g4 => omega); (case g5 => exact hflat)); intro r9 tl9 h9 tk9 F9 N9 l9 p9; obtain ⟨x9, dx9, I9, k9, a1, a2, a3, a4, a5, a6, b1, b3, e9, e8, lt1, lt2⟩ := p9; subst e9; subst e8; simp only [List.cons_append, List.nil_append] at N9; have l9d := l9 (dx9, _) (List.Mem.tail _ (List.Mem.tail _ (List.Mem.head _))); have l9I := l9 (I9, _) (List.Mem.head _); have l9x := l9 (x9, _) (List.Mem.tail _ (List.Mem.head _)); dsimp only at l9d l9I l9x; clear l9; (try dsimp only); (try k_fold))) | ((k_here; k_dflt (refine' Tell1.use (rows_of_c _ _ _ _ _ x dx B p1 p2 I _ _ _ _ _ _ _ _ _ _ _ _ _ _ t1 t2 t3 t4 _ _ cs wd ?qh1 ?qh2 ?qh3 ?qh4 ?qh5 ?qh6 hcs hs1 hs2 hw1 hw2) ?qk1 ?qk2 ?qk3 ?qk4 ?qk5 ?qkK ?qkd ?qku ?_; ((case qk1 => k_asm); (case qk2 => k_asm); (case qk3 => k_asm); (case qk4 => k_asm); (case qk5 => k_asm); (case qkK => first | exact rfl | assumption); (case qkd => ktr_room); (case qku => ktr_units)); (case qh1 => k_mem); (case qh2 => k_mem); (case qh3 => k_mem); (case qh4 => k_mem); (case qh5 => k_mem); (case qh6 => k_mem)); intro r9 tl9 h9 tk9 F9 N9 l9 p9; obtain ⟨D7, k7, rs, tl', e9, e8, hmap, hmem⟩ := p9; subst e9; subst e8; replace N9 := rows_swap N9; simp only [List.cons_append, List.nil_append] at N9; clear l9; obtain ⟨r0, hr0, hl0, hx0⟩ := row_first hmap hs1 hcs; obtain ⟨kr0, hr0m⟩ := hmem r0 (List.mem_of_getElem? hr0); have hrl := hrl0 rs hmap; (try dsimp only); (try k_fold))) | (rename Mk "call ref" => hMkCallRef; clear hMkCallRef; (first | walk1 | (dsimp only; walk1)) <;> have hMkCallRef : Mk "call ref" := .mk _)) | ((with_reducible refine StopK.of (s := "eval ListComp") ?_); first | (with_reducible ((k_here; (with_reducible show wpAny _ _ (eval (Expr.ListComp _ [_, _] _ _) _) _ _ _); k_dflt (refine ListComp_flat (F₀ := by k_asm) (by with_unfolding_all rfl) (by decide) (by rfl) (by decide) (by rfl) (by rfl) (by decide) (by decide) ?_)))) | ((k_here; (with_reducible show wpAny _ _ (eval (Expr.ListComp _ [_, _] _ _) _) _ _ _); k_dflt (refine ListComp_flat (F₀ := by k_asm) (by with_unfolding_all rfl) (by decide) (by rfl) (by decide) (by rfl) (by rfl) (by decide) (by decide) ?_))) | (rename Mk "eval ListComp" => hMkEvalListComp; clear hMkEvalListComp; (first | walk1 | (dsimp only; walk1)) <;> have hMkEvalListComp : Mk "eval ListComp" := .mk _))) | fail); k_steps)
  have hsm : ∀ r ∈ sortRows d rowKey rs, r ∈ rs := fun r hr => (sortRows_mem hr).resolve_left (by intro h; cases h)
  refine ⟨Ds, sortRows d rowKey rs, _, _, rfl, rfl, by assumption, by assumption, .head _, fun r hr => ?rows, ?z1, ?z2, ?_⟩
  case rows =>
    obtain ⟨k, hk⟩ := hmem r (hsm r hr)
    exact ⟨k, by repeat (first | exact List.mem_append_right _ hk | refine List.Mem.tail _ ?_)⟩
  case z1 => exact Nat.le_trans (Nat.le_of_eq (sortRows_length d rowKey rs [])) (Nat.le_trans (by rw [List.length_nil, Nat.zero_add]; exact hrl) (by decide))
  case z2 => exact flat_small (fun r hr => hcs _ (hmap ▸ List.mem_map.mpr ⟨r, hsm r hr, rfl⟩)) (Nat.le_trans (Nat.le_of_eq (sortRows_length d rowKey rs [])) (by rw [List.length_nil, Nat.zero_add]; exact hrl)) hw2
  intro Dn hn tkn Fn Nn ln
  rw [sort_flat, hmap] at Nn
  k_lt ln
  try dsimp only at ln
  obtain ⟨y1, y2, y3, y4, y5, y6, y7, y8⟩ := ne_split7 l9d
  k_steps
  repeat' ((first | (first | ((with_reducible refine StopK.of (s := "call builtin:len") ?_); first | (with_reducible ((k_here; k_dflt (refine' len_led2 ?qN ?qm ?qz ?qk ?_; (case qN => k_asm); (case qm => first | k_mem | (repeat (first | exact List.mem_append_right _ hr0m | refine List.Mem.tail _ ?_))); (case qz => first | exact hl0 | exact rfl); (case qk => omega))))) | ((k_here; k_dflt (refine' len_led2 ?qN ?qm ?qz ?qk ?_; (case qN => k_asm); (case qm => first | k_mem | (repeat (first | exact List.mem_append_right _ hr0m | refine List.Mem.tail _ ?_))); (case qz => first | exact hl0 | exact rfl); (case qk => omega)))) | (rename Mk "call builtin:len" => hMkCallBuiltinLen; clear hMkCallBuiltinLen; (first | walk1 | (dsimp only; walk1)) <;> have hMkCallBuiltinLen : Mk "call builtin:len" := .mk _)) | ((with_reducible refine StopK.of (s := "subscriptTail") ?_); first | (with_reducible ((k_here; (with_reducible show wpAny _ _ (subscriptTail _ _ (Value.ref D7) (Value.int _ _)) _ _ _); k_dflt (refine' item_led ?qN ?qm ?qa ?qb ?qx ?_; (case qN => k_asm); (case qm => k_mem); (case qx => exact hx0); (case qa => omega); (case qb => omega))))) | ((k_here; (with_reducible show wpAny _ _ (subscriptTail _ _ (Value.ref D7) (Value.int _ _)) _ _ _); k_dflt (refine' item_led ?qN ?qm ?qa ?qb ?qx ?_; (case qN => k_asm); (case qm => k_mem); (case qx => exact hx0); (case qa => omega); (case qb => omega)))) | (rename Mk "subscriptTail" => hMkSubscriptTail; clear hMkSubscriptTail; (first | walk1 | (dsimp only; walk1)) <;> have hMkSubscriptTail : Mk "subscriptTail" := .mk _)) | ((with_reducible refine StopK.of (s := "call ref") ?_); first | (with_reducible ((k_here; k_dflt (refine' Tell.use (sorted_rows_c _ _ _ _ _ D7 _ rs _ _ ?qh1 ?qh2 ?qh3) ?qk1 ?qk2 ?qk3 ?qk4 ?qk5 ?qkK ?qkd ?qku ?_; ((case qk1 => k_asm); (case qk2 => k_asm); (case qk3 => k_asm); (case qk4 => k_asm); (case qk5 => k_asm); (case qkK => first | exact rfl | assumption); (case qkd => ktr_room); (case qku => ktr_units)); (case qh1 => k_mem); (case qh3 => exact hrl); (case qh2 => exact fun r hr => ⟨(hmem r hr).imp fun k hk => by repeat (first | exact List.mem_append_right _ hk | refine List.Mem.tail _ ?_), hint _ (hmap ▸ List.mem_map.mpr ⟨r, hr, rfl⟩)⟩)); intro r9 tl9 h9 tk9 F9 N9 l9 p9; obtain ⟨Ds, ks, e9, e8⟩ := p9; subst e9; subst e8; simp only [List.cons_append, List.nil_append] at N9; have l9s := l9 (Ds, _) (List.Mem.head _); dsimp only at l9s; clear l9; k_lt l9s; (try dsimp only at l9s); (try dsimp only); (try k_fold)))) | (with_reducible ((k_here; k_dflt (refine' Tell1.use (copy_of_c _ _ _ _ _ x dx B p1 p2 I _ _ _ _ _ _ _ _ _ _ _ _ _ _ t1 t2 t3 t4 _ _ _ _ cs.flatten (cs.length : Int) (wd : Int) ?qh1 ?qh2 ?qh3 ?qh4 ?qh5 ?qh6 ?g1 ?g2 ?g3 ?g4 ?g5) ?qk1 ?qk2 ?qk3 ?qk4 ?qk5 ?qkK ?qkd ?qku ?_; ((case qk1 => k_asm); (case qk2 => k_asm); (case qk3 => k_asm); (case qk4 => k_asm); (case qk5 => k_asm); (case qkK => first | exact rfl | assumption); (case qkd => ktr_room); (case qku => ktr_units)); (case qh1 => k_mem); (case qh2 => k_mem); (case qh3 => k_mem); (case qh4 => k_mem); (case qh5 => k_mem); (case qh6 => k_mem); (case g1 => omega); (case g2 => omega); (case g3 => omega); (case g4 => omega); (case g5 => exact hflat)); intro r9 tl9 h9 tk9 F9 N9 l9 p9; obtain ⟨x9, dx9, I9, k9, a1, a2, a3, a4, a5, a6, b1, b3, e9, e8, lt1, lt2⟩ := p9; subst e9; subst e8; simp only [List.cons_append, List.nil_append] at N9; have l9d := l9 (dx9, _) (List.Mem.tail _ (List.Mem.tail _ (List.Mem.head _))); have l9I := l9 (I9, _) (List.Mem.head _); have l9x := l9 (x9, _) (List.Mem.tail _ (List.Mem.head _)); dsimp only at l9d l9I l9x; clear l9; (try dsimp only); (try k_fold)))) | (with_reducible ((k_here; k_dflt (refine' Tell1.use (rows_of_c _ _ _ _ _ x dx B p1 p2 I _ _ _ _ _ _ _ _ _ _ _ _ _ _ t1 t2 t3 t4 _ _ cs wd ?qh1 ?qh2 ?qh3 ?qh4 ?qh5 ?qh6 hcs hs1 hs2 hw1 hw2) ?qk1 ?qk2 ?qk3 ?qk4 ?qk5 ?qkK ?qkd ?qku ?_; ((case qk1 => k_asm); (case qk2 => k_asm); (case qk3 => k_asm); (case qk4 => k_asm); (case qk5 => k_asm); (case qkK => first | exact rfl | assumption); (case qkd => ktr_room); (case qku => ktr_units)); (case qh1 => k_mem); (case qh2 => k_mem); (case qh3 => k_mem); (case qh4 => k_mem); (case qh5 => k_mem); (case qh6 => k_mem)); intro r9 tl9 h9 tk9 F9 N9 l9 p9; obtain ⟨D7, k7, rs, tl', e9, e8, hmap, hmem⟩ := p9; subst e9; subst e8; replace N9 := rows_swap N9; simp only [List.cons_append, List.nil_append] at N9; clear l9; obtain ⟨r0, hr0, hl0, hx0⟩ := row_first hmap hs1 hcs; obtain ⟨kr0, hr0m⟩ := hmem r0 (List.mem_of_getElem? hr0); have hrl := hrl0 rs hmap; (try dsimp only); (try k_fold)))) | ((k_here; k_dflt (refine' Tell.use (sorted_rows_c _ _ _ _ _ D7 _ rs _ _ ?qh1 ?qh2 ?qh3) ?qk1 ?qk2 ?qk3 ?qk4 ?qk5 ?qkK ?qkd ?qku ?_; ((case qk1 => k_asm); (case qk2 => k_asm); (case qk3 => k_asm); (case qk4 => k_asm); (case qk5 => k_asm); (case qkK => first | exact rfl | assumption); (case qkd => ktr_room); (case qku => ktr_units)); (case qh1 => k_mem); (case qh3 => exact hrl); (case qh2 => exact fun r hr => ⟨(hmem r hr).imp fun k hk => by repeat (first | exact List.mem_append_right _ hk | refine List.Mem.tail _ ?_), hint _ (hmap ▸ List.mem_map.mpr ⟨r, hr, rfl⟩)⟩)); intro r9 tl9 h9 tk9 F9 N9 l9 p9; obtain ⟨Ds, ks, e9, e8⟩ := p9; subst e9; subst e8; simp only [List.cons_append, List.nil_append] at N9; have l9s := l9 (Ds, _) (List.Mem.head _); dsimp only at l9s; clear l9; k_lt l9s; (try dsimp only at l9s); (try dsimp only); (try k_fold))) | ((k_here; k_dflt (refine' Tell1.use (copy_of_c _ _ _ _ _ x dx B p1 p2 I _ _ _ _ _ _ _ _ _ _ _ _ _ _ t1 t2 t3 t4 _ _ _ _ cs.flatten (cs.length : Int) (wd : Int) ?qh1 ?qh2 ?qh3 ?qh4 ?qh5 ?qh6 ?g1 ?g2 ?g3 ?g4 ?g5) ?qk1 ?qk2 ?qk3 ?qk4 ?qk5 ?qkK ?qkd ?qku ?_; ((case qk1 => k_asm); (case qk2 => k_asm); (case qk3 => k_asm); (case qk4 => k_asm); (case qk5 => k_asm); (case qkK => first | exact rfl | assumption); (case qkd => ktr_room); (case qku => ktr_units)); (case qh1 => k_mem); (case qh2 => k_mem); (case qh3 => k_mem); (case qh4 => k_mem); (case qh5 => k_mem); (case qh6 => k_mem); (case g1 => omega); (case g2 => omega); (case g3 => omega); (case g4 => omega); (case g5 => exact hflat)); intro r9 tl9 h9 tk9 F9 N9 l9 p9; obtain ⟨x9, dx9, I9, k9, a1, a2, a3, a4, a5, a6, b1, b3, e9, e8, lt1, lt2⟩ := p9; subst e9; subst e8; simp only [List.cons_append, List.nil_append] at N9; have l9d := l9 (dx9, _) (List.Mem.tail _ (List.Mem.tail _ (List.Mem.head _))); have l9I := l9 (I9, _) (List.Mem.head _); have l9x := l9 (x9, _) (List.Mem.tail _ (List.Mem.head _)); dsimp only at l9d l9I l9x; clear l9; (try dsimp only); (try k_fold))) | ((k_here; k_dflt (refine' Tell1.use (rows_of_c _ _ _ _ _ x dx B p1 p2 I _ _ _ _ _ _ _ _ _ _ _ _ _ _ t1 t2 t3 t4 _ _ cs wd ?qh1 ?qh2 ?qh3 ?qh4 ?qh5 ?qh6 hcs hs1 hs2 hw1 hw2) ?qk1 ?qk2 ?qk3 ?qk4 ?qk5 ?qkK ?qkd ?qku ?_; ((case qk1 => k_asm); (case qk2 => k_asm); (case qk3 => k_asm); (case qk4 => k_asm); (case qk5 => k_asm); (case qkK => first | exact rfl | assumption); (case qkd => ktr_room); (case qku => ktr_units)); (case qh1 => k_mem); (case qh2 => k_mem); (case qh3 => k_mem); (case qh4 => k_mem); (case qh5 => k_mem); (case qh6 => k_mem)); intro r9 tl9 h9 tk9 F9 N9 l9 p9; obtain ⟨D7, k7, rs, tl', e9, e8, hmap, hmem⟩ := p9; subst e9; subst e8; replace N9 := rows_swap N9; simp only [List.cons_append, List.nil_append] at N9; clear l9; obtain ⟨r0, hr0, hl0, hx0⟩ := row_first hmap hs1 hcs; obtain ⟨kr0, hr0m⟩ := hmem r0 (List.mem_of_getElem? hr0); have hrl := hrl0 rs hmap; (try dsimp only); (try k_fold))) | (rename Mk "call ref" => hMkCallRef; clear hMkCallRef; (first | walk1 | (dsimp only; walk1)) <;> have hMkCallRef : Mk "call ref" := .mk _)) | ((with_reducible refine StopK.of (s := "eval ListComp") ?_); first | (with_reducible ((k_here; (with_reducible show wpAny _ _ (eval (Expr.ListComp _ [_, _] _ _) _) _ _ _); k_dflt (refine ListComp_flat (F₀ := by k_asm) (by with_unfolding_all rfl) (by decide) (by rfl) (by decide) (by rfl) (by rfl) (by decide) (by decide) ?_)))) | ((k_here; (with_reducible show wpAny _ _ (eval (Expr.ListComp _ [_, _] _ _) _) _ _ _); k_dflt (refine ListComp_flat (F₀ := by k_asm) (by with_unfolding_all rfl) (by decide) (by rfl) (by decide) (by rfl) (by rfl) (by decide) (by decide) ?_))) | (rename Mk "eval ListComp" => hMkEvalListComp; clear hMkEvalListComp; (first | walk1 | (dsimp only; walk1)) <;> have hMkEvalListComp : Mk "eval ListComp" := .mk _))) | fail); k_steps)
  rename News h₀ L _ (_ :: _ :: _) => N8
  have q1 := kst_ltOf ln.2.2.2.2.2.2.2.2.2.2.2
  exact hret _ [_, _, _] _ _ (by assumption) (pick_sort N8) (ne3' (fun q hq => Nat.ne_of_lt (q1 q (List.mem_append_left _ hq))) (fun q hq => l9x q (by repeat (first | exact List.mem_append_left _ hq | refine List.Mem.tail _ ?_))) (fun q hq => y8 q (List.mem_append_left _ hq))) ⟨_, _, _, _, _, _, _, _, _, _, _, _, rfl, rfl⟩

end
end
noncomputable def core.tw3108466561837040088 : Nat := 0
noncomputable def core.tw9617955663982023747 : Nat := 0
noncomputable def core.tw1883992755335404382 : Nat := 0
noncomputable def core.tw4887514350273250649 : Nat := 0
noncomputable def core.tw140640854431783811 : Nat := 0
noncomputable def core.tw2900391872145340987 : Nat := 0
noncomputable def core.tw1446160841621769154 : Nat := 0
noncomputable def core.tw7630449461925591592 : Nat := 0
noncomputable def core.tw10052755094547609234 : Nat := 0
noncomputable def core.tw15044937810806165742 : Nat := 0
noncomputable def core.tw5238948352916184382 : Nat := 0
noncomputable def core.tw15868890539677070396 : Nat := 0
noncomputable def core.tw17000984267990200693 : Nat := 0
noncomputable def core.tw14410025909383218080 : Nat := 0
noncomputable def core.tw8444815642107816326 : Nat := 0
noncomputable def core.tw8324112580563332114 : Nat := 0
noncomputable def core.tw18267150216401099239 : Nat := 0
noncomputable def core.tw2191977042887155504 : Nat := 0
noncomputable def core.tw16040109146569757792 : Nat := 0
noncomputable def core.tw16035488922018503107 : Nat := 0
noncomputable def core.tw9336381335450682805 : Nat := 0
noncomputable def core.tw1944012979907783413 : Nat := 0
noncomputable def core.tw14473447975431719473 : Nat := 0
noncomputable def core.tw14686798879636446334 : Nat := 0
noncomputable def core.tw15550033546924390850 : Nat := 0
noncomputable def core.tw1930895741848064642 : Nat := 0
noncomputable def core.tw17673744690117897408 : Nat := 0
noncomputable def core.tw258233378868311936 : Nat := 0
noncomputable def core.tw1493173100341254314 : Nat := 0
noncomputable def core.tw3583788385509805853 : Nat := 0
noncomputable def core.tw10414922257301320035 : Nat := 0
noncomputable def core.tw7166364244797941167 : Nat := 0
noncomputable def core.tw1140304519968407317 : Nat := 0
noncomputable def core.tw12082747186356729147 : Nat := 0
noncomputable def core.tw12855628987967908601 : Nat := 0
noncomputable def core.tw9216091644384877107 : Nat := 0
noncomputable def core.tw5633431306062564567 : Nat := 0
noncomputable def core.tw1056550681978773441 : Nat := 0
noncomputable def core.tw3465396518471573814 : Nat := 0
noncomputable def core.tw10772570537617439352 : Nat := 0
noncomputable def core.tw16820015653507034951 : Nat := 0
noncomputable def core.tw8162441569240819768 : Nat := 0
noncomputable def core.tw9495262507266517358 : Nat := 0
noncomputable def core.tw10916054147364214475 : Nat := 0
noncomputable def core.tw12521342417778733826 : Nat := 0
noncomputable def core.tw6308083416495292281 : Nat := 0
noncomputable def core.tw13246764017499302452 : Nat := 0
noncomputable def core.tw10204273853576897857 : Nat := 0
noncomputable def core.tw5195377422463690873 : Nat := 0
noncomputable def core.tw12287221310929401179 : Nat := 0
noncomputable def core.tw9416771392249298315 : Nat := 0
noncomputable def core.tw6028454213651384053 : Nat := 0
noncomputable def core.tw14961085865811423947 : Nat := 0
noncomputable def core.tw11283503589549122435 : Nat := 0
noncomputable def core.tw10249592036188079128 : Nat := 0
noncomputable def core.tw15682386577379400098 : Nat := 0
noncomputable def core.tw17805718197549441075 : Nat := 0
noncomputable def core.tw7553281612460030148 : Nat := 0
noncomputable def core.tw12338073694025301984 : Nat := 0
noncomputable def core.tw12462273129704840966 : Nat := 0
noncomputable def core.tw9529769455943138268 : Nat := 0
noncomputable def core.tw6246534438952034831 : Nat := 0
noncomputable def core.tw14025604602632252787 : Nat := 0
noncomputable def core.tw9417477475221830588 : Nat := 0
noncomputable def core.tw15776866687896521629 : Nat := 0
noncomputable def core.tw6985295288330506497 : Nat := 0
noncomputable def core.tw3729735549544755184 : Nat := 0
noncomputable def core.tw6057542223958930969 : Nat := 0
noncomputable def core.tw13509898508042802754 : Nat := 0
noncomputable def core.tw13051763374683824602 : Nat := 0
noncomputable def core.tw4048323837848254447 : Nat := 0
noncomputable def core.tw466907273635250971 : Nat := 0
noncomputable def core.tw13195155036777514472 : Nat := 0
noncomputable def core.tw8206679548526584443 : Nat := 0
noncomputable def core.tw435187890894096261 : Nat := 0
noncomputable def core.tw17303567306155679255 : Nat := 0
noncomputable def core.tw15693476911269330211 : Nat := 0
noncomputable def core.tw15706384997851072030 : Nat := 0
noncomputable def core.tw450633282253439403 : Nat := 0
noncomputable def core.tw13550992265264873152 : Nat := 0
noncomputable def core.tw16937413979866860718 : Nat := 0
noncomputable def core.tw4431893868045946463 : Nat := 0
noncomputable def core.tw2507141536782340330 : Nat := 0
noncomputable def core.tw16030892461612492691 : Nat := 0
noncomputable def core.tw10948428838744181969 : Nat := 0
noncomputable def core.tw15962553698313031077 : Nat := 0
noncomputable def core.tw2741193812800411951 : Nat := 0
noncomputable def core.tw4886892684845474122 : Nat := 0
noncomputable def core.tw14443234774277117686 : Nat := 0
noncomputable def core.tw3803159782261780071 : Nat := 0
noncomputable def core.tw9673068733744582021 : Nat := 0
noncomputable def core.tw17448778763131349543 : Nat := 0
noncomputable def core.tw11676359070966932750 : Nat := 0
noncomputable def core.tw13472270668343080521 : Nat := 0
noncomputable def core.tw17410409454626156959 : Nat := 0
noncomputable def core.tw1486116846641535990 : Nat := 0
noncomputable def core.tw885844815638270445 : Nat := 0
noncomputable def core.tw1878201954910067727 : Nat := 0
noncomputable def core.tw4749030555619550186 : Nat := 0
noncomputable def core.tw11468165453452967028 : Nat := 0
noncomputable def core.tw1530481100367676372 : Nat := 0
noncomputable def core.tw7091353616853510043 : Nat := 0
noncomputable def core.tw1990152197848752726 : Nat := 0
noncomputable def core.tw11507623367858752870 : Nat := 0
noncomputable def core.tw2782624519275293422 : Nat := 0
noncomputable def core.tw13630588643310155639 : Nat := 0
noncomputable def core.tw14305296767000436891 : Nat := 0
noncomputable def core.tw3544293042028450075 : Nat := 0
noncomputable def core.tw12873220095352121431 : Nat := 0
noncomputable def core.tw5500771608712711976 : Nat := 0
noncomputable def core.tw7396257459991145129 : Nat := 0
noncomputable def core.tw5572752005224699908 : Nat := 0
noncomputable def core.tw1317318019316351251 : Nat := 0
noncomputable def core.tw7400916526341901772 : Nat := 0
noncomputable def core.tw2024234331916360881 : Nat := 0
noncomputable def core.tw4782635468180704824 : Nat := 0
noncomputable def core.tw9770958715097344292 : Nat := 0
noncomputable def core.tw17654920398769735394 : Nat := 0
noncomputable def core.tw11962134483875102330 : Nat := 0
noncomputable def core.tw9820834853484435038 : Nat := 0
noncomputable def core.tw13672888705577015700 : Nat := 0
noncomputable def core.tw7338506855797360169 : Nat := 0
noncomputable def core.tw13038525836935920032 : Nat := 0
noncomputable def core.tw4015953807317474082 : Nat := 0
noncomputable def core.tw10142413413755228885 : Nat := 0
noncomputable def core.tw11944985047512435256 : Nat := 0
noncomputable def core.tw9410298710569922852 : Nat := 0
noncomputable def core.tw7003238227474012337 : Nat := 0
noncomputable def core.tw5821282957513525424 : Nat := 0
noncomputable def core.tw13069250345739707864 : Nat := 0
noncomputable def core.tw15974770434805098543 : Nat := 0
noncomputable def core.tw396347153069073754 : Nat := 0
noncomputable def core.tw8913225364066017344 : Nat := 0
noncomputable def core.tw713171199821834825 : Nat := 0
noncomputable def core.tw12908111115572212053 : Nat := 0
noncomputable def core.tw12817117102533636495 : Nat := 0
noncomputable def core.tw4404218868684915768 : Nat := 0
noncomputable def core.tw9963056458884284441 : Nat := 0
noncomputable def core.tw9861357093961561719 : Nat := 0
noncomputable def core.tw9305077459654206983 : Nat := 0
noncomputable def core.tw4491106818824429727 : Nat := 0
noncomputable def core.tw6117315672272679043 : Nat := 0
noncomputable def core.tw18241107282087824248 : Nat := 0
noncomputable def core.tw5519436570351249511 : Nat := 0
noncomputable def core.tw12589091429166575234 : Nat := 0
noncomputable def core.tw5915880568657506904 : Nat := 0
noncomputable def core.tw215214886402058695 : Nat := 0
noncomputable def core.tw4474066057246472379 : Nat := 0
noncomputable def core.tw4125988392439573290 : Nat := 0
noncomputable def core.tw15052082476097562387 : Nat := 0
noncomputable def core.tw5269928424375079785 : Nat := 0
noncomputable def core.tw4970809479168651746 : Nat := 0
noncomputable def core.tw198032898922750992 : Nat := 0
noncomputable def core.tw1244750024581383290 : Nat := 0
noncomputable def core.tw3059090827378897585 : Nat := 0
noncomputable def core.tw463603161914233574 : Nat := 0
noncomputable def core.tw10629601453902470527 : Nat := 0
noncomputable def core.tw10746737336877050708 : Nat := 0
noncomputable def core.tw12113311694347984659 : Nat := 0
noncomputable def core.tw11797572445599282411 : Nat := 0
noncomputable def core.tw1380547788803612503 : Nat := 0
noncomputable def core.tw5857439206750606036 : Nat := 0
noncomputable def core.tw17494379128874976530 : Nat := 0
noncomputable def core.tw7503425146635674679 : Nat := 0
noncomputable def core.tw104889286660574942 : Nat := 0
noncomputable def core.tw8639838891833805722 : Nat := 0
noncomputable def core.tw7532324505685845435 : Nat := 0
noncomputable def core.tw10606387729944813975 : Nat := 0
noncomputable def core.tw3121241813119491033 : Nat := 0
noncomputable def core.tw5750714316828207533 : Nat := 0
noncomputable def core.tw15798434271551112992 : Nat := 0
noncomputable def core.tw2498172733858115846 : Nat := 0
noncomputable def core.tw6195698734515462681 : Nat := 0
noncomputable def core.tw6601120445056070284 : Nat := 0
noncomputable def core.tw8478578770095507170 : Nat := 0
noncomputable def core.tw3431356594755137225 : Nat := 0
noncomputable def core.tw9862033525642612862 : Nat := 0
noncomputable def core.tw14508760535711976736 : Nat := 0
noncomputable def core.tw10261820053809229445 : Nat := 0
noncomputable def core.tw17651109269288931208 : Nat := 0
noncomputable def core.tw2662414285963934297 : Nat := 0
noncomputable def core.tw448675812597370685 : Nat := 0
noncomputable def core.tw9212338543993899733 : Nat := 0
noncomputable def core.tw15990284953989293202 : Nat := 0
noncomputable def core.tw16401768965325915615 : Nat := 0
noncomputable def core.tw12802407705830074207 : Nat := 0
noncomputable def core.tw17702899676070730226 : Nat := 0
noncomputable def core.tw10862382917748819813 : Nat := 0
noncomputable def core.tw8705729148521957083 : Nat := 0
noncomputable def core.tw15195988951248889367 : Nat := 0
noncomputable def core.tw13845557525906187334 : Nat := 0
noncomputable def core.tw8675911919631782945 : Nat := 0
noncomputable def core.tw14946407619626681526 : Nat := 0
noncomputable def core.tw12491990794907931940 : Nat := 0
noncomputable def core.tw11510918689587906331 : Nat := 0
noncomputable def core.tw16480693138309746807 : Nat := 0
noncomputable def core.tw4231173081018764789 : Nat := 0
noncomputable def core.tw2794261787216237744 : Nat := 0
noncomputable def core.tw1942810731872033405 : Nat := 0
local macro_rules | `(tactic| cells_open $x:ident) => `(tactic| ((rename Md 30 => hMd); (obtain ⟨_, _, _, _, _, _, _, _, _, he, _, _, _, _, _, _, _, _, _⟩ := Mine.kc_nine $x; subst he)))
set_option hygiene false in
local macro_rules | `(tactic| walk_at "subscriptTail Name Slice ref ref") => `(tactic| ((rename Md 30 => hMd); (k_here; (with_reducible show wpAny _ _ (subscriptTail _ (PySem.Expr.Slice (some _) none none _) (Value.ref _) (Value.ref _)) _ _ _); k_dflt (refine' kmk_slice_ints ?sl9FP30 ?sl9NP30 ?sl9lP30 ?sl9kP30 ?sl9uP30 ?sl9iP30 ?sl9mP30 ?sl9cP30 ?_ ?sl9sP30 ?sl9tP30 ?sl9zP30; (case sl9FP30 => k_asm); (case sl9NP30 => k_asm); (case sl9lP30 => kmk_list); (case sl9kP30 => exact IsPart.int _ _); (case sl9uP30 => exact IsPart.none); (case sl9iP30 => l_ints); (case sl9mP30 => exact kmk_from (by l_ints) (Int.natCast_nonneg _)); (case sl9cP30 => exact List.length_drop ..); (case sl9sP30 => with_unfolding_all rfl); (case sl9tP30 => kmk_pure); (case sl9zP30 => exact Nat.le_of_ble_eq_true rfl)); intro D' ws' h' F' N' l1 hI' hC' hL'; (try k_lt l1); (try k_sweep))))
set_option hygiene false in
local macro_rules | `(tactic| k_all) => `(tactic| ((rename Md 34 => hMd); (intro p hp; exact Ne.symm (hne p hp (_, _) (by repeat (first | exact .head _ | refine List.Mem.tail _ ?_))))))
set_option hygiene false in
local macro_rules | `(tactic| k_all) => `(tactic| ((rename Md 36 => hMd); (intro p hp; exact Ne.symm (hap p hp _ (by repeat (first | exact .head _ | refine List.Mem.tail _ ?_))))))
set_option Elab.async true
set_option maxRecDepth 100000 in
set_option maxHeartbeats 400000000 in
theorem core : PySem.Challenge.rw_xm0946_01.Holds := by
  w_on
  o_law
  k_head
  case hw => w_witness2
  have hvw : Mine.core.view_1_40 = Mine.pre.view_1_2 := rfl
  have hkk : ∀ P h, (Mine.core.heap_1_39 P).In h → (Mine.pre.heap_1_1 P).In h := fun P _ H => In_app (X := (Mine.core.heap_1_39 P).drop 152) rfl H
  have rows_array_c : ∀ (w : World) (mean : ExcName → Option Value) (mg mb : Str → Option Value) (news : List (Addr × Obj)) (D : Addr) (kD : Nat) (rs : List (Addr × List Value)) (wd : Nat) (nn : Int) (tn : Tok)
    (hD : (D, listOf (rs.map fun r => Value.ref r.1).toArray kD) ∈ news) (hrs : ∀ r ∈ rs, (∃ k, (r.1, listOf r.2.toArray k) ∈ news) ∧ r.2.length = wd) (hs1 : 1 ≤ rs.length) (hs2 : rs.length ≤ 1000) (hw1 : 1 ≤ wd) (hw2 : wd ≤ 1000), Tell PySem.Challenge.rw_xm0946_01 Mine.core.heap_1_39 Mine.core.view_1_40 w mean mg mb 256 news [.ref D, .int nn tn] 14 (fun r tl => ∃ x dx B p1 p2 I k u1 u2 u3 u4 u5 u6 v1 v3 told tt kB k1 k2 t1 t2 t3 t4, r = .ref x ∧
      tl = [(I, listOf (rs.flatMap (·.2)).toArray k), (x, instObj 180 dx), (dx, arrObj w.params u1 u2 u3 u4 u5 u6 v1 v3 (Str.ofString "ARRAY") nn tn told tt B I), (B, listOf #[.ref p1, .ref p2] kB),
        (p1, { cls := .type "tuple", data := .seq #[.int 1 t1, .int (rs.length : Int) t2] k1 }), (p2, { cls := .type "tuple", data := .seq #[.int 1 t3, .int (wd : Int) t4] k2 })]) := fun w mean mg mb news D kD rs wd nn tn hD hrs hs1 hs2 hw1 hw2 => Tell.over hvw hkk (Mine.rows_array_c w mean mg mb news D kD rs wd nn tn hD hrs hs1 hs2 hw1 hw2)
  have sorted_array_c : ∀ (w : World) (mean : ExcName → Option Value) (mg mb : Str → Option Value) (news : List (Addr × Obj)) (x dx B p1 p2 I : Addr) (kI kB k1 k2 : Nat) (u1 u2 u3 u4 u5 u6 v1 v3 tn tt t1 t2 t3 t4 t0 tc : Tok) (nn n2 : Int) (told : Str) (cs : List (List Value)) (wd : Nat) (d : Bool)
    (hx : (x, instObj 180 dx) ∈ news) (hdx : (dx, arrObj w.params u1 u2 u3 u4 u5 u6 v1 v3 (Str.ofString "ARRAY") nn tn told tt B I) ∈ news) (hB : (B, listOf #[.ref p1, .ref p2] kB) ∈ news)
    (h1 : (p1, ({ cls := .type "tuple", data := .seq #[.int 1 t1, .int (cs.length : Int) t2] k1 } : Obj)) ∈ news) (h2 : (p2, ({ cls := .type "tuple", data := .seq #[.int 1 t3, .int (wd : Int) t4] k2 } : Obj)) ∈ news)
    (hI : (I, listOf cs.flatten.toArray kI) ∈ news) (hcs : ∀ c ∈ cs, c.length = wd) (hs1 : 1 ≤ cs.length) (hs2 : cs.length ≤ 1000) (hw1 : 1 ≤ wd) (hw2 : wd ≤ 1000) (hint : ∀ c ∈ cs, ∃ x t e, c = .int x t :: e), Tell1 PySem.Challenge.rw_xm0946_01 Mine.core.heap_1_39 Mine.core.view_1_40 w mean mg mb 287 news [.ref x, .int 1 tc, .bool d, .int n2 t0] 20 (fun r tl => ∃ (x' dx' I' : Addr) (k : Nat) (a1 a2 a3 a4 a5 a6 b1 b3 : Tok), r = .ref x' ∧
      tl = [(I', listOf (sortRows d lstKey cs).flatten.toArray k), (x', instObj 180 dx'), (dx', arrObj w.params a1 a2 a3 a4 a5 a6 b1 b3 (Str.ofString "ARRAY") n2 t0 told tt B I')]) := fun w mean mg mb news x dx B p1 p2 I kI kB k1 k2 u1 u2 u3 u4 u5 u6 v1 v3 tn tt t1 t2 t3 t4 t0 tc nn n2 told cs wd d hx hdx hB h1 h2 hI hcs hs1 hs2 hw1 hw2 hint => Tell1.over hvw hkk (Mine.sorted_array_c w mean mg mb news x dx B p1 p2 I kI kB k1 k2 u1 u2 u3 u4 u5 u6 v1 v3 tn tt t1 t2 t3 t4 t0 tc nn n2 told cs wd d hx hdx hB h1 h2 hI hcs hs1 hs2 hw1 hw2 hint)
  clear hvw hkk
  w_strict (
    have hMd : Md 30 := .mk 30
    have hMkExecAssignConsListComp : Mk "exec Assign cons ListComp" := .mk _
    k_go0
    all_goals try k_fold
    k_steps
    repeat' ((first | (first | ((with_reducible refine StopK.of (s := "exec Assign cons ListComp") ?_); first | (with_reducible (refine Stop.of ?_)))) | fail); k_steps)
    unfold Stop
    rename Md _ => hMd
    clear hMd
    repeat (rename Mk _ => hMk; clear hMk)
    have hMkEvalListComp : Mk "eval ListComp" := .mk _
    have hMkBinaryOpPowIntInt : Mk "binaryOp Pow int int" := .mk _
    have hMkBinaryOpFloorDivIntInt : Mk "binaryOp FloorDiv int int" := .mk _
    have hMkExecAssign : Mk "exec Assign" := .mk _
    rename IntsAre _ (List.map _ _ ++ _) => hI
    rename _ = Data.cell (some (Value.int (2 + _) _)) => dM
    obtain ⟨a, b, hX, ha, hb⟩ := two_of _
    rw [hX] at hI dM
    clear hX
    obtain ⟨t0, u0, rfl⟩ := ints_two hI
    obtain ⟨S, hS2, hS4, dM⟩ := many_of dM
    rename Fr _ _ _ _ => F0
    rename News _ _ _ _ => N0
    obtain ⟨bl, F1, N1⟩ := start_h F0 N0
    clear F0 N0
    k_steps
    repeat' ((first | (first | ((with_reducible refine StopK.of (s := "eval ListComp") ?_); first | (with_reducible ((k_here; k_dflt (refine ListComp_step (_F₀ := by k_asm) (by with_unfolding_all rfl) (by decide) (by rfl) (by decide) (by rfl) ?_)))) | ((k_here; k_dflt (refine ListComp_step (_F₀ := by k_asm) (by with_unfolding_all rfl) (by decide) (by rfl) (by decide) (by rfl) ?_))) | (rename Mk "eval ListComp" => hMkEvalListComp; clear hMkEvalListComp; (first | walk1 | (dsimp only; walk1)) <;> have hMkEvalListComp : Mk "eval ListComp" := .mk _)) | ((with_reducible refine StopK.of (s := "binaryOp Pow int int") ?_); first | (with_reducible ((k_here; with_reducible refine pow_int_small ?pw1P31 ?pw2P31 ?pw3P31 ?_; (case pw1P31 => omega); (case pw2P31 => omega); (case pw3P31 => decide)))) | ((k_here; with_reducible refine pow_int_small ?pw1P31 ?pw2P31 ?pw3P31 ?_; (case pw1P31 => omega); (case pw2P31 => omega); (case pw3P31 => decide))) | (rename Mk "binaryOp Pow int int" => hMkBinaryOpPowIntInt; clear hMkBinaryOpPowIntInt; (first | walk1 | (dsimp only; walk1)) <;> have hMkBinaryOpPowIntInt : Mk "binaryOp Pow int int" := .mk _)) | ((with_reducible refine StopK.of (s := "binaryOp FloorDiv int int") ?_); first | (with_reducible ((k_here; k_dflt (refine floordiv_int (pow9_ne _) ?_)))) | ((k_here; k_dflt (refine floordiv_int (pow9_ne _) ?_))) | (rename Mk "binaryOp FloorDiv int int" => hMkBinaryOpFloorDivIntInt; clear hMkBinaryOpFloorDivIntInt; (first | walk1 | (dsimp only; walk1)) <;> have hMkBinaryOpFloorDivIntInt : Mk "binaryOp FloorDiv int int" := .mk _)) | ((with_reducible refine StopK.of (s := "exec Assign") ?_); first | (with_reducible ((k_here; (with_reducible show wpAny _ _ (exec (Stmt.Assign [Expr.Tuple _ _ _] _ _) _) _ _ _); refine Stop.of ?_))) | ((k_here; (with_reducible show wpAny _ _ (exec (Stmt.Assign [Expr.Tuple _ _ _] _ _) _) _ _ _); refine Stop.of ?_)) | (rename Mk "exec Assign" => hMkExecAssign; clear hMkExecAssign; (first | walk1 | (dsimp only; walk1)) <;> have hMkExecAssign : Mk "exec Assign" := .mk _))) | fail); k_steps)
    rename Fr _ _ _ _ => FB
    rename News _ _ _ _ => NB
    rename IsRange _ _ _ _ _ _ _ _ => HR
    obtain ⟨q1, q2⟩ := range_step (n := S) (w := 1) (c := 1) (by omega) (by omega) (by omega) (by omega) rfl
    rw [Nat.mul_one] at q1 q2
    refine ⟨_, _, _, _, _, _, _, S, _, rfl, rfl, FB, NB, HR, q1, q2, Nat.le_trans hS4 (by decide), ?_⟩
    rintro s₂ ⟨hh, rfl⟩
    clear q1 q2 HR
    refine rest_ind (fun i ys nw => ∃ (qs : List (Int × Tok)), ys = qs.map tv ∧ qs.map (·.1) = wts b i ∧ nw = _) ?_ ?_ S 0 [] _ (Nat.zero_add _) ⟨[], rfl, rfl, rfl⟩
    · rintro i ys nw v I7 oI C7 oC D1 m2 h3 tk3 E' hi ⟨qs, rfl, hmap, rfl⟩ ⟨t7, rfl⟩ hC' hx' F3 N3 off3 ne3
      have hi1 : (0 : Int) ≤ 0 + (i : Int) * 1 := by omega
      have hi2 : 0 + (i : Int) * 1 ≤ 3 := by omega
      k_steps
      repeat' ((first | (first | ((with_reducible refine StopK.of (s := "eval ListComp") ?_); first | (with_reducible ((k_here; k_dflt (refine ListComp_step (_F₀ := by k_asm) (by with_unfolding_all rfl) (by decide) (by rfl) (by decide) (by rfl) ?_)))) | ((k_here; k_dflt (refine ListComp_step (_F₀ := by k_asm) (by with_unfolding_all rfl) (by decide) (by rfl) (by decide) (by rfl) ?_))) | (rename Mk "eval ListComp" => hMkEvalListComp; clear hMkEvalListComp; (first | walk1 | (dsimp only; walk1)) <;> have hMkEvalListComp : Mk "eval ListComp" := .mk _)) | ((with_reducible refine StopK.of (s := "binaryOp Pow int int") ?_); first | (with_reducible ((k_here; with_reducible refine pow_int_small ?pw1P31 ?pw2P31 ?pw3P31 ?_; (case pw1P31 => omega); (case pw2P31 => omega); (case pw3P31 => decide)))) | ((k_here; with_reducible refine pow_int_small ?pw1P31 ?pw2P31 ?pw3P31 ?_; (case pw1P31 => omega); (case pw2P31 => omega); (case pw3P31 => decide))) | (rename Mk "binaryOp Pow int int" => hMkBinaryOpPowIntInt; clear hMkBinaryOpPowIntInt; (first | walk1 | (dsimp only; walk1)) <;> have hMkBinaryOpPowIntInt : Mk "binaryOp Pow int int" := .mk _)) | ((with_reducible refine StopK.of (s := "binaryOp FloorDiv int int") ?_); first | (with_reducible ((k_here; k_dflt (refine floordiv_int (pow9_ne _) ?_)))) | ((k_here; k_dflt (refine floordiv_int (pow9_ne _) ?_))) | (rename Mk "binaryOp FloorDiv int int" => hMkBinaryOpFloorDivIntInt; clear hMkBinaryOpFloorDivIntInt; (first | walk1 | (dsimp only; walk1)) <;> have hMkBinaryOpFloorDivIntInt : Mk "binaryOp FloorDiv int int" := .mk _)) | ((with_reducible refine StopK.of (s := "exec Assign") ?_); first | (with_reducible ((k_here; (with_reducible show wpAny _ _ (exec (Stmt.Assign [Expr.Tuple _ _ _] _ _) _) _ _ _); refine Stop.of ?_))) | ((k_here; (with_reducible show wpAny _ _ (exec (Stmt.Assign [Expr.Tuple _ _ _] _ _) _) _ _ _); refine Stop.of ?_)) | (rename Mk "exec Assign" => hMkExecAssign; clear hMkExecAssign; (first | walk1 | (dsimp only; walk1)) <;> have hMkExecAssign : Mk "exec Assign" := .mk _))) | fail); k_steps)
      refine ⟨_, _, _, rfl, F3, N3, off3, trivial, qs ++ [(1 + (b.fdiv (9 ^ (0 + (i : Int) * 1).toNat)).fmod 9, ?_)], ?_, ?_, rfl⟩
      rotate_left
      · rw [List.map_append]; rfl
      · rw [List.map_append, hmap, wts_succ]; rfl
    · rintro ys nw ⟨qs, rfl, hmap, rfl⟩
      intro D7 h7 tk7 F7 N7 off7
      dsimp only [LCg.Off1] at off7
      have hIw : IntsAre (qs.map tv) (wts b S) := hmap ▸ ints_tv qs
      clear hmap
      repeat (rename Mk _ => hMk; clear hMk)
      have hMkExecAssign : Mk "exec Assign" := .mk _
      k_steps
      repeat' ((first | (first | ((with_reducible refine StopK.of (s := "exec Assign") ?_); first | (with_reducible ((k_here; (with_reducible show wpAny _ _ (exec (Stmt.Assign [Expr.Tuple _ _ _] _ _) _) _ _ _); refine Stop.of ?_))) | ((k_here; (with_reducible show wpAny _ _ (exec (Stmt.Assign [Expr.Tuple _ _ _] _ _) _) _ _ _); refine Stop.of ?_)) | (rename Mk "exec Assign" => hMkExecAssign; clear hMkExecAssign; (first | walk1 | (dsimp only; walk1)) <;> have hMkExecAssign : Mk "exec Assign" := .mk _))) | fail); k_steps)
      unfold Stop
      repeat (rename Mk _ => hMk; clear hMk)
      have hMkEvalListComp : Mk "eval ListComp" := .mk _
      have hMkSubscriptTail : Mk "subscriptTail" := .mk _
      have hMkExecWhileCompareConsNil : Mk "exec While Compare cons nil" := .mk _
      have hlw : (wts b S).length = S := by unfold wts; rw [List.length_map, List.length_range]
      k_steps
      repeat' ((first | (first | ((with_reducible refine StopK.of (s := "eval ListComp") ?_); first | (with_reducible ((k_here; k_dflt (refine ListComp_step (_F₀ := by k_asm) (by with_unfolding_all rfl) (by decide) (by rfl) (by decide) (by rfl) ?_)))) | ((k_here; k_dflt (refine ListComp_step (_F₀ := by k_asm) (by with_unfolding_all rfl) (by decide) (by rfl) (by decide) (by rfl) ?_))) | (rename Mk "eval ListComp" => hMkEvalListComp; clear hMkEvalListComp; (first | walk1 | (dsimp only; walk1)) <;> have hMkEvalListComp : Mk "eval ListComp" := .mk _)) | ((with_reducible refine StopK.of (s := "subscriptTail") ?_); first | (with_reducible ((k_here; (with_reducible show wpAny _ _ (subscriptTail _ _ (Value.str _ _) (Value.int _ _)) _ _ _); k_dflt (refine' item_str ?isaP33 ?isbP33 ?iscP33 ?_; (case isaP33 => exact hfit); (case isbP33 => exact hlo); (case iscP33 => exact hup)); intro _))) | (with_reducible ((k_here; (with_reducible show wpAny _ _ (subscriptTail _ _ (Value.ref _) (Value.int _ _)) _ _ _); k_dflt (refine' item_led ?itNP33 ?itmP33 ?itaP33 ?itbP33 ?itxP33 ?_; (case itNP33 => k_asm); (case itmP33 => k_mem); (case itxP33 => first | exact hxi | exact hw0 | exact hw1 | exact hqh | exact hqw); (case itaP33 => first | decide | omega); (case itbP33 => first | decide | omega))))) | ((k_here; (with_reducible show wpAny _ _ (subscriptTail _ _ (Value.str _ _) (Value.int _ _)) _ _ _); k_dflt (refine' item_str ?isaP33 ?isbP33 ?iscP33 ?_; (case isaP33 => exact hfit); (case isbP33 => exact hlo); (case iscP33 => exact hup)); intro _)) | ((k_here; (with_reducible show wpAny _ _ (subscriptTail _ _ (Value.ref _) (Value.int _ _)) _ _ _); k_dflt (refine' item_led ?itNP33 ?itmP33 ?itaP33 ?itbP33 ?itxP33 ?_; (case itNP33 => k_asm); (case itmP33 => k_mem); (case itxP33 => first | exact hxi | exact hw0 | exact hw1 | exact hqh | exact hqw); (case itaP33 => first | decide | omega); (case itbP33 => first | decide | omega)))) | (rename Mk "subscriptTail" => hMkSubscriptTail; clear hMkSubscriptTail; (first | walk1 | (dsimp only; walk1)) <;> have hMkSubscriptTail : Mk "subscriptTail" := .mk _)) | ((with_reducible refine StopK.of (s := "exec While Compare cons nil") ?_); first | (with_reducible (refine Stop.of ?_)))) | fail); k_steps)
      rename Fr _ _ _ _ => FB
      rename News _ _ _ _ => NB
      rename IsRange _ _ _ _ _ _ _ _ => HR
      obtain ⟨q1, q2⟩ := range_step (n := S) (w := 1) (c := 1) (by omega) (by omega) (by omega) (by omega) rfl
      rw [Nat.mul_one] at q1 q2
      refine ⟨_, _, _, _, _, _, _, S, _, rfl, rfl, FB, NB, HR, q1, q2, Nat.le_trans hS4 (by decide), ?_⟩
      rintro s₂ ⟨hh, rfl⟩
      clear q1 q2 HR
      refine rest_ind (fun i ys nw => RowsJ _ (startRows b i) ys nw) ?_ ?_ S 0 [] _ (Nat.zero_add _) (RowsJ.zero _)
      · rintro i ys nw v I7 oI C7 oC D1 m2 h3 tk3 E' hi hJ ⟨t7, rfl⟩ hC' hx' F3 N3 off3 ne3
        obtain ⟨_, tl', _, _, _, _, rfl, _, _⟩ := id hJ
        have N5 := add_base3 N3
        simp only [List.cons_append, List.nil_append] at N5
        obtain ⟨hfit, hlo, hup⟩ := abcd_at (i := i) (by omega)
        k_steps
        repeat' ((first | (first | ((with_reducible refine StopK.of (s := "eval ListComp") ?_); first | (with_reducible ((k_here; k_dflt (refine ListComp_step (_F₀ := by k_asm) (by with_unfolding_all rfl) (by decide) (by rfl) (by decide) (by rfl) ?_)))) | ((k_here; k_dflt (refine ListComp_step (_F₀ := by k_asm) (by with_unfolding_all rfl) (by decide) (by rfl) (by decide) (by rfl) ?_))) | (rename Mk "eval ListComp" => hMkEvalListComp; clear hMkEvalListComp; (first | walk1 | (dsimp only; walk1)) <;> have hMkEvalListComp : Mk "eval ListComp" := .mk _)) | ((with_reducible refine StopK.of (s := "subscriptTail") ?_); first | (with_reducible ((k_here; (with_reducible show wpAny _ _ (subscriptTail _ _ (Value.str _ _) (Value.int _ _)) _ _ _); k_dflt (refine' item_str ?isaP33 ?isbP33 ?iscP33 ?_; (case isaP33 => exact hfit); (case isbP33 => exact hlo); (case iscP33 => exact hup)); intro _))) | (with_reducible ((k_here; (with_reducible show wpAny _ _ (subscriptTail _ _ (Value.ref _) (Value.int _ _)) _ _ _); k_dflt (refine' item_led ?itNP33 ?itmP33 ?itaP33 ?itbP33 ?itxP33 ?_; (case itNP33 => k_asm); (case itmP33 => k_mem); (case itxP33 => first | exact hxi | exact hw0 | exact hw1 | exact hqh | exact hqw); (case itaP33 => first | decide | omega); (case itbP33 => first | decide | omega))))) | ((k_here; (with_reducible show wpAny _ _ (subscriptTail _ _ (Value.str _ _) (Value.int _ _)) _ _ _); k_dflt (refine' item_str ?isaP33 ?isbP33 ?iscP33 ?_; (case isaP33 => exact hfit); (case isbP33 => exact hlo); (case iscP33 => exact hup)); intro _)) | ((k_here; (with_reducible show wpAny _ _ (subscriptTail _ _ (Value.ref _) (Value.int _ _)) _ _ _); k_dflt (refine' item_led ?itNP33 ?itmP33 ?itaP33 ?itbP33 ?itxP33 ?_; (case itNP33 => k_asm); (case itmP33 => k_mem); (case itxP33 => first | exact hxi | exact hw0 | exact hw1 | exact hqh | exact hqw); (case itaP33 => first | decide | omega); (case itbP33 => first | decide | omega)))) | (rename Mk "subscriptTail" => hMkSubscriptTail; clear hMkSubscriptTail; (first | walk1 | (dsimp only; walk1)) <;> have hMkSubscriptTail : Mk "subscriptTail" := .mk _)) | ((with_reducible refine StopK.of (s := "exec While Compare cons nil") ?_); first | (with_reducible (refine Stop.of ?_)))) | fail); k_steps)
        rename _ < _ ∧ _ < _ ∧ _ < _ ∧ _ < _ ∧ _ => l8
        rename News _ _ _ (_ :: _ :: _ :: _ :: _) => N7
        rename Fr _ _ _ _ => F7
        exact row_end F7 N7 (fun p hp => by repeat (first | exact hp | refine List.Mem.tail _ ?_)) l8.1 l8.2.1 l8.2.2.1 l8.2.2.2 off3 hJ (by rw [startRows_succ, wts_at (by omega)]; rfl)
      · rintro ys nw ⟨rs, tl', ps, rfl, hmap, hst, rfl, hmem, hne⟩
        intro D7 h7 tk7 F7 N7 off7
        repeat (rename Mk _ => hMk; clear hMk)
        have hMd : Md 34 := .mk 34
        have hMkBinaryOpMultRefInt : Mk "binaryOp Mult ref int" := .mk _
        have hMkExecWhileCompareConsNil : Mk "exec While Compare cons nil" := .mk _
        have N6 := base_first N7
        simp only [List.cons_append, List.nil_append] at N6
        have off8 := off1_base off7
        dsimp only [LCg.Off1] at off8
        k_steps
        repeat' ((first | (first | ((with_reducible refine StopK.of (s := "binaryOp Mult ref int") ?_); first | (with_reducible ((k_here; k_dflt (refine' mul_one_led ?muFP34 ?muNP34 ?mumP34 ?muaP34 ?_; (case muFP34 => k_asm); (case muNP34 => k_asm); (case mumP34 => k_mem); (case muaP34 => omega)); intro D8 ws8 k8 h8 F8 N8 l8 hI8; (try k_lt l8)))) | ((k_here; k_dflt (refine' mul_one_led ?muFP34 ?muNP34 ?mumP34 ?muaP34 ?_; (case muFP34 => k_asm); (case muNP34 => k_asm); (case mumP34 => k_mem); (case muaP34 => omega)); intro D8 ws8 k8 h8 F8 N8 l8 hI8; (try k_lt l8))) | (rename Mk "binaryOp Mult ref int" => hMkBinaryOpMultRefInt; clear hMkBinaryOpMultRefInt; (first | walk1 | (dsimp only; walk1)) <;> have hMkBinaryOpMultRefInt : Mk "binaryOp Mult ref int" := .mk _)) | ((with_reducible refine StopK.of (s := "exec While Compare cons nil") ?_); first | (with_reducible (refine Stop.of ?_)))) | fail); k_steps)
        unfold Stop
        rename Md _ => hMd
        clear hMd
        repeat (rename Mk _ => hMk; clear hMk)
        rename Fr _ _ _ (fun y => if y = Str.ofString "ahead" then _ else _) => F0
        rename News _ _ _ (_ :: _ :: _ :: _ :: _ :: _ :: _ :: _ :: _ :: _ :: _ :: _ :: _ :: _ :: _ :: _ :: tl') => N0
        obtain ⟨Dr, Dl, Dw, oM, oW, oL, o5, o6, o7, o8, o9, e1, e2, e3, e4, e5, e6, e7, e8, e9, e10, e11, F1, N1⟩ := loop_start F0 N0
        clear F0 N0
        rename Shared => s1
        subst e1 e2 e3 e4 e5 e6 e7 e8 e9 e10 e11
        obtain ⟨wsN, hwN, hsN, hlN, hgW⟩ := start_good hb hS2 hS4
        have hqw : qs.map (·.1) = inZ wsN := (ints_uniq (ints_tv qs) (by assumption)).trans hwN
        obtain ⟨J, hJ⟩ : ∃ J : Nat → (Str → Option Value) → List (Addr × Obj) → Prop, J = fun n m nx => ∃ (v1 v2 v3 : Option Value) (Dr : Addr) (kr : Nat) (rs : List (Addr × List Value)) (ps : List Row4) (tl : List (Addr × Obj)) (ls : List Value) (lzN : List Nat) (kl : Nat) (nr : List NR) (cN aN : Nat) (tc ta : Tok) (oh ow : Obj) (vh vw : Option Value),
          (ps.length = n + 1 ∧ n ≤ 3 ∧ ps.map rk = nr.map toRk ∧ goodFrom S wsN n nr lzN cN aN = true) ∧ (@Ne Nat Dr (Dl) ∧ @Ne Nat Dr (Dw) ∧ @Ne Nat Dr (s1.heap.objs.size + 1 + 1) ∧ @Ne Nat Dr (s1.heap.objs.size + 1 + 1 + 1) ∧ @Ne Nat Dr (s1.heap.objs.size + 1 + 1 + 1 + 1) ∧ @Ne Nat Dr (s1.heap.objs.size + 1 + 1 + 1 + 1 + 1) ∧ @Ne Nat Dr (s1.heap.objs.size + 1 + 1 + 1 + 1 + 1 + 1) ∧ @Ne Nat Dr (s1.heap.objs.size + 1 + 1 + 1 + 1 + 1 + 1 + 1) ∧ @Ne Nat Dr (s1.heap.objs.size + 1 + 1 + 1 + 1 + 1 + 1 + 1 + 1) ∧ @Ne Nat Dr (s1.heap.objs.size + 1 + 1 + 1 + 1 + 1 + 1 + 1 + 1 + 1)) ∧ rs.map (·.2) = ps.map rv ∧ (∀ r ∈ rs, ∃ k, (r.1, listOf r.2.toArray k) ∈ tl) ∧ Apart tl [Dl, s1.heap.objs.size + 1 + 1 + 1 + 1 + 1, s1.heap.objs.size + 1 + 1 + 1 + 1 + 1 + 1, s1.heap.objs.size + 1 + 1 + 1 + 1 + 1 + 1 + 1, s1.heap.objs.size + 1 + 1 + 1 + 1 + 1 + 1 + 1 + 1, s1.heap.objs.size + 1 + 1 + 1 + 1 + 1 + 1 + 1 + 1 + 1] ∧ IntsAre ls (inZ lzN) ∧ oh.data = .cell vh ∧ ow.data = .cell vw ∧
          m = (fun y => if y = Str.ofString "items" then v1 else if y = Str.ofString "made" then v2 else if y = Str.ofString "letter" then v3 else if y = Str.ofString "ahead" then some (Value.int (aN : Int) ta) else if y = Str.ofString "cost" then some (Value.int (cN : Int) tc) else if y = Str.ofString "rows" then some (Value.ref Dr) else bl y) ∧
          nx = ((Dr, listOf (rs.map fun r => Value.ref r.1).toArray kr) :: (Dl, listOf ls.toArray kl) :: (Dw, LCg.lst (List.map tv qs)) :: (s1.heap.objs.size + 1 + 1, oM) :: (s1.heap.objs.size + 1 + 1 + 1, oW) :: (s1.heap.objs.size + 1 + 1 + 1 + 1, oL) :: (s1.heap.objs.size + 1 + 1 + 1 + 1 + 1, oh) :: (s1.heap.objs.size + 1 + 1 + 1 + 1 + 1 + 1, ow) :: (s1.heap.objs.size + 1 + 1 + 1 + 1 + 1 + 1 + 1, o7) :: (s1.heap.objs.size + 1 + 1 + 1 + 1 + 1 + 1 + 1 + 1, o8) :: (s1.heap.objs.size + 1 + 1 + 1 + 1 + 1 + 1 + 1 + 1 + 1, o9) :: tl) := ⟨_, rfl⟩
        refine While_inv2 (n₀ := S - 1) J F1 N1 ?_ ?_
        · clear F1 N1
          subst hJ
          obtain ⟨f1, _, _, f2, f3, f4, f5, f6, f7, f8, f9, _⟩ := off8
          obtain ⟨_, g1, _, _, _, _, _, _, _, _, _, _, _, hlt⟩ := l8
          have hlen := startRows_len hst
          refine ⟨_, _, _, Dr, _, rs, _, tl', ws8, List.replicate S 0, k8, startN 97 wsN, 0, 0, _, _, o5, o6, _, _, ⟨by omega, by omega, hst.trans hsN, hgW⟩, ⟨Nat.ne_of_lt g1, Ne.symm f1, Ne.symm f2, Ne.symm f3, Ne.symm f4, Ne.symm f5, Ne.symm f6, Ne.symm f7, Ne.symm f8, Ne.symm f9⟩, hmap, hmem, ?_, ?_, by assumption, by assumption, frame_start, rfl⟩
          · intro p hp a ha
            simp only [List.mem_cons, List.not_mem_nil, or_false] at ha
            rcases ha with rfl | rfl | rfl | rfl | rfl | rfl
            · exact Nat.ne_of_gt (kst_ltOf hlt p hp)
            all_goals exact hne p hp (_, _) (by repeat (first | exact .head _ | refine List.Mem.tail _ ?_))
          · rw [inZ_rep]; exact hI8
        · clear F1 N1 hmap hst hmem hne
          rename List Row4 => ps0
          clear ps0
          rintro n m nx h2 tk2 F2 N2 hj
          rw [hJ] at hj
          obtain ⟨v1, v2, v3, Dr, kr, rs, ps, tl, ls, lzN, kl, nr, cN, aN, tc, ta, oh, ow, vh, vw, ⟨hpl, hn3, hrk, hgo⟩, hdr, hmap, hmem, hap, hIl, hoh, how, rfl, rfl⟩ := hj
          rename (_ ≠ Dw ∧ _) => hW
          have kW := Kept.mk hW
          have kL := Kept.mk l8
          have kR := Kept.mk hdr
          clear off8 l8 hdr
          repeat (rename (_ < _ ∧ _) => hx; clear hx)
          repeat (rename (_ ≠ _ ∧ _) => hx; clear hx)
          obtain ⟨-, -, -, -, -, w5, w6, w7, w8, w9, -⟩ := kW.out
          obtain ⟨-, -, -, -, -, r5, r6, -, -, -⟩ := kR.out
          obtain ⟨-, -, bW, -, -, b2, b3, b4, b5, b6, b7, b8, b9, -⟩ := kL.out
          clear kW kR kL
          have hln : rs.length = (ps.map rv).length := by rw [← hmap, List.length_map]
          have hln4 : (ps.map rv).length = n + 1 := by rw [List.length_map, hpl]
          have hlr : (rs.map fun r => Value.ref r.1).length = n + 1 := by rw [List.length_map, hln, hln4]
          obtain ⟨qs', hqs⟩ : ∃ qs', qs' = sortRows false rkey ps := ⟨_, rfl⟩
          have hq1 : 1 ≤ (qs'.map pv).length := by
            rw [List.length_map, hqs, sortRows_len]; omega
          have hz3 : (flat2 (qs'.map pv)).toArray.size ≤ sizeLine := flat_small2 (by rw [hqs, sortRows_len]; omega)
          have hIh := ints_tv (qs'.map (·.1))
          have hIw := ints_tv qs
          have hMd : Md 36 := .mk 36
          have hMkCallRef : Mk "call ref" := .mk _
          have hMkSubscriptTailNameSliceRefRef : Mk "subscriptTail Name Slice ref ref" := .mk _
          have hMkCallBuiltinLen : Mk "call builtin:len" := .mk _
          have hMkExecIf : Mk "exec If" := .mk _
          k_steps
          repeat' ((first | (first | ((with_reducible refine StopK.of (s := "call ref") ?_); first | (with_reducible ((k_here; k_dflt (refine' Tell1.use (sorted_array_c _ _ _ _ _ x dx B p1 p2 I _ _ _ _ _ _ _ _ _ _ _ _ _ _ t1 t2 t3 t4 _ _ _ _ _ (ps.map rv) 2 _ ?qh1P36 ?qh2P36 ?qh3P36 ?qh4P36 ?qh5P36 ?qh6P36 rv_len ?qg3P36 ?qg4P36 ?qg1P36 ?qg2P36 rv_int) ?qk1 ?qk2 ?qk3 ?qk4 ?qk5 ?qkK ?qkd ?qku ?_; ((case qk1 => k_asm); (case qk2 => k_asm); (case qk3 => k_asm); (case qk4 => k_asm); (case qk5 => k_asm); (case qkK => first | exact rfl | assumption); (case qkd => ktr_room); (case qku => ktr_units)); (case qh1P36 => k_mem); (case qh2P36 => k_mem); (case qh3P36 => k_mem); (case qh4P36 => k_mem); (case qh5P36 => k_mem); (case qh6P36 => k_mem); (case qg1P36 => omega); (case qg2P36 => omega); (case qg3P36 => first | decide | omega); (case qg4P36 => first | decide | omega)); intro r9 tl9 h9 tk9 F9 N9 l9 p9; obtain ⟨xq, dxq, Iq, kq, a1, a2, a3, a4, a5, a6, b1, b3, e9, e8⟩ := p9; subst e9; subst e8; rw [items_flat, ← hqs] at N9; simp only [List.cons_append, List.nil_append] at N9; have l9I := l9 (Iq, _) (List.Mem.head _); dsimp only at l9I; clear l9; (try dsimp only); (try k_fold)))) | (with_reducible ((k_here; k_dflt (refine' Tell.use (rows_array_c _ _ _ _ _ Dr _ rs 2 _ _ ?qh1P36 ?qh2P36 ?qh3P36 ?qh4P36 ?qh5P36 ?qh6P36) ?qk1 ?qk2 ?qk3 ?qk4 ?qk5 ?qkK ?qkd ?qku ?_; ((case qk1 => k_asm); (case qk2 => k_asm); (case qk3 => k_asm); (case qk4 => k_asm); (case qk5 => k_asm); (case qkK => first | exact rfl | assumption); (case qkd => ktr_room); (case qku => ktr_units)); (case qh1P36 => exact List.Mem.head _); (case qh2P36 => exact fun r hr => ⟨(hmem r hr).imp fun k hk => by repeat (first | exact hk | refine List.Mem.tail _ ?_), rv_len _ (hmap ▸ List.mem_map.mpr ⟨r, hr, rfl⟩)⟩); (case qh3P36 => first | decide | omega); (case qh4P36 => first | decide | omega); (case qh5P36 => first | decide | omega); (case qh6P36 => first | decide | omega)); intro r9 tl9 h9 tk9 F9 N9 l9 p9; obtain ⟨x, dx, B, p1, p2, I, k, u1, u2, u3, u4, u5, u6, v1', v3', told, tt, kB, k1, k2, t1, t2, t3, t4, e9, e8⟩ := p9; subst e9; subst e8; rw [List.flatMap_def, hmap, hln] at N9; simp only [List.cons_append, List.nil_append] at N9; clear l9; (try dsimp only); (try k_fold)))) | ((k_here; k_dflt (refine' Tell1.use (sorted_array_c _ _ _ _ _ x dx B p1 p2 I _ _ _ _ _ _ _ _ _ _ _ _ _ _ t1 t2 t3 t4 _ _ _ _ _ (ps.map rv) 2 _ ?qh1P36 ?qh2P36 ?qh3P36 ?qh4P36 ?qh5P36 ?qh6P36 rv_len ?qg3P36 ?qg4P36 ?qg1P36 ?qg2P36 rv_int) ?qk1 ?qk2 ?qk3 ?qk4 ?qk5 ?qkK ?qkd ?qku ?_; ((case qk1 => k_asm); (case qk2 => k_asm); (case qk3 => k_asm); (case qk4 => k_asm); (case qk5 => k_asm); (case qkK => first | exact rfl | assumption); (case qkd => ktr_room); (case qku => ktr_units)); (case qh1P36 => k_mem); (case qh2P36 => k_mem); (case qh3P36 => k_mem); (case qh4P36 => k_mem); (case qh5P36 => k_mem); (case qh6P36 => k_mem); (case qg1P36 => omega); (case qg2P36 => omega); (case qg3P36 => first | decide | omega); (case qg4P36 => first | decide | omega)); intro r9 tl9 h9 tk9 F9 N9 l9 p9; obtain ⟨xq, dxq, Iq, kq, a1, a2, a3, a4, a5, a6, b1, b3, e9, e8⟩ := p9; subst e9; subst e8; rw [items_flat, ← hqs] at N9; simp only [List.cons_append, List.nil_append] at N9; have l9I := l9 (Iq, _) (List.Mem.head _); dsimp only at l9I; clear l9; (try dsimp only); (try k_fold))) | ((k_here; k_dflt (refine' Tell.use (rows_array_c _ _ _ _ _ Dr _ rs 2 _ _ ?qh1P36 ?qh2P36 ?qh3P36 ?qh4P36 ?qh5P36 ?qh6P36) ?qk1 ?qk2 ?qk3 ?qk4 ?qk5 ?qkK ?qkd ?qku ?_; ((case qk1 => k_asm); (case qk2 => k_asm); (case qk3 => k_asm); (case qk4 => k_asm); (case qk5 => k_asm); (case qkK => first | exact rfl | assumption); (case qkd => ktr_room); (case qku => ktr_units)); (case qh1P36 => exact List.Mem.head _); (case qh2P36 => exact fun r hr => ⟨(hmem r hr).imp fun k hk => by repeat (first | exact hk | refine List.Mem.tail _ ?_), rv_len _ (hmap ▸ List.mem_map.mpr ⟨r, hr, rfl⟩)⟩); (case qh3P36 => first | decide | omega); (case qh4P36 => first | decide | omega); (case qh5P36 => first | decide | omega); (case qh6P36 => first | decide | omega)); intro r9 tl9 h9 tk9 F9 N9 l9 p9; obtain ⟨x, dx, B, p1, p2, I, k, u1, u2, u3, u4, u5, u6, v1', v3', told, tt, kB, k1, k2, t1, t2, t3, t4, e9, e8⟩ := p9; subst e9; subst e8; rw [List.flatMap_def, hmap, hln] at N9; simp only [List.cons_append, List.nil_append] at N9; clear l9; (try dsimp only); (try k_fold))) | (rename Mk "call ref" => hMkCallRef; clear hMkCallRef; (first | walk1 | (dsimp only; walk1)) <;> have hMkCallRef : Mk "call ref" := .mk _)) | ((with_reducible refine StopK.of (s := "subscriptTail Name Slice ref ref") ?_); first | (with_reducible ((k_here; (with_reducible show wpAny _ _ (subscriptTail _ (PySem.Expr.Slice (some _) none (some _) _) (Value.ref _) (Value.ref _)) _ _ _); k_dflt (refine' kmk_slice3_lit (its := (flat2 (qs'.map pv)).toArray) ?s4FP36 ?s4NP36 ?s4lP36 ?s4pP36 ?s4qP36 ?s4kP36 ?s4oP36 (pick_odd _ hq1) ?_ ?s4sP36 ?s4tP36 ?s4zP36; (case s4FP36 => k_asm); (case s4NP36 => k_asm); (case s4lP36 => kmk_list); (case s4pP36 => exact IsPart.int _ _); (case s4qP36 => exact IsPart.none); (case s4kP36 => exact IsPart.int _ _); (case s4oP36 => decide); (case s4sP36 => with_unfolding_all rfl); (case s4tP36 => kmk_pure); (case s4zP36 => exact hz3)); intro D' h' F' N' l1; rw [words_eq] at N'; replace N' := drop_items N'; (try k_lt l1)))) | (with_reducible ((k_here; (with_reducible show wpAny _ _ (subscriptTail _ (PySem.Expr.Slice none none (some _) _) (Value.ref _) (Value.ref _)) _ _ _); k_dflt (refine' kmk_slice3_lit (its := (flat2 (qs'.map pv)).toArray) ?s3FP36 ?s3NP36 ?s3lP36 ?s3pP36 ?s3qP36 ?s3kP36 ?s3oP36 (pick_even _) ?_ ?s3sP36 ?s3tP36 ?s3zP36; (case s3FP36 => k_asm); (case s3NP36 => k_asm); (case s3lP36 => kmk_list); (case s3pP36 => exact IsPart.none); (case s3qP36 => exact IsPart.none); (case s3kP36 => exact IsPart.int _ _); (case s3oP36 => decide); (case s3sP36 => with_unfolding_all rfl); (case s3tP36 => kmk_pure); (case s3zP36 => exact hz3)); intro D' h' F' N' l1; rw [heads_eq] at N'; (try k_lt l1)))) | ((k_here; (with_reducible show wpAny _ _ (subscriptTail _ (PySem.Expr.Slice (some _) none (some _) _) (Value.ref _) (Value.ref _)) _ _ _); k_dflt (refine' kmk_slice3_lit (its := (flat2 (qs'.map pv)).toArray) ?s4FP36 ?s4NP36 ?s4lP36 ?s4pP36 ?s4qP36 ?s4kP36 ?s4oP36 (pick_odd _ hq1) ?_ ?s4sP36 ?s4tP36 ?s4zP36; (case s4FP36 => k_asm); (case s4NP36 => k_asm); (case s4lP36 => kmk_list); (case s4pP36 => exact IsPart.int _ _); (case s4qP36 => exact IsPart.none); (case s4kP36 => exact IsPart.int _ _); (case s4oP36 => decide); (case s4sP36 => with_unfolding_all rfl); (case s4tP36 => kmk_pure); (case s4zP36 => exact hz3)); intro D' h' F' N' l1; rw [words_eq] at N'; replace N' := drop_items N'; (try k_lt l1))) | ((k_here; (with_reducible show wpAny _ _ (subscriptTail _ (PySem.Expr.Slice none none (some _) _) (Value.ref _) (Value.ref _)) _ _ _); k_dflt (refine' kmk_slice3_lit (its := (flat2 (qs'.map pv)).toArray) ?s3FP36 ?s3NP36 ?s3lP36 ?s3pP36 ?s3qP36 ?s3kP36 ?s3oP36 (pick_even _) ?_ ?s3sP36 ?s3tP36 ?s3zP36; (case s3FP36 => k_asm); (case s3NP36 => k_asm); (case s3lP36 => kmk_list); (case s3pP36 => exact IsPart.none); (case s3qP36 => exact IsPart.none); (case s3kP36 => exact IsPart.int _ _); (case s3oP36 => decide); (case s3sP36 => with_unfolding_all rfl); (case s3tP36 => kmk_pure); (case s3zP36 => exact hz3)); intro D' h' F' N' l1; rw [heads_eq] at N'; (try k_lt l1))) | (rename Mk "subscriptTail Name Slice ref ref" => hMkSubscriptTailNameSliceRefRef; clear hMkSubscriptTailNameSliceRefRef; (first | walk1 | (dsimp only; walk1)) <;> have hMkSubscriptTailNameSliceRefRef : Mk "subscriptTail Name Slice ref ref" := .mk _)) | ((with_reducible refine StopK.of (s := "call builtin:len") ?_); first | (with_reducible ((k_here; k_dflt (refine' len_led2 ?leNP36 ?lemP36 ?lezP36 ?lekP36 ?_; (case leNP36 => k_asm); (case lemP36 => k_mem); (case lezP36 => first | exact hlr | exact hlh); (case lekP36 => omega))))) | ((k_here; k_dflt (refine' len_led2 ?leNP36 ?lemP36 ?lezP36 ?lekP36 ?_; (case leNP36 => k_asm); (case lemP36 => k_mem); (case lezP36 => first | exact hlr | exact hlh); (case lekP36 => omega)))) | (rename Mk "call builtin:len" => hMkCallBuiltinLen; clear hMkCallBuiltinLen; (first | walk1 | (dsimp only; walk1)) <;> have hMkCallBuiltinLen : Mk "call builtin:len" := .mk _)) | ((with_reducible refine StopK.of (s := "exec If") ?_); first | (with_reducible (refine Stop.of ?_)))) | fail); k_steps)
          · unfold Stop
            rename Md _ => hMd
            clear hMd
            repeat (rename Mk _ => hMk; clear hMk)
            have hMkCallBuiltinSorted : Mk "call builtin:sorted" := .mk _
            have hMkCallBuiltinLen : Mk "call builtin:len" := .mk _
            have hMkExecAssign : Mk "exec Assign" := .mk _
            have hn2 : 2 ≤ n + 1 := by omega
            obtain ⟨k, hk⟩ : ∃ k, n = k + 1 := ⟨n - 1, by omega⟩
            rw [hk] at hgo
            obtain ⟨q0, q1, qr, r0, r1, rest, HT⟩ := hturn_facts hrk hgo
            have hq2 : qs' = q0 :: q1 :: qr := hqs.trans HT.sort
            have hsum : ((qs'.map (·.1)).map (·.1)).sum = (qs.map (·.1)).sum := by rw [hq2, hqw]; exact HT.sum
            have hasc : ((qs'.map (·.1)).map (·.1)).Pairwise (· ≤ ·) := by rw [hq2]; exact HT.asc
            have hh64 : ((qs'.map (·.1)).map (·.1)).length < 64 := by rw [List.length_map, List.length_map, hqs, sortRows_len]; omega
            have hlh : ((qs'.map (·.1)).map tv).length = n + 1 := by rw [List.length_map, List.length_map, hqs, sortRows_len, hpl]
            k_steps
            repeat' ((first | (first | ((with_reducible refine StopK.of (s := "call builtin:sorted") ?_); first | (with_reducible ((k_here; (with_reducible show wpAny _ _ (call (Value.builtin _) [Value.ref _]) _ _ _); k_dflt (refine' sorted_asc ?soFP37 ?soNP37 ?somP37 ?soiP37 hasc ?sohP37 ?_; (case soFP37 => k_asm); (case soNP37 => k_asm); (case somP37 => k_mem); (case soiP37 => exact hIh); (case sohP37 => exact hh64)); intro D' vs' c' h' F' N' l1 hI'; (try k_lt l1)))) | ((k_here; (with_reducible show wpAny _ _ (call (Value.builtin _) [Value.ref _]) _ _ _); k_dflt (refine' sorted_asc ?soFP37 ?soNP37 ?somP37 ?soiP37 hasc ?sohP37 ?_; (case soFP37 => k_asm); (case soNP37 => k_asm); (case somP37 => k_mem); (case soiP37 => exact hIh); (case sohP37 => exact hh64)); intro D' vs' c' h' F' N' l1 hI'; (try k_lt l1))) | (rename Mk "call builtin:sorted" => hMkCallBuiltinSorted; clear hMkCallBuiltinSorted; (first | walk1 | (dsimp only; walk1)) <;> have hMkCallBuiltinSorted : Mk "call builtin:sorted" := .mk _)) | ((with_reducible refine StopK.of (s := "call builtin:len") ?_); first | (with_reducible ((k_here; k_dflt (refine' len_led2 ?leNP37 ?lemP37 ?lezP37 ?lekP37 ?_; (case leNP37 => k_asm); (case lemP37 => k_mem); (case lezP37 => first | exact hlr | exact hlh); (case lekP37 => omega))))) | ((k_here; k_dflt (refine' len_led2 ?leNP37 ?lemP37 ?lezP37 ?lekP37 ?_; (case leNP37 => k_asm); (case lemP37 => k_mem); (case lezP37 => first | exact hlr | exact hlh); (case lekP37 => omega)))) | (rename Mk "call builtin:len" => hMkCallBuiltinLen; clear hMkCallBuiltinLen; (first | walk1 | (dsimp only; walk1)) <;> have hMkCallBuiltinLen : Mk "call builtin:len" := .mk _)) | ((with_reducible refine StopK.of (s := "exec Assign") ?_); first | (with_reducible ((k_here; (with_reducible show wpAny _ _ (exec (Stmt.Assign [Expr.Name _ _] (Expr.BinOp _ _ _ _) _) _) _ _ _); refine Stop.of ?_))) | ((k_here; (with_reducible show wpAny _ _ (exec (Stmt.Assign [Expr.Name _ _] (Expr.BinOp _ _ _ _) _) _) _ _ _); refine Stop.of ?_)) | (rename Mk "exec Assign" => hMkExecAssign; clear hMkExecAssign; (first | walk1 | (dsimp only; walk1)) <;> have hMkExecAssign : Mk "exec Assign" := .mk _))) | fail); k_steps)
            · exact absurd hsum (by assumption)
            · exact absurd rfl (by assumption)
            · unfold Stop
              repeat (rename Mk _ => hMk; clear hMk)
              have hMkExecFor : Mk "exec For" := .mk _
              have hMkExecForNameBinOpConsNil : Mk "exec For Name BinOp cons nil" := .mk _
              have hMkCallBuiltinStrJoin : Mk "call builtin:str.join" := .mk _
              have hMkCallBuiltinSorted : Mk "call builtin:sorted" := .mk _
              have hMkCompareOpNotEqRefRef : Mk "compareOp NotEq ref ref" := .mk _
              obtain ⟨hjl, hjw, hj64, hws, hcat, hlet, hm0, hm1⟩ := turn_words HT hS4 (by omega) (by omega) hq2
              have hmade : ¬(((qs'.map (·.1)).map (·.1)).getD (Int.toNat 0) 0 + ((qs'.map (·.1)).map (·.1)).getD (Int.toNat 1) 0 < (aN : Int)) := by
                have h1 := HT.ahead
                rw [hq2]
                show ¬(q0.1.1 + q1.1.1 < (aN : Int))
                omega
              k_steps
              repeat' ((first | (first | ((with_reducible refine StopK.of (s := "exec For") ?_); first | (with_reducible (refine Stop.of ?_))) | ((with_reducible refine StopK.of (s := "exec For Name BinOp cons nil") ?_); first | (with_reducible (refine Stop.of ?_))) | ((with_reducible refine StopK.of (s := "call builtin:str.join") ?_); first | (with_reducible ((k_here; k_dflt (refine' join_words ?joNP38 ?jomP38 ?jowP38 ?_; (case joNP38 => k_asm); (case jomP38 => k_mem); (case jowP38 => exact hjw)); intro t' k'))) | ((k_here; k_dflt (refine' join_words ?joNP38 ?jomP38 ?jowP38 ?_; (case joNP38 => k_asm); (case jomP38 => k_mem); (case jowP38 => exact hjw)); intro t' k')) | (rename Mk "call builtin:str.join" => hMkCallBuiltinStrJoin; clear hMkCallBuiltinStrJoin; (first | walk1 | (dsimp only; walk1)) <;> have hMkCallBuiltinStrJoin : Mk "call builtin:str.join" := .mk _)) | ((with_reducible refine StopK.of (s := "call builtin:sorted") ?_); first | (with_reducible ((k_here; (with_reducible show wpAny _ _ (call (Value.builtin _) [Value.str _ _]) _ _ _); k_dflt (refine' sorted_of_str (by rfl) ?ssFP38 ?ssNP38 ?sshP38 ?_; (case ssFP38 => k_asm); (case ssNP38 => k_asm); (case sshP38 => exact hj64)); intro D' h' tk' vs' ss' e' F' N' l1 hS' hP' hO'; (try k_lt l1)))) | ((k_here; (with_reducible show wpAny _ _ (call (Value.builtin _) [Value.str _ _]) _ _ _); k_dflt (refine' sorted_of_str (by rfl) ?ssFP38 ?ssNP38 ?sshP38 ?_; (case ssFP38 => k_asm); (case ssNP38 => k_asm); (case sshP38 => exact hj64)); intro D' h' tk' vs' ss' e' F' N' l1 hS' hP' hO'; (try k_lt l1))) | (rename Mk "call builtin:sorted" => hMkCallBuiltinSorted; clear hMkCallBuiltinSorted; (first | walk1 | (dsimp only; walk1)) <;> have hMkCallBuiltinSorted : Mk "call builtin:sorted" := .mk _)) | ((with_reducible refine StopK.of (s := "compareOp NotEq ref ref") ?_); first | (with_reducible (refine Stop.of ?_)))) | fail); k_steps)
              unfold Stop
              repeat (rename Mk _ => hMk; clear hMk)
              have hMkExecFor : Mk "exec For" := .mk _
              have hMkExecForNameBinOpConsNil : Mk "exec For Name BinOp cons nil" := .mk _
              rename CarriedAll _ (List.map PyData.str (signs _)) => hcc
              have hss := letters_of hP' hO' hjl (lets_asc hS4)
              rw [hss] at hS'
              rw [lets_slice hS4] at hcc
              k_here
              k_dflt (refine ne_strs_same (by is_list) (by is_list) hS' hcc (lets_shaped hS4) (by ke_room) ?_)
              k_steps
              repeat' ((first | (first | ((with_reducible refine StopK.of (s := "exec For") ?_); first | (with_reducible (refine Stop.of ?_))) | ((with_reducible refine StopK.of (s := "exec For Name BinOp cons nil") ?_); first | (with_reducible (refine Stop.of ?_)))) | fail); k_steps)
              clear hcc
              unfold Stop
              repeat (rename Mk _ => hMk; clear hMk)
              have hMkSubscriptTail : Mk "subscriptTail" := .mk _
              have hMkBinaryOpAddStrStr : Mk "binaryOp Add str str" := .mk _
              have hMkExecForNameBinOpConsNil : Mk "exec For Name BinOp cons nil" := .mk _
              have hMkPyIterStr : Mk "pyIter str" := .mk _
              have hMkLastPyIterStr : Mk "last pyIter str" := .mk _
              have hw0 : ((qs'.map (·.2)).map sv)[(0 : Int).toNat]? = some (Value.str q0.2.1 q0.2.2) := by rw [hq2]; rfl
              have hw1 : ((qs'.map (·.2)).map sv)[(1 : Int).toNat]? = some (Value.str q1.2.1 q1.2.2) := by rw [hq2]; rfl
              k_steps
              repeat' ((first | (first | ((with_reducible refine StopK.of (s := "subscriptTail") ?_); first | (with_reducible ((k_here; (with_reducible show wpAny _ _ (subscriptTail _ _ (Value.ref _) (Value.int _ _)) _ _ _); k_dflt (refine' item_led ?itNP41 ?itmP41 ?itaP41 ?itbP41 ?itxP41 ?_; (case itNP41 => k_asm); (case itmP41 => k_mem); (case itxP41 => first | exact hxi | exact hw0 | exact hw1 | exact hqh | exact hqw); (case itaP41 => first | decide | omega); (case itbP41 => first | decide | omega))))) | ((k_here; (with_reducible show wpAny _ _ (subscriptTail _ _ (Value.ref _) (Value.int _ _)) _ _ _); k_dflt (refine' item_led ?itNP41 ?itmP41 ?itaP41 ?itbP41 ?itxP41 ?_; (case itNP41 => k_asm); (case itmP41 => k_mem); (case itxP41 => first | exact hxi | exact hw0 | exact hw1 | exact hqh | exact hqw); (case itaP41 => first | decide | omega); (case itbP41 => first | decide | omega)))) | (rename Mk "subscriptTail" => hMkSubscriptTail; clear hMkSubscriptTail; (first | walk1 | (dsimp only; walk1)) <;> have hMkSubscriptTail : Mk "subscriptTail" := .mk _)) | ((with_reducible refine StopK.of (s := "binaryOp Add str str") ?_); first | (with_reducible ((k_here; k_dflt (refine add_str ?adhP41 ?adsP41; (case adsP41 => exact hws)); intro t' k'))) | ((k_here; k_dflt (refine add_str ?adhP41 ?adsP41; (case adsP41 => exact hws)); intro t' k')) | (rename Mk "binaryOp Add str str" => hMkBinaryOpAddStrStr; clear hMkBinaryOpAddStrStr; (first | walk1 | (dsimp only; walk1)) <;> have hMkBinaryOpAddStrStr : Mk "binaryOp Add str str" := .mk _)) | ((with_reducible refine StopK.of (s := "exec For Name BinOp cons nil") ?_); first | (with_reducible ((k_here; (rename Fr _ _ _ _ => lF'); (with_unfolding_all refine' For_invVF lF' ?fo1P41 ?fo2P41 ?_; (case fo1P41 => exact rfl); (case fo2P41 => exact rfl); k_whole)))) | ((k_here; (rename Fr _ _ _ _ => lF'); (with_unfolding_all refine' For_invVF lF' ?fo1P41 ?fo2P41 ?_; (case fo1P41 => exact rfl); (case fo2P41 => exact rfl); k_whole))) | (rename Mk "exec For Name BinOp cons nil" => hMkExecForNameBinOpConsNil; clear hMkExecForNameBinOpConsNil; (first | walk1 | (dsimp only; walk1)) <;> have hMkExecForNameBinOpConsNil : Mk "exec For Name BinOp cons nil" := .mk _)) | ((with_reducible refine StopK.of (s := "pyIter str") ?_); first | (with_reducible (refine Stop.of ?_))) | ((with_reducible refine StopK.of (s := "last pyIter str") ?_); first | (with_reducible (refine Stop.of ?_)))) | fail); k_steps)
              unfold Stop
              repeat (rename Mk _ => hMk; clear hMk)
              have hMkCallBuiltinStrIndex : Mk "call builtin:str.index" := .mk _
              have hMkGetItemRefInt : Mk "getItem ref int" := .mk _
              have hMkSetItemRefInt : Mk "setItem ref int" := .mk _
              rename Fr _ _ _ _ => F6
              rename News _ _ _ _ => N6
              obtain ⟨W, H, o5, o6, eW, eH, e5, e6, N7⟩ := letters_cut2 N6
              obtain ⟨m0, hm0, F7⟩ := fr_name F6
              clear F6 N6
              subst eW eH e5 e6
              refine iter_strUnr rfl F7 N7 rfl fun I hI => ?_
              have hI0 := hI
              k_lt hI
              refine strU_ind (fun left m news => ∃ (l lz : List Nat) (ls' : List Value) (v : Option Value), left = l.map one ∧ (∀ c ∈ l, c ∈ lets S) ∧ lz.length = S ∧ l.foldl bump lz = (r0.2 ++ r1.2).foldl bump lzN ∧ IntsAre ls' (inZ lz) ∧ m = (fun y => if y = Str.ofString "letter" then v else m0 y) ∧
                  news = [(W, listOf (List.map sv (List.map (fun x => x.snd) qs')).toArray 0), (H, listOf (List.map tv (List.map (fun x => x.fst) qs')).toArray 0), (Dl, listOf ls'.toArray kl), (Dw, LCg.lst (List.map tv qs)), (s1.heap.objs.size + 1 + 1, oM), (s1.heap.objs.size + 1 + 1 + 1, oW), (s1.heap.objs.size + 1 + 1 + 1 + 1, oL), (s1.heap.objs.size + 1 + 1 + 1 + 1 + 1, o5), (s1.heap.objs.size + 1 + 1 + 1 + 1 + 1 + 1, o6), (s1.heap.objs.size + 1 + 1 + 1 + 1 + 1 + 1 + 1, o7), (s1.heap.objs.size + 1 + 1 + 1 + 1 + 1 + 1 + 1 + 1, o8), (s1.heap.objs.size + 1 + 1 + 1 + 1 + 1 + 1 + 1 + 1 + 1, o9)]) ?_ ?_ _ _ _ ⟨r0.2 ++ r1.2, lzN, ls, m0 (Str.ofString "letter"), by rw [hcat]; rfl, hlet, HT.lz, rfl, hIl, self_if _, rfl⟩
              · rintro c r m news u it h5 tk5 ⟨l, lz, ls', v, hcr, hll, hlz, hfo, hI5, rfl, rfl⟩ F8 N8
                cases l with
                | nil => cases hcr
                | cons x l' =>
                  obtain ⟨rfl, rfl⟩ := List.cons.inj hcr
                  have hxl := hll x (.head _)
                  have hx1 := (find_abcd hxl hS4).2
                  have hzl : ((inZ lz).length : Int) = (S : Int) := by rw [inZ_len, hlz]
                  rw [two_if] at F8
                  k_steps
                  repeat' ((first | (first | ((with_reducible refine StopK.of (s := "call builtin:str.index") ?_); first | (with_reducible ((k_here; k_dflt (refine' index_abcd (by rfl) ?ixhP42 ?ix4P42 ?_; (case ixhP42 => exact hxl); (case ix4P42 => exact hS4)); intro t' tk'))) | ((k_here; k_dflt (refine' index_abcd (by rfl) ?ixhP42 ?ix4P42 ?_; (case ixhP42 => exact hxl); (case ix4P42 => exact hS4)); intro t' tk')) | (rename Mk "call builtin:str.index" => hMkCallBuiltinStrIndex; clear hMkCallBuiltinStrIndex; (first | walk1 | (dsimp only; walk1)) <;> have hMkCallBuiltinStrIndex : Mk "call builtin:str.index" := .mk _)) | ((with_reducible refine StopK.of (s := "getItem ref int") ?_); first | (with_reducible ((k_here; (with_reducible show wpAny _ _ (getItem (Value.ref _) (Value.int _ _)) _ _ _); k_dflt (refine' ksa_get ?gi1P42 ?gi2P42 hI5 ?gi4P42 ?gi5P42 ?gi6P42 ?_; (case gi1P42 => k_asm); (case gi2P42 => k_mem); (case gi4P42 => omega); (case gi5P42 => omega); (case gi6P42 => omega)); intro _))) | ((k_here; (with_reducible show wpAny _ _ (getItem (Value.ref _) (Value.int _ _)) _ _ _); k_dflt (refine' ksa_get ?gi1P42 ?gi2P42 hI5 ?gi4P42 ?gi5P42 ?gi6P42 ?_; (case gi1P42 => k_asm); (case gi2P42 => k_mem); (case gi4P42 => omega); (case gi5P42 => omega); (case gi6P42 => omega)); intro _)) | (rename Mk "getItem ref int" => hMkGetItemRefInt; clear hMkGetItemRefInt; (first | walk1 | (dsimp only; walk1)) <;> have hMkGetItemRefInt : Mk "getItem ref int" := .mk _)) | ((with_reducible refine StopK.of (s := "setItem ref int") ?_); first | (with_reducible ((k_here; (with_reducible show wpAny _ _ (setItem (Value.ref _) (Value.int _ _) (Value.int _ _)) _ _ _); k_dflt (refine' ksa_set ?si1P42 ?si2P42 ?si3P42 hI5 ?si5P42 ?si6P42 ?si7P42 ?_; (case si1P42 => k_asm); (case si2P42 => k_asm); (case si3P42 => k_upd); (case si5P42 => omega); (case si6P42 => omega); (case si7P42 => omega)); intro h' F' N' hi' hl' hs'))) | ((k_here; (with_reducible show wpAny _ _ (setItem (Value.ref _) (Value.int _ _) (Value.int _ _)) _ _ _); k_dflt (refine' ksa_set ?si1P42 ?si2P42 ?si3P42 hI5 ?si5P42 ?si6P42 ?si7P42 ?_; (case si1P42 => k_asm); (case si2P42 => k_asm); (case si3P42 => k_upd); (case si5P42 => omega); (case si6P42 => omega); (case si7P42 => omega)); intro h' F' N' hi' hl' hs')) | (rename Mk "setItem ref int" => hMkSetItemRefInt; clear hMkSetItemRefInt; (first | walk1 | (dsimp only; walk1)) <;> have hMkSetItemRefInt : Mk "setItem ref int" := .mk _))) | fail); k_steps)
                  rename Fr _ _ _ _ => F9
                  rename News _ _ _ _ => N9
                  refine ⟨_, _, _, _, rfl, F9, N9, off_of_lt hI0 rfl, l', bump lz x, _, _, rfl, fun c hc => hll c (.tail _ hc), by rw [bump_len, hlz], hfo, ints_bump hI5, rfl, rfl⟩
              · rintro m news h5 tk5 ⟨l, lz, ls', v, hcr, hll, hlz, hfo, hI5, rfl, rfl⟩ F8 N8
                have hl0 : l = [] := by cases l with
                  | nil => rfl
                  | cons x l => cases hcr
                subst hl0
                clear hll hcr hI0 hI
                subst hm0
                clear F7 N7
                have F9 : Fr _ s1.heap.objs.size _ _ := F8
                have N9 : News _ s1.heap.objs.size _ _ := N8
                clear F8 N8
                repeat (rename Mk _ => hMk; clear hMk)
                have hMkEvalListComp : Mk "eval ListComp" := .mk _
                have hMkCallBuiltinLen : Mk "call builtin:len" := .mk _
                have hMkSubscriptTail : Mk "subscriptTail" := .mk _
                subst hk
                k_steps
                repeat' ((first | (first | ((with_reducible refine StopK.of (s := "eval ListComp") ?_); first | (with_reducible ((k_here; k_dflt (refine ListComp_step (_F₀ := by k_asm) (by with_unfolding_all rfl) (by decide) (by rfl) (by decide) (by rfl) ?_)))) | ((k_here; k_dflt (refine ListComp_step (_F₀ := by k_asm) (by with_unfolding_all rfl) (by decide) (by rfl) (by decide) (by rfl) ?_))) | (rename Mk "eval ListComp" => hMkEvalListComp; clear hMkEvalListComp; (first | walk1 | (dsimp only; walk1)) <;> have hMkEvalListComp : Mk "eval ListComp" := .mk _)) | ((with_reducible refine StopK.of (s := "call builtin:len") ?_); first | (with_reducible ((k_here; k_dflt (refine' len_led2 ?leNP43 ?lemP43 ?lezP43 ?lekP43 ?_; (case leNP43 => k_asm); (case lemP43 => k_mem); (case lezP43 => first | exact hlr | exact hlh); (case lekP43 => omega))))) | ((k_here; k_dflt (refine' len_led2 ?leNP43 ?lemP43 ?lezP43 ?lekP43 ?_; (case leNP43 => k_asm); (case lemP43 => k_mem); (case lezP43 => first | exact hlr | exact hlh); (case lekP43 => omega)))) | (rename Mk "call builtin:len" => hMkCallBuiltinLen; clear hMkCallBuiltinLen; (first | walk1 | (dsimp only; walk1)) <;> have hMkCallBuiltinLen : Mk "call builtin:len" := .mk _)) | ((with_reducible refine StopK.of (s := "subscriptTail") ?_); first | (with_reducible ((k_here; (with_reducible show wpAny _ _ (subscriptTail _ _ (Value.ref _) (Value.int _ _)) _ _ _); k_dflt (refine' item_led ?itNP43 ?itmP43 ?itaP43 ?itbP43 ?itxP43 ?_; (case itNP43 => k_asm); (case itmP43 => k_mem); (case itxP43 => first | exact hxi | exact hw0 | exact hw1 | exact hqh | exact hqw); (case itaP43 => first | decide | omega); (case itbP43 => first | decide | omega))))) | ((k_here; (with_reducible show wpAny _ _ (subscriptTail _ _ (Value.ref _) (Value.int _ _)) _ _ _); k_dflt (refine' item_led ?itNP43 ?itmP43 ?itaP43 ?itbP43 ?itxP43 ?_; (case itNP43 => k_asm); (case itmP43 => k_mem); (case itxP43 => first | exact hxi | exact hw0 | exact hw1 | exact hqh | exact hqw); (case itaP43 => first | decide | omega); (case itbP43 => first | decide | omega)))) | (rename Mk "subscriptTail" => hMkSubscriptTail; clear hMkSubscriptTail; (first | walk1 | (dsimp only; walk1)) <;> have hMkSubscriptTail : Mk "subscriptTail" := .mk _))) | fail); k_steps)
                rename Fr _ _ _ _ => FB
                rename News _ _ _ _ => NB
                rename IsRange _ _ _ _ _ _ _ _ => HR
                obtain ⟨q1r, q2r⟩ := range2_step (k := k) (by omega)
                refine ⟨_, _, _, _, _, _, _, k, _, rfl, rfl, FB, NB, HR, q1r, q2r, Nat.le_trans (by omega : k ≤ 4) (by decide), ?_⟩
                rintro s₂ ⟨hh, rfl⟩
                clear q1r q2r HR
                have hqrl : qr.length = k := by
                  have h1 := HT.len
                  have h2 := congrArg List.length HT.er
                  rw [List.length_map, List.length_map] at h2
                  have h3 := congrArg List.length hrk
                  rw [List.length_map, List.length_map] at h3
                  omega
                refine rest_ind (fun i ys nw => RowsJ _ ((qr.take i).map rk) ys nw) ?_ ?_ k 0 [] _ (Nat.zero_add _) (RowsJ.zero _)
                · rintro i ys nw v9 I7 oI C7 oC D1 m2 h3 tk3 E' hi hJ ⟨t7, rfl⟩ hC' hx' F3 N3 off3 ne3
                  obtain ⟨_, tl', _, _, _, _, rfl, _, _⟩ := id hJ
                  have N5 := add_base3 N3
                  simp only [List.cons_append, List.nil_append] at N5
                  obtain ⟨q, hqi, hqh, hqw, hqe, hqg⟩ := row_at hq2 (i := i) (by omega)
                  k_steps
                  repeat' ((first | (first | ((with_reducible refine StopK.of (s := "eval ListComp") ?_); first | (with_reducible ((k_here; k_dflt (refine ListComp_step (_F₀ := by k_asm) (by with_unfolding_all rfl) (by decide) (by rfl) (by decide) (by rfl) ?_)))) | ((k_here; k_dflt (refine ListComp_step (_F₀ := by k_asm) (by with_unfolding_all rfl) (by decide) (by rfl) (by decide) (by rfl) ?_))) | (rename Mk "eval ListComp" => hMkEvalListComp; clear hMkEvalListComp; (first | walk1 | (dsimp only; walk1)) <;> have hMkEvalListComp : Mk "eval ListComp" := .mk _)) | ((with_reducible refine StopK.of (s := "call builtin:len") ?_); first | (with_reducible ((k_here; k_dflt (refine' len_led2 ?leNP43 ?lemP43 ?lezP43 ?lekP43 ?_; (case leNP43 => k_asm); (case lemP43 => k_mem); (case lezP43 => first | exact hlr | exact hlh); (case lekP43 => omega))))) | ((k_here; k_dflt (refine' len_led2 ?leNP43 ?lemP43 ?lezP43 ?lekP43 ?_; (case leNP43 => k_asm); (case lemP43 => k_mem); (case lezP43 => first | exact hlr | exact hlh); (case lekP43 => omega)))) | (rename Mk "call builtin:len" => hMkCallBuiltinLen; clear hMkCallBuiltinLen; (first | walk1 | (dsimp only; walk1)) <;> have hMkCallBuiltinLen : Mk "call builtin:len" := .mk _)) | ((with_reducible refine StopK.of (s := "subscriptTail") ?_); first | (with_reducible ((k_here; (with_reducible show wpAny _ _ (subscriptTail _ _ (Value.ref _) (Value.int _ _)) _ _ _); k_dflt (refine' item_led ?itNP43 ?itmP43 ?itaP43 ?itbP43 ?itxP43 ?_; (case itNP43 => k_asm); (case itmP43 => k_mem); (case itxP43 => first | exact hxi | exact hw0 | exact hw1 | exact hqh | exact hqw); (case itaP43 => first | decide | omega); (case itbP43 => first | decide | omega))))) | ((k_here; (with_reducible show wpAny _ _ (subscriptTail _ _ (Value.ref _) (Value.int _ _)) _ _ _); k_dflt (refine' item_led ?itNP43 ?itmP43 ?itaP43 ?itbP43 ?itxP43 ?_; (case itNP43 => k_asm); (case itmP43 => k_mem); (case itxP43 => first | exact hxi | exact hw0 | exact hw1 | exact hqh | exact hqw); (case itaP43 => first | decide | omega); (case itbP43 => first | decide | omega)))) | (rename Mk "subscriptTail" => hMkSubscriptTail; clear hMkSubscriptTail; (first | walk1 | (dsimp only; walk1)) <;> have hMkSubscriptTail : Mk "subscriptTail" := .mk _))) | fail); k_steps)
                  rename _ < _ ∧ _ < _ ∧ _ < _ ∧ _ < _ ∧ _ => l8
                  rename News _ _ _ (_ :: _ :: _ :: _ :: _) => N7
                  rename Fr _ _ _ _ => F7
                  exact row_end F7 N7 (fun p hp => by repeat (first | exact hp | refine List.Mem.tail _ ?_)) l8.1 l8.2.1 l8.2.2.1 l8.2.2.2 off3 hJ (by first | exact hqe | (rw [hqg]; exact hqe))
                · rintro ys nw ⟨rs', tl', ps', rfl, hmap', hst', rfl, hmem', hne'⟩
                  intro D7 h7 tk7 F7 N7 off7
                  repeat (rename Mk _ => hMk; clear hMk)
                  have hMkSubscriptTail : Mk "subscriptTail" := .mk _
                  have hMkBinaryOpAddStrStr : Mk "binaryOp Add str str" := .mk _
                  have hMkBinaryOpAddRefRef : Mk "binaryOp Add ref ref" := .mk _
                  have hMkExecsCons : Mk "execs cons" := .mk _
                  have N6 := base_first N7
                  simp only [List.cons_append, List.nil_append] at N6
                  have off8 := off1_base off7
                  dsimp only [LCg.Off1] at off8
                  clear N7 FB NB
                  have hpl' : ps'.length = k := by
                    have h1 := congrArg List.length hst'
                    rw [List.length_map, List.length_map, List.length_take] at h1
                    omega
                  have hrl' : rs'.length = k := by
                    have h1 := congrArg List.length hmap'
                    rw [List.length_map, List.length_map] at h1
                    omega
                  have hz8 : ∀ x : Value, (rs'.map fun r => Value.ref r.1).length + [x].length ≤ 1000 := fun x => by
                    rw [List.length_map, hrl', List.length_singleton]; omega
                
                  k_steps
                  repeat' ((first | (first | ((with_reducible refine StopK.of (s := "subscriptTail") ?_); first | (with_reducible ((k_here; (with_reducible show wpAny _ _ (subscriptTail _ _ (Value.ref _) (Value.int _ _)) _ _ _); k_dflt (refine' item_led ?itNP44 ?itmP44 ?itaP44 ?itbP44 ?itxP44 ?_; (case itNP44 => k_asm); (case itmP44 => k_mem); (case itxP44 => first | exact hxi | exact hw0 | exact hw1 | exact hqh | exact hqw); (case itaP44 => first | decide | omega); (case itbP44 => first | decide | omega))))) | ((k_here; (with_reducible show wpAny _ _ (subscriptTail _ _ (Value.ref _) (Value.int _ _)) _ _ _); k_dflt (refine' item_led ?itNP44 ?itmP44 ?itaP44 ?itbP44 ?itxP44 ?_; (case itNP44 => k_asm); (case itmP44 => k_mem); (case itxP44 => first | exact hxi | exact hw0 | exact hw1 | exact hqh | exact hqw); (case itaP44 => first | decide | omega); (case itbP44 => first | decide | omega)))) | (rename Mk "subscriptTail" => hMkSubscriptTail; clear hMkSubscriptTail; (first | walk1 | (dsimp only; walk1)) <;> have hMkSubscriptTail : Mk "subscriptTail" := .mk _)) | ((with_reducible refine StopK.of (s := "binaryOp Add str str") ?_); first | (with_reducible ((k_here; k_dflt (refine add_str ?adhP44 ?adsP44; (case adsP44 => exact hws)); intro t' k'))) | ((k_here; k_dflt (refine add_str ?adhP44 ?adsP44; (case adsP44 => exact hws)); intro t' k')) | (rename Mk "binaryOp Add str str" => hMkBinaryOpAddStrStr; clear hMkBinaryOpAddStrStr; (first | walk1 | (dsimp only; walk1)) <;> have hMkBinaryOpAddStrStr : Mk "binaryOp Add str str" := .mk _)) | ((with_reducible refine StopK.of (s := "binaryOp Add ref ref") ?_); first | (with_reducible ((k_here; k_dflt (refine' add_led (xs := rs'.map fun r => Value.ref r.1) (ys := [Value.ref _]) ?alFP44 ?alNP44 ?allP44 ?albP44 ?alzP44 ?_; (case alFP44 => k_asm); (case alNP44 => k_asm); (case allP44 => k_mem); (case albP44 => k_mem); (case alzP44 => exact hz8 _)); intro D9 h9 F9 N9 l9; k_lt l9))) | ((k_here; k_dflt (refine' add_led (xs := rs'.map fun r => Value.ref r.1) (ys := [Value.ref _]) ?alFP44 ?alNP44 ?allP44 ?albP44 ?alzP44 ?_; (case alFP44 => k_asm); (case alNP44 => k_asm); (case allP44 => k_mem); (case albP44 => k_mem); (case alzP44 => exact hz8 _)); intro D9 h9 F9 N9 l9; k_lt l9)) | (rename Mk "binaryOp Add ref ref" => hMkBinaryOpAddRefRef; clear hMkBinaryOpAddRefRef; (first | walk1 | (dsimp only; walk1)) <;> have hMkBinaryOpAddRefRef : Mk "binaryOp Add ref ref" := .mk _)) | ((with_reducible refine StopK.of (s := "execs cons") ?_); first | (with_reducible ((k_here; (with_reducible refine wpAny_execs_cons ?_); (try dsimp only)))) | ((k_here; (with_reducible refine wpAny_execs_cons ?_); (try dsimp only))) | (rename Mk "execs cons" => hMkExecsCons; clear hMkExecsCons; (first | walk1 | (dsimp only; walk1)) <;> have hMkExecsCons : Mk "execs cons" := .mk _))) | fail); k_steps)
                
                  repeat (rename Mk _ => hMk; clear hMk)
                  rename Fr _ _ _ _ => F8
                  rename News _ _ _ _ => N8
                  rename D7 < _ ∧ W < _ ∧ _ => hl1
                  have hme := made_eq HT hq2
                  obtain ⟨l1, tm, tw, el, N9⟩ := turn_names N8
                  subst el
                  rw [frame_turn, hme, ← Int.natCast_add] at F8
                  rw [hme] at N9
                  obtain ⟨_, _, _, _, _, g1, g2, e2, e3, e4, e5, e6, e7, e8, e9, _⟩ := l9
                  obtain ⟨_, _, _, d1, _, _, _, _, d5, d6, d7, d8, d9, _⟩ := hl1
                  have hrows := rows_next HT hqrl hst' hcat tm tw
                  obtain ⟨hmp, hmm⟩ := rows_at (l1 := l1) (q := ((((r0.1 + r1.1 : Nat) : Int), tm), (q0.2.1 ++ q1.2.1, tw))) hmap' hmem'
                  refine ⟨_, _, _, _, k, rfl, F8, N9, Nat.lt_succ_self k, ?_⟩
                  rw [hJ]
                  refine ⟨_, _, _, D9, 0, rs' ++ [(l1, rv ((((r0.1 + r1.1 : Nat) : Int), tm), (q0.2.1 ++ q1.2.1, tw)))], _, _, ls', _, kl, _, _, _, _, _, o5, o6, _, _, ⟨?_, by omega, hrows, HT.on⟩, ⟨Ne.symm (Nat.ne_of_lt g1), Ne.symm (Nat.ne_of_lt g2), Ne.symm (Nat.ne_of_lt e2), Ne.symm (Nat.ne_of_lt e3), Ne.symm (Nat.ne_of_lt e4), Ne.symm (Nat.ne_of_lt e5), Ne.symm (Nat.ne_of_lt e6), Ne.symm (Nat.ne_of_lt e7), Ne.symm (Nat.ne_of_lt e8), Ne.symm (Nat.ne_of_lt e9)⟩, hmp, hmm, apart_turn hne' ⟨d1, d5, d6, d7, d8, d9⟩, ?_, by assumption, by assumption, rfl, ?_⟩
                  · rw [List.length_append, hpl']; rfl
                  · have hI5 : IntsAre ls' (inZ lz) := by assumption
                    exact hfo ▸ hI5
                  · rw [← refs_at]; rfl
          · unfold Stop
            rename Md _ => hMd
            clear hMd
            repeat (rename Mk _ => hMk; clear hMk)
            have hMkEvalListComp : Mk "eval ListComp" := .mk _
            have hMkCompSrc : Mk "CompSrc" := .mk _
            have hMkSubscriptTail : Mk "subscriptTail" := .mk _
            have hMkBinaryOpMultIntInt : Mk "binaryOp Mult int int" := .mk _
            have hn0 : n = 0 := by omega
            subst hn0
            rename Fr _ _ _ _ => F0
            rename News _ _ _ _ => N0
            have N1 := after_cut N0
            clear N0 r5 r6 w5 w6
            obtain ⟨hlz, hcd, hle, hkr, hbest⟩ := end_facts hgo
            have hIW : IntsAre (List.map tv qs) (inZ wsN) := hqw ▸ ints_tv qs
            have hlW : ((inZ wsN).length : Int) = (S : Int) := by rw [inZ_len, hlN]
            have hlL : ((inZ lzN).length : Int) = (S : Int) := by rw [inZ_len, hlz]
            have hcost : (cN : Int) = (prodsZ wsN lzN S).sum := by rw [prods_sum hlN hlz, hcd]
            k_steps
            repeat' ((first | (first | ((with_reducible refine StopK.of (s := "eval ListComp") ?_); first | (with_reducible ((k_here; (with_reducible show wpAny _ _ (eval (Expr.ListComp _ [⟨Expr.Name _ _, Expr.Name _ _, [], 0⟩] _ _) _) _ _ _); k_dflt (refine LCg.ListComp_U (F₀ := by k_asm) (by with_unfolding_all rfl) (by decide) (by rfl) (by decide) (by rfl) ?_)))) | (with_reducible ((k_here; k_dflt (refine ListComp_step (_F₀ := by k_asm) (by with_unfolding_all rfl) (by decide) (by rfl) (by decide) (by rfl) ?_)))) | ((k_here; (with_reducible show wpAny _ _ (eval (Expr.ListComp _ [⟨Expr.Name _ _, Expr.Name _ _, [], 0⟩] _ _) _) _ _ _); k_dflt (refine LCg.ListComp_U (F₀ := by k_asm) (by with_unfolding_all rfl) (by decide) (by rfl) (by decide) (by rfl) ?_))) | ((k_here; k_dflt (refine ListComp_step (_F₀ := by k_asm) (by with_unfolding_all rfl) (by decide) (by rfl) (by decide) (by rfl) ?_))) | (rename Mk "eval ListComp" => hMkEvalListComp; clear hMkEvalListComp; (first | walk1 | (dsimp only; walk1)) <;> have hMkEvalListComp : Mk "eval ListComp" := .mk _)) | ((with_reducible refine StopK.of (s := "CompSrc") ?_); first | (with_reducible ((refine Stop.of ?_))) | ((refine Stop.of ?_)) | (rename Mk "CompSrc" => hMkCompSrc; clear hMkCompSrc; (first | walk1 | (dsimp only; walk1)) <;> have hMkCompSrc : Mk "CompSrc" := .mk _)) | ((with_reducible refine StopK.of (s := "subscriptTail") ?_); first | (with_reducible ((k_here; (with_reducible show wpAny _ _ (subscriptTail _ _ (Value.ref _) (Value.int _ _)) _ _ _); k_dflt (refine' ksa_sub ?sbNP50 ?sbmP50 ?sbiP50 ?sb0P50 ?sb1P50 ?sb2P50 ?_ ?sbtP50; (case sbNP50 => k_asm); (case sbmP50 => k_mem); (case sbiP50 => first | exact hIW | exact hIl | exact hIO); (case sb0P50 => exact hi1); (case sb1P50 => first | exact hi2W | exact hi2L); (case sb2P50 => exact Int.lt_trans hi2 hS63); (case sbtP50 => with_unfolding_all rfl)); intro _))) | ((k_here; (with_reducible show wpAny _ _ (subscriptTail _ _ (Value.ref _) (Value.int _ _)) _ _ _); k_dflt (refine' ksa_sub ?sbNP50 ?sbmP50 ?sbiP50 ?sb0P50 ?sb1P50 ?sb2P50 ?_ ?sbtP50; (case sbNP50 => k_asm); (case sbmP50 => k_mem); (case sbiP50 => first | exact hIW | exact hIl | exact hIO); (case sb0P50 => exact hi1); (case sb1P50 => first | exact hi2W | exact hi2L); (case sb2P50 => exact Int.lt_trans hi2 hS63); (case sbtP50 => with_unfolding_all rfl)); intro _)) | (rename Mk "subscriptTail" => hMkSubscriptTail; clear hMkSubscriptTail; (first | walk1 | (dsimp only; walk1)) <;> have hMkSubscriptTail : Mk "subscriptTail" := .mk _)) | ((with_reducible refine StopK.of (s := "binaryOp Mult int int") ?_); first | (with_reducible ((k_here; k_dflt (refine mul_int ?_ (mulOk_getD hle hS4))))) | ((k_here; k_dflt (refine mul_int ?_ (mulOk_getD hle hS4)))) | (rename Mk "binaryOp Mult int int" => hMkBinaryOpMultIntInt; clear hMkBinaryOpMultIntInt; (first | walk1 | (dsimp only; walk1)) <;> have hMkBinaryOpMultIntInt : Mk "binaryOp Mult int int" := .mk _))) | fail); k_steps)
            rename Fr _ _ _ _ => FB
            rename News _ _ _ _ => NB
            rename IsRange _ _ _ _ _ _ _ _ => HR
            obtain ⟨q1, q2⟩ := range_step (n := S) (w := 1) (c := 1) (by omega) (by omega) (by omega) (by omega) rfl
            rw [Nat.mul_one] at q1 q2
            refine ⟨_, _, _, _, _, _, _, S, _, rfl, rfl, FB, NB, HR, q1, q2, Nat.le_trans hS4 (by decide), ?_⟩
            rintro s₂ ⟨hh, rfl⟩
            clear q1 q2 HR
            refine rest_ind (fun i ys nw => ∃ (ps7 : List (Int × Tok)), ys = ps7.map tv ∧ ps7.map (·.1) = prodsZ wsN lzN i ∧ nw = _) ?_ ?_ S 0 [] _ (Nat.zero_add _) ⟨[], rfl, rfl, rfl⟩
            · rintro i ys nw v I7 oI C7 oC D1 m2 h3 tk3 E' hi ⟨ps7, rfl, hmap, rfl⟩ ⟨t7, rfl⟩ hC' hx' F3 N3 off3 ne3
              have hi1 : (0 : Int) ≤ 0 + (i : Int) * 1 := hi_nn i
              have hi2 : 0 + (i : Int) * 1 < (S : Int) := hi_lt hi
              have hi2W : 0 + (i : Int) * 1 < ((inZ wsN).length : Int) := hlW ▸ hi2
              have hi2L : 0 + (i : Int) * 1 < ((inZ lzN).length : Int) := hlL ▸ hi2
              have hS63 := s63 hS4
              k_steps
              repeat' ((first | (first | ((with_reducible refine StopK.of (s := "eval ListComp") ?_); first | (with_reducible ((k_here; (with_reducible show wpAny _ _ (eval (Expr.ListComp _ [⟨Expr.Name _ _, Expr.Name _ _, [], 0⟩] _ _) _) _ _ _); k_dflt (refine LCg.ListComp_U (F₀ := by k_asm) (by with_unfolding_all rfl) (by decide) (by rfl) (by decide) (by rfl) ?_)))) | (with_reducible ((k_here; k_dflt (refine ListComp_step (_F₀ := by k_asm) (by with_unfolding_all rfl) (by decide) (by rfl) (by decide) (by rfl) ?_)))) | ((k_here; (with_reducible show wpAny _ _ (eval (Expr.ListComp _ [⟨Expr.Name _ _, Expr.Name _ _, [], 0⟩] _ _) _) _ _ _); k_dflt (refine LCg.ListComp_U (F₀ := by k_asm) (by with_unfolding_all rfl) (by decide) (by rfl) (by decide) (by rfl) ?_))) | ((k_here; k_dflt (refine ListComp_step (_F₀ := by k_asm) (by with_unfolding_all rfl) (by decide) (by rfl) (by decide) (by rfl) ?_))) | (rename Mk "eval ListComp" => hMkEvalListComp; clear hMkEvalListComp; (first | walk1 | (dsimp only; walk1)) <;> have hMkEvalListComp : Mk "eval ListComp" := .mk _)) | ((with_reducible refine StopK.of (s := "CompSrc") ?_); first | (with_reducible ((refine Stop.of ?_))) | ((refine Stop.of ?_)) | (rename Mk "CompSrc" => hMkCompSrc; clear hMkCompSrc; (first | walk1 | (dsimp only; walk1)) <;> have hMkCompSrc : Mk "CompSrc" := .mk _)) | ((with_reducible refine StopK.of (s := "subscriptTail") ?_); first | (with_reducible ((k_here; (with_reducible show wpAny _ _ (subscriptTail _ _ (Value.ref _) (Value.int _ _)) _ _ _); k_dflt (refine' ksa_sub ?sbNP50 ?sbmP50 ?sbiP50 ?sb0P50 ?sb1P50 ?sb2P50 ?_ ?sbtP50; (case sbNP50 => k_asm); (case sbmP50 => k_mem); (case sbiP50 => first | exact hIW | exact hIl | exact hIO); (case sb0P50 => exact hi1); (case sb1P50 => first | exact hi2W | exact hi2L); (case sb2P50 => exact Int.lt_trans hi2 hS63); (case sbtP50 => with_unfolding_all rfl)); intro _))) | ((k_here; (with_reducible show wpAny _ _ (subscriptTail _ _ (Value.ref _) (Value.int _ _)) _ _ _); k_dflt (refine' ksa_sub ?sbNP50 ?sbmP50 ?sbiP50 ?sb0P50 ?sb1P50 ?sb2P50 ?_ ?sbtP50; (case sbNP50 => k_asm); (case sbmP50 => k_mem); (case sbiP50 => first | exact hIW | exact hIl | exact hIO); (case sb0P50 => exact hi1); (case sb1P50 => first | exact hi2W | exact hi2L); (case sb2P50 => exact Int.lt_trans hi2 hS63); (case sbtP50 => with_unfolding_all rfl)); intro _)) | (rename Mk "subscriptTail" => hMkSubscriptTail; clear hMkSubscriptTail; (first | walk1 | (dsimp only; walk1)) <;> have hMkSubscriptTail : Mk "subscriptTail" := .mk _)) | ((with_reducible refine StopK.of (s := "binaryOp Mult int int") ?_); first | (with_reducible ((k_here; k_dflt (refine mul_int ?_ (mulOk_getD hle hS4))))) | ((k_here; k_dflt (refine mul_int ?_ (mulOk_getD hle hS4)))) | (rename Mk "binaryOp Mult int int" => hMkBinaryOpMultIntInt; clear hMkBinaryOpMultIntInt; (first | walk1 | (dsimp only; walk1)) <;> have hMkBinaryOpMultIntInt : Mk "binaryOp Mult int int" := .mk _))) | fail); k_steps)
              refine ⟨_, _, _, rfl, F3, N3, off3, trivial, ps7 ++ [((inZ wsN).getD (0 + (i : Int) * 1).toNat 0 * (inZ lzN).getD (0 + (i : Int) * 1).toNat 0, ?_)], ?_, ?_, rfl⟩
              rotate_left
              · rw [List.map_append]; rfl
              · rw [List.map_append, hmap, prods_succ]; rfl
            · rintro ys nw ⟨ps7, rfl, hmap, rfl⟩
              intro D7 h7 tk7 F7 N7 off7
              dsimp only [LCg.Off1] at off7
              obtain ⟨-, -, -, -, -, x7, -⟩ := off7
              have hI7 : IntsAre (ps7.map tv) (prodsZ wsN lzN S) := hmap ▸ ints_tv ps7
              clear hmap FB NB
              k_steps
              repeat' ((first | (first | ((with_reducible refine StopK.of (s := "eval ListComp") ?_); first | (with_reducible ((k_here; (with_reducible show wpAny _ _ (eval (Expr.ListComp _ [⟨Expr.Name _ _, Expr.Name _ _, [], 0⟩] _ _) _) _ _ _); k_dflt (refine LCg.ListComp_U (F₀ := by k_asm) (by with_unfolding_all rfl) (by decide) (by rfl) (by decide) (by rfl) ?_)))) | (with_reducible ((k_here; k_dflt (refine ListComp_step (_F₀ := by k_asm) (by with_unfolding_all rfl) (by decide) (by rfl) (by decide) (by rfl) ?_)))) | ((k_here; (with_reducible show wpAny _ _ (eval (Expr.ListComp _ [⟨Expr.Name _ _, Expr.Name _ _, [], 0⟩] _ _) _) _ _ _); k_dflt (refine LCg.ListComp_U (F₀ := by k_asm) (by with_unfolding_all rfl) (by decide) (by rfl) (by decide) (by rfl) ?_))) | ((k_here; k_dflt (refine ListComp_step (_F₀ := by k_asm) (by with_unfolding_all rfl) (by decide) (by rfl) (by decide) (by rfl) ?_))) | (rename Mk "eval ListComp" => hMkEvalListComp; clear hMkEvalListComp; (first | walk1 | (dsimp only; walk1)) <;> have hMkEvalListComp : Mk "eval ListComp" := .mk _)) | ((with_reducible refine StopK.of (s := "CompSrc") ?_); first | (with_reducible ((refine Stop.of ?_))) | ((refine Stop.of ?_)) | (rename Mk "CompSrc" => hMkCompSrc; clear hMkCompSrc; (first | walk1 | (dsimp only; walk1)) <;> have hMkCompSrc : Mk "CompSrc" := .mk _)) | ((with_reducible refine StopK.of (s := "subscriptTail") ?_); first | (with_reducible ((k_here; (with_reducible show wpAny _ _ (subscriptTail _ _ (Value.ref _) (Value.int _ _)) _ _ _); k_dflt (refine' ksa_sub ?sbNP50 ?sbmP50 ?sbiP50 ?sb0P50 ?sb1P50 ?sb2P50 ?_ ?sbtP50; (case sbNP50 => k_asm); (case sbmP50 => k_mem); (case sbiP50 => first | exact hIW | exact hIl | exact hIO); (case sb0P50 => exact hi1); (case sb1P50 => first | exact hi2W | exact hi2L); (case sb2P50 => exact Int.lt_trans hi2 hS63); (case sbtP50 => with_unfolding_all rfl)); intro _))) | ((k_here; (with_reducible show wpAny _ _ (subscriptTail _ _ (Value.ref _) (Value.int _ _)) _ _ _); k_dflt (refine' ksa_sub ?sbNP50 ?sbmP50 ?sbiP50 ?sb0P50 ?sb1P50 ?sb2P50 ?_ ?sbtP50; (case sbNP50 => k_asm); (case sbmP50 => k_mem); (case sbiP50 => first | exact hIW | exact hIl | exact hIO); (case sb0P50 => exact hi1); (case sb1P50 => first | exact hi2W | exact hi2L); (case sb2P50 => exact Int.lt_trans hi2 hS63); (case sbtP50 => with_unfolding_all rfl)); intro _)) | (rename Mk "subscriptTail" => hMkSubscriptTail; clear hMkSubscriptTail; (first | walk1 | (dsimp only; walk1)) <;> have hMkSubscriptTail : Mk "subscriptTail" := .mk _)) | ((with_reducible refine StopK.of (s := "binaryOp Mult int int") ?_); first | (with_reducible ((k_here; k_dflt (refine mul_int ?_ (mulOk_getD hle hS4))))) | ((k_here; k_dflt (refine mul_int ?_ (mulOk_getD hle hS4)))) | (rename Mk "binaryOp Mult int int" => hMkBinaryOpMultIntInt; clear hMkBinaryOpMultIntInt; (first | walk1 | (dsimp only; walk1)) <;> have hMkBinaryOpMultIntInt : Mk "binaryOp Mult int int" := .mk _))) | fail); k_steps)
              repeat (rename Mk _ => hMk; clear hMk)
              have hMkEvalListComp : Mk "eval ListComp" := .mk _
              have hMkCompSrc : Mk "CompSrc" := .mk _
              have hMkBinaryOpPowIntInt : Mk "binaryOp Pow int int" := .mk _
              have hMkExecForNameCallConsNil : Mk "exec For Name Call cons nil" := .mk _
              have hMkPyIterRef : Mk "pyIter ref" := .mk _
              unfold Stop
              rename Fr _ _ _ _ => F6
              rename News _ _ _ _ => N6
              refine LCg.CompSrc.ledger (by rfl) F6 N6 (by k_mem) (by rw [ints_len hIl, inZ_len, hlz]; exact Nat.le_trans hS4 (by decide)) ?_
              intro g2
              refine rest_ind (fun i ys nw => ∃ (ps7 : List (Int × Tok)), ys = ps7.map tv ∧ ps7.map (·.1) = ((inZ lzN).take i).map (fun x => (2 : Int) ^ ((S : Int) - x).toNat) ∧ nw = _) ?_ ?_ _ 0 [] _ (Nat.zero_add _) ⟨[], rfl, rfl, rfl⟩
              · rintro i9 ys nw v I7 oI C7 oC D1 m2 h3 tk3 E' hi ⟨ps7, rfl, hmap, rfl⟩ hv hC' hx' F3 N3 off3 ne3
                obtain ⟨z, tz, rfl, htk⟩ := ints_get hIl hv
                have hz := inZ_mem hle z (List.mem_of_mem_take (htk ▸ List.mem_append_right _ (List.Mem.head _)))
                clear hv
                k_steps
                repeat' ((first | (first | ((with_reducible refine StopK.of (s := "eval ListComp") ?_); first | (with_reducible ((k_here; (with_reducible show wpAny _ _ (eval (Expr.ListComp _ [⟨Expr.Name _ _, Expr.Name _ _, [], 0⟩] _ _) _) _ _ _); k_dflt (refine LCg.ListComp_U (F₀ := by k_asm) (by with_unfolding_all rfl) (by decide) (by rfl) (by decide) (by rfl) ?_)))) | (with_reducible ((k_here; k_dflt (refine ListComp_step (_F₀ := by k_asm) (by with_unfolding_all rfl) (by decide) (by rfl) (by decide) (by rfl) ?_)))) | ((k_here; (with_reducible show wpAny _ _ (eval (Expr.ListComp _ [⟨Expr.Name _ _, Expr.Name _ _, [], 0⟩] _ _) _) _ _ _); k_dflt (refine LCg.ListComp_U (F₀ := by k_asm) (by with_unfolding_all rfl) (by decide) (by rfl) (by decide) (by rfl) ?_))) | ((k_here; k_dflt (refine ListComp_step (_F₀ := by k_asm) (by with_unfolding_all rfl) (by decide) (by rfl) (by decide) (by rfl) ?_))) | (rename Mk "eval ListComp" => hMkEvalListComp; clear hMkEvalListComp; (first | walk1 | (dsimp only; walk1)) <;> have hMkEvalListComp : Mk "eval ListComp" := .mk _)) | ((with_reducible refine StopK.of (s := "CompSrc") ?_); first | (with_reducible ((refine Stop.of ?_))) | ((refine Stop.of ?_)) | (rename Mk "CompSrc" => hMkCompSrc; clear hMkCompSrc; (first | walk1 | (dsimp only; walk1)) <;> have hMkCompSrc : Mk "CompSrc" := .mk _)) | ((with_reducible refine StopK.of (s := "binaryOp Pow int int") ?_); first | (with_reducible ((k_here; with_reducible refine pow_int_small ?pw1P51 ?pw2P51 ?pw3P51 ?_; (case pw1P51 => first | exact hi1 | exact pw_a hz.2 | exact Int.natCast_nonneg _ | omega); (case pw2P51 => first | exact pw_b hi2 hS4 | exact pw_c hz.1 hS4 | exact pw_d hS4 | omega); (case pw3P51 => first | decide | exact pw_e hS2 hS4 | omega)))) | ((k_here; with_reducible refine pow_int_small ?pw1P51 ?pw2P51 ?pw3P51 ?_; (case pw1P51 => first | exact hi1 | exact pw_a hz.2 | exact Int.natCast_nonneg _ | omega); (case pw2P51 => first | exact pw_b hi2 hS4 | exact pw_c hz.1 hS4 | exact pw_d hS4 | omega); (case pw3P51 => first | decide | exact pw_e hS2 hS4 | omega))) | (rename Mk "binaryOp Pow int int" => hMkBinaryOpPowIntInt; clear hMkBinaryOpPowIntInt; (first | walk1 | (dsimp only; walk1)) <;> have hMkBinaryOpPowIntInt : Mk "binaryOp Pow int int" := .mk _)) | ((with_reducible refine StopK.of (s := "exec For Name Call cons nil") ?_); first | (with_reducible ((k_here; (rename Fr _ _ _ _ => lF'); (with_unfolding_all refine' For_turns lF' ?_; k_whole)))) | ((k_here; (rename Fr _ _ _ _ => lF'); (with_unfolding_all refine' For_turns lF' ?_; k_whole))) | (rename Mk "exec For Name Call cons nil" => hMkExecForNameCallConsNil; clear hMkExecForNameCallConsNil; (first | walk1 | (dsimp only; walk1)) <;> have hMkExecForNameCallConsNil : Mk "exec For Name Call cons nil" := .mk _)) | ((with_reducible refine StopK.of (s := "pyIter ref") ?_); first | (with_reducible (refine Stop.of ?_)))) | fail); k_steps)
                refine ⟨_, _, _, rfl, F3, N3, off3, .inr ⟨_, List.Mem.tail _ (List.Mem.head _), rfl, _, rfl⟩, ps7 ++ [((2 : Int) ^ ((S : Int) - z).toNat, ?_)], ?_, ?_, rfl⟩
                rotate_left
                · rw [List.map_append]; rfl
                · rw [List.map_append, hmap, htk, List.map_append]; rfl
              · rintro ys nw ⟨ps7, rfl, hmap, rfl⟩
                intro D8 h7 tk7 F7 N7 off7
                dsimp only [LCg.Off1] at off7
                obtain ⟨-, -, -, -, -, -, y7, -⟩ := off7
                rw [ints_len hIl, List.take_length] at hmap
                have hIy : IntsAre (ps7.map tv) ((inZ lzN).map fun x => (2 : Int) ^ ((S : Int) - x).toNat) := hmap ▸ ints_tv ps7
                have hks : ((inZ lzN).map fun x => (2 : Int) ^ ((S : Int) - x).toNat).sum = (2 : Int) ^ (S : Int).toNat := by
                  rw [kraft_sum, hkr, Int.toNat_natCast, Int.natCast_pow]; rfl
                clear hmap F6 N6
                k_steps
                repeat' ((first | (first | ((with_reducible refine StopK.of (s := "eval ListComp") ?_); first | (with_reducible ((k_here; (with_reducible show wpAny _ _ (eval (Expr.ListComp _ [⟨Expr.Name _ _, Expr.Name _ _, [], 0⟩] _ _) _) _ _ _); k_dflt (refine LCg.ListComp_U (F₀ := by k_asm) (by with_unfolding_all rfl) (by decide) (by rfl) (by decide) (by rfl) ?_)))) | (with_reducible ((k_here; k_dflt (refine ListComp_step (_F₀ := by k_asm) (by with_unfolding_all rfl) (by decide) (by rfl) (by decide) (by rfl) ?_)))) | ((k_here; (with_reducible show wpAny _ _ (eval (Expr.ListComp _ [⟨Expr.Name _ _, Expr.Name _ _, [], 0⟩] _ _) _) _ _ _); k_dflt (refine LCg.ListComp_U (F₀ := by k_asm) (by with_unfolding_all rfl) (by decide) (by rfl) (by decide) (by rfl) ?_))) | ((k_here; k_dflt (refine ListComp_step (_F₀ := by k_asm) (by with_unfolding_all rfl) (by decide) (by rfl) (by decide) (by rfl) ?_))) | (rename Mk "eval ListComp" => hMkEvalListComp; clear hMkEvalListComp; (first | walk1 | (dsimp only; walk1)) <;> have hMkEvalListComp : Mk "eval ListComp" := .mk _)) | ((with_reducible refine StopK.of (s := "CompSrc") ?_); first | (with_reducible ((refine Stop.of ?_))) | ((refine Stop.of ?_)) | (rename Mk "CompSrc" => hMkCompSrc; clear hMkCompSrc; (first | walk1 | (dsimp only; walk1)) <;> have hMkCompSrc : Mk "CompSrc" := .mk _)) | ((with_reducible refine StopK.of (s := "binaryOp Pow int int") ?_); first | (with_reducible ((k_here; with_reducible refine pow_int_small ?pw1P51 ?pw2P51 ?pw3P51 ?_; (case pw1P51 => first | exact hi1 | exact pw_a hz.2 | exact Int.natCast_nonneg _ | omega); (case pw2P51 => first | exact pw_b hi2 hS4 | exact pw_c hz.1 hS4 | exact pw_d hS4 | omega); (case pw3P51 => first | decide | exact pw_e hS2 hS4 | omega)))) | ((k_here; with_reducible refine pow_int_small ?pw1P51 ?pw2P51 ?pw3P51 ?_; (case pw1P51 => first | exact hi1 | exact pw_a hz.2 | exact Int.natCast_nonneg _ | omega); (case pw2P51 => first | exact pw_b hi2 hS4 | exact pw_c hz.1 hS4 | exact pw_d hS4 | omega); (case pw3P51 => first | decide | exact pw_e hS2 hS4 | omega))) | (rename Mk "binaryOp Pow int int" => hMkBinaryOpPowIntInt; clear hMkBinaryOpPowIntInt; (first | walk1 | (dsimp only; walk1)) <;> have hMkBinaryOpPowIntInt : Mk "binaryOp Pow int int" := .mk _)) | ((with_reducible refine StopK.of (s := "exec For Name Call cons nil") ?_); first | (with_reducible ((k_here; (rename Fr _ _ _ _ => lF'); (with_unfolding_all refine' For_turns lF' ?_; k_whole)))) | ((k_here; (rename Fr _ _ _ _ => lF'); (with_unfolding_all refine' For_turns lF' ?_; k_whole))) | (rename Mk "exec For Name Call cons nil" => hMkExecForNameCallConsNil; clear hMkExecForNameCallConsNil; (first | walk1 | (dsimp only; walk1)) <;> have hMkExecForNameCallConsNil : Mk "exec For Name Call cons nil" := .mk _)) | ((with_reducible refine StopK.of (s := "pyIter ref") ?_); first | (with_reducible (refine Stop.of ?_)))) | fail); k_steps)
                unfold Stop
                repeat (rename Mk _ => hMk; clear hMk)
                have hMkEvalListComp : Mk "eval ListComp" := .mk _
                have hMkCompSrc : Mk "CompSrc" := .mk _
                have hMkBinaryOpPowIntInt : Mk "binaryOp Pow int int" := .mk _
                have hMkBinaryOpFloorDivIntInt : Mk "binaryOp FloorDiv int int" := .mk _
                rename Fr _ _ _ _ => F6
                rename News _ _ _ _ => N6
                rename IsRange _ _ _ _ _ _ _ _ => HR
                rename _ = Data.cell (some (Value.int ((S : Int) - 1) _)) => dK
                obtain ⟨p7, e7, N7⟩ := nums_cut N6
                subst e7
                clear N6
                rw [kinds_pow (show 1 ≤ S by omega)] at HR
                obtain ⟨hR1, hR2⟩ := kinds_range hS2 hS4
                obtain ⟨q1, q2⟩ := range_step (n := (S - 1) ^ S) (w := 1) (c := 1) hR1 (by omega) (by omega) (by omega) rfl
                rw [Nat.mul_one] at q1 q2
                have hIW : IntsAre (List.map tv qs) (inZ wsN) := hqw ▸ ints_tv qs
                refine iter_rangeC (n := (S - 1) ^ S) (by rfl) HR q1 q2 F6 N7 fun I hI => ?_
                clear q1 q2 HR
                have hI0 := hI
                k_lt hI
                refine ⟨fun i m nx => ∃ (p8 p9 : Obj) (v8 v9 : Option Value), p8.data = .cell v8 ∧ p9.data = .cell v9 ∧ m = _ ∧ nx = [(Dw, LCg.lst (List.map tv qs)), (s1.heap.objs.size + 1 + 1, oM), (s1.heap.objs.size + 1 + 1 + 1, oW), (s1.heap.objs.size + 1 + 1 + 1 + 1 + 1 + 1 + 1, p7), (s1.heap.objs.size + 1 + 1 + 1 + 1 + 1 + 1 + 1 + 1, p8), (s1.heap.objs.size + 1 + 1 + 1 + 1 + 1 + 1 + 1 + 1 + 1, p9)], ⟨o8, o9, _, _, by assumption, by assumption, rfl, rfl⟩, ?_, ?_⟩
                · rintro num m nx tn h5 tk5 hnum ⟨p8, p9, v8, v9, dp8, dp9, rfl, rfl⟩ F8 N8
                  have hnum2 : (num : Int) < 81 := by omega
                  k_steps
                  repeat' ((first | (first | ((with_reducible refine StopK.of (s := "eval ListComp") ?_); first | (with_reducible ((k_here; (with_reducible show wpAny _ _ (eval (Expr.ListComp _ [⟨Expr.Name _ _, Expr.Name _ _, [], 0⟩] _ _) _) _ _ _); k_dflt (refine LCg.ListComp_U (F₀ := by k_asm) (by with_unfolding_all rfl) (by decide) (by rfl) (by decide) (by rfl) ?_)))) | (with_reducible ((k_here; k_dflt (refine ListComp_step (_F₀ := by k_asm) (by with_unfolding_all rfl) (by decide) (by rfl) (by decide) (by rfl) ?_)))) | ((k_here; (with_reducible show wpAny _ _ (eval (Expr.ListComp _ [⟨Expr.Name _ _, Expr.Name _ _, [], 0⟩] _ _) _) _ _ _); k_dflt (refine LCg.ListComp_U (F₀ := by k_asm) (by with_unfolding_all rfl) (by decide) (by rfl) (by decide) (by rfl) ?_))) | ((k_here; k_dflt (refine ListComp_step (_F₀ := by k_asm) (by with_unfolding_all rfl) (by decide) (by rfl) (by decide) (by rfl) ?_))) | (rename Mk "eval ListComp" => hMkEvalListComp; clear hMkEvalListComp; (first | walk1 | (dsimp only; walk1)) <;> have hMkEvalListComp : Mk "eval ListComp" := .mk _)) | ((with_reducible refine StopK.of (s := "CompSrc") ?_); first | (with_reducible ((refine Stop.of ?_))) | ((refine Stop.of ?_)) | (rename Mk "CompSrc" => hMkCompSrc; clear hMkCompSrc; (first | walk1 | (dsimp only; walk1)) <;> have hMkCompSrc : Mk "CompSrc" := .mk _)) | ((with_reducible refine StopK.of (s := "binaryOp Pow int int") ?_); first | (with_reducible ((k_here; with_reducible refine pow_int_small ?pw1P52 ?pw2P52 ?pw3P52 ?_; (case pw1P52 => first | exact hi1 | exact pw_a hz.2 | exact Int.natCast_nonneg _ | omega); (case pw2P52 => first | exact pw_b hi2 hS4 | exact pw_c hz.1 hS4 | exact pw_d hS4 | omega); (case pw3P52 => first | decide | exact pw_e hS2 hS4 | omega)))) | ((k_here; with_reducible refine pow_int_small ?pw1P52 ?pw2P52 ?pw3P52 ?_; (case pw1P52 => first | exact hi1 | exact pw_a hz.2 | exact Int.natCast_nonneg _ | omega); (case pw2P52 => first | exact pw_b hi2 hS4 | exact pw_c hz.1 hS4 | exact pw_d hS4 | omega); (case pw3P52 => first | decide | exact pw_e hS2 hS4 | omega))) | (rename Mk "binaryOp Pow int int" => hMkBinaryOpPowIntInt; clear hMkBinaryOpPowIntInt; (first | walk1 | (dsimp only; walk1)) <;> have hMkBinaryOpPowIntInt : Mk "binaryOp Pow int int" := .mk _)) | ((with_reducible refine StopK.of (s := "binaryOp FloorDiv int int") ?_); first | (with_reducible ((k_here; k_dflt (refine floordiv_int (kpow_ne hS2 _) ?_)))) | ((k_here; k_dflt (refine floordiv_int (kpow_ne hS2 _) ?_))) | (rename Mk "binaryOp FloorDiv int int" => hMkBinaryOpFloorDivIntInt; clear hMkBinaryOpFloorDivIntInt; (first | walk1 | (dsimp only; walk1)) <;> have hMkBinaryOpFloorDivIntInt : Mk "binaryOp FloorDiv int int" := .mk _))) | fail); k_steps)
                  repeat (rename Mk _ => hMk; clear hMk)
                  have hMkEvalListComp : Mk "eval ListComp" := .mk _
                  have hMkCompSrc : Mk "CompSrc" := .mk _
                  have hMkBinaryOpPowIntInt : Mk "binaryOp Pow int int" := .mk _
                  have hMkBinaryOpFloorDivIntInt : Mk "binaryOp FloorDiv int int" := .mk _
                  rename Fr _ _ _ _ => FB
                  rename News _ _ _ _ => NB
                  rename IsRange _ _ _ _ _ _ _ _ => HR
                  obtain ⟨q1, q2⟩ := range_step (n := S) (w := 1) (c := 1) (by omega) (by omega) (by omega) (by omega) rfl
                  rw [Nat.mul_one] at q1 q2
                  refine ⟨_, _, _, _, _, _, _, S, _, rfl, rfl, FB, NB, HR, q1, q2, Nat.le_trans hS4 (by decide), ?_⟩
                  rintro s₂ ⟨hh, rfl⟩
                  clear q1 q2 HR
                  refine rest_ind (fun i ys nw => ∃ (ps7 : List (Int × Tok)), ys = ps7.map tv ∧ ps7.map (·.1) = othZ S num i ∧ nw = _) ?_ ?_ S 0 [] _ (Nat.zero_add _) ⟨[], rfl, rfl, rfl⟩
                  · rintro i ys nw v I7 oI C7 oC D1 m2 h3 tk3 E' hi ⟨ps7, rfl, hmap, rfl⟩ ⟨t7, rfl⟩ hC' hx' F3 N3 off3 ne3
                    have hi1 : (0 : Int) ≤ 0 + (i : Int) * 1 := hi_nn i
                    have hi2 : 0 + (i : Int) * 1 < (S : Int) := hi_lt hi
                    k_steps
                    repeat' ((first | (first | ((with_reducible refine StopK.of (s := "eval ListComp") ?_); first | (with_reducible ((k_here; (with_reducible show wpAny _ _ (eval (Expr.ListComp _ [⟨Expr.Name _ _, Expr.Name _ _, [], 0⟩] _ _) _) _ _ _); k_dflt (refine LCg.ListComp_U (F₀ := by k_asm) (by with_unfolding_all rfl) (by decide) (by rfl) (by decide) (by rfl) ?_)))) | (with_reducible ((k_here; k_dflt (refine ListComp_step (_F₀ := by k_asm) (by with_unfolding_all rfl) (by decide) (by rfl) (by decide) (by rfl) ?_)))) | ((k_here; (with_reducible show wpAny _ _ (eval (Expr.ListComp _ [⟨Expr.Name _ _, Expr.Name _ _, [], 0⟩] _ _) _) _ _ _); k_dflt (refine LCg.ListComp_U (F₀ := by k_asm) (by with_unfolding_all rfl) (by decide) (by rfl) (by decide) (by rfl) ?_))) | ((k_here; k_dflt (refine ListComp_step (_F₀ := by k_asm) (by with_unfolding_all rfl) (by decide) (by rfl) (by decide) (by rfl) ?_))) | (rename Mk "eval ListComp" => hMkEvalListComp; clear hMkEvalListComp; (first | walk1 | (dsimp only; walk1)) <;> have hMkEvalListComp : Mk "eval ListComp" := .mk _)) | ((with_reducible refine StopK.of (s := "CompSrc") ?_); first | (with_reducible ((refine Stop.of ?_))) | ((refine Stop.of ?_)) | (rename Mk "CompSrc" => hMkCompSrc; clear hMkCompSrc; (first | walk1 | (dsimp only; walk1)) <;> have hMkCompSrc : Mk "CompSrc" := .mk _)) | ((with_reducible refine StopK.of (s := "binaryOp Pow int int") ?_); first | (with_reducible ((k_here; with_reducible refine pow_int_small ?pw1P53 ?pw2P53 ?pw3P53 ?_; (case pw1P53 => first | exact hi1 | exact pw_a hz.2 | exact Int.natCast_nonneg _ | omega); (case pw2P53 => first | exact pw_b hi2 hS4 | exact pw_c hz.1 hS4 | exact pw_d hS4 | omega); (case pw3P53 => first | decide | exact pw_e hS2 hS4 | omega)))) | ((k_here; with_reducible refine pow_int_small ?pw1P53 ?pw2P53 ?pw3P53 ?_; (case pw1P53 => first | exact hi1 | exact pw_a hz.2 | exact Int.natCast_nonneg _ | omega); (case pw2P53 => first | exact pw_b hi2 hS4 | exact pw_c hz.1 hS4 | exact pw_d hS4 | omega); (case pw3P53 => first | decide | exact pw_e hS2 hS4 | omega))) | (rename Mk "binaryOp Pow int int" => hMkBinaryOpPowIntInt; clear hMkBinaryOpPowIntInt; (first | walk1 | (dsimp only; walk1)) <;> have hMkBinaryOpPowIntInt : Mk "binaryOp Pow int int" := .mk _)) | ((with_reducible refine StopK.of (s := "binaryOp FloorDiv int int") ?_); first | (with_reducible ((k_here; k_dflt (refine floordiv_int (kpow_ne hS2 _) ?_)))) | ((k_here; k_dflt (refine floordiv_int (kpow_ne hS2 _) ?_))) | (rename Mk "binaryOp FloorDiv int int" => hMkBinaryOpFloorDivIntInt; clear hMkBinaryOpFloorDivIntInt; (first | walk1 | (dsimp only; walk1)) <;> have hMkBinaryOpFloorDivIntInt : Mk "binaryOp FloorDiv int int" := .mk _))) | fail); k_steps)
                    refine ⟨_, _, _, rfl, F3, N3, off3, trivial, ps7 ++ [(1 + ((0 + (num : Int)).fdiv (((S : Int) - 1) ^ (0 + (i : Int) * 1).toNat)).fmod ((S : Int) - 1), ?_)], ?_, ?_, rfl⟩
                    rotate_left
                    · rw [List.map_append]; rfl
                    · rw [List.map_append, hmap, oth_succ]; rfl
                  · rintro ys nw ⟨ps7, rfl, hmap, rfl⟩
                    intro D7 h7 tk7 F7 N7 off7
                    dsimp only [LCg.Off1] at off7
                    obtain ⟨-, -, -, -, -, -, z9, -⟩ := off7
                    rw [oth_eq hS2] at hmap
                    have hI7 : IntsAre (ps7.map tv) (inZ (othN S num)) := hmap ▸ ints_tv ps7
                    clear hmap FB NB
                    k_steps
                    repeat' ((first | (first | ((with_reducible refine StopK.of (s := "eval ListComp") ?_); first | (with_reducible ((k_here; (with_reducible show wpAny _ _ (eval (Expr.ListComp _ [⟨Expr.Name _ _, Expr.Name _ _, [], 0⟩] _ _) _) _ _ _); k_dflt (refine LCg.ListComp_U (F₀ := by k_asm) (by with_unfolding_all rfl) (by decide) (by rfl) (by decide) (by rfl) ?_)))) | (with_reducible ((k_here; k_dflt (refine ListComp_step (_F₀ := by k_asm) (by with_unfolding_all rfl) (by decide) (by rfl) (by decide) (by rfl) ?_)))) | ((k_here; (with_reducible show wpAny _ _ (eval (Expr.ListComp _ [⟨Expr.Name _ _, Expr.Name _ _, [], 0⟩] _ _) _) _ _ _); k_dflt (refine LCg.ListComp_U (F₀ := by k_asm) (by with_unfolding_all rfl) (by decide) (by rfl) (by decide) (by rfl) ?_))) | ((k_here; k_dflt (refine ListComp_step (_F₀ := by k_asm) (by with_unfolding_all rfl) (by decide) (by rfl) (by decide) (by rfl) ?_))) | (rename Mk "eval ListComp" => hMkEvalListComp; clear hMkEvalListComp; (first | walk1 | (dsimp only; walk1)) <;> have hMkEvalListComp : Mk "eval ListComp" := .mk _)) | ((with_reducible refine StopK.of (s := "CompSrc") ?_); first | (with_reducible ((refine Stop.of ?_))) | ((refine Stop.of ?_)) | (rename Mk "CompSrc" => hMkCompSrc; clear hMkCompSrc; (first | walk1 | (dsimp only; walk1)) <;> have hMkCompSrc : Mk "CompSrc" := .mk _)) | ((with_reducible refine StopK.of (s := "binaryOp Pow int int") ?_); first | (with_reducible ((k_here; with_reducible refine pow_int_small ?pw1P53 ?pw2P53 ?pw3P53 ?_; (case pw1P53 => first | exact hi1 | exact pw_a hz.2 | exact Int.natCast_nonneg _ | omega); (case pw2P53 => first | exact pw_b hi2 hS4 | exact pw_c hz.1 hS4 | exact pw_d hS4 | omega); (case pw3P53 => first | decide | exact pw_e hS2 hS4 | omega)))) | ((k_here; with_reducible refine pow_int_small ?pw1P53 ?pw2P53 ?pw3P53 ?_; (case pw1P53 => first | exact hi1 | exact pw_a hz.2 | exact Int.natCast_nonneg _ | omega); (case pw2P53 => first | exact pw_b hi2 hS4 | exact pw_c hz.1 hS4 | exact pw_d hS4 | omega); (case pw3P53 => first | decide | exact pw_e hS2 hS4 | omega))) | (rename Mk "binaryOp Pow int int" => hMkBinaryOpPowIntInt; clear hMkBinaryOpPowIntInt; (first | walk1 | (dsimp only; walk1)) <;> have hMkBinaryOpPowIntInt : Mk "binaryOp Pow int int" := .mk _)) | ((with_reducible refine StopK.of (s := "binaryOp FloorDiv int int") ?_); first | (with_reducible ((k_here; k_dflt (refine floordiv_int (kpow_ne hS2 _) ?_)))) | ((k_here; k_dflt (refine floordiv_int (kpow_ne hS2 _) ?_))) | (rename Mk "binaryOp FloorDiv int int" => hMkBinaryOpFloorDivIntInt; clear hMkBinaryOpFloorDivIntInt; (first | walk1 | (dsimp only; walk1)) <;> have hMkBinaryOpFloorDivIntInt : Mk "binaryOp FloorDiv int int" := .mk _))) | fail); k_steps)
                    repeat (rename Mk _ => hMk; clear hMk)
                    have hMkEvalListComp : Mk "eval ListComp" := .mk _
                    have hMkSubscriptTail : Mk "subscriptTail" := .mk _
                    have hMkBinaryOpPowIntInt : Mk "binaryOp Pow int int" := .mk _
                    have hMkBinaryOpMultIntInt : Mk "binaryOp Mult int int" := .mk _
                    have hMkUnrPost : Mk "UnrPost" := .mk _
                    unfold Stop
                    rename Fr _ _ _ _ => F6
                    rename News _ _ _ _ => N6
                    have hIO : IntsAre (List.map tv ps7) (inZ (othN S num)) := by assumption
                    have hleO := oth_le hS2 num
                    have hlW : ((inZ wsN).length : Int) = (S : Int) := by rw [inZ_len, hlN]
                    have hlO : ((inZ (othN S num)).length : Int) = (S : Int) := by rw [inZ_len, oth_len]
                    refine LCg.CompSrc.ledger (by rfl) F6 N6 (by k_mem) (by rw [ints_len hIO, inZ_len, oth_len]; exact Nat.le_trans hS4 (by decide)) ?_
                    intro g2
                    refine rest_ind (fun i ys nw => ∃ (ps8 : List (Int × Tok)), ys = ps8.map tv ∧ ps8.map (·.1) = ((inZ (othN S num)).take i).map (fun x => (2 : Int) ^ ((S : Int) - x).toNat) ∧ nw = _) ?_ ?_ _ 0 [] _ (Nat.zero_add _) ⟨[], rfl, rfl, rfl⟩
                    · rintro i9 ys nw v I7 oI C7 oC D1 m2 h3 tk3 E' hi ⟨ps8, rfl, hmap, rfl⟩ hv hC' hx' F3 N3 off3 ne3
                      obtain ⟨z, tz, rfl, htk⟩ := ints_get hIO hv
                      have hz := inZ_mem hleO z (List.mem_of_mem_take (htk ▸ List.mem_append_right _ (List.Mem.head _)))
                      clear hv
                      k_steps
                      repeat' ((first | (first | ((with_reducible refine StopK.of (s := "eval ListComp") ?_); first | (with_reducible ((k_here; k_dflt (refine ListComp_step (_F₀ := by k_asm) (by with_unfolding_all rfl) (by decide) (by rfl) (by decide) (by rfl) ?_)))) | ((k_here; k_dflt (refine ListComp_step (_F₀ := by k_asm) (by with_unfolding_all rfl) (by decide) (by rfl) (by decide) (by rfl) ?_))) | (rename Mk "eval ListComp" => hMkEvalListComp; clear hMkEvalListComp; (first | walk1 | (dsimp only; walk1)) <;> have hMkEvalListComp : Mk "eval ListComp" := .mk _)) | ((with_reducible refine StopK.of (s := "subscriptTail") ?_); first | (with_reducible ((k_here; (with_reducible show wpAny _ _ (subscriptTail _ _ (Value.ref _) (Value.int _ _)) _ _ _); k_dflt (refine' ksa_sub ?sbNP54 ?sbmP54 ?sbiP54 ?sb0P54 ?sb1P54 ?sb2P54 ?_ ?sbtP54; (case sbNP54 => k_asm); (case sbmP54 => k_mem); (case sbiP54 => first | exact hIW | exact hIl | exact hIO); (case sb0P54 => exact hi1); (case sb1P54 => first | exact hi2W | exact hi2L); (case sb2P54 => exact Int.lt_trans hi2 hS63); (case sbtP54 => with_unfolding_all rfl)); intro _))) | ((k_here; (with_reducible show wpAny _ _ (subscriptTail _ _ (Value.ref _) (Value.int _ _)) _ _ _); k_dflt (refine' ksa_sub ?sbNP54 ?sbmP54 ?sbiP54 ?sb0P54 ?sb1P54 ?sb2P54 ?_ ?sbtP54; (case sbNP54 => k_asm); (case sbmP54 => k_mem); (case sbiP54 => first | exact hIW | exact hIl | exact hIO); (case sb0P54 => exact hi1); (case sb1P54 => first | exact hi2W | exact hi2L); (case sb2P54 => exact Int.lt_trans hi2 hS63); (case sbtP54 => with_unfolding_all rfl)); intro _)) | (rename Mk "subscriptTail" => hMkSubscriptTail; clear hMkSubscriptTail; (first | walk1 | (dsimp only; walk1)) <;> have hMkSubscriptTail : Mk "subscriptTail" := .mk _)) | ((with_reducible refine StopK.of (s := "binaryOp Pow int int") ?_); first | (with_reducible ((k_here; with_reducible refine pow_int_small ?pw1P54 ?pw2P54 ?pw3P54 ?_; (case pw1P54 => first | exact hi1 | exact pw_a hz.2 | exact Int.natCast_nonneg _ | omega); (case pw2P54 => first | exact pw_b hi2 hS4 | exact pw_c hz.1 hS4 | exact pw_d hS4 | omega); (case pw3P54 => first | decide | exact pw_e hS2 hS4 | omega)))) | ((k_here; with_reducible refine pow_int_small ?pw1P54 ?pw2P54 ?pw3P54 ?_; (case pw1P54 => first | exact hi1 | exact pw_a hz.2 | exact Int.natCast_nonneg _ | omega); (case pw2P54 => first | exact pw_b hi2 hS4 | exact pw_c hz.1 hS4 | exact pw_d hS4 | omega); (case pw3P54 => first | decide | exact pw_e hS2 hS4 | omega))) | (rename Mk "binaryOp Pow int int" => hMkBinaryOpPowIntInt; clear hMkBinaryOpPowIntInt; (first | walk1 | (dsimp only; walk1)) <;> have hMkBinaryOpPowIntInt : Mk "binaryOp Pow int int" := .mk _)) | ((with_reducible refine StopK.of (s := "binaryOp Mult int int") ?_); first | (with_reducible ((k_here; k_dflt (refine mul_int ?_ (mulOk_getD hleO hS4))))) | ((k_here; k_dflt (refine mul_int ?_ (mulOk_getD hleO hS4)))) | (rename Mk "binaryOp Mult int int" => hMkBinaryOpMultIntInt; clear hMkBinaryOpMultIntInt; (first | walk1 | (dsimp only; walk1)) <;> have hMkBinaryOpMultIntInt : Mk "binaryOp Mult int int" := .mk _)) | ((with_reducible refine StopK.of (s := "UnrPost") ?_); first | (with_reducible (refine Stop.of ?_)))) | fail); k_steps)
                      refine ⟨_, _, _, rfl, F3, N3, off3, .inr ⟨_, List.Mem.head _, rfl, _, rfl⟩, ps8 ++ [((2 : Int) ^ ((S : Int) - z).toNat, ?_)], ?_, ?_, rfl⟩
                      rotate_left
                      · rw [List.map_append]; rfl
                      · rw [List.map_append, hmap, htk, List.map_append]; rfl
                    · rintro ys nw ⟨ps8, rfl, hmap, rfl⟩
                      intro D8 h7 tk7 F7 N7 off7
                      clear off7
                      rw [ints_len hIO, List.take_length] at hmap
                      have hIy : IntsAre (ps8.map tv) ((inZ (othN S num)).map fun x => (2 : Int) ^ ((S : Int) - x).toNat) := hmap ▸ ints_tv ps8
                      clear hmap F6 N6
                      k_steps
                      repeat' ((first | (first | ((with_reducible refine StopK.of (s := "eval ListComp") ?_); first | (with_reducible ((k_here; k_dflt (refine ListComp_step (_F₀ := by k_asm) (by with_unfolding_all rfl) (by decide) (by rfl) (by decide) (by rfl) ?_)))) | ((k_here; k_dflt (refine ListComp_step (_F₀ := by k_asm) (by with_unfolding_all rfl) (by decide) (by rfl) (by decide) (by rfl) ?_))) | (rename Mk "eval ListComp" => hMkEvalListComp; clear hMkEvalListComp; (first | walk1 | (dsimp only; walk1)) <;> have hMkEvalListComp : Mk "eval ListComp" := .mk _)) | ((with_reducible refine StopK.of (s := "subscriptTail") ?_); first | (with_reducible ((k_here; (with_reducible show wpAny _ _ (subscriptTail _ _ (Value.ref _) (Value.int _ _)) _ _ _); k_dflt (refine' ksa_sub ?sbNP54 ?sbmP54 ?sbiP54 ?sb0P54 ?sb1P54 ?sb2P54 ?_ ?sbtP54; (case sbNP54 => k_asm); (case sbmP54 => k_mem); (case sbiP54 => first | exact hIW | exact hIl | exact hIO); (case sb0P54 => exact hi1); (case sb1P54 => first | exact hi2W | exact hi2L); (case sb2P54 => exact Int.lt_trans hi2 hS63); (case sbtP54 => with_unfolding_all rfl)); intro _))) | ((k_here; (with_reducible show wpAny _ _ (subscriptTail _ _ (Value.ref _) (Value.int _ _)) _ _ _); k_dflt (refine' ksa_sub ?sbNP54 ?sbmP54 ?sbiP54 ?sb0P54 ?sb1P54 ?sb2P54 ?_ ?sbtP54; (case sbNP54 => k_asm); (case sbmP54 => k_mem); (case sbiP54 => first | exact hIW | exact hIl | exact hIO); (case sb0P54 => exact hi1); (case sb1P54 => first | exact hi2W | exact hi2L); (case sb2P54 => exact Int.lt_trans hi2 hS63); (case sbtP54 => with_unfolding_all rfl)); intro _)) | (rename Mk "subscriptTail" => hMkSubscriptTail; clear hMkSubscriptTail; (first | walk1 | (dsimp only; walk1)) <;> have hMkSubscriptTail : Mk "subscriptTail" := .mk _)) | ((with_reducible refine StopK.of (s := "binaryOp Pow int int") ?_); first | (with_reducible ((k_here; with_reducible refine pow_int_small ?pw1P54 ?pw2P54 ?pw3P54 ?_; (case pw1P54 => first | exact hi1 | exact pw_a hz.2 | exact Int.natCast_nonneg _ | omega); (case pw2P54 => first | exact pw_b hi2 hS4 | exact pw_c hz.1 hS4 | exact pw_d hS4 | omega); (case pw3P54 => first | decide | exact pw_e hS2 hS4 | omega)))) | ((k_here; with_reducible refine pow_int_small ?pw1P54 ?pw2P54 ?pw3P54 ?_; (case pw1P54 => first | exact hi1 | exact pw_a hz.2 | exact Int.natCast_nonneg _ | omega); (case pw2P54 => first | exact pw_b hi2 hS4 | exact pw_c hz.1 hS4 | exact pw_d hS4 | omega); (case pw3P54 => first | decide | exact pw_e hS2 hS4 | omega))) | (rename Mk "binaryOp Pow int int" => hMkBinaryOpPowIntInt; clear hMkBinaryOpPowIntInt; (first | walk1 | (dsimp only; walk1)) <;> have hMkBinaryOpPowIntInt : Mk "binaryOp Pow int int" := .mk _)) | ((with_reducible refine StopK.of (s := "binaryOp Mult int int") ?_); first | (with_reducible ((k_here; k_dflt (refine mul_int ?_ (mulOk_getD hleO hS4))))) | ((k_here; k_dflt (refine mul_int ?_ (mulOk_getD hleO hS4)))) | (rename Mk "binaryOp Mult int int" => hMkBinaryOpMultIntInt; clear hMkBinaryOpMultIntInt; (first | walk1 | (dsimp only; walk1)) <;> have hMkBinaryOpMultIntInt : Mk "binaryOp Mult int int" := .mk _)) | ((with_reducible refine StopK.of (s := "UnrPost") ?_); first | (with_reducible (refine Stop.of ?_)))) | fail); k_steps)
                      · rename Fr _ _ _ _ => FB
                        rename News _ _ _ _ => NB
                        rename IsRange _ _ _ _ _ _ _ _ => HR
                        have hopt := best_num hS2 hS4 hlN hbest num (by assumption)
                        obtain ⟨q1, q2⟩ := range_step (n := S) (w := 1) (c := 1) (by omega) (by omega) (by omega) (by omega) rfl
                        rw [Nat.mul_one] at q1 q2
                        refine ⟨_, _, _, _, _, _, _, S, _, rfl, rfl, FB, NB, HR, q1, q2, Nat.le_trans hS4 (by decide), ?_⟩
                        rintro s₂ ⟨hh, rfl⟩
                        clear q1 q2 HR
                        refine rest_ind (fun i ys nw => ∃ (ps9 : List (Int × Tok)), ys = ps9.map tv ∧ ps9.map (·.1) = prodsZ wsN (othN S num) i ∧ nw = _) ?_ ?_ S 0 [] _ (Nat.zero_add _) ⟨[], rfl, rfl, rfl⟩
                        · rintro i ys nw v I7 oI C7 oC D1 m2 h3 tk3 E' hi ⟨ps9, rfl, hmap, rfl⟩ ⟨t7, rfl⟩ hC' hx' F3 N3 off3 ne3
                          have hi1 : (0 : Int) ≤ 0 + (i : Int) * 1 := hi_nn i
                          have hi2 : 0 + (i : Int) * 1 < (S : Int) := hi_lt hi
                          have hi2W : 0 + (i : Int) * 1 < ((inZ wsN).length : Int) := hlW ▸ hi2
                          have hi2L : 0 + (i : Int) * 1 < ((inZ (othN S num)).length : Int) := hlO ▸ hi2
                          have hS63 := s63 hS4
                          k_steps
                          repeat' ((first | (first | ((with_reducible refine StopK.of (s := "eval ListComp") ?_); first | (with_reducible ((k_here; k_dflt (refine ListComp_step (_F₀ := by k_asm) (by with_unfolding_all rfl) (by decide) (by rfl) (by decide) (by rfl) ?_)))) | ((k_here; k_dflt (refine ListComp_step (_F₀ := by k_asm) (by with_unfolding_all rfl) (by decide) (by rfl) (by decide) (by rfl) ?_))) | (rename Mk "eval ListComp" => hMkEvalListComp; clear hMkEvalListComp; (first | walk1 | (dsimp only; walk1)) <;> have hMkEvalListComp : Mk "eval ListComp" := .mk _)) | ((with_reducible refine StopK.of (s := "subscriptTail") ?_); first | (with_reducible ((k_here; (with_reducible show wpAny _ _ (subscriptTail _ _ (Value.ref _) (Value.int _ _)) _ _ _); k_dflt (refine' ksa_sub ?sbNP54 ?sbmP54 ?sbiP54 ?sb0P54 ?sb1P54 ?sb2P54 ?_ ?sbtP54; (case sbNP54 => k_asm); (case sbmP54 => k_mem); (case sbiP54 => first | exact hIW | exact hIl | exact hIO); (case sb0P54 => exact hi1); (case sb1P54 => first | exact hi2W | exact hi2L); (case sb2P54 => exact Int.lt_trans hi2 hS63); (case sbtP54 => with_unfolding_all rfl)); intro _))) | ((k_here; (with_reducible show wpAny _ _ (subscriptTail _ _ (Value.ref _) (Value.int _ _)) _ _ _); k_dflt (refine' ksa_sub ?sbNP54 ?sbmP54 ?sbiP54 ?sb0P54 ?sb1P54 ?sb2P54 ?_ ?sbtP54; (case sbNP54 => k_asm); (case sbmP54 => k_mem); (case sbiP54 => first | exact hIW | exact hIl | exact hIO); (case sb0P54 => exact hi1); (case sb1P54 => first | exact hi2W | exact hi2L); (case sb2P54 => exact Int.lt_trans hi2 hS63); (case sbtP54 => with_unfolding_all rfl)); intro _)) | (rename Mk "subscriptTail" => hMkSubscriptTail; clear hMkSubscriptTail; (first | walk1 | (dsimp only; walk1)) <;> have hMkSubscriptTail : Mk "subscriptTail" := .mk _)) | ((with_reducible refine StopK.of (s := "binaryOp Pow int int") ?_); first | (with_reducible ((k_here; with_reducible refine pow_int_small ?pw1P54 ?pw2P54 ?pw3P54 ?_; (case pw1P54 => first | exact hi1 | exact pw_a hz.2 | exact Int.natCast_nonneg _ | omega); (case pw2P54 => first | exact pw_b hi2 hS4 | exact pw_c hz.1 hS4 | exact pw_d hS4 | omega); (case pw3P54 => first | decide | exact pw_e hS2 hS4 | omega)))) | ((k_here; with_reducible refine pow_int_small ?pw1P54 ?pw2P54 ?pw3P54 ?_; (case pw1P54 => first | exact hi1 | exact pw_a hz.2 | exact Int.natCast_nonneg _ | omega); (case pw2P54 => first | exact pw_b hi2 hS4 | exact pw_c hz.1 hS4 | exact pw_d hS4 | omega); (case pw3P54 => first | decide | exact pw_e hS2 hS4 | omega))) | (rename Mk "binaryOp Pow int int" => hMkBinaryOpPowIntInt; clear hMkBinaryOpPowIntInt; (first | walk1 | (dsimp only; walk1)) <;> have hMkBinaryOpPowIntInt : Mk "binaryOp Pow int int" := .mk _)) | ((with_reducible refine StopK.of (s := "binaryOp Mult int int") ?_); first | (with_reducible ((k_here; k_dflt (refine mul_int ?_ (mulOk_getD hleO hS4))))) | ((k_here; k_dflt (refine mul_int ?_ (mulOk_getD hleO hS4)))) | (rename Mk "binaryOp Mult int int" => hMkBinaryOpMultIntInt; clear hMkBinaryOpMultIntInt; (first | walk1 | (dsimp only; walk1)) <;> have hMkBinaryOpMultIntInt : Mk "binaryOp Mult int int" := .mk _)) | ((with_reducible refine StopK.of (s := "UnrPost") ?_); first | (with_reducible (refine Stop.of ?_)))) | fail); k_steps)
                          refine ⟨_, _, _, rfl, F3, N3, off3, trivial, ps9 ++ [((inZ wsN).getD (0 + (i : Int) * 1).toNat 0 * (inZ (othN S num)).getD (0 + (i : Int) * 1).toNat 0, ?_)], ?_, ?_, rfl⟩
                          rotate_left
                          · rw [List.map_append]; rfl
                          · rw [List.map_append, hmap, prods_succ]; rfl
                        · rintro ys nw ⟨ps9, rfl, hmap, rfl⟩
                          intro D9 h7 tk7 F7 N7 off7
                          clear off7
                          have hI9 : IntsAre (ps9.map tv) (prodsZ wsN (othN S num) S) := hmap ▸ ints_tv ps9
                          clear hmap FB NB
                          k_steps
                          repeat' ((first | (first | ((with_reducible refine StopK.of (s := "eval ListComp") ?_); first | (with_reducible ((k_here; k_dflt (refine ListComp_step (_F₀ := by k_asm) (by with_unfolding_all rfl) (by decide) (by rfl) (by decide) (by rfl) ?_)))) | ((k_here; k_dflt (refine ListComp_step (_F₀ := by k_asm) (by with_unfolding_all rfl) (by decide) (by rfl) (by decide) (by rfl) ?_))) | (rename Mk "eval ListComp" => hMkEvalListComp; clear hMkEvalListComp; (first | walk1 | (dsimp only; walk1)) <;> have hMkEvalListComp : Mk "eval ListComp" := .mk _)) | ((with_reducible refine StopK.of (s := "subscriptTail") ?_); first | (with_reducible ((k_here; (with_reducible show wpAny _ _ (subscriptTail _ _ (Value.ref _) (Value.int _ _)) _ _ _); k_dflt (refine' ksa_sub ?sbNP54 ?sbmP54 ?sbiP54 ?sb0P54 ?sb1P54 ?sb2P54 ?_ ?sbtP54; (case sbNP54 => k_asm); (case sbmP54 => k_mem); (case sbiP54 => first | exact hIW | exact hIl | exact hIO); (case sb0P54 => exact hi1); (case sb1P54 => first | exact hi2W | exact hi2L); (case sb2P54 => exact Int.lt_trans hi2 hS63); (case sbtP54 => with_unfolding_all rfl)); intro _))) | ((k_here; (with_reducible show wpAny _ _ (subscriptTail _ _ (Value.ref _) (Value.int _ _)) _ _ _); k_dflt (refine' ksa_sub ?sbNP54 ?sbmP54 ?sbiP54 ?sb0P54 ?sb1P54 ?sb2P54 ?_ ?sbtP54; (case sbNP54 => k_asm); (case sbmP54 => k_mem); (case sbiP54 => first | exact hIW | exact hIl | exact hIO); (case sb0P54 => exact hi1); (case sb1P54 => first | exact hi2W | exact hi2L); (case sb2P54 => exact Int.lt_trans hi2 hS63); (case sbtP54 => with_unfolding_all rfl)); intro _)) | (rename Mk "subscriptTail" => hMkSubscriptTail; clear hMkSubscriptTail; (first | walk1 | (dsimp only; walk1)) <;> have hMkSubscriptTail : Mk "subscriptTail" := .mk _)) | ((with_reducible refine StopK.of (s := "binaryOp Pow int int") ?_); first | (with_reducible ((k_here; with_reducible refine pow_int_small ?pw1P54 ?pw2P54 ?pw3P54 ?_; (case pw1P54 => first | exact hi1 | exact pw_a hz.2 | exact Int.natCast_nonneg _ | omega); (case pw2P54 => first | exact pw_b hi2 hS4 | exact pw_c hz.1 hS4 | exact pw_d hS4 | omega); (case pw3P54 => first | decide | exact pw_e hS2 hS4 | omega)))) | ((k_here; with_reducible refine pow_int_small ?pw1P54 ?pw2P54 ?pw3P54 ?_; (case pw1P54 => first | exact hi1 | exact pw_a hz.2 | exact Int.natCast_nonneg _ | omega); (case pw2P54 => first | exact pw_b hi2 hS4 | exact pw_c hz.1 hS4 | exact pw_d hS4 | omega); (case pw3P54 => first | decide | exact pw_e hS2 hS4 | omega))) | (rename Mk "binaryOp Pow int int" => hMkBinaryOpPowIntInt; clear hMkBinaryOpPowIntInt; (first | walk1 | (dsimp only; walk1)) <;> have hMkBinaryOpPowIntInt : Mk "binaryOp Pow int int" := .mk _)) | ((with_reducible refine StopK.of (s := "binaryOp Mult int int") ?_); first | (with_reducible ((k_here; k_dflt (refine mul_int ?_ (mulOk_getD hleO hS4))))) | ((k_here; k_dflt (refine mul_int ?_ (mulOk_getD hleO hS4)))) | (rename Mk "binaryOp Mult int int" => hMkBinaryOpMultIntInt; clear hMkBinaryOpMultIntInt; (first | walk1 | (dsimp only; walk1)) <;> have hMkBinaryOpMultIntInt : Mk "binaryOp Mult int int" := .mk _)) | ((with_reducible refine StopK.of (s := "UnrPost") ?_); first | (with_reducible (refine Stop.of ?_)))) | fail); k_steps)
                          unfold Stop
                          rename Fr _ _ _ _ => F8
                          rename News _ _ _ _ => N8
                          exact ⟨_, _, _, _, rfl, F8, nums_back3 N8, off_of_lt hI0 rfl, _, _, _, _, by assumption, by assumption, rfl, rfl⟩
                      · unfold Stop
                        rename Fr _ _ _ _ => F8
                        rename News _ _ _ _ => N8
                        exact ⟨_, _, _, _, rfl, F8, nums_back2 N8, off_of_lt hI0 rfl, _, _, _, _, by assumption, by assumption, rfl, rfl⟩
                · rintro m nx h5 tk5 ⟨p8, p9, v8, v9, dp8, dp9, rfl, rfl⟩ F8 N8
                  k_steps
                  repeat' ((first | (first | ((with_reducible refine StopK.of (s := "eval ListComp") ?_); first | (with_reducible ((k_here; (with_reducible show wpAny _ _ (eval (Expr.ListComp _ [⟨Expr.Name _ _, Expr.Name _ _, [], 0⟩] _ _) _) _ _ _); k_dflt (refine LCg.ListComp_U (F₀ := by k_asm) (by with_unfolding_all rfl) (by decide) (by rfl) (by decide) (by rfl) ?_)))) | (with_reducible ((k_here; k_dflt (refine ListComp_step (_F₀ := by k_asm) (by with_unfolding_all rfl) (by decide) (by rfl) (by decide) (by rfl) ?_)))) | ((k_here; (with_reducible show wpAny _ _ (eval (Expr.ListComp _ [⟨Expr.Name _ _, Expr.Name _ _, [], 0⟩] _ _) _) _ _ _); k_dflt (refine LCg.ListComp_U (F₀ := by k_asm) (by with_unfolding_all rfl) (by decide) (by rfl) (by decide) (by rfl) ?_))) | ((k_here; k_dflt (refine ListComp_step (_F₀ := by k_asm) (by with_unfolding_all rfl) (by decide) (by rfl) (by decide) (by rfl) ?_))) | (rename Mk "eval ListComp" => hMkEvalListComp; clear hMkEvalListComp; (first | walk1 | (dsimp only; walk1)) <;> have hMkEvalListComp : Mk "eval ListComp" := .mk _)) | ((with_reducible refine StopK.of (s := "CompSrc") ?_); first | (with_reducible ((refine Stop.of ?_))) | ((refine Stop.of ?_)) | (rename Mk "CompSrc" => hMkCompSrc; clear hMkCompSrc; (first | walk1 | (dsimp only; walk1)) <;> have hMkCompSrc : Mk "CompSrc" := .mk _)) | ((with_reducible refine StopK.of (s := "binaryOp Pow int int") ?_); first | (with_reducible ((k_here; with_reducible refine pow_int_small ?pw1P52 ?pw2P52 ?pw3P52 ?_; (case pw1P52 => first | exact hi1 | exact pw_a hz.2 | exact Int.natCast_nonneg _ | omega); (case pw2P52 => first | exact pw_b hi2 hS4 | exact pw_c hz.1 hS4 | exact pw_d hS4 | omega); (case pw3P52 => first | decide | exact pw_e hS2 hS4 | omega)))) | ((k_here; with_reducible refine pow_int_small ?pw1P52 ?pw2P52 ?pw3P52 ?_; (case pw1P52 => first | exact hi1 | exact pw_a hz.2 | exact Int.natCast_nonneg _ | omega); (case pw2P52 => first | exact pw_b hi2 hS4 | exact pw_c hz.1 hS4 | exact pw_d hS4 | omega); (case pw3P52 => first | decide | exact pw_e hS2 hS4 | omega))) | (rename Mk "binaryOp Pow int int" => hMkBinaryOpPowIntInt; clear hMkBinaryOpPowIntInt; (first | walk1 | (dsimp only; walk1)) <;> have hMkBinaryOpPowIntInt : Mk "binaryOp Pow int int" := .mk _)) | ((with_reducible refine StopK.of (s := "binaryOp FloorDiv int int") ?_); first | (with_reducible ((k_here; k_dflt (refine floordiv_int (kpow_ne hS2 _) ?_)))) | ((k_here; k_dflt (refine floordiv_int (kpow_ne hS2 _) ?_))) | (rename Mk "binaryOp FloorDiv int int" => hMkBinaryOpFloorDivIntInt; clear hMkBinaryOpFloorDivIntInt; (first | walk1 | (dsimp only; walk1)) <;> have hMkBinaryOpFloorDivIntInt : Mk "binaryOp FloorDiv int int" := .mk _))) | fail); k_steps)
  )

end Mine
set_option Elab.async false
set_option maxRecDepth 100000 in
theorem PySem.Challenge.cw_xm0946_01_holds : PySem.Challenge.rw_xm0946_01.Holds := by
  exact Mine.core
