import PyProof.Rows.All
import Wide.All
import OpenK.AllK
import Wide.FinOn
import Lean
import PySem.Challenge.RW_xm0946_02
open PySem PySem.W PySem.Calls PyProof.Rows
set_option Elab.async false
namespace Mine
open LCg

/-! A comprehension of two clauses, [y for x in .. for y in x], over a list of lists: what it gives is the lists' items in one row. -/

theorem flat_turn0 (elt iter it2 : Expr) (x y : Str) (px py : Pos) (scope : Scope) (pos : Pos) (it acc : Value) (env : Env) :
    compTurn (.ListComp elt [⟨.Name x px, iter, [], 0⟩, ⟨.Name y py, it2, [], 0⟩] scope pos) 0 it acc env = (do
      standAt iter.pos
      match ← pyNext it with
      | none => pure (.done .next)
      | some v =>
        assign (.Name x px) env v
        let u ← eval it2 env
        standAt it2.pos
        let u ← foldedSetIterable it2 env u
        let _ ← runOwn (.compStart (.ListComp elt [⟨.Name x px, iter, [], 0⟩, ⟨.Name y py, it2, [], 0⟩] scope pos) 1 (← holding [u] (pyIter u)) acc env) env
        again (.compLoop (.ListComp elt [⟨.Name x px, iter, [], 0⟩, ⟨.Name y py, it2, [], 0⟩] scope pos) 0 it acc env)) := by rfl
theorem flat_turn1 (elt iter it2 : Expr) (x y : Str) (px py : Pos) (scope : Scope) (pos : Pos) (it acc : Value) (env : Env) :
    compTurn (.ListComp elt [⟨.Name x px, iter, [], 0⟩, ⟨.Name y py, it2, [], 0⟩] scope pos) 1 it acc env = (do
      standAt it2.pos
      match ← pyNext it with
      | none => pure (.done .next)
      | some v =>
        assign (.Name y py) env v
        (do let _ ← call (.builtin "list.append") [acc, ← eval elt env])
        again (.compLoop (.ListComp elt [⟨.Name x px, iter, [], 0⟩, ⟨.Name y py, it2, [], 0⟩] scope pos) 1 it acc env)) := by rfl

section
variable {prog : Program} {w : World} {A : Around} {R : Result → Shared → Prop} {s : Shared}

theorem flat_inner {iter it2 : Expr} {x y : Str} {px py pw : Pos} {scope : Scope} {pos : Pos} {I ax D : Addr} {cenv : Env} {xs : List Value} {ys : List Value} {m : Str → Option Value}
    (hh : A.handled = none) (hk : cenv.scope.kind = .function) (hy : cenv.kindOf y = some .local) (hyd : (y == ("__debug__" : Str)) = false)
    (hDI : D ≠ I) (hDC : D ≠ cenv.locals) (hIC : I ≠ cenv.locals) (haI : ax ≠ I) (haC : ax ≠ cenv.locals) (haD : ax ≠ D)
    (hit : s.heap.IsListIter I ax 0) (hl : s.heap.IsList ax xs.toArray) (hacc : s.heap.get? D = some (lst ys)) (hn : s.heap.Ns cenv.locals m) (hsz : ys.length + xs.length ≤ sizeLine)
    (hR : ∀ h' tk m', h'.Ns cenv.locals m' → h'.get? D = some (lst (ys ++ xs)) → (∀ b o, b ≠ cenv.locals → b ≠ I → b ≠ D → s.heap.get? b = some o → h'.get? b = some o) → R (.ok .next) { s with heap := h', toks := tk }) :
    codeAny (model prog w) A (.compLoop (.ListComp (.Name y pw) [⟨.Name x px, iter, [], 0⟩, ⟨.Name y py, it2, [], 0⟩] scope pos) 1 (.ref I) (.ref D) cenv) R s := by
  have hp : (cenv.scope.kind == .class || (cenv.scope.kind == .module && cenv.locals != cenv.globals)) = false := by rw [hk]; rfl
  refine codeAny_loop rfl
    (fun n s' => ∃ h' tk m' i, s' = { s with heap := h', toks := tk } ∧ i ≤ xs.length ∧ n = xs.length + 1 - i ∧ h'.IsListIter I ax i ∧ h'.IsList ax xs.toArray ∧ h'.get? D = some (lst (ys ++ xs.take i)) ∧ h'.Ns cenv.locals m' ∧
      ∀ b o, b ≠ cenv.locals → b ≠ I → b ≠ D → s.heap.get? b = some o → h'.get? b = some o) ?_ (xs.length + 1)
    ⟨s.heap, s.toks, m, 0, rfl, Nat.zero_le _, rfl, hit, hl, by simpa using hacc, hn, fun _ _ _ _ _ e => e⟩
  rintro n s' ⟨H, tk, m', i, rfl, hi, rfl, hit', hl', hacc', hn', hk'⟩
  show wpAny _ A ((compTurn (.ListComp (.Name y pw) [⟨.Name x px, iter, [], 0⟩, ⟨.Name y py, it2, [], 0⟩] scope pos) 1 (.ref I) (.ref D) cenv).onRaise (fun x => do noteFrame x cenv; theTreesLotGoes x)) _ _ _
  refine wpAny_noted ?_
  rw [flat_turn1]
  refine wpAny_bind (wpAny_standAt (wpAny_bind ?_))
  by_cases hlt : i < xs.length
  · have hv : xs.toArray[i]? = some xs[i] := by simp [hlt]
    refine wpAny_pyNext_list_item hit' hl' hv fun h₁ hit₁ hs₁ => ?_
    refine wpAny_bind (wpAny_assign_Name (wpAny_storeName_local hy (hn'.sameBut hs₁ (Ne.symm hIC)) (fun h₂ hn₂ hs₂ => ?_) hp))
    refine wpAny_bind (wpAny_bind (wpAny_Name (wpAny_loadName_local (v := xs[i]) hk hy hn₂ (if_pos rfl) ?_) hyd))
    have hD₂ : h₂.get? D = some (lst (ys ++ xs.take i)) := hs₂.extBut _ _ hDC (hs₁.extBut _ _ hDI hacc')
    refine wpAny_bind (append_at (hsz := by
      show (ys ++ xs.take i).toArray.size ≤ sizeLine
      rw [List.size_toArray, List.length_append, List.length_take]; omega) hD₂ fun h₃ hs₃ hD₃ => wpAny_pure ?_)
    refine wpAny_pure ⟨rfl, xs.length + 1 - (i + 1), by omega, h₃, _, _, i + 1, rfl, hlt, rfl, (hit₁.extBut hs₂.extBut hIC).extBut hs₃.extBut (Ne.symm hDI), ((hl'.extBut hs₁.extBut haI).extBut hs₂.extBut haC).extBut hs₃.extBut haD, ?_,
      hn₂.sameBut hs₃ (Ne.symm hDC), fun b o h1 h2 h3 e => hs₃.extBut b o h3 (hs₂.extBut b o h1 (hs₁.extBut b o h2 (hk' b o h1 h2 h3 e)))⟩
    refine hD₃.trans (congrArg some ?_)
    rw [lst_snoc, List.append_assoc, List.take_add_one, List.getElem?_eq_getElem hlt]; rfl
  · obtain rfl : i = xs.length := Nat.le_antisymm hi (Nat.not_lt.mp hlt)
    refine wpAny_pyNext_list_end hh hit' hl' (by simp) fun h₁ he₁ => wpAny_pure ?_
    refine hR h₁ tk m' (hn'.extBut he₁ (Ne.symm hIC)) ?_ fun b o h1 h2 h3 e => he₁ b o h2 (hk' b o h1 h2 h3 e)
    have := he₁ _ _ hDI hacc'
    rwa [List.take_length] at this

theorem flat_start1 {elt iter it2 : Expr} {x y : Str} {px py : Pos} {scope : Scope} {pos : Pos} {it acc : Value} {env : Env}
    (h0 : codeAny (model prog w) A (.compLoop (.ListComp elt [⟨.Name x px, iter, [], 0⟩, ⟨.Name y py, it2, [], 0⟩] scope pos) 1 it acc env) R s)
    (h : wpAny (model prog w) A (pyIter it) (fun it' s' => codeAny (model prog w) A (.compLoop (.ListComp elt [⟨.Name x px, iter, [], 0⟩, ⟨.Name y py, it2, [], 0⟩] scope pos) 1 it' acc env) R s')
      (notedBy (model prog w) A env fun x s' => R (.error x) s') s) :
    codeAny (model prog w) A (.compStart (.ListComp elt [⟨.Name x px, iter, [], 0⟩, ⟨.Name y py, it2, [], 0⟩] scope pos) 1 it acc env) R s := by
  refine codeAny_of_tree ?_
  show wpAny _ _ ((compStart (.ListComp elt [⟨.Name x px, iter, [], 0⟩, ⟨.Name y py, it2, [], 0⟩] scope pos) 1 it acc env).onRaise (fun x => do noteFrame x env; standAt theWindowsPlace)) _ _ s
  refine wpAny_notedAt ?_
  unfold compStart
  show wpAny _ _ (ask >>= _) _ _ s
  refine wpAny_bind (wpAny_askSetting (wpAny_ite ?_))
  split
  · first
      | exact wpAny_bind (wpAny_pure (wpAny_pure (And.intro rfl h0)))
      | exact wpAny_pure (And.intro rfl h0)
  · first
      | exact wpAny_bind (wpAny_rule (wpAny_bind (wpAny_standAt (wpAny_bind (wpAny_mono h (fun it' s' h' => wpAny_pure (And.intro rfl h')) fun _ _ x => x)))))
      | (refine wpAny_bind (wpAny_rule ?_); show wpAny _ _ (standAt _ >>= _) _ _ s; exact wpAny_bind (wpAny_standAt (wpAny_bind (wpAny_mono h (fun it' s' h' => wpAny_pure (And.intro rfl h')) fun _ _ x => x))))

theorem mark_none (A : Around) : A.mark none = A := rfl

theorem flat_outer {iter : Expr} {x y : Str} {px py pz pw : Pos} {scope : Scope} {pos : Pos} {I ax D : Addr} {cenv : Env} {rs : List (Addr × List Value)} {m : Str → Option Value}
    (hh : A.handled = none) (hk : cenv.scope.kind = .function) (hx : cenv.kindOf x = some .local) (hy : cenv.kindOf y = some .local) (hxd : (x == ("__debug__" : Str)) = false) (hyd : (y == ("__debug__" : Str)) = false)
    (hDI : D ≠ I) (hDC : D ≠ cenv.locals) (hIC : I ≠ cenv.locals) (haI : ax ≠ I) (haC : ax ≠ cenv.locals) (haD : ax ≠ D)
    (hit : s.heap.IsListIter I ax 0) (hl : s.heap.IsList ax (rs.map fun r => Value.ref r.1).toArray) (hrs : ∀ r ∈ rs, s.heap.IsList r.1 r.2.toArray ∧ r.1 ≠ I ∧ r.1 ≠ cenv.locals ∧ r.1 ≠ D)
    (hacc : s.heap.get? D = some (lst [])) (hn : s.heap.Ns cenv.locals m) (hsz : (rs.flatMap (·.2)).length ≤ sizeLine)
    (hR : ∀ h' tk m', h'.Ns cenv.locals m' → h'.get? D = some (lst (rs.flatMap (·.2))) → (∀ b o, b ≠ cenv.locals → b ≠ I → b ≠ D → s.heap.get? b = some o → h'.get? b = some o) → R (.ok .next) { s with heap := h', toks := tk }) :
    codeAny (model prog w) A (.compLoop (.ListComp (.Name y pw) [⟨.Name x px, iter, [], 0⟩, ⟨.Name y py, .Name x pz, [], 0⟩] scope pos) 0 (.ref I) (.ref D) cenv) R s := by
  have hp : (cenv.scope.kind == .class || (cenv.scope.kind == .module && cenv.locals != cenv.globals)) = false := by rw [hk]; rfl
  refine codeAny_loop rfl
    (fun n s' => ∃ h' tk m' i, s' = { s with heap := h', toks := tk } ∧ i ≤ rs.length ∧ n = rs.length + 1 - i ∧ h'.IsListIter I ax i ∧ h'.IsList ax (rs.map fun r => Value.ref r.1).toArray ∧ h'.get? D = some (lst ((rs.take i).flatMap (·.2))) ∧ h'.Ns cenv.locals m' ∧
      ∀ b o, b ≠ cenv.locals → b ≠ I → b ≠ D → s.heap.get? b = some o → h'.get? b = some o) ?_ (rs.length + 1)
    ⟨s.heap, s.toks, m, 0, rfl, Nat.zero_le _, rfl, hit, hl, by simpa using hacc, hn, fun _ _ _ _ _ e => e⟩
  rintro n s' ⟨H, tk, m', i, rfl, hi, rfl, hit', hl', hacc', hn', hk'⟩
  show wpAny _ A ((compTurn (.ListComp (.Name y pw) [⟨.Name x px, iter, [], 0⟩, ⟨.Name y py, .Name x pz, [], 0⟩] scope pos) 0 (.ref I) (.ref D) cenv).onRaise (fun x => do noteFrame x cenv; theTreesLotGoes x)) _ _ _
  refine wpAny_noted ?_
  rw [flat_turn0]
  refine wpAny_bind (wpAny_standAt (wpAny_bind ?_))
  by_cases hlt : i < rs.length
  · have hv : (rs.map fun r => Value.ref r.1).toArray[i]? = some (.ref rs[i].1) := by simp [hlt]
    obtain ⟨hr0, hrI, hrC, hrD⟩ := hrs rs[i] (List.getElem_mem hlt)
    refine wpAny_pyNext_list_item hit' hl' hv fun h₁ hit₁ hs₁ => ?_
    refine wpAny_bind (wpAny_assign_Name (wpAny_storeName_local hx (hn'.sameBut hs₁ (Ne.symm hIC)) (fun h₂ hn₂ hs₂ => ?_) hp))
    refine wpAny_bind (wpAny_Name (wpAny_loadName_local (v := .ref rs[i].1) hk hx hn₂ (if_pos rfl) ?_) hxd)
    have up : ∀ b o, b ≠ cenv.locals → b ≠ I → H.get? b = some o → h₂.get? b = some o := fun b o h1 h2 e => hs₂.extBut b o h1 (hs₁.extBut b o h2 e)
    have hr₂ : h₂.IsList rs[i].1 rs[i].2.toArray := hr0.at fun o e => up _ o hrC hrI (hk' _ o hrC hrI hrD e)
    have hD₂ : h₂.get? D = some (lst ((rs.take i).flatMap (·.2))) := up _ _ hDC hDI hacc'
    have hC₂ := hn₂
    refine wpAny_bind (wpAny_standAt (wpAny_bind (wpAny_of_eq (show foldedSetIterable (.Name x pz) cenv (.ref rs[i].1) = pure (.ref rs[i].1) from rfl) ?_)))
    refine wpAny_bind (wpAny_holding (wpAny_pyIter_list hr₂ ?_))
    have hI₂ : h₂.IsListIter I ax (i + 1) := hit₁.extBut hs₂.extBut hIC
    have ltD : D < h₂.objs.size := Heap.lt_size hD₂
    have ltC : cenv.locals < h₂.objs.size := hn₂.lt
    have ltI : I < h₂.objs.size := by obtain ⟨_, e, _⟩ := hI₂; exact Heap.lt_size e
    have ltR : rs[i].1 < h₂.objs.size := by obtain ⟨_, e, _⟩ := hr₂; exact Heap.lt_size e
    generalize hH3 : h₂.push { cls := .type "list_iterator", data := .fields #[.ref rs[i].1, .int 0 0] } = h₃
    have pu : ∀ b o, h₂.get? b = some o → h₃.get? b = some o := fun b o e => hH3 ▸ Heap.get?_push_of_some _ e
    have hJ₃ : h₃.IsListIter h₂.objs.size rs[i].1 0 := ⟨_, hH3 ▸ Heap.get?_push_size _ rfl, rfl, rfl⟩
    have hlen : ((rs.take i).flatMap (·.2)).length + rs[i].2.length ≤ sizeLine := by
      refine Nat.le_trans ?_ hsz
      have e1 : ((rs.take (i + 1)).flatMap (·.2)).length ≤ (rs.flatMap (·.2)).length := by
        have e2 : rs.flatMap (·.2) = (rs.take (i + 1)).flatMap (·.2) ++ (rs.drop (i + 1)).flatMap (·.2) := by rw [← List.flatMap_append, List.take_append_drop]
        rw [e2, List.length_append]; omega
      have e3 : (rs.take (i + 1)).flatMap (·.2) = (rs.take i).flatMap (·.2) ++ rs[i].2 := by
        rw [List.take_add_one, List.getElem?_eq_getElem hlt, List.flatMap_append]; simp
      rw [e3, List.length_append] at e1
      exact e1
    have go : ∀ s₃ : Shared, (∃ tk₃, s₃ = { s with heap := h₃, toks := tk₃ }) → codeAny (model prog w) A (.compLoop (.ListComp (.Name y pw) [⟨.Name x px, iter, [], 0⟩, ⟨.Name y py, .Name x pz, [], 0⟩] scope pos) 1 (.ref h₂.objs.size) (.ref D) cenv)
        (fun r s' => match r with
          | .ok f => wpAny (model prog w) A (again (.compLoop (.ListComp (.Name y pw) [⟨.Name x px, iter, [], 0⟩, ⟨.Name y py, .Name x pz, [], 0⟩] scope pos) 0 (.ref I) (.ref D) cenv)) (fun fin s' => match fin with | .done f => R (.ok f) s' | .again c' => c' = (Code.compLoop (.ListComp (.Name y pw) [⟨.Name x px, iter, [], 0⟩, ⟨.Name y py, .Name x pz, [], 0⟩] scope pos) 0 (.ref I) (.ref D) cenv) ∧ ∃ m, m < rs.length + 1 - i ∧ (∃ h' tk m' i, s' = { s with heap := h', toks := tk } ∧ i ≤ rs.length ∧ m = rs.length + 1 - i ∧ h'.IsListIter I ax i ∧ h'.IsList ax (rs.map fun r => Value.ref r.1).toArray ∧ h'.get? D = some (lst ((rs.take i).flatMap (·.2))) ∧ h'.Ns cenv.locals m' ∧
      ∀ b o, b ≠ cenv.locals → b ≠ I → b ≠ D → s.heap.get? b = some o → h'.get? b = some o)) (notedBy (model prog w) A cenv fun e s' => R (.error e) s') s'
          | .error e => cameBackBy (model prog w) A cenv (notedBy (model prog w) A cenv fun e s' => R (.error e) s') e s') s₃ := by
      rintro s₃ ⟨tk₃, rfl⟩
      refine flat_inner (xs := rs[i].2) (ys := (rs.take i).flatMap (·.2)) hh hk hy hyd (Nat.ne_of_lt ltD) hDC (Ne.symm (Nat.ne_of_lt ltC)) (Nat.ne_of_lt ltR) hrC hrD hJ₃ (hr₂.at fun o e => pu _ o e) (pu _ _ hD₂) (hn₂.at' fun o e => pu _ o e) hlen fun h₄ tk₄ m₄ hn₄ hD₄ hk₄ => ?_
      refine wpAny_pure ⟨rfl, rs.length + 1 - (i + 1), by omega, h₄, tk₄, m₄, i + 1, rfl, hlt, rfl, hI₂.at fun o e => hk₄ _ o hIC (Nat.ne_of_lt ltI) (Ne.symm hDI) (pu _ o e), ?_, ?_, hn₄, fun b o h1 h2 h3 e => ?_⟩
      · obtain ⟨oa, ea, ra⟩ := id hl'
        have ea₂ := up _ _ haC haI ea
        exact ⟨oa, hk₄ _ _ haC (Nat.ne_of_lt (Heap.lt_size ea₂)) haD (pu _ _ ea₂), ra⟩
      · refine hD₄.trans (congrArg (fun l => some (lst l)) ?_)
        rw [List.take_add_one, List.getElem?_eq_getElem hlt, List.flatMap_append]; simp
      · have e₂ := up b o h1 h2 (hk' b o h1 h2 h3 e)
        exact hk₄ b o h1 (Nat.ne_of_lt (Heap.lt_size e₂)) h3 (pu b o e₂)
    refine wpAny_bind (wpAny_runOwn ?_)
    rw [mark_none]
    exact flat_start1 (go _ ⟨_, rfl⟩) (wpAny_pyIter_listiter hJ₃ (go _ ⟨_, rfl⟩))
  · obtain rfl : i = rs.length := Nat.le_antisymm hi (Nat.not_lt.mp hlt)
    refine wpAny_pyNext_list_end hh hit' hl' (by simp) fun h₁ he₁ => wpAny_pure ?_
    refine hR h₁ tk m' (hn'.extBut he₁ (Ne.symm hIC)) ?_ fun b o h1 h2 h3 e => he₁ b o h2 (hk' b o h1 h2 h3 e)
    have := he₁ _ _ hDI hacc'
    rwa [List.take_length] at this

end
section
variable {prog : Program} {w : World} {A : Around} {E : Value → Shared → Prop} {s : Shared} {h₀ : Heap} {L : Addr} {m : Str → Option Value} {env : Env}

/-- what the outer source of such a comprehension must be, and what then follows -/
def FlatSrc (A : Around) (h₀ : Heap) (L : Addr) (m : Str → Option Value) (Q : Value → Shared → Prop) (xv : Value) (s₁ : Shared) : Prop :=
  ∃ (ax : Addr) (rs : List (Addr × List Value)) (k : Nat) (news : List (Addr × Obj)), xv = .ref ax ∧ A.handled = none ∧ Fr h₀ L s₁.heap m ∧ News h₀ L s₁.heap news ∧ (ax, listOf (rs.map fun r => Value.ref r.1).toArray k) ∈ news ∧
    (∀ r ∈ rs, ∃ k, (r.1, listOf r.2.toArray k) ∈ news) ∧ rs.length ≤ sizeLine ∧ (rs.flatMap (·.2)).length ≤ sizeLine ∧
    ∀ D h tk, Fr h₀ L h m → News h₀ L h ((D, lst (rs.flatMap (·.2))) :: news) → (∀ p ∈ news, p.1 < D) → Q (.ref D) { s₁ with heap := h, toks := tk }

theorem ListComp_flat {iter : Expr} {x y : Str} {px py pz pw : Pos} {scope : Scope} {cl : List (Str × Addr)} {pos : Pos} {Q : Value → Shared → Prop} (F₀ : Fr h₀ L s.heap m)
    (hclos : closureFor scope env = pure cl) (hcell : ∀ z ∈ scope.names, z.2 ≠ .cell) (hkind : scope.kind = .function)
    (hnames : ∀ z ∈ scope.names, z.2 = .local → scope.names.lookup z.1 = some .local) (hx : scope.names.lookup x = some .local) (hy : scope.names.lookup y = some .local)
    (hxd : (x == ("__debug__" : Str)) = false) (hyd : (y == ("__debug__" : Str)) = false)
    (h : wpAny (model prog w) A (eval iter env) (FlatSrc A h₀ L m Q) E s)
    (hs : ∀ x, foldedSetIterable iter env x = pure x := by intro _; rfl) :
    wpAny (model prog w) A (eval (.ListComp (.Name y pw) [⟨.Name x px, iter, [], 0⟩, ⟨.Name y py, .Name x pz, [], 0⟩] scope pos) env) Q E s := by
  rw [eval_ListComp]
  refine wpAny_comprehension_free (use := none) rfl hs hclos hkind hnames (wpAny_mono h (fun xv s₁ h₁ => ?_) fun _ _ e => e)
  obtain ⟨ax, rs, k, news, rfl, hh, F, N, hm, hrs, hsz1, hsz2, hQ⟩ := h₁
  have hax := (N _ hm).1
  have hl : s₁.heap.IsList ax (rs.map fun r => Value.ref r.1).toArray := ⟨_, hax, rfl, k, rfl⟩
  refine wpAny_pyIter_list hl (wpAny_newObj_type (hd := by size_fits) (wpAny_newFunctionEnv hcell (by intro y hy; simp at hy) (fun h₁ hns₁ hsb₁ => ?_) hkind))
  dsimp only at hns₁ hsb₁ ⊢
  have ltL : L < s₁.heap.objs.size := F.ns.lt
  have ltax : ax < s₁.heap.objs.size := Heap.lt_size hax
  generalize hH1 : s₁.heap.push { cls := .type "list_iterator", data := .fields #[.ref ax, .int 0 0] } = H1 at hns₁ hsb₁ ⊢
  have hD : H1.objs.size = s₁.heap.objs.size + 1 := by rw [← hH1, Heap.size_push]
  generalize hH2 : H1.push { cls := .type "list", dict := none, data := .seq ([] : List Value).toArray } = H2 at hns₁ hsb₁ ⊢
  have hC : H2.objs.size = s₁.heap.objs.size + 2 := by rw [← hH2, Heap.size_push, hD]
  have hDI : H1.objs.size ≠ s₁.heap.objs.size := by rw [hD]; exact Nat.succ_ne_self _
  have hDC : H1.objs.size ≠ H2.objs.size := by rw [hD, hC]; exact Nat.ne_of_lt (Nat.lt_succ_self _)
  have hIC : s₁.heap.objs.size ≠ H2.objs.size := by rw [hC]; exact Nat.ne_of_lt (Nat.lt_succ_of_lt (Nat.lt_succ_self _))
  have below : ∀ b, b < s₁.heap.objs.size → b ≠ H2.objs.size ∧ b ≠ s₁.heap.objs.size ∧ b ≠ H1.objs.size := fun b hb =>
    ⟨by rw [hC]; exact Nat.ne_of_lt (Nat.lt_succ_of_lt (Nat.lt_succ_of_lt hb)), Nat.ne_of_lt hb, by rw [hD]; exact Nat.ne_of_lt (Nat.lt_succ_of_lt hb)⟩
  have old : ∀ b o, s₁.heap.get? b = some o → h₁.get? b = some o := fun b o e =>
    hsb₁.extBut b o (below b (Heap.lt_size e)).1 (Heap.get?_push_of_some _ (hH2 ▸ Heap.get?_push_of_some _ (hH1 ▸ Heap.get?_push_of_some _ e)))
  have hit : h₁.IsListIter s₁.heap.objs.size ax 0 :=
    ⟨_, hsb₁.extBut _ _ hIC (Heap.get?_push_of_some _ (hH2 ▸ Heap.get?_push_of_some _ (hH1 ▸ Heap.get?_push_size _ rfl))), rfl, rfl⟩
  have hacc : h₁.get? H1.objs.size = some (lst []) := hsb₁.extBut _ _ hDC (Heap.get?_push_of_some _ (hH2 ▸ Heap.get?_push_size _ rfl))
  have fresh₀ : ∀ a, s₁.heap.objs.size ≤ a → h₀.get? a = none := fun a ha => by
    cases e : h₀.get? a with
    | none => rfl
    | some o' => exact absurd (Heap.lt_size (F.keep _ _ e)) (Nat.not_lt.mpr ha)
  have loop : ∀ s₂ : Shared, s₂ = { s₁ with heap := h₁, toks := s₁.toks + ([] : List (Str × Value)).length } →
      codeAny (model prog w) A (.compLoop (.ListComp (.Name y pw) [⟨.Name x px, iter, [], 0⟩, ⟨.Name y py, .Name x pz, [], 0⟩] scope pos) 0 (.ref s₁.heap.objs.size) (.ref H1.objs.size) (compEnvC scope cl H2.objs.size env))
        (compPost (model prog w) A E none Q (.ref H1.objs.size) H2.objs.size) s₂ := by
    rintro s₂ rfl
    refine flat_outer (cenv := compEnvC scope cl H2.objs.size env) (rs := rs) hh hkind (lookup_relabel_local hx) (lookup_relabel_local hy) hxd hyd hDI hDC hIC (below ax ltax).2.1 (below ax ltax).1 (below ax ltax).2.2 hit (hl.at fun o e => old _ o e)
      (fun r hr => ?_) hacc hns₁ hsz2 fun h' tk m' hn' hD' hk' => ?_
    · obtain ⟨k', hr'⟩ := hrs r hr
      have e := (N _ hr').1
      have b := below r.1 (Heap.lt_size e)
      exact ⟨⟨_, old _ _ e, rfl, k', rfl⟩, b.2.1, b.1, b.2.2⟩
    · have kk : ∀ h'', Heap.SameBut H2.objs.size h' h'' → ∀ b o, s₁.heap.get? b = some o → h''.get? b = some o := fun h'' hs b o e =>
        have bl := below b (Heap.lt_size e)
        hs.extBut b o bl.1 (hk' b o bl.1 bl.2.1 bl.2.2 (old b o e))
      refine ⟨m', hn', fun h'' hs'' => hQ _ _ _ (F.keeps (kk _ hs'')) (fun p hp => ?_) fun p hp => by rw [hD]; exact Nat.lt_succ_of_lt (Heap.lt_size (N p hp).1)⟩
      rcases List.mem_cons.mp hp with rfl | hp
      · exact ⟨hs''.extBut _ _ hDC hD', Ne.symm (Nat.ne_of_lt (by rw [hD]; exact Nat.lt_succ_of_lt ltL)), fresh₀ _ (by rw [hD]; exact Nat.le_succ _)⟩
      · exact ⟨kk _ hs'' _ _ (N p hp).1, (N p hp).2⟩
  exact codeAny_compStart_list (loop _ rfl) (wpAny_pyIter_listiter hit (loop _ rfl))

/-! Blocks of any length: by what holds of the turn's number, the list so far and the ledger. -/
theorem end_mono {s₁ s₂ : Shared} {I C D : Addr} {oI oC oD : Obj} {S : List (Addr × Obj) → Prop} {rest rest' : Value → List (Addr × Obj) → Prop} {y y' : Value}
    (h : CompEnd h₀ L m s₁ I oI C oC D oD S rest y s₂) (k : ∀ n, rest y n → rest' y' n) : CompEnd h₀ L m s₁ I oI C oC D oD S rest' y' s₂ :=
  let ⟨h', tk, n', e, F, N, o, hS, r⟩ := h; ⟨h', tk, n', e, F, N, o, hS, k _ r⟩

theorem rest_ind {elt : Expr} {x : Str} {scope : Scope} {cl : List (Str × Addr)} {S : List (Addr × Obj) → Prop} {P : Nat → Value → Prop} {Fin : List Value → List (Addr × Obj) → Prop} {n : Nat} (J : Nat → List Value → List (Addr × Obj) → Prop)
    (turn : ∀ i ys news v I oI C oC D m₂ h tk (E' : Value → Shared → Prop), i < n → J i ys news → P i v → NsObj oC m₂ → m₂ x = some v → Fr h₀ L h m → News h₀ L h ((I, oI) :: (C, oC) :: (D, lst ys) :: news) → Off3 I C D news → ((@Ne Nat I C) ∧ (@Ne Nat I D) ∧ (@Ne Nat C D)) →
      wpAny (model prog w) A (eval elt (compEnvC scope cl C env)) (CompEnd h₀ L m { s with heap := h, toks := tk } I oI C oC D (lst ys) S (fun y news' => J (i + 1) (ys ++ [y]) news')) E' { s with heap := h, toks := tk })
    (done : ∀ ys news, J n ys news → Fin ys news) : ∀ k i ys news, i + k = n → J i ys news → CompRest prog w A h₀ L m env elt x scope cl s S P Fin k i ys news
  | 0, i, ys, news, e, h => by
    subst e
    exact CompRest.zero (done _ _ h)
  | k + 1, i, ys, news, e, h => by
    refine CompRest.succ fun v I oI C oC D m₂ h' tk E' a1 a2 a3 a4 a5 a6 a7 => ?_
    refine wpAny_mono (turn i ys news v I oI C oC D m₂ h' tk E' (by omega) h a1 a2 a3 a4 a5 a6 a7) (fun y s' q => ?_) fun _ _ e => e
    exact end_mono q fun n' hj => rest_ind J turn done k (i + 1) _ n' (by omega) hj

theorem restT_ind {ct elt : Expr} {x : Str} {scope : Scope} {cl : List (Str × Addr)} {S : List (Addr × Obj) → Prop} {P : Nat → Value → Prop} {Fin : List Value → List (Addr × Obj) → Prop} {n : Nat} (J : Nat → List Value → List (Addr × Obj) → Prop)
    (turn : ∀ i ys news v I oI C oC D m₂ h tk (E' : Value → Shared → Prop), i < n → J i ys news → P i v → NsObj oC m₂ → m₂ x = some v → Fr h₀ L h m → News h₀ L h ((I, oI) :: (C, oC) :: (D, lst ys) :: news) → Off3 I C D news → ((@Ne Nat I C) ∧ (@Ne Nat I D) ∧ (@Ne Nat C D)) →
      wpAny (model prog w) A (isTrue ct (compEnvC scope cl C env) (eval ct (compEnvC scope cl C env))) (fun ok s' => if ok = true then
        wpAny (model prog w) A (eval elt (compEnvC scope cl C env)) (CompEnd h₀ L m { s with heap := h, toks := tk } I oI C oC D (lst ys) S (fun y news' => J (i + 1) (ys ++ [y]) news')) E' s'
        else CompEnd h₀ L m { s with heap := h, toks := tk } I oI C oC D (lst ys) S (fun _ news' => J (i + 1) ys news') Value.none s') E' { s with heap := h, toks := tk })
    (done : ∀ ys news, J n ys news → Fin ys news) : ∀ k i ys news, i + k = n → J i ys news → LCt.CompRestT prog w A h₀ L m env ct elt x scope cl s S P Fin k i ys news
  | 0, i, ys, news, e, h => by
    subst e
    exact LCt.CompRestT.zero (done _ _ h)
  | k + 1, i, ys, news, e, h => by
    refine LCt.CompRestT.succ fun v I oI C oC D m₂ h' tk E' a1 a2 a3 a4 a5 a6 a7 => ?_
    refine wpAny_mono (turn i ys news v I oI C oC D m₂ h' tk E' (by omega) h a1 a2 a3 a4 a5 a6 a7) (fun ok s' q => ?_) fun _ _ e => e
    cases ok with
    | true =>
      simp only [if_true] at q ⊢
      exact wpAny_mono q (fun y s' q => end_mono q fun n' hj => restT_ind J turn done k (i + 1) _ n' (by omega) hj) fun _ _ e => e
    | false =>
      simp only [Bool.false_eq_true, if_false] at q ⊢
      exact end_mono q fun n' hj => restT_ind J turn done k (i + 1) _ n' (by omega) hj
end

/-- What a def of the text tells its callers: from any state that bears what is asked it ends, gives r, and lays tl ahead of the ledger; all else stays. -/
def Tell (rw : OpenLaw) (K : Params → Frag) (vw : Program) (w : World) (mean : ExcName → Option Value) (mg mb : Str → Option Value) (f : Addr) (news : List (Addr × Obj)) (vs : List Value) (room : Nat) (Post : Value → List (Addr × Obj) → Prop) : Prop :=
  ∀ (dp un : Nat) (gd : Option (List Code)) (cn : Str) (cs : Scope) (a : Addr) (ccd : Value) (cl : List (Str × Addr)) (outer : List Env) (A₀ : Around) (base h₀ : Heap) (L : Addr) (m : Str → Option Value) (s : Shared) (Q E : Value → Shared → Prop),
    Below A₀ base outer h₀ → Fr h₀ L s.heap m → (K w.params).In h₀ → News h₀ L s.heap news → Top vw (looseW vw [Str.ofString "SnobolError"]) mean mg mb h₀ → cs.kind = .function → dp + room < recursionLimit → un + 8 * room < cLine →
    (∀ r tl h' tk', Fr h₀ L h' m → News h₀ L h' (tl ++ news) → (∀ p ∈ tl, ∀ q ∈ news, q.1 < p.1) → Post r tl → Q r { s with heap := h', toks := tk' }) →
    wpAny (model rw.row.prog w) (ktrTop dp un gd cn cs L a ccd cl outer) (call (.ref f) vs) Q E s
theorem Tell.use {rw : OpenLaw} {K : Params → Frag} {vw : Program} {w : World} {mean : ExcName → Option Value} {mg mb : Str → Option Value} {f : Addr} {news : List (Addr × Obj)} {vs : List Value} {room : Nat} {Post : Value → List (Addr × Obj) → Prop} (C : Tell rw K vw w mean mg mb f news vs room Post)
    {dp un : Nat} {gd : Option (List Code)} {cn : Str} {cs : Scope} {a : Addr} {ccd : Value} {cl : List (Str × Addr)} {outer : List Env} {A₀ : Around} {base h₀ : Heap} {L : Addr} {m : Str → Option Value} {s : Shared} {Q E : Value → Shared → Prop}
    (B : Below A₀ base outer h₀) (F : Fr h₀ L s.heap m) (X : (K w.params).In h₀) (N : News h₀ L s.heap news) (T : Top vw (looseW vw [Str.ofString "SnobolError"]) mean mg mb h₀) (hk : cs.kind = .function) (hd : dp + room < recursionLimit) (hu : un + 8 * room < cLine)
    (ret : ∀ r tl h' tk', Fr h₀ L h' m → News h₀ L h' (tl ++ news) → (∀ p ∈ tl, ∀ q ∈ news, q.1 < p.1) → Post r tl → Q r { s with heap := h', toks := tk' }) :
    wpAny (model rw.row.prog w) (ktrTop dp un gd cn cs L a ccd cl outer) (call (.ref f) vs) Q E s := C _ _ _ _ _ _ _ _ _ _ _ _ _ _ _ _ _ B F X N T hk hd hu ret
end Mine
namespace Mine
/-- a place where the walk is to stand still -/
def Stop (P : Prop) : Prop := P
theorem Stop.of {P : Prop} (h : Stop P) : P := h
theorem map_set {m m₀ : Str → Option Value} {x : Str} {v : Value} (h1 : m x = some v) (h2 : ∀ z, z ≠ x → m z = m₀ z) : m = fun y => if y = x then some v else m₀ y := by
  funext y
  by_cases h : y = x
  · subst h; rw [if_pos rfl]; exact h1
  · rw [if_neg h]; exact h2 y h
theorem map1 {m m₀ : Str → Option Value} (x1 : Str) (h : ∀ y, y ≠ x1 → m y = m₀ y) : m = fun y => if y = x1 then m x1 else m₀ y := by
  funext y
  by_cases e1 : y = x1
  · rw [if_pos e1, e1]
  · rw [if_neg e1]; exact h y e1
theorem map2 {m m₀ : Str → Option Value} (x1 x2 : Str) (h : ∀ y, y ≠ x1 → y ≠ x2 → m y = m₀ y) : m = fun y => if y = x1 then m x1 else if y = x2 then m x2 else m₀ y := by
  funext y
  by_cases e1 : y = x1
  · rw [if_pos e1, e1]
  · by_cases e2 : y = x2
    · rw [if_neg e1, if_pos e2, e2]
    · rw [if_neg e1, if_neg e2]; exact h y e1 e2
theorem map3 {m m₀ : Str → Option Value} (x1 x2 x3 : Str) (h : ∀ y, y ≠ x1 → y ≠ x2 → y ≠ x3 → m y = m₀ y) : m = fun y => if y = x1 then m x1 else if y = x2 then m x2 else if y = x3 then m x3 else m₀ y := by
  funext y
  by_cases e1 : y = x1
  · rw [if_pos e1, e1]
  · by_cases e2 : y = x2
    · rw [if_neg e1, if_pos e2, e2]
    · by_cases e3 : y = x3
      · rw [if_neg e1, if_neg e2, if_pos e3, e3]
      · rw [if_neg e1, if_neg e2, if_neg e3]; exact h y e1 e2 e3
theorem units_make (A : Around) (args : Args) : (A.under (.builtin "type.__call__" args)).units = A.units + 1 := rfl
/-- the fields of an array, as its class lays them -/
abbrev arrObj (P : Params) (u1 u2 u3 u4 u5 u6 v1 v3 : Tok) (word : Str) (nn : Int) (tn : Tok) (told : Str) (tt : Tok) (B I : Addr) : Obj := dictOf [
  { hash := PyData.keyHash P (Str.ofString "word"), key := .str (Str.ofString "word") u1, val := .str word v1 },
  { hash := PyData.keyHash P (Str.ofString "number"), key := .str (Str.ofString "number") u2, val := .int nn tn },
  { hash := PyData.keyHash P (Str.ofString "mark"), key := .str (Str.ofString "mark") u3, val := .int 0 v3 },
  { hash := PyData.keyHash P (Str.ofString "told"), key := .str (Str.ofString "told") u4, val := .str told tt },
  { hash := PyData.keyHash P (Str.ofString "bounds"), key := .str (Str.ofString "bounds") u5, val := .ref B },
  { hash := PyData.keyHash P (Str.ofString "items"), key := .str (Str.ofString "items") u6, val := .ref I }] 6
/-! Two marks of order, (0, x, "") and (0, y, ""), by < and by >. -/
section
variable {prog : Program} {w : World} {A : Around} {E : Value → Shared → Prop} {s : Shared}
abbrev mk3 (x : Int) (t0 tx t1 : Tok) (e : Str) : Obj := { cls := .type "tuple", data := .seq #[.int 0 t0, .int x tx, .str e t1] }
theorem tup3_lt_tree {a b : Addr} {x y : Int} {t0 tx t1 u0 uy u1 : Tok} {e : Str} {P : Fin → Shared → Prop} (ha : s.heap.get? a = some (mk3 x t0 tx t1 e)) (hb : s.heap.get? b = some (mk3 y u0 uy u1 e))
    (h : P (.done (.ret (.bool (decide (x < y))))) s) : wpAny (model prog w) A (Builtin.«tuple.__lt__» ⟨[.ref a, .ref b], []⟩) P E s := by
  have hTb : s.TypeIs (.ref b) "tuple" := ⟨_, hb, rfl⟩
  show wpAny _ _ (isInstance (.ref b) (.type "tuple") >>= _) _ _ s
  refine wpAny_bind (wpAny_isInstance hTb isSubtype_tuple_tuple ?_)
  simp only [Bool.not_true, Bool.false_eq_true, if_false]
  refine wpAny_bind (wpAny_tupleItemsOf ha rfl ?_)
  refine wpAny_bind (wpAny_tupleItemsOf hb rfl ?_)
  refine wpAny_bind ?_
  simp only [List.zip_cons_cons, List.zip_nil_right, List.forIn_cons, List.forIn_nil]
  refine wpAny_bind (wpAny_bind (wpAny_eqBool_int ?_))
  simp only [beq_self_eq_true, Bool.not_true, Bool.false_eq_true, if_false]
  refine wpAny_pure ?_
  refine wpAny_bind (wpAny_bind (wpAny_eqBool_int ?_))
  by_cases hxy : x = y
  · subst hxy
    simp only [beq_self_eq_true, Bool.not_true, Bool.false_eq_true, if_false]
    refine wpAny_pure ?_
    refine wpAny_bind (wpAny_bind (wpAny_eqBool_str ?_))
    simp only [decide_true, Bool.not_true, Bool.false_eq_true, if_false]
    refine wpAny_pure (wpAny_pure ?_)
    have h' : P (.done (.ret (.bool false))) s := by simpa using h
    exact wpAny_pure h'
  · have hne : (x == y) = false := by simpa using hxy
    rw [hne]
    simp only [Bool.not_false, if_true]
    refine wpAny_bind (wpAny_rule (wpAny_bind ?_))
    show wpAny _ _ (compareOp .Lt (.int x tx) (.int y uy)) _ _ _
    exact lt_int (wpAny_bind (wpAny_pure (wpAny_pure (wpAny_pure (wpAny_pure h)))))
theorem tup3_lt {a b : Addr} {x y : Int} {t0 tx t1 u0 uy u1 : Tok} {e : Str} {Q : Value → Shared → Prop} (ha : s.heap.get? a = some (mk3 x t0 tx t1 e)) (hb : s.heap.get? b = some (mk3 y u0 uy u1 e)) (hu : A.units < cLine)
    (h : Q (.bool (decide (x < y))) s) : wpAny (model prog w) A (compareOp .Lt (.ref a) (.ref b)) Q E s := by
  have hTa : s.TypeIs (.ref a) "tuple" := ⟨_, ha, rfl⟩
  have hTb : s.TypeIs (.ref b) "tuple" := ⟨_, hb, rfl⟩
  show wpAny _ _ (richCompare .Lt (.ref a) (.ref b)) _ _ _
  exact wpAny_richCompare_same_room (op := .Lt) hTa hTb F.slot_tuple_lt (wpAny_call_entry F.slot_tuple_lt hTa F.entry_tuple_lt (tup3_lt_tree ha hb ⟨_, rfl, (fun e => nomatch e), h⟩) (F.args_tuple_lt_2 _ _)) hu
theorem tup3_gt_tree {a b : Addr} {x y : Int} {t0 tx t1 u0 uy u1 : Tok} {e : Str} {P : Fin → Shared → Prop} (ha : s.heap.get? a = some (mk3 x t0 tx t1 e)) (hb : s.heap.get? b = some (mk3 y u0 uy u1 e))
    (h : P (.done (.ret (.bool (decide (y < x))))) s) : wpAny (model prog w) A (Builtin.«tuple.__gt__» ⟨[.ref a, .ref b], []⟩) P E s := by
  have hTb : s.TypeIs (.ref b) "tuple" := ⟨_, hb, rfl⟩
  show wpAny _ _ (isInstance (.ref b) (.type "tuple") >>= _) _ _ s
  refine wpAny_bind (wpAny_isInstance hTb isSubtype_tuple_tuple ?_)
  simp only [Bool.not_true, Bool.false_eq_true, if_false]
  refine wpAny_bind (wpAny_tupleItemsOf ha rfl ?_)
  refine wpAny_bind (wpAny_tupleItemsOf hb rfl ?_)
  refine wpAny_bind ?_
  simp only [List.zip_cons_cons, List.zip_nil_right, List.forIn_cons, List.forIn_nil]
  refine wpAny_bind (wpAny_bind (wpAny_eqBool_int ?_))
  simp only [beq_self_eq_true, Bool.not_true, Bool.false_eq_true, if_false]
  refine wpAny_pure ?_
  refine wpAny_bind (wpAny_bind (wpAny_eqBool_int ?_))
  by_cases hxy : x = y
  · subst hxy
    simp only [beq_self_eq_true, Bool.not_true, Bool.false_eq_true, if_false]
    refine wpAny_pure ?_
    refine wpAny_bind (wpAny_bind (wpAny_eqBool_str ?_))
    simp only [decide_true, Bool.not_true, Bool.false_eq_true, if_false]
    refine wpAny_pure (wpAny_pure ?_)
    have h' : P (.done (.ret (.bool false))) s := by simpa using h
    exact wpAny_pure h'
  · have hne : (x == y) = false := by simpa using hxy
    rw [hne]
    simp only [Bool.not_false, if_true]
    refine wpAny_bind (wpAny_rule (wpAny_bind ?_))
    show wpAny _ _ (compareOp .Gt (.int x tx) (.int y uy)) _ _ _
    exact gt_int (wpAny_bind (wpAny_pure (wpAny_pure (wpAny_pure (wpAny_pure h)))))
theorem tup3_gt {a b : Addr} {x y : Int} {t0 tx t1 u0 uy u1 : Tok} {e : Str} {Q : Value → Shared → Prop} (ha : s.heap.get? a = some (mk3 x t0 tx t1 e)) (hb : s.heap.get? b = some (mk3 y u0 uy u1 e)) (hu : A.units < cLine)
    (h : Q (.bool (decide (y < x))) s) : wpAny (model prog w) A (compareOp .Gt (.ref a) (.ref b)) Q E s := by
  have hTa : s.TypeIs (.ref a) "tuple" := ⟨_, ha, rfl⟩
  have hTb : s.TypeIs (.ref b) "tuple" := ⟨_, hb, rfl⟩
  show wpAny _ _ (richCompare .Gt (.ref a) (.ref b)) _ _ _
  exact wpAny_richCompare_same_room (op := .Gt) hTa hTb F.slot_tuple_gt (wpAny_call_entry F.slot_tuple_gt hTa F.entry_tuple_gt (tup3_gt_tree ha hb ⟨_, rfl, (fun e => nomatch e), h⟩) (F.args_tuple_gt_2 _ _)) hu

theorem item_led {h₀ : Heap} {L l : Addr} {news : List (Addr × Obj)} {value slice : Expr} {vs : List Value} {n : Nat} {k : Int} {u : Tok} {v : Value} {Q : Value → Shared → Prop}
    (N : News h₀ L s.heap news) (hm : (l, listOf vs.toArray n) ∈ news) (h0 : 0 ≤ k) (hhi : k < 2 ^ 63) (hx : vs[k.toNat]? = some v) (h : Q v s)
    (hs : subscripted slice false (.ref l) (.int k u) = operate [.ref l, .int k u] (getItem (.ref l) (.int k u)) := by with_unfolding_all rfl) :
    wpAny (model prog w) A (subscriptTail value slice (.ref l) (.int k u)) Q E s :=
  have hl : s.heap.IsList l vs.toArray := ⟨_, N.get hm, rfl, n, rfl⟩
  tail_any hl.typeIs slot_list_getitem.lookup (wpAny_getItem_list hl h0 hhi (by simpa using hx) h) hs
theorem len_led {h₀ : Heap} {L l : Addr} {news : List (Addr × Obj)} {vs : List Value} {n : Nat} {Q : Value → Shared → Prop}
    (N : News h₀ L s.heap news) (hm : (l, listOf vs.toArray n) ∈ news) (hz : vs.length < 2 ^ 62) (h : Q (.int (vs.length : Int) (s.toks + 1)) { s with toks := s.toks + 1 + 1 }) :
    wpAny (model prog w) A (call (.builtin "len") [.ref l]) Q E s :=
  len_list ⟨_, N.get hm, rfl, n, rfl⟩ (by rw [List.size_toArray]; omega) (by rw [List.size_toArray]; exact h)

/-! The sort that the text does: where a row goes among rows that stand in order, and all rows so. -/
def rowKey (r : Addr × List Value) : Int := match r.2 with | .int x _ :: _ => x | _ => 0
def posOf (d : Bool) (ks : List Int) (x : Int) : Nat → Nat
  | 0 => 0
  | k + 1 => if (if d then decide (ks.getD k 0 < x) else decide (x < ks.getD k 0)) = true then posOf d ks x k else k + 1
def insRow {α : Type} (d : Bool) (key : α → Int) (l : List α) (r : α) : List α := l.take (posOf d (l.map key) (key r) l.length) ++ r :: l.drop (posOf d (l.map key) (key r) l.length)
def sortRows {α : Type} (d : Bool) (key : α → Int) (rs : List α) : List α := rs.foldl (insRow d key) []
theorem posOf_le (d : Bool) (ks : List Int) (x : Int) : ∀ k, posOf d ks x k ≤ k
  | 0 => Nat.le_refl _
  | k + 1 => by
    show (if (if d then decide (ks.getD k 0 < x) else decide (x < ks.getD k 0)) = true then posOf d ks x k else k + 1) ≤ k + 1
    generalize (if d then decide (ks.getD k 0 < x) else decide (x < ks.getD k 0)) = b
    cases b with
    | true => exact Nat.le_succ_of_le (posOf_le d ks x k)
    | false => exact Nat.le_refl _
theorem insRow_length {α : Type} (d : Bool) (key : α → Int) (l : List α) (r : α) : (insRow d key l r).length = l.length + 1 := by
  unfold insRow
  rw [List.length_append, List.length_cons, List.length_take, List.length_drop]
  have := posOf_le d (l.map key) (key r) l.length
  omega
theorem insRow_mem {α : Type} {d : Bool} {key : α → Int} {l : List α} {r y : α} (h : y ∈ insRow d key l r) : y = r ∨ y ∈ l := by
  unfold insRow at h
  rcases List.mem_append.mp h with h | h
  · exact .inr (List.mem_of_mem_take h)
  · rcases List.mem_cons.mp h with h | h
    · exact .inl h
    · exact .inr (List.mem_of_mem_drop h)
theorem sortRows_snoc {α : Type} (d : Bool) (key : α → Int) (rs : List α) (r : α) : sortRows d key (rs ++ [r]) = insRow d key (sortRows d key rs) r := by
  unfold sortRows; rw [List.foldl_append]; rfl
theorem sortRows_mem {α : Type} {d : Bool} {key : α → Int} : ∀ {rs : List α} {acc : List α} {y : α}, y ∈ rs.foldl (insRow d key) acc → y ∈ acc ∨ y ∈ rs
  | [], acc, y, h => .inl h
  | r :: rs, acc, y, h => by
    rcases sortRows_mem (rs := rs) h with h | h
    · rcases insRow_mem h with h | h
      · exact .inr (h ▸ .head _)
      · exact .inl h
    · exact .inr (.tail _ h)
theorem sortRows_length {α : Type} (d : Bool) (key : α → Int) : ∀ (rs acc : List α), (rs.foldl (insRow d key) acc).length = acc.length + rs.length
  | [], acc => rfl
  | r :: rs, acc => by rw [List.foldl_cons, sortRows_length d key rs, insRow_length, List.length_cons]; omega
theorem ins_eq {S : List (Addr × List Value)} {r : Addr × List Value} {d : Bool} {n : Nat} (h : posOf d (S.map rowKey) (rowKey r) S.length = n) (hn : n ≤ S.length) :
    kl_ins (S.map fun r => Value.ref r.1).toArray.toList (n : Int) (.ref r.1) = (insRow d rowKey S r).map fun r => Value.ref r.1 := by
  unfold kl_ins insRow
  have h0 : ¬ ((n : Int) < 0) := by omega
  rw [if_neg h0, h, Int.toNat_natCast, List.length_map, Nat.min_eq_left hn, List.map_append, List.map_cons, List.map_take, List.map_drop]
theorem pos_stop {d : Bool} {ks : List Int} {x : Int} {k : Nat} (h : (if d then decide (ks.getD k 0 < x) else decide (x < ks.getD k 0)) = false) : posOf d ks x (k + 1) = k + 1 := by
  show (if (if d then decide (ks.getD k 0 < x) else decide (x < ks.getD k 0)) = true then posOf d ks x k else k + 1) = k + 1
  rw [h]; rfl
theorem pos_go {d : Bool} {ks : List Int} {x : Int} {k : Nat} (h : (if d then decide (ks.getD k 0 < x) else decide (x < ks.getD k 0)) = true) : posOf d ks x (k + 1) = posOf d ks x k := by
  show (if (if d then decide (ks.getD k 0 < x) else decide (x < ks.getD k 0)) = true then posOf d ks x k else k + 1) = posOf d ks x k
  rw [h]; rfl
theorem news_drop1 {h₀ h : Heap} {L : Addr} {news : List (Addr × Obj)} {p : Addr × Obj} (N : News h₀ L h (p :: news)) : News h₀ L h news := fun q hq => N _ (.tail _ hq)
theorem news_add {h₀ h : Heap} {L : Addr} {news : List (Addr × Obj)} {p : Addr × Obj} (N : News h₀ L h news) (hp : p ∈ news) : News h₀ L h (p :: news) := fun q hq => by
  rcases List.mem_cons.mp hq with rfl | hq
  · exact N _ hp
  · exact N _ hq

/-! A loop over a list of the ledger whose target is any; what lies in the ledger stays. -/
def TurnEnd (h₀ : Heap) (L : Addr) (news : List (Addr × Obj)) (s : Shared) (Q : Flow → Shared → Prop) (J : (Str → Option Value) → Prop) (f : Flow) (s₃ : Shared) : Prop :=
  match f with
  | .ret v => Q (.ret v) s₃
  | .brk => Q .next s₃
  | _ => ∃ h' tk' m', s₃ = { s with heap := h', toks := tk' } ∧ Fr h₀ L h' m' ∧ News h₀ L h' news ∧ J m'
theorem itemsT {env : Env} {h₀ : Heap} {target : Expr} {body : List Stmt} {Q : Flow → Shared → Prop} {l : Addr} {vs : List Value} {nn : Nat} {m₀ : Str → Option Value} {news : List (Addr × Obj)} (J : Nat → (Str → Option Value) → Prop)
    (hh : A.handled = none) (F : Fr h₀ env.locals s.heap m₀) (N : News h₀ env.locals s.heap news) (hm : (l, listOf vs.toArray nn) ∈ news) (hj : J 0 m₀)
    (turn : ∀ i v m₁ h tk own, vs[i]? = some v → J i m₁ → OwnOff own (news.map (·.1)) → Fr h₀ env.locals h m₁ → News h₀ env.locals h (news ++ own) →
      wpAny (model prog w) A (assign target env v) (fun _ s₂ => wpAny (model prog w) A (execs body env) (TurnEnd h₀ env.locals (news ++ own) { s with heap := h, toks := tk } Q (J (i + 1))) E s₂) E { s with heap := h, toks := tk })
    (done : ∀ m₁ h tk, J vs.length m₁ → Fr h₀ env.locals h m₁ → News h₀ env.locals h news → Q .next { s with heap := h, toks := tk }) :
    wpAny (model prog w) A (pyIter (.ref l)) (fun it s₂ => TurnsAt prog w A h₀ env target body Q E it s₂) E s := by
  refine iter_listTurns hh F N hm rfl rfl fun I hI => ?_
  have all : ∀ k i m₁, i + k = vs.length → J i m₁ → ItemsRest prog w A E h₀ env target body Q s [(I, "list_iterator")] [(l, listOf vs.toArray nn)] ((vs.drop i).map .val) m₁ news := by
    intro k
    induction k with
    | zero =>
      intro i m₁ e hJ
      have e' : i = vs.length := e
      subst e'
      rw [List.drop_length]
      exact ItemsRest.zero fun h tk F' N' => done m₁ h tk hJ F' N'
    | succ k ih =>
      intro i m₁ e hJ
      have hlt : i < vs.length := by omega
      rw [List.drop_eq_getElem_cons hlt, List.map_cons]
      refine ItemsRest.val fun h tk F' => AllObj.cons fun o hc => AllObj.nil fun N' => ?_
      have hoff : OwnOff [(I, o)] (news.map (·.1)) := by
        intro p hp b hb
        obtain ⟨q, hq, rfl⟩ := List.mem_map.mp hb
        rw [List.mem_singleton.mp hp]
        exact (Nat.ne_of_lt (hI q hq)).symm
      have N2 : News h₀ env.locals h (news ++ [(I, o)]) := fun p hp => N' p (by
        rcases List.mem_append.mp hp with hp | hp
        · exact .tail _ hp
        · rw [List.mem_singleton.mp hp]; exact .head _)
      refine wpAny_mono (turn i vs[i] m₁ h tk [(I, o)] (List.getElem?_eq_getElem hlt) hJ hoff F' N2) (fun _ s₂ q => wpAny_mono q (fun f s₃ p => ?_) fun _ _ x => x) fun _ _ x => x
      have fin : (∃ h' tk' m', s₃ = { s with heap := h', toks := tk' } ∧ Fr h₀ env.locals h' m' ∧ News h₀ env.locals h' (news ++ [(I, o)]) ∧ J (i + 1) m') →
          UnrEndW h₀ env.locals { s with heap := h, toks := tk } [(I, o)] (fun m' n' => SubL [(l, listOf vs.toArray nn)] n' ∧ ItemsRest prog w A E h₀ env target body Q s [(I, "list_iterator")] [(l, listOf vs.toArray nn)] ((vs.drop (i + 1)).map .val) m' n') s₃ := by
        rintro ⟨h', tk', m', rfl, F3, N3, hJ'⟩
        refine ⟨h', tk', m', news, rfl, F3, fun p hp => N3 p ?_, fun p hp q hq => ?_, ⟨hm, trivial⟩, ih (i + 1) m' (by omega) hJ'⟩
        · rcases List.mem_append.mp hp with hp | hp
          · exact List.mem_append_right _ hp
          · exact List.mem_append_left _ hp
        · rw [List.mem_singleton.mp hq]; exact Nat.ne_of_lt (hI p hp)
      cases f with
      | ret v => exact p
      | brk => exact p
      | next => exact fin p
      | cont => exact fin p
  exact all vs.length 0 m₀ (Nat.zero_add _) hj

theorem mul_led {h₀ : Heap} {L l : Addr} {m : Str → Option Value} {news : List (Addr × Obj)} {items : Array Value} {k : Nat} {x : Int} {u : Tok} {Q : Value → Shared → Prop}
    (F : Fr h₀ L s.heap m) (N : News h₀ L s.heap news) (hm : (l, listOf items k) ∈ news) (hlo : -(2 ^ 63 : Int) ≤ x) (hhi : x < 2 ^ 63) (hsz : items.size * x.toNat ≤ 2 ^ 24)
    (h : ∀ D its' k' h', Fr h₀ L h' m → News h₀ L h' ((D, listOf its' k') :: news) → (∀ p ∈ news, p.1 < D) → Q (.ref D) { s with heap := h' }) :
    wpAny (model prog w) A (binaryOp .Mult (.ref l) (.int x u)) Q E s :=
  mul_list F N (N.get hm) hlo hhi hsz fun h' F' N' => h _ _ _ h' F' N' fun p hp => Heap.lt_size (N p hp).1

theorem len_led2 {h₀ : Heap} {L l : Addr} {news : List (Addr × Obj)} {vs : List Value} {n k : Nat} {Q : Value → Shared → Prop}
    (N : News h₀ L s.heap news) (hm : (l, listOf vs.toArray n) ∈ news) (hz : vs.length = k) (hk : k < 2 ^ 62) (h : Q (.int (k : Int) (s.toks + 1)) { s with toks := s.toks + 1 + 1 }) :
    wpAny (model prog w) A (call (.builtin "len") [.ref l]) Q E s := by
  subst hz
  exact len_led N hm hk h

theorem flat_len {α β : Type} {n : Nat} : ∀ {rs : List (α × List β)}, (∀ r ∈ rs, r.2.length = n) → (rs.flatMap (·.2)).length = rs.length * n
  | [], _ => by simp
  | r :: rs, h => by
    rw [List.flatMap_cons, List.length_append, flat_len fun q hq => h q (.tail _ hq), h r (.head _), List.length_cons, Nat.add_mul, Nat.one_mul, Nat.add_comm]
theorem flat_small {α β : Type} {n : Nat} {rs : List (α × List β)} (h : ∀ r ∈ rs, r.2.length = n) (h1 : rs.length ≤ 1000) (h2 : n ≤ 1000) : (rs.flatMap (·.2)).length ≤ sizeLine := by
  rw [flat_len h]
  exact Nat.le_trans (Nat.mul_le_mul h1 h2) (by decide)

theorem pick_rows {h₀ h : Heap} {L : Addr} {a b c d e f g q : Addr × Obj} {news : List (Addr × Obj)} (N : News h₀ L h (a :: b :: c :: d :: e :: f :: g :: q :: news)) : News h₀ L h ([a, c, d, e, g, f] ++ news) := fun p hp => N p (by
  simp only [List.cons_append, List.nil_append, List.mem_cons] at hp ⊢
  rcases hp with h | h | h | h | h | h | h <;> simp [h])
theorem lt6 {a b c d e f : Addr × Obj} {news : List (Addr × Obj)} (ha : AllLt a.1 news) (hb : ∀ q ∈ news, q.1 < b.1) (hc : AllLt c.1 news) (hd : AllLt d.1 news) (he : AllLt e.1 news) (hf : AllLt f.1 news) :
    ∀ p ∈ [a, b, c, d, e, f], ∀ q ∈ news, q.1 < p.1 := by
  intro p hp q hq
  simp only [List.mem_cons, List.not_mem_nil, or_false] at hp
  rcases hp with rfl | rfl | rfl | rfl | rfl | rfl
  · exact kst_ltOf ha q hq
  · exact hb q hq
  · exact kst_ltOf hc q hq
  · exact kst_ltOf hd q hq
  · exact kst_ltOf he q hq
  · exact kst_ltOf hf q hq
end
end Mine
namespace Mine
open LCg
theorem ne_up0 {a b : Nat} (h : @LT.lt Nat _ a b) : @Ne Nat a (b) := by omega
theorem ne_up1 {a b : Nat} (h : @LT.lt Nat _ a b) : @Ne Nat a (b + 1) := by omega
theorem ne_up2 {a b : Nat} (h : @LT.lt Nat _ a b) : @Ne Nat a (b + 1 + 1) := by omega
theorem ne_up3 {a b : Nat} (h : @LT.lt Nat _ a b) : @Ne Nat a (b + 1 + 1 + 1) := by omega
theorem ne_up4 {a b : Nat} (h : @LT.lt Nat _ a b) : @Ne Nat a (b + 1 + 1 + 1 + 1) := by omega
theorem ne_up5 {a b : Nat} (h : @LT.lt Nat _ a b) : @Ne Nat a (b + 1 + 1 + 1 + 1 + 1) := by omega
theorem ne_up6 {a b : Nat} (h : @LT.lt Nat _ a b) : @Ne Nat a (b + 1 + 1 + 1 + 1 + 1 + 1) := by omega
theorem ne_up7 {a b : Nat} (h : @LT.lt Nat _ a b) : @Ne Nat a (b + 1 + 1 + 1 + 1 + 1 + 1 + 1) := by omega
theorem ne_up8 {a b : Nat} (h : @LT.lt Nat _ a b) : @Ne Nat a (b + 1 + 1 + 1 + 1 + 1 + 1 + 1 + 1) := by omega
theorem ne_up9 {a b : Nat} (h : @LT.lt Nat _ a b) : @Ne Nat a (b + 1 + 1 + 1 + 1 + 1 + 1 + 1 + 1 + 1) := by omega
theorem ne_up10 {a b : Nat} (h : @LT.lt Nat _ a b) : @Ne Nat a (b + 1 + 1 + 1 + 1 + 1 + 1 + 1 + 1 + 1 + 1) := by omega
theorem ne_up11 {a b : Nat} (h : @LT.lt Nat _ a b) : @Ne Nat a (b + 1 + 1 + 1 + 1 + 1 + 1 + 1 + 1 + 1 + 1 + 1) := by omega
/-! Pieces of one length out of a row. -/
theorem flatten_len {α : Type} {n : Nat} : ∀ {cs : List (List α)}, (∀ c ∈ cs, c.length = n) → cs.flatten.length = cs.length * n
  | [], _ => by simp
  | c :: cs, h => by
    rw [List.flatten_cons, List.length_append, flatten_len fun q hq => h q (.tail _ hq), h c (.head _), List.length_cons, Nat.add_mul, Nat.one_mul, Nat.add_comm]
theorem piece_at {α : Type} {n : Nat} : ∀ {cs : List (List α)} {i : Nat} {c : List α}, (∀ c ∈ cs, c.length = n) → cs[i]? = some c → (cs.flatten.drop (i * n)).take n = c
  | [], i, c, _, e => by simp at e
  | d :: cs, 0, c, h, e => by
    have e' : d = c := by simpa using e
    subst e'
    rw [Nat.zero_mul, List.drop_zero, List.flatten_cons, ← h d (.head _), List.take_left']
    rfl
  | d :: cs, i + 1, c, h, e => by
    have e' : cs[i]? = some c := by simpa using e
    rw [List.flatten_cons, Nat.add_mul, Nat.one_mul, Nat.add_comm, ← List.drop_drop]
    have : (d ++ cs.flatten).drop n = cs.flatten := by rw [← h d (.head _), List.drop_left']; rfl
    rw [this]
    exact piece_at (fun q hq => h q (.tail _ hq)) e'
theorem piece_pick {cs : List (List Value)} {n i : Nat} {c : List Value} {x y : Int} (h : ∀ c ∈ cs, c.length = n) (hc : cs[i]? = some c) (hx : x = ((i * n : Nat) : Int)) (hy : y = ((i * n + n : Nat) : Int)) :
    kms_pick cs.flatten (some x) (some y) = c := by
  subst hx hy
  have hi : i < cs.length := (List.getElem?_eq_some_iff.mp hc).1
  have hl := flatten_len h
  have h1 : i * n + n ≤ cs.length * n := by
    have := Nat.mul_le_mul_right n (Nat.succ_le_of_lt hi)
    rwa [Nat.succ_mul] at this
  unfold kms_pick kms_lo kms_hi
  have z1 : ¬ (((i * n : Nat) : Int) < 0) := by omega
  have z2 : ¬ (((i * n + n : Nat) : Int) < 0) := by omega
  simp only [if_neg z1, if_neg z2, Int.toNat_natCast]
  rw [hl, Nat.min_eq_left h1, Nat.min_eq_left (Nat.le_trans (Nat.le_add_right _ _) h1), Nat.add_sub_cancel_left]
  exact piece_at h hc
theorem add_base {h₀ h : Heap} {L : Addr} {a b c : Addr × Obj} {tl base : List (Addr × Obj)} (N : News h₀ L h (a :: b :: c :: (tl ++ base))) : News h₀ L h (base ++ a :: b :: c :: (tl ++ base)) := fun p hp => by
  rcases List.mem_append.mp hp with hp | hp
  · exact N p (.tail _ (.tail _ (.tail _ (List.mem_append_right _ hp))))
  · exact N p hp
theorem add_base3 {h₀ h : Heap} {L : Addr} {a b c : Addr × Obj} {tl base : List (Addr × Obj)} (N : News h₀ L h (a :: b :: c :: (tl ++ base))) : News h₀ L h (a :: b :: c :: (base ++ (tl ++ base))) := fun p hp => by
  rcases List.mem_cons.mp hp with rfl | hp
  · exact N _ (.head _)
  rcases List.mem_cons.mp hp with rfl | hp
  · exact N _ (.tail _ (.head _))
  rcases List.mem_cons.mp hp with rfl | hp
  · exact N _ (.tail _ (.tail _ (.head _)))
  rcases List.mem_append.mp hp with hp | hp
  · exact N p (.tail _ (.tail _ (.tail _ (List.mem_append_right _ hp))))
  · exact N p (.tail _ (.tail _ (.tail _ hp)))
theorem off1_ne {D : Addr} : ∀ {news : List (Addr × Obj)}, Off1 D news → ∀ p ∈ news, @Ne Nat p.1 D
  | [], _, p, hp => by cases hp
  | q :: r, h, p, hp => by
    rcases List.mem_cons.mp hp with rfl | hp
    · exact h.1
    · exact off1_ne h.2 p hp
theorem pick_copy {h₀ h : Heap} {L : Addr} {a b c d e1 e2 e3 e4 e5 e6 : Addr × Obj} {news : List (Addr × Obj)} (N : News h₀ L h (a :: b :: c :: d :: e1 :: e2 :: e3 :: e4 :: e5 :: e6 :: news)) : News h₀ L h ([a, c, d] ++ news) := fun p hp => N p (by
  simp only [List.cons_append, List.nil_append, List.mem_cons] at hp ⊢
  rcases hp with h | h | h | h <;> simp [h])
theorem ne3 {a b c : Addr × Obj} {news : List (Addr × Obj)} (ha : ∀ q ∈ news, q.1 < a.1) (hb : ∀ q ∈ news, q.1 < b.1) (hc : ∀ q ∈ news, q.1 < c.1) : ∀ p ∈ [a, b, c], ∀ q ∈ news, @Ne Nat q.1 p.1 := by
  intro p hp q hq
  simp only [List.mem_cons, List.not_mem_nil, or_false] at hp
  rcases hp with rfl | rfl | rfl
  · exact Nat.ne_of_lt (ha q hq)
  · exact Nat.ne_of_lt (hb q hq)
  · exact Nat.ne_of_lt (hc q hq)
theorem rows_swap {h₀ h : Heap} {L : Addr} {a : Addr × Obj} {tl base : List (Addr × Obj)} (N : News h₀ L h (a :: (tl ++ base))) : News h₀ L h (a :: (base ++ tl)) := fun p hp => by
  rcases List.mem_cons.mp hp with rfl | hp
  · exact N _ (.head _)
  rcases List.mem_append.mp hp with hp | hp
  · exact N p (.tail _ (List.mem_append_right _ hp))
  · exact N p (.tail _ (List.mem_append_left _ hp))
/-- the key of a row by its values alone -/
def lstKey (r : List Value) : Int := match r with | .int x _ :: _ => x | _ => 0
theorem insRow_map {α β : Type} {f : α → β} {d : Bool} {k1 : α → Int} {k2 : β → Int} (hk : ∀ a, k2 (f a) = k1 a) (l : List α) (r : α) : (insRow d k1 l r).map f = insRow d k2 (l.map f) (f r) := by
  unfold insRow
  have e : (l.map f).map k2 = l.map k1 := by rw [List.map_map]; exact List.map_congr_left fun a _ => hk a
  rw [e, hk, List.map_append, List.map_cons, List.map_take, List.map_drop, List.length_map]
theorem sortRows_map {α β : Type} {f : α → β} {d : Bool} {k1 : α → Int} {k2 : β → Int} (hk : ∀ a, k2 (f a) = k1 a) : ∀ (rs acc : List α), (rs.foldl (insRow d k1) acc).map f = (rs.map f).foldl (insRow d k2) (acc.map f)
  | [], _ => rfl
  | r :: rs, acc => by
    rw [List.foldl_cons, sortRows_map hk rs, insRow_map hk, List.map_cons, List.foldl_cons]
theorem sort_flat (d : Bool) (rs : List (Addr × List Value)) : (sortRows d rowKey rs).flatMap (·.2) = (sortRows d lstKey (rs.map (·.2))).flatten := by
  have h : (sortRows d rowKey rs).map (·.2) = sortRows d lstKey (rs.map (·.2)) := sortRows_map (f := fun r : Addr × List Value => r.2) (k1 := rowKey) (k2 := lstKey) (fun _ => rfl) rs []
  rw [← h, List.flatMap_def]
theorem row_first {rs : List (Addr × List Value)} {cs : List (List Value)} {n : Nat} (hm : rs.map (·.2) = cs) (h1 : 1 ≤ cs.length) (hcs : ∀ c ∈ cs, c.length = n) :
    ∃ r0, rs[0]? = some r0 ∧ r0.2.length = n ∧ (rs.map fun r => Value.ref r.1)[(0 : Int).toNat]? = some (Value.ref r0.1) := by
  subst hm
  rw [List.length_map] at h1
  refine ⟨rs[0], List.getElem?_eq_getElem h1, hcs _ (List.mem_map.mpr ⟨_, List.getElem_mem h1, rfl⟩), ?_⟩
  show (rs.map fun r => Value.ref r.1)[0]? = _
  rw [List.getElem?_map, List.getElem?_eq_getElem h1]; rfl
theorem ne_split7 {D : Addr} {a b c d e f g : Addr × Obj} {news : List (Addr × Obj)} (h : ∀ q ∈ a :: b :: c :: d :: e :: f :: g :: news, @Ne Nat q.1 D) :
    @Ne Nat a.1 D ∧ @Ne Nat b.1 D ∧ @Ne Nat c.1 D ∧ @Ne Nat d.1 D ∧ @Ne Nat e.1 D ∧ @Ne Nat f.1 D ∧ @Ne Nat g.1 D ∧ ∀ q ∈ news, @Ne Nat q.1 D :=
  ⟨h _ (.head _), h _ (.tail _ (.head _)), h _ (.tail _ (.tail _ (.head _))), h _ (.tail _ (.tail _ (.tail _ (.head _)))), h _ (.tail _ (.tail _ (.tail _ (.tail _ (.head _))))), h _ (.tail _ (.tail _ (.tail _ (.tail _ (.tail _ (.head _)))))),
    h _ (.tail _ (.tail _ (.tail _ (.tail _ (.tail _ (.tail _ (.head _))))))), fun q hq => h q (.tail _ (.tail _ (.tail _ (.tail _ (.tail _ (.tail _ (.tail _ hq)))))))⟩
theorem pick_sort {h₀ h : Heap} {L : Addr} {a b c d e e1 e2 e3 e4 e5 e6 e7 : Addr × Obj} {news tl : List (Addr × Obj)} (N : News h₀ L h (a :: b :: c :: d :: e :: e1 :: e2 :: e3 :: e4 :: e5 :: e6 :: e7 :: (news ++ tl))) : News h₀ L h ([a, d, e] ++ news) := fun p hp => N p (by
  simp only [List.cons_append, List.nil_append, List.mem_cons, List.mem_append] at hp ⊢
  rcases hp with h | h | h | h <;> simp [h])
theorem ne3' {a b c : Addr × Obj} {news : List (Addr × Obj)} (ha : ∀ q ∈ news, @Ne Nat q.1 a.1) (hb : ∀ q ∈ news, @Ne Nat q.1 b.1) (hc : ∀ q ∈ news, @Ne Nat q.1 c.1) : ∀ p ∈ [a, b, c], ∀ q ∈ news, @Ne Nat q.1 p.1 := by
  intro p hp q hq
  simp only [List.mem_cons, List.not_mem_nil, or_false] at hp
  rcases hp with rfl | rfl | rfl
  · exact ha q hq
  · exact hb q hq
  · exact hc q hq
/-- a number and its token as a value -/
abbrev tv (p : Int × Tok) : Value := .int p.1 p.2
theorem flat_single {α : Type} (f : α → Value) : ∀ l : List α, (l.map fun a => [f a]).flatten = l.map f
  | [] => rfl
  | a :: l => by rw [List.map_cons, List.flatten_cons, flat_single f l, List.map_cons]; rfl
theorem sort_single (d : Bool) (ps : List (Int × Tok)) : (sortRows d lstKey (ps.map fun p => [tv p])).flatten = (sortRows d Prod.fst ps).map tv := by
  have h : (sortRows d Prod.fst ps).map (fun p => [tv p]) = sortRows d lstKey (ps.map fun p => [tv p]) := sortRows_map (f := fun p : Int × Tok => [tv p]) (k1 := Prod.fst) (k2 := lstKey) (fun _ => rfl) ps []
  rw [← h, flat_single]
theorem take_pos {ps : List (Int × Tok)} {i : Nat} {p : Int × Tok} (h : ps.take (i + 1) = ps.take i ++ [p]) (hp : 0 < p.1) :
    ((ps.take (i + 1)).filter fun p => decide (0 < p.1)).map (fun p => [tv p]) = ((ps.take i).filter fun p => decide (0 < p.1)).map (fun p => [tv p]) ++ [[tv p]] := by
  rw [h, List.filter_append, List.map_append, List.filter_cons, if_pos (decide_eq_true hp), List.filter_nil]; rfl
theorem take_neg {ps : List (Int × Tok)} {i : Nat} {p : Int × Tok} (h : ps.take (i + 1) = ps.take i ++ [p]) (hp : ¬ 0 < p.1) :
    ((ps.take (i + 1)).filter fun p => decide (0 < p.1)).map (fun p => [tv p]) = ((ps.take i).filter fun p => decide (0 < p.1)).map (fun p => [tv p]) := by
  rw [h, List.filter_append, List.filter_cons, if_neg (by rw [decide_eq_true_iff]; exact hp), List.filter_nil, List.append_nil]
/-- as Tell, where what is laid is only said to be none of what lay -/
def Tell1 (rw : OpenLaw) (K : Params → Frag) (vw : Program) (w : World) (mean : ExcName → Option Value) (mg mb : Str → Option Value) (f : Addr) (news : List (Addr × Obj)) (vs : List Value) (room : Nat) (Post : Value → List (Addr × Obj) → Prop) : Prop :=
  ∀ (dp un : Nat) (gd : Option (List Code)) (cn : Str) (cs : Scope) (a : Addr) (ccd : Value) (cl : List (Str × Addr)) (outer : List Env) (A₀ : Around) (base h₀ : Heap) (L : Addr) (m : Str → Option Value) (s : Shared) (Q E : Value → Shared → Prop),
    Below A₀ base outer h₀ → Fr h₀ L s.heap m → (K w.params).In h₀ → News h₀ L s.heap news → Top vw (looseW vw [Str.ofString "SnobolError"]) mean mg mb h₀ → cs.kind = .function → dp + room < recursionLimit → un + 8 * room < cLine →
    (∀ r tl h' tk', Fr h₀ L h' m → News h₀ L h' (tl ++ news) → (∀ p ∈ tl, ∀ q ∈ news, @Ne Nat q.1 p.1) → Post r tl → Q r { s with heap := h', toks := tk' }) →
    wpAny (model rw.row.prog w) (ktrTop dp un gd cn cs L a ccd cl outer) (call (.ref f) vs) Q E s
theorem Tell1.use {rw : OpenLaw} {K : Params → Frag} {vw : Program} {w : World} {mean : ExcName → Option Value} {mg mb : Str → Option Value} {f : Addr} {news : List (Addr × Obj)} {vs : List Value} {room : Nat} {Post : Value → List (Addr × Obj) → Prop} (C : Tell1 rw K vw w mean mg mb f news vs room Post)
    {dp un : Nat} {gd : Option (List Code)} {cn : Str} {cs : Scope} {a : Addr} {ccd : Value} {cl : List (Str × Addr)} {outer : List Env} {A₀ : Around} {base h₀ : Heap} {L : Addr} {m : Str → Option Value} {s : Shared} {Q E : Value → Shared → Prop}
    (B : Below A₀ base outer h₀) (F : Fr h₀ L s.heap m) (X : (K w.params).In h₀) (N : News h₀ L s.heap news) (T : Top vw (looseW vw [Str.ofString "SnobolError"]) mean mg mb h₀) (hk : cs.kind = .function) (hd : dp + room < recursionLimit) (hu : un + 8 * room < cLine)
    (ret : ∀ r tl h' tk', Fr h₀ L h' m → News h₀ L h' (tl ++ news) → (∀ p ∈ tl, ∀ q ∈ news, @Ne Nat q.1 p.1) → Post r tl → Q r { s with heap := h', toks := tk' }) :
    wpAny (model rw.row.prog w) (ktrTop dp un gd cn cs L a ccd cl outer) (call (.ref f) vs) Q E s := C _ _ _ _ _ _ _ _ _ _ _ _ _ _ _ _ _ B F X N T hk hd hu ret
theorem range_step {n w : Nat} {c : Int} (hn : 1 ≤ n) (hw : 1 ≤ w) (hw2 : w ≤ 1000) (hb : n * w ≤ 1000 * 1000) (hc : c = (w : Int)) : Builtin.Range.small 0 ((n * w : Nat) : Int) c = true ∧ Builtin.Range.rangeSize 0 ((n * w : Nat) : Int) c = (n : Int) := by
  subst hc
  have h1 : 1 ≤ n * w := Nat.mul_pos hn hw
  have h2 : Builtin.Range.rangeSize 0 ((n * w : Nat) : Int) (w : Int) = (n : Int) := by
    unfold Builtin.Range.rangeSize
    rw [if_pos (by omega), if_pos (by omega)]
    have e : ((n * w : Nat) : Int) - 0 - 1 = ((w : Int) - 1) + ((n : Int) - 1) * (w : Int) := by
      rw [Int.natCast_mul, Int.sub_mul]; omega
    rw [e, Int.add_mul_ediv_right _ _ (by omega), Int.ediv_eq_zero_of_lt (by omega) (by omega)]
    omega
  have h3 : n ≤ n * w := Nat.le_mul_of_pos_right _ hw
  refine ⟨?_, h2⟩
  have f1 : Builtin.Range.rangeFitsLong 0 = true := by decide
  have fits : ∀ x : Int, 0 ≤ x → x ≤ 2000000 → Builtin.Range.rangeFitsLong x = true := fun x a b => by
    unfold Builtin.Range.rangeFitsLong
    rw [Bool.and_eq_true]
    exact ⟨decide_eq_true (by omega), decide_eq_true (by omega)⟩
  have f2 := fits ((n * w : Nat) : Int) (by omega) (by omega)
  have f3 := fits (w : Int) (by omega) (by omega)
  have f4 := fits (n : Int) (by omega) (by omega)
  have f5 := fits (((n * w : Nat) : Int) + ((w : Int) - 1)) (by omega) (by omega)
  have f6 : (w : Int) > 0 := by omega
  unfold Builtin.Range.small
  simp only [h2, f1, f2, f3, f4, f5, if_pos f6, Bool.and_self, Bool.or_true]
section
variable {prog : Program} {w : World} {A : Around} {E : Value → Shared → Prop} {s : Shared} {h₀ : Heap} {L : Addr} {m : Str → Option Value} {env : Env}
/-- a block over a range of any step -/
def SrcStep (prog : Program) (w : World) (A : Around) (h₀ : Heap) (L : Addr) (m : Str → Option Value) (env : Env) (elt : Expr) (x : Str) (scope : Scope) (cl : List (Str × Addr)) (Fin : Shared → List Value → List (Addr × Obj) → Prop) (xv : Value) (s₁ : Shared) : Prop :=
  ∃ r a b c t u v n news, xv = .ref r ∧ A.handled = none ∧ Fr h₀ L s₁.heap m ∧ News h₀ L s₁.heap news ∧ IsRange s₁.heap r a b c t u v ∧ Builtin.Range.small a b c = true ∧ Builtin.Range.rangeSize a b c = ((n : Nat) : Int) ∧ n ≤ sizeLine ∧
    ∀ s₂ : Shared, (∃ h, s₂ = { s₁ with heap := h }) → CompRest prog w A h₀ L m env elt x scope cl s₂ (fun _ => True) (fun i v => ∃ t, v = .int (a + (i : Int) * c) t) (Fin s₂) n 0 [] news
theorem step_st {I : Addr} {a c : Int} {n : Nat} : ∀ i (h h' : Heap) (o : Obj) (nw : List (Addr × Obj)), IsRangeIter h I (a + (i : Nat) * c) ((n : Int) - (i : Nat)) c → h.get? I = some o → h'.get? I = some o → (∀ b o, h₀.get? b = some o → h'.get? b = some o) → News h₀ L h' nw → True → IsRangeIter h' I (a + (i : Nat) * c) ((n : Int) - (i : Nat)) c :=
  fun i h h' o nw st e e' _ _ _ => by
    have st' : h.get? I = some _ := st
    show h'.get? I = some _
    rw [e', ← e]; exact st'
theorem ListComp_step {elt iter : Expr} {x : Str} {px : Pos} {scope : Scope} {cl : List (Str × Addr)} {pos : Pos} {Q : Value → Shared → Prop} (_F₀ : Fr h₀ L s.heap m)
    (hclos : closureFor scope env = pure cl) (hcell : ∀ y ∈ scope.names, y.2 ≠ .cell) (hkind : scope.kind = .function)
    (hnames : ∀ y ∈ scope.names, y.2 = .local → scope.names.lookup y.1 = some .local) (hx : scope.names.lookup x = some .local)
    (h : wpAny (model prog w) A (eval iter env) (SrcStep prog w A h₀ L m env elt x scope cl (fun s₂ => FinE h₀ L m s₂ Q)) E s)
    (hs : ∀ x, foldedSetIterable iter env x = pure x := by intro _; rfl) :
    wpAny (model prog w) A (eval (.ListComp elt [⟨.Name x px, iter, [], 0⟩] scope pos) env) Q E s := by
  rw [eval_ListComp]
  refine wpAny_comprehension_free (use := none) rfl hs hclos hkind hnames (wpAny_mono h (fun xv s₁ h₁ => ?_) fun _ _ e => e)
  obtain ⟨r, a, b, c, t, u, v, n, news, rfl, hh, F, N, hr, hsm, hn, hsz, R⟩ := h₁
  refine wpAny_pyIter_range hr hsm ?_
  refine block_U (Walks.range hh s₁.heap.objs.size a c n) hsz (fun i h st => ⟨_, st⟩) step_st hcell hkind hx (by show IsRangeIter _ _ _ _ _; rw [hn]; simpa using Heap.get?_push_size _ rfl) (fun b hb => ?_)
    (F.keeps fun _ _ e => Heap.get?_push_of_some _ e) (N.grown fun _ _ e => Heap.get?_push_of_some _ e) (Nat.ne_of_lt F.ns.lt) (next_is_new F) (fun p hp => Nat.ne_of_lt (Heap.lt_size (N p hp).1)) trivial (R _ ⟨_, rfl⟩) ?_
  · rw [List.mem_singleton.mp hb]
    show s₁.heap.objs.size < (s₁.heap.push _).objs.size
    rw [Heap.size_push]; exact Nat.lt_succ_self _
  · intro D C h tk m' ys news' F' N' o1 hn hC₀ hD₀ hCL hDL hCD offC fin
    refine ⟨m', hn, fun h'' hs'' => fin D h'' tk (F'.change hs'' hCL hC₀) (fun p hp => ?_) o1⟩
    refine ⟨hs''.extBut _ _ ?_ (N' p hp).1, (N' p hp).2⟩
    rcases List.mem_cons.mp hp with rfl | hp
    · exact Ne.symm hCD
    · exact offC p hp
end
end Mine
namespace Mine
open LCg
/-- a heap's part of the sum of the cards' places -/
def placeAt (xs : List Int) (k : Nat) : Int := (k : Int) * xs.getD k 0 + Int.fdiv (xs.getD k 0 * (xs.getD k 0 - 1)) 2
def places (xs : List Int) : Int := ((List.range xs.length).map (placeAt xs)).sum
theorem ints_tv : ∀ ps : List (Int × Tok), IntsAre (ps.map tv) (ps.map (·.1))
  | [] => .nil
  | p :: ps => .cons p.1 p.2 (ints_tv ps)
theorem sum_led {prog : Program} {w : World} {A : Around} {E : Value → Shared → Prop} {s : Shared} {h₀ : Heap} {L : Addr} {m : Str → Option Value} {news : List (Addr × Obj)} {l : Addr} {k : Nat} {ps : List (Int × Tok)} {Q : Value → Shared → Prop} (hh : A.handled = none) (F : Fr h₀ L s.heap m) (N : News h₀ L s.heap news) (hm : (l, listOf (ps.map tv).toArray k) ∈ news)
    (h : ∀ h' tk t', Fr h₀ L h' m → News h₀ L h' news → Q (.int (ps.map (·.1)).sum t') { s with heap := h', toks := tk }) : wpAny (model prog w) A (call (.builtin "sum") [.ref l]) Q E s :=
  sumK hh F N ⟨_, N.get hm, rfl, k, rfl⟩ (ints_tv ps) h
end Mine
namespace Mine
/-! The heaps by their numbers alone: what is asked is so of every heap of 1, 3, 6 and 10 cards. -/
def srt (l : List Int) : List Int := sortRows true (fun x => x) (l.filter fun x => decide (0 < x))
def laidI (xs : List Int) : List Int := (xs.length : Int) :: xs.map fun x => x - 1
def deal (xs : List Int) : List Int := srt (laidI xs)
def dueI (s : Nat) : List Int := (List.range s).map fun (i : Nat) => (s : Int) - (i : Int)
def comps : Nat → Nat → List (List Int)
  | 0, n => if n = 0 then [[]] else []
  | f + 1, n => if n = 0 then [[]] else (List.range n).flatMap fun k => (comps f (n - (k + 1))).map fun r => ((k + 1 : Nat) : Int) :: r
def partsOf : Nat → Nat → Nat → List (List Int)
  | 0, n, _ => if n = 0 then [[]] else []
  | f + 1, n, mx => if n = 0 then [[]] else (List.range (min n mx)).flatMap fun k => (partsOf f (n - (k + 1)) (k + 1)).map fun r => ((k + 1 : Nat) : Int) :: r
def dealN : Nat → List Int → List Int
  | 0, p => p
  | k + 1, p => dealN k (deal p)
def goodPart (s n : Nat) (p : List Int) : Bool :=
  (partsOf n n n).contains (deal p) && (deal p).sum == (n : Int) && places (laidI p) == places p && decide (places (deal p) ≤ places (laidI p)) && decide (1 ≤ p.length ∧ p.length ≤ 10) && p.all (fun x => decide (1 ≤ x ∧ x ≤ 10)) && dealN (s * s - s) p == dueI s
def goodAll (s n : Nat) : Bool :=
  ((comps n n).all fun c => (partsOf n n n).contains (srt c)) && ((partsOf n n n).all (goodPart s n)) && deal (dueI s) == dueI s && (partsOf n n n).contains (dueI s)
theorem comps_mem : ∀ (c : List Int) (f n : Nat), n ≤ f → (∀ x ∈ c, 1 ≤ x) → c.sum = (n : Int) → c ∈ comps f n
  | [], 0, n, h, _, hs => by
    have : n = 0 := by omega
    subst this; exact .head _
  | [], f + 1, n, h, _, hs => by
    have e : n = 0 := by
      have : (0 : Int) = (n : Int) := hs
      omega
    subst e; exact .head _
  | x :: c, f, n, h, hp, hs => by
    have hx := hp x (.head _)
    have hc : 0 ≤ c.sum := by
      have : ∀ l : List Int, (∀ y ∈ l, 1 ≤ y) → 0 ≤ l.sum := fun l => by
        induction l with
        | nil => intro _; exact Int.le_refl _
        | cons y l ih => intro hy; rw [List.sum_cons]; have := hy y (.head _); have := ih fun z hz => hy z (.tail _ hz); omega
      exact this c fun y hy => hp y (.tail _ hy)
    rw [List.sum_cons] at hs
    cases f with
    | zero => omega
    | succ f =>
      have hn : n ≠ 0 := by omega
      show _ ∈ (if n = 0 then _ else _)
      rw [if_neg hn]
      obtain ⟨k, rfl⟩ : ∃ k : Nat, x = ((k + 1 : Nat) : Int) := ⟨(x - 1).toNat, by omega⟩
      refine List.mem_flatMap.mpr ⟨k, List.mem_range.mpr (by omega), List.mem_map.mpr ⟨c, comps_mem c f _ (by omega) (fun y hy => hp y (.tail _ hy)) (by omega), rfl⟩⟩
theorem good1 : goodAll 1 1 = true := by decide +kernel
theorem good2 : goodAll 2 3 = true := by decide +kernel
theorem good3 : goodAll 3 6 = true := by decide +kernel
theorem good4 : goodAll 4 10 = true := by decide +kernel
theorem good_of {s : Nat} (h1 : 1 ≤ s) (h4 : s ≤ 4) : ∃ n : Nat, Int.fdiv ((s : Int) * ((s : Int) + 1)) 2 = (n : Int) ∧ 1 ≤ n ∧ n ≤ 10 ∧ goodAll s n = true := by
  rcases (by omega : s = 1 ∨ s = 2 ∨ s = 3 ∨ s = 4) with rfl | rfl | rfl | rfl
  · exact ⟨1, by decide, by decide, by decide, good1⟩
  · exact ⟨3, by decide, by decide, by decide, good2⟩
  · exact ⟨6, by decide, by decide, by decide, good3⟩
  · exact ⟨10, by decide, by decide, by decide, good4⟩
theorem has_iff {l : List (List Int)} {p : List Int} (h : l.contains p = true) : p ∈ l := by simpa using h
theorem good_start {s n : Nat} (g : goodAll s n = true) {c : List Int} (hp : ∀ x ∈ c, 1 ≤ x) (hs : c.sum = (n : Int)) : srt c ∈ partsOf n n n := by
  unfold goodAll at g
  simp only [Bool.and_eq_true, List.all_eq_true] at g
  exact has_iff (g.1.1.1 c (comps_mem c n n (Nat.le_refl _) hp hs))
theorem good_due {s n : Nat} (g : goodAll s n = true) : deal (dueI s) = dueI s ∧ dueI s ∈ partsOf n n n := by
  unfold goodAll at g
  simp only [Bool.and_eq_true, beq_iff_eq] at g
  exact ⟨g.1.2, has_iff g.2⟩
theorem good_turn {s n : Nat} (g : goodAll s n = true) {p : List Int} (hp : p ∈ partsOf n n n) :
    deal p ∈ partsOf n n n ∧ (deal p).sum = (n : Int) ∧ places (laidI p) = places p ∧ places (deal p) ≤ places (laidI p) ∧ (1 ≤ p.length ∧ p.length ≤ 10) ∧ (∀ x ∈ p, 1 ≤ x ∧ x ≤ 10) ∧ dealN (s * s - s) p = dueI s := by
  unfold goodAll at g
  simp only [Bool.and_eq_true, List.all_eq_true] at g
  have h := g.1.1.2 p hp
  unfold goodPart at h
  simp only [Bool.and_eq_true, List.all_eq_true, beq_iff_eq, decide_eq_true_eq] at h
  obtain ⟨⟨⟨⟨⟨⟨a, b⟩, c⟩, d⟩, e⟩, f⟩, i⟩ := h
  exact ⟨has_iff a, b, c, d, e, f, i⟩
theorem deal_next {s n k : Nat} (g : goodAll s n = true) {p : List Int} (h : dealN (s * s - s - k) p = dueI s) : dealN (s * s - s - (k + 1)) (deal p) = dueI s := by
  cases hm : s * s - s - k with
  | zero =>
    rw [hm] at h
    have e : s * s - s - (k + 1) = 0 := by omega
    have h' : p = dueI s := h
    rw [e, h']
    exact (good_due g).1
  | succ m =>
    rw [hm] at h
    have e : s * s - s - (k + 1) = m := by omega
    rw [e]; exact h
theorem srt_fst (ps : List (Int × Tok)) : (sortRows true Prod.fst (ps.filter fun p => decide (0 < p.1))).map (·.1) = srt (ps.map (·.1)) := by
  have h := sortRows_map (f := fun p : Int × Tok => p.1) (d := true) (k1 := Prod.fst) (k2 := fun x => x) (fun _ => rfl) (ps.filter fun p => decide (0 < p.1)) []
  refine h.trans ?_
  unfold srt sortRows
  rw [List.filter_map]; rfl
end Mine
namespace Mine
section
variable {prog : Program} {w : World} {A : Around} {E : Value → Shared → Prop} {s : Shared} {h₀ : Heap} {env : Env} {x : Str} {body : List Stmt} {Q : Flow → Shared → Prop}
/-- a loop over a range by what holds of the turn's number, the frame and the ledger -/
theorem rangeU_ind {I : Addr} {a : Int} {n : Nat} (J : Nat → (Str → Option Value) → List (Addr × Obj) → Prop)
    (turn : ∀ i m news t h tk, i < n → J i m news → Fr h₀ env.locals h (fun y => if y = x then some (.int (a + (i : Int)) t) else m y) → News h₀ env.locals h ((I, itR (a + ((i + 1 : Nat) : Int)) ((n : Int) - ((i + 1 : Nat) : Int))) :: news) →
      wpAny (model prog w) A (execs body env) (UnrPost h₀ env.locals { s with heap := h, toks := tk } I (itR (a + ((i + 1 : Nat) : Int)) ((n : Int) - ((i + 1 : Nat) : Int))) (J (i + 1)) Q) E { s with heap := h, toks := tk })
    (done : ∀ m news h tk, J n m news → Fr h₀ env.locals h m → News h₀ env.locals h news → Q .next { s with heap := h, toks := tk }) :
    ∀ k i m news, i + k = n → J i m news → RangeRest prog w A E h₀ env x body Q s I a n k i m news
  | 0, i, m, news, e, hj => by
    subst e
    exact RangeRest.zero fun h tk F N => done m news h tk hj F N
  | k + 1, i, m, news, e, hj => by
    refine RangeRest.succ fun t h tk F N => ?_
    refine wpAny_mono (turn i m news t h tk (by omega) hj F N) (fun f s₂ q => ?_) fun _ _ e => e
    have up : UnrEnd h₀ env.locals { s with heap := h, toks := tk } I (itR (a + ((i + 1 : Nat) : Int)) ((n : Int) - ((i + 1 : Nat) : Int))) (J (i + 1)) s₂ → UnrEnd h₀ env.locals { s with heap := h, toks := tk } I (itR (a + ((i + 1 : Nat) : Int)) ((n : Int) - ((i + 1 : Nat) : Int))) (RangeRest prog w A E h₀ env x body Q s I a n k (i + 1)) s₂ := by
      rintro ⟨h', tk', m', news', e', F', N', off, j⟩
      exact ⟨h', tk', m', news', e', F', N', off, rangeU_ind J turn done k (i + 1) m' news' (by omega) j⟩
    cases f with
    | ret v => exact q
    | brk => exact q
    | next => exact up q
    | cont => exact up q
end
theorem ints_pairs {vs : List Value} {xs : List Int} (h : IntsAre vs xs) : ∃ ps : List (Int × Tok), vs = ps.map tv ∧ xs = ps.map (·.1) := by
  induction h with
  | nil => exact ⟨[], rfl, rfl⟩
  | cons n t _ ih =>
    obtain ⟨ps, e1, e2⟩ := ih
    exact ⟨(n, t) :: ps, by rw [e1]; rfl, by rw [e2]; rfl⟩
theorem Tell1.mono {rw : OpenLaw} {K : Params → Frag} {vw : Program} {w : World} {mean : ExcName → Option Value} {mg mb : Str → Option Value} {f : Addr} {news : List (Addr × Obj)} {vs : List Value} {room : Nat} {Post Post' : Value → List (Addr × Obj) → Prop} (C : Tell1 rw K vw w mean mg mb f news vs room Post)
    (h : ∀ r tl, Post r tl → Post' r tl) : Tell1 rw K vw w mean mg mb f news vs room Post' :=
  fun _ _ _ _ _ _ _ _ _ _ _ _ _ _ _ _ _ B F X N T hk hd hu ret => C _ _ _ _ _ _ _ _ _ _ _ _ _ _ _ _ _ B F X N T hk hd hu fun r tl h' tk' F' N' l p => ret r tl h' tk' F' N' l (h r tl p)
theorem filter_ne {ps : List (Int × Tok)} (h : ∃ x ∈ ps.map (·.1), 0 < x) : 1 ≤ (ps.filter fun p => decide (0 < p.1)).length := by
  obtain ⟨x, hx, h0⟩ := h
  obtain ⟨p, hp, rfl⟩ := List.mem_map.mp hx
  exact List.length_pos_of_mem (List.mem_filter.mpr ⟨hp, decide_eq_true h0⟩)
theorem take2_small {α : Type} (l : List α) : (List.take 2 l).length < 2 ^ 62 := Nat.lt_of_le_of_lt (List.length_take_le 2 l) (by decide)
theorem steps_of {o : Obj} {X : Int} {t : Tok} (_d : o.data = .cell (some (.int (1 + X.fmod 4) t))) : ∃ s : Nat, 1 ≤ s ∧ s ≤ 4 ∧ 1 + X.fmod 4 = (s : Int) := by
  have h0 := Int.fmod_nonneg_of_pos X (b := 4) (by decide)
  have h1 := Int.fmod_lt_of_pos X (b := 4) (by decide)
  exact ⟨(1 + X.fmod 4).toNat, by omega, by omega, by omega⟩
theorem start_w2 {h₀ h : Heap} {L b c : Addr} {W T : Int} {tw tt : Tok} {k : Nat} {o : Obj} {r : Str → Option Value} {news : List (Addr × Obj)}
    (F : Fr h₀ L h (fun y => if y = Str.ofString "whole" then some (.int W tw) else if y = Str.ofString "heaps" then some (.ref b) else if y = Str.ofString "told" then some (.int T tt) else r y)) (N : News h₀ L h news) (h1 : (b, listOf #[] k) ∈ news) (h2 : (c, o) ∈ news) (hlt : @LT.lt Nat _ c b) :
    ∃ (b : Addr) (r : Str → Option Value) (T : Int) (tw tt : Tok) (k : Nat), Fr h₀ L h (fun y => if y = Str.ofString "whole" then some (.int W tw) else if y = Str.ofString "heaps" then some (.ref b) else if y = Str.ofString "told" then some (.int T tt) else r y) ∧ News h₀ L h [(b, listOf ([] : List Value).toArray k), (c, o)] ∧ @LT.lt Nat _ c b :=
  ⟨b, r, T, tw, tt, k, F, fun p hp => by
    rcases List.mem_cons.mp hp with rfl | hp
    · exact N _ h1
    · rw [List.mem_singleton.mp hp]; exact N _ h2, hlt⟩
theorem ints_snoc {vs : List Value} {xs : List Int} (h : IntsAre vs xs) (x : Int) (t : Tok) : IntsAre (vs ++ [.int x t]) (xs ++ [x]) := by
  obtain ⟨ps, rfl, rfl⟩ := ints_pairs h
  have := ints_tv (ps ++ [(x, t)])
  rwa [List.map_append, List.map_append] at this
theorem w2_next {h₀ h : Heap} {L b : Addr} {T l x : Int} {tt tl t : Tok} {u1 u2 a hb : Option Value} {bl : Str → Option Value} {vs : List Value} {xs : List Int} {k : Nat} {q : Addr × Obj}
    (F : Fr h₀ L h (fun y => if y = Str.ofString "told" then some (.int T tt) else if y = Str.ofString "left" then some (.int l tl) else if y = Str.ofString "left" then u1 else if y = Str.ofString "told" then u2 else if y = Str.ofString "whole" then a else if y = Str.ofString "heaps" then hb else bl y))
    (N : News h₀ L h [(b, listOf (vs.toArray.push (.int x t)) k), q]) (hI : IntsAre vs xs) :
    ∃ (ul : Option Value) (T : Int) (tt : Tok) (vs' : List Value) (k : Nat), Fr h₀ L h (fun y => if y = Str.ofString "left" then ul else if y = Str.ofString "told" then some (.int T tt) else if y = Str.ofString "whole" then a else if y = Str.ofString "heaps" then hb else bl y) ∧ News h₀ L h [(b, listOf vs'.toArray k), q] ∧ IntsAre vs' (xs ++ [x]) := by
  refine ⟨some (.int l tl), T, tt, vs ++ [.int x t], k, ?_, ?_, ints_snoc hI x t⟩
  · have e : (fun y => if y = Str.ofString "told" then some (.int T tt) else if y = Str.ofString "left" then some (.int l tl) else if y = Str.ofString "left" then u1 else if y = Str.ofString "told" then u2 else if y = Str.ofString "whole" then a else if y = Str.ofString "heaps" then hb else bl y) = (fun y => if y = Str.ofString "left" then some (.int l tl) else if y = Str.ofString "told" then some (.int T tt) else if y = Str.ofString "whole" then a else if y = Str.ofString "heaps" then hb else bl y) := by
      funext y
      by_cases h1 : y = Str.ofString "told"
      · subst h1; rfl
      · by_cases h2 : y = Str.ofString "left"
        · subst h2; rfl
        · simp only [if_neg h1, if_neg h2]
    rw [← e]; exact F
  · rw [List.push_toArray] at N; exact N
theorem w2_for {h₀ h : Heap} {L c Dt Dq Dd b : Addr} {ot ob oS : Obj} {u1 u2 u3 a : Option Value} {bl : Str → Option Value} {us ys : List Value} {k k2 : Nat}
    (F : Fr h₀ L h (fun y => if y = Str.ofString "heaps" then some (.ref Dq) else if y = Str.ofString "due" then some (.ref Dd) else if y = Str.ofString "left" then u1 else if y = Str.ofString "told" then u2 else if y = Str.ofString "whole" then a else if y = Str.ofString "heaps" then u3 else bl y))
    (N : News h₀ L h [(Dt, ot), (Dd, ({ cls := .type "list", data := .seq ys.toArray k2 } : Obj)), (Dq, listOf us.toArray k), (b, ob), (c, oS)]) :
    ∃ (bl : Str → Option Value) (v1 v2 v3 : Option Value) (Dq Dd : Addr) (us' ys' : List Value) (k k2 : Nat), us' = us ∧ ys' = ys ∧ Fr h₀ L h (fun y => if y = Str.ofString "turn" then v1 else if y = Str.ofString "laid" then v2 else if y = Str.ofString "later" then v3 else if y = Str.ofString "heaps" then some (.ref Dq) else if y = Str.ofString "due" then some (.ref Dd) else if y = Str.ofString "whole" then a else bl y) ∧
      News h₀ L h [(Dq, listOf us'.toArray k), (Dd, ({ cls := .type "list", data := .seq ys'.toArray k2 } : Obj)), (c, oS)] := by
  refine ⟨fun y => if y = Str.ofString "left" then u1 else if y = Str.ofString "told" then u2 else bl y, bl (Str.ofString "turn"), bl (Str.ofString "laid"), bl (Str.ofString "later"), Dq, Dd, us, ys, k, k2, rfl, rfl, ?_, fun p hp => ?_⟩
  · refine cast (congrArg (Fr h₀ L h) ?_) F
    funext y
    by_cases h1 : y = Str.ofString "turn"
    · subst h1; rfl
    by_cases h2 : y = Str.ofString "laid"
    · subst h2; rfl
    by_cases h3 : y = Str.ofString "later"
    · subst h3; rfl
    by_cases h4 : y = Str.ofString "heaps"
    · subst h4; rfl
    by_cases h5 : y = Str.ofString "due"
    · subst h5; rfl
    by_cases h6 : y = Str.ofString "whole"
    · subst h6; rfl
    simp only [if_neg h1, if_neg h2, if_neg h3, if_neg h4, if_neg h5, if_neg h6]
  · simp only [List.mem_cons, List.not_mem_nil, or_false] at hp
    exact N p (by simp only [List.mem_cons]; rcases hp with h | h | h <;> simp [h])
theorem due_eq (S : Nat) : List.map (fun k' => (S : Int) - k') (rangeKs 0 ((S : Int) - 0).toNat) = dueI S := by
  unfold rangeKs dueI
  rw [List.map_map, Int.sub_zero, Int.toNat_natCast]
  exact List.map_congr_left fun i _ => by show (S : Int) - (0 + (i : Int)) = (S : Int) - (i : Int); omega
end Mine
namespace Mine
theorem ints_get {us : List Value} {q : List Int} {i : Nat} {v : Value} (h : IntsAre us q) (hv : us.toArray[i]? = some v) : ∃ z t, v = .int z t ∧ q.take (i + 1) = q.take i ++ [z] := by
  obtain ⟨ps, rfl, rfl⟩ := ints_pairs h
  rw [List.getElem?_toArray, List.getElem?_map] at hv
  cases hp : ps[i]? with
  | none => rw [hp] at hv; cases hv
  | some p =>
    rw [hp] at hv
    refine ⟨p.1, p.2, (Option.some.inj hv).symm, ?_⟩
    rw [List.take_add_one, List.getElem?_map, hp]; rfl
theorem ints_len {us : List Value} {q : List Int} (h : IntsAre us q) : us.toArray.size = q.length := by
  obtain ⟨ps, rfl, rfl⟩ := ints_pairs h
  rw [List.size_toArray, List.length_map, List.length_map]
theorem cast_turns {S : Nat} (h1 : 1 ≤ S) : ((S * S - S + 1 : Nat) : Int) = (S : Int) * (S : Int) - (S : Int) + 1 := by
  rw [Int.natCast_add, Int.natCast_sub (Nat.le_mul_of_pos_left S h1), Int.natCast_mul]; rfl
theorem range_turns {S : Nat} (h1 : 1 ≤ S) (h4 : S ≤ 4) : Builtin.Range.small 0 ((S * S - S + 1 : Nat) : Int) 1 = true ∧ Builtin.Range.rangeSize 0 ((S * S - S + 1 : Nat) : Int) 1 = ((S * S - S + 1 : Nat) : Int) := by
  have h16 : S * S ≤ 4 * 4 := Nat.mul_le_mul h4 h4
  obtain ⟨q1, q2⟩ := range_step (n := S * S - S + 1) (w := 1) (c := 1) (by omega) (by omega) (by omega) (by omega) rfl
  rw [Nat.mul_one] at q1 q2
  exact ⟨q1, q2⟩
theorem last_turn {S i : Nat} {q : List Int} (h1 : 1 ≤ S) (h : 0 + (i : Int) = (S : Int) * (S : Int) - (S : Int)) (hdl : dealN (S * S - S - i) q = dueI S) : q = dueI S := by
  have hc := cast_turns h1
  have e : S * S - S - i = 0 := by omega
  rw [e] at hdl; exact hdl
theorem past_turn {S : Nat} {q : List Int} (hdl : dealN (S * S - S - (S * S - S + 1)) q = dueI S) : q = dueI S := by
  have e : S * S - S - (S * S - S + 1) = 0 := by omega
  rw [e] at hdl; exact hdl
theorem turn_facts {S n : Nat} {q : List Int} (g : goodAll S n = true) (hq : q ∈ partsOf n n n) :
    (1 ≤ q.length ∧ q.length ≤ 1000 ∧ ∀ x ∈ q, 0 ≤ x ∧ x ≤ 1000) ∧ (1 ≤ (laidI q).length ∧ (laidI q).length ≤ 1000 ∧ ∀ x ∈ laidI q, 0 ≤ x ∧ x ≤ 1000) ∧
    (1 ≤ (deal q).length ∧ (deal q).length ≤ 1000 ∧ ∀ x ∈ deal q, 0 ≤ x ∧ x ≤ 1000) ∧ (∃ x ∈ laidI q, 0 < x) ∧ ([(q.length : Int)]).length + (q.map fun x => x - 1).length ≤ sizeLine := by
  have ht := good_turn g hq
  have ht2 := good_turn g ht.1
  have hA : 1 ≤ q.length ∧ q.length ≤ 1000 ∧ ∀ x ∈ q, 0 ≤ x ∧ x ≤ 1000 := ⟨ht.2.2.2.2.1.1, by have := ht.2.2.2.2.1.2; omega, fun x hx => by have := ht.2.2.2.2.2.1 x hx; omega⟩
  have hC : 1 ≤ (deal q).length ∧ (deal q).length ≤ 1000 ∧ ∀ x ∈ deal q, 0 ≤ x ∧ x ≤ 1000 := ⟨ht2.2.2.2.2.1.1, by have := ht2.2.2.2.2.1.2; omega, fun x hx => by have := ht2.2.2.2.2.2.1 x hx; omega⟩
  have hB : 1 ≤ (laidI q).length ∧ (laidI q).length ≤ 1000 ∧ ∀ x ∈ laidI q, 0 ≤ x ∧ x ≤ 1000 := by
    unfold laidI
    rw [List.length_cons, List.length_map]
    refine ⟨by omega, by have := ht.2.2.2.2.1.2; omega, fun x hx => ?_⟩
    rcases List.mem_cons.mp hx with rfl | hx
    · have := hA.2.1; omega
    · obtain ⟨y, hy, rfl⟩ := List.mem_map.mp hx
      have := ht.2.2.2.2.2.1 y hy
      omega
  have hpos2 : ∃ x ∈ laidI q, 0 < x := ⟨_, List.Mem.head _, by have := hA.1; omega⟩
  refine ⟨hA, hB, hC, hpos2, ?_⟩
  rw [List.length_singleton, List.length_map]
  exact Nat.le_trans (by have := ht.2.2.2.2.1.2; omega : 1 + q.length ≤ 20) (by decide)
theorem w2_turn {h₀ h : Heap} {L I Dq Dd c : Addr} {it oq od oS : Obj} {p1 p2 p3 p5 : Addr × Obj} {l a t v1 v2 v3 hb dd wh : Option Value} {bl : Str → Option Value}
    (F : Fr h₀ L h (fun y => if y = Str.ofString "heaps" then some (.ref Dq) else if y = Str.ofString "later" then l else if y = Str.ofString "laid" then a else if y = Str.ofString "turn" then t else if y = Str.ofString "turn" then v1 else if y = Str.ofString "laid" then v2 else if y = Str.ofString "later" then v3 else if y = Str.ofString "heaps" then hb else if y = Str.ofString "due" then dd else if y = Str.ofString "whole" then wh else bl y))
    (N : News h₀ L h [(Dq, oq), p1, p2, p3, (I, it), p5, (Dd, od), (c, oS)]) :
    ∃ v1 v2 v3 : Option Value, Fr h₀ L h (fun y => if y = Str.ofString "turn" then v1 else if y = Str.ofString "laid" then v2 else if y = Str.ofString "later" then v3 else if y = Str.ofString "heaps" then some (.ref Dq) else if y = Str.ofString "due" then dd else if y = Str.ofString "whole" then wh else bl y) ∧ News h₀ L h [(I, it), (Dq, oq), (Dd, od), (c, oS)] := by
  refine ⟨t, a, l, ?_, fun p hp => ?_⟩
  · refine cast (congrArg (Fr h₀ L h) ?_) F
    funext y
    by_cases h1 : y = Str.ofString "turn"
    · subst h1; rfl
    by_cases h2 : y = Str.ofString "laid"
    · subst h2; rfl
    by_cases h3 : y = Str.ofString "later"
    · subst h3; rfl
    by_cases h4 : y = Str.ofString "heaps"
    · subst h4; rfl
    simp only [if_neg h1, if_neg h2, if_neg h3, if_neg h4]
  · simp only [List.mem_cons, List.not_mem_nil, or_false] at hp
    exact N p (by simp only [List.mem_cons]; rcases hp with h | h | h | h <;> simp [h])
theorem off_turn {I Dq Dd c : Addr} {oq od oS : Obj} (h1 : @Ne Nat I Dq) (h2 : @LT.lt Nat _ Dd I) (h3 : @LT.lt Nat _ c I) : ∀ p ∈ [(Dq, oq), (Dd, od), (c, oS)], p.1 ≠ I := by
  intro p hp
  simp only [List.mem_cons, List.not_mem_nil, or_false] at hp
  rcases hp with rfl | rfl | rfl
  · exact Ne.symm h1
  · exact Nat.ne_of_lt h2
  · exact Nat.ne_of_lt h3
end Mine
namespace Mine
inductive Md : Nat → Prop
  | mk (n : Nat) : Md n
def core.tw9617955663982023747 : Nat := 0
def core.tw17746024792797449385 : Nat := 0
def core.tw140640854431783811 : Nat := 0
def core.tw10052755094547609234 : Nat := 0
def core.tw14903512440233917249 : Nat := 0
def core.tw15543113754865529356 : Nat := 0
def core.tw2900391872145340987 : Nat := 0
noncomputable def core.tw1446160841621769154 : Nat := 0
noncomputable def core.tw7630449461925591592 : Nat := 0
noncomputable def core.tw15044937810806165742 : Nat := 0
noncomputable def core.tw5238948352916184382 : Nat := 0
noncomputable def core.tw14410025909383218080 : Nat := 0
noncomputable def core.tw8444815642107816326 : Nat := 0
noncomputable def core.tw9433870256546925898 : Nat := 0
noncomputable def core.tw11088000869254195194 : Nat := 0
noncomputable def core.tw8324112580563332114 : Nat := 0
noncomputable def core.tw18267150216401099239 : Nat := 0
noncomputable def core.tw2191977042887155504 : Nat := 0
noncomputable def core.tw16040109146569757792 : Nat := 0
noncomputable def core.tw16035488922018503107 : Nat := 0
noncomputable def core.tw9336381335450682805 : Nat := 0
noncomputable def core.tw1944012979907783413 : Nat := 0
noncomputable def core.tw14473447975431719473 : Nat := 0
noncomputable def core.tw14686798879636446334 : Nat := 0
noncomputable def core.tw15550033546924390850 : Nat := 0
noncomputable def core.tw1930895741848064642 : Nat := 0
noncomputable def core.tw17673744690117897408 : Nat := 0
noncomputable def core.tw258233378868311936 : Nat := 0
noncomputable def core.tw1493173100341254314 : Nat := 0
noncomputable def core.tw3583788385509805853 : Nat := 0
noncomputable def core.tw10414922257301320035 : Nat := 0
noncomputable def core.tw7166364244797941167 : Nat := 0
noncomputable def core.tw1140304519968407317 : Nat := 0
noncomputable def core.tw12082747186356729147 : Nat := 0
noncomputable def core.tw12855628987967908601 : Nat := 0
noncomputable def core.tw9216091644384877107 : Nat := 0
noncomputable def core.tw5633431306062564567 : Nat := 0
noncomputable def core.tw1056550681978773441 : Nat := 0
noncomputable def core.tw3465396518471573814 : Nat := 0
noncomputable def core.tw10772570537617439352 : Nat := 0
noncomputable def core.tw16820015653507034951 : Nat := 0
noncomputable def core.tw8162441569240819768 : Nat := 0
noncomputable def core.tw7673376263200578055 : Nat := 0
noncomputable def core.tw9495262507266517358 : Nat := 0
noncomputable def core.tw10916054147364214475 : Nat := 0
noncomputable def core.tw12521342417778733826 : Nat := 0
noncomputable def core.tw6308083416495292281 : Nat := 0
noncomputable def core.tw13246764017499302452 : Nat := 0
noncomputable def core.tw15868890539677070396 : Nat := 0
noncomputable def core.tw8867455949165609684 : Nat := 0
noncomputable def core.tw10204273853576897857 : Nat := 0
noncomputable def core.tw5195377422463690873 : Nat := 0
noncomputable def core.tw12287221310929401179 : Nat := 0
noncomputable def core.tw9416771392249298315 : Nat := 0
noncomputable def core.tw6028454213651384053 : Nat := 0
noncomputable def core.tw14961085865811423947 : Nat := 0
noncomputable def core.tw11283503589549122435 : Nat := 0
noncomputable def core.tw10249592036188079128 : Nat := 0
noncomputable def core.tw15682386577379400098 : Nat := 0
noncomputable def core.tw17000984267990200693 : Nat := 0
noncomputable def core.tw17805718197549441075 : Nat := 0
noncomputable def core.tw7553281612460030148 : Nat := 0
noncomputable def core.tw12338073694025301984 : Nat := 0
noncomputable def core.tw12462273129704840966 : Nat := 0
noncomputable def core.tw9529769455943138268 : Nat := 0
noncomputable def core.tw6246534438952034831 : Nat := 0
noncomputable def core.tw14025604602632252787 : Nat := 0
noncomputable def core.tw9417477475221830588 : Nat := 0
noncomputable def core.tw15776866687896521629 : Nat := 0
noncomputable def core.tw6985295288330506497 : Nat := 0
noncomputable def core.tw3729735549544755184 : Nat := 0
noncomputable def core.tw6057542223958930969 : Nat := 0
noncomputable def core.tw13509898508042802754 : Nat := 0
noncomputable def core.tw13051763374683824602 : Nat := 0
noncomputable def core.tw4048323837848254447 : Nat := 0
noncomputable def core.tw466907273635250971 : Nat := 0
noncomputable def core.tw13195155036777514472 : Nat := 0
noncomputable def core.tw17303567306155679255 : Nat := 0
noncomputable def core.tw8206679548526584443 : Nat := 0
noncomputable def core.tw435187890894096261 : Nat := 0
noncomputable def core.tw15693476911269330211 : Nat := 0
noncomputable def core.tw15706384997851072030 : Nat := 0
noncomputable def core.tw450633282253439403 : Nat := 0
noncomputable def core.tw13550992265264873152 : Nat := 0
noncomputable def core.tw16937413979866860718 : Nat := 0
noncomputable def core.tw4431893868045946463 : Nat := 0
noncomputable def core.tw2507141536782340330 : Nat := 0
noncomputable def core.tw16030892461612492691 : Nat := 0
noncomputable def core.tw10948428838744181969 : Nat := 0
noncomputable def core.tw15962553698313031077 : Nat := 0
noncomputable def core.tw4886892684845474122 : Nat := 0
noncomputable def core.tw2741193812800411951 : Nat := 0
noncomputable def core.tw14443234774277117686 : Nat := 0
noncomputable def core.tw3803159782261780071 : Nat := 0
noncomputable def core.tw9673068733744582021 : Nat := 0
noncomputable def core.tw17448778763131349543 : Nat := 0
noncomputable def core.tw13472270668343080521 : Nat := 0
noncomputable def core.tw11676359070966932750 : Nat := 0
noncomputable def core.tw1486116846641535990 : Nat := 0
noncomputable def core.tw17410409454626156959 : Nat := 0
noncomputable def core.tw885844815638270445 : Nat := 0
noncomputable def core.tw4749030555619550186 : Nat := 0
noncomputable def core.tw1878201954910067727 : Nat := 0
noncomputable def core.tw11468165453452967028 : Nat := 0
noncomputable def core.tw1530481100367676372 : Nat := 0
noncomputable def core.tw7091353616853510043 : Nat := 0
noncomputable def core.tw1990152197848752726 : Nat := 0
noncomputable def core.tw11507623367858752870 : Nat := 0
noncomputable def core.tw2782624519275293422 : Nat := 0
noncomputable def core.tw13630588643310155639 : Nat := 0
noncomputable def core.tw14305296767000436891 : Nat := 0
noncomputable def core.tw3544293042028450075 : Nat := 0
noncomputable def core.tw5500771608712711976 : Nat := 0
noncomputable def core.tw12873220095352121431 : Nat := 0
noncomputable def core.tw7396257459991145129 : Nat := 0
noncomputable def core.tw5572752005224699908 : Nat := 0
noncomputable def core.tw1317318019316351251 : Nat := 0
noncomputable def core.tw7400916526341901772 : Nat := 0
noncomputable def core.tw2024234331916360881 : Nat := 0
noncomputable def core.tw4782635468180704824 : Nat := 0
noncomputable def core.tw9770958715097344292 : Nat := 0
noncomputable def core.tw17654920398769735394 : Nat := 0
noncomputable def core.tw11962134483875102330 : Nat := 0
noncomputable def core.tw12817117102533636495 : Nat := 0
noncomputable def core.tw9820834853484435038 : Nat := 0
noncomputable def core.tw13672888705577015700 : Nat := 0
noncomputable def core.tw7338506855797360169 : Nat := 0
noncomputable def core.tw10142413413755228885 : Nat := 0
noncomputable def core.tw4015953807317474082 : Nat := 0
noncomputable def core.tw18155493798578305743 : Nat := 0
noncomputable def core.tw13038525836935920032 : Nat := 0
noncomputable def core.tw11944985047512435256 : Nat := 0
noncomputable def core.tw9410298710569922852 : Nat := 0
noncomputable def core.tw7003238227474012337 : Nat := 0
noncomputable def core.tw5821282957513525424 : Nat := 0
noncomputable def core.tw15974770434805098543 : Nat := 0
noncomputable def core.tw13069250345739707864 : Nat := 0
noncomputable def core.tw396347153069073754 : Nat := 0
noncomputable def core.tw8913225364066017344 : Nat := 0
noncomputable def core.tw12908111115572212053 : Nat := 0
noncomputable def core.tw713171199821834825 : Nat := 0
noncomputable def core.tw4404218868684915768 : Nat := 0
noncomputable def core.tw16448577078982126916 : Nat := 0
noncomputable def core.tw9963056458884284441 : Nat := 0
noncomputable def core.tw9861357093961561719 : Nat := 0
noncomputable def core.tw9305077459654206983 : Nat := 0
noncomputable def core.tw4491106818824429727 : Nat := 0
noncomputable def core.tw6117315672272679043 : Nat := 0
noncomputable def core.tw18241107282087824248 : Nat := 0
noncomputable def core.tw5519436570351249511 : Nat := 0
noncomputable def core.tw12589091429166575234 : Nat := 0
noncomputable def core.tw5915880568657506904 : Nat := 0
noncomputable def core.tw215214886402058695 : Nat := 0
noncomputable def core.tw4125988392439573290 : Nat := 0
noncomputable def core.tw4474066057246472379 : Nat := 0
noncomputable def core.tw15052082476097562387 : Nat := 0
noncomputable def core.tw5269928424375079785 : Nat := 0
noncomputable def core.tw4970809479168651746 : Nat := 0
noncomputable def core.tw198032898922750992 : Nat := 0
noncomputable def core.tw3059090827378897585 : Nat := 0
noncomputable def core.tw463603161914233574 : Nat := 0
noncomputable def core.tw1244750024581383290 : Nat := 0
noncomputable def core.tw10629601453902470527 : Nat := 0
noncomputable def core.tw10746737336877050708 : Nat := 0
noncomputable def core.tw12113311694347984659 : Nat := 0
noncomputable def core.tw11797572445599282411 : Nat := 0
noncomputable def core.tw1380547788803612503 : Nat := 0
noncomputable def core.tw5857439206750606036 : Nat := 0
noncomputable def core.tw17494379128874976530 : Nat := 0
noncomputable def core.tw104889286660574942 : Nat := 0
noncomputable def core.tw7532324505685845435 : Nat := 0
noncomputable def core.tw10606387729944813975 : Nat := 0
noncomputable def core.tw7503425146635674679 : Nat := 0
noncomputable def core.tw8639838891833805722 : Nat := 0
noncomputable def core.tw3121241813119491033 : Nat := 0
noncomputable def core.tw15798434271551112992 : Nat := 0
noncomputable def core.tw2498172733858115846 : Nat := 0
noncomputable def core.tw5750714316828207533 : Nat := 0
noncomputable def core.tw6195698734515462681 : Nat := 0
noncomputable def core.tw6601120445056070284 : Nat := 0
noncomputable def core.tw8478578770095507170 : Nat := 0
noncomputable def core.tw17651109269288931208 : Nat := 0
noncomputable def core.tw2662414285963934297 : Nat := 0
noncomputable def core.tw3431356594755137225 : Nat := 0
noncomputable def core.tw10261820053809229445 : Nat := 0
noncomputable def core.tw14508760535711976736 : Nat := 0
noncomputable def core.tw9862033525642612862 : Nat := 0
noncomputable def core.tw12802407705830074207 : Nat := 0
noncomputable def core.tw16401768965325915615 : Nat := 0
noncomputable def core.tw17702899676070730226 : Nat := 0
noncomputable def core.tw15990284953989293202 : Nat := 0
noncomputable def core.tw448675812597370685 : Nat := 0
noncomputable def core.tw9212338543993899733 : Nat := 0
noncomputable def core.tw10862382917748819813 : Nat := 0
noncomputable def core.tw8705729148521957083 : Nat := 0
noncomputable def core.tw1797696169746081195 : Nat := 0
noncomputable def core.tw13845557525906187334 : Nat := 0
noncomputable def core.tw8675911919631782945 : Nat := 0
noncomputable def core.tw14946407619626681526 : Nat := 0
noncomputable def core.tw11510918689587906331 : Nat := 0
noncomputable def core.tw4231173081018764789 : Nat := 0
noncomputable def core.tw12491990794907931940 : Nat := 0
noncomputable def core.tw16480693138309746807 : Nat := 0
noncomputable def core.tw2794261787216237744 : Nat := 0
noncomputable def core.tw1942810731872033405 : Nat := 0
set_option hygiene false in
local macro_rules | `(tactic| walk_at "M IN") => `(tactic| ((case qk6 => k_is); (case qk7 => k_is); (case qk8 => ktr_room); (case qk9 => exact BindsTo.of_eq rfl); (case qc5 => decide); (case qkB => exact locs rfl); (case qc2 => exact rfl); (case qc3 => exact rfl); (case qc4 => exact rfl); intro g' L' h' FG' F' N' B' X' T'; dsimp only; k_fold))
set_option hygiene false in
local macro_rules | `(tactic| walk_at "M ASK") => `(tactic| ((case qk1 => k_asm); (case qk2 => k_asm); (case qk3 => k_asm); (case qk4 => k_asm); (case qk5 => k_asm); (case qkK => first | exact rfl | assumption); (case qkd => ktr_room); (case qku => ktr_units)))
local macro_rules | `(tactic| ktr_units) => `(tactic| (have hcL9 := cLine_is; (try simp only [units_make, units_in1, units_deeper, Around.mark_units, units_caller] at *); (try dsimp only [ktrTop] at *); omega))
local macro_rules | `(tactic| k_room) => `(tactic| ktr_room)

set_option hygiene false in
local macro_rules | `(tactic| walk_at "call ref") => `(tactic| ((rename Md 1 => hMd); (k_here; k_dflt (refine' Tell.use (order_mark_c _ _ _ _ _ _ _) ?qk1 ?qk2 ?qk3 ?qk4 ?qk5 ?qkK ?qkd ?qku ?_; walk_at "M ASK"); intro r9 tl9 h9 tk9 F9 N9 l9 p9; obtain ⟨t9, u9, v9, e9, e8⟩ := p9; subst e9; subst e8; simp only [List.cons_append, List.nil_append] at N9; clear l9; (try dsimp only); (try k_fold))))
local macro_rules | `(tactic| walk_at "compareOp Lt ref ref") => `(tactic| ((rename Md 1 => hMd); (k_here; k_dflt (refine' tup3_lt ?a ?b ?u ?_; (case a => exact News.get (by k_asm) (by k_mem)); (case b => exact News.get (by k_asm) (by k_mem)); (case u => ktr_units)))))
local macro_rules | `(tactic| walk_at "compareOp Gt ref ref") => `(tactic| ((rename Md 1 => hMd); (k_here; k_dflt (refine' tup3_gt ?a ?b ?u ?_; (case a => exact News.get (by k_asm) (by k_mem)); (case b => exact News.get (by k_asm) (by k_mem)); (case u => ktr_units)))))

set_option hygiene false in
local macro_rules | `(tactic| walk_at "call builtin:list.insert") => `(tactic| ((rename Md 2 => hMd); (k_here; (try dsimp only [List.cons_append, List.nil_append]); (with_reducible show wpAny _ _ (call (Value.builtin _) [Value.ref _, Value.int _ _, _]) _ _ _); k_dflt (refine' kl_insert (l := (insRow d rowKey S r).map fun r => Value.ref r.1) ?qF ?qN ?qf ?qe ?qU ?qz ?_; (case qF => k_asm); (case qN => k_asm); (case qU => exact Upd.head hne); (case qf => exact g5); (case qe => first | exact ins_eq g6 (Nat.zero_le _) | exact ins_eq (by rw [hkx, ← hpos]; exact pos_stop (by rw [g7]; assumption)) hk1); (case qz => exact hz2)); intro h7 F7 N7)))
set_option hygiene false in
local macro_rules | `(tactic| walk_at "subscriptTail") => `(tactic| ((rename Md 2 => hMd); (k_here; (with_reducible show wpAny _ _ (subscriptTail _ _ (Value.ref _) (Value.int _ _)) _ _ _); k_dflt (refine' item_led ?qN ?qm ?qa ?qb ?qx ?_; (case qN => k_asm); (case qm => first | k_mem | exact List.Mem.tail _ (List.mem_append_left _ (by assumption))); (case qx => with_reducible first | exact g2 | exact g3 | exact g4); (case qa => omega); (case qb => omega)))))
set_option hygiene false in
local macro_rules | `(tactic| walk_at "call ref") => `(tactic| ((rename Md 2 => hMd); (k_here; k_dflt (refine' Tell.use (is_behind_c _ _ _ _ _ _ _ _ _ _) ?qk1 ?qk2 ?qk3 ?qk4 ?qk5 ?qkK ?qkd ?qku ?_; walk_at "M ASK"); intro r9 tl9 h9 tk9 F9 N9 l9 p9; obtain ⟨e9, e8⟩ := p9; subst e9; subst e8; simp only [List.nil_append] at N9; clear l9; (try dsimp only); (try k_fold))))
local macro_rules | `(tactic| walk_at "exec While BoolOp cons nil") => `(tactic| ((rename Md 2 => hMd); refine Stop.of ?_))
set_option hygiene false in
local macro_rules | `(tactic| walk_at "call builtin:len") => `(tactic| ((rename Md 2 => hMd); (k_here; k_dflt (refine' len_led ?qN ?qm ?qz ?_; (case qN => k_asm); (case qm => k_mem); (case qz => assumption)))))

local macro_rules | `(tactic| walk_at "exec For Tuple Name cons nil") => `(tactic| ((rename Md 3 => hMd); refine Stop.of ?_))

set_option hygiene false in
local macro_rules | `(tactic| walk_at "binaryOp Mult ref int") => `(tactic| ((rename Md 4 => hMd); (k_here; k_dflt (refine' mul_led ?qF ?qN ?qm ?qa ?qb ?qz ?_; (case qF => k_asm); (case qN => k_asm); (case qm => k_mem); (case qa => omega); (case qb => omega); (case qz => (show 1 * (many * wide).toNat ≤ 2 ^ 24; omega))); intro D3 its3 k3 h3 F3 N3 l3; k_lt l3; (try k_sweep))))
set_option hygiene false in
local macro_rules | `(tactic| k_all) => `(tactic| ((rename Md 4 => hMd); (intro p hp; exact Nat.ne_of_lt (l1 p hp))))
set_option hygiene false in
local macro_rules | `(tactic| walk_at "call ref") => `(tactic| ((rename Md 4 => hMd); (k_here; k_dflt (refine' Tell.use (size_of_bounds_c _ _ _ _ _ _ p1 p2 _ _ _ many wide t1 t2 t3 t4 ?qh1 ?qh2 ?qh3 g1 g2 g3 g4) ?qk1 ?qk2 ?qk3 ?qk4 ?qk5 ?qkK ?qkd ?qku ?_; walk_at "M ASK"; (case qh1 => repeat (first | exact hB | refine List.Mem.tail _ ?_)); (case qh2 => repeat (first | exact h1 | refine List.Mem.tail _ ?_)); (case qh3 => repeat (first | exact h2 | refine List.Mem.tail _ ?_))); intro r9 tl9 h9 tk9 F9 N9 l9 p9; obtain ⟨⟨t9, e9⟩, e8⟩ := p9; subst e9; subst e8; simp only [List.nil_append] at N9; clear l9; (try dsimp only); (try k_fold))))

local macro_rules | `(tactic| walk_at "exec While BoolOp cons nil") => `(tactic| ((rename Md 5 => hMd); refine Stop.of ?_))

set_option hygiene false in
local macro_rules | `(tactic| walk_at "call builtin:len") => `(tactic| ((rename Md 6 => hMd); (k_here; k_dflt (refine' len_led2 ?qN ?qm ?qz ?qk ?_; (case qN => k_asm); (case qm => repeat (first | exact hD | exact hrm | refine List.Mem.tail _ ?_)); (case qz => first | exact hlen1 | exact hlen2); (case qk => omega)))))
set_option hygiene false in
local macro_rules | `(tactic| walk_at "subscriptTail") => `(tactic| ((rename Md 6 => hMd); (k_here; (with_reducible show wpAny _ _ (subscriptTail _ _ (Value.ref _) (Value.int _ _)) _ _ _); k_dflt (refine' item_led ?qN ?qm ?qa ?qb ?qx ?_; (case qN => k_asm); (case qm => repeat (first | exact hD | refine List.Mem.tail _ ?_)); (case qx => exact hx0); (case qa => omega); (case qb => omega)))))
set_option hygiene false in
local macro_rules | `(tactic| walk_at "call ref") => `(tactic| ((rename Md 6 => hMd); (k_here; k_dflt (refine' Tell.use (text_of_whole_c _ _ _ _ _ _ _ ?qh1 ?qh2) ?qk1 ?qk2 ?qk3 ?qk4 ?qk5 ?qkK ?qkd ?qku ?_; walk_at "M ASK"; (case qh1 => omega); (case qh2 => omega)); intro r9 tl9 h9 tk9 F9 N9 l9 p9; obtain ⟨⟨x9, t9, e9, le9⟩, e8⟩ := p9; subst e9; subst e8; simp only [List.nil_append] at N9; clear l9; (try dsimp only); (try k_fold))))
set_option hygiene false in
local macro_rules | `(tactic| walk_at "call ref") => `(tactic| ((rename Md 6 => hMd); (k_here; k_dflt (refine' Tell.use (array_make_c _ _ _ _ _ _ _ _ _ _ _ _ _ _ _ _ _ _ _ _ _ _ _ ?qh1 ?qh2 ?qh3 ?qh4 ?qh5 ?qh6 ?qh7) ?qk1 ?qk2 ?qk3 ?qk4 ?qk5 ?qkK ?qkd ?qku ?_; walk_at "M ASK"; (case qh1 => k_mem); (case qh2 => k_mem); (case qh3 => k_mem); (case qh4 => omega); (case qh5 => omega); (case qh6 => omega); (case qh7 => omega)); intro r9 tl9 h9 tk9 F9 N9 l9 p9; obtain ⟨x9, dx9, I9, its9, k9, u1, u2, u3, u4, u5, u6, v1, v3, e9, e8, lt1, lt2⟩ := p9; subst e9; subst e8; simp only [List.cons_append, List.nil_append] at N9; have l9d := l9 (dx9, _) (List.Mem.tail _ (List.Mem.tail _ (List.Mem.head _))); dsimp only at l9d; have l9e := l9d; k_lt l9e; clear l9; replace lt1 := ltN lt1; replace lt2 := ltN lt2; (try dsimp only at l9e); (try dsimp only); (try k_fold))))
set_option hygiene false in
local macro_rules | `(tactic| walk_at "eval ListComp") => `(tactic| ((rename Md 6 => hMd); (k_here; (with_reducible show wpAny _ _ (eval (Expr.ListComp _ [_, _] _ _) _) _ _ _); k_dflt (refine ListComp_flat (F₀ := by k_asm) (by with_unfolding_all rfl) (by decide) (by rfl) (by decide) (by rfl) (by rfl) (by decide) (by decide) ?_))))
set_option hygiene false in
local macro_rules | `(tactic| k_all) => `(tactic| ((rename Md 6 => hMd); (intro p hp; exact Nat.ne_of_lt (l9d p (by repeat (first | exact hp | refine List.Mem.tail _ ?_))))))

set_option hygiene false in
local macro_rules | `(tactic| walk_at "subscriptTail") => `(tactic| ((rename Md 7 => hMd); (k_here; (with_reducible show wpAny _ _ (subscriptTail _ (Expr.Slice _ _ none _) (Value.ref _) (Value.ref _)) _ _ _); k_dflt (refine' kms_slice_lit (zs := cs[i]) ?qF ?qN ?ql ?qp ?qq ?qe ?_ ?qs ?qt ?qz; (case qF => k_asm); (case qN => k_asm); (case ql => exact News.isList (by k_asm) (by k_mem)); (case qp => kmk_part); (case qq => kmk_part); (case qe => exact piece_pick hcs hci hp1 hp2); (case qs => with_unfolding_all rfl); (case qt => kmk_pure); (case qz => exact hz9)); intro D7 h7 F7 N7 l7)))
set_option hygiene false in
local macro_rules | `(tactic| walk_at "call builtin:len") => `(tactic| ((rename Md 7 => hMd); (k_here; k_dflt (refine' len_led2 ?qN ?qm ?qz ?qk ?_; (case qN => k_asm); (case qm => k_mem); (case qz => first | exact hlen1 | exact rfl); (case qk => omega)))))
set_option hygiene false in
local macro_rules | `(tactic| walk_at "eval ListComp") => `(tactic| ((rename Md 7 => hMd); (k_here; k_dflt (refine ListComp_step (_F₀ := by k_asm) (by with_unfolding_all rfl) (by decide) (by rfl) (by decide) (by rfl) ?_))))
set_option hygiene false in
local macro_rules | `(tactic| k_all) => `(tactic| ((rename Md 7 => hMd); (intro p hp; first | exact ne_up1 (l1q p hp) | exact ne_up2 (l1q p hp))))

set_option hygiene false in
local macro_rules | `(tactic| walk_at "call ref") => `(tactic| ((rename Md 8 => hMd); (k_here; k_dflt (refine' Tell.use (array_make_c _ _ _ _ _ _ p1 p2 _ _ _ _ _ _ t1 t2 t3 t4 _ _ _ _ _ ?qh1 ?qh2 ?qh3 ?qh4 ?qh5 ?qh6 ?qh7) ?qk1 ?qk2 ?qk3 ?qk4 ?qk5 ?qkK ?qkd ?qku ?_; walk_at "M ASK"; (case qh1 => k_mem); (case qh2 => k_mem); (case qh3 => k_mem); (case qh4 => omega); (case qh5 => omega); (case qh6 => omega); (case qh7 => omega)); intro r9 tl9 h9 tk9 F9 N9 l9 p9; obtain ⟨x9, dx9, I9, its9, k9, a1, a2, a3, a4, a5, a6, b1, b3, e9, e8, lt1, lt2⟩ := p9; subst e9; subst e8; simp only [List.cons_append, List.nil_append] at N9; have l9d := l9 (dx9, _) (List.Mem.tail _ (List.Mem.tail _ (List.Mem.head _))); dsimp only at l9d; have l9e := l9d; k_lt l9e; clear l9; replace lt1 := ltN lt1; replace lt2 := ltN lt2; (try dsimp only at l9e); (try dsimp only); (try k_fold))))
set_option hygiene false in
local macro_rules | `(tactic| k_all) => `(tactic| ((rename Md 8 => hMd); (intro p hp; exact Nat.ne_of_lt (l9d p (by repeat (first | exact hp | refine List.Mem.tail _ ?_))))))

set_option hygiene false in
local macro_rules | `(tactic| walk_at "call builtin:len") => `(tactic| ((rename Md 9 => hMd); (k_here; k_dflt (refine' len_led2 ?qN ?qm ?qz ?qk ?_; (case qN => k_asm); (case qm => first | k_mem | (repeat (first | exact List.mem_append_right _ hr0m | refine List.Mem.tail _ ?_))); (case qz => first | exact hl0 | exact rfl); (case qk => omega)))))
set_option hygiene false in
local macro_rules | `(tactic| walk_at "subscriptTail") => `(tactic| ((rename Md 9 => hMd); (k_here; (with_reducible show wpAny _ _ (subscriptTail _ _ (Value.ref D7) (Value.int _ _)) _ _ _); k_dflt (refine' item_led ?qN ?qm ?qa ?qb ?qx ?_; (case qN => k_asm); (case qm => k_mem); (case qx => exact hx0); (case qa => omega); (case qb => omega)))))
set_option hygiene false in
local macro_rules | `(tactic| walk_at "call ref") => `(tactic| ((rename Md 9 => hMd); (k_here; k_dflt (refine' Tell1.use (rows_of_c _ _ _ _ _ x dx B p1 p2 I _ _ _ _ _ _ _ _ _ _ _ _ _ _ t1 t2 t3 t4 _ _ cs wd ?qh1 ?qh2 ?qh3 ?qh4 ?qh5 ?qh6 hcs hs1 hs2 hw1 hw2) ?qk1 ?qk2 ?qk3 ?qk4 ?qk5 ?qkK ?qkd ?qku ?_; walk_at "M ASK"; (case qh1 => k_mem); (case qh2 => k_mem); (case qh3 => k_mem); (case qh4 => k_mem); (case qh5 => k_mem); (case qh6 => k_mem)); intro r9 tl9 h9 tk9 F9 N9 l9 p9; obtain ⟨D7, k7, rs, tl', e9, e8, hmap, hmem⟩ := p9; subst e9; subst e8; replace N9 := rows_swap N9; simp only [List.cons_append, List.nil_append] at N9; clear l9; obtain ⟨r0, hr0, hl0, hx0⟩ := row_first hmap hs1 hcs; obtain ⟨kr0, hr0m⟩ := hmem r0 (List.mem_of_getElem? hr0); have hrl := hrl0 rs hmap; (try dsimp only); (try k_fold))))
set_option hygiene false in
local macro_rules | `(tactic| walk_at "call ref") => `(tactic| ((rename Md 9 => hMd); (k_here; k_dflt (refine' Tell1.use (copy_of_c _ _ _ _ _ x dx B p1 p2 I _ _ _ _ _ _ _ _ _ _ _ _ _ _ t1 t2 t3 t4 _ _ _ _ cs.flatten (cs.length : Int) (wd : Int) ?qh1 ?qh2 ?qh3 ?qh4 ?qh5 ?qh6 ?g1 ?g2 ?g3 ?g4 ?g5) ?qk1 ?qk2 ?qk3 ?qk4 ?qk5 ?qkK ?qkd ?qku ?_; walk_at "M ASK"; (case qh1 => k_mem); (case qh2 => k_mem); (case qh3 => k_mem); (case qh4 => k_mem); (case qh5 => k_mem); (case qh6 => k_mem); (case g1 => omega); (case g2 => omega); (case g3 => omega); (case g4 => omega); (case g5 => exact hflat)); intro r9 tl9 h9 tk9 F9 N9 l9 p9; obtain ⟨x9, dx9, I9, k9, a1, a2, a3, a4, a5, a6, b1, b3, e9, e8, lt1, lt2⟩ := p9; subst e9; subst e8; simp only [List.cons_append, List.nil_append] at N9; have l9d := l9 (dx9, _) (List.Mem.tail _ (List.Mem.tail _ (List.Mem.head _))); have l9I := l9 (I9, _) (List.Mem.head _); have l9x := l9 (x9, _) (List.Mem.tail _ (List.Mem.head _)); dsimp only at l9d l9I l9x; clear l9; (try dsimp only); (try k_fold))))
set_option hygiene false in
local macro_rules | `(tactic| walk_at "call ref") => `(tactic| ((rename Md 9 => hMd); (k_here; k_dflt (refine' Tell.use (sorted_rows_c _ _ _ _ _ D7 _ rs _ _ ?qh1 ?qh2 ?qh3) ?qk1 ?qk2 ?qk3 ?qk4 ?qk5 ?qkK ?qkd ?qku ?_; walk_at "M ASK"; (case qh1 => k_mem); (case qh3 => exact hrl); (case qh2 => exact fun r hr => ⟨(hmem r hr).imp fun k hk => by repeat (first | exact List.mem_append_right _ hk | refine List.Mem.tail _ ?_), hint _ (hmap ▸ List.mem_map.mpr ⟨r, hr, rfl⟩)⟩)); intro r9 tl9 h9 tk9 F9 N9 l9 p9; obtain ⟨Ds, ks, e9, e8⟩ := p9; subst e9; subst e8; simp only [List.cons_append, List.nil_append] at N9; have l9s := l9 (Ds, _) (List.Mem.head _); dsimp only at l9s; clear l9; k_lt l9s; (try dsimp only at l9s); (try dsimp only); (try k_fold))))
set_option hygiene false in
local macro_rules | `(tactic| walk_at "eval ListComp") => `(tactic| ((rename Md 9 => hMd); (k_here; (with_reducible show wpAny _ _ (eval (Expr.ListComp _ [_, _] _ _) _) _ _ _); k_dflt (refine ListComp_flat (F₀ := by k_asm) (by with_unfolding_all rfl) (by decide) (by rfl) (by decide) (by rfl) (by rfl) (by decide) (by decide) ?_))))
set_option hygiene false in
local macro_rules | `(tactic| k_all) => `(tactic| ((rename Md 9 => hMd); (intro p hp; exact l9d p (by repeat (first | exact hp | refine List.Mem.tail _ ?_)))))

set_option hygiene false in
local macro_rules | `(tactic| walk_at "call ref") => `(tactic| ((rename Md 10 => hMd); (k_here; k_dflt (refine' Tell.use (rows_array_c _ _ _ _ _ D7 _ rs 1 _ _ ?qh1 ?qh2 ?qh3 ?qh4 ?qh5 ?qh6) ?qk1 ?qk2 ?qk3 ?qk4 ?qk5 ?qkK ?qkd ?qku ?_; walk_at "M ASK"; (case qh1 => exact List.Mem.head _); (case qh2 => exact fun r hr => ⟨(hmem r hr).imp fun k hk => List.Mem.tail _ (List.mem_append_left _ hk), hcs1 _ (hmap ▸ List.mem_map.mpr ⟨r, hr, rfl⟩)⟩); (case qh3 => omega); (case qh4 => omega); (case qh5 => omega); (case qh6 => omega)); intro r9 tl9 h9 tk9 F9 N9 l9 p9; obtain ⟨x, dx, B, p1, p2, I, k, u1, u2, u3, u4, u5, u6, v1, v3, told, tt, kB, k1, k2, t1, t2, t3, t4, e9, e8⟩ := p9; subst e9; subst e8; rw [List.flatMap_def, hmap, hln] at N9; simp only [List.cons_append, List.nil_append] at N9; clear l9; (try dsimp only); (try k_fold))))
set_option hygiene false in
local macro_rules | `(tactic| walk_at "call ref") => `(tactic| ((rename Md 10 => hMd); (k_here; k_dflt (refine' Tell1.use (sorted_array_c _ _ _ _ _ x dx B p1 p2 I _ _ _ _ _ _ _ _ _ _ _ _ _ _ t1 t2 t3 t4 _ _ _ _ cs 1 _ ?qh1 ?qh2 ?qh3 ?qh4 ?qh5 ?qh6 hcs1 hc1 hc2 ?qg1 ?qg2 hint) ?qk1 ?qk2 ?qk3 ?qk4 ?qk5 ?qkK ?qkd ?qku ?_; walk_at "M ASK"; (case qh1 => k_mem); (case qh2 => k_mem); (case qh3 => k_mem); (case qh4 => k_mem); (case qh5 => k_mem); (case qh6 => k_mem); (case qg1 => omega); (case qg2 => omega)); intro r9 tl9 h9 tk9 F9 N9 l9 p9; obtain ⟨xq, dxq, Iq, kq, a1, a2, a3, a4, a5, a6, b1, b3, e9, e8⟩ := p9; subst e9; subst e8; simp only [List.cons_append, List.nil_append] at N9; have l9I := l9 (Iq, _) (List.Mem.head _); dsimp only at l9I; clear l9; (try dsimp only); (try k_fold))))
set_option hygiene false in
local macro_rules | `(tactic| walk_at "eval ListComp") => `(tactic| ((rename Md 10 => hMd); (k_here; k_dflt (refine LCt.ListComp_T (F₀ := by k_asm) (by with_unfolding_all rfl) (by decide) (by rfl) (by decide) (by rfl) ?_))))

set_option hygiene false in
local macro_rules | `(tactic| walk_at "subscriptTail") => `(tactic| ((rename Md 11 => hMd); (k_here; (with_reducible show wpAny _ _ (subscriptTail _ _ (Value.ref H) (Value.int _ _)) _ _ _); k_dflt (refine' item_led ?qN ?qm ?qa ?qb ?qx ?_; (case qN => k_asm); (case qm => k_mem); (case qx => exact hxi); (case qa => omega); (case qb => omega)))))
set_option hygiene false in
local macro_rules | `(tactic| walk_at "call builtin:len") => `(tactic| ((rename Md 11 => hMd); (k_here; k_dflt (refine' len_led2 ?qN ?qm ?qz ?qk ?_; (case qN => k_asm); (case qm => k_mem); (case qz => exact hlen1); (case qk => omega)))))
set_option hygiene false in
local macro_rules | `(tactic| walk_at "call builtin:sum") => `(tactic| ((rename Md 11 => hMd); (k_here; k_dflt (refine' sum_led (ps := qs) ?qh ?qF ?qN ?qm ?_; (case qh => rfl); (case qF => k_asm); (case qN => k_asm); (case qm => k_mem)); intro h7 tk7 t7 F7 N7)))
set_option hygiene false in
local macro_rules | `(tactic| walk_at "eval ListComp") => `(tactic| ((rename Md 11 => hMd); (k_here; k_dflt (refine ListComp_step (_F₀ := by k_asm) (by with_unfolding_all rfl) (by decide) (by rfl) (by decide) (by rfl) ?_))))


set_option hygiene false in
local macro_rules | `(tactic| walk_at "call builtin:len") => `(tactic| ((rename Md 13 => hMd); (k_here; k_dflt (refine' len_led2 ?qN ?qm ?qz ?qk ?_; (case qN => k_asm); (case qm => k_mem); (case qz => exact IntsAre.length (by assumption)); (case qk => first | exact take2_small _ | omega)))))
set_option hygiene false in
local macro_rules | `(tactic| walk_at "call ref") => `(tactic| ((rename Md 13 => hMd); (k_here; k_dflt (refine' Tell1.use (law_sorted_v _ _ _ _ _ _ _ _ _ ?qh1 ?qh2 ?qh3 ?qh4) ?qk1 ?qk2 ?qk3 ?qk4 ?qk5 ?qkK ?qkd ?qku ?_; walk_at "M ASK"; (case qh1 => k_mem); (case qh2 => assumption); (case qh3 => first | exact hpos2 | exact hex (by assumption)); (case qh4 => first | exact hln2 | exact hln1)); intro r9 tl9 h9 tk9 F9 N9 l9 p9; obtain ⟨Dq, kq, us, e9, e8, hIq⟩ := p9; subst e9; subst e8; simp only [List.cons_append, List.nil_append] at N9; have l9q := l9 (Dq, _) (List.Mem.head _); dsimp only at l9q; clear l9; (try dsimp only); (try k_fold))))
set_option hygiene false in
local macro_rules | `(tactic| walk_at "call ref") => `(tactic| ((rename Md 13 => hMd); (k_here; k_dflt (refine' Tell1.use (law_places_v _ _ _ _ _ _ _ _ _ ?qh1 ?qh2 ?qh3 ?qh4 ?qh5) ?qk1 ?qk2 ?qk3 ?qk4 ?qk5 ?qkK ?qkd ?qku ?_; walk_at "M ASK"; (case qh1 => k_mem); (case qh2 => assumption); (case qh3 => first | exact hA.1 | exact hB.1 | exact hC.1); (case qh4 => first | exact hA.2.1 | exact hB.2.1 | exact hC.2.1); (case qh5 => first | exact hA.2.2 | exact hB.2.2 | exact hC.2.2)); intro r9 tl9 h9 tk9 F9 N9 l9 p9; obtain ⟨⟨t9, e9⟩, e8⟩ := p9; subst e9; subst e8; simp only [List.nil_append] at N9; clear l9; (try dsimp only); (try k_fold))))
local macro_rules | `(tactic| walk_at "eval ListComp") => `(tactic| ((rename Md 13 => hMd); (k_here; (with_reducible show wpAny _ _ (eval (Expr.ListComp (Expr.BinOp (Expr.Name _ _) _ (Expr.Constant _ _ _) _) [⟨Expr.Name _ _, Expr.Name _ _, [], 0⟩] _ _) _) _ _ _); k_dflt (refine LCg.ListComp_U (F₀ := by k_asm) (by with_unfolding_all rfl) (by decide) (by rfl) (by decide) (by rfl) ?_))))
set_option hygiene false in
local macro_rules | `(tactic| walk_at "CompSrc") => `(tactic| ((rename Md 13 => hMd); (with_reducible show LCg.CompSrc _ _ _ _ _ _ _ (Expr.BinOp (Expr.Name _ _) _ (Expr.Constant _ _ _) _) _ _ _ _ _ _; refine Stop.of ?_)))
set_option hygiene false in
local macro_rules | `(tactic| walk_at "binaryOp Add ref ref") => `(tactic| ((rename Md 13 => hMd); (k_here; k_dflt (refine' kmk_add_ints (ns := [(q.length : Int)]) (ms := q.map (fun x => x - 1)) ?ad9F ?ad9N ?ad9a ?ad9b ?ad9i ?ad9j ?_ ?ad9z; (case ad9F => k_asm); (case ad9N => k_asm); (case ad9a => kmk_list); (case ad9b => kmk_list); (case ad9i => exact .cons _ _ .nil); (case ad9j => assumption); (case ad9z => exact hz9)); intro D' ws' h' F' N' l1 hI'; (try k_lt l1))))
set_option hygiene false in
local macro_rules | `(tactic| walk_at "subscriptTail Name Slice ref ref") => `(tactic| ((rename Md 13 => hMd); (k_here; (with_reducible show wpAny _ _ (subscriptTail _ (PySem.Expr.Slice (some _) none none _) (Value.ref _) (Value.ref _)) _ _ _); k_dflt (refine' kmk_slice_ints ?sl9F ?sl9N ?sl9l ?sl9k ?sl9u ?sl9i ?sl9m ?sl9c ?_ ?sl9s ?sl9t ?sl9z; (case sl9F => k_asm); (case sl9N => k_asm); (case sl9l => kmk_list); (case sl9k => exact IsPart.int _ _); (case sl9u => exact IsPart.none); (case sl9i => l_ints); (case sl9m => exact kmk_from (by l_ints) (Int.natCast_nonneg _)); (case sl9c => exact List.length_drop ..); (case sl9s => with_unfolding_all rfl); (case sl9t => kmk_pure); (case sl9z => exact Nat.le_of_ble_eq_true rfl)); intro D' ws' h' F' N' l1 hI' hC' hL'; (try k_lt l1); (try k_sweep))))
set_option hygiene false in
local macro_rules | `(tactic| walk_at "UnrPost") => `(tactic| ((rename Md 13 => hMd); (exfalso; k_dflt (first | (rename ¬ _ = dueI S => hx; exact hx (last_turn hS1 (by assumption) hdl)) | (rename _ ≠ dueI S => hx; exact hx (last_turn hS1 (by assumption) hdl)) | (rename (srt _).sum ≠ _ => hx; exact hx ht.2.1) | (rename places _ ≠ places _ => hx; exact hx ht.2.2.1) | (rename places _ < places _ => hx; exact absurd hx (Int.not_lt.mpr ht.2.2.2.1))))))
local macro_rules | `(tactic| walk_at "pyIter ref") => `(tactic| ((rename Md 13 => hMd); ((with_reducible show wpAny _ _ (pyIter (Value.ref _)) (fun it s₂ => LoopAtV _ _ _ _ _ _ _ _ _ it s₂) _ _); refine Stop.of ?_)))
local macro_rules | `(tactic| walk_at "exec While Compare cons nil") => `(tactic| ((rename Md 13 => hMd); refine Stop.of ?_))

set_option Elab.async true
set_option maxRecDepth 100000 in
set_option maxHeartbeats 400000000 in
theorem core : PySem.Challenge.rw_xm0946_02.Holds := by
  w_on
  o_law
  k_head
  case hw => w_witness2
  have order_mark_c : ∀ (w : World) (mean : ExcName → Option Value) (mg mb : Str → Option Value) (news : List (Addr × Obj)) (x : Int) (tx : Tok), Tell PySem.Challenge.rw_xm0946_02 Mine.core.heap_1_39 Mine.core.view_1_40 w mean mg mb 268 news [.int x tx] 2 (fun r tl => ∃ t t0 t1, r = .ref t ∧ tl = [(t, { cls := .type "tuple", data := .seq #[.int 0 t0, .int x tx, .str (Str.ofString "") t1] })]) := by
    intro w mean mg mb news x tx
    have hMd : Md 1 := .mk 1
    unfold Tell
    w_on
    k_fill
    intro dp un gd cn cs a ccd cl outer A₀ base h₀ L m s Q E B F X N T hk hd hu hret
    refine wpAny_call ?_
    k_dflt (refine' code_def (binds := [(Str.ofString "value", .int x tx)]) B F X N T rfl rfl hk ?qk6 ?qk7 ?qk8 ?qk9 ?qkB ?_ ?qc2 ?qc3 ?qc4 ?qc5; walk_at "M IN")
    k_steps
    all_goals (try dsimp only)
    exact hret _ [_] _ _ (by assumption) (by assumption) (fun p hp q hq => by rw [List.mem_singleton.mp hp]; exact (by assumption : ∀ p ∈ news, p.1 < _) q hq) ⟨_, _, _, rfl, rfl⟩
  have is_behind_c : ∀ (w : World) (mean : ExcName → Option Value) (mg mb : Str → Option Value) (news : List (Addr × Obj)) (x y : Int) (tx ty : Tok) (d : Bool), Tell PySem.Challenge.rw_xm0946_02 Mine.core.heap_1_39 Mine.core.view_1_40 w mean mg mb 282 news [.int x tx, .int y ty, .bool d] 4 (fun r tl => r = .bool (if d then decide (x < y) else decide (y < x)) ∧ tl = []) := by
    intro w mean mg mb news x y tx ty d
    have hMd : Md 1 := .mk 1
    unfold Tell
    w_on
    k_fill
    intro dp un gd cn cs a ccd cl outer A₀ base h₀ L m s Q E B F X N T hk hd hu hret
    refine wpAny_call ?_
    k_dflt (refine' code_def (binds := [(Str.ofString "one", .int x tx), (Str.ofString "other", .int y ty), (Str.ofString "is_down", .bool d)]) B F X N T rfl rfl hk ?qk6 ?qk7 ?qk8 ?qk9 ?qkB ?_ ?qc2 ?qc3 ?qc4 ?qc5; walk_at "M IN")
    k_steps
    all_goals (try dsimp only)
    · exact hret _ [] _ _ (by assumption) (cb_drop (by assumption) fun p hp => .tail _ (.tail _ hp)) (fun p hp => nomatch hp) ⟨by simp_all, rfl⟩
    · exact hret _ [] _ _ (by assumption) (cb_drop (by assumption) fun p hp => .tail _ (.tail _ hp)) (fun p hp => nomatch hp) ⟨by simp_all, rfl⟩
  have sorted_rows_c : ∀ (w : World) (mean : ExcName → Option Value) (mg mb : Str → Option Value) (news : List (Addr × Obj)) (D : Addr) (kD : Nat) (rs : List (Addr × List Value)) (d : Bool) (t0 : Tok)
    (hD : (D, listOf (rs.map fun r => Value.ref r.1).toArray kD) ∈ news) (hrs : ∀ r ∈ rs, (∃ k, (r.1, listOf r.2.toArray k) ∈ news) ∧ ∃ x t e, r.2 = .int x t :: e) (hsz : rs.length ≤ 1000), Tell PySem.Challenge.rw_xm0946_02 Mine.core.heap_1_39 Mine.core.view_1_40 w mean mg mb 275 news [.ref D, .int 0 t0, .bool d] 8 (fun r tl => ∃ D' k, r = .ref D' ∧ tl = [(D', listOf ((sortRows d rowKey rs).map fun r => Value.ref r.1).toArray k)]) := by
    clear order_mark_c
    intro w mean mg mb news D kD rs d t0 hD hrs hsz
    have hMd : Md 2 := .mk 2
    unfold Tell
    w_on
    k_fill
    intro dp un gd cn cs a ccd cl outer A₀ base h₀ L m s Q E B F X N T hk hd hu hret
    refine wpAny_call ?_
    k_dflt (refine' code_def (binds := [(Str.ofString "rows", .ref D), (Str.ofString "column", .int 0 t0), (Str.ofString "is_down", .bool d)]) B F X N T rfl rfl hk ?qk6 ?qk7 ?qk8 ?qk9 ?qkB ?_ ?qc2 ?qc3 ?qc4 ?qc5; walk_at "M IN")
    k_steps
    rename Fr g' L' _ _ => F1
    rename News g' L' _ _ => N1
    rename ∀ p ∈ news, p.1 < _ => lt1
    rename_i FD _ _
    refine For_invVF F1 rfl rfl ?_
    walk1
    refine kdl_iter (l := D) (vs := rs.map fun r => Value.ref r.1) (nn := kD) (fun i m₁ nx => ∃ (u1 u2 : Option Value) (kf : Nat), m₁ = (fun y => if y = Str.ofString "row" then u1 else if y = Str.ofString "at" then u2 else if y = Str.ofString "found" then some (Value.ref FD)
      else [(Str.ofString "rows", Value.ref D), (Str.ofString "column", Value.int 0 t0), (Str.ofString "is_down", Value.bool d)].reverse.lookup y) ∧ nx = (FD, listOf ((sortRows d rowKey (rs.take i)).map fun r => Value.ref r.1).toArray kf) :: news) rfl (.tail _ hD) F1 N1 ?_ ?_ ?_
    · refine ⟨none, none, 0, ?_, rfl⟩
      funext y
      by_cases h1 : y = Str.ofString "row"
      · subst h1; rfl
      · by_cases h2 : y = Str.ofString "at"
        · subst h2; rfl
        · simp only [if_neg h1, if_neg h2]
    · rintro i v m₁ nx h2 tk2 own hv hoff - ⟨u1, u2, kf, rfl, rfl⟩ F2 N2
      change Fr g' L' h2 _ at F2
      change News g' L' h2 _ at N2
      rw [List.getElem?_map] at hv
      obtain ⟨r, hr, rfl⟩ := Option.map_eq_some_iff.mp hv
      obtain ⟨⟨kr, hrm⟩, x, tx, e, hre⟩ := hrs r (List.mem_of_getElem? hr)
      have hS : ∀ y ∈ sortRows d rowKey (rs.take i), y ∈ rs := fun y hy => by
        rcases sortRows_mem hy with h | h
        · cases h
        · exact List.mem_of_mem_take h
      have hlS : (sortRows d rowKey (rs.take i)).length ≤ 1000 := by
        have h1 : (sortRows d rowKey (rs.take i)).length = 0 + (rs.take i).length := sortRows_length d rowKey (rs.take i) []
        rw [List.length_take] at h1; omega
      have hs : sortRows d rowKey (rs.take (i + 1)) = insRow d rowKey (sortRows d rowKey (rs.take i)) r := by
        rw [List.take_add_one, hr]; exact sortRows_snoc d rowKey _ r
      rw [hs]
      generalize sortRows d rowKey (rs.take i) = S at *
      have hkx : rowKey r = x := by unfold rowKey; rw [hre]
      have hne : ∀ p ∈ news ++ own, p.1 ≠ FD := fun p hp => (List.mem_append.mp hp).elim (fun h => Nat.ne_of_lt (lt1 p h)) fun h => hoff p h FD (.head _)
      have hz2 : (S.map fun r => Value.ref r.1).toArray.toList.length ≤ sizeLine := by rw [List.length_map]; exact Nat.le_trans hlS (by decide)
      have hz : (S.map fun r => Value.ref r.1).length < 2 ^ 62 := by rw [List.length_map]; omega
      k_steps
      unfold Stop
      refine While_inv2 (n₀ := (S.map fun r => Value.ref r.1).length) (fun n m nx => n ≤ S.length ∧ posOf d (S.map rowKey) x n = posOf d (S.map rowKey) x S.length ∧ nx = (FD, listOf (S.map fun r => Value.ref r.1).toArray kf) :: (news ++ own) ∧
        (∃ ta, m (Str.ofString "at") = some (Value.int (n : Int) ta)) ∧ ∀ z, z ≠ Str.ofString "at" → m z = (fun y => if y = Str.ofString "row" then some (Value.ref r.1) else if y = Str.ofString "found" then some (Value.ref FD)
          else [(Str.ofString "rows", Value.ref D), (Str.ofString "column", Value.int 0 t0), (Str.ofString "is_down", Value.bool d)].reverse.lookup y) z) (by assumption) (by assumption) ?_ ?_
      · refine ⟨by rw [List.length_map]; exact Nat.le_refl _, by rw [List.length_map], rfl, ⟨_, rfl⟩, fun z hz => ?_⟩
        by_cases h2 : z = Str.ofString "row"
        · subst h2; rfl
        · simp only [if_neg hz, if_neg h2]
      · rintro n m₁ nx h3 tk3 F3 N3 ⟨hk1, hpos, rfl, ⟨ta, hma⟩, hmo⟩
        obtain rfl := map_set hma hmo
        cases n with
        | zero =>
          have g0 : ¬ ((0 : Int) < ((0 : Nat) : Int)) := by omega
          have g5 : Builtin.List.listFitsIndex ((0 : Nat) : Int) = true := by decide
          have g6 : posOf d (S.map rowKey) (rowKey r) S.length = 0 := by rw [hkx, ← hpos]; rfl
          k_steps
          · refine InvEndG.intro F7 N7 ⟨.tail _ hD, some (Value.ref r.1), some (Value.int ((0 : Nat) : Int) ta), kf + 1, ?_, rfl⟩ ?_ ?_ ?_
            · funext y
              by_cases h1 : y = Str.ofString "row"
              · subst h1; rfl
              · by_cases h2 : y = Str.ofString "at"
                · subst h2; rfl
                · simp only [if_neg h1, if_neg h2]
            · intro p hp b hb
              rcases List.mem_cons.mp hb with rfl | hb
              · exact hoff p hp _ (.head _)
              · exact hoff p hp _ (.tail _ hb)
            · intro p hp
              rcases List.mem_cons.mp hp with rfl | hp
              · exact .head _
              · exact .tail _ (List.mem_append_left _ hp)
            · exact fun p hp => .tail _ (List.mem_append_right _ hp)
        | succ k =>
          have hkl : k < S.length := by omega
          obtain ⟨⟨kq, hqm⟩, xq, tq, eq, hqe⟩ := hrs S[k] (hS _ (List.getElem_mem hkl))
          have g1 : (0 : Int) < ((k + 1 : Nat) : Int) := by omega
          have g2 : (S.map fun r => Value.ref r.1)[(((k + 1 : Nat) : Int) - 1).toNat]? = some (Value.ref S[k].1) := by
            have e1 : (((k + 1 : Nat) : Int) - 1).toNat = k := by omega
            rw [e1, List.getElem?_map, List.getElem?_eq_getElem hkl]; rfl
          have g3 : S[k].2[(0 : Int).toNat]? = some (Value.int xq tq) := by rw [hqe]; rfl
          have g4 : r.2[(0 : Int).toNat]? = some (Value.int x tx) := by rw [hre]; rfl
          have g7 : (S.map rowKey).getD k 0 = xq := by
            rw [List.getD_eq_getElem?_getD, List.getElem?_map, List.getElem?_eq_getElem hkl]
            show rowKey S[k] = xq
            unfold rowKey; rw [hqe]
          have g5 : Builtin.List.listFitsIndex ((k + 1 : Nat) : Int) = true := by
            unfold Builtin.List.listFitsIndex
            rw [Bool.and_eq_true]
            exact ⟨decide_eq_true (by omega), decide_eq_true (by omega)⟩
          k_steps
          · rename Fr g' L' _ _ => F8
            rename News g' L' _ _ => N8
            refine ⟨_, _, _, _, k, rfl, F8, N8, Nat.lt_succ_self _, by omega, ?_, rfl, ⟨?tokP2, ?pfP2⟩, ?_⟩
            case pfP2 => exact congrArg (fun z => some (Value.int z _)) (show (((k + 1 : Nat) : Int) - 1) = (k : Int) by omega)
            · rw [← hpos]; exact (pos_go (by rw [g7]; assumption)).symm
            · intro z hz
              simp only [if_neg hz]
          · refine InvEndG.intro F7 N7 ⟨.tail _ hD, some (Value.ref r.1), some (Value.int ((k + 1 : Nat) : Int) ta), kf + 1, ?_, rfl⟩ ?_ ?_ ?_
            · funext y
              by_cases h1 : y = Str.ofString "row"
              · subst h1; rfl
              · by_cases h2 : y = Str.ofString "at"
                · subst h2; rfl
                · simp only [if_neg h1, if_neg h2]
            · intro p hp b hb
              rcases List.mem_cons.mp hb with rfl | hb
              · exact hoff p hp _ (.head _)
              · exact hoff p hp _ (.tail _ hb)
            · intro p hp
              rcases List.mem_cons.mp hp with rfl | hp
              · exact .head _
              · exact .tail _ (List.mem_append_left _ hp)
            · exact fun p hp => .tail _ (List.mem_append_right _ hp)
    · rintro m₁ nx h2 tk2 ⟨u1, u2, kf, rfl, rfl⟩ F2 N2
      change Fr g' L' h2 _ at F2
      change News g' L' h2 _ at N2
      rw [List.length_map, List.take_length] at N2
      k_steps
      exact hret _ [_] _ _ (by assumption) (by assumption) (fun p hp q hq => by rw [List.mem_singleton.mp hp]; exact lt1 q hq) ⟨_, _, rfl, rfl⟩
  have size_of_bounds_c : ∀ (w : World) (mean : ExcName → Option Value) (mg mb : Str → Option Value) (news : List (Addr × Obj)) (B p1 p2 : Addr) (kB k1 k2 : Nat) (many wide : Int) (t1 t2 t3 t4 : Tok)
    (hB : (B, listOf #[.ref p1, .ref p2] kB) ∈ news) (h1 : (p1, ({ cls := .type "tuple", data := .seq #[.int 1 t1, .int many t2] k1 } : Obj)) ∈ news) (h2 : (p2, ({ cls := .type "tuple", data := .seq #[.int 1 t3, .int wide t4] k2 } : Obj)) ∈ news)
    (g1 : 1 ≤ many) (g2 : many ≤ 1000) (g3 : 1 ≤ wide) (g4 : wide ≤ 1000), Tell PySem.Challenge.rw_xm0946_02 Mine.core.heap_1_39 Mine.core.view_1_40 w mean mg mb 227 news [.ref B] 4 (fun r tl => (∃ t, r = .int (many * wide) t) ∧ tl = []) := by
    clear order_mark_c is_behind_c sorted_rows_c
    intro w mean mg mb news B p1 p2 kB k1 k2 many wide t1 t2 t3 t4 hB h1 h2 g1 g2 g3 g4
    have hMd : Md 3 := .mk 3
    unfold Tell
    w_on
    k_fill
    intro dp un gd cn cs a ccd cl outer A₀ base h₀ L m s Q E B0 F X N T hk hd hu hret
    refine wpAny_call ?_
    k_dflt (refine' code_def (binds := [(Str.ofString "bounds", .ref B)]) B0 F X N T rfl rfl hk ?qk6 ?qk7 ?qk8 ?qk9 ?qkB ?_ ?qc2 ?qc3 ?qc4 ?qc5; walk_at "M IN")
    k_steps
    unfold Stop
    rename Fr g' L' _ _ => F1
    rename News g' L' _ _ => N1
    refine For_turns F1 ?_
    walk1
    refine itemsT (l := B) (vs := [.ref p1, .ref p2]) (nn := kB) (fun i m₁ => ∃ (z : Int) (t : Tok) (u1 u2 : Option Value), m₁ = (fun y => if y = Str.ofString "found" then some (Value.int z t) else if y = Str.ofString "high" then u2 else if y = Str.ofString "low" then u1
      else [(Str.ofString "bounds", Value.ref B)].reverse.lookup y) ∧ z = (if i = 0 then 1 else if i = 1 then many else many * wide)) rfl F1 N1 hB ?_ ?_ ?_
    · exact ⟨1, _, _, _, map3 (Str.ofString "found") (Str.ofString "high") (Str.ofString "low") (fun y e1 e2 e3 => by simp only [if_neg e1]), rfl⟩
    · rintro i v m₁ h3 tk3 own hv ⟨z, t, u1, u2, rfl, hz⟩ hoff F3 N3
      change Fr g' L' h3 _ at F3
      change News g' L' h3 _ at N3
      match i, hv, hz with
      | 0, hv, hz =>
        obtain rfl : Value.ref p1 = v := Option.some.inj hv
        have hz' : z = 1 := hz
        subst hz'
        have N4 := news_add N3 (List.mem_append_left own h1)
        clear N3 hv hz
        k_steps
        rename Fr g' L' _ _ => F5
        rename News g' L' _ _ => N5
        exact ⟨_, _, _, rfl, F5, news_drop1 N5, _, _, _, _, map3 (Str.ofString "found") (Str.ofString "high") (Str.ofString "low") (fun y e1 e2 e3 => by simp only [if_neg e1, if_neg e2, if_neg e3]), by show 1 * (many - 1 + 1) = many; omega⟩
      | 1, hv, hz =>
        obtain rfl : Value.ref p2 = v := Option.some.inj hv
        have hz' : z = many := hz
        subst hz'
        have N4 := news_add N3 (List.mem_append_left own h2)
        clear N3 hv hz
        k_steps
        rename Fr g' L' _ _ => F5
        rename News g' L' _ _ => N5
        exact ⟨_, _, _, rfl, F5, news_drop1 N5, _, _, _, _, map3 (Str.ofString "found") (Str.ofString "high") (Str.ofString "low") (fun y e1 e2 e3 => by simp only [if_neg e1, if_neg e2, if_neg e3]), by show z * (wide - 1 + 1) = z * wide; rw [Int.sub_add_cancel]⟩
      | i + 2, hv, hz => exact absurd hv (by simp)
    · rintro m₁ h3 tk3 ⟨z, t, u1, u2, rfl, hz⟩ F3 N3
      change Fr g' L' h3 _ at F3
      change News g' L' h3 _ at N3
      have hz' : z = many * wide := hz
      subst hz'
      k_steps
      exact hret _ [] _ _ (by assumption) (by assumption) (fun p hp => nomatch hp) ⟨⟨_, rfl⟩, rfl⟩
  have array_make_c : ∀ (w : World) (mean : ExcName → Option Value) (mg mb : Str → Option Value) (news : List (Addr × Obj)) (B p1 p2 : Addr) (kB k1 k2 : Nat) (many wide nn : Int) (t1 t2 t3 t4 tn tt te : Tok) (told emp : Str)
    (hB : (B, listOf #[.ref p1, .ref p2] kB) ∈ news) (h1 : (p1, ({ cls := .type "tuple", data := .seq #[.int 1 t1, .int many t2] k1 } : Obj)) ∈ news) (h2 : (p2, ({ cls := .type "tuple", data := .seq #[.int 1 t3, .int wide t4] k2 } : Obj)) ∈ news)
    (g1 : 1 ≤ many) (g2 : many ≤ 1000) (g3 : 1 ≤ wide) (g4 : wide ≤ 1000), Tell PySem.Challenge.rw_xm0946_02 Mine.core.heap_1_39 Mine.core.view_1_40 w mean mg mb 180 news [.int nn tn, .str told tt, .ref B, .str emp te] 12 (fun r tl => ∃ x dx I its k u1 u2 u3 u4 u5 u6 v1 v3, r = .ref x ∧ tl = [(I, listOf its k), (x, instObj 180 dx), (dx, arrObj w.params u1 u2 u3 u4 u5 u6 v1 v3 (Str.ofString "ARRAY") nn tn told tt B I)] ∧ dx < x ∧ x < I) := by
    clear order_mark_c is_behind_c sorted_rows_c
    intro w mean mg mb news B p1 p2 kB k1 k2 many wide nn t1 t2 t3 t4 tn tt te told emp hB h1 h2 g1 g2 g3 g4
    have hMd : Md 4 := .mk 4
    unfold Tell
    w_on
    k_fill
    intro dp un gd cn cs a ccd cl outer A₀ base h₀ L m s Q E B0 F X N T hk hd hu hret
    refine' call_cls F X N ?qmP4 ?qiP4 ?qfP4 ?_; (case qmP4 => k_is); (case qiP4 => k_is); (case qfP4 => k_is)
    intro x dx hh1 F1 N1 l1 l2
    have l2' := ltN l2
    have l1q := l1
    k_dflt (refine' code_def (binds := [(Str.ofString "self", .ref x), (Str.ofString "number", .int nn tn), (Str.ofString "told", .str told tt), (Str.ofString "bounds", .ref B), (Str.ofString "value", .str emp te)]) B0 F1 X N1 T rfl rfl hk ?qk6 ?qk7 ?qk8 ?qk9 ?qkB ?_ ?qc2 ?qc3 ?qc4 ?qc5; walk_at "M IN")
    have gm1 : 0 ≤ many * wide := Int.mul_nonneg (by omega) (by omega)
    have gm2 : many * wide ≤ 1000 * 1000 := Int.mul_le_mul g2 g4 (by omega) (by omega)
    k_steps
    have q1 := l1q
    have q2 : @LT.lt Nat _ x D3 := by omega
    exact hret _ [(D3, listOf its3 k3), (x, instObj 180 dx), (dx, _)] _ _ (by assumption) (cb_drop (by assumption) fun p hp => by
        rcases List.mem_cons.mp hp with rfl | hp
        · exact .head _
        · rcases List.mem_cons.mp hp with rfl | hp
          · exact .tail _ (.tail _ (.head _))
          · rcases List.mem_cons.mp hp with rfl | hp
            · exact .tail _ (.tail _ (.tail _ (.head _)))
            · exact .tail _ (.tail _ (.tail _ (.tail _ hp))))
      (fun p hp q hq => by
        have e := q1 q hq
        rcases List.mem_cons.mp hp with rfl | hp
        · exact Nat.lt_trans e (Nat.lt_trans l2 q2)
        · rcases List.mem_cons.mp hp with rfl | hp
          · exact Nat.lt_trans e l2
          · rw [List.mem_singleton.mp hp]; exact e)
      ⟨_, _, _, _, _, _, _, _, _, _, _, _, _, rfl, rfl, l2, q2⟩
  have text_of_whole_c : ∀ (w : World) (mean : ExcName → Option Value) (mg mb : Str → Option Value) (news : List (Addr × Obj)) (n : Int) (tn : Tok) (g1 : 1 ≤ n) (g2 : n ≤ 1000), Tell PySem.Challenge.rw_xm0946_02 Mine.core.heap_1_39 Mine.core.view_1_40 w mean mg mb 163 news [.int n tn] 4 (fun r tl => (∃ x t, r = .str x t ∧ x.length ≤ 1000) ∧ tl = []) := by
    clear order_mark_c is_behind_c sorted_rows_c size_of_bounds_c array_make_c
    intro w mean mg mb news n tn g1 g2
    have hMd : Md 5 := .mk 5
    unfold Tell
    w_on
    k_fill
    intro dp un gd cn cs a ccd cl outer A₀ base h₀ L m s Q E B0 F X N T hk hd hu hret
    refine wpAny_call ?_
    k_dflt (refine' code_def (binds := [(Str.ofString "number", .int n tn)]) B0 F X N T rfl rfl hk ?qk6 ?qk7 ?qk8 ?qk9 ?qkB ?_ ?qc2 ?qc3 ?qc4 ?qc5; walk_at "M IN")
    k_steps
    unfold Stop
    rename Fr g' L' _ _ => F1
    rename News g' L' _ _ => N1
    refine While_inv2 (n₀ := n.toNat + 1) (fun k m₁ nx => ∃ (z : Int) (f : Str) (t1 t2 : Tok), 0 ≤ z ∧ (f.length : Int) + z ≤ 1000 ∧ k = z.toNat + (if f.length = 0 then 1 else 0) ∧ nx = news ∧
      m₁ = (fun y => if y = Str.ofString "left" then some (Value.int z t1) else if y = Str.ofString "found" then some (Value.str f t2) else [(Str.ofString "number", Value.int n tn)].reverse.lookup y)) F1 (cb_drop N1 fun p hp => .tail _ hp) ?_ ?_
    · have e1 : (if n < 0 then -n else n) = n := if_neg (by omega)
      rw [e1] at F1 ⊢
      exact ⟨n, Str.ofString "", _, _, by omega, by show (0 : Int) + n ≤ 1000; omega, rfl, rfl, rfl⟩
    · rintro k m₁ nx h3 tk3 F3 N3 ⟨z, f, t1, t2, hz0, hz1, rfl, rfl, rfl⟩
      have hlen : ∀ v : Nat, ((⟨#[v]⟩ : Str) ++ f).length = 1 + f.length := fun v => by rw [Str.length_append]; rfl
      have hdiv : z.fdiv 10 = z / 10 := Int.fdiv_eq_ediv_of_nonneg _ (by decide)
      k_steps
      · rename Fr g' L' _ _ => F8
        rename News g' L' _ _ => N8
        refine ⟨_, _, _, _, _, rfl, F8, N8, ?ltP5, z.fdiv 10, _, _, _, ?a1P5, ?a2P5, rfl, rfl, map2 (Str.ofString "left") (Str.ofString "found") (fun y e1 e2 => by simp only [if_neg e1, if_neg e2])⟩
        case ltP5 => rw [hlen, hdiv]; split <;> split <;> omega
        case a1P5 => rw [hdiv]; omega
        case a2P5 => rw [hlen, hdiv]; omega
      · rename Fr g' L' _ _ => F8
        rename News g' L' _ _ => N8
        rename (f == Str.ofString "") = true => hf
        have hf0 : f.length = 0 := by rw [beq_iff_eq.mp hf]; rfl
        refine ⟨_, _, _, _, _, rfl, F8, N8, ?ltP5, z.fdiv 10, _, _, _, ?a1P5, ?a2P5, rfl, rfl, map2 (Str.ofString "left") (Str.ofString "found") (fun y e1 e2 => by simp only [if_neg e1, if_neg e2])⟩
        case ltP5 => rw [hlen, hdiv, hf0]; split <;> split <;> omega
        case a1P5 => rw [hdiv]; omega
        case a2P5 => rw [hlen, hdiv]; omega
      · exact hret _ [] _ _ (by assumption) (by assumption) (fun p hp => nomatch hp) ⟨⟨_, _, rfl, by omega⟩, rfl⟩
  have rows_array_c : ∀ (w : World) (mean : ExcName → Option Value) (mg mb : Str → Option Value) (news : List (Addr × Obj)) (D : Addr) (kD : Nat) (rs : List (Addr × List Value)) (wd : Nat) (nn : Int) (tn : Tok)
    (hD : (D, listOf (rs.map fun r => Value.ref r.1).toArray kD) ∈ news) (hrs : ∀ r ∈ rs, (∃ k, (r.1, listOf r.2.toArray k) ∈ news) ∧ r.2.length = wd) (hs1 : 1 ≤ rs.length) (hs2 : rs.length ≤ 1000) (hw1 : 1 ≤ wd) (hw2 : wd ≤ 1000), Tell PySem.Challenge.rw_xm0946_02 Mine.core.heap_1_39 Mine.core.view_1_40 w mean mg mb 256 news [.ref D, .int nn tn] 14 (fun r tl => ∃ x dx B p1 p2 I k u1 u2 u3 u4 u5 u6 v1 v3 told tt kB k1 k2 t1 t2 t3 t4, r = .ref x ∧
      tl = [(I, listOf (rs.flatMap (·.2)).toArray k), (x, instObj 180 dx), (dx, arrObj w.params u1 u2 u3 u4 u5 u6 v1 v3 (Str.ofString "ARRAY") nn tn told tt B I), (B, listOf #[.ref p1, .ref p2] kB),
        (p1, { cls := .type "tuple", data := .seq #[.int 1 t1, .int (rs.length : Int) t2] k1 }), (p2, { cls := .type "tuple", data := .seq #[.int 1 t3, .int (wd : Int) t4] k2 })]) := by
    clear order_mark_c is_behind_c sorted_rows_c size_of_bounds_c
    intro w mean mg mb news D kD rs wd nn tn hD hrs hs1 hs2 hw1 hw2
    have hMd : Md 6 := .mk 6
    unfold Tell
    w_on
    k_fill
    intro dp un gd cn cs a ccd cl outer A₀ base h₀ L m s Q E B0 F X N T hk hd hu hret
    refine wpAny_call ?_
    k_dflt (refine' code_def (binds := [(Str.ofString "rows", .ref D), (Str.ofString "number", .int nn tn)]) B0 F X N T rfl rfl hk ?qk6 ?qk7 ?qk8 ?qk9 ?qkB ?_ ?qc2 ?qc3 ?qc4 ?qc5; walk_at "M IN")
    obtain ⟨r0, hr0⟩ : ∃ r, rs[0]? = some r := ⟨rs[0], List.getElem?_eq_getElem hs1⟩
    obtain ⟨⟨kr, hrm⟩, hrl⟩ := hrs r0 (List.mem_of_getElem? hr0)
    have hlen1 : (rs.map fun r => Value.ref r.1).length = rs.length := List.length_map _
    have hlen2 : r0.2.length = wd := hrl
    have hx0 : (rs.map fun r => Value.ref r.1)[(0 : Int).toNat]? = some (Value.ref r0.1) := by
      show (rs.map fun r => Value.ref r.1)[0]? = _
      rw [List.getElem?_map, hr0]; rfl
    k_steps
    refine ⟨D, rs, kD, _, rfl, rfl, by assumption, by assumption, ?memP6, ?rowsP6, Nat.le_trans hs2 (by decide), flat_small (fun r hr => (hrs r hr).2) hs2 hw2, ?_⟩
    case memP6 => repeat (first | exact hD | refine List.Mem.tail _ ?_)
    case rowsP6 =>
      intro r hr
      obtain ⟨k, hk⟩ := (hrs r hr).1
      exact ⟨k, by repeat (first | exact hk | refine List.Mem.tail _ ?_)⟩
    intro Dn hn tkn Fn Nn ln
    k_lt ln
    try dsimp only at ln
    k_steps
    rename (@LT.lt Nat _ _ _ ∧ @LT.lt Nat _ _ _ ∧ @LT.lt Nat _ _ _ ∧ AllLt _ news) => b1
    rename (@LT.lt Nat _ _ _ ∧ @LT.lt Nat _ _ _ ∧ AllLt _ news) => b2
    rename (@LT.lt Nat _ _ _ ∧ AllLt _ news) => b3
    rename News h₀ L _ (_ :: _) => kN
    exact hret _ [_, _, _, _, _, _] _ _ (by assumption) (pick_rows kN) (lt6 ln.2.2.2.2.2.2.2 (fun q hq => Nat.lt_trans (kst_ltOf l9e.2.2.2.2 q hq) lt1) l9e.2.2.2.2 b1.2.2.2 b3.2 b2.2.2)
      ⟨_, _, _, _, _, _, _, _, _, _, _, _, _, _, _, _, _, _, _, _, _, _, _, _, rfl, rfl⟩
  have rows_of_c : ∀ (w : World) (mean : ExcName → Option Value) (mg mb : Str → Option Value) (news : List (Addr × Obj)) (x dx B p1 p2 I : Addr) (kI kB k1 k2 : Nat) (u1 u2 u3 u4 u5 u6 v1 v3 tn tt t1 t2 t3 t4 : Tok) (nn : Int) (told : Str) (cs : List (List Value)) (wd : Nat)
    (hx : (x, instObj 180 dx) ∈ news) (hdx : (dx, arrObj w.params u1 u2 u3 u4 u5 u6 v1 v3 (Str.ofString "ARRAY") nn tn told tt B I) ∈ news) (hB : (B, listOf #[.ref p1, .ref p2] kB) ∈ news)
    (h1 : (p1, ({ cls := .type "tuple", data := .seq #[.int 1 t1, .int (cs.length : Int) t2] k1 } : Obj)) ∈ news) (h2 : (p2, ({ cls := .type "tuple", data := .seq #[.int 1 t3, .int (wd : Int) t4] k2 } : Obj)) ∈ news)
    (hI : (I, listOf cs.flatten.toArray kI) ∈ news) (hcs : ∀ c ∈ cs, c.length = wd) (hs1 : 1 ≤ cs.length) (hs2 : cs.length ≤ 1000) (hw1 : 1 ≤ wd) (hw2 : wd ≤ 1000), Tell1 PySem.Challenge.rw_xm0946_02 Mine.core.heap_1_39 Mine.core.view_1_40 w mean mg mb 261 news [.ref x] 4 (fun r tl => ∃ (D : Addr) (k : Nat) (rs : List (Addr × List Value)) (tl' : List (Addr × Obj)), r = .ref D ∧ tl = (D, listOf (rs.map fun r => Value.ref r.1).toArray k) :: tl' ∧ rs.map (·.2) = cs ∧ ∀ r ∈ rs, ∃ k, (r.1, listOf r.2.toArray k) ∈ tl') := by
    clear order_mark_c is_behind_c sorted_rows_c size_of_bounds_c array_make_c text_of_whole_c rows_array_c
    intro w mean mg mb news x dx B p1 p2 I kI kB k1 k2 u1 u2 u3 u4 u5 u6 v1 v3 tn tt t1 t2 t3 t4 nn told cs wd hx hdx hB h1 h2 hI hcs hs1 hs2 hw1 hw2
    have hMd : Md 7 := .mk 7
    unfold Tell1
    w_on
    k_fill
    intro dp un gd cn cs' a ccd cl outer A₀ base h₀ L m s Q E B0 F X N T hk hd hu hret
    refine wpAny_call ?_
    have N6 := news_add (news_add (news_add (news_add (news_add (news_add N hI) (.tail _ h2)) (.tail _ (.tail _ h1))) (.tail _ (.tail _ (.tail _ hB)))) (.tail _ (.tail _ (.tail _ (.tail _ hdx))))) (.tail _ (.tail _ (.tail _ (.tail _ (.tail _ hx)))))
    k_dflt (refine' code_defC (binds := [(Str.ofString "array", .ref x)]) B0 F X N6 T rfl rfl hk ?qk6 ?qk7 ?qk8 ?qk9 ?qkB ?qkD ?_ ?qc2 ?qc3 ?qc4; (case qk6 => k_is); (case qk7 => k_is); (case qk8 => ktr_room); (case qk9 => exact BindsTo.of_eq rfl); (case qkB => exact rfl); (case qkD => decide +kernel); (case qc2 => exact rfl); (case qc3 => exact rfl); (case qc4 => exact rfl))
    intro g' L' h' tk' cells' FG' F' N' Y' B' X' T' l1
    have l1q := l1
    k_lt l1
    k_cells Y'
    simp only [List.cons_append, List.nil_append] at N'
    dsimp only
    try k_fold
    have hlen1 : cs.flatten.length = cs.length * wd := flatten_len hcs
    have hbig : cs.length * wd ≤ 1000 * 1000 := Nat.mul_le_mul hs2 hw2
    k_steps
    obtain ⟨q1, q2⟩ := range_step (c := (wd : Int) - 1 + 1) hs1 hw1 hw2 hbig (Int.sub_add_cancel _ _)
    rename_i HR FB NB KB
    refine ⟨_, _, _, _, _, _, _, cs.length, _, rfl, rfl, FB, NB, HR, q1, q2, Nat.le_trans hs2 (by decide), ?_⟩
    rintro s₂ ⟨hh, rfl⟩
    clear q1 q2 HR KB
    have J0 : ∀ base : List (Addr × Obj), ∃ (rs : List (Addr × List Value)) (tl' : List (Addr × Obj)), ([] : List Value) = (rs.map fun r => Value.ref r.1) ∧ rs.map (·.2) = cs.take 0 ∧ base = tl' ++ base ∧ (∀ r ∈ rs, ∃ k, (r.1, listOf r.2.toArray k) ∈ tl') ∧ (∀ p ∈ tl', ∀ q ∈ news, @Ne Nat q.1 p.1) := by
      intro base
      refine ⟨[], [], rfl, rfl, rfl, ?_, ?_⟩
      · intro r hr; cases hr
      · intro p hp; cases hp
    refine rest_ind (fun i ys nw => ∃ (rs : List (Addr × List Value)) (tl' : List (Addr × Obj)), ys = (rs.map fun r => Value.ref r.1) ∧ rs.map (·.2) = cs.take i ∧ nw = tl' ++ _ ∧ (∀ r ∈ rs, ∃ k, (r.1, listOf r.2.toArray k) ∈ tl') ∧ (∀ p ∈ tl', ∀ q ∈ news, @Ne Nat q.1 p.1)) ?_ ?_ cs.length 0 [] _ (Nat.zero_add _) (J0 _)
    · rintro i ys nw v I7 oI C7 oC D1 m2 h3 tk3 E' hi ⟨rs, tl', rfl, hmap, rfl, hmem, hlt⟩ ⟨t7, rfl⟩ hC' hx' F3 N3 off3 ne3
      have N5 := add_base3 N3
      simp only [List.cons_append, List.nil_append] at N5
      have hci : cs[i]? = some cs[i] := List.getElem?_eq_getElem hi
      have hp1 : (0 : Int) + (i : Int) * ((wd : Int) - 1 + 1) = ((i * wd : Nat) : Int) := by rw [Int.zero_add, Int.sub_add_cancel, Int.natCast_mul]
      have hp2 : (0 : Int) + (i : Int) * ((wd : Int) - 1 + 1) + ((wd : Int) - 1 + 1) = ((i * wd + wd : Nat) : Int) := by rw [hp1, Int.sub_add_cancel, Int.natCast_add]
      have hz9 : cs.flatten.toArray.size ≤ sizeLine := by rw [List.size_toArray, hlen1]; exact Nat.le_trans hbig (by decide)
      k_steps
      have fr7 : ∀ q ∈ news, @Ne Nat q.1 D7 := fun q hq => Nat.ne_of_lt (l7 q (by repeat (first | exact List.mem_append_left _ hq | refine List.Mem.tail _ ?_)))
      refine LCg.CompEnd.intro F7 N7 ((D7, listOf cs[i].toArray 0) :: (tl' ++ _)) ?subP7 ?offP7 trivial ⟨rs ++ [(D7, cs[i])], (D7, listOf cs[i].toArray 0) :: tl', ?_, ?_, rfl, ?_, ?_⟩
      case subP7 =>
        intro p hp
        rcases List.mem_cons.mp hp with rfl | hp
        · exact .tail _ (.head _)
        rcases List.mem_cons.mp hp with rfl | hp
        · exact .tail _ (.tail _ (.head _))
        rcases List.mem_cons.mp hp with rfl | hp
        · exact .tail _ (.tail _ (.tail _ (.head _)))
        rcases List.mem_cons.mp hp with rfl | hp
        · exact .head _
        · repeat (first | exact List.mem_append_right _ hp | refine List.Mem.tail _ ?_)
      case offP7 =>
        exact ⟨⟨Nat.ne_of_gt (l7 _ (.head _)), Nat.ne_of_gt (l7 _ (.tail _ (.head _))), Nat.ne_of_gt (l7 _ (.tail _ (.tail _ (.head _))))⟩, off3⟩
      · rw [List.map_append]; rfl
      · rw [List.map_append, hmap, List.take_add_one, hci]; rfl
      · intro r hr
        rcases List.mem_append.mp hr with hr | hr
        · obtain ⟨k, hk⟩ := hmem r hr
          exact ⟨k, .tail _ hk⟩
        · rw [List.mem_singleton.mp hr]; exact ⟨_, .head _⟩
      · intro p hp
        rcases List.mem_cons.mp hp with rfl | hp
        · exact fr7
        · exact hlt p hp
    · rintro ys nw ⟨rs, tl', rfl, hmap, rfl, hmem, hlt⟩
      intro D7 h7 tk7 F7 N7 off7
      rw [List.take_length] at hmap
      replace off7 := off1_ne off7
      k_steps
      refine hret _ ((D7, LCg.lst (rs.map fun r => Value.ref r.1)) :: tl') _ _ (by assumption) ?_ ?_ ⟨D7, _, rs, tl', rfl, rfl, hmap, hmem⟩
      · intro p hp
        rename News h₀ L _ _ => N8
        rcases List.mem_cons.mp hp with rfl | hp
        · exact N8 _ (.head _)
        rcases List.mem_append.mp hp with hp | hp
        · exact N8 p (.tail _ (List.mem_append_left _ hp))
        · exact N8 p (.tail _ (List.mem_append_right _ (by repeat (first | exact hp | refine List.Mem.tail _ ?_))))
      · intro p hp q hq
        rcases List.mem_cons.mp hp with rfl | hp
        · exact off7 q (List.mem_append_right _ (by repeat (first | exact hq | refine List.Mem.tail _ ?_)))
        · exact hlt p hp q hq
  have copy_of_c : ∀ (w : World) (mean : ExcName → Option Value) (mg mb : Str → Option Value) (news : List (Addr × Obj)) (x dx B p1 p2 I : Addr) (kI kB k1 k2 : Nat) (u1 u2 u3 u4 u5 u6 v1 v3 tn tt t1 t2 t3 t4 t0 : Tok) (nn n2 : Int) (told : Str) (its : List Value) (many wide : Int)
    (hx : (x, instObj 180 dx) ∈ news) (hdx : (dx, arrObj w.params u1 u2 u3 u4 u5 u6 v1 v3 (Str.ofString "ARRAY") nn tn told tt B I) ∈ news) (hB : (B, listOf #[.ref p1, .ref p2] kB) ∈ news)
    (h1 : (p1, ({ cls := .type "tuple", data := .seq #[.int 1 t1, .int many t2] k1 } : Obj)) ∈ news) (h2 : (p2, ({ cls := .type "tuple", data := .seq #[.int 1 t3, .int wide t4] k2 } : Obj)) ∈ news)
    (hI : (I, listOf its.toArray kI) ∈ news) (g1 : 1 ≤ many) (g2 : many ≤ 1000) (g3 : 1 ≤ wide) (g4 : wide ≤ 1000) (hz : its.length ≤ 1000 * 1000), Tell1 PySem.Challenge.rw_xm0946_02 Mine.core.heap_1_39 Mine.core.view_1_40 w mean mg mb 241 news [.ref x, .int n2 t0] 14 (fun r tl => ∃ (x' dx' I' : Addr) (k : Nat) (a1 a2 a3 a4 a5 a6 b1 b3 : Tok), r = .ref x' ∧ tl = [(I', listOf its.toArray k), (x', instObj 180 dx'), (dx', arrObj w.params a1 a2 a3 a4 a5 a6 b1 b3 (Str.ofString "ARRAY") n2 t0 told tt B I')] ∧ @LT.lt Nat _ dx' x' ∧ @LT.lt Nat _ dx' I') := by
    clear order_mark_c is_behind_c sorted_rows_c size_of_bounds_c text_of_whole_c rows_array_c rows_of_c
    intro w mean mg mb news x dx B p1 p2 I kI kB k1 k2 u1 u2 u3 u4 u5 u6 v1 v3 tn tt t1 t2 t3 t4 t0 nn n2 told its many wide hx hdx hB h1 h2 hI g1 g2 g3 g4 hz
    have hMd : Md 8 := .mk 8
    unfold Tell1
    w_on
    k_fill
    intro dp un gd cn cs a ccd cl outer A₀ base h₀ L m s Q E B0 F X N T hk hd hu hret
    refine wpAny_call ?_
    have N6 := news_add (news_add (news_add (news_add (news_add (news_add N hI) (.tail _ h2)) (.tail _ (.tail _ h1))) (.tail _ (.tail _ (.tail _ hB)))) (.tail _ (.tail _ (.tail _ (.tail _ hdx))))) (.tail _ (.tail _ (.tail _ (.tail _ (.tail _ hx)))))
    k_dflt (refine' code_def (binds := [(Str.ofString "value", .ref x), (Str.ofString "number", .int n2 t0)]) B0 F X N6 T rfl rfl hk ?qk6 ?qk7 ?qk8 ?qk9 ?qkB ?_ ?qc2 ?qc3 ?qc4 ?qc5; walk_at "M IN")
    k_steps
    rename (_ ∧ _ ∧ _ ∧ _ ∧ _ ∧ _ ∧ _ ∧ _ ∧ _ ∧ AllLt _ news) => b7
    rename News h₀ L _ (_ :: _) => N8
    have q3 : ∀ q ∈ news, @LT.lt Nat _ q.1 dx9 := kst_ltOf l9e.2.2.2.2.2.2
    have q4 := kst_ltOf b7.2.2.2.2.2.2.2.2.2
    have q5 := b7.2.2.1
    exact hret _ [_, _, _] _ _ (by assumption) (pick_copy N8) (ne3 q4 (fun q hq => Nat.lt_trans (q3 q hq) lt1) q3) ⟨_, _, _, _, _, _, _, _, _, _, _, _, rfl, rfl, lt1, q5⟩
  have sorted_array_c : ∀ (w : World) (mean : ExcName → Option Value) (mg mb : Str → Option Value) (news : List (Addr × Obj)) (x dx B p1 p2 I : Addr) (kI kB k1 k2 : Nat) (u1 u2 u3 u4 u5 u6 v1 v3 tn tt t1 t2 t3 t4 t0 : Tok) (nn n2 : Int) (told : Str) (cs : List (List Value)) (wd : Nat) (d : Bool)
    (hx : (x, instObj 180 dx) ∈ news) (hdx : (dx, arrObj w.params u1 u2 u3 u4 u5 u6 v1 v3 (Str.ofString "ARRAY") nn tn told tt B I) ∈ news) (hB : (B, listOf #[.ref p1, .ref p2] kB) ∈ news)
    (h1 : (p1, ({ cls := .type "tuple", data := .seq #[.int 1 t1, .int (cs.length : Int) t2] k1 } : Obj)) ∈ news) (h2 : (p2, ({ cls := .type "tuple", data := .seq #[.int 1 t3, .int (wd : Int) t4] k2 } : Obj)) ∈ news)
    (hI : (I, listOf cs.flatten.toArray kI) ∈ news) (hcs : ∀ c ∈ cs, c.length = wd) (hs1 : 1 ≤ cs.length) (hs2 : cs.length ≤ 1000) (hw1 : 1 ≤ wd) (hw2 : wd ≤ 1000) (hint : ∀ c ∈ cs, ∃ x t e, c = .int x t :: e), Tell1 PySem.Challenge.rw_xm0946_02 Mine.core.heap_1_39 Mine.core.view_1_40 w mean mg mb 287 news [.ref x, .none, .bool d, .int n2 t0] 20 (fun r tl => ∃ (x' dx' I' : Addr) (k : Nat) (a1 a2 a3 a4 a5 a6 b1 b3 : Tok), r = .ref x' ∧
      tl = [(I', listOf (sortRows d lstKey cs).flatten.toArray k), (x', instObj 180 dx'), (dx', arrObj w.params a1 a2 a3 a4 a5 a6 b1 b3 (Str.ofString "ARRAY") n2 t0 told tt B I')]) := by
    clear order_mark_c is_behind_c size_of_bounds_c array_make_c text_of_whole_c rows_array_c
    intro w mean mg mb news x dx B p1 p2 I kI kB k1 k2 u1 u2 u3 u4 u5 u6 v1 v3 tn tt t1 t2 t3 t4 t0 nn n2 told cs wd d hx hdx hB h1 h2 hI hcs hs1 hs2 hw1 hw2 hint
    have hMd : Md 9 := .mk 9
    unfold Tell1
    w_on
    k_fill
    intro dp un gd cn cs' a ccd cl outer A₀ base h₀ L m s Q E B0 F X N T hk hd hu hret
    refine wpAny_call ?_
    have N6 := news_add (news_add (news_add (news_add (news_add (news_add N hI) (.tail _ h2)) (.tail _ (.tail _ h1))) (.tail _ (.tail _ (.tail _ hB)))) (.tail _ (.tail _ (.tail _ (.tail _ hdx))))) (.tail _ (.tail _ (.tail _ (.tail _ (.tail _ hx)))))
    k_dflt (refine' code_def (binds := [(Str.ofString "value", .ref x), (Str.ofString "column", .none), (Str.ofString "is_down", .bool d), (Str.ofString "number", .int n2 t0)]) B0 F X N6 T rfl rfl hk ?qk6 ?qk7 ?qk8 ?qk9 ?qkB ?_ ?qc2 ?qc3 ?qc4 ?qc5; walk_at "M IN")
    have hflat : cs.flatten.length ≤ 1000 * 1000 := by rw [flatten_len hcs]; exact Nat.mul_le_mul hs2 hw2
    have hrl0 : ∀ rs : List (Addr × List Value), rs.map (·.2) = cs → rs.length ≤ 1000 := fun rs h => by rw [← h, List.length_map] at hs2; exact hs2
    k_steps
    have hsm : ∀ r ∈ sortRows d rowKey rs, r ∈ rs := fun r hr => (sortRows_mem hr).resolve_left (by intro h; cases h)
    refine ⟨Ds, sortRows d rowKey rs, _, _, rfl, rfl, by assumption, by assumption, .head _, fun r hr => ?rowsP9, ?z1P9, ?z2P9, ?_⟩
    case rowsP9 =>
      obtain ⟨k, hk⟩ := hmem r (hsm r hr)
      exact ⟨k, by repeat (first | exact List.mem_append_right _ hk | refine List.Mem.tail _ ?_)⟩
    case z1P9 => exact Nat.le_trans (Nat.le_of_eq (sortRows_length d rowKey rs [])) (Nat.le_trans (by rw [List.length_nil, Nat.zero_add]; exact hrl) (by decide))
    case z2P9 => exact flat_small (fun r hr => hcs _ (hmap ▸ List.mem_map.mpr ⟨r, hsm r hr, rfl⟩)) (Nat.le_trans (Nat.le_of_eq (sortRows_length d rowKey rs [])) (by rw [List.length_nil, Nat.zero_add]; exact hrl)) hw2
    intro Dn hn tkn Fn Nn ln
    rw [sort_flat, hmap] at Nn
    k_lt ln
    try dsimp only at ln
    obtain ⟨y1, y2, y3, y4, y5, y6, y7, y8⟩ := ne_split7 l9d
    k_steps
    rename News h₀ L _ (_ :: _ :: _) => N8
    have q1 := kst_ltOf ln.2.2.2.2.2.2.2.2.2.2.2
    exact hret _ [_, _, _] _ _ (by assumption) (pick_sort N8) (ne3' (fun q hq => Nat.ne_of_lt (q1 q (List.mem_append_left _ hq))) (fun q hq => l9x q (by repeat (first | exact List.mem_append_left _ hq | refine List.Mem.tail _ ?_))) (fun q hq => y8 q (List.mem_append_left _ hq))) ⟨_, _, _, _, _, _, _, _, _, _, _, _, rfl, rfl⟩
  have law_sorted_c : ∀ (w : World) (mean : ExcName → Option Value) (mg mb : Str → Option Value) (news : List (Addr × Obj)) (H : Addr) (kH : Nat) (ps : List (Int × Tok))
    (hH : (H, listOf (ps.map tv).toArray kH) ∈ news) (h1 : 1 ≤ (ps.filter fun p => decide (0 < p.1)).length) (h2 : ps.length ≤ 1000), Tell1 PySem.Challenge.rw_xm0946_02 Mine.core.heap_1_39 Mine.core.view_1_40 w mean mg mb 292 news [.ref H] 24 (fun r tl => ∃ (D : Addr) (k : Nat), r = .ref D ∧ tl = [(D, listOf ((sortRows true Prod.fst (ps.filter fun p => decide (0 < p.1))).map tv).toArray k)]) := by
    clear order_mark_c is_behind_c sorted_rows_c size_of_bounds_c array_make_c text_of_whole_c rows_of_c copy_of_c
    intro w mean mg mb news H kH ps hH h1 h2
    have hMd : Md 10 := .mk 10
    unfold Tell1
    w_on
    k_fill
    intro dp un gd cn cs' a ccd cl outer A₀ base h₀ L m s Q E B0 F X N T hk hd hu hret
    refine wpAny_call ?_
    have N6 := news_add N hH
    k_dflt (refine' code_def (binds := [(Str.ofString "heaps", .ref H)]) B0 F X N6 T rfl rfl hk ?qk6 ?qk7 ?qk8 ?qk9 ?qkB ?_ ?qc2 ?qc3 ?qc4 ?qc5; walk_at "M IN")
    k_steps
    have hzs : (ps.map tv).toArray.size = ps.length := by rw [List.size_toArray, List.length_map]
    refine LCt.CompSrcT.ledger (by rfl) (by assumption) (by assumption) (List.Mem.head _) (by rw [hzs]; exact Nat.le_trans h2 (by decide)) ?_
    intro g2
    have J0 : ∀ base : List (Addr × Obj), ∃ (rs : List (Addr × List Value)) (tl' : List (Addr × Obj)), ([] : List Value) = (rs.map fun r => Value.ref r.1) ∧ rs.map (·.2) = ((ps.take 0).filter fun p => decide (0 < p.1)).map (fun p => [tv p]) ∧ base = tl' ++ base ∧ (∀ r ∈ rs, ∃ k, (r.1, listOf r.2.toArray k) ∈ tl') ∧ (∀ p ∈ tl', ∀ q ∈ news, @Ne Nat q.1 p.1) := by
      intro base
      refine ⟨[], [], rfl, rfl, rfl, ?_, ?_⟩
      · intro r hr; cases hr
      · intro p hp; cases hp
    refine restT_ind (fun i ys nw => ∃ (rs : List (Addr × List Value)) (tl' : List (Addr × Obj)), ys = (rs.map fun r => Value.ref r.1) ∧ rs.map (·.2) = ((ps.take i).filter fun p => decide (0 < p.1)).map (fun p => [tv p]) ∧ nw = tl' ++ _ ∧ (∀ r ∈ rs, ∃ k, (r.1, listOf r.2.toArray k) ∈ tl') ∧ (∀ p ∈ tl', ∀ q ∈ news, @Ne Nat q.1 p.1)) ?_ ?_ _ 0 [] _ (Nat.zero_add _) (J0 _)
    · rintro i ys nw v I7 oI C7 oC D1 m2 h3 tk3 E' hi ⟨rs, tl', rfl, hmap, rfl, hmem, hlt⟩ hv hC' hx' F3 N3 off3 ne3
      rw [hzs] at hi
      have hv' : v = tv ps[i] := by
        rw [List.getElem?_toArray, List.getElem?_map, List.getElem?_eq_getElem hi] at hv
        exact (Option.some.inj hv).symm
      subst hv'
      clear hv
      have htk : ps.take (i + 1) = ps.take i ++ [ps[i]] := by rw [List.take_add_one, List.getElem?_eq_getElem hi]; rfl
      generalize hpi : ps[i] = pi at *
      obtain ⟨z, tz⟩ := pi
      dsimp only [tv]
      k_steps

      · rename 0 < Prod.fst _ => hz
        rename _ ∧ _ ∧ _ ∧ AllLt _ _ => l8
        rename News g' L' _ (_ :: _ :: _ :: _ :: _) => N7
        rename Fr g' L' _ _ => F7
        rename Addr => l7
        refine LCg.CompEnd.intro F7 N7 ((l7, ?oP10) :: (tl' ++ _)) ?subP10 ⟨⟨Nat.ne_of_gt l8.1, Nat.ne_of_gt l8.2.1, Nat.ne_of_gt l8.2.2.1⟩, off3⟩ (.inr ⟨_, List.Mem.tail _ (List.mem_append_right _ (.head _)), rfl, _, rfl⟩) ⟨rs ++ [(l7, [tv (z, tz)])], (l7, ?oP10) :: tl', ?_, ?_, rfl, ?_, ?_⟩
        case subP10 =>
          intro p hp
          rcases List.mem_cons.mp hp with rfl | hp
          · exact .tail _ (.head _)
          rcases List.mem_cons.mp hp with rfl | hp
          · exact .tail _ (.tail _ (.head _))
          rcases List.mem_cons.mp hp with rfl | hp
          · exact .tail _ (.tail _ (.tail _ (.head _)))
          rcases List.mem_cons.mp hp with rfl | hp
          · exact .head _
          · exact .tail _ (.tail _ (.tail _ (.tail _ hp)))
        · rw [List.map_append]; rfl
        · refine Eq.trans ?_ (take_pos htk hz).symm
          rw [List.map_append, hmap]; rfl
        · intro r hr
          rcases List.mem_append.mp hr with hr | hr
          · obtain ⟨k, hk⟩ := hmem r hr
            exact ⟨k, .tail _ hk⟩
          · rw [List.mem_singleton.mp hr]; exact ⟨_, .head _⟩
        · intro p hp
          rcases List.mem_cons.mp hp with rfl | hp
          · exact fun q hq => Nat.ne_of_lt (kst_ltOf l8.2.2.2 q (List.mem_append_right _ (.tail _ hq)))
          · exact hlt p hp
      · rename ¬ (0 < Prod.fst _) => hz
        refine ⟨_, _, tl' ++ _, rfl, F3, N3, off3, .inr ⟨_, List.mem_append_right _ (.head _), rfl, _, rfl⟩, rs, tl', rfl, ?_, rfl, hmem, hlt⟩
        rw [take_neg htk hz]; exact hmap
    · rintro ys nw ⟨rs, tl', rfl, hmap, rfl, hmem, hlt⟩
      intro D7 h7 tk7 F7 N7 off7
      replace off7 := off1_ne off7
      rw [hzs, List.take_length] at hmap
      obtain ⟨cs, hcs⟩ : ∃ cs, cs = (ps.filter fun p => decide (0 < p.1)).map (fun p => [tv p]) := ⟨_, rfl⟩
      rw [← hcs] at hmap
      have hc1 : 1 ≤ cs.length := by rw [hcs, List.length_map]; exact h1
      have hc2 : cs.length ≤ 1000 := by rw [hcs, List.length_map]; exact Nat.le_trans (List.length_filter_le _ _) h2
      have hln : rs.length = cs.length := by rw [← hmap, List.length_map]
      have hcs1 : ∀ c ∈ cs, c.length = 1 := fun c hc => by
        rw [hcs] at hc; obtain ⟨p, _, rfl⟩ := List.mem_map.mp hc; rfl
      have hint : ∀ c ∈ cs, ∃ x t e, c = Value.int x t :: e := fun c hc => by
        rw [hcs] at hc; obtain ⟨p, _, rfl⟩ := List.mem_map.mp hc; exact ⟨_, _, _, rfl⟩
      have hfin : (sortRows true lstKey cs).flatten = (sortRows true Prod.fst (ps.filter fun p => decide (0 < p.1))).map tv := by rw [hcs]; exact sort_single _ _
      k_steps
      rename News h₀ L _ (_ :: _ :: _) => N8
      rw [hfin] at N8
      refine hret _ [(Iq, listOf ((sortRows true Prod.fst (ps.filter fun p => decide (0 < p.1))).map tv).toArray kq)] _ _ (by assumption) (fun p hp => ?_) (fun p hp q hq => ?_) ⟨_, _, rfl, rfl⟩
      · rcases List.mem_cons.mp hp with rfl | hp
        · exact N8 _ (.head _)
        · exact N8 p (by repeat (first | exact List.mem_append_right _ (.tail _ hp) | refine List.Mem.tail _ ?_))
      · rw [List.mem_singleton.mp hp]
        exact l9I q (by repeat (first | exact List.mem_append_right _ (.tail _ hq) | refine List.Mem.tail _ ?_))
  have law_places_c : ∀ (w : World) (mean : ExcName → Option Value) (mg mb : Str → Option Value) (news : List (Addr × Obj)) (H : Addr) (kH : Nat) (ps : List (Int × Tok))
    (hH : (H, listOf (ps.map tv).toArray kH) ∈ news) (h1 : 1 ≤ ps.length) (h2 : ps.length ≤ 1000) (hb : ∀ p ∈ ps, 0 ≤ p.1 ∧ p.1 ≤ 1000), Tell1 PySem.Challenge.rw_xm0946_02 Mine.core.heap_1_39 Mine.core.view_1_40 w mean mg mb 297 news [.ref H] 6 (fun r tl => (∃ t, r = .int (places (ps.map (·.1))) t) ∧ tl = []) := by
    clear order_mark_c is_behind_c sorted_rows_c size_of_bounds_c array_make_c text_of_whole_c rows_array_c rows_of_c copy_of_c sorted_array_c law_sorted_c
    intro w mean mg mb news H kH ps hH h1 h2 hb
    have hMd : Md 11 := .mk 11
    unfold Tell1
    w_on
    k_fill
    intro dp un gd cn cs' a ccd cl outer A₀ base h₀ L m s Q E B0 F X N T hk hd hu hret
    refine wpAny_call ?_
    have N6 := news_add N hH
    k_dflt (refine' code_defC (binds := [(Str.ofString "heaps", .ref H)]) B0 F X N6 T rfl rfl hk ?qk6 ?qk7 ?qk8 ?qk9 ?qkB ?qkD ?_ ?qc2 ?qc3 ?qc4; (case qk6 => k_is); (case qk7 => k_is); (case qk8 => ktr_room); (case qk9 => exact BindsTo.of_eq rfl); (case qkB => exact rfl); (case qkD => decide +kernel); (case qc2 => exact rfl); (case qc3 => exact rfl); (case qc4 => exact rfl))
    intro g' L' h' tk' cells' FG' F' N' Y' B' X' T' l1
    have l1q := l1
    k_lt l1
    k_cells Y'
    simp only [List.cons_append, List.nil_append] at N'
    dsimp only
    try k_fold
    have hlen1 : (ps.map tv).length = ps.length := List.length_map _
    k_steps
    obtain ⟨q1, q2⟩ := range_step (n := ps.length) (w := 1) (c := 1) h1 (by omega) (by omega) (by omega) rfl
    rw [Nat.mul_one] at q1 q2
    rename_i HR FB NB KB
    refine ⟨_, _, _, _, _, _, _, ps.length, _, rfl, rfl, FB, NB, HR, q1, q2, Nat.le_trans h2 (by decide), ?_⟩
    rintro s₂ ⟨hh, rfl⟩
    clear q1 q2 HR KB
    refine rest_ind (fun i ys nw => ∃ (qs : List (Int × Tok)), ys = qs.map tv ∧ qs.map (·.1) = (List.range i).map (placeAt (ps.map (·.1))) ∧ nw = _) ?_ ?_ ps.length 0 [] _ (Nat.zero_add _) ⟨[], rfl, rfl, rfl⟩
    · rintro i ys nw v I7 oI C7 oC D1 m2 h3 tk3 E' hi ⟨qs, rfl, hmap, rfl⟩ ⟨t7, rfl⟩ hC' hx' F3 N3 off3 ne3
      have hxi : (ps.map tv)[((0 : Int) + (i : Int) * 1).toNat]? = some (Value.int ps[i].1 ps[i].2) := by
        have e : ((0 : Int) + (i : Int) * 1).toNat = i := by omega
        rw [e, List.getElem?_map, List.getElem?_eq_getElem hi]; rfl
      have hpl : placeAt (ps.map (·.1)) i = (i : Int) * ps[i].1 + Int.fdiv (ps[i].1 * (ps[i].1 - 1)) 2 := by
        unfold placeAt
        rw [List.getD_eq_getElem?_getD, List.getElem?_map, List.getElem?_eq_getElem hi]; rfl
      obtain ⟨hz1, hz2⟩ := hb _ (List.getElem_mem hi)
      generalize ps[i] = pi at *
      obtain ⟨z, tz⟩ := pi
      dsimp only at hxi hpl hz1 hz2
      k_steps
      refine ⟨_, _, _, rfl, F3, N3, off3, trivial, qs ++ [(?qzP11, ?qtP11)], ?e1P11, ?e2P11, rfl⟩
      case e1P11 => rw [List.map_append]; rfl
      case e2P11 =>
        rw [List.map_append, hmap, List.range_succ, List.map_append]
        refine congrArg (_ ++ ·) (congrArg (fun z => [z]) ?_)
        have e : ((0 : Int) + (i : Int) * 1) = (i : Int) := by omega
        rw [hpl]
        dsimp only
        rw [e]
    · rintro ys nw ⟨qs, rfl, hmap, rfl⟩
      intro D7 h7 tk7 F7 N7 off7
      replace off7 := off1_ne off7
      k_steps
      rename News h₀ L _ _ => N8
      rw [hmap]
      refine hret _ [] _ _ (by assumption) (fun p hp => N8 p (.tail _ (.tail _ (.tail _ hp)))) (fun p hp => by cases hp) ⟨⟨t7, ?_⟩, rfl⟩
      unfold places
      rw [List.length_map]
  have law_sorted_v : ∀ (w : World) (mean : ExcName → Option Value) (mg mb : Str → Option Value) (news : List (Addr × Obj)) (H : Addr) (kH : Nat) (vs : List Value) (xs : List Int)
    (hH : (H, listOf vs.toArray kH) ∈ news) (hI : IntsAre vs xs) (h1 : ∃ x ∈ xs, 0 < x) (h2 : xs.length ≤ 1000), Tell1 PySem.Challenge.rw_xm0946_02 Mine.core.heap_1_39 Mine.core.view_1_40 w mean mg mb 292 news [.ref H] 24 (fun r tl => ∃ (D : Addr) (k : Nat) (us : List Value), r = .ref D ∧ tl = [(D, listOf us.toArray k)] ∧ IntsAre us (srt xs)) := by
    clear order_mark_c is_behind_c sorted_rows_c size_of_bounds_c array_make_c text_of_whole_c rows_array_c rows_of_c copy_of_c sorted_array_c law_places_c
    intro w mean mg mb news H kH vs xs hH hI h1 h2
    have hMd : Md 12 := .mk 12
    obtain ⟨ps, rfl, rfl⟩ := ints_pairs hI
    refine (law_sorted_c w mean mg mb news H kH ps hH (filter_ne h1) (by rw [List.length_map] at h2; exact h2)).mono ?_
    rintro r tl ⟨D, k, e1, e2⟩
    exact ⟨D, k, _, e1, e2, by rw [← srt_fst]; exact ints_tv _⟩
  have law_places_v : ∀ (w : World) (mean : ExcName → Option Value) (mg mb : Str → Option Value) (news : List (Addr × Obj)) (H : Addr) (kH : Nat) (vs : List Value) (xs : List Int)
    (hH : (H, listOf vs.toArray kH) ∈ news) (hI : IntsAre vs xs) (h1 : 1 ≤ xs.length) (h2 : xs.length ≤ 1000) (hb : ∀ x ∈ xs, 0 ≤ x ∧ x ≤ 1000), Tell1 PySem.Challenge.rw_xm0946_02 Mine.core.heap_1_39 Mine.core.view_1_40 w mean mg mb 297 news [.ref H] 6 (fun r tl => (∃ t, r = .int (places xs) t) ∧ tl = []) := by
    clear order_mark_c is_behind_c sorted_rows_c size_of_bounds_c array_make_c text_of_whole_c rows_array_c rows_of_c copy_of_c sorted_array_c law_sorted_c law_sorted_v
    intro w mean mg mb news H kH vs xs hH hI h1 h2 hb
    have hMd : Md 12 := .mk 12
    obtain ⟨ps, rfl, rfl⟩ := ints_pairs hI
    rw [List.length_map] at h1 h2
    exact law_places_c w mean mg mb news H kH ps hH h1 h2 fun p hp => hb _ (List.mem_map.mpr ⟨p, hp, rfl⟩)
  have hMd : Md 13 := .mk 13
  clear order_mark_c is_behind_c sorted_rows_c size_of_bounds_c array_make_c text_of_whole_c rows_array_c rows_of_c copy_of_c sorted_array_c law_sorted_c law_places_c
  w_strict (
    k_go0
    all_goals try k_fold
    rename Fr _ _ _ _ => F0
    rename CellsAre _ _ _ => X0
    clear X0
    rename _ = Data.cell _ => r0
    dsimp only at F0 r0
    k_steps
    rename _ = Data.cell (some _) => dS
    rename Obj => oS
    rename Shared => s1
    obtain ⟨S, hS1, hS4, hS⟩ := steps_of dS
    rename Fr _ _ _ _ => F1
    rename News _ _ _ _ => N1
    rw [hS] at dS F1
    obtain ⟨n, hn, hn1, hn10, hg⟩ := good_of hS1 hS4
    rw [hn] at F1
    rename_i lx1 lx2 lx3 lx4 lx5 lx6 lx7
    obtain ⟨b, bl, T0, tw, tt0, kb, F2, N2, lbc⟩ := start_w2 (c := _ + 1) F1 N1 (by repeat (first | exact .head _ | refine List.Mem.tail _ ?_)) (by repeat (first | exact .head _ | refine List.Mem.tail _ ?_)) (by omega)
    clear F1 N1
    unfold Stop
    refine While_inv2 (n₀ := n) (fun j m nx => ∃ (vs : List Value) (xs : List Int) (k : Nat) (T : Int) (tt : Tok) (ul : Option Value), IntsAre vs xs ∧ (∀ x ∈ xs, 1 ≤ x) ∧ xs.sum ≤ (n : Int) ∧ (j : Int) = (n : Int) - xs.sum ∧ (xs.length : Int) ≤ xs.sum ∧
      m = (fun y => if y = Str.ofString "left" then ul else if y = Str.ofString "told" then some (Value.int T tt) else if y = Str.ofString "whole" then some (Value.int (n : Int) tw) else if y = Str.ofString "heaps" then some (Value.ref b) else bl y) ∧ nx = [(b, listOf vs.toArray k), (s1.heap.objs.size + 1, oS)]) F2 N2 ?_ ?_
    · refine ⟨[], [], kb, T0, tt0, bl (Str.ofString "left"), .nil, (fun x hx => by cases hx), by rw [List.sum_nil]; omega, by rw [List.sum_nil]; omega, by rw [List.sum_nil]; exact Int.le_refl _, ?_, rfl⟩
      funext y
      by_cases h1 : y = Str.ofString "left"
      · subst h1; rfl
      · simp only [if_neg h1]
        by_cases h2 : y = Str.ofString "told"
        · subst h2; rfl
        · simp only [if_neg h2]
    · rintro j m₁ nx h2 tk2 F3 N3 ⟨vs, xs, k, T, tt, ul, hI, hpos, hsum, hj, hlen, rfl, rfl⟩
      have hln1 : xs.length ≤ 1000 := by omega
      have hex : ¬ xs.sum < (n : Int) → ∃ x ∈ xs, 0 < x := fun h => by
        cases xs with
        | nil => rw [List.sum_nil] at h; omega
        | cons x xs => exact ⟨x, .head _, by have := hpos x (.head _); omega⟩
      k_steps
      · rename Fr _ _ _ _ => F8
        rename News _ _ _ _ => N8
        have hl0 : 0 < (n : Int) - xs.sum := by omega
        have hm0 := Int.fmod_nonneg_of_pos T hl0
        have hm1 := Int.fmod_lt_of_pos T hl0
        obtain ⟨ul', T', tt', vs', k', F9, N9, hI'⟩ := w2_next F8 N8 hI
        clear F8 N8
        generalize T.fmod ((n : Int) - xs.sum) = r at *
        have hsm : (xs ++ [1 + r]).sum = xs.sum + (1 + r) := by rw [List.sum_append, List.sum_cons, List.sum_nil, Int.add_zero]
        refine ⟨_, _, _, _, ((n : Int) - (xs.sum + (1 + r))).toNat, rfl, F9, N9, by omega, vs', xs ++ [1 + r], k', T', tt', ul', hI', ?_, by omega, by omega, ?_, rfl, rfl⟩
        · intro x hx
          rcases List.mem_append.mp hx with hx | hx
          · exact hpos x hx
          · rw [List.mem_singleton.mp hx]; omega
        · rw [List.length_append, List.length_singleton]; omega
      · rename Fr _ _ _ _ => F8
        rename News _ _ _ _ => N8
        unfold Stop
        rename IsRange _ _ _ _ _ _ _ _ => HR
        rename IntsAre _ (List.map _ (rangeKs _ _)) => hId
        rw [due_eq] at hId
        have hst : srt xs ∈ partsOf n n n := good_start hg hpos (by omega)
        obtain ⟨bl', v1, v2, v3, Dq', Dd', us', ys', k', k2', e1, e2, F9, N9⟩ := w2_for F8 N8
        rw [← e1] at hIq
        rw [← e2] at hId
        rw [← cast_turns hS1] at HR
        obtain ⟨q1, q2⟩ := range_turns hS1 hS4
        refine iter_rangeUnr (n := S * S - S + 1) rfl HR q1 q2 F9 N9 fun I hI => ?_
        clear q1 q2 HR
        refine rangeU_ind (fun i m nx => ∃ (v1 v2 v3 : Option Value) (H : Addr) (us : List Value) (k : Nat) (q : List Int), IntsAre us q ∧ q ∈ partsOf n n n ∧ dealN (S * S - S - i) q = dueI S ∧
          m = (fun y => if y = Str.ofString "turn" then v1 else if y = Str.ofString "laid" then v2 else if y = Str.ofString "later" then v3 else if y = Str.ofString "heaps" then some (.ref H) else if y = Str.ofString "due" then some (.ref Dd') else if y = Str.ofString "whole" then some (Value.int (n : Int) tw) else bl' y) ∧
          nx = [(H, listOf us.toArray k), (Dd', ({ cls := .type "list", data := .seq ys'.toArray k2' } : Obj)), (s1.heap.objs.size + 1, oS)]) ?_ ?_ (S * S - S + 1) 0 _ _ (Nat.zero_add _) ⟨v1, v2, v3, Dq', us', k', srt xs, hIq, hst, (good_turn hg hst).2.2.2.2.2.2, rfl, rfl⟩
        · rintro i m nx t5 h5 tk5 hi ⟨v1, v2, v3, H, us, k, q, hIu, hq, hdl, rfl, rfl⟩ F5 N5
          have ht := good_turn hg hq
          obtain ⟨hA, hB, hC, hpos2, hz9⟩ := turn_facts hg hq
          have hln2 : (laidI q).length ≤ 1000 := hB.2.1
          k_steps
          all_goals (
            unfold Stop
            rename Fr _ _ _ _ => F6
            rename News _ _ _ _ => N6
            refine LCg.CompSrc.ledger (by rfl) F6 N6 (by k_mem) (by rw [ints_len hIu]; exact Nat.le_trans hA.2.1 (by decide)) ?_
            intro g2
            refine rest_ind (fun i ys nw => ∃ (ps : List (Int × Tok)), ys = ps.map tv ∧ ps.map (·.1) = (q.take i).map (fun x => x - 1) ∧ nw = _) ?_ ?_ _ 0 [] _ (Nat.zero_add _) ⟨[], rfl, rfl, rfl⟩
            · rintro i9 ys nw v I7 oI C7 oC D1 m2 h3 tk3 E' hi ⟨ps, rfl, hmap, rfl⟩ hv hC' hx' F3 N3 off3 ne3
              obtain ⟨z, tz, rfl, htk⟩ := ints_get hIu hv
              clear hv
              k_steps
              refine ⟨_, _, _, rfl, F3, N3, off3, .inr ⟨_, List.Mem.tail _ (List.Mem.tail _ (List.Mem.head _)), rfl, _, rfl⟩, ps ++ [(z - 1, ?_)], ?_, ?_, rfl⟩
              rotate_left
              · rw [List.map_append]; rfl
              · rw [List.map_append, hmap, htk, List.map_append]; rfl
            · rintro ys nw ⟨ps, rfl, hmap, rfl⟩
              intro D7 h7 tk7 F7 N7 off7
              replace off7 := off1_ne off7
              rw [ints_len hIu, List.take_length] at hmap
              have hIy : IntsAre (ps.map tv) (q.map fun x => x - 1) := hmap ▸ ints_tv ps
              clear hmap
              k_steps
              rename Fr _ _ _ _ => F8
              rename News _ _ _ _ => N8
              obtain ⟨a1, a2, a3, F9, N9⟩ := w2_turn F8 N8
              refine ⟨_, _, _, _, rfl, F9, N9, off_turn (l9q (I, _) (by k_mem)) (hI (_, _) (.tail _ (.head _))) (hI (_, _) (.tail _ (.tail _ (.head _)))), a1, a2, a3, Dq, _, kq, deal q, hIq, ht.1, deal_next hg hdl, rfl, rfl⟩)
        · rintro m nx h5 tk5 ⟨v1, v2, v3, H, us, k, q, hIu, hq, hdl, rfl, rfl⟩ F5 N5
          have hqd := past_turn hdl
          k_steps)

end Mine
set_option Elab.async false
set_option maxRecDepth 100000 in
theorem PySem.Challenge.cw_xm0946_02_holds : PySem.Challenge.rw_xm0946_02.Holds := by
  exact Mine.core
