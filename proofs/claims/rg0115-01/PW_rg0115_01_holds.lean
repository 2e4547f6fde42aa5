import PyProof.Rows.All
import Wide.All
import OpenK.AllK
import Wide.FinOn
import PySem.Challenge.RW_rg0115_01
set_option Elab.async false
set_option compiler.extract_closed false
set_option linter.unusedVariables false
section
open PySem PySem.W PyProof.Rows
set_option maxRecDepth 100000
set_option maxHeartbeats 8000000
namespace Mine
section
local macro_rules | `(tactic| o_head $_H) => `(tactic| assumption)
theorem hd (h : PySem.Challenge.rw_rg0115_01.row.Holds) : PySem.Challenge.rw_rg0115_01.row.Holds := by
  k_head
end
end Mine
end
section
open PySem PySem.W PyProof.Rows
set_option maxRecDepth 100000
set_option maxHeartbeats 8000000
namespace Mine
theorem filled : PySem.Challenge.rw_rg0115_01 = PySem.Challenge.rw_rg0115_01 ∧ Mine.hd.heap_1 = Mine.hd.heap_1 := by
  k_fill
  exact ⟨rfl, rfl⟩
end Mine
end
section
open PySem PySem.W PySem.Spec PySem.Calls PyProof.Rows
set_option maxRecDepth 100000
namespace Mine
abbrev Led := List (Addr × Obj)
abbrev tupO (vs : List Value) : Obj := { cls := .type "tuple", data := .seq vs.toArray }
abbrev lstO (vs : List Value) (n : Nat) : Obj := { cls := .type "list", data := .seq vs.toArray n }
abbrev Offs (d : Addr) (J : Led) : Prop := ∀ p ∈ J, @Ne Nat p.1 d
def FeedObj (w : World) (o : Obj) (rl : Addr) (k : Int) : Prop :=
  ∃ t, Obj.IsDictOf (PySem.strKind PySem.Challenge.rw_rg0115_01.row.prog w) o [(Str.ofString "row", Value.ref rl), (Str.ofString "at", Value.int k t)]
def RowList (J : Led) (rl : Addr) : Prop :=
  ∃ vs ns, (rl, LCg.lst vs) ∈ J ∧ IntsAre vs ns ∧ (∀ n ∈ ns, 0 ≤ n ∧ n < 1000003) ∧ ns.length ≤ 60
theorem RowList.mono {J J' : Led} {rl : Addr} (h : RowList J rl) (hs : ∀ p ∈ J, p ∈ J') : RowList J' rl := by
  obtain ⟨vs, ns, h1, h2⟩ := h
  exact ⟨vs, ns, hs _ h1, h2⟩
theorem news_sub {h₀ h : Heap} {L : Addr} {l l' : Led} (N : News h₀ L h l) (hs : ∀ p ∈ l', p ∈ l) : News h₀ L h l' := fun p hp => N p (hs p hp)
inductive All2 {α : Type} (R : Value → α → Prop) : List Value → List α → Prop where
  | nil : All2 R [] []
  | cons {v : Value} {x : α} {vs : List Value} {xs : List α} : R v x → All2 R vs xs → All2 R (v :: vs) (x :: xs)
theorem All2.mono {α : Type} {R S : Value → α → Prop} (h : ∀ v x, R v x → S v x) {vs : List Value} {xs : List α} (k : All2 R vs xs) : All2 S vs xs := by
  induction k with
  | nil => exact .nil
  | cons a _ i => exact .cons (h _ _ a) i
theorem All2.length {α : Type} {R : Value → α → Prop} {vs : List Value} {xs : List α} (k : All2 R vs xs) : vs.length = xs.length := by
  induction k with
  | nil => rfl
  | cons _ _ i => simp [i]
theorem All2.append {α : Type} {R : Value → α → Prop} {vs us : List Value} {xs ys : List α} (k : All2 R vs xs) (l : All2 R us ys) : All2 R (vs ++ us) (xs ++ ys) := by
  induction k with
  | nil => exact l
  | cons a _ i => exact .cons a i
theorem All2.snoc {α : Type} {R : Value → α → Prop} {vs : List Value} {xs : List α} {v : Value} {x : α} (k : All2 R vs xs) (l : R v x) : All2 R (vs ++ [v]) (xs ++ [x]) := k.append (.cons l .nil)
def PathIn (J : Led) (v : Value) (p : List Int) : Prop := ∃ a vs, v = .ref a ∧ (a, tupO vs) ∈ J ∧ IntsAre vs p
def less (d : Addr) (J : Led) : Led := J.filter fun p => decide (@Ne Nat p.1 d)
theorem ne_of_allLt {a : Addr} {J : Led} (h : AllLt a J) : ∀ q ∈ J, @Ne Nat a q.1 := by
  induction J with
  | nil => intro q hq; nomatch hq
  | cons p r ih =>
    intro q hq
    rcases List.mem_cons.mp hq with rfl | hq
    · exact Nat.ne_of_gt h.1
    · exact ih h.2 q hq
end Mine
end
section
open PySem PySem.W PySem.Spec PySem.Calls PyProof.Rows
set_option maxRecDepth 100000
namespace Mine
theorem last_snoc (p : List Value) (y : Value) : kl_last (p ++ [y]) = some (p, y) := by
  induction p with
  | nil => rfl
  | cons x r ih => rw [List.cons_append, kl_last, ih]
theorem fits {n : Nat} (h : n ≤ 100000) : n ≤ sizeLine := by rw [sizeLine_eq]; omega
theorem not_long {a b : Nat} {c : Bool} (h : a + b ≤ 100000) : ¬(c && Builtin.List.listTooLong (a + b)) = true := by
  intro q
  rw [Bool.and_eq_true] at q
  have q2 := q.2
  unfold Builtin.List.listTooLong at q2
  rw [decide_eq_true_eq] at q2
  have q3 := sizeLine_eq
  omega
section
variable {prog : Program} {w : World} {A : Around} {E : Value → Shared → Prop} {s : Shared} {h₀ : Heap} {L D b : Addr} {m : Str → Option Value} {news : Led} {g : Obj → Led} {vs us : List Value} {y : Value} {n n2 : Nat} {Q : Value → Shared → Prop}
theorem upd_of {o o' : Obj} {d : Addr} {l : Led} {g : Obj → Led} (U : UpdF d o l g) : Upd d o o' l (g o') := by
  induction U with
  | head h => exact .head h
  | tail h _ ih => exact .tail h ih
theorem my_pop (F : Fr h₀ L s.heap m) (N : News h₀ L s.heap news) (U : UpdF D (listOf (vs ++ [y]).toArray n) news g) (hz : vs.length + 1 ≤ 100000)
    (h : ∀ h', Fr h₀ L h' m → News h₀ L h' (g (listOf vs.toArray (n + 1))) → Q y { s with heap := h' }) : wpAny (model prog w) A (call (.builtin "list.pop") [.ref D]) Q E s :=
  kl_pop F N (by simpa using last_snoc vs y) (upd_of U) (fits (by simpa using hz)) h
theorem my_extT (F : Fr h₀ L s.heap m) (N : News h₀ L s.heap news) (hb : (b, ({ cls := .type "tuple", data := .seq us.toArray n2 } : Obj)) ∈ news) (U : UpdF D (listOf vs.toArray n) news g) (hz : vs.length + us.length ≤ 100000)
    (h : ∀ h' n', Fr h₀ L h' m → News h₀ L h' (g (listOf (vs ++ us).toArray n')) → Q .none { s with heap := h' }) : wpAny (model prog w) A (call (.builtin "list.extend") [.ref D, .ref b]) Q E s := by
  have hd : ¬(!vs.toArray.isEmpty && Builtin.List.listTooLong (vs.toArray.size + us.toArray.size)) = true := by
    rw [List.size_toArray, List.size_toArray]; exact not_long hz
  have hz1 : vs.toArray.size ≤ sizeLine := fits (by rw [List.size_toArray]; omega)
  have hz2 : vs.toArray.size + us.toArray.size ≤ sizeLine + 1 := by
    rw [List.size_toArray, List.size_toArray, sizeLine_eq]; omega
  cases us with
  | nil =>
    obtain ⟨pre, post, rfl, hg, a, c⟩ := U.split
    have z := N (D, listOf vs.toArray n) (List.mem_append.mpr (.inr (.head _)))
    refine call_meets PySem.F.slot_list_extend ⟨_, z.1, rfl⟩ PySem.F.entry_list_extend (PySem.F.args_list_extend_2 _ _) (PySem.AutoSeq1.list_extend_list_tuple_0 D vs.toArray n b _ n2 hd hz1 hz2) ⟨z.1, (N _ hb).1, h _ n (F.change (Heap.SameBut.update ..) z.2.1 z.2.2) ?_⟩
    rw [hg]
    exact kl_turn0 _ N a c (by simp) (by simp)
  | cons u r =>
    exact kup_extend F N hb (l := vs ++ u :: r) (by simp) (by simp) (upd_of U) hd hz1 hz2 fun h' F' N' => h h' _ F' N'
theorem my_extL (F : Fr h₀ L s.heap m) (N : News h₀ L s.heap news) (hb : (b, listOf us.toArray n2) ∈ news) (U : UpdF D (listOf vs.toArray n) news g) (hz : vs.length + us.length ≤ 100000)
    (h : ∀ h' n', Fr h₀ L h' m → News h₀ L h' (g (listOf (vs ++ us).toArray n')) → Q .none { s with heap := h' }) : wpAny (model prog w) A (call (.builtin "list.extend") [.ref D, .ref b]) Q E s := by
  have hd : ¬(!vs.toArray.isEmpty && Builtin.List.listTooLong (vs.toArray.size + us.toArray.size)) = true := by
    rw [List.size_toArray, List.size_toArray]; exact not_long hz
  have hz1 : vs.toArray.size ≤ sizeLine := fits (by rw [List.size_toArray]; omega)
  have hz2 : vs.toArray.size + us.toArray.size ≤ sizeLine + 1 := by
    rw [List.size_toArray, List.size_toArray, sizeLine_eq]; omega
  cases us with
  | nil => exact kxn_extend F N hb (by simp) (upd_of U) hd hz1 hz2 fun h' F' N' => h h' n F' (by simpa using N')
  | cons u r => exact kl_extend F N hb (l := vs ++ u :: r) (by simp) (by simp) (upd_of U) hd hz1 hz2 fun h' F' N' => h h' _ F' N'
abbrev tupN (vs : List Value) (n : Nat) : Obj := { cls := .type "tuple", data := .seq vs.toArray n }
theorem isTup_of (N : News h₀ L s.heap news) (hm : (D, tupN vs n) ∈ news) : IsTup s.heap D vs.toArray := ⟨_, (N _ hm).1, rfl, n, rfl⟩
end
theorem offs_lt {a : Addr} {J : Led} (h : AllLt a J) : Offs a J := fun p hp => Ne.symm (ne_of_allLt h p hp)
theorem news_tail {h₀ h : Heap} {L : Addr} {p : Addr × Obj} {J : Led} (N : News h₀ L h (p :: J)) : News h₀ L h J := news_sub N fun x hx => .tail _ hx
theorem snoc_cases {α : Type} (l : List α) : l = [] ∨ ∃ p y, l = p ++ [y] := by
  rcases List.eq_nil_or_concat l with h | ⟨p, y, h⟩
  · exact .inl h
  · exact .inr ⟨p, y, by simpa using h⟩
end Mine
end
section
open PySem PySem.W PySem.Spec PySem.Calls PyProof.Rows PyProof.Rows.LCg
set_option maxRecDepth 100000
set_option maxHeartbeats 2000000
namespace Mine
inductive Bind (J : Led) : Expr → Value → List (Str × Value) → Prop where
  | name {x : Str} {p : Pos} {v : Value} : Bind J (.Name x p) v [(x, v)]
  | two {x y : Str} {p q tp : Pos} {k n : Nat} {t : Addr} {v u : Value} : (t, tupN [v, u] n) ∈ J → Bind J (.Tuple [.Name x p, .Name y q] k tp) (.ref t) [(x, v), (y, u)]
  | three {x y z : Str} {p q r tp : Pos} {k n : Nat} {t : Addr} {v u w : Value} : (t, tupN [v, u, w] n) ∈ J → Bind J (.Tuple [.Name x p, .Name y q, .Name z r] k tp) (.ref t) [(x, v), (y, u), (z, w)]
def TestWp (prog : Program) (w : World) (A : Around) (env : Env) (Q : Bool → Shared → Prop) (E : Value → Shared → Prop) (s : Shared) : List Expr → Prop
  | [] => Q true s
  | [c] => wpAny (model prog w) A (isTrue c env (eval c env)) Q E s
  | _ => False
section
variable {prog : Program} {w : World} {A : Around} {E : Value → Shared → Prop} {s : Shared} {h₀ : Heap} {L C : Addr} {m m₂ : Str → Option Value} {env : Env} {scope : Scope} {cl : List (Str × Addr)} {J : Led}
theorem tests_wp {ifs : List Expr} {Q : Bool → Shared → Prop} (h : TestWp prog w A env Q E s ifs) :
    wpAny (model prog w) A (forIn ifs true fun c r => if r = true then do let ok ← isTrue c env (eval c env); pure (ForInStep.yield ok) else pure (ForInStep.yield r)) Q E s := by
  match ifs, h with
  | [], h => exact wpAny_tests_nil h
  | [c], h => exact wpAny_tests_one h
theorem loop_gen {R : Result → Shared → Prop} {elt target iter : Expr} {ifs : List Expr} {pos : Pos} {it acc : Value} (I : Nat → Shared → Prop)
    (turn : ∀ n s, I n s → wpAny (model prog w) A (pyNext it) (fun r s₁ => match r with
      | none => R (.ok .next) s₁
      | some v => wpAny (model prog w) A (letOwnedTupleGo target it v) (fun _ s₁' => wpAny (model prog w) A (assign target env v) (fun _ s₂ =>
          TestWp prog w A env (fun ok s₃ => if ok = true then wpAny (model prog w) A (eval elt env) (fun x s₄ =>
              wpAny (model prog w) A (call (.builtin "list.append") [acc, x]) (fun _ s₅ => ∃ m, m < n ∧ I m s₅) (notedBy (model prog w) A env fun e s' => R (.error e) s') s₄) (notedBy (model prog w) A env fun e s' => R (.error e) s') s₃
            else ∃ m, m < n ∧ I m s₃) (notedBy (model prog w) A env fun e s' => R (.error e) s') s₂ ifs) (notedBy (model prog w) A env fun e s' => R (.error e) s') s₁') (notedBy (model prog w) A env fun e s' => R (.error e) s') s₁) (notedBy (model prog w) A env fun e s' => R (.error e) s') s)
    (n : Nat) (h : I n s) : codeAny (model prog w) A (.compLoop (.ListComp elt [⟨target, iter, ifs, 0⟩] scope pos) 0 it acc env) R s := by
  refine codeAny_loop rfl I (fun n s hI => ?_) n h
  show wpAny _ A ((compTurn (.ListComp elt [⟨target, iter, ifs, 0⟩] scope pos) 0 it acc env).onRaise (fun x => do noteFrame x env; theTreesLotGoes x)) _ _ s
  refine wpAny_noted ?_
  rw [compTurn_list]
  refine wpAny_bind (wpAny_standAt (wpAny_bind (wpAny_mono (turn n s hI) (fun r s₁ h₁ => ?_) fun _ _ h' => h')))
  cases r with
  | none => exact wpAny_pure h₁
  | some v =>
    refine wpAny_bind (wpAny_mono h₁ (fun _ s₁' h₁' => ?_) fun _ _ h' => h')
    refine wpAny_bind (wpAny_mono h₁' (fun _ s₂ h₂ => wpAny_bind (wpAny_mono (tests_wp h₂) (fun ok s₃ h₃ => ?_) fun _ _ h' => h')) fun _ _ h' => h')
    cases ok with
    | false => exact wpAny_pure ⟨rfl, h₃⟩
    | true =>
      exact wpAny_bind (wpAny_bind (wpAny_mono h₃ (fun x s₄ h₄ => wpAny_bind (wpAny_mono h₄ (fun _ s₅ h₅ => wpAny_pure (wpAny_pure ⟨rfl, h₅⟩)) fun _ _ h' => h')) fun _ _ h' => h'))
theorem bind_assign {tg : Expr} {v : Value} {bs : List (Str × Value)} {Q : Unit → Shared → Prop} (hb : Bind J tg v bs) (hh : A.handled = none) (hkind : scope.kind = .function) (hloc : ∀ p ∈ bs, scope.names.lookup p.1 = some .local) (hnd : (bs.map (·.1)).Nodup)
    (hn : s.heap.Ns C m₂) (N : News h₀ L s.heap J)
    (h : ∀ h₃ tk m₃, (∀ b o, b ≠ C → s.heap.get? b = some o → h₃.get? b = some o) → h₃.Ns C m₃ → (∀ p ∈ bs, m₃ p.1 = some p.2) → Q () { s with heap := h₃, toks := tk }) :
    wpAny (model prog w) A (assign tg (compEnvC scope cl C env) v) Q E s := by
  have hp : ((compEnvC scope cl C env).scope.kind == .class || ((compEnvC scope cl C env).scope.kind == .module && (compEnvC scope cl C env).locals != (compEnvC scope cl C env).globals)) = false := by simp [compEnvC, relabel, hkind]
  cases hb with
  | name =>
    refine wpAny_assign_Name (wpAny_storeName_local (lookup_relabel_local (hloc _ (.head _))) hn (fun h₃ hn₃ hs₃ => ?_) hp)
    exact h h₃ _ _ (fun b o hne e => hs₃.extBut b o hne e) hn₃ (by intro p hp; simp only [List.mem_singleton] at hp; subst hp; simp)
  | two hm =>
    refine assign_Tuple_tuple hh (isTup_of N hm) rfl rfl fun h5 he => ?_
    have he' : ∀ b o, s.heap.get? b = some o → h5.get? b = some o := fun b o e => he b o (Nat.ne_of_lt (Heap.lt_size e)) e
    refine assignInOrder_cons (wpAny_assign_Name (wpAny_storeName_local (lookup_relabel_local (hloc _ (.head _))) (hn.at' fun o e => he' _ o e) (fun h₆ hn₆ hs₆ => ?_) hp))
    refine assignInOrder_cons (wpAny_assign_Name (wpAny_storeName_local (lookup_relabel_local (hloc _ (.tail _ (.head _)))) hn₆ (fun h₃ hn₃ hs₃ => ?_) hp))
    refine assignInOrder_nil ?_
    refine h h₃ _ _ (fun b o hne e => hs₃.extBut b o hne (hs₆.extBut b o hne (he' b o e))) hn₃ ?_
    simp only [List.map_cons, List.map_nil, List.nodup_cons, List.mem_cons, List.not_mem_nil, or_false] at hnd
    intro p hp
    simp only [List.mem_cons, List.not_mem_nil, or_false] at hp
    rcases hp with rfl | rfl
    · simp [hnd.1]
    · simp
  | three hm =>
    refine assign_Tuple_tuple hh (isTup_of N hm) rfl rfl fun h5 he => ?_
    have he' : ∀ b o, s.heap.get? b = some o → h5.get? b = some o := fun b o e => he b o (Nat.ne_of_lt (Heap.lt_size e)) e
    refine assignInOrder_cons (wpAny_assign_Name (wpAny_storeName_local (lookup_relabel_local (hloc _ (.head _))) (hn.at' fun o e => he' _ o e) (fun h₆ hn₆ hs₆ => ?_) hp))
    refine assignInOrder_cons (wpAny_assign_Name (wpAny_storeName_local (lookup_relabel_local (hloc _ (.tail _ (.head _)))) hn₆ (fun h₇ hn₇ hs₇ => ?_) hp))
    refine assignInOrder_cons (wpAny_assign_Name (wpAny_storeName_local (lookup_relabel_local (hloc _ (.tail _ (.tail _ (.head _))))) hn₇ (fun h₃ hn₃ hs₃ => ?_) hp))
    refine assignInOrder_nil ?_
    refine h h₃ _ _ (fun b o hne e => hs₃.extBut b o hne (hs₇.extBut b o hne (hs₆.extBut b o hne (he' b o e)))) hn₃ ?_
    simp only [List.map_cons, List.map_nil, List.nodup_cons, List.mem_cons, List.not_mem_nil, or_false, not_or] at hnd
    intro p hp
    simp only [List.mem_cons, List.not_mem_nil, or_false] at hp
    rcases hp with rfl | rfl | rfl
    · simp [hnd.1.1, hnd.1.2]
    · simp [hnd.2.1]
    · simp
end
end Mine
end
section
open PySem PySem.W PySem.Spec PySem.Calls PyProof.Rows PyProof.Rows.LCg
set_option maxRecDepth 100000
set_option maxHeartbeats 4000000
namespace Mine
section
variable {prog : Program} {w : World} {A : Around} {E : Value → Shared → Prop} {s : Shared} {h₀ : Heap} {L C : Addr} {m m₂ : Str → Option Value} {env : Env} {scope : Scope} {cl : List (Str × Addr)} {J : Led}
def TurnOk (prog : Program) (w : World) (A : Around) (h₀ : Heap) (L : Addr) (m : Str → Option Value) (env : Env) (scope : Scope) (cl : List (Str × Addr)) (s₂ : Shared) (tg elt : Expr) (ifs : List Expr) (Inv : Nat → List Value → Led → Prop) (i : Nat) (v : Value) (ys : List Value) (nw : Led) : Prop :=
  ∃ bs, Bind nw tg v bs ∧ (∀ p ∈ bs, scope.names.lookup p.1 = some .local) ∧ (bs.map (·.1)).Nodup ∧
    ∀ I oI C oC D m₂ h tk (E' : Value → Shared → Prop), NsObj oC m₂ → (∀ p ∈ bs, m₂ p.1 = some p.2) → Fr h₀ L h m → News h₀ L h ((I, oI) :: (C, oC) :: (D, lst ys) :: nw) → Off3 I C D nw → (@Ne Nat I C) ∧ (@Ne Nat I D) ∧ (@Ne Nat C D) →
      TestWp prog w A (compEnvC scope cl C env) (fun ok s' => if ok = true then
          wpAny (model prog w) A (eval elt (compEnvC scope cl C env)) (CompEnd h₀ L m { s₂ with heap := h, toks := tk } I oI C oC D (lst ys) (fun _ => True) (fun y nw' => Inv (i + 1) (ys ++ [y]) nw')) E' s'
        else CompEnd h₀ L m { s₂ with heap := h, toks := tk } I oI C oC D (lst ys) (fun _ => True) (fun _ nw' => Inv (i + 1) ys nw') Value.none s') E' { s₂ with heap := h, toks := tk } ifs
def MyI (s₂ : Shared) (h₀ : Heap) (L I C D : Addr) (m : Str → Option Value) (n : Nat) (St : Nat → Heap → Prop) (Inv : Nat → List Value → Led → Prop) (k : Nat) (s' : Shared) : Prop :=
  ∃ h' tk i ys m' nw, s' = { s₂ with heap := h', toks := tk } ∧ i ≤ n ∧ k = n + 1 - i ∧ ys.length ≤ i ∧ St i h' ∧ Fr h₀ L h' m ∧ h'.Ns C m' ∧ News h₀ L h' ((D, lst ys) :: nw) ∧ Off3 I C D nw ∧ Inv i ys nw
theorem my_block {elt iter tg : Expr} {ifs : List Expr} {pos : Pos} {s₂ : Shared} {I ax : Addr} {osrc : Obj} {n : Nat} {P : Nat → Value → Prop} {St : Nat → Heap → Prop} {news : Led} {RR : Value → Addr → Result → Shared → Prop} (Inv : Nat → List Value → Led → Prop)
    (W : Walks prog w A I [I, ax] [I] n P St) (hsz : n ≤ 100000) (hIo : ∀ i h, St i h → ∃ o, h.get? I = some o)
    (hown : ∀ i (s : Shared) (v : Value) (Q : Unit → Shared → Prop) (E : Value → Shared → Prop), St i s.heap → Q () s → wpAny (model prog w) A (letOwnedTupleGo tg (.ref I) v) Q E s)
    (hcell : ∀ y ∈ scope.names, y.2 ≠ .cell) (hkind : scope.kind = .function) (hh : A.handled = none) (hst : St 0 s₂.heap) (hfp : ∀ b ∈ [I, ax], b < s₂.heap.objs.size)
    (F : Fr h₀ L s₂.heap m) (N : News h₀ L s₂.heap news) (hIL : L ≠ I) (hI₀ : h₀.get? I = none) (off : ∀ p ∈ news, p.1 ≠ I)
    (hinv : Inv 0 [] news) (hsrc : ∀ i ys nw h, Inv i ys nw → Fr h₀ L h m → News h₀ L h nw → h.get? ax = some osrc)
    (turn : ∀ i v ys nw, i < n → P i v → Inv i ys nw → TurnOk prog w A h₀ L m env scope cl s₂ tg elt ifs Inv i v ys nw)
    (hRR : ∀ D C h tk m' ys news', Fr h₀ L h m → News h₀ L h ((D, lst ys) :: news') → Off1 D news' → h.Ns C m' → h₀.get? C = none → h₀.get? D = none → C ≠ L → D ≠ L → C ≠ D → (∀ p ∈ news', p.1 ≠ C) → Inv n ys news' → RR (.ref D) C (.ok .next) { s₂ with heap := h, toks := tk }) :
    wpAny (model prog w) A (newList []) (fun acc s₃ => wpAny (model prog w) A (newFunctionEnv scope env.globals cl [] env.qual none .none (some env)) (fun cenv s₄ =>
      codeAny (model prog w) A (.compStart (.ListComp elt [⟨tg, iter, ifs, 0⟩] scope pos) 0 (.ref I) acc { cenv with scope := relabel scope env }) (RR acc cenv.locals) s₄) E s₃) E s₂ := by
  refine wpAny_newObj_type (wpAny_newFunctionEnv hcell (by intro y hy; simp at hy) (fun h₁ hns₁ hsb₁ => ?_) hkind)
  dsimp only at hns₁ hsb₁ ⊢
  generalize eH : s₂.heap.push { cls := .type "list", dict := none, data := .seq ([] : List Value).toArray } = H2 at hns₁ hsb₁ ⊢
  generalize eD : s₂.heap.objs.size = D at *
  generalize eC : H2.objs.size = C at *
  have hC : C = D + 1 := by rw [← eC, ← eH, Heap.size_push, eD]
  have hDC : D ≠ C := by rw [hC]; exact Nat.ne_of_lt (Nat.lt_succ_self _)
  have ltD : ∀ b o, s₂.heap.get? b = some o → b < D := fun b o e => eD ▸ Heap.lt_size e
  have nD : ∀ b, b < D → b ≠ D ∧ b ≠ C := fun b hb => ⟨Nat.ne_of_lt hb, by rw [hC]; exact Nat.ne_of_lt (Nat.lt_succ_of_lt hb)⟩
  have fresh₀ : ∀ a, D ≤ a → h₀.get? a = none := fun a ha => by
    cases e : h₀.get? a with
    | none => rfl
    | some o => exact absurd (ltD _ _ (F.keep a o e)) (Nat.not_lt.mpr ha)
  have hD₀ := fresh₀ D (Nat.le_refl _)
  have hC₀ := fresh₀ C (by rw [hC]; exact Nat.le_succ _)
  have old : ∀ b o, s₂.heap.get? b = some o → h₁.get? b = some o := fun b o e => hsb₁.extBut b o (nD b (ltD b o e)).2 (Heap.get?_push_of_some _ (eH ▸ Heap.get?_push_of_some _ e))
  have hL := nD L (eD ▸ F.ns.lt)
  have hI := nD I (hfp I (.head _))
  have hax := nD ax (hfp ax (.tail _ (.head _)))
  have hacc : h₁.get? D = some (lst []) := hsb₁.extBut _ _ hDC (Heap.get?_push_of_some _ (eH ▸ eD ▸ Heap.get?_push_size _ rfl))
  have off₀ : Off3 I C D news := Off3.of fun p hp => ⟨off p hp, (nD _ (ltD _ _ (N p hp).1)).2, (nD _ (ltD _ _ (N p hp).1)).1⟩
  have loop : ∀ s₃ : Shared, s₃ = { s₂ with heap := h₁, toks := s₂.toks + ([] : List (Str × Value)).length } →
      codeAny (model prog w) A (.compLoop (.ListComp elt [⟨tg, iter, ifs, 0⟩] scope pos) 0 (.ref I) (.ref D) (compEnvC scope cl C env)) (RR (.ref D) C) s₃ := by
    rintro s₃ rfl
    refine loop_gen (MyI s₂ h₀ L I C D m n St Inv) ?_ (n + 1)
      ⟨h₁, _, 0, [], _, news, rfl, Nat.zero_le _, rfl, Nat.le_refl _, W.frame _ _ _ hst fun b _ o e => old b o e, F.keeps old, hns₁, fun p hp => ?_, off₀, hinv⟩
    · rintro k s' ⟨h', tk, i, ys, m', nw, rfl, hi, rfl, hyl, hst', F', hn', N', off', hv'⟩
      have off3 := off'.mem
      by_cases hlt : i < n
      · refine W.item i _ _ _ hlt hst' fun v h₂ tk₂ hPv hst₂ hk₂ => ?_
        obtain ⟨bs, hb, hloc, hnd, body⟩ := turn i v ys nw hlt hPv hv'
        have N₂ : News h₀ L h₂ ((D, lst ys) :: nw) := news_but N' hk₂ fun p hp => by
          rcases List.mem_cons.mp hp with rfl | hp
          · exact Ne.symm hI.1
          · exact (off3 p hp).1
        refine hown _ _ _ _ _ hst₂ ?_
        refine bind_assign (L := L) (h₀ := h₀) (J := nw) hb hh hkind hloc hnd (hn'.at' fun o e => hk₂ _ o (by simpa using Ne.symm hI.2) e) (fun p hp => N₂ p (.tail _ hp)) fun h₃ tk₃ m₃ hg hn₃ hm₃ => ?_
        have hst₃ : St (i + 1) h₃ := W.frame _ _ _ hst₂ fun b hb' o e => hg b o (by
          rcases List.mem_cons.mp hb' with rfl | hb'
          · exact hI.2
          · rw [List.mem_singleton.mp hb']; exact hax.2) e
        obtain ⟨oI, heI⟩ := hIo _ _ hst₃
        obtain ⟨oC, heC, hoC⟩ := ns_obj hn₃
        have F₂ := fr_but F' hk₂ hIL hI₀
        have F₃ : Fr h₀ L h₃ m := ⟨F₂.ns.at' fun o e => hg L o hL.2 e, fun b o e => hg b o (fun q => by rw [q, hC₀] at e; cases e) (F₂.keep b o e), F₂.above⟩
        have N₃ : News h₀ L h₃ ((I, oI) :: (C, oC) :: (D, lst ys) :: nw) := fun p hp => by
          rcases List.mem_cons.mp hp with rfl | hp
          · exact ⟨heI, Ne.symm hIL, hI₀⟩
          · rcases List.mem_cons.mp hp with rfl | hp
            · exact ⟨heC, Ne.symm hL.2, hC₀⟩
            · refine ⟨hg _ _ ?_ (N₂ p hp).1, (N₂ p hp).2⟩
              rcases List.mem_cons.mp hp with rfl | hp
              · exact hDC
              · exact (off3 p hp).2.1
        have fin : ∀ (s₅ : Shared) ys', CompEnd h₀ L m { s₂ with heap := h₃, toks := tk₃ } I oI C oC D (lst ys) (fun _ => True) (fun _ nw' => Inv (i + 1) ys' nw') Value.none s₅ → ∃ h₄ tk₄ nw₄, s₅ = { s₂ with heap := h₄, toks := tk₄ } ∧ Fr h₀ L h₄ m ∧ (∃ m₄, h₄.Ns C m₄) ∧ St (i + 1) h₄ ∧ h₄.get? D = some (lst ys) ∧ News h₀ L h₄ nw₄ ∧ Off3 I C D nw₄ ∧ Inv (i + 1) ys' nw₄ := by
          rintro s₅ ys' ⟨h₄, tk₄, nw₄, rfl, F₄, N₄, off₄, -, v₄⟩
          have zI := (N₄ (I, oI) (.head _)).1
          have zC := (N₄ (C, oC) (.tail _ (.head _))).1
          have zD := (N₄ (D, lst ys) (.tail _ (.tail _ (.head _)))).1
          have N₄' : News h₀ L h₄ nw₄ := fun p hp => N₄ p (.tail _ (.tail _ (.tail _ hp)))
          refine ⟨h₄, tk₄, nw₄, rfl, F₄, ⟨_, hoC.ns zC⟩, W.frame _ _ _ hst₃ fun b hb' o e => ?_, zD, N₄', off₄, v₄⟩
          rcases List.mem_cons.mp hb' with rfl | hb'
          · rw [heI] at e; cases e; exact zI
          · rw [List.mem_singleton.mp hb'] at e ⊢
            have q1 := hsrc _ _ _ _ hv' F₃ fun p hp => N₃ p (.tail _ (.tail _ (.tail _ hp)))
            rw [q1] at e; cases e
            exact hsrc _ _ _ _ v₄ F₄ N₄'
        have go : ∀ (Q Q' : Bool → Shared → Prop) (E' : Value → Shared → Prop) (s' : Shared), (∀ b t, Q b t → Q' b t) → TestWp prog w A (compEnvC scope cl C env) Q E' s' ifs → TestWp prog w A (compEnvC scope cl C env) Q' E' s' ifs := by
          intro Q Q' E' s' hq ht
          match ifs, ht with
          | [], ht => exact hq _ _ ht
          | [c], ht => exact wpAny_mono ht hq fun _ _ e => e
        refine go _ _ _ _ (fun ok s₄ h₄ => ?_) (body I oI C oC D m₃ h₃ tk₃ _ hoC hm₃ F₃ N₃ off' ⟨hI.2, hI.1, Ne.symm hDC⟩)
        cases ok with
        | false =>
          simp only [Bool.false_eq_true, if_false] at h₄ ⊢
          obtain ⟨h₅, tk₅, nw₅, rfl, F₅, ⟨m₅, n₅⟩, st₅, d₅, N₅, o₅, v₅⟩ := fin _ _ h₄
          refine ⟨n + 1 - (i + 1), by omega, h₅, tk₅, i + 1, ys, m₅, nw₅, rfl, hlt, rfl, Nat.le_succ_of_le hyl, st₅, F₅, n₅, fun p hp => ?_, o₅, v₅⟩
          rcases List.mem_cons.mp hp with rfl | hp
          · exact ⟨d₅, Ne.symm hL.1, hD₀⟩
          · exact N₅ p hp
        | true =>
          simp only [if_true] at h₄ ⊢
          refine wpAny_mono h₄ (fun y s₅ h₅ => ?_) fun _ _ e => e
          obtain ⟨h₅, tk₅, nw₅, rfl, F₅, ⟨m₅, n₅⟩, st₅, d₅, N₅, o₅, v₅⟩ := fin _ _ h₅
          have o5 := o₅.mem
          refine append_at (hsz := by show ys.toArray.size ≤ sizeLine; rw [List.size_toArray]; exact fits (by omega)) d₅ fun h₆ hs₆ hD₆ => ?_
          refine ⟨n + 1 - (i + 1), by omega, h₆, tk₅, i + 1, ys ++ [y], m₅, nw₅, rfl, hlt, rfl, by rw [List.length_append, List.length_singleton]; exact Nat.succ_le_succ hyl, W.frame _ _ _ st₅ fun b hb' o e => hs₆.extBut b o ?_ e, F₅.change hs₆ (Ne.symm hL.1) hD₀, n₅.sameBut hs₆ (Ne.symm hDC), fun p hp => ?_, o₅, v₅⟩
          · rcases List.mem_cons.mp hb' with rfl | hb'
            · exact hI.1
            · rw [List.mem_singleton.mp hb']; exact hax.1
          · rcases List.mem_cons.mp hp with rfl | hp
            · exact ⟨hD₆.trans (congrArg some (lst_snoc ys y)), Ne.symm hL.1, hD₀⟩
            · exact ⟨hs₆.extBut _ _ (o5 p hp).2.2 (N₅ p hp).1, (N₅ p hp).2⟩
      · obtain rfl : i = n := Nat.le_antisymm hi (Nat.not_lt.mp hlt)
        refine W.done _ _ _ hst' fun h₂ tk₂ hk₂ => ?_
        exact hRR _ _ h₂ tk₂ _ ys nw (fr_but F' hk₂ hIL hI₀) (news_but N' hk₂ fun p hp => by
          rcases List.mem_cons.mp hp with rfl | hp
          · exact Ne.symm hI.1
          · exact (off3 p hp).1) off'.one (hn'.at' fun o e => hk₂ _ o (by simpa using Ne.symm hI.2) e) hC₀ hD₀ (Ne.symm hL.2) (Ne.symm hL.1) (Ne.symm hDC) (fun p hp => (off3 p hp).2.1) hv'
    · rcases List.mem_cons.mp hp with rfl | hp
      · exact ⟨hacc, Ne.symm hL.1, hD₀⟩
      · exact ⟨old _ _ (N p hp).1, (N p hp).2⟩
  exact codeAny_compStart_list (loop _ rfl) (W.self 0 _ _ _ (W.frame _ _ _ hst fun b _ o e => old b o e) (loop _ rfl))
end
end Mine
end
section
open PySem PySem.W PySem.Spec PySem.Calls PyProof.Rows PyProof.Rows.LCg
set_option maxRecDepth 100000
set_option maxHeartbeats 4000000
namespace Mine
section
variable {prog : Program} {w : World} {A : Around} {E : Value → Shared → Prop} {s : Shared} {h₀ : Heap} {L C : Addr} {m m₂ : Str → Option Value} {env : Env} {scope : Scope} {cl : List (Str × Addr)} {J : Led}
theorem own_none {tg : Expr} {I : Addr} {v : Value} {o : Obj} {vs : Array Value} {n : String} {Q : Unit → Shared → Prop} (ho : s.heap.get? I = some o) (hc : o.cls = .type n) (hd : o.data = .fields vs)
    (hn : (["enumerate", "zip", "dict_itemiterator", "dict_reverseitemiterator", "odict_iterator", "itertools.zip_longest", "itertools.pairwise"].contains n) = false) (hQ : Q () s) : wpAny (model prog w) A (letOwnedTupleGo tg (.ref I) v) Q E s := by
  have key : ∀ a : Addr, wpAny (model prog w) A (do
      let o ← load I
      match o.cls, o.data with
      | .type n, .fields vs =>
        if ["enumerate", "zip", "dict_itemiterator", "dict_reverseitemiterator", "odict_iterator", "itertools.zip_longest", "itertools.pairwise"].contains n && vs[0]? == some (rawInt a) then
          rule "for.unpacks-the-owned-tuple"
          updateField I 0 .none
      | _, _ => pure ()) Q E s := by
    intro a
    refine wpAny_bind (wpAny_load ho ?_)
    rw [hc, hd]
    dsimp only
    rw [hn]
    exact wpAny_pure hQ
  unfold letOwnedTupleGo
  split
  · cases v <;> first | exact wpAny_pure hQ | exact key _
  · cases v <;> first | exact wpAny_pure hQ | exact key _
  · exact wpAny_pure hQ
def SrcM (prog : Program) (w : World) (A : Around) (h₀ : Heap) (L : Addr) (m : Str → Option Value) (env : Env) (scope : Scope) (cl : List (Str × Addr)) (tg elt : Expr) (ifs : List Expr) (Fin : Shared → List Value → Led → Prop) (xv : Value) (s₁ : Shared) : Prop :=
  ∃ ax osrc its n news Inv, xv = .ref ax ∧ A.handled = none ∧ Fr h₀ L s₁.heap m ∧ News h₀ L s₁.heap news ∧ (osrc = listOf (List.toArray its) n ∨ osrc = tupN its n) ∧ its.length ≤ 100000 ∧ Inv 0 [] news ∧ s₁.heap.get? ax = some osrc ∧ (∀ i ys nw h, Inv i ys nw → Fr h₀ L h m → News h₀ L h nw → h.get? ax = some osrc) ∧
    (∀ g i v ys nw, its[i]? = some v → Inv i ys nw → TurnOk prog w A h₀ L m env scope cl { s₁ with heap := g } tg elt ifs Inv i v ys nw) ∧ ∀ g ys nw, Inv its.length ys nw → Fin { s₁ with heap := g } ys nw
theorem src_block {elt iter tg : Expr} {ifs : List Expr} {pos : Pos} {Fin : Shared → List Value → Led → Prop} {xv : Value} {RR : Value → Addr → Result → Shared → Prop}
    (hcell : ∀ y ∈ scope.names, y.2 ≠ .cell) (hkind : scope.kind = .function) (S : SrcM prog w A h₀ L m env scope cl tg elt ifs Fin xv s)
    (hRR : ∀ D C h tk m' ys news' g, Fr h₀ L h m → News h₀ L h ((D, lst ys) :: news') → Off1 D news' → h.Ns C m' → h₀.get? C = none → h₀.get? D = none → C ≠ L → D ≠ L → C ≠ D → (∀ p ∈ news', p.1 ≠ C) → Fin { s with heap := g } ys news' → RR (.ref D) C (.ok .next) { s with heap := h, toks := tk }) :
    wpAny (model prog w) A (pyIter xv) (fun it s₂ => wpAny (model prog w) A (newList []) (fun acc s₃ => wpAny (model prog w) A (newFunctionEnv scope env.globals cl [] env.qual none .none (some env)) (fun cenv s₄ =>
      codeAny (model prog w) A (.compStart (.ListComp elt [⟨tg, iter, ifs, 0⟩] scope pos) 0 it acc { cenv with scope := relabel scope env }) (RR acc cenv.locals) s₄) E s₃) E s₂) E s := by
  obtain ⟨ax, osrc, its, n, news, Inv, rfl, hh, F, N, ho, hz, hi, z, hsrc, turn, fin⟩ := S
  have hlt : ax < s.heap.objs.size := Heap.lt_size z
  have hne : ax ≠ s.heap.objs.size := Nat.ne_of_lt hlt
  have hsize : its.toArray.size = its.length := List.size_toArray
  have up : ∀ (o' : Obj), ∀ b o, s.heap.get? b = some o → (s.heap.push o').get? b = some o := fun _ b o e => Heap.get?_push_of_some _ e
  have fp : ∀ (o' : Obj), ∀ b ∈ [s.heap.objs.size, ax], b < (s.heap.push o').objs.size := fun o' b hb => by
    rw [Heap.size_push]
    rcases List.mem_cons.mp hb with rfl | hb
    · exact Nat.lt_succ_self _
    · rw [List.mem_singleton.mp hb]; exact Nat.lt_succ_of_lt hlt
  rcases ho with rfl | rfl
  · have hl : s.heap.IsList ax its.toArray := ⟨_, z, rfl, n, rfl⟩
    refine wpAny_pyIter_list hl ?_
    have W := Walks.list (prog := prog) (w := w) hh s.heap.objs.size ax hne its.toArray
    rw [hsize] at W
    refine my_block Inv W hz (fun i h st => by obtain ⟨o, e, _⟩ := st.1; exact ⟨o, e⟩) (fun i s' v Q' E' st hq => by obtain ⟨o, e, hc, hd⟩ := st.1; exact own_none e hc hd (by decide) hq) hcell hkind hh ⟨⟨_, Heap.get?_push_size _ rfl, rfl, rfl⟩, hl.push _⟩ (fp _)
      (F.keeps (up _)) (N.grown (up _)) (Nat.ne_of_lt F.ns.lt) (next_is_new F) (fun p hp => Nat.ne_of_lt (Heap.lt_size (N p hp).1)) hi hsrc (fun i v ys nw _ hp hv => turn _ i v ys nw (by simpa using hp) hv) ?_
    intro D C h tk m' ys news' F' N' o1 hn hC₀ hD₀ hCL hDL hCD offC hv
    exact hRR D C h tk m' ys news' s.heap F' N' o1 hn hC₀ hD₀ hCL hDL hCD offC (fin s.heap ys news' hv)
  · have hl : s.heap.IsTuple ax its.toArray := ⟨_, z, rfl, n, rfl⟩
    refine wpAny_pyIter_tuple hl ?_
    have W := Walks.tuple (prog := prog) (w := w) hh s.heap.objs.size ax hne its.toArray
    rw [hsize] at W
    refine my_block Inv W hz (fun i h st => by obtain ⟨o, e, _⟩ := st.1; exact ⟨o, e⟩) (fun i s' v Q' E' st hq => by obtain ⟨o, e, hc, hd⟩ := st.1; exact own_none e hc hd (by decide) hq) hcell hkind hh ⟨⟨_, Heap.get?_push_size _ rfl, rfl, rfl⟩, ⟨_, up _ _ _ z, rfl, n, rfl⟩⟩ (fp _)
      (F.keeps (up _)) (N.grown (up _)) (Nat.ne_of_lt F.ns.lt) (next_is_new F) (fun p hp => Nat.ne_of_lt (Heap.lt_size (N p hp).1)) hi hsrc (fun i v ys nw _ hp hv => turn _ i v ys nw (by simpa using hp) hv) ?_
    intro D C h tk m' ys news' F' N' o1 hn hC₀ hD₀ hCL hDL hCD offC hv
    exact hRR D C h tk m' ys news' s.heap F' N' o1 hn hC₀ hD₀ hCL hDL hCD offC (fin s.heap ys news' hv)
theorem comp_eval {elt iter tg : Expr} {ifs : List Expr} {pos : Pos} {Q : Value → Shared → Prop}
    (hclos : closureFor scope env = pure cl) (hcell : ∀ y ∈ scope.names, y.2 ≠ .cell) (hkind : scope.kind = .function) (hnames : ∀ y ∈ scope.names, y.2 = .local → scope.names.lookup y.1 = some .local)
    (h : wpAny (model prog w) A (eval iter env) (SrcM prog w A h₀ L m env scope cl tg elt ifs (fun s₂ => FinE h₀ L m s₂ Q)) E s)
    (hs : ∀ x, foldedSetIterable iter env x = pure x) :
    wpAny (model prog w) A (eval (.ListComp elt [⟨tg, iter, ifs, 0⟩] scope pos) env) Q E s := by
  rw [eval_ListComp]
  refine wpAny_comprehension_free (use := none) rfl hs hclos hkind hnames (wpAny_mono h (fun xv s₁ S => ?_) fun _ _ e => e)
  refine src_block hcell hkind S fun D C h tk m' ys news' g F' N' o1 hn hC₀ hD₀ hCL hDL hCD offC fin => ?_
  refine ⟨m', hn, fun h'' hs'' => fin D h'' tk (F'.change hs'' hCL hC₀) (fun p hp => ?_) o1⟩
  refine ⟨hs''.extBut _ _ ?_ (N' p hp).1, (N' p hp).2⟩
  rcases List.mem_cons.mp hp with rfl | hp
  · exact Ne.symm hCD
  · exact offC p hp
theorem comp_assign {elt iter tg : Expr} {ifs : List Expr} {y : Str} {py pos spos : Pos} {Q : Flow → Shared → Prop} (hLe : env.locals = L)
    (hsw : swapsWith (.ListComp elt [⟨tg, iter, ifs, 0⟩] scope pos) (some (.Name y py)) spos.line env = pure true)
    (hclos : closureFor scope env = pure cl) (hcell : ∀ y ∈ scope.names, y.2 ≠ .cell) (hkind : scope.kind = .function) (hnames : ∀ y ∈ scope.names, y.2 = .local → scope.names.lookup y.1 = some .local)
    (hy : env.kindOf y = some .local) (hp : (env.scope.kind == .class || (env.scope.kind == .module && env.locals != env.globals)) = false)
    (h : wpAny (model prog w) A (eval iter env) (SrcM prog w A h₀ L m env scope cl tg elt ifs (fun s₂ => FinA h₀ L m s₂ y Q)) E s)
    (hs : ∀ x, foldedSetIterable iter env x = pure x) :
    wpAny (model prog w) A (exec (.Assign [.Name y py] (.ListComp elt [⟨tg, iter, ifs, 0⟩] scope pos) spos) env) Q E s := by
  subst hLe
  rw [exec_Assign_Name_used _ _ _ _ hsw]
  refine wpAny_bind (wpAny_standAt (wpAny_bind ?_))
  show wpAny _ A (do let _ ← comprehension (.ListComp elt [⟨tg, iter, ifs, 0⟩] scope pos) scope env _ (newList []) false (eval iter env) (some (assign (.Name y py) env))) _ _ s
  refine wpAny_bind (wpAny_mono (wpAny_comprehension_free (use := some (assign (.Name y py) env)) (Q := fun _ s' => Q .next s') rfl hs hclos hkind hnames
    (wpAny_mono h (fun xv s₁ S => ?_) fun _ _ e => e)) (fun _ s' hq => wpAny_pure (wpAny_pure hq)) fun _ _ e => e)
  refine src_block hcell hkind S fun D C h' tk m' ys news' g F' N' o1 hn hC₀ hD₀ hCL hDL hCD offC fin => ?_
  show wpAny _ A (assign (.Name y py) env (.ref D)) _ _ _
  refine wpAny_assign_Name (wpAny_storeName_local hy F'.ns (fun h₂ hn₂ hs₂ => ?_) hp)
  have hL₀ : h₀.get? env.locals = none := Heap.get?_none_of_le F'.above
  have F₂ : Fr h₀ env.locals h₂ (fun z => if z = y then some (.ref D) else m z) := ⟨hn₂, fun b o e => hs₂.extBut b o (fun q => by rw [q, hL₀] at e; cases e) (F'.keep b o e), F'.above⟩
  refine ⟨m', hn.sameBut hs₂ hCL, fun h'' hs'' => fin D h'' _ (F₂.change hs'' hCL hC₀) (fun p hp => ?_) o1⟩
  have z : h₂.get? p.1 = some p.2 := hs₂.extBut _ _ (N' p hp).2.1 (N' p hp).1
  refine ⟨hs''.extBut _ _ ?_ z, (N' p hp).2⟩
  rcases List.mem_cons.mp hp with rfl | hp
  · exact Ne.symm hCD
  · exact offC p hp
end
end Mine
end
section
open PySem PySem.W PySem.Spec PySem.Calls PyProof.Rows PyProof.Rows.LCg
set_option maxRecDepth 100000
set_option maxHeartbeats 4000000
namespace Mine
section
variable {prog : Program} {w : World} {A : Around} {E : Value → Shared → Prop} {s : Shared} {h₀ : Heap} {L C : Addr} {m m₂ : Str → Option Value} {env : Env} {scope : Scope} {cl : List (Str × Addr)} {J : Led}
def srcIn : Option (Addr × Obj) → Led → Prop
  | none, _ => True
  | some p, nw => p ∈ nw
def RestM (prog : Program) (w : World) (A : Around) (h₀ : Heap) (L : Addr) (m : Str → Option Value) (env : Env) (scope : Scope) (cl : List (Str × Addr)) (s₂ : Shared) (tg elt : Expr) (ifs : List Expr) (src : Option (Addr × Obj)) (Fin : List Value → Led → Prop) : List Value → List Value → Led → Prop
  | [], ys, nw => Fin ys nw
  | v :: r, ys, nw => ∃ bs, Bind nw tg v bs ∧ (∀ p ∈ bs, scope.names.lookup p.1 = some .local) ∧ (bs.map (·.1)).Nodup ∧
    ∀ I oI C oC D m₂ h tk (E' : Value → Shared → Prop), NsObj oC m₂ → (∀ p ∈ bs, m₂ p.1 = some p.2) → Fr h₀ L h m → News h₀ L h ((I, oI) :: (C, oC) :: (D, lst ys) :: nw) → Off3 I C D nw → (@Ne Nat I C) ∧ (@Ne Nat I D) ∧ (@Ne Nat C D) →
      TestWp prog w A (compEnvC scope cl C env) (fun ok s' => if ok = true then
          wpAny (model prog w) A (eval elt (compEnvC scope cl C env)) (CompEnd h₀ L m { s₂ with heap := h, toks := tk } I oI C oC D (lst ys) (fun _ => True) (fun y nw' => srcIn src nw' ∧ RestM prog w A h₀ L m env scope cl s₂ tg elt ifs src Fin r (ys ++ [y]) nw')) E' s'
        else CompEnd h₀ L m { s₂ with heap := h, toks := tk } I oI C oC D (lst ys) (fun _ => True) (fun _ nw' => srcIn src nw' ∧ RestM prog w A h₀ L m env scope cl s₂ tg elt ifs src Fin r ys nw') Value.none s') E' { s₂ with heap := h, toks := tk } ifs
variable {s₁ : Shared} {I D : Addr} {oI oC oD : Obj} {S : Led → Prop} {rest : Value → Led → Prop} {y : Value} {h' : Heap} {tk : Nat} {nw : Led} {p1 p2 p3 p4 : Addr × Obj}
def Off3one (I C D : Addr) (p : Addr × Obj) : Prop := (@Ne Nat p.1 I) ∧ (@Ne Nat p.1 C) ∧ (@Ne Nat p.1 D)
end
end Mine
end
section
open PySem PySem.W PySem.Spec PySem.Calls PyProof.Rows PySem.SeqAt
set_option maxRecDepth 100000
namespace Mine
section
variable {prog : Program} {w : World} {A : Around} {E : Value → Shared → Prop} {s : Shared} {h₀ : Heap} {L D l : Addr} {news : Led} {ys zs : List Value} {n k : Nat} {Q : Value → Shared → Prop}
theorem isList_of (N : News h₀ L s.heap news) (hm : (D, listOf ys.toArray n) ∈ news) : s.heap.IsList D ys.toArray := ⟨_, (N _ hm).1, rfl, n, rfl⟩
theorem eq_nilL (N : News h₀ L s.heap news) (hD : (D, listOf ys.toArray n) ∈ news) (hl : (l, listOf (List.toArray []) k) ∈ news) (hu : A.units < cLine) (h : Q (.bool ys.isEmpty) s) : wpAny (model prog w) A (compareOp .Eq (.ref D) (.ref l)) Q E s := by
  cases ys with
  | nil => exact eq_listAt (e := fun _ => true) (isList_of N hD) (isList_of N hl) rfl hu (fun j h1 => by simp at h1) (by simpa using h)
  | cons y r => exact eq_list_lengthsAt (isList_of N hD) (isList_of N hl) (by simp) hu (by simpa using h)
theorem ne_nilL (N : News h₀ L s.heap news) (hD : (D, listOf ys.toArray n) ∈ news) (hl : (l, listOf (List.toArray []) k) ∈ news) (hu : A.units < cLine) (h : Q (.bool (!ys.isEmpty)) s) : wpAny (model prog w) A (compareOp .NotEq (.ref D) (.ref l)) Q E s := by
  cases ys with
  | nil => exact RcNeAt.lists (e := fun _ => true) (isList_of N hD) (isList_of N hl) rfl hu (fun j h1 => by simp at h1) prog w E Q (by simpa using h)
  | cons y r => exact RcNeAt.lists_lengths (isList_of N hD) (isList_of N hl) (by simp) hu prog w E Q (by simpa using h)
end
end Mine
end
section
open PySem PySem.W PySem.Spec PySem.Calls PyProof.Rows
set_option maxRecDepth 100000
namespace Mine
abbrev PG : Program := PySem.Challenge.rw_rg0115_01.row.prog
abbrev Loc := Str → Option Value
structure Fx where
  w : World
  env : Env
  h₀ : Heap
  L : Addr
  H : Led
  g : Array GenState
  os : OsState
  dp : Nat
  un : Nat
  gd : Option (List Code)
  cn : Str
  cs : Scope
  a : Addr
  ccd : Value
  cl : List (Str × Addr)
  outer : List Env
  A₀ : Around
  base : Heap
abbrev Fx.fr (x : Fx) : Env := envX x.cn x.cs x.L x.a x.ccd x.cl
abbrev Fx.A (x : Fx) : Around := ktrTop x.dp x.un x.gd x.cn x.cs x.L x.a x.ccd x.cl x.outer
theorem Fx.hh (x : Fx) : x.A.handled = none := rfl
structure Gh where
  M : Led
  J : Led
  d : Drawn
theorem sub_intM {D : Addr} {i : Int} {k : Nat} {p1 : Pos} (u : Tok) : subscripted (.Constant (.int i) k p1) false (.ref D) (.int i u) = operate [.ref D, .int i u] (getItem (.ref D) (.int i u)) := by with_unfolding_all rfl
def Sep (l J : Led) : Prop := (l.map (·.1)).Nodup ∧ ∀ p ∈ l, ∀ q ∈ J, @Ne Nat p.1 q.1
def St (x : Fx) (G : Gh) (m : Loc) (s : Shared) : Prop :=
  Fr x.h₀ x.L s.heap m ∧ News x.h₀ x.L s.heap (x.H ++ (G.M ++ G.J)) ∧ Sep (x.H ++ G.M) G.J ∧ s.gens = x.g ∧ s.os = x.os ∧ s.drawn = G.d
inductive At (D : Addr) (o : Obj) : Led → (Obj → Led) → Prop where
  | head {r : Led} : At D o ((D, o) :: r) (fun o' => (D, o') :: r)
  | tail {p : Addr × Obj} {r : Led} {g : Obj → Led} : At D o r g → At D o (p :: r) (fun o' => p :: g o')
theorem At.mem {D : Addr} {o : Obj} {M : Led} {g : Obj → Led} (h : At D o M g) : (D, o) ∈ M := by
  induction h with
  | head => exact .head _
  | tail _ ih => exact .tail _ ih
theorem At.fst {D : Addr} {o o' : Obj} {M : Led} {g : Obj → Led} (h : At D o M g) : (g o').map (·.1) = M.map (·.1) := by
  induction h with
  | head => rfl
  | tail _ ih => rw [List.map_cons, List.map_cons, ih]
theorem At.upd {D : Addr} {o : Obj} {H M J : Led} {g : Obj → Led} (h : At D o M g) (S : Sep (H ++ M) J) : UpdF D o (H ++ (M ++ J)) (fun o' => H ++ (g o' ++ J)) := by
  induction H with
  | cons p H ih =>
    have S1 := S.1
    rw [List.cons_append, List.map_cons, List.nodup_cons] at S1
    refine .tail (fun e => S1.1 ?_) (ih ⟨S1.2, fun q hq => S.2 q (.tail _ hq)⟩)
    rw [e]; exact List.mem_map.mpr ⟨(D, o), List.mem_append_right _ h.mem, rfl⟩
  | nil =>
    simp only [List.nil_append] at S ⊢
    induction h with
    | @head r =>
      have S1 := S.1
      rw [List.map_cons, List.nodup_cons] at S1
      refine .head fun p hp => ?_
      rcases List.mem_append.mp hp with hp | hp
      · exact fun e => S1.1 (by rw [← e]; exact List.mem_map.mpr ⟨p, hp, rfl⟩)
      · exact Ne.symm (S.2 _ (.head _) p hp)
    | tail h ih =>
      have S1 := S.1
      rw [List.map_cons, List.nodup_cons] at S1
      refine .tail (fun e => S1.1 ?_) (ih ⟨S1.2, fun q hq => S.2 q (.tail _ hq)⟩)
      rw [e]; exact List.mem_map.mpr ⟨(D, o), h.mem, rfl⟩
theorem Sep.of_fst {l l' J : Led} (S : Sep l J) (e : l'.map (·.1) = l.map (·.1)) : Sep l' J := by
  refine ⟨e ▸ S.1, fun p hp q hq => ?_⟩
  have h1 : p.1 ∈ l.map (·.1) := e ▸ List.mem_map.mpr ⟨p, hp, rfl⟩
  obtain ⟨r, hr, he⟩ := List.mem_map.mp h1
  rw [← he]; exact S.2 r hr q hq
section
variable {x : Fx} {G : Gh} {M J J' : Led} {d : Drawn} {m : Loc} {s : Shared} {D : Addr} {o : Obj} {h' : Heap} {tk : Nat}
theorem St.nj (h : St x G m s) : News x.h₀ x.L s.heap G.J := news_sub h.2.1 fun p hp => List.mem_append_right _ (List.mem_append_right _ hp)
theorem St.nm (h : St x G m s) : News x.h₀ x.L s.heap G.M := news_sub h.2.1 fun p hp => List.mem_append_right _ (List.mem_append_left _ hp)
theorem St.nh (h : St x G m s) : News x.h₀ x.L s.heap x.H := news_sub h.2.1 fun p hp => List.mem_append_left _ hp
theorem st_newJ (h : St x ⟨M, J, d⟩ m s) (F : Fr x.h₀ x.L h' m) (N : News x.h₀ x.L h' ((D, o) :: (x.H ++ (M ++ J)))) (lt : ∀ p ∈ x.H ++ (M ++ J), p.1 < D) : St x ⟨M, (D, o) :: J, d⟩ m { s with heap := h', toks := tk } := by
  refine ⟨F, news_sub N fun p hp => ?_, ⟨h.2.2.1.1, fun p hp q hq => ?_⟩, h.2.2.2⟩
  · simp only [List.mem_append, List.mem_cons] at hp ⊢
    rcases hp with h | h | h | h
    · exact .inr (.inl h)
    · exact .inr (.inr (.inl h))
    · exact .inl h
    · exact .inr (.inr (.inr h))
  · rcases List.mem_cons.mp hq with rfl | hq
    · exact Nat.ne_of_lt (lt p (by rw [← List.append_assoc]; exact List.mem_append_left _ hp))
    · exact h.2.2.1.2 p hp q hq
theorem st_newM (h : St x ⟨M, J, d⟩ m s) (F : Fr x.h₀ x.L h' m) (N : News x.h₀ x.L h' ((D, o) :: (x.H ++ (M ++ J)))) (lt : ∀ p ∈ x.H ++ (M ++ J), p.1 < D) : St x ⟨(D, o) :: M, J, d⟩ m { s with heap := h', toks := tk } := by
  have S := h.2.2.1
  refine ⟨F, news_sub N fun p hp => ?_, ⟨?_, fun p hp q hq => ?_⟩, h.2.2.2⟩
  · simp only [List.mem_append, List.mem_cons] at hp ⊢
    rcases hp with h | (h | h) | h
    · exact .inr (.inl h)
    · exact .inl h
    · exact .inr (.inr (.inl h))
    · exact .inr (.inr (.inr h))
  · have e : (x.H ++ (D, o) :: M).map (·.1) = x.H.map (·.1) ++ D :: M.map (·.1) := by simp
    rw [e]
    refine (List.perm_middle.nodup_iff).mpr (List.nodup_cons.mpr ⟨fun hm => ?_, by have := S.1; simpa using this⟩)
    rw [← List.map_append] at hm
    obtain ⟨p, hp, rfl⟩ := List.mem_map.mp hm
    exact Nat.lt_irrefl _ (lt p (by rw [← List.append_assoc]; exact List.mem_append_left _ hp))
  · rcases List.mem_append.mp hp with hp | hp
    · exact S.2 p (List.mem_append_left _ hp) q hq
    · rcases List.mem_cons.mp hp with rfl | hp
      · exact Nat.ne_of_gt (lt q (List.mem_append_right _ (List.mem_append_right _ hq)))
      · exact S.2 p (List.mem_append_right _ hp) q hq
theorem st_upd {o' : Obj} {g : Obj → Led} (a : At D o M g) (h : St x ⟨M, J, d⟩ m s) {m' : Loc} (F : Fr x.h₀ x.L h' m') (N : News x.h₀ x.L h' (x.H ++ (g o' ++ J))) : St x ⟨g o', J, d⟩ m' { s with heap := h', toks := tk } :=
  ⟨F, N, h.2.2.1.of_fst (by rw [List.map_append, List.map_append, a.fst]), h.2.2.2⟩
theorem st_sub (hs : ∀ p ∈ J', p ∈ J) (h : St x ⟨M, J, d⟩ m s) : St x ⟨M, J', d⟩ m s :=
  ⟨h.1, news_sub h.2.1 fun p hp => by
    simp only [List.mem_append] at hp ⊢
    exact hp.imp id (Or.imp id (hs p)), ⟨h.2.2.1.1, fun p hp q hq => h.2.2.1.2 p hp q (hs q hq)⟩, h.2.2.2⟩
end
structure Wk (G G' : Gh) : Prop where
  d : G'.d = G.d
  m : ∃ pre, G.M = pre ++ G'.M ∧ ∀ p ∈ G'.J, p ∈ pre ++ G.J
theorem Wk.refl {G : Gh} : Wk G G := ⟨rfl, [], rfl, fun _ h => h⟩
theorem Wk.st {x : Fx} {G G' : Gh} {m : Loc} {s : Shared} (w : Wk G G') (h : St x G m s) : St x G' m s := by
  obtain ⟨hd, pre, hm, hj⟩ := w
  have S := h.2.2.1
  rw [hm] at S
  have P : List.Perm (x.H ++ (pre ++ G'.M)) (pre ++ (x.H ++ G'.M)) := by
    rw [← List.append_assoc, ← List.append_assoc]
    exact List.Perm.append_right _ List.perm_append_comm
  have S1 := ((P.map (·.1)).nodup_iff).mp S.1
  rw [List.map_append] at S1
  obtain ⟨_, n2, n3⟩ := List.nodup_append.mp S1
  refine ⟨h.1, news_sub h.2.1 fun p hp => ?_, ⟨n2, fun p hp q hq => ?_⟩, h.2.2.2.1, h.2.2.2.2.1, hd ▸ h.2.2.2.2.2⟩
  · rw [hm]
    simp only [List.mem_append] at hp hj ⊢
    rcases hp with h | h | h
    · exact .inl h
    · exact .inr (.inl (.inr h))
    · rcases hj p h with h | h
      · exact .inr (.inl (.inl h))
      · exact .inr (.inr h)
  · rcases List.mem_append.mp (hj q hq) with h | h
    · exact Ne.symm (n3 q.1 (List.mem_map.mpr ⟨q, h, rfl⟩) p.1 (List.mem_map.mpr ⟨p, hp, rfl⟩))
    · exact S.2 p (by
        rcases List.mem_append.mp hp with hp | hp
        · exact List.mem_append_left _ hp
        · exact List.mem_append_right _ (List.mem_append_right _ hp)) q h
def Has (x : Fx) (J : Led) (a : Addr) (o : Obj) : Prop := (a, o) ∈ J ∨ x.h₀.get? a = some o
theorem Has.get {x : Fx} {G : Gh} {m : Loc} {s : Shared} {a : Addr} {o : Obj} (h : St x G m s) (k : Has x G.J a o) : s.heap.get? a = some o := k.elim (fun e => (h.nj _ e).1) fun e => h.1.keep _ _ e
def Tup (J : Led) (a : Addr) (vs : List Value) : Prop := ∃ n, (a, tupN vs n) ∈ J
def HasT (x : Fx) (J : Led) (a : Addr) (vs : List Value) : Prop := ∃ n, Has x J a (tupN vs n)
theorem Tup.mono {J J' : Led} {a : Addr} {vs : List Value} (hs : ∀ p ∈ J, p ∈ J') (k : Tup J a vs) : Tup J' a vs := k.imp fun _ h => hs _ h
theorem Tup.head {J : Led} {a : Addr} {vs : List Value} : Tup ((a, tupO vs) :: J) a vs := ⟨0, .head _⟩
theorem Tup.tail {J : Led} {q : Addr × Obj} {a : Addr} {vs : List Value} (k : Tup J a vs) : Tup (q :: J) a vs := k.imp fun _ h => .tail _ h
theorem Tup.has {x : Fx} {J : Led} {a : Addr} {vs : List Value} (k : Tup J a vs) : HasT x J a vs := k.imp fun _ h => .inl h
theorem HasT.tail {x : Fx} {J : Led} {q : Addr × Obj} {a : Addr} {vs : List Value} (k : HasT x J a vs) : HasT x (q :: J) a vs := k.imp fun _ h => h.imp (.tail _) id
theorem HasT.tup {x : Fx} {G : Gh} {m : Loc} {s : Shared} {a : Addr} {vs : List Value} (k : HasT x G.J a vs) (h : St x G m s) : IsTup s.heap a vs.toArray := by
  obtain ⟨n, k⟩ := k
  exact ⟨_, k.get h, rfl, n, rfl⟩
abbrev Post := Flow → Gh → Loc → Prop
def Go (x : Fx) (G : Gh) (m : Loc) (ss : List Stmt) (T : Post) (E : Value → Shared → Prop) : Prop :=
  ∀ s, St x G m s → wpAny (model PG x.w) x.A (execs ss x.env) (fun f s' => ∃ G' m', St x G' m' s' ∧ T f G' m') E s
def EvG (x : Fx) (G : Gh) (m : Loc) (e : Expr) (v : Tok → Value) : Prop :=
  ∀ s, St x G m s → ∀ (Q : Value → Shared → Prop) (E : Value → Shared → Prop), (∀ s' t, St x G m s' → Q (v t) s') → wpAny (model PG x.w) x.A (eval e x.env) Q E s
def TrG (x : Fx) (G : Gh) (m : Loc) (e : Expr) (b : Bool) : Prop :=
  ∀ s, St x G m s → ∀ (Q : Bool → Shared → Prop) (E : Value → Shared → Prop), (∀ s', St x G m s' → Q b s') → wpAny (model PG x.w) x.A (isTrue e x.env (eval e x.env)) Q E s
def EvC (x : Fx) (G : Gh) (m : Loc) (e : Expr) (K : Value → Gh → Prop) : Prop :=
  ∀ s, St x G m s → ∀ (Q : Value → Shared → Prop) (E : Value → Shared → Prop), (∀ v G' s', K v G' → St x G' m s' → Q v s') → wpAny (model PG x.w) x.A (eval e x.env) Q E s
def TrC (x : Fx) (G : Gh) (m : Loc) (e : Expr) (K : Bool → Gh → Prop) : Prop :=
  ∀ s, St x G m s → ∀ (Q : Bool → Shared → Prop) (E : Value → Shared → Prop), (∀ v G' s', K v G' → St x G' m s' → Q v s') → wpAny (model PG x.w) x.A (isTrue e x.env (eval e x.env)) Q E s
def CallG (x : Fx) (G : Gh) (m : Loc) (f : Value) (vs : List Value) (K : Value → Gh → Prop) : Prop :=
  ∀ s, St x G m s → ∀ (Q : Value → Shared → Prop) (E : Value → Shared → Prop), (∀ v G' s', K v G' → St x G' m s' → Q v s') → wpAny (model PG x.w) x.A (call f vs) Q E s
def EvL (x : Fx) (G : Gh) (m : Loc) (es : List Expr) (K : List Value → Gh → Prop) : Prop :=
  ∀ pos s, St x G m s → ∀ (Q : List Value → Shared → Prop) (E : Value → Shared → Prop), (∀ vs G' s', K vs G' → St x G' m s' → Q vs s') → wpAny (model PG x.w) x.A (spliced (backTo pos (starEach es x.env))) Q E s
def NameIs (x : Fx) (n : Str) (v : Value) : Prop := ∀ G m s, St x G m s → ∀ (Q : Value → Shared → Prop) (E : Value → Shared → Prop) pos, Q v s → wpAny (model PG x.w) x.A (eval (.Name n pos) x.env) Q E s
structure LocX (x : Fx) (n : Str) : Prop where
  kind : x.env.scope.kind = .function
  loc : x.env.kindOf n = some .local
  dbg : (n == ("__debug__" : Str)) = false
  at' : x.env.locals = x.L
def CellR (x : Fx) (n : Str) (c : Addr) : Prop := ∀ G m s, St x G m s → ∀ (Q : Value → Shared → Prop) (E : Value → Shared → Prop) pos o v, (c, o) ∈ G.M ∨ (c, o) ∈ x.H → o.data = .cell (some v) → Q v s → wpAny (model PG x.w) x.A (eval (.Name n pos) x.env) Q E s
structure CellX (x : Fx) (n : Str) (c : Addr) : Prop where
  rd : CellR x n c
  wr : ∀ M J d m s, St x ⟨M, J, d⟩ m s → ∀ (Q : Unit → Shared → Prop) (E : Value → Shared → Prop) o v u g, At c o M g → o.data = .cell v → (∀ h' o', St x ⟨g o', J, d⟩ m { s with heap := h' } → o'.data = .cell (some u) → Q () { s with heap := h' }) → wpAny (model PG x.w) x.A (storeName x.env n u) Q E s
section
variable {x : Fx} {G : Gh} {M J : Led} {d : Drawn} {m : Loc} {T : Post} {E : Value → Shared → Prop} {e l r : Expr} {es : List Expr} {rest : List Stmt} {D : Addr} {K : Value → Gh → Prop} {KL : List Value → Gh → Prop} {KB : Bool → Gh → Prop} {n : Str} {b c : Bool} {p p1 p2 p3 pos : Pos}
theorem st_store {v : Value} {s : Shared} {Q : Unit → Shared → Prop} (c : LocX x n) (h : St x G m s) (k : ∀ h', St x G (fun y => if y = n then some v else m y) { s with heap := h', toks := s.toks + 1 } → Q () { s with heap := h', toks := s.toks + 1 }) : wpAny (model PG x.w) x.A (storeName x.env n v) Q E s := by
  have F := h.1
  refine wpAny_storeName_local c.loc (by rw [c.at']; exact F.ns) (fun h' hn' hs => ?_) (by rw [c.kind]; rfl)
  rw [c.at'] at hn' hs
  exact k h' ⟨F.set hn' hs, h.2.1.set hs, h.2.2⟩
theorem go_nil (h : T .next G m) : Go x G m [] T E := fun s hs => wpAny_pure ⟨G, m, hs, h⟩
def thenT (x : Fx) (rest : List Stmt) (T : Post) (E : Value → Shared → Prop) : Post := fun f G m => match f with | .next => Go x G m rest T E | f => T f G m
theorem go_then (h : Go x G m rest T E) : Go x G m [] (thenT x rest T E) E := go_nil h
theorem go_cons_of {st : Stmt} (h : ∀ s, St x G m s → wpAny (model PG x.w) x.A (exec st x.env) (fun f s' => ∃ G' m', St x G' m' s' ∧ thenT x rest T E f G' m') E s) : Go x G m (st :: rest) T E := fun s hs =>
  wpAny_execs_cons (wpAny_mono (h s hs) (fun f s' hq => by
    obtain ⟨G', m', h1, h2⟩ := hq
    cases f with
    | next => exact h2 s' h1
    | _ => exact ⟨G', m', h1, h2⟩) fun _ _ z => z)
theorem b_tf {P : Prop} (h : true = false) : P := by cases h
theorem b_ft {P : Prop} (h : false = true) : P := by cases h
def Br (b : Bool) (X Y : Prop) : Prop := (b = true → X) ∧ (b = false → Y)
theorem go_if {t o : List Stmt} (ht : TrG x G m e b) (h : Br b (Go x G m t (thenT x rest T E) E) (Go x G m o (thenT x rest T E) E)) : Go x G m (.If e t o p :: rest) T E := go_cons_of fun s hs =>
  wpAny_If (ht s hs _ _ fun s' hs' => by
    cases b
    · exact h.2 rfl _ hs'
    · exact h.1 rfl _ hs')
theorem go_ifC {t o : List Stmt} (ht : TrC x G m e fun b G' => Br b (Go x G' m t (thenT x rest T E) E) (Go x G' m o (thenT x rest T E) E)) : Go x G m (.If e t o p :: rest) T E := go_cons_of fun s hs =>
  wpAny_If (ht s hs _ _ fun b G' s' hk hs' => by
    cases b
    · exact hk.2 rfl _ hs'
    · exact hk.1 rfl _ hs')
theorem go_retP {v : Tok → Value} (he : EvG x G m e v) (k : ∀ t, T (.ret (v t)) G m) : Go x G m (.Return (some e) p :: rest) T E := go_cons_of fun s hs =>
  wpAny_Return_some (he s hs _ _ fun s' t hs' => (⟨G, m, hs', k t⟩ : ∃ G' m', St x G' m' s' ∧ T (.ret (v t)) G' m'))
theorem go_ret (he : EvC x G m e fun v G' => T (.ret v) G' m) : Go x G m (.Return (some e) p :: rest) T E := go_cons_of fun s hs =>
  wpAny_Return_some (he s hs _ _ fun v G' s' hk hs' => (⟨G', m, hs', hk⟩ : ∃ G' m', St x G' m' s' ∧ T (.ret v) G' m'))
theorem go_asgP {v : Tok → Value} (c : LocX x n) (he : EvG x G m e v) (hs : swapsWith e (some (.Name n p1)) p.line x.env = pure false)
    (hn : ∀ t, Go x G (fun y => if y = n then some (v t) else m y) rest T E) : Go x G m (.Assign [.Name n p1] e p :: rest) T E := go_cons_of fun s hs' =>
  wpAny_Assign_Name (he s hs' _ _ fun s' t hs2 => st_store c hs2 fun h' h9 => ⟨G, _, h9, hn t⟩) hs
theorem go_asg (c : LocX x n) (hs : swapsWith e (some (.Name n p1)) p.line x.env = pure false) (he : EvC x G m e fun v G' => Go x G' (fun y => if y = n then some v else m y) rest T E) : Go x G m (.Assign [.Name n p1] e p :: rest) T E := go_cons_of fun s hs' =>
  wpAny_Assign_Name (he s hs' _ _ fun v G' s' hk hs2 => st_store c hs2 fun h' h9 => ⟨G', _, h9, hk⟩) hs
theorem go_expr (hi : interactive x.env = false) (hs : swapsWith e none p.line x.env = pure false) (he : EvC x G m e fun _ G' => Go x G' m rest T E) : Go x G m (.Expr e p :: rest) T E := go_cons_of fun s hs' =>
  wpAny_Expr_any (he s hs' _ _ fun v G' s' hk hs2 => ⟨G', m, hs2, hk⟩) hi hs
theorem eg_loc {v : Value} (c : LocX x n) (hv : m n = some v) : EvG x G m (.Name n p) (fun _ => v) := fun s hs Q E q =>
  wpAny_Name (wpAny_loadName_local c.kind c.loc (by rw [c.at']; exact hs.1.ns) hv (q s 0 hs)) c.dbg
theorem eg_nm {v : Value} (c : NameIs x n v) : EvG x G m (.Name n p) (fun _ => v) := fun s hs Q E q => c _ _ _ hs _ _ _ (q s 0 hs)
theorem eg_cell {c : Addr} {o : Obj} {v : Value} (cx : CellR x n c) (hm : (c, o) ∈ G.M ∨ (c, o) ∈ x.H) (ho : o.data = .cell (some v)) : EvG x G m (.Name n p) (fun _ => v) := fun s hs Q E q => cx _ _ _ hs _ _ _ _ _ hm ho (q s 0 hs)
theorem eg_int {i : Int} {k : Nat} : EvG x G m (.Constant (.int i) k p) (fun t => .int i t) := fun s hs _ _ q => wpAny_Constant_int (q _ _ hs)
theorem eg_str {i : Str} {k : Nat} : EvG x G m (.Constant (.str i) k p) (fun t => .str i t) := fun s hs _ _ q => Constant_str (q _ _ hs)
theorem eg_bool {k : Nat} : EvG x G m (.Constant (.bool b) k p) (fun _ => .bool b) := fun s hs _ _ q => fun _ _ _ => q s 0 hs
theorem eg_sub {i : Int} {k j : Nat} {vs : List Value} {u : Value} (he : EvG x G m e (fun _ => .ref D)) (hm : HasT x G.J D vs) (hlo : -(2 ^ 63) ≤ i) (hhi : i < 2 ^ 63) (hj : seqIndex? i vs.length = some j) (hu : vs[j]? = some u) : EvG x G m (.Subscript e (.Constant (.int i) k p1) p2) (fun _ => u) := fun s hs Q E q =>
  Subscript_ (he s hs _ _ fun s' _ hs' => wpAny_Constant_int (item_tupleT (hm.tup (s := { s' with toks := s'.toks + 1 }) hs') hlo hhi hj hu (q _ 0 hs') (sub_intM _)))
theorem eg_sub0 {k : Nat} {vs : List Value} {u : Value} (he : EvG x G m e (fun _ => .ref D)) (hm : HasT x G.J D (u :: vs)) : EvG x G m (.Subscript e (.Constant (.int 0) k p1) p2) (fun _ => u) := eg_sub he hm (by decide) (by decide) (show seqIndex? 0 (vs.length + 1) = some 0 by simp [seqIndex?]) rfl
theorem eg_sub1 {k : Nat} {vs : List Value} {u0 u : Value} (he : EvG x G m e (fun _ => .ref D)) (hm : HasT x G.J D (u0 :: u :: vs)) : EvG x G m (.Subscript e (.Constant (.int 1) k p1) p2) (fun _ => u) := eg_sub he hm (by decide) (by decide) (show seqIndex? 1 (vs.length + 2) = some 1 by simp [seqIndex?]; omega) rfl
theorem eg_sub2 {k : Nat} {vs : List Value} {u0 u1 u : Value} (he : EvG x G m e (fun _ => .ref D)) (hm : HasT x G.J D (u0 :: u1 :: u :: vs)) : EvG x G m (.Subscript e (.Constant (.int 2) k p1) p2) (fun _ => u) := eg_sub he hm (by decide) (by decide) (show seqIndex? 2 (vs.length + 3) = some 2 by simp [seqIndex?]; omega) rfl
theorem tg_not (hx : TrG x G m e b) : TrG x G m (.UnaryOp .Not e p) (!b) := fun s hs _ _ q => isTrue_not (hx s hs _ _ q)
theorem tg_val (hx : EvG x G m e (fun _ => .bool b)) (he : isTrue e x.env (eval e x.env) = (do let v ← eval e x.env; standAt e.pos; holding [v] (truthy v))) : TrG x G m e b := fun s hs _ _ q => isTrue_plain (hx s hs _ _ fun s' _ hs' => wpAny_truthy_bool (q s' hs')) he
theorem tg_call {f : Expr} (hx : EvG x G m (.Call f es [] p) (fun _ => .bool b)) : TrG x G m (.Call f es [] p) b := tg_val hx (by with_unfolding_all rfl)
theorem tg_name (hx : EvG x G m (.Name n p) (fun _ => .bool b)) : TrG x G m (.Name n p) b := tg_val hx (by with_unfolding_all rfl)
def CmpG (x : Fx) (G : Gh) (op : CmpOp) (a b : Value) (c : Bool) : Prop := ∀ m s, St x G m s → ∀ (Q : Value → Shared → Prop) (E : Value → Shared → Prop), (∀ s', St x G m s' → Q (.bool c) s') → wpAny (model PG x.w) x.A (compareOp op a b) Q E s
theorem tg_cmp {op : CmpOp} {u v : Tok → Value} (hl : EvG x G m l u) (hr : EvG x G m r v) (hm : behindInMarks op r = false) (hc : ∀ t t', CmpG x G op (u t) (v t') c) : TrG x G m (.Compare l [op] [r] p) c := fun s hs _ _ q =>
  wpAny_isTrue_Compare1 (hl s hs _ _ fun s1 t h1 => hr s1 h1 _ _ fun s2 t2 h2 => hc t t2 m s2 h2 _ _ fun s3 h3 => wpAny_truthy_bool (q s3 h3)) hm
theorem eg_cmp {op : CmpOp} {u v : Tok → Value} (hl : EvG x G m l u) (hr : EvG x G m r v) (hm : behindInMarks op r = false) (hc : ∀ t t', CmpG x G op (u t) (v t') c) : EvG x G m (.Compare l [op] [r] p) (fun _ => .bool c) := fun s hs _ _ q =>
  wpAny_Compare1 (hl s hs _ _ fun s1 t h1 => hr s1 h1 _ _ fun s2 t2 h2 => hc t t2 m s2 h2 _ _ fun s3 h3 => q s3 0 h3) hm
theorem cmp_eqS {a b : Str} {t u : Tok} (h : (a == b) = c) : CmpG x G .Eq (.str a t) (.str b u) c := fun _ s hs _ _ q => eq_str (by rw [h]; exact q s hs)
theorem cmp_neS {a b : Str} {t u : Tok} (h : (!(a == b)) = c) : CmpG x G .NotEq (.str a t) (.str b u) c := fun _ s hs _ _ q => PyProof.Rows.ne_str (by rw [← h] at q; exact q s hs)
theorem cmp_eqI {a b : Int} {t u : Tok} (h : (a == b) = c) : CmpG x G .Eq (.int a t) (.int b u) c := fun _ s hs _ _ q => PyProof.Rows.eq_int (by rw [h]; exact q s hs)
theorem cmp_neI {a b : Int} {t u : Tok} (h : (!(a == b)) = c) : CmpG x G .NotEq (.int a t) (.int b u) c := fun _ s hs _ _ q => PyProof.Rows.ne_int (by rw [← h] at q; exact q s hs)
theorem cmp_ltI {a b : Int} {t u : Tok} (h : decide (a < b) = c) : CmpG x G .Lt (.int a t) (.int b u) c := fun _ s hs _ _ q => PyProof.Rows.lt_int (by rw [h]; exact q s hs)
theorem cmp_gtI {a b : Int} {t u : Tok} (h : decide (b < a) = c) : CmpG x G .Gt (.int a t) (.int b u) c := fun _ s hs _ _ q => PyProof.Rows.gt_int (by rw [← h] at q; exact q s hs)
end
end Mine
end
section
open PySem PySem.W PySem.Spec PySem.Calls PyProof.Rows PyProof.Rows.LCg
set_option maxRecDepth 100000
set_option maxHeartbeats 4000000
namespace Mine
theorem meets_enumT (l : Addr) (items : Array Value) (n : Nat) (dct : Option Addr) (sl : Array (Option Value)) :
    Meets (Builtin.«enumerate.__new__» ⟨[.type "enumerate", .ref l], []⟩) (fun _ R s => s.heap.get? l = some { cls := .type "tuple", dict := dct, data := .seq items n, slots := sl } ∧
      R (.ok (.ret (.ref (s.heap.push { cls := .type "tuple_iterator", data := .fields #[.ref l, .int 0 0] }).objs.size)))
        { s with heap := (s.heap.push { cls := .type "tuple_iterator", data := .fields #[.ref l, .int 0 0] }).push { cls := .type "enumerate", data := .fields #[.none, .bool false, .ref s.heap.objs.size, rawInt 0, .none, .none] } }) :=
  .of_wp fun prog w A R s h => by
    obtain ⟨hp, g, d, tk, os⟩ := s; obtain ⟨hl, h⟩ := h
    have hsub := sub_enumerate
    have hL : Heap.IsTuple (Shared.heap ⟨hp, g, d, tk, os⟩) l items := ⟨_, hl, rfl, n, rfl⟩
    wp_walk using AutoSeq1.wpAny_loadPart' hl
    refine wpAny_stack_any fun st => wpAny_pure ?_
    split
    · rename_i c _ _ _ _ _
      cases (c == Value.type "enumerate")
      · wp_walk using AutoSeq1.wpAny_loadPart' hl, wpAny_pyIter_tuple hL
        exact ⟨_, rfl, h⟩
      · wp_walk using AutoSeq1.wpAny_loadPart' hl, wpAny_pyIter_tuple hL
        exact ⟨_, rfl, h⟩
    · wp_walk using AutoSeq1.wpAny_loadPart' hl, wpAny_pyIter_tuple hL
      exact ⟨_, rfl, h⟩
section
variable {prog : Program} {w : World} {A : Around} {E : Value → Shared → Prop} {s : Shared}
theorem call_enumT {l : Addr} {items : Array Value} {Q : Value → Shared → Prop} (hL : s.heap.IsTuple l items)
    (h : ∀ h', IsEnum h' (s.heap.objs.size + 1) s.heap.objs.size 0 .none → h'.IsTupleIter s.heap.objs.size l 0 → h'.objs.size = s.heap.objs.size + 2 →
      (∀ b o, s.heap.get? b = some o → h'.get? b = some o) → Q (.ref (s.heap.objs.size + 1)) { s with heap := h' }) :
    wpAny (model prog w) A (call (.type "enumerate") [.ref l]) Q E s := by
  obtain ⟨⟨c, dct, dt, sl⟩, hl, hc, n, hd⟩ := hL
  replace hc : c = .type "tuple" := hc
  replace hd : dt = .seq items n := hd
  subst hc hd
  refine callType_new F.called_enumerate (by decide) (F.typeCall_enumerate_1 _) (F.newCall_enumerate_1 _) (fun obj => F.args_object_init_2 obj _) F.entry_enumerate_new
    (meets_enumT l items n dct sl) ⟨hl, ?_⟩
  generalize hH : s.heap.push { cls := .type "tuple_iterator", data := .fields #[.ref l, .int 0 0] } = H
  have hz : H.objs.size = s.heap.objs.size + 1 := by rw [← hH]; exact Heap.size_push ..
  have hit : H.IsTupleIter s.heap.objs.size l 0 := by rw [← hH]; exact ⟨_, Heap.get?_push_size _ rfl, rfl, rfl⟩
  have hkeep : ∀ b o, s.heap.get? b = some o → H.get? b = some o := fun b o x => by rw [← hH]; exact Heap.get?_push_of_some _ x
  have he : IsEnum (H.push { cls := .type "enumerate", data := .fields #[.none, .bool false, .ref s.heap.objs.size, rawInt 0, .none, .none] }) H.objs.size s.heap.objs.size 0 .none := Heap.get?_push_size _ rfl
  show _ ∧ _
  rw [hz] at he ⊢
  exact ⟨⟨_, he, rfl⟩, h _ he (hit.at fun o e => Heap.get?_push_of_some _ e) (by rw [Heap.size_push, hz]) fun b o x => Heap.get?_push_of_some _ (hkeep b o x)⟩
theorem nextT_item {it t : Addr} {i : Nat} {items} {x : Value} {Q : Value → Shared → Prop} (hit : s.heap.IsTupleIter it t i)
    (ht : s.heap.IsTuple t items) (hx : items[i]? = some x)
    (hQ : ∀ h', h'.IsTupleIter it t (i + 1) → Heap.SameBut it s.heap h' → Q x { s with heap := h' }) : wpAny (model prog w) A (Builtin.SmallTypes.nextOf (.ref it)) Q E s := by
  obtain ⟨o, ho, hc, hd⟩ := id hit
  obtain ⟨ol, hol, _, nl, hdl⟩ := ht
  unfold Builtin.SmallTypes.nextOf
  refine wpAny_bind (wpAny_callSpecial?_slot (name := Str.ofString "__next__") hit.typeIs F.slot_tuple_iterator_next
    (wpAny_call_entry F.slot_tuple_iterator_next hit.typeIs F.entry_tuple_iterator_next ?_ (F.args_tuple_iterator_next_1 _)))
  show wpAny _ _ (field (.ref it) 0 >>= _) _ _ s
  refine wpAny_bind (wpAny_field ho hd (x := .ref t) rfl ?_)
  show wpAny _ _ (if (Value.ref t == Value.none) = true then _ else _) _ _ s
  rw [if_neg (show ¬ ((Value.ref t == Value.none) = true) from Bool.false_ne_true)]
  show wpAny _ _ (field (.ref it) 1 >>= _) _ _ s
  refine wpAny_bind (wpAny_field ho hd (x := .int i 0) rfl ?_)
  show wpAny _ _ (seqItems? (.ref t) >>= _) _ _ s
  refine wpAny_bind (wpAny_seqItems hol hdl ?_)
  simp only [Int.toNat_natCast, hx]
  refine wpAny_bind (wpAny_setField ho hd (by simp) (wpAny_pure ⟨x, rfl, wpAny_pure (hQ _ ?_ (Heap.SameBut.update ..))⟩))
  exact ⟨_, Heap.get?_update_self _ ho (Obj.isFreed_of_fields (Obj.data_mapFields hd _)), (Obj.cls_mapFields ..).trans hc, by
    rw [Obj.data_mapFields hd]; simp [rawInt]⟩
theorem nextT_end {it t : Addr} {i : Nat} {items} {Q : Value → Shared → Prop} (hh : A.handled = none)
    (hit : s.heap.IsTupleIter it t i) (ht : s.heap.IsTuple t items) (hx : items[i]? = none)
    (hE : ∀ h' e, Heap.ExtBut it s.heap h' → (∃ o, h'.get? e = some o ∧ o.cls = .type "StopIteration") → E (.ref e) { s with heap := h' }) :
    wpAny (model prog w) A (Builtin.SmallTypes.nextOf (.ref it)) Q E s := by
  obtain ⟨o, ho, hc, hd⟩ := id hit
  obtain ⟨ol, hol, _, nl, hdl⟩ := ht
  unfold Builtin.SmallTypes.nextOf
  refine wpAny_bind (wpAny_callSpecial?_slot (name := Str.ofString "__next__") hit.typeIs F.slot_tuple_iterator_next
    (wpAny_call_entry F.slot_tuple_iterator_next hit.typeIs F.entry_tuple_iterator_next ?_ (F.args_tuple_iterator_next_1 _)))
  show wpAny _ _ (field (.ref it) 0 >>= _) _ _ s
  refine wpAny_bind (wpAny_field ho hd (x := .ref t) rfl ?_)
  show wpAny _ _ (if (Value.ref t == Value.none) = true then _ else _) _ _ s
  rw [if_neg (show ¬ ((Value.ref t == Value.none) = true) from Bool.false_ne_true)]
  show wpAny _ _ (field (.ref it) 1 >>= _) _ _ s
  refine wpAny_bind (wpAny_field ho hd (x := .int i 0) rfl ?_)
  show wpAny _ _ (seqItems? (.ref t) >>= _) _ _ s
  refine wpAny_bind (wpAny_seqItems hol hdl ?_)
  simp only [Int.toNat_natCast, hx]
  refine wpAny_bind (wpAny_rule (wpAny_bind (wpAny_setField ho hd (by simp) ?_)))
  show wpAny _ _ (newExc (.type "StopIteration") [] >>= _) _ _ _
  refine wpAny_bind ?_
  simp only [newExc, newTuple]
  refine wpAny_bind (wpAny_newObj_type ?_ (by size_fits))
  refine wpAny_bind (m := firstArgMember _ _) (wpAny_of_eq (a := Value.none) (by first | rfl | (simp only [firstArgMember]; rfl)) ?_)
  refine wpAny_newObj_type ?_ (by size_fits)
  simp only [raiseNew]
  refine wpAny_bind (wpAny_handled ?_)
  first | rw [show A.in1.handled = none from hh] | rw [hh]
  refine wpAny_bind (wpAny_pure (wpAny_throw ?_))
  exact hE _ _ (((Heap.SameBut.update ..).extBut.push _).push _) ⟨_, Heap.get?_push_size _ rfl, rfl⟩
end
theorem drawsT {prog : Program} {w : World} {A : Around} (hh : A.handled = none) (it l : Addr) (hne : l ≠ it) (items : Array Value) :
    Draws prog w A it [it, l] items.size (fun i v => items[i]? = some v) (fun i h => h.IsTupleIter it l i ∧ h.IsTuple l items) where
  live := fun _ _ st => let ⟨o, ho, _⟩ := st.1; ⟨o, ho⟩
  frame := fun _ _ _ st hk => ⟨st.1.at fun o e => hk it (by simp) o e, st.2.at fun o e => hk l (by simp) o e⟩
  item := fun i s Q E hi st hQ => by
    refine nextT_item st.1 st.2 (x := items[i]) (by simp [hi]) fun h' hit' hs' => ?_
    exact hQ _ h' s.toks (by simp [hi]) ⟨hit', st.2.extBut hs'.extBut hne⟩ hs'
  done := fun s Q E st hE => nextT_end hh st.1 st.2 (by simp) hE
section
variable {prog : Program} {w : World} {A : Around} {E : Value → Shared → Prop} {s : Shared} {h₀ : Heap} {L C : Addr} {m m₂ : Str → Option Value} {env : Env} {scope : Scope} {cl : List (Str × Addr)} {J : Led}
theorem bindT_two {x y : Str} {p q tp : Pos} {k : Nat} {T : Addr} {v u : Value} {Q : Unit → Shared → Prop} (hh : A.handled = none) (hkind : scope.kind = .function) (hx : scope.names.lookup x = some .local) (hy : scope.names.lookup y = some .local) (hxy : x ≠ y)
    (hn : s.heap.Ns C m₂) (ht : s.heap.IsTuple T #[v, u])
    (h : ∀ h₃ tk m₃, (∀ b o, b ≠ C → s.heap.get? b = some o → h₃.get? b = some o) → h₃.Ns C m₃ → m₃ x = some v → m₃ y = some u → Q () { s with heap := h₃, toks := tk }) :
    wpAny (model prog w) A (assign (.Tuple [.Name x p, .Name y q] k tp) (compEnvC scope cl C env) (.ref T)) Q E s := by
  have hp : ((compEnvC scope cl C env).scope.kind == .class || ((compEnvC scope cl C env).scope.kind == .module && (compEnvC scope cl C env).locals != (compEnvC scope cl C env).globals)) = false := by simp [compEnvC, relabel, hkind]
  refine assign_Tuple_tuple hh ht rfl rfl fun h5 he => ?_
  have he' : ∀ b o, s.heap.get? b = some o → h5.get? b = some o := fun b o e => he b o (Nat.ne_of_lt (Heap.lt_size e)) e
  refine assignInOrder_cons (wpAny_assign_Name (wpAny_storeName_local (lookup_relabel_local hx) (hn.at' fun o e => he' _ o e) (fun h₆ hn₆ hs₆ => ?_) hp))
  refine assignInOrder_cons (wpAny_assign_Name (wpAny_storeName_local (lookup_relabel_local hy) hn₆ (fun h₃ hn₃ hs₃ => ?_) hp))
  refine assignInOrder_nil ?_
  exact h h₃ _ _ (fun b o hne e => hs₃.extBut b o hne (hs₆.extBut b o hne (he' b o e))) hn₃ (by simp [hxy]) (by simp)
theorem bindT_nest {x y z : Str} {p q r tp tp2 : Pos} {k k2 : Nat} {T a : Addr} {v u1 u2 : Value} {Q : Unit → Shared → Prop} (hh : A.handled = none) (hkind : scope.kind = .function) (hx : scope.names.lookup x = some .local) (hy : scope.names.lookup y = some .local) (hz : scope.names.lookup z = some .local) (hxy : x ≠ y) (hxz : x ≠ z) (hyz : y ≠ z)
    (hn : s.heap.Ns C m₂) (ht : s.heap.IsTuple T #[v, .ref a]) (ha : s.heap.IsTuple a #[u1, u2]) (hac : a ≠ C)
    (h : ∀ h₃ tk m₃, (∀ b o, b ≠ C → s.heap.get? b = some o → h₃.get? b = some o) → h₃.Ns C m₃ → m₃ x = some v → m₃ y = some u1 → m₃ z = some u2 → Q () { s with heap := h₃, toks := tk }) :
    wpAny (model prog w) A (assign (.Tuple [.Name x p, .Tuple [.Name y q, .Name z r] k2 tp2] k tp) (compEnvC scope cl C env) (.ref T)) Q E s := by
  have hp : ((compEnvC scope cl C env).scope.kind == .class || ((compEnvC scope cl C env).scope.kind == .module && (compEnvC scope cl C env).locals != (compEnvC scope cl C env).globals)) = false := by simp [compEnvC, relabel, hkind]
  refine assign_Tuple_tuple hh ht rfl rfl fun h5 he => ?_
  have he' : ∀ b o, s.heap.get? b = some o → h5.get? b = some o := fun b o e => he b o (Nat.ne_of_lt (Heap.lt_size e)) e
  refine assignInOrder_cons (wpAny_assign_Name (wpAny_storeName_local (lookup_relabel_local hx) (hn.at' fun o e => he' _ o e) (fun h₆ hn₆ hs₆ => ?_) hp))
  refine assignInOrder_cons ?_
  show wpAny _ A (assign (.Tuple [.Name y q, .Name z r] k2 tp2) (compEnvC scope cl C env) (.ref a)) _ _ _
  have ha6 : h₆.IsTuple a #[u1, u2] := ha.at fun o e => hs₆.extBut a o hac (he' a o e)
  refine assign_Tuple_tuple hh ha6 rfl rfl fun h7 he7 => ?_
  have he7' : ∀ b o, h₆.get? b = some o → h7.get? b = some o := fun b o e => he7 b o (Nat.ne_of_lt (Heap.lt_size e)) e
  refine assignInOrder_cons (wpAny_assign_Name (wpAny_storeName_local (lookup_relabel_local hy) (hn₆.at' fun o e => he7' _ o e) (fun h₈ hn₈ hs₈ => ?_) hp))
  refine assignInOrder_cons (wpAny_assign_Name (wpAny_storeName_local (lookup_relabel_local hz) hn₈ (fun h₃ hn₃ hs₃ => ?_) hp))
  refine assignInOrder_nil (assignInOrder_nil ?_)
  exact h h₃ _ _ (fun b o hne e => hs₃.extBut b o hne (hs₈.extBut b o hne (he7' b o (hs₆.extBut b o hne (he' b o e))))) hn₃ (by simp [hxy, hxz]) (by simp [hyz]) (by simp)
def Off4 (e I C D : Addr) (J : Led) : Prop := ∀ p ∈ J, (@Ne Nat p.1 e) ∧ (@Ne Nat p.1 I) ∧ (@Ne Nat p.1 C) ∧ (@Ne Nat p.1 D)
def EndG (h₀ : Heap) (L : Addr) (m : Str → Option Value) (s₂ : Shared) (e I C D : Addr) (oe oI : Obj) (rest : List Value → Led → Prop) : Shared → Prop := fun s' =>
  ∃ h' tk ys nw oC mC, s' = { s₂ with heap := h', toks := tk } ∧ Fr h₀ L h' m ∧ News h₀ L h' ((I, oI) :: (C, oC) :: (D, lst ys) :: (e, oe) :: nw) ∧ NsObj oC mC ∧ Off4 e I C D nw ∧ rest ys nw
theorem loop_em {R : Result → Shared → Prop} {elt tg : Expr} {iter : Expr} {rest : List Comprehension} {scope : Scope} {pos : Pos} {it acc : Value} {env : Env} {emit : Sem Unit} (I : Nat → Shared → Prop)
    (hct : compTurn (.ListComp elt (⟨tg, iter, [], 0⟩ :: rest) scope pos) 0 it acc env = (standAt iter.pos >>= fun _ => pyNext it >>= fun r => match r with
      | none => pure (.done .next)
      | some v => letOwnedTupleGo tg it v >>= fun _ => assign tg env v >>= fun _ => emit >>= fun _ => again (.compLoop (.ListComp elt (⟨tg, iter, [], 0⟩ :: rest) scope pos) 0 it acc env)))
    (turn : ∀ n s, I n s → wpAny (model prog w) A (pyNext it) (fun r s₁ => match r with
      | none => R (.ok .next) s₁
      | some v => wpAny (model prog w) A (letOwnedTupleGo tg it v) (fun _ s₁' => wpAny (model prog w) A (assign tg env v) (fun _ s₂ =>
          wpAny (model prog w) A emit (fun _ s₅ => ∃ m, m < n ∧ I m s₅) (notedBy (model prog w) A env fun e s' => R (.error e) s') s₂) (notedBy (model prog w) A env fun e s' => R (.error e) s') s₁') (notedBy (model prog w) A env fun e s' => R (.error e) s') s₁) (notedBy (model prog w) A env fun e s' => R (.error e) s') s)
    (n : Nat) (h : I n s) : codeAny (model prog w) A (.compLoop (.ListComp elt (⟨tg, iter, [], 0⟩ :: rest) scope pos) 0 it acc env) R s := by
  refine codeAny_loop rfl I (fun n s hI => ?_) n h
  show wpAny _ A ((compTurn (.ListComp elt (⟨tg, iter, [], 0⟩ :: rest) scope pos) 0 it acc env).onRaise (fun x => do noteFrame x env; theTreesLotGoes x)) _ _ s
  refine wpAny_noted ?_
  rw [hct]
  refine wpAny_bind (wpAny_standAt (wpAny_bind (wpAny_mono (turn n s hI) (fun r s₁ h₁ => ?_) fun _ _ h' => h')))
  cases r with
  | none => exact wpAny_pure h₁
  | some v =>
    refine wpAny_bind (wpAny_mono h₁ (fun _ s₁' h₁' => ?_) fun _ _ h' => h')
    refine wpAny_bind (wpAny_mono h₁' (fun _ s₂ h₂ => wpAny_bind (wpAny_mono h₂ (fun _ s₅ h₅ => wpAny_pure ⟨rfl, h₅⟩) fun _ _ h' => h')) fun _ _ h' => h')
def EnI (s₂ : Shared) (h₀ : Heap) (L I C D e : Addr) (m : Str → Option Value) (n : Nat) (St : Nat → Heap → Prop) (Inv : Nat → List Value → Led → Prop) (k : Nat) (s' : Shared) : Prop :=
  ∃ h' tk i ys m' nw
  , s' = { s₂ with heap := h', toks := tk } ∧ i ≤ n ∧ k = n + 1 - i ∧ ((∃ old, IsEnum h' e I i old) ∧ St i h') ∧ Fr h₀ L h' m ∧ h'.Ns C m' ∧ News h₀ L h' ((D, lst ys) :: nw) ∧ Off4 e I C D nw ∧ Inv i ys nw
theorem enum_block {elt iter : Expr} {elts : List Expr} {k : Nat} {tp : Pos} {rest : List Comprehension} {pos : Pos} {s₂ : Shared} {e I ax : Addr} {osrc : Obj} {n : Nat} {P : Nat → Value → Prop} {St : Nat → Heap → Prop} {news : Led} {RR : Value → Addr → Result → Shared → Prop} {emit : Value → Env → Sem Unit} (Inv : Nat → List Value → Led → Prop)
    (hct : ∀ it acc env, compTurn (.ListComp elt (⟨.Tuple elts k tp, iter, [], 0⟩ :: rest) scope pos) 0 it acc env = (standAt iter.pos >>= fun _ => pyNext it >>= fun r => match r with
      | none => pure (.done .next)
      | some v => letOwnedTupleGo (.Tuple elts k tp) it v >>= fun _ => assign (.Tuple elts k tp) env v >>= fun _ => emit acc env >>= fun _ => again (.compLoop (.ListComp elt (⟨.Tuple elts k tp, iter, [], 0⟩ :: rest) scope pos) 0 it acc env)))
    (Dr : Draws prog w A.in1 I [I, ax] n P St) (hei : e ≠ I) (hea : e ≠ ax) (hIa : I ≠ ax)
    (hcell : ∀ y ∈ scope.names, y.2 ≠ .cell) (hkind : scope.kind = .function) (hst : St 0 s₂.heap) (he₀ : IsEnum s₂.heap e I 0 .none) (hal : ax < s₂.heap.objs.size)
    (F : Fr h₀ L s₂.heap m) (N : News h₀ L s₂.heap news) (hIL : L ≠ I) (heL : L ≠ e) (hI₀ : h₀.get? I = none) (hE₀ : h₀.get? e = none) (off : ∀ p ∈ news, p.1 ≠ I ∧ p.1 ≠ e)
    (hinv : Inv 0 [] news) (hsrc : ∀ i ys nw, Inv i ys nw → (ax, osrc) ∈ nw)
    (turn : ∀ i x ys nw, i < n → P i x → Inv i ys nw → ∀ oe oI C oC D T t h tk mC (E' : Value → Shared → Prop), NsObj oC mC → Fr h₀ L h m → News h₀ L h ((I, oI) :: (C, oC) :: (D, lst ys) :: (e, oe) :: nw) → Off4 e I C D nw → (@Ne Nat I C) → (@Ne Nat I D) → (@Ne Nat C D) → (@Ne Nat e I) → (@Ne Nat e C) → (@Ne Nat e D) →
      h.IsTuple T #[.int (i : Int) t, x] → wpAny (model prog w) A (assign (.Tuple elts k tp) (compEnvC scope cl C env) (.ref T)) (fun _ s₃ => wpAny (model prog w) A (emit (.ref D) (compEnvC scope cl C env)) (fun _ => EndG h₀ L m s₂ e I C D oe oI (fun ys' nw' => Inv (i + 1) ys' nw')) E' s₃) E' { s₂ with heap := h, toks := tk })
    (hRR : ∀ D C h tk m' ys news', Fr h₀ L h m → News h₀ L h ((D, lst ys) :: news') → Off1 D news' → h.Ns C m' → h₀.get? C = none → h₀.get? D = none → C ≠ L → D ≠ L → C ≠ D → (∀ p ∈ news', p.1 ≠ C) → Inv n ys news' → RR (.ref D) C (.ok .next) { s₂ with heap := h, toks := tk }) :
    wpAny (model prog w) A (newList []) (fun acc s₃ => wpAny (model prog w) A (newFunctionEnv scope env.globals cl [] env.qual none .none (some env)) (fun cenv s₄ =>
      codeAny (model prog w) A (.compStart (.ListComp elt (⟨.Tuple elts k tp, iter, [], 0⟩ :: rest) scope pos) 0 (.ref e) acc { cenv with scope := relabel scope env }) (RR acc cenv.locals) s₄) E s₃) E s₂ := by
  have W := WalksT.enumerateD Dr e hei (fun hm => by
    rcases List.mem_cons.mp hm with h | hm
    · exact hei h
    · exact hea (List.mem_singleton.mp hm)) (.head _)
  refine wpAny_newObj_type (wpAny_newFunctionEnv hcell (by intro y hy; simp at hy) (fun h₁ hns₁ hsb₁ => ?_) hkind)
  dsimp only at hns₁ hsb₁ ⊢
  have helt : e < s₂.heap.objs.size := Heap.lt_size he₀
  have hIlt : I < s₂.heap.objs.size := by obtain ⟨_, y⟩ := Dr.live _ _ hst; exact Heap.lt_size y
  generalize eH : s₂.heap.push { cls := .type "list", dict := none, data := .seq ([] : List Value).toArray } = H2 at hns₁ hsb₁ ⊢
  generalize eD : s₂.heap.objs.size = D at *
  generalize eC : H2.objs.size = C at *
  have hC : C = D + 1 := by rw [← eC, ← eH, Heap.size_push, eD]
  have hDC : D ≠ C := by rw [hC]; exact Nat.ne_of_lt (Nat.lt_succ_self _)
  have ltD : ∀ b o, s₂.heap.get? b = some o → b < D := fun b o e => eD ▸ Heap.lt_size e
  have nD : ∀ b, b < D → b ≠ D ∧ b ≠ C := fun b hb => ⟨Nat.ne_of_lt hb, by rw [hC]; exact Nat.ne_of_lt (Nat.lt_succ_of_lt hb)⟩
  have fresh₀ : ∀ a, D ≤ a → h₀.get? a = none := fun a ha => by
    cases e : h₀.get? a with
    | none => rfl
    | some o => exact absurd (ltD _ _ (F.keep a o e)) (Nat.not_lt.mpr ha)
  have hD₀ := fresh₀ D (Nat.le_refl _)
  have hC₀ := fresh₀ C (by rw [hC]; exact Nat.le_succ _)
  have old : ∀ b o, s₂.heap.get? b = some o → h₁.get? b = some o := fun b o e => hsb₁.extBut b o (nD b (ltD b o e)).2 (Heap.get?_push_of_some _ (eH ▸ Heap.get?_push_of_some _ e))
  have hL := nD L (eD ▸ F.ns.lt)
  have hI := nD I hIlt
  have hE := nD e helt
  have hax := nD ax hal
  have hacc : h₁.get? D = some (lst []) := hsb₁.extBut _ _ hDC (Heap.get?_push_of_some _ (eH ▸ eD ▸ Heap.get?_push_size _ rfl))
  have off₀ : Off4 e I C D news := fun p hp => ⟨(off p hp).2, (off p hp).1, (nD _ (ltD _ _ (N p hp).1)).2, (nD _ (ltD _ _ (N p hp).1)).1⟩
  have butE : ∀ {hA hB : Heap} {l : Led}, News h₀ L hA l → (∀ b o, b ∉ [e, I] → hA.get? b = some o → hB.get? b = some o) → (∀ p ∈ l, p.1 ≠ e ∧ p.1 ≠ I) → News h₀ L hB l := fun N k hl p hp => ⟨k _ _ (by simp [(hl p hp).1, (hl p hp).2]) (N p hp).1, (N p hp).2⟩
  have frE : ∀ {hA hB : Heap}, Fr h₀ L hA m → (∀ b o, b ∉ [e, I] → hA.get? b = some o → hB.get? b = some o) → Fr h₀ L hB m := fun F k => ⟨F.ns.at' fun o x => k L o (by simp [hIL, heL]) x, fun b o x => k b o (by
      intro hb
      rcases List.mem_cons.mp hb with rfl | hb
      · rw [hE₀] at x; cases x
      · rw [List.mem_singleton.mp hb, hI₀] at x; cases x) (F.keep b o x), F.above⟩
  have loop : ∀ s₃ : Shared, s₃ = { s₂ with heap := h₁, toks := s₂.toks + ([] : List (Str × Value)).length } →
      codeAny (model prog w) A (.compLoop (.ListComp elt (⟨.Tuple elts k tp, iter, [], 0⟩ :: rest) scope pos) 0 (.ref e) (.ref D) (compEnvC scope cl C env)) (RR (.ref D) C) s₃ := by
    rintro s₃ rfl
    refine loop_em (emit := emit (.ref D) (compEnvC scope cl C env)) (EnI s₂ h₀ L I C D e m n St Inv) (hct _ _ _) ?_ (n + 1)
      ⟨h₁, _, 0, [], _, news, rfl, Nat.zero_le _, rfl, W.frame 0 _ _ ⟨⟨_, he₀⟩, hst⟩ fun b _ o e => old b o e, F.keeps old, hns₁, fun p hp => ?_, off₀, hinv⟩
    · rintro k s' ⟨h', tk, i, ys, m', nw, rfl, hi, rfl, hst', F', hn', N', off', hv'⟩
      by_cases hlt : i < n
      · refine W.item i _ _ _ hlt hst' fun T vals h₂ tk₂ hPv hTf hT₂ hmid hk₂ => ?_
        obtain ⟨t, x, hPx, rfl⟩ := hPv
        have hNe : ∀ p ∈ (D, lst ys) :: nw, p.1 ≠ e ∧ p.1 ≠ I := fun p hp => by
          rcases List.mem_cons.mp hp with rfl | hp
          · exact ⟨Ne.symm hE.1, Ne.symm hI.1⟩
          · exact ⟨(off' p hp).1, (off' p hp).2.1⟩
        refine W.go _ _ _ i T _ _ _ hmid fun h₃ hst₃ hk₃ => ?_
        have N₃ : News h₀ L h₃ ((D, lst ys) :: nw) := butE (butE N' hk₂ hNe) hk₃ hNe
        have F₃ : Fr h₀ L h₃ m := frE (frE F' hk₂) hk₃
        have hCe : C ∉ [e, I] := by simp [Ne.symm hE.2, Ne.symm hI.2]
        have hn₃ : h₃.Ns C m' := (hn'.at' fun o x => hk₂ C o hCe x).at' fun o x => hk₃ C o hCe x
        have hT₃ : h₃.IsTuple T #[.int (i : Int) t, x] := hT₂.at fun o y => hk₃ T o (W.apart _ _ _ hmid) y
        obtain ⟨oC, heC, hoC⟩ := ns_obj hn₃
        obtain ⟨old₃, he₃⟩ := hst₃.1
        obtain ⟨oe, hoe⟩ : ∃ oe, h₃.get? e = some oe := ⟨_, he₃⟩
        obtain ⟨oI, heI⟩ := Dr.live _ _ hst₃.2
        have N₄ : News h₀ L h₃ ((I, oI) :: (C, oC) :: (D, lst ys) :: (e, oe) :: nw) := fun p hp => by
          rcases List.mem_cons.mp hp with rfl | hp
          · exact ⟨heI, Ne.symm hIL, hI₀⟩
          · rcases List.mem_cons.mp hp with rfl | hp
            · exact ⟨heC, Ne.symm hL.2, hC₀⟩
            · rcases List.mem_cons.mp hp with rfl | hp
              · exact N₃ _ (.head _)
              · rcases List.mem_cons.mp hp with rfl | hp
                · exact ⟨hoe, Ne.symm heL, hE₀⟩
                · exact N₃ p (.tail _ hp)
        have tn := turn i x ys nw hlt hPx hv' oe oI C oC D T t h₃ tk₂ m' (notedBy (model prog w) A (compEnvC scope cl C env) fun e s' => RR (.ref D) C (.error e) s') hoC F₃ N₄ off' hI.2 hI.1 (Ne.symm hDC) hei hE.2 hE.1 hT₃
        refine wpAny_mono tn (fun _ s₃ h₃' => wpAny_mono h₃' (fun _ s₅ h₅ => ?_) fun _ _ e => e) fun _ _ e => e
        · obtain ⟨h₅, tk₅, ys', nw', oC', mC', rfl, F₅, N₅, hoC', off₅, hv₅⟩ := h₅
          have zI := (N₅ (I, oI) (.head _)).1
          have zC := (N₅ (C, oC') (.tail _ (.head _))).1
          have zE := (N₅ (e, oe) (.tail _ (.tail _ (.tail _ (.head _))))).1
          refine ⟨n + 1 - (i + 1), by omega, h₅, tk₅, i + 1, ys', mC', nw', rfl, hlt, rfl, W.frame (i + 1) h₃ h₅ hst₃ fun b hb o x => ?_, F₅, hoC'.ns zC, fun p hp => ?_, off₅, hv₅⟩
          · rcases List.mem_cons.mp hb with rfl | hb
            · rw [hoe] at x; cases x; exact zE
            · rcases List.mem_cons.mp hb with rfl | hb
              · rw [heI] at x; cases x; exact zI
              · rw [List.mem_singleton.mp hb] at x ⊢
                have q1 := (N₃ (ax, osrc) (.tail _ (hsrc _ _ _ hv'))).1
                rw [q1] at x; cases x
                exact (N₅ _ (.tail _ (.tail _ (.tail _ (.tail _ (hsrc _ _ _ hv₅)))))).1
          · rcases List.mem_cons.mp hp with rfl | hp
            · exact N₅ _ (.tail _ (.tail _ (.head _)))
            · exact N₅ p (.tail _ (.tail _ (.tail _ (.tail _ hp))))
      · obtain rfl : i = n := Nat.le_antisymm hi (Nat.not_lt.mp hlt)
        refine W.done _ _ _ hst' fun h₂ tk₂ hk₂ => ?_
        have hCe : C ∉ [e, I] := by simp [Ne.symm hE.2, Ne.symm hI.2]
        refine hRR _ _ h₂ tk₂ _ ys nw (frE F' hk₂) (butE N' hk₂ fun p hp => ?_) (Off3.one (I := I) (C := C) (Off3.of fun p hp => ⟨(off' p hp).2.1, (off' p hp).2.2.1, (off' p hp).2.2.2⟩)) (hn'.at' fun o e => hk₂ _ o hCe e) hC₀ hD₀ (Ne.symm hL.2) (Ne.symm hL.1) (Ne.symm hDC) (fun p hp => (off' p hp).2.2.1) hv'
        rcases List.mem_cons.mp hp with rfl | hp
        · exact ⟨Ne.symm hE.1, Ne.symm hI.1⟩
        · exact ⟨(off' p hp).1, (off' p hp).2.1⟩
    · rcases List.mem_cons.mp hp with rfl | hp
      · exact ⟨hacc, Ne.symm hL.1, hD₀⟩
      · exact ⟨old _ _ (N p hp).1, (N p hp).2⟩
  exact codeAny_compStart_list (loop _ rfl) (W.self 0 _ _ _ (W.frame 0 _ _ ⟨⟨_, he₀⟩, hst⟩ fun b _ o e => old b o e) (loop _ rfl))
end
end Mine
end
section
open PySem PySem.W PySem.Spec PySem.Calls PyProof.Rows PyProof.Rows.LCg
set_option maxRecDepth 100000
set_option maxHeartbeats 4000000
namespace Mine
section
variable {prog : Program} {w : World} {A : Around} {E : Value → Shared → Prop} {s : Shared} {h₀ : Heap} {L C : Addr} {m m₂ : Str → Option Value} {env : Env} {scope : Scope} {cl : List (Str × Addr)} {J : Led}
def SrcE (prog : Program) (w : World) (A : Around) (h₀ : Heap) (L : Addr) (m : Str → Option Value) (env : Env) (scope : Scope) (cl : List (Str × Addr)) (tg : Expr) (emit : Value → Env → Sem Unit) (Fin : Shared → List Value → Led → Prop) (xv : Value) (s₁ : Shared) : Prop :=
  ∃ (e I ax : Addr) (osrc : Obj) (n : Nat) (P : Nat → Value → Prop) (St : Nat → Heap → Prop) (news : Led) (Inv : Nat → List Value → Led → Prop), xv = .ref e ∧ A.handled = none ∧ Draws prog w A.in1 I [I, ax] n P St ∧ e ≠ I ∧ e ≠ ax ∧ I ≠ ax ∧ St 0 s₁.heap ∧ IsEnum s₁.heap e I 0 .none ∧ ax < s₁.heap.objs.size ∧ Fr h₀ L s₁.heap m ∧ News h₀ L s₁.heap news ∧ L ≠ I ∧ L ≠ e ∧ h₀.get? I = none ∧ h₀.get? e = none ∧
    (∀ p ∈ news, p.1 ≠ I ∧ p.1 ≠ e) ∧ Inv 0 [] news ∧ (∀ i ys nw, Inv i ys nw → (ax, osrc) ∈ nw) ∧
    (∀ i x ys nw, i < n → P i x → Inv i ys nw → ∀ oe oI C oC D T t h tk mC (E' : Value → Shared → Prop), NsObj oC mC → Fr h₀ L h m → News h₀ L h ((I, oI) :: (C, oC) :: (D, lst ys) :: (e, oe) :: nw) → Off4 e I C D nw → (@Ne Nat I C) → (@Ne Nat I D) → (@Ne Nat C D) → (@Ne Nat e I) → (@Ne Nat e C) → (@Ne Nat e D) →
      h.IsTuple T #[.int (i : Int) t, x] → wpAny (model prog w) A (assign tg (compEnvC scope cl C env) (.ref T)) (fun _ s₃ => wpAny (model prog w) A (emit (.ref D) (compEnvC scope cl C env)) (fun _ => EndG h₀ L m s₁ e I C D oe oI (fun ys' nw' => Inv (i + 1) ys' nw')) E' s₃) E' { s₁ with heap := h, toks := tk }) ∧
    ∀ g ys nw, Inv n ys nw → Fin { s₁ with heap := g } ys nw
def RestE (prog : Program) (w : World) (A : Around) (h₀ : Heap) (L : Addr) (m : Str → Option Value) (env : Env) (scope : Scope) (cl : List (Str × Addr)) (s₂ : Shared) (kx px : Str) (elt : Expr) (src : Addr × Obj) (Fin : List Value → Led → Prop) : List Value → Nat → List Value → Led → Prop
  | [], _, ys, nw => Fin ys nw
  | x :: r, i, ys, nw => ∀ I oI C oC D e oe t mC h tk (E' : Value → Shared → Prop), NsObj oC mC → mC kx = some (.int (i : Int) t) → mC px = some x → Fr h₀ L h m → News h₀ L h ((I, oI) :: (C, oC) :: (D, lst ys) :: (e, oe) :: nw) → Off4 e I C D nw →
    (@Ne Nat I C) → (@Ne Nat I D) → (@Ne Nat C D) → (@Ne Nat e I) → (@Ne Nat e C) → (@Ne Nat e D) →
      wpAny (model prog w) A (eval elt (compEnvC scope cl C env)) (fun y s' => ∃ h' tk' nw', s' = { s₂ with heap := h', toks := tk' } ∧ Fr h₀ L h' m ∧ News h₀ L h' ((I, oI) :: (C, oC) :: (D, lst ys) :: (e, oe) :: nw') ∧ Off4 e I C D nw' ∧ src ∈ nw' ∧
        RestE prog w A h₀ L m env scope cl s₂ kx px elt src Fin r (i + 1) (ys ++ [y]) nw') E' { s₂ with heap := h, toks := tk }
def CompEndE (h₀ : Heap) (L : Addr) (m : Str → Option Value) (s₂ : Shared) (I : Addr) (oI : Obj) (C : Addr) (oC : Obj) (D : Addr) (oD : Obj) (e : Addr) (oe : Obj) (rest : Value → Led → Prop) (y : Value) (s' : Shared) : Prop :=
  ∃ h' tk' nw', s' = { s₂ with heap := h', toks := tk' } ∧ Fr h₀ L h' m ∧ News h₀ L h' ((I, oI) :: (C, oC) :: (D, oD) :: (e, oe) :: nw') ∧ Off4 e I C D nw' ∧ rest y nw'
theorem RestE.zero {s₂ : Shared} {kx px : Str} {elt : Expr} {src : Addr × Obj} {Fin : List Value → Led → Prop} {i : Nat} {ys : List Value} {nw : Led} (h : Fin ys nw) : RestE prog w A h₀ L m env scope cl s₂ kx px elt src Fin [] i ys nw := h
theorem RestE.succ {s₂ : Shared} {kx px : Str} {elt : Expr} {src : Addr × Obj} {Fin : List Value → Led → Prop} {x : Value} {r : List Value} {i : Nat} {ys : List Value} {nw : Led}
    (h : ∀ I oI C oC D e oe t mC h tk (E' : Value → Shared → Prop), NsObj oC mC → mC kx = some (.int (i : Int) t) → mC px = some x → Fr h₀ L h m → News h₀ L h ((I, oI) :: (C, oC) :: (D, lst ys) :: (e, oe) :: nw) → Off4 e I C D nw →
      (@Ne Nat I C) → (@Ne Nat I D) → (@Ne Nat C D) → (@Ne Nat e I) → (@Ne Nat e C) → (@Ne Nat e D) →
      wpAny (model prog w) A (eval elt (compEnvC scope cl C env)) (CompEndE h₀ L m s₂ I oI C oC D (lst ys) e oe (fun y nw' => src ∈ nw' ∧ RestE prog w A h₀ L m env scope cl s₂ kx px elt src Fin r (i + 1) (ys ++ [y]) nw')) E' { s₂ with heap := h, toks := tk }) :
    RestE prog w A h₀ L m env scope cl s₂ kx px elt src Fin (x :: r) i ys nw := by
  intro I oI C oC D e oe t mC hh tk E' a1 a2 a3 a4 a5 a6 a7 a8 a9 b1 b2 b3
  refine wpAny_mono (h I oI C oC D e oe t mC hh tk E' a1 a2 a3 a4 a5 a6 a7 a8 a9 b1 b2 b3) (fun y s' hs => ?_) fun _ _ e => e
  obtain ⟨h', tk', nw', e1, e2, e3, e4, e5, e6⟩ := hs
  exact ⟨h', tk', nw', e1, e2, e3, e4, e5, e6⟩
def emit1 (elt : Expr) : Value → Env → Sem Unit := fun acc env => eval elt env >>= fun x => call (.builtin "list.append") [acc, x] >>= fun _ => pure ()
theorem src_enumT {x y : Str} {p q tp : Pos} {k : Nat} {elt : Expr} {Fin : Shared → List Value → Led → Prop} {ax : Addr} {its : List Value} {n : Nat} {news : Led}
    (hh : A.handled = none) (F : Fr h₀ L s.heap m) (N : News h₀ L s.heap news) (hm : (ax, tupN its n) ∈ news) (hz : its.length ≤ 100000) (hkind : scope.kind = .function) (hx : scope.names.lookup x = some .local) (hy : scope.names.lookup y = some .local) (hxy : x ≠ y)
    (R : RestE prog w A h₀ L m env scope cl s x y elt (ax, tupN its n) (Fin s) its 0 [] news) (hfin : ∀ g ys nw, Fin s ys nw → Fin { s with heap := g } ys nw) :
    wpAny (model prog w) A (call (.type "enumerate") [.ref ax]) (SrcE prog w A h₀ L m env scope cl (.Tuple [.Name x p, .Name y q] k tp) (emit1 elt) Fin) E s := by
  have z := (N _ hm).1
  have hlt : ax < s.heap.objs.size := Heap.lt_size z
  have hl : s.heap.IsTuple ax its.toArray := ⟨_, z, rfl, n, rfl⟩
  have hsize : its.toArray.size = its.length := List.size_toArray
  refine call_enumT hl fun h' he hit hsz hk => ?_
  have hLs : L < s.heap.objs.size := F.ns.lt
  have hab : h₀.objs.size ≤ L := F.above
  have hI₀ : h₀.get? s.heap.objs.size = none := Heap.get?_none_of_le (Nat.le_trans hab (Nat.le_of_lt hLs))
  have hE₀ : h₀.get? (s.heap.objs.size + 1) = none := Heap.get?_none_of_le (Nat.le_trans hab (Nat.le_of_lt (Nat.lt_succ_of_lt hLs)))
  have D := drawsT (prog := prog) (w := w) (A := A.in1) hh s.heap.objs.size ax (Nat.ne_of_lt hlt) its.toArray
  rw [hsize] at D
  refine ⟨s.heap.objs.size + 1, s.heap.objs.size, ax, tupN its n, its.length, _, _, news, fun i ys nw => ys.length ≤ i ∧ (ax, tupN its n) ∈ nw ∧ RestE prog w A h₀ L m env scope cl s x y elt (ax, tupN its n) (Fin s) (its.drop i) i ys nw,
    rfl, hh, D, Nat.succ_ne_self _, Nat.ne_of_gt (Nat.lt_succ_of_lt hlt), Nat.ne_of_gt hlt, ⟨hit, hl.at fun o e => hk ax o e⟩, he, ?_, ⟨F.ns.keeps hk, fun b o e => hk b o (F.keep b o e), F.above⟩, fun p hp => ⟨hk _ _ (N p hp).1, (N p hp).2⟩,
    Nat.ne_of_lt hLs, Nat.ne_of_lt (Nat.lt_succ_of_lt hLs), hI₀, hE₀, fun p hp => ⟨Nat.ne_of_lt (Heap.lt_size (N p hp).1), Nat.ne_of_lt (Nat.lt_succ_of_lt (Heap.lt_size (N p hp).1))⟩, ⟨Nat.zero_le _, hm, R⟩, fun _ _ _ h => h.2.1, ?_, ?_⟩
  · show ax < h'.objs.size
    rw [hsz]; exact Nat.lt_succ_of_lt (Nat.lt_succ_of_lt hlt)
  · rintro i v ys nw hi hv ⟨hyl, hmn, R'⟩ oe oI C oC D T t h tk mC E' hoC F₂ N₂ off n1 n2 n3 n4 n5 n6 hT
    have e1 : its.drop i = v :: its.drop (i + 1) := by
      obtain ⟨hi, rfl⟩ := List.getElem?_eq_some_iff.mp (by simpa using hv : its[i]? = some v)
      exact List.drop_eq_getElem_cons hi
    rw [e1] at R'
    have zC := (N₂ (C, oC) (.tail _ (.head _)))
    refine bindT_two (A := A) hh hkind hx hy hxy (hoC.ns zC.1) hT fun h₃ tk₃ m₃ hg hn₃ hmx hmy => ?_
    obtain ⟨oC₃, heC, hoC₃⟩ := ns_obj hn₃
    have F₃ : Fr h₀ L h₃ m := ⟨F₂.ns.at' fun o e => hg L o (Ne.symm zC.2.1) e, fun b o e => hg b o (fun q => by rw [q, zC.2.2] at e; cases e) (F₂.keep b o e), F₂.above⟩
    have N₃ : News h₀ L h₃ ((s.heap.objs.size, oI) :: (C, oC₃) :: (D, lst ys) :: (s.heap.objs.size + 1, oe) :: nw) := fun p hp => by
      rcases List.mem_cons.mp hp with rfl | hp
      · exact ⟨hg _ _ n1 (N₂ _ (.head _)).1, (N₂ _ (.head _)).2⟩
      · rcases List.mem_cons.mp hp with rfl | hp
        · exact ⟨heC, zC.2⟩
        · have z := N₂ p (.tail _ (.tail _ hp))
          refine ⟨hg _ _ ?_ z.1, z.2⟩
          rcases List.mem_cons.mp hp with rfl | hp
          · exact Ne.symm n3
          · rcases List.mem_cons.mp hp with rfl | hp
            · exact n5
            · exact (off p hp).2.2.1
    refine wpAny_bind (wpAny_mono (R' _ oI C oC₃ D _ oe t m₃ h₃ tk₃ E' hoC₃ hmx hmy F₃ N₃ off n1 n2 n3 n4 n5 n6) (fun y s₅ h₅ => ?_) fun _ _ e => e)
    obtain ⟨h₅, tk₅, nw₅, rfl, F₅, N₅, off₅, hs₅, R₅⟩ := h₅
    have zD := N₅ (D, lst ys) (.tail _ (.tail _ (.head _)))
    refine wpAny_bind (append_at (hsz := by show ys.toArray.size ≤ sizeLine; rw [List.size_toArray]; exact fits (by omega)) zD.1 fun h₆ hs₆ hD₆ => wpAny_pure ?_)
    refine ⟨h₆, tk₅, ys ++ [y], nw₅, oC₃, m₃, rfl, F₅.change hs₆ zD.2.1 zD.2.2, fun p hp => ?_, hoC₃, off₅, ?_, hs₅, R₅⟩
    · rcases List.mem_cons.mp hp with rfl | hp
      · exact ⟨hs₆.extBut _ _ n2 (N₅ _ (.head _)).1, (N₅ _ (.head _)).2⟩
      · rcases List.mem_cons.mp hp with rfl | hp
        · exact ⟨hs₆.extBut _ _ n3 (N₅ _ (.tail _ (.head _))).1, (N₅ _ (.tail _ (.head _))).2⟩
        · rcases List.mem_cons.mp hp with rfl | hp
          · exact ⟨hD₆.trans (congrArg some (lst_snoc ys y)), zD.2⟩
          · have z := N₅ p (.tail _ (.tail _ (.tail _ hp)))
            refine ⟨hs₆.extBut _ _ ?_ z.1, z.2⟩
            rcases List.mem_cons.mp hp with rfl | hp
            · exact n6
            · exact (off₅ p hp).2.2.2
    · rw [List.length_append, List.length_singleton]; exact Nat.succ_le_succ hyl
  · rintro g ys nw ⟨_, _, h⟩
    rw [List.drop_length] at h
    exact hfin g ys nw h
theorem comp_enum {elt iter : Expr} {elts : List Expr} {k : Nat} {tp : Pos} {pos : Pos} {Q : Value → Shared → Prop} (_F₀ : Fr h₀ L s.heap m)
    (hclos : closureFor scope env = pure cl) (hcell : ∀ y ∈ scope.names, y.2 ≠ .cell) (hkind : scope.kind = .function) (hnames : ∀ y ∈ scope.names, y.2 = .local → scope.names.lookup y.1 = some .local)
    (h : wpAny (model prog w) A (eval iter env) (SrcE prog w A h₀ L m env scope cl (.Tuple elts k tp) (emit1 elt) (fun s₂ => FinE h₀ L m s₂ Q)) E s)
    (hs : ∀ x, foldedSetIterable iter env x = pure x) :
    wpAny (model prog w) A (eval (.ListComp elt [⟨.Tuple elts k tp, iter, [], 0⟩] scope pos) env) Q E s := by
  rw [eval_ListComp]
  refine wpAny_comprehension_free (use := none) rfl hs hclos hkind hnames (wpAny_mono h (fun xv s₁ S => ?_) fun _ _ e => e)
  obtain ⟨e, I, ax, osrc, n, P, St, news, Inv, rfl, hh, Dr, hei, hea, hIa, hst, he₀, hal, F, N, hIL, heL, hI₀, hE₀, off, hinv, hsrc, turn, fin⟩ := S
  have hT : s₁.TypeIs (.ref e) "enumerate" := ⟨_, he₀, rfl⟩
  refine wpAny_pyIter_enum he₀ ?_
  refine enum_block (emit := emit1 elt) Inv (fun _ _ _ => rfl) Dr hei hea hIa hcell hkind hst he₀ hal F N hIL heL hI₀ hE₀ off hinv hsrc turn fun D C h tk m' ys news' F' N' o1 hn hC₀ hD₀ hCL hDL hCD offC hv => ?_
  refine ⟨m', hn, fun h'' hs'' => fin s₁.heap ys news' hv D h'' tk (F'.change hs'' hCL hC₀) (fun p hp => ?_) o1⟩
  refine ⟨hs''.extBut _ _ ?_ (N' p hp).1, (N' p hp).2⟩
  rcases List.mem_cons.mp hp with rfl | hp
  · exact Ne.symm hCD
  · exact offC p hp
theorem my_append {D : Addr} {vs : List Value} {x : Value} {n : Nat} {g : Obj → Led} {Q : Value → Shared → Prop} (F : Fr h₀ L s.heap m) (N : News h₀ L s.heap J) (U : UpdF D (listOf vs.toArray n) J g) (hz : vs.length ≤ 100000)
    (h : ∀ h', Fr h₀ L h' m → News h₀ L h' (g (listOf (vs ++ [x]).toArray (n + 1))) → Q .none { s with heap := h' }) : wpAny (model prog w) A (call (.builtin "list.append") [.ref D, x]) Q E s :=
  append_K F N (upd_of U) (fun h' F' N' => h h' F' (by simpa using N')) (by rw [List.size_toArray]; exact fits hz)
theorem my_reverse {D : Addr} {vs : List Value} {n : Nat} {g : Obj → Led} {Q : Value → Shared → Prop} (F : Fr h₀ L s.heap m) (N : News h₀ L s.heap J) (U : UpdF D (listOf vs.toArray n) J g) (hz : vs.length ≤ 100000)
    (h : ∀ h', Fr h₀ L h' m → News h₀ L h' (g (listOf vs.reverse.toArray n)) → Q .none { s with heap := h' }) : wpAny (model prog w) A (call (.builtin "list.reverse") [.ref D]) Q E s :=
  kl_reverse F N rfl (upd_of U) (fits (by simpa using hz)) h
end
end Mine
end
section
open PySem PySem.W PySem.Spec PySem.Calls PyProof.Rows
set_option maxRecDepth 100000
namespace Mine
section
variable {x : Fx} {G : Gh} {M J : Led} {d : Drawn} {m : Loc} {T : Post} {E : Value → Shared → Prop} {e l r : Expr} {es : List Expr} {rest : List Stmt} {D : Addr} {K : Value → Gh → Prop} {KL : List Value → Gh → Prop} {KB : Bool → Gh → Prop} {n : Str} {b c : Bool} {p p1 p2 p3 pos : Pos}
def TgO (x : Fx) (G : Gh) (m : Loc) (op : BoolOp) (p : Pos) (es : List Expr) (b : Bool) : Prop :=
  ∀ whole s, St x G m s → ∀ (Q : Bool → Shared → Prop) (E : Value → Shared → Prop), (∀ s', St x G m s' → Q b s') → wpAny (model PG x.w) x.A (isTrue (.BoolOp op es p) x.env whole) Q E s
theorem tg_bo {op : BoolOp} (h : TgO x G m op p es b) : TrG x G m (.BoolOp op es p) b := fun s hs _ _ q => h _ s hs _ _ q
theorem tgo_or : TgO x G m .Or p [] false := fun _ s hs _ _ q => isTrue_or_nil (q s hs)
theorem tgo_os (h : TrG x G m e c) (hr : c = true ∧ b = true ∨ c = false ∧ TgO x G m .Or p es b) : TgO x G m .Or p (e :: es) b := fun _ s hs _ _ q => isTrue_or (h s hs _ _ fun s' hs' => by
  rcases hr with ⟨rfl, rfl⟩ | ⟨rfl, hr⟩
  · exact q s' hs'
  · exact hr _ s' hs' _ _ q)
theorem eg_bo1 {op : BoolOp} {v : Tok → Value} (h : EvG x G m e v) : EvG x G m (.BoolOp op [e] p) v := fun s hs _ _ q => BoolOp_one (h s hs _ _ q)
theorem eg_as (h : EvG x G m e (fun _ => .bool c)) (hr : c = false ∧ b = false ∨ c = true ∧ EvG x G m (.BoolOp .And (l :: es) p) (fun _ => .bool b)) : EvG x G m (.BoolOp .And (e :: l :: es) p) (fun _ => .bool b) := fun s hs _ _ q =>
  BoolOp_and (h s hs _ _ fun s' _ hs' => wpAny_truthy_bool (by
    rcases hr with ⟨rfl, rfl⟩ | ⟨rfl, hr⟩
    · exact q s' 0 hs'
    · exact hr s' hs' _ _ q))
theorem eg_andS (h : EvG x G m e (fun _ => .bool c)) (hr : EvG x G m (.BoolOp .And (l :: es) p) (fun _ => .bool b)) : EvG x G m (.BoolOp .And (e :: l :: es) p) (fun _ => .bool (c && b)) := fun s hs _ _ q =>
  BoolOp_and (h s hs _ _ fun s' _ hs' => wpAny_truthy_bool (by
    cases c
    · exact q s' 0 hs'
    · exact hr s' hs' _ _ q))
theorem eg_orS (h : EvG x G m e (fun _ => .bool c)) (hr : EvG x G m (.BoolOp .Or (l :: es) p) (fun _ => .bool b)) : EvG x G m (.BoolOp .Or (e :: l :: es) p) (fun _ => .bool (c || b)) := fun s hs _ _ q =>
  BoolOp_or (h s hs _ _ fun s' _ hs' => wpAny_truthy_bool (by
    cases c
    · exact hr s' hs' _ _ q
    · exact q s' 0 hs'))
theorem ec_pure {v : Tok → Value} (h : EvG x G m e v) (k : ∀ t, K (v t) G) : EvC x G m e K := fun s hs Q E q => h s hs _ _ fun s' t hs' => q _ _ s' (k t) hs'
theorem ec_bo1 {op : BoolOp} (h : EvC x G m e K) : EvC x G m (.BoolOp op [e] p) K := fun s hs _ _ k => BoolOp_one (h s hs _ _ k)
theorem ec_and (h : EvC x G m e fun v G' => ∃ c, v = .bool c ∧ Br c (EvC x G' m (.BoolOp .And (l :: es) p) K) (K (.bool false) G')) : EvC x G m (.BoolOp .And (e :: l :: es) p) K := fun s hs _ _ k =>
  BoolOp_and (h s hs _ _ fun v G' s' hk hs' => by
    obtain ⟨c, rfl, h1, h2⟩ := hk
    refine wpAny_truthy_bool ?_
    cases c
    · exact k _ _ _ (h2 rfl) hs'
    · exact h1 rfl _ hs' _ _ k)
theorem ec_andP (h : EvG x G m e (fun _ => .bool c)) (h1 : Br c (EvC x G m (.BoolOp .And (l :: es) p) K) (K (.bool false) G)) : EvC x G m (.BoolOp .And (e :: l :: es) p) K := ec_and (ec_pure h fun _ => ⟨c, rfl, h1⟩)
theorem ec_ifexp (ht : TrG x G m e b) (h : Br b (EvC x G m l K) (EvC x G m r K)) : EvC x G m (.IfExp e l r p) K := fun s hs _ _ k =>
  wpAny_IfExp (ht s hs _ _ fun s' hs' => by
    cases b
    · exact h.2 rfl s' hs' _ _ k
    · exact h.1 rfl s' hs' _ _ k)
theorem tc_pure (h : TrG x G m e b) (k : KB b G) : TrC x G m e KB := fun s hs Q E q => h s hs _ _ fun s' hs' => q _ _ s' k hs'
theorem tc_val (he : isTrue e x.env (eval e x.env) = (do let v ← eval e x.env; standAt e.pos; holding [v] (truthy v))) (h : EvC x G m e fun v G' => ∃ c, v = .bool c ∧ KB c G') : TrC x G m e KB := fun s hs _ _ k =>
  isTrue_plain (h s hs _ _ fun v G' s' hk hs' => by
    obtain ⟨c, rfl, hk⟩ := hk
    exact wpAny_truthy_bool (k _ _ _ hk hs')) he
theorem tc_call {f : Expr} (h : EvC x G m (.Call f es [] p) fun v G' => ∃ c, v = .bool c ∧ KB c G') : TrC x G m (.Call f es [] p) KB := tc_val (by with_unfolding_all rfl) h
theorem tc_not (h : TrC x G m e fun b G' => KB (!b) G') : TrC x G m (.UnaryOp .Not e p) KB := fun s hs _ _ k => isTrue_not (h s hs _ _ fun b G' s' hk hs' => k _ _ _ hk hs')
def TcO (x : Fx) (G : Gh) (m : Loc) (op : BoolOp) (p : Pos) (es : List Expr) (KB : Bool → Gh → Prop) : Prop :=
  ∀ whole s, St x G m s → ∀ (Q : Bool → Shared → Prop) (E : Value → Shared → Prop), (∀ b G' s', KB b G' → St x G' m s' → Q b s') → wpAny (model PG x.w) x.A (isTrue (.BoolOp op es p) x.env whole) Q E s
theorem tc_bo {op : BoolOp} (h : TcO x G m op p es KB) : TrC x G m (.BoolOp op es p) KB := fun s hs _ _ q => h _ s hs _ _ q
theorem tco_nil (k : KB false G) : TcO x G m .Or p [] KB := fun _ s hs _ _ q => isTrue_or_nil (q _ _ s k hs)
theorem tco_or (h : TrC x G m e fun b G' => Br b (KB true G') (TcO x G' m .Or p es KB)) : TcO x G m .Or p (e :: es) KB := fun w9 s hs _ _ q => isTrue_or (h s hs _ _ fun b G' s' hk hs' => by
  cases b
  · exact hk.2 rfl w9 s' hs' _ _ q
  · exact q _ _ s' (hk.1 rfl) hs')
theorem tc_cmp {op : CmpOp} (hm : behindInMarks op r = false) (h : EvC x G m l fun a G1 => EvC x G1 m r fun b' G2 => ∃ c, CmpG x G2 op a b' c ∧ KB c G2) : TrC x G m (.Compare l [op] [r] p) KB := fun s hs _ _ k =>
  wpAny_isTrue_Compare1 (h s hs _ _ fun a G1 s1 h1 hs1 => h1 s1 hs1 _ _ fun b' G2 s2 h2 hs2 => by
    obtain ⟨c, hc, hk⟩ := h2
    exact hc m s2 hs2 _ _ fun s3 hs3 => wpAny_truthy_bool (k _ _ _ hk hs3)) hm
theorem ec_cmp {op : CmpOp} (hm : behindInMarks op r = false) (h : EvC x G m l fun a G1 => EvC x G1 m r fun b' G2 => ∃ c, CmpG x G2 op a b' c ∧ K (.bool c) G2) : EvC x G m (.Compare l [op] [r] p) K := fun s hs _ _ k =>
  wpAny_Compare1 (h s hs _ _ fun a G1 s1 h1 hs1 => h1 s1 hs1 _ _ fun b' G2 s2 h2 hs2 => by
    obtain ⟨c, hc, hk⟩ := h2
    exact hc m s2 hs2 _ _ fun s3 hs3 => k _ _ _ hk hs3) hm
theorem star_name {es : List Expr} {env : Env} : starEach (.Name n p :: es) env = (false, eval (.Name n p) env) :: starEach es env := by rfl
theorem star_sub {a b : Expr} {es : List Expr} {env : Env} : starEach (.Subscript a b p :: es) env = (false, eval (.Subscript a b p) env) :: starEach es env := by rfl
theorem star_call {f : Expr} {as : List Expr} {es : List Expr} {env : Env} : starEach (.Call f as [] p :: es) env = (false, eval (.Call f as [] p) env) :: starEach es env := by rfl
theorem star_const {c : Const} {k : Nat} {es : List Expr} {env : Env} : starEach (.Constant c k p :: es) env = (false, eval (.Constant c k p) env) :: starEach es env := by rfl
theorem star_tup {as : List Expr} {k : Nat} {es : List Expr} {env : Env} : starEach (.Tuple as k p :: es) env = (false, eval (.Tuple as k p) env) :: starEach es env := by rfl
theorem star_list {as : List Expr} {es : List Expr} {env : Env} : starEach (.List as p :: es) env = (false, eval (.List as p) env) :: starEach es env := by rfl
theorem star_bin {a b : Expr} {op : Operator} {es : List Expr} {env : Env} : starEach (.BinOp a op b p :: es) env = (false, eval (.BinOp a op b p) env) :: starEach es env := by rfl
theorem star_comp {a : Expr} {gs : List Comprehension} {sc : Scope} {es : List Expr} {env : Env} : starEach (.ListComp a gs sc p :: es) env = (false, eval (.ListComp a gs sc p) env) :: starEach es env := by rfl
theorem star_ife {a b c : Expr} {es : List Expr} {env : Env} : starEach (.IfExp a b c p :: es) env = (false, eval (.IfExp a b c p) env) :: starEach es env := by rfl
theorem star_dict {ks : List (Option Expr)} {vs : List Expr} {es : List Expr} {env : Env} : starEach (.Dict ks vs p :: es) env = (false, eval (.Dict ks vs p) env) :: starEach es env := by rfl
theorem el_nil (k : KL [] G) : EvL x G m [] KL := fun _ s hs _ _ q => args_nil (q _ _ s k hs)
theorem el_cons (hs : starEach (e :: es) x.env = (false, eval e x.env) :: starEach es x.env) (h : EvC x G m e fun v G' => EvL x G' m es fun vs G'' => KL (v :: vs) G'') : EvL x G m (e :: es) KL :=
  fun _ s hs' _ _ q => args_cons (h s hs' _ _ fun v G' s' hk hs2 => hk _ s' hs2 _ _ fun vs G'' s'' hk2 hs3 => q _ _ _ hk2 hs3) hs
theorem el_consP {v : Tok → Value} (h : EvG x G m e v) (hs : starEach (e :: es) x.env = (false, eval e x.env) :: starEach es x.env) (k : ∀ t, EvL x G m es fun vs G'' => KL (v t :: vs) G'') : EvL x G m (e :: es) KL := el_cons hs (ec_pure h k)
theorem ec_callK {f : Addr} {Kf : Frag} (hg : NameIs x n (.ref f)) (X : Kf.In x.h₀) (hk : keepIn Kf (.ref f) = true) (he : starEach (e :: es) x.env = (false, eval e x.env) :: starEach es x.env) (hp : ∀ pos, (backTo pos (starEach es x.env)).any (·.1) = false)
    (h : EvL x G m (e :: es) fun vs G' => CallG x G' m (.ref f) vs K) : EvC x G m (.Call (.Name n p1) (e :: es) [] p2) K := fun s hs Q E q =>
  Call_ (hg _ _ _ hs _ _ _ (callWith_K X hk (h _ s hs _ _ fun vs G' s' hc hs' => ⟨X.keeps hs'.1.keep, hc s' hs' _ _ q⟩) he (hp _)))
theorem ec_callB {id : String} (hg : NameIs x n (.builtin id)) (he : starEach (e :: es) x.env = (false, eval e x.env) :: starEach es x.env) (hp : ∀ pos, (backTo pos (starEach es x.env)).any (·.1) = false)
    (h : EvL x G m (e :: es) fun vs G' => CallG x G' m (.builtin id) vs K) : EvC x G m (.Call (.Name n p1) (e :: es) [] p2) K := fun s hs Q E q =>
  Call_ (hg _ _ _ hs _ _ _ (PyProof.Rows.callWith_builtin1 (h _ s hs _ _ fun vs G' s' hc hs' => hc s' hs' _ _ q) he (hp _)))
theorem ec_callT {id : String} (hg : NameIs x n (.type id)) (he : starEach (e :: es) x.env = (false, eval e x.env) :: starEach es x.env) (hp : ∀ pos, (backTo pos (starEach es x.env)).any (·.1) = false)
    (h : EvL x G m (e :: es) fun vs G' => CallG x G' m (.type id) vs K) : EvC x G m (.Call (.Name n p1) (e :: es) [] p2) K := fun s hs Q E q =>
  Call_ (hg _ _ _ hs _ _ _ (PyProof.Rows.callWith_type1 (h _ s hs _ _ fun vs G' s' hc hs' => hc s' hs' _ _ q) he (hp _)))
def CallP (x : Fx) (G : Gh) (f : Value) (vs : List Value) (v : Tok → Value) : Prop := ∀ m s, St x G m s → ∀ (Q : Value → Shared → Prop) (E : Value → Shared → Prop), (∀ s' t, St x G m s' → Q (v t) s') → wpAny (model PG x.w) x.A (call f vs) Q E s
theorem eg_call1 {id : String} {u v : Tok → Value} (hg : NameIs x n (.builtin id)) (he : EvG x G m e u) (hs : starEach [e] x.env = (false, eval e x.env) :: starEach [] x.env) (hc : ∀ t, CallP x G (.builtin id) [u t] v) : EvG x G m (.Call (.Name n p1) [e] [] p2) v := fun s hs' Q E q =>
  Call_ (hg _ _ _ hs' _ _ _ (PyProof.Rows.callWith_builtin1 (args_cons (he s hs' _ _ fun s1 t h1 => args_nil (hc t m s1 h1 _ _ q)) hs) hs rfl))
theorem eg_call2 {id : String} {f : Expr} {u u' v : Tok → Value} (hg : NameIs x n (.builtin id)) (he : EvG x G m e u) (hf : EvG x G m f u') (hs : starEach [e, f] x.env = (false, eval e x.env) :: starEach [f] x.env) (hs2 : starEach [f] x.env = (false, eval f x.env) :: starEach [] x.env) (hp : ∀ pos, (backTo pos (starEach [f] x.env)).any (·.1) = false)
    (hc : ∀ t t', CallP x G (.builtin id) [u t, u' t'] v) : EvG x G m (.Call (.Name n p1) [e, f] [] p2) v := fun s hs' Q E q =>
  Call_ (hg _ _ _ hs' _ _ _ (PyProof.Rows.callWith_builtin1 (args_cons (he s hs' _ _ fun s1 t h1 => args_cons (hf s1 h1 _ _ fun s2 t2 h2 => args_nil (hc t t2 m s2 h2 _ _ q)) hs2) hs) hs (hp _)))
theorem cp_lenT {vs : List Value} {k : Nat} (hm : HasT x G.J D vs) (hk : vs.length = k) (hz : k ≤ 100000) : CallP x G (.builtin "len") [.ref D] (fun t => .int (k : Int) t) := fun m s hs _ _ q => by
  subst hk
  have e : vs.toArray.size = vs.length := List.size_toArray
  exact len_tuple (hm.tup hs) (by rw [e]; omega) (by rw [e]; exact q _ _ hs)
theorem cp_lenL {vs : List Value} {k j : Nat} (hm : (D, listOf vs.toArray j) ∈ G.M ∨ Has x G.J D (listOf vs.toArray j)) (hk : vs.length = k) (hz : k ≤ 100000) : CallP x G (.builtin "len") [.ref D] (fun t => .int (k : Int) t) := fun m s hs _ _ q => by
  subst hk
  have e : vs.toArray.size = vs.length := List.size_toArray
  exact call_len_list ⟨_, hm.elim (fun h => (hs.nm _ h).1) fun h => h.get hs, rfl, j, rfl⟩ (by rw [e]; omega) (by rw [e]; exact q _ _ hs)
theorem cp_isi_tt {vs : List Value} (hm : HasT x G.J D vs) : CallP x G (.builtin "isinstance") [.ref D, .type "tuple"] (fun _ => .bool true) := fun _ s hs _ _ q => by
  obtain ⟨n, hm⟩ := hm
  exact IsiPair.tuple_tuple (hm.get hs) rfl (q s 0 hs)
theorem cp_isi_ts {vs : List Value} (hm : HasT x G.J D vs) : CallP x G (.builtin "isinstance") [.ref D, .type "str"] (fun _ => .bool false) := fun _ s hs _ _ q => by
  obtain ⟨n, hm⟩ := hm
  exact IsiPair.tuple_str (hm.get hs) rfl (q _ 0 hs)
theorem cp_isi_lt {vs : List Value} {j : Nat} (hm : (D, listOf vs.toArray j) ∈ G.J) : CallP x G (.builtin "isinstance") [.ref D, .type "tuple"] (fun _ => .bool false) := fun _ s hs _ _ q => IsiPair.list_tuple (hs.nj _ hm).1 rfl (q _ 0 hs)
theorem cp_isi_ss {a : Str} {u : Tok} : CallP x G (.builtin "isinstance") [.str a u, .type "str"] (fun _ => .bool true) := fun _ s hs _ _ q => IsiPair.str_str (q s 0 hs)
theorem cp_isi_st {a : Str} {u : Tok} : CallP x G (.builtin "isinstance") [.str a u, .type "tuple"] (fun _ => .bool false) := fun _ s hs _ _ q => IsiPair.str_tuple (q _ 0 hs)
theorem cp_isi_is {a : Int} {u : Tok} : CallP x G (.builtin "isinstance") [.int a u, .type "str"] (fun _ => .bool false) := fun _ s hs _ _ q => IsiPair.int_str (q _ 0 hs)
theorem cp_isi_it {a : Int} {u : Tok} : CallP x G (.builtin "isinstance") [.int a u, .type "tuple"] (fun _ => .bool false) := fun _ s hs _ _ q => IsiPair.int_tuple (q _ 0 hs)
theorem ec_tup {k : Nat} (h : EvL x G m es fun vs G' => vs.length ≤ 90000 ∧ ∀ D, K (.ref D) ⟨G'.M, (D, tupO vs) :: G'.J, G'.d⟩) : EvC x G m (.Tuple es k pos) K := fun s hs Q E q =>
  Tuple_ (h _ s hs _ _ fun vs G' s' hk hs' => kup_newTuple hs'.1 hs'.2.1 (fun D h' F' N' hlt => q _ _ _ (hk.2 D) (st_newJ hs' F' N' hlt)) (fits (by have := hk.1; omega)))
theorem ec_listJ (h : EvL x G m es fun vs G' => vs.length ≤ 90000 ∧ ∀ D, K (.ref D) ⟨G'.M, (D, listOf vs.toArray 0) :: G'.J, G'.d⟩) : EvC x G m (.List es pos) K := fun s hs Q E q =>
  List_ (h _ s hs _ _ fun vs G' s' hk hs' => newList_K hs'.1 hs'.2.1 (fun D h' F' N' hlt => q _ _ _ (hk.2 D) (st_newJ hs' F' N' hlt)) (fits (by have := hk.1; omega)))
theorem ec_listM (h : EvL x G m es fun vs G' => vs.length ≤ 90000 ∧ ∀ D, K (.ref D) ⟨(D, listOf vs.toArray 0) :: G'.M, G'.J, G'.d⟩) : EvC x G m (.List es pos) K := fun s hs Q E q =>
  List_ (h _ s hs _ _ fun vs G' s' hk hs' => newList_K hs'.1 hs'.2.1 (fun D h' F' N' hlt => q _ _ _ (hk.2 D) (st_newM hs' F' N' hlt)) (fits (by have := hk.1; omega)))
def BinG (x : Fx) (G : Gh) (m : Loc) (op : Operator) (a b : Value) (K : Value → Gh → Prop) : Prop := ∀ s, St x G m s → ∀ (Q : Value → Shared → Prop) (E : Value → Shared → Prop), (∀ v G' s', K v G' → St x G' m s' → Q v s') → wpAny (model PG x.w) x.A (binaryOp op a b) Q E s
theorem ec_bin {op : Operator} (h : EvC x G m l fun a G1 => EvC x G1 m r fun b' G2 => BinG x G2 m op a b' K) : EvC x G m (.BinOp l op r p) K := fun s hs _ _ k =>
  wpAny_BinOp (h s hs _ _ fun a G1 s1 h1 hs1 => h1 s1 hs1 _ _ fun b' G2 s2 h2 hs2 => h2 s2 hs2 _ _ k)
theorem eg_add {a c : Int} {t u : Tok → Tok} (hl : EvG x G m l fun k => .int a (t k)) (hr : EvG x G m r fun k => .int c (u k)) : EvG x G m (.BinOp l .Add r p) (fun k => .int (a + c) k) := fun s hs _ _ q =>
  wpAny_BinOp (hl s hs _ _ fun s1 _ h1 => hr s1 h1 _ _ fun s2 _ h2 => PyProof.Rows.add_int (q _ _ h2))
theorem eg_minus {a c : Int} {t u : Tok → Tok} (hl : EvG x G m l fun k => .int a (t k)) (hr : EvG x G m r fun k => .int c (u k)) : EvG x G m (.BinOp l .Sub r p) (fun k => .int (a - c) k) := fun s hs _ _ q =>
  wpAny_BinOp (hl s hs _ _ fun s1 _ h1 => hr s1 h1 _ _ fun s2 _ h2 => PyProof.Rows.sub_int (q _ _ h2))
theorem eg_mod {a c : Int} {t u : Tok → Tok} (hl : EvG x G m l fun k => .int a (t k)) (hr : EvG x G m r fun k => .int c (u k)) (hc : c ≠ 0) : EvG x G m (.BinOp l .Mod r p) (fun k => .int (a.fmod c) k) := fun s hs _ _ q =>
  wpAny_BinOp (hl s hs _ _ fun s1 _ h1 => hr s1 h1 _ _ fun s2 _ h2 => PyProof.Rows.mod_int' hc (q _ _ h2))
theorem bin_tups {a c : Addr} {vs ws : List Value} (ha : Tup G.J a vs) (hc : Tup G.J c ws) (hz : vs.length + ws.length ≤ 90000) (k : ∀ D J', (∀ p ∈ G.J, p ∈ J') → Tup J' D (vs ++ ws) → K (.ref D) ⟨G.M, J', G.d⟩) : BinG x G m .Add (.ref a) (.ref c) K := fun s hs Q E q =>
  add_tuples hs.1 hs.2.1 (ha.has.tup hs) (hc.has.tup hs) (fun e => q _ _ _ (k c G.J (fun _ h => h) (by rw [e]; exact hc)) hs) (fun _ e => q _ _ _ (k a G.J (fun _ h => h) (by rw [e, List.append_nil]; exact ha)) hs)
    (fun _ _ h' F' N' => q _ _ _ (k _ _ (fun _ h => .tail _ h) Tup.head) (st_newJ (tk := s.toks) hs F' N' fun p hp => Heap.lt_size (hs.2.1 p hp).1)) (fits (by omega))
theorem bin_lists {a c : Addr} {vs ws : List Value} {i j : Nat} (ha : Has x G.J a (listOf vs.toArray i)) (hc : Has x G.J c (listOf ws.toArray j)) (hz : vs.length + ws.length ≤ 90000) (k : ∀ D, K (.ref D) ⟨G.M, (D, listOf (vs ++ ws).toArray 0) :: G.J, G.d⟩) : BinG x G m .Add (.ref a) (.ref c) K := fun s hs Q E q =>
  add_lists hs.1 hs.2.1 ⟨_, ha.get hs, rfl, i, rfl⟩ ⟨_, hc.get hs, rfl, j, rfl⟩ (fun h' F' N' => q _ _ _ (k _) (st_newJ (tk := s.toks) hs F' N' fun p hp => Heap.lt_size (hs.2.1 p hp).1)) (fits (by omega))
theorem eg_ifI {a c : Int} {t u : Tok → Tok} (ht : TrG x G m e b) (hl : EvG x G m l fun k => .int a (t k)) (hr : EvG x G m r fun k => .int c (u k)) : EvG x G m (.IfExp e l r p) (fun k => .int (cond b a c) (cond b (t k) (u k))) := fun s hs _ _ k =>
  wpAny_IfExp (ht s hs _ _ fun s' hs' => by
    cases b
    · exact hr s' hs' _ _ k
    · exact hl s' hs' _ _ k)
theorem ec_meth0 {o : Expr} {name : Str} {id : String} {vs : List Value} {k : Nat} {apos : Pos} {pl : Sem Bool} (he : EvG x G m o (fun _ => .ref D)) (hm : (D, listOf vs.toArray k) ∈ G.M) (hs : Slot "list" name id) (ht : typeOf (.builtin id) = pure (.type "method_descriptor"))
    (hv : eval ((o.Attribute name apos).Call [] [] pos) x.env = (do let ov ← eval o x.env; standAt apos.atName; let __x ← holding [ov] (getMethod ov name pl); match __x with | (f, first) => callWith pos f first (backTo pos (starEach [] x.env)) []))
    (h : CallG x G m (.builtin id) [.ref D] K) : EvC x G m ((o.Attribute name apos).Call [] [] pos) K := fun s hs' Q E q =>
  MethodCall_ (he s hs' _ _ fun s1 _ h1 => listMethod_K h1.nm hm hs ht (callWith_method0 (h s1 h1 _ _ q))) hv
theorem ec_meth1 {o : Expr} {name : Str} {id : String} {vs : List Value} {k : Nat} {apos : Pos} {pl : Sem Bool} (he : EvG x G m o (fun _ => .ref D)) (hm : (D, listOf vs.toArray k) ∈ G.M) (hs : Slot "list" name id) (ht : typeOf (.builtin id) = pure (.type "method_descriptor"))
    (hv : eval ((o.Attribute name apos).Call [e] [] pos) x.env = (do let ov ← eval o x.env; standAt apos.atName; let __x ← holding [ov] (getMethod ov name pl); match __x with | (f, first) => callWith pos f first (backTo pos (starEach [e] x.env)) []))
    (hs2 : starEach [e] x.env = (false, eval e x.env) :: starEach [] x.env)
    (h : EvC x G m e fun v G' => CallG x G' m (.builtin id) [.ref D, v] K) : EvC x G m ((o.Attribute name apos).Call [e] [] pos) K := fun s hs' Q E q =>
  MethodCall_ (he s hs' _ _ fun s1 _ h1 => listMethod_K h1.nm hm hs ht (callWith_method1 (args_cons (h s1 h1 _ _ fun v G' s' hc hs3 => args_nil (hc s' hs3 _ _ q)) hs2) hs2 rfl)) hv
theorem cg_append {v : Value} {vs : List Value} {k : Nat} {g : Obj → Led} (a : At D (listOf vs.toArray k) M g) (hz : vs.length ≤ 90000) (h : K .none ⟨g (listOf (vs ++ [v]).toArray (k + 1)), J, d⟩) : CallG x ⟨M, J, d⟩ m (.builtin "list.append") [.ref D, v] K := fun s hs Q E q =>
  my_append hs.1 hs.2.1 (a.upd hs.2.2.1) (by omega) fun h' F' N' => q _ _ _ h (st_upd (tk := s.toks) a hs F' N')
theorem cg_pop {v : Value} {vs : List Value} {k : Nat} {g : Obj → Led} (a : At D (listOf (vs ++ [v]).toArray k) M g) (hz : vs.length ≤ 90000) (h : K v ⟨g (listOf vs.toArray (k + 1)), J, d⟩) : CallG x ⟨M, J, d⟩ m (.builtin "list.pop") [.ref D] K := fun s hs Q E q =>
  my_pop hs.1 hs.2.1 (a.upd hs.2.2.1) (by omega) fun h' F' N' => q _ _ _ h (st_upd (tk := s.toks) a hs F' N')
theorem cg_reverse {vs : List Value} {k : Nat} {g : Obj → Led} (a : At D (listOf vs.toArray k) M g) (hz : vs.length ≤ 90000) (h : K .none ⟨g (listOf vs.reverse.toArray k), J, d⟩) : CallG x ⟨M, J, d⟩ m (.builtin "list.reverse") [.ref D] K := fun s hs Q E q =>
  my_reverse hs.1 hs.2.1 (a.upd hs.2.2.1) (by omega) fun h' F' N' => q _ _ _ h (st_upd (tk := s.toks) a hs F' N')
theorem cg_extT {c : Addr} {vs us : List Value} {k : Nat} {g : Obj → Led} (a : At D (listOf vs.toArray k) M g) (hc : Tup J c us) (hz : vs.length + us.length ≤ 90000) (h : ∀ k', K .none ⟨g (listOf (vs ++ us).toArray k'), J, d⟩) : CallG x ⟨M, J, d⟩ m (.builtin "list.extend") [.ref D, .ref c] K := fun s hs Q E q => by
  obtain ⟨n2, hc⟩ := hc
  exact my_extT hs.1 hs.2.1 (List.mem_append_right _ (List.mem_append_right _ hc)) (a.upd hs.2.2.1) (by omega) fun h' n' F' N' => q _ _ _ (h n') (st_upd (tk := s.toks) a hs F' N')
theorem cg_extL {c : Addr} {vs us : List Value} {k k2 : Nat} {g : Obj → Led} (a : At D (listOf vs.toArray k) M g) (hc : (c, listOf us.toArray k2) ∈ J) (hz : vs.length + us.length ≤ 90000) (h : ∀ k', K .none ⟨g (listOf (vs ++ us).toArray k'), J, d⟩) : CallG x ⟨M, J, d⟩ m (.builtin "list.extend") [.ref D, .ref c] K := fun s hs Q E q =>
  my_extL hs.1 hs.2.1 (List.mem_append_right _ (List.mem_append_right _ hc)) (a.upd hs.2.2.1) (by omega) fun h' n' F' N' => q _ _ _ (h n') (st_upd (tk := s.toks) a hs F' N')
theorem cg_tupleOf {c : Addr} {vs : List Value} {k : Nat} (hc : Has x G.J c (listOf vs.toArray k)) (hz : vs.length ≤ 10000) (h : ∀ D, K (.ref D) ⟨G.M, (D, tupO vs) :: G.J, G.d⟩) : CallG x G m (.type "tuple") [.ref c] K := fun s hs Q E q =>
  kde_tupleOf hs.1 hs.2.1 ⟨_, hc.get hs, rfl, k, rfl⟩ (by rw [List.size_toArray]; omega) (by simp) fun D h' F' N' hlt => q _ _ _ (h D) (st_newJ (tk := s.toks) hs F' N' hlt)
theorem cg_listOf {c : Addr} {vs : List Value} (hc : Tup G.J c vs) (hz : vs.length ≤ 10000) (h : ∀ D k, K (.ref D) ⟨G.M, (D, listOf vs.toArray k) :: G.J, G.d⟩) : CallG x G m (.type "list") [.ref c] K := fun s hs Q E q => by
  obtain ⟨n2, hc⟩ := hc
  exact kup_listOfT hs.1 hs.2.1 (List.mem_append_right _ (List.mem_append_right _ hc)) (by simp) (fun D c' h' F' N' hlt => q _ _ _ (h D c') (st_newJ (tk := s.toks) hs F' N' hlt)) (fits (by simp; omega))
theorem ec_slice1 {k : Nat} {p4 : Pos} {v0 : Value} {vs : List Value} (he : EvG x G m e (fun _ => .ref D)) (hm : HasT x G.J D (v0 :: vs)) (hz : vs.length ≤ 90000) (hg : ∀ r, letTemporaryGo e (.ref D) r = pure ()) (h : ∀ D', K (.ref D') ⟨G.M, (D', tupO vs) :: G.J, G.d⟩) :
    EvC x G m (.Subscript e (.Slice (some (.Constant (.int 1) k p1)) none none p2) p4) K := fun s hs Q E q =>
  Subscript_ (he s hs _ _ fun s1 _ h1 => wpAny_Slice (evalPart_some_step (wpAny_Constant_int (evalPart_none_step (evalPart_none_step
    (slice_tuple_from (s := { s1 with toks := s1.toks + 1 }) (a := 1) h1.1 h1.2.1 (hm.tup (s := { s1 with toks := s1.toks + 1 }) h1) (by omega) (by rw [List.size_toArray, List.length_cons]; omega)
      (fun h' F' N' => q _ _ _ (h _) (st_newJ (s := { s1 with toks := s1.toks + 1 }) (tk := s1.toks + 1) h1 F' (by simpa using N') fun p hp => Nat.lt_succ_of_lt (Heap.lt_size (h1.2.1 p hp).1))) (by with_unfolding_all rfl) hg (fits (by rw [List.size_toArray, List.length_cons]; omega))))))))
theorem eg_head {k : Nat} {p4 : Pos} {a : Str} {u : Tok → Tok} (he : EvG x G m e (fun t => .str a (u t))) (hz : a.length ≤ 1000) (hg : ∀ t r, letTemporaryGo e (.str a t) r = pure ()) : EvG x G m (.Subscript e (.Slice none (some (.Constant (.int 1) k p1)) none p2) p4) (fun t => .str (Txt.slice a none (some 1)) t) := fun s hs Q E q =>
  Subscript_ (he s hs _ _ fun s1 t h1 => wpAny_Slice (evalPart_none_step (evalPart_some_step (wpAny_Constant_int (evalPart_none_step
    (slice_strN_ns (s := { s1 with toks := s1.toks + 1 }) h1.1 h1.2.1 (fun h' t' k F' N' => q _ _ ⟨F', N', h1.2.2⟩) (by with_unfolding_all rfl) (hg _) (fits (by omega))))))))
theorem drop_J {v : List Value} {s : Shared} (h : St x ⟨G.M, (D, tupO v) :: G.J, G.d⟩ m s) : St x G m s := st_sub (x := x) (M := G.M) (J := (D, tupO v) :: G.J) (J' := G.J) (d := G.d) (fun _ h => .tail _ h) h
theorem tg_inS {a : Str} {u : Tok → Tok} {k : Nat} {ys : List Str} (hl : EvG x G m l (fun t => .str a (u t))) (hy : EvL x G m es fun vs G' => G' = G ∧ StrsAre vs ys ∧ vs.length ≤ 90000) (hm : behindInMarks .In (.Tuple es k p1) = false) (hc : (ys.any fun y => y == a) = c) : TrG x G m (.Compare l [.In] [.Tuple es k p1] p) c := fun s hs _ _ q =>
  wpAny_isTrue_Compare1 (hl s hs _ _ fun s1 t h1 => Tuple_ (hy _ s1 h1 _ _ fun vs G' s2 hk hs2 => by
    obtain ⟨rfl, hy, hz⟩ := hk
    exact kup_newTuple hs2.1 hs2.2.1 (fun D h' F' N' hlt => in_tuple_strs (isTup_of N' (.head _)) (by simpa using hy) (wpAny_truthy_bool (by rw [hc]; exact q _ (drop_J (st_newJ hs2 F' N' hlt))))) (fits (by omega)))) hm
theorem go_weak {G' : Gh} {ss : List Stmt} (hw : Wk G G') (h : Go x G' m ss T E) : Go x G m ss T E := fun s hs => h s (hw.st hs)
theorem ec_weak {G' : Gh} (hw : Wk G G') (h : EvC x G' m e K) : EvC x G m e K := fun s hs => h s (hw.st hs)
theorem Wk.ofJ {J' : Led} (h : ∀ p ∈ J', p ∈ J) : Wk ⟨M, J, d⟩ ⟨M, J', d⟩ := ⟨rfl, [], rfl, h⟩
theorem Wk.drop {q : Addr × Obj} : Wk ⟨q :: M, J, d⟩ ⟨M, J, d⟩ := ⟨rfl, [q], rfl, fun _ h => .tail _ h⟩
end
end Mine
end
section
open PySem PySem.W PySem.Spec PySem.Calls PyProof.Rows
set_option maxRecDepth 100000
namespace Mine
structure Ok (x : Fx) (d u : Nat) : Prop where
  B : Below x.A₀ x.base x.outer x.h₀
  KB : (Mine.hd.heap_1 x.w.params).In x.base
  TB : ∃ p loose mean mg mb, Top p loose mean mg mb x.base
  ks : x.cs.kind = .function
  dp : x.dp ≤ d
  un : x.un ≤ u
theorem Ok.K {x : Fx} {d u : Nat} (ok : Ok x d u) : (Mine.hd.heap_1 x.w.params).In x.h₀ := ok.KB.keeps ok.B.stays
theorem Ok.T {x : Fx} {d u : Nat} (ok : Ok x d u) : ∃ p loose mean mg mb, Top p loose mean mg mb x.h₀ := by
  obtain ⟨p, loose, mean, mg, mb, T⟩ := ok.TB
  exact ⟨p, loose, mean, mg, mb, T.keeps ok.B.stays⟩
theorem Ok.units {x : Fx} {d u : Nat} (ok : Ok x d u) : x.A.units ≤ u := ok.un
theorem rmD {d a b : Nat} (h : d ≤ a) (e : Nat.ble (a + 1) b = true) : d + 1 ≤ b := Nat.le_trans (Nat.succ_le_succ h) (Nat.le_of_ble_eq_true e)
theorem rmU {d a b : Nat} (h : d ≤ a) (e : Nat.ble (a + 3) b = true) : d + 3 ≤ b := Nat.le_trans (Nat.add_le_add_right h 3) (Nat.le_of_ble_eq_true e)
theorem rmL {d a : Nat} (h : d ≤ a) (e : Nat.ble (a + 1) 1000 = true) : d < recursionLimit := Nat.le_trans (Nat.succ_le_succ h) (Nat.le_of_ble_eq_true e)
structure FnE (env : Env) (n : Str) (k : NameKind) : Prop where
  kind : env.scope.kind = .function
  is : env.kindOf n = some k
  glb : env.globals = mainGlobals
  blt : env.builtins = builtinsNs
section
variable {x : Fx} {G : Gh} {M J : Led} {dr : Drawn} {m : Loc} {T : Post} {E : Value → Shared → Prop} {e l r : Expr} {es : List Expr} {rest : List Stmt} {D f : Addr} {K : Value → Gh → Prop} {n q : Str} {b c : Bool} {p p1 p2 pos : Pos} {sc : Scope} {cd v : Value} {cl : List (Str × Addr)} {d u : Nat}
theorem nameK (ok : Ok x d u) (h : FnE x.env n .globalImplicit) (hn : nsIn (Mine.hd.heap_1 x.w.params) mainGlobals n = some (some v)) (hd : (n == ("__debug__" : Str)) = false) : NameIs x n v := by
  obtain ⟨p, loose, mean, mg, mb, T⟩ := ok.T
  have X := ok.K
  intro G m s hs Q E pos hq
  have T2 := topRead_of T
  exact Name_function_global h.kind h.is (loadGlobal_global (by rw [h.glb]; exact T2.g.keeps hs.1.keep) (mg_of X T2.g hn) hq) hd
theorem nameB (ok : Ok x d u) (h : FnE x.env n .globalImplicit) (hn : nsIn (Mine.hd.heap_1 x.w.params) mainGlobals n = some none) (hv : bootBuiltins n = some v) (hne : n ≠ "__name__") (hd : (n == ("__debug__" : Str)) = false) : NameIs x n v := by
  obtain ⟨p, loose, mean, mg, mb, T⟩ := ok.T
  have X := ok.K
  intro G m s hs Q E pos hq
  have T2 := topRead_of T
  exact Name_function_global h.kind h.is (loadGlobal_builtin (by rw [h.glb]; exact T2.g.keeps hs.1.keep) (mg_none_of X T2.g hn) (by rw [h.blt]; exact T2.b.keeps hs.1.keep) ((T2.builtins n hne).trans hv) hq) hd
theorem fnX (he : x.env = envX q sc x.L f cd cl) {k : NameKind} (h : ∀ L, FnE (envX q sc L f cd cl) n k) : FnE x.env n k := by rw [he]; exact h _
theorem fnE {L : Addr} {k : NameKind} (hk : sc.kind = .function) (h : sc.names.lookup n = some k) : FnE (envX q sc L f cd cl) n k := ⟨hk, h, rfl, rfl⟩
theorem locX (he : x.env = envX q sc x.L f cd cl) (hk : sc.kind = .function) (h : sc.names.lookup n = some .local) (hd : (n == ("__debug__" : Str)) = false) : LocX x n := ⟨by rw [he]; exact hk, by rw [he]; exact h, hd, by rw [he]⟩
theorem globK (ok : Ok x d u) (he : x.env = envX q sc x.L f cd cl) (hk : sc.kind = .function) (h : sc.names.lookup n = some .globalImplicit) (hn : nsIn (Mine.hd.heap_1 x.w.params) mainGlobals n = some (some v)) (hd : (n == ("__debug__" : Str)) = false) : NameIs x n v := nameK ok (fnX he fun _ => fnE hk h) hn hd
theorem globB (ok : Ok x d u) (he : x.env = envX q sc x.L f cd cl) (hk : sc.kind = .function) (h : sc.names.lookup n = some .globalImplicit) (hn : nsIn (Mine.hd.heap_1 x.w.params) mainGlobals n = some none) (hv : bootBuiltins n = some v) (hne : n ≠ "__name__") (hd : (n == ("__debug__" : Str)) = false) : NameIs x n v := nameB ok (fnX he fun _ => fnE hk h) hn hv hne hd
theorem cellX {a : Addr} (he : x.env = envX q sc x.L f cd cl) (hk : sc.kind = .function) (h : sc.names.lookup n = some .cell) (hc : cl.lookup n = some a) (hd : (n == ("__debug__" : Str)) = false) : CellX x n a where
  rd := fun G m s hs Q E pos o v hm ho hq => wpAny_Name (wpAny_loadName_cell (by rw [he]; exact hk) (by rw [he]; exact h) (by rw [he]; exact hc) ⟨o, hm.elim (fun h => (hs.nm _ h).1) fun h => (hs.nh _ h).1, ho⟩ hq) hd
  wr := fun M J d m s hs Q E o v u g a ho hq => by
    have F := hs.1
    have U := a.upd hs.2.2.1
    rw [he]
    exact storeX_C F hs.2.1 hc U ho (fun h' o' F' N' ho' => hq h' o' (st_upd (tk := s.toks) a hs F' N') ho') hk h
def locOf : List (Str × Value) → Loc
  | [] => fun _ => none
  | (n, v) :: r => fun y => if y = n then some v else locOf r y
theorem locOf_is (l : List (Str × Value)) : (fun y => l.lookup y) = locOf l := by
  induction l with
  | nil => rfl
  | cons p r ih =>
    funext y
    rw [List.lookup_cons]
    show _ = if y = p.1 then some p.2 else locOf r y
    by_cases h : y = p.1
    · rw [if_pos h, h, BEq.rfl]
    · rw [if_neg h, beq_eq_false_iff_ne.mpr h]; exact congrFun ih y
def retOf : Flow → Value := fun fl => match fl with | .ret v => v | _ => .none
def EndT (K : Value → Gh → Prop) : Post := fun fl G _ => ∃ G', Wk G G' ∧ K (retOf fl) G'
theorem enterG {vs : List Value} {name qual : Str} {params : Arguments} {body : List Stmt} {scope : Scope} {dV kV doc pm cdv ct oc : Value} {an od : Option Addr} {osl : Array (Option Value)} {binds : List (Str × Value)}
    (ok : Ok x d u) (ho : (Mine.hd.heap_1 x.w.params).lookup f = some ⟨oc, od, .func (fnOf name qual params body scope dV kV doc pm an cdv ct), osl⟩) (hcd : codeIn (Mine.hd.heap_1 x.w.params) cdv qual = true) (hd : d < recursionLimit)
    (hbind : bindArgs (fnOf name qual params body scope dV kV doc pm an cdv ct) ⟨vs, []⟩ = pure binds) (hloc : ∀ y ∈ binds, scope.names.lookup y.1 = some .local)
    (hco : scope.isCoroutine = false) (hgen : scope.isGenerator = false) (hk : scope.kind = .function) (hcell : ∀ x ∈ scope.names, x.2 ≠ .cell)
    (k : ∀ (x' : Fx) (E : Value → Shared → Prop), Ok x' (d + 1) (u + 3) → x'.w = x.w → x'.env = envX qual scope x'.L f cdv [] → PassesOwn (model PG x'.w) x'.A x'.env E → Go x' G (locOf binds.reverse) body (EndT K) E) : CallG x G m (.ref f) vs K := by
  obtain ⟨p, loose, mean, mg, mb, T⟩ := ok.T
  have hdp := ok.dp
  have hun := ok.un
  intro s hs Q E q
  refine wpAny_call (code_def ok.B hs.1 ok.K hs.2.1 T rfl rfl ok.ks ho hcd (show x.dp < recursionLimit by omega) (BindsTo.of_eq hbind) hloc (fun g L' h1 FG F' N' B' X' T' => ?_) hco hgen hk hcell)
  refine wpAny_mono (k ⟨x.w, envOf qual scope L' f cdv, g, L', x.H, s.gens, s.os, x.dp + 1, x.un + 3, _, qual, scope, f, cdv, [], x.fr :: x.outer, x.A, x.base⟩ (fun e s' => wpAny (model PG x.w) (x.A.deeper (envOf qual scope L' f cdv)) (leaving (envOf qual scope L' f cdv) e) (fun _ s'' => E e s'') (fun e' s'' => E e' s'') s') ⟨B', ok.KB, ok.TB, hk, Nat.succ_le_succ hdp, Nat.add_le_add_right hun 3⟩ rfl rfl PassesOwn.leaving
    { s with heap := h1, toks := s.toks + binds.length } ⟨locOf_is _ ▸ F', N', hs.2.2.1, rfl, rfl, hs.2.2.2.2.2⟩) (fun fl s' h9 => ?_) fun _ _ z => z
  obtain ⟨G₁, m', st, G', wk, hR⟩ := h9
  replace st := wk.st st
  exact ⟨L', m', x.H ++ (G'.M ++ G'.J), st.1, st.2.1, fun F2 N2 => q _ G' s' hR ⟨F2, N2, st.2.2.1, st.2.2.2.1.trans hs.2.2.2.1, st.2.2.2.2.1.trans hs.2.2.2.2.1, st.2.2.2.2.2⟩⟩
theorem mem_swap {a b c : Led} {p : Addr × Obj} (h : p ∈ a ++ (b ++ c)) : p ∈ b ++ (a ++ c) := by
  simp only [List.mem_append] at h ⊢
  rcases h with h | h | h
  · exact .inr (.inl h)
  · exact .inl h
  · exact .inr (.inr h)
theorem cells_sep {L' : Addr} {l J cells : Led} {cm : Str → Option Value} {cs : List (Str × Addr)} (X : CellsAre cm cs cells) (S : Sep l J) (hl : ∀ p ∈ l, p.1 < L') (hJ : ∀ p ∈ J, p.1 < L') (hc : ∀ p ∈ cs, L' < p.2) (hn : (cs.map (·.2)).Nodup) : Sep (cells ++ l) J := by
  have e : cells.map (·.1) = cs.map (·.2) := by
    induction X with
    | nil => rfl
    | cons _ _ ih => simp only [List.map_cons, ih (fun p hp => hc p (.tail _ hp)) (List.nodup_cons.mp hn).2]
  have hlt : ∀ p ∈ cells, @LT.lt Nat _ L' p.1 := fun p hp => by
    have : p.1 ∈ cs.map (·.2) := e ▸ List.mem_map.mpr ⟨p, hp, rfl⟩
    obtain ⟨q, hq, he⟩ := List.mem_map.mp this
    rw [← he]; exact hc q hq
  refine ⟨?_, fun p hp q hq => ?_⟩
  · rw [List.map_append, List.nodup_append]
    refine ⟨e ▸ hn, S.1, fun a ha b hb hab => ?_⟩
    obtain ⟨p, hp, rfl⟩ := List.mem_map.mp ha
    obtain ⟨q, hq, rfl⟩ := List.mem_map.mp hb
    exact Nat.lt_irrefl _ (hab ▸ Nat.lt_trans (hl q hq) (hlt p hp))
  · rcases List.mem_append.mp hp with hp | hp
    · exact Nat.ne_of_gt (Nat.lt_trans (hJ q hq) (hlt p hp))
    · exact S.2 p hp q hq
theorem hord_one {names : List (Str × NameKind)} {y : Str} (h : ∀ n, cellsFrom n names [] = [(y, n)]) (L : Addr) : (∀ p ∈ cellsFrom (L + 1) names [], @LT.lt Nat _ L p.2) ∧ ((cellsFrom (L + 1) names []).map (·.2)).Nodup := by
  rw [h]
  exact ⟨fun p hp => by rw [List.mem_singleton.mp hp]; exact Nat.lt_succ_self _, by simp⟩
theorem hord_two {names : List (Str × NameKind)} {y z : Str} (h : ∀ n, cellsFrom n names [] = [(z, n + 1), (y, n)]) (L : Addr) : (∀ p ∈ cellsFrom (L + 1) names [], @LT.lt Nat _ L p.2) ∧ ((cellsFrom (L + 1) names []).map (·.2)).Nodup := by
  rw [h]
  refine ⟨fun p hp => ?_, by simp⟩
  rcases List.mem_cons.mp hp with rfl | hp
  · exact Nat.lt_succ_of_lt (Nat.lt_succ_self _)
  · rw [List.mem_singleton.mp hp]; exact Nat.lt_succ_self _
theorem enterC {vs : List Value} {name qual : Str} {params : Arguments} {body : List Stmt} {scope : Scope} {dV kV doc pm cdv ct oc : Value} {an od : Option Addr} {osl : Array (Option Value)} {binds : List (Str × Value)}
    (ok : Ok x d u) (ho : (Mine.hd.heap_1 x.w.params).lookup f = some ⟨oc, od, .func (fnOf name qual params body scope dV kV doc pm an cdv ct), osl⟩) (hcd : codeIn (Mine.hd.heap_1 x.w.params) cdv qual = true) (hd : d < recursionLimit)
    (hbind : bindArgs (fnOf name qual params body scope dV kV doc pm an cdv ct) ⟨vs, []⟩ = pure binds) (hkind : (binds.all fun y => scope.names.lookup y.1 == some .local || scope.names.lookup y.1 == some .cell) = true)
    (hnd : ((cellsFrom 0 scope.names []).map (·.1)).Nodup) (hco : scope.isCoroutine = false) (hgen : scope.isGenerator = false) (hk : scope.kind = .function)
    (hord : ∀ L : Addr, (∀ p ∈ cellsFrom (L + 1) scope.names [], L < p.2) ∧ ((cellsFrom (L + 1) scope.names []).map (·.2)).Nodup)
    (k : ∀ (x' : Fx) (E : Value → Shared → Prop) cells, Ok x' (d + 1) (u + 3) → x'.w = x.w → x'.H = x.H → x'.env = envX qual scope x'.L f cdv (cellsFrom (x'.L + 1) scope.names []) → PassesOwn (model PG x'.w) x'.A x'.env E →
      CellsAre (bindC (envOfC qual scope x'.L f cdv).kindOf binds fun _ => none) (cellsFrom (x'.L + 1) scope.names []) cells →
      Go x' ⟨cells ++ G.M, G.J, G.d⟩ (bindL (envOfC qual scope x'.L f cdv).kindOf binds fun _ => none) body (EndT K) E) : CallG x G m (.ref f) vs K := by
  obtain ⟨p, loose, mean, mg, mb, T⟩ := ok.T
  have hdp := ok.dp
  have hun := ok.un
  intro s hs Q E q
  refine wpAny_call (code_defC ok.B hs.1 ok.K hs.2.1 T rfl rfl ok.ks ho hcd (show x.dp < recursionLimit by omega) (BindsTo.of_eq hbind) hkind hnd (fun g L' h1 tk cells FG F' N' Y B' X' T' lt => ?_) hco hgen hk)
  have S1 := cells_sep Y hs.2.2.1 (fun p hp => lt p (by rw [← List.append_assoc]; exact List.mem_append_left _ hp)) (fun p hp => lt p (List.mem_append_right _ (List.mem_append_right _ hp))) (hord L').1 (hord L').2
  have S2 : Sep (x.H ++ (cells ++ G.M)) G.J := by
    refine ⟨?_, fun p hp => S1.2 p (mem_swap hp)⟩
    have h1 := S1.1
    rw [← List.append_assoc, List.map_append, List.map_append] at h1 ⊢
    exact (List.Perm.append_right _ List.perm_append_comm).nodup_iff.mp h1
  refine wpAny_mono (k ⟨x.w, envOfC qual scope L' f cdv, g, L', x.H, s.gens, s.os, x.dp + 1, x.un + 3, _, qual, scope, f, cdv, _, x.fr :: x.outer, x.A, x.base⟩ (fun e s' => wpAny (model PG x.w) (x.A.deeper (envOfC qual scope L' f cdv)) (leaving (envOfC qual scope L' f cdv) e) (fun _ s'' => E e s'') (fun e' s'' => E e' s'') s') cells ⟨B', ok.KB, ok.TB, hk, Nat.succ_le_succ hdp, Nat.add_le_add_right hun 3⟩ rfl rfl rfl PassesOwn.leaving Y
    { s with heap := h1, toks := tk } ⟨F', news_sub N' fun p hp => mem_swap (by rw [List.append_assoc] at hp; exact hp), S2, rfl, rfl, hs.2.2.2.2.2⟩) (fun fl s' h9 => ?_) fun _ _ z => z
  obtain ⟨G₁, m', st, G', wk, hR⟩ := h9
  replace st := wk.st st
  exact ⟨L', m', x.H ++ (G'.M ++ G'.J), st.1, st.2.1, fun F2 N2 => q _ G' s' hR ⟨F2, N2, st.2.2.1, st.2.2.2.1.trans hs.2.2.2.1, st.2.2.2.2.1.trans hs.2.2.2.2.1, st.2.2.2.2.2⟩⟩
end
end Mine
end
section
open PySem PySem.W PySem.Spec PySem.Calls PyProof.Rows PyProof.Rows.LCg
set_option maxRecDepth 100000
set_option maxHeartbeats 4000000
namespace Mine
section
variable {prog : Program} {w : World} {A : Around} {E : Value → Shared → Prop} {s : Shared} {h₀ : Heap} {L : Addr} {env : Env} {Q : Flow → Shared → Prop}
def ForStep (h₀ : Heap) (L : Addr) (s : Shared) (I : Addr) (oI : Obj) (Q : Flow → Shared → Prop) (Inv : (Str → Option Value) → Led → Prop) (f : Flow) (s₃ : Shared) : Prop :=
  match f with
  | .next | .cont => ∃ h' tk dr m₂ nw₂, s₃ = { s with heap := h', toks := tk, drawn := dr } ∧ Fr h₀ L h' m₂ ∧ News h₀ L h' ((I, oI) :: nw₂) ∧ Offs I nw₂ ∧ Inv m₂ nw₂
  | .brk => Q .next s₃
  | .ret v => Q (.ret v) s₃
def ForSrc (prog : Program) (w : World) (A : Around) (h₀ : Heap) (L : Addr) (env : Env) (tg : Expr) (body : List Stmt) (Q : Flow → Shared → Prop) (E : Value → Shared → Prop) (xv : Value) (s₁ : Shared) : Prop :=
  ∃ (l : Addr) (vs : List Value) (k : Nat) (m : Str → Option Value) (nw : Led) (Inv : Nat → (Str → Option Value) → Led → Prop), xv = .ref l ∧ A.handled = none ∧ Fr h₀ L s₁.heap m ∧ News h₀ L s₁.heap nw ∧ Inv 0 m nw ∧ (∀ i m nw, Inv i m nw → (l, listOf vs.toArray k) ∈ nw) ∧
    (∀ i v m₁ nw₁ I oI h₁ tk₁ dr₁, vs[i]? = some v → Fr h₀ L h₁ m₁ → News h₀ L h₁ ((I, oI) :: nw₁) → Offs I nw₁ → Inv i m₁ nw₁ → oI.cls = .type "list_iterator" →
      wpAny (model prog w) A (assign tg env v) (fun _ s₂ => wpAny (model prog w) A (execs body env) (ForStep h₀ L s₁ I oI Q (Inv (i + 1))) E s₂) E { s₁ with heap := h₁, toks := tk₁, drawn := dr₁ }) ∧
    (∀ m' nw' h' tk dr, Fr h₀ L h' m' → News h₀ L h' nw' → Inv vs.length m' nw' → Q .next { s₁ with heap := h', toks := tk, drawn := dr })
def ForI (s₁ : Shared) (h₀ : Heap) (L I l : Addr) (vs : List Value) (Inv : Nat → (Str → Option Value) → Led → Prop) (kk : Nat) (s' : Shared) : Prop :=
  ∃ h' tk dr i m' nw', s' = { s₁ with heap := h', toks := tk, drawn := dr } ∧ i ≤ vs.length ∧ kk = vs.length + 1 - i ∧ (h'.IsListIter I l i ∧ h'.IsList l vs.toArray) ∧ Fr h₀ L h' m' ∧ News h₀ L h' nw' ∧ Offs I nw' ∧ Inv i m' nw'
theorem for_list {tg iter : Expr} {body : List Stmt} {pos : Pos} {m₀ : Str → Option Value} (_F : Fr h₀ L s.heap m₀)
    (h : wpAny (model prog w) A (eval iter env) (ForSrc prog w A h₀ L env tg body Q E) E s) (hs : ∀ x, foldedSetIterable iter env x = pure x) (hE : PassesOwn (model prog w) A env E) :
    wpAny (model prog w) A (exec (.For tg iter body [] pos) env) Q E s := by
  refine wpAny_For (wpAny_mono h (fun xv s₁ S => ?_) fun _ _ e => e) hs
  obtain ⟨l, vs, k, m, nw, Inv, rfl, hh, F, N, h0, hsrc, turn, fin⟩ := S
  have z := (N _ (hsrc _ _ _ h0)).1
  have hlt : l < s₁.heap.objs.size := Heap.lt_size z
  have hne : l ≠ s₁.heap.objs.size := Nat.ne_of_lt hlt
  have hl : s₁.heap.IsList l vs.toArray := ⟨_, z, rfl, k, rfl⟩
  refine wpAny_pyIter_list hl ?_
  obtain ⟨I, hI⟩ : ∃ I : Addr, s₁.heap.objs.size = I := ⟨_, rfl⟩
  have W := Walks.list (prog := prog) (w := w) (A := A) hh I l (hI ▸ hne) vs.toArray
  rw [List.size_toArray] at W
  rw [hI]
  have up : ∀ b o, s₁.heap.get? b = some o → (s₁.heap.push { cls := .type "list_iterator", data := .fields #[.ref l, .int 0 0] }).get? b = some o := fun b o e => Heap.get?_push_of_some _ e
  have hIL : L ≠ I := hI ▸ Nat.ne_of_lt F.ns.lt
  have hI₀ : h₀.get? I = none := hI ▸ next_is_new F
  refine codeAny_forLoop_any (ForI s₁ h₀ L I l vs Inv) ?_ (vs.length + 1)
    ⟨_, s₁.toks, s₁.drawn, 0, m, nw, rfl, Nat.zero_le _, rfl, ⟨⟨_, hI ▸ Heap.get?_push_size _ rfl, rfl, rfl⟩, hl.at fun o e => up _ _ e⟩, F.keeps up, N.grown up, fun p hp => hI ▸ Nat.ne_of_lt (Heap.lt_size (N p hp).1), h0⟩
  rintro kk s' ⟨h', tk, dr, i, m', nw', rfl, hi, rfl, hst, F', N', off', hv'⟩
  by_cases hlt' : i < vs.length
  · refine W.item i _ _ _ hlt' hst fun v h₂ tk₂ hPv hst₂ hk₂ => ?_
    have F₂ := fr_but F' hk₂ hIL hI₀
    have N₂ := news_but N' hk₂ off'
    obtain ⟨oI, heI, hcI, hdI⟩ := hst₂.1
    have N₃ : News h₀ L h₂ ((I, oI) :: nw') := fun p hp => by
      rcases List.mem_cons.mp hp with rfl | hp
      · exact ⟨heI, Ne.symm hIL, hI₀⟩
      · exact N₂ p hp
    refine own_none heI hcI hdI (by decide) ?_
    refine wpAny_mono (wpAny_passesOwn hE (turn i v m' nw' I oI h₂ tk₂ dr (by simpa using hPv) F₂ N₃ off' hv' hcI)) (fun _ s₂ hb => wpAny_passesOwn hE (wpAny_mono hb (fun f s₃ hf => ?_) fun _ _ e => e)) fun _ _ e => e
    have go : ∀ s₃, (∃ h' tk dr m₂ nw₂, s₃ = { s₁ with heap := h', toks := tk, drawn := dr } ∧ Fr h₀ L h' m₂ ∧ News h₀ L h' ((I, oI) :: nw₂) ∧ Offs I nw₂ ∧ Inv (i + 1) m₂ nw₂) →
        ∃ mm, mm < vs.length + 1 - i ∧ ∃ h' tk dr i m' nw', s₃ = { s₁ with heap := h', toks := tk, drawn := dr } ∧ i ≤ vs.length ∧ mm = vs.length + 1 - i ∧ (h'.IsListIter I l i ∧ h'.IsList l vs.toArray) ∧ Fr h₀ L h' m' ∧ News h₀ L h' nw' ∧ Offs I nw' ∧ Inv i m' nw' := by
      rintro s₃ ⟨h₅, tk₅, dr₅, m₅, nw₅, rfl, F₅, N₅, off₅, v₅⟩
      refine ⟨vs.length + 1 - (i + 1), by omega, h₅, tk₅, dr₅, i + 1, m₅, nw₅, rfl, hlt', rfl, W.frame (i + 1) h₂ h₅ hst₂ fun b hb o e => ?_, F₅, fun p hp => N₅ p (.tail _ hp), off₅, v₅⟩
      rcases List.mem_cons.mp hb with rfl | hb
      · rw [heI] at e; cases e; exact (N₅ _ (.head _)).1
      · rw [List.mem_singleton.mp hb] at e ⊢
        rw [(N₂ _ (hsrc _ _ _ hv')).1] at e
        cases e
        exact (N₅ _ (.tail _ (hsrc _ _ _ v₅))).1
    cases f with
    | next => exact go s₃ hf
    | cont => exact go s₃ hf
    | brk => exact hf
    | ret v => exact hf
  · obtain rfl : i = vs.length := Nat.le_antisymm hi (Nat.not_lt.mp hlt')
    refine W.done _ _ _ hst fun h₂ tk₂ hk₂ => wpAny_execs_nil ?_
    exact fin m' nw' h₂ tk₂ dr (fr_but F' hk₂ hIL hI₀) (news_but N' hk₂ off') hv'
end
end Mine
end
section
open PySem PySem.W PySem.Spec PySem.Calls PyProof.Rows PyProof.Rows.LCg
set_option maxRecDepth 100000
set_option maxHeartbeats 4000000
namespace Mine
theorem walks_more {prog : Program} {w : World} {A : Around} {I ax : Addr} {n : Nat} {P : Nat → Value → Prop} {St : Nat → Heap → Prop} (W : Walks prog w A I [I] [I] n P St) : Walks prog w A I [I, ax] [I] n P St where
  sub := fun b hb => by rw [List.mem_singleton.mp hb]; exact .head _
  frame := fun i h h' st hk => W.frame i h h' st fun b hb => hk b (by rw [List.mem_singleton.mp hb]; exact .head _)
  item := W.item
  done := W.done
  self := W.self
theorem small_of {n : Nat} (h : n ≤ 100000) : Builtin.Range.small 0 n 1 = true := small_one (by omega) (by omega) (by omega) (by omega)
section
variable {prog : Program} {w : World} {A : Around} {E : Value → Shared → Prop} {s : Shared} {h₀ : Heap} {L C : Addr} {m m₂ : Str → Option Value} {env : Env} {scope : Scope} {cl : List (Str × Addr)} {J : Led}
def SrcR (prog : Program) (w : World) (A : Around) (h₀ : Heap) (L : Addr) (m : Str → Option Value) (env : Env) (scope : Scope) (cl : List (Str × Addr)) (tg elt : Expr) (ifs : List Expr) (Fin : Shared → List Value → Led → Prop) (xv : Value) (s₁ : Shared) : Prop :=
  ∃ (r ax : Addr) (osrc : Obj) (n : Nat) (t u v : Tok) (news : Led) (Inv : Nat → List Value → Led → Prop), xv = .ref r ∧ A.handled = none ∧ Fr h₀ L s₁.heap m ∧ News h₀ L s₁.heap news ∧ IsRange s₁.heap r 0 n 1 t u v ∧ n ≤ 100000 ∧ h₀.get? ax = some osrc ∧ Inv 0 [] news ∧
    (∀ g i t ys nw, i < n → Inv i ys nw → TurnOk prog w A h₀ L m env scope cl { s₁ with heap := g } tg elt ifs Inv i (.int i t) ys nw) ∧ ∀ g ys nw, Inv n ys nw → Fin { s₁ with heap := g } ys nw
theorem srcR_block {elt iter tg : Expr} {ifs : List Expr} {pos : Pos} {Fin : Shared → List Value → Led → Prop} {xv : Value} {RR : Value → Addr → Result → Shared → Prop}
    (hcell : ∀ y ∈ scope.names, y.2 ≠ .cell) (hkind : scope.kind = .function) (S : SrcR prog w A h₀ L m env scope cl tg elt ifs Fin xv s)
    (hRR : ∀ D C h tk m' ys news' g, Fr h₀ L h m → News h₀ L h ((D, lst ys) :: news') → Off1 D news' → h.Ns C m' → h₀.get? C = none → h₀.get? D = none → C ≠ L → D ≠ L → C ≠ D → (∀ p ∈ news', p.1 ≠ C) → Fin { s with heap := g } ys news' → RR (.ref D) C (.ok .next) { s with heap := h, toks := tk }) :
    wpAny (model prog w) A (pyIter xv) (fun it s₂ => wpAny (model prog w) A (newList []) (fun acc s₃ => wpAny (model prog w) A (newFunctionEnv scope env.globals cl [] env.qual none .none (some env)) (fun cenv s₄ =>
      codeAny (model prog w) A (.compStart (.ListComp elt [⟨tg, iter, ifs, 0⟩] scope pos) 0 it acc { cenv with scope := relabel scope env }) (RR acc cenv.locals) s₄) E s₃) E s₂) E s := by
  obtain ⟨r, ax, osrc, n, t, u, v, news, Inv, rfl, hh, F, N, hr, hz, hax, hi, turn, fin⟩ := S
  have up : ∀ (o' : Obj), ∀ b o, s.heap.get? b = some o → (s.heap.push o').get? b = some o := fun _ b o e => Heap.get?_push_of_some _ e
  refine wpAny_pyIter_range hr (small_of hz) ?_
  rw [rangeSize_nat, show (((n : Int) - 0).toNat : Int) = (n : Int) by omega]
  have W := walks_more (ax := ax) (Walks.range (prog := prog) (w := w) hh s.heap.objs.size 0 1 n)
  have hown : ∀ i (s' : Shared) (v' : Value) (Q' : Unit → Shared → Prop) (E' : Value → Shared → Prop), IsRangeIter s'.heap s.heap.objs.size (0 + (i : Nat) * 1) ((n : Int) - (i : Nat)) 1 → Q' () s' → wpAny (model prog w) A (letOwnedTupleGo tg (.ref s.heap.objs.size) v') Q' E' s' := fun i s' v' Q' E' st hq => own_none st rfl rfl (by decide) hq
  refine my_block (osrc := osrc) Inv W hz (fun i h st => ⟨_, st⟩) hown hcell hkind hh (by simpa using Heap.get?_push_size _ rfl) (fun b hb => ?_)
    (F.keeps (up _)) (N.grown (up _)) (Nat.ne_of_lt F.ns.lt) (next_is_new F) (fun p hp => Nat.ne_of_lt (Heap.lt_size (N p hp).1)) hi (fun _ _ _ _ _ F _ => F.keep _ _ hax) (fun i v ys nw hlt hp hv => ?_) ?_
  · rw [Heap.size_push]
    rcases List.mem_cons.mp hb with rfl | hb
    · exact Nat.lt_succ_self _
    · rw [List.mem_singleton.mp hb]; exact Nat.lt_succ_of_lt (Heap.lt_size (F.keep _ _ hax))
  · obtain ⟨t', rfl⟩ := hp
    rw [Int.zero_add, Int.mul_one]
    exact turn _ i t' ys nw hlt hv
  · intro D C h tk m' ys news' F' N' o1 hn hC₀ hD₀ hCL hDL hCD offC hv
    exact hRR D C h tk m' ys news' s.heap F' N' o1 hn hC₀ hD₀ hCL hDL hCD offC (fin s.heap ys news' hv)
theorem compR_assign {elt iter tg : Expr} {ifs : List Expr} {y : Str} {py pos spos : Pos} {Q : Flow → Shared → Prop} (_F₀ : Fr h₀ L s.heap m) (hLe : env.locals = L)
    (hsw : swapsWith (.ListComp elt [⟨tg, iter, ifs, 0⟩] scope pos) (some (.Name y py)) spos.line env = pure true)
    (hclos : closureFor scope env = pure cl) (hcell : ∀ y ∈ scope.names, y.2 ≠ .cell) (hkind : scope.kind = .function) (hnames : ∀ y ∈ scope.names, y.2 = .local → scope.names.lookup y.1 = some .local)
    (hy : env.kindOf y = some .local) (hp : (env.scope.kind == .class || (env.scope.kind == .module && env.locals != env.globals)) = false)
    (h : wpAny (model prog w) A (eval iter env) (SrcR prog w A h₀ L m env scope cl tg elt ifs (fun s₂ => FinA h₀ L m s₂ y Q)) E s)
    (hs : ∀ x, foldedSetIterable iter env x = pure x) :
    wpAny (model prog w) A (exec (.Assign [.Name y py] (.ListComp elt [⟨tg, iter, ifs, 0⟩] scope pos) spos) env) Q E s := by
  subst hLe
  rw [exec_Assign_Name_used _ _ _ _ hsw]
  refine wpAny_bind (wpAny_standAt (wpAny_bind ?_))
  show wpAny _ A (do let _ ← comprehension (.ListComp elt [⟨tg, iter, ifs, 0⟩] scope pos) scope env _ (newList []) false (eval iter env) (some (assign (.Name y py) env))) _ _ s
  refine wpAny_bind (wpAny_mono (wpAny_comprehension_free (use := some (assign (.Name y py) env)) (Q := fun _ s' => Q .next s') rfl hs hclos hkind hnames
    (wpAny_mono h (fun xv s₁ S => ?_) fun _ _ e => e)) (fun _ s' hq => wpAny_pure (wpAny_pure hq)) fun _ _ e => e)
  refine srcR_block hcell hkind S fun D C h' tk m' ys news' g F' N' o1 hn hC₀ hD₀ hCL hDL hCD offC fin => ?_
  show wpAny _ A (assign (.Name y py) env (.ref D)) _ _ _
  refine wpAny_assign_Name (wpAny_storeName_local hy F'.ns (fun h₂ hn₂ hs₂ => ?_) hp)
  have hL₀ : h₀.get? env.locals = none := Heap.get?_none_of_le F'.above
  have F₂ : Fr h₀ env.locals h₂ (fun z => if z = y then some (.ref D) else m z) := ⟨hn₂, fun b o e => hs₂.extBut b o (fun q => by rw [q, hL₀] at e; cases e) (F'.keep b o e), F'.above⟩
  refine ⟨m', hn.sameBut hs₂ hCL, fun h'' hs'' => fin D h'' _ (F₂.change hs'' hCL hC₀) (fun p hp => ?_) o1⟩
  have z : h₂.get? p.1 = some p.2 := hs₂.extBut _ _ (N' p hp).2.1 (N' p hp).1
  refine ⟨hs''.extBut _ _ ?_ z, (N' p hp).2⟩
  rcases List.mem_cons.mp hp with rfl | hp
  · exact Ne.symm hCD
  · exact offC p hp
end
end Mine
end
section
open PySem PySem.W PySem.Spec PySem.Calls PyProof.Rows PyProof.Rows.LCg
set_option maxRecDepth 100000
set_option maxHeartbeats 1000000
namespace Mine
section
variable {x : Fx} {G : Gh} {M J : Led} {dr : Drawn} {m : Loc} {T : Post} {E : Value → Shared → Prop} {e l r : Expr} {es : List Expr} {rest body : List Stmt} {D : Addr} {K : Value → Gh → Prop} {n : Str} {b c : Bool} {p p1 p2 p3 pos tpos : Pos} {d u : Nat}
def AsgT (x : Fx) (G : Gh) (m : Loc) (tg : Expr) (v : Value) (K : Gh → Loc → Prop) : Prop := ∀ s, St x G m s → ∀ (Q : Unit → Shared → Prop) (E : Value → Shared → Prop), (∀ G' m' s', K G' m' → St x G' m' s' → Q () s') → wpAny (model PG x.w) x.A (assign tg x.env v) Q E s
section
variable {v : Value} {K : Gh → Loc → Prop}
theorem at_loc (c : LocX x n) (k : K G (fun y => if y = n then some v else m y)) : AsgT x G m (.Name n p) v K := fun s hs Q E q => PyProof.Rows.assign_Name (st_store c hs fun h' h9 => q _ _ _ k h9)
theorem at_cell {a : Addr} {o : Obj} {w : Option Value} {g : Obj → Led} (cx : CellX x n a) (h : At a o M g) (ho : o.data = .cell w) (k : ∀ o', o'.data = .cell (some v) → K ⟨g o', J, dr⟩ m) : AsgT x ⟨M, J, dr⟩ m (.Name n p) v K := fun s hs Q E q =>
  PyProof.Rows.assign_Name (cx.wr _ _ _ _ _ hs _ _ _ _ _ _ h ho fun h' o' h1 h2 => q _ _ _ (k o' h2) h1)
def AsgL (x : Fx) (G : Gh) (m : Loc) : List Expr → List Value → (Gh → Loc → Prop) → Prop
  | [], [], K => K G m
  | t :: ts, v :: vs, K => AsgT x G m t v fun G' m' => AsgL x G' m' ts vs K
  | _, _, _ => False
theorem asgL_run : ∀ {ts : List Expr} {vs : List Value} {G : Gh} {m : Loc}, AsgL x G m ts vs K → ∀ s, St x G m s → ∀ (Q : Unit → Shared → Prop) (E : Value → Shared → Prop), (∀ G' m' s', K G' m' → St x G' m' s' → Q () s') → wpAny (model PG x.w) x.A (assignInOrder (ts.map fun t => assign t x.env) vs) Q E s
  | [], [], _, _, h, s, hs, Q, E, q => assignInOrder_nil (q _ _ _ h hs)
  | t :: ts, v :: vs, _, _, h, s, hs, Q, E, q => assignInOrder_cons (h s hs _ _ fun G' m' s' h2 hs2 => asgL_run h2 s' hs2 Q E q)
  | [], _ :: _, _, _, h, _, _, _, _, _ => h.elim
  | _ :: _, [], _, _, h, _, _, _, _, _ => h.elim
theorem at_tup {ts : List Expr} {vs : List Value} {k : Nat} (hm : HasT x G.J D vs) (he : assignEach ts x.env = ts.map fun t => (false, assign t x.env)) (hl : ts.length = vs.length) (h : AsgL x G m ts vs K) : AsgT x G m (.Tuple ts k p) (.ref D) K := fun s hs Q E q =>
  unpackN_ hs.1 hs.2.1 (hm.tup hs) x.hh (by rw [he, List.length_map, List.size_toArray, hl]) (by rw [he]; simp [List.findIdx?_eq_none_iff]) fun h' F' N' => by
    rw [he]
    have e : List.map (fun x => x.2) (ts.map fun t => (false, assign t x.env)) = ts.map fun t => assign t x.env := by simp
    rw [e]
    exact asgL_run h { s with heap := h' } ⟨F', N', hs.2.2⟩ Q E q
end
theorem go_asgT {ts : List Expr} {k : Nat} (hs : swapsWithSole [.Tuple ts k tpos] e pos.line x.env = pure false) (hw : swappedStores [.Tuple ts k tpos] e x.env = pure none) (he : EvC x G m e fun v G' => AsgT x G' m (.Tuple ts k tpos) v fun G2 m2 => Go x G2 m2 rest T E) :
    Go x G m (.Assign [.Tuple ts k tpos] e pos :: rest) T E := go_cons_of fun s hs' =>
  Assign_Tuple (he s hs' _ _ fun v G' s' hk hs2 => hk s' hs2 _ _ fun G2 m2 s2 hk2 hs3 => ⟨G2, m2, hs3, hk2⟩) hs hw
theorem go_asg2 {n1 n2 : Str} {e1 e2 : Expr} {p q vpos : Pos} {c c2 : Nat} (cx : LocX x n1) (cy : LocX x n2) (hs : swapsWithSole [.Tuple [.Name n1 p, .Name n2 q] c tpos] (.Tuple [e1, e2] c2 vpos) pos.line x.env = pure false)
    (hw : swappedStores [.Tuple [.Name n1 p, .Name n2 q] c tpos] (.Tuple [e1, e2] c2 vpos) x.env = pure (some [n1, n2]))
    (h : EvL x G m [e1, e2] fun vs G' => ∃ u v, vs = [u, v] ∧ Go x G' (fun z => if z = n1 then some u else if z = n2 then some v else m z) rest T E) : Go x G m (.Assign [.Tuple [.Name n1 p, .Name n2 q] c tpos] (.Tuple [e1, e2] c2 vpos) pos :: rest) T E := go_cons_of fun s hs' =>
  Assign_Tuple_swapped (Tuple_ (h _ s hs' _ _ fun vs G' s' hk hs2 => by
    obtain ⟨u, v, rfl, hk⟩ := hk
    exact kup_newTuple hs2.1 hs2.2.1 (fun D h' F1 N1 _ => unpackItemsN_ (s := { s' with heap := h' }) F1 N1 (isTup_of N1 (.head _)) x.hh rfl fun h2 F2 N2 =>
      assignInOrder_cons (bindName_ (st_store (s := { s' with heap := h2 }) cy ⟨F2, news_tail N2, hs2.2.2⟩ fun h3 h9 => assignInOrder_cons (bindName_ (st_store cx h9 fun h4 h10 => assignInOrder_nil ⟨_, _, h10, hk⟩))))) (fits (by simp)))) hs hw
def whT (x : Fx) (rest : List Stmt) (T : Post) (E : Value → Shared → Prop) (I : Nat → Gh → Loc → Prop) (k : Nat) : Post := fun f G m => match f with
  | .next | .cont => ∃ k', k' < k ∧ I k' G m
  | .brk => Go x G m rest T E
  | .ret v => T (.ret v) G m
theorem go_while {test : Expr} (I : Nat → Gh → Loc → Prop) {k : Nat} (h0 : I k G m)
    (turn : ∀ k G m, I k G m → TrC x G m test fun b G' => Br b (Go x G' m body (whT x rest T E I k) E) (Go x G' m rest T E)) (hE : PassesOwn (model PG x.w) x.A x.env E) : Go x G m (.While test body [] pos :: rest) T E := go_cons_of fun s hs => by
  refine wpAny_While (codeAny_whileLoop (fun k s => ∃ G m, I k G m ∧ St x G m s) (fun k s hI => ?_) k ⟨G, m, h0, hs⟩)
  obtain ⟨G1, m1, hI, hs1⟩ := hI
  refine turn k G1 m1 hI s hs1 _ _ fun b G' s' hk hs2 => ?_
  cases b with
  | false =>
    simp only [Bool.false_eq_true, if_false]
    exact wpAny_execs_nil ⟨G', _, hs2, hk.2 rfl⟩
  | true =>
    simp only [if_true]
    refine wpAny_mono (hk.1 rfl s' hs2) (fun f s3 h3 => ?_) hE
    obtain ⟨G2, m2, hs3, h3⟩ := h3
    cases f with
    | next => obtain ⟨k', hlt, hI2⟩ := h3; exact ⟨k', hlt, G2, m2, hI2, hs3⟩
    | cont => obtain ⟨k', hlt, hI2⟩ := h3; exact ⟨k', hlt, G2, m2, hI2, hs3⟩
    | brk => exact ⟨G2, m2, hs3, h3⟩
    | ret v => exact ⟨G2, m2, hs3, h3⟩
abbrev hid (x : Fx) (q : Addr × Obj) : Fx := { x with H := q :: x.H }
theorem St.unhid {q : Addr × Obj} {s : Shared} (h : St (hid x q) G m s) : St x G m s :=
  ⟨h.1, fun p hp => h.2.1 p (.tail _ hp), ⟨(List.nodup_cons.mp h.2.2.1.1).2, fun p hp => h.2.2.1.2 p (.tail _ hp)⟩, h.2.2.2⟩
theorem NameIs.hid {q : Addr × Obj} {v : Value} (h : NameIs x n v) : NameIs (hid x q) n v := fun G m s hs => h G m s hs.unhid
theorem LocX.hid {q : Addr × Obj} (h : LocX x n) : LocX (hid x q) n := ⟨h.kind, h.loc, h.dbg, h.at'⟩
theorem Ok.hid {q : Addr × Obj} (h : Ok x d u) : Ok (hid x q) d u := ⟨h.B, h.KB, h.TB, h.ks, h.dp, h.un⟩
theorem St.hid {q : Addr × Obj} {s : Shared} {h' : Heap} (F : Fr x.h₀ x.L h' m) (N : News x.h₀ x.L h' (q :: (x.H ++ (G.M ++ G.J)))) (S : Sep (x.H ++ G.M) G.J) (off : ∀ p ∈ x.H ++ (G.M ++ G.J), p.1 ≠ q.1) (r : s.gens = x.g ∧ s.os = x.os ∧ s.drawn = G.d) (hh : s.heap = h') : St (hid x q) G m s := by
  subst hh
  refine ⟨F, N, ⟨List.nodup_cons.mpr ⟨fun hm => ?_, S.1⟩, fun p hp r hr => ?_⟩, r⟩
  · obtain ⟨p, hp, e⟩ := List.mem_map.mp hm
    exact off p (by rw [← List.append_assoc]; exact List.mem_append_left _ hp) e
  · rcases List.mem_cons.mp hp with rfl | hp
    · exact Ne.symm (off r (List.mem_append_right _ (List.mem_append_right _ hr)))
    · exact S.2 p hp r hr
theorem St.offs {q : Addr × Obj} {s : Shared} (h : St (Mine.hid x q) G m s) : Offs q.1 (x.H ++ (G.M ++ G.J)) := fun p hp => by
  have S := h.2.2.1
  have S1 := List.nodup_cons.mp (show (q.1 :: (x.H ++ G.M).map (·.1)).Nodup from S.1)
  rw [← List.append_assoc] at hp
  rcases List.mem_append.mp hp with hp | hp
  · exact fun e => S1.1 (e ▸ List.mem_map.mpr ⟨p, hp, rfl⟩)
  · exact Ne.symm (S.2 q (.head _) p hp)
theorem go_for {tg iter : Expr} (he : EvC x G m iter fun v G1 => ∃ l vs k, v = .ref l ∧ ∃ I : Nat → Led → Led → Loc → Prop, I 0 G1.M G1.J m ∧ (∀ i M J m, I i M J m → (l, listOf (List.toArray vs) k) ∈ J) ∧
      (∀ i v M J d m q, vs[i]? = some v → I i M J m → AsgT (hid x q) ⟨M, J, d⟩ m tg v fun G2 m2 => Go (hid x q) G2 m2 body (fun f G3 m3 => f = .next ∧ I (i + 1) G3.M G3.J m3) E) ∧ ∀ M J d m, I vs.length M J m → Go x ⟨M, J, d⟩ m rest T E)
    (hs : ∀ y, foldedSetIterable iter x.env y = pure y) (hE : PassesOwn (model PG x.w) x.A x.env E) : Go x G m (.For tg iter body [] pos :: rest) T E := go_cons_of fun s hs0 => by
  refine for_list (m₀ := m) hs0.1 (he s hs0 _ _ fun v G1 s1 hk hs1 => ?_) hs hE
  obtain ⟨l, vs, k, rfl, I, h0, hl, turn, fin⟩ := hk
  refine ⟨l, vs, k, m, x.H ++ (G1.M ++ G1.J), fun i m nw => ∃ M J, nw = x.H ++ (M ++ J) ∧ Sep (x.H ++ M) J ∧ I i M J m, rfl, x.hh, hs1.1, hs1.2.1, ⟨_, _, rfl, hs1.2.2.1, h0⟩, ?_, ?_, ?_⟩
  · rintro i m nw ⟨M, J, rfl, _, hI⟩
    exact List.mem_append_right _ (List.mem_append_right _ (hl _ _ _ _ hI))
  · rintro i v m₁ nw₁ I₁ oI h₁ tk₁ dr₁ hv F₁ N₁ off ⟨M, J, rfl, S, hI⟩ _
    refine wpAny_mono (turn i v M J dr₁ m₁ (I₁, oI) hv hI { s1 with heap := h₁, toks := tk₁, drawn := dr₁ } (St.hid (G := ⟨M, J, dr₁⟩) (h' := h₁) F₁ N₁ S off ⟨hs1.2.2.2.1, hs1.2.2.2.2.1, rfl⟩ rfl) (fun _ s2 => ∃ G2 m2, Go (hid x (I₁, oI)) G2 m2 body (fun f G3 m3 => f = .next ∧ I (i + 1) G3.M G3.J m3) E ∧ St (hid x (I₁, oI)) G2 m2 s2) E fun G2 m2 s2 a b => ⟨G2, m2, a, b⟩) (fun _ s2 hq => ?_) fun _ _ z => z
    obtain ⟨G2, m2, hk2, hs2⟩ := hq
    refine wpAny_mono (hk2 s2 hs2) (fun f s3 h3 => ?_) fun _ _ z => z
    obtain ⟨G3, m3, hs3, rfl, hI3⟩ := h3
    obtain ⟨hp3, g3, d3, t3, o3⟩ := s3
    have e1 : g3 = s1.gens := hs3.2.2.2.1.trans hs1.2.2.2.1.symm
    have e2 : o3 = s1.os := hs3.2.2.2.2.1.trans hs1.2.2.2.2.1.symm
    subst e1; subst e2
    exact ⟨hp3, t3, d3, m3, _, rfl, hs3.1, hs3.2.1, hs3.offs, G3.M, G3.J, rfl, hs3.unhid.2.2.1, hI3⟩
  · rintro m' nw' h' tk dr F' N' ⟨M, J, rfl, S, hI⟩
    exact ⟨_, m', ⟨F', N', S, hs1.2.2.2.1, hs1.2.2.2.2.1, rfl⟩, fin M J dr m' hI⟩
def Inner (x : Fx) (scope : Scope) (cl : List (Str × Addr)) (x' : Fx) : Prop := ∃ C H, x' = { x with env := compEnvC scope cl C x.env, H := H } ∧ ∀ p ∈ x.H, p ∈ H
theorem Inner.ok {scope : Scope} {cl : List (Str × Addr)} {x' : Fx} (i : Inner x scope cl x') (ok : Ok x d u) : Ok x' d u := by
  obtain ⟨C, H, rfl, _⟩ := i
  exact ⟨ok.B, ok.KB, ok.TB, ok.ks, ok.dp, ok.un⟩
theorem Inner.fn {scope : Scope} {cl : List (Str × Addr)} {x' : Fx} {E0 : Env} {k : NameKind} (i : Inner x scope cl x') (he : x.env = E0) (h : ∀ C, FnE (compEnvC scope cl C E0) n k) : FnE x'.env n k := by
  obtain ⟨C, H, rfl, _⟩ := i
  rw [← he] at h; exact h C
theorem Inner.B {scope : Scope} {cl : List (Str × Addr)} {x' : Fx} {E0 : Env} {v : Value} (i : Inner x scope cl x') (ok : Ok x d u) (he : x.env = E0) (h : ∀ C, FnE (compEnvC scope cl C E0) n .globalImplicit) (hn : nsIn (Mine.hd.heap_1 x.w.params) mainGlobals n = some none) (hv : bootBuiltins n = some v) (hne : n ≠ "__name__") (hd : (n == ("__debug__" : Str)) = false) : NameIs x' n v :=
  nameB (i.ok ok) (i.fn he h) (by obtain ⟨C, H, rfl, _⟩ := i; exact hn) hv hne hd
theorem Inner.KK {scope : Scope} {cl : List (Str × Addr)} {x' : Fx} {E0 : Env} {v : Value} (i : Inner x scope cl x') (ok : Ok x d u) (he : x.env = E0) (h : ∀ C, FnE (compEnvC scope cl C E0) n .globalImplicit) (hn : nsIn (Mine.hd.heap_1 x.w.params) mainGlobals n = some (some v)) (hd : (n == ("__debug__" : Str)) = false) : NameIs x' n v :=
  nameK (i.ok ok) (i.fn he h) (by obtain ⟨C, H, rfl, _⟩ := i; exact hn) hd
theorem Inner.cell {scope : Scope} {cl : List (Str × Addr)} {x' : Fx} {E0 : Env} {c : Addr} (i : Inner x scope cl x') (he : x.env = E0) (h : ∀ C, (compEnvC scope cl C E0).kindOf n = some .cell) (hk : scope.kind = .function) (hc : cl.lookup n = some c) (hd : (n == ("__debug__" : Str)) = false) : CellR x' n c := by
  obtain ⟨C, H, rfl, _⟩ := i
  intro G m s hs Q E pos o v hm ho hq
  show wpAny _ _ (eval _ (compEnvC scope cl C x.env)) _ _ _
  rw [he]
  exact wpAny_Name (wpAny_loadName_cell hk (h C) hc ⟨o, hm.elim (fun h => (hs.nm _ h).1) fun h => (hs.nh _ h).1, ho⟩ hq) hd
theorem Inner.has {scope : Scope} {cl : List (Str × Addr)} {x' : Fx} {J : Led} {a : Addr} {vs : List Value} (i : Inner x scope cl x') (h : HasT x J a vs) : HasT x' J a vs := by
  obtain ⟨C, H, rfl, _⟩ := i
  exact h
def TestC (x : Fx) (G : Gh) (m : Loc) (ifs : List Expr) (K : Bool → Gh → Prop) : Prop := match ifs with
  | [] => K true G
  | [t] => TrC x G m t K
  | _ => False
def TurnK (x : Fx) (m : Loc) (d : Drawn) (scope : Scope) (cl : List (Str × Addr)) (tg elt : Expr) (ifs : List Expr) (Inv : Nat → List Value → Led → Led → Prop) (i : Nat) (v : Value) (ys : List Value) (M J : Led) : Prop :=
  ∃ bs, Bind J tg v bs ∧ (∀ p ∈ bs, scope.names.lookup p.1 = some .local) ∧ (bs.map (·.1)).Nodup ∧ ∀ x', Inner x scope cl x' → (∀ p ∈ bs, NameIs x' p.1 p.2) →
    TestC x' ⟨M, J, d⟩ m ifs fun b G' => Br b (EvC x' G' m elt fun y G2 => G2.d = d ∧ Inv (i + 1) (ys ++ [y]) G2.M G2.J) (G'.d = d ∧ Inv (i + 1) ys G'.M G'.J)
theorem Bind.mono {J J' : Led} {tg : Expr} {v : Value} {bs : List (Str × Value)} (hs : ∀ p ∈ J, p ∈ J') (h : Bind J tg v bs) : Bind J' tg v bs := by
  cases h with
  | name => exact .name
  | two h => exact .two (hs _ h)
  | three h => exact .three (hs _ h)
theorem turn_ok {scope : Scope} {cl : List (Str × Addr)} {tg elt : Expr} {ifs : List Expr} {Inv : Nat → List Value → Led → Led → Prop} {s : Shared} {i : Nat} {v : Value} {ys : List Value} (hkind : scope.kind = .function) (hdbg : ∀ y ∈ scope.names, (y.1 == ("__debug__" : Str)) = false) (S : Sep (x.H ++ M) J) (r : s.gens = x.g ∧ s.os = x.os ∧ s.drawn = dr) (h : TurnK x m dr scope cl tg elt ifs Inv i v ys M J) :
    TurnOk PG x.w x.A x.h₀ x.L m x.env scope cl s tg elt ifs (fun i ys nw => ∃ M J, nw = x.H ++ (M ++ J) ∧ Sep (x.H ++ M) J ∧ Inv i ys M J) i v ys (x.H ++ (M ++ J)) := by
  obtain ⟨bs, hb, hloc, hnd, h⟩ := h
  refine ⟨bs, hb.mono fun p hp => List.mem_append_right _ (List.mem_append_right _ hp), hloc, hnd, ?_⟩
  intro I oI C oC D m₂ hp tk E' hC hm F N off hne
  have off' := off.mem
  let x' : Fx := { x with env := compEnvC scope cl C x.env, H := (I, oI) :: (C, oC) :: (D, lst ys) :: x.H }
  have S' : Sep (x'.H ++ M) J := by
    have a : ∀ p ∈ x.H ++ M, p.1 ≠ I ∧ p.1 ≠ C ∧ p.1 ≠ D := fun p hp => off' p (by rw [← List.append_assoc]; exact List.mem_append_left _ hp)
    have a2 : ∀ p ∈ J, p.1 ≠ I ∧ p.1 ≠ C ∧ p.1 ≠ D := fun p hp => off' p (List.mem_append_right _ (List.mem_append_right _ hp))
    refine ⟨List.nodup_cons.mpr ⟨fun hm => ?_, List.nodup_cons.mpr ⟨fun hm => ?_, List.nodup_cons.mpr ⟨fun hm => ?_, S.1⟩⟩⟩, fun p hp q hq => ?_⟩
    · rcases List.mem_cons.mp hm with e | hm
      · exact hne.1 e
      · rcases List.mem_cons.mp hm with e | hm
        · exact hne.2.1 e
        · obtain ⟨p, hp, e⟩ := List.mem_map.mp hm; exact (a p hp).1 e
    · rcases List.mem_cons.mp hm with e | hm
      · exact hne.2.2 e
      · obtain ⟨p, hp, e⟩ := List.mem_map.mp hm; exact (a p hp).2.1 e
    · obtain ⟨p, hp, e⟩ := List.mem_map.mp hm; exact (a p hp).2.2 e
    · rcases List.mem_cons.mp hp with rfl | hp
      · exact Ne.symm (a2 q hq).1
      · rcases List.mem_cons.mp hp with rfl | hp
        · exact Ne.symm (a2 q hq).2.1
        · rcases List.mem_cons.mp hp with rfl | hp
          · exact Ne.symm (a2 q hq).2.2
          · exact S.2 p hp q hq
  have hst : St x' ⟨M, J, dr⟩ m { s with heap := hp, toks := tk } := ⟨F, N, S', r⟩
  have nm : ∀ p ∈ bs, NameIs x' p.1 p.2 := fun q hq G9 m9 s9 h9 Q9 E9 pos9 k9 => by
    have hl := hloc q hq
    exact wpAny_Name (wpAny_loadName_local hkind (lookup_relabel_local hl) (hC.ns (h9.nh (C, oC) (.tail _ (.head _))).1) (hm q hq) k9) (hdbg (q.1, .local) (mem_of_lookup hl))
  have back : ∀ (b : Bool) (y : Value) (G2 : Gh) (s5 : Shared), G2.d = dr ∧ Inv (i + 1) (cond b (ys ++ [y]) ys) G2.M G2.J → St x' G2 m s5 → CompEnd x.h₀ x.L m { s with heap := hp, toks := tk } I oI C oC D (lst ys) (fun _ => True) (fun y nw' => ∃ M J, nw' = x.H ++ (M ++ J) ∧ Sep (x.H ++ M) J ∧ Inv (i + 1) (cond b (ys ++ [y]) ys) M J) y s5 := by
    rintro b y G2 ⟨h5, g5, d5, t5, o5⟩ ⟨hd, hI⟩ hs5
    have e1 : g5 = s.gens := hs5.2.2.2.1.trans r.1.symm
    have e2 : o5 = s.os := hs5.2.2.2.2.1.trans r.2.1.symm
    have e3 : d5 = s.drawn := (hs5.2.2.2.2.2.trans hd).trans r.2.2.symm
    subst e1; subst e2; subst e3
    have S5 := hs5.2.2.1
    have n1 := List.nodup_cons.mp (show (I :: (C :: D :: (x.H ++ G2.M).map (·.1))).Nodup from S5.1)
    have n2 := List.nodup_cons.mp n1.2
    have n3 := List.nodup_cons.mp n2.2
    refine ⟨h5, t5, x.H ++ (G2.M ++ G2.J), rfl, hs5.1, hs5.2.1, Off3.of fun p hp => ?_, trivial, G2.M, G2.J, rfl, ⟨n3.2, fun p hp => S5.2 p (.tail _ (.tail _ (.tail _ hp)))⟩, hI⟩
    rw [← List.append_assoc] at hp
    rcases List.mem_append.mp hp with hp | hp
    · have hm1 : p.1 ∈ (x.H ++ G2.M).map (·.1) := List.mem_map.mpr ⟨p, hp, rfl⟩
      exact ⟨fun e => n1.1 (e ▸ .tail _ (.tail _ hm1)), fun e => n2.1 (e ▸ .tail _ hm1), fun e => n3.1 (e ▸ hm1)⟩
    · exact ⟨Ne.symm (S5.2 (I, oI) (.head _) p hp), Ne.symm (S5.2 (C, oC) (.tail _ (.head _)) p hp), Ne.symm (S5.2 (D, lst ys) (.tail _ (.tail _ (.head _))) p hp)⟩
  have h1 := h x' ⟨C, _, rfl, fun p hp => .tail _ (.tail _ (.tail _ hp))⟩ nm
  match ifs, h1 with
  | [], h1 =>
    simp only [TestWp, if_true]
    exact h1.1 rfl _ hst _ _ fun y G2 s5 hk hs5 => back true y G2 s5 hk hs5
  | [t], h1 =>
    refine h1 _ hst _ _ fun b G' s' hk hs5 => ?_
    cases b with
    | true =>
      simp only [if_true]
      exact hk.1 rfl _ hs5 _ _ fun y G2 s5 hk hs5 => back true y G2 s5 hk hs5
    | false =>
      simp only [Bool.false_eq_true, if_false]
      exact back false _ G' s' (hk.2 rfl) hs5
end
end Mine
end
section
open PySem PySem.W PySem.Spec PySem.Calls PyProof.Rows PyProof.Rows.LCg
set_option maxRecDepth 100000
set_option maxHeartbeats 1000000
namespace Mine
theorem off1_mem {D : Addr} : ∀ {l : Led}, Off1 D l → ∀ p ∈ l, p.1 ≠ D
  | [], _, _, h => nomatch h
  | _ :: _, x, p, h => by
    rcases List.mem_cons.mp h with rfl | h
    · exact x.1
    · exact off1_mem x.2 p h
section
variable {x : Fx} {G : Gh} {M J : Led} {dr : Drawn} {m : Loc} {T : Post} {E : Value → Shared → Prop} {e elt tg iter : Expr} {ifs : List Expr} {rest : List Stmt} {D : Addr} {K : Value → Gh → Prop} {n y : Str} {p p1 p2 p3 pos py : Pos} {d u : Nat} {scope : Scope} {cl : List (Str × Addr)}
theorem st_new {s : Shared} {m' : Loc} {h' : Heap} {o : Obj} {tk : Nat} (F : Fr x.h₀ x.L h' m') (N : News x.h₀ x.L h' ((D, o) :: (x.H ++ (M ++ J)))) (S : Sep (x.H ++ M) J) (off : Off1 D (x.H ++ (M ++ J))) (r : s.gens = x.g ∧ s.os = x.os ∧ s.drawn = dr) : St x ⟨M, (D, o) :: J, dr⟩ m' { s with heap := h', toks := tk } := by
  refine ⟨F, news_sub N fun p hp => ?_, ⟨S.1, fun p hp q hq => ?_⟩, r⟩
  · simp only [List.mem_append, List.mem_cons] at hp ⊢
    rcases hp with h | h | h | h
    · exact .inr (.inl h)
    · exact .inr (.inr (.inl h))
    · exact .inl h
    · exact .inr (.inr (.inr h))
  · rcases List.mem_cons.mp hq with rfl | hq
    · exact off1_mem off p (by rw [← List.append_assoc]; exact List.mem_append_left _ hp)
    · exact S.2 p hp q hq
def CompK (x : Fx) (m : Loc) (scope : Scope) (cl : List (Str × Addr)) (tg elt : Expr) (ifs : List Expr) (K : Value → Gh → Prop) (u : Value) (G : Gh) : Prop :=
  ∃ ax osrc its n, ∃ Inv : Nat → List Value → Led → Led → Prop, u = .ref ax ∧ (osrc = listOf (List.toArray its) n ∨ osrc = tupN its n) ∧ its.length ≤ 100000 ∧ Inv 0 [] G.M G.J ∧ (∀ i ys M J, Inv i ys M J → Has x J ax osrc) ∧
    (∀ i v ys M J, its[i]? = some v → Inv i ys M J → TurnK x m G.d scope cl tg elt ifs Inv i v ys M J) ∧ ∀ D ys M J, Inv its.length ys M J → K (.ref D) ⟨M, (D, lst ys) :: J, G.d⟩
theorem src_comp {s : Shared} {Fin : Shared → List Value → Led → Prop} {v : Value} (hkind : scope.kind = .function) (hdbg : ∀ y ∈ scope.names, (y.1 == ("__debug__" : Str)) = false) (hs : St x G m s) (h : CompK x m scope cl tg elt ifs K v G)
    (hfin : ∀ g ys M J, (∀ D, K (.ref D) ⟨M, (D, lst ys) :: J, G.d⟩) → Sep (x.H ++ M) J → Fin { s with heap := g } ys (x.H ++ (M ++ J))) : SrcM PG x.w x.A x.h₀ x.L m x.env scope cl tg elt ifs Fin v s := by
  obtain ⟨ax, osrc, its, n, Inv, rfl, ho, hz, h0, hsrc, turn, fin⟩ := h
  refine ⟨ax, osrc, its, n, x.H ++ (G.M ++ G.J), fun i ys nw => ∃ M J, nw = x.H ++ (M ++ J) ∧ Sep (x.H ++ M) J ∧ Inv i ys M J, rfl, x.hh, hs.1, hs.2.1, ho, hz, ⟨_, _, rfl, hs.2.2.1, h0⟩, (hsrc _ _ _ _ h0).get hs, ?_, ?_, ?_⟩
  · rintro i ys nw h ⟨M, J, rfl, _, hI⟩ F N
    rcases hsrc _ _ _ _ hI with h1 | h1
    · exact (N _ (List.mem_append_right _ (List.mem_append_right _ h1))).1
    · exact F.keep _ _ h1
  · rintro g i v ys nw hv ⟨M, J, rfl, S, hI⟩
    exact turn_ok hkind hdbg S hs.2.2.2 (turn i v ys M J hv hI)
  · rintro g ys nw ⟨M, J, rfl, S, hI⟩
    exact hfin g ys M J (fun D => fin D ys M J hI) S
theorem ec_comp (hclos : closureFor scope x.env = pure cl) (hcell : ∀ y ∈ scope.names, y.2 ≠ .cell) (hkind : scope.kind = .function) (hnames : ∀ y ∈ scope.names, y.2 = .local → scope.names.lookup y.1 = some .local) (hdbg : ∀ y ∈ scope.names, (y.1 == ("__debug__" : Str)) = false)
    (hs : ∀ y, foldedSetIterable iter x.env y = pure y) (h : EvC x G m iter (CompK x m scope cl tg elt ifs K)) : EvC x G m (.ListComp elt [⟨tg, iter, ifs, 0⟩] scope pos) K := fun s hs0 Q E q =>
  comp_eval hclos hcell hkind hnames (h s hs0 _ _ fun v G1 s1 hk hs1 => src_comp hkind hdbg hs1 hk fun g ys M J hK S D h tk F N off => q _ _ _ (hK D) (st_new F N S off hs1.2.2.2)) hs
theorem go_comp (c : LocX x y) (hsw : swapsWith (.ListComp elt [⟨tg, iter, ifs, 0⟩] scope pos) (some (.Name y py)) p.line x.env = pure true) (hclos : closureFor scope x.env = pure cl) (hcell : ∀ y ∈ scope.names, y.2 ≠ .cell) (hkind : scope.kind = .function) (hnames : ∀ y ∈ scope.names, y.2 = .local → scope.names.lookup y.1 = some .local) (hdbg : ∀ y ∈ scope.names, (y.1 == ("__debug__" : Str)) = false)
    (hs : ∀ y, foldedSetIterable iter x.env y = pure y) (h : EvC x G m iter (CompK x m scope cl tg elt ifs fun v G' => Go x G' (fun z => if z = y then some v else m z) rest T E)) : Go x G m (.Assign [.Name y py] (.ListComp elt [⟨tg, iter, ifs, 0⟩] scope pos) p :: rest) T E := go_cons_of fun s hs0 =>
  comp_assign c.at' hsw hclos hcell hkind hnames c.loc (by rw [c.kind]; rfl) (h s hs0 _ _ fun v G1 s1 hk hs1 => src_comp hkind hdbg hs1 hk fun g ys M J hK S D h tk F N off => ⟨_, _, st_new F N S off hs1.2.2.2, hK D⟩) hs
def CompR (x : Fx) (m : Loc) (scope : Scope) (cl : List (Str × Addr)) (tg elt : Expr) (ifs : List Expr) (K : Value → Gh → Prop) (u : Value) (G : Gh) : Prop :=
  ∃ (n : Nat) (t : Tok), ∃ Inv : Nat → List Value → Led → Led → Prop, u = .int n t ∧ n ≤ 100000 ∧ Inv 0 [] G.M G.J ∧ (∀ i t ys M J, i < n → Inv i ys M J → TurnK x m G.d scope cl tg elt ifs Inv i (.int i t) ys M J) ∧ ∀ D ys M J, Inv n ys M J → K (.ref D) ⟨M, (D, lst ys) :: J, G.d⟩
theorem src_range {s : Shared} {Fin : Shared → List Value → Led → Prop} {v : Value} {Q : Value → Shared → Prop} {ax : Addr} {osrc : Obj} (hax : x.h₀.get? ax = some osrc) (hkind : scope.kind = .function) (hdbg : ∀ y ∈ scope.names, (y.1 == ("__debug__" : Str)) = false) (hs : St x G m s) (h : CompR x m scope cl tg elt ifs K v G)
    (hfin : ∀ g k ys M J, (∀ D, K (.ref D) ⟨M, (D, lst ys) :: J, G.d⟩) → Sep (x.H ++ M) J → Fin { s with heap := g, toks := k } ys (x.H ++ (M ++ J))) : wpAny (model PG x.w) x.A (call (.type "range") [v]) (SrcR PG x.w x.A x.h₀ x.L m x.env scope cl tg elt ifs Fin) E s := by
  obtain ⟨n, t, Inv, rfl, hz, h0, turn, fin⟩ := h
  refine range1_rows hs.1 hs.2.1 fun h' tk t' u' v' hR F N up => ?_
  refine ⟨_, ax, osrc, n, t', u', v', x.H ++ (G.M ++ G.J), fun i ys nw => ∃ M J, nw = x.H ++ (M ++ J) ∧ Sep (x.H ++ M) J ∧ Inv i ys M J, rfl, x.hh, F, N, hR, hz, hax, ⟨_, _, rfl, hs.2.2.1, h0⟩, ?_, ?_⟩
  · rintro g i t ys nw hi ⟨M, J, rfl, S, hI⟩
    exact turn_ok hkind hdbg S hs.2.2.2 (turn i t ys M J hi hI)
  · rintro g ys nw ⟨M, J, rfl, S, hI⟩
    exact hfin g tk ys M J (fun D => fin D ys M J hI) S
theorem ev_range {s : Shared} {Q : Value → Shared → Prop} (hg : NameIs x n (.type "range")) (hs1 : starEach [e] x.env = (false, eval e x.env) :: starEach [] x.env) (hs : St x G m s)
    (h : EvC x G m e fun v G1 => ∀ s1, St x G1 m s1 → wpAny (model PG x.w) x.A (call (.type "range") [v]) Q E s1) : wpAny (model PG x.w) x.A (eval (.Call (.Name n p1) [e] [] p2) x.env) Q E s :=
  Call_ (hg _ _ _ hs _ _ _ (PyProof.Rows.callWith_type1 (args_cons (h s hs _ _ fun v G' s' hk hs' => args_nil (hk s' hs')) hs1) hs1 rfl))
theorem go_range {ax : Addr} {osrc : Obj} (hax : x.h₀.get? ax = some osrc) (hg : NameIs x n (.type "range")) (hs1 : starEach [e] x.env = (false, eval e x.env) :: starEach [] x.env) (c : LocX x y) (hsw : swapsWith (.ListComp elt [⟨tg, .Call (.Name n p1) [e] [] p2, ifs, 0⟩] scope pos) (some (.Name y py)) p.line x.env = pure true) (hclos : closureFor scope x.env = pure cl) (hcell : ∀ y ∈ scope.names, y.2 ≠ .cell) (hkind : scope.kind = .function) (hnames : ∀ y ∈ scope.names, y.2 = .local → scope.names.lookup y.1 = some .local) (hdbg : ∀ y ∈ scope.names, (y.1 == ("__debug__" : Str)) = false)
    (hs : ∀ y, foldedSetIterable (.Call (.Name n p1) [e] [] p2) x.env y = pure y) (h : EvC x G m e (CompR x m scope cl tg elt ifs fun v G' => Go x G' (fun z => if z = y then some v else m z) rest T E)) : Go x G m (.Assign [.Name y py] (.ListComp elt [⟨tg, .Call (.Name n p1) [e] [] p2, ifs, 0⟩] scope pos) p :: rest) T E := go_cons_of fun s hs0 =>
  compR_assign hs0.1 c.at' hsw hclos hcell hkind hnames c.loc (by rw [c.kind]; rfl) (ev_range hg hs1 hs0 (fun s0 h0 Q0 E0 q0 => h s0 h0 _ _ fun v G1 s1 hk hs1 => q0 _ _ _ (fun s2 hs2 => src_range (Q := fun _ _ => True) hax hkind hdbg hs2 hk fun g k ys M J hK S D h tk F N off => ⟨_, _, st_new F N S off hs2.2.2.2, hK D⟩) hs1)) hs
end
end Mine
end
section
open PySem PySem.W PySem.Spec PySem.Calls PyProof.Rows
set_option maxRecDepth 100000
namespace Mine
def OwnOff (fd : Addr) (J own : Led) : Prop := ∀ p ∈ own, (@Ne Nat p.1 fd) ∧ ∀ q ∈ J, @Ne Nat p.1 q.1
def ownOf (fd : Addr) (J L0 : Led) : Led := L0.filter fun p => decide ((@Ne Nat p.1 fd) ∧ ∀ q ∈ J, @Ne Nat p.1 q.1)
end Mine
end
section
open PySem PySem.W PySem.Spec PySem.Calls PyProof.Rows PyProof.Rows.LCg
set_option maxRecDepth 100000
set_option maxHeartbeats 4000000
namespace Mine
def emit2 (e iter2 : Expr) : Value → Env → Sem Unit := fun acc env => eval iter2 env >>= fun x => standAt iter2.pos >>= fun _ => foldedSetIterable iter2 env x >>= fun x => holding [x] (pyIter x) >>= fun it => runOwn (.compStart e 1 it acc env) env >>= fun _ => pure ()
section
variable {prog : Program} {w : World} {A : Around} {E : Value → Shared → Prop} {s : Shared} {h₀ : Heap} {L C : Addr} {m m₂ : Str → Option Value} {env : Env} {scope : Scope} {cl : List (Str × Addr)} {J : Led}
theorem turn_emit2 {elt tg iter tg2 iter2 : Expr} {pos : Pos} (it acc : Value) (env : Env) : compTurn (.ListComp elt (⟨tg, iter, [], 0⟩ :: [⟨tg2, iter2, [], 0⟩]) scope pos) 0 it acc env = (standAt iter.pos >>= fun _ => pyNext it >>= fun r => match r with
      | none => pure (.done .next)
      | some v => letOwnedTupleGo tg it v >>= fun _ => assign tg env v >>= fun _ => emit2 (.ListComp elt (⟨tg, iter, [], 0⟩ :: [⟨tg2, iter2, [], 0⟩]) scope pos) iter2 acc env >>= fun _ => again (.compLoop (.ListComp elt (⟨tg, iter, [], 0⟩ :: [⟨tg2, iter2, [], 0⟩]) scope pos) 0 it acc env)) := by
  unfold emit2
  simp only [bind_assoc, pure_bind]
  rfl
theorem turn_inner {elt tg iter tg2 iter2 : Expr} {pos : Pos} (it acc : Value) (env : Env) : compTurn (.ListComp elt (⟨tg, iter, [], 0⟩ :: [⟨tg2, iter2, [], 0⟩]) scope pos) 1 it acc env = (standAt iter2.pos >>= fun _ => pyNext it >>= fun r => match r with
      | none => pure (.done .next)
      | some v => letOwnedTupleGo tg2 it v >>= fun _ => assign tg2 env v >>= fun _ => emit1 elt acc env >>= fun _ => again (.compLoop (.ListComp elt (⟨tg, iter, [], 0⟩ :: [⟨tg2, iter2, [], 0⟩]) scope pos) 1 it acc env)) := rfl
theorem loop_d {R : Result → Shared → Prop} {elt tg2 iter2 : Expr} {gens : List Comprehension} {d : Nat} {pos : Pos} {it acc : Value} {env : Env} {emit : Sem Unit} (I : Nat → Shared → Prop)
    (hct : compTurn (.ListComp elt gens scope pos) d it acc env = (standAt iter2.pos >>= fun _ => pyNext it >>= fun r => match r with
      | none => pure (.done .next)
      | some v => letOwnedTupleGo tg2 it v >>= fun _ => assign tg2 env v >>= fun _ => emit >>= fun _ => again (.compLoop (.ListComp elt gens scope pos) d it acc env)))
    (turn : ∀ n s, I n s → wpAny (model prog w) A (pyNext it) (fun r s₁ => match r with
      | none => R (.ok .next) s₁
      | some v => wpAny (model prog w) A (letOwnedTupleGo tg2 it v) (fun _ s₁' => wpAny (model prog w) A (assign tg2 env v) (fun _ s₂ =>
          wpAny (model prog w) A emit (fun _ s₅ => ∃ m, m < n ∧ I m s₅) (notedBy (model prog w) A env fun e s' => R (.error e) s') s₂) (notedBy (model prog w) A env fun e s' => R (.error e) s') s₁') (notedBy (model prog w) A env fun e s' => R (.error e) s') s₁) (notedBy (model prog w) A env fun e s' => R (.error e) s') s)
    (n : Nat) (h : I n s) : codeAny (model prog w) A (.compLoop (.ListComp elt gens scope pos) d it acc env) R s := by
  refine codeAny_loop rfl I (fun n s hI => ?_) n h
  show wpAny _ A ((compTurn (.ListComp elt gens scope pos) d it acc env).onRaise (fun x => do noteFrame x env; theTreesLotGoes x)) _ _ s
  refine wpAny_noted ?_
  rw [hct]
  refine wpAny_bind (wpAny_standAt (wpAny_bind (wpAny_mono (turn n s hI) (fun r s₁ h₁ => ?_) fun _ _ h' => h')))
  cases r with
  | none => exact wpAny_pure h₁
  | some v =>
    refine wpAny_bind (wpAny_mono h₁ (fun _ s₁' h₁' => ?_) fun _ _ h' => h')
    refine wpAny_bind (wpAny_mono h₁' (fun _ s₂ h₂ => wpAny_bind (wpAny_mono h₂ (fun _ s₅ h₅ => wpAny_pure ⟨rfl, h₅⟩) fun _ _ h' => h')) fun _ _ h' => h')
theorem start_d {R : Result → Shared → Prop} {elt : Expr} {tg iter tg2 iter2 : Expr} {pos : Pos} {it acc : Value} {env : Env}
    (h0 : codeAny (model prog w) A (.compLoop (.ListComp elt [⟨tg, iter, [], 0⟩, ⟨tg2, iter2, [], 0⟩] scope pos) 1 it acc env) R s)
    (h : wpAny (model prog w) A (pyIter it) (fun it' s' => codeAny (model prog w) A (.compLoop (.ListComp elt [⟨tg, iter, [], 0⟩, ⟨tg2, iter2, [], 0⟩] scope pos) 1 it' acc env) R s')
      (notedBy (model prog w) A env fun x s' => R (.error x) s') s) :
    codeAny (model prog w) A (.compStart (.ListComp elt [⟨tg, iter, [], 0⟩, ⟨tg2, iter2, [], 0⟩] scope pos) 1 it acc env) R s := by
  refine codeAny_of_tree ?_
  show wpAny _ _ ((compStart (.ListComp elt [⟨tg, iter, [], 0⟩, ⟨tg2, iter2, [], 0⟩] scope pos) 1 it acc env).onRaise (fun x => do noteFrame x env; standAt theWindowsPlace)) _ _ s
  refine wpAny_notedAt ?_
  unfold compStart
  show wpAny _ _ (ask >>= _) _ _ s
  refine wpAny_bind (wpAny_askSetting (wpAny_ite ?_))
  split
  · first
      | exact wpAny_bind (wpAny_pure (wpAny_pure (And.intro rfl h0)))
      | exact wpAny_pure (And.intro rfl h0)
  · first
      | exact wpAny_bind (wpAny_rule (wpAny_bind (wpAny_standAt (wpAny_bind (wpAny_mono h (fun it' s' h' => wpAny_pure (And.intro rfl h')) fun _ _ x => x)))))
      | (refine wpAny_bind (wpAny_rule ?_); show wpAny _ _ (standAt iter2.pos >>= _) _ _ s; exact wpAny_bind (wpAny_standAt (wpAny_bind (wpAny_mono h (fun it' s' h' => wpAny_pure (And.intro rfl h')) fun _ _ x => x))))
theorem bind3 {x y z : Str} {p q r tp : Pos} {k : Nat} {T : Addr} {v u w' : Value} {n : Nat} {Q : Unit → Shared → Prop} (hh : A.handled = none) (hkind : scope.kind = .function) (hx : scope.names.lookup x = some .local) (hy : scope.names.lookup y = some .local) (hz : scope.names.lookup z = some .local) (hxy : x ≠ y) (hxz : x ≠ z) (hyz : y ≠ z)
    (hn : s.heap.Ns C m₂) (ht : s.heap.get? T = some (tupN [v, u, w'] n))
    (h : ∀ h₃ tk m₃, (∀ b o, b ≠ C → s.heap.get? b = some o → h₃.get? b = some o) → h₃.Ns C m₃ → m₃ x = some v → m₃ y = some u → m₃ z = some w' → (∀ k9, k9 ≠ x → k9 ≠ y → k9 ≠ z → m₃ k9 = m₂ k9) → Q () { s with heap := h₃, toks := tk }) :
    wpAny (model prog w) A (assign (.Tuple [.Name x p, .Name y q, .Name z r] k tp) (compEnvC scope cl C env) (.ref T)) Q E s := by
  have hp : ((compEnvC scope cl C env).scope.kind == .class || ((compEnvC scope cl C env).scope.kind == .module && (compEnvC scope cl C env).locals != (compEnvC scope cl C env).globals)) = false := by simp [compEnvC, relabel, hkind]
  have hT : IsTup s.heap T [v, u, w'].toArray := ⟨_, ht, rfl, n, rfl⟩
  refine assign_Tuple_tuple hh hT rfl rfl fun h5 he => ?_
  have he' : ∀ b o, s.heap.get? b = some o → h5.get? b = some o := fun b o e => he b o (Nat.ne_of_lt (Heap.lt_size e)) e
  refine assignInOrder_cons (wpAny_assign_Name (wpAny_storeName_local (lookup_relabel_local hx) (hn.at' fun o e => he' _ o e) (fun h₆ hn₆ hs₆ => ?_) hp))
  refine assignInOrder_cons (wpAny_assign_Name (wpAny_storeName_local (lookup_relabel_local hy) hn₆ (fun h₇ hn₇ hs₇ => ?_) hp))
  refine assignInOrder_cons (wpAny_assign_Name (wpAny_storeName_local (lookup_relabel_local hz) hn₇ (fun h₃ hn₃ hs₃ => ?_) hp))
  refine assignInOrder_nil ?_
  exact h h₃ _ _ (fun b o hne e => hs₃.extBut b o hne (hs₇.extBut b o hne (hs₆.extBut b o hne (he' b o e)))) hn₃ (by simp [hxy, hxz]) (by simp [hyz]) (by simp) (fun k9 a b c => by simp [a, b, c])
end
end Mine
end
section
open PySem PySem.W PySem.Spec PySem.Calls PyProof.Rows PyProof.Rows.LCg
set_option maxRecDepth 100000
set_option maxHeartbeats 4000000
namespace Mine
section
variable {prog : Program} {w : World} {A : Around} {E : Value → Shared → Prop} {s : Shared} {h₀ : Heap} {L C : Addr} {m mC : Str → Option Value} {env : Env} {scope : Scope} {cl : List (Str × Addr)} {J : Led}
def InnI (s : Shared) (h₀ : Heap) (L I C D e K rl : Addr) (oI oe : Obj) (m : Str → Option Value) (kx : Str) (kv : Value) (rvs : List Value) (Inv : Nat → List Value → Led → Prop) (n : Nat) (s' : Shared) : Prop :=
  ∃ h' tk j ys' nw' oC' mC', s' = { s with heap := h', toks := tk } ∧ j ≤ rvs.length ∧ n = rvs.length + 1 - j ∧ (h'.IsListIter K rl j ∧ h'.IsList rl rvs.toArray) ∧ Fr h₀ L h' m ∧ News h₀ L h' ((I, oI) :: (C, oC') :: (D, lst ys') :: (e, oe) :: nw') ∧ NsObj oC' mC' ∧ mC' kx = some kv ∧ Offs K nw' ∧ Off4 e I C D nw' ∧ Inv j ys' nw'
theorem inner_rows {elt tg1 iter1 : Expr} {pos pp tp px py pz : Pos} {kt : Nat} {x y z rx kx : Str} {kv : Value} {I D e rl : Addr} {oI oC oe : Obj} {ys rvs : List Value} {nw : Led} {kk : Nat}
    (hh : A.handled = none) (hkind : scope.kind = .function) (hx : scope.names.lookup x = some .local) (hy : scope.names.lookup y = some .local) (hz : scope.names.lookup z = some .local) (hxy : x ≠ y) (hxz : x ≠ z) (hyz : y ≠ z) (k1 : kx ≠ x) (k2 : kx ≠ y) (k3 : kx ≠ z)
    (hlr : (compEnvC scope cl C env).kindOf rx = some .local) (hdb : (rx == ("__debug__" : Str)) = false)
    (F : Fr h₀ L s.heap m) (N : News h₀ L s.heap ((I, oI) :: (C, oC) :: (D, lst ys) :: (e, oe) :: nw)) (off : Off4 e I C D nw) (n1 : @Ne Nat I C) (n2 : @Ne Nat I D) (n3 : @Ne Nat C D) (n5 : @Ne Nat e C) (n6 : @Ne Nat e D)
    (hC : NsObj oC mC) (hrx : mC rx = some (.ref rl)) (hk : mC kx = some kv)
    (Inv : Nat → List Value → Led → Prop) (h0 : Inv 0 ys nw) (hsub : ∀ j ys' nw', Inv j ys' nw' → (rl, listOf rvs.toArray kk) ∈ nw') (hlen : ∀ j ys' nw', Inv j ys' nw' → ys'.length ≤ 90000)
    (row : ∀ j v ys' nw', rvs[j]? = some v → Inv j ys' nw' → ∃ T v1 v2 v3 n, v = .ref T ∧ (T, tupN [v1, v2, v3] n) ∈ nw' ∧
      ∀ J oJ oC' mC' h tk (E' : Value → Shared → Prop), NsObj oC' mC' → mC' x = some v1 → mC' y = some v2 → mC' z = some v3 → mC' kx = some kv → Fr h₀ L h m → News h₀ L h ((J, oJ) :: (I, oI) :: (C, oC') :: (D, lst ys') :: (e, oe) :: nw') → Offs J nw' → Off4 e I C D nw' → (@Ne Nat J I ∧ @Ne Nat J C ∧ @Ne Nat J D ∧ @Ne Nat J e) →
        wpAny (model prog w) A (eval elt (compEnvC scope cl C env)) (fun y9 s' => ∃ h' tk' nw'', s' = { s with heap := h', toks := tk' } ∧ Fr h₀ L h' m ∧ News h₀ L h' ((J, oJ) :: (I, oI) :: (C, oC') :: (D, lst ys') :: (e, oe) :: nw'') ∧ Offs J nw'' ∧ Off4 e I C D nw'' ∧ Inv (j + 1) (ys' ++ [y9]) nw'') E' { s with heap := h, toks := tk })
    {Q : Unit → Shared → Prop} (fin : ∀ h' tk ys' nw' oC' mC', Fr h₀ L h' m → News h₀ L h' ((I, oI) :: (C, oC') :: (D, lst ys') :: (e, oe) :: nw') → NsObj oC' mC' → Off4 e I C D nw' → Inv rvs.length ys' nw' → Q () { s with heap := h', toks := tk }) :
    wpAny (model prog w) A (emit2 (.ListComp elt [⟨tg1, iter1, [], 0⟩, ⟨.Tuple [.Name x px, .Name y py, .Name z pz] kt tp, .Name rx pp, [], 0⟩] scope pos) (.Name rx pp) (.ref D) (compEnvC scope cl C env)) Q E s := by
  unfold emit2
  refine wpAny_bind (LCgL.ld_own N (.tail _ (.head _)) hC hrx ?_ hkind hlr hdb)
  refine wpAny_bind (wpAny_standAt ?_)
  refine wpAny_bind (wpAny_of_eq (a := Value.ref rl) rfl ?_)
  have hm := hsub _ _ _ h0
  have z0 := (N _ (.tail _ (.tail _ (.tail _ (.tail _ hm))))).1
  have hl : s.heap.IsList rl rvs.toArray := ⟨_, z0, rfl, kk, rfl⟩
  refine wpAny_bind (wpAny_holding (wpAny_pyIter_list hl ?_))
  obtain ⟨K, hK⟩ : ∃ K : Addr, s.heap.objs.size = K := ⟨_, rfl⟩
  have hne : rl ≠ K := hK ▸ Nat.ne_of_lt (Heap.lt_size z0)
  have W := Walks.list (prog := prog) (w := w) (A := A) hh K rl hne rvs.toArray
  rw [List.size_toArray] at W
  rw [hK]
  have up : ∀ b o, s.heap.get? b = some o → (s.heap.push { cls := .type "list_iterator", data := .fields #[.ref rl, .int 0 0] }).get? b = some o := fun b o e => Heap.get?_push_of_some _ e
  have hKL : L ≠ K := hK ▸ Nat.ne_of_lt F.ns.lt
  have hK₀ : h₀.get? K = none := hK ▸ next_is_new F
  have offK : Offs K ((I, oI) :: (C, oC) :: (D, lst ys) :: (e, oe) :: nw) := fun p hp => hK ▸ Nat.ne_of_lt (Heap.lt_size (N p hp).1)
  have aI := offK _ (.head _)
  have aC := offK _ (.tail _ (.head _))
  have aD := offK _ (.tail _ (.tail _ (.head _)))
  have aE := offK _ (.tail _ (.tail _ (.tail _ (.head _))))
  dsimp only at aI aC aD aE
  have hC₀ := (N _ (.tail _ (.head _))).2
  have hD₀ := (N _ (.tail _ (.tail _ (.head _)))).2
  dsimp only at hC₀ hD₀
  refine wpAny_bind (wpAny_runOwn ?_)
  rw [show A.mark none = A from rfl]
  have loop : codeAny (model prog w) A (.compLoop (.ListComp elt [⟨tg1, iter1, [], 0⟩, ⟨.Tuple [.Name x px, .Name y py, .Name z pz] kt tp, .Name rx pp, [], 0⟩] scope pos) 1 (.ref K) (.ref D) (compEnvC scope cl C env))
      (fun r s' => match r with | .ok f => wpAny (model prog w) A (pure ()) Q E s' | .error e => cameBackBy (model prog w) A (compEnvC scope cl C env) E e s')
      { s with heap := s.heap.push { cls := .type "list_iterator", data := .fields #[.ref rl, .int 0 0] } } := by
    refine loop_d (InnI s h₀ L I C D e K rl oI oe m kx kv rvs Inv) (turn_inner _ _ _) ?_ (rvs.length + 1)
      ⟨_, s.toks, 0, ys, nw, oC, mC, rfl, Nat.zero_le _, rfl, ⟨⟨_, hK ▸ Heap.get?_push_size _ rfl, rfl, rfl⟩, hl.at fun o e => up _ _ e⟩, F.keeps up, N.grown up, hC, hk, fun p hp => offK p (.tail _ (.tail _ (.tail _ (.tail _ hp)))), off, h0⟩
    rintro n s' ⟨h', tk, j, ys', nw', oC', mC', rfl, hj, rfl, hst, F', N', hC', hk', offK', off', hv'⟩
    have offA : Offs K ((I, oI) :: (C, oC') :: (D, lst ys') :: (e, oe) :: nw') := fun p hp => by
      rcases List.mem_cons.mp hp with rfl | hp
      · exact aI
      · rcases List.mem_cons.mp hp with rfl | hp
        · exact aC
        · rcases List.mem_cons.mp hp with rfl | hp
          · exact aD
          · rcases List.mem_cons.mp hp with rfl | hp
            · exact aE
            · exact offK' p hp
    by_cases hlt : j < rvs.length
    · refine W.item j _ _ _ hlt hst fun v h₂ tk₂ hPv hst₂ hk₂ => ?_
      have F₂ := fr_but F' hk₂ hKL hK₀
      have N₂ := news_but N' hk₂ offA
      obtain ⟨oK, heK, hcK, hdK⟩ := hst₂.1
      refine own_none heK hcK hdK (by decide) ?_
      obtain ⟨T, v1, v2, v3, n9, rfl, hT, body⟩ := row j v ys' nw' (by simpa using hPv) hv'
      refine bind3 hh hkind hx hy hz hxy hxz hyz (hC'.ns (N₂ _ (.tail _ (.head _))).1) (N₂ _ (.tail _ (.tail _ (.tail _ (.tail _ hT))))).1 fun h₃ tk₃ m₃ hg hn₃ e1 e2 e3 hkeep => ?_
      obtain ⟨oC₃, heC, hoC₃⟩ := ns_obj hn₃
      have F₃ : Fr h₀ L h₃ m := ⟨F₂.ns.at' fun o q => hg L o (Ne.symm hC₀.1) q, fun b o q => hg b o (fun q9 => by rw [q9, hC₀.2] at q; cases q) (F₂.keep b o q), F₂.above⟩
      have N₃ : News h₀ L h₃ ((K, oK) :: (I, oI) :: (C, oC₃) :: (D, lst ys') :: (e, oe) :: nw') := fun p hp => by
        rcases List.mem_cons.mp hp with rfl | hp
        · exact ⟨hg _ _ (Ne.symm aC) heK, Ne.symm hKL, hK₀⟩
        · rcases List.mem_cons.mp hp with rfl | hp
          · exact ⟨hg _ _ n1 (N₂ _ (.head _)).1, (N₂ _ (.head _)).2⟩
          · rcases List.mem_cons.mp hp with rfl | hp
            · exact ⟨heC, hC₀⟩
            · have z := N₂ p (.tail _ (.tail _ hp))
              refine ⟨hg _ _ ?_ z.1, z.2⟩
              rcases List.mem_cons.mp hp with rfl | hp
              · exact Ne.symm n3
              · rcases List.mem_cons.mp hp with rfl | hp
                · exact n5
                · exact (off' p hp).2.2.1
      refine wpAny_bind (wpAny_mono (body K oK oC₃ m₃ h₃ tk₃ _ hoC₃ e1 e2 e3 ((hkeep kx k1 k2 k3).trans hk') F₃ N₃ offK' off' ⟨Ne.symm aI, Ne.symm aC, Ne.symm aD, Ne.symm aE⟩) (fun y9 s₅ h₅ => ?_) fun _ _ e => e)
      obtain ⟨h₅, tk₅, nw₅, rfl, F₅, N₅, offK₅, off₅, hv₅⟩ := h₅
      have zD := N₅ (D, lst ys') (.tail _ (.tail _ (.tail _ (.head _))))
      have hyl := hlen _ _ _ hv'
      refine wpAny_bind (append_at (hsz := by show ys'.toArray.size ≤ sizeLine; rw [List.size_toArray]; exact fits (by omega)) zD.1 fun h₆ hs₆ hD₆ => wpAny_pure ?_)
      refine ⟨rvs.length + 1 - (j + 1), by omega, h₆, tk₅, j + 1, ys' ++ [y9], nw₅, oC₃, m₃, rfl, hlt, rfl, W.frame (j + 1) h₂ h₆ hst₂ fun b hb o q => ?_, F₅.change hs₆ zD.2.1 zD.2.2, fun p hp => ?_, hoC₃, (hkeep kx k1 k2 k3).trans hk', offK₅, off₅, hv₅⟩
      · rcases List.mem_cons.mp hb with rfl | hb
        · rw [heK] at q; cases q
          exact hs₆.extBut _ _ (Ne.symm aD) (N₅ _ (.head _)).1
        · rw [List.mem_singleton.mp hb] at q ⊢
          have q1 := (N₂ _ (.tail _ (.tail _ (.tail _ (.tail _ (hsub _ _ _ hv')))))).1
          rw [q1] at q; cases q
          have q2 := hsub _ _ _ hv₅
          exact hs₆.extBut _ _ (off₅ _ q2).2.2.2 (N₅ _ (.tail _ (.tail _ (.tail _ (.tail _ (.tail _ q2)))))).1
      · rcases List.mem_cons.mp hp with rfl | hp
        · exact ⟨hs₆.extBut _ _ n2 (N₅ _ (.tail _ (.head _))).1, (N₅ _ (.tail _ (.head _))).2⟩
        · rcases List.mem_cons.mp hp with rfl | hp
          · exact ⟨hs₆.extBut _ _ n3 (N₅ _ (.tail _ (.tail _ (.head _)))).1, (N₅ _ (.tail _ (.tail _ (.head _)))).2⟩
          · rcases List.mem_cons.mp hp with rfl | hp
            · exact ⟨hD₆.trans (congrArg some (lst_snoc ys' y9)), zD.2⟩
            · have z := N₅ p (.tail _ (.tail _ (.tail _ (.tail _ hp))))
              refine ⟨hs₆.extBut _ _ ?_ z.1, z.2⟩
              rcases List.mem_cons.mp hp with rfl | hp
              · exact n6
              · exact (off₅ p hp).2.2.2
    · obtain rfl : j = rvs.length := Nat.le_antisymm hj (Nat.not_lt.mp hlt)
      refine W.done _ _ _ hst fun h₂ tk₂ hk₂ => ?_
      exact wpAny_pure (fin h₂ tk₂ ys' nw' oC' mC' (fr_but F' hk₂ hKL hK₀) (news_but N' hk₂ offA) hC' off' hv')
  exact start_d loop (wpAny_pyIter_listiter ⟨_, hK ▸ Heap.get?_push_size _ rfl, rfl, rfl⟩ loop)
end
end Mine
end
section
open PySem PySem.W PySem.Spec PySem.Calls PyProof.Rows PyProof.Rows.LCg
set_option maxRecDepth 100000
set_option maxHeartbeats 4000000
namespace Mine
section
variable {prog : Program} {w : World} {A : Around} {E : Value → Shared → Prop} {s : Shared} {h₀ : Heap} {L C : Addr} {m mC : Str → Option Value} {env : Env} {scope : Scope} {cl : List (Str × Addr)} {J : Led}
theorem src_nest {elt : Expr} {iter : Expr} {pos pp tp px py pz kp op rp tp1 tp2 : Pos} {kt kt1 kt2 : Nat} {x y z kx ox rx : Str} {Fin : Shared → List Value → Led → Prop} {ax : Addr} {its : List Value} {n : Nat} {news : Led}
    (hh : A.handled = none) (F : Fr h₀ L s.heap m) (N : News h₀ L s.heap news) (hm : (ax, listOf its.toArray n) ∈ news) (hsz : its.length ≤ 1000) (hkind : scope.kind = .function)
    (hx : scope.names.lookup x = some .local) (hy : scope.names.lookup y = some .local) (hz : scope.names.lookup z = some .local) (hkx : scope.names.lookup kx = some .local) (hox : scope.names.lookup ox = some .local) (hrx : scope.names.lookup rx = some .local)
    (hxy : x ≠ y) (hxz : x ≠ z) (hyz : y ≠ z) (k1 : kx ≠ x) (k2 : kx ≠ y) (k3 : kx ≠ z) (k4 : kx ≠ ox) (k5 : kx ≠ rx) (k6 : ox ≠ rx) (hdb : (rx == ("__debug__" : Str)) = false)
    (Inv : Nat → Nat → List Value → Led → Prop) (h0 : Inv 0 0 [] news) (hax : ∀ i j ys nw, Inv i j ys nw → (ax, listOf its.toArray n) ∈ nw) (hlen : ∀ i j ys nw, Inv i j ys nw → ys.length ≤ 90000)
    (outer : ∀ i v, its[i]? = some v → ∃ (a : Addr) (one : Value) (rl : Addr) (rvs : List Value) (kk n1 : Nat), v = .ref a ∧ (∀ j ys nw, Inv i j ys nw → (a, tupN [one, .ref rl] n1) ∈ nw ∧ (rl, listOf rvs.toArray kk) ∈ nw) ∧ (∀ ys nw, Inv i rvs.length ys nw → Inv (i + 1) 0 ys nw) ∧
      ∀ (t : Tok) j v ys' nw', rvs[j]? = some v → Inv i j ys' nw' → ∃ T v1 v2 v3 n, v = .ref T ∧ (T, tupN [v1, v2, v3] n) ∈ nw' ∧
        ∀ (I : Addr) oI (C D e : Addr) oe J oJ oC' mC' h tk (E' : Value → Shared → Prop), NsObj oC' mC' → mC' x = some v1 → mC' y = some v2 → mC' z = some v3 → mC' kx = some (.int (i : Int) t) → Fr h₀ L h m → News h₀ L h ((J, oJ) :: (I, oI) :: (C, oC') :: (D, lst ys') :: (e, oe) :: nw') → Offs J nw' → Off4 e I C D nw' → (@Ne Nat J I ∧ @Ne Nat J C ∧ @Ne Nat J D ∧ @Ne Nat J e) → (@Ne Nat I C ∧ @Ne Nat I D ∧ @Ne Nat C D ∧ @Ne Nat e I ∧ @Ne Nat e C ∧ @Ne Nat e D) →
          wpAny (model prog w) A (eval elt (compEnvC scope cl C env)) (fun y9 s' => ∃ h' tk' nw'', s' = { s with heap := h', toks := tk' } ∧ Fr h₀ L h' m ∧ News h₀ L h' ((J, oJ) :: (I, oI) :: (C, oC') :: (D, lst ys') :: (e, oe) :: nw'') ∧ Offs J nw'' ∧ Off4 e I C D nw'' ∧ Inv i (j + 1) (ys' ++ [y9]) nw'') E' { s with heap := h, toks := tk })
    (fin : ∀ g ys nw, Inv its.length 0 ys nw → Fin { s with heap := g } ys nw) :
    wpAny (model prog w) A (call (.type "enumerate") [.ref ax]) (SrcE prog w A h₀ L m env scope cl (.Tuple [.Name kx kp, .Tuple [.Name ox op, .Name rx rp] kt2 tp2] kt1 tp1)
      (emit2 (.ListComp elt [⟨.Tuple [.Name kx kp, .Tuple [.Name ox op, .Name rx rp] kt2 tp2] kt1 tp1, iter, [], 0⟩, ⟨.Tuple [.Name x px, .Name y py, .Name z pz] kt tp, .Name rx pp, [], 0⟩] scope pos) (.Name rx pp)) Fin) E s := by
  have z := (N _ hm).1
  have hlt : ax < s.heap.objs.size := Heap.lt_size z
  have hl : s.heap.IsList ax its.toArray := ⟨_, z, rfl, n, rfl⟩
  have hsize : its.toArray.size = its.length := List.size_toArray
  refine call_enumerate_list hl fun h' he hit hsz' hk => ?_
  have hLs : L < s.heap.objs.size := F.ns.lt
  have hab : h₀.objs.size ≤ L := F.above
  have hI₀ : h₀.get? s.heap.objs.size = none := Heap.get?_none_of_le (Nat.le_trans hab (Nat.le_of_lt hLs))
  have hE₀ : h₀.get? (s.heap.objs.size + 1) = none := Heap.get?_none_of_le (Nat.le_trans hab (Nat.le_of_lt (Nat.lt_succ_of_lt hLs)))
  have D := Draws.list (prog := prog) (w := w) (A := A.in1) hh s.heap.objs.size ax (Nat.ne_of_lt hlt) its.toArray
  rw [hsize] at D
  refine ⟨s.heap.objs.size + 1, s.heap.objs.size, ax, listOf its.toArray n, its.length, _, _, news, fun i ys nw => Inv i 0 ys nw,
    rfl, hh, D, Nat.succ_ne_self _, Nat.ne_of_gt (Nat.lt_succ_of_lt hlt), Nat.ne_of_gt hlt, ⟨hit, hl.at fun o e => hk ax o e⟩, he, ?_, ⟨F.ns.keeps hk, fun b o e => hk b o (F.keep b o e), F.above⟩, fun p hp => ⟨hk _ _ (N p hp).1, (N p hp).2⟩,
    Nat.ne_of_lt hLs, Nat.ne_of_lt (Nat.lt_succ_of_lt hLs), hI₀, hE₀, fun p hp => ⟨Nat.ne_of_lt (Heap.lt_size (N p hp).1), Nat.ne_of_lt (Nat.lt_succ_of_lt (Heap.lt_size (N p hp).1))⟩, h0, fun _ _ _ h => hax _ _ _ _ h, ?_, fin⟩
  · show ax < h'.objs.size
    rw [hsz']; exact Nat.lt_succ_of_lt (Nat.lt_succ_of_lt hlt)
  · intro i v ys nw hi hv hI
    intro oe oI C oC D T t h tk mC E' hoC F₂ N₂ off n1 n2 n3 n4 n5 n6 hT
    obtain ⟨a, one, rl, rvs, kk, nn1, rfl, hmem, hnext, row⟩ := outer i v (by simpa using hv)
    obtain ⟨ha, hrl⟩ := hmem _ _ _ hI
    have zC := (N₂ (C, oC) (.tail _ (.head _)))
    have ha2 : IsTup h a [one, .ref rl].toArray := ⟨_, (N₂ _ (.tail _ (.tail _ (.tail _ (.tail _ ha))))).1, rfl, nn1, rfl⟩
    refine bindT_nest (A := A) hh hkind hkx hox hrx k4 k5 k6 (hoC.ns zC.1) hT ha2 (off _ ha).2.2.1 fun h₃ tk₃ m₃ hg hn₃ e1 e2 e3 => ?_
    obtain ⟨oC₃, heC, hoC₃⟩ := ns_obj hn₃
    have F₃ : Fr h₀ L h₃ m := ⟨F₂.ns.at' fun o e => hg L o (Ne.symm zC.2.1) e, fun b o e => hg b o (fun q => by rw [q, zC.2.2] at e; cases e) (F₂.keep b o e), F₂.above⟩
    have N₃ : News h₀ L h₃ ((s.heap.objs.size, oI) :: (C, oC₃) :: (D, lst ys) :: (s.heap.objs.size + 1, oe) :: nw) := fun p hp => by
      rcases List.mem_cons.mp hp with rfl | hp
      · exact ⟨hg _ _ n1 (N₂ _ (.head _)).1, (N₂ _ (.head _)).2⟩
      · rcases List.mem_cons.mp hp with rfl | hp
        · exact ⟨heC, zC.2⟩
        · have z := N₂ p (.tail _ (.tail _ hp))
          refine ⟨hg _ _ ?_ z.1, z.2⟩
          rcases List.mem_cons.mp hp with rfl | hp
          · exact Ne.symm n3
          · rcases List.mem_cons.mp hp with rfl | hp
            · exact n5
            · exact (off p hp).2.2.1
    refine inner_rows (s := { s with heap := h₃, toks := tk₃ }) (kx := kx) (kv := .int (i : Int) t) hh hkind hx hy hz hxy hxz hyz k1 k2 k3 (lookup_relabel_local hrx) hdb F₃ N₃ off n1 n2 n3 n5 n6 hoC₃ e3 e1 (Inv i) hI (fun j ys' nw' h => (hmem _ _ _ h).2) (fun j ys' nw' h => hlen _ _ _ _ h) ?_ ?_
    · intro j v ys' nw' hv hi
      obtain ⟨T9, v1, v2, v3, n9, q1, q2, q3⟩ := row t j v ys' nw' hv hi
      exact ⟨T9, v1, v2, v3, n9, q1, q2, fun J oJ oC' mC' h tk E' a1 a2 a3 a4 a5 a6 a7 a8 a9 a10 => q3 _ _ _ _ _ _ J oJ oC' mC' h tk E' a1 a2 a3 a4 a5 a6 a7 a8 a9 a10 ⟨n1, n2, n3, n4, n5, n6⟩⟩
    · intro h5 tk5 ys' nw' oC' mC' F5 N5 hC5 off5 hI5
      exact ⟨h5, tk5, ys', nw', oC', mC', rfl, F5, N5, hC5, off5, hnext _ _ hI5⟩
theorem nest_assign {elt iter iter2 tg2 : Expr} {elts : List Expr} {k : Nat} {tp : Pos} {y : Str} {py pos spos : Pos} {Q : Flow → Shared → Prop} (_F₀ : Fr h₀ L s.heap m) (hLe : env.locals = L)
    (hsw : swapsWith (.ListComp elt [⟨.Tuple elts k tp, iter, [], 0⟩, ⟨tg2, iter2, [], 0⟩] scope pos) (some (.Name y py)) spos.line env = pure true)
    (hclos : closureFor scope env = pure cl) (hcell : ∀ y ∈ scope.names, y.2 ≠ .cell) (hkind : scope.kind = .function) (hnames : ∀ y ∈ scope.names, y.2 = .local → scope.names.lookup y.1 = some .local)
    (hy : env.kindOf y = some .local) (hp : (env.scope.kind == .class || (env.scope.kind == .module && env.locals != env.globals)) = false)
    (h : wpAny (model prog w) A (eval iter env) (SrcE prog w A h₀ L m env scope cl (.Tuple elts k tp) (emit2 (.ListComp elt [⟨.Tuple elts k tp, iter, [], 0⟩, ⟨tg2, iter2, [], 0⟩] scope pos) iter2) (fun s₂ => FinA h₀ L m s₂ y Q)) E s)
    (hs : ∀ x, foldedSetIterable iter env x = pure x) :
    wpAny (model prog w) A (exec (.Assign [.Name y py] (.ListComp elt [⟨.Tuple elts k tp, iter, [], 0⟩, ⟨tg2, iter2, [], 0⟩] scope pos) spos) env) Q E s := by
  subst hLe
  rw [exec_Assign_Name_used _ _ _ _ hsw]
  refine wpAny_bind (wpAny_standAt (wpAny_bind ?_))
  show wpAny _ A (do let _ ← comprehension (.ListComp elt [⟨.Tuple elts k tp, iter, [], 0⟩, ⟨tg2, iter2, [], 0⟩] scope pos) scope env _ (newList []) false (eval iter env) (some (assign (.Name y py) env))) _ _ s
  refine wpAny_bind (wpAny_mono (wpAny_comprehension_free (use := some (assign (.Name y py) env)) (Q := fun _ s' => Q .next s') rfl hs hclos hkind hnames
    (wpAny_mono h (fun xv s₁ S => ?_) fun _ _ e => e)) (fun _ s' hq => wpAny_pure (wpAny_pure hq)) fun _ _ e => e)
  obtain ⟨e, I, ax, osrc, n, P, St, news, Inv, rfl, hh, Dr, hei, hea, hIa, hst, he₀, hal, F, N, hIL, heL, hI₀, hE₀, off, hinv, hsrc, turn, fin⟩ := S
  refine wpAny_pyIter_enum he₀ ?_
  refine enum_block (emit := emit2 (.ListComp elt [⟨.Tuple elts k tp, iter, [], 0⟩, ⟨tg2, iter2, [], 0⟩] scope pos) iter2) Inv (fun _ _ _ => turn_emit2 _ _ _) Dr hei hea hIa hcell hkind hst he₀ hal F N hIL heL hI₀ hE₀ off hinv hsrc turn fun D C h' tk m' ys news' F' N' o1 hn hC₀ hD₀ hCL hDL hCD offC hv => ?_
  show wpAny _ A (assign (.Name y py) env (.ref D)) _ _ _
  refine wpAny_assign_Name (wpAny_storeName_local hy F'.ns (fun h₂ hn₂ hs₂ => ?_) hp)
  have hL₀ : h₀.get? env.locals = none := Heap.get?_none_of_le F'.above
  have F₂ : Fr h₀ env.locals h₂ (fun z => if z = y then some (.ref D) else m z) := ⟨hn₂, fun b o e => hs₂.extBut b o (fun q => by rw [q, hL₀] at e; cases e) (F'.keep b o e), F'.above⟩
  refine ⟨m', hn.sameBut hs₂ hCL, fun h'' hs'' => fin s₁.heap ys news' hv D h'' _ (F₂.change hs'' hCL hC₀) (fun p hp => ?_) o1⟩
  have z : h₂.get? p.1 = some p.2 := hs₂.extBut _ _ (N' p hp).2.1 (N' p hp).1
  refine ⟨hs''.extBut _ _ ?_ z, (N' p hp).2⟩
  rcases List.mem_cons.mp hp with rfl | hp
  · exact Ne.symm hCD
  · exact offC p hp
end
end Mine
end
section
open PySem PySem.W PySem.Spec PySem.Calls PyProof.Rows PyProof.Rows.LCg
set_option maxRecDepth 100000
set_option maxHeartbeats 1000000
namespace Mine
section
variable {x : Fx} {G : Gh} {M J : Led} {dr : Drawn} {m : Loc} {T : Post} {E : Value → Shared → Prop} {e elt tg iter : Expr} {ifs : List Expr} {rest : List Stmt} {D : Addr} {K : Value → Gh → Prop} {n y : Str} {p p1 p2 p3 pos py : Pos} {d u : Nat} {scope : Scope} {cl : List (Str × Addr)}
theorem sep_more {l J : Led} {a : Addr × Obj} (S : Sep l J) (h1 : ∀ p ∈ l, p.1 ≠ a.1) (h2 : ∀ p ∈ J, p.1 ≠ a.1) : Sep (a :: l) J := by
  refine ⟨List.nodup_cons.mpr ⟨fun hm => ?_, S.1⟩, fun p hp q hq => ?_⟩
  · obtain ⟨p, hp, e⟩ := List.mem_map.mp hm; exact h1 p hp e
  · rcases List.mem_cons.mp hp with rfl | hp
    · exact Ne.symm (h2 q hq)
    · exact S.2 p hp q hq
theorem sep_head {l J : Led} {a : Addr × Obj} (S : Sep (a :: l) J) : (∀ p ∈ l, p.1 ≠ a.1) ∧ (∀ p ∈ J, p.1 ≠ a.1) ∧ Sep l J := by
  have n1 := List.nodup_cons.mp S.1
  exact ⟨fun p hp e => n1.1 (List.mem_map.mpr ⟨p, hp, e⟩), fun p hp => Ne.symm (S.2 a (.head _) p hp), n1.2, fun p hp => S.2 p (.tail _ hp)⟩
def CompE (x : Fx) (m : Loc) (scope : Scope) (cl : List (Str × Addr)) (kx px : Str) (elt : Expr) (K : Value → Gh → Prop) (u : Value) (G : Gh) : Prop :=
  ∃ ax its n, ∃ Inv : Nat → List Value → Led → Led → Prop, u = .ref ax ∧ its.length ≤ 100000 ∧ Inv 0 [] G.M G.J ∧ (∀ i ys M J, Inv i ys M J → (ax, tupN its n) ∈ J) ∧
    (∀ i v t ys M J x', its[i]? = some v → Inv i ys M J → Inner x scope cl x' → NameIs x' kx (.int (i : Int) t) → NameIs x' px v → EvC x' ⟨M, J, G.d⟩ m elt fun y G2 => G2.d = G.d ∧ Inv (i + 1) (ys ++ [y]) G2.M G2.J) ∧
    ∀ D ys M J, Inv its.length ys M J → K (.ref D) ⟨M, (D, lst ys) :: J, G.d⟩
theorem src_enum {s : Shared} {Fin : Shared → List Value → Led → Prop} {v : Value} {kx px : Str} {q tp : Pos} {k : Nat} (hkind : scope.kind = .function) (hx : scope.names.lookup kx = some .local) (hy : scope.names.lookup px = some .local) (hxy : kx ≠ px) (hdx : (kx == ("__debug__" : Str)) = false) (hdy : (px == ("__debug__" : Str)) = false)
    (hs : St x G m s) (h : CompE x m scope cl kx px elt K v G) (hfin : ∀ g ys M J, (∀ D, K (.ref D) ⟨M, (D, lst ys) :: J, G.d⟩) → Sep (x.H ++ M) J → Fin { s with heap := g } ys (x.H ++ (M ++ J))) (hfin2 : ∀ g ys nw, Fin s ys nw → Fin { s with heap := g } ys nw) :
    wpAny (model PG x.w) x.A (call (.type "enumerate") [v]) (SrcE PG x.w x.A x.h₀ x.L m x.env scope cl (.Tuple [.Name kx p, .Name px q] k tp) (emit1 elt) Fin) E s := by
  obtain ⟨ax, its, n, Inv, rfl, hz, h0, hsrc, turn, fin⟩ := h
  have rest : ∀ (r : List Value) (i : Nat) (ys : List Value) (M J : Led), i ≤ its.length → its.drop i = r → Inv i ys M J → Sep (x.H ++ M) J → RestE PG x.w x.A x.h₀ x.L m x.env scope cl s kx px elt (ax, tupN its n) (Fin s) r i ys (x.H ++ (M ++ J)) := by
    intro r
    induction r with
    | nil =>
      intro i ys M J hi hr hI S
      obtain rfl : i = its.length := Nat.le_antisymm hi (List.drop_eq_nil_iff.mp hr)
      exact RestE.zero (hfin s.heap ys M J (fun D => fin D ys M J hI) S)
    | cons v r ih =>
      intro i ys M J hi hr hI S
      have hv : its[i]? = some v := by
        have := List.getElem?_drop (xs := its) (i := i) (j := 0)
        rw [hr] at this; simpa using this.symm
      have hr' : its.drop (i + 1) = r := by rw [← List.drop_drop, hr]; rfl
      refine RestE.succ fun I oI C oC D e oe t mC h tk E' hC hk1 hk2 F N off n1 n2 n3 n4 n5 n6 => ?_
      let x' : Fx := { x with env := compEnvC scope cl C x.env, H := (I, oI) :: (C, oC) :: (D, lst ys) :: (e, oe) :: x.H }
      have a : ∀ p ∈ x.H ++ M, p.1 ≠ e ∧ p.1 ≠ I ∧ p.1 ≠ C ∧ p.1 ≠ D := fun p hp => off p (by rw [← List.append_assoc]; exact List.mem_append_left _ hp)
      have b : ∀ p ∈ J, p.1 ≠ e ∧ p.1 ≠ I ∧ p.1 ≠ C ∧ p.1 ≠ D := fun p hp => off p (List.mem_append_right _ (List.mem_append_right _ hp))
      have S1 : Sep ((e, oe) :: (x.H ++ M)) J := sep_more S (fun p hp => (a p hp).1) fun p hp => (b p hp).1
      have S2 : Sep ((D, lst ys) :: (e, oe) :: (x.H ++ M)) J := sep_more S1 (fun p hp => by
        rcases List.mem_cons.mp hp with rfl | hp
        · exact n6
        · exact (a p hp).2.2.2) fun p hp => (b p hp).2.2.2
      have S3 : Sep ((C, oC) :: (D, lst ys) :: (e, oe) :: (x.H ++ M)) J := sep_more S2 (fun p hp => by
        rcases List.mem_cons.mp hp with rfl | hp
        · exact Ne.symm n3
        · rcases List.mem_cons.mp hp with rfl | hp
          · exact n5
          · exact (a p hp).2.2.1) fun p hp => (b p hp).2.2.1
      have S' : Sep (x'.H ++ M) J := sep_more S3 (fun p hp => by
        rcases List.mem_cons.mp hp with rfl | hp
        · exact Ne.symm n1
        · rcases List.mem_cons.mp hp with rfl | hp
          · exact Ne.symm n2
          · rcases List.mem_cons.mp hp with rfl | hp
            · exact n4
            · exact (a p hp).2.1) fun p hp => (b p hp).2.1
      have hst : St x' ⟨M, J, G.d⟩ m { s with heap := h, toks := tk } := ⟨F, N, S', hs.2.2.2⟩
      have nm : ∀ z u, scope.names.lookup z = some .local → (z == ("__debug__" : Str)) = false → mC z = some u → NameIs x' z u := fun z u hl hd hm G9 m9 s9 h9 Q9 E9 pos9 k9 =>
        wpAny_Name (wpAny_loadName_local hkind (lookup_relabel_local hl) (hC.ns (h9.nh (C, oC) (.tail _ (.head _))).1) hm k9) hd
      refine turn i v t ys M J x' hv hI ⟨C, _, rfl, fun p hp => .tail _ (.tail _ (.tail _ (.tail _ hp)))⟩ (nm _ _ hx hdx hk1) (nm _ _ hy hdy hk2) _ hst _ _ fun y G2 s5 hk hs5 => ?_
      obtain ⟨h5, g5, d5, t5, o5⟩ := s5
      obtain ⟨hd, hI5⟩ := hk
      have e1 : g5 = s.gens := hs5.2.2.2.1.trans hs.2.2.2.1.symm
      have e2 : o5 = s.os := hs5.2.2.2.2.1.trans hs.2.2.2.2.1.symm
      have e3 : d5 = s.drawn := (hs5.2.2.2.2.2.trans hd).trans hs.2.2.2.2.2.symm
      subst e1; subst e2; subst e3
      obtain ⟨i1, i2, T1⟩ := sep_head (show Sep ((I, oI) :: (C, oC) :: (D, lst ys) :: (e, oe) :: (x.H ++ G2.M)) G2.J from hs5.2.2.1)
      obtain ⟨c1, c2, T2⟩ := sep_head T1
      obtain ⟨d1, d2, T3⟩ := sep_head T2
      obtain ⟨f1, f2, T4⟩ := sep_head T3
      refine ⟨h5, t5, x.H ++ (G2.M ++ G2.J), rfl, hs5.1, hs5.2.1, fun p hp => ?_, List.mem_append_right _ (List.mem_append_right _ (hsrc _ _ _ _ hI5)), ih (i + 1) _ G2.M G2.J (List.getElem?_eq_some_iff.mp hv).1 hr' hI5 T4⟩
      rw [← List.append_assoc] at hp
      rcases List.mem_append.mp hp with hp | hp
      · exact ⟨f1 p hp, i1 p (.tail _ (.tail _ (.tail _ hp))), c1 p (.tail _ (.tail _ hp)), d1 p (.tail _ hp)⟩
      · exact ⟨f2 p hp, i2 p hp, c2 p hp, d2 p hp⟩
  exact src_enumT x.hh hs.1 hs.2.1 (List.mem_append_right _ (List.mem_append_right _ (hsrc _ _ _ _ h0))) hz hkind hx hy hxy (rest its 0 [] G.M G.J (Nat.zero_le _) rfl h0 hs.2.2.1) hfin2
theorem ec_enum {kx px : Str} {q tp : Pos} {k : Nat} (hg : NameIs x n (.type "enumerate")) (hs1 : starEach [e] x.env = (false, eval e x.env) :: starEach [] x.env) (hx : scope.names.lookup kx = some .local) (hy : scope.names.lookup px = some .local) (hxy : kx ≠ px) (hdx : (kx == ("__debug__" : Str)) = false) (hdy : (px == ("__debug__" : Str)) = false)
    (hclos : closureFor scope x.env = pure cl) (hcell : ∀ y ∈ scope.names, y.2 ≠ .cell) (hkind : scope.kind = .function) (hnames : ∀ y ∈ scope.names, y.2 = .local → scope.names.lookup y.1 = some .local)
    (hs : ∀ y, foldedSetIterable (.Call (.Name n p1) [e] [] p2) x.env y = pure y) (h : EvC x G m e (CompE x m scope cl kx px elt K)) : EvC x G m (.ListComp elt [⟨.Tuple [.Name kx p, .Name px q] k tp, .Call (.Name n p1) [e] [] p2, [], 0⟩] scope pos) K := fun s hs0 Q E qq =>
  comp_enum hs0.1 hclos hcell hkind hnames (Call_ (hg _ _ _ hs0 _ _ _ (PyProof.Rows.callWith_type1 (args_cons (h s hs0 _ _ fun v G1 s1 hk hs2 => args_nil (src_enum (K := K) (G := G1) hkind hx hy hxy hdx hdy hs2 hk (fun g ys M J hK S D h tk F N off => qq _ _ _ (hK D) (st_new F N S off hs2.2.2.2)) fun g ys nw hf D h tk F N off => hf D h tk F N off)) hs1) hs1 rfl))) hs
end
end Mine
end
section
open PySem PySem.W PySem.Spec PySem.Calls PyProof.Rows
set_option maxRecDepth 100000
set_option maxHeartbeats 4000000
namespace Mine
theorem has_nil (j : Nat) : SetTable.has #[] j = false := by simp [SetTable.has]
theorem layNew_keeps (t : SetTable) (es : Array (Int × Value)) (h : Int) (x : Value) (hm : 7 ≤ t.mask) (hd : t.dummies = #[]) :
    (layNew t es h x).2.1.led = t.led ∧ 7 ≤ (layNew t es h x).2.1.mask ∧ (layNew t es h x).2.1.dummies = #[] := by
  have e1 : ∀ n : Nat, 1 ≤ n → 7 ≤ 4 * n + 4 := fun n hn => by omega
  unfold layNew
  split
  · rename_i slot wasDummy _
    dsimp only [SetTable.put, SetTable.orStandIn]
    rw [hd, has_nil]
    simp only [Bool.false_eq_true, if_false]
    split
    · exact ⟨rfl, hm, rfl⟩
    · refine ⟨rfl, e1 _ ?_, rfl⟩
      have := (SetTable.insertAt_perm es (SetTable.below t.place slot) (h, x)).length_eq
      rw [Array.length_toList, Array.length_toList, Array.size_push] at this
      omega
  · exact ⟨rfl, e1 _ (by omega), rfl⟩
def setO (es : Array (Int × Value)) (ep : Nat) (t : SetTable) : Obj := { cls := .type "set", dict := none, data := .set es ep t, slots := #[] }
def SetQ (prog : Program) (w : World) (h : Heap) (S : Addr) (led : Bool) (xs : List (Str × Tok)) : Prop :=
  ∃ es ep t, h.get? S = some (setO es ep t) ∧ List.Perm es.toList (xs.map fun p => ((PySem.strKind prog w).hash p.1, Value.str p.1 p.2)) ∧ t.fits es.size = true ∧ t.led = led ∧ 7 ≤ t.mask ∧ t.dummies = #[] ∧ (xs ≠ [] → t.plain = false)
section
variable {prog : Program} {w : World} {A : Around} {E : Value → Shared → Prop} {s : Shared}
theorem elems_of {xs : List (Str × Tok)} {l : List (Int × Value)} (hp : List.Perm l (xs.map fun p => ((PySem.strKind prog w).hash p.1, Value.str p.1 p.2))) : ElemsOf (PySem.strKind prog w) l := by
  intro e he
  obtain ⟨p, _, rfl⟩ := List.mem_map.mp (hp.mem_iff.mp he)
  exact ⟨⟨p.1, strKind_is _ _ _ _, rfl⟩, rfl⟩
theorem gave_any {b : Bool} {Q : Unit → Shared → Prop} (h : Q () s) : wpAny (model prog w) A (match b with | true => rule "set.scan.the-table-gave-way" | false => pure ()) Q E s := by
  cases b <;> first | exact wpAny_pure h | exact wpAny_rule h
theorem add_str {S : Addr} {led : Bool} {xs : List (Str × Tok)} {x : Str} {tk : Tok} {Q : Bool → Shared → Prop} (hS : SetQ prog w s.heap S led xs) (hne : ∀ p ∈ xs, p.1 ≠ x) (hl : xs.length ≤ 2)
    (h : ∀ h', Heap.SameBut S s.heap h' → SetQ prog w h' S led (xs ++ [(x, tk)]) → Q true { s with heap := h' }) :
    wpAny (model prog w) A (setAddHashed S (.str x tk) ((PySem.strKind prog w).hash x)) Q E s := by
  obtain ⟨es, ep, t, ho, hp, hf, hled, hm, hd, hpl⟩ := hS
  have hel := elems_of hp
  have hsz : es.size = xs.length := by rw [← Array.length_toList, hp.length_eq, List.length_map]
  have hb : es.size < scanBound := by rw [hsz]; unfold scanBound; omega
  have hr : es.toList.findIdx? (fun e => (PySem.strKind prog w).is x e.2) = none := by
    rw [List.findIdx?_eq_none_iff]
    intro e he
    obtain ⟨p, hpm, rfl⟩ := List.mem_map.mp (hp.mem_iff.mp he)
    have : (PySem.strKind prog w).is x (Value.str p.1 p.2) = decide (x = p.1) := KeyKind.is_eq_decide (strKind_is _ _ _ _) x
    rw [this]
    exact decide_eq_false fun q => hne p hpm q.symm
  unfold setAddHashed setAddHashedIn
  refine wpAny_holding (wpAny_bind (wpAny_setState_of ho rfl hf ?_))
  dsimp only
  rw [byScan_of (x := .str x tk) rfl hb hel]
  simp only [↓reduceIte]
  unfold setAddByScan
  refine wpAny_bind ?_
  refine wpAny_bind (wpAny_rule ?_)
  refine wpAny_bind (wpAny_setScan_of (strKind_is _ _ _ _) ho rfl hf hel ?_)
  rw [hr]
  dsimp only
  have hperm := layNew_perm t es ((PySem.strKind prog w).hash x) (.str x tk)
  have hfits := layNew_fits t es ((PySem.strKind prog w).hash x) (.str x tk)
  obtain ⟨k1, k2, k3⟩ := layNew_keeps t es ((PySem.strKind prog w).hash x) (.str x tk) hm hd
  generalize hL : layNew t es ((PySem.strKind prog w).hash x) (.str x tk) = LL at hperm hfits k1 k2 k3 ⊢
  obtain ⟨es1, t1, wasDummy, gave⟩ := LL
  dsimp only at hperm hfits k1 k2 k3 ⊢
  rw [Array.toList_push] at hperm
  have hp1 : List.Perm es1.toList ((xs ++ [(x, tk)]).map fun p => ((PySem.strKind prog w).hash p.1, Value.str p.1 p.2)) := by
    rw [List.map_append]
    exact hperm.trans (hp.append_right _)
  have hsz1 : es1.size = xs.length + 1 := by rw [← Array.length_toList, hp1.length_eq, List.length_map, List.length_append]; rfl
  refine wpAny_bind (gave_any ?_)
  have fin : ∀ (t2 : SetTable) (g : Sem (Option Bool)) (R : Option Bool → Shared → Prop), t2.fits es1.size = true → t2.led = led → 7 ≤ t2.mask → t2.dummies = #[] → t2.plain = false → (∀ s', Q true s' → R (some true) s') →
      wpAny (model prog w) A (storeSet S es1 t2 >>= fun _ => if (!wasDummy && t2.tooFull) = true then g else pure (some true)) R E s := by
    intro t2 g R f1 f2 f3 f4 f5 hR
    refine wpAny_bind (wpAny_storeSet_of ho rfl ?_ (by rw [hsz1]; exact fits (by omega)))
    have hfull : t2.tooFull = false := by
      unfold SetTable.tooFull SetTable.fill
      unfold SetTable.fits at f1
      simp only [Bool.and_eq_true, beq_iff_eq] at f1
      rw [f1.1, f4]
      simp only [decide_eq_false_iff_not, Array.size_empty]
      omega
    rw [hfull, Bool.and_false]
    simp only [Bool.false_eq_true, if_false]
    have hg := Heap.get?_update_self (Obj.putSet es1 t2) ho (by rw [putSet_of es1 t2 rfl]; rfl)
    rw [putSet_of es1 t2 (rfl : (setO es ep t).data = _)] at hg
    exact wpAny_pure (hR _ (h _ (Heap.SameBut.update s.heap S _) ⟨es1, ep + 1, t2, hg, hp1, f1, f2, f3, f4, fun _ => f5⟩))
  split
  · refine wpAny_bind ?_
    rw [hashByValue_scannable 8 rfl]
    refine wpAny_pure ?_
    simp only [plainKind, Bool.false_eq_true, if_false]
    exact fin _ _ _ (SetTable.fits_plain_off hfits) (by rw [← hled]; exact k1) k2 k3 rfl fun s' hq => wpAny_pure hq
  · rename_i hplain
    refine wpAny_bind (wpAny_pure ?_)
    simp only [↓reduceIte]
    exact fin _ _ _ hfits (by rw [← hled]; exact k1) k2 k3 (by simpa using hplain) fun s' hq => wpAny_pure hq
theorem SetQ.keep {h h' : Heap} {S : Addr} {led : Bool} {xs : List (Str × Tok)} (q : SetQ prog w h S led xs) (k : ∀ o, h.get? S = some o → h'.get? S = some o) : SetQ prog w h' S led xs :=
  let ⟨es, ep, t, ho, r⟩ := q; ⟨es, ep, t, k _ ho, r⟩
theorem upd_loop {R : Result → Shared → Prop} {I S : Addr} {fp wr : List Addr} {G : Array GenState → Array GenState → Prop} {n : Nat} {P : Nat → Value → Prop} {St : Nat → Shared → Prop} {led : Bool} (W : WalksS prog w A.in1 I fp wr G n P St) (hSf : S ∉ fp)
    (xs : List (Str × Tok)) (hn : n = xs.length) (hP : ∀ i v, P i v → ∃ p, xs[i]? = some p ∧ v = .str p.1 p.2) (hnd : (xs.map (·.1)).Nodup) (hl : xs.length ≤ 2) :
    ∀ (k i : Nat) (s : Shared), n - i = k → i ≤ n → St i s → SetQ prog w s.heap S led (xs.take i) →
      (∀ s', Moved (S :: wr) G s s' → SetQ prog w s'.heap S led xs → R (.ok (.ret .none)) s') →
      codeAny (model prog w) A (.builtin "set.update.loop" ⟨[.ref S, .ref I], []⟩) R s := by
  have hSw : S ∉ wr := fun h => hSf (W.sub _ h)
  have hsub : ∀ b ∈ wr, b ∈ S :: wr := fun b hb => List.mem_cons_of_mem _ hb
  intro k
  induction k with
  | zero =>
    intro i s hk hi hst hS hR
    have hin : i = n := by omega
    subst hin
    refine codeAny_builtin PyProof.Rows.F.entry_set_update_loop ?_
    rw [Around.under_plainId PyProof.Rows.F.plain_set_update_loop _]
    show wpAny _ A.in1 (pyNext (.ref I) >>= _) _ _ s
    refine wpAny_bind (W.done s _ _ hst fun s' hm => ?_)
    show wpAny _ A.in1 (ret Value.none) _ _ s'
    rw [hn, List.take_length] at hS
    exact wpAny_pure (hR s' (hm.mono hsub) (hS.keep fun o e => hm.heap S _ hSw e))
  | succ k ih =>
    intro i s hk hi hst hS hR
    have hlt : i < n := by omega
    refine codeAny_builtin PyProof.Rows.F.entry_set_update_loop ?_
    rw [Around.under_plainId PyProof.Rows.F.plain_set_update_loop _]
    show wpAny _ A.in1 (pyNext (.ref I) >>= _) _ _ s
    refine wpAny_bind (W.item i s _ _ hlt hst fun v s' hPv hst' hm => ?_)
    obtain ⟨⟨x, tk⟩, hx, rfl⟩ := hP i v hPv
    have hS' : SetQ prog w s'.heap S led (xs.take i) := hS.keep fun o e => hm.heap S _ hSw e
    have htake : xs.take (i + 1) = xs.take i ++ [(x, tk)] := by
      rw [List.take_succ, hx]; rfl
    show wpAny _ A.in1 (holding [Value.str x tk] (setAdd S (.str x tk)) >>= _) _ _ s'
    refine wpAny_bind (wpAny_holding ?_)
    unfold setAdd
    refine wpAny_holding ?_
    refine wpAny_bind ((PySem.strKind prog w).pyHash (k := x) (strKind_is _ _ _ _) ?_)
    refine add_str (s := { s' with toks := s'.toks + 1 }) hS' (fun p hp q => ?_) (by rw [List.length_take]; omega) fun h' hsb hS2 => ?_
    · have h1 : ((xs.take (i + 1)).map (·.1)).Nodup := by
        rw [List.map_take]; exact hnd.sublist (List.take_sublist _ _)
      rw [htake, List.map_append, List.nodup_append] at h1
      exact h1.2.2 p.1 (List.mem_map_of_mem hp) x (by simp) q
    · rw [← htake] at hS2
      refine wpAny_pure ⟨plainId_quiet PyProof.Rows.F.plain_set_update_loop _, ih (i + 1) _ (by omega) hlt (W.frame _ s' _ _ hst' (Nat.le_succ _) fun b hb o e => ?_) hS2 fun s'' hm'' hS'' => ?_⟩
      · rw [hsb.2 b (fun h : b = S => hSf (by rw [← h]; exact hb))]; exact e
      · refine hR s'' (Moved.trans W.gtrans ((hm.mono hsub).then_heap (Nat.le_succ _) fun b o hb e => ?_) hm'') hS''
        rw [hsb.2 b (fun h : b = S => hb (by rw [h]; exact List.mem_cons_self))]; exact e
def byT (w : World) : Bool := w.params.followText "set-order"
theorem set_new1 (a : Value) {Q₁ : Value → Shared → Prop}
    (h : Q₁ (.ref s.heap.objs.size) { s with heap := s.heap.push (setO #[] 0 (.fresh 0 0 (!byT w))) }) :
    codeAny (model prog w) A (.call (.builtin "set.__new__") ⟨[.type "set", a], []⟩) (wants Q₁ E) s := by
  refine codeAny_of_tree ?_
  show wpAny _ A.in1 (do checkBuiltinCall "set.__new__" ⟨[.type "set", a], []⟩; again (.builtin "set.__new__" ⟨[.type "set", a], []⟩)) _ _ s
  refine wpAny_bind (wpAny_of_eq (F.newCall_set_1 a) (wpAny_pure ⟨plainId_quiet F.plain_set_new _, codeAny_builtin F.entry_set_new ?_⟩))
  rw [Around.under_plainId F.plain_set_new _]
  unfold Builtin.«set.__new__» Builtin.Frozenset.newClass
  have hsub := sub_set_self
  obtain ⟨hp, g, d, tk, os⟩ := s
  dsimp only
  wp_walk
  refine wpAny_askSetting (wpAny_pure ?_)
  dsimp only
  simp only [newObj]
  refine wpAny_bind (wpAny_alloc (wpAny_pure ?_))
  exact wpAny_pure h
theorem setq_fresh {h : Heap} {S : Addr} {led : Bool} (ho : h.get? S = some (setO #[] 0 (.fresh 0 0 led))) : SetQ prog w h S led [] :=
  ⟨#[], 0, _, ho, .refl _, by rfl, rfl, Nat.le_refl _, rfl, fun q => absurd rfl q⟩
set_option maxHeartbeats 8000000 in
theorem call_set_strs {l : Addr} {xs : List (Str × Tok)} {Q : Value → Shared → Prop}
    (hh : A.handled = none) (hl : s.heap.IsList l (xs.map fun p => Value.str p.1 p.2).toArray) (hnd : (xs.map (·.1)).Nodup) (hz : xs.length ≤ 2)
    (h : ∀ (h' : Heap) (tk : Nat), SetQ prog w h' s.heap.objs.size (!byT w) xs →
      (∀ b o, b < s.heap.objs.size → s.heap.get? b = some o → h'.get? b = some o) → Q (.ref s.heap.objs.size) { s with heap := h', toks := tk }) :
    wpAny (model prog w) A (call (.type "set") [.ref l]) Q E s := by
  obtain ⟨c, tl, hmro⟩ := F.called_set.mro
  have hmade := F.called_set.made
  have hsub := F.called_set.sub
  refine wpAny_call (codeAny_of_tree ?_)
  show wpAny _ _ (callAny (.type "set") _) _ _ _
  refine wpAny_pure ⟨Code.quiet_builtin _ (by decide +kernel), codeAny_builtin F.entry_type_call ?_⟩
  rw [Around.under_plain (weight_type_call_type "set" [.ref l] []) rfl]
  have h1 := F.called_set.notType
  have h2 := F.called_set.canCreate
  have hct := F.typeCall_set_1 (.ref l)
  repeat (any_goals (first | assumption | wp_step))
  refine codeAny_mono (set_new1 (.ref l) (E := E) (Q₁ := fun obj s₁ => obj = .ref s.heap.objs.size ∧ s₁ = { s with heap := s.heap.push (setO #[] 0 (.fresh 0 0 (!byT w))) }) ⟨rfl, rfl⟩) fun r s₁ hr => ?_
  cases r with
  | error e => exact hr
  | ok fl =>
    cases fl with
    | ret obj =>
      obtain ⟨rfl, rfl⟩ := hr
      have hS : (s.heap.push (setO #[] 0 (.fresh 0 0 (!byT w)))).get? s.heap.objs.size = some (setO #[] 0 (.fresh 0 0 (!byT w))) := Heap.get?_push_size _ rfl
      have hT : Shared.TypeIs { s with heap := s.heap.push (setO #[] 0 (.fresh 0 0 (!byT w))) } (.ref s.heap.objs.size) "set" := ⟨_, hS, rfl⟩
      have hli := F.called_set.init.lookup
      have hbi := F.called_set.init.bind (.ref s.heap.objs.size)
      repeat (any_goals (first | assumption | wp_step))
      refine codeAny_mono (codeAny_call_builtin (R := wants (fun r s₂ => r = .none ∧ ∃ h' tk, s₂ = { s with heap := h', toks := tk } ∧
          SetQ prog w h' s.heap.objs.size (!byT w) xs ∧
          (∀ b o, b < s.heap.objs.size → s.heap.get? b = some o → h'.get? b = some o)) E) F.called_set.init.plain F.entry_set_init (check_set_init_1 hT ?_)) fun r₂ s₂ hr₂ => ?_
      · obtain ⟨ol, hol, hcl, nl, hdl⟩ := hl
        obtain ⟨ocls, odict, odata, oslots⟩ := ol
        simp only at hcl hdl
        subst hcl; subst hdl
        have hol' : (s.heap.push (setO #[] 0 (.fresh 0 0 (!byT w)))).get? l = some { cls := .type "list", dict := odict, data := .seq (xs.map fun p => Value.str p.1 p.2).toArray nl, slots := oslots } := Heap.get?_push_of_some _ hol
        have hsls := F.sub_list_set
        have hslf := F.sub_list_frozenset
        have hne : (Value.type "list" == Value.type "dict") = false := by decide
        have hl1 : (s.heap.push (setO #[] 0 (.fresh 0 0 (!byT w)))).IsList l (xs.map fun p => Value.str p.1 p.2).toArray := ⟨_, hol', rfl, nl, rfl⟩
        unfold Builtin.«set.__init__» noKeywords Builtin.Frozenset.updateFrom
        generalize hPI : pyIter = PI
        wp_walk
        subst hPI
        refine wpAny_pyIter_list hl1 ?_
        refine wpAny_bind (wpAny_runValue ?_)
        have hlS : l < s.heap.objs.size := Heap.lt_size hol
        have hh3 : A.in1.in1.in1.handled = none := by simp [hh]
        have hneI : l ≠ (s.heap.push (setO #[] 0 (.fresh 0 0 (!byT w)))).objs.size := by
          rw [Heap.size_push]; exact Nat.ne_of_lt (Nat.lt_succ_of_lt hlS)
        have hSf : s.heap.objs.size ∉ [(s.heap.push (setO #[] 0 (.fresh 0 0 (!byT w)))).objs.size, l] := by
          rw [Heap.size_push]; simp only [List.mem_cons, List.mem_singleton, List.not_mem_nil, or_false, not_or]
          exact ⟨Nat.ne_of_lt (Nat.lt_succ_self _), Nat.ne_of_gt hlS⟩
        refine upd_loop (led := !byT w) ((Walks.list hh3 _ l hneI (xs.map fun p => Value.str p.1 p.2).toArray).toS) hSf xs (by simp) (fun i v hv => ?hP) hnd hz (xs.length - 0) 0 _ (by simp) (Nat.zero_le _)
          ⟨⟨_, Heap.get?_push_size _ rfl, rfl, rfl⟩, (hl1.push _)⟩ ?hS0 ?hR
        case hP =>
          have hv' : (xs.map fun p => Value.str p.1 p.2)[i]? = some v := by simpa using hv
          rw [List.getElem?_map] at hv'
          cases hx : xs[i]? with
          | none => rw [hx] at hv'; cases hv'
          | some p => rw [hx] at hv'; exact ⟨p, rfl, (Option.some.inj hv').symm⟩
        case hS0 => exact setq_fresh (Heap.get?_push_of_some _ hS)
        case hR =>
          intro s' hm hS'
          obtain ⟨h', g', d', tk', os'⟩ := s'
          have eg : g' = s.gens := hm.gens
          have ed : d' = s.drawn := hm.drawn
          have eo : os' = s.os := hm.os
          subst eg; subst ed; subst eo
          show wpAny _ _ _ _ _ _
          refine wpAny_pure ?_
          show wpAny _ _ (ret Value.none) _ _ _
          refine wpAny_pure ⟨rfl, h', tk', rfl, hS', fun b o hb e => ?_⟩
          have hb1 : b ≠ s.heap.objs.size := Nat.ne_of_lt hb
          have hb2 : b ≠ (s.heap.push (setO #[] 0 (.fresh 0 0 (!byT w)))).objs.size := by
            rw [Heap.size_push]; exact Nat.ne_of_lt (Nat.lt_succ_of_lt hb)
          exact hm.heap b o (by simp only [List.mem_cons, List.mem_singleton, List.not_mem_nil, or_false, not_or]; exact ⟨hb1, hb2⟩) (Heap.get?_push_of_some _ (Heap.get?_push_of_some _ e))
      · cases r₂ with
        | error e => exact hr₂
        | ok fl₂ =>
          cases fl₂ with
          | ret r =>
            obtain ⟨rfl, h', tk, rfl, hS', hk'⟩ := hr₂
            repeat (any_goals (first | assumption | wp_step))
            exact h _ _ hS' hk'
          | _ => exact hr₂.elim
    | _ => exact hr.elim
end
end Mine
end
section
open PySem PySem.W PySem.Spec PySem.Calls PyProof.Rows
set_option maxRecDepth 100000
set_option maxHeartbeats 4000000
namespace Mine
theorem owner_si : Manifest.owners.lookup (String.ofList ['r', 'o', 't', 'a', 'r', 'e', 't', 'i', '_', 't', 'e', 's'].reverse) = some Manifest.sig_set_iterator := by kernel_rfl
theorem slot_si_next : Slot "set_iterator" "__next__" "set_iterator.__next__" :=
  .of (owner := "set_iterator") (n := "__next__") (by rw [typeLookup_type, builtinLookup_eq_fast]; kernel_rfl) (by decide +kernel) (by decide +kernel) (by decide +kernel)
    (by first | exact .inl (by decide +kernel) | exact .inr (by decide +kernel)) (by rw [isSubtype_type]; kernel_rfl)
theorem entry_si_next : entryFor table "set_iterator.__next__" = some Builtin.«set_iterator.__next__» := entryFor_of_tree (by kernel_rfl)
theorem args_si_next (a : Value) : argsOk "set_iterator.__next__" ⟨[a], []⟩ := by
  unfold argsOk; rw [signature?_of (id := "set_iterator.__next__") (n := ['_', '_', 't', 'x', 'e', 'n', '_', '_']) (o := ['r', 'o', 't', 'a', 'r', 'e', 't', 'i', '_', 't', 'e', 's']) (by kernel_rfl) owner_si]; kernel_rfl
theorem slot_si_iter : Slot "set_iterator" "__iter__" "set_iterator.__iter__" :=
  .of (owner := "set_iterator") (n := "__iter__") (by rw [typeLookup_type, builtinLookup_eq_fast]; kernel_rfl) (by decide +kernel) (by decide +kernel) (by decide +kernel)
    (by first | exact .inl (by decide +kernel) | exact .inr (by decide +kernel)) (by rw [isSubtype_type]; kernel_rfl)
theorem args_si_iter (a : Value) : argsOk "set_iterator.__iter__" ⟨[a], []⟩ := by
  unfold argsOk; rw [signature?_of (id := "set_iterator.__iter__") (n := ['_', '_', 'r', 'e', 't', 'i', '_', '_']) (o := ['r', 'o', 't', 'a', 'r', 'e', 't', 'i', '_', 't', 'e', 's']) (by kernel_rfl) owner_si]; kernel_rfl
theorem entry_si_iter : entryFor table "set_iterator.__iter__" = some Builtin.«dict_keyiterator.__iter__» :=
  entryFor_alias (id' := "dict_keyiterator.__iter__") (by kernel_rfl) (by first | rfl | decide +kernel | (unfold String.splitOn; simp +decide [String.splitOnAux])) (by decide +kernel) (by kernel_rfl)
theorem entry_s_iter : entryFor table "set.__iter__" = some Builtin.«frozenset.__iter__» :=
  entryFor_alias (id' := "frozenset.__iter__") (by kernel_rfl) (by first | rfl | decide +kernel | (unfold String.splitOn; simp +decide [String.splitOnAux])) (by decide +kernel) (by kernel_rfl)
def siO (first : Value) (i : Int) (S : Addr) (n : Int) (ep : Int) : Obj := { cls := .type "set_iterator", data := .fields #[first, rawInt i, .ref S, rawInt n, rawInt ep] }
theorem erase_perm {α : Type} : ∀ (l : List α) (i : Nat) (h : i < l.length), List.Perm (l[i] :: l.eraseIdx i) l
  | [], _, h => absurd h (Nat.not_lt_zero _)
  | x :: r, 0, _ => .refl _
  | x :: r, i + 1, h => by
    simp only [List.eraseIdx_cons_succ, List.getElem_cons_succ]
    exact (List.Perm.swap x _ _).trans ((erase_perm r i (by simpa using h)).cons x)
theorem pick_go {α : Type} (next : Nat → Nat) : ∀ (n k : Nat) (left : List α) (out : Array α), left.length = n → List.Perm (pickOrder.go next n k left out).toList (out.toList ++ left) := by
  intro n
  induction n with
  | zero =>
    intro k left out h
    have : left = [] := List.eq_nil_of_length_eq_zero h
    subst this
    simp [pickOrder.go]
  | succ n ih =>
    intro k left out h
    have hlt : next k % left.length < left.length := Nat.mod_lt _ (by omega)
    unfold pickOrder.go
    rw [List.getElem?_eq_getElem hlt]
    dsimp only
    refine (ih (k + 1) _ _ (by rw [List.length_eraseIdx_of_lt hlt]; omega)).trans ?_
    rw [Array.toList_push, List.append_assoc]
    refine List.Perm.append_left _ ?_
    exact erase_perm left _ hlt
theorem pick_perm {α : Type} (next : Nat → Nat) (xs : Array α) : List.Perm (pickOrder next xs).toList xs.toList := by
  unfold pickOrder
  simpa using pick_go next xs.size 0 xs.toList #[] (by simp)
section
variable {prog : Program} {w : World} {A : Around} {E : Value → Shared → Prop} {s : Shared}
theorem set_byText {Q : Bool → Shared → Prop} (h : Q (byT w) s) : wpAny (model prog w) A setsByText Q E s := by
  unfold setsByText
  exact wpAny_bind (wpAny_askSetting (wpAny_pure h))
theorem si_raise {I : Addr} {o : Obj} {vs : Array Value} {Q : Option Value → Shared → Prop} {sub : Fin → Shared → Prop} (hh : A.handled = none) (ho : s.heap.get? I = some o) (hd : o.data = .fields vs) (hz : 2 < vs.size)
    (hQ : ∀ h', Heap.ExtBut I s.heap h' → Q none { s with heap := h' }) :
    wpAny (model prog w) A.in1 (setField (.ref I) 2 .none >>= fun _ => newExc (.type "StopIteration") [] >>= fun e => (raiseNew e : Sem Fin)) sub (fun e s' => wpAny (model prog w) A (do if ← isInstance e (.type "StopIteration") then pure none else throw e) Q E s') s := by
  refine wpAny_bind (wpAny_setField ho hd hz ?_)
  refine wpAny_bind ?_
  simp only [newExc, newTuple]
  refine wpAny_bind (wpAny_newObj_type ?_ (by size_fits))
  refine wpAny_bind (m := firstArgMember _ _) (wpAny_of_eq (a := Value.none) (by first | rfl | (simp only [firstArgMember]; rfl)) ?_)
  refine wpAny_newObj_type ?_ (by size_fits)
  simp only [raiseNew]
  refine wpAny_bind (wpAny_handled ?_)
  first | rw [show A.in1.handled = none from hh] | rw [hh]
  refine wpAny_bind (wpAny_pure (wpAny_throw ?_))
  refine wpAny_bind (wpAny_isInstance (T := "StopIteration") (b := true) ⟨_, Heap.get?_push_size _ rfl, rfl⟩ isSubtype_stop ?_)
  exact wpAny_pure (hQ _ (((Heap.SameBut.update ..).extBut.push _).push _))
theorem si_pyNext {I S : Addr} {first : Value} {i n ep : Int} {Q : Option Value → Shared → Prop} (hit : s.heap.get? I = some (siO first i S n ep))
    (h : wpAny (model prog w) A.in1 (Builtin.«set_iterator.__next__» ⟨[.ref I], []⟩) (fun fin s' => ∃ v, fin = .done (.ret v) ∧ Q (some v) s') (fun e s' => wpAny (model prog w) A (do if ← isInstance e (.type "StopIteration") then pure none else throw e) Q E s') s) :
    wpAny (model prog w) A (pyNext (.ref I)) Q E s := by
  have hT : s.TypeIs (.ref I) "set_iterator" := ⟨_, hit, rfl⟩
  unfold pyNext
  refine wpAny_bind (wpAny_attempt (wpAny_callSpecial?_slot (name := Str.ofString "__next__") hT slot_si_next (wpAny_call_entry slot_si_next hT entry_si_next ?_ (args_si_next _))))
  refine wpAny_mono h (fun fin s' hq => ?_) fun e s' hq => hq
  obtain ⟨v, rfl, hq⟩ := hq
  exact ⟨v, rfl, wpAny_pure hq⟩
theorem siP_item {I S : Addr} {slot i ep next : Nat} {n : Int} {x : Value} {es : Array (Int × Value)} {ep' : Nat} {t : SetTable} {Q : Option Value → Shared → Prop} (hit : s.heap.get? I = some (siO (rawInt slot) i S n ep)) (hS : s.heap.get? S = some (setO es ep' t)) (hf : t.fits es.size = true) (hn : n = es.size)
    (hnx : ∀ (A : Around) (E : Value → Shared → Prop) (Q' : Option (Value × Nat) → Shared → Prop), Q' (some (x, next)) s → wpAny (model prog w) A (setNext S slot i ep) Q' E s)
    (hQ : ∀ h', h'.get? I = some (siO (rawInt next) (i + 1 : Nat) S n ep) → Heap.SameBut I s.heap h' → Q (some x) { s with heap := h' }) : wpAny (model prog w) A (pyNext (.ref I)) Q E s := by
  subst hn
  refine si_pyNext hit ?_
  show wpAny _ _ (fieldsOf (.ref I) >>= _) _ _ s
  refine wpAny_bind (wpAny_fieldsOf hit rfl ?_)
  dsimp only [rawInt]
  refine wpAny_bind (wpAny_setEntries_of hS rfl hf ?_)
  rw [if_neg (by simp)]
  (try dsimp only)
  simp only [Int.toNat_natCast]
  refine wpAny_bind (hnx _ _ _ ?_)
  dsimp only
  refine wpAny_bind (wpAny_setField_rec hit (by simp) fun h₂ he₂ hs₂ => ?_)
  refine wpAny_bind (wpAny_setField_rec he₂ (by simp) fun h₃ he₃ hs₃ => ?_)
  exact wpAny_pure ⟨x, rfl, hQ h₃ he₃ (hs₂.trans hs₃)⟩
theorem siP_end {I S : Addr} {slot i ep : Nat} {n : Int} {es : Array (Int × Value)} {ep' : Nat} {t : SetTable} {Q : Option Value → Shared → Prop} (hh : A.handled = none) (hit : s.heap.get? I = some (siO (rawInt slot) i S n ep)) (hS : s.heap.get? S = some (setO es ep' t)) (hf : t.fits es.size = true) (hn : n = es.size)
    (hnx : ∀ (A : Around) (E : Value → Shared → Prop) (Q' : Option (Value × Nat) → Shared → Prop), Q' none s → wpAny (model prog w) A (setNext S slot i ep) Q' E s)
    (hQ : ∀ h', Heap.ExtBut I s.heap h' → Q none { s with heap := h' }) : wpAny (model prog w) A (pyNext (.ref I)) Q E s := by
  subst hn
  refine si_pyNext hit ?_
  show wpAny _ _ (fieldsOf (.ref I) >>= _) _ _ s
  refine wpAny_bind (wpAny_fieldsOf hit rfl ?_)
  dsimp only [rawInt]
  refine wpAny_bind (wpAny_setEntries_of hS rfl hf ?_)
  rw [if_neg (by simp)]
  (try dsimp only)
  simp only [Int.toNat_natCast]
  refine wpAny_bind (hnx _ _ _ ?_)
  exact si_raise hh hit rfl (by simp) hQ
theorem siD_item {I S T : Addr} {i ep p : Nat} {n : Int} {places : Array Value} {pn : Nat} {x : Int × Value} {es : Array (Int × Value)} {t : SetTable} {Q : Option Value → Shared → Prop} (hit : s.heap.get? I = some (siO (.ref T) i S n ep)) (hS : s.heap.get? S = some (setO es ep t)) (hf : t.fits es.size = true) (hn : n = es.size)
    (hT : s.heap.get? T = some { cls := .type "tuple", data := .seq places pn }) (hp : places[i]? = some (rawInt p)) (hx : es[p]? = some x)
    (hQ : ∀ h', h'.get? I = some (siO (.ref T) (i + 1 : Nat) S n ep) → Heap.SameBut I s.heap h' → Q (some x.2) { s with heap := h' }) : wpAny (model prog w) A (pyNext (.ref I)) Q E s := by
  subst hn
  refine si_pyNext hit ?_
  show wpAny _ _ (fieldsOf (.ref I) >>= _) _ _ s
  refine wpAny_bind (wpAny_fieldsOf hit rfl ?_)
  dsimp only [rawInt]
  refine wpAny_bind (wpAny_setEntries_of hS rfl hf ?_)
  rw [if_neg (by simp)]
  (try dsimp only)
  refine wpAny_bind (wpAny_seqItems hT rfl ?_)
  dsimp only
  simp only [Int.toNat_natCast]
  rw [hp]
  dsimp only [rawInt]
  unfold setNextDrawn
  simp only [Int.toNat_natCast]
  refine wpAny_bind (wpAny_bind (wpAny_setState_of hS rfl hf ?_))
  dsimp only
  rw [if_neg (by simp), hx]
  refine wpAny_pure ?_
  refine wpAny_bind (wpAny_setField_rec hit (by simp) fun h₃ he₃ hs₃ => ?_)
  exact wpAny_pure ⟨x.2, rfl, hQ h₃ he₃ hs₃⟩
theorem siD_end {I S T : Addr} {i ep : Nat} {n : Int} {places : Array Value} {pn : Nat} {es : Array (Int × Value)} {t : SetTable} {Q : Option Value → Shared → Prop} (hh : A.handled = none) (hit : s.heap.get? I = some (siO (.ref T) i S n ep)) (hS : s.heap.get? S = some (setO es ep t)) (hf : t.fits es.size = true) (hn : n = es.size)
    (hT : s.heap.get? T = some { cls := .type "tuple", data := .seq places pn }) (hp : places[i]? = none)
    (hQ : ∀ h', Heap.ExtBut I s.heap h' → Q none { s with heap := h' }) : wpAny (model prog w) A (pyNext (.ref I)) Q E s := by
  subst hn
  refine si_pyNext hit ?_
  show wpAny _ _ (fieldsOf (.ref I) >>= _) _ _ s
  refine wpAny_bind (wpAny_fieldsOf hit rfl ?_)
  dsimp only [rawInt]
  refine wpAny_bind (wpAny_setEntries_of hS rfl hf ?_)
  rw [if_neg (by simp)]
  (try dsimp only)
  refine wpAny_bind (wpAny_seqItems hT rfl ?_)
  dsimp only
  simp only [Int.toNat_natCast]
  rw [hp]
  dsimp only
  refine wpAny_bind (wpAny_setField_rec hit (by simp) fun h₃ he₃ hs₃ => ?_)
  exact si_raise hh he₃ rfl (by simp) fun h' he => hQ h' fun b o hb e => he b o hb (hs₃.extBut b o hb e)
end
end Mine
end
section
open PySem PySem.W PySem.Spec PySem.Calls PyProof.Rows
set_option maxRecDepth 100000
set_option maxHeartbeats 4000000
namespace Mine
section
variable {prog : Program} {w : World} {A : Around} {E : Value → Shared → Prop} {s : Shared}
theorem wp_choose {src : Source} {n : Nat} {Q : Nat → Shared → Prop} (hn : n ≠ 0) (h : ∀ k dr, k < n → Q k { s with drawn := dr }) : wpAny (model prog w) A (choose src n) Q E s := by
  intro Γ p hΓ
  unfold choose
  rw [PySem.Sem.wp_choose]
  refine ⟨hn, ?_⟩
  exact h _ _ (Nat.mod_lt _ (Nat.pos_of_ne_zero hn))
theorem two_of {i : Nat} (h : i < 2) : i = 0 ∨ i = 1 := by omega
theorem arr_one {α : Type} {a : Array α} (h : a.size = 1) : ∃ x, a = #[x] := by
  cases a with
  | mk l =>
    match l, h with
    | [x], _ => exact ⟨x, rfl⟩
theorem set_iter {S : Addr} {xs : List (Str × Tok)} {Q : Value → Shared → Prop} (hS : SetQ prog w s.heap S (!byT w) xs) (hn : xs.length = 1 ∨ xs.length = 2)
    (hQ : ∀ (I : Addr) (fp : List Addr) (order : List Value) (St : Nat → Heap → Prop) h' dr, s.heap.objs.size ≤ I → (∀ b o, s.heap.get? b = some o → h'.get? b = some o) → I ∈ fp → (∀ b ∈ fp, b < h'.objs.size) → (∀ b ∈ fp, b = S ∨ s.heap.objs.size ≤ b) → List.Perm order (xs.map fun p => Value.str p.1 p.2) →
      (∀ A' : Around, A'.handled = none → Walks prog w A' I fp [I] order.length (fun i v => order[i]? = some v) St) → St 0 h' → Q (.ref I) { s with heap := h', drawn := dr }) :
    wpAny (model prog w) A (pyIter (.ref S)) Q E s := by
  obtain ⟨es, ep, t, ho, hp, hf, hled, hm, hd, hpl⟩ := hS
  have hT : s.TypeIs (.ref S) "set" := ⟨_, ho, rfl⟩
  refine wpAny_pyIter_slot hT F.slot_set_iter (wpAny_call_entry F.slot_set_iter hT entry_s_iter ?_ (F.args_set_iter_1 _))
  unfold Builtin.«frozenset.__iter__» Builtin.Frozenset.sizeOf
  show wpAny _ _ ((do return (← setEntries S).size) >>= _) _ _ s
  refine wpAny_bind (wpAny_bind (wpAny_setEntries_of ho rfl hf (wpAny_pure ?_)))
  refine wpAny_bind ?_
  unfold setDrawn
  refine wpAny_bind (wpAny_setState_of ho rfl hf ?_)
  refine wpAny_bind (set_byText (wpAny_pure ?_))
  have hsz : es.size = xs.length := by rw [← Array.length_toList, hp.length_eq, List.length_map]
  have hpv : List.Perm (es.toList.map (·.2)) (xs.map fun p => Value.str p.1 p.2) := by
    have := hp.map (·.2)
    rw [List.map_map] at this
    exact this
  have hSlt : S < s.heap.objs.size := Heap.lt_size ho
  dsimp only
  change wpAny _ _ (ite ((!byT w && (!t.plain && decide (es.size > 1))) = true) _ _) _ _ _
  split
  · rename_i hc
    simp only [Bool.and_eq_true, decide_eq_true_eq] at hc
    have h2 : es.size = 2 := by omega
    have fin2 : ∀ (o : List Nat) (dr : Drawn), o = [0, 1] ∨ o = [1, 0] → wpAny (model prog w) A.in1 (do
        let first ← newTuple (o.map fun (i : Nat) => rawInt i)
        let ep' ← setEpoch S
        let r ← newFields "set_iterator" [first, rawInt 0, Value.ref S, rawInt ↑es.size, rawInt ↑ep']
        ret r) (fun fin s' => ∃ v, fin = Fin.done (Flow.ret v) ∧ ∃ T' r, s'.TypeIs v T' ∧ typeLookup (Value.type T') (Str.ofString "__next__") = pure (some r) ∧ Q v s') E { s with drawn := dr } := by
      intro o dr ho2
      have hlo : o.length = 2 := by rcases ho2 with rfl | rfl <;> rfl
      refine wpAny_bind (wpAny_newTuple ?_ (by rw [List.length_map, hlo]; exact fits (by omega)))
      generalize hH : s.heap.push { cls := .type "tuple", data := .seq (o.map fun (i : Nat) => rawInt i).toArray } = H
      have hT1 : H.get? s.heap.objs.size = some { cls := .type "tuple", data := .seq (o.map fun (i : Nat) => rawInt i).toArray } := by rw [← hH]; exact Heap.get?_push_size _ rfl
      have hk1 : ∀ b ob, s.heap.get? b = some ob → H.get? b = some ob := fun b ob x => by rw [← hH]; exact Heap.get?_push_of_some _ x
      have hz : H.objs.size = s.heap.objs.size + 1 := by rw [← hH]; exact Heap.size_push ..
      refine wpAny_bind (wpAny_setEpoch_of (s := { s with heap := H, drawn := dr }) (hk1 _ _ ho) rfl hf ?_)
      refine wpAny_bind (wpAny_newObj_type ?_)
      dsimp only
      have hI : (H.push { cls := .type "set_iterator", data := .fields [Value.ref s.heap.objs.size, rawInt 0, Value.ref S, rawInt ↑es.size, rawInt ↑ep].toArray }).get? H.objs.size = some (siO (.ref s.heap.objs.size) (0 : Nat) S es.size ep) := Heap.get?_push_size _ rfl
      refine wpAny_pure ⟨_, rfl, "set_iterator", _, ⟨_, hI, rfl⟩, slot_si_next.lookup, ?_⟩
      have hord : ∀ i, i < 2 → ∃ e, es[o.getD i 0]? = some e := fun i hi => by
        have : o.getD i 0 < es.size := by
          rw [h2]
          rcases two_of hi with rfl | rfl <;> rcases ho2 with rfl | rfl <;> decide
        exact ⟨_, Array.getElem?_eq_getElem this⟩
      obtain ⟨e0, he0⟩ := hord 0 (by omega)
      obtain ⟨e1, he1⟩ := hord 1 (by omega)
      refine hQ H.objs.size [H.objs.size, S, s.heap.objs.size] [e0.2, e1.2] (fun i h => h.get? H.objs.size = some (siO (.ref s.heap.objs.size) (i : Nat) S es.size ep) ∧ h.get? S = some (setO es ep t) ∧ h.get? s.heap.objs.size = some { cls := .type "tuple", data := .seq (o.map fun (i : Nat) => rawInt i).toArray })
        _ dr (by rw [hz]; exact Nat.le_succ _) (fun b ob x => Heap.get?_push_of_some _ (hk1 b ob x)) (.head _) (fun b hb => ?_) (fun b hb => by (simp only [List.mem_cons, List.not_mem_nil, or_false] at hb; rcases hb with rfl | rfl | rfl; exact .inr (by rw [hz]; exact Nat.le_succ _); exact .inl rfl; exact .inr (Nat.le_refl _))) ?_ (fun A' hh => ?_) ⟨hI, Heap.get?_push_of_some _ (hk1 _ _ ho), Heap.get?_push_of_some _ hT1⟩
      · rw [Heap.size_push, hz]
        simp only [List.mem_cons, List.not_mem_nil, or_false] at hb
        rcases hb with rfl | rfl | rfl
        · rw [hz]; exact Nat.lt_succ_self _
        · exact Nat.lt_succ_of_lt (Nat.lt_succ_of_lt hSlt)
        · exact Nat.lt_succ_of_lt (Nat.lt_succ_self _)
      · refine List.Perm.trans ?_ hpv
        have hes : es.toList = [es[0], es[1]] := by
          apply List.ext_getElem
          · simp [h2]
          · intro i h1 h3
            simp only [List.length_cons, List.length_nil] at h3
            match i, h3 with
            | 0, _ => simp
            | 1, _ => simp
        rw [hes]
        rcases ho2 with rfl | rfl
        · simp only [List.getD_cons_zero, List.getD_cons_succ] at he0 he1
          have q0 : es[0] = e0 := by have := Array.getElem?_eq_getElem (xs := es) (i := 0) (by omega); rw [this] at he0; exact Option.some.inj he0
          have q1 : es[1] = e1 := by have := Array.getElem?_eq_getElem (xs := es) (i := 1) (by omega); rw [this] at he1; exact Option.some.inj he1
          rw [q0, q1]; exact .refl _
        · simp only [List.getD_cons_zero, List.getD_cons_succ] at he0 he1
          have q0 : es[1] = e0 := by have := Array.getElem?_eq_getElem (xs := es) (i := 1) (by omega); rw [this] at he0; exact Option.some.inj he0
          have q1 : es[0] = e1 := by have := Array.getElem?_eq_getElem (xs := es) (i := 0) (by omega); rw [this] at he1; exact Option.some.inj he1
          rw [q0, q1]; exact List.Perm.swap _ _ _
      · have hTI : s.heap.objs.size ≠ H.objs.size := by rw [hz]; exact Nat.ne_of_lt (Nat.lt_succ_self _)
        have hSI : S ≠ H.objs.size := by rw [hz]; exact Nat.ne_of_lt (Nat.lt_succ_of_lt hSlt)
        have hpl : ∀ i, i < 2 → (o.map fun (i : Nat) => rawInt i).toArray[i]? = some (rawInt ((o.getD i 0 : Nat))) := fun i hi => by
          rcases two_of hi with rfl | rfl <;> rcases ho2 with rfl | rfl <;> rfl
        refine ⟨fun b hb => by (rw [List.mem_singleton.mp hb]; exact .head _), ?_, ?_, ?_, ?_⟩
        · exact fun i h h' st hk => ⟨hk _ (.head _) _ st.1, hk _ (.tail _ (.head _)) _ st.2.1, hk _ (.tail _ (.tail _ (.head _))) _ st.2.2⟩
        · intro i s' Q' E' hi st hQ'
          have hi2 : i < 2 := hi
          obtain ⟨e, he⟩ := hord i hi2
          have hval : ([e0.2, e1.2] : List Value)[i]? = some e.2 := by
            rcases two_of hi2 with rfl | rfl
            · rw [he0] at he; cases he; rfl
            · rw [he1] at he; cases he; rfl
          refine siD_item st.1 st.2.1 hf rfl st.2.2 (hpl i hi2) he fun h' hI' hs' => ?_
          exact hQ' _ h' s'.toks hval ⟨hI', (hs'.2 S hSI).trans st.2.1, (hs'.2 _ hTI).trans st.2.2⟩ fun b o hb x => (hs'.2 b fun q => hb (by rw [q]; exact .head _)).trans x
        · intro s' Q' E' st hQ'
          refine siD_end hh st.1 st.2.1 hf rfl st.2.2 (by rcases ho2 with rfl | rfl <;> rfl) fun h' he => ?_
          exact hQ' h' s'.toks fun b o hb x => he b o (fun q => hb (by rw [q]; exact .head _)) x
        · intro i s' Q' E' st hQ'
          have hT' : s'.TypeIs (.ref H.objs.size) "set_iterator" := ⟨_, st.1, rfl⟩
          refine wpAny_pyIter_slot hT' slot_si_iter (wpAny_call_entry slot_si_iter hT' entry_si_iter ?_ (args_si_iter _))
          show wpAny _ _ (ret (.ref H.objs.size)) _ _ s'
          exact wpAny_pure ⟨_, rfl, "set_iterator", _, hT', slot_si_next.lookup, hQ'⟩
    rw [h2]
    have hr2 : List.range 2 = [0, 1] := rfl
    rw [hr2]
    unfold drawOrder
    refine wpAny_bind (wpAny_bind (wp_choose (by decide) fun k dr hk => ?_))
    have hk2 : k = 0 ∨ k = 1 := by simp only [List.length_cons, List.length_nil] at hk; omega
    rcases hk2 with rfl | rfl
    · dsimp only [List.getElem?_cons_zero, List.eraseIdx_cons_zero]
      unfold drawOrder
      refine wpAny_bind (wpAny_bind (wp_choose (by decide) fun k2 dr2 hk3 => ?_))
      have hk4 : k2 = 0 := by simp only [List.length_cons, List.length_nil] at hk3; omega
      subst hk4
      dsimp only [List.getElem?_cons_zero, List.eraseIdx_cons_zero]
      unfold drawOrder
      refine wpAny_bind (wpAny_pure (wpAny_pure (wpAny_pure ?_)))
      rw [← h2]
      exact fin2 [0, 1] dr2 (.inl rfl)
    · dsimp only [List.getElem?_cons_zero, List.getElem?_cons_succ, List.eraseIdx_cons_zero, List.eraseIdx_cons_succ]
      unfold drawOrder
      refine wpAny_bind (wpAny_bind (wp_choose (by decide) fun k2 dr2 hk3 => ?_))
      have hk4 : k2 = 0 := by simp only [List.length_cons, List.length_nil] at hk3; omega
      subst hk4
      dsimp only [List.getElem?_cons_zero, List.eraseIdx_cons_zero]
      unfold drawOrder
      refine wpAny_bind (wpAny_pure (wpAny_pure (wpAny_pure ?_)))
      rw [← h2]
      exact fin2 [1, 0] dr2 (.inr rfl)
  · rename_i hc
    refine wpAny_bind (wpAny_pure ?_)
    refine wpAny_bind (wpAny_setEpoch_of ho rfl hf ?_)
    refine wpAny_bind (wpAny_newObj_type ?_)
    have hI : (s.heap.push { cls := .type "set_iterator", data := .fields [rawInt 0, rawInt 0, Value.ref S, rawInt ↑es.size, rawInt ↑ep].toArray }).get? s.heap.objs.size = some (siO (rawInt (0 : Nat)) (0 : Nat) S es.size ep) := Heap.get?_push_size _ rfl
    have hSI : S ≠ s.heap.objs.size := Nat.ne_of_lt hSlt
    refine wpAny_pure ⟨_, rfl, "set_iterator", _, ⟨_, hI, rfl⟩, slot_si_next.lookup, ?_⟩
    have es' : s = { s with heap := s.heap, drawn := s.drawn } := by cases s; rfl
    have hself : ∀ (A' : Around) (o : Obj) (s' : Shared) (Q' : Value → Shared → Prop) (E' : Value → Shared → Prop), s'.heap.get? s.heap.objs.size = some o → o.cls = .type "set_iterator" → Q' (.ref s.heap.objs.size) s' → wpAny (model prog w) A' (pyIter (.ref s.heap.objs.size)) Q' E' s' := by
      intro A' o s' Q' E' hg hcl hQ'
      have hT' : s'.TypeIs (.ref s.heap.objs.size) "set_iterator" := ⟨_, hg, hcl⟩
      refine wpAny_pyIter_slot hT' slot_si_iter (wpAny_call_entry slot_si_iter hT' entry_si_iter ?_ (args_si_iter _))
      show wpAny _ _ (ret (.ref s.heap.objs.size)) _ _ s'
      exact wpAny_pure ⟨_, rfl, "set_iterator", _, hT', slot_si_next.lookup, hQ'⟩
    have hfp : ∀ (ob : Obj), ∀ b ∈ [s.heap.objs.size, S], b < (s.heap.push ob).objs.size := fun ob b hb => by
      rw [Heap.size_push]
      rcases List.mem_cons.mp hb with rfl | hb
      · exact Nat.lt_succ_self _
      · rw [List.mem_singleton.mp hb]; exact Nat.lt_succ_of_lt hSlt
    have hfq : ∀ b ∈ [s.heap.objs.size, S], b = S ∨ s.heap.objs.size ≤ b := fun b hb => by
      rcases List.mem_cons.mp hb with rfl | hb
      · exact .inr (Nat.le_refl _)
      · exact .inl (List.mem_singleton.mp hb)
    cases hbt : byT w with
    | true =>
      refine hQ s.heap.objs.size [s.heap.objs.size, S] ((pickOrder (w.params.setOrder S ep) es).toList.map (·.2)) (fun i h => h.get? s.heap.objs.size = some (siO (rawInt (0 : Nat)) (i : Nat) S es.size ep) ∧ h.get? S = some (setO es ep t))
        _ s.drawn (Nat.le_refl _) (fun b ob x => Heap.get?_push_of_some _ x) (.head _) (hfp _) hfq (((pick_perm _ es).map _).trans hpv) (fun A' hh => ?_) ⟨hI, Heap.get?_push_of_some _ ho⟩
      have hnx : ∀ (i : Nat) (s' : Shared), s'.heap.get? S = some (setO es ep t) → ∀ (A : Around) (E : Value → Shared → Prop) (Q' : Option (Value × Nat) → Shared → Prop), Q' (((pickOrder (w.params.setOrder S ep) es)[i]?).map fun e => (e.2, 0)) s' → wpAny (model prog w) A (setNext S 0 i ep) Q' E s' := by
        intro i s' hS' A E Q' hq
        unfold setNext
        refine wpAny_bind (wpAny_setState_of hS' rfl hf ?_)
        refine wpAny_bind (set_byText ?_)
        rw [hbt]
        simp only [if_true, bne_self_eq_false, Bool.false_eq_true, if_false]
        unfold setWalk
        refine wpAny_bind (wpAny_bind (wpAny_setState_of hS' rfl hf ?_))
        refine wpAny_bind (set_byText ?_)
        rw [hbt]
        simp only [if_true]
        exact wpAny_bind (wpAny_askSetting (wpAny_pure (wpAny_pure hq)))
      refine ⟨fun b hb => by (rw [List.mem_singleton.mp hb]; exact .head _), ?_, ?_, ?_, ?_⟩
      · exact fun i h h' st hk => ⟨hk _ (.head _) _ st.1, hk _ (.tail _ (.head _)) _ st.2⟩
      · intro i s' Q' E' hi st hQ'
        have hi2 : i < (pickOrder (w.params.setOrder S ep) es).size := by simpa using hi
        have he := Array.getElem?_eq_getElem hi2
        refine siP_item (next := 0) (x := (pickOrder (w.params.setOrder S ep) es)[i].2) st.1 st.2 hf rfl (fun A E Q' hq => hnx i s' st.2 A E Q' (by rw [he]; exact hq)) fun h' hI' hs' => ?_
        exact hQ' _ h' s'.toks (by rw [List.getElem?_map, Array.getElem?_toList, he]; rfl) ⟨hI', (hs'.2 S hSI).trans st.2⟩ fun b o hb x => (hs'.2 b fun q => hb (by rw [q]; exact .head _)).trans x
      · intro s' Q' E' st hQ'
        have he : (pickOrder (w.params.setOrder S ep) es)[((pickOrder (w.params.setOrder S ep) es).toList.map (·.2)).length]? = none := Array.getElem?_eq_none (by simp)
        refine siP_end hh st.1 st.2 hf rfl (fun A E Q' hq => hnx _ s' st.2 A E Q' (by rw [he]; exact hq)) fun h' he => ?_
        exact hQ' h' s'.toks fun b o hb x => he b o (fun q => hb (by rw [q]; exact .head _)) x
      · exact fun i s' Q' E' st hQ' => hself A' _ s' Q' E' st.1 rfl hQ'
    | false =>
      have hx1 : xs.length = 1 := by
        rcases hn with h | h
        · exact h
        · have h3 : t.plain = false := hpl fun q => by rw [q] at h; cases h
          rw [hbt, h3, hsz, h] at hc
          exact absurd rfl hc
      have hled' : t.led = true := by rw [hled, hbt]; rfl
      have he1 : es.size = 1 := hsz.trans hx1
      have hp1 : t.place.size = 1 := by
        unfold SetTable.fits at hf
        simp only [Bool.and_eq_true, beq_iff_eq] at hf
        exact hf.1.trans he1
      have hd0 : (!t.plain && decide (es.size > 1)) = false := by rw [he1]; simp
      obtain ⟨j, hj⟩ := arr_one hp1
      obtain ⟨e0, he0⟩ := arr_one he1
      have hb0 : SetTable.below #[j] 0 = 0 := by
        unfold SetTable.below
        simp [SetTable.below.go]
      have hb1 : SetTable.below #[j] (j + 1) = 1 := by
        unfold SetTable.below
        simp [SetTable.below.go]
      have hnx : ∀ (slot i : Nat) (s' : Shared), s'.heap.get? S = some (setO es ep t) → ∀ (A : Around) (E : Value → Shared → Prop) (Q' : Option (Value × Nat) → Shared → Prop), Q' (match es[SetTable.below t.place slot]?, t.place[SetTable.below t.place slot]? with | some (_, x), some j => some (x, j + 1) | _, _ => none) s' → wpAny (model prog w) A (setNext S slot i ep) Q' E s' := by
        intro slot i s' hS' A E Q' hq
        unfold setNext
        refine wpAny_bind (wpAny_setState_of hS' rfl hf ?_)
        refine wpAny_bind (set_byText ?_)
        rw [hbt]
        simp only [Bool.false_eq_true, if_false]
        change wpAny _ _ (ite ((!t.plain && decide (es.size > 1)) = true) _ _) _ _ _
        rw [hd0]
        simp only [Bool.false_eq_true, if_false]
        refine wpAny_bind ?_
        change wpAny _ _ (ite ((!t.led && !es.isEmpty) = true) _ _) _ _ _
        rw [hled']
        simp only [Bool.not_true, Bool.false_and, Bool.false_eq_true, if_false]
        exact wpAny_pure (wpAny_pure hq)
      refine hQ s.heap.objs.size [s.heap.objs.size, S] [e0.2] (fun i h => h.get? s.heap.objs.size = some (siO (rawInt ((if i = 0 then 0 else j + 1 : Nat))) (i : Nat) S es.size ep) ∧ h.get? S = some (setO es ep t))
        _ s.drawn (Nat.le_refl _) (fun b ob x => Heap.get?_push_of_some _ x) (.head _) (hfp _) hfq (by rw [he0] at hpv; exact hpv) (fun A' hh => ?_) ⟨hI, Heap.get?_push_of_some _ ho⟩
      refine ⟨fun b hb => by (rw [List.mem_singleton.mp hb]; exact .head _), ?_, ?_, ?_, ?_⟩
      · exact fun i h h' st hk => ⟨hk _ (.head _) _ st.1, hk _ (.tail _ (.head _)) _ st.2⟩
      · intro i s' Q' E' hi st hQ'
        have hi0 : i = 0 := by simp only [List.length_cons, List.length_nil] at hi; omega
        subst hi0
        refine siP_item (slot := 0) (next := j + 1) (x := e0.2) st.1 st.2 hf rfl (fun A E Q' hq => hnx 0 0 s' st.2 A E Q' (by rw [hj, hb0, he0]; exact hq)) fun h' hI' hs' => ?_
        exact hQ' _ h' s'.toks rfl ⟨hI', (hs'.2 S hSI).trans st.2⟩ fun b o hb x => (hs'.2 b fun q => hb (by rw [q]; exact .head _)).trans x
      · intro s' Q' E' st hQ'
        refine siP_end (slot := j + 1) (i := 1) hh st.1 st.2 hf rfl (fun A E Q' hq => hnx (j + 1) 1 s' st.2 A E Q' (by rw [hj, hb1, he0]; exact hq)) fun h' he => ?_
        exact hQ' h' s'.toks fun b o hb x => he b o (fun q => hb (by rw [q]; exact .head _)) x
      · exact fun i s' Q' E' st hQ' => hself A' _ s' Q' E' st.1 rfl hQ'
end
end Mine
end
section
open PySem PySem.W PySem.Spec PySem.Calls PyProof.Rows
set_option maxRecDepth 100000
set_option maxHeartbeats 4000000
namespace Mine
section
variable {prog : Program} {w : World} {A : Around} {E : Value → Shared → Prop} {s : Shared} {h₀ : Heap} {L : Addr} {m : Str → Option Value} {J : Led}
theorem hint_set {S : Addr} {Q : Bool → Shared → Prop} (hT : s.TypeIs (.ref S) "set") (h : Q false s) : wpAny (model prog w) A (Builtin.List.listLengthHint (.ref S)) Q E s := by
  unfold Builtin.List.listLengthHint
  refine wpAny_bind (wpAny_specialOf hT PySem.F.slot_set_len.lookup ?_)
  generalize hid : ("set.__len__" : String) = id0
  wp_delta
  rw [show splitId id0 = some ("set", "__len__") from by subst hid; decide +kernel]
  subst hid
  refine wpAny_bind (wpAny_isInstance (T := "set") (b := true) hT (by rw [isSubtype_type]; kernel_rfl) ?_)
  refine wpAny_ite_split (fun hab => absurd hab (by decide)) (fun _ => ?_)
  refine wpAny_ite_split (fun _ => ?_) (fun hab => absurd (by decide +kernel) hab)
  refine wpAny_bind (wpAny_typeOf hT ?_)
  exact wpAny_pure h
theorem items_perm {order : List Value} {acc : Array Value} (h : ItemsOf (fun i v => order[i]? = some v) acc order.length) : acc.toList = order := by
  apply List.ext_getElem?
  intro i
  cases hq : acc.toList[i]? with
  | some v =>
    have := h.2 i v (by rw [← Array.getElem?_toList]; exact hq)
    exact this.symm
  | none =>
    have h1 : acc.toList.length ≤ i := List.getElem?_eq_none_iff.mp hq
    rw [Array.length_toList, h.1] at h1
    exact (List.getElem?_eq_none_iff.mpr h1).symm
theorem collect_set {S : Addr} {xs : List (Str × Tok)} {Q : List Value → Shared → Prop} (hh : A.handled = none) (hS : SetQ prog w s.heap S (!byT w) xs) (hn : xs.length = 1 ∨ xs.length = 2)
    (h : ∀ (h' : Heap) (tk : Nat) (dr : Drawn) (order : List Value), (∀ b o, s.heap.get? b = some o → h'.get? b = some o) → List.Perm order (xs.map fun p => Value.str p.1 p.2) → Q order { s with heap := h', toks := tk, drawn := dr }) :
    wpAny (model prog w) A (collect (.ref S)) Q E s := by
  obtain ⟨oS, hoS⟩ : ∃ oS, s.heap.get? S = some oS ∧ oS.cls = .type "set" := by obtain ⟨es, ep, t, ho, _⟩ := hS; exact ⟨_, ho, rfl⟩
  have hSlt : S < s.heap.objs.size := Heap.lt_size hoS.1
  unfold collect
  refine wpAny_bind (wpAny_runValue (codeAny_builtin entry_proto_collect' ?_))
  rw [Around.under_plainId PySem.F.plain_proto_collect _]
  show wpAny _ A.in1 (newList [] >>= fun l => again (.builtin "list.__iadd__" ⟨[l, .ref S], []⟩)) _ _ s
  refine wpAny_bind (wpAny_newObj_type ?_)
  refine wpAny_pure ⟨plainId_quiet PySem.F.plain_list_iadd _, codeAny_builtin entry_list_iadd' ?_⟩
  rw [Around.under_plainId PySem.F.plain_list_iadd _]
  generalize hH : s.heap.push { cls := .type "list", data := .seq ([] : List Value).toArray } = H
  generalize hD : s.heap.objs.size = D at *
  have hD1 : H.get? D = some { cls := .type "list", data := .seq #[] } := by rw [← hH, ← hD]; exact Heap.get?_push_size _ rfl
  have hk1 : ∀ b o, s.heap.get? b = some o → H.get? b = some o := fun b o x => by rw [← hH]; exact Heap.get?_push_of_some _ x
  have hz : H.objs.size = D + 1 := by rw [← hH, ← hD]; exact Heap.size_push ..
  have hSD : S ≠ D := Nat.ne_of_lt hSlt
  have hT : Shared.TypeIs { s with heap := H } (.ref S) "set" := ⟨_, hk1 _ _ hoS.1, hoS.2⟩
  show wpAny _ A.in1 (Builtin.List.listExtendWith (.ref D) (.ref S) (.ref D)) _ _ _
  unfold Builtin.List.listExtendWith
  refine wpAny_bind (wpAny_typeOf hT ?_)
  have h1 : Builtin.List.listSameRef (.ref D) (.ref S) = false := by simp [Builtin.List.listSameRef, Ne.symm hSD]
  have h2 : (Value.type "set" == Value.type "list") = false := by decide
  have h3 : (Value.type "set" == Value.type "tuple") = false := by decide
  simp only [h1, h2, h3, Bool.or_false, Bool.false_eq_true, if_false]
  refine wpAny_bind (set_iter (s := { s with heap := H }) (hS.keep fun o e => hk1 _ _ e) hn fun I fp order St h' dr hIge hk2 hIf hfp hfq hperm W st => ?_)
  have hDI : D ≠ I := by
    have : D < I := Nat.lt_of_lt_of_le (by rw [hz]; exact Nat.lt_succ_self _) hIge
    exact Nat.ne_of_lt this
  have hT2 : Shared.TypeIs { s with heap := h', drawn := dr } (.ref S) "set" := ⟨_, hk2 _ _ (hk1 _ _ hoS.1), hoS.2⟩
  refine wpAny_bind (wpAny_holding (hint_set hT2 ?_))
  have hDf : D ∉ fp := fun hm => by
    rcases hfq D hm with q | q
    · exact hSD q.symm
    · have : H.objs.size ≤ D := q
      rw [hz] at this
      exact Nat.not_succ_le_self _ this
  refine wpAny_ite_split (fun _ => ?_) (fun hab => absurd (by decide +kernel) hab)
  refine wpAny_bind (wpAny_rule ?_)
  refine wpAny_bind ?_
  have hS₁ : h'.get? D = some { cls := .type "list", data := .seq #[] } := hk2 _ _ hD1
  show wpAny _ _ (updateSeq D (·.push .none) >>= fun _ => updateSeq D (·.pop)) _ _ _
  refine wpAny_bind (wpAny_updateSeq hS₁ rfl ?_)
  have hS₂ := Heap.get?_update_self (Obj.mapSeq (·.push Value.none)) hS₁ rfl
  refine wpAny_updateSeq (hz := by seq_fits) hS₂ rfl ?_
  have hS₃ := Heap.get?_update_self (Obj.mapSeq (·.pop)) hS₂ rfl
  have oth : ∀ b o, b ≠ D → h'.get? b = some o → ((h'.update D (Obj.mapSeq (·.push Value.none))).update D (Obj.mapSeq (·.pop))).get? b = some o :=
    fun b o hb e => (Heap.get?_update_other _ _ (Ne.symm hb)).trans ((Heap.get?_update_other _ _ (Ne.symm hb)).trans e)
  have hW := W A.in1 (by simp [hh])
  have hlen : order.length ≤ sizeLine := by rw [hperm.length_eq, List.length_map]; exact fits (by omega)
  refine wpAny_pure ⟨plainId_quiet PySem.F.plain_extend_loop _, codeAny_extend_loopS hW.toS hlen D hDf _ order.length 0 _ _ _ rfl (Nat.zero_le _) (hW.frame 0 _ _ st fun b hb o e => oth b o (fun q => hDf (q ▸ hb)) e) hS₃ (ItemsOf.nil _) fun s' acc' c' hm hS' hacc => ?_⟩
  show wpAny _ A (load D >>= _) _ _ s'
  refine wpAny_bind (wpAny_load hS' ?_)
  have := h s'.heap s'.toks dr order (fun b o e => ?_) hperm
  · rw [Moved.eq_with hm]
    exact wpAny_pure (by rw [items_perm hacc]; exact this)
  · have hb1 : b ≠ D := Nat.ne_of_lt (by rw [← hD]; exact Heap.lt_size e)
    refine hm.heap b o (fun hmem => ?_) (oth b o hb1 (hk2 _ _ (hk1 _ _ e)))
    rcases List.mem_cons.mp hmem with e' | hmem
    · exact hb1 e'
    · have e2 := List.mem_singleton.mp hmem
      have h4 : b < D := by rw [← hD]; exact Heap.lt_size e
      have h5 : H.objs.size ≤ I := hIge
      rw [hz] at h5
      rw [e2] at h4
      exact absurd h4 (Nat.not_lt.mpr (Nat.le_of_succ_le h5))
theorem sorted_set {S : Addr} {xs : List (Str × Tok)} {Q : Value → Shared → Prop} (F : Fr h₀ L s.heap m) (N : News h₀ L s.heap J) (hh : A.handled = none) (hS : SetQ prog w s.heap S (!byT w) xs) (hn : xs.length = 1 ∨ xs.length = 2)
    (h : ∀ (D : Addr) (h' : Heap) (tk : Nat) (dr : Drawn) (vs : List Value) (ss : List Str) (e : Nat), Fr h₀ L h' m → News h₀ L h' ((D, listOf vs.toArray e) :: J) → (∀ p ∈ J, p.1 < D) → StrsAre vs ss → List.Perm ss (xs.map (·.1)) → sortedS ss = true → Q (.ref D) { s with heap := h', toks := tk, drawn := dr }) :
    wpAny (model prog w) A (call (.builtin "sorted") [.ref S]) Q E s := by
  refine Calls.call_function_entry kind_sorted plain_sorted entry_sorted (args_sorted1 _) ?_
  unfold Builtin.«sorted»
  refine wpAny_bind (m := checkCount "sorted" 1 1 _) (wpAny_pure ?_)
  refine wpAny_bind (collect_set (A := A.in1) (by simp [hh]) hS hn fun h1 tk dr order hk hperm => ?_)
  have hlo : order.length ≤ 2 := by rw [hperm.length_eq, List.length_map]; omega
  refine wpAny_bind (wpAny_newList ?_ (fits (by omega)))
  have hoL : (h1.push (seqObj "list" order.toArray 0)).get? h1.objs.size = some (seqObj "list" order.toArray 0) := Heap.get?_push_size _ rfl
  have hstr : ∃ ss, StrsAre order ss ∧ List.Perm ss (xs.map (·.1)) := by
    have hall : ∀ v, v ∈ order → ∃ x t, v = .str x t := fun v hv => by
      obtain ⟨p, _, rfl⟩ := List.mem_map.mp (hperm.mem_iff.mp hv)
      exact ⟨_, _, rfl⟩
    refine ⟨_, strsAre_map order hall, ?_⟩
    have := hperm.map strOf
    rw [List.map_map] at this
    exact this
  obtain ⟨ss, hs1, hs2⟩ := hstr
  refine wpAny_bind (wpAny_holding (wpAny_call_entry (s := { s with heap := h1.push (seqObj "list" order.toArray 0), toks := tk, drawn := dr }) slot_list_sort ⟨_, hoL, rfl⟩ entry_list_sort (list_sort_treeK strKind_oneLt hoL hs1.keysOf (fun v₁ v₂ rest e => keyKind_strs (by rw [← e]; exact hs1)) (by omega) fun st' hp hsr => ⟨_, rfl, ?_⟩) (args_list_sort _)))
  obtain ⟨ss', g1, g2, g3⟩ := sorted_out_str hs1 hp hsr
  obtain ⟨e, he⟩ := sortedHeap_at (out := (arrOf st').map (·.2)) hoL
  have hold : ∀ b o, s.heap.get? b = some o → (sortedHeap (h1.push (seqObj "list" order.toArray 0)) h1.objs.size order ((arrOf st').map (·.2))).get? b = some o := fun b o x => by
    have q := hk b o x
    have ql := Heap.lt_size q
    rw [sortedHeap_old (Nat.ne_of_lt ql) (by rw [size_push']; exact Nat.lt_succ_of_lt ql)]
    exact Heap.get?_push_of_some _ q
  have hlt : ∀ p ∈ J, p.1 < h1.objs.size := fun p hp => Heap.lt_size (hk _ _ (N p hp).1)
  have hL1 : L < h1.objs.size := by
    obtain ⟨oL, _, _, hL, _⟩ := F.ns
    exact Heap.lt_size (hk _ _ hL)
  refine wpAny_pure ⟨_, rfl, h h1.objs.size _ tk dr ((arrOf st').map (·.2)).toList ss' e (F.kept hold) (fun p hp => ?_) hlt g1 (g2.trans hs2) g3⟩
  rcases List.mem_cons.mp hp with rfl | hp
  · refine ⟨by rw [Array.toArray_toList]; exact he, Nat.ne_of_gt hL1, ?_⟩
    cases hq : h₀.get? h1.objs.size with
    | none => rfl
    | some o' => exact absurd (Heap.lt_size (hk _ _ (F.keep _ _ hq))) (Nat.lt_irrefl _)
  · exact ⟨hold _ _ (N p hp).1, (N p hp).2⟩
end
end Mine
end
section
open PySem PySem.W PySem.Spec PySem.Calls PyProof.Rows
set_option maxRecDepth 100000
set_option maxHeartbeats 4000000
namespace Mine
def SetObj (prog : Program) (w : World) (o : Obj) (xs : List (Str × Tok)) : Prop := ∀ (h : Heap) (S : Addr), h.get? S = some o → SetQ prog w h S (!byT w) xs
section
variable {prog : Program} {w : World} {A : Around} {E : Value → Shared → Prop} {s : Shared} {h₀ : Heap} {L : Addr} {m : Str → Option Value} {J : Led}
theorem set_news {l : Addr} {n : Nat} {xs : List (Str × Tok)} {Q : Value → Shared → Prop} (F : Fr h₀ L s.heap m) (N : News h₀ L s.heap J) (hh : A.handled = none) (hm : (l, listOf (xs.map fun p => Value.str p.1 p.2).toArray n) ∈ J) (hnd : (xs.map (·.1)).Nodup) (hz : xs.length ≤ 2)
    (h : ∀ S o h' tk, Fr h₀ L h' m → News h₀ L h' ((S, o) :: J) → (∀ p ∈ J, p.1 < S) → SetObj prog w o xs → Q (.ref S) { s with heap := h', toks := tk }) :
    wpAny (model prog w) A (call (.type "set") [.ref l]) Q E s := by
  refine call_set_strs hh ⟨_, (N _ hm).1, rfl, n, rfl⟩ hnd hz fun h' tk hS hk => ?_
  obtain ⟨es, ep, t, ho, r⟩ := hS
  have hLs : L < s.heap.objs.size := F.ns.lt
  refine h _ _ h' tk ⟨F.ns.at' fun o e => hk L o hLs e, fun b o e => hk b o (Heap.lt_size (F.keep b o e)) (F.keep b o e), F.above⟩ (fun p hp => ?_) (fun p hp => Heap.lt_size (N p hp).1) fun hx S hg => ⟨es, ep, t, hg, r⟩
  rcases List.mem_cons.mp hp with rfl | hp
  · exact ⟨ho, Nat.ne_of_gt hLs, Heap.get?_none_of_le (Nat.le_trans F.above (Nat.le_of_lt hLs))⟩
  · exact ⟨hk _ _ (Heap.lt_size (N p hp).1) (N p hp).1, (N p hp).2⟩
end
end Mine
end
section
open PySem PySem.W PySem.Spec PySem.Calls PyProof.Rows PyProof.Rows.LCg
set_option maxRecDepth 100000
set_option maxHeartbeats 1000000
namespace Mine
section
variable {x : Fx} {G : Gh} {M J : Led} {m : Loc} {K : Value → Gh → Prop} {D l : Addr} {c : Bool}
theorem mem_all {p : Addr × Obj} (h : p ∈ G.J) : p ∈ x.H ++ (G.M ++ G.J) := List.mem_append_right _ (List.mem_append_right _ h)
theorem cmp_neL {ys : List Value} {n k : Nat} (hD : (D, listOf ys.toArray n) ∈ G.J) (hl : (l, listOf (List.toArray []) k) ∈ G.J) (hu : x.A.units < cLine) (hc : (!ys.isEmpty) = c) : CmpG x G .NotEq (.ref D) (.ref l) c := fun _ s hs _ _ q =>
  ne_nilL hs.nj hD hl hu (by rw [hc]; exact q s hs)
theorem cmp_eqL {ys : List Value} {n k : Nat} (hD : (D, listOf ys.toArray n) ∈ G.J) (hl : (l, listOf (List.toArray []) k) ∈ G.J) (hu : x.A.units < cLine) (hc : ys.isEmpty = c) : CmpG x G .Eq (.ref D) (.ref l) c := fun _ s hs _ _ q =>
  eq_nilL hs.nj hD hl hu (by rw [hc]; exact q s hs)
theorem readsS {h : Heap} {vs : List Value} {xs : List Str} (k : StrsAre vs xs) : ReadsAll h vs (xs.map .str) [] := by
  induction k with
  | nil => exact .nil
  | cons y t _ ih => exact .cons (.str y t) ih
theorem cmp_strs {vs us : List Value} {xs ys : List Str} {n k : Nat} (hD : (D, listOf vs.toArray n) ∈ G.J) (hl : (l, listOf us.toArray k) ∈ G.J) (h1 : StrsAre vs xs) (h2 : StrsAre us ys) (hu : x.A.units + 64 < cLine) (hx : SeqAt.shaped (.list (xs.map .str)) = true) (hy : SeqAt.shaped (.list (ys.map .str)) = true) (hc : (PyData.list (xs.map .str)).eqv (.list (ys.map .str)) = c) : CmpG x G .Eq (.ref D) (.ref l) c := fun _ s hs _ _ q =>
  eq_dataH (reads_list_at (hs.nj _ hD).1 rfl rfl (by simpa using readsS h1)) (reads_list_at (hs.nj _ hl).1 rfl rfl (by simpa using readsS h2)) hx hy hu (by rw [hc]; exact q s hs)
theorem cg_set {n : Nat} {xs : List (Str × Tok)} (hm : (l, listOf (xs.map fun p => Value.str p.1 p.2).toArray n) ∈ G.J) (hnd : (xs.map (·.1)).Nodup) (hz : xs.length ≤ 2) (h : ∀ S o, SetObj PG x.w o xs → K (.ref S) ⟨G.M, (S, o) :: G.J, G.d⟩) : CallG x G m (.type "set") [.ref l] K := fun s hs Q E q =>
  set_news hs.1 hs.2.1 x.hh (mem_all hm) hnd hz fun S o h' tk F' N' lt ho => q _ _ _ (h S o ho) (st_newJ hs F' N' lt)
theorem cg_sorted {o : Obj} {S : Addr} {xs : List (Str × Tok)} (hm : (S, o) ∈ G.J) (hS : SetObj PG x.w o xs) (hn : xs.length = 1 ∨ xs.length = 2) (h : ∀ D vs ss e d', StrsAre vs ss → List.Perm ss (xs.map (·.1)) → sortedS ss = true → K (.ref D) ⟨G.M, (D, listOf (List.toArray vs) e) :: G.J, d'⟩) : CallG x G m (.builtin "sorted") [.ref S] K := fun s hs Q E q =>
  sorted_set hs.1 hs.2.1 x.hh (hS _ _ (hs.nj _ hm).1) hn fun D h' tk dr vs ss e F' N' hl hv hp hss => q _ _ _ (h D vs ss e dr hv hp hss) (st_newJ (s := { s with drawn := dr }) (d := dr) ⟨hs.1, hs.2.1, hs.2.2.1, hs.2.2.2.1, hs.2.2.2.2.1, rfl⟩ F' N' hl)
end
end Mine
end
section
open PySem PySem.W PySem.Spec PySem.Calls PyProof.Rows
set_option maxRecDepth 100000
namespace Mine
inductive Tf where
  | nil
  | cons (s : Str) (kids rest : Tf)
def okS (s : Str) : Prop := ([Str.ofString "", Str.ofString "?"].any fun y => y == Txt.slice s none (some 1)) = false ∧ s.length ≤ 1000
inductive TfIn (J : Led) : List Value → Tf → Prop where
  | nil : TfIn J [] .nil
  | cons {a : Addr} {s : Str} {t : Tok} {us vs : List Value} {k r : Tf} : Tup J a (.str s t :: us) → okS s → TfIn J us k → TfIn J vs r → TfIn J (.ref a :: vs) (.cons s k r)
def sz : Tf → Nat
  | .nil => 0
  | .cons _ k r => sz k + sz r + 1
def appF : Tf → Tf → Tf
  | .nil, g => g
  | .cons s k r, g => .cons s k (appF r g)
theorem sz_app (f g : Tf) : sz (appF f g) = sz f + sz g := by
  induction f with
  | nil => simp only [appF, sz, Nat.zero_add]
  | cons s k r _ ih => simp only [appF, sz, ih]; omega
section
variable {J J' : Led} {vs us : List Value} {f g : Tf}
theorem TfIn.mono (hs : ∀ p ∈ J, p ∈ J') (h : TfIn J vs f) : TfIn J' vs f := by
  induction h with
  | nil => exact .nil
  | cons m o _ _ i1 i2 => exact .cons (m.mono hs) o i1 i2
theorem TfIn.app (h : TfIn J vs f) (k : TfIn J us g) : TfIn J (vs ++ us) (appF f g) := by
  induction h with
  | nil => exact k
  | cons m o h1 _ _ i2 => exact .cons m o h1 i2
theorem TfIn.len (h : TfIn J vs f) : vs.length ≤ sz f := by
  induction h with
  | nil => exact Nat.le_refl _
  | cons _ _ _ _ _ i2 => simp only [List.length_cons, sz]; omega
theorem TfIn.unsnoc {y : Value} (h : TfIn J (vs ++ [y]) f) : ∃ a s t us k f', y = .ref a ∧ Tup J a (.str s t :: us) ∧ okS s ∧ TfIn J us k ∧ TfIn J vs f' ∧ sz f = sz f' + sz k + 1 := by
  induction vs generalizing f with
  | nil =>
    cases h with
    | @cons a s t us _ k r m o h1 h2 => cases h2; exact ⟨a, s, t, us, k, .nil, rfl, m, o, h1, .nil, by simp only [sz]; omega⟩
  | cons v vs ih =>
    cases h with
    | cons m o h1 h2 =>
      obtain ⟨a, s, t, us, k, f', e, hm, ho, h3, h4, h5⟩ := ih h2
      exact ⟨a, s, t, us, k, _, e, hm, ho, h3, .cons m o h1 h4, by simp only [sz, h5]; omega⟩
end
inductive Kd where
  | turn | join | what | under | list | vop
inductive Nd where
  | told (x : Str)
  | same (f : Tf)
  | rule (two : Bool) (f : Tf)
  | bent (i : Nat)
  | node (k : Kd)
inductive Fo where
  | nil
  | cons (v : Value) (n : Nd) (kids rest : Fo)
structure Th where
  v : Value
  n : Nd
  k : Fo
inductive BentV : Value → Nat → Prop where
  | b0 : BentV (.ref 218) 0
  | b1 : BentV (.ref 219) 1
  | b2 : BentV (.ref 220) 2
  | b3 : BentV (.ref 222) 3
  | b4 : BentV (.ref 223) 4
  | b5 : BentV (.ref 224) 5
  | b6 : BentV (.ref 230) 6
  | b7 : BentV (.ref 232) 7
  | b8 {t : Tok} : BentV (.str (Str.ofString "told") t) 8
  | b9 {t : Tok} : BentV (.int 7 t) 9
  | b10 : BentV (.ref 233) 10
  | b11 : BentV (.ref 236) 11
inductive NdIn (J : Led) : Value → Nd → List Value → Prop where
  | told {a : Addr} {t u : Tok} {x : Str} : Tup J a [.str (Str.ofString "told") t, .str x u] → NdIn J (.ref a) (.told x) []
  | same {a : Addr} {t : Tok} {v : Value} {f : Tf} : Tup J a [.str (Str.ofString "same") t, v] → TfIn J [v] f → NdIn J (.ref a) (.same f) []
  | rule1 {a p q : Addr} {t u r : Tok} {v : Value} {f : Tf} : Tup J a [.str (Str.ofString "rule") t, .str (Str.ofString "r") u, .ref p] → Tup J p [.ref q] → Tup J q [.str (Str.ofString "?x") r, v] → TfIn J [v] f → NdIn J (.ref a) (.rule false f) []
  | rule2 {a p q o : Addr} {t u r k : Tok} {v c : Value} {f : Tf} : Tup J a [.str (Str.ofString "rule") t, .str (Str.ofString "r") u, .ref p] → Tup J p [.ref q, .ref o] → Tup J q [.str (Str.ofString "?x") r, v] → Tup J o [.str (Str.ofString "?y") k, c] → TfIn J [v, c] f → NdIn J (.ref a) (.rule true f) []
  | bent {v : Value} {i : Nat} : BentV v i → NdIn J v (.bent i) []
  | turn {a : Addr} {t : Tok} {us : List Value} : Tup J a (.str (Str.ofString "turn") t :: us) → NdIn J (.ref a) (.node .turn) us
  | join {a : Addr} {t : Tok} {us : List Value} : Tup J a (.str (Str.ofString "join") t :: us) → NdIn J (.ref a) (.node .join) us
  | what {a : Addr} {t : Tok} {us : List Value} : Tup J a (.str (Str.ofString "what") t :: us) → NdIn J (.ref a) (.node .what) us
  | under {a p : Addr} {t u : Tok} {us : List Value} : Tup J a [.str (Str.ofString "under") t, .str (Str.ofString "h") u, .ref p] → Tup J p us → NdIn J (.ref a) (.node .under) us
  | list {a p : Addr} {n : Nat} {t u : Tok} {us : List Value} : Tup J a [.str (Str.ofString "under") t, .str (Str.ofString "h") u, .ref p] → (p, listOf us.toArray n) ∈ J → NdIn J (.ref a) (.node .list) us
  | vop {a p : Addr} {t u : Tok} {us : List Value} : Tup J a [.str (Str.ofString "under") t, .str (Str.ofString "?h") u, .ref p] → Tup J p us → NdIn J (.ref a) (.node .vop) us
inductive FoIn (J : Led) : List Value → Fo → Prop where
  | nil : FoIn J [] .nil
  | cons {v : Value} {n : Nd} {us vs : List Value} {k r : Fo} : NdIn J v n us → FoIn J us k → FoIn J vs r → FoIn J (v :: vs) (.cons v n k r)
def ThIn (J : Led) (v : Value) (t : Th) : Prop := v = t.v ∧ ∃ us, NdIn J t.v t.n us ∧ FoIn J us t.k
def lenF : Fo → Nat
  | .nil => 0
  | .cons _ _ _ r => lenF r + 1
def form (t : Th) : Bool := match t.n with
  | .bent _ => false
  | .node .turn => lenF t.k == 1
  | .node .join => lenF t.k == 2
  | .node .under => true
  | .node _ => false
  | _ => true
def poF (p : List Int) (i : Int) : Fo → List (List Int × Th)
  | .nil => []
  | .cons v n k r => (if form ⟨v, n, k⟩ = true then poF (p ++ [i]) 0 k else []) ++ ((p ++ [i], ⟨v, n, k⟩) :: poF p (i + 1) r)
def kids (t : Th) : Fo := if form t = true then t.k else .nil
def po (p : List Int) (t : Th) : List (List Int × Th) := poF p 0 (kids t) ++ [(p, t)]
def ups (p : List Int) (i : Int) : Fo → List (List Int × Th)
  | .nil => []
  | .cons v n k r => (p ++ [i], ⟨v, n, k⟩) :: ups p (i + 1) r
def wn : Nd → Nat
  | .same f | .rule _ f => sz f + 1
  | .node _ => 2
  | _ => 1
def wt : Fo → Nat
  | .nil => 0
  | .cons _ n k r => wn n + wt k + wt r
def wtT (t : Th) : Nat := wn t.n + wt t.k
section
variable {J J' : Led} {v : Value} {n : Nd} {us vs : List Value} {f : Fo} {t : Th}
theorem NdIn.mono (hs : ∀ p ∈ J, p ∈ J') (h : NdIn J v n us) : NdIn J' v n us := by
  cases h with
  | told m => exact .told (m.mono hs)
  | same m h => exact .same (m.mono hs) (h.mono hs)
  | rule1 a b c h => exact .rule1 (a.mono hs) (b.mono hs) (c.mono hs) (h.mono hs)
  | rule2 a b c e h => exact .rule2 (a.mono hs) (b.mono hs) (c.mono hs) (e.mono hs) (h.mono hs)
  | bent h => exact .bent h
  | turn m => exact .turn (m.mono hs)
  | join m => exact .join (m.mono hs)
  | what m => exact .what (m.mono hs)
  | under m k => exact .under (m.mono hs) (k.mono hs)
  | list m k => exact .list (m.mono hs) (hs _ k)
  | vop m k => exact .vop (m.mono hs) (k.mono hs)
theorem FoIn.mono (hs : ∀ p ∈ J, p ∈ J') (h : FoIn J vs f) : FoIn J' vs f := by
  induction h with
  | nil => exact .nil
  | cons m _ _ i1 i2 => exact .cons (m.mono hs) i1 i2
theorem ThIn.mono (hs : ∀ p ∈ J, p ∈ J') (h : ThIn J v t) : ThIn J' v t := ⟨h.1, h.2.imp fun _ k => ⟨k.1.mono hs, k.2.mono hs⟩⟩
theorem FoIn.len (h : FoIn J vs f) : vs.length = lenF f := by
  induction h with
  | nil => rfl
  | cons _ _ _ _ i2 => simp only [List.length_cons, lenF, i2]
theorem lenF_wt (f : Fo) : lenF f ≤ wt f := by
  induction f with
  | nil => exact Nat.le_refl _
  | cons v n k r _ ih =>
    have : 1 ≤ wn n := by cases n <;> simp only [wn] <;> omega
    simp only [lenF, wt]; omega
theorem ups_po (p : List Int) (i : Int) (f : Fo) : (ups p i f).flatMap (fun r => po r.1 r.2) = poF p i f := by
  induction f generalizing i with
  | nil => rfl
  | cons v n k r _ ih =>
    rw [ups, List.flatMap_cons, ih, po, poF, kids]
    by_cases h : form ⟨v, n, k⟩ = true
    · rw [if_pos h, if_pos h, List.append_assoc]; rfl
    · rw [if_neg h, if_neg h]; rfl
end
end Mine
end
section
open PySem PySem.W PySem.Spec PySem.Calls PyProof.Rows
set_option maxRecDepth 100000
namespace Mine
def PathT (J : Led) (v : Value) (p : List Int) : Prop := ∃ a vs, v = .ref a ∧ Tup J a vs ∧ IntsAre vs p
def PairT (J : Led) (v : Value) (r : List Int × Th) : Prop := ∃ a pv tv, v = .ref a ∧ Tup J a [pv, tv] ∧ PathT J pv r.1 ∧ ThIn J tv r.2
section
variable {J J' : Led} {v : Value} {p : List Int} {r : List Int × Th}
theorem PathT.mono (hs : ∀ p ∈ J, p ∈ J') (h : PathT J v p) : PathT J' v p := by
  obtain ⟨a, vs, e, m, i⟩ := h
  exact ⟨a, vs, e, m.mono hs, i⟩
theorem PairT.mono (hs : ∀ p ∈ J, p ∈ J') (h : PairT J v r) : PairT J' v r := by
  obtain ⟨a, pv, tv, e, m, i, j⟩ := h
  exact ⟨a, pv, tv, e, m.mono hs, i.mono hs, j.mono hs⟩
theorem wn_pos (n : Nd) : 1 ≤ wn n := by cases n <;> simp only [wn] <;> omega
theorem po_bound (f : Fo) : ∀ (p : List Int) (i : Int), (poF p i f).length ≤ wt f ∧ ∀ r ∈ poF p i f, wtT r.2 ≤ wt f ∧ r.1.length ≤ p.length + wt f := by
  induction f with
  | nil => intro p i; exact ⟨Nat.le_refl _, fun r h => nomatch h⟩
  | cons v n k r i1 i2 =>
    intro p i
    have hw := wn_pos n
    obtain ⟨a1, a2⟩ := i1 (p ++ [i]) 0
    obtain ⟨b1, b2⟩ := i2 p (i + 1)
    rw [List.length_append, List.length_singleton] at a2
    have c : ∀ r ∈ (if form ⟨v, n, k⟩ = true then poF (p ++ [i]) 0 k else []), r ∈ poF (p ++ [i]) 0 k := fun r hr => by
      by_cases h : form ⟨v, n, k⟩ = true
      · rw [if_pos h] at hr; exact hr
      · rw [if_neg h] at hr; nomatch hr
    have c1 : (if form ⟨v, n, k⟩ = true then poF (p ++ [i]) 0 k else []).length ≤ wt k := by
      by_cases h : form ⟨v, n, k⟩ = true
      · rw [if_pos h]; exact a1
      · rw [if_neg h]; exact Nat.zero_le _
    rw [poF, wt]
    refine ⟨?_, fun q hq => ?_⟩
    · rw [List.length_append, List.length_cons]; omega
    · rcases List.mem_append.mp hq with hq | hq
      · have := a2 q (c q hq); omega
      · rcases List.mem_cons.mp hq with rfl | hq
        · rw [List.length_append, List.length_singleton, wtT]; exact ⟨Nat.le_add_right _ _, by omega⟩
        · have := b2 q hq; omega
theorem kids_wt (t : Th) : wt (kids t) + 1 ≤ wtT t := by
  have h1 : wt (kids t) ≤ wt t.k := by unfold kids; by_cases h : form t = true <;> simp [h, wt]
  have h2 := wn_pos t.n
  unfold wtT; omega
theorem poT_bound (t : Th) (p : List Int) : (po p t).length ≤ wtT t ∧ ∀ r ∈ po p t, wtT r.2 ≤ wtT t ∧ r.1.length ≤ p.length + wtT t := by
  have hw := wn_pos t.n
  have hk : wt (kids t) ≤ wt t.k := by unfold kids; by_cases h : form t = true <;> simp [h, wt]
  obtain ⟨a1, a2⟩ := po_bound (kids t) p 0
  rw [po, wtT]
  refine ⟨by rw [List.length_append, List.length_singleton]; omega, fun q hq => ?_⟩
  rcases List.mem_append.mp hq with hq | hq
  · have := a2 q hq; omega
  · rw [List.mem_singleton.mp hq, wtT]; simp only; omega
theorem po_self (r : List Int × Th) : r ∈ po r.1 r.2 := List.mem_append_right _ (List.mem_singleton.mpr rfl)
theorem po_snoc (l : List (List Int × Th)) (r : List Int × Th) : ((l ++ [r]).flatMap fun r => po r.1 r.2) = (l.flatMap fun r => po r.1 r.2) ++ (poF r.1 0 (kids r.2) ++ [r]) := by
  rw [List.flatMap_append, List.flatMap_singleton, po]
theorem ups_len (p : List Int) (i : Int) (f : Fo) : (ups p i f).length = lenF f := by
  induction f generalizing i with
  | nil => rfl
  | cons v n k r _ ih => rw [ups, List.length_cons, ih, lenF]
def treeAt : Fo → Nat → Option Th
  | .nil, _ => none
  | .cons v n k _, 0 => some ⟨v, n, k⟩
  | .cons _ _ _ r, i + 1 => treeAt r i
theorem FoIn.at {vs : List Value} {f : Fo} (h : FoIn J vs f) : ∀ {i : Nat} {v : Value}, vs[i]? = some v → ∃ t, treeAt f i = some t ∧ ThIn J v t := by
  induction h with
  | nil => intro i v h; cases h
  | @cons v n us vs k r m h1 _ _ ih =>
    intro i u hu
    cases i with
    | zero => cases hu; exact ⟨⟨v, n, k⟩, rfl, rfl, us, m, h1⟩
    | succ i => exact ih hu
theorem ups_at (p : List Int) {f : Fo} : ∀ {i : Nat} {j : Int} {t : Th}, treeAt f i = some t → (ups p j f)[i]? = some (p ++ [j + i], t) := by
  induction f with
  | nil => intro i j t h; cases h
  | cons v n k r _ ih =>
    intro i j t h
    cases i with
    | zero => cases h; simp [ups]
    | succ i =>
      rw [ups, List.getElem?_cons_succ, ih (by exact h)]
      congr 3
      simp only [List.cons.injEq, and_true]
      omega
end
end Mine
end
section
open PySem PySem.W PySem.W.X PySem.Spec PySem.Calls PyProof.Rows
set_option maxRecDepth 100000
set_option maxHeartbeats 8000000
namespace Mine
theorem wide {α : Type} {M : Model} {A A' : Around} {t : Sem α} {Q : α → Shared → Prop} {E : Value → Shared → Prop} {s : Shared} (hh : A'.handled = A.handled) (hf : A'.frames = A.frames) (hg : A'.guards = A.guards) (hd : A.depth ≤ A'.depth) (hu : A.units ≤ A'.units)
    (h : wpAny M A' t Q E s) : wpAny M A t Q E s := fun Γ p hΓ => h Γ p ⟨by rw [hh]; exact hΓ.1, Nat.le_trans hΓ.2.1 hd, fun l hl => hΓ.2.2.1 l (by rw [← hf]; exact hl), fun g hg' => hΓ.2.2.2.1 g (by rw [← hg]; exact hg'), Nat.le_trans hΓ.2.2.2.2 hu⟩
abbrev excO (d : Option Addr) (t : Addr) : Obj := { cls := .ref 81, dict := d, data := .fields #[.ref t, .none, .none, .none, .bool false, .none] }
def NewEnds (s : Shared) (v p : Value) (Q : Value → Shared → Prop) : Prop := ∀ e t h', Mem s.heap h' [] [(e, excO none t), (t, tupO [v, p])] → Q (.ref e) { heap := h', gens := s.gens, drawn := s.drawn, toks := s.toks, os := s.os }
theorem NewEnds.go {s : Shared} {v p : Value} {Q : Value → Shared → Prop} {e t : Addr} {h' : Heap} (k : NewEnds s v p Q) (D : Mem s.heap h' [] [(e, excO none t), (t, tupO [v, p])]) : Q (.ref e) { heap := h', gens := s.gens, drawn := s.drawn, toks := s.toks, os := s.os } := k e t h' D
local macro_rules | `(tactic| x_close) => `(tactic| exact NewEnds.go (by assumption) (by assumption))
theorem exc_new0 {w : World} {fr : Option (List Env)} {gd : Option (List Code)} {hn : Option Value} {s : Shared} {Q E : Value → Shared → Prop} {v p : Value}
  (X : (Mine.hd.heap_1 w.params).In s.heap)
  (ret : NewEnds s v p Q) :
  wpAny (model PySem.Challenge.rw_rg0115_01.row.prog w) { handled := hn, depth := 600, frames := fr, guards := gd, units := 2000 } (call (.builtin "Exception.__new__") [.ref 81, v, p]) Q E s := by
  x_run
theorem exc_new {w : World} {A : Around} {s : Shared} {Q E : Value → Shared → Prop} {v p : Value}
  (X : (Mine.hd.heap_1 w.params).In s.heap) (hd : A.depth ≤ 600) (hu : A.units ≤ 2000)
  (ret : ∀ e t h', Mem s.heap h' [] [(e, excO none t), (t, tupO [v, p])] → Q (.ref e) { s with heap := h' }) :
  wpAny (model PySem.Challenge.rw_rg0115_01.row.prog w) A (call (.builtin "Exception.__new__") [.ref 81, v, p]) Q E s :=
  wide (A' := { handled := A.handled, depth := 600, frames := A.frames, guards := A.guards, units := 2000 }) rfl rfl rfl hd hu (exc_new0 X ret)
theorem exc_cls {w : World} {h : Heap} (X : (Mine.hd.heap_1 w.params).In h) : ∃ nm q N bs bm hdct sn sub ab col dd k0 k1 k2 k3 k5, h.get? 81 = some (excClassObj nm q 81 N bs bm hdct sn sub ab col dd k0 k1 k2 k3 k5 "Exception.__new__") :=
  ⟨_, _, _, _, _, _, _, _, _, _, _, _, _, _, _, _, X 81 _ rfl⟩
theorem exc_call {w : World} {A : Around} {s : Shared} {Q E : Value → Shared → Prop} {v p : Value}
  (X : (Mine.hd.heap_1 w.params).In s.heap) (hd : A.depth ≤ 500) (hu : A.units ≤ 1900)
  (ret : ∀ e t h', Mem s.heap h' [] [(e, excO none t), (t, tupO [v, p])] →
    wpAny (model PySem.Challenge.rw_rg0115_01.row.prog w) (A.under (.builtin "type.__call__" ⟨[.ref 81, v, p], []⟩)) (call (.ref 71) [.ref e, v, p]) (fun r s' => r = .none ∧ Q (.ref e) s') E { s with heap := h' }) :
  wpAny (model PySem.Challenge.rw_rg0115_01.row.prog w) A (call (.ref 81) [v, p]) Q E s := by
  obtain ⟨nm, q, N, bs, bm, hdct, sn, sub, ab, col, dd, k0, k1, k2, k3, k5, hC⟩ := exc_cls X
  have f1 := tc_lookup
  have f2 := tc_bind (.ref 81)
  have hT : s.TypeIs (.ref 81) "type" := ⟨_, hC, rfl⟩
  have LI := looks_findIn (M := model PySem.Challenge.rw_rg0115_01.row.prog w) X (t := .ref 81) (name := Str.ofString "__init__") (r := some (.ref 71)) (by k_is)
  have LF := looks_typeIn (M := model PySem.Challenge.rw_rg0115_01.row.prog w) X (v := .ref 71) (t := .type "function") (by k_is)
  obtain ⟨h, g, d, t, os⟩ := s
  refine wpAny_call (codeAny_of_tree ?_)
  show wpAny _ _ (callAny (.ref 81) _) _ _ _
  repeat (any_goals (first | assumption | with_reducible refine wpAny_loadPart_at hC ?_ | wp_step))
  refine ⟨rfl, ?_⟩
  refine codeAny_call_builtin_at (Code.quiet_builtin _ (by decide +kernel)) entry_typeCall (wpAny_check_type_call_sub hC ?_)
  repeat (first | with_reducible refine wpAny_loadPart_at hC ?_ | with_reducible refine wpAny_madeBy_exc hC ?_ | ((fail_if_success (with_reducible show wpAny _ _ (call _ _ _) _ _ _)); wp_step))
  refine exc_new (A := _) X (Nat.le_trans (Nat.le_of_eq rfl) (Nat.succ_le_succ (Nat.le_trans hd (by decide : 500 ≤ 599)))) (Nat.le_trans (Nat.le_of_eq rfl) (Nat.succ_le_succ (Nat.le_trans hu (by decide : 1900 ≤ 1999)))) ?_
  intro e t' h' D
  have k : ∀ b o, h.get? b = some o → h'.get? b = some o := fun b o z => D.keep b o z (by simp [away])
  have he := D.at 0 e _ rfl
  have hC' := k _ _ hC
  have hcC : (Value.ref 81 :: bm).contains (.ref 81) = true := by simp
  have LI' := LI.keeps k
  have LF' := LF.keeps k
  unfold isInstance
  repeat (first | with_reducible refine wpAny_loadPart_at he ?_ | (with_reducible refine wpAny_isSubtype_exc hC' ?_; rw [hcC]) | ((fail_if_success (with_reducible show wpAny _ _ (callSpecial? _ _ _ _) _ _ _)); wp_step))
  have X' : (Mine.hd.heap_1 w.params).In h' := fun a o z => k a o (X a o z)
  refine special_fn (f := 71) X' (ox := excO none t') (od := none) ⟨he, rfl, rfl, trivial⟩ (by k_is) (by k_is) (wpAny_mono (ret e t' h' D) (fun r s' hr => ?_) fun _ _ z => z)
  obtain ⟨rfl, hq⟩ := hr
  wp_walk
  exact hq
end Mine
end
section
open PySem PySem.W PySem.W.X PySem.Spec PySem.Calls PyProof.Rows
open Builtin Builtin.ObjectAttr
set_option maxRecDepth 100000
set_option maxHeartbeats 8000000
namespace Mine
theorem refuse81 (self : Value) : refuseLoop self "__setattr__" [.ref 81, .ref 40, .type "Exception", .type "BaseException", .type "object"] = pure () := by
  rw [refuseLoop_ref, refuseLoop_ref]; exact PySem.F.store_Exception.passes self
theorem cls81 {w : World} : ∃ cd, clsIn (Mine.hd.heap_1 w.params) 81 = some cd ∧ cd.mro = [.ref 81, .ref 40, .type "Exception", .type "BaseException", .type "object"] ∧ cd.hasDict = true := ⟨_, rfl, rfl, rfl⟩
section
variable {w : World} {A : Around} {E : Value → Shared → Prop} {s : Shared} {h₀ : Heap} {L : Addr} {m : Str → Option Value} {news : Led} {R : Result → Shared → Prop}
theorem osa_exc {x : Addr} {ox : Obj} {od : Option Obj} {name : Str} {tk : Tok} {v : Value} (X : (Mine.hd.heap_1 w.params).In s.heap) (I : InstAt s.heap x ox 81 od) (ha : findIn (Mine.hd.heap_1 w.params) (.ref 81) name = some none)
    (h : ∀ b, wpAny (model PySem.Challenge.rw_rg0115_01.row.prog w) A.in1 (storeInOwnDict (.ref x) (.ref 81) (.str name tk) name v b)
      (fun fin s' => match fin with | .done f => R (.ok f) s' | .again c' => c'.quiet = true ∧ codeAny (model PySem.Challenge.rw_rg0115_01.row.prog w) A c' R s') (fun e s' => R (.error e) s') s) :
    codeAny (model PySem.Challenge.rw_rg0115_01.row.prog w) A (.call (.builtin "object.__setattr__") ⟨[.ref x, .str name tk, v], []⟩) R s := by
  have SF := PySem.F.store_object
  obtain ⟨cd, hc, hmro, hdict⟩ := cls81 (w := w)
  have sub : Looks (model PySem.Challenge.rw_rg0115_01.row.prog w) s.heap (isInstance (.ref x) (.type "object")) true := I.type.andThen (looks_mroIn X (by k_is))
  refine codeAny_call_builtin SF.slot.plain SF.entry (@check_slot (model PySem.Challenge.rw_rg0115_01.row.prog w) _ _ s "object.__setattr__" "object" "__setattr__" (.ref x) [.str name tk, v] [] _ SF.kind SF.split sub (SF.args (.ref x) (.str name tk) v) ?_)
  have hm : Looks (model PySem.Challenge.rw_rg0115_01.row.prog w) s.heap (mroOf (.ref 81)) cd.mro := (looks_clsIn X hc).andThen .now
  rw [osa_eq, refuse_eq]
  refine wpAny_bind (wpAny_bind (I.type.here (wpAny_bind (hm.here ?_))))
  rw [hmro, refuse81]
  exact wpAny_pure (wpAny_bind (I.type.here (wpAny_bind ((looks_findIn X ha).here (wpAny_bind (wpAny_pure (h _)))))))
theorem exc_set_core {x : Addr} {ox : Obj} {od : Option Obj} {name : Str} {v : Value} {Q : Unit → Shared → Prop} (X : (Mine.hd.heap_1 w.params).In s.heap) (I : InstAt s.heap x ox 81 od) (ha : findIn (Mine.hd.heap_1 w.params) (.ref 81) name = some none)
    (h : ∀ (A : Around) (Q' : Fin → Shared → Prop) (E' : Value → Shared → Prop) b, (∀ s', Q () s' → Q' (.done (.ret .none)) s') → wpAny (model PySem.Challenge.rw_rg0115_01.row.prog w) A (storeInOwnDict (.ref x) (.ref 81) (.str name s.toks) name v b) Q' E' { s with toks := s.toks + 1 }) :
    wpAny (model PySem.Challenge.rw_rg0115_01.row.prog w) A (setAttr (.ref x) name v) Q E s := by
  refine set_plain X I (by k_is) (osa_exc (s := { s with toks := s.toks + 1 }) X I ha fun b => ?_)
  exact h _ _ _ b fun s' q => q
theorem store_in {dx : Addr} {es es' : List DictEntry} {n n' : Nat} {name : Str} {tk : Tok} {v : Value} {Q : Fin → Shared → Prop} (D : s.heap.get? dx = some (dictOf es n)) (hl : (getL name es).isSome = true)
    (e : (putL name (PyData.keyHash w.params name) (.str name s.toks) v es, putN name es n) = (es', n')) (hz : es'.length ≤ 1000)
    (h : (s.heap.update dx (Obj.putName name (PyData.keyHash w.params name) (.str name s.toks) v)).get? dx = some (dictOf es' n') → Q (.done (.ret .none)) { s with heap := s.heap.update dx (Obj.putName name (PyData.keyHash w.params name) (.str name s.toks) v), toks := s.toks + 1 }) :
    wpAny (model PySem.Challenge.rw_rg0115_01.row.prog w) A (storeInDict dx (.str name tk) name v) Q E s := by
  obtain ⟨e1, e2⟩ := Prod.mk.inj e
  have hp : Obj.putName name (PyData.keyHash w.params name) (.str name s.toks) v (dictOf es n) = dictOf es' n' := by rw [putName_dict, e1, e2]
  have D' : (s.heap.update dx (Obj.putName name (PyData.keyHash w.params name) (.str name s.toks) v)).get? dx = some (dictOf es' n') := by
    rw [Heap.get?_update_self _ D (by rw [hp]; rfl), hp]
  unfold storeInDict newKeyGuard nsSet
  refine wpAny_bind (wpAny_pure (wpAny_bind ?_))
  refine wpAny_bind (wpAny_bind (wpAny_askSetting (wpAny_pure (wpAny_bind (wpAny_mkText (wpAny_bind (wpAny_loadPart D ?_)))))))
  have c : aRefKeyMayBeTheName name es.toArray = false := by
    rw [aRefKeyMayBeTheName_at, ← Array.any_toList, ← Array.any_toList]
    unfold getL at hl
    split at hl
    · rename_i en he
      rw [List.any_eq_true.mpr ⟨en, List.mem_of_find?_eq_some he, List.find?_some he⟩]; rfl
    · split at hl
      · cases hl
      · rename_i z; rw [Bool.not_eq_true] at z; rw [z, Bool.and_false]
  show wpAny _ _ (if aRefKeyMayBeTheName name es.toArray = true then _ else _) _ _ _
  rw [c]
  refine wpAny_updatePart D ?_
  refine wpAny_bind (wpAny_lookBehind D' (pastItsLine_dict (by rw [List.size_toArray, sizeLine_eq]; omega)) ?_)
  exact wpAny_pure (h D')
theorem exc_set0 {x t : Addr} {name : Str} {v : Value} {Q : Unit → Shared → Prop} (F : Fr h₀ L s.heap m) (X : (Mine.hd.heap_1 w.params).In h₀) (N : News h₀ L s.heap ((x, excO none t) :: news)) (off : ∀ p ∈ news, p.1 ≠ x)
    (ha : findIn (Mine.hd.heap_1 w.params) (.ref 81) name = some none)
    (h : ∀ d h' tk, Fr h₀ L h' m → News h₀ L h' ((d, dictOf [⟨PyData.keyHash w.params name, .str name tk, v⟩] 1) :: (x, excO (some d) t) :: news) → (∀ p ∈ news, p.1 < d) → x < d → Q () { s with heap := h', toks := s.toks + 2 }) :
    wpAny (model PySem.Challenge.rw_rg0115_01.row.prog w) A (setAttr (.ref x) name v) Q E s := by
  obtain ⟨cd, hc, hmro, hdict⟩ := cls81 (w := w)
  have Xs : (Mine.hd.heap_1 w.params).In s.heap := X.keeps F.keep
  have hx := (N _ (.head _)).1
  refine exc_set_core Xs (ox := excO none t) (od := none) ⟨hx, rfl, rfl, trivial⟩ ha fun A' Q' E' b hQ => ?_
  have hxl : x < s.heap.objs.size := Heap.lt_size hx
  have hx₁ : (s.heap.push emptyDict).get? x = some (excO none t) := Heap.get?_push_of_some _ hx
  have hne : x ≠ s.heap.objs.size := Nat.ne_of_lt hxl
  have hd₁ : ((s.heap.push emptyDict).update x fun o => { o with dict := some s.heap.objs.size }).get? s.heap.objs.size = some (dictOf [] 0) :=
    (Heap.get?_update_ne _ _ _ _ hne.symm).trans (Heap.get?_push_at rfl rfl)
  unfold storeInOwnDict
  refine wpAny_bind (wpAny_pure ?_)
  show wpAny _ _ (ownDictForStores (.ref x) >>= _) _ _ _
  have hCx : ∃ oc od sl, s.heap.get? 81 = some ⟨oc, od, .cls cd, sl⟩ := by
    unfold clsIn at hc
    split at hc
    · rename_i c d cd' sl ho
      cases hc
      exact ⟨_, _, _, Xs _ _ ho⟩
    · cases hc
  obtain ⟨oc, od, sl, h81⟩ := hCx
  refine wpAny_bind ?_
  show wpAny _ _ (instanceDict x true) _ _ _
  unfold instanceDict
  refine wpAny_bind (wpAny_loadPart hx ?_)
  refine wpAny_bind ?_
  unfold classData
  refine wpAny_bind (wpAny_load h81 (wpAny_pure ?_))
  rw [hdict]
  refine wpAny_bind (wpAny_alloc' ?_)
  refine wpAny_bind (wpAny_update' hx₁ ?_)
  refine wpAny_pure ?_
  have hfin := store_in (A := A') (E := E') (Q := Q') (s := { s with heap := (s.heap.push emptyDict).update x fun o => { o with dict := some s.heap.objs.size }, toks := s.toks + 1 }) (es := []) (n := 0) (tk := s.toks) (name := name) (v := v) (w := w) hd₁ rfl rfl (Nat.le_of_ble_eq_true rfl)
  have l0 : ∀ p ∈ news, p.1 < s.heap.objs.size := fun p hp => Heap.lt_size (N p (.tail _ hp)).1
  have F1 := F.push emptyDict
  have N1 := N.push F emptyDict
  obtain ⟨F2, N2⟩ := news_upd (pre := [(s.heap.objs.size, emptyDict)]) (post := news) (d := x) (o := excO none t) (o' := excO (some s.heap.objs.size) t) (f := fun o => { o with dict := some s.heap.objs.size }) F1 N1 (fun p hp => by rw [List.mem_singleton.mp hp]; exact hne.symm) off rfl rfl
  obtain ⟨F3, N3⟩ := news_upd (pre := []) (post := (x, excO (some s.heap.objs.size) t) :: news) (d := s.heap.objs.size) (o := emptyDict) (o' := dictOf [⟨PyData.keyHash w.params name, .str name (s.toks + 1), v⟩] 1) (f := Obj.putName name (PyData.keyHash w.params name) (.str name (s.toks + 1)) v) F2 N2 (fun p hp => nomatch hp)
    (fun p hp => by
      rcases List.mem_cons.mp hp with rfl | hp
      · exact hne
      · exact Nat.ne_of_lt (l0 p hp)) (putName_dict name (PyData.keyHash w.params name) (.str name (s.toks + 1)) v [] 0) rfl
  exact hfin fun D' => hQ _ (h s.heap.objs.size _ (s.toks + 1) F3 N3 l0 hxl)
theorem exc_set1 {x d t : Addr} {es es' : List DictEntry} {n n' : Nat} {name : Str} {v : Value} {Q : Unit → Shared → Prop} (F : Fr h₀ L s.heap m) (X : (Mine.hd.heap_1 w.params).In h₀) (N : News h₀ L s.heap ((d, dictOf es n) :: news)) (hm : (x, excO (some d) t) ∈ news) (off : ∀ p ∈ news, p.1 ≠ d)
    (ha : findIn (Mine.hd.heap_1 w.params) (.ref 81) name = some none) (hl : (getL name es).isSome = true)
    (he : ∀ tk, (putL name (PyData.keyHash w.params name) (.str name tk) v es, putN name es n) = (es' ++ [⟨PyData.keyHash w.params name, .str name tk, v⟩], n')) (hz : es'.length ≤ 900)
    (h : ∀ h' tk, Fr h₀ L h' m → News h₀ L h' ((d, dictOf (es' ++ [⟨PyData.keyHash w.params name, .str name tk, v⟩]) n') :: news) → Q () { s with heap := h', toks := s.toks + 2 }) :
    wpAny (model PySem.Challenge.rw_rg0115_01.row.prog w) A (setAttr (.ref x) name v) Q E s := by
  obtain ⟨cd, hc, hmro, hdict⟩ := cls81 (w := w)
  have Xs : (Mine.hd.heap_1 w.params).In s.heap := X.keeps F.keep
  have hd := (N _ (.head _)).1
  have hx := (N _ (.tail _ hm)).1
  refine exc_set_core Xs (ox := excO (some d) t) (od := some (dictOf es n)) ⟨hx, rfl, rfl, hd⟩ ha fun A' Q' E' b hQ => ?_
  unfold storeInOwnDict
  refine wpAny_bind (wpAny_pure ?_)
  show wpAny _ _ (ownDictForStores (.ref x) >>= _) _ _ _
  have hCx : ∃ oc od sl, s.heap.get? 81 = some ⟨oc, od, .cls cd, sl⟩ := by
    unfold clsIn at hc
    split at hc
    · rename_i c d cd' sl ho
      cases hc
      exact ⟨_, _, _, Xs _ _ ho⟩
    · cases hc
  obtain ⟨oc, od, sl, h81⟩ := hCx
  refine wpAny_bind ?_
  show wpAny _ _ (instanceDict x true) _ _ _
  unfold instanceDict
  refine wpAny_bind (wpAny_loadPart hx ?_)
  refine wpAny_bind ?_
  unfold classData
  refine wpAny_bind (wpAny_load h81 (wpAny_pure ?_))
  rw [hdict]
  refine wpAny_pure (a := some d) ?_
  obtain ⟨e1, e2⟩ := Prod.mk.inj (he (s.toks + 1))
  have hfin := store_in (A := A') (E := E') (Q := Q') (s := { s with toks := s.toks + 1 }) (es := es) (n := n) (tk := s.toks) (name := name) (v := v) (w := w) hd hl (he (s.toks + 1)) (by rw [List.length_append, List.length_singleton]; omega)
  obtain ⟨F3, N3⟩ := news_upd (pre := []) (post := news) (d := d) (o := dictOf es n) (o' := dictOf (es' ++ [⟨PyData.keyHash w.params name, .str name (s.toks + 1), v⟩]) n') (f := Obj.putName name (PyData.keyHash w.params name) (.str name (s.toks + 1)) v) F N (fun p hp => nomatch hp)
    off (by rw [putName_dict, e1, e2]) rfl
  exact hfin fun D' => hQ _ (h _ (s.toks + 1) F3 N3)
end
end Mine
end
section
open PySem PySem.W PySem.W.X PySem.Spec PySem.Calls PyProof.Rows
set_option maxRecDepth 100000
set_option maxHeartbeats 8000000
namespace Mine
abbrev wrapO (x : Addr) : Obj := { cls := .type "method-wrapper", dict := none, data := .fields #[.builtin "Exception.__init__", .ref x], slots := #[] }
def WrapEnds (s : Shared) (x : Addr) (Q : Value → Shared → Prop) : Prop := ∀ q h', Mem s.heap h' [] [(q, wrapO x)] → Q (.ref q) { heap := h', gens := s.gens, drawn := s.drawn, toks := s.toks, os := s.os }
theorem WrapEnds.go {s : Shared} {x : Addr} {Q : Value → Shared → Prop} {q : Addr} {h' : Heap} (k : WrapEnds s x Q) (D : Mem s.heap h' [] [(q, wrapO x)]) : Q (.ref q) { heap := h', gens := s.gens, drawn := s.drawn, toks := s.toks, os := s.os } := k q h' D
local macro_rules | `(tactic| x_close) => `(tactic| exact WrapEnds.go (by assumption) (by assumption))
theorem wrap_get0 {w : World} {fr : Option (List Env)} {gd : Option (List Code)} {hn : Option Value} {s : Shared} {Q E : Value → Shared → Prop} {x t : Addr} {d : Option Addr}
  (X : (Mine.hd.heap_1 w.params).In s.heap) (hx : s.heap.get? x = some ⟨.ref 81, d, .fields #[.ref t, .none, .none, .none, .bool false, .none], #[]⟩)
  (ret : WrapEnds s x Q) :
  wpAny (model PySem.Challenge.rw_rg0115_01.row.prog w) { handled := hn, depth := 600, frames := fr, guards := gd, units := 2000 } (call (.builtin "wrapper_descriptor.__get__") [.builtin "Exception.__init__", .ref x, .ref 81]) Q E s := by
  x_run
theorem wrap_get {w : World} {A : Around} {s : Shared} {Q E : Value → Shared → Prop} {x t : Addr} {d : Option Addr}
  (X : (Mine.hd.heap_1 w.params).In s.heap) (hx : s.heap.get? x = some (excO d t)) (hd : A.depth ≤ 600) (hu : A.units ≤ 2000)
  (ret : WrapEnds s x Q) :
  wpAny (model PySem.Challenge.rw_rg0115_01.row.prog w) A (call (.builtin "wrapper_descriptor.__get__") [.builtin "Exception.__init__", .ref x, .ref 81]) Q E s :=
  wide (A' := { handled := A.handled, depth := 600, frames := A.frames, guards := A.guards, units := 2000 }) rfl rfl rfl hd hu (wrap_get0 X hx ret)
theorem along40 {w : World} : alongIn (Mine.hd.heap_1 w.params) (Str.ofString "__init__") [.type "Exception", .type "BaseException", .type "object"] = some (some (.builtin "Exception.__init__")) := by kernel_rfl
theorem tget_init : typeOf (.builtin "Exception.__init__") = pure (.type "wrapper_descriptor") := by kernel_rfl
theorem lget_init : typeLookup (.type "wrapper_descriptor") "__get__" = pure (some (.builtin "wrapper_descriptor.__get__")) := by rw [typeLookup_type, builtinLookup_eq_fast]; kernel_rfl
section
variable {w : World} {A : Around} {E : Value → Shared → Prop} {h : Heap} {g : Array GenState} {d : Drawn} {t : Nat} {os : OsState}
theorem super_ga {so x tp : Addr} {dx : Option Addr} {tk : Tok} {Q : Fin → Shared → Prop} (X : (Mine.hd.heap_1 w.params).In h) (hx : h.get? x = some (excO dx tp)) (hso : h.get? so = some (ks_superObj 40 x 81)) (hd : A.depth ≤ 600) (hu : A.units ≤ 2000)
    (hq : ∀ q h', Mem h h' [] [(q, wrapO x)] → Q (.done (.ret (.ref q))) ⟨h', g, d, t, os⟩) :
    wpAny (model PySem.Challenge.rw_rg0115_01.row.prog w) A (Builtin.«super.__getattribute__» ⟨[.ref so, .str (Str.ofString "__init__") tk], []⟩) Q E ⟨h, g, d, t, os⟩ := by
  obtain ⟨cd, hc, hmro, hdict⟩ := cls81 (w := w)
  have hC : Looks (model PySem.Challenge.rw_rg0115_01.row.prog w) h (mroOf (.ref 81)) cd.mro := (looks_clsIn X hc).andThen .now
  have hl : (cd.mro.dropWhile (· != .ref 40)).drop 1 = [.type "Exception", .type "BaseException", .type "object"] := by rw [hmro]; rfl
  have hno : Looks (model PySem.Challenge.rw_rg0115_01.row.prog w) h (opaqueClassAbove (.ref 81)) none := looks_opaque X (by k_is)
  have hdt : (ks_superObj 40 x 81).data = .fields #[.ref 40, .ref x, .ref 81] := rfl
  have f0 : (#[.ref 40, .ref x, .ref 81] : Array Value)[0]? = some (.ref 40) := rfl
  have f1 : (#[.ref 40, .ref x, .ref 81] : Array Value)[1]? = some (.ref x) := rfl
  have f2 : (#[.ref 40, .ref x, .ref 81] : Array Value)[2]? = some (.ref 81) := rfl
  have hx81 : x ≠ 81 := by
    rintro rfl
    have := X 81 _ rfl
    rw [hx] at this
    cases this
  have hne : (Value.ref x == Value.ref 81) = false := by simp [hx81]
  have hn : (Str.ofString "__init__" == ("__class__" : Str)) = false := by decide
  unfold Builtin.«super.__getattribute__»
  repeat (first
    | (with_reducible refine wpAny_field hso hdt f0 ?_) | (with_reducible refine wpAny_field hso hdt f1 ?_) | (with_reducible refine wpAny_field hso hdt f2 ?_)
    | (with_reducible refine ks_wpAny_notOpaque hno ?_)
    | (with_reducible refine Looks.at hC ?_; rw [hl])
    | ((fail_if_success (with_reducible show wpAny _ _ (forIn _ _ _) _ _ _)); simp only [hn, hne, Bool.or_false, Bool.false_eq_true, if_false])
    | ((fail_if_success (with_reducible show wpAny _ _ (forIn _ _ _) _ _ _)); wp_step))
  have h40 := along40 (w := w)
  refine' ks_forIn_along (K := Mine.hd.heap_1 w.params) (name := Str.ofString "__init__") (v := .builtin "Exception.__init__") X ?hb ?hk ?_ h40
  case hb => intro c r; rfl
  case hk => rfl
  show wpAny _ _ (typeOf (.builtin "Exception.__init__") >>= _) _ _ _
  refine wpAny_bind ?_
  rw [tget_init]
  refine wpAny_pure ?_
  show wpAny _ _ (typeLookup (.type "wrapper_descriptor") (Str.ofString "__get__") >>= _) _ _ _
  refine wpAny_bind ?_
  rw [lget_init]
  refine wpAny_pure ?_
  refine wpAny_bind (wpAny_holding (wrap_get X hx hd hu fun q h' D => ?_))
  refine wpAny_bind (wpAny_pure (wpAny_pure ?_))
  exact wpAny_pure (hq q h' D)
theorem super_method {so x tp : Addr} {dx : Option Addr} {pl : Sem Bool} {Q : Value × List Value → Shared → Prop} (X : (Mine.hd.heap_1 w.params).In h) (hx : h.get? x = some (excO dx tp)) (hso : h.get? so = some (ks_superObj 40 x 81)) (hd : A.depth ≤ 500) (hu : A.units ≤ 1900)
    (hq : ∀ q h', Mem h h' [] [(q, wrapO x)] → Q (.ref q, []) ⟨h', g, d, t + 1, os⟩) :
    wpAny (model PySem.Challenge.rw_rg0115_01.row.prog w) A (getMethod (.ref so) (Str.ofString "__init__") pl) Q E ⟨h, g, d, t, os⟩ := by
  have hlk := F.ks_slot_super_ga.lookup
  have hT : ∀ t', (⟨h, g, d, t', os⟩ : Shared).TypeIs (.ref so) "super" := fun _ => ⟨_, hso, rfl⟩
  unfold getMethod
  refine wpAny_bind (wpAny_specialOf (hT _) hlk ?_)
  show wpAny _ _ (if (Manifest.canonical "super.__getattribute__" != "object.__getattribute__") = true then _ else _) _ _ _
  rw [if_pos F.ks_canon_super_ga]
  unfold getAttr getAttrBy
  refine wpAny_bind (wpAny_bind (wpAny_mkText (wpAny_holding (wpAny_bind (wpAny_typeOf (hT _) (wpAny_bind (wpAny_of_eq hlk ?_)))))))
  show wpAny _ _ (getAttrByItsOwn (.ref so) (.str (Str.ofString "__init__") t) (.type "super") (.builtin "super.__getattribute__") true false) _ _ _
  unfold getAttrByItsOwn hookBefore callGetattribute boundAndCalled
  refine wpAny_bind (wpAny_of_eq (show (if onTheHeap (.type "super") then typeLookup (.type "super") "__getattr__" else pure none) = pure none from rfl) ?_)
  refine wpAny_bind (wpAny_attempt (wpAny_holding ?_))
  show wpAny _ _ (bindSpecial (.builtin "super.__getattribute__") (.ref so) >>= _) _ _ _
  refine wpAny_bind (wpAny_of_eq (F.ks_slot_super_ga.bind _) ?_)
  refine wpAny_mono (Q := fun v s' => ∃ q h', Mem h h' [] [(q, wrapO x)] ∧ v = .ref q ∧ s' = ⟨h', g, d, t + 1, os⟩) (E := fun _ _ => False)
    (wpAny_call_entry F.ks_slot_super_ga (hT _) F.ks_entry_super_ga (super_ga X hx hso (Nat.le_trans hd (by decide)) (Nat.le_trans (Nat.succ_le_succ hu) (by decide)) fun q h' D => ⟨_, rfl, q, h', D, rfl, rfl⟩) (F.ks_gaArgs_super _ _)) (fun v s' hv => ?_) fun _ _ z => z.elim
  obtain ⟨q, h', D, rfl, rfl⟩ := hv
  exact wpAny_pure (wpAny_pure (hq q h' D))
theorem wrap_call {q x tp : Addr} {dx : Option Addr} {v : Value} {Q : Value → Shared → Prop} (X : (Mine.hd.heap_1 w.params).In h) (hx : h.get? x = some (excO dx tp)) (hq : h.get? q = some (wrapO x))
    (k : Q .none ⟨(h.push (tupO [v])).update x (Obj.mapFields (·.setIfInBounds 0 (.ref h.objs.size))), g, d, t, os⟩) :
    wpAny (model PySem.Challenge.rw_rg0115_01.row.prog w) A (call (.ref q) [v]) Q E ⟨h, g, d, t, os⟩ := by
  refine wpAny_call (codeAny_of_tree ?_)
  show wpAny _ _ (callAny (.ref q) _) _ _ _
  unfold callAny
  refine wpAny_bind (wpAny_load hq ?_)
  obtain ⟨nm, q', N, bs, bm, hdct, sn, sub, ab, col, dd, k0, k1, k2, k3, k5, hC⟩ := exc_cls X
  have FX := PySem.F.excBase_Exception
  show wpAny _ _ (checkBoundCall "Exception.__init__" ⟨[.ref x, v], []⟩ >>= fun _ => again (.builtin "Exception.__init__" ⟨[.ref x, v], []⟩)) _ _ _
  refine wpAny_bind ?_
  have hshort := FX.noStar
  simp only [checkBoundCall, FX.initKind, FX.initRow]
  repeat (first | with_reducible refine wpAny_loadPart_at hx ?_ | with_reducible refine wpAny_loadPart_at hC ?_ | wp_step)
  refine ⟨Code.quiet_builtin _ (by decide +kernel), codeAny_builtin FX.initEntry ?_⟩
  unfold Builtin.«BaseException.__init__»
  dsimp only
  rw [if_neg (by simp)]
  unfold newTuple Builtin.BaseException.bexcPut
  have hx₁ := Heap.get?_push_of_some (h := h) (tupO [v]) hx
  refine wpAny_bind (wpAny_newObj_type (wpAny_bind (wpAny_bind (wpAny_field hx₁ rfl (x := .ref tp) rfl (wpAny_bind (wpAny_setField hx₁ rfl (by simp) ?_))))) (by size_fits))
  exact wpAny_letGo (wpAny_pure k)
end
end Mine
end
section
open PySem PySem.W PySem.Spec PySem.Calls PyProof.Rows
set_option maxRecDepth 100000
namespace Mine
structure LocName (env : Env) (x : Str) : Prop where
  kind : env.scope.kind = .function
  loc : env.kindOf x = some .local
  dbg : (x == ("__debug__" : Str)) = false
def locNames (env : Env) (xs : List Str) : Bool := decide (env.scope.kind = .function) && xs.all fun x => decide (env.kindOf x = some .local) && !(x == ("__debug__" : Str))
def GlobIs (M : Model) (h₀ : Heap) (L : Addr) (env : Env) (x : Str) (v : Value) : Prop := ∀ (A : Around) (E : Value → Shared → Prop) (s : Shared) (Q : Value → Shared → Prop) (m : Str → Option Value) (pos : Pos), Fr h₀ L s.heap m → Q v s → wpAny M A (eval (.Name x pos) env) Q E s
section
variable {M : Model} {A : Around} {E : Value → Shared → Prop} {s : Shared} {h₀ : Heap} {L : Addr} {m : Str → Option Value} {env : Env}
end
end Mine
end
section
open PySem PySem.W PySem.W.X PySem.Spec PySem.Calls PyProof.Rows
set_option maxRecDepth 100000
set_option maxHeartbeats 8000000
namespace Mine
section
variable {w : World} {A : Around} {E : Value → Shared → Prop} {s : Shared} {h₀ h' : Heap} {L : Addr} {m : Str → Option Value} {J own news : Led}
theorem fr_mem {h : Heap} (F : Fr h₀ L h m) (D : Mem h h' [] own) : Fr h₀ L h' m := F.keeps fun b o z => D.keep b o z (by simp [away])
theorem news_mem {h : Heap} (F : Fr h₀ L h m) (N : News h₀ L h J) (D : Mem h h' [] own) : News h₀ L h' (own ++ J) := fun p hp => by
  rcases List.mem_append.mp hp with hp | hp
  · have q := D.nw p hp
    refine ⟨q.1, fun e => ?_, ?_⟩
    · obtain ⟨oL, es, ep, hL, _⟩ := F.ns
      rw [e] at q
      rw [q.2] at hL
      cases hL
    · cases z : h₀.get? p.1 with
      | none => rfl
      | some o =>
        have := F.keep _ _ z
        rw [q.2] at this
        cases this
  · exact ⟨D.keep _ _ (N p hp).1 (by simp [away]), (N p hp).2⟩
theorem offs_mem {h : Heap} (N : News h₀ L h J) (D : Mem h h' [] own) {q : Addr × Obj} (hq : q ∈ own) : Offs q.1 J := fun p hp e => by
  have z := (D.nw q hq).2
  have y := (N p hp).1
  rw [show p.1 = q.1 from e] at y
  rw [z] at y
  cases y
theorem inst0 {x t : Addr} (N : News h₀ L s.heap news) (hx : (x, excO none t) ∈ news) : InstAt s.heap x (excO none t) 81 none := ⟨(N _ hx).1, rfl, rfl, trivial⟩
theorem super_methodN {so x tp : Addr} {dx : Option Addr} {pl : Sem Bool} {Q : Value × List Value → Shared → Prop} (F : Fr h₀ L s.heap m) (X : (Mine.hd.heap_1 w.params).In h₀) (N : News h₀ L s.heap news) (hso : (so, ks_superObj 40 x 81) ∈ news) (hx : (x, excO dx tp) ∈ news) (hd : A.depth ≤ 500) (hu : A.units ≤ 1900)
    (k : ∀ q h', Fr h₀ L h' m → News h₀ L h' ((q, wrapO x) :: news) → Offs q news → @Ne Nat x q → Q (.ref q, []) { s with heap := h', toks := s.toks + 1 }) :
    wpAny (model PySem.Challenge.rw_rg0115_01.row.prog w) A (getMethod (.ref so) (Str.ofString "__init__") pl) Q E s := by
  obtain ⟨h, g, d, t, os⟩ := s
  exact super_method (X.keeps F.keep) (N _ hx).1 (N _ hso).1 hd hu fun q h' D => k q h' (fr_mem F D) (news_mem F N D) (offs_mem N D (.head _)) (offs_mem N D (q := (q, wrapO x)) (.head _) _ hx)
theorem wrap_callN {q x tp : Addr} {dx : Option Addr} {v : Value} {g : Obj → Led} {Q : Value → Shared → Prop} (F : Fr h₀ L s.heap m) (X : (Mine.hd.heap_1 w.params).In h₀) (N : News h₀ L s.heap news) (hq : (q, wrapO x) ∈ news) (U : UpdF x (excO dx tp) news g)
    (k : ∀ T h', Fr h₀ L h' m → News h₀ L h' ((T, tupO [v]) :: g (excO dx T)) → (∀ p ∈ g (excO dx T), p.1 < T) → Q .none { s with heap := h' }) :
    wpAny (model PySem.Challenge.rw_rg0115_01.row.prog w) A (call (.ref q) [v]) Q E s := by
  obtain ⟨pre, post, rfl, hg, a, b⟩ := U.split
  have hx : (x, excO dx tp) ∈ pre ++ (x, excO dx tp) :: post := List.mem_append.mpr (.inr (.head _))
  have hxs := Heap.lt_size (N _ hx).1
  have F1 := F.push (tupO [v])
  have N1 := N.push F (tupO [v])
  obtain ⟨F2, N2⟩ := news_upd (pre := (s.heap.objs.size, tupO [v]) :: pre) (post := post) (d := x) (o := excO dx tp) (o' := excO dx s.heap.objs.size) (f := Obj.mapFields (·.setIfInBounds 0 (.ref s.heap.objs.size))) F1 N1
    (fun p hp => by
      rcases List.mem_cons.mp hp with rfl | hp
      · exact Nat.ne_of_gt hxs
      · exact a p hp) b rfl rfl
  have kk := k s.heap.objs.size _ F2 (by rw [hg]; exact N2) (fun p hp => by
    rw [hg] at hp
    rcases List.mem_append.mp hp with hp | hp
    · exact Heap.lt_size (N p (List.mem_append.mpr (.inl hp))).1
    · rcases List.mem_cons.mp hp with rfl | hp
      · exact hxs
      · exact Heap.lt_size (N p (List.mem_append.mpr (.inr (.tail _ hp)))).1)
  obtain ⟨h, g', d, t, os⟩ := s
  exact wrap_call (X.keeps F.keep) (N _ hx).1 (N _ hq).1 kk
end
section
variable {w : World} {A : Around} {E : Value → Shared → Prop} {s : Shared} {h₀ : Heap} {L : Addr} {m : Str → Option Value} {news : Led}
theorem set0U {x t : Addr} {name : Str} {v : Value} {g : Obj → Led} {Q : Unit → Shared → Prop} (F : Fr h₀ L s.heap m) (X : (Mine.hd.heap_1 w.params).In h₀) (N : News h₀ L s.heap news) (U : UpdF x (excO none t) news g)
    (ha : findIn (Mine.hd.heap_1 w.params) (.ref 81) name = some none)
    (h : ∀ d h' tk, Fr h₀ L h' m → News h₀ L h' ((d, dictOf [⟨PyData.keyHash w.params name, .str name tk, v⟩] 1) :: g (excO (some d) t)) → (∀ p ∈ g (excO (some d) t), p.1 < d) → Q () { s with heap := h', toks := s.toks + 2 }) :
    wpAny (model PySem.Challenge.rw_rg0115_01.row.prog w) A (setAttr (.ref x) name v) Q E s := by
  obtain ⟨pre, post, rfl, hg, a, b⟩ := U.split
  have off : ∀ p ∈ pre ++ post, p.1 ≠ x := fun p hp => (List.mem_append.mp hp).elim (a p) (b p)
  refine exc_set0 (news := pre ++ post) F X (news_sub N fun p hp => ?_) off ha fun d h' tk F' N' l1 l2 => h d h' tk F' (by
    rw [hg]
    refine news_sub N' fun p hp => ?_
    simp only [List.mem_cons, List.mem_append] at hp ⊢
    rcases hp with h | h | h | h
    · exact .inl h
    · exact .inr (.inr (.inl h))
    · exact .inr (.inl h)
    · exact .inr (.inr (.inr h))) (fun p hp => by
    rw [hg] at hp
    simp only [List.mem_cons, List.mem_append] at hp
    rcases hp with h | rfl | h
    · exact l1 p (List.mem_append_left _ h)
    · exact l2
    · exact l1 p (List.mem_append_right _ h))
  simp only [List.mem_cons, List.mem_append] at hp ⊢
  rcases hp with h | h | h
  · exact .inr (.inl h)
  · exact .inl h
  · exact .inr (.inr h)
theorem set1U {x d t : Addr} {es es' : List DictEntry} {n n' : Nat} {name : Str} {v : Value} {g : Obj → Led} {Q : Unit → Shared → Prop} (F : Fr h₀ L s.heap m) (X : (Mine.hd.heap_1 w.params).In h₀) (N : News h₀ L s.heap news) (hm : (x, excO (some d) t) ∈ news) (U : UpdF d (dictOf es n) news g)
    (ha : findIn (Mine.hd.heap_1 w.params) (.ref 81) name = some none) (hl : (getL name es).isSome = true)
    (he : ∀ tk, (putL name (PyData.keyHash w.params name) (.str name tk) v es, putN name es n) = (es' ++ [⟨PyData.keyHash w.params name, .str name tk, v⟩], n')) (hz : es'.length ≤ 900)
    (h : ∀ h' tk, Fr h₀ L h' m → News h₀ L h' (g (dictOf (es' ++ [⟨PyData.keyHash w.params name, .str name tk, v⟩]) n')) → Q () { s with heap := h', toks := s.toks + 2 }) :
    wpAny (model PySem.Challenge.rw_rg0115_01.row.prog w) A (setAttr (.ref x) name v) Q E s := by
  obtain ⟨pre, post, rfl, hg, a, b⟩ := U.split
  have off : ∀ p ∈ pre ++ post, p.1 ≠ d := fun p hp => (List.mem_append.mp hp).elim (a p) (b p)
  have hm' : (x, excO (some d) t) ∈ pre ++ post := by
    simp only [List.mem_cons, List.mem_append] at hm ⊢
    rcases hm with h | h | h
    · exact .inl h
    · cases (congrArg (fun p : Addr × Obj => p.2.cls) h)
    · exact .inr h
  refine exc_set1 (news := pre ++ post) (es' := es') F X (news_sub N fun p hp => ?_) hm' off ha hl he hz fun h' tk F' N' => h h' tk F' (by
    rw [hg]
    refine news_sub N' fun p hp => ?_
    simp only [List.mem_cons, List.mem_append] at hp ⊢
    rcases hp with h | h | h
    · exact .inr (.inl h)
    · exact .inl h
    · exact .inr (.inr h))
  simp only [List.mem_cons, List.mem_append] at hp ⊢
  rcases hp with h | h | h
  · exact .inr (.inl h)
  · exact .inl h
  · exact .inr (.inr h)
end
def WrapP (q x : Addr) (h : Heap) : Prop := h.get? q = some (wrapO x)
theorem keeps_W {M : Model} {q x : Addr} (h : Heap) (X : WrapP q x h) : ∃ k, (k = Keeper.frame ∨ k = Keeper.machine ∨ k = Keeper.boundFrame) ∧ Looks M h (keeperOf (.ref q)) k :=
  ⟨.machine, .inr (.inl rfl), (Looks.ld (part := none) X).andThen .now⟩
theorem wrapP {h₀ h : Heap} {L q x : Addr} {news : Led} (N : News h₀ L h news) (hq : (q, wrapO x) ∈ news) : WrapP q x h := (N _ hq).1
theorem callWith_W {M : Model} {A : Around} {E : Value → Shared → Prop} {s : Shared} {env : Env} {pos : Pos} {first : List Value} {h₀ : Heap} {L : Addr} {news : Led} {q x : Addr} {e : Expr} {rest : List Expr} {Q : Value → Shared → Prop} (_N : News h₀ L s.heap news) (_q : (q, wrapO x) ∈ news)
    (h : wpAny M A (spliced (backTo pos (starEach (e :: rest) env))) (fun vs s₁ => WrapP q x s₁.heap ∧ wpAny M A (call (.ref q) (first ++ vs)) Q E s₁) E s)
    (he : starEach (e :: rest) env = (false, eval e env) :: starEach rest env := by rfl) (hplain : (backTo pos (starEach rest env)).any (·.1) = false := by rfl) :
    wpAny M A (callWith pos (.ref q) first (backTo pos (starEach (e :: rest) env)) []) Q E s := by
  rw [he] at h ⊢
  exact callWith_of (by show ((false || (backTo pos (starEach rest env)).any (·.1)) || false) = false; rw [hplain]; rfl) keeps_W (evalArgs_plain h)
local macro_rules | `(tactic| k_all) => `(tactic| assumption)
local macro_rules | `(tactic| walk_at "mine lt") => `(tactic| first | assumption | (apply And.right; walk_at "mine lt"))
local macro_rules | `(tactic| walk_at "mine m0") => `(tactic| (with_reducible first | exact List.mem_cons_self | (refine List.mem_cons_of_mem _ ?_; walk_at "mine m0") | assumption))
local macro_rules | `(tactic| walk_at "mine steps2") => `(tactic| repeat' (first | (k_unfold; (try dsimp only)) | walk1 | (dsimp only; walk1) | (leave1; try dsimp only) | fail "no step"))
local macro_rules | `(tactic| walk_at "callWith ref") => `(tactic| (k_here; k_dflt (refine' callWith_W ?k1 ?k2 ?_; (case k1 => k_asm); (case k2 => walk_at "mine m0"))))
local macro_rules | `(tactic| walk_at "WrapP") => `(tactic| (k_dflt (exact wrapP (by k_asm) (by walk_at "mine m0"))))
local macro_rules | `(tactic| walk_at "wpAt") => `(tactic| (ks_step "attributeBase Call"; k_here; k_dflt (refine ks_node (by k_asm) (by k_asm) (by k_asm) (by k_asm) (by k_is) (by rfl) (by rfl) (inst0 (by k_asm) (by walk_at "mine m0")) (by k_is) (by rfl) (by first | rfl | decide +kernel) (by k_is) (by k_is) (by k_is) (by k_is) (by decide) (by rfl) (by rfl) (by rfl) (by rfl) (by decide +kernel) (by first | boot_by_name | rfl | kernel_rfl) ?_; intro so' h' F' N' l1; (try k_lt l1))))
local macro_rules | `(tactic| walk_at "getMethod ref") => `(tactic| (k_here; k_dflt (first
  | (refine' ks_method ?k1 ?k2 ?k3 ?k4 ?k5 ?k6 ?k7 ?k8 ?k9 ?_; (case k1 => k_asm); (case k2 => k_asm); (case k3 => k_asm); (case k4 => walk_at "mine m0"); (case k5 => exact inst0 (by k_asm) (by walk_at "mine m0")); (case k6 => k_is); (case k7 => ks_is); (case k8 => k_is); (case k9 => decide); intro q' h' F' N' l1; (try k_lt l1))
  | (refine' super_methodN ?k1 ?k2 ?k3 ?k4 ?k5 ?k6 ?k7 ?_; (case k1 => k_asm); (case k2 => k_asm); (case k3 => k_asm); (case k4 => walk_at "mine m0"); (case k5 => walk_at "mine m0"); (case k6 => exact Nat.le_of_ble_eq_true rfl); (case k7 => exact Nat.le_of_ble_eq_true rfl); intro q' h' F' N' l1 l2; (try dsimp only)))))
local macro_rules | `(tactic| walk_at "mine ksenter") => `(tactic| (refine' ks_code_super ?k1 ?k2 ?k3 ?k4 ?k5 ?kA ?kF ?kK ?k6 ?k7 ?k8 ?k9 ?kB ?_ ?c1 ?c2 ?c3 ?c4; (case kA => exact rfl); (case kF => exact rfl); (case kK => first | exact rfl | assumption); (case k1 => k_asm); (case k2 => k_asm); (case k3 => k_asm); (case k4 => k_asm); (case k5 => k_asm); (case k6 => k_is); (case k7 => k_is); (case k8 => exact Nat.lt_of_lt_of_le (Nat.lt_succ_self _) (Nat.le_of_ble_eq_true rfl)); (case k9 => exact BindsTo.of_eq rfl); (case kB => exact locs rfl); (case c1 => decide); (case c2 => exact rfl); (case c3 => exact rfl); (case c4 => exact rfl); intro g' L' h' FG' F' N' B' X' T' l1; (try k_lt l1); (try dsimp only); (try k_lift B')))
local macro_rules | `(tactic| walk_at "call ref") => `(tactic| (k_here; k_dflt (first
  | (refine' call_meth ?k1 ?k2 ?_; (case k1 => k_asm); (case k2 => walk_at "mine m0"); walk_at "mine ksenter")
  | (refine' wrap_callN ?k1 ?k2 ?k3 ?k4 ?k5 ?_; (case k1 => k_asm); (case k2 => k_asm); (case k3 => k_asm); (case k4 => walk_at "mine m0"); (case k5 => k_updF); intro T' h' F' N' l1; (try dsimp only at N' l1); (try k_lt l1)))))
local macro_rules | `(tactic| walk_at "setAttr ref") => `(tactic| (k_here; k_dflt (first
  | (refine' set0U ?k1 ?k2 ?k3 ?k4 ?k5 ?_; (case k1 => k_asm); (case k2 => k_asm); (case k3 => k_asm); (case k4 => k_updF); (case k5 => k_is); intro d' h' tk' F' N' l1; (try dsimp only at N' l1); (try k_lt l1))
  | (refine' set1U (es' := [_]) ?k1 ?k2 ?k3 ?k4 ?k5 ?k6 ?k7 ?k8 ?k9 ?_; (case k1 => k_asm); (case k2 => k_asm); (case k3 => k_asm); (case k4 => walk_at "mine m0"); (case k5 => k_updF); (case k6 => k_is); (case k7 => exact rfl); (case k8 => intro tk; exact rfl); (case k9 => exact Nat.le_of_ble_eq_true rfl); intro h' tk' F' N'; (try dsimp only [List.cons_append, List.nil_append] at N')))))
theorem fault_end {h₀ h : Heap} {L d T e : Addr} {od oe oT : Obj} {x1 x2 x3 x4 x5 : Addr × Obj} {J : Led} (N : News h₀ L h ((d, od) :: (T, oT) :: x1 :: x2 :: x3 :: x4 :: (e, oe) :: x5 :: J)) : News h₀ L h ((d, od) :: (e, oe) :: (T, oT) :: J) :=
  news_sub N fun p hp => by
    simp only [List.mem_cons] at hp ⊢
    rcases hp with h | h | h | h <;> simp only [h, true_or, or_true]
theorem fault_spec
  {w : World} {vp : Program} {vl : List Str} {mean : ExcName → Option Value} {mg mb : Str → Option Value}
  {dp un : Nat} {gd : Option (List Code)} {cn : Str} {cs : Scope} {a : Addr} {ccd : Value} {cl : List (Str × Addr)} {outer : List Env} {A₀ : Around} {base h₀ : Heap} {L : Addr} {m : Str → Option Value} {s : Shared} {Q E : Value → Shared → Prop}
  (B : Below A₀ base outer h₀) (F : Fr h₀ L s.heap m) (X : (Mine.hd.heap_1 w.params).In h₀) (T : Top vp vl mean mg mb h₀) (hk : cs.kind = .function)
  {what : Str} {u : Tok} {p : Value} {J : Led}
  (N : News h₀ L s.heap J) (hd : dp ≤ 400) (hu : un ≤ 1500)
  (ret : ∀ e d t k h' tk tk1 tk2, Fr h₀ L h' m → News h₀ L h' ((d, dictOf [⟨PyData.keyHash w.params (Str.ofString "what"), .str (Str.ofString "what") tk1, .str what u⟩, ⟨PyData.keyHash w.params (Str.ofString "place"), .str (Str.ofString "place") tk2, p⟩] k) :: (e, excO (some d) t) :: (t, tupO [.str what u]) :: J) →
    Offs e J → Offs d J → Offs t J → @Ne Nat e d → @Ne Nat e t → @Ne Nat d t → Q (.ref e) { s with heap := h', toks := tk }) :
  wpAny (model PySem.Challenge.rw_rg0115_01.row.prog w) (ktrTop dp un gd cn cs L a ccd cl outer) (call (.ref 81) [.str what u, p]) Q E s := by
  refine wide (A' := ktrTop 400 1500 gd cn cs L a ccd cl outer) rfl rfl rfl hd hu ?_
  refine exc_call (X.keeps F.keep) (Nat.le_of_ble_eq_true rfl) (Nat.le_of_ble_eq_true rfl) fun e t h' D => ?_
  have F1 := fr_mem F D
  have N1 := news_mem F N D
  have o1 := offs_mem N D (.head _)
  have o2 := offs_mem N D (.tail _ (.head _))
  have o3 : @Ne Nat e t := Nat.ne_of_gt (List.rel_of_pairwise_cons D.ord (.head _))
  clear D
  dsimp only [List.cons_append, List.nil_append] at N1 o1 o2
  clear N F
  refine wpAny_call ?_
  walk_at "mine ksenter"
  rename Fr _ _ _ (fun y => List.lookup y (List.reverse _)) => F9
  have F2 : Fr _ _ _ (fun y => List.lookup y [(Str.ofString "place", p), (Str.ofString "what", Value.str what u), (Str.ofString "self", Value.ref e)]) := F9
  clear F9
  walk_at "mine steps2"
  refine ret e _ _ _ _ _ _ _ (by assumption) (fault_end (by assumption)) o1 ?_ ?_ ?_ ?_ ?_
  · exact offs_lt (by walk_at "mine lt")
  · exact offs_lt (by walk_at "mine lt")
  · k_ne
  · k_ne
  · k_ne
end Mine
end
section
open PySem PySem.W PySem.Spec PySem.Calls PyProof.Rows
set_option maxRecDepth 100000
set_option maxHeartbeats 8000000
namespace Mine
def TrD (h base : Heap) (e d : Addr) (fl : Value) : Prop :=
  ∃ vs T oT ts, h.get? e = some ⟨.ref 81, some d, .fields vs, #[]⟩ ∧ vs[1]? = some (.ref T) ∧ base.get? T = none ∧ T ≠ e ∧ h.get? T = some oT ∧ oT.data = .fields ts ∧ ts[3]? = some fl
section
variable {M : Model} {A : Around} {E : Value → Shared → Prop} {s : Shared} {base : Heap} {env : Env} {outer l : List Env} {L e d : Addr} {Q : Unit → Shared → Prop}
theorem not_rec {h : Heap} {b c : Addr} {o oc : Obj} {ts : Array Value} (hc : h.get? c = some oc) (hd : oc.data = .fields ts) (hb : h.get? b = some o) (hn : ∀ vs, o.data ≠ .fields vs) : b ≠ c := fun q => by
  rw [q, hc] at hb
  injection hb with hb
  exact hn ts (hb ▸ hd)
theorem entryD {vs : Array Value} {head : Value} {hadNext : Bool} (hfr : A.frames = some (env :: outer)) (hl : s.heap.FunFrames base (env :: outer)) (hf : env.frame = some L)
    (he : s.heap.get? e = some ⟨.ref 81, some d, .fields vs, #[]⟩) (hkb : base.StaysIn s.heap) (hen : base.get? e = none) (hsz : 1 < vs.size)
    (h : ∀ h', base.StaysIn h' → h'.FunFrames base (env :: outer) → TrD h' base e d (rawInt L) → s.heap.UpToSlots h' → Q () { s with heap := h' }) :
    wpAny M A (do let a ← frameOf env; let pl ← entryPlaceOf L hadNext; let b ← EntryCells.newEntry head a .none (rawInt L) .none pl; setField (.ref e) 1 b) Q E s := by
  have hene : e ∉ (env :: outer).filterMap (·.frame) := fun hm => by
    obtain ⟨_, o, ho, hnf⟩ := hl.mem hm
    rw [he] at ho
    injection ho with ho
    exact hnf vs (ho ▸ rfl)
  refine wpAny_bind (wpAny_frameOf_fun hfr hl hf fun h₁ hs₁ => wpAny_bind (wpAny_entryPlaceOf fun pl hpl => ?_))
  unfold EntryCells.newEntry newFields
  refine wpAny_bind (wpAny_newObj_type ?_ (hpl.sizeOk5 _ _ _ _ _))
  have he₁ := (hs₁.2.1 e hene).trans he
  have kb₁ : base.StaysIn h₁ := fun b o hbo => (hs₁.2.1 b fun hm => by rw [(hl.mem hm).1] at hbo; cases hbo).trans (hkb b o hbo)
  have hTe : h₁.objs.size ≠ e := Nat.ne_of_gt (Heap.lt_size he₁)
  generalize hO : ({ cls := .type "traceback", dict := none, data := .fields ([head, .ref L, .none, rawInt L, .none] ++ (if pl.isEmpty then List.replicate 6 Value.none else pl)).toArray } : Obj) = oT
  have he₂ := Heap.get?_push_of_some (h := h₁) oT he₁
  refine wpAny_setField he₂ rfl hsz ?_
  have keep : ∀ b o, b ≠ e → h₁.get? b = some o → ((h₁.push oT).update e (Obj.mapFields (·.setIfInBounds 1 (Value.ref h₁.objs.size)))).get? b = some o := fun b o hbe hb => by
    rw [Heap.get?_update_other _ _ (Ne.symm hbe)]
    exact Heap.get?_push_of_some _ hb
  refine h _ (fun b o hbo => keep b o (fun q => by rw [q, hen] at hbo; cases hbo) (kb₁ b o hbo)) (hl.of_keeps fun b o hb hnf => ?_) ?_ fun b o hb hnf => ?_
  · obtain ⟨sl, hs⟩ := hs₁.2.2 b o hb
    exact ⟨_, keep b _ (not_rec he rfl hb hnf) hs, rfl⟩
  · refine ⟨vs.setIfInBounds 1 (Value.ref h₁.objs.size), h₁.objs.size, oT, _, ?_, by simp [hsz], kb₁.fresh, hTe, ?_, by rw [← hO], ?_⟩
    · exact Heap.get?_update_self _ he₂ rfl
    · rw [Heap.get?_update_other _ _ (Ne.symm hTe), ← hO]; exact Heap.get?_push_size _ rfl
    · first | (simp; done) | (rcases hpl with rfl | ⟨_, _, _, _, _, _, _, rfl⟩ <;> simp)
  · obtain ⟨sl, hs⟩ := hs₁.2.2 b o hb
    exact ⟨sl, keep b _ (not_rec he rfl hb hnf) hs⟩
theorem flightD {fl : Value} (hkb : base.StaysIn s.heap) (hl : s.heap.FunFrames base l) (ht : TrD s.heap base e d fl)
    (h : ∀ h', base.StaysIn h' → h'.FunFrames base l → TrD h' base e d .none → s.heap.UpToSlots h' → Q () { s with heap := h' }) : wpAny M A (setFlight (.ref e) none) Q E s := by
  obtain ⟨vs, T, oT, ts, he, h1, hnT, hTe, hT, hdT, h3⟩ := ht
  have hsz3 : 3 < ts.size := (Array.getElem?_eq_some_iff.mp h3).1
  have other : ∀ b, b ≠ T → (s.heap.update T (Obj.mapFields (·.setIfInBounds 3 ((none : Option Addr).elim Value.none fun f => rawInt f)))).get? b = s.heap.get? b := fun b hb => Heap.get?_update_other _ _ (Ne.symm hb)
  unfold setFlight
  refine wpAny_bind (wpAny_field he rfl h1 ?_)
  rw [if_pos (show (Value.ref T != Value.none) = true from by simp)]
  refine wpAny_setField hT hdT hsz3 (h _ (fun b o hbo => (other b fun q => by rw [q, hnT] at hbo; cases hbo).trans (hkb b o hbo)) (hl.of_keeps fun b o hb hnf => ⟨o, (other b (not_rec hT hdT hb hnf)).trans hb, rfl⟩) ?_
    fun b o hb hnf => ⟨o.slots, (other b (not_rec hT hdT hb hnf)).trans hb⟩)
  exact ⟨vs, T, _, _, (other e (Ne.symm hTe)).trans he, h1, hnT, hTe, Heap.get?_update_self _ hT (Obj.isFreed_of_fields (Obj.data_mapFields hdT _)), Obj.data_mapFields hdT _, by simp [hsz3]⟩
theorem noteD_first {vs : Array Value} (hfr : A.frames = some (env :: outer)) (hl : s.heap.FunFrames base (env :: outer)) (hf : env.frame = some L)
    (he : s.heap.get? e = some ⟨.ref 81, some d, .fields vs, #[]⟩) (hkb : base.StaysIn s.heap) (hen : base.get? e = none) (h1 : vs[1]? = some .none)
    (h : ∀ h', base.StaysIn h' → h'.FunFrames base (env :: outer) → TrD h' base e d (rawInt L) → s.heap.UpToSlots h' → Q () { s with heap := h' }) : wpAny M A (noteFrame (.ref e) env) Q E s := by
  unfold noteFrame
  simp only [hf]
  refine wpAny_bind (wpAny_field he rfl h1 ?_)
  rw [if_neg (by decide)]
  exact entryD hfr hl hf he hkb hen (Array.getElem?_eq_some_iff.mp h1).1 h
theorem noteD_next (hfr : A.frames = some (env :: outer)) (hl : s.heap.FunFrames base (env :: outer)) (hf : env.frame = some L)
    (ht : TrD s.heap base e d .none) (hkb : base.StaysIn s.heap) (hen : base.get? e = none)
    (h : ∀ h', base.StaysIn h' → h'.FunFrames base (env :: outer) → TrD h' base e d (rawInt L) → s.heap.UpToSlots h' → Q () { s with heap := h' }) : wpAny M A (noteFrame (.ref e) env) Q E s := by
  obtain ⟨vs, T, oT, ts, he, h1, hnT, hTe, hT, hdT, h3⟩ := ht
  unfold noteFrame
  simp only [hf]
  refine wpAny_bind (wpAny_field he rfl h1 ?_)
  rw [if_pos (show (Value.ref T != Value.none) = true from by simp)]
  refine wpAny_bind (wpAny_field hT hdT h3 ?_)
  rw [if_neg (show ¬ ((Value.none == rawInt L) = true) from by simp [rawInt])]
  refine wpAny_bind (wpAny_setField hT hdT (Array.getElem?_eq_some_iff.mp h3).1 ?_)
  have other : ∀ b, b ≠ T → (s.heap.update T (Obj.mapFields (·.setIfInBounds 3 Value.none))).get? b = s.heap.get? b := fun b hb => Heap.get?_update_other _ _ (Ne.symm hb)
  refine entryD hfr (hl.of_keeps fun b o hb hnf => ⟨o, (other b (not_rec hT hdT hb hnf)).trans hb, rfl⟩) hf ((other e (Ne.symm hTe)).trans he)
    (fun b o hbo => (other b fun q => by rw [q, hnT] at hbo; cases hbo).trans (hkb b o hbo)) hen (Array.getElem?_eq_some_iff.mp h1).1
    fun h' x1 x2 x3 x4 => h h' x1 x2 x3 fun b o hb hnf => x4 b o ((other b (not_rec hT hdT hb hnf)).trans hb) hnf
end
def Fly (base G : Heap) (l : List Env) (e d : Addr) (news : Led) (h : Heap) : Prop :=
  ∃ B, base.StaysIn B ∧ (∀ b o, G.get? b = some o → b ∉ l.filterMap (·.frame) → B.get? b = some o) ∧ (∀ q ∈ news, B.get? q.1 = some q.2 ∧ G.get? q.1 = none ∧ base.get? q.1 = none) ∧
    B.StaysIn h ∧ B.get? e = none ∧ h.FunFrames B l ∧ TrD h B e d .none
theorem base_none {base h₀ : Heap} (k : base.StaysIn h₀) {b : Addr} (e : h₀.get? b = none) : base.get? b = none := by
  cases q : base.get? b with
  | none => rfl
  | some o => have := k b o q; rw [e] at this; cases this
theorem mem_frames {env : Env} {outer : List Env} {L b : Addr} (hf : env.frame = some L) (hm : b ∈ (env :: outer).filterMap (·.frame)) : b = L ∨ b ∈ outer.filterMap (·.frame) := by
  obtain ⟨e, he, h⟩ := List.mem_filterMap.mp hm
  rcases List.mem_cons.mp he with rfl | he
  · rw [hf] at h; exact .inl (Option.some.inj h).symm
  · exact .inr (List.mem_filterMap.mpr ⟨e, he, h⟩)
theorem below_push {A : Around} {base g h : Heap} {env : Env} {outer : List Env} {L : Addr} {m : Str → Option Value} (K : Below A base outer g) (F : Fr g L h m) (hf : env.frame = some L) (hk : env.scope.kind = .function) : Below (A.deeper env) base (env :: outer) h := by
  have hnew : base.get? L = none := base_none K.stays (kts_self F)
  obtain ⟨oL, es, ep, hL, hLd, _⟩ := F.ns
  exact ⟨Around.frames_deeper K.stack, fun b o e => F.keep b o (K.stays b o e), by rw [hk]; decide, ⟨L, oL, hf, hnew, hL, fun vs q => by rw [hLd] at q; cases q⟩, K.frames.of_keeps fun b o e _ => ⟨o, F.keep b o e, rfl⟩⟩
section
variable {M : Model} {A : Around} {E : Value → Shared → Prop} {s' : Shared} {base g g₂ h : Heap} {env : Env} {outer : List Env} {L e d t : Addr} {m : Str → Option Value} {Q : Unit → Shared → Prop} {news : Led}
theorem fly_first (K : Below A base outer g) (F : Fr g L s'.heap m) (N : News g L s'.heap ((e, excO (some d) t) :: news)) (off : ∀ p ∈ news, p.1 ≠ e) (hf : env.frame = some L) (hk : env.scope.kind = .function)
    (hQ : ∀ h', Fly base g outer e d news h' → g.UpToSlots h' → Q () { s' with heap := h' }) :
    wpAny M (A.deeper env) (leaving env (.ref e)) Q E s' := by
  have K' := below_push (env := env) K F hf hk
  have hin : ∀ en ∈ (env :: outer), ∀ b, en.frame = some b → b ∈ e :: (env :: outer).filterMap (·.frame) := fun en he b hb => .tail _ (List.mem_filterMap.mpr ⟨en, he, hb⟩)
  have Ne := N _ (.head _)
  have st : base.StaysIn (hideAll s'.heap (e :: (env :: outer).filterMap (·.frame))) := fun b o q => hideAll_get _ (K'.stays b o q) fun hm => by
    rcases List.mem_cons.mp hm with rfl | hm
    · rw [base_none K.stays Ne.2.2] at q; cases q
    · rw [(K'.frames.mem hm).1] at q; cases q
  have sg : ∀ b o, g.get? b = some o → b ∉ outer.filterMap (·.frame) → (hideAll s'.heap (e :: (env :: outer).filterMap (·.frame))).get? b = some o := fun b o q nm => hideAll_get _ (F.keep b o q) fun hm => by
    rcases List.mem_cons.mp hm with rfl | hm
    · rw [Ne.2.2] at q; cases q
    · rcases mem_frames hf hm with z | z
      · rw [z, kts_self F] at q; cases q
      · exact nm z
  have hl : ∀ q ∈ news, (hideAll s'.heap (e :: (env :: outer).filterMap (·.frame))).get? q.1 = some q.2 ∧ g.get? q.1 = none ∧ base.get? q.1 = none := fun q hq => by
    have Nq := N q (.tail _ hq)
    refine ⟨hideAll_get _ Nq.1 fun hm => ?_, Nq.2.2, base_none K.stays Nq.2.2⟩
    rcases List.mem_cons.mp hm with hm | hm
    · exact off q hq hm
    · rcases mem_frames hf hm with z | z
      · exact Nq.2.1 z
      · obtain ⟨_, o, ho, _⟩ := K.frames.mem z
        rw [Nq.2.2] at ho; cases ho
  have hen : (hideAll s'.heap (e :: (env :: outer).filterMap (·.frame))).get? e = none := hideAll_none _ (.head _)
  unfold leaving
  refine wpAny_bind (noteD_first K'.stack (funFrames_hide K'.frames hin) hf Ne.1 (fun b o q => of_hideAll _ q) hen rfl fun h1 a1 a2 a3 a4 => ?_)
  refine flightD a1 a2 a3 fun h2 b1 b2 b3 b4 => ?_
  exact hQ h2 ⟨_, st, sg, hl, b1, hen, b2.2.2, b3⟩ ((Heap.UpToSlots.of_keeps F.keep).trans (a4.trans b4))
theorem fly_on (K : Below A base outer g) (F : Fr g L g₂ m) (R : Fly base g₂ (env :: outer) e d news s'.heap) (hsm : g₂.UpToSlots s'.heap) (hf : env.frame = some L)
    (hQ : ∀ h', Fly base g outer e d news h' → g.UpToSlots h' → Q () { s' with heap := h' }) :
    wpAny M (A.deeper env) (leaving env (.ref e)) Q E s' := by
  obtain ⟨B, hB, hBG, hl, hk, hen, hfr, ht⟩ := R
  unfold leaving
  refine wpAny_bind (noteD_next (Around.frames_deeper K.stack) hfr hf ht hk hen fun h1 a1 a2 a3 a4 => ?_)
  refine flightD a1 a2 a3 fun h2 b1 b2 b3 b4 => ?_
  exact hQ h2 ⟨B, hB, fun b o q nm => hBG b o (F.keep b o q) (fun hm => by
    rcases mem_frames hf hm with z | z
    · rw [z, kts_self F] at q; cases q
    · exact nm z), fun q hq => ⟨(hl q hq).1, kts_none F.keep (hl q hq).2.1, (hl q hq).2.2⟩, b1, hen, b2.2.2, b3⟩ ((Heap.UpToSlots.of_keeps F.keep).trans (hsm.trans (a4.trans b4)))
end
section
variable {w : World} {A₀ : Around} {E : Value → Shared → Prop} {s' : Shared} {base g G : Heap} {outer : List Env} {L a e d : Addr} {m : Str → Option Value} {name : Str} {scope : Scope} {cd : Value}
  {n : Str} {b₀ : Stmt} {suite : List Stmt} {pos np : Pos} {rest : List ExceptHandler} {Q : Flow → Shared → Prop} {news : Led} {mean : ExcName → Option Value} {mg mb : Str → Option Value}
theorem fly_caught {vp : Program} {vl : List Str} (R : Fly base G (envOf name scope L a cd :: outer) e d news s'.heap) (F : Fr g L G m) (K : Below A₀ base outer g) (hsm : G.UpToSlots s'.heap) (XB : (Mine.hd.heap_1 w.params).In base) (TB : Top vp vl mean mg mb base)
    (k : ∀ h' g' vs tk, KtsTurn (outer.filterMap (·.frame)) g g' → Fr g' L h' (fun y => if y = n then some (.ref e) else m y) → News g' L h' ((e, ⟨.ref 81, some d, .fields vs, #[]⟩) :: news) → Below A₀ base outer g' → (Mine.hd.heap_1 w.params).In g' → Top vp vl mean mg mb g' →
      wpAny (model PySem.Challenge.rw_rg0115_01.row.prog w) ((A₀.deeper (envOf name scope L a cd)).mark (some (.ref e))) (execs (b₀ :: suite) (envOf name scope L a cd))
        (fun f s₄ => wpAny (model PySem.Challenge.rw_rg0115_01.row.prog w) (A₀.deeper (envOf name scope L a cd)) (do bindName (envOf name scope L a cd) n .none; unbindBehindTheSuite (envOf name scope L a cd) n pos) (fun _ s₅ => Q f s₅) E s₄)
        (AsSuiteRaised (model PySem.Challenge.rw_rg0115_01.row.prog w) ((A₀.deeper (envOf name scope L a cd)).mark (some (.ref e))) (envOf name scope L a cd) n pos (notedBy (model PySem.Challenge.rw_rg0115_01.row.prog w) ((A₀.deeper (envOf name scope L a cd)).mark (some (.ref e))) (envOf name scope L a cd) (cameBackBy (model PySem.Challenge.rw_rg0115_01.row.prog w) (A₀.deeper (envOf name scope L a cd)) (envOf name scope L a cd) E)))
        { s' with heap := h', toks := tk })
    (ex : nsIn (Mine.hd.heap_1 w.params) mainGlobals (Str.ofString "PaperFault") = some (some (.ref 81))) (hcl : ktsIn (Mine.hd.heap_1 w.params) 81 "BaseException" = true)
    (hk : scope.kind = .function) (hlo : (envOf name scope L a cd).kindOf n = some .local) (hx : (envOf name scope L a cd).kindOf (Str.ofString "PaperFault") = some .globalImplicit) :
    wpAny (model PySem.Challenge.rw_rg0115_01.row.prog w) (A₀.deeper (envOf name scope L a cd)) (noteFrame (.ref e) (envOf name scope L a cd))
      (fun _ s₂ => wpAny (model PySem.Challenge.rw_rg0115_01.row.prog w) (A₀.deeper (envOf name scope L a cd)) (setFlight (.ref e) none) (fun _ s₃ =>
        wpAny (model PySem.Challenge.rw_rg0115_01.row.prog w) (A₀.deeper (envOf name scope L a cd)) (handleBy (.ref e) (envOf name scope L a cd) (.ExceptHandler (some (.Name (Str.ofString "PaperFault") np)) (some n) (b₀ :: suite) pos :: rest)) Q E s₃) E s₂) E s' := by
  obtain ⟨B, hB, hBG, hl, hkB, hen, hfr, ht⟩ := R
  have hL : B.get? L = none := by
    obtain ⟨_, ⟨L', _, hf, hn', _⟩, _⟩ := hfr
    obtain rfl : L = L' := Option.some.inj hf
    exact hn'
  refine noteD_next (Around.frames_deeper K.stack) hfr rfl ht hkB hen fun h₄ a1 a2 a3 a4 => ?_
  refine flightD a1 a2 a3 fun h₅ b1 b2 b3 b4 => ?_
  have hsm₅ := hsm.trans (a4.trans b4)
  obtain ⟨g₅, T₅, F₅, K₅⟩ := kts_ground K F hBG b1 hsm₅
  have X₅ : (Mine.hd.heap_1 w.params).In g₅ := XB.keeps K₅.stays
  have P₅ : TopRead vp vl mg mb g₅ := topRead_of (TB.keeps K₅.stays)
  obtain ⟨nm, q', N, bs, bm, hdct, sn, sub, ab, col, dd, k0, k1, k2, k3, k5, newId, hC, hbase, hbT⟩ := kts_cls X₅ hcl
  have hC₅ := F₅.keep _ _ hC
  obtain ⟨vs₅, T5, oT5, ts5, he₅, r5⟩ := id b3
  refine wpAny_handleBy_cons (codeAny_handlers_test (name_K F₅ X₅ P₅ ex ?_ hk hx (by decide))) (by intro q; cases q)
  refine wpAny_excMatches_sub_self hC₅ he₅ rfl hbase (codeAny_handlers_suite_as ?_)
  refine flightD b1 b2 b3 fun h₆ c1 c2 c3 c4 => ?_
  have hsm₆ := hsm₅.trans c4
  obtain ⟨g₆, T₆, F₆, K₆⟩ := kts_ground K F hBG c1 hsm₆
  obtain ⟨vs, T6, oT6, ts6, he₆, r6⟩ := c3
  have ne₆ : g₆.get? e = none := T₆.none_ _ (kts_fresh F hBG hen fun o ho m => by
    obtain ⟨_, o', ho', hd⟩ := K.frames.mem m
    rw [ho] at ho'
    cases ho'
    obtain ⟨sl, hs⟩ := hsm₆ _ _ (F.keep _ _ ho) hd
    rw [he₆] at hs
    injection hs with hs
    exact hd vs (congrArg Obj.data hs).symm)
  have neL : e ≠ L := fun q => by
    obtain ⟨oL, es, ep, hL', hd, _⟩ := F₆.ns
    rw [← q, he₆] at hL'
    cases hL'
    cases hd
  have Nl : News g₆ L h₆ ((e, ⟨.ref 81, some d, .fields vs, #[]⟩) :: news) := fun q hq => by
    rcases List.mem_cons.mp hq with rfl | hq
    · exact ⟨he₆, neL, ne₆⟩
    · exact ⟨c1 _ _ (hl q hq).1, (fun z => by have := (hl q hq).1; rw [z, hL] at this; cases this), T₆.none_ _ (kts_none F.keep (hl q hq).2.1)⟩
  refine stN F₆ Nl (fun h₇ F₇ N₇ => ?_) hk hlo
  exact k h₇ g₆ vs _ T₆ F₇ N₇ K₆ (XB.keeps K₆.stays) (TB.keeps K₆.stays)
end
end Mine
end
section
open PySem PySem.W PySem.W.X PySem.Spec PySem.Calls PyProof.Rows
open Builtin Builtin.ObjectAttr
set_option maxRecDepth 100000
set_option maxHeartbeats 8000000
namespace Mine
section
variable {w : World} {A : Around} {E : Value → Shared → Prop} {s : Shared}
theorem exc_get {x : Addr} {ox : Obj} {od : Option Obj} {name : Str} {v : Value} {expr : Bool} {Q : Value → Shared → Prop} (X : (Mine.hd.heap_1 w.params).In s.heap) (I : InstAt s.heap x ox 81 od)
    (hf : findObj (Mine.hd.heap_1 w.params) 81 od name = some (.value v)) (hh : handedIn v = true) (h : Q v { s with toks := s.toks + 1 }) :
    wpAny (model PySem.Challenge.rw_rg0115_01.row.prog w) A (getAttr (.ref x) name expr) Q E s := by
  have hga : findIn (Mine.hd.heap_1 w.params) (.ref 81) "__getattribute__" = some (some (.builtin "BaseException.__getattribute__")) := by k_is
  have hgt : findIn (Mine.hd.heap_1 w.params) (.ref 81) "__getattr__" = some none := by k_is
  obtain ⟨hp, g, d, t, os⟩ := s
  have L0 := I.type (M := model PySem.Challenge.rw_rg0115_01.row.prog w)
  have L1 := looks_findIn (M := model PySem.Challenge.rw_rg0115_01.row.prog w) X hga
  have L2 := looks_findIn (M := model PySem.Challenge.rw_rg0115_01.row.prog w) X hgt
  have L3 := looks_find (M := model PySem.Challenge.rw_rg0115_01.row.prog w) X I hf
  have hx1 : (Value.builtin "BaseException.__getattribute__" == Value.builtin "object.__getattribute__") = false := by decide +kernel
  have sub : Looks (model PySem.Challenge.rw_rg0115_01.row.prog w) hp (isInstance (.ref x) (.type "BaseException")) true := I.type.andThen (looks_mroIn X (by k_is))
  unfold getAttr getAttrBy
  refine wpAny_bind (wpAny_mkText (wpAny_holding (wpAny_bind (L0.at (wpAny_bind (L1.at ?_))))))
  dsimp only
  rw [hx1, Bool.and_false, if_neg Bool.false_ne_true]
  unfold getAttrByItsOwn hookBefore
  refine wpAny_bind ?_
  rw [show onTheHeap (Value.ref 81) = true from rfl, if_pos rfl]
  refine L2.at ?_
  refine wpAny_bind (wpAny_attempt (wpAny_holding ?_))
  unfold callGetattribute
  rw [show (expr && onTheHeap (Value.builtin "BaseException.__getattribute__")) = false from by cases expr <;> rfl, if_neg Bool.false_ne_true]
  unfold boundAndCalled
  rw [F.excAttr_ValueError.ga.bind]
  refine wpAny_bind (wpAny_pure ?_)
  have hk9 : builtinKind "BaseException.__getattribute__" = some .slot := by decide +kernel
  have hs9 : splitId "BaseException.__getattribute__" = some ("BaseException", "__getattribute__") := by decide +kernel
  refine wpAny_call ?_
  refine codeAny_call_builtin F.excAttr_ValueError.ga.plain F.entry_bexc_ga ?_
  refine @check_slot (model PySem.Challenge.rw_rg0115_01.row.prog w) _ _ _ "BaseException.__getattribute__" "BaseException" "__getattribute__" (.ref x) [.str name t] [] _ hk9 hs9 sub (F.args_bexc_ga (.ref x) (.str name t)) ?_
  refine wpAny_bind (wpAny_pure (wpAny_bind (wpAny_pure (wpAny_bind (L0.at (wpAny_bind (L3.at ?_)))))))
  refine wpAny_pure ?_
  show wpAny _ _ (handedOut v) _ _ _
  rw [handedOut_of hh]; exact wpAny_pure h
end
end Mine
end
section
open PySem PySem.W PySem.Spec PySem.Calls PyProof.Rows PyProof.Rows.LCg
set_option maxRecDepth 100000
set_option maxHeartbeats 1000000
namespace Mine
def FaultD (w : World) (pv : Value) (o : Obj) : Prop := ∃ tk1 tk2 v k, o = dictOf [⟨PyData.keyHash w.params (Str.ofString "what"), .str (Str.ofString "what") tk1, v⟩, ⟨PyData.keyHash w.params (Str.ofString "place"), .str (Str.ofString "place") tk2, pv⟩] k
def FlyS (x : Fx) (m : Loc) (J : Led) (pv : Value) (ev : Value) (s : Shared) : Prop :=
  ∃ g e d od, ev = .ref e ∧ Fr x.h₀ x.L g m ∧ Fly x.base g (x.fr :: x.outer) e d ((d, od) :: J) s.heap ∧ FaultD x.w pv od ∧ g.UpToSlots s.heap ∧ s.gens = x.g ∧ s.os = x.os
def RaiseS (x : Fx) (m : Loc) (J : Led) (pv : Value) (ev : Value) (s : Shared) : Prop :=
  ∃ e d od t, ev = .ref e ∧ Fr x.h₀ x.L s.heap m ∧ News x.h₀ x.L s.heap ((e, excO (some d) t) :: (d, od) :: J) ∧ (∀ p ∈ (d, od) :: J, p.1 ≠ e) ∧ FaultD x.w pv od ∧ s.gens = x.g ∧ s.os = x.os
abbrev ExP := Value → Led → Prop
def CallE (x : Fx) (G : Gh) (m : Loc) (f : Value) (vs : List Value) (K : Value → Gh → Prop) (X : ExP) : Prop :=
  ∀ s, St x G m s → ∀ (Q : Value → Shared → Prop) (E : Value → Shared → Prop), (∀ v G' s', K v G' → St x G' m s' → Q v s') → (∀ pv J ev s', X pv J → FlyS x m J pv ev s' → E ev s') → wpAny (model PG x.w) x.A (call f vs) Q E s
def EvE (x : Fx) (G : Gh) (m : Loc) (e : Expr) (K : Value → Gh → Prop) (X : ExP) : Prop :=
  ∀ s, St x G m s → ∀ (Q : Value → Shared → Prop) (E : Value → Shared → Prop), (∀ v G' s', K v G' → St x G' m s' → Q v s') → (∀ pv J ev s', X pv J → FlyS x m J pv ev s' → E ev s') → wpAny (model PG x.w) x.A (eval e x.env) Q E s
def Takes (x : Fx) (E : Value → Shared → Prop) (X : ExP) : Prop := ∀ m pv J ev s', X pv J → (FlyS x m J pv ev s' ∨ RaiseS x m J pv ev s') → E ev s'
section
variable {x : Fx} {G : Gh} {M J : Led} {dr : Drawn} {m : Loc} {T : Post} {E : Value → Shared → Prop} {e : Expr} {es : List Expr} {rest : List Stmt} {D f : Addr} {K : Value → Gh → Prop} {X : ExP} {n : Str} {p p1 p2 pos : Pos} {d u : Nat} {vs : List Value}
theorem ee_callK {Kf : Frag} (hg : NameIs x n (.ref f)) (Xf : Kf.In x.h₀) (hk : keepIn Kf (.ref f) = true) (he : starEach (e :: es) x.env = (false, eval e x.env) :: starEach es x.env) (hp : ∀ pos, (backTo pos (starEach es x.env)).any (·.1) = false)
    (h : EvL x G m (e :: es) fun vs G' => CallE x G' m (.ref f) vs K X) : EvE x G m (.Call (.Name n p1) (e :: es) [] p2) K X := fun s hs Q E q qe =>
  Call_ (hg _ _ _ hs _ _ _ (callWith_K Xf hk (h _ s hs _ _ fun vs G' s' hc hs' => ⟨Xf.keeps hs'.1.keep, hc s' hs' _ _ q qe⟩) he (hp _)))
theorem go_exprE (hi : interactive x.env = false) (hs : swapsWith e none p.line x.env = pure false) (hX : Takes x E X) (he : EvE x G m e (fun _ G' => Go x G' m rest T E) X) : Go x G m (.Expr e p :: rest) T E := go_cons_of fun s hs' =>
  wpAny_Expr_any (he s hs' _ _ (fun v G' s' hk hs2 => ⟨G', m, hs2, hk⟩) fun pv J ev s' hx hf => hX m pv J ev s' hx (.inl hf)) hi hs
theorem Takes.hid {q : Addr × Obj} (h : Takes x E X) : Takes (hid x q) E X := fun m pv J ev s' hx hf => h m pv J ev s' hx hf
theorem leave_takes {x' : Fx} {m' : Loc} {pv ev : Value} {J : Led} {s' : Shared} (B : Below x.A x.base (x.fr :: x.outer) x'.h₀) (hb : x'.base = x.base) (ho : x'.outer = x.fr :: x.outer) (hw : x'.w = x.w) (hg : x'.g = x.g) (hos : x'.os = x.os) (hk : x'.cs.kind = .function) (FG : Fr x.h₀ x.L x'.h₀ m)
    (h : FlyS x' m' J pv ev s' ∨ RaiseS x' m' J pv ev s') (hE : ∀ s'', FlyS x m J pv ev s'' → E ev s'') : wpAny (model PG x.w) (x.A.deeper x'.fr) (leaving x'.fr ev) (fun _ s'' => E ev s'') (fun e' s'' => E e' s'') s' := by
  rcases h with ⟨g, e, d, od, rfl, F, R, hd, hu, h1, h2⟩ | ⟨e, d, od, t, rfl, F, N, off, hd, h1, h2⟩
  · rw [hb, ho] at R
    exact fly_on B F R hu rfl fun h' R' u' => hE _ ⟨x'.h₀, e, d, od, rfl, FG, R', hw ▸ hd, u', h1.trans hg, h2.trans hos⟩
  · exact fly_first B F N off rfl hk fun h' R' u' => hE _ ⟨x'.h₀, e, d, od, rfl, FG, R', hw ▸ hd, u', h1.trans hg, h2.trans hos⟩
theorem enterE {name qual : Str} {params : Arguments} {body : List Stmt} {scope : Scope} {dV kV doc pm cdv ct oc : Value} {an od : Option Addr} {osl : Array (Option Value)} {binds : List (Str × Value)}
    (ok : Ok x d u) (ho : (Mine.hd.heap_1 x.w.params).lookup f = some ⟨oc, od, .func (fnOf name qual params body scope dV kV doc pm an cdv ct), osl⟩) (hcd : codeIn (Mine.hd.heap_1 x.w.params) cdv qual = true) (hd : d < recursionLimit)
    (hbind : bindArgs (fnOf name qual params body scope dV kV doc pm an cdv ct) ⟨vs, []⟩ = pure binds) (hloc : ∀ y ∈ binds, scope.names.lookup y.1 = some .local)
    (hco : scope.isCoroutine = false) (hgen : scope.isGenerator = false) (hk : scope.kind = .function) (hcell : ∀ x ∈ scope.names, x.2 ≠ .cell)
    (k : ∀ (x' : Fx) (E : Value → Shared → Prop), Ok x' (d + 1) (u + 3) → x'.w = x.w → x'.env = envX qual scope x'.L f cdv [] → PassesOwn (model PG x'.w) x'.A x'.env E → Takes x' E X → Go x' G (locOf binds.reverse) body (EndT K) E) : CallE x G m (.ref f) vs K X := by
  obtain ⟨p, loose, mean, mg, mb, T⟩ := ok.T
  have hdp := ok.dp
  have hun := ok.un
  intro s hs Q E q qe
  refine wpAny_call (code_def ok.B hs.1 ok.K hs.2.1 T rfl rfl ok.ks ho hcd (show x.dp < recursionLimit by omega) (BindsTo.of_eq hbind) hloc (fun g L' h1 FG F' N' B' X' T' => ?_) hco hgen hk hcell)
  let x' : Fx := ⟨x.w, envOf qual scope L' f cdv, g, L', x.H, s.gens, s.os, x.dp + 1, x.un + 3, (x.A.deeper (envOf qual scope L' f cdv)).guards, qual, scope, f, cdv, [], x.fr :: x.outer, x.A, x.base⟩
  refine wpAny_mono (k x' (fun e s' => wpAny (model PG x.w) (x.A.deeper (envOf qual scope L' f cdv)) (leaving (envOf qual scope L' f cdv) e) (fun _ s'' => E e s'') (fun e' s'' => E e' s'') s') ⟨B', ok.KB, ok.TB, hk, Nat.succ_le_succ hdp, Nat.add_le_add_right hun 3⟩ rfl rfl PassesOwn.leaving
    (fun m' pv J ev s' hx hf => leave_takes (x' := x') B' rfl rfl rfl hs.2.2.2.1 hs.2.2.2.2.1 hk FG hf fun s'' hf2 => qe _ _ _ _ hx hf2)
    { s with heap := h1, toks := s.toks + binds.length } ⟨locOf_is _ ▸ F', N', hs.2.2.1, rfl, rfl, hs.2.2.2.2.2⟩) (fun fl s' h9 => ?_) fun _ _ z => z
  obtain ⟨G₁, m', st, G', wk, hR⟩ := h9
  replace st := wk.st st
  exact ⟨L', m', x.H ++ (G'.M ++ G'.J), st.1, st.2.1, fun F2 N2 => q _ G' s' hR ⟨F2, N2, st.2.2.1, st.2.2.2.1.trans hs.2.2.2.1, st.2.2.2.2.1.trans hs.2.2.2.2.1, st.2.2.2.2.2⟩⟩
theorem enterCE {name qual : Str} {params : Arguments} {body : List Stmt} {scope : Scope} {dV kV doc pm cdv ct oc : Value} {an od : Option Addr} {osl : Array (Option Value)} {binds : List (Str × Value)}
    (ok : Ok x d u) (ho : (Mine.hd.heap_1 x.w.params).lookup f = some ⟨oc, od, .func (fnOf name qual params body scope dV kV doc pm an cdv ct), osl⟩) (hcd : codeIn (Mine.hd.heap_1 x.w.params) cdv qual = true) (hd : d < recursionLimit)
    (hbind : bindArgs (fnOf name qual params body scope dV kV doc pm an cdv ct) ⟨vs, []⟩ = pure binds) (hkind : (binds.all fun y => scope.names.lookup y.1 == some .local || scope.names.lookup y.1 == some .cell) = true)
    (hnd : ((cellsFrom 0 scope.names []).map (·.1)).Nodup) (hco : scope.isCoroutine = false) (hgen : scope.isGenerator = false) (hk : scope.kind = .function)
    (hord : ∀ L : Addr, (∀ p ∈ cellsFrom (L + 1) scope.names [], @LT.lt Nat _ L p.2) ∧ ((cellsFrom (L + 1) scope.names []).map (·.2)).Nodup)
    (k : ∀ (x' : Fx) (E : Value → Shared → Prop) cells, Ok x' (d + 1) (u + 3) → x'.w = x.w → x'.H = x.H → x'.env = envX qual scope x'.L f cdv (cellsFrom (x'.L + 1) scope.names []) → PassesOwn (model PG x'.w) x'.A x'.env E → Takes x' E X →
      CellsAre (bindC (envOfC qual scope x'.L f cdv).kindOf binds fun _ => none) (cellsFrom (x'.L + 1) scope.names []) cells →
      Go x' ⟨cells ++ G.M, G.J, G.d⟩ (bindL (envOfC qual scope x'.L f cdv).kindOf binds fun _ => none) body (EndT K) E) : CallE x G m (.ref f) vs K X := by
  obtain ⟨p, loose, mean, mg, mb, T⟩ := ok.T
  have hdp := ok.dp
  have hun := ok.un
  intro s hs Q E q qe
  refine wpAny_call (code_defC ok.B hs.1 ok.K hs.2.1 T rfl rfl ok.ks ho hcd (show x.dp < recursionLimit by omega) (BindsTo.of_eq hbind) hkind hnd (fun g L' h1 tk cells FG F' N' Y B' X' T' lt => ?_) hco hgen hk)
  have S1 := cells_sep Y hs.2.2.1 (fun p hp => lt p (by rw [← List.append_assoc]; exact List.mem_append_left _ hp)) (fun p hp => lt p (List.mem_append_right _ (List.mem_append_right _ hp))) (hord L').1 (hord L').2
  have S2 : Sep (x.H ++ (cells ++ G.M)) G.J := by
    refine ⟨?_, fun p hp => S1.2 p (mem_swap hp)⟩
    have h1 := S1.1
    rw [← List.append_assoc, List.map_append, List.map_append] at h1 ⊢
    exact (List.Perm.append_right _ List.perm_append_comm).nodup_iff.mp h1
  let x' : Fx := ⟨x.w, envOfC qual scope L' f cdv, g, L', x.H, s.gens, s.os, x.dp + 1, x.un + 3, (x.A.deeper (envOfC qual scope L' f cdv)).guards, qual, scope, f, cdv, cellsFrom (L' + 1) scope.names [], x.fr :: x.outer, x.A, x.base⟩
  refine wpAny_mono (k x' (fun e s' => wpAny (model PG x.w) (x.A.deeper (envOfC qual scope L' f cdv)) (leaving (envOfC qual scope L' f cdv) e) (fun _ s'' => E e s'') (fun e' s'' => E e' s'') s') cells ⟨B', ok.KB, ok.TB, hk, Nat.succ_le_succ hdp, Nat.add_le_add_right hun 3⟩ rfl rfl rfl PassesOwn.leaving
    (fun m' pv J ev s' hx hf => leave_takes (x' := x') B' rfl rfl rfl hs.2.2.2.1 hs.2.2.2.2.1 hk FG hf fun s'' hf2 => qe _ _ _ _ hx hf2) Y
    { s with heap := h1, toks := tk } ⟨F', news_sub N' fun p hp => mem_swap (by rw [List.append_assoc] at hp; exact hp), S2, rfl, rfl, hs.2.2.2.2.2⟩) (fun fl s' h9 => ?_) fun _ _ z => z
  obtain ⟨G₁, m', st, G', wk, hR⟩ := h9
  replace st := wk.st st
  exact ⟨L', m', x.H ++ (G'.M ++ G'.J), st.1, st.2.1, fun F2 N2 => q _ G' s' hR ⟨F2, N2, st.2.2.1, st.2.2.2.1.trans hs.2.2.2.1, st.2.2.2.2.1.trans hs.2.2.2.2.1, st.2.2.2.2.2⟩⟩
end
end Mine
end
section
open PySem PySem.W PySem.Spec PySem.Calls PyProof.Rows PyProof.Rows.LCg
set_option maxRecDepth 100000
set_option maxHeartbeats 1000000
namespace Mine
def RaiseEnd (w : World) (E : Value → Shared → Prop) (v : Value) (s₁ : Shared) : Prop := ∃ e d t, v = .ref e ∧ (Mine.hd.heap_1 w.params).In s₁.heap ∧ s₁.heap.get? e = some (excO (some d) t) ∧ E (.ref e) s₁
theorem raise_fault {w : World} {A : Around} {E : Value → Shared → Prop} {s : Shared} {env : Env} {x : Str} {np cpos pos : Pos} {args : List Expr} {Q : Flow → Shared → Prop} (hh : A.handled = none)
    (h : wpAny (model PG w) A (eval (.Call (.Name x np) args [] cpos) env) (RaiseEnd w E) E s) :
    wpAny (model PG w) A (exec (.Raise (some (.Call (.Name x np) args [] cpos)) none pos) env) Q E s := by
  rw [arm_exec_Raise]
  refine wpAny_bind (wpAny_standAt ?_)
  unfold raiseStmt
  refine wpAny_bind (wpAny_bind (wpAny_mono h (fun v s₁ h₁ => wpAny_bind (wpAny_standAt (wpAny_pure ?_))) fun _ _ z => z))
  obtain ⟨e, d, t, rfl, X, he, hE⟩ := h₁
  obtain ⟨nm, q, N, bs, bm, hdct, sn, sub, ab, col, dd, k0, k1, k2, k3, k5, hC⟩ := exc_cls X
  have hbase : (Value.ref 81 :: bm).contains (.type "BaseException") = true := by
    have := X 81 _ rfl
    rw [hC] at this
    injection this with this
    injection this with _ _ hdat _
    injection hdat with hdat
    injection hdat with _ _ hmro
    rw [show (Value.ref 81 :: bm) = _ from hmro]
    rfl
  obtain ⟨hp, g, dr, tk, os⟩ := s₁
  repeat (first | with_reducible refine wpAny_loadPart_at he ?_ | with_reducible refine wpAny_loadPart_at hC ?_ | (with_reducible refine wpAny_isSubtype_exc hC ?_; rw [hbase]) | wp_step)
  exact wpAny_raiseNew_none hh hE
section
variable {x : Fx} {G : Gh} {m : Loc} {T : Post} {E : Value → Shared → Prop} {e : Expr} {es : List Expr} {rest : List Stmt} {X : ExP} {n : Str} {np cpos pos : Pos} {d u : Nat}
theorem go_raise (ok : Ok x d u) (hd : d ≤ 400) (hu : u ≤ 1500) (hg : NameIs x n (.ref 81)) (hk : keepIn (Mine.hd.heap_1 x.w.params) (.ref 81) = true) (he : starEach (e :: es) x.env = (false, eval e x.env) :: starEach es x.env) (hp : ∀ pos, (backTo pos (starEach es x.env)).any (·.1) = false)
    (h : EvL x G m (e :: es) fun vs G' => ∃ what tk pv, vs = [.str what tk, pv] ∧ X pv G'.J) (hX : Takes x E X) : Go x G m (.Raise (some (.Call (.Name n np) (e :: es) [] cpos)) none pos :: rest) T E := go_cons_of fun s hs =>
  raise_fault rfl (Call_ (hg _ _ _ hs _ _ _ (callWith_K ok.K hk (h _ s hs _ _ fun vs G' s' hc hs' => ⟨ok.K.keeps hs'.1.keep, by
    obtain ⟨what, wk, pv, rfl, hx⟩ := hc
    obtain ⟨p, loose, mean, mg, mb, T9⟩ := ok.T
    refine fault_spec ok.B hs'.1 ok.K T9 ok.ks hs'.2.1 (Nat.le_trans ok.dp hd) (Nat.le_trans ok.un hu) fun e d t k h' tk tk1 tk2 F N o1 o2 o3 n1 n2 n3 => ?_
    refine ⟨e, d, t, rfl, ok.K.keeps F.keep, (N _ (.tail _ (.head _))).1, hX m pv G'.J _ _ hx (.inr ⟨e, d, _, t, rfl, F, ?_, ?_, ⟨tk1, tk2, .str what wk, k, rfl⟩, hs'.2.2.2.1, hs'.2.2.2.2.1⟩)⟩
    · refine news_sub N fun p hp => ?_
      rcases List.mem_cons.mp hp with rfl | hp
      · exact .tail _ (.head _)
      · rcases List.mem_cons.mp hp with rfl | hp
        · exact .head _
        · exact .tail _ (.tail _ (.tail _ (List.mem_append_right _ (List.mem_append_right _ hp))))
    · intro p hp
      rcases List.mem_cons.mp hp with rfl | hp
      · exact Ne.symm n1
      · exact o1 p (List.mem_append_right _ (List.mem_append_right _ hp))⟩) he (hp _))))
end
end Mine
end
section
open PySem PySem.W PySem.Spec PySem.Calls PyProof.Rows
set_option maxRecDepth 100000
namespace Mine
def isTR (t : Th) : Bool := match t.n with | .told _ | .rule _ _ => true | _ => false
def cnt (rows : List (List Int × Th)) : Int := ((rows.filter fun r => isTR r.2).length : Int)
theorem cnt_snoc (l : List (List Int × Th)) (r : List Int × Th) : cnt (l ++ [r]) = cnt l + cond (isTR r.2) 1 0 := by
  unfold cnt
  rw [List.filter_append, List.length_append]
  cases h : isTR r.2 <;> simp [h]
theorem cnt_app (a b : List (List Int × Th)) : cnt (a ++ b) = cnt a + cnt b := by
  unfold cnt
  rw [List.filter_append, List.length_append]; simp
def allF : Fo → Bool
  | .nil => true
  | .cons v n k r => form ⟨v, n, k⟩ && allF k && allF r
def cntF : Fo → Nat
  | .nil => 0
  | .cons v n k r => cond (isTR ⟨v, n, k⟩) 1 0 + cntF k + cntF r
def cntT (t : Th) : Nat := cond (isTR t) 1 0 + cntF t.k
theorem allF_po (f : Fo) : ∀ (p : List Int) (i : Int), (∀ r ∈ poF p i f, form r.2 = true) → allF f = true := by
  induction f with
  | nil => intro _ _ _; rfl
  | cons v n k r i1 i2 =>
    intro p i h
    rw [poF] at h
    have h0 := h (p ++ [i], ⟨v, n, k⟩) (List.mem_append_right _ (.head _))
    rw [if_pos h0] at h
    rw [allF, h0, i1 _ _ fun r hr => h r (List.mem_append_left _ hr), i2 _ _ fun r hr => h r (List.mem_append_right _ (.tail _ hr))]; rfl
theorem po_allF (f : Fo) : ∀ (p : List Int) (i : Int), allF f = true → (∀ r ∈ poF p i f, form r.2 = true) ∧ cnt (poF p i f) = (cntF f : Int) := by
  induction f with
  | nil => intro _ _ _; exact ⟨fun _ h => (nomatch h), rfl⟩
  | cons v n k r i1 i2 =>
    intro p i h
    rw [allF, Bool.and_eq_true, Bool.and_eq_true] at h
    obtain ⟨⟨h0, h1⟩, h2⟩ := h
    obtain ⟨a1, a2⟩ := i1 (p ++ [i]) 0 h1
    obtain ⟨b1, b2⟩ := i2 p (i + 1) h2
    rw [poF, if_pos h0]
    refine ⟨fun q hq => ?_, ?_⟩
    · rcases List.mem_append.mp hq with hq | hq
      · exact a1 q hq
      · rcases List.mem_cons.mp hq with rfl | hq
        · exact h0
        · exact b1 q hq
    · rw [cnt_app, a2, show ∀ (q : List Int × Th) l, q :: l = [] ++ [q] ++ l from fun _ _ => rfl, cnt_app, cnt_snoc, b2, cntF]
      show (cntF k : Int) + (0 + cond (isTR ⟨v, n, k⟩) 1 0 + (cntF r : Int)) = _
      cases isTR ⟨v, n, k⟩ <;> simp <;> omega
theorem poT_allF {t : Th} (h : form t = true) (hk : allF t.k = true) (p : List Int) : (∀ r ∈ po p t, form r.2 = true) ∧ cnt (po p t) = (cntT t : Int) := by
  have e : kids t = t.k := if_pos h
  obtain ⟨a, b⟩ := po_allF t.k p 0 hk
  rw [po, e]
  refine ⟨fun q hq => ?_, ?_⟩
  · rcases List.mem_append.mp hq with hq | hq
    · exact a q hq
    · rw [List.mem_singleton.mp hq]; exact h
  · rw [cnt_snoc, b, cntT]
    cases isTR t <;> simp <;> omega
def GoodN (J : Led) (v : Value) (c b : Nat) : Prop := ∃ t, ThIn J v t ∧ form t = true ∧ allF t.k = true ∧ cntT t = c ∧ wtT t ≤ b
theorem GoodN.mono {J J' : Led} {v : Value} {c b : Nat} (hs : ∀ p ∈ J, p ∈ J') (h : GoodN J v c b) : GoodN J' v c b := h.imp fun _ k => ⟨k.1.mono hs, k.2⟩
theorem hd_info {J : Led} {v : Value} {t : Th} (hx : ThIn J v t) (hf : form t = true) (hk : allF t.k = true) : ∃ a h tk vs, v = .ref a ∧ Tup J a (.str h tk :: vs) ∧
    ((h == Str.ofString "turn") = true → ∃ v1, vs = [v1] ∧ GoodN J v1 (cntT t) (wtT t)) ∧ ((h == Str.ofString "same") = true → cntT t = 0 ∧ ∃ w f, vs = [w] ∧ TfIn J [w] f ∧ sz f + 1 ≤ wtT t) := by
  obtain ⟨w, n, kd⟩ := t
  obtain ⟨rfl, us, hn, hks⟩ := hx
  simp only at hn hf hk hks ⊢
  have no : ∀ {h : Str} {P Q : Prop}, (h == Str.ofString "turn") = false → (h == Str.ofString "same") = false → ((h == Str.ofString "turn") = true → P) ∧ ((h == Str.ofString "same") = true → Q) := fun h1 h2 => ⟨fun e => (Bool.false_ne_true (h1.symm.trans e)).elim, fun e => (Bool.false_ne_true (h2.symm.trans e)).elim⟩
  cases hn with
  | told m => exact ⟨_, _, _, _, rfl, m, no (by decide +kernel) (by decide +kernel)⟩
  | same m h =>
    cases hks
    exact ⟨_, _, _, _, rfl, m, fun e => (Bool.false_ne_true ((show (Str.ofString "same" == Str.ofString "turn") = false by decide +kernel).symm.trans e)).elim, fun _ => ⟨rfl, _, _, rfl, h, Nat.le_refl _⟩⟩
  | rule1 m => exact ⟨_, _, _, _, rfl, m, no (by decide +kernel) (by decide +kernel)⟩
  | rule2 m => exact ⟨_, _, _, _, rfl, m, no (by decide +kernel) (by decide +kernel)⟩
  | bent => cases hf
  | turn m =>
    refine ⟨_, _, _, _, rfl, m, fun _ => ?_, fun e => (Bool.false_ne_true ((show (Str.ofString "turn" == Str.ofString "same") = false by decide +kernel).symm.trans e)).elim⟩
    cases hks with
    | nil => cases hf
    | @cons v n us vs k r m1 h1 h2 =>
      cases h2 with
      | cons _ _ h3 => simp [form, lenF] at hf
      | nil =>
        rw [allF, Bool.and_eq_true, Bool.and_eq_true] at hk
        exact ⟨v, rfl, ⟨v, n, k⟩, ⟨rfl, us, m1, h1⟩, hk.1.1, hk.1.2, by simp [cntT, cntF, isTR], by simp only [wtT, wt]; omega⟩
  | join m => exact ⟨_, _, _, _, rfl, m, no (by decide +kernel) (by decide +kernel)⟩
  | what => cases hf
  | under m => exact ⟨_, _, _, _, rfl, m, no (by decide +kernel) (by decide +kernel)⟩
  | list => cases hf
  | vop => cases hf
end Mine
end
section
open PySem PySem.W PySem.Spec PySem.Calls PyProof.Rows
set_option maxRecDepth 100000
namespace Mine
theorem top_mem (p : List Int) {f : Fo} : ∀ {i : Int} {j : Nat} {t : Th}, treeAt f j = some t → (p ++ [i + j], t) ∈ poF p i f := by
  induction f with
  | nil => intro i j t h; cases h
  | cons v n k r _ ih =>
    intro i j t h
    rw [poF]
    cases j with
    | zero => cases h; exact List.mem_append_right _ (List.mem_cons.mpr (.inl (by simp)))
    | succ j =>
      have e : (i + (j + 1 : Nat) : Int) = i + 1 + j := by omega
      rw [e]
      exact List.mem_append_right _ (.tail _ (ih (by exact h)))
theorem poF_ahead (f : Fo) : ∀ (p : List Int) (i : Int) (l1 l2 : List (List Int × Th)) (r : List Int × Th), poF p i f = l1 ++ r :: l2 → form r.2 = true → ∀ (j : Nat) (t : Th), treeAt r.2.k j = some t → (r.1 ++ [(j : Int)], t) ∈ l1 := by
  induction f with
  | nil => intro p i l1 l2 r h; cases l1 <;> cases h
  | cons v n k r i1 i2 =>
    intro p i l1 l2 q h hf j t hj
    rw [poF] at h
    rcases List.append_eq_append_iff.mp h with ⟨c, rfl, h2⟩ | ⟨c, h1, h2⟩
    · cases c with
      | nil =>
        cases h2
        rw [if_pos hf, List.append_nil]
        have := top_mem (p ++ [i]) (i := 0) hj
        rwa [Int.zero_add] at this
      | cons y c =>
        rw [List.cons_append] at h2
        injection h2 with e1 e2
        exact List.mem_append_right _ (.tail _ (i2 p (i + 1) c l2 q e2 hf j t hj))
    · cases c with
      | nil =>
        rw [List.nil_append] at h2
        cases h2
        rw [List.append_nil] at h1
        rw [← h1, if_pos hf]
        have := top_mem (p ++ [i]) (i := 0) hj
        rwa [Int.zero_add] at this
      | cons y c =>
        rw [List.cons_append] at h2
        injection h2 with e1 e2
        subst e1
        by_cases hv : form ⟨v, n, k⟩ = true
        · rw [if_pos hv] at h1
          exact i1 (p ++ [i]) 0 l1 c q h1 hf j t hj
        · rw [if_neg hv] at h1
          cases l1 <;> cases h1
theorem po_ahead {p : List Int} {x t : Th} {i : Nat} {r : List Int × Th} (h : (po p x)[i]? = some r) (hf : form r.2 = true) {j : Nat} (hj : treeAt r.2.k j = some t) : (r.1 ++ [(j : Int)], t) ∈ (po p x).take i := by
  obtain ⟨hi, e⟩ := List.getElem?_eq_some_iff.mp h
  obtain ⟨l1, l2, hl, hs⟩ : ∃ l1 l2, (po p x).take i = l1 ∧ po p x = l1 ++ r :: l2 := ⟨_, (po p x).drop (i + 1), rfl, by rw [← e, List.getElem_cons_drop, List.take_append_drop]⟩
  rw [hl]
  clear hl h e hi
  unfold po at hs
  rcases List.append_eq_append_iff.mp hs with ⟨c, e1, h2⟩ | ⟨c, h1, h2⟩
  · cases c with
    | nil =>
      cases h2
      rw [e1, List.append_nil]
      have := top_mem p (i := 0) hj
      rw [Int.zero_add] at this
      rw [kids, if_pos hf]; exact this
    | cons y c => cases c <;> cases h2
  · cases c with
    | nil =>
      rw [List.nil_append] at h2
      injection h2 with e3 e4
      subst e3
      rw [List.append_nil] at h1
      rw [← h1]
      have := top_mem p (i := 0) hj
      rw [Int.zero_add] at this
      rw [kids, if_pos hf]; exact this
    | cons y c =>
      rw [List.cons_append] at h2
      injection h2 with e3 e4
      subst e3
      exact poF_ahead (kids x) p 0 _ c r h1 hf j t hj
theorem poF_path (f : Fo) : ∀ (p : List Int) (i : Int) (r : List Int × Th), r ∈ poF p i f → ∃ j q, i ≤ j ∧ r.1 = p ++ j :: q := by
  induction f with
  | nil => intro p i r h; cases h
  | cons v n k r i1 i2 =>
    intro p i q h
    rw [poF] at h
    rcases List.mem_append.mp h with h | h
    · by_cases hv : form ⟨v, n, k⟩ = true
      · rw [if_pos hv] at h
        obtain ⟨j, s, _, e⟩ := i1 _ _ _ h
        exact ⟨i, j :: s, Int.le_refl _, by rw [e]; simp⟩
      · rw [if_neg hv] at h; cases h
    · rcases List.mem_cons.mp h with rfl | h
      · exact ⟨i, [], Int.le_refl _, rfl⟩
      · obtain ⟨j, s, hj, e⟩ := i2 _ _ _ h
        exact ⟨j, s, by omega, e⟩
theorem poF_nodup (f : Fo) : ∀ (p : List Int) (i : Int), ((poF p i f).map (·.1)).Nodup := by
  induction f with
  | nil => intro p i; exact .nil
  | cons v n k r i1 i2 =>
    intro p i
    rw [poF, List.map_append, List.map_cons, List.nodup_append]
    refine ⟨?_, List.nodup_cons.mpr ⟨fun h => ?_, i2 _ _⟩, fun a ha b hb e => ?_⟩
    · by_cases hv : form ⟨v, n, k⟩ = true
      · rw [if_pos hv]; exact i1 _ _
      · rw [if_neg hv]; exact .nil
    · obtain ⟨q, hq, e⟩ := List.mem_map.mp h
      obtain ⟨j, s, hj, e2⟩ := poF_path _ _ _ _ hq
      rw [e2] at e
      have := List.append_cancel_left e
      injection this with e3 e4
      omega
    · by_cases hv : form ⟨v, n, k⟩ = true
      · rw [if_pos hv] at ha
        obtain ⟨q, hq, e1⟩ := List.mem_map.mp ha
        obtain ⟨j, s, _, e2⟩ := poF_path _ _ _ _ hq
        rw [e2] at e1
        subst e
        rcases List.mem_cons.mp hb with e3 | hb
        · rw [← e1, List.append_assoc] at e3
          have := List.append_cancel_left e3
          cases this
        · obtain ⟨q2, hq2, e4⟩ := List.mem_map.mp hb
          obtain ⟨j2, s2, hj2, e5⟩ := poF_path _ _ _ _ hq2
          rw [e5, ← e1, List.append_assoc] at e4
          have := List.append_cancel_left e4
          injection this with e6 e7
          omega
      · rw [if_neg hv] at ha; cases ha
theorem po_nodup (p : List Int) (t : Th) : ((po p t).map (·.1)).Nodup := by
  rw [po, List.map_append, List.nodup_append]
  refine ⟨poF_nodup _ _ _, List.nodup_cons.mpr ⟨List.not_mem_nil, .nil⟩, fun a ha b hb e => ?_⟩
  obtain ⟨q, hq, e1⟩ := List.mem_map.mp ha
  obtain ⟨j, s, _, e2⟩ := poF_path _ _ _ _ hq
  subst e
  rw [List.mem_singleton.mp hb, e2] at e1
  have := congrArg List.length e1
  simp at this
def GoodT (J : Led) (v : Value) (t : Th) : Prop := ThIn J v t ∧ form t = true ∧ allF t.k = true
theorem GoodT.mono {J J' : Led} {v : Value} {t : Th} (hs : ∀ p ∈ J, p ∈ J') (h : GoodT J v t) : GoodT J' v t := ⟨h.1.mono hs, h.2⟩
def fromL : List Th → Fo
  | [] => .nil
  | t :: l => .cons t.v t.n t.k (fromL l)
theorem from_in {J : Led} {vs : List Value} {ts : List Th} (h : All2 (GoodT J) vs ts) : FoIn J vs (fromL ts) ∧ allF (fromL ts) = true ∧ cntF (fromL ts) = (ts.map cntT).sum ∧ wt (fromL ts) = (ts.map wtT).sum := by
  induction h with
  | nil => exact ⟨.nil, rfl, rfl, rfl⟩
  | @cons v t vs ts h1 _ ih =>
    obtain ⟨⟨e, us, hn, hk⟩, hf, ha⟩ := h1
    subst e
    obtain ⟨a1, a2, a3, a4⟩ := ih
    refine ⟨.cons hn hk a1, ?_, ?_, ?_⟩
    · show (form ⟨t.v, t.n, t.k⟩ && allF t.k && allF (fromL ts)) = true
      rw [show form ⟨t.v, t.n, t.k⟩ = true from hf, ha, a2]; rfl
    · rw [fromL, cntF, a3, List.map_cons, List.sum_cons, cntT]
    · rw [fromL, wt, a4, List.map_cons, List.sum_cons, wtT]
section
variable {J : Led} {a : Addr} {v v1 v2 : Value} {tk u : Tok} {c c1 c2 b b1 b2 : Nat}
theorem good_of (h : GoodN J v c b) : ∃ t, GoodT J v t ∧ cntT t = c ∧ wtT t ≤ b := by
  obtain ⟨t, h1, h2, h3, h4⟩ := h
  exact ⟨t, ⟨h1, h2, h3⟩, h4⟩
theorem good_turn (m : Tup J a [.str (Str.ofString "turn") tk, v]) (g : GoodN J v c b) : GoodN J (.ref a) c (b + 2) := by
  obtain ⟨t, h, rfl, hb⟩ := good_of g
  obtain ⟨a1, a2, a3, a4⟩ := from_in (.cons h .nil)
  exact ⟨⟨.ref a, .node .turn, fromL [t]⟩, ⟨rfl, _, .turn m, a1⟩, rfl, a2, by simp [cntT, isTR, a3], by simp only [wtT, wn, a4, List.map_cons, List.map_nil, List.sum_cons, List.sum_nil] at hb ⊢; omega⟩
theorem good_join (m : Tup J a [.str (Str.ofString "join") tk, v1, v2]) (g : GoodN J v1 c1 b1) (g2 : GoodN J v2 c2 b2) : GoodN J (.ref a) (c1 + c2) (b1 + b2 + 2) := by
  obtain ⟨t, h, rfl, hb⟩ := good_of g
  obtain ⟨t2, h2, rfl, hb2⟩ := good_of g2
  obtain ⟨a1, a2, a3, a4⟩ := from_in (.cons h (.cons h2 .nil))
  exact ⟨⟨.ref a, .node .join, fromL [t, t2]⟩, ⟨rfl, _, .join m, a1⟩, rfl, a2, by simp [cntT, isTR, a3], by simp only [wtT, wn, a4, List.map_cons, List.map_nil, List.sum_cons, List.sum_nil] at hb hb2 ⊢; omega⟩
theorem good_under {p : Addr} {us : List Value} {ts : List Th} (m : Tup J a [.str (Str.ofString "under") tk, .str (Str.ofString "h") u, .ref p]) (hp : Tup J p us) (h : All2 (GoodT J) us ts) : GoodN J (.ref a) (ts.map cntT).sum ((ts.map wtT).sum + 2) := by
  obtain ⟨a1, a2, a3, a4⟩ := from_in h
  exact ⟨⟨.ref a, .node .under, fromL ts⟩, ⟨rfl, _, .under m hp, a1⟩, rfl, a2, by simp [cntT, isTR, a3], by simp only [wtT, wn, a4]; omega⟩
theorem good_same {f : Tf} (m : Tup J a [.str (Str.ofString "same") tk, v]) (h : TfIn J [v] f) : GoodN J (.ref a) 0 (sz f + 1) :=
  ⟨⟨.ref a, .same f, .nil⟩, ⟨rfl, [], .same m h, .nil⟩, rfl, rfl, rfl, Nat.le_refl _⟩
end
def SameP (J : Led) (v : Value) (t : Th) : Prop := cntT t = 0 ∧ ∃ a h tk w f, v = .ref a ∧ Tup J a [.str h tk, w] ∧ TfIn J [w] f ∧ sz f + 1 ≤ wtT t
theorem same_cnt {J : Led} {vs : List Value} {ts : List Th} (h : All2 (SameP J) vs ts) : (ts.map cntT).sum = 0 := by
  induction h with
  | nil => rfl
  | cons h1 _ ih => rw [List.map_cons, List.sum_cons, h1.1, ih]
end Mine
end
section
open PySem PySem.W PySem.Spec PySem.Calls PyProof.Rows PyProof.Rows.LCg
set_option maxRecDepth 100000
set_option maxHeartbeats 1000000
namespace Mine
def Knows (w : World) (o : Obj) (xs : List (List Int × Addr × Value)) (J : Led) : Prop :=
  o.ExactDict ∧ ∃ es ep, o.data = .dict es ep ∧ es.toList = xs.map (entryOfKey (tupleKind (intKind PG w))) ∧ (xs.map (·.1)).Nodup ∧ ∀ x ∈ xs, PathT J (.ref x.2.1) x.1
section
variable {x : Fx} {G : Gh} {M J : Led} {d : Drawn} {m : Loc} {T : Post} {E : Value → Shared → Prop} {e l r : Expr} {es : List Expr} {rest : List Stmt} {D a : Addr} {K : Value → Gh → Prop} {p1 p2 pos : Pos} {o : Obj} {p : List Int} {xs : List (List Int × Addr × Value)} {dd uu : Nat}
theorem items_of_ints {w : World} {vs : List Value} {ns : List Int} (h : IntsAre vs ns) : ItemsAre (intKind PG w) ns vs := by
  induction h with
  | nil => exact .nil
  | cons i t _ ih => exact .cons (by simp [intKind, Value.isInt]) ih
theorem path_key {s : Shared} (hs : St x G m s) (hp : PathT G.J (.ref a) p) : IsTupleKey (intKind PG x.w) s.heap p a := by
  obtain ⟨b, vs, e, ⟨n, hm⟩, hi⟩ := hp
  cases e
  exact ⟨_, _, n, (hs.nj _ hm).1, rfl, rfl, items_of_ints hi⟩
theorem Knows.at {s : Shared} (hs : St x G m s) (hm : (D, o) ∈ G.M) (k : Knows x.w o xs G.J) : s.heap.DictOfH (tupleKind (intKind PG x.w)) D xs := by
  obtain ⟨hc, es, ep, hd, he, hn, hk⟩ := k
  exact ⟨o, es, ep, (hs.nm _ hm).1, hc, hd, he, fun q hq => path_key hs (hk q hq), hn⟩
theorem Knows.mono {w : World} {J J' : Led} (k : Knows w o xs J) (hs : ∀ q ∈ J, q ∈ J') : Knows w o xs J' := by
  obtain ⟨hc, es, ep, hd, he, hn, hk⟩ := k
  exact ⟨hc, es, ep, hd, he, hn, fun x hx => (hk x hx).mono hs⟩
theorem knows_nil {w : World} {knd : KeyKind PG w Str} (h : Obj.IsDictOf knd o []) : Knows w o [] J := by
  obtain ⟨es, ep, hc, hd, _, hp, _⟩ := h
  refine ⟨hc, es, ep, hd, ?_, .nil, fun _ h => nomatch h⟩
  cases es with
  | mk l => cases l with
    | nil => rfl
    | cons a b => cases hp
theorem ec_dict0 (ok : Ok x dd uu) (h : ∀ D o, Obj.IsDictOf (strKind PG x.w) o [] → K (.ref D) ⟨(D, o) :: G.M, G.J, G.d⟩) : EvC x G m (.Dict [] [] pos) K := fun s hs Q E q => by
  obtain ⟨p, loose, mean, mg, mb, T9⟩ := ok.T
  exact newDict_K hs.1 hs.2.1 (topRead_of T9).nolimit fun D h' o F' N' lt _ ho _ _ _ => q _ _ _ (h D o ho) (st_newM (tk := s.toks) hs F' N' lt)
theorem ec_getD (he : EvG x G m l (fun _ => .ref D)) (hr : EvC x G m r fun kv G' => ∃ a b v p o xs, kv = .ref a ∧ PathT G'.J (.ref a) p ∧ (D, o) ∈ G'.M ∧ Knows x.w o xs G'.J ∧ atKey xs p = some (b, v) ∧ K v G') (hu : x.A.units + 1 < cLine)
    (hs : ∀ a, subscripted r false (.ref D) (.ref a) = operate [.ref D, .ref a] (getItem (.ref D) (.ref a))) (hg : ∀ r, letTemporaryGo l (.ref D) r = pure ()) : EvC x G m (.Subscript l r p1) K := fun s hs0 Q E q =>
  Subscript_ (he s hs0 _ _ fun s1 _ h1 => hr s1 h1 _ _ fun kv G' s2 hk hs2 => by
    obtain ⟨a, b, v, p, o, xs, rfl, hp, hm, hkn, hat, hK⟩ := hk
    have D9 := hkn.at hs2 hm
    exact subscriptTail_builtin D9.typeIs slot_dict_getitem.lookup (wpAny_getItem_heap (knd := tupleKind (intKind PG x.w)) (tupleKind_room_in1 hu) (path_key hs2 hp) D9 hat (q _ _ _ hK ⟨hs2.1, hs2.2⟩)) (hs a) hg)
theorem go_setD (hsw : swapsWith e (some (.Subscript l r p1)) pos.line x.env = pure false) (hu : x.A.units + 1 < cLine) (he : EvC x G m e fun v G1 => ∃ D a p o xs g, EvG x G1 m l (fun _ => .ref D) ∧ EvG x G1 m r (fun _ => .ref a) ∧ PathT G1.J (.ref a) p ∧ At D o G1.M g ∧ Knows x.w o xs G1.J ∧ p ∉ xs.map (·.1) ∧ xs.length ≤ 90000 ∧
      ∀ o', Knows x.w o' (xs ++ [(p, a, v)]) G1.J → Go x ⟨g o', G1.J, G1.d⟩ m rest T E) : Go x G m (.Assign [.Subscript l r p1] e pos :: rest) T E := go_cons_of fun s hs0 =>
  wpAny_Assign_Subscript (he s hs0 _ _ fun v G1 s1 hk hs1 => by
    obtain ⟨D, a, p, o, xs, g, hl, hr, hp, hat, hkn, hno, hz, hK⟩ := hk
    refine hl s1 hs1 _ _ fun s2 _ hs2 => hr s2 hs2 _ _ fun s3 _ hs3 => ?_
    have hno2 : atKey xs p = none := atKey_none_of_get fun j q e => hno (List.mem_map.mpr ⟨_, List.mem_of_getElem? e, rfl⟩)
    refine wpAny_setItem_heap (hsz := fits (by omega)) (knd := tupleKind (intKind PG x.w)) (tupleKind_room_in1 hu) (path_key hs3 hp) (hkn.at hs3 hat.mem) fun h' hm' hs' => ?_
    rw [storedH_new hno2] at hm'
    obtain ⟨o', es', ep', ho', hc', hd', he', hk', hn'⟩ := hm'
    have hz9 := hs3.nm _ hat.mem
    obtain ⟨pre, post, hsp, hg, a1, a2⟩ := (hat.upd hs3.2.2.1).split
    have N' : News x.h₀ x.L h' (x.H ++ (g o' ++ G1.J)) := by
      rw [hg o']
      refine News.setAt (o := o) ?_ a1 a2 hs' ho'
      rw [← hsp]; exact hs3.2.1
    refine ⟨_, m, st_upd (tk := _) hat hs3 (hs3.1.change hs' hz9.2.1 hz9.2.2) N', hK o' ⟨hc', es', ep', hd', he', hn', fun q hq => ?_⟩⟩
    rcases List.mem_append.mp hq with hq | hq
    · exact hkn.2.choose_spec.choose_spec.2.2.2 q hq
    · rw [List.mem_singleton.mp hq]; exact hp) hsw
end
end Mine
end
section
open PySem PySem.W PySem.Spec PySem.Calls PyProof.Rows
set_option maxRecDepth 100000
set_option maxHeartbeats 8000000
namespace Mine
local macro_rules | `(tactic| k_all) => `(tactic| assumption)
theorem news_dup {h₀ h : Heap} {L : Addr} {p q : Addr × Obj} {J : Led} (N : News h₀ L h (p :: J)) (hq : q ∈ J) : News h₀ L h (p :: q :: J) :=
  news_sub N fun x hx => by
    rcases List.mem_cons.mp hx with rfl | hx
    · exact .head _
    · rcases List.mem_cons.mp hx with rfl | hx
      · exact .tail _ hq
      · exact .tail _ hx
theorem news_undup {h₀ h : Heap} {L : Addr} {p q : Addr × Obj} {J : Led} (N : News h₀ L h (p :: q :: J)) : News h₀ L h (p :: J) :=
  news_sub N fun x hx => by
    rcases List.mem_cons.mp hx with rfl | hx
    · exact .head _
    · exact .tail _ (.tail _ hx)

theorem pick_spec
  {w : World} {vp : Program} {vl : List Str} {mean : ExcName → Option Value} {mg mb : Str → Option Value}
  {dp un : Nat} {gd : Option (List Code)} {cn : Str} {cs : Scope} {a : Addr} {ccd : Value} {cl : List (Str × Addr)} {outer : List Env} {A₀ : Around} {base h₀ : Heap} {L : Addr} {m : Str → Option Value} {s : Shared} {Q E : Value → Shared → Prop}
  (B : Below A₀ base outer h₀) (F : Fr h₀ L s.heap m) (X : (Mine.hd.heap_1 w.params).In h₀) (T : Top vp vl mean mg mb h₀) (hk : cs.kind = .function)
  {fd rl : Addr} {o : Obj} {k : Int} {tm : Tok} {many : Int} {J : Led}
  (N : News h₀ L s.heap ((fd, o) :: J)) (hr : RowList J rl) (hoff : Offs fd J) (hf : FeedObj w o rl k)
  (hk0 : 0 ≤ k) (hk1 : k < 200) (hm0 : 1 ≤ many) (hm1 : many ≤ 12)
  (hd : dp + 10 < recursionLimit) (hu : un + 80 < cLine)
  (ret : ∀ r t o' h' tk', 0 ≤ r → r < many → FeedObj w o' rl (k + 1) → Fr h₀ L h' m → News h₀ L h' ((fd, o') :: J) → Q (.int r t) { s with heap := h', toks := tk' }) :
  wpAny (model PySem.Challenge.rw_rg0115_01.row.prog w) (ktrTop dp un gd cn cs L a ccd cl outer) (call (.ref 244) [.ref fd, .int many tm]) Q E s := by
  obtain ⟨t3, hf⟩ := hf
  obtain ⟨vs, ns, hrm, hI, hns, hlen⟩ := hr
  have hne : @Ne Nat rl fd := hoff _ hrm
  replace N := news_dup N hrm
  refine wpAny_call ?_
  k_dflt ktr_enter
  k_steps
  · exact ret _ _ _ _ _ (Int.fmod_nonneg_of_pos _ (by omega)) (Int.fmod_lt_of_pos _ (by omega)) ⟨_, by assumption⟩ (by assumption) (news_undup (by assumption))
  · exact ret _ _ _ _ _ (Int.fmod_nonneg_of_pos _ (by omega)) (Int.fmod_lt_of_pos _ (by omega)) ⟨_, by assumption⟩ (by assumption) (news_undup (by assumption))
theorem pick_at
  {w : World} {vp : Program} {vl : List Str} {mean : ExcName → Option Value} {mg mb : Str → Option Value}
  {dp un : Nat} {gd : Option (List Code)} {cn : Str} {cs : Scope} {a : Addr} {ccd : Value} {cl : List (Str × Addr)} {outer : List Env} {A₀ : Around} {base h₀ : Heap} {L : Addr} {m : Str → Option Value} {s : Shared} {Q E : Value → Shared → Prop}
  (B : Below A₀ base outer h₀) (F : Fr h₀ L s.heap m) (X : (Mine.hd.heap_1 w.params).In h₀) (T : Top vp vl mean mg mb h₀) (hk : cs.kind = .function)
  {fd rl : Addr} {o : Obj} {k : Int} {tm : Tok} {many : Int} {news : Led} {g : Obj → Led}
  (N : News h₀ L s.heap news) (U : UpdF fd o news g) (hr : RowList news rl) (hne : @Ne Nat rl fd) (hf : FeedObj w o rl k)
  (hk0 : 0 ≤ k) (hk1 : k < 200) (hm0 : 1 ≤ many) (hm1 : many ≤ 12)
  (hd : dp + 10 < recursionLimit) (hu : un + 80 < cLine)
  (ret : ∀ r t o' h' tk', 0 ≤ r → r < many → FeedObj w o' rl (k + 1) → Fr h₀ L h' m → News h₀ L h' (g o') → Q (.int r t) { s with heap := h', toks := tk' }) :
  wpAny (model PySem.Challenge.rw_rg0115_01.row.prog w) (ktrTop dp un gd cn cs L a ccd cl outer) (call (.ref 244) [.ref fd, .int many tm]) Q E s := by
  obtain ⟨pre, post, rfl, hg, o1, o2⟩ := U.split
  have offs : Offs fd (pre ++ post) := fun p hp => (List.mem_append.mp hp).elim (o1 p) (o2 p)
  have up : ∀ o', ∀ p, p ∈ pre ++ (fd, o') :: post ↔ p ∈ (fd, o') :: (pre ++ post) := fun o' p => by
    simp only [List.mem_append, List.mem_cons]
    constructor
    · rintro (h | h | h)
      · exact .inr (.inl h)
      · exact .inl h
      · exact .inr (.inr h)
    · rintro (h | h | h)
      · exact .inr (.inl h)
      · exact .inl h
      · exact .inr (.inr h)
  refine pick_spec B F X T hk (J := pre ++ post) (news_sub N fun p hp => (up o p).mpr hp) ?_ offs hf hk0 hk1 hm0 hm1 hd hu ?_
  · obtain ⟨vs, ns, h1, h2⟩ := hr
    refine ⟨vs, ns, ?_, h2⟩
    rcases List.mem_cons.mp ((up o _).mp h1) with e | e
    · exact absurd (congrArg Prod.fst e) hne
    · exact e
  · intro r t o' h' tk' h0 h1 f' F' N'
    exact ret r t o' h' tk' h0 h1 f' F' (hg o' ▸ news_sub N' fun p hp => (up o' p).mp hp)
end Mine
end
section
open PySem PySem.W PySem.Spec PySem.Calls PyProof.Rows
set_option maxRecDepth 100000
namespace Mine
def shift (p : List Int) (r : List Int × Th) : List Int × Th := (p ++ r.1, r.2)
theorem poF_shift (f : Fo) : ∀ (p q : List Int) (i : Int), poF (p ++ q) i f = (poF q i f).map (shift p) := by
  induction f with
  | nil => intro _ _ _; rfl
  | cons v n k r i1 i2 =>
    intro p q i
    rw [poF, poF, List.append_assoc, i2, List.map_append, List.map_cons]
    by_cases h : form ⟨v, n, k⟩ = true
    · rw [if_pos h, if_pos h, i1]; rfl
    · rw [if_neg h, if_neg h]; rfl
theorem po_shift (p q : List Int) (t : Th) : po (p ++ q) t = (po q t).map (shift p) := by
  rw [po, po, poF_shift, List.map_append]; rfl
def lateR (i : Nat) : List Th → List (List Int × Th)
  | [] => []
  | t :: l => (po [] t).map (shift [(i : Int)]) ++ lateR (i + 1) l
theorem late_po (ts : List Th) : ∀ i : Nat, lateR i ts = poF [] i (fromL ts) := by
  induction ts with
  | nil => intro _; rfl
  | cons t l ih =>
    intro i
    rw [lateR, fromL, poF, ih, ← po_shift]
    have e : (((i + 1 : Nat) : Int)) = (i : Int) + 1 := by omega
    rw [e, po, kids]
    by_cases h : form t = true
    · rw [if_pos h, if_pos (show form ⟨t.v, t.n, t.k⟩ = true from h), List.append_assoc]; rfl
    · rw [if_neg h, if_neg (show ¬ form ⟨t.v, t.n, t.k⟩ = true from h), List.append_assoc]; rfl
end Mine
end
section
open PySem PySem.W PySem.Spec PySem.Calls PyProof.Rows PyProof.Rows.LCg
set_option maxRecDepth 100000
set_option maxHeartbeats 1000000
namespace Mine
section
variable {x : Fx} {M J : Led} {d : Drawn} {m : Loc} {T : Post} {E : Value → Shared → Prop} {body : List Stmt} {q : Addr × Obj} {s : Shared} {G : Gh}
theorem mid_mem {q p : Addr × Obj} {A B : Led} : p ∈ A ++ q :: B ↔ p ∈ q :: (A ++ B) := by
  simp only [List.mem_append, List.mem_cons]
  constructor
  · rintro (h | h | h)
    · exact .inr (.inl h)
    · exact .inl h
    · exact .inr (.inr h)
  · rintro (h | h | h)
    · exact .inr (.inl h)
    · exact .inl h
    · exact .inr (.inr h)
theorem st_hide (h : St x ⟨q :: M, J, d⟩ m s) : St (hid x q) ⟨M, J, d⟩ m s :=
  ⟨h.1, news_sub h.2.1 fun p hp => mid_mem.mpr hp, ⟨by
    have := h.2.2.1.1
    rw [List.map_append, List.map_cons] at this
    show ((q :: (x.H ++ M)).map (·.1)).Nodup
    rw [List.map_cons, List.map_append]
    exact (List.perm_middle.nodup_iff).mp this, fun p hp => h.2.2.1.2 p (mid_mem.mpr hp)⟩, h.2.2.2⟩
theorem st_show (h : St (hid x q) G m s) : St x ⟨q :: G.M, G.J, G.d⟩ m s :=
  ⟨h.1, news_sub h.2.1 fun p hp => mid_mem.mp hp, ⟨by
    have := h.2.2.1.1
    rw [List.map_append, List.map_cons]
    have e : ((q :: (x.H ++ G.M)).map (·.1)).Nodup := this
    rw [List.map_cons, List.map_append] at e
    exact (List.perm_middle.nodup_iff).mpr e, fun p hp => h.2.2.1.2 p (mid_mem.mp hp)⟩, h.2.2.2⟩
abbrev hidT (q : Addr × Obj) (T : Post) : Post := fun f G m' => T f ⟨q :: G.M, G.J, G.d⟩ m'
theorem go_any (h : ∀ m0, Go x G m0 body T E) : Go x G m body T E := h m
theorem go_hide (h : Go (hid x q) ⟨M, J, d⟩ m body (hidT q T) E) : Go x ⟨q :: M, J, d⟩ m body T E := fun s hs =>
  wpAny_mono (h s (st_hide hs)) (fun f s' h' => by
    obtain ⟨G', m', h1, h2⟩ := h'
    exact ⟨_, m', st_show h1, h2⟩) fun _ _ z => z
end
end Mine
end
section
open PySem PySem.W PySem.Spec PySem.Calls PyProof.Rows PyProof.Rows.LCg
set_option maxRecDepth 100000
set_option maxHeartbeats 1000000
namespace Mine
section
variable {x : Fx} {G : Gh} {M J : Led} {dr : Drawn} {m : Loc} {T : Post} {E : Value → Shared → Prop} {e elt tg iter : Expr} {ifs : List Expr} {rest : List Stmt} {D : Addr} {K : Value → Gh → Prop} {n y : Str} {p p1 p2 p3 pos py : Pos} {d u : Nat} {scope : Scope} {cl : List (Str × Addr)}
def CompN (x : Fx) (m : Loc) (scope : Scope) (cl : List (Str × Addr)) (kx x1 x2 x3 : Str) (elt : Expr) (K : Value → Gh → Prop) (u : Value) (G : Gh) : Prop :=
  ∃ ax its n, ∃ Inv : Nat → Nat → List Value → Led → Prop, u = .ref ax ∧ its.length ≤ 1000 ∧ Inv 0 0 [] G.J ∧ (∀ i j ys J, Inv i j ys J → (ax, listOf (List.toArray its) n) ∈ J ∧ ys.length ≤ 90000) ∧
    (∀ i v, its[i]? = some v → ∃ (a : Addr) (one : Value) (rl : Addr) (rvs : List Value) (kk n1 : Nat), v = .ref a ∧ (∀ j ys J, Inv i j ys J → (a, tupN [one, .ref rl] n1) ∈ J ∧ (rl, listOf rvs.toArray kk) ∈ J) ∧ (∀ ys J, Inv i rvs.length ys J → Inv (i + 1) 0 ys J) ∧
      ∀ t j v ys J, rvs[j]? = some v → Inv i j ys J → ∃ T v1 v2 v3 n, v = .ref T ∧ (T, tupN [v1, v2, v3] n) ∈ J ∧
        ∀ x', Inner x scope cl x' → NameIs x' kx (.int (i : Int) t) → NameIs x' x1 v1 → NameIs x' x2 v2 → NameIs x' x3 v3 → EvC x' ⟨G.M, J, G.d⟩ m elt fun y G2 => G2.d = G.d ∧ G2.M = G.M ∧ Inv i (j + 1) (ys ++ [y]) G2.J) ∧
    ∀ D ys J, Inv its.length 0 ys J → K (.ref D) ⟨G.M, (D, lst ys) :: J, G.d⟩
theorem go_nest {kx ox rx x1 x2 x3 : Str} {pp tp px py' pz kp op rp tp1 tp2 : Pos} {kt kt1 kt2 : Nat} (hg : NameIs x n (.type "enumerate")) (hs1 : starEach [e] x.env = (false, eval e x.env) :: starEach [] x.env) (c : LocX x y)
    (hsw : swapsWith (.ListComp elt [⟨.Tuple [.Name kx kp, .Tuple [.Name ox op, .Name rx rp] kt2 tp2] kt1 tp1, .Call (.Name n p1) [e] [] p2, [], 0⟩, ⟨.Tuple [.Name x1 px, .Name x2 py', .Name x3 pz] kt tp, .Name rx pp, [], 0⟩] scope pos) (some (.Name y py)) p.line x.env = pure true)
    (hclos : closureFor scope x.env = pure cl) (hcell : ∀ y ∈ scope.names, y.2 ≠ .cell) (hkind : scope.kind = .function) (hnames : ∀ y ∈ scope.names, y.2 = .local → scope.names.lookup y.1 = some .local)
    (hl : scope.names.lookup x1 = some .local ∧ scope.names.lookup x2 = some .local ∧ scope.names.lookup x3 = some .local ∧ scope.names.lookup kx = some .local ∧ scope.names.lookup ox = some .local ∧ scope.names.lookup rx = some .local)
    (hne : x1 ≠ x2 ∧ x1 ≠ x3 ∧ x2 ≠ x3 ∧ kx ≠ x1 ∧ kx ≠ x2 ∧ kx ≠ x3 ∧ kx ≠ ox ∧ kx ≠ rx ∧ ox ≠ rx) (hd : (rx == ("__debug__" : Str)) = false ∧ (kx == ("__debug__" : Str)) = false ∧ (x1 == ("__debug__" : Str)) = false ∧ (x2 == ("__debug__" : Str)) = false ∧ (x3 == ("__debug__" : Str)) = false)
    (hs : ∀ y, foldedSetIterable (.Call (.Name n p1) [e] [] p2) x.env y = pure y)
    (h : EvC x G m e (CompN x m scope cl kx x1 x2 x3 elt fun v G' => Go x G' (fun z => if z = y then some v else m z) rest T E)) :
    Go x G m (.Assign [.Name y py] (.ListComp elt [⟨.Tuple [.Name kx kp, .Tuple [.Name ox op, .Name rx rp] kt2 tp2] kt1 tp1, .Call (.Name n p1) [e] [] p2, [], 0⟩, ⟨.Tuple [.Name x1 px, .Name x2 py', .Name x3 pz] kt tp, .Name rx pp, [], 0⟩] scope pos) p :: rest) T E := go_cons_of fun s hs0 =>
  nest_assign hs0.1 c.at' hsw hclos hcell hkind hnames c.loc (by rw [c.kind]; rfl) (Call_ (hg _ _ _ hs0 _ _ _ (PyProof.Rows.callWith_type1 (args_cons (h s hs0 _ _ fun v G1 s1 hk hs2 => args_nil (by
    refine hk.elim fun ax hk => hk.elim fun its hk => hk.elim fun k hk => hk.elim fun Inv hk => ?_
    have hz := hk.2.1
    have h0 := hk.2.2.1
    have hsrc := hk.2.2.2.1
    have turn := hk.2.2.2.2.1
    have fin := hk.2.2.2.2.2
    rw [hk.1]
    clear hk
    refine src_nest x.hh hs2.1 hs2.2.1 (List.mem_append_right _ (List.mem_append_right _ (hsrc _ _ _ _ h0).1)) hz hkind hl.1 hl.2.1 hl.2.2.1 hl.2.2.2.1 hl.2.2.2.2.1 hl.2.2.2.2.2 hne.1 hne.2.1 hne.2.2.1 hne.2.2.2.1 hne.2.2.2.2.1 hne.2.2.2.2.2.1 hne.2.2.2.2.2.2.1 hne.2.2.2.2.2.2.2.1 hne.2.2.2.2.2.2.2.2 hd.1
      (fun i j ys nw => ∃ J, nw = x.H ++ (G1.M ++ J) ∧ Sep (x.H ++ G1.M) J ∧ Inv i j ys J) ⟨_, rfl, hs2.2.2.1, h0⟩ ?_ ?_ ?_ ?_
    · rintro i j ys nw ⟨J, rfl, _, hI⟩
      exact List.mem_append_right _ (List.mem_append_right _ (hsrc _ _ _ _ hI).1)
    · rintro i j ys nw ⟨J, rfl, _, hI⟩
      exact (hsrc _ _ _ _ hI).2
    · intro i v hv
      obtain ⟨a, one, rl, rvs, kk, n1, rfl, hm, hnx, row⟩ := turn i v hv
      refine ⟨a, one, rl, rvs, kk, n1, rfl, ?_, ?_, ?_⟩
      · rintro j ys nw ⟨J, rfl, _, hI⟩
        exact ⟨List.mem_append_right _ (List.mem_append_right _ (hm _ _ _ hI).1), List.mem_append_right _ (List.mem_append_right _ (hm _ _ _ hI).2)⟩
      · rintro ys nw ⟨J, e, S, hI⟩
        exact ⟨J, e, S, hnx _ _ hI⟩
      · rintro t j v ys nw hv ⟨J, rfl, S, hI⟩
        obtain ⟨T9, v1, v2, v3, n9, rfl, hT, body⟩ := row t j v ys J hv hI
        refine ⟨T9, v1, v2, v3, n9, rfl, List.mem_append_right _ (List.mem_append_right _ hT), ?_⟩
        intro I oI C D2 e2 oe K2 oK oC mC h tk E' hC q1 q2 q3 q4 F N offK off4 nK nn
        obtain ⟨k1, k2, k3, k4⟩ := nK
        obtain ⟨n1, n2, n3, n4, n5, n6⟩ := nn
        let x' : Fx := { x with env := compEnvC scope cl C x.env, H := (K2, oK) :: (I, oI) :: (C, oC) :: (D2, lst ys) :: (e2, oe) :: x.H }
        have a : ∀ p ∈ x.H ++ G1.M, p.1 ≠ e2 ∧ p.1 ≠ I ∧ p.1 ≠ C ∧ p.1 ≠ D2 := fun p hp => off4 p (by rw [← List.append_assoc]; exact List.mem_append_left _ hp)
        have b : ∀ p ∈ J, p.1 ≠ e2 ∧ p.1 ≠ I ∧ p.1 ≠ C ∧ p.1 ≠ D2 := fun p hp => off4 p (List.mem_append_right _ (List.mem_append_right _ hp))
        have a9 : ∀ p ∈ x.H ++ G1.M, p.1 ≠ K2 := fun p hp => offK p (by rw [← List.append_assoc]; exact List.mem_append_left _ hp)
        have b9 : ∀ p ∈ J, p.1 ≠ K2 := fun p hp => offK p (List.mem_append_right _ (List.mem_append_right _ hp))
        have S1 : Sep ((e2, oe) :: (x.H ++ G1.M)) J := sep_more S (fun p hp => (a p hp).1) fun p hp => (b p hp).1
        have S2 : Sep ((D2, lst ys) :: (e2, oe) :: (x.H ++ G1.M)) J := sep_more S1 (fun p hp => by
          rcases List.mem_cons.mp hp with rfl | hp
          · exact n6
          · exact (a p hp).2.2.2) fun p hp => (b p hp).2.2.2
        have S3 : Sep ((C, oC) :: (D2, lst ys) :: (e2, oe) :: (x.H ++ G1.M)) J := sep_more S2 (fun p hp => by
          rcases List.mem_cons.mp hp with rfl | hp
          · exact Ne.symm n3
          · rcases List.mem_cons.mp hp with rfl | hp
            · exact n5
            · exact (a p hp).2.2.1) fun p hp => (b p hp).2.2.1
        have S4 : Sep ((I, oI) :: (C, oC) :: (D2, lst ys) :: (e2, oe) :: (x.H ++ G1.M)) J := sep_more S3 (fun p hp => by
          rcases List.mem_cons.mp hp with rfl | hp
          · exact Ne.symm n1
          · rcases List.mem_cons.mp hp with rfl | hp
            · exact Ne.symm n2
            · rcases List.mem_cons.mp hp with rfl | hp
              · exact n4
              · exact (a p hp).2.1) fun p hp => (b p hp).2.1
        have S' : Sep (x'.H ++ G1.M) J := sep_more S4 (fun p hp => by
          rcases List.mem_cons.mp hp with rfl | hp
          · exact Ne.symm k1
          · rcases List.mem_cons.mp hp with rfl | hp
            · exact Ne.symm k2
            · rcases List.mem_cons.mp hp with rfl | hp
              · exact Ne.symm k3
              · rcases List.mem_cons.mp hp with rfl | hp
                · exact Ne.symm k4
                · exact a9 p hp) b9
        have hst : St x' ⟨G1.M, J, G1.d⟩ m { s1 with heap := h, toks := tk } := ⟨F, N, S', hs2.2.2.2⟩
        have nm : ∀ z u, scope.names.lookup z = some .local → (z == ("__debug__" : Str)) = false → mC z = some u → NameIs x' z u := fun z u hl hd hm G9 m9 s9 h9 Q9 E9 pos9 k9 =>
          wpAny_Name (wpAny_loadName_local hkind (lookup_relabel_local hl) (hC.ns (h9.nh (C, oC) (.tail _ (.tail _ (.head _)))).1) hm k9) hd
        refine body x' ⟨C, _, rfl, fun p hp => .tail _ (.tail _ (.tail _ (.tail _ (.tail _ hp))))⟩ (nm _ _ hl.2.2.2.1 hd.2.1 q4) (nm _ _ hl.1 hd.2.2.1 q1) (nm _ _ hl.2.1 hd.2.2.2.1 q2) (nm _ _ hl.2.2.1 hd.2.2.2.2 q3) _ hst _ _ fun y9 G2 s5 hk hs5 => ?_
        obtain ⟨h5, g5, d5, t5, o5⟩ := s5
        obtain ⟨hd5, hM5, hI5⟩ := hk
        have e1 : g5 = s1.gens := hs5.2.2.2.1.trans hs2.2.2.2.1.symm
        have e2 : o5 = s1.os := hs5.2.2.2.2.1.trans hs2.2.2.2.2.1.symm
        have e3 : d5 = s1.drawn := (hs5.2.2.2.2.2.trans hd5).trans hs2.2.2.2.2.2.symm
        subst e1; subst e2; subst e3
        obtain ⟨M2, J2, d2⟩ := G2
        obtain rfl : M2 = G1.M := hM5
        obtain ⟨j1, j2, T0⟩ := sep_head (show Sep ((K2, oK) :: (I, oI) :: (C, oC) :: (D2, lst ys) :: (e2, oe) :: (x.H ++ G1.M)) J2 from hs5.2.2.1)
        obtain ⟨i1, i2, T1⟩ := sep_head T0
        obtain ⟨c1, c2, T2⟩ := sep_head T1
        obtain ⟨d1, d2, T3⟩ := sep_head T2
        obtain ⟨f1, f2, T4⟩ := sep_head T3
        refine ⟨h5, t5, x.H ++ (G1.M ++ J2), rfl, hs5.1, hs5.2.1, fun p hp => ?_, fun p hp => ?_, J2, rfl, T4, hI5⟩
        · rw [← List.append_assoc] at hp
          rcases List.mem_append.mp hp with hp | hp
          · exact j1 p (.tail _ (.tail _ (.tail _ (.tail _ hp))))
          · exact j2 p hp
        · rw [← List.append_assoc] at hp
          rcases List.mem_append.mp hp with hp | hp
          · exact ⟨f1 p hp, i1 p (.tail _ (.tail _ (.tail _ hp))), c1 p (.tail _ (.tail _ hp)), d1 p (.tail _ hp)⟩
          · exact ⟨f2 p hp, i2 p hp, c2 p hp, d2 p hp⟩
    · rintro g ys nw ⟨J, rfl, S, hI⟩
      exact fun D h tk F N off => ⟨_, _, st_new F N S off hs2.2.2.2, fin D ys J hI⟩)) hs1) hs1 rfl))) hs
end
end Mine
end
section
open PySem PySem.W PySem.W.X PySem.Spec PySem.Calls PyProof.Rows
set_option maxRecDepth 100000
set_option maxHeartbeats 4000000
namespace Mine
def JudgeAt (w : World) (J : Led) (j : Addr) : Prop := ∃ jd t1 t2 v1 v2 n, (j, (⟨.ref 213, some jd, .plain, #[]⟩ : Obj)) ∈ J ∧ (jd, dictOf [⟨PyData.keyHash w.params (Str.ofString "rules"), .str (Str.ofString "rules") t1, v1⟩, ⟨PyData.keyHash w.params (Str.ofString "told"), .str (Str.ofString "told") t2, v2⟩] n) ∈ J
theorem JudgeAt.mono {w : World} {J J' : Led} (hs : ∀ p ∈ J, p ∈ J') {j : Addr} (h : JudgeAt w J j) : JudgeAt w J' j := by
  obtain ⟨jd, t1, t2, v1, v2, n, h1, h2⟩ := h
  exact ⟨jd, t1, t2, v1, v2, n, hs _ h1, hs _ h2⟩
theorem inst1 {h : Heap} {e d : Addr} {vs : Array Value} {es : List DictEntry} {n : Nat} (h1 : h.get? e = some ⟨.ref 81, some d, .fields vs, #[]⟩) (h2 : h.get? d = some (dictOf es n)) : InstAt h e ⟨.ref 81, some d, .fields vs, #[]⟩ 81 (some (dictOf es n)) := ⟨h1, rfl, rfl, h2⟩
section
variable {x : Fx} {G : Gh} {M J : Led} {dr : Drawn} {m : Loc} {T : Post} {E : Value → Shared → Prop} {e o : Expr} {es : List Expr} {rest : List Stmt} {K : Value → Gh → Prop} {X : ExP} {p apos pos : Pos} {d u : Nat} {j : Addr}
theorem judge_method {s : Shared} {pl : Sem Bool} {Q : Value × List Value → Shared → Prop} (ok : Ok x d u) (hs : St x G m s) (hj : JudgeAt x.w G.J j) (h : Q (.ref 210, [.ref j]) s) : wpAny (model PG x.w) x.A (getMethod (.ref j) (Str.ofString "count") pl) Q E s := by
  obtain ⟨jd, t1, t2, v1, v2, n, h1, h2⟩ := hj
  exact method_inst hs.1 ok.K (InstAt.of_news hs.nj h1 h2) (by k_is) (by k_is) (by k_is) (by k_get) h
theorem ee_meth {pl : Sem Bool} (hq : eval (.Call (.Attribute o (Str.ofString "count") apos) (e :: es) [] pos) x.env = (do let ov ← eval o x.env; standAt apos.atName; let (f, first) ← holding [ov] (getMethod ov (Str.ofString "count") pl); callWith pos f first (backTo pos (starEach (e :: es) x.env)) [])) (ok : Ok x d u) (he : EvG x G m o fun _ => .ref j) (hj : JudgeAt x.w G.J j) (hs : starEach (e :: es) x.env = (false, eval e x.env) :: starEach es x.env) (hp : ∀ pos, (backTo pos (starEach es x.env)).any (·.1) = false)
    (h : EvL x G m (e :: es) fun vs G' => CallE x G' m (.ref 210) (.ref j :: vs) K X) : EvE x G m (.Call (.Attribute o (Str.ofString "count") apos) (e :: es) [] pos) K X := fun s hs0 Q E q qe =>
  MethodCall_ (he s hs0 _ _ fun s' _ hs' => judge_method ok hs' hj (callWith_K ok.K (by k_is) (h _ s' hs' _ _ fun vs G' s2 hc hs2 => ⟨ok.K.keeps hs2.1.keep, hc s2 hs2 _ _ q qe⟩) hs (hp _))) hq
theorem ec_meth {pl : Sem Bool} (hq : eval (.Call (.Attribute o (Str.ofString "count") apos) (e :: es) [] pos) x.env = (do let ov ← eval o x.env; standAt apos.atName; let (f, first) ← holding [ov] (getMethod ov (Str.ofString "count") pl); callWith pos f first (backTo pos (starEach (e :: es) x.env)) [])) (ok : Ok x d u) (he : EvG x G m o fun _ => .ref j) (hj : JudgeAt x.w G.J j) (hs : starEach (e :: es) x.env = (false, eval e x.env) :: starEach es x.env) (hp : ∀ pos, (backTo pos (starEach es x.env)).any (·.1) = false)
    (h : EvL x G m (e :: es) fun vs G' => CallG x G' m (.ref 210) (.ref j :: vs) K) : EvC x G m (.Call (.Attribute o (Str.ofString "count") apos) (e :: es) [] pos) K := fun s hs0 Q E q =>
  MethodCall_ (he s hs0 _ _ fun s' _ hs' => judge_method ok hs' hj (callWith_K ok.K (by k_is) (h _ s' hs' _ _ fun vs G' s2 hc hs2 => ⟨ok.K.keeps hs2.1.keep, hc s2 hs2 _ _ q⟩) hs (hp _))) hq
theorem go_exprF (hi : interactive x.env = false) (hs : swapsWith e none p.line x.env = pure false) (hX : ∀ m pv J ev s', X pv J → FlyS x m J pv ev s' → E ev s') (he : EvE x G m e (fun _ G' => Go x G' m rest T E) X) : Go x G m (.Expr e p :: rest) T E := go_cons_of fun s hs' =>
  wpAny_Expr_any (he s hs' _ _ (fun v G' s' hk hs2 => ⟨G', m, hs2, hk⟩) fun pv J ev s' hx hf => hX m pv J ev s' hx hf) hi hs
theorem cg_ofE {f : Value} {vs : List Value} (h : CallE x G m f vs K fun _ _ => False) : CallG x G m f vs K := fun s hs Q E q => h s hs Q E q fun _ _ _ _ hx _ => hx.elim
theorem enterTry {f : Addr} {vs : List Value} {name qual : Str} {params : Arguments} {body : List Stmt} {scope : Scope} {dV kV doc pm cdv ct oc : Value} {an od : Option Addr} {osl : Array (Option Value)} {binds : List (Str × Value)} {np p1 p2 p3 hpos : Pos}
    (ok : Ok x d u) (hout : x.outer = []) (hcl : x.cl = []) (hH : x.H = [])
    (ho : (Mine.hd.heap_1 x.w.params).lookup f = some ⟨oc, od, .func (fnOf name qual params (.Try body [.ExceptHandler (some (.Name (Str.ofString "PaperFault") np)) (some (Str.ofString "fault")) [.Return (some (.Attribute (.Name (Str.ofString "fault") p1) (Str.ofString "place") p2)) p3] hpos] [] [] pos :: rest) scope dV kV doc pm an cdv ct), osl⟩)
    (hcd : codeIn (Mine.hd.heap_1 x.w.params) cdv qual = true) (hd : d < recursionLimit)
    (hbind : bindArgs (fnOf name qual params (.Try body [.ExceptHandler (some (.Name (Str.ofString "PaperFault") np)) (some (Str.ofString "fault")) [.Return (some (.Attribute (.Name (Str.ofString "fault") p1) (Str.ofString "place") p2)) p3] hpos] [] [] pos :: rest) scope dV kV doc pm an cdv ct) ⟨vs, []⟩ = pure binds) (hloc : ∀ y ∈ binds, scope.names.lookup y.1 = some .local)
    (hco : scope.isCoroutine = false) (hgen : scope.isGenerator = false) (hk : scope.kind = .function) (hcell : ∀ x ∈ scope.names, x.2 ≠ .cell)
    (hf : scope.names.lookup (Str.ofString "fault") = some .local) (hp : scope.names.lookup (Str.ofString "PaperFault") = some .globalImplicit)
    (go : ∀ (x' : Fx) (E : Value → Shared → Prop), Ok x' (d + 1) (u + 3) → x'.w = x.w → x'.env = envX qual scope x'.L f cdv [] → (∀ m pv J ev s', X pv J → FlyS x' m J pv ev s' → E ev s') → Go x' ⟨[], J, dr⟩ (locOf binds.reverse) body (fun _ _ _ => False) E)
    (hX : ∀ pv J', X pv J' → handedIn pv = true ∧ ∀ d', K pv ⟨[], J', d'⟩) : CallG x ⟨[], J, dr⟩ m (.ref f) vs K := by
  obtain ⟨p, loose, mean, mg, mb, TB⟩ := ok.TB
  have hdp := ok.dp
  have hun := ok.un
  intro s hs Q E q
  have hfr : [envOf x.cn x.cs x.L x.a x.ccd] = x.fr :: x.outer := by
    rw [hout]; show _ = [envX _ _ _ _ _ x.cl]; rw [hcl]; rfl
  refine wpAny_call (code_defS0 (hout ▸ ok.B) hs.1 ok.K hs.2.1 (TB.keeps ok.B.stays) (show some (x.fr :: x.outer) = _ by rw [hfr]) ho hcd (show x.dp < recursionLimit by omega) (BindsTo.of_eq hbind) hloc (fun g L' h1 FG F' N' B' X' T' D' => ?_) ok.ks hco hgen hk hcell)
  rw [hfr] at B' D' ⊢
  let x' : Fx := ⟨x.w, envOf qual scope L' f cdv, g, L', [], s.gens, s.os, x.dp + 1, x.un + 3, (x.A.deeper (envOf qual scope L' f cdv)).guards, qual, scope, f, cdv, [], x.fr :: x.outer, x.A, x.base⟩
  refine wpAny_execs_cons (wpAny_Try_except (wpAny_mono (go x' _ ⟨B', ok.KB, ok.TB, hk, Nat.succ_le_succ hdp, Nat.add_le_add_right hun 3⟩ rfl rfl ?_ { s with heap := h1, toks := s.toks + binds.length } ⟨locOf_is _ ▸ F', news_sub N' fun p hp => List.mem_append_right _ hp, ⟨List.nodup_nil, fun p hp => nomatch hp⟩, rfl, rfl, hs.2.2.2.2.2⟩) (fun fl s' h9 => ?_) fun _ _ z => z))
  · rintro m9 pv J9 ev s9 hx ⟨g0, e9, d9, od9, rfl, F9, R, hD, hU, h1', h2'⟩
    refine fly_caught (outer := x.fr :: x.outer) R F9 B' hU ok.KB TB (fun h9 g9 vs9 tk9 KT F2 N2 B2 X2 T2 => ?_) (by k_is) (by kts_isx) hk hf hp
    obtain ⟨tk1, tk2, v1, k1, rfl⟩ := hD
    refine wpAny_execs_cons (wpAny_Return_some (Attribute_name (ld F2 (if_pos rfl) (exc_get (X2.keeps F2.keep) (inst1 (N2 _ (.head _)).1 (N2 _ (.tail _ (.head _))).1) (findObj_own (attr := none) (by k_is) (by k_is) (by k_is) (by rw [lookIn_dict]; k_get)) (hX _ _ hx).1 ?_) hk hf)))
    refine name_goes F2 N2 (fun h10 m10 F10 N10 => ?_) hk hf
    refine leaveS0_ F10 N10 KT fun F N => q pv ⟨[], J9, _⟩ _ ((hX _ _ hx).2 _) ⟨F, ?_, ?_, h1'.trans hs.2.2.2.1, h2'.trans hs.2.2.2.2.1, rfl⟩
    · rw [hH]; exact news_sub N fun p hp => .tail _ (.tail _ hp)
    · rw [hH]; exact ⟨List.nodup_nil, fun p hp => nomatch hp⟩
  · obtain ⟨_, _, _, h⟩ := h9
    exact h.elim
end
end Mine
end
section
open PySem PySem.W PySem.Spec PySem.Calls PyProof.Rows
set_option maxRecDepth 100000
set_option maxHeartbeats 8000000
namespace Mine
local macro_rules | `(tactic| k_all) => `(tactic| assumption)
theorem judge_made
  {w : World} {vp : Program} {vl : List Str} {mean : ExcName → Option Value} {mg mb : Str → Option Value}
  {dp un : Nat} {gd : Option (List Code)} {cn : Str} {cs : Scope} {a : Addr} {ccd : Value} {cl : List (Str × Addr)} {outer : List Env} {A₀ : Around} {base h₀ : Heap} {L : Addr} {m : Str → Option Value} {s : Shared} {Q E : Value → Shared → Prop}
  (B : Below A₀ base outer h₀) (F : Fr h₀ L s.heap m) (X : (Mine.hd.heap_1 w.params).In h₀) (T : Top vp vl mean mg mb h₀) (hk : cs.kind = .function)
  {a1 a2 : Addr} {J : Led} (N : News h₀ L s.heap J)
  (hd : dp ≤ 400) (hu : un ≤ 300)
  (ret : ∀ j jd t1 t2 n h' tk', Fr h₀ L h' m → News h₀ L h' ((j, instObj 213 jd) :: (jd, dictOf [⟨PyData.keyHash w.params (Str.ofString "rules"), .str (Str.ofString "rules") t1, .ref a1⟩, ⟨PyData.keyHash w.params (Str.ofString "told"), .str (Str.ofString "told") t2, .ref a2⟩] n) :: J) → (∀ p ∈ J, p.1 < jd) → jd < j → Q (.ref j) { s with heap := h', toks := tk' }) :
  wpAny (model PySem.Challenge.rw_rg0115_01.row.prog w) (ktrTop dp un gd cn cs L a ccd cl outer) (call (.ref 213) [.ref a1, .ref a2]) Q E s := by
  refine wide (A' := ktrTop 400 300 gd cn cs L a ccd cl outer) rfl rfl rfl hd hu ?_
  k_dflt (refine call_cls (by k_asm) (by k_asm) (by k_asm) (by k_is) (by k_is) (by k_is) ?_)
  intro j jd h1 F1 N1 l1 l2
  k_dflt (refine code_def B F1 X N1 T rfl rfl hk (by k_is) (by k_is) (by simp only [depth_under_make, recursionLimit]; decide) (BindsTo.of_eq rfl) (by exact locs rfl) (fun g9 L9 h9 FG F9 N9 B9 X9 T9 => ?_) rfl rfl rfl (by decide))
  clear F F1 N N1 FG
  have F1 : Fr g9 L9 h9 (fun y => List.lookup y [(Str.ofString "told", Value.ref a2), (Str.ofString "rules", Value.ref a1), (Str.ofString "self", Value.ref j)]) := F9
  clear F9
  k_steps
  k_dflt (refine set_dict F1 X9 N9 (InstAt.of_news N9 (.head _) (.tail _ (.head _))) rfl (by k_is) (by k_is) (by k_is) (by k_is) (by k_get) (by k_put) (Upd.tail (Nat.ne_of_gt l2) (Upd.head fun p hp => Nat.ne_of_lt (l1 p hp))) (Nat.le_of_ble_eq_true rfl) (fun h2 F2 N2 => ?_))
  clear F1 N9
  k_steps
  k_dflt (refine set_dict F2 X9 N2 (InstAt.of_news N2 (.head _) (.tail _ (.head _))) rfl (by k_is) (by k_is) (by k_is) (by k_is) (by k_get) (by k_put) (Upd.tail (Nat.ne_of_gt l2) (Upd.head fun p hp => Nat.ne_of_lt (l1 p hp))) (Nat.le_of_ble_eq_true rfl) (fun h3 F3 N3 => ?_))
  clear F2 N2
  k_steps
  first | exact ret _ _ _ _ _ _ _ (by assumption) (by assumption) l1 l2 | exact ⟨rfl, ret _ _ _ _ _ _ _ (by assumption) (by assumption) l1 l2⟩
end Mine
end
section
open PySem PySem.W PySem.Spec PySem.Calls PyProof.Rows PySem.SeqAt
set_option maxRecDepth 100000
namespace Mine
section
variable {prog : Program} {w : World} {A : Around} {E : Value → Shared → Prop} {s : Shared} {h₀ : Heap} {L a b : Addr} {J : Led}
theorem all_true (n : Nat) : (List.range n).all (fun _ => true) = true := by simp
theorem isTuple_of {vs : List Value} {n : Nat} (N : News h₀ L s.heap J) (hm : (a, tupN vs n) ∈ J) : s.heap.IsTuple a vs.toArray := ⟨_, (N _ hm).1, rfl, n, rfl⟩
theorem ints_eqAt {A : Around} {s : Shared} : ∀ {vs us : List Value} {p : List Int}, IntsAre vs p → IntsAre us p → ∀ j (h1 : j < vs.toArray.size) (h2 : j < us.toArray.size), EqAt A s vs.toArray[j] us.toArray[j] true
  | _, _, _, .nil, _, j, h1, _ => by simp at h1
  | _, _, _, .cons n t hv, .cons _ u hu, 0, _, _ => by
    have h := EqAt.int_int (A := A) (s := s) n t n u
    rw [show (n == n) = true from by simp] at h
    exact h
  | _, _, _, .cons n t hv, .cons _ u hu, j + 1, h1, h2 => by
    have h := ints_eqAt (A := A) (s := s) hv hu j (by simpa using h1) (by simpa using h2)
    simpa using h
theorem tup_rcAt {vs us : List Value} (ha : s.heap.IsTuple a vs.toArray) (hb : s.heap.IsTuple b us.toArray) (hl : vs.length = us.length) (hu : A.units < cLine)
    (he : ∀ j (h1 : j < vs.toArray.size) (h2 : j < us.toArray.size), EqAt A.in1 s vs.toArray[j] us.toArray[j] true) : RcAt A s (.ref a) (.ref b) true := by
  have h := RcAt.tuples (e := fun _ => true) ha hb hu he
  rw [all_true, show (vs.toArray.size == us.toArray.size) = true from by simp [hl]] at h
  exact h
theorem path_rcAt {v u : Value} {p : List Int} (N : News h₀ L s.heap J) (hv : PathT J v p) (hu : PathT J u p) (hc : A.units < cLine) : RcAt A s v u true := by
  obtain ⟨a, vs, rfl, ⟨n1, m1⟩, i1⟩ := hv
  obtain ⟨b, us, rfl, ⟨n2, m2⟩, i2⟩ := hu
  exact tup_rcAt (isTuple_of N m1) (isTuple_of N m2) (i1.length.trans i2.length.symm) hc (ints_eqAt i1 i2)
theorem path_eqAt {v u : Value} {p : List Int} (N : News h₀ L s.heap J) (hv : PathT J v p) (hu : PathT J u p) (hc : A.units < cLine) : EqAt A s v u true := by
  have h := path_rcAt (A := A) N hv hu hc
  obtain ⟨a, vs, rfl, m1, i1⟩ := hv
  obtain ⟨b, us, rfl, m2, i2⟩ := hu
  by_cases e : a = b
  · subst e; exact EqAt.same _
  · exact EqAt.of_refs e h
theorem pair_eqAt {v u : Value} {r : List Int × Th} (N : News h₀ L s.heap J) (hv : PairT J v r) (hu : PairT J u r) (hc : A.units + 1 < cLine) : EqAt A s v u true := by
  obtain ⟨a, pv, tv, rfl, ⟨n1, m1⟩, i1, k1⟩ := hv
  obtain ⟨b, pu, tu, rfl, ⟨n2, m2⟩, i2, k2⟩ := hu
  have e9 : tv = tu := k1.1.trans k2.1.symm
  subst e9
  by_cases e : a = b
  · subst e; exact EqAt.same _
  · refine EqAt.of_refs e (tup_rcAt (isTuple_of N m1) (isTuple_of N m2) rfl (by omega) fun j h1 h2 => ?_)
    match j, h1, h2 with
    | 0, _, _ => exact path_eqAt N i1 i2 (by rw [units_in1]; exact hc)
    | 1, _, _ => exact EqAt.same _
    | j + 2, h1, _ => exact absurd (show j + 2 < 2 from h1) (by omega)
theorem rows_eqAt : ∀ {vs us : List Value} {rs : List (List Int × Th)} (_ : News h₀ L s.heap J) (_ : All2 (PairT J) vs rs) (_ : All2 (PairT J) us rs) (_ : A.units + 1 < cLine),
    ∀ j (h1 : j < vs.toArray.size) (h2 : j < us.toArray.size), EqAt A s vs.toArray[j] us.toArray[j] true
  | _, _, _, _, .nil, _, _, j, h1, _ => by simp at h1
  | _, _, _, N, .cons hv _, .cons hu _, hc, 0, _, _ => pair_eqAt N hv hu hc
  | _, _, _, N, .cons _ hv, .cons _ hu, hc, j + 1, h1, h2 => by
    have h := rows_eqAt N hv hu hc j (by simpa using h1) (by simpa using h2)
    simpa using h
theorem ne_rows {vs us : List Value} {rs : List (List Int × Th)} {n k : Nat} {Q : Value → Shared → Prop} (N : News h₀ L s.heap J) (ha : (a, listOf vs.toArray n) ∈ J) (hb : (b, listOf us.toArray k) ∈ J)
    (hv : All2 (PairT J) vs rs) (hu : All2 (PairT J) us rs) (hc : A.units + 2 < cLine) (h : Q (.bool false) s) : wpAny (model prog w) A (compareOp .NotEq (.ref a) (.ref b)) Q E s := by
  have h9 := RcNeAt.lists (A := A) (e := fun _ => true) (isList_of N ha) (isList_of N hb) (by simp [hv.length, hu.length]) (by omega) (rows_eqAt N hv hu (by rw [units_in1]; omega))
  rw [all_true] at h9
  exact h9 prog w E Q h
theorem eq_paths {v u : Value} {p : List Int} {Q : Value → Shared → Prop} (N : News h₀ L s.heap J) (hv : PathT J v p) (hu : PathT J u p) (hc : A.units < cLine) (h : Q (.bool true) s) : wpAny (model prog w) A (compareOp .Eq v u) Q E s :=
  path_rcAt N hv hu hc prog w E Q h
variable {x : Fx} {G : Gh}
theorem cmp_rows {vs us : List Value} {rs : List (List Int × Th)} {n k : Nat} (ha : (a, listOf vs.toArray n) ∈ G.J) (hb : (b, listOf us.toArray k) ∈ G.J) (hv : All2 (PairT G.J) vs rs) (hu : All2 (PairT G.J) us rs) (hc : x.A.units + 2 < cLine) : CmpG x G .NotEq (.ref a) (.ref b) false := fun _ s hs _ _ q =>
  ne_rows hs.nj ha hb hv hu hc (q s hs)
theorem cmp_paths {v u : Value} {p : List Int} (hv : PathT G.J v p) (hu : PathT G.J u p) (hc : x.A.units < cLine) : CmpG x G .Eq v u true := fun _ s hs _ _ q => eq_paths hs.nj hv hu hc (q s hs)
end
end Mine
end
section
open PySem PySem.W PySem.Spec PySem.Calls PyProof.Rows PyProof.Rows.LCg
set_option maxRecDepth 100000
set_option maxHeartbeats 1000000
namespace Mine
section
variable {x : Fx} {G : Gh} {M J : Led} {dr : Drawn} {m : Loc} {T : Post} {E : Value → Shared → Prop} {e e1 e2 : Expr} {es : List Expr} {rest : List Stmt} {D : Addr} {K : Value → Gh → Prop} {n : Str} {p1 p2 p3 p4 pos : Pos} {d u : Nat}
theorem cg_judge {a1 a2 : Addr} (ok : Ok x d u) (hd : d ≤ 400) (hu : u ≤ 300) (k : ∀ j J', (∀ p ∈ G.J, p ∈ J') → JudgeAt x.w J' j → K (.ref j) ⟨G.M, J', G.d⟩) : CallG x G m (.ref 213) [.ref a1, .ref a2] K := fun s hs Q E q => by
  obtain ⟨p, loose, mean, mg, mb, T9⟩ := ok.T
  refine judge_made ok.B hs.1 ok.K T9 ok.ks hs.2.1 (Nat.le_trans ok.dp hd) (Nat.le_trans ok.un hu) fun j jd t1 t2 n h' tk' F N l1 l2 => ?_
  have st1 := st_newJ (tk := tk') hs F (news_sub N fun p hp => .tail _ hp) l1
  refine q _ _ _ (k j _ (fun p hp => .tail _ (.tail _ hp)) ⟨jd, t1, t2, _, _, n, .head _, .tail _ (.head _)⟩) (st_newJ (s := { s with heap := h', toks := tk' }) (tk := tk') st1 F (news_sub N fun p hp => ?_) fun p hp => ?_)
  · simp only [List.mem_append, List.mem_cons] at hp ⊢
    rcases hp with h | h | h | h | h
    · exact .inl h
    · exact .inr (.inr (.inl h))
    · exact .inr (.inr (.inr (.inl h)))
    · exact .inr (.inl h)
    · exact .inr (.inr (.inr (.inr h)))
  · simp only [List.mem_append, List.mem_cons] at hp
    rcases hp with h | h | h | h
    · exact Nat.lt_trans (l1 p (List.mem_append_left _ h)) l2
    · exact Nat.lt_trans (l1 p (List.mem_append_right _ (List.mem_append_left _ h))) l2
    · rw [h]; exact l2
    · exact Nat.lt_trans (l1 p (List.mem_append_right _ (List.mem_append_right _ h))) l2
theorem ec_feed {c1 c2 : Nat} (ok : Ok x d u) (h : ∀ D o, EvC x ⟨(D, o) :: M, J, dr⟩ m e1 fun v1 G1 => G1.M = (D, o) :: M ∧ ∃ a, EvG x G1 m e2 (fun t => .int a t) ∧ ∀ o' t, Obj.IsDictOf (strKind PG x.w) o' [(Str.ofString "row", v1), (Str.ofString "at", .int a t)] → K (.ref D) ⟨(D, o') :: M, G1.J, G1.d⟩) :
    EvC x ⟨M, J, dr⟩ m (.Dict [some (.Constant (.str (Str.ofString "row")) c1 p1), some (.Constant (.str (Str.ofString "at")) c2 p2)] [e1, e2] pos) K := fun s hs Q E q => by
  obtain ⟨p, loose, mean, mg, mb, T9⟩ := ok.T
  refine kdn_str rfl hs.1 hs.2.1 T9.nolimit rfl rfl (List.cons_ne_nil _ _) (Nat.le_of_ble_eq_true rfl) fun D h' o F' N' lt _ ho => ?_
  refine pairTrees_cons_walk (eg_str _ (st_newM (tk := s.toks) hs F' N' lt) _ _ fun s1 t1 h1 => h D o s1 h1 _ _ fun v1 G1 s2 hk h2 => ?_)
  obtain ⟨M1, J1, d1⟩ := G1
  obtain ⟨rfl, a, he2, hK⟩ := hk
  refine pairTrees_cons_walk (eg_str s2 h2 _ _ fun s3 t3 h3 => he2 s3 h3 _ _ fun s4 t4 h4 => pairTrees_nil_walk ?_)
  exact kdn_made_str h4.1 h4.2.1 (At.head.upd h4.2.2.1) ho rfl (show [Str.ofString "row", Str.ofString "at"].Nodup by decide) fun h5 o5 F5 N5 ho5 => q _ _ _ (hK o5 t4 ho5) (st_upd .head h4 F5 N5)
theorem ec_take {k : Nat} {y : Int} {vs : List Value} {ns : List Int} (he : EvG x G m e (fun _ => .ref D)) (hl : x.h₀.IsList D vs.toArray) (hI : IntsAre vs ns) (hz : vs.length ≤ 10000) (h0 : 0 ≤ y) (hg : ∀ r, letTemporaryGo e (.ref D) r = pure ()) (h : ∀ D' ws, IntsAre ws (ns.take y.toNat) → K (.ref D') ⟨G.M, (D', listOf ws.toArray 0) :: G.J, G.d⟩) :
    EvC x G m (.Subscript e (.Slice none (some (.Constant (.int y) k p1)) none p2) p4) K := fun s hs Q E q =>
  Subscript_ (he s hs _ _ fun s1 _ h1 => wpAny_Slice (evalPart_none_step (evalPart_some_step (wpAny_Constant_int (evalPart_none_step (by
    have hl1 : s1.heap.IsList D vs.toArray := by obtain ⟨o, ho, r⟩ := hl; exact ⟨o, h1.1.keep _ _ ho, r⟩
    refine slice_list (s := { s1 with toks := s1.toks + 1 }) h1.1 h1.2.1 hl1 .none (.int _ _) (fun h' F' N' => q _ _ _ (h _ _ (kmk_upto hI h0)) (st_newJ (s := { s1 with toks := s1.toks + 1 }) (tk := s1.toks + 1) h1 F' ?_ fun p hp => Nat.lt_succ_of_lt (Heap.lt_size (h1.2.1 p hp).1))) (by with_unfolding_all rfl) hg (fits (by rw [List.size_toArray]; omega))
    rw [Array.toArray_toList]; exact N'))))))
theorem eg_int1 {a : Int} {u : Tok → Tok} (hg : NameIs x n (.type "int")) (he : EvG x G m e (fun t => .int a (u t))) (hs : starEach [e] x.env = (false, eval e x.env) :: starEach [] x.env) : EvG x G m (.Call (.Name n p1) [e] [] p2) (fun t => .int a (u t)) := fun s hs' Q E q =>
  Call_ (hg _ _ _ hs' _ _ _ (PyProof.Rows.callWith_type1 (args_cons (he s hs' _ _ fun s1 t h1 => args_nil (call_int_int (q s1 t h1))) hs) hs rfl))
end
end Mine
end
section
open PySem PySem.W PySem.Spec PySem.Calls PyProof.Rows PyProof.Rows.LCg
set_option maxRecDepth 100000
namespace Mine
local macro_rules | `(tactic| k_search $x:ident) => `(tactic| with_reducible apply $x)
local macro_rules | `(tactic| k_search "gb") => `(tactic| first | exact (rfl : _ = true) | exact (rfl : _ = false) | exact (by decide : _ = true) | exact (by decide : _ = false) | assumption | exact rfl)
local macro_rules | `(tactic| k_search "ga") => `(tactic| with_reducible assumption)
local macro_rules | `(tactic| k_search "gs") => `(tactic| exact rfl)
local macro_rules | `(tactic| k_search "gt2") => `(tactic| with_reducible first | assumption | exact Tup.head | (apply Tup.tail; k_search "gt2") | (apply Tup.mono (by assumption); k_search "gt2"))
local macro_rules | `(tactic| k_search "gh") => `(tactic| first | with_reducible assumption | (k_search Tup.has; k_search "gt2") | (k_search HasT.tail; k_search "gh"))
local macro_rules | `(tactic| k_search "gm") => `(tactic| with_reducible first | assumption | exact List.mem_cons_self | (apply List.mem_cons_of_mem; k_search "gm"))
local macro_rules | `(tactic| k_search "gp") => `(tactic| first
  | (k_search cp_lenT; k_search "gh"; exact rfl; k_search "gz")
  | (k_search cp_lenL; (first | (k_search Or.inl; k_search "gm") | (k_search Or.inr; k_search Or.inl; k_search "gm")); exact rfl; k_search "gz")
  | with_reducible exact cp_isi_ss
  | with_reducible exact cp_isi_st
  | with_reducible exact cp_isi_it
  | with_reducible exact cp_isi_is
  | (k_search cp_isi_tt; k_search "gh")
  | (k_search cp_isi_ts; k_search "gh")
  | (k_search cp_isi_lt; k_search "gm"))
local macro_rules | `(tactic| k_search "gk") => `(tactic| (intro _ _; with_reducible first | refine' cmp_eqS ?_ | refine' cmp_eqI ?_ | refine' cmp_neS ?_ | refine' cmp_neI ?_ | refine' cmp_ltI ?_ | refine' cmp_gtI ?_))
local macro_rules | `(tactic| k_search "ge") => `(tactic| first
  | k_search "ge0"
  | (k_search eg_head; k_search "ge"; k_search "gz"; (intro _ _; exact rfl))
  | (k_search eg_call2; k_search "ga"; k_search "ge"; k_search "ge"; k_search "gs"; k_search "gs"; (intro _; exact rfl); (intro _ _; k_search "gp"))
  | (k_search eg_call1; k_search "ga"; k_search "ge"; k_search "gs"; (intro _; k_search "gp"))
  | (k_search eg_cmp; k_search "ge"; k_search "ge"; exact rfl; k_search "gk"; k_search "gb")
  | (k_search eg_bo1; k_search "ge")
  | (k_search eg_as; k_search "ge"; first | exact .inl ⟨rfl, rfl⟩ | (refine .inr ⟨rfl, ?_⟩; k_search "ge"))
  | (k_search eg_andS; k_search "ge"; k_search "ge")
  | (k_search eg_orS; k_search "ge"; k_search "ge")
  | (k_search eg_ifI; k_search "gt"; k_search "ge"; k_search "ge"))
local macro_rules | `(tactic| k_search "gt") => `(tactic| first
  | (k_search tg_not; k_search "gt")
  | (k_search tg_bo; k_search "gto")
  | (k_search tg_call; k_search "ge")
  | (k_search tg_name; k_search "ge")
  | (k_search tg_inS; k_search "ge"; k_search "gstrs"; exact rfl; k_search "gb")
  | (k_search tg_cmp; k_search "ge"; k_search "ge"; exact rfl; k_search "gk"; k_search "gb"))
local macro_rules | `(tactic| k_search "gstrs") => `(tactic| (k_search el_consP; k_search "ge"; k_search "gs"; intro _; k_search el_consP; k_search "ge"; k_search "gs"; intro _; refine el_nil ⟨rfl, .cons _ _ (.cons _ _ .nil), Nat.le_of_ble_eq_true rfl⟩))
local macro_rules | `(tactic| k_search "gto") => `(tactic| first
  | with_reducible exact tgo_or
  | (k_search tgo_os; k_search "gt"; first | exact .inl ⟨rfl, rfl⟩ | (refine .inr ⟨rfl, ?_⟩; k_search "gto")))
local macro_rules | `(tactic| k_search "gw") => `(tactic| (rw [(by assumption : Fx.env _ = _)]; with_unfolding_all rfl))
local macro_rules | `(tactic| k_search "gbr") => `(tactic| first | exact fun h => b_tf h | exact fun h => b_ft h | intro _)
local macro_rules | `(tactic| k_search "gbs") => `(tactic| (refine ⟨?_, ?_⟩ <;> k_search "gbr"))
local macro_rules | `(tactic| k_search "gz") => `(tactic| first | assumption | exact Nat.le_of_ble_eq_true rfl | omega | ((simp only [List.length_cons, List.length_nil, List.length_append] at *); omega))
local macro_rules | `(tactic| k_search "gl") => `(tactic| first
  | k_search el_nil
  | (k_search el_consP; k_search "ge"; k_search "gs"; (intro _; k_search "gl"))
  | (k_search el_cons; k_search "gs"; k_search "gc"))
local macro_rules | `(tactic| k_search "ge0") => `(tactic| first
  | (k_search eg_loc; k_search "ga"; first | exact rfl | assumption)
  | (k_search eg_nm; k_search "ga")
  | with_reducible exact eg_int
  | with_reducible exact eg_str
  | with_reducible exact eg_bool
  | (k_search eg_cell; k_search "ga"; (first | (k_search Or.inl; k_search "gm") | (k_search Or.inr; k_search "gm")); k_search "ga")
  | (k_search eg_sub0; k_search "ge"; k_search "gh")
  | (k_search eg_sub1; k_search "ge"; k_search "gh")
  | (k_search eg_sub2; k_search "ge"; k_search "gh")
  | (k_search eg_add; k_search "ge"; k_search "ge")
  | (k_search eg_minus; k_search "ge"; k_search "ge"))
local macro_rules | `(tactic| k_search "gc") => `(tactic| first
  | (k_search ec_pure; k_search "ge0"; intro _)
  | (k_search ec_bo1; k_search "gc")
  | (k_search ec_tup; k_search "gl"; (try refine ⟨by k_search "gz", ?_⟩; intro _))
  | (k_search ec_andP; k_search "ge"; k_search "gbs")
  | (k_search ec_and; k_search "gc")
  | (k_search ec_ifexp; k_search "gt"; k_search "gbs")
  | (k_search ec_slice1; k_search "ge"; k_search "gh"; k_search "gz"; (intro _; exact rfl); intro _)
  | (k_search ec_bin; k_search "gc")
  | k_search "gme0"
  | (k_search "gme1"; k_search "gc")
  | (k_search ec_callK; k_search "ga"; (exact Ok.K (by assumption)); k_is; k_search "gs"; (intro _; exact rfl); k_search "gl")
  | (k_search ec_pure; k_search "ge"; intro _))
local macro_rules | `(tactic| k_search "go") => `(tactic| first
  | k_search go_then
  | (k_search go_if; k_search "gt"; k_search "gbs")
  | (k_search go_asgP; k_search "ga"; k_search "ge"; k_search "gw"; intro _)
  | (k_search go_retP; k_search "ge"; intro _)
  | (k_search go_asg2; k_search "ga"; k_search "ga"; k_search "gw"; k_search "gw"; k_search "gl"; refine ⟨_, _, rfl, ?_⟩)
  | (k_search go_asg; k_search "ga"; k_search "gw"; k_search "gc")
  | (k_search go_expr; (rw [(by assumption : Fx.env _ = _)]; exact rfl); k_search "gw"; k_search "gc"))
local macro_rules | `(tactic| k_search "gr") => `(tactic| (k_search go_ret; k_search "gc"))
local macro_rules | `(tactic| k_search "gtc") => `(tactic| (k_search tc_pure; k_search "gt"; k_search "gbs"))
local macro_rules | `(tactic| k_search "gsl") => `(tactic| ((first | exact PySem.F.slot_list_pop | exact PySem.F.slot_list_append | exact PySem.F.slot_list_extend | exact PySem.F.slot_list_reverse); (first | exact PySem.F.type_list_pop | exact PySem.F.type_list_append | exact PySem.F.type_list_extend | exact PySem.F.type_list_reverse); (exact (by with_unfolding_all rfl))))
local macro_rules | `(tactic| k_search "gme0") => `(tactic| (k_search ec_meth0; k_search "ge"; k_search "gm"; k_search "gsl"))
local macro_rules | `(tactic| k_search "gme1") => `(tactic| (k_search ec_meth1; k_search "ge"; k_search "gm"; k_search "gsl"; k_search "gs"))
local macro_rules | `(tactic| k_search "gbo") => `(tactic| with_reducible first | exact PySem.boot_len | exact PyProof.Rows.boot_isinstance | exact PyProof.Rows.boot_tuple | exact PyProof.Rows.boot_str | exact PyProof.Rows.boot_set | exact PyProof.Rows.boot_sorted | exact PyProof.Rows.boot_enumerate | exact PyProof.Rows.boot_range | exact PyProof.Rows.boot_list | exact PyProof.Rows.boot_int)
local macro_rules | `(tactic| k_search "gn") => `(tactic| first
  | exact locX (by assumption) rfl rfl (by decide)
  | exact globB (by assumption) (by assumption) rfl rfl (by k_is) (by k_search "gbo") (by decide) (by decide)
  | exact globK (by assumption) (by assumption) rfl rfl (by k_is) (by decide)
  | exact Inner.B (by assumption) (by assumption) (by assumption) (fun _ => ⟨rfl, rfl, rfl, rfl⟩) (by k_is) (by k_search "gbo") (by decide) (by decide)
  | exact Inner.KK (by assumption) (by assumption) (by assumption) (fun _ => ⟨rfl, rfl, rfl, rfl⟩) (by k_is) (by decide))
local macro_rules | `(tactic| k_search "gcomp") => `(tactic| (refine ec_comp (cl := []) (by rw [(by assumption : Fx.env _ = _)]; rfl) (by decide) rfl (by decide) (by decide) (by intro _; rfl) ?_))
local macro_rules | `(tactic| k_search "gcompA") => `(tactic| (refine go_comp (cl := []) (by assumption) (by k_search "gw") (by rw [(by assumption : Fx.env _ = _)]; rfl) (by decide) rfl (by decide) (by decide) (by intro _; rfl) ?_))
local macro_rules | `(tactic| k_search "go0") => `(tactic| (k_search go_asgT; k_search "gw"; k_search "gw"; k_search "gc"))
section
open PySem PySem.W PySem.Spec PySem.Calls PyProof.Rows
set_option maxRecDepth 100000
set_option maxHeartbeats 4000000
theorem plain_yes {x : Fx} {G : Gh} {m : Loc} {K : Value → Gh → Prop} {v : Value} {f : Tf} {d u : Nat} (ok : Ok x d u) (hd : d ≤ 800) (h : TfIn G.J [v] f) (hz : sz f ≤ 80000) (k : K (.bool true) G) : CallG x G m (.ref 119) [v] K := by
  refine enterG (binds := [(Str.ofString "thing", _)]) (by assumption) (by k_is) (by k_is) (rmL hd rfl) (by rfl) (by exact locs rfl) rfl rfl rfl (by decide) ?_
  intro x9 E9 ok9 hw9 he9 hE9
  have l1 : LocX x9 (Str.ofString "thing") := by k_search "gn"
  have l2 : LocX x9 (Str.ofString "waiting") := by k_search "gn"
  have l3 : LocX x9 (Str.ofString "one") := by k_search "gn"
  have g1 : NameIs x9 (Str.ofString "len") (.builtin "len") := by k_search "gn"
  have g2 : NameIs x9 (Str.ofString "isinstance") (.builtin "isinstance") := by k_search "gn"
  have g3 : NameIs x9 (Str.ofString "tuple") (.type "tuple") := by k_search "gn"
  have g4 : NameIs x9 (Str.ofString "str") (.type "str") := by k_search "gn"
  refine go_asg (by assumption) ?_ (ec_listM ?_)
  · k_search "gw"
  k_search "gl"
  refine ⟨Nat.le_add_left 1 89999, fun D => ?_⟩
  refine go_while (fun k G1 m1 => ∃ ws f9 kk, G1 = ⟨(D, listOf (List.toArray ws) kk) :: G.M, G.J, G.d⟩ ∧ TfIn G.J ws f9 ∧ k = sz f9 ∧ k ≤ 80000 ∧ m1 (Str.ofString "waiting") = some (.ref D)) ⟨_, _, _, rfl, h, rfl, hz, rfl⟩ ?_ hE9
  rintro k9 G1 m1 ⟨ws, f9, kk, rfl, hf, rfl, hz9, hm⟩
  have hl := hf.len
  rcases snoc_cases ws with rfl | ⟨p, y, rfl⟩
  · k_search "gtc"
    k_search "go"
    exact ⟨_, Wk.drop, k⟩
  · obtain ⟨a, s, t, us, fk, f', rfl, hm1, ho, h3, h4, h5⟩ := hf.unsnoc
    obtain ⟨ho1, ho2⟩ := ho
    have hz1 : p.length ≤ 90000 := by have := h4.len; omega
    have hz2 : us.length ≤ 90000 := by have := h3.len; omega
    have hz3 : p.length + us.length ≤ 90000 := by have := h3.len; have := h4.len; omega
    refine tc_pure (b := true) ?_ ⟨fun _ => ?_, fun h => b_tf h⟩
    · exact tg_cmp (by k_search "ge") (by k_search "ge") rfl (fun _ _ => cmp_gtI (by simp))
    k_search "go"
    refine cg_pop At.head hz1 ?_
    k_search "go"
    k_search "go"
    k_search "go"
    refine cg_extT At.head Tup.head hz3 fun k' => go_weak (Wk.ofJ fun _ => .tail _) (go_nil ⟨_, ?_, _, _, k', rfl, h4.app h3, rfl, ?_, hm⟩)
    · rw [sz_app]; omega
    · rw [sz_app]; omega
theorem plain_no {x : Fx} {G : Gh} {m : Loc} {K : Value → Gh → Prop} {D : Addr} {s : Str} {t : Tok} {us : List Value} {d u : Nat} (ok : Ok x d u) (hd : d ≤ 800) (hv : ∀ x', x'.w = x.w → (Mine.hd.heap_1 x'.w.params).In x'.h₀ → HasT x' G.J D (.str s t :: us))
    (ho1 : ([Str.ofString "", Str.ofString "?"].any fun y => y == Txt.slice s none (some 1)) = true) (ho2 : s.length ≤ 1000) (hz : us.length ≤ 900) (k : K (.bool false) G) : CallG x G m (.ref 119) [.ref D] K := by
  refine enterG (binds := [(Str.ofString "thing", _)]) (by assumption) (by k_is) (by k_is) (rmL hd rfl) (by rfl) (by exact locs rfl) rfl rfl rfl (by decide) ?_
  intro x9 E9 ok9 hw9 he9 hE9
  have hm := hv x9 hw9 ok9.K
  have l1 : LocX x9 (Str.ofString "thing") := by k_search "gn"
  have l2 : LocX x9 (Str.ofString "waiting") := by k_search "gn"
  have l3 : LocX x9 (Str.ofString "one") := by k_search "gn"
  have g1 : NameIs x9 (Str.ofString "len") (.builtin "len") := by k_search "gn"
  have g2 : NameIs x9 (Str.ofString "isinstance") (.builtin "isinstance") := by k_search "gn"
  have g3 : NameIs x9 (Str.ofString "tuple") (.type "tuple") := by k_search "gn"
  have g4 : NameIs x9 (Str.ofString "str") (.type "str") := by k_search "gn"
  refine go_asg (by assumption) ?_ (ec_listM ?_)
  · k_search "gw"
  k_search "gl"
  refine ⟨Nat.le_of_ble_eq_true rfl, fun D9 => ?_⟩
  refine go_while (fun k G1 m1 => G1 = ⟨(D9, listOf (List.toArray [.ref D]) 0) :: G.M, G.J, G.d⟩ ∧ m1 (Str.ofString "waiting") = some (.ref D9)) (k := 0) ⟨rfl, rfl⟩ ?_ hE9
  rintro k9 G1 m1 ⟨rfl, hm1⟩
  k_search "gtc"
  k_search "go"
  refine cg_pop (vs := []) At.head (Nat.zero_le _) ?_
  k_search "go"
  k_search "go"
  exact ⟨_, Wk.drop, k⟩
theorem plain_str {x : Fx} {G : Gh} {m : Loc} {K : Value → Gh → Prop} {a : Str} {t : Tok} {d u : Nat} (ok : Ok x d u) (hd : d ≤ 800) (k : K (.bool false) G) : CallG x G m (.ref 119) [.str a t] K := by
  refine enterG (binds := [(Str.ofString "thing", _)]) (by assumption) (by k_is) (by k_is) (rmL hd rfl) (by rfl) (by exact locs rfl) rfl rfl rfl (by decide) ?_
  intro x9 E9 ok9 hw9 he9 hE9
  have l1 : LocX x9 (Str.ofString "thing") := by k_search "gn"
  have l2 : LocX x9 (Str.ofString "waiting") := by k_search "gn"
  have l3 : LocX x9 (Str.ofString "one") := by k_search "gn"
  have g1 : NameIs x9 (Str.ofString "len") (.builtin "len") := by k_search "gn"
  have g2 : NameIs x9 (Str.ofString "isinstance") (.builtin "isinstance") := by k_search "gn"
  have g3 : NameIs x9 (Str.ofString "tuple") (.type "tuple") := by k_search "gn"
  refine go_asg (by assumption) ?_ (ec_listM ?_)
  · k_search "gw"
  k_search "gl"
  refine ⟨Nat.le_of_ble_eq_true rfl, fun D9 => ?_⟩
  refine go_while (fun k G1 m1 => G1 = ⟨(D9, listOf (List.toArray [.str a t]) 0) :: G.M, G.J, G.d⟩ ∧ m1 (Str.ofString "waiting") = some (.ref D9)) (k := 0) ⟨rfl, rfl⟩ ?_ hE9
  rintro k9 G1 m1 ⟨rfl, hm1⟩
  k_search "gtc"
  k_search "go"
  refine cg_pop (vs := []) At.head (Nat.zero_le _) ?_
  k_search "go"
  k_search "go"
  exact ⟨_, Wk.drop, k⟩
end
section
open PySem PySem.W PySem.Spec PySem.Calls PyProof.Rows PyProof.Rows.LCg
set_option maxRecDepth 100000
set_option maxHeartbeats 4000000
inductive PrIn (x : Fx) (J : Led) : List Value → List (Str × Tok × Value) → Prop where
  | nil : PrIn x J [] []
  | cons {q : Addr} {s : Str} {t : Tok} {v : Value} {vs : List Value} {ps : List (Str × Tok × Value)} : HasT x J q [.str s t, v] → Txt.slice s none (some 1) = Str.ofString "?" → s.length ≤ 1000 → PrIn x J vs ps → PrIn x J (.ref q :: vs) ((s, t, v) :: ps)
theorem PrIn.at {x : Fx} {J : Led} {vs : List Value} {ps : List (Str × Tok × Value)} (h : PrIn x J vs ps) : ∀ {i : Nat} {u : Value}, vs[i]? = some u → ∃ q s t v, u = .ref q ∧ ps[i]? = some (s, t, v) ∧ HasT x J q [.str s t, v] ∧ Txt.slice s none (some 1) = Str.ofString "?" ∧ s.length ≤ 1000 := by
  induction h with
  | nil => intro i u h; simp at h
  | @cons q s t v vs ps h1 h2 h3 _ ih =>
    intro i u hu
    cases i with
    | zero => exact ⟨q, s, t, v, by simpa using hu.symm, by simp, h1, h2, h3⟩
    | succ i => simpa using ih (by simpa using hu)
theorem PrIn.len {x : Fx} {J : Led} {vs : List Value} {ps : List (Str × Tok × Value)} (h : PrIn x J vs ps) : vs.length = ps.length := by
  induction h with
  | nil => rfl
  | cons _ _ _ _ ih => simp [ih]
theorem take_one {α : Type} {l : List α} {i : Nat} {a : α} (h : l[i]? = some a) : l.take (i + 1) = l.take i ++ [a] := by
  rw [List.take_add_one, h]; rfl
def strsOf (ps : List (Str × Tok × Value)) : List Value := ps.map fun q => .str q.1 q.2.1
theorem strs_of (ps : List (Str × Tok × Value)) : StrsAre (strsOf ps) (ps.map (·.1)) := by
  unfold strsOf
  induction ps with
  | nil => exact .nil
  | cons q r ih => exact .cons _ _ ih
theorem places_ok {x : Fx} {G : Gh} {m : Loc} {K : Value → Gh → Prop} {p : Addr} {vs : List Value} {ps : List (Str × Tok × Value)} {d u : Nat} {c : Bool} (ok : Ok x d u) (hd : d ≤ 700) (hu : u ≤ 8000)
    (hv : ∀ x', x'.w = x.w → (Mine.hd.heap_1 x'.w.params).In x'.h₀ → HasT x' G.J p vs ∧ PrIn x' G.J vs ps) (hn : ps.length = 1 ∨ ps.length = 2) (hnd : (ps.map (·.1)).Nodup)
    (hc : ∀ ss, List.Perm ss (ps.map (·.1)) → sortedS ss = true → SeqAt.shaped (.list (ss.map .str)) = true ∧ (PyData.list ((ps.map (·.1)).map .str)).eqv (.list (ss.map .str)) = c) (hx : SeqAt.shaped (.list ((ps.map (·.1)).map .str)) = true)
    (ht : c = true → ∀ (i : Nat) s t v, ps[i]? = some (s, t, v) → ∃ f, TfIn G.J [v] f ∧ sz f ≤ 80000) (k : ∀ d', K (.bool c) ⟨G.M, G.J, d'⟩) : CallG x G m (.ref 124) [.ref p] K := by
  refine enterG (binds := [(Str.ofString "thing", _)]) (by assumption) (by k_is) (by k_is) (rmL hd rfl) (by rfl) (by exact locs rfl) rfl rfl rfl (by decide) ?_
  intro x9 E9 ok9 hw9 he9 hE9
  obtain ⟨hm, hpr⟩ := hv x9 hw9 ok9.K
  have l1 : LocX x9 (Str.ofString "thing") := by k_search "gn"
  have l2 : LocX x9 (Str.ofString "names") := by k_search "gn"
  have g1 : NameIs x9 (Str.ofString "isinstance") (.builtin "isinstance") := by k_search "gn"
  have g2 : NameIs x9 (Str.ofString "tuple") (.type "tuple") := by k_search "gn"
  have g3 : NameIs x9 (Str.ofString "sorted") (.builtin "sorted") := by k_search "gn"
  have g4 : NameIs x9 (Str.ofString "set") (.type "set") := by k_search "gn"
  have hun : x9.A.units + 64 < cLine := by have := ok9.units; rw [cLine_is]; omega
  have hun2 : x9.A.units < cLine := by omega
  have hln := hpr.len
  have hm' := hm
  obtain ⟨n9, hm9⟩ := hm'
  refine go_ifC ?_
  refine tc_bo ?_
  refine tco_or ?_
  k_search "gtc"
  refine tco_or ?_
  refine tc_cmp (by rfl) ?_
  k_search "gcomp"
  k_search "gc"
  refine ⟨p, _, vs, n9, fun i ys M J => ys = [] ∧ M = G.M ∧ J = G.J, rfl, .inr rfl, by omega, ⟨rfl, rfl, rfl⟩, ?_, ?_, ?_⟩
  · rintro i ys M J ⟨rfl, rfl, rfl⟩; exact hm9
  · rintro i v ys M J hv9 ⟨rfl, rfl, rfl⟩
    obtain ⟨q, s, t, w, rfl, hps, hq, hs, hz⟩ := hpr.at hv9
    refine ⟨_, .name, by exact locs rfl, of_decide_eq_true rfl, fun x8 hi hb => ?_⟩
    have hq8 := hi.has hq
    have n1 := hb _ (.head _)
    have b1 : NameIs x8 (Str.ofString "isinstance") (.builtin "isinstance") := by k_search "gn"
    have b2 : NameIs x8 (Str.ofString "tuple") (.type "tuple") := by k_search "gn"
    have b3 : NameIs x8 (Str.ofString "len") (.builtin "len") := by k_search "gn"
    show TrC _ _ _ _ _
    k_search "gtc"
    exact ⟨rfl, rfl, rfl, rfl⟩
  rintro D1 ys M J ⟨rfl, rfl, rfl⟩
  refine ec_listJ ?_
  k_search "gl"
  refine ⟨Nat.zero_le _, fun D2 => ⟨_, cmp_neL (.tail _ (.head _)) (.head _) hun2 rfl, fun h => b_ft h, fun _ => tco_nil ⟨fun h => b_ft h, fun _ => ?_⟩⟩⟩
  refine go_weak (G' := G) (Wk.ofJ fun _ h => .tail _ (.tail _ h)) ?_
  k_search "go"
  k_search "gcompA"
  k_search "gc"
  refine ⟨p, _, vs, n9, fun i ys M J => ys = (strsOf ps).take i ∧ M = G.M ∧ J = G.J, rfl, .inr rfl, by omega, ⟨rfl, rfl, rfl⟩, ?_, ?_, ?_⟩
  · rintro i ys M J ⟨rfl, rfl, rfl⟩; exact hm9
  · rintro i v ys M J hv9 ⟨rfl, rfl, rfl⟩
    obtain ⟨q, s, t, w, rfl, hps, hq, hs, hz⟩ := hpr.at hv9
    refine ⟨_, .name, by exact locs rfl, of_decide_eq_true rfl, fun x8 hi hb => ⟨fun _ => ?_, fun h => b_tf h⟩⟩
    have hq8 := hi.has hq
    have n1 := hb _ (.head _)
    k_search "gc"
    exact ⟨rfl, (take_one (l := strsOf ps) (by unfold strsOf; rw [List.getElem?_map, hps]; rfl)).symm, rfl, rfl⟩
  rintro D3 ys M J ⟨hys, rfl, rfl⟩
  have hl3 : (strsOf ps).length = vs.length := by unfold strsOf; rw [List.length_map, hln]
  rw [← hl3, List.take_length] at hys
  subst hys
  refine go_ifC ?_
  refine tc_cmp (by rfl) ?_
  k_search "gcomp"
  k_search "gc"
  refine ⟨D3, _, strsOf ps, (strsOf ps).length, fun i ys M J => ys = [] ∧ M = G.M ∧ J = (D3, lst (strsOf ps)) :: G.J, rfl, .inl rfl, by omega, ⟨rfl, rfl, rfl⟩, ?_, ?_, ?_⟩
  · rintro i ys M J ⟨rfl, rfl, rfl⟩; exact .inl (.head _)
  · rintro i v ys M J hv9 ⟨rfl, rfl, rfl⟩
    obtain ⟨⟨s, t, w⟩, hps, rfl⟩ : ∃ q, ps[i]? = some q ∧ Value.str q.1 q.2.1 = v := by
      unfold strsOf at hv9
      rw [List.getElem?_map] at hv9
      exact Option.map_eq_some_iff.mp hv9
    obtain ⟨_, s9, t9, w9, _, hps9, hs, hz⟩ : ∃ (u : Nat) (s9 : Str) (t9 : Tok) (w9 : Value), True ∧ ps[i]? = some (s9, t9, w9) ∧ Txt.slice s9 none (some 1) = Str.ofString "?" ∧ s9.length ≤ 1000 := by
      have hi : i < vs.length := by rw [hln]; exact (List.getElem?_eq_some_iff.mp hps).1
      obtain ⟨q, s, t, w, _, hps, _, hs, hz⟩ := hpr.at (List.getElem?_eq_getElem hi)
      exact ⟨0, s, t, w, trivial, hps, hs, hz⟩
    rw [hps] at hps9
    obtain ⟨rfl, rfl, rfl⟩ : s = s9 ∧ t = t9 ∧ w = w9 := by simpa using hps9
    refine ⟨_, .name, by exact locs rfl, of_decide_eq_true rfl, fun x8 hi hb => ?_⟩
    have n1 := hb _ (.head _)
    have b1 : NameIs x8 (Str.ofString "isinstance") (.builtin "isinstance") := by k_search "gn"
    have b2 : NameIs x8 (Str.ofString "str") (.type "str") := by k_search "gn"
    have hs1 : (!(Txt.slice s none (some 1) == Str.ofString "?")) = false := by rw [hs]; decide
    show TrC _ _ _ _ _
    k_search "gtc"
    exact ⟨rfl, rfl, rfl, rfl⟩
  rintro D4 ys M J ⟨rfl, rfl, rfl⟩
  refine ec_listJ ?_
  k_search "gl"
  refine ⟨Nat.zero_le _, fun D5 => ⟨_, cmp_neL (.tail _ (.head _)) (.head _) hun2 rfl, fun h => b_ft h, fun _ => ?_⟩⟩
  refine go_weak (G' := ⟨G.M, (D3, lst (strsOf ps)) :: G.J, G.d⟩) (Wk.ofJ fun _ h => .tail _ (.tail _ h)) ?_
  k_search "go"
  refine go_ret ?_
  refine ec_and ?_
  refine ec_cmp (by rfl) ?_
  (with_reducible apply ec_pure)
  · k_search "ge"
  intro _
  refine ec_callB (by assumption) (by k_search "gs") (by intro _; rfl) ?_
  refine el_cons ?_ ?_
  · k_search "gs"
  refine ec_callT (by assumption) (by k_search "gs") (by intro _; rfl) ?_
  k_search "gl"
  refine cg_set (xs := ps.map fun q => (q.1, q.2.1)) (n := (strsOf ps).length) ?_ ?_ ?_ fun S o hS => ?_
  · have e : (List.map (fun p => Value.str p.1 p.2) (ps.map fun q => (q.1, q.2.1))) = strsOf ps := by unfold strsOf; rw [List.map_map]; rfl
    rw [e]; exact .head _
  · rw [List.map_map]; exact hnd
  · rw [List.length_map]; omega
  refine el_nil ?_
  refine cg_sorted (xs := ps.map fun q => (q.1, q.2.1)) (.head _) hS (by rw [List.length_map]; exact hn) fun D6 ws ss e6 d6 hw6 hp6 hs6 => ?_
  have e6 : (ps.map fun q => (q.1, q.2.1)).map (·.1) = ps.map (·.1) := by rw [List.map_map]; rfl
  rw [e6] at hp6
  obtain ⟨hc1, hc2⟩ := hc ss hp6 hs6
  refine ⟨c, cmp_strs (.tail _ (.tail _ (.head _))) (.head _) (strs_of ps) hw6 hun hx hc1 hc2, c, rfl, fun hc9 => ?_, fun hc9 => hc9 ▸ ⟨_, Wk.ofJ (fun _ h => .tail _ (.tail _ (.tail _ h))), k d6⟩⟩
  refine ec_weak (G' := ⟨G.M, G.J, d6⟩) (Wk.ofJ fun _ h => .tail _ (.tail _ (.tail _ h))) ?_
  refine ec_bo1 ?_
  refine ec_cmp (by rfl) ?_
  k_search "gcomp"
  k_search "gc"
  refine ⟨p, _, vs, n9, fun i ys M J => ys = [] ∧ M = G.M ∧ J = G.J, rfl, .inr rfl, by omega, ⟨rfl, rfl, rfl⟩, ?_, ?_, ?_⟩
  · rintro i ys M J ⟨rfl, rfl, rfl⟩; exact hm9
  · rintro i v ys M J hv9 ⟨rfl, rfl, rfl⟩
    obtain ⟨q, s, t, w, rfl, hps, hq, hs, hz⟩ := hpr.at hv9
    obtain ⟨f, hf1, hf2⟩ := ht hc9 i s t w hps
    refine ⟨_, .name, by exact locs rfl, of_decide_eq_true rfl, fun x8 hi hb => ?_⟩
    have hq8 := hi.has hq
    have ok8 := hi.ok ok9
    have n1 := hb _ (.head _)
    have b1 : NameIs x8 (Str.ofString "is_plain_term") (.ref 119) := by k_search "gn"
    show TrC _ _ _ _ _
    refine tc_not ?_
    refine tc_call ?_
    k_search "gc"
    exact plain_yes ok8 (by omega) hf1 hf2 ⟨true, rfl, fun h => b_ft h, fun _ => ⟨rfl, rfl, rfl, rfl⟩⟩
  rintro D7 ys M J ⟨rfl, rfl, rfl⟩
  refine ec_listJ ?_
  k_search "gl"
  exact ⟨Nat.zero_le _, fun D8 => ⟨true, cmp_eqL (.tail _ (.head _)) (.head _) hun2 rfl, hc9 ▸ ⟨_, Wk.ofJ (fun _ h => .tail _ (.tail _ h)), k d6⟩⟩⟩
end
section
open PySem PySem.W PySem.Spec PySem.Calls PyProof.Rows PyProof.Rows.LCg
set_option maxRecDepth 100000
set_option maxHeartbeats 4000000
inductive Long (x : Fx) (J : Led) : Str → List Value → Bool → Prop where
  | told {s : Str} {u : Tok} : Long x J (Str.ofString "told") [.str s u] true
  | told3 {i : Int} {u : Tok} : Long x J (Str.ofString "told") [.int i u] false
  | same {v : Value} {f : Tf} : TfIn J [v] f → sz f ≤ 80000 → Long x J (Str.ofString "same") [v] true
  | sameV {D : Addr} {s : Str} {t : Tok} : (∀ x', x'.w = x.w → (Mine.hd.heap_1 x'.w.params).In x'.h₀ → HasT x' J D [.str s t]) → ([Str.ofString "", Str.ofString "?"].any fun y => y == Txt.slice s none (some 1)) = true → s.length ≤ 1000 → Long x J (Str.ofString "same") [.ref D] false
  | sameS {s : Str} {u : Tok} : Long x J (Str.ofString "same") [.str s u] false
  | rule {s : Str} {u : Tok} {p : Addr} {vs : List Value} {ps : List (Str × Tok × Value)} {c : Bool} : (∀ x', x'.w = x.w → (Mine.hd.heap_1 x'.w.params).In x'.h₀ → HasT x' J p vs ∧ PrIn x' J vs ps) → (ps.length = 1 ∨ ps.length = 2) → (ps.map (·.1)).Nodup →
      (∀ ss, List.Perm ss (ps.map (·.1)) → sortedS ss = true → SeqAt.shaped (.list (ss.map .str)) = true ∧ (PyData.list ((ps.map (·.1)).map .str)).eqv (.list (ss.map .str)) = c) → SeqAt.shaped (.list ((ps.map (·.1)).map .str)) = true →
      (c = true → ∀ (i : Nat) s t v, ps[i]? = some (s, t, v) → ∃ f, TfIn J [v] f ∧ sz f ≤ 80000) → Long x J (Str.ofString "rule") [.str s u, .ref p] c
  | ruleS {s : Str} {u : Tok} : Long x J (Str.ofString "rule") [.str s u] false
  | under {p : Addr} {u : Tok} {us : List Value} : Tup J p us → Long x J (Str.ofString "under") [.str (Str.ofString "h") u, .ref p] true
  | list {p : Addr} {u : Tok} {us : List Value} {n : Nat} : (p, listOf us.toArray n) ∈ J → Long x J (Str.ofString "under") [.str (Str.ofString "h") u, .ref p] false
  | vop {p : Addr} {u : Tok} {us : List Value} : Tup J p us → Long x J (Str.ofString "under") [.str (Str.ofString "?h") u, .ref p] false
  | flat {h : Str} {us : List Value} : (h == Str.ofString "same") = false → (h == Str.ofString "told") = false → (h == Str.ofString "rule") = false → (h == Str.ofString "under") = false → us.length ≤ 80000 →
      Long x J h us ((h == Str.ofString "turn") && (((us.length + 1 : Nat) : Int) == 2) || ((h == Str.ofString "join") && (((us.length + 1 : Nat) : Int) == 3)))
inductive Shape (x : Fx) (J : Led) : Value → Bool → Prop where
  | str {s : Str} {t : Tok} : Shape x J (.str s t) false
  | int {i : Int} {t : Tok} : Shape x J (.int i t) false
  | nil {a : Addr} : HasT x J a [] → Shape x J (.ref a) false
  | one {a : Addr} {v : Value} : HasT x J a [v] → Shape x J (.ref a) false
  | ref {a b : Addr} {v : Value} {us vs : List Value} : HasT x J a (.ref b :: v :: us) → us.length ≤ 80000 → HasT x J b vs → Shape x J (.ref a) false
  | long {a : Addr} {h : Str} {t : Tok} {v : Value} {us : List Value} {c : Bool} : HasT x J a (.str h t :: v :: us) → us.length ≤ 80000 → Long x J h (v :: us) c → Shape x J (.ref a) c
theorem form_walk {x : Fx} {G : Gh} {m : Loc} {K : Value → Gh → Prop} {v : Value} {c : Bool} {d u : Nat} (ok : Ok x d u) (hd : d ≤ 600) (hu : u ≤ 7000) (hv : ∀ x', x'.w = x.w → (Mine.hd.heap_1 x'.w.params).In x'.h₀ → Shape x' G.J v c) (k : ∀ d', K (.bool c) ⟨G.M, G.J, d'⟩) : CallG x G m (.ref 131) [v] K := by
  refine enterG (binds := [(Str.ofString "thing", _)]) (by assumption) (by k_is) (by k_is) (rmL hd rfl) (by rfl) (by exact locs rfl) rfl rfl rfl (by decide) ?_
  intro x9 E9 ok9 hw9 he9 hE9
  have hsh := hv x9 hw9 ok9.K
  have l1 : LocX x9 (Str.ofString "thing") := by k_search "gn"
  have l2 : LocX x9 (Str.ofString "kind") := by k_search "gn"
  have l3 : LocX x9 (Str.ofString "many") := by k_search "gn"
  have g1 : NameIs x9 (Str.ofString "isinstance") (.builtin "isinstance") := by k_search "gn"
  have g2 : NameIs x9 (Str.ofString "tuple") (.type "tuple") := by k_search "gn"
  have g3 : NameIs x9 (Str.ofString "str") (.type "str") := by k_search "gn"
  have g4 : NameIs x9 (Str.ofString "len") (.builtin "len") := by k_search "gn"
  have g5 : NameIs x9 (Str.ofString "is_plain_term") (.ref 119) := by k_search "gn"
  have g6 : NameIs x9 (Str.ofString "are_places") (.ref 124) := by k_search "gn"
  cases hsh with
  | str =>
    k_search "go"
    k_search "go"
    exact ⟨_, Wk.refl, k _⟩
  | int =>
    k_search "go"
    k_search "go"
    exact ⟨_, Wk.refl, k _⟩
  | nil hm =>
    k_search "go"
    k_search "go"
    exact ⟨_, Wk.refl, k _⟩
  | one hm =>
    k_search "go"
    k_search "go"
    exact ⟨_, Wk.refl, k _⟩
  | @ref a b v us vs hm hz hm2 =>
    have hl : decide (((us.length + 2 : Nat) : Int) < 2) = false := decide_eq_false (by omega)
    k_search "go"
    k_search "go"
    exact ⟨_, Wk.refl, k _⟩
  | @long a h t v us c hm hz hl =>
    have hl2 : decide (((us.length + 2 : Nat) : Int) < 2) = false := decide_eq_false (by omega)
    k_search "go"
    k_search "go"
    k_search "go"
    cases hl with
    | told =>
      k_search "go"
      k_search "go"
      k_search "go"
      k_search "go"
      exact ⟨_, Wk.refl, k _⟩
    | told3 =>
      k_search "go"
      k_search "go"
      k_search "go"
      k_search "go"
      exact ⟨_, Wk.refl, k _⟩
    | same hf hfz =>
      k_search "go"
      k_search "gr"
      k_search "gc"
      exact plain_yes ok9 (by omega) hf hfz ⟨_, Wk.refl, k _⟩
    | sameV hf h1 h2 =>
      k_search "go"
      k_search "gr"
      k_search "gc"
      exact plain_no ok9 (by omega) hf h1 h2 (Nat.zero_le _) ⟨_, Wk.refl, k _⟩
    | sameS =>
      k_search "go"
      k_search "gr"
      k_search "gc"
      exact plain_str ok9 (by omega) ⟨_, Wk.refl, k _⟩
    | rule h1 h2 h3 h4 h5 h6 =>
      k_search "go"
      k_search "go"
      k_search "go"
      k_search "go"
      k_search "go"
      k_search "gr"
      k_search "gc"
      k_search "gc"
      exact places_ok ok9 (rmD hd rfl) (rmU hu rfl) h1 h2 h3 h4 h5 h6 fun d' => ⟨_, Wk.refl, k _⟩
    | ruleS =>
      k_search "go"
      k_search "go"
      k_search "go"
      k_search "go"
      k_search "go"
      k_search "go"
      exact ⟨_, Wk.refl, k _⟩
    | under hp =>
      k_search "go"
      k_search "go"
      k_search "go"
      k_search "go"
      k_search "go"
      k_search "go"
      k_search "go"
      k_search "gr"
      k_search "gc"
      refine el_nil ?_
      refine plain_yes (f := .cons (Str.ofString "h") .nil .nil) ok9 (by omega) ?_ ?_ ?_
      · exact .cons Tup.head ⟨by decide +kernel, by decide⟩ .nil .nil
      · decide
      refine ⟨true, rfl, fun _ => ?_, fun h => b_tf h⟩
      k_search "gc"
      exact ⟨_, Wk.ofJ fun _ => .tail _, k _⟩
    | list hp =>
      k_search "go"
      k_search "go"
      k_search "go"
      k_search "go"
      k_search "go"
      k_search "go"
      k_search "go"
      k_search "gr"
      k_search "gc"
      refine el_nil ?_
      refine plain_yes (f := .cons (Str.ofString "h") .nil .nil) ok9 (by omega) ?_ ?_ ?_
      · exact .cons Tup.head ⟨by decide +kernel, by decide⟩ .nil .nil
      · decide
      refine ⟨true, rfl, fun _ => ?_, fun h => b_tf h⟩
      k_search "gc"
      exact ⟨_, Wk.ofJ fun _ => .tail _, k _⟩
    | @vop p9 u9 us9 hp =>
      k_search "go"
      k_search "go"
      k_search "go"
      k_search "go"
      k_search "go"
      k_search "go"
      k_search "go"
      k_search "gr"
      k_search "gc"
      refine el_nil ?_
      refine plain_no (us := []) (s := Str.ofString "?h") (t := u9) ok9 (by omega) (fun _ _ _ => ?_) ?_ ?_ (Nat.zero_le _) ?_
      · exact Tup.head.has
      · decide +kernel
      · decide +kernel
      · exact ⟨false, rfl, fun h => b_ft h, fun _ => ⟨_, Wk.ofJ fun _ => .tail _, k _⟩⟩
    | flat h1 h2 h3 h4 hz2 =>
      k_search "go"
      k_search "go"
      k_search "go"
      k_search "go"
      k_search "go"
      k_search "go"
      k_search "go"
      k_search "go"
      k_search "go"
      exact ⟨_, Wk.refl, k _⟩
end
section
open PySem PySem.W PySem.Spec PySem.Calls PyProof.Rows PyProof.Rows.LCg
set_option maxRecDepth 100000
theorem perm2 {x y : Str} {ss : List Str} (hp : List.Perm ss [x, y]) (hs : sortedS ss = true) (hlt : sortedS [y, x] = false) : ss = [x, y] := by
  have hlen := hp.length_eq
  match ss, hlen, hp, hs with
  | [p, q], _, hp2, hs =>
    have h3 : p = x ∨ p = y := by simpa using hp2.mem_iff.mp (List.mem_cons_self ..)
    rcases h3 with rfl | rfl
    · rw [List.perm_singleton.mp (List.Perm.cons_inv hp2)]
    · have := List.perm_singleton.mp (List.Perm.cons_inv (hp2.trans (List.Perm.swap _ _ _)))
      rw [List.cons.injEq] at this
      obtain ⟨rfl, _⟩ := this
      rw [hlt] at hs
      cases hs
theorem slice_q {s : Str} (h : s = Str.ofString "?x" ∨ s = Str.ofString "?y") : Txt.slice s none (some 1) = Str.ofString "?" ∧ s.length ≤ 1000 := by
  rcases h with rfl | rfl
  · exact ⟨by decide +kernel, by decide +kernel⟩
  · exact ⟨by decide +kernel, by decide +kernel⟩
theorem places_yes : SeqAt.shaped (.list ([Str.ofString "?x", Str.ofString "?y"].map .str)) = true ∧ (PyData.list ([Str.ofString "?x", Str.ofString "?y"].map .str)).eqv (.list ([Str.ofString "?x", Str.ofString "?y"].map .str)) = true := ⟨by decide +kernel, by decide +kernel⟩
theorem places_yes1 : SeqAt.shaped (.list ([Str.ofString "?x"].map .str)) = true ∧ (PyData.list ([Str.ofString "?x"].map .str)).eqv (.list ([Str.ofString "?x"].map .str)) = true := ⟨by decide +kernel, by decide +kernel⟩
theorem sort_xy : sortedS [Str.ofString "?y", Str.ofString "?x"] = false := by decide +kernel
theorem bent_shape {x : Fx} {J : Led} {v : Value} {i : Nat} (X : (Mine.hd.heap_1 x.w.params).In x.h₀) (hx : BentV v i) : Shape x J v false := by
  have K : ∀ {x' : Fx} {a : Addr} {vs : List Value} {n : Nat}, (Mine.hd.heap_1 x'.w.params).In x'.h₀ → (Mine.hd.heap_1 x'.w.params).lookup a = some (tupN vs n) → HasT x' J a vs := fun X h => ⟨_, .inr (X _ _ h)⟩
  cases hx with
  | b0 => exact .nil (K X (by k_is))
  | b1 => exact .one (K X (by k_is))
  | b2 => exact .long (K X (by k_is)) (Nat.le_of_ble_eq_true rfl) .told3
  | b3 => exact .long (K X (by k_is)) (Nat.le_of_ble_eq_true rfl) (.sameV (s := Str.ofString "?x") (fun x' _ X' => K X' (by k_is)) (by decide +kernel) (by decide +kernel))
  | b4 => exact .long (K X (by k_is)) (Nat.le_of_ble_eq_true rfl) .sameS
  | b5 => exact .long (K X (by k_is)) (Nat.le_of_ble_eq_true rfl) .ruleS
  | b6 =>
    refine .long (K X (by k_is)) (Nat.le_of_ble_eq_true rfl) (.rule (ps := [(Str.ofString "?y", 461, .ref 225), (Str.ofString "?x", 463, .ref 227)]) (vs := [.ref 226, .ref 228]) (fun x' _ X' => ⟨K X' (by k_is), .cons (K X' (by k_is)) (slice_q (.inr rfl)).1 (slice_q (.inr rfl)).2 (.cons (K X' (by k_is)) (slice_q (.inl rfl)).1 (slice_q (.inl rfl)).2 .nil)⟩) (.inr rfl) (show [Str.ofString "?y", Str.ofString "?x"].Nodup by decide +kernel) (fun ss hp hs => ?_) (by decide +kernel) fun h => b_ft h)
    obtain rfl := perm2 (hp.trans (List.Perm.swap _ _ _)) hs (by decide +kernel)
    exact ⟨by decide +kernel, by decide +kernel⟩
  | b7 =>
    have h := Long.flat (x := x) (J := J) (h := Str.ofString "what") (us := [.ref 231]) (by decide +kernel) (by decide +kernel) (by decide +kernel) (by decide +kernel) (Nat.le_of_ble_eq_true rfl)
    rw [show (Str.ofString "what" == Str.ofString "turn") = false by decide +kernel, show (Str.ofString "what" == Str.ofString "join") = false by decide +kernel] at h
    exact .long (K X (by k_is)) (Nat.le_of_ble_eq_true rfl) h
  | b8 => exact .str
  | b9 => exact .int
  | b10 => exact .one (K X (by k_is))
  | b11 => exact .ref (K X (by k_is)) (Nat.le_of_ble_eq_true rfl) (K X (by k_is))
theorem nd_shape {x : Fx} {J : Led} {v : Value} {t : Th} (X : (Mine.hd.heap_1 x.w.params).In x.h₀) (hx : ThIn J v t) (hz : wtT t ≤ 80000) : Shape x J v (form t) := by
  obtain ⟨w, n, kd⟩ := t
  obtain ⟨rfl, us, hn, hk⟩ := hx
  simp only at hn hk hz ⊢
  have hl : us.length = lenF kd := hk.len
  have hw : us.length ≤ 80000 := by have := lenF_wt kd; simp only [wtT] at hz; omega
  have flat : ∀ (h : Str) (a : Addr) (t : Tok) (c : Bool), Tup J a (.str h t :: us) → (h == Str.ofString "same") = false → (h == Str.ofString "told") = false → (h == Str.ofString "rule") = false → (h == Str.ofString "under") = false →
      (us.length = 0 → c = false) → (∀ n, us.length = n + 1 → c = ((h == Str.ofString "turn") && (((us.length + 1 : Nat) : Int) == 2) || ((h == Str.ofString "join") && (((us.length + 1 : Nat) : Int) == 3)))) → Shape x J (.ref a) c := by
    intro h a t c hm h1 h2 h3 h4 h5 h6
    cases us with
    | nil => rw [h5 rfl]; exact .one hm.has
    | cons v us => rw [h6 _ rfl]; exact .long hm.has (Nat.le_of_succ_le hw) (.flat h1 h2 h3 h4 hw)
  cases hn with
  | told m => exact .long m.has (Nat.zero_le _) .told
  | same m h => exact .long m.has (Nat.zero_le _) (.same h (by simp only [wtT, wn] at hz; omega))
  | @rule1 a p q t u r v f m1 m2 m3 h =>
    refine .long m1.has (Nat.le_of_ble_eq_true rfl) (.rule (ps := [(Str.ofString "?x", r, v)]) (vs := [.ref q]) (fun x' _ _ => ⟨m2.has, .cons m3.has (slice_q (.inl rfl)).1 (slice_q (.inl rfl)).2 .nil⟩) (.inl rfl) (by simp) (fun ss hp hs => ?_) places_yes1.1 fun _ i s t v hi => ?_)
    · obtain rfl := List.perm_singleton.mp hp
      exact places_yes1
    · cases i with
      | zero => cases hi; exact ⟨f, h, by simp only [wtT, wn] at hz; omega⟩
      | succ i => cases hi
  | @rule2 a p q o t u r k v c f m1 m2 m3 m4 h =>
    refine .long m1.has (Nat.le_of_ble_eq_true rfl) (.rule (ps := [(Str.ofString "?x", r, v), (Str.ofString "?y", k, c)]) (vs := [.ref q, .ref o]) (fun x' _ _ => ⟨m2.has, .cons m3.has (slice_q (.inl rfl)).1 (slice_q (.inl rfl)).2 (.cons m4.has (slice_q (.inr rfl)).1 (slice_q (.inr rfl)).2 .nil)⟩) (.inr rfl) (show [Str.ofString "?x", Str.ofString "?y"].Nodup by decide +kernel) (fun ss hp hs => ?_) places_yes.1 fun _ i s t v hi => ?_)
    · obtain rfl := perm2 (x := Str.ofString "?x") (y := Str.ofString "?y") hp hs sort_xy
      exact places_yes
    · have hz2 : sz f ≤ 80000 := by simp only [wtT, wn] at hz; omega
      cases h with
      | cons g1 g2 g3 g4 =>
        simp only [sz] at hz2
        match i with
        | 0 => cases hi; exact ⟨_, .cons g1 g2 g3 .nil, by simp only [sz]; omega⟩
        | 1 => cases hi; exact ⟨_, g4, by omega⟩
  | bent h => exact bent_shape X h
  | turn m => exact flat _ _ _ _ m (by decide +kernel) (by decide +kernel) (by decide +kernel) (by decide +kernel) (fun e => by simp only [form, ← hl, e]; rfl) (fun n e => by
      rw [show (Str.ofString "turn" == Str.ofString "turn") = true by decide +kernel, show (Str.ofString "turn" == Str.ofString "join") = false by decide +kernel]
      simp only [form, ← hl, e, Bool.true_and, Bool.false_and, Bool.or_false]
      exact Bool.eq_iff_iff.mpr (by simp; omega))
  | join m => exact flat _ _ _ _ m (by decide +kernel) (by decide +kernel) (by decide +kernel) (by decide +kernel) (fun e => by simp only [form, ← hl, e]; rfl) (fun n e => by
      rw [show (Str.ofString "join" == Str.ofString "turn") = false by decide +kernel, show (Str.ofString "join" == Str.ofString "join") = true by decide +kernel]
      simp only [form, ← hl, e, Bool.true_and, Bool.false_and, Bool.false_or]
      exact Bool.eq_iff_iff.mpr (by simp; omega))
  | what m => exact flat _ _ _ _ m (by decide +kernel) (by decide +kernel) (by decide +kernel) (by decide +kernel) (fun _ => rfl) (fun n e => by
      rw [show (Str.ofString "what" == Str.ofString "turn") = false by decide +kernel, show (Str.ofString "what" == Str.ofString "join") = false by decide +kernel]; rfl)
  | under m h => exact .long m.has (Nat.le_of_ble_eq_true rfl) (.under h)
  | list m h => exact .long m.has (Nat.le_of_ble_eq_true rfl) (.list h)
  | vop m h => exact .long m.has (Nat.le_of_ble_eq_true rfl) (.vop h)
theorem form_ok {x : Fx} {G : Gh} {m : Loc} {K : Value → Gh → Prop} {v : Value} {t : Th} {d u : Nat} (ok : Ok x d u) (hd : d ≤ 600) (hu : u ≤ 7000) (ht : ThIn G.J v t) (hz : wtT t ≤ 80000) (k : ∀ d', K (.bool (form t)) ⟨G.M, G.J, d'⟩) : CallG x G m (.ref 131) [v] K :=
  form_walk ok hd hu (fun _ _ X => nd_shape X ht hz) k
end
section
open PySem PySem.W PySem.Spec PySem.Calls PyProof.Rows PyProof.Rows.LCg
set_option maxRecDepth 100000
set_option maxHeartbeats 4000000
inductive PSh (J : Led) : Value → List Value → Prop where
  | leaf {a : Addr} {h : Str} {t : Tok} {vs : List Value} : Tup J a (.str h t :: vs) → ([Str.ofString "turn", Str.ofString "join"].any fun y => y == h) = false → (h == Str.ofString "under") = false → PSh J (.ref a) []
  | flat {a : Addr} {h : Str} {t : Tok} {us : List Value} : Tup J a (.str h t :: us) → ([Str.ofString "turn", Str.ofString "join"].any fun y => y == h) = true → us.length ≤ 90000 → PSh J (.ref a) us
  | under {a p : Addr} {w : Value} {t : Tok} {us : List Value} : Tup J a [.str (Str.ofString "under") t, w, .ref p] → Tup J p us → PSh J (.ref a) us
theorem parts_walk {x : Fx} {G : Gh} {m : Loc} {K : Value → Gh → Prop} {v : Value} {us : List Value} {d u : Nat} (ok : Ok x d u) (hd : d ≤ 700) (h : PSh G.J v us) (k : ∀ D J', (∀ p ∈ G.J, p ∈ J') → Tup J' D us → K (.ref D) ⟨G.M, J', G.d⟩) : CallG x G m (.ref 112) [v] K := by
  refine enterG (binds := [(Str.ofString "paper", _)]) (by assumption) (by k_is) (by k_is) (rmL hd rfl) (by rfl) (by exact locs rfl) rfl rfl rfl (by decide) ?_
  intro x9 E9 ok9 hw9 he9 hE9
  have l1 : LocX x9 (Str.ofString "paper") := by k_search "gn"
  cases h with
  | leaf hm h1 h2 =>
    k_search "go"
    k_search "go"
    k_search "gr"
    k_search "gc"
    exact ⟨_, Wk.refl, k _ _ (fun _ => .tail _) Tup.head⟩
  | flat hm h1 hz =>
    k_search "go"
    k_search "gr"
    exact ⟨_, Wk.refl, k _ _ (fun _ => .tail _) Tup.head⟩
  | under hm hp =>
    k_search "go"
    k_search "go"
    k_search "gr"
    k_search "gc"
    exact ⟨_, Wk.refl, k _ _ (fun _ h => h) hp⟩
theorem parts_ok {x : Fx} {G : Gh} {m : Loc} {K : Value → Gh → Prop} {v : Value} {t : Th} {d u : Nat} (ok : Ok x d u) (hd : d ≤ 700) (hx : ThIn G.J v t) (hf : form t = true) (hz : wtT t ≤ 90000) (k : ∀ D J' us, (∀ p ∈ G.J, p ∈ J') → Tup J' D us → FoIn G.J us (kids t) → K (.ref D) ⟨G.M, J', G.d⟩) : CallG x G m (.ref 112) [v] K := by
  have hk : kids t = t.k := if_pos hf
  rw [hk] at k
  obtain ⟨w, n, kd⟩ := t
  obtain ⟨rfl, us, hn, hk⟩ := hx
  simp only at hn hk hz k hf ⊢
  refine parts_walk ok hd ?_ fun D J' h1 h2 => k D J' us h1 h2 hk
  have hw : us.length ≤ 90000 := by have := lenF_wt kd; have := hk.len; simp only [wtT] at hz; omega
  cases hn with
  | told m => exact .leaf m (by decide +kernel) (by decide +kernel)
  | same m => exact .leaf m (by decide +kernel) (by decide +kernel)
  | rule1 m => exact .leaf m (by decide +kernel) (by decide +kernel)
  | rule2 m => exact .leaf m (by decide +kernel) (by decide +kernel)
  | bent => cases hf
  | turn m => exact .flat m (by decide +kernel) hw
  | join m => exact .flat m (by decide +kernel) hw
  | what => cases hf
  | under m h => exact .under m h
  | list => cases hf
  | vop => cases hf
end
section
open PySem PySem.W PySem.Spec PySem.Calls PyProof.Rows PyProof.Rows.LCg
set_option maxRecDepth 100000
set_option maxHeartbeats 4000000
def OrdI (wl fl c : Addr) (M0 J0 : Led) (t : Th) (k : Nat) (G1 : Gh) (m1 : Loc) : Prop :=
  ∃ fs ws fps wps kf kw o J' d', G1 = ⟨(wl, listOf (List.toArray ws) kw) :: (fl, listOf (List.toArray fs) kf) :: (c, o) :: M0, J', d'⟩ ∧ (∀ p ∈ J0, p ∈ J') ∧ (∃ u, o.data = .cell u) ∧ All2 (PairT J') fs fps ∧ All2 (PairT J') ws wps ∧
    (wps.flatMap fun r => po r.1 r.2) ++ fps.reverse = po [] t ∧ k = (wps.flatMap fun r => po r.1 r.2).length ∧ wps.length ≤ k ∧ m1 (Str.ofString "found") = some (.ref fl) ∧ m1 (Str.ofString "waiting") = some (.ref wl)
theorem flat_len (l : List (List Int × Th)) : l.length ≤ (l.flatMap fun r => po r.1 r.2).length := by
  induction l with
  | nil => exact Nat.le_refl _
  | cons r l ih => rw [List.flatMap_cons, List.length_append, po, List.length_append, List.length_singleton, List.length_cons]; omega
theorem All2.snocInv {α : Type} {R : Value → α → Prop} {p : List Value} {y : Value} {xs : List α} (h : All2 R (p ++ [y]) xs) : ∃ xs' r, xs = xs' ++ [r] ∧ All2 R p xs' ∧ R y r := by
  induction p generalizing xs with
  | nil =>
    cases h with
    | cons h1 h2 => cases h2; exact ⟨[], _, rfl, .nil, h1⟩
  | cons q p ih =>
    cases h with
    | cons h1 h2 =>
      obtain ⟨xs', r, rfl, h3, h4⟩ := ih h2
      exact ⟨_ :: xs', r, rfl, .cons h1 h3, h4⟩
theorem All2.rev {α : Type} {R : Value → α → Prop} {vs : List Value} {xs : List α} (h : All2 R vs xs) : All2 R vs.reverse xs.reverse := by
  induction h with
  | nil => exact .nil
  | cons h1 _ ih => simp only [List.reverse_cons]; exact ih.snoc h1
theorem order_ok {x : Fx} {G : Gh} {m : Loc} {K : Value → Gh → Prop} {v : Value} {t : Th} {d u : Nat} (ok : Ok x d u) (hd : d ≤ 500) (hu : u ≤ 6000) (hx : ThIn G.J v t) (hz : wtT t ≤ 10000)
    (k : ∀ l J' n d' vs, (∀ p ∈ G.J, p ∈ J') → (l, listOf (List.toArray vs) n) ∈ J' → All2 (PairT J') vs (po [] t) → K (.ref l) ⟨G.M, J', d'⟩) : CallG x G m (.ref 136) [v] K := by
  refine enterC (binds := [(Str.ofString "paper", _)]) (by assumption) (by k_is) (by k_is) (rmL hd rfl) (by rfl) rfl (by decide +kernel) rfl rfl rfl (hord_one (y := Str.ofString "path") fun _ => rfl) ?_
  intro x9 E9 cells ok9 hw9 hH9 he9 hE9 hc
  obtain ⟨oc, rfl, hoc⟩ := CellsAre.one (show CellsAre _ [(Str.ofString "path", x9.L + 1)] cells from hc)
  have l1 : LocX x9 (Str.ofString "paper") := by k_search "gn"
  have l2 : LocX x9 (Str.ofString "found") := by k_search "gn"
  have l3 : LocX x9 (Str.ofString "waiting") := by k_search "gn"
  have l4 : LocX x9 (Str.ofString "one") := by k_search "gn"
  have c1 : CellX x9 (Str.ofString "path") (x9.L + 1) := cellX he9 rfl rfl rfl (by decide)
  have c1r := c1.rd
  have g1 : NameIs x9 (Str.ofString "len") (.builtin "len") := by k_search "gn"
  have g2 : NameIs x9 (Str.ofString "has_form") (.ref 131) := by k_search "gn"
  have g3 : NameIs x9 (Str.ofString "enumerate") (.type "enumerate") := by k_search "gn"
  have g4 : NameIs x9 (Str.ofString "parts_of") (.ref 112) := by k_search "gn"
  (with_reducible apply go_asg2)
  · assumption
  · assumption
  · k_search "gw"
  · k_search "gw"
  refine el_cons ?_ ?_
  · k_search "gs"
  refine ec_listM ?_
  k_search "gl"
  refine ⟨Nat.zero_le _, fun fl => ?_⟩
  refine el_cons ?_ ?_
  · k_search "gs"
  refine ec_listM ?_
  refine el_cons ?_ ?_
  · k_search "gs"
  refine ec_tup ?_
  refine el_cons ?_ ?_
  · k_search "gs"
  k_search "gc"
  rename_i b
  k_search "gl"
  refine ⟨Nat.le_of_ble_eq_true rfl, fun a => ?_⟩
  refine el_nil ?_
  refine ⟨Nat.le_of_ble_eq_true rfl, fun wl => ?_⟩
  refine el_nil ?_
  refine ⟨_, _, rfl, ?_⟩
  have hb := poT_bound t []
  refine go_while (OrdI wl fl (x9.L + 1) G.M G.J t)
    (k := (po [] t).length) ?_ ?_ hE9
  · refine ⟨[], [.ref a], [], [([], t)], 0, 0, oc, _, G.d, rfl, fun p hp => .tail _ (.tail _ hp), ⟨_, hoc⟩, .nil, .cons ⟨a, .ref b, v, rfl, Tup.head, ⟨b, [], rfl, Tup.head.tail, .nil⟩, hx.mono fun p hp => .tail _ (.tail _ hp)⟩ .nil, ?_, ?_, ?_, rfl, rfl⟩
    · rw [List.flatMap_singleton]; exact List.append_nil _
    · rw [List.flatMap_singleton]
    · exact Nat.le_trans (Nat.le_of_eq rfl) (by rw [po, List.length_append]; exact Nat.le_add_left _ _)
  rintro k9 G1 m1 ⟨fs, ws, fps, wps, kf, kw, o, J', d', rfl, hsub, ⟨uc, ho⟩, hfs, hws, hpo, rfl, hlw, hm1, hm2⟩
  have hl1 := hfs.length
  have hl2 := hws.length
  have hl3 : (wps.flatMap fun r => po r.1 r.2).length + fps.length = (po [] t).length := by rw [← hpo, List.length_append, List.length_reverse]
  have hz1 : fs.length ≤ 90000 := by omega
  have hz2 : ws.length ≤ 10000 := by omega
  rcases snoc_cases ws with rfl | ⟨p, y, rfl⟩
  · k_search "gtc"
    k_search "go"
    refine cg_reverse (.tail .head) hz1 ?_
    k_search "go"
    have h0 : wps = [] := by cases hws; rfl
    subst h0
    rw [show po [] t = fps.reverse from hpo.symm] at k
    refine ⟨⟨G.M, (fl, listOf fs.reverse.toArray kf) :: J', d'⟩, ?_, k _ _ _ _ _ (fun p hp => .tail _ (hsub p hp)) (.head _) (hfs.rev.mono fun _ _ h => h.mono fun _ => .tail _)⟩
    refine ⟨rfl, [_, _, _], rfl, fun p hp => ?_⟩
    rcases List.mem_cons.mp hp with rfl | hp
    · exact .tail _ (.head _)
    · exact .tail _ (.tail _ (.tail _ hp))
  · obtain ⟨wps', r, rfl, hws2, hy⟩ := hws.snocInv
    obtain ⟨a1, pv, tv, rfl, hpm, hpath, hth⟩ := hy
    have hr := hb.2 r (by rw [← hpo, po_snoc]; simp)
    have hr2 : r.1.length ≤ 10000 := by have := hr.2; rw [List.length_nil, Nat.zero_add] at this; omega
    have hz3 : p.length ≤ 90000 := by rw [List.length_append] at hz2; omega
    refine tc_pure (b := true) ?_ ⟨fun _ => ?_, fun h => b_tf h⟩
    · exact tg_cmp (by k_search "ge") (by k_search "ge") rfl (fun _ _ => cmp_gtI (by simp))
    k_search "go0"
    refine cg_pop At.head hz3 ?_
    refine at_tup (Tup.has (hpm.mono fun _ h => h)) ?_ rfl ?_
    · rw [he9]; rfl
    refine at_cell c1 (.tail (.tail .head)) ho fun o2 ho2 => ?_
    refine at_loc (by assumption) (show Go _ _ _ _ _ _ from ?_)
    k_search "go"
    rename_i D1
    refine cg_append (.tail .head) hz1 ?_
    have hs1 : ∀ p ∈ J', p ∈ (D1, tupO [pv, tv]) :: J' := fun p hp => .tail _ hp
    have hfs2 := (hfs.mono fun _ _ h => h.mono hs1).snoc (show PairT ((D1, tupO [pv, tv]) :: J') (.ref D1) r from ⟨D1, pv, tv, rfl, Tup.head, hpath.mono hs1, hth.mono hs1⟩)
    have hws3 := hws2.mono fun _ _ h => h.mono hs1
    refine go_ifC ?_
    refine tc_call ?_
    k_search "gc"
    refine form_ok ok9 (rmD hd rfl) (rmU hu rfl) (hth.mono hs1) (by omega) fun d2 => ⟨form r.2, rfl, fun hf => ?_, fun hf => ?_⟩
    · obtain ⟨ap, avs, rfl, hap, hai⟩ := hpath
      have hal := hai.length
      refine go_expr ?_ ?_ ?_
      · rw [he9]; exact rfl
      · k_search "gw"
      k_search "gme1"
      refine ec_enum (cl := [(Str.ofString "path", x9.L + 1)]) (by assumption) (by k_search "gs") rfl rfl (by decide) (by decide) (by decide) (by rw [he9]; rfl) (by decide) rfl (by decide) (by intro _; rfl) ?_
      k_search "gc"
      refine parts_ok ok9 (by omega) (hth.mono hs1) hf (by omega) fun D2 J2 us hs2 hT hF => ?_
      have hs3 : ∀ p ∈ J', p ∈ J2 := fun p hp => hs2 p (hs1 p hp)
      obtain ⟨n2, hT2⟩ := hT
      have hul := hF.len
      replace hF := hF.mono hs2
      have hul2 := lenF_wt (kids r.2)
      have hul3 := kids_wt r.2
      refine ⟨D2, us, n2, fun i ys M J => M = (wl, listOf p.toArray (kw + 1)) :: (fl, listOf (fs ++ [Value.ref D1]).toArray (kf + 1)) :: (x9.L + 1, o2) :: G.M ∧ (∀ p ∈ J2, p ∈ J) ∧ All2 (PairT J) ys ((ups r.1 0 (kids r.2)).take i), rfl, by omega, ⟨rfl, fun _ h => h, .nil⟩, ?_, ?_, ?_⟩
      · rintro i ys M J ⟨_, h, _⟩; exact h _ hT2
      · rintro i w t9 ys M J x8 hv ⟨rfl, hsJ, hys⟩ hin n1 n3
        have cr : CellR x8 (Str.ofString "path") (x9.L + 1) := hin.cell he9 (fun _ => rfl) rfl rfl (by decide)
        obtain ⟨kt, hkt, hkt2⟩ := hF.at hv
        have hap2 := hap.mono fun p hp => hsJ p (hs3 p hp)
        refine ec_tup ?_
        refine el_cons ?_ ?_
        · k_search "gs"
        refine ec_bin ?_
        k_search "gc"
        k_search "gc"
        refine bin_tups hap2.tail Tup.head (by simp only [List.length_cons, List.length_nil]; omega) fun D4 J4 hs4 hT4 => ?_
        (with_reducible apply el_consP)
        · k_search "ge"
        · k_search "gs"
        intro _
        refine el_nil ?_
        refine ⟨Nat.le_of_ble_eq_true rfl, fun D5 => ⟨rfl, rfl, fun p hp => .tail _ (hs4 p (.tail _ (hsJ p hp))), ?_⟩⟩
        rw [take_one (ups_at r.1 (j := 0) hkt), Int.zero_add]
        have hs5 : ∀ q ∈ J, q ∈ (D5, tupO [Value.ref D4, w]) :: J4 := fun q hq => .tail _ (hs4 q (.tail _ hq))
        exact (hys.mono fun _ _ h => h.mono hs5).snoc ⟨D5, .ref D4, w, rfl, Tup.head, ⟨D4, _, rfl, hT4.tail, hai.append (.cons _ _ .nil)⟩, hkt2.mono fun q hq => hs5 q (hsJ q hq)⟩
      · rintro D3 ys M J ⟨rfl, hsJ, hys⟩
        rw [hul, ← ups_len r.1 0, List.take_length] at hys
        have hyl := hys.length
        rw [ups_len] at hyl
        refine cg_extL .head (.head _) (by rw [List.length_append, List.length_singleton] at hz2; omega) fun k' => ?_
        k_search "go"
        refine go_nil ?_
        have e1 : (wps' ++ [r]).flatMap (fun r => po r.1 r.2) = (wps' ++ ups r.1 0 (kids r.2)).flatMap (fun r => po r.1 r.2) ++ [r] := by rw [po_snoc, List.flatMap_append, ups_po, List.append_assoc]
        rw [e1] at hpo hl3
        rw [e1]
        have hs6 : ∀ q ∈ J', q ∈ (D3, lst ys) :: J := fun q hq => .tail _ (hsJ q (hs3 q hq))
        refine ⟨_, ?_, _, _, fps ++ [r], wps' ++ ups r.1 0 (kids r.2), _, _, o2, _, d2, rfl, fun p hp => hs6 p (hsub p hp), ⟨_, ho2⟩, hfs2.mono fun _ _ h => h.mono fun q hq => .tail _ (hsJ q (hs2 q hq)), (hws2.mono fun _ _ h => h.mono hs6).append (hys.mono fun _ _ h => h.mono fun _ => .tail _), ?_, rfl, flat_len _, hm1, hm2⟩
        · rw [List.length_append]; exact Nat.lt_succ_self _
        · rw [← hpo, List.reverse_append]; simp
    · k_search "go"
      refine go_nil ?_
      have hk : kids r.2 = .nil := if_neg (by rw [hf]; exact Bool.false_ne_true)
      have e1 : (wps' ++ [r]).flatMap (fun r => po r.1 r.2) = wps'.flatMap (fun r => po r.1 r.2) ++ [r] := by rw [po_snoc, hk]; rfl
      rw [e1] at hpo hl3
      rw [e1]
      refine ⟨_, ?_, _, _, fps ++ [r], wps', _, _, o2, _, d2, rfl, fun p hp => hs1 p (hsub p hp), ⟨_, ho2⟩, hfs2, hws3, ?_, rfl, flat_len _, hm1, hm2⟩
      · rw [List.length_append]; exact Nat.lt_succ_self _
      · rw [← hpo, List.reverse_append]; simp
end
section
open PySem PySem.W PySem.Spec PySem.Calls PyProof.Rows PyProof.Rows.LCg
set_option maxRecDepth 100000
set_option maxHeartbeats 4000000
theorem want_ok {x : Fx} {G : Gh} {m : Loc} {K : Value → Gh → Prop} {X : ExP} {v pv : Value} {t : Th} {d u : Nat} (ok : Ok x d u) (hd : d ≤ 380) (hu : u ≤ 1200) (ht : ThIn G.J v t) (hz : wtT t ≤ 80000) (k : form t = true → ∀ d', K .none ⟨G.M, G.J, d'⟩) (hx : form t = false → X pv G.J) : CallE x G m (.ref 143) [v, pv] K X := by
  refine enterE (binds := [(Str.ofString "paper", _), (Str.ofString "path", _)]) (by assumption) (by k_is) (by k_is) (rmL hd rfl) (by rfl) (by exact locs rfl) rfl rfl rfl (by decide) ?_
  intro x9 E9 ok9 hw9 he9 hE9 hX9
  have l1 : LocX x9 (Str.ofString "paper") := by k_search "gn"
  have l2 : LocX x9 (Str.ofString "path") := by k_search "gn"
  have g1 : NameIs x9 (Str.ofString "has_form") (.ref 131) := by k_search "gn"
  have g2 : NameIs x9 (Str.ofString "PaperFault") (.ref 81) := by k_search "gn"
  refine go_ifC ?_
  refine tc_not ?_
  refine tc_call ?_
  k_search "gc"
  refine form_ok ok9 (rmD hd rfl) (rmU hu rfl) ht hz fun d' => ⟨form t, rfl, fun hf => ?_, fun hf => ?_⟩
  · have hf' : form t = false := by cases e : form t <;> simp [e] at hf ⊢
    refine go_raise ok9 (rmD hd rfl) (rmU hu rfl) (by assumption) (by k_is) (by k_search "gs") (by intro _; rfl) ?_ hX9
    k_search "gl"
    exact ⟨_, _, _, rfl, hx hf'⟩
  · have hf' : form t = true := by cases e : form t <;> simp [e] at hf ⊢
    k_search "go"
    exact go_nil ⟨_, Wk.refl, k hf' d'⟩
end
section
open PySem PySem.W PySem.Spec PySem.Calls PyProof.Rows PyProof.Rows.LCg
set_option maxRecDepth 100000
set_option maxHeartbeats 4000000
theorem find_at {rows : List (List Int × Th)} {i : Nat} {r : List Int × Th} (h : rows[i]? = some r) (hp : ∀ q ∈ rows.take i, form q.2 = true) (hb : form r.2 = false) : rows.find? (fun q => !form q.2) = some r := by
  induction rows generalizing i with
  | nil => cases h
  | cons x l ih =>
    cases i with
    | zero => cases h; rw [List.find?_cons, hb]; rfl
    | succ i =>
      have hx : form x.2 = true := hp x (by simp)
      rw [List.find?_cons, hx]
      exact ih h fun q hq => hp q (by simp [hq])
theorem All2.at {α : Type} {R : Value → α → Prop} {vs : List Value} {xs : List α} (k : All2 R vs xs) : ∀ {i : Nat} {v : Value}, vs[i]? = some v → ∃ x, xs[i]? = some x ∧ R v x := by
  induction k with
  | nil => intro i v h; cases h
  | cons a _ ih =>
    intro i v h
    cases i with
    | zero => cases h; exact ⟨_, rfl, a⟩
    | succ i => exact ih h
theorem head_of {J : Led} {v : Value} {t : Th} (hx : ThIn J v t) (hf : form t = true) : ∃ a h tk vs, v = .ref a ∧ Tup J a (.str h tk :: vs) ∧ ([Str.ofString "told", Str.ofString "rule"].any fun y => y == h) = isTR t := by
  obtain ⟨w, n, kd⟩ := t
  obtain ⟨rfl, us, hn, hk⟩ := hx
  simp only at hn hf
  cases hn with
  | told m => exact ⟨_, _, _, _, rfl, m, rfl⟩
  | same m => exact ⟨_, _, _, _, rfl, m, rfl⟩
  | rule1 m => exact ⟨_, _, _, _, rfl, m, rfl⟩
  | rule2 m => exact ⟨_, _, _, _, rfl, m, rfl⟩
  | bent => cases hf
  | turn m => exact ⟨_, _, _, _, rfl, m, rfl⟩
  | join m => exact ⟨_, _, _, _, rfl, m, rfl⟩
  | what => cases hf
  | under m h => exact ⟨_, _, _, _, rfl, m, rfl⟩
  | list => cases hf
  | vop => cases hf
theorem count_ok {x : Fx} {G : Gh} {m : Loc} {K : Value → Gh → Prop} {X : ExP} {jv v : Value} {t : Th} {d u : Nat} (ok : Ok x d u) (hd : d ≤ 350) (hu : u ≤ 1000) (ht : ThIn G.J v t) (hz : wtT t ≤ 10000)
    (k : (∀ r ∈ po [] t, form r.2 = true) → ∀ J' d' tk, (∀ p ∈ G.J, p ∈ J') → K (.int (cnt (po [] t)) tk) ⟨G.M, J', d'⟩) (hx : ∀ r, (po [] t).find? (fun q => !form q.2) = some r → ∀ J' pv, (∀ p ∈ G.J, p ∈ J') → PathT J' pv r.1 → X pv J') : CallE x G m (.ref 210) [jv, v] K X := by
  refine enterE (binds := [(Str.ofString "self", _), (Str.ofString "paper", _)]) (by assumption) (by k_is) (by k_is) (rmL hd rfl) (by rfl) (by exact locs rfl) rfl rfl rfl (by decide) ?_
  intro x9 E9 ok9 hw9 he9 hE9 hX9
  have l1 : LocX x9 (Str.ofString "paper") := by k_search "gn"
  have l2 : LocX x9 (Str.ofString "many") := by k_search "gn"
  have l3 : LocX x9 (Str.ofString "path") := by k_search "gn"
  have l4 : LocX x9 (Str.ofString "one") := by k_search "gn"
  have g1 : NameIs x9 (Str.ofString "in_order") (.ref 136) := by k_search "gn"
  have g2 : NameIs x9 (Str.ofString "want_form") (.ref 143) := by k_search "gn"
  k_search "go"
  refine go_for ?_ (by intro _; rfl) hE9
  k_search "gc"
  refine order_ok ok9 (rmD hd rfl) (rmU hu rfl) ht hz fun l J1 n d1 vs hs1 hl hrows => ?_
  have hb := poT_bound t []
  refine ⟨l, vs, n, rfl, fun i M J m => M = G.M ∧ (∀ p ∈ J1, p ∈ J) ∧ (∀ q ∈ (po [] t).take i, form q.2 = true) ∧ ∃ tk, m (Str.ofString "many") = some (.int (cnt ((po [] t).take i)) tk), ⟨rfl, fun _ h => h, (fun q hq => nomatch hq), _, rfl⟩, fun i M J m h => h.2.1 _ hl, ?_, ?_⟩
  · rintro i w M J d2 m2 q hv ⟨rfl, hsJ, hform, tk, hm⟩
    obtain ⟨r, hr, hp⟩ := hrows.at hv
    obtain ⟨pa, pv, tv, rfl, hpm, hpath, hth⟩ := hp.mono hsJ
    have hr2 := hb.2 r (List.mem_of_getElem? hr)
    have ok8 := ok9.hid (q := q)
    have he8 : (hid x9 q).env = _ := he9
    have l2 := l2.hid (q := q)
    have l4 := l4.hid (q := q)
    have l3 := l3.hid (q := q)
    have g2 := g2.hid (q := q)
    refine at_tup hpm.has (by rw [he8]; rfl) rfl (at_loc l3 (at_loc l4 (show Go _ _ _ _ _ _ from ?_)))
    (with_reducible apply go_exprE)
    · rw [he8]; rfl
    · k_search "gw"
    · exact hX9.hid
    refine ee_callK g2 ok8.K (by k_is) (by k_search "gs") (by intro _; rfl) ?_
    k_search "gl"
    refine want_ok ok8 (rmD hd rfl) (rmU hu rfl) hth (by omega) (fun hf d3 => ?_) fun hf => ?_
    · obtain ⟨a, h, tk2, us, rfl, hmh, hany⟩ := head_of hth hf
      k_search "go"
      refine go_nil ⟨rfl, rfl, hsJ, fun q hq => ?_, ?_⟩
      · rw [take_one hr] at hq
        rcases List.mem_append.mp hq with hq | hq
        · exact hform q hq
        · rw [List.mem_singleton.mp hq]; exact hf
      · rw [take_one hr, cnt_snoc]; exact ⟨_, rfl⟩
    · exact hx r (find_at hr hform hf) J pv (fun p hp => hsJ p (hs1 p hp)) hpath
  · rintro M J d2 m2 ⟨rfl, hsJ, hform, tk, hm⟩
    rw [hrows.length, List.take_length] at hform hm
    k_search "go"
    exact ⟨_, Wk.refl, k hform _ _ _ fun p hp => hsJ p (hs1 p hp)⟩
end
section
open PySem PySem.W PySem.Spec PySem.Calls PyProof.Rows PyProof.Rows.LCg
set_option maxRecDepth 100000
set_option maxHeartbeats 4000000
theorem turned_ok {x : Fx} {G : Gh} {m : Loc} {K : Value → Gh → Prop} {v : Value} {d u c b : Nat} (ok : Ok x d u) (hd : d ≤ 350) (hu : u ≤ 1000) (hg : GoodN G.J v c b)
    (k : ∀ v' J' d', (∀ p ∈ G.J, p ∈ J') → GoodN J' v' c (b + 2) → K v' ⟨G.M, J', d'⟩) : CallG x G m (.ref 150) [v] K := by
  have hg9 := hg
  obtain ⟨t, hx, hf, hk, rfl, hb⟩ := hg
  obtain ⟨a, h, tk, vs, rfl, hm, h1, h2⟩ := hd_info hx hf hk
  refine enterG (binds := [(Str.ofString "paper", _)]) (by assumption) (by k_is) (by k_is) (rmL hd rfl) (by rfl) (by exact locs rfl) rfl rfl rfl (by decide) ?_
  intro x9 E9 ok9 hw9 he9 hE9
  have l1 : LocX x9 (Str.ofString "paper") := by k_search "gn"
  refine go_if (by k_search "gt") ⟨fun h3 => ?_, fun h3 => ?_⟩
  · obtain ⟨v1, rfl, hv1⟩ := h1 h3
    k_search "go"
    exact ⟨_, Wk.refl, k _ _ _ (fun _ h => h) (hv1.imp fun _ q => ⟨q.1, q.2.1, q.2.2.1, q.2.2.2.1, by have := q.2.2.2.2; omega⟩)⟩
  · k_search "go"
    k_search "gr"
    · k_search "gc"
      exact ⟨_, Wk.refl, k _ _ _ (fun _ h => h) (hg9.imp fun _ q => ⟨q.1, q.2.1, q.2.2.1, q.2.2.2.1, by have := q.2.2.2.2; omega⟩)⟩
    · k_search "gc"
      exact ⟨_, Wk.refl, k _ _ _ (fun _ h => .tail _ h) (good_turn Tup.head (hg9.mono fun _ h => .tail _ h))⟩
theorem joined_ok {x : Fx} {G : Gh} {m : Loc} {K : Value → Gh → Prop} {v w : Value} {d u c b c2 b2 : Nat} (ok : Ok x d u) (hd : d ≤ 350) (hu : u ≤ 1000) (hg : GoodN G.J v c b) (hg2 : GoodN G.J w c2 b2)
    (k : ∀ v' J' d', (∀ p ∈ G.J, p ∈ J') → GoodN J' v' (c + c2) (b + b2 + 2) → K v' ⟨G.M, J', d'⟩) : CallG x G m (.ref 157) [v, w] K := by
  have hg9 := hg
  have hg8 := hg2
  obtain ⟨t, hx, hf, hk, rfl, hb⟩ := hg
  obtain ⟨t2, hx2, hf2, hk2, rfl, hb2⟩ := hg2
  obtain ⟨a, h, tk, vs, rfl, hm, h1, h2⟩ := hd_info hx hf hk
  obtain ⟨a2, h', tk2, vs2, rfl, hm2, h3, h4⟩ := hd_info hx2 hf2 hk2
  refine enterG (binds := [(Str.ofString "one", _), (Str.ofString "other", _)]) (by assumption) (by k_is) (by k_is) (rmL hd rfl) (by rfl) (by exact locs rfl) rfl rfl rfl (by decide) ?_
  intro x9 E9 ok9 hw9 he9 hE9
  have l1 : LocX x9 (Str.ofString "one") := by k_search "gn"
  have l2 : LocX x9 (Str.ofString "other") := by k_search "gn"
  refine go_if (by k_search "gt") ⟨fun h5 => ?_, fun h5 => ?_⟩
  · k_search "go"
    have := (h2 h5).1
    exact ⟨_, Wk.refl, k _ _ _ (fun _ h => h) (hg8.imp fun _ q => ⟨q.1, q.2.1, q.2.2.1, by have := q.2.2.2.1; omega, by have := q.2.2.2.2; omega⟩)⟩
  · k_search "go"
    k_search "gr"
    · rename_i h6
      have := (h4 h6).1
      k_search "gc"
      exact ⟨_, Wk.refl, k _ _ _ (fun _ h => h) (hg9.imp fun _ q => ⟨q.1, q.2.1, q.2.2.1, by have := q.2.2.2.1; omega, by have := q.2.2.2.2; omega⟩)⟩
    · k_search "gc"
      exact ⟨_, Wk.refl, k _ _ _ (fun _ h => .tail _ h) (good_join Tup.head (hg9.mono fun _ h => .tail _ h) (hg8.mono fun _ h => .tail _ h))⟩
theorem under_ok {x : Fx} {G : Gh} {m : Loc} {K : Value → Gh → Prop} {l : Addr} {vs : List Value} {ts : List Th} {tk : Tok} {n d u : Nat} (ok : Ok x d u) (hd : d ≤ 350) (hu : u ≤ 1000) (hl : (l, listOf (List.toArray vs) n) ∈ G.J) (hg : All2 (GoodT G.J) vs ts) (hz : ts.length ≤ 10000)
    (k : ∀ v' J' d', (∀ p ∈ G.J, p ∈ J') → GoodN J' v' (ts.map cntT).sum ((ts.map wtT).sum + 2) → K v' ⟨G.M, J', d'⟩) : CallG x G m (.ref 162) [.str (Str.ofString "h") tk, .ref l] K := by
  refine enterG (binds := [(Str.ofString "op", _), (Str.ofString "papers", _)]) (by assumption) (by k_is) (by k_is) (rmL hd rfl) (by rfl) (by exact locs rfl) rfl rfl rfl (by decide) ?_
  intro x9 E9 ok9 hw9 he9 hE9
  have l1 : LocX x9 (Str.ofString "op") := by k_search "gn"
  have l2 : LocX x9 (Str.ofString "papers") := by k_search "gn"
  have g1 : NameIs x9 (Str.ofString "tuple") (.type "tuple") := by k_search "gn"
  have hun : x9.A.units + 64 < cLine := by have := ok9.units; rw [cLine_is]; omega
  have hun2 : x9.A.units < cLine := by omega
  have hlen := hg.length
  refine go_ifC ?_
  refine tc_cmp (by rfl) ?_
  k_search "gcomp"
  k_search "gc"
  refine ⟨l, _, vs, n, fun i ys M J => (ys = [] → All2 (SameP G.J) (vs.take i) (ts.take i)) ∧ M = G.M ∧ J = G.J, rfl, .inl rfl, by omega, ⟨fun _ => .nil, rfl, rfl⟩, ?_, ?_, ?_⟩
  · rintro i ys M J ⟨_, rfl, rfl⟩; exact .inl hl
  · rintro i v ys M J hv ⟨hI, rfl, rfl⟩
    obtain ⟨t, ht, hgt⟩ := hg.at hv
    obtain ⟨a, h, tk2, us, rfl, hm, _, h2⟩ := hd_info hgt.1 hgt.2.1 hgt.2.2
    refine ⟨_, .name, by exact locs rfl, of_decide_eq_true rfl, fun x8 hi hb => ?_⟩
    have n1 := hb _ (.head _)
    show TrC _ _ _ _ _
    k_search "gtc"
    · k_search "gc"
      exact ⟨rfl, fun h => by simp at h, rfl, rfl⟩
    · rename_i h3
      refine ⟨rfl, fun h => ?_, rfl, rfl⟩
      rw [take_one hv, take_one ht]
      obtain ⟨c0, w, f, rfl, hw, hw2⟩ := h2 (by simpa using h3)
      exact (hI h).snoc ⟨c0, a, _, tk2, w, f, rfl, hm, hw, hw2⟩
  rintro D1 ys M J ⟨hI, rfl, rfl⟩
  refine ec_listJ ?_
  k_search "gl"
  refine ⟨Nat.zero_le _, fun D2 => ⟨_, cmp_eqL (.tail _ (.head _)) (.head _) hun2 rfl, fun h => ?_, fun h => ?_⟩⟩
  · obtain rfl : ys = [] := by simpa using h
    have hS := hI rfl
    rw [List.take_length, hlen, List.take_length] at hS
    refine go_weak (G' := G) (Wk.ofJ fun _ h => .tail _ (.tail _ h)) ?_
    k_search "gr"
    rename_i t8 t7 D3
    refine ec_callT (by assumption) (by k_search "gs") (by intro _; rfl) ?_
    refine el_cons ?_ ?_
    · k_search "gs"
    k_search "gcomp"
    k_search "gc"
    refine ⟨l, _, vs, n, fun i ys M J => ys.length = i ∧ (∃ g, TfIn G.J ys g ∧ sz g + i ≤ ((ts.take i).map wtT).sum) ∧ M = G.M ∧ J = (D3, tupO [Value.str (Str.ofString "h") tk]) :: G.J, rfl, .inl rfl, by omega, ⟨rfl, ⟨.nil, .nil, Nat.le_refl _⟩, rfl, rfl⟩, ?_, ?_, ?_⟩
    · rintro i ys M J ⟨_, _, rfl, rfl⟩; exact .inl (.tail _ hl)
    · rintro i v ys M J hv ⟨hyl, ⟨g, hg1, hg2⟩, rfl, rfl⟩
      obtain ⟨t, ht, c0, a, h, tk2, w, f, rfl, hm, hw, hw2⟩ := hS.at hv
      refine ⟨_, .name, by exact locs rfl, of_decide_eq_true rfl, fun x8 hi hb => ⟨fun _ => ?_, fun h => b_tf h⟩⟩
      have n1 := hb _ (.head _)
      k_search "gc"
      refine ⟨rfl, by rw [List.length_append, hyl]; rfl, ⟨_, hg1.app hw, ?_⟩, rfl, rfl⟩
      rw [take_one ht, List.map_append, List.sum_append, sz_app]
      simp only [List.map_cons, List.map_nil, List.sum_cons, List.sum_nil]
      omega
    rintro D4 ys M J ⟨hyl, ⟨g, hg1, hg2⟩, rfl, rfl⟩
    rw [hlen, List.take_length] at hg2
    have hl4 := hg1.len
    refine el_nil ?_
    refine cg_tupleOf (.inl (.head _)) (by omega) fun D5 => ?_
    refine bin_tups (Tup.head.tail.tail) Tup.head (by simp only [List.length_cons, List.length_nil]; omega) fun D6 J6 hs6 hT6 => ?_
    refine el_nil ?_
    refine ⟨Nat.le_of_ble_eq_true rfl, fun D7 => ⟨_, Wk.refl, ?_⟩⟩
    have hs7 : ∀ p ∈ G.J, p ∈ (D7, tupO [Value.str (Str.ofString "same") t8, .ref D6]) :: J6 := fun p hp => .tail _ (hs6 p (.tail _ (.tail _ (.tail _ hp))))
    have hG := good_same (f := .cons (Str.ofString "h") g .nil) (Tup.head (a := D7) (J := J6)) (.cons (hT6.tail) ⟨by decide +kernel, by decide⟩ (hg1.mono hs7) .nil)
    exact k _ _ _ hs7 (by rw [same_cnt hS]; exact hG.imp fun _ q => ⟨q.1, q.2.1, q.2.2.1, q.2.2.2.1, by have := q.2.2.2.2; simp only [sz] at this; omega⟩)
  · refine go_weak (G' := G) (Wk.ofJ fun _ h => .tail _ (.tail _ h)) ?_
    k_search "go"
    k_search "gr"
    rename_i t9
    refine el_cons ?_ ?_
    · k_search "gs"
    refine ec_callT (by assumption) (by k_search "gs") (by intro _; rfl) ?_
    k_search "gl"
    refine cg_tupleOf (.inl hl) (by omega) fun D5 => ?_
    refine el_nil ?_
    refine ⟨Nat.le_of_ble_eq_true rfl, fun D6 => ⟨_, Wk.refl, k _ _ _ (fun _ h => .tail _ (.tail _ h)) (good_under Tup.head Tup.head.tail (hg.mono fun _ _ h => h.mono fun _ h => .tail _ (.tail _ h)))⟩⟩
end
section
open PySem PySem.W PySem.Spec PySem.Calls PyProof.Rows PyProof.Rows.LCg
set_option maxRecDepth 100000
set_option maxHeartbeats 4000000
section
variable {x : Fx} {G : Gh} {M J : Led} {d : Drawn} {m : Loc} {T : Post} {E : Value → Shared → Prop} {e : Expr} {rest : List Stmt} {n : Str} {p p1 pos : Pos} {K : Value → Gh → Prop}
theorem cg_pure {f : Value} {vs : List Value} {v : Tok → Value} (h : CallP x G f vs v) (k : ∀ t, K (v t) G) : CallG x G m f vs K := fun s hs Q E q => h m s hs Q E fun s' t hs' => q _ _ _ (k t) hs'
theorem eg_subL {i : Int} {k c : Nat} {l : Expr} {D : Addr} {p2 : Pos} {vs : List Value} {u : Value} (he : EvG x G m l (fun _ => .ref D)) (hm : (D, listOf vs.toArray k) ∈ G.J) (h0 : 0 ≤ i) (hf : i < 2 ^ 63) (hu : vs[i.toNat]? = some u) : EvG x G m (.Subscript l (.Constant (.int i) c p1) p2) (fun _ => u) := fun s hs Q E q =>
  Subscript_ (he s hs _ _ fun s' _ hs' => by
    have hl : s'.heap.IsList D vs.toArray := ⟨_, (hs'.nj _ hm).1, rfl, k, rfl⟩
    exact wpAny_Constant_int (tail_any (s := { s' with toks := s'.toks + 1 }) (Heap.IsList.typeIs (s := { s' with toks := s'.toks + 1 }) hl) slot_list_getitem.lookup (getItem_listL (s := { s' with toks := s'.toks + 1 }) hl h0 hf hu (q _ 0 hs')) (sub_intM _)))
theorem go_asgC {c : Addr} (cx : CellX x n c) (hs : swapsWith e (some (.Name n p1)) p.line x.env = pure false) (he : EvC x G m e fun v G' => ∃ o u g, At c o G'.M g ∧ o.data = .cell u ∧ ∀ o', o'.data = .cell (some v) → Go x ⟨g o', G'.J, G'.d⟩ m rest T E) : Go x G m (.Assign [.Name n p1] e p :: rest) T E := go_cons_of fun s hs' =>
  wpAny_Assign_Name (he s hs' _ _ fun v G' s' hk hs2 => by
    obtain ⟨o, u, g, a, ho, hk⟩ := hk
    exact cx.wr _ _ _ _ _ hs2 _ _ _ _ _ _ a ho fun h' o' h1 h2 => ⟨_, m, h1, hk o' h2⟩) hs
end
theorem list_two {α : Type} {l : List α} (h : l.length = 2) : ∃ a b, l = [a, b] := by
  match l, h with
  | [a, b], _ => exact ⟨a, b, rfl⟩
def toL : Fo → List Th
  | .nil => []
  | .cons v n k r => ⟨v, n, k⟩ :: toL r
theorem toL_len (f : Fo) : (toL f).length = lenF f := by
  induction f with
  | nil => rfl
  | cons v n k r _ ih => rw [toL, List.length_cons, ih, lenF]
theorem toL_at (f : Fo) : ∀ i : Nat, treeAt f i = (toL f)[i]? := by
  induction f with
  | nil => intro i; rfl
  | cons v n k r _ ih =>
    intro i
    cases i with
    | zero => rfl
    | succ i => rw [toL, List.getElem?_cons_succ, ← ih]; rfl
theorem toL_cnt (f : Fo) : ((toL f).map cntT).sum = cntF f ∧ ((toL f).map wtT).sum = wt f := by
  induction f with
  | nil => exact ⟨rfl, rfl⟩
  | cons v n k r _ ih =>
    refine ⟨?_, ?_⟩
    · rw [toL, List.map_cons, List.sum_cons, ih.1]; rfl
    · rw [toL, List.map_cons, List.sum_cons, ih.2]; rfl
def Made (J : Led) (ys : List Value) (us : List Th) : Prop := ∃ ts, All2 (GoodT J) ys ts ∧ ts.length = us.length ∧ (ts.map cntT).sum = (us.map cntT).sum ∧ (ts.map wtT).sum ≤ (us.map wtT).sum
theorem Made.nil {J : Led} : Made J [] [] := ⟨[], .nil, rfl, rfl, Nat.le_refl _⟩
theorem Made.snoc {J : Led} {ys : List Value} {us : List Th} {v : Value} {u : Th} (h : Made J ys us) (g : GoodN J v (cntT u) (wtT u)) : Made J (ys ++ [v]) (us ++ [u]) := by
  obtain ⟨ts, h1, h2, h3, h4⟩ := h
  obtain ⟨t, g1, g2, g3⟩ := good_of g
  refine ⟨ts ++ [t], h1.snoc g1, by rw [List.length_append, List.length_append, h2]; rfl, ?_, ?_⟩
  · rw [List.map_append, List.map_append, List.sum_append, List.sum_append, h3]; simp [g2]
  · rw [List.map_append, List.map_append, List.sum_append, List.sum_append]; simp; omega
theorem Made.mono {J J' : Led} {ys : List Value} {us : List Th} (hs : ∀ p ∈ J, p ∈ J') (h : Made J ys us) : Made J' ys us := h.imp fun _ k => ⟨k.1.mono fun _ _ h => h.mono hs, k.2⟩
theorem good_ofT {J : Led} {v : Value} {t : Th} (h : GoodT J v t) : GoodN J v (cntT t) (wtT t) := ⟨t, h.1, h.2.1, h.2.2, rfl, Nat.le_refl _⟩
theorem GoodN.le {J : Led} {v : Value} {c b c2 b2 : Nat} (h : GoodN J v c b) (hc : c = c2) (hb : b ≤ b2) : GoodN J v c2 b2 := by
  subst hc
  exact h.imp fun _ k => ⟨k.1, k.2.1, k.2.2.1, k.2.2.2.1, Nat.le_trans k.2.2.2.2 hb⟩
theorem row_info {J : Led} {v : Value} {t : Th} (hx : ThIn J v t) (hf : form t = true) : ∃ a h tk vs, v = .ref a ∧ Tup J a (.str h tk :: vs) ∧
    ((h == Str.ofString "turn") = true → lenF t.k = 1 ∧ cntT t = cntF t.k ∧ wtT t = wt t.k + 2) ∧
    ((h == Str.ofString "join") = true → lenF t.k = 2 ∧ cntT t = cntF t.k ∧ wtT t = wt t.k + 2) ∧
    ((h == Str.ofString "under") = true → (∃ tk2 w, vs = [.str (Str.ofString "h") tk2, w]) ∧ cntT t = cntF t.k ∧ wtT t = wt t.k + 2) ∧
    ((h == Str.ofString "turn") = false → (h == Str.ofString "join") = false → (h == Str.ofString "under") = false → GoodN J v (cntT t) (wtT t)) := by
  obtain ⟨w, n, kd⟩ := t
  have hx9 := hx
  obtain ⟨rfl, us, hn, hks⟩ := hx
  simp only at hn hf hks ⊢
  have yes : ∀ {P : Prop} {h : Str}, (h == h) = false → P := fun {P h} e => (Bool.false_ne_true (e.symm.trans (beq_self_eq_true h))).elim
  have no : ∀ {P : Prop} {b : Bool}, b = false → b = true → P := fun h1 h2 => (Bool.false_ne_true (h1.symm.trans h2)).elim
  have fin : us = [] → GoodN J v (cntT ⟨v, n, kd⟩) (wtT ⟨v, n, kd⟩) := fun e => by
    subst e
    cases hks
    exact ⟨_, hx9, hf, rfl, rfl, Nat.le_refl _⟩
  cases hn with
  | told m => exact ⟨_, _, _, _, rfl, m, no (by decide +kernel), no (by decide +kernel), no (by decide +kernel), fun _ _ _ => fin rfl⟩
  | same m h => exact ⟨_, _, _, _, rfl, m, no (by decide +kernel), no (by decide +kernel), no (by decide +kernel), fun _ _ _ => fin rfl⟩
  | rule1 m => exact ⟨_, _, _, _, rfl, m, no (by decide +kernel), no (by decide +kernel), no (by decide +kernel), fun _ _ _ => fin rfl⟩
  | rule2 m => exact ⟨_, _, _, _, rfl, m, no (by decide +kernel), no (by decide +kernel), no (by decide +kernel), fun _ _ _ => fin rfl⟩
  | bent => cases hf
  | turn m => exact ⟨_, _, _, _, rfl, m, fun _ => ⟨of_decide_eq_true hf, Nat.zero_add _, Nat.add_comm _ _⟩, no (by decide +kernel), no (by decide +kernel), yes⟩
  | join m => exact ⟨_, _, _, _, rfl, m, no (by decide +kernel), fun _ => ⟨of_decide_eq_true hf, Nat.zero_add _, Nat.add_comm _ _⟩, no (by decide +kernel), fun _ => yes⟩
  | what => cases hf
  | under m => exact ⟨_, _, _, _, rfl, m, no (by decide +kernel), no (by decide +kernel), fun _ => ⟨⟨_, _, rfl⟩, Nat.zero_add _, Nat.add_comm _ _⟩, fun _ _ => yes⟩
  | list => cases hf
  | vop => cases hf
theorem key_new {l : List (List Int × Th)} {i : Nat} {r : List Int × Th} (hn : (l.map (·.1)).Nodup) (h : l[i]? = some r) : r.1 ∉ (l.take i).map (·.1) := by
  obtain ⟨hi, e⟩ := List.getElem?_eq_some_iff.mp h
  have hs : l = l.take i ++ r :: l.drop (i + 1) := by rw [← e, List.getElem_cons_drop, List.take_append_drop]
  rw [hs, List.map_append, List.map_cons, List.nodup_append] at hn
  exact fun hm => hn.2.2 _ hm _ (.head _) rfl
def KnG (J : Led) (xs : List (List Int × Addr × Value)) (l : List (List Int × Th)) : Prop := xs.map (·.1) = l.map (·.1) ∧ ∀ r ∈ l, ∃ a w, (r.1, a, w) ∈ xs ∧ GoodN J w (cntT r.2) (wtT r.2)
theorem KnG.mono {J J' : Led} {xs : List (List Int × Addr × Value)} {l : List (List Int × Th)} (hs : ∀ p ∈ J, p ∈ J') (h : KnG J xs l) : KnG J' xs l :=
  ⟨h.1, fun r hr => (h.2 r hr).imp fun _ k => k.imp fun _ k => ⟨k.1, k.2.mono hs⟩⟩
theorem KnG.snoc {J : Led} {xs : List (List Int × Addr × Value)} {l : List (List Int × Th)} {r : List Int × Th} {a : Addr} {v : Value} (h : KnG J xs l) (g : GoodN J v (cntT r.2) (wtT r.2)) : KnG J (xs ++ [(r.1, a, v)]) (l ++ [r]) := by
  refine ⟨by rw [List.map_append, List.map_append, h.1]; rfl, fun q hq => ?_⟩
  rcases List.mem_append.mp hq with hq | hq
  · obtain ⟨a, w, k, g⟩ := h.2 q hq
    exact ⟨a, w, List.mem_append_left _ k, g⟩
  · rw [List.mem_singleton.mp hq]
    exact ⟨a, v, List.mem_append_right _ (.head _), g⟩
theorem kn_get {w : World} {o : Obj} {J : Led} {xs : List (List Int × Addr × Value)} {l : List (List Int × Th)} {r : List Int × Th} (k : Knows w o xs J) (h : KnG J xs l) (hr : r ∈ l) : ∃ b v, atKey xs r.1 = some (b, v) ∧ GoodN J v (cntT r.2) (wtT r.2) := by
  obtain ⟨a, v, hm, g⟩ := h.2 r hr
  obtain ⟨i, hi⟩ := List.getElem?_of_mem hm
  obtain ⟨_, _, _, _, _, hn, _⟩ := k
  exact ⟨a, v, atKey_of_get hn hi, g⟩
def TidI (w : World) (D a b : Addr) (oK : Obj) (M0 J1 : Led) (rows : List (List Int × Th)) (i : Nat) (M J : Led) : Prop :=
  ∃ oD oP up xs, M = (D, oD) :: (a, oP) :: (b, oK) :: M0 ∧ oP.data = .cell up ∧ (∀ p ∈ J1, p ∈ J) ∧ (∀ q ∈ rows.take i, form q.2 = true) ∧ Knows w oD xs J ∧ KnG J xs (rows.take i)
theorem tidied_ok {x : Fx} {G : Gh} {m : Loc} {K : Value → Gh → Prop} {X : ExP} {v : Value} {t : Th} {d u : Nat} (ok : Ok x d u) (hd : d ≤ 320) (hu : u ≤ 900) (ht : ThIn G.J v t) (hz : wtT t ≤ 9000)
    (k : (∀ r ∈ po [] t, form r.2 = true) → ∀ v' J' d', (∀ p ∈ G.J, p ∈ J') → GoodN J' v' (cntT t) (wtT t) → K v' ⟨G.M, J', d'⟩) (hx : ∀ r, (po [] t).find? (fun q => !form q.2) = some r → ∀ J' pv, (∀ p ∈ G.J, p ∈ J') → PathT J' pv r.1 → X pv J') : CallE x G m (.ref 167) [v] K X := by
  refine enterCE (binds := [(Str.ofString "paper", _)]) (by assumption) (by k_is) (by k_is) (rmL hd rfl) (by rfl) rfl (by decide +kernel) rfl rfl rfl (hord_two (y := Str.ofString "known") (z := Str.ofString "path") fun _ => rfl) ?_
  intro x9 E9 cells ok9 hw9 hH9 he9 hE9 hX9 hc
  obtain ⟨oP, oK, rfl, hoP, hoK⟩ := CellsAre.two (show CellsAre _ [(Str.ofString "path", x9.L + 2), (Str.ofString "known", x9.L + 1)] cells from hc)
  have l1 : LocX x9 (Str.ofString "paper") := by k_search "gn"
  have l2 : LocX x9 (Str.ofString "one") := by k_search "gn"
  have l3 : LocX x9 (Str.ofString "parts") := by k_search "gn"
  have c1 : CellX x9 (Str.ofString "known") (x9.L + 1) := cellX he9 rfl rfl rfl (by decide)
  have c2 : CellX x9 (Str.ofString "path") (x9.L + 2) := cellX he9 rfl rfl rfl (by decide)
  have g1 : NameIs x9 (Str.ofString "in_order") (.ref 136) := by k_search "gn"
  have g2 : NameIs x9 (Str.ofString "want_form") (.ref 143) := by k_search "gn"
  have g3 : NameIs x9 (Str.ofString "parts_of") (.ref 112) := by k_search "gn"
  have g4 : NameIs x9 (Str.ofString "len") (.builtin "len") := by k_search "gn"
  have g5 : NameIs x9 (Str.ofString "range") (.type "range") := by k_search "gn"
  have g6 : NameIs x9 (Str.ofString "turned") (.ref 150) := by k_search "gn"
  have g7 : NameIs x9 (Str.ofString "joined") (.ref 157) := by k_search "gn"
  have g8 : NameIs x9 (Str.ofString "under") (.ref 162) := by k_search "gn"
  refine go_asgC c1 (by k_search "gw") (ec_dict0 ok9 fun D oD hD => ⟨oK, _, _, .tail (.tail .head), hoK, fun oK2 hK2 => ?_⟩)
  clear hoK
  refine go_for ?_ (by intro _; rfl) hE9
  k_search "gc"
  refine order_ok ok9 (rmD hd rfl) (rmU hu rfl) ht (by omega) fun l J1 n d1 vs hs1 hl hrows => ?_
  have hb := poT_bound t []
  refine ⟨l, vs, n, rfl, fun i M J m => TidI x9.w D (x9.L + 2) (x9.L + 1) oK2 G.M J1 (po [] t) i M J, ⟨oD, oP, _, [], rfl, hoP, fun _ h => h, (fun q hq => nomatch hq), knows_nil hD, rfl, fun q hq => nomatch hq⟩, ?_, ?_, ?_⟩
  · rintro i M J m ⟨_, _, _, _, _, _, h, _⟩; exact h _ hl
  · rintro i w M J d2 m2 q hv ⟨oD, oP, up, xs, rfl, hoP, hsJ, hform, hkn, hkg⟩
    obtain ⟨r, hr, hp⟩ := hrows.at hv
    obtain ⟨pa, pv, tv, rfl, hpm, hpath, hth⟩ := hp.mono hsJ
    have hr2 := hb.2 r (List.mem_of_getElem? hr)
    have ok8 := ok9.hid (q := q)
    have he8 : (hid x9 q).env = _ := he9
    have l2 := l2.hid (q := q)
    have l3 := l3.hid (q := q)
    have g2 := g2.hid (q := q)
    have g3 := g3.hid (q := q)
    have g4 := g4.hid (q := q)
    have g5 := g5.hid (q := q)
    have g6 := g6.hid (q := q)
    have g7 := g7.hid (q := q)
    have g8 := g8.hid (q := q)
    have c1 : CellX (hid x9 q) (Str.ofString "known") (x9.L + 1) := cellX he8 rfl rfl rfl (by decide)
    have c2 : CellX (hid x9 q) (Str.ofString "path") (x9.L + 2) := cellX he8 rfl rfl rfl (by decide)
    have c1r := c1.rd
    have c2r := c2.rd
    refine at_tup hpm.has (by rw [he8]; rfl) rfl (at_cell c2 (.tail .head) hoP fun oP2 hP2 => at_loc l2 (show Go _ _ _ _ _ _ from ?_))
    (with_reducible apply go_exprE)
    · rw [he8]; rfl
    · k_search "gw"
    · exact hX9.hid
    refine ee_callK g2 ok8.K (by k_is) (by k_search "gs") (by intro _; rfl) ?_
    k_search "gl"
    refine want_ok ok8 (rmD hd rfl) (rmU hu rfl) hth (by omega) (fun hf d3 => ?_) fun hf => ?_
    · obtain ⟨a, h, tk2, hvs, rfl, hmh, hturn, hjoin, hunder, hoth⟩ := row_info hth hf
      have hz9 : r.1.length ≤ 10000 := by have := hr2.2; rw [List.length_nil, Nat.zero_add] at this; omega
      refine go_range (ax := 81) (cl := [(Str.ofString "path", x9.L + 2), (Str.ofString "known", x9.L + 1)]) (ok8.K _ _ (by k_is)) (by assumption) (by k_search "gs") (by assumption) (by k_search "gw") (by rw [he8]; rfl) (by decide) rfl (by decide) (by decide) (by intro _; rfl) ?_
      refine ec_callB (by assumption) (by k_search "gs") (by intro _; rfl) ?_
      k_search "gl"
      refine parts_ok ok8 (by omega) hth hf (by omega) fun D2 J2 us hs2 hT hF => ?_
      have hul := hF.len
      rw [show kids r.2 = r.2.k from if_pos hf] at hul
      have hul2 := lenF_wt r.2.k
      have hul3 : wt r.2.k ≤ wtT r.2 := Nat.le_add_left _ _
      obtain ⟨ap, avs, rfl, hap, hai⟩ := id hpath
      have hal := hai.length
      refine el_nil ?_
      refine cg_pure (cp_lenT hT.has rfl (by omega)) fun t9 => ?_
      refine ⟨us.length, t9, fun i ys M J' => M = (D, oD) :: (x9.L + 2, oP2) :: (x9.L + 1, oK2) :: G.M ∧ (∀ p ∈ J2, p ∈ J') ∧ Made J' ys ((toL r.2.k).take i), rfl, by omega, ⟨rfl, fun _ h => h, .nil⟩, ?_, ?_⟩
      · rintro i8 t8 ys M J' hi8 ⟨rfl, hsJ2, hmade⟩
        obtain ⟨kt, hkt⟩ : ∃ kt, (toL r.2.k)[i8]? = some kt := ⟨_, List.getElem?_eq_getElem (by rw [toL_len]; omega)⟩
        have hah := po_ahead hr hf (by rw [toL_at]; exact hkt)
        obtain ⟨b9, v9, hat, hG⟩ := kn_get hkn hkg hah
        refine ⟨_, .name, by exact locs rfl, of_decide_eq_true rfl, fun x8 hi hb => ⟨fun _ => ?_, fun h => b_tf h⟩⟩
        have n1 := hb _ (.head _)
        have c3 : CellR x8 (Str.ofString "known") (x9.L + 1) := hi.cell he8 (fun _ => rfl) rfl rfl (by decide)
        have c4 : CellR x8 (Str.ofString "path") (x9.L + 2) := hi.cell he8 (fun _ => rfl) rfl rfl (by decide)
        have hsA : ∀ p ∈ J, p ∈ J' := fun p hp => hsJ2 p (hs2 p hp)
        (with_reducible apply ec_getD)
        · k_search "ge"
        · k_search "gc"
          refine ec_tup ?_
          k_search "gl"
          refine ⟨Nat.le_of_ble_eq_true rfl, fun D4 => ?_⟩
          refine bin_tups ((hap.mono hsA).tail) Tup.head (by simp only [List.length_cons, List.length_nil]; omega) fun D5 J5 hs5 hT5 => ?_
          have hs6 : ∀ p ∈ J', p ∈ J5 := fun p hp => hs5 p (.tail _ hp)
          refine ⟨D5, b9, v9, r.1 ++ [(i8 : Int)], oD, xs, rfl, ⟨D5, _, rfl, hT5, hai.append (.cons _ _ .nil)⟩, .head _, ?_, hat, rfl, rfl, fun p hp => hs6 p (hsJ2 p hp), ?_⟩
          · have := hkn.mono fun p hp => hs6 p (hsA p hp)
            have hw8 : x8.w = x9.w := by obtain ⟨_, _, rfl, _⟩ := hi; rfl
            rw [hw8]; exact this
          · rw [take_one hkt]
            exact (hmade.mono hs6).snoc (hG.mono fun p hp => hs6 p (hsA p hp))
        · have := ok8.units; have e := hi.ok ok8; have := e.units; rw [cLine_is]; omega
        · intro _; rfl
        · intro _; rfl
      · rintro D3 ys M J' ⟨rfl, hsJ2, hmade⟩
        rw [hul, ← toL_len, List.take_length] at hmade
        obtain ⟨ts, hts, htl, htc, htw⟩ := hmade
        rw [toL_len] at htl
        rw [(toL_cnt r.2.k).1] at htc
        rw [(toL_cnt r.2.k).2] at htw
        have hyl := hts.length
        have hnew : r.1 ∉ xs.map (·.1) := by rw [hkg.1]; exact key_new (po_nodup [] t) hr
        have hxl : xs.length ≤ 90000 := by
          have h1 := congrArg List.length hkg.1
          simp only [List.length_map, List.length_take] at h1
          omega
        have hsB : ∀ p ∈ J, p ∈ (D3, lst ys) :: J' := fun p hp => .tail _ (hsJ2 p (hs2 p hp))
        have hlen9 : (x9.A.units + 1 < cLine) := by have := ok9.units; rw [cLine_is]; omega
        have fin : ∀ v9 J9 o9, (∀ p ∈ J, p ∈ J9) → GoodN J9 v9 (cntT r.2) (wtT r.2) → Knows x9.w o9 (xs ++ [(r.1, ap, v9)]) J9 → TidI x9.w D (x9.L + 2) (x9.L + 1) oK2 G.M J1 (po [] t) (i + 1) ((D, o9) :: (x9.L + 2, oP2) :: (x9.L + 1, oK2) :: G.M) J9 := by
          intro v9 J9 o9 hs9 hG9 hk9
          refine ⟨o9, oP2, _, _, rfl, hP2, fun p hp => hs9 p (hsJ p hp), fun q hq => ?_, hk9, ?_⟩
          · rw [take_one hr] at hq
            rcases List.mem_append.mp hq with hq | hq
            · exact hform q hq
            · rw [List.mem_singleton.mp hq]; exact hf
          · rw [take_one hr]; exact (hkg.mono hs9).snoc hG9
        refine go_if (by k_search "gt") ⟨fun h3 => ?_, fun h3 => ?_⟩
        · obtain ⟨e1, e2, e3⟩ := hturn h3
          obtain ⟨v1, rfl⟩ : ∃ v1, ys = [v1] := List.length_eq_one_iff.mp (by omega)
          obtain ⟨t1, rfl⟩ : ∃ t1, ts = [t1] := List.length_eq_one_iff.mp (by omega)
          obtain ⟨hg1, _⟩ : GoodT J' v1 t1 ∧ True := by cases hts with | cons h _ => exact ⟨h, trivial⟩
          (with_reducible apply go_setD)
          · k_search "gw"
          · exact hlen9
          refine ec_callK (by assumption) ok8.K (by k_is) (by k_search "gs") (by intro _; rfl) ?_
          refine el_cons ?_ ?_
          · k_search "gs"
          (with_reducible apply ec_pure)
          · exact eg_subL (by k_search "ge") (.head _) (by decide) (by decide) rfl
          intro _
          refine el_nil ?_
          refine turned_ok ok8 (rmD hd rfl) (rmU hu rfl) (good_ofT (hg1.mono fun _ => .tail _)) fun v9 J9 d9 hs9 hG9 => ?_
          have hsC : ∀ p ∈ J, p ∈ J9 := fun p hp => hs9 p (hsB p hp)
          refine ⟨D, ap, r.1, oD, xs, _, by k_search "ge", by k_search "ge", hpath.mono hsC, .head, hkn.mono hsC, hnew, hxl, fun o9 ho9 => ?_⟩
          k_search "go"
          exact go_nil ⟨rfl, fin v9 J9 o9 hsC (hG9.le (by simp at htc; omega) (by simp at htw; omega)) ho9⟩
        · refine go_if (by k_search "gt") ⟨fun h4 => ?_, fun h4 => ?_⟩
          · obtain ⟨e1, e2, e3⟩ := hjoin h4
            obtain ⟨v1, v2, rfl⟩ : ∃ v1 v2, ys = [v1, v2] := list_two (by omega)
            obtain ⟨t1, t2, rfl⟩ : ∃ t1 t2, ts = [t1, t2] := list_two (by omega)
            obtain ⟨hg1, hg2⟩ : GoodT J' v1 t1 ∧ GoodT J' v2 t2 := by cases hts with | cons h h' => cases h' with | cons h' _ => exact ⟨h, h'⟩
            (with_reducible apply go_setD)
            · k_search "gw"
            · exact hlen9
            refine ec_callK (by assumption) ok8.K (by k_is) (by k_search "gs") (by intro _; rfl) ?_
            refine el_cons ?_ ?_
            · k_search "gs"
            (with_reducible apply ec_pure)
            · exact eg_subL (by k_search "ge") (.head _) (by decide) (by decide) rfl
            intro _
            refine el_cons ?_ ?_
            · k_search "gs"
            (with_reducible apply ec_pure)
            · exact eg_subL (by k_search "ge") (.head _) (by decide) (by decide) rfl
            intro _
            refine el_nil ?_
            refine joined_ok ok8 (rmD hd rfl) (rmU hu rfl) (good_ofT (hg1.mono fun _ => .tail _)) (good_ofT (hg2.mono fun _ => .tail _)) fun v9 J9 d9 hs9 hG9 => ?_
            have hsC : ∀ p ∈ J, p ∈ J9 := fun p hp => hs9 p (hsB p hp)
            refine ⟨D, ap, r.1, oD, xs, _, by k_search "ge", by k_search "ge", hpath.mono hsC, .head, hkn.mono hsC, hnew, hxl, fun o9 ho9 => ?_⟩
            k_search "go"
            k_search "go"
            exact go_nil ⟨rfl, fin v9 J9 o9 hsC (hG9.le (by simp at htc; omega) (by simp at htw; omega)) ho9⟩
          · (with_reducible apply go_setD)
            · k_search "gw"
            · exact hlen9
            (with_reducible apply ec_ifexp)
            · k_search "gt"
            refine ⟨fun h5 => ?_, fun h5 => ?_⟩
            · obtain ⟨⟨tk5, w5, rfl⟩, e2, e3⟩ := hunder h5
              refine ec_callK (by assumption) ok8.K (by k_is) (by k_search "gs") (by intro _; rfl) ?_
              k_search "gl"
              refine under_ok ok8 (rmD hd rfl) (rmU hu rfl) (.head _) (hts.mono fun _ _ h => h.mono fun _ => .tail _) (by omega) fun v9 J9 d9 hs9 hG9 => ?_
              have hsC : ∀ p ∈ J, p ∈ J9 := fun p hp => hs9 p (hsB p hp)
              refine ⟨D, ap, r.1, oD, xs, _, by k_search "ge", by k_search "ge", hpath.mono hsC, .head, hkn.mono hsC, hnew, hxl, fun o9 ho9 => ?_⟩
              k_search "go"
              k_search "go"
              exact go_nil ⟨rfl, fin v9 J9 o9 hsC (hG9.le (by omega) (by omega)) ho9⟩
            · have hG9 := hoth h3 h4 h5
              k_search "gc"
              refine ⟨D, ap, r.1, oD, xs, _, by k_search "ge", by k_search "ge", hpath.mono hsB, .head, hkn.mono hsB, hnew, hxl, fun o9 ho9 => ?_⟩
              k_search "go"
              k_search "go"
              exact go_nil ⟨rfl, fin _ _ o9 hsB (hG9.mono hsB) ho9⟩
    · exact hx r (find_at hr hform hf) J pv (fun p hp => hsJ p (hs1 p hp)) hpath
  · rintro M J d2 m2 ⟨oD, oP, up, xs, rfl, hoP, hsJ, hform, hkn, hkg⟩
    rw [hrows.length, List.take_length] at hform hkg
    obtain ⟨b, v', hat, hG⟩ := kn_get (r := ([], t)) hkn hkg (po_self ([], t))
    have c1r := c1.rd
    refine go_ret ?_
    (with_reducible apply ec_getD)
    · k_search "ge"
    · refine ec_tup ?_
      refine el_nil ?_
      refine ⟨Nat.zero_le _, fun a => ⟨a, b, v', [], oD, xs, rfl, ⟨a, [], rfl, Tup.head, .nil⟩, .head _, hkn.mono fun _ => .tail _, hat, ?_⟩⟩
      exact ⟨⟨G.M, J, _⟩, ⟨rfl, [_, _, _], rfl, fun p hp => .tail _ (.tail _ (.tail _ (.tail _ hp)))⟩, k hform _ _ _ (fun p hp => hsJ p (hs1 p hp)) hG⟩
    · have := ok9.units; rw [cLine_is]; omega
    · intro _; rfl
    · intro _; rfl
end
section
open PySem PySem.W PySem.Spec PySem.Calls PyProof.Rows PyProof.Rows.LCg
set_option maxRecDepth 100000
set_option maxHeartbeats 4000000
theorem pick_ok {x : Fx} {M J : Led} {dr : Drawn} {m : Loc} {K : Value → Gh → Prop} {fd rl : Addr} {o : Obj} {k many : Int} {tm : Tok} {d u : Nat} (ok : Ok x d u) (hd : d ≤ 900) (hu : u ≤ 9000) (hr : RowList J rl) (hf : FeedObj x.w o rl k) (hk0 : 0 ≤ k) (hk1 : k < 200) (hm0 : 1 ≤ many) (hm1 : many ≤ 12)
    (kk : ∀ r t o', 0 ≤ r → r < many → FeedObj x.w o' rl (k + 1) → K (.int r t) ⟨(fd, o') :: M, J, dr⟩) : CallG x ⟨(fd, o) :: M, J, dr⟩ m (.ref 244) [.ref fd, .int many tm] K := fun s hs Q E q => by
  obtain ⟨vp, vl, mean, mg, mb, T9⟩ := ok.T
  have hne : @Ne Nat rl fd := by
    obtain ⟨vs, ns, h1, _⟩ := hr
    exact Ne.symm (hs.2.2.1.2 (fd, o) (List.mem_append_right _ (.head _)) _ h1)
  refine pick_at ok.B hs.1 ok.K T9 ok.ks hs.2.1 (At.head.upd hs.2.2.1) (hr.mono fun p hp => List.mem_append_right _ (List.mem_append_right _ hp)) hne hf hk0 hk1 hm0 hm1 (by have := ok.dp; simp only [recursionLimit]; omega) (by have := ok.un; rw [cLine_is]; omega) fun r t o' h' tk' h0 h1 f' F' N' => q _ _ _ (kk r t o' h0 h1 f') (st_upd .head hs F' N')
section
variable {x : Fx} {G : Gh} {m : Loc} {K : Value → Gh → Prop} {l r : Expr} {p1 : Pos}
theorem cg_str {a : Int} {t : Tok} (h0 : 0 ≤ a) (h1 : a < 3) (k : ∀ z t', z.length ≤ 5 → K (.str z t') G) : CallG x G m (.type "str") [.int a t] K := fun s hs Q E q =>
  P.str_of_int (shown (N := 1000) (by omega) (by omega) (by decide +kernel)) (q _ _ _ (k _ _ (by
    rcases (by omega : a = 0 ∨ a = 1 ∨ a = 2) with rfl | rfl | rfl <;> decide +kernel)) hs)
theorem bin_strs {a b : Str} {t u : Tok} (hz : a.length + b.length ≤ 90000) (k : ∀ t', K (.str (a ++ b) t') G) : BinG x G m .Add (.str a t) (.str b u) K := fun s hs Q E q => SB.add (fun t' _ => q _ _ _ (k t') hs) (fits (by omega))
theorem bent_nat {t8 t9 : Tok} : ∀ n : Nat, n < 12 → ∃ j u, seqIndex? (n : Int) 12 = some j ∧ [Value.ref 218, .ref 219, .ref 220, .ref 222, .ref 223, .ref 224, .ref 230, .ref 232, .str (Str.ofString "told") t8, .int 7 t9, .ref 233, .ref 236][j]? = some u ∧ ∃ i, BentV u i
  | 0, _ => ⟨0, _, by decide, rfl, _, .b0⟩
  | 1, _ => ⟨1, _, by decide, rfl, _, .b1⟩
  | 2, _ => ⟨2, _, by decide, rfl, _, .b2⟩
  | 3, _ => ⟨3, _, by decide, rfl, _, .b3⟩
  | 4, _ => ⟨4, _, by decide, rfl, _, .b4⟩
  | 5, _ => ⟨5, _, by decide, rfl, _, .b5⟩
  | 6, _ => ⟨6, _, by decide, rfl, _, .b6⟩
  | 7, _ => ⟨7, _, by decide, rfl, _, .b7⟩
  | 8, _ => ⟨8, _, by decide, rfl, _, .b8⟩
  | 9, _ => ⟨9, _, by decide, rfl, _, .b9⟩
  | 10, _ => ⟨10, _, by decide, rfl, _, .b10⟩
  | 11, _ => ⟨11, _, by decide, rfl, _, .b11⟩
  | n + 12, h => absurd h (Nat.not_lt.mpr (Nat.le_add_left _ _))
theorem bent_at {r : Int} {t8 t9 : Tok} (h0 : 0 ≤ r) (h1 : r < 12) : ∃ j u, seqIndex? r 12 = some j ∧ [Value.ref 218, .ref 219, .ref 220, .ref 222, .ref 223, .ref 224, .ref 230, .ref 232, .str (Str.ofString "told") t8, .int 7 t9, .ref 233, .ref 236][j]? = some u ∧ ∃ i, BentV u i := by
  obtain ⟨n, rfl⟩ := Int.eq_ofNat_of_zero_le h0
  exact bent_nat n (Int.ofNat_lt.mp h1)
theorem ec_subC (h : EvC x G m l fun v G1 => ∃ D vs, v = .ref D ∧ EvC x G1 m r fun i G2 => ∃ n t j u, i = .int n t ∧ HasT x G2.J D vs ∧ 0 ≤ n ∧ n < 2 ^ 63 ∧ seqIndex? n vs.length = some j ∧ vs[j]? = some u ∧ K u G2)
    (hs : ∀ D n t, subscripted r false (.ref D) (.int n t) = operate [.ref D, .int n t] (getItem (.ref D) (.int n t))) : EvC x G m (.Subscript l r p1) K := fun s hs0 Q E q =>
  Subscript_ (h s hs0 _ _ fun v G1 s1 hk hs1 => by
    obtain ⟨D, vs, rfl, h2⟩ := hk
    exact h2 s1 hs1 _ _ fun i G2 s2 hk2 hs2 => by
      obtain ⟨n, t, j, u, rfl, hm, h0, h1, hj, hu, hK⟩ := hk2
      exact item_tupleT (hm.tup hs2) (by omega) h1 hj hu (q _ _ _ hK hs2) (hs _ _ _))
end
theorem leaf_ok {x : Fx} {M J : Led} {dr : Drawn} {m : Loc} {K : Value → Gh → Prop} {fd rl : Addr} {o : Obj} {k : Int} {d u : Nat} (ok : Ok x d u) (hd : d ≤ 800) (hu : u ≤ 8000) (hr : RowList J rl) (hf : FeedObj x.w o rl k) (hk0 : 0 ≤ k) (hk1 : k + 1 < 200)
    (kk : ∀ T tv b t o' k' J', (∀ p ∈ J, p ∈ J') → Tup J' T [tv, .bool b] → ThIn J' tv t → form t = b → t.k = .nil → wtT t ≤ 4 → FeedObj x.w o' rl k' → k ≤ k' → k' ≤ k + 2 → K (.ref T) ⟨(fd, o') :: M, J', dr⟩) : CallG x ⟨(fd, o) :: M, J, dr⟩ m (.ref 251) [.ref fd] K := by
  refine enterG (binds := [(Str.ofString "feed", _)]) (by assumption) (by k_is) (by k_is) (rmL hd rfl) (by rfl) (by exact locs rfl) rfl rfl rfl (by decide) ?_
  intro x9 E9 ok9 hw9 he9 hE9
  have l1 : LocX x9 (Str.ofString "feed") := by k_search "gn"
  have l2 : LocX x9 (Str.ofString "way") := by k_search "gn"
  have l3 : LocX x9 (Str.ofString "term") := by k_search "gn"
  have g1 : NameIs x9 (Str.ofString "_law_pick") (.ref 244) := by k_search "gn"
  have g2 : NameIs x9 (Str.ofString "str") (.type "str") := by k_search "gn"
  have g3 : NameIs x9 (Str.ofString "_law_bent") (.ref 237) := by k_search "gn"
  rw [← hw9] at hf kk
  k_search "go"
  refine pick_ok ok9 (rmD hd rfl) (rmU hu rfl) hr hf hk0 (by omega) (by decide) (by decide) fun r t1 o1 hr0 hr1 hf1 => ?_
  refine go_if (by k_search "gt") ⟨fun h3 => ?_, fun h3 => ?_⟩
  · k_search "gr"
    refine ec_callT (by assumption) (by k_search "gs") (by intro _; rfl) ?_
    k_search "gl"
    refine cg_str hr0 (by simpa using h3) fun z t' hz => ?_
    refine bin_strs (by rw [show (Str.ofString "t").length = 1 from rfl]; omega) fun t'' => ?_
    refine el_nil ?_
    refine ⟨Nat.le_of_ble_eq_true rfl, fun D1 => ?_⟩
    k_search "gl"
    refine ⟨Nat.le_of_ble_eq_true rfl, fun D2 => ⟨_, Wk.refl, ?_⟩⟩
    exact kk D2 _ _ ⟨_, .told _, .nil⟩ _ _ _ (fun _ h => .tail _ (.tail _ h)) Tup.head ⟨rfl, _, .told Tup.head.tail, .nil⟩ rfl rfl (Nat.le_of_ble_eq_true rfl) hf1 (by omega) (by omega)
  · k_search "go"
    refine go_if (by k_search "gt") ⟨fun h4 => ?_, fun h4 => ?_⟩
    · refine go_ret ?_
      refine ec_tup ?_
      refine el_cons ?_ ?_
      · k_search "gs"
      refine ec_subC ?_ ?_
      · k_search "gc"
        obtain ⟨t8, t9, n9, hbt⟩ : ∃ t8 t9 n9, x9.h₀.get? 237 = some (tupN [Value.ref 218, .ref 219, .ref 220, .ref 222, .ref 223, .ref 224, .ref 230, .ref 232, .str (Str.ofString "told") t8, .int 7 t9, .ref 233, .ref 236] n9) := ⟨_, _, _, ok9.K 237 _ (by k_is)⟩
        refine ⟨237, [Value.ref 218, .ref 219, .ref 220, .ref 222, .ref 223, .ref 224, .ref 230, .ref 232, .str (Str.ofString "told") t8, .int 7 t9, .ref 233, .ref 236], rfl, ?_⟩
        k_search "gc"
        refine pick_ok ok9 (rmD hd rfl) (rmU hu rfl) hr hf1 (by omega) (by omega) (by decide) (by decide) fun r2 t2 o2 hs0 hs1 hf2 => ?_
        obtain ⟨j, u2, hj, hu2, i2, hb2⟩ := bent_at (t8 := t8) (t9 := t9) hs0 hs1
        refine ⟨r2, t2, j, u2, rfl, ⟨n9, .inr hbt⟩, hs0, by omega, hj, hu2, ?_⟩
        k_search "gl"
        refine ⟨Nat.le_of_ble_eq_true rfl, fun D => ⟨_, Wk.refl, ?_⟩⟩
        exact kk D u2 false ⟨u2, .bent i2, .nil⟩ o2 _ _ (fun _ h => .tail _ h) Tup.head ⟨rfl, _, .bent hb2, .nil⟩ rfl rfl (Nat.le_of_ble_eq_true rfl) hf2 (by omega) (by omega)
      · intro _ _ _; rfl
    · k_search "go"
      refine go_asg ?_ ?_ ?_
      · assumption
      · k_search "gw"
      refine ec_subC ?_ ?_
      · k_search "gc"
        k_search "gl"
        rename_i tA DA tF tB DB
        refine el_nil ?_
        refine ⟨Nat.le_of_ble_eq_true rfl, fun D4 => ?_⟩
        refine el_nil ?_
        refine ⟨Nat.le_of_ble_eq_true rfl, fun D5 => ⟨D5, [.ref DA, .ref D4], rfl, ?_⟩⟩
        k_search "gc"
        refine pick_ok ok9 (rmD hd rfl) (rmU hu rfl) (hr.mono fun p hp => .tail _ (.tail _ (.tail _ (.tail _ hp)))) hf1 (by omega) (by omega) (by decide) (by decide) fun r2 t2 o2 hs0 hs1 hf2 => ?_
        obtain ⟨j, tv, hj, htv, f, hf9, hsz⟩ : ∃ j tv, seqIndex? r2 2 = some j ∧ [Value.ref DA, .ref D4][j]? = some tv ∧ ∃ f, TfIn ((D5, tupO [.ref DA, .ref D4]) :: (D4, tupO [.str (Str.ofString "f") tF, .ref DB]) :: (DB, tupO [.str (Str.ofString "b") tB]) :: (DA, tupO [.str (Str.ofString "a") tA]) :: J) [tv] f ∧ sz f ≤ 2 := by
          rcases (by omega : r2 = 0 ∨ r2 = 1) with rfl | rfl
          · exact ⟨0, _, by decide, rfl, .cons (Str.ofString "a") .nil .nil, .cons Tup.head.tail.tail.tail ⟨by decide +kernel, by decide⟩ .nil .nil, by decide⟩
          · exact ⟨1, _, by decide, rfl, .cons (Str.ofString "f") (.cons (Str.ofString "b") .nil .nil) .nil, .cons Tup.head.tail ⟨by decide +kernel, by decide⟩ (.cons Tup.head.tail.tail ⟨by decide +kernel, by decide⟩ .nil .nil) .nil, by decide⟩
        refine ⟨r2, t2, j, tv, rfl, Tup.head.has, hs0, by omega, hj, htv, ?_⟩
        obtain ⟨J5, e5⟩ : ∃ J5, J5 = (D5, tupO [.ref DA, .ref D4]) :: (D4, tupO [.str (Str.ofString "f") tF, .ref DB]) :: (DB, tupO [.str (Str.ofString "b") tB]) :: (DA, tupO [.str (Str.ofString "a") tA]) :: J := ⟨_, rfl⟩
        have hs5 : ∀ p ∈ J, p ∈ J5 := fun p hp => by rw [e5]; exact .tail _ (.tail _ (.tail _ (.tail _ hp)))
        rw [← e5] at hf9
        refine go_weak (G' := ⟨(fd, o2) :: M, J5, dr⟩) (by rw [e5]; exact Wk.refl) ?_
        clear e5
        refine go_if (by k_search "gt") ⟨fun h5 => ?_, fun h5 => ?_⟩
        · k_search "gr"
          k_search "gl"
          refine ⟨Nat.le_of_ble_eq_true rfl, fun D7 => ⟨_, Wk.refl, ?_⟩⟩
          exact kk D7 _ true ⟨_, .same f, .nil⟩ o2 _ _ (fun _ h => .tail _ (.tail _ (hs5 _ h))) Tup.head ⟨rfl, _, .same Tup.head.tail (hf9.mono fun _ h => .tail _ (.tail _ h)), .nil⟩ rfl rfl (show sz f + 1 + 0 ≤ 4 by omega) hf2 (by omega) (by omega)
        · k_search "go"
          k_search "gr"
          · k_search "gc"
            refine el_nil ?_
            refine ⟨Nat.le_of_ble_eq_true rfl, fun DP => ?_⟩
            refine el_nil ?_
            refine ⟨Nat.le_of_ble_eq_true rfl, fun DR => ?_⟩
            k_search "gl"
            refine ⟨Nat.le_of_ble_eq_true rfl, fun D7 => ⟨_, Wk.refl, ?_⟩⟩
            exact kk D7 _ true ⟨_, .rule false f, .nil⟩ o2 _ _ (fun _ h => .tail _ (.tail _ (.tail _ (.tail _ (hs5 _ h))))) Tup.head ⟨rfl, _, .rule1 Tup.head.tail Tup.head.tail.tail Tup.head.tail.tail.tail (hf9.mono fun _ h => .tail _ (.tail _ (.tail _ (.tail _ h)))), .nil⟩ rfl rfl (show sz f + 1 + 0 ≤ 4 by omega) hf2 (by omega) (by omega)
          · k_search "gc"
            k_search "gl"
            rename_i DC
            refine el_nil ?_
            refine ⟨Nat.le_of_ble_eq_true rfl, fun DO => ?_⟩
            refine el_nil ?_
            refine ⟨Nat.le_of_ble_eq_true rfl, fun DP => ?_⟩
            refine el_nil ?_
            refine ⟨Nat.le_of_ble_eq_true rfl, fun DR => ?_⟩
            k_search "gl"
            refine ⟨Nat.le_of_ble_eq_true rfl, fun D7 => ⟨_, Wk.refl, ?_⟩⟩
            exact kk D7 _ true ⟨_, .rule true (appF f (.cons (Str.ofString "c") .nil .nil)), .nil⟩ o2 _ _ (fun _ h => .tail _ (.tail _ (.tail _ (.tail _ (.tail _ (.tail _ (hs5 _ h))))))) Tup.head ⟨rfl, _, .rule2 Tup.head.tail Tup.head.tail.tail Tup.head.tail.tail.tail.tail.tail Tup.head.tail.tail.tail ((hf9.mono fun _ h => .tail _ (.tail _ (.tail _ (.tail _ (.tail _ (.tail _ h)))))).app (.cons Tup.head.tail.tail.tail.tail ⟨by decide +kernel, by decide⟩ .nil .nil)), .nil⟩ rfl rfl (show sz (appF f (.cons (Str.ofString "c") .nil .nil)) + 1 + 0 ≤ 4 by rw [sz_app]; simp only [sz]; omega) hf2 (by omega) (by omega)
      · intro _ _ _; rfl
end
section
open PySem PySem.W PySem.Spec PySem.Calls PyProof.Rows PyProof.Rows.LCg
set_option maxRecDepth 100000
set_option maxHeartbeats 4000000
theorem wrapped_ok {x : Fx} {M J : Led} {dr : Drawn} {m : Loc} {K : Value → Gh → Prop} {fd rl sa : Addr} {o : Obj} {k : Int} {vs : List Value} {f : Fo} {d u : Nat} (ok : Ok x d u) (hd : d ≤ 800) (hu : u ≤ 8000) (hr : RowList J rl) (hf : FeedObj x.w o rl k) (hk0 : 0 ≤ k) (hk1 : k < 200) (hs : Tup J sa vs) (hF : FoIn J vs f) (hz : vs.length ≤ 3)
    (kk : ∀ tv t o' J', (∀ p ∈ J, p ∈ J') → ThIn J' tv t → form t = false → t.k = f → wtT t = wt f + 2 → FeedObj x.w o' rl (k + 1) → K tv ⟨(fd, o') :: M, J', dr⟩) : CallG x ⟨(fd, o) :: M, J, dr⟩ m (.ref 258) [.ref fd, .ref sa] K := by
  refine enterG (binds := [(Str.ofString "feed", _), (Str.ofString "some", _)]) (by assumption) (by k_is) (by k_is) (rmL hd rfl) (by rfl) (by exact locs rfl) rfl rfl rfl (by decide) ?_
  intro x9 E9 ok9 hw9 he9 hE9
  have l1 : LocX x9 (Str.ofString "feed") := by k_search "gn"
  have l2 : LocX x9 (Str.ofString "way") := by k_search "gn"
  have l3 : LocX x9 (Str.ofString "some") := by k_search "gn"
  have g1 : NameIs x9 (Str.ofString "_law_pick") (.ref 244) := by k_search "gn"
  have g2 : NameIs x9 (Str.ofString "len") (.builtin "len") := by k_search "gn"
  have g3 : NameIs x9 (Str.ofString "list") (.type "list") := by k_search "gn"
  have hl := hF.len
  rw [← hw9] at hf kk
  k_search "go"
  refine pick_ok ok9 (rmD hd rfl) (rmU hu rfl) hr hf hk0 (by omega) (by decide) (by decide) fun r t1 o1 hr0 hr1 hf1 => ?_
  refine go_if (by k_search "gt") ⟨fun h3 => ?_, fun h3 => ?_⟩
  · k_search "gr"
    · rename_i h5
      k_search "gc"
      refine el_nil ?_
      refine ⟨Nat.le_of_ble_eq_true rfl, fun D => ?_⟩
      k_search "gc"
      refine bin_tups Tup.head hs.tail (by simp only [List.length_cons, List.length_nil]; omega) fun D2 J2 hs2 hT => ⟨_, Wk.refl, ?_⟩
      exact kk _ ⟨.ref D2, .node .join, f⟩ o1 J2 (fun p hp => hs2 p (.tail _ hp)) ⟨rfl, vs, .join hT, hF.mono fun p hp => hs2 p (.tail _ hp)⟩ (show (lenF f == 2) = false by simp at h5; rw [← hl]; simp; omega) rfl (Nat.add_comm _ _) hf1
    · rename_i h5
      k_search "gc"
      refine el_nil ?_
      refine ⟨Nat.le_of_ble_eq_true rfl, fun D => ?_⟩
      k_search "gc"
      refine bin_tups Tup.head hs.tail (by simp only [List.length_cons, List.length_nil]; omega) fun D2 J2 hs2 hT => ⟨_, Wk.refl, ?_⟩
      exact kk _ ⟨.ref D2, .node .turn, f⟩ o1 J2 (fun p hp => hs2 p (.tail _ hp)) ⟨rfl, vs, .turn hT, hF.mono fun p hp => hs2 p (.tail _ hp)⟩ (show (lenF f == 1) = false by simp at h5; rw [← hl]; simp; omega) rfl (Nat.add_comm _ _) hf1
  · k_search "go"
    refine go_if (by k_search "gt") ⟨fun h4 => ?_, fun h4 => ?_⟩
    · k_search "gr"
      refine el_cons ?_ ?_
      · k_search "gs"
      refine ec_callT (by assumption) (by k_search "gs") (by intro _; rfl) ?_
      k_search "gl"
      refine cg_listOf hs (by omega) fun D kL => ?_
      refine el_nil ?_
      refine ⟨Nat.le_of_ble_eq_true rfl, fun D2 => ⟨_, Wk.refl, ?_⟩⟩
      exact kk _ ⟨.ref D2, .node .list, f⟩ o1 _ (fun p hp => .tail _ (.tail _ hp)) ⟨rfl, vs, .list Tup.head (.tail _ (.head _)), hF.mono fun p hp => .tail _ (.tail _ hp)⟩ rfl rfl (Nat.add_comm _ _) hf1
    · k_search "go"
      k_search "gr"
      · k_search "gc"
        refine ⟨_, Wk.refl, ?_⟩
        exact kk _ ⟨_, .node .vop, f⟩ o1 _ (fun p hp => .tail _ hp) ⟨rfl, vs, .vop Tup.head hs.tail, hF.mono fun p hp => .tail _ hp⟩ rfl rfl (Nat.add_comm _ _) hf1
      · k_search "gc"
        k_search "gc"
        refine bin_tups Tup.head hs.tail (by simp only [List.length_cons, List.length_nil]; omega) fun D2 J2 hs2 hT => ⟨_, Wk.refl, ?_⟩
        exact kk _ ⟨.ref D2, .node .what, f⟩ o1 J2 (fun p hp => hs2 p (.tail _ hp)) ⟨rfl, vs, .what hT, hF.mono fun p hp => hs2 p (.tail _ hp)⟩ rfl rfl (Nat.add_comm _ _) hf1
end
section
open PySem PySem.W PySem.Spec PySem.Calls PyProof.Rows
set_option maxRecDepth 100000
def TriT (J : Led) (v : Value) (r : List Int × Th) : Prop := ∃ a pv, v = .ref a ∧ Tup J a [pv, r.2.v, .bool (form r.2)] ∧ PathT J pv r.1 ∧ ThIn J r.2.v r.2
def wB : Nat → Nat
  | 0 => 4
  | n + 1 => 3 * wB n + 4
def pB : Nat → Int
  | 0 => 2
  | n + 1 => 3 * pB n + 3
theorem pB_pos : ∀ n, 2 ≤ pB n
  | 0 => Int.le_refl _
  | n + 1 => by have := pB_pos n; simp only [pB]; omega
theorem wB_le : ∀ n, n ≤ 2 → wB n ≤ 52
  | 0, _ => by decide
  | 1, _ => by decide
  | 2, _ => by decide
def sP (P : Int) : Nat → Int
  | 0 => 0
  | i + 1 => sP P i + P
theorem sP_le {P : Int} (h : 0 ≤ P) : ∀ {i : Nat}, i ≤ 3 → sP P i ≤ 3 * P
  | 0, _ => by simp only [sP]; omega
  | 1, _ => by simp only [sP]; omega
  | 2, _ => by simp only [sP]; omega
  | 3, _ => by simp only [sP]; omega
section
variable {J J' : Led} {v : Value} {t : Th} {r : List Int × Th} {B : Nat} {ys : List Value} {ts : List Th}
theorem TriT.mono (hs : ∀ p ∈ J, p ∈ J') (h : TriT J v r) : TriT J' v r := by
  obtain ⟨a, pv, rfl, h1, h2, h3⟩ := h
  exact ⟨a, pv, rfl, h1.mono hs, h2.mono hs, h3.mono hs⟩
def MadeP (J : Led) (B : Nat) (v : Value) (t : Th) : Prop := ∃ T l rvs kl kT, v = .ref T ∧ (T, tupN [t.v, .ref l] kT) ∈ J ∧ (l, listOf (List.toArray rvs) kl) ∈ J ∧ All2 (TriT J) rvs (po [] t) ∧ ThIn J t.v t ∧ wtT t ≤ B
theorem MadeP.mono (hs : ∀ p ∈ J, p ∈ J') (h : MadeP J B v t) : MadeP J' B v t := by
  obtain ⟨T, l, rvs, kl, kT, rfl, h1, h2, h3, h4, h5⟩ := h
  exact ⟨T, l, rvs, kl, kT, rfl, hs _ h1, hs _ h2, h3.mono fun _ _ k => k.mono hs, h4.mono hs, h5⟩
theorem made_sum (h : All2 (MadeP J B) ys ts) : (ts.map wtT).sum ≤ ts.length * B := by
  induction h with
  | nil => simp
  | cons h _ ih =>
    obtain ⟨_, _, _, _, _, _, _, _, _, _, h5⟩ := h
    rw [List.map_cons, List.sum_cons, List.length_cons, Nat.succ_mul]; omega
theorem fromL_in {vs : List Value} (h : All2 (fun v t => ThIn J v t) vs ts) : FoIn J vs (fromL ts) ∧ wt (fromL ts) = (ts.map wtT).sum ∧ lenF (fromL ts) = ts.length := by
  induction h with
  | nil => exact ⟨.nil, rfl, rfl⟩
  | cons h _ ih =>
    obtain ⟨rfl, us, h1, h2⟩ := h
    exact ⟨.cons h1 h2 ih.1, by rw [fromL, wt, ih.2.1, List.map_cons, List.sum_cons]; rfl, by rw [fromL, lenF, ih.2.2]; rfl⟩
theorem lateR_snoc (t : Th) : ∀ (l : List Th) (k : Nat), lateR k (l ++ [t]) = lateR k l ++ (po [] t).map (shift [((k + l.length : Nat) : Int)])
  | [], k => by simp [lateR]
  | a :: l, k => by
    rw [List.cons_append, lateR, lateR, lateR_snoc t l (k + 1), List.append_assoc, List.length_cons, show k + 1 + l.length = k + (l.length + 1) by omega]
def lateTo (ts : List Th) (i j : Nat) : List (List Int × Th) := lateR 0 (ts.take i) ++ (ts[i]?).elim [] fun t => ((po [] t).take j).map (shift [(i : Int)])
theorem late_zero (ts : List Th) : lateTo ts 0 0 = [] := by
  unfold lateTo
  cases ts[0]? <;> simp [lateR]
theorem late_next {i : Nat} (ht : ts[i]? = some t) : lateTo ts i (po [] t).length = lateTo ts (i + 1) 0 := by
  have hi := (List.getElem?_eq_some_iff.mp ht).1
  have h1 : ts.take (i + 1) = ts.take i ++ [t] := by rw [List.take_add_one, ht]; rfl
  unfold lateTo
  rw [h1, lateR_snoc, ht, List.length_take, Nat.min_eq_left (Nat.le_of_lt hi), Nat.zero_add]
  show _ ++ ((po [] t).take _).map _ = _
  rw [List.take_length]
  cases ts[i + 1]? <;> simp
theorem late_snoc {i j : Nat} (ht : ts[i]? = some t) (hr : (po [] t)[j]? = some r) : lateTo ts i (j + 1) = lateTo ts i j ++ [shift [(i : Int)] r] := by
  unfold lateTo
  rw [ht]
  show _ ++ ((po [] t).take (j + 1)).map _ = _ ++ ((po [] t).take j).map _ ++ _
  rw [List.take_add_one, hr, List.map_append, List.append_assoc]; rfl
theorem late_end (ts : List Th) : lateTo ts ts.length 0 = poF [] 0 (fromL ts) := by
  unfold lateTo
  rw [List.take_length, List.getElem?_eq_none (Nat.le_refl _)]
  show _ ++ [] = _
  rw [List.append_nil, late_po]; rfl
theorem lateR_len {N : Nat} : ∀ (l : List Th) (k : Nat), (∀ t ∈ l, (po [] t).length ≤ N) → (lateR k l).length ≤ l.length * N
  | [], _, _ => by simp [lateR]
  | a :: l, k, h => by
    have h1 := lateR_len l (k + 1) fun t ht => h t (.tail _ ht)
    have h2 := h a (.head _)
    rw [lateR, List.length_append, List.length_map, List.length_cons, Nat.succ_mul]; omega
theorem lateTo_len {N i j : Nat} (h : ∀ t ∈ ts, (po [] t).length ≤ N) : (lateTo ts i j).length ≤ ts.length * N + N := by
  have h1 := lateR_len (ts.take i) 0 fun t ht => h t (List.mem_of_mem_take ht)
  have h2 : (ts.take i).length * N ≤ ts.length * N := Nat.mul_le_mul_right _ (by rw [List.length_take]; exact Nat.min_le_right _ _)
  unfold lateTo
  rw [List.length_append]
  have h3 : ((ts[i]?).elim [] fun t => ((po [] t).take j).map (shift [(i : Int)])).length ≤ N := by
    cases e : ts[i]? with
    | none => exact Nat.zero_le _
    | some t =>
      show (((po [] t).take j).map _).length ≤ N
      rw [List.length_map, List.length_take]
      exact Nat.le_trans (Nat.min_le_right _ _) (h t (List.mem_of_getElem? e))
  omega
theorem made_po (h : All2 (MadeP J B) ys ts) : ∀ t ∈ ts, (po [] t).length ≤ B := by
  induction h with
  | nil => intro t ht; cases ht
  | cons h _ ih =>
    obtain ⟨_, _, _, _, _, _, _, _, _, _, h5⟩ := h
    intro t ht
    rcases List.mem_cons.mp ht with rfl | ht
    · exact Nat.le_trans (poT_bound _ []).1 h5
    · exact ih t ht
theorem po_leaf' (h : kids t = .nil) : po [] t = [([], t)] := by rw [po, h]; rfl
theorem po_node (h : form t = true) (hk : t.k = fromL ts) : po [] t = lateTo ts ts.length 0 ++ [([], t)] := by rw [po, kids, if_pos h, hk, late_end]
end
end
section
open PySem PySem.W PySem.Spec PySem.Calls PyProof.Rows PyProof.Rows.LCg
set_option maxRecDepth 100000
set_option maxHeartbeats 4000000
theorem ec_mono {x : Fx} {G : Gh} {m : Loc} {e : Expr} {P K : Value → Gh → Prop} (h : EvC x G m e P) (k : ∀ v G', P v G' → K v G') : EvC x G m e K := fun s hs Q E q => h s hs Q E fun v G' s' hp hs' => q v G' s' (k _ _ hp) hs'
theorem Inner.sub {x x' : Fx} {scope : Scope} {cl : List (Str × Addr)} {p : Addr × Obj} (h : Inner x scope cl x') (hp : p ∈ x.H) : p ∈ x'.H ∧ x'.w = x.w := by
  obtain ⟨C, H, rfl, hs⟩ := h
  exact ⟨hs p hp, rfl⟩
theorem ec_rowL {x : Fx} {G : Gh} {m : Loc} {K : Value → Gh → Prop} {n : Str} {e : Expr} {tv : Value} {b : Bool} {c1 c2 : Nat} {p2 p3 p4 p5 : Pos} (hn : ∀ G' p, EvG x G' m (.Name n p) fun _ => tv) (hb : ∀ G', EvG x G' m e fun _ => .bool b) (hs : starEach [e] x.env = (false, eval e x.env) :: starEach [] x.env)
    (k : ∀ DE DR DL, K (.ref DL) ⟨G.M, (DL, listOf (List.toArray [.ref DR]) 0) :: (DR, tupO [.ref DE, tv, .bool b]) :: (DE, tupO []) :: G.J, G.d⟩) : EvC x G m (.List [.Tuple [.Tuple [] c1 p2, .Name n p3, e] c2 p4] p5) K :=
  ec_listJ (el_cons rfl (ec_tup (el_cons rfl (ec_tup (el_nil ⟨Nat.zero_le _, fun DE => el_consP (hn _ _) rfl fun _ => el_consP (hb _) hs fun _ => el_nil ⟨Nat.le_of_ble_eq_true rfl, fun DR => el_nil ⟨Nat.le_of_ble_eq_true rfl, fun DL => k DE DR DL⟩⟩⟩)))))
theorem ec_row {x : Fx} {G : Gh} {m : Loc} {K : Value → Gh → Prop} {n : Str} {e : Expr} {tv : Value} {b : Bool} {c1 c2 c3 : Nat} {p1 p2 p3 p4 p5 p6 : Pos} (hn : ∀ G' p, EvG x G' m (.Name n p) fun _ => tv) (hb : ∀ G', EvG x G' m e fun _ => .bool b) (hs : starEach [e] x.env = (false, eval e x.env) :: starEach [] x.env)
    (k : ∀ DE DR DL DT, K (.ref DT) ⟨G.M, (DT, tupO [tv, .ref DL]) :: (DL, listOf (List.toArray [.ref DR]) 0) :: (DR, tupO [.ref DE, tv, .bool b]) :: (DE, tupO []) :: G.J, G.d⟩) : EvC x G m (.Tuple [.Name n p1, .List [.Tuple [.Tuple [] c1 p2, .Name n p3, e] c2 p4] p5] c3 p6) K :=
  ec_tup (el_consP (hn _ _) rfl fun _ => el_cons rfl (ec_rowL hn hb hs fun DE DR DL => el_nil ⟨Nat.le_of_ble_eq_true rfl, fun DT => k DE DR DL DT⟩))
theorem tri_one {J : Led} {DR DE : Addr} {t : Th} (h1 : Tup J DR [.ref DE, t.v, .bool (form t)]) (h2 : Tup J DE []) (h3 : ThIn J t.v t) : All2 (TriT J) [.ref DR] [([], t)] := .cons ⟨DR, .ref DE, rfl, h1, ⟨DE, [], rfl, h2, .nil⟩, h3⟩ .nil
theorem sub4 {a b c d : Addr × Obj} {J : Led} : ∀ p ∈ J, p ∈ a :: b :: c :: d :: J := fun p hp => .tail _ (.tail _ (.tail _ (.tail _ hp)))
theorem pB_two : ∀ n, n = 0 ∧ pB n = 2 ∨ 9 ≤ pB n
  | 0 => .inl ⟨rfl, rfl⟩
  | n + 1 => .inr (by have := pB_pos n; simp only [pB]; omega)
theorem wB_four : ∀ n, 4 ≤ wB n
  | 0 => Nat.le_refl _
  | n + 1 => Nat.le_add_left _ _
def BuiltOk (n : Nat) : Prop := ∀ {x : Fx} {M J : Led} {dr : Drawn} {m : Loc} {K : Value → Gh → Prop} {fd rl : Addr} {o : Obj} {k : Int} {tn : Tok} {d u : Nat}, Ok x d u → d + 20 * n ≤ 700 → u + 100 * n ≤ 7000 → RowList J rl → FeedObj x.w o rl k → 0 ≤ k → k + pB n < 200 →
    (∀ T tv l rvs kl t o' k' J', (∀ p ∈ J, p ∈ J') → Tup J' T [tv, .ref l] → (l, listOf (List.toArray rvs) kl) ∈ J' → All2 (TriT J') rvs (po [] t) → ThIn J' tv t → wtT t ≤ wB n → FeedObj x.w o' rl k' → k ≤ k' → k' ≤ k + pB n → K (.ref T) ⟨(fd, o') :: M, J', dr⟩) → CallG x ⟨(fd, o) :: M, J, dr⟩ m (.ref 263) [.ref fd, .int n tn] K
theorem built_any {n : Nat} (ih : ∀ n', n = n' + 1 → BuiltOk n') (hn : n ≤ 3) : BuiltOk n := by
  intro x M J dr m K fd rl o k tn d u ok hd hu hr hf hk0 hk1 kk
  refine enterC (binds := [(Str.ofString "feed", _), (Str.ofString "floors", _)]) (by assumption) (by k_is) (by k_is) (rmL (show d ≤ 700 by omega) rfl) (by rfl) rfl (by decide +kernel) rfl rfl rfl (hord_two (y := Str.ofString "feed") (z := Str.ofString "floors") fun _ => rfl) ?_
  intro x9 E9 cells ok9 hw9 hH9 he9 hE9 hc
  obtain ⟨c1, c2, rfl, hc1, hc2⟩ := CellsAre.two (show CellsAre _ [(Str.ofString "floors", x9.L + 2), (Str.ofString "feed", x9.L + 1)] cells from hc)
  refine go_hide (go_hide ?_)
  have he8 : (hid (hid x9 (x9.L + 2, c1)) (x9.L + 1, c2)).env = _ := he9
  have ok8 := (ok9.hid (q := (x9.L + 2, c1))).hid (q := (x9.L + 1, c2))
  generalize hX : hid (hid x9 (x9.L + 2, c1)) (x9.L + 1, c2) = x8 at he8 ok8 ⊢
  have hm1 : (x9.L + 1, c2) ∈ x8.H := by rw [← hX]; exact .head _
  have hm2 : (x9.L + 2, c1) ∈ x8.H := by rw [← hX]; exact .tail _ (.head _)
  have hL8 : x8.L = x9.L := by rw [← hX]
  have hw8 : x8.w = x.w := by rw [← hX]; exact hw9
  rw [← hL8] at hm1 hm2 he8
  have hc1' : c1.data = .cell (some (.int n tn)) := hc1
  have hc2' : c2.data = .cell (some (.ref fd)) := hc2
  have l1 : LocX x8 (Str.ofString "way") := by k_search "gn"
  have l2 : LocX x8 (Str.ofString "thing") := by k_search "gn"
  have l3 : LocX x8 (Str.ofString "is_right") := by k_search "gn"
  have l4 : LocX x8 (Str.ofString "made") := by k_search "gn"
  have l5 : LocX x8 (Str.ofString "some") := by k_search "gn"
  have l6 : LocX x8 (Str.ofString "late") := by k_search "gn"
  have r1 : CellR x8 (Str.ofString "feed") (x8.L + 1) := (cellX he8 rfl rfl rfl (by decide)).rd
  have r2 : CellR x8 (Str.ofString "floors") (x8.L + 2) := (cellX he8 rfl rfl rfl (by decide)).rd
  have g1 : NameIs x8 (Str.ofString "_law_pick") (.ref 244) := by k_search "gn"
  have g2 : NameIs x8 (Str.ofString "_law_leaf") (.ref 251) := by k_search "gn"
  have g3 : NameIs x8 (Str.ofString "_law_wrapped") (.ref 258) := by k_search "gn"
  have g4 : NameIs x8 (Str.ofString "range") (.type "range") := by k_search "gn"
  have g5 : NameIs x8 (Str.ofString "tuple") (.type "tuple") := by k_search "gn"
  have g6 : NameIs x8 (Str.ofString "enumerate") (.type "enumerate") := by k_search "gn"
  show Go x8 ⟨(fd, o) :: M, J, dr⟩ _ _ _ _
  refine go_any fun m0 => ?_
  rw [← hw8] at hf kk
  have hd9 : d ≤ 700 := by omega
  have hu9 : u ≤ 7000 := by omega
  have hp2 := pB_two n
  refine go_asg ?_ ?_ ?_
  · assumption
  · k_search "gw"
  refine ec_mono (P := fun v G' => ∃ (r : Int) (t : Tok) (o1 : Obj) (k1 : Int), v = .int r t ∧ 0 ≤ r ∧ r < 6 ∧ G' = ⟨(fd, o1) :: M, J, dr⟩ ∧ FeedObj x8.w o1 rl k1 ∧ k ≤ k1 ∧ (n = 0 ∧ r = 0 ∧ k1 = k ∨ n ≠ 0 ∧ k1 = k + 1)) ?_ ?_
  · (with_reducible apply ec_ifexp)
    · refine tg_cmp (c := decide ((0 : Int) < n)) (by k_search "ge") (by k_search "ge") rfl (fun _ _ => cmp_gtI rfl)
    refine ⟨fun h => ?_, fun h => ?_⟩
    · k_search "gc"
      refine pick_ok ok8 (rmD hd9 rfl) (rmU hu9 rfl) hr hf hk0 (by omega) (by decide) (by decide) fun r t1 o1 hr0 hr1 hf1 => ?_
      exact ⟨r, t1, o1, k + 1, rfl, hr0, hr1, rfl, hf1, by omega, .inr ⟨fun e => by subst e; simp at h, rfl⟩⟩
    · k_search "gc"
      exact ⟨0, _, o, k, rfl, by decide, by decide, rfl, hf, Int.le_refl _, .inl ⟨by simp at h; omega, rfl, rfl⟩⟩
  rintro v G' ⟨r, t1, o1, k1, rfl, hr0, hr1, rfl, hf1, hkk, hnr⟩
  refine go_if (by k_search "gt") ⟨fun h1 => ?_, fun h1 => ?_⟩
  · k_search "go0"
    refine leaf_ok ok8 (rmD hd9 rfl) (rmU hu9 rfl) hr hf1 (by omega) (by omega) fun T0 tv b t o2 k2 J1 hs1 hT0 hth hfm htk hw1 hf2 hk2 hk3 => ?_
    refine at_tup hT0.has (by rw [he8]; rfl) rfl (at_loc l2 (at_loc l3 (show Go _ _ _ _ _ _ from ?_)))
    refine go_ret ?_
    refine ec_row (fun _ _ => by k_search "ge") (fun _ => by k_search "ge") (by k_search "gs") fun DE DR DL DT => ⟨⟨(fd, o2) :: M, _, _⟩, ⟨rfl, [_, _], rfl, fun p hp => .tail _ (.tail _ hp)⟩, ?_⟩
    subst hfm
    obtain rfl := hth.1
    refine kk DT t.v DL _ _ t o2 k2 _ (fun p hp => sub4 p (hs1 p hp)) Tup.head (.tail _ (.head _)) ?_ (hth.mono sub4) (Nat.le_trans hw1 (wB_four n)) hf2 (by omega) (by omega)
    rw [po_leaf' (t := t) (by rw [kids, htk]; split <;> rfl)]
    exact tri_one Tup.head.tail.tail Tup.head.tail.tail.tail (hth.mono sub4)
  · obtain ⟨n, rfl⟩ : ∃ n', n = n' + 1 := Nat.exists_eq_succ_of_ne_zero fun e => by
      rcases hnr with h | h
      · rw [h.2.1] at h1; cases h1
      · exact h.1 e
    obtain rfl : k1 = k + 1 := by omega
    have ih9 : BuiltOk n := ih n rfl
    have hpn := pB_pos n
    simp only [pB] at hk1
    clear hp2 hnr hkk
    k_search "go"
    refine go_range (ax := 81) (cl := [(Str.ofString "floors", x8.L + 2), (Str.ofString "feed", x8.L + 1)]) (ok8.K _ _ (by k_is)) (by assumption) (by k_search "gs") (by assumption) (by k_search "gw") (by rw [he8]; rfl) (by decide) rfl (by decide) (by decide) (by intro _; rfl) ?_
    refine ec_mono (P := fun v G' => ∃ (c : Nat) (t : Tok) (o2 : Obj) (k2 : Int), v = .int c t ∧ c ≤ 3 ∧ G' = ⟨(fd, o2) :: M, J, dr⟩ ∧ FeedObj x8.w o2 rl k2 ∧ k + 1 ≤ k2 ∧ k2 ≤ k + 2 ∧ (r < 3 → (c : Int) = r)) ?_ ?_
    · (with_reducible apply ec_ifexp)
      · k_search "gt"
      refine ⟨fun h2 => ?_, fun h2 => ?_⟩
      · obtain ⟨c, rfl⟩ : ∃ c : Nat, r = c := ⟨r.toNat, by omega⟩
        k_search "gc"
        exact ⟨c, _, _, _, rfl, by simp at h2; omega, rfl, hf1, by omega, by omega, fun _ => rfl⟩
      · k_search "gc"
        refine pick_ok ok8 (rmD hd9 rfl) (rmU hu9 rfl) hr hf1 (by omega) (by omega) (by decide) (by decide) fun r2 t2 o2 hq0 hq1 hf2 => ?_
        obtain ⟨c, rfl⟩ : ∃ c : Nat, r2 = c := ⟨r2.toNat, by omega⟩
        exact ⟨c, _, _, _, rfl, by omega, rfl, hf2, by omega, by omega, fun h => by simp at h2; omega⟩
    · rintro v G' ⟨c, t2, o2, k2, rfl, hc3, rfl, hf2, hk2, hk3, hcr⟩
      refine ⟨c, t2, fun i ys M' J' => ∃ oi ki ts, M' = (fd, oi) :: M ∧ (∀ p ∈ J, p ∈ J') ∧ FeedObj x8.w oi rl ki ∧ k2 ≤ ki ∧ ki ≤ k2 + sP (pB n) i ∧ ts.length = i ∧ All2 (MadeP J' (wB n)) ys ts, rfl, by omega, ⟨o2, k2, [], rfl, fun _ h => h, hf2, by omega, by simp [sP], rfl, .nil⟩, ?_, ?_⟩
      · rintro i t8 ys M' J' hi8 ⟨oi, ki, ts, rfl, hsJ, hfi, hki, hkj, htl, hmade⟩
        refine ⟨_, .name, by exact locs rfl, of_decide_eq_true rfl, fun x' hi hb => ⟨fun _ => ?_, fun h => b_tf h⟩⟩
        have c3 : CellR x' (Str.ofString "feed") (x8.L + 1) := hi.cell he8 (fun _ => rfl) rfl rfl (by decide)
        have c4 : CellR x' (Str.ofString "floors") (x8.L + 2) := hi.cell he8 (fun _ => rfl) rfl rfl (by decide)
        have g9 : NameIs x' (Str.ofString "_law_built") (.ref 263) := by k_search "gn"
        obtain ⟨hm3, hw3⟩ := hi.sub hm1
        obtain ⟨hm4, _⟩ := hi.sub hm2
        have ok7 := hi.ok ok8
        rw [← hw3] at hfi
        have hsp := sP_le (P := pB n) (by omega) (show i + 1 ≤ 3 by omega)
        simp only [sP] at hsp
        k_search "gc"
        rw [show ((n + 1 : Nat) : Int) - 1 = (n : Int) by omega]
        refine ih9 ok7 (by omega) (by omega) (hr.mono hsJ) hfi (by omega) (by omega) fun T tv l rvs kl t o' k' J2 hs2 hT hl hrows hth hwt hf3 hk5 hk6 => ?_
        obtain ⟨kT, hT⟩ := hT
        obtain rfl := hth.1
        rw [hw3] at hf3
        exact ⟨rfl, o', k', ts ++ [t], rfl, fun p hp => hs2 p (hsJ p hp), hf3, by omega, by simp only [sP]; omega, by simp [htl], (hmade.mono fun _ _ h => h.mono hs2).snoc ⟨T, l, rvs, kl, kT, rfl, hT, hl, hrows, hth, hwt⟩⟩
      · rintro D ys M' J' ⟨oi, ki, ts, rfl, hsJ, hfi, hki, hkj, htl, hmade⟩
        have hyl := hmade.length
        have hsp := sP_le (P := pB n) (by omega) hc3
        refine go_asg ?_ ?_ ?_
        · assumption
        · k_search "gw"
        refine ec_callT (by assumption) (by k_search "gs") (by intro _; rfl) ?_
        refine el_cons ?_ ?_
        · k_search "gs"
        k_search "gcomp"
        k_search "gc"
        refine ⟨D, lst ys, ys, _, fun i zs M2 J2 => M2 = (fd, oi) :: M ∧ J2 = (D, lst ys) :: J' ∧ All2 (fun v t => ThIn J' v t) zs (ts.take i), rfl, .inl rfl, by omega, ⟨rfl, rfl, .nil⟩, ?_, ?_, ?_⟩
        · rintro i zs M2 J2 ⟨_, rfl, _⟩
          exact .inl (.head _)
        · rintro i v zs M2 J2 hv ⟨rfl, rfl, hz⟩
          obtain ⟨t1, ht1, T1, rl1, rvs1, kl1, kT1, rfl, hm1, hm2, hr1, hth1, hw1⟩ := hmade.at hv
          refine ⟨_, .two (.tail _ hm1), by exact locs rfl, of_decide_eq_true rfl, fun x' hi hb => ⟨fun _ => ?_, fun h => b_tf h⟩⟩
          have n1 := hb _ (.head _)
          k_search "gc"
          exact ⟨rfl, rfl, rfl, by rw [take_one ht1]; exact hz.snoc hth1⟩
        · rintro D2 zs M2 J2 ⟨rfl, rfl, hz⟩
          rw [show ys.length = ts.length from hyl, List.take_length] at hz
          have hzl := hz.length
          refine el_nil ?_
          refine cg_tupleOf (.inl (.head _)) (by omega) fun D3 => ?_
          obtain ⟨J3, e3⟩ : ∃ J3, J3 = (D3, tupO zs) :: (D2, lst zs) :: (D, lst ys) :: J' := ⟨_, rfl⟩
          have hs3 : ∀ p ∈ J', p ∈ J3 := fun p hp => e3 ▸ .tail _ (.tail _ (.tail _ hp))
          obtain ⟨kD, hm3⟩ : ∃ kD, (D, listOf (List.toArray ys) kD) ∈ J3 := ⟨_, by rw [e3]; exact .tail _ (.tail _ (.head _))⟩
          have hT3 : Tup J3 D3 zs := e3 ▸ Tup.head
          refine go_weak (G' := ⟨(fd, oi) :: M, J3, dr⟩) (by rw [e3]; exact Wk.refl) ?_
          clear e3
          have hts3 : ts.length * wB n ≤ 3 * wB n := Nat.mul_le_mul_right _ (by omega)
          have hwb := wB_le n (by omega)
          have hlen : ∀ i j, (lateTo ts i j).length ≤ 1000 := fun i j => by
            have := lateTo_len (i := i) (j := j) (made_po hmade); omega
          refine go_nest (by assumption) (by k_search "gs") (by assumption) (by k_search "gw") (by rw [he8]; rfl) (by decide) rfl (by decide) ⟨rfl, rfl, rfl, rfl, rfl, rfl⟩ (by decide) (by decide) (by intro _; rfl) ?_
          k_search "gc"
          refine ⟨D, ys, kD, fun i j ws J2 => (∀ p ∈ J3, p ∈ J2) ∧ All2 (TriT J2) ws (lateTo ts i j), rfl, by omega, ⟨fun _ h => h, by rw [late_zero]; exact .nil⟩, ?_, ?_, ?_⟩
          · rintro i j ws J2 ⟨h1, h2⟩
            exact ⟨h1 _ hm3, by rw [h2.length]; have := hlen i j; omega⟩
          · intro i v hv
            obtain ⟨t1, ht1, T1, rl1, rvs1, kl1, kT1, rfl, hm1, hm2, hr1, hth1, hw1⟩ := hmade.at hv
            refine ⟨T1, t1.v, rl1, rvs1, kl1, kT1, rfl, fun j ws J2 h => ⟨h.1 _ (hs3 _ hm1), h.1 _ (hs3 _ hm2)⟩, fun ws J2 h => ⟨h.1, by rw [← late_next ht1, ← hr1.length]; exact h.2⟩, ?_⟩
            rintro t9 j v ws J2 hv2 ⟨hs2, hws⟩
            have hs4 : ∀ p ∈ J', p ∈ J2 := fun p hp => hs2 p (hs3 p hp)
            obtain ⟨r1, hr2, hrow⟩ := hr1.at hv2
            obtain ⟨a9, pv9, rfl, hm9, hp9, hth9⟩ := hrow.mono hs4
            obtain ⟨n9, hm9⟩ := hm9
            refine ⟨a9, pv9, r1.2.v, .bool (form r1.2), n9, rfl, hm9, fun x' hi q1 q2 q3 q4 => ?_⟩
            have hr3 := (poT_bound t1 []).2 r1 (List.mem_of_getElem? hr2)
            obtain ⟨pa, pvs, rfl, hpa, hpi⟩ := hp9
            have hpl := hpi.length
            simp only [List.length_nil] at hr3
            refine ec_tup ?_
            refine el_cons ?_ ?_
            · k_search "gs"
            k_search "gc"
            k_search "gc"
            refine bin_tups Tup.head hpa.tail (by simp only [List.length_cons, List.length_nil]; omega) fun D5 J5 hs5 hT5 => ?_
            have hs6 : ∀ p ∈ J2, p ∈ J5 := fun p hp => hs5 p (.tail _ hp)
            k_search "gl"
            refine ⟨Nat.le_of_ble_eq_true rfl, fun D6 => ⟨rfl, rfl, fun p hp => .tail _ (hs6 p (hs2 p hp)), ?_⟩⟩
            rw [late_snoc ht1 hr2]
            exact (hws.mono fun _ _ h => h.mono fun p hp => .tail _ (hs6 p hp)).snoc ⟨D6, .ref D5, rfl, Tup.head, ⟨D5, _, rfl, hT5.tail, .cons _ _ hpi⟩, hth9.mono fun p hp => .tail _ (hs6 p hp)⟩
          · rintro D4 ws J2 ⟨hs2, hws⟩
            rw [hyl] at hws
            have hwl := hws.length
            have hl9 := hlen ts.length 0
            obtain ⟨hF, hFw, hFl⟩ := fromL_in hz
            have hsum := made_sum hmade
            obtain ⟨J6, e6⟩ : ∃ J6, J6 = (D4, lst ws) :: J2 := ⟨_, rfl⟩
            have hs6 : ∀ p ∈ J', p ∈ J6 := fun p hp => e6 ▸ .tail _ (hs2 p (hs3 p hp))
            obtain ⟨kW, hm6⟩ : ∃ kW, (D4, listOf (List.toArray ws) kW) ∈ J6 := ⟨_, by rw [e6]; exact .head _⟩
            have hw6 : All2 (TriT J6) ws (lateTo ts ts.length 0) := hws.mono fun _ _ h => h.mono fun p hp => e6 ▸ .tail _ hp
            have hT6 : Tup J6 D3 zs := e6 ▸ (hT3.mono hs2).tail
            refine go_weak (G' := ⟨(fd, oi) :: M, J6, dr⟩) (by rw [e6]; exact Wk.refl) ?_
            clear e6
            refine go_if (by k_search "gt") ⟨fun h5 => ?_, fun h5 => ?_⟩
            · refine go_asg ?_ ?_ ?_
              · assumption
              · k_search "gw"
              k_search "gc"
              refine wrapped_ok ok8 (rmD hd9 rfl) (rmU hu9 rfl) (hr.mono fun p hp => hs6 p (hsJ p hp)) hfi (by omega) (by omega) hT6 (hF.mono hs6) (by omega) fun tv t o7 J7 hs7 hth7 hfm7 htk7 hw7 hf7 => ?_
              refine go_ret ?_
              refine ec_row (fun _ _ => by k_search "ge") (fun _ => eg_bool) (by k_search "gs") fun DE DR DL DT => ⟨⟨(fd, o7) :: M, _, _⟩, ⟨rfl, [_, _], rfl, fun p hp => .tail _ (.tail _ hp)⟩, ?_⟩
              obtain rfl := hth7.1
              refine kk DT t.v DL _ _ t o7 (ki + 1) _ (fun p hp => sub4 p (hs7 p (hs6 p (hsJ p hp)))) Tup.head (.tail _ (.head _)) ?_ (hth7.mono sub4) (by simp only [wB]; omega) hf7 (by omega) (by simp only [pB]; omega)
              rw [po_leaf' (t := t) (by rw [kids, hfm7]; rfl)]
              exact tri_one (by rw [hfm7]; exact Tup.head.tail.tail) Tup.head.tail.tail.tail (hth7.mono sub4)
            · k_search "go"
              refine go_asg ?_ ?_ ?_
              · assumption
              · k_search "gw"
              refine ec_mono (P := fun v G' => ∃ t J7, G' = ⟨(fd, oi) :: M, J7, dr⟩ ∧ (∀ p ∈ J6, p ∈ J7) ∧ ThIn J7 v t ∧ form t = true ∧ t.k = fromL ts ∧ wtT t = wt (fromL ts) + 2) ?_ ?_
              · (with_reducible apply ec_ifexp)
                · k_search "gt"
                refine ⟨fun h2 => ?_, fun h2 => ?_⟩
                · k_search "gc"
                  exact ⟨⟨_, .node .under, fromL ts⟩, _, rfl, fun p hp => .tail _ hp, ⟨rfl, zs, .under Tup.head hT6.tail, (hF.mono hs6).mono fun p hp => .tail _ hp⟩, rfl, rfl, Nat.add_comm _ _⟩
                · have hr2 : r = 1 ∨ r = 2 := by simp at h1 h2; omega
                  rcases hr2 with rfl | rfl
                  · refine ec_bin ?_
                    refine ec_tup ?_
                    refine el_cons ?_ ?_
                    · k_search "gs"
                    refine ec_subC ?_ ?_
                    · k_search "gc"
                      rename_i tA tB DB
                      refine ⟨DB, [.str (Str.ofString "turn") tA, .str (Str.ofString "join") tB], rfl, ?_⟩
                      k_search "gc"
                      refine ⟨_, _, 0, _, rfl, Tup.head.has, by decide, by decide, (show seqIndex? (1 - 1) 2 = some 0 by decide), rfl, ?_⟩
                      refine el_nil ?_
                      refine ⟨Nat.le_of_ble_eq_true rfl, fun D5 => ?_⟩
                      k_search "gc"
                      refine bin_tups Tup.head hT6.tail.tail (by simp only [List.length_cons, List.length_nil]; omega) fun D8 J8 hs8 hT8 => ?_
                      have hs9 : ∀ p ∈ J6, p ∈ J8 := fun p hp => hs8 p (.tail _ (.tail _ hp))
                      exact ⟨⟨_, .node .turn, fromL ts⟩, _, rfl, hs9, ⟨rfl, zs, .turn hT8, (hF.mono hs6).mono hs9⟩, (show (lenF (fromL ts) == 1) = true by rw [hFl, htl]; have := hcr (by decide); simp; omega), rfl, Nat.add_comm _ _⟩
                    · intro _ _ _; rfl
                  · refine ec_bin ?_
                    refine ec_tup ?_
                    refine el_cons ?_ ?_
                    · k_search "gs"
                    refine ec_subC ?_ ?_
                    · k_search "gc"
                      rename_i tA tB DB
                      refine ⟨DB, [.str (Str.ofString "turn") tA, .str (Str.ofString "join") tB], rfl, ?_⟩
                      k_search "gc"
                      refine ⟨_, _, 1, _, rfl, Tup.head.has, by decide, by decide, (show seqIndex? (2 - 1) 2 = some 1 by decide), rfl, ?_⟩
                      refine el_nil ?_
                      refine ⟨Nat.le_of_ble_eq_true rfl, fun D5 => ?_⟩
                      k_search "gc"
                      refine bin_tups Tup.head hT6.tail.tail (by simp only [List.length_cons, List.length_nil]; omega) fun D8 J8 hs8 hT8 => ?_
                      have hs9 : ∀ p ∈ J6, p ∈ J8 := fun p hp => hs8 p (.tail _ (.tail _ hp))
                      exact ⟨⟨_, .node .join, fromL ts⟩, _, rfl, hs9, ⟨rfl, zs, .join hT8, (hF.mono hs6).mono hs9⟩, (show (lenF (fromL ts) == 2) = true by rw [hFl, htl]; have := hcr (by decide); simp; omega), rfl, Nat.add_comm _ _⟩
                    · intro _ _ _; rfl
              · rintro tv _ ⟨t, J7, rfl, hs7, hth7, hfm7, htk7, hw7⟩
                k_search "gr"
                refine ec_rowL (fun _ _ => by k_search "ge") (fun _ => eg_bool) (by k_search "gs") fun DE DR DL => ?_
                refine bin_lists (.inl (.tail _ (.tail _ (.tail _ (hs7 _ hm6))))) (.inl (.head _)) (by simp only [List.length_cons, List.length_nil]; omega) fun DS => ?_
                refine el_nil ?_
                refine ⟨Nat.le_of_ble_eq_true rfl, fun DT => ⟨⟨(fd, oi) :: M, _, _⟩, ⟨rfl, [_, _], rfl, fun p hp => .tail _ (.tail _ hp)⟩, ?_⟩⟩
                obtain rfl := hth7.1
                have hs8 : ∀ p ∈ J7, p ∈ (DT, tupO [t.v, Value.ref DS]) :: (DS, listOf (List.toArray (ws ++ [Value.ref DR])) 0) :: (DL, listOf [Value.ref DR].toArray 0) :: (DR, tupO [Value.ref DE, t.v, Value.bool true]) :: (DE, tupO []) :: J7 := fun p hp => .tail _ (.tail _ (.tail _ (.tail _ (.tail _ hp))))
                refine kk DT t.v DS _ _ t oi ki _ (fun p hp => hs8 p (hs7 p (hs6 p (hsJ p hp)))) Tup.head (.tail _ (.head _)) ?_ (hth7.mono hs8) (by simp only [wB]; omega) hfi (by omega) (by simp only [pB]; omega)
                rw [po_node hfm7 htk7]
                refine (hw6.mono fun _ _ h => h.mono fun p hp => hs8 p (hs7 p hp)).append (tri_one (by rw [hfm7]; exact Tup.head.tail.tail.tail) Tup.head.tail.tail.tail.tail (hth7.mono hs8))
end
section
open PySem PySem.W PySem.Spec PySem.Calls PyProof.Rows PyProof.Rows.LCg
set_option maxRecDepth 100000
set_option maxHeartbeats 4000000
theorem bad_no {α : Type} {l : List α} {f : α → Bool} {r : α} {P : Prop} (h : l.find? (fun q => !f q) = some r) (k : ∀ r ∈ l, f r = true) : P := by
  have h1 := List.find?_some h
  rw [k r (List.mem_of_find?_eq_some h)] at h1
  cases h1
theorem refused_ok {x : Fx} {J : Led} {dr : Drawn} {m : Loc} {K : Value → Gh → Prop} {j : Addr} {v : Value} {t : Th} {b : Bool} {r : List Int × Th} {d u : Nat} (ok : Ok x d u) (hout : x.outer = []) (hcl : x.cl = []) (hH : x.H = []) (hd : d ≤ 310) (hu : u ≤ 890) (ht : ThIn J v t) (hz : wtT t ≤ 9000) (hj : JudgeAt x.w J j)
    (hbad : (po [] t).find? (fun q => !form q.2) = some r) (k : ∀ pv J' d', (∀ p ∈ J, p ∈ J') → PathT J' pv r.1 → K pv ⟨[], J', d'⟩) : CallG x ⟨[], J, dr⟩ m (.ref 270) [.ref j, v, .bool b] K := by
  refine enterTry (X := fun pv J' => (∀ p ∈ J, p ∈ J') ∧ PathT J' pv r.1) (binds := [(Str.ofString "judge", _), (Str.ofString "thing", _), (Str.ofString "is_counted", _)]) ok hout hcl hH (by k_is) (by k_is) (rmL hd rfl) (by rfl) (by exact locs rfl) rfl rfl rfl (by decide) rfl rfl ?_ fun pv J' hx => ⟨?_, fun d' => k pv J' d' hx.1 hx.2⟩
  · intro x9 E9 ok9 hw9 he9 hX9
    have l1 : LocX x9 (Str.ofString "judge") := by k_search "gn"
    have l2 : LocX x9 (Str.ofString "thing") := by k_search "gn"
    have l3 : LocX x9 (Str.ofString "is_counted") := by k_search "gn"
    have g1 : NameIs x9 (Str.ofString "tidied") (.ref 167) := by k_search "gn"
    rw [← hw9] at hj
    refine go_if (by k_search "gt") ⟨fun h3 => ?_, fun h3 => ?_⟩
    · (with_reducible apply go_exprF)
      · rw [he9]; rfl
      · k_search "gw"
      · exact hX9
      refine ee_meth (by rfl) ok9 (by k_search "ge") hj (by k_search "gs") (by intro _; rfl) ?_
      k_search "gl"
      refine count_ok ok9 (rmD hd rfl) (rmU hu rfl) ht (by omega) (fun hf _ _ _ _ => bad_no hbad hf) fun r' hr' J' pv hs hp => ?_
      obtain rfl := Option.some.inj (hbad.symm.trans hr')
      exact ⟨hs, hp⟩
    · (with_reducible apply go_exprF)
      · rw [he9]; rfl
      · k_search "gw"
      · exact hX9
      refine ee_callK g1 ok9.K (by k_is) (by k_search "gs") (by intro _; rfl) ?_
      k_search "gl"
      refine tidied_ok ok9 (rmD hd rfl) (rmU hu rfl) ht (by omega) (fun hf _ _ _ _ _ => bad_no hbad hf) fun r' hr' J' pv hs hp => ?_
      obtain rfl := Option.some.inj (hbad.symm.trans hr')
      exact ⟨hs, hp⟩
  · obtain ⟨_, _, _, rfl, _⟩ := hx
    rfl
end
section
open PySem PySem.W PySem.Spec PySem.Calls PyProof.Rows
set_option maxRecDepth 100000
theorem ints_at : ∀ {vs : List Value} {ns : List Int} {i : Nat} {v : Value}, IntsAre vs ns → vs[i]? = some v → ∃ n t, v = .int n t
  | _, _, _, _, .nil, h => by simp at h
  | _, _, 0, _, .cons n t _, h => ⟨n, t, (by simpa using h.symm)⟩
  | _, _, i + 1, _, .cons _ _ h1, h => ints_at h1 (by simpa using h)
theorem ints_snoc : ∀ {vs : List Value} {ns : List Int} {n : Int} {t : Tok}, IntsAre vs ns → IntsAre (vs ++ [.int n t]) (ns ++ [n])
  | _, _, n, t, .nil => .cons n t .nil
  | _, _, _, _, .cons k u h => .cons k u (ints_snoc h)
def CellsIn (i : Nat) (ys : List Value) : Prop := ys.length = i ∧ ∃ ns, IntsAre ys ns ∧ ∀ n ∈ ns, 0 ≤ n ∧ n < 1000003
theorem cell0 : CellsIn 0 [] := ⟨rfl, [], .nil, fun _ h => by cases h⟩
theorem cell_next {i : Nat} {ys : List Value} {n : Int} {t : Tok} (h : CellsIn i ys) (h0 : 0 ≤ n) (h1 : n < 1000003) : CellsIn (i + 1) (ys ++ [.int n t]) := by
  obtain ⟨hl, ns, hi, hn⟩ := h
  refine ⟨by rw [List.length_append, List.length_singleton, hl], _, ints_snoc hi, fun k hk => ?_⟩
  rcases List.mem_append.mp hk with hk | hk
  · exact hn k hk
  · rw [List.mem_singleton.mp hk]; exact ⟨h0, h1⟩
section
variable {J : Led} {rows : List (List Int × Th)} {i : Nat} {ys : List Value} {r : List Int × Th} {pv v : Value}
def BadIn (J : Led) (rows : List (List Int × Th)) (ys : List Value) : Prop := ys.length ≤ rows.length ∧ All2 (PathT J) ys ((rows.filter fun q => !form q.2).map (·.1))
theorem bad_keep (h : BadIn J (rows.take i) ys) (hr : rows[i]? = some r) (hf : form r.2 = false) (hp : PathT J pv r.1) : BadIn J (rows.take (i + 1)) (ys ++ [pv]) := by
  unfold BadIn
  rw [take_one hr, List.filter_append, List.map_append]
  have e : [r].filter (fun q => !form q.2) = [r] := by simp [hf]
  rw [e]
  exact ⟨by rw [List.length_append, List.length_append]; exact Nat.succ_le_succ h.1, h.2.snoc hp⟩
theorem bad_pass (h : BadIn J (rows.take i) ys) (hr : rows[i]? = some r) (hf : form r.2 = true) : BadIn J (rows.take (i + 1)) ys := by
  unfold BadIn
  rw [take_one hr, List.filter_append, List.map_append]
  have e : [r].filter (fun q => !form q.2) = [] := by simp [hf]
  rw [e, List.map_nil, List.append_nil]
  exact ⟨by rw [List.length_append]; exact Nat.le_succ_of_le h.1, h.2⟩
theorem bad_first {y : Value} {ys : List Value} (h : BadIn J rows (y :: ys)) : ∃ r, rows.find? (fun q => !form q.2) = some r ∧ PathT J y r.1 := by
  obtain ⟨_, h⟩ := h
  rw [← List.head?_filter]
  cases e : rows.filter (fun q => !form q.2) with
  | nil => rw [e] at h; cases h
  | cons r rs =>
    rw [e] at h
    cases h with
    | cons h1 _ => exact ⟨r, rfl, h1⟩
theorem bad_none (h : BadIn J rows []) : ∀ r ∈ rows, form r.2 = true := fun r hr => by
  obtain ⟨_, h⟩ := h
  cases e : form r.2 with
  | true => rfl
  | false =>
    have h1 : r ∈ rows.filter (fun q => !form q.2) := List.mem_filter.mpr ⟨hr, by simp [e]⟩
    cases e2 : rows.filter (fun q => !form q.2) with
    | nil => rw [e2] at h1; cases h1
    | cons a b => rw [e2] at h; cases h
def LenIn (rows : List (List Int × Th)) (ys : List Value) : Prop := ys.length ≤ rows.length ∧ (ys.length : Int) = cnt rows
theorem len_next (h : LenIn (rows.take i) ys) (hr : rows[i]? = some r) (hf : isTR r.2 = true) : LenIn (rows.take (i + 1)) (ys ++ [v]) := by
  unfold LenIn
  rw [take_one hr, cnt_snoc, hf, List.length_append, List.length_append, ← h.2]
  exact ⟨Nat.succ_le_succ h.1, rfl⟩
theorem len_pass (h : LenIn (rows.take i) ys) (hr : rows[i]? = some r) (hf : isTR r.2 = false) : LenIn (rows.take (i + 1)) ys := by
  unfold LenIn
  rw [take_one hr, cnt_snoc, hf, List.length_append, ← h.2]
  exact ⟨Nat.le_succ_of_le h.1, (Int.add_zero _).symm⟩
theorem no_bad {P : Prop} (h : ∀ r ∈ rows, form r.2 = true) (k : rows.find? (fun q => !form q.2) = some r) : P := bad_no (f := fun q : List Int × Th => form q.2) k h
end
theorem po_cnt {t : Th} (h : ∀ r ∈ po [] t, form r.2 = true) : cnt (po [] t) = (cntT t : Int) := by
  have hf : form t = true := h ([], t) (List.mem_append_right _ (.head _))
  refine (poT_allF hf (allF_po t.k [] 0 fun r hr => h r (List.mem_append_left _ ?_)) []).2
  rw [kids, if_pos hf]; exact hr
theorem body_of {K : Frag} {f : Addr} {oc dV kV doc pm cdv ct oc' dV' kV' doc' pm' cdv' ct' : Value} {od od' an an' : Option Addr} {osl osl' : Array (Option Value)} {name qual name' qual' : Str} {params params' : Arguments} {body body' : List Stmt} {scope scope' : Scope}
    (h1 : K.lookup f = some ⟨oc, od, .func (fnOf name qual params body scope dV kV doc pm an cdv ct), osl⟩) (h2 : K.lookup f = some ⟨oc', od', .func (fnOf name' qual' params' body' scope' dV' kV' doc' pm' an' cdv' ct'), osl'⟩) : body = body' ∧ scope = scope' := by
  rw [h1] at h2
  injection h2 with h2
  injection h2 with _ _ h3 _
  injection h3 with h3
  exact ⟨by injection congrArg FuncData.body h3, congrArg FuncData.scope h3⟩
end
section
open PySem PySem.W PySem.Spec PySem.Calls PyProof.Rows PyProof.Rows.LCg
set_option maxRecDepth 100000
set_option maxHeartbeats 4000000
theorem built3 : BuiltOk 3 := built_any (fun n e => by
  obtain rfl : n = 2 := by omega
  exact built_any (fun n e => by
    obtain rfl : n = 1 := by omega
    exact built_any (fun n e => by
      obtain rfl : n = 0 := by omega
      exact built_any (fun n e => by omega) (by decide)) (by decide)) (by decide)) (by decide)
theorem law_go {x : Fx} {m : Loc} {dr : Drawn} {T : Post} {E : Value → Shared → Prop} {oc dV kV doc pm cdv ct cd2 : Value} {od an : Option Addr} {osl : Array (Option Value)} {name qual q2 : Str} {params : Arguments} {body : List Stmt} {scope : Scope} {f l : Addr} {vs : List Value} {ns : List Int}
    (hb : (Mine.hd.heap_1 x.w.params).lookup 275 = some ⟨oc, od, .func (fnOf name qual params body scope dV kV doc pm an cdv ct), osl⟩) (he : x.env = envX q2 scope x.L f cd2 []) (ok : Ok x 305 20) (hout : x.outer = []) (hcl : x.cl = []) (hH : x.H = [])
    (hm : m (Str.ofString "script") = some (.ref l)) (hl : x.h₀.IsList l vs.toArray) (hI : IntsAre vs ns) (hz : vs.length ≤ 63) (fin : ∀ G m, T (.ret (.bool true)) G m) : Go x ⟨[], [], dr⟩ m body T E := by
  obtain ⟨rfl, rfl⟩ := body_of hb (by k_is)
  clear hb
  have l1 : LocX x (Str.ofString "script") := by k_search "gn"
  have l2 : LocX x (Str.ofString "feed") := by k_search "gn"
  have l3 : LocX x (Str.ofString "judge") := by k_search "gn"
  have l4 : LocX x (Str.ofString "thing") := by k_search "gn"
  have l5 : LocX x (Str.ofString "rows") := by k_search "gn"
  have l6 : LocX x (Str.ofString "bad") := by k_search "gn"
  have l7 : LocX x (Str.ofString "many") := by k_search "gn"
  have g1 : NameIs x (Str.ofString "Judge") (.ref 213) := by k_search "gn"
  have g2 : NameIs x (Str.ofString "_law_built") (.ref 263) := by k_search "gn"
  have g3 : NameIs x (Str.ofString "in_order") (.ref 136) := by k_search "gn"
  have g4 : NameIs x (Str.ofString "_law_refused_at") (.ref 270) := by k_search "gn"
  have g5 : NameIs x (Str.ofString "len") (.builtin "len") := by k_search "gn"
  have g6 : NameIs x (Str.ofString "tidied") (.ref 167) := by k_search "gn"
  have hil := hI.length
  (with_reducible apply go_asg2)
  · assumption
  · assumption
  · k_search "gw"
  · k_search "gw"
  refine el_cons ?_ ?_
  · k_search "gs"
  refine ec_feed ok fun D o => ?_
  k_search "gcomp"
  refine ec_take (by k_search "ge") hl hI (by omega) (by decide) (by intro _; rfl) fun D1 ws hws => ?_
  have hwl := hws.length
  rw [List.length_take] at hwl
  refine ⟨D1, listOf ws.toArray 0, ws, 0, fun i ys M J => M = [(D, o)] ∧ J = [(D1, listOf ws.toArray 0)] ∧ CellsIn i ys, rfl, .inl rfl, by omega, ⟨rfl, rfl, cell0⟩, ?_, ?_, ?_⟩
  · rintro i ys M J ⟨_, rfl, _⟩
    exact .inl (.head _)
  · rintro i v ys M J hv ⟨rfl, rfl, hc⟩
    obtain ⟨n, t, rfl⟩ := ints_at hws hv
    refine ⟨_, .name, by exact locs rfl, of_decide_eq_true rfl, fun x' hi hb => ⟨fun _ => ?_, fun h => b_tf h⟩⟩
    have n1 := hb _ (.head _)
    have n2 : NameIs x' (Str.ofString "int") (.type "int") := by k_search "gn"
    refine ec_pure (eg_mod (eg_int1 n2 (by k_search "ge") (by k_search "gs")) eg_int (by decide)) fun t => ⟨rfl, rfl, rfl, cell_next hc (Int.fmod_nonneg_of_pos n (by decide)) (Int.fmod_lt_of_pos n (by decide))⟩
  rintro D2 ys M J ⟨rfl, rfl, hyl, ks, hks, hkb⟩
  refine ⟨rfl, 0, eg_int, fun o2 t2 ho2 => ?_⟩
  refine el_cons ?_ ?_
  · k_search "gs"
  refine ec_callK g1 ok.K (by k_is) (by k_search "gs") (by intro _; rfl) ?_
  refine el_cons ?_ ?_
  · k_search "gs"
  refine ec_dict0 ok fun D3 o3 _ => ?_
  refine el_cons ?_ ?_
  · k_search "gs"
  refine ec_dict0 ok fun D4 o4 _ => ?_
  refine el_nil ?_
  refine cg_judge ok (by decide) (by decide) fun j J2 hs2 hj => ?_
  refine el_nil ?_
  refine ⟨_, _, rfl, ?_⟩
  have hr : RowList J2 D2 := ⟨ys, ks, hs2 _ (.head _), hks, hkb, by have := hks.length; omega⟩
  refine go_weak (G' := ⟨[(D, o2)], J2, dr⟩) ⟨rfl, [_, _], rfl, fun p hp => .tail _ (.tail _ hp)⟩ ?_
  clear hs2 hkb hks hwl hws hyl
  k_search "go0"
  refine built3 ok (by decide) (by decide) hr ⟨t2, ho2⟩ (by decide) (by decide) fun T1 tv rl rvs kl t o5 k5 J3 hs3 hT1 hrl hrows hth hwt hfd hk5 hk6 => ?_
  obtain rfl := hth.1
  refine at_tup hT1.has (by rw [he]; rfl) rfl (at_loc l4 (at_loc l5 (show Go _ _ _ _ _ _ from ?_)))
  refine go_weak (G' := ⟨[], J3, dr⟩) Wk.drop ?_
  have hw : wtT t ≤ 160 := Nat.le_trans hwt (by decide)
  replace hj := hj.mono hs3
  have hpl := (poT_bound t []).1
  have hun := ok.units
  have hcL := cLine_is
  have hrn := hrows.length
  clear hs3 hT1 hr ho2 hfd hk5 hk6 hwt
  refine go_ifC (tc_cmp (by rfl) ?_)
  k_search "gc"
  refine order_ok ok (by decide) (by decide) hth (by omega) fun l9 J4 n9 d4 vs9 hs4 hl9 hr9 => ?_
  k_search "gcomp"
  k_search "gc"
  refine ⟨rl, listOf (List.toArray rvs) kl, rvs, kl, fun i ys M J => M = [] ∧ (∀ p ∈ J4, p ∈ J) ∧ All2 (PairT J) ys ((po [] t).take i), rfl, .inl rfl, by omega, ⟨rfl, fun _ h => h, .nil⟩, ?_, ?_, ?_⟩
  · rintro i ys M J ⟨_, h, _⟩
    exact .inl (h _ (hs4 _ hrl))
  · rintro i v ys M J hv ⟨rfl, hsJ, hp⟩
    obtain ⟨r, hr, a7, pv7, rfl, ⟨n7, hm7⟩, hp7, ht7⟩ := hrows.at hv
    have hs7 : ∀ p ∈ J3, p ∈ J := fun p hp => hsJ p (hs4 p hp)
    refine ⟨_, .three (hs7 _ hm7), by exact locs rfl, of_decide_eq_true rfl, fun x' hi hb => ⟨fun _ => ?_, fun h => b_tf h⟩⟩
    have n1 := hb _ (.head _)
    have n2 := hb _ (.tail _ (.head _))
    k_search "gc"
    exact ⟨rfl, rfl, fun p hp => .tail _ (hsJ p hp), by rw [take_one hr]; exact (hp.mono fun _ _ h => h.mono fun p hp => .tail _ hp).snoc ⟨_, _, _, rfl, Tup.head, hp7.mono fun p hp => .tail _ (hs7 p hp), ht7.mono fun p hp => .tail _ (hs7 p hp)⟩⟩
  rintro D5 ys2 M J5 ⟨rfl, hs5, hp⟩
  rw [hrn, List.take_length] at hp
  refine ⟨false, cmp_rows (.tail _ (hs5 _ hl9)) (.head _) (hr9.mono fun _ _ h => h.mono fun p hp => .tail _ (hs5 p hp)) (hp.mono fun _ _ h => h.mono fun p hp => .tail _ hp) (by omega), fun h => b_ft h, fun _ => ?_⟩
  have hsA : ∀ p ∈ J3, p ∈ (D5, lst ys2) :: J5 := fun p hp => .tail _ (hs5 p (hs4 p hp))
  k_search "go"
  obtain ⟨J6, e6⟩ : ∃ J6, J6 = (D5, lst ys2) :: J5 := ⟨_, rfl⟩
  rw [← e6] at hsA
  refine go_weak (G' := ⟨[], J6, d4⟩) (by rw [e6]; exact Wk.refl) ?_
  clear e6 hs5 hp hr9 hl9 hs4
  replace hth := hth.mono hsA
  replace hj := hj.mono hsA
  replace hrl := hsA _ hrl
  replace hrows := hrows.mono fun _ _ h => h.mono hsA
  clear hsA
  k_search "gcompA"
  k_search "gc"
  refine ⟨rl, listOf (List.toArray rvs) kl, rvs, kl, fun i ys M J => M = [] ∧ J = J6 ∧ BadIn J6 ((po [] t).take i) ys, rfl, .inl rfl, by omega, ⟨rfl, rfl, Nat.zero_le _, .nil⟩, ?_, ?_, ?_⟩
  · rintro i ys M J ⟨_, rfl, _⟩
    exact .inl hrl
  · rintro i v ys M J hv ⟨rfl, rfl, hb9⟩
    obtain ⟨r, hr, a7, pv7, rfl, ⟨n7, hm7⟩, hp7, ht7⟩ := hrows.at hv
    refine ⟨_, .three hm7, by exact locs rfl, of_decide_eq_true rfl, fun x' hi hb => ?_⟩
    have n1 := hb _ (.head _)
    have n2 := hb _ (.tail _ (.tail _ (.head _)))
    refine tc_pure (by k_search "gt") ⟨fun hf => ?_, fun hf => ?_⟩
    · k_search "gc"
      exact ⟨rfl, rfl, rfl, bad_keep hb9 hr (by simpa using hf) hp7⟩
    · exact ⟨rfl, rfl, rfl, bad_pass hb9 hr (by simpa using hf)⟩
  rintro D6 bs M J ⟨rfl, rfl, hbs⟩
  rw [hrn, List.take_length] at hbs
  refine go_ifC (tc_cmp (by rfl) ?_)
  k_search "gc"
  refine ec_listJ ?_
  refine el_nil ?_
  refine ⟨Nat.zero_le _, fun D7 => ?_⟩
  cases bs with
  | nil =>
    have hall := bad_none hbs
    refine ⟨false, cmp_neL (ys := []) (.tail _ (.head _)) (.head _) (by omega) rfl, fun h => b_ft h, fun _ => ?_⟩
    k_search "go"
    refine go_weak (G' := ⟨[], J, d4⟩) (Wk.ofJ fun p hp => .tail _ (.tail _ hp)) ?_
    refine go_asg ?_ ?_ ?_
    · assumption
    · k_search "gw"
    refine ec_callB (by assumption) (by k_search "gs") (by intro _; rfl) ?_
    refine el_cons ?_ ?_
    · k_search "gs"
    k_search "gcomp"
    k_search "gc"
    refine ⟨rl, listOf (List.toArray rvs) kl, rvs, kl, fun i ys M J' => M = [] ∧ J' = J ∧ LenIn ((po [] t).take i) ys, rfl, .inl rfl, by omega, ⟨rfl, rfl, Nat.zero_le _, rfl⟩, ?_, ?_, ?_⟩
    · rintro i ys M J ⟨_, rfl, _⟩
      exact .inl hrl
    · rintro i v ys M J hv ⟨rfl, rfl, hn9⟩
      obtain ⟨r, hr, a7, pv7, rfl, ⟨n7, hm7⟩, hp7, ht7⟩ := hrows.at hv
      obtain ⟨a8, h8, tk8, us8, hv8, hm8, hany⟩ := head_of ht7 (hall r (List.mem_of_getElem? hr))
      rw [hv8] at hm7
      refine ⟨_, .three hm7, by exact locs rfl, of_decide_eq_true rfl, fun x' hi hb => ?_⟩
      have n1 := hb _ (.tail _ (.head _))
      refine tc_pure (by k_search "gt") ⟨fun hf => ?_, fun hf => ?_⟩
      · k_search "gc"
        exact ⟨rfl, rfl, rfl, len_next hn9 hr hf⟩
      · exact ⟨rfl, rfl, rfl, len_pass hn9 hr hf⟩
    rintro D8 os M J' ⟨rfl, rfl, hos⟩
    rw [hrn, List.take_length] at hos
    obtain ⟨hol, hos⟩ := hos
    refine el_nil ?_
    refine cg_pure (cp_lenL (.inr (.inl (.head _))) rfl (by omega)) fun tk9 => ?_
    refine go_weak (G' := ⟨[], J', d4⟩) (Wk.ofJ fun p hp => .tail _ hp) ?_
    refine go_ret ?_
    refine ec_and ?_
    refine ec_cmp (by rfl) ?_
    refine ec_meth (by rfl) ok (by k_search "ge") hj (by k_search "gs") (by intro _; rfl) ?_
    k_search "gl"
    refine cg_ofE (count_ok ok (by decide) (by decide) hth (by omega) (fun _ J9 d9 tk9 hs9 => ?_) fun r hr => no_bad hall hr)
    k_search "gc"
    refine ⟨true, cmp_eqI (by rw [hos]; simp), true, rfl, fun _ => ?_, fun h => b_tf h⟩
    refine ec_bo1 ?_
    refine ec_cmp (by rfl) ?_
    refine ec_meth (by rfl) ok (by k_search "ge") (hj.mono hs9) (by k_search "gs") (by intro _; rfl) ?_
    refine el_cons ?_ ?_
    · k_search "gs"
    k_search "gc"
    refine cg_ofE (tidied_ok ok (by decide) (by decide) (hth.mono hs9) (by omega) (fun _ v2 J8 d8 hs8 hg => ?_) fun r hr => no_bad hall hr)
    obtain ⟨t7, hth7, hf7, hk7, hc7, hw7⟩ := hg
    have h7 := poT_allF hf7 hk7 []
    refine el_nil ?_
    refine cg_ofE (count_ok ok (by decide) (by decide) hth7 (by omega) (fun _ J7 d7 tk7 hs7 => ?_) fun r hr => no_bad h7.1 hr)
    k_search "gc"
    exact ⟨true, cmp_eqI (by rw [h7.2, hc7, hos, po_cnt hall]; simp), fin _ _⟩
  | cons b0 bs =>
    obtain ⟨r0, hr0, hb0⟩ := bad_first hbs
    refine ⟨true, cmp_neL (ys := b0 :: bs) (.tail _ (.head _)) (.head _) (by omega) rfl, fun _ => ?_, fun h => b_tf h⟩
    refine go_weak (G' := ⟨[], (D6, lst (b0 :: bs)) :: J, d4⟩) (Wk.ofJ fun p hp => .tail _ hp) ?_
    refine go_ret ?_
    refine ec_and ?_
    refine ec_cmp (by rfl) ?_
    k_search "gc"
    refine refused_ok ok hout hcl hH (by decide) (by decide) (hth.mono fun p hp => .tail _ hp) (by omega) (hj.mono fun p hp => .tail _ hp) hr0 fun pv J9 d9 hs9 hp9 => ?_
    refine ec_pure (eg_subL (vs := b0 :: bs) (by k_search "ge") (hs9 _ (.head _)) (by decide) (by decide) rfl) fun _ => ?_
    refine ⟨true, cmp_paths hp9 (hb0.mono fun p hp => hs9 p (.tail _ hp)) (by omega), true, rfl, fun _ => ?_, fun h => b_tf h⟩
    refine ec_bo1 ?_
    refine ec_cmp (by rfl) ?_
    k_search "gc"
    refine refused_ok ok hout hcl hH (by decide) (by decide) (hth.mono fun p hp => hs9 p (.tail _ hp)) (by omega) (hj.mono fun p hp => hs9 p (.tail _ hp)) hr0 fun pv2 J8 d8 hs8 hp8 => ?_
    refine ec_pure (eg_subL (vs := b0 :: bs) (by k_search "ge") (hs8 _ (hs9 _ (.head _))) (by decide) (by decide) rfl) fun _ => ?_
    exact ⟨true, cmp_paths hp8 (hb0.mono fun p hp => hs8 p (hs9 p (.tail _ hp))) (by omega), fin _ _⟩
end
section
open PySem PySem.W PySem.Spec PySem.Calls PyProof.Rows PyProof.Rows.LCg
set_option maxRecDepth 100000
set_option maxHeartbeats 4000000
theorem law_run {w : World} {s : Shared} {g : Heap} {L fa l : Addr} {vp : Program} {vl : List Str} {mean : ExcName → Option Value} {mg mb : Str → Option Value} {m : Loc} {Q : Flow → Shared → Prop} {E : Value → Shared → Prop} {oc dV kV doc pm cdv ct cd2 : Value} {od an : Option Addr} {osl : Array (Option Value)} {name qual q2 : Str} {params : Arguments} {body : List Stmt} {scope : Scope} {vs : List Value} {ns : List Int}
    (T : Top vp vl mean mg mb g) (KX : (Mine.hd.heap_1 w.params).In g) (F : Fr g L s.heap m) (hg : s.gens = #[]) (hm : m (Str.ofString "script") = some (.ref l)) (hl : g.IsList l vs.toArray) (hI : IntsAre vs ns) (hz : ns.length ≤ 63) (hk : scope.kind = .function)
    (hb : (Mine.hd.heap_1 w.params).lookup 275 = some ⟨oc, od, .func (fnOf name qual params body scope dV kV doc pm an cdv ct), osl⟩)
    (hQ : ∀ s' m', Fr g L s'.heap m' → s'.gens = #[] → s'.os = s.os → Q (.ret (.bool true)) s') : wpAny (model PG w) (callerA.deeper (envOf q2 scope L fa cd2)) (execs body (envOf q2 scope L fa cd2)) Q E s := by
  let x : Fx := ⟨w, envOf q2 scope L fa cd2, g, L, [], s.gens, s.os, (callerA.deeper (envOf q2 scope L fa cd2)).depth, (callerA.deeper (envOf q2 scope L fa cd2)).units, (callerA.deeper (envOf q2 scope L fa cd2)).guards, q2, scope, fa, cd2, [], [], callerA, g⟩
  have ok : Ok x 305 20 := ⟨below_caller g, KX, ⟨_, _, _, _, _, T⟩, hk, Nat.le_of_ble_eq_true rfl, Nat.le_of_ble_eq_true rfl⟩
  have N0 : News g L s.heap [] := fun p hp => by cases hp
  have S0 : Sep [] [] := ⟨List.nodup_nil, fun p hp => by cases hp⟩
  refine wpAny_mono (law_go (x := x) (T := fun f _ _ => f = .ret (.bool true)) (E := E) (dr := s.drawn) hb rfl ok rfl rfl rfl hm hl hI (by rw [hI.length]; exact hz) (fun _ _ => rfl) s ⟨F, N0, S0, rfl, rfl, rfl⟩) (fun f s' h => ?_) fun _ _ z => z
  obtain ⟨G', m', st, rfl⟩ := h
  exact hQ s' m' st.1 (st.2.2.2.1.trans hg) st.2.2.2.2.1
theorem law_post (ns : List Int) : PySem.Challenge.rw_rg0115_01.row.claim.post [ofPy (PyData.list (ns.map PyData.int))] (.bool true) [ofPy (PyData.list (ns.map PyData.int))] = true := by
  wrow_post
theorem law_raises (ns : List Int) (cls : ExcName) : PySem.Challenge.rw_rg0115_01.row.claim.raises [ofPy (PyData.list (ns.map PyData.int))] cls = false := by
  refine raisesW_false ?_ cls
  wrow_none_raised
end
section
open PySem PySem.W PySem.Spec PySem.Calls PyProof.Rows PyProof.Rows.LCg
set_option maxRecDepth 100000
set_option maxHeartbeats 8000000
def asK : List Nat := [2, 3, 15, 18, 23, 24, 26, 27, 29, 30, 31, 33, 34, 36, 37, 38, 39, 40, 41, 44, 51, 52, 53, 56, 59, 64, 65, 67, 68, 70, 71, 72, 74, 75, 77, 78, 79, 80, 81, 84, 86, 87, 89, 90, 91, 94, 95, 96, 99, 100, 101, 104, 105, 106, 108, 109, 111, 112, 113, 115, 116, 118, 119, 120, 123, 124, 125, 127, 128, 130, 131, 132, 135, 136, 137, 139, 140, 142, 143, 144, 146, 147, 149, 150, 151, 153, 154, 156, 157, 158, 161, 162, 163, 166, 167, 175, 177, 178, 180, 181, 182, 184, 185, 187, 188, 189, 192, 193, 194, 197, 198, 199, 202, 203, 204, 206, 207, 209, 210, 211, 212, 213, 214, 215, 218, 219, 220, 221, 222, 223, 224, 225, 226, 227, 228, 229, 230, 231, 232, 233, 234, 235, 236, 237, 238, 240, 241, 243, 244, 245, 247, 248, 250, 251, 252, 254, 255, 257, 258, 259, 262, 263, 264, 266, 267, 269, 270, 271, 274, 275]
theorem hfin.tw18265374123687478217 : True := trivial
theorem hfin.tw16284706439467026621 : True := trivial
theorem hfin.tw12782582711065979024 : True := trivial
theorem hfin.tw10222725876157850964 : True := trivial
theorem hfin.tw5962028427448450760 : True := trivial
theorem hfin.tw4792068571460668501 : True := trivial
theorem hfin.tw12743482445359305921 : True := trivial
theorem hfin.tw16283998069660558612 : True := trivial
theorem hfin.tw4866861204261073448 : True := trivial
theorem hfin.tw8266070570371245897 : True := trivial
theorem hfin.tw4188818280743847832 : True := trivial
theorem hfin.tw13123651465038277351 : True := trivial
theorem hfin.tw14917399415742943090 : True := trivial
theorem hfin.tw7442205923283332018 : True := trivial
theorem hfin.tw3395119110804156083 : True := trivial
theorem hfin.tw17948744800527874785 : True := trivial
theorem hfin.tw17721274444174210219 : True := trivial
theorem hfin.tw15799922932059725716 : True := trivial
theorem hfin.tw8973152814368907427 : True := trivial
theorem hfin.tw157457919721693380 : True := trivial
theorem hfin.tw5643877854254554119 : True := trivial
theorem hfin.tw13311496480199379737 : True := trivial
theorem hfin.tw8213109710370977392 : True := trivial
theorem hfin.tw15994212583701360021 : True := trivial
theorem hfin.tw1838761812432438534 : True := trivial
theorem hfin.tw15875672968424852685 : True := trivial
theorem hfin.tw14355974483967880011 : True := trivial
theorem hfin.tw10611791504082310702 : True := trivial
theorem hfin.tw14726486387392723668 : True := trivial
theorem hfin.tw12915831571879610405 : True := trivial
theorem hfin.tw304020761302622545 : True := trivial
theorem hfin.tw3349792781616583373 : True := trivial
theorem hfin.tw2694225574779844957 : True := trivial
theorem hfin.tw14584233135474421307 : True := trivial
theorem hfin.tw11305126485640545361 : True := trivial
theorem hfin.tw2858214514630976863 : True := trivial
theorem hfin.tw15477942357289032247 : True := trivial
theorem hfin.tw4856228725346813756 : True := trivial
theorem hfin.tw18134944762798648933 : True := trivial
theorem hfin.tw8966246257630627071 : True := trivial
theorem hfin.tw9301091828897968149 : True := trivial
theorem hfin.tw1886848550660953050 : True := trivial
theorem hfin.tw5166217320012805518 : True := trivial
theorem hfin.tw357585519833998215 : True := trivial
theorem hfin.tw8231549878547970687 : True := trivial
theorem hfin.tw6475513871502615052 : True := trivial
theorem hfin.tw1937230663491406179 : True := trivial
theorem hfin.tw15333796924263431851 : True := trivial
theorem hfin.tw436913684554417405 : True := trivial
theorem hfin.tw13011209851739499095 : True := trivial
theorem hfin.tw4713061755025414481 : True := trivial
theorem hfin.tw14260264845939588906 : True := trivial
theorem hfin.tw16425300048041724356 : True := trivial
theorem hfin.tw4570339358559087421 : True := trivial
theorem hfin.tw669281667143139377 : True := trivial
theorem hfin.tw12069198316927769988 : True := trivial
theorem hfin.tw13707727392056826488 : True := trivial
theorem hfin.tw3461319482965996917 : True := trivial
theorem hfin.tw6706004550777240545 : True := trivial
theorem hfin.tw16185093908901494831 : True := trivial
theorem hfin.tw1446816355229621680 : True := trivial
theorem hfin.tw3858065713754744969 : True := trivial
theorem hfin.tw4175348720747371730 : True := trivial
theorem hfin.tw5145314596753327336 : True := trivial
theorem hfin.tw13727072700051394717 : True := trivial
theorem hfin.tw3248570630172851375 : True := trivial
theorem hfin.tw1970429195939441100 : True := trivial
theorem hfin.tw8103928865408714374 : True := trivial
theorem hfin.tw14031997549187145738 : True := trivial
theorem hfin.tw1758513815320347252 : True := trivial
theorem hfin.tw12199270829570141838 : True := trivial
theorem hfin.tw16008052334092021177 : True := trivial
theorem hfin.tw10184983420278758748 : True := trivial
theorem hfin.tw6220289817115693251 : True := trivial
theorem hfin.tw18131923189087950878 : True := trivial
theorem hfin.tw16025688706152535826 : True := trivial
theorem hfin.tw7490339127117991551 : True := trivial
theorem hfin.tw18301501856458138446 : True := trivial
theorem hfin.tw14574950719703469482 : True := trivial
theorem hfin.tw10483099731737562895 : True := trivial
theorem hfin.tw10863017087443524822 : True := trivial
theorem hfin.tw13026568461622297869 : True := trivial
theorem hfin.tw15702531691364262762 : True := trivial
theorem hfin.tw8119627624354179492 : True := trivial
theorem hfin.tw1219869731455952995 : True := trivial
theorem hfin.tw4734801649620573880 : True := trivial
theorem hfin.tw11425564237525249930 : True := trivial
theorem hfin.tw1052840036598418867 : True := trivial
theorem hfin.tw1159777362652006292 : True := trivial
theorem hfin.tw4578658480835141204 : True := trivial
theorem hfin.tw5348631704792817221 : True := trivial
theorem hfin.tw2073434607894204124 : True := trivial
theorem hfin.tw12800240826026696465 : True := trivial
theorem hfin.tw11887153043921920715 : True := trivial
theorem hfin.tw15834063113798352612 : True := trivial
theorem hfin.tw2032906243990508134 : True := trivial
theorem hfin.tw11782621425944724543 : True := trivial
theorem hfin.tw13549462795442236573 : True := trivial
theorem hfin.tw6155099787086339760 : True := trivial
theorem hfin.tw4852874185873977571 : True := trivial
theorem hfin.tw2290649198328013930 : True := trivial
theorem hfin.tw5123781087861764905 : True := trivial
theorem hfin.tw16197763758876633396 : True := trivial
theorem hfin.tw15009428274767404542 : True := trivial
theorem hfin.tw10159222453540100800 : True := trivial
theorem hfin.tw11754373859408886603 : True := trivial
theorem hfin.tw13913231506033929621 : True := trivial
theorem hfin.tw9870606863672419437 : True := trivial
theorem hfin.tw1019144455464083150 : True := trivial
theorem hfin.tw4602376672506724759 : True := trivial
theorem hfin.tw10704709800059300572 : True := trivial
theorem hfin.tw8769541889111652595 : True := trivial
theorem hfin.tw13845096709000011176 : True := trivial
theorem hfin.tw709959816163251042 : True := trivial
theorem hfin.tw13696771579504863459 : True := trivial
theorem hfin.tw6272436589292412867 : True := trivial
theorem hfin.tw11941841786178327507 : True := trivial
theorem hfin.tw1668287252284231681 : True := trivial
theorem hfin.tw8260788518891636702 : True := trivial
theorem hfin.tw47827819861431509 : True := trivial
theorem hfin.tw11607561917427911621 : True := trivial
theorem hfin.tw9927188985645684909 : True := trivial
theorem hfin.tw3182979402764651659 : True := trivial
theorem hfin.tw17551211817144907527 : True := trivial
theorem hfin.tw3871719965527732436 : True := trivial
theorem hfin.tw8426786985829058412 : True := trivial
theorem hfin.tw13911318541662852491 : True := trivial
theorem hfin.tw15009118257232115889 : True := trivial
theorem hfin.tw4354224115846694412 : True := trivial
theorem hfin.tw66887069441982546 : True := trivial
theorem hfin.tw982073526008287651 : True := trivial
theorem hfin.tw4675474367444522062 : True := trivial
theorem hfin.tw4579556883440696616 : True := trivial
theorem hfin.tw16119422550933881027 : True := trivial
theorem hfin.tw2469046702568303021 : True := trivial
theorem hfin.tw5644011561761840104 : True := trivial
theorem hfin.tw8261625677617531147 : True := trivial
theorem hfin.tw13482548352591920972 : True := trivial
theorem hfin.tw8504520178235853845 : True := trivial
theorem hfin.tw4203096518591101267 : True := trivial
theorem hfin.tw7112872179140811724 : True := trivial
theorem hfin.tw1148842322240199083 : True := trivial
theorem hfin.tw9611076318010329336 : True := trivial
theorem hfin.tw14433707418621408446 : True := trivial
theorem hfin.tw100593322631713560 : True := trivial
theorem hfin.tw17501499930549899948 : True := trivial
theorem hfin.tw4669610209062406284 : True := trivial
theorem hfin.tw15082017997637443229 : True := trivial
theorem hfin.tw2955670224934684501 : True := trivial
theorem hfin.tw3941404434080746115 : True := trivial
theorem hfin.tw5297666052686596192 : True := trivial
theorem hfin.tw4802305757000800623 : True := trivial
theorem hfin.tw764160507235086034 : True := trivial
theorem hfin.tw2149363653565923660 : True := trivial
theorem hfin.tw8571568491901748351 : True := trivial
theorem hfin.tw11886183987967466386 : True := trivial
theorem hfin.tw4341666091677225736 : True := trivial
theorem hfin.tw14491164465214875684 : True := trivial
theorem hfin.tw12295660667890024393 : True := trivial
theorem hfin.tw14849799248426793582 : True := trivial
theorem hfin.tw14119706874720278783 : True := trivial
theorem hfin.tw4425468880713308771 : True := trivial
theorem hfin.tw17109482499502104023 : True := trivial
theorem hfin.tw2286440122278268215 : True := trivial
theorem hfin.tw9606147835023468628 : True := trivial
theorem hfin.tw345247603109950121 : True := trivial
theorem hfin.tw6380914307196957463 : True := trivial
theorem hfin.tw17785982582441110923 : True := trivial
theorem hfin.tw12039459301108973385 : True := trivial
theorem hfin.tw16555215901276676999 : True := trivial
theorem hfin.tw16147807092724175474 : True := trivial
theorem hfin.tw1557073469111084623 : True := trivial
theorem hfin.tw14573458074700413750 : True := trivial
theorem hfin.tw2891814862173706627 : True := trivial
theorem hfin.tw15877994537790824820 : True := trivial
theorem hfin.tw18270363695021629149 : True := trivial
theorem hfin.tw10339473287635577858 : True := trivial
theorem hfin.tw11051401245936694194 : True := trivial
theorem hfin.tw13706640587818661692 : True := trivial
theorem hfin.tw9040956478970551071 : True := trivial
theorem hfin.tw12102139359305392782 : True := trivial
theorem hfin.tw3125287753138205563 : True := trivial
theorem hfin.tw2445979482949577597 : True := trivial
theorem hfin.tw5274772554296681904 : True := trivial
theorem hfin.tw17231750360981596116 : True := trivial
theorem hfin.tw13678518995002541736 : True := trivial
theorem hfin.tw6283394251176613654 : True := trivial
theorem hfin.tw9445798754252251563 : True := trivial
theorem hfin.tw5012261852966259625 : True := trivial
theorem hfin.tw13026299605286829304 : True := trivial
theorem hfin.tw15835740200115353457 : True := trivial
theorem hfin.tw5240968365233647408 : True := trivial
theorem hfin.tw3214725826809429021 : True := trivial
theorem hfin.tw9274251926057006305 : True := trivial
theorem hfin.tw6323400141166036809 : True := trivial
theorem hfin.tw8022307859964013358 : True := trivial
theorem hfin.tw15937438250046396956 : True := trivial
theorem hfin.tw17399990739645857730 : True := trivial
theorem hfin.tw17831579522426484481 : True := trivial
theorem hfin.tw4916541782442113475 : True := trivial
theorem hfin.tw8863541567758545127 : True := trivial
theorem hfin.tw16464729736911666341 : True := trivial
theorem hfin.tw329698902972262029 : True := trivial
theorem hfin.tw12156251932102084562 : True := trivial
theorem hfin.tw3792954374642368657 : True := trivial
theorem hfin.tw15966760841356165354 : True := trivial
theorem hfin.tw10232315206448903829 : True := trivial
theorem hfin.tw5073520001557756674 : True := trivial
theorem hfin.tw17802075778150778694 : True := trivial
theorem hfin.tw9412559914078919943 : True := trivial
theorem hfin.tw8134775810874617764 : True := trivial
theorem hfin.tw8140289284530004405 : True := trivial
theorem hfin.tw1426335959423718767 : True := trivial
theorem hfin.tw8700124302248397406 : True := trivial
theorem hfin.tw3219476403800112625 : True := trivial
theorem hfin.tw17997885274815431435 : True := trivial
theorem hfin.tw18361475711993668581 : True := trivial
theorem hfin.tw18147273194560633843 : True := trivial
theorem hfin.tw16998821493072665874 : True := trivial
theorem hfin.tw16237736680111828284 : True := trivial
theorem hfin.tw14117054890622161311 : True := trivial
theorem hfin.tw14731533812182349919 : True := trivial
theorem hfin.tw5592659034712981008 : True := trivial
theorem hfin.tw6008651112201307260 : True := trivial
theorem hfin.tw5265232984145927002 : True := trivial
theorem hfin.tw14388727114839339896 : True := trivial
theorem hfin.tw6939737242536572522 : True := trivial
theorem hfin.tw6412782436672882683 : True := trivial
theorem hfin.tw9906032848942852027 : True := trivial
theorem hfin.tw12892350284672905510 : True := trivial
theorem hfin.tw11363811975955559001 : True := trivial
theorem hfin.tw6940439704542845995 : True := trivial
theorem hfin.tw1365101645630691219 : True := trivial
theorem hfin.tw15176110754785366294 : True := trivial
theorem hfin.tw2698371570642389349 : True := trivial
theorem hfin.tw18303460138688507765 : True := trivial
theorem hfin.tw2748267830482588531 : True := trivial
theorem hfin.tw11560320012738187283 : True := trivial
theorem hfin.tw4639550191882582670 : True := trivial
theorem hfin.tw3669627251407890984 : True := trivial
theorem hfin.tw11933461379633563647 : True := trivial
theorem hfin.tw15181089264590803940 : True := trivial
theorem hfin.tw7921855960736065040 : True := trivial
theorem hfin.tw18295809745302817230 : True := trivial
theorem hfin.tw1930624057621585374 : True := trivial
theorem hfin.tw10940915479241893306 : True := trivial
theorem hfin.tw195578371393092925 : True := trivial
theorem hfin.tw15824079759751897396 : True := trivial
theorem hfin.tw8301701064985647637 : True := trivial
theorem hfin.tw13186630318421031483 : True := trivial
theorem hfin.tw12224827710955192412 : True := trivial
theorem hfin.tw2869542918953603423 : True := trivial
theorem hfin.tw7916164174730998457 : True := trivial
theorem hfin.tw4881919964093077158 : True := trivial
theorem hfin.tw13544726125011181821 : True := trivial
theorem hfin.tw8720694233590144045 : True := trivial
theorem hfin.tw17938086766174319084 : True := trivial
theorem hfin.tw4809375674389170579 : True := trivial
theorem hfin.tw357486453476387696 : True := trivial
set_option Elab.async true in
theorem hfin : PySem.Challenge.rw_rg0115_01.Holds := by
  w_on; o_law; o_head (kHook Mine.hd.heap_1 asK (fun _ => by kernel_rfl)); (case hw => w_witness2)
  k_go0
  refine law_run (by assumption) (by assumption) (by assumption) (by assumption) rfl (by assumption) (by assumption) (by omega) rfl (by k_is) fun s' m' F' hg' hos' => ?_
  exact goodW_bool F' hg' (law_raises _) (law_post _) hos'
end
end Mine
end
theorem PySem.Challenge.cw_rg0115_01_holds : PySem.Challenge.rw_rg0115_01.Holds :=
  Mine.hfin
