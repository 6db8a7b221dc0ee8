import PyProof.Rows.All
import Wide.All
import OpenK.AllK
import Wide.FinOn
import PySem.Challenge.RW_on0221_01
set_option Elab.async false
set_option compiler.extract_closed false
-- Clean
section
open PySem PySem.W PySem.Spec PySem.Calls PyProof.Rows
set_option Elab.async false
set_option maxRecDepth 100000
set_option maxHeartbeats 8000000
namespace Mine

theorem contains_app_left {l m : List String} {x : String} (h : (l ++ m).contains x = false) : l.contains x = false := by
  rw [← Bool.not_eq_true, List.contains_iff_mem] at h ⊢
  exact fun q => h (List.mem_append_left _ q)
def dirtyC (c : Code) : Bool := match c with
  | .builtin id _ => (Builtin.Bytes.decodersThatHold ++ ["bytearray.__contains__", "bytearray.__mod__", "bytearray.__rmod__", "_struct.pack_into.held", "bytearray.find.held"]).contains id
  | _ => false
theorem ne_of_dirty {id x : String} (h : (Builtin.Bytes.decodersThatHold ++ ["bytearray.__contains__", "bytearray.__mod__", "bytearray.__rmod__", "_struct.pack_into.held", "bytearray.find.held"]).contains id = false)
    (hx : (Builtin.Bytes.decodersThatHold ++ ["bytearray.__contains__", "bytearray.__mod__", "bytearray.__rmod__", "_struct.pack_into.held", "bytearray.find.held"]).contains x = true) : id ≠ x := fun e => by
  rw [e, hx] at h; cases h
def Clean (Γ : PySem.Ctx) : Prop := dirtyC Γ.code = false ∧ ∀ x ∈ Γ.below, dirtyC x.1 = false
def CleanB (Γ : PySem.Ctx) : Prop := ∀ x ∈ Γ.below, dirtyC x.1 = false
theorem Clean.enter {Γ : PySem.Ctx} (h : Clean Γ) (c : Code) (hd : Option Value) (p : Pos) : CleanB (Γ.enter c hd p) := by
  intro x hx
  rcases List.mem_cons.mp hx with rfl | hx
  · exact h.1
  · exact h.2 x hx
theorem CleanB.clean {Γ : PySem.Ctx} (h : CleanB Γ) (hc : dirtyC Γ.code = false) : Clean Γ := ⟨hc, h⟩
def wpC {α : Type} (M : Model) (A : Around) (t : Sem α) (Q : α → Shared → Prop) (E : Value → Shared → Prop) (s : Shared) : Prop :=
  ∀ (Γ : PySem.Ctx) p, Γ.In A → Clean Γ → Sem.wp M Γ t (fun a _ s' => Q a s') (fun e _ s' => E e s') p s
def codeC (M : Model) (A : Around) (c : Code) (R : Result → Shared → Prop) (s : Shared) : Prop :=
  ∀ (Γ : PySem.Ctx) p, Γ.code = c → Γ.Below A → CleanB Γ → wpCode M Γ R p s
section
variable {α β : Type} {M : Model} {A : Around} {E : Value → Shared → Prop} {s : Shared}
theorem wpC_any {t : Sem α} {Q : α → Shared → Prop} (h : wpAny M A t Q E s) : wpC M A t Q E s := fun Γ p hΓ _ => h Γ p hΓ
theorem codeC_any {c : Code} {R : Result → Shared → Prop} (h : codeAny M A c R s) : codeC M A c R s := fun Γ p hc hΓ _ => h Γ p hc hΓ
theorem wpC_pure {a : α} {Q : α → Shared → Prop} (h : Q a s) : wpC M A (pure a) Q E s := fun _ _ _ _ => h
theorem wpC_mono {t : Sem α} {Q Q' : α → Shared → Prop} {E' : Value → Shared → Prop} (h : wpC M A t Q E s)
    (hQ : ∀ a s, Q a s → Q' a s) (hE : ∀ e s, E e s → E' e s) : wpC M A t Q' E' s :=
  fun Γ p hΓ hC => Sem.wp_mono M Γ t (fun a _ s => hQ a s) (fun e _ s => hE e s) p s (h Γ p hΓ hC)
theorem codeC_mono {c : Code} {R R' : Result → Shared → Prop} (h : codeC M A c R s) (hR : ∀ r s, R r s → R' r s) : codeC M A c R' s :=
  fun Γ p hc hΓ hC => wpCode_mono hR (h Γ p hc hΓ hC)
theorem wpC_bind {m : Sem α} {f : α → Sem β} {Q : β → Shared → Prop} (h : wpC M A m (fun a s' => wpC M A (f a) Q E s') E s) :
    wpC M A (m >>= f) Q E s := fun Γ p hΓ hC => by
  rw [Sem.wp_bind']
  exact Sem.wp_mono M Γ m (fun a p' s' h' => h' Γ p' hΓ hC) (fun _ _ _ h' => h') p s (h Γ p hΓ hC)
theorem wpC_then {m : Sem α} {f : α → Sem β} {P : α → Shared → Prop} {Q : β → Shared → Prop} (h : wpAny M A m P E s) (k : ∀ a s', P a s' → wpC M A (f a) Q E s') :
    wpC M A (m >>= f) Q E s := wpC_bind (wpC_any (wpAny_mono h k fun _ _ x => x))
theorem wpC_onRaise {m : Sem α} {k : Value → Sem Unit} {Q : α → Shared → Prop}
    (h : wpC M A m Q (fun e s' => wpC M A (k e) (fun _ s'' => E e s'') E s') s) : wpC M A (m.onRaise k) Q E s := fun Γ p hΓ hC => by
  rw [Sem.wp_onRaise]
  exact Sem.wp_mono M Γ m (fun _ _ _ h' => h') (fun e p' s' h' => h' Γ p' hΓ hC) p s (h Γ p hΓ hC)
theorem wpC_attempt {m : Sem α} {Q : Except Value α → Shared → Prop} (h : wpC M A m (fun a => Q (.ok a)) (fun e => Q (.error e)) s) :
    wpC M A m.attempt Q E s := fun Γ p hΓ hC => by rw [Sem.wp_attempt]; exact h Γ p hΓ hC
theorem wpC_holding {vs : List Value} {m : Sem α} {Q : α → Shared → Prop} (h : wpC M A m Q E s) : wpC M A (holding vs m) Q E s :=
  fun Γ p hΓ hC => by rw [Sem.wp_holding]; exact h Γ p hΓ hC
theorem wpC_standAt {pos : Pos} {Q : Unit → Shared → Prop} (h : Q () s) : wpC M A (standAt pos) Q E s := fun _ _ _ _ => h
theorem wpC_point {Q : Unit → Shared → Prop} (h : Q () s) : wpC M A point Q E s := fun _ _ _ _ => h
theorem wpC_rule {tag : String} {Q : Unit → Shared → Prop} (h : Q () s) : wpC M A (rule tag) Q E s := fun _ _ _ _ => h
theorem wpC_run {c : Code} {h : Option Value} {Q : Flow → Shared → Prop}
    (hc : codeC M (A.mark h) c (fun r s' => match r with | .ok f => Q f s' | .error e => E e s') s) (hnb : h ≠ some byPass := by intro x; cases x) :
    wpC M A (run c h) Q E s :=
  fun Γ p hΓ hC => by rw [Sem.wp_run]; exact hc _ p rfl (hΓ.enter c h p hnb) (hC.enter c h p)
theorem wpC_runValue {c : Code} {Q : Value → Shared → Prop}
    (hc : codeC M A c (fun r s' => match r with | .ok (.ret v) => Q v s' | .ok _ => False | .error e => E e s') s) :
    wpC M A (runValue c) Q E s := fun Γ p hΓ hC => by rw [Sem.wp_runValue]; exact hc _ p rfl (hΓ.enter c none p (by intro x; cases x)) (hC.enter c none p)
theorem wpC_call {f : Value} {pos : List Value} {kw : List (Str × Value)} {Q : Value → Shared → Prop}
    (hc : codeC M A (.call f ⟨pos, kw⟩) (fun r s' => match r with | .ok (.ret v) => Q v s' | .ok _ => False | .error e => E e s') s) :
    wpC M A (call f pos kw) Q E s := wpC_runValue hc
theorem codeC_tree {c : Code} {R : Result → Shared → Prop} (hd : dirtyC c = false)
    (h : wpC M (A.under c) (M.den c) (fun fin s' => match fin with | .done f => R (.ok f) s' | .again c' => c'.quiet = true ∧ codeC M A c' R s')
      (fun e s' => R (.error e) s') s) : codeC M A c R s := fun Γ p hc hΓ hC => by
  rw [wpCode_iff_wp, hc]
  refine Sem.wp_mono M Γ _ (fun fin p' s' h' => ?_) (fun _ _ _ h' => h') p s (h Γ p (hc ▸ hΓ.in) (hC.clean (by rw [hc]; exact hd)))
  cases fin with
  | done f => exact h'
  | again c' => exact ⟨h'.1, h'.2 (Γ.goto c') p' rfl (hΓ.goto c') hC⟩
theorem wpC_of_eq {t : Sem α} {a : α} {Q : α → Shared → Prop} (he : t = pure a) (h : Q a s) : wpC M A t Q E s := by
  rw [he]
  exact wpC_pure h
theorem wpC_if_false {c : Bool} {a b : Sem α} {Q : α → Shared → Prop} (hc : c = false) (h : wpC M A b Q E s) : wpC M A (if c = true then a else b) Q E s := by
  subst hc
  exact h
theorem wpC_if_true {c : Bool} {a b : Sem α} {Q : α → Shared → Prop} (hc : c = true) (h : wpC M A a Q E s) : wpC M A (if c = true then a else b) Q E s := by
  subst hc
  exact h
theorem wpC_keep {vs : List Value} {m : Sem α} {Q : α → Shared → Prop} (h : wpC M A m Q E s) : wpC M A (m.keep vs) Q E s :=
  fun Γ p hΓ hC => by rw [Sem.wp_keep]; exact h Γ p hΓ hC
/-- on a clean stack nothing holds a bytearray -/
theorem wpC_exported {self : Value} {Q : Bool → Shared → Prop} (h : Q false s) : wpC M A (Builtin.Bytes.exported self) Q E s := fun Γ p _ hC => by
  have key : ∀ x ∈ (Γ.code, p) :: Γ.below, dirtyC x.1 = false := fun x hx => by
    rcases List.mem_cons.mp hx with rfl | hx
    · exact hC.1
    · exact hC.2 x hx
  show Q (((Γ.code, p) :: Γ.below).any _) s
  have e : ∀ f : Code × Pos → Bool, (∀ x, dirtyC x.1 = false → f x = false) → ((Γ.code, p) :: Γ.below).any f = false := fun f hf => by
    rw [List.any_eq_false]
    intro x hx
    rw [hf x (key x hx)]
    exact Bool.false_ne_true
  rw [e _ ?_]
  · exact h
  · rintro ⟨c, p'⟩ hx
    cases c with
    | builtin id args =>
      obtain ⟨pos, kw⟩ := args
      have h1 := ne_of_dirty (x := "bytearray.__contains__") hx (by decide +kernel)
      have h2 := ne_of_dirty (x := "bytearray.__mod__") hx (by decide +kernel)
      have h3 := ne_of_dirty (x := "bytearray.__rmod__") hx (by decide +kernel)
      have h4 := ne_of_dirty (x := "_struct.pack_into.held") hx (by decide +kernel)
      have h5 := ne_of_dirty (x := "bytearray.find.held") hx (by decide +kernel)
      have hd := contains_app_left hx
      unfold Builtin.Bytes.exported.match_1 Builtin.Bytes.exported._sparseCasesOn_1
      dsimp only
      rw [dif_neg h1, dif_neg h2, dif_neg h3, dif_neg h4, dif_neg h5, hd]
      cases pos with
      | nil => rfl
      | cons v r =>
        unfold Builtin.Bytes.exported._sparseCasesOn_2
        exact Bool.and_false _
    | _ => rfl
theorem codeC_loop {c : Code} {R : Result → Shared → Prop} (hd : dirtyC c = false) (hq : c.quiet = true) (I : Nat → Shared → Prop)
    (turn : ∀ n s, I n s → wpC M (A.under c) (M.den c)
      (fun fin s' => match fin with | .done f => R (.ok f) s' | .again c' => c' = c ∧ ∃ m, m < n ∧ I m s') (fun e s' => R (.error e) s') s)
    (n : Nat) (h : I n s) : codeC M A c R s := by
  induction n using Nat.strongRecOn generalizing s with
  | ind n ih =>
    refine codeC_tree hd (wpC_mono (turn n s h) (fun fin s' hf => ?_) fun _ _ h' => h')
    cases fin with
    | done f => exact hf
    | again c' => obtain ⟨rfl, m, hm, hI⟩ := hf; exact ⟨hq, ih m hm hI⟩
theorem wpC_execs_cons {st : Stmt} {rest : List Stmt} {env : Env} {Q : Flow → Shared → Prop}
    (h : wpC M A (exec st env) (fun f s' => match f with | .next => wpC M A (execs rest env) Q E s' | f => Q f s') E s) : wpC M A (execs (st :: rest) env) Q E s := by
  rw [execs]
  refine wpC_bind (wpC_mono h (fun f s' h' => ?_) fun _ _ x => x)
  cases f <;> first | exact h' | exact wpC_pure h'
theorem wpC_execs_nil {env : Env} {Q : Flow → Shared → Prop} (h : Q .next s) : wpC M A (execs [] env) Q E s := by
  rw [execs]
  exact wpC_pure h
end
section
variable {prog : Program} {w : World} {A : Around} {E : Value → Shared → Prop} {R : Result → Shared → Prop} {s : Shared}
theorem codeC_func {body : List Stmt} {env : Env}
    (h : wpC (model prog w) (A.deeper env) (execs body env) (fun f s' => R (.ok (.ret (match f with | .ret v => v | _ => .none))) s')
      (fun e s' => wpC (model prog w) (A.deeper env) (leaving env e) (fun _ s'' => R (.error e) s'') (fun e' s'' => R (.error e') s'') s') s) :
    codeC (model prog w) A (.func body env) R s := by
  refine codeC_tree rfl ?_
  show wpC _ (A.deeper env) (do point; match ← (execs body env).onRaise (leaving env) with | .ret v => ret v | _ => ret .none) _ _ s
  refine wpC_bind (wpC_point (wpC_bind (wpC_onRaise (wpC_mono h (fun f s' h' => ?_) fun _ _ h' => h'))))
  cases f <;> exact wpC_pure h'
theorem codeC_expr {e : Expr} {env : Env}
    (h : wpC (model prog w) (A.deeper env) (eval e env) (fun v s' => R (.ok (.ret v)) s')
      (fun e s' => wpC (model prog w) (A.deeper env) (leaving env e) (fun _ s'' => R (.error e) s'') (fun e' s'' => R (.error e') s'') s') s) :
    codeC (model prog w) A (.expr e env) R s := by
  refine codeC_tree rfl ?_
  show wpC _ (A.deeper env) (do point; ret (← (eval e env).onRaise (leaving env))) _ _ s
  exact wpC_bind (wpC_point (wpC_bind (wpC_onRaise (wpC_mono h (fun f s' h' => wpC_pure h') fun _ _ h' => h'))))
end
end Mine
end
theorem Mine.anew_Clean : True := by (w_top off); first | walk1 | trivial
-- Flat
section
open PySem PySem.W PySem.Spec PySem.Calls PyProof.Rows
set_option Elab.async false
set_option maxRecDepth 100000
set_option maxHeartbeats 8000000
namespace Mine

/-- a list of references to lists of ints -/
def LotsAre (h : Heap) : List Value → List (List Int) → Prop
  | [], [] => True
  | v :: vs, ls :: lss => (∃ a its, v = .ref a ∧ h.IsList a its.toArray ∧ IntsAre its ls) ∧ LotsAre h vs lss
  | _, _ => False
theorem LotsAre.get {h : Heap} : ∀ {vs : List Value} {lss : List (List Int)} {i : Nat} {v : Value}, LotsAre h vs lss → vs[i]? = some v → ∃ a its ls, v = .ref a ∧ h.IsList a its.toArray ∧ IntsAre its ls ∧ lss[i]? = some ls
  | [], [], _, _, _, e => by simp at e
  | v :: vs, ls :: lss, i, u, x, e => by
    obtain ⟨⟨a, its, hv, hl, hi⟩, r⟩ := x
    cases i with
    | zero => simp at e; subst e; exact ⟨a, its, ls, hv, hl, hi, rfl⟩
    | succ n =>
      obtain ⟨a', its', ls', q⟩ := r.get (i := n) (by simpa using e)
      exact ⟨a', its', ls', q.1, q.2.1, q.2.2.1, by simpa using q.2.2.2⟩
theorem LotsAre.keeps {h h' : Heap} : ∀ {vs : List Value} {lss : List (List Int)}, LotsAre h vs lss → (∀ b o, h.get? b = some o → h'.get? b = some o) → LotsAre h' vs lss
  | [], [], _, _ => trivial
  | _ :: _, _ :: _, ⟨⟨a, its, hv, hl, hi⟩, r⟩, k => ⟨⟨a, its, hv, hl.at fun o e => k a o e, hi⟩, r.keeps k⟩
theorem LotsAre.length {h : Heap} : ∀ {vs : List Value} {lss : List (List Int)}, LotsAre h vs lss → vs.length = lss.length
  | [], [], _ => rfl
  | _ :: _, _ :: _, ⟨_, r⟩ => by simp [r.length]
theorem flat_snoc {lss : List (List Int)} {i : Nat} {ls : List Int} (h : lss[i]? = some ls) : (lss.take (i + 1)).flatten = (lss.take i).flatten ++ ls := by
  rw [List.take_add_one, h]; simp
section
variable {prog : Program} {w : World} {A : Around} {E : Value → Shared → Prop} {s : Shared} {R : Result → Shared → Prop}
abbrev flatE (x y : Str) (pe px py pi : Pos) (i0 : Expr) (scope : Scope) (pos : Pos) : Expr := .ListComp (.Name y pe) [⟨.Name x px, i0, [], 0⟩, ⟨.Name y py, .Name x pi, [], 0⟩] scope pos
theorem compTurn_flat1 (x y : Str) (pe px py pi : Pos) (i0 : Expr) (scope : Scope) (pos : Pos) (it acc : Value) (env : Env) :
    compTurn (flatE x y pe px py pi i0 scope pos) 1 it acc env = (standAt (Expr.Name x pi).pos >>= fun _ => pyNext it >>= fun r => match r with
      | none => pure (.done .next)
      | some v => letOwnedTupleGo (.Name y py) it v >>= fun _ => assign (.Name y py) env v >>= fun _ =>
        (eval (.Name y pe) env >>= fun x => call (.builtin "list.append") [acc, x] >>= fun _ => pure ()) >>= fun _ =>
          again (.compLoop (flatE x y pe px py pi i0 scope pos) 1 it acc env)) := by rfl
theorem compTurn_flat0 (x y : Str) (pe px py pi : Pos) (i0 : Expr) (scope : Scope) (pos : Pos) (it acc : Value) (env : Env) :
    compTurn (flatE x y pe px py pi i0 scope pos) 0 it acc env = (standAt i0.pos >>= fun _ => pyNext it >>= fun r => match r with
      | none => pure (.done .next)
      | some v => letOwnedTupleGo (.Name x px) it v >>= fun _ => assign (.Name x px) env v >>= fun _ =>
        eval (.Name x pi) env >>= fun z => standAt (Expr.Name x pi).pos >>= fun _ => foldedSetIterable (.Name x pi) env z >>= fun z' => holding [z'] (pyIter z') >>= fun it1 =>
          runOwn (.compStart (flatE x y pe px py pi i0 scope pos) 1 it1 acc env) env >>= fun _ =>
          again (.compLoop (flatE x y pe px py pi i0 scope pos) 0 it acc env)) := by rfl
theorem flat_inner {x y : Str} {pe px py pi : Pos} {i0 : Expr} {scope : Scope} {pos : Pos} {cenv : Env} {I a D : Addr} {its ys : List Value} {m : Str → Option Value}
    (hk : cenv.scope.kind = .function) (hy : cenv.kindOf y = some .local) (hyd : (y == ("__debug__" : Str)) = false) (hh : A.handled = none)
    (hst : s.heap.IsListIter I a 0) (hl : s.heap.IsList a its.toArray) (hD : s.heap.get? D = some (LCg.lst ys)) (hn : s.heap.Ns cenv.locals m)
    (hIa : I ≠ a) (hCI : cenv.locals ≠ I) (hCa : cenv.locals ≠ a) (hDI : D ≠ I) (hDa : D ≠ a) (hDC : D ≠ cenv.locals) (hsz : ys.length + its.length ≤ sizeLine)
    (hR : ∀ h' tk m', h'.Ns cenv.locals m' → h'.get? D = some (LCg.lst (ys ++ its)) → (∀ b o, b ≠ cenv.locals → b ≠ I → b ≠ D → s.heap.get? b = some o → h'.get? b = some o) → R (.ok .next) { s with heap := h', toks := tk }) :
    codeAny (model prog w) A (.compLoop (flatE x y pe px py pi i0 scope pos) 1 (.ref I) (.ref D) cenv) R s := by
  refine codeAny_loop rfl (fun k s' => ∃ i h' tk m', s' = { s with heap := h', toks := tk } ∧ i ≤ its.length ∧ k = its.length + 1 - i ∧ h'.IsListIter I a i ∧ h'.get? D = some (LCg.lst (ys ++ its.take i)) ∧ h'.Ns cenv.locals m' ∧
      (∀ b o, b ≠ cenv.locals → b ≠ I → b ≠ D → s.heap.get? b = some o → h'.get? b = some o)) ?_ (its.length + 1)
    ⟨0, s.heap, s.toks, m, rfl, Nat.zero_le _, rfl, hst, by simpa using hD, hn, fun _ _ _ _ _ e => e⟩
  rintro k s' ⟨i, h', tk, m', rfl, hi, rfl, hit, hDi, hn', hkp⟩
  show wpAny _ _ ((compTurn (flatE x y pe px py pi i0 scope pos) 1 (.ref I) (.ref D) cenv).onRaise (fun x => do noteFrame x cenv; theTreesLotGoes x)) _ _ _
  refine wpAny_noted ?_
  rw [compTurn_flat1]
  refine wpAny_bind (wpAny_standAt (wpAny_bind ?_))
  have hl' : h'.IsList a its.toArray := hl.at fun o e => hkp a o (Ne.symm hCa) (Ne.symm hIa) (Ne.symm hDa) e
  by_cases hlt : i < its.length
  · refine wpAny_pyNext_list_item hit hl' (x := its[i]) (by simp [hlt]) fun h1 hit1 hs1 => ?_
    dsimp only
    refine wpAny_bind (wpAny_of_eq (a := ()) rfl ?_)
    have hn1 : h1.Ns cenv.locals m' := hn'.at' fun o e => hs1.extBut _ o hCI e
    refine wpAny_bind (wpAny_assign_Name (wpAny_storeName_local hy hn1 (fun h2 hn2 hs2 => ?_) (by simp [hk])))
    refine wpAny_bind (wpAny_bind (wpAny_Name (wpAny_loadName_local hk hy hn2 (if_pos rfl) ?_) hyd))
    have hD2 : h2.get? D = some (LCg.lst (ys ++ its.take i)) := hs2.extBut D _ hDC (hs1.extBut D _ hDI hDi)
    have hz : (ys ++ its.take i).toArray.size ≤ sizeLine := by
      rw [List.size_toArray, List.length_append, List.length_take]; omega
    refine wpAny_bind (append_at (hsz := hz) hD2 fun h3 hs3 hD3 => ?_)
    refine wpAny_pure ?_
    refine wpAny_pure ?_
    refine ⟨rfl, its.length + 1 - (i + 1), by omega, i + 1, h3, _, _, rfl, hlt, rfl, ?_, ?_, hn2.at' fun o e => hs3.extBut _ o (Ne.symm hDC) e, ?_⟩
    · obtain ⟨o, e, r⟩ := hit1
      exact ⟨o, hs3.extBut I o (Ne.symm hDI) (hs2.extBut I o (Ne.symm hCI) e), r⟩
    · have e1 := hD3.trans (congrArg some (LCg.lst_snoc (ys ++ its.take i) its[i]))
      rw [e1, List.append_assoc, List.take_add_one, List.getElem?_eq_getElem hlt]
      rfl
    · exact fun b o h1' h2' h3' e => hs3.extBut b o h3' (hs2.extBut b o h1' (hs1.extBut b o h2' (hkp b o h1' h2' h3' e)))
  · obtain rfl : i = its.length := by omega
    refine wpAny_pyNext_list_end hh hit hl' (by simp) fun h1 he1 => ?_
    dsimp only
    refine wpAny_pure (hR h1 tk m' (hn'.at' fun o e => he1 _ o hCI e) ?_ fun b o h1' h2' h3' e => he1 b o h2' (hkp b o h1' h2' h3' e))
    rw [List.take_length] at hDi
    exact he1 D _ hDI hDi
theorem codeAny_compStart_flat {x y : Str} {pe px py pi : Pos} {i0 : Expr} {scope : Scope} {pos : Pos} {it acc : Value} {env : Env}
    (h0 : codeAny (model prog w) A (.compLoop (flatE x y pe px py pi i0 scope pos) 1 it acc env) R s)
    (h : wpAny (model prog w) A (pyIter it) (fun it' s' => codeAny (model prog w) A (.compLoop (flatE x y pe px py pi i0 scope pos) 1 it' acc env) R s')
      (notedBy (model prog w) A env fun x s' => R (.error x) s') s) :
    codeAny (model prog w) A (.compStart (flatE x y pe px py pi i0 scope pos) 1 it acc env) R s := by
  refine codeAny_of_tree ?_
  show wpAny _ _ ((compStart (flatE x y pe px py pi i0 scope pos) 1 it acc env).onRaise (fun x => do noteFrame x env; standAt theWindowsPlace)) _ _ s
  refine wpAny_notedAt ?_
  unfold compStart
  show wpAny _ _ (ask >>= _) _ _ s
  refine wpAny_bind (wpAny_askSetting (wpAny_ite ?_))
  split
  · first
      | exact wpAny_bind (wpAny_pure (wpAny_pure (And.intro rfl h0)))
      | exact wpAny_pure (And.intro rfl h0)
  · first
      | exact wpAny_bind (wpAny_rule (wpAny_bind (wpAny_standAt (wpAny_bind (wpAny_mono h (fun it' s' h' => wpAny_pure (And.intro rfl h')) fun _ _ x => x)))))
      | (refine wpAny_bind (wpAny_rule ?_); show wpAny _ _ (standAt (Expr.Name x pi).pos >>= _) _ _ s; exact wpAny_bind (wpAny_standAt (wpAny_bind (wpAny_mono h (fun it' s' h' => wpAny_pure (And.intro rfl h')) fun _ _ x => x))))
theorem flat_outer {x y : Str} {pe px py pi : Pos} {i0 : Expr} {scope : Scope} {pos : Pos} {cenv : Env} {I a D : Addr} {vals : List Value} {lss : List (List Int)} {m : Str → Option Value}
    (hk : cenv.scope.kind = .function) (hx : cenv.kindOf x = some .local) (hxd : (x == ("__debug__" : Str)) = false) (hy : cenv.kindOf y = some .local) (hyd : (y == ("__debug__" : Str)) = false) (hh : A.handled = none)
    (hst : s.heap.IsListIter I a 0) (hl : s.heap.IsList a vals.toArray) (hL : LotsAre s.heap vals lss) (hD : s.heap.get? D = some (LCg.lst [])) (hn : s.heap.Ns cenv.locals m)
    (hIa : I ≠ a) (hCI : cenv.locals ≠ I) (hCa : cenv.locals ≠ a) (hDI : D ≠ I) (hDa : D ≠ a) (hDC : D ≠ cenv.locals) (hoff : ∀ b, .ref b ∈ vals → b ≠ cenv.locals ∧ b ≠ I ∧ b ≠ D)
    (hsz : lss.flatten.length ≤ sizeLine)
    (hR : ∀ h' tk m' ys, h'.Ns cenv.locals m' → h'.get? D = some (LCg.lst ys) → IntsAre ys lss.flatten → (∀ b o, b ≠ cenv.locals → b ≠ I → b ≠ D → s.heap.get? b = some o → h'.get? b = some o) → R (.ok .next) { s with heap := h', toks := tk }) :
    codeAny (model prog w) A (.compLoop (flatE x y pe px py pi i0 scope pos) 0 (.ref I) (.ref D) cenv) R s := by
  refine codeAny_loop rfl (fun k s' => ∃ i h' tk m' ys, s' = { s with heap := h', toks := tk } ∧ i ≤ vals.length ∧ k = vals.length + 1 - i ∧ h'.IsListIter I a i ∧ h'.get? D = some (LCg.lst ys) ∧ IntsAre ys (lss.take i).flatten ∧ h'.Ns cenv.locals m' ∧
      (∀ b o, b ≠ cenv.locals → b ≠ I → b ≠ D → s.heap.get? b = some o → h'.get? b = some o)) ?_ (vals.length + 1)
    ⟨0, s.heap, s.toks, m, [], rfl, Nat.zero_le _, rfl, hst, hD, .nil, hn, fun _ _ _ _ _ e => e⟩
  rintro k s' ⟨i, h', tk, m', ys, rfl, hi, rfl, hit, hDi, hys, hn', hkp⟩
  show wpAny _ _ ((compTurn (flatE x y pe px py pi i0 scope pos) 0 (.ref I) (.ref D) cenv).onRaise (fun x => do noteFrame x cenv; theTreesLotGoes x)) _ _ _
  refine wpAny_noted ?_
  rw [compTurn_flat0]
  refine wpAny_bind (wpAny_standAt (wpAny_bind ?_))
  have hl' : h'.IsList a vals.toArray := hl.at fun o e => hkp a o (Ne.symm hCa) (Ne.symm hIa) (Ne.symm hDa) e
  by_cases hlt : i < vals.length
  · have hv : vals[i]? = some vals[i] := List.getElem?_eq_getElem hlt
    obtain ⟨b, its, ls, hbv, hbl, hbi, hlsi⟩ := hL.get hv
    obtain ⟨hbC, hbI, hbD⟩ := hoff b (hbv ▸ List.getElem_mem hlt)
    refine wpAny_pyNext_list_item hit hl' (x := vals[i]) (by simp [hlt]) fun h1 hit1 hs1 => ?_
    rw [hbv]
    dsimp only
    refine wpAny_bind (wpAny_of_eq (a := ()) rfl ?_)
    have hn1 : h1.Ns cenv.locals m' := hn'.at' fun o e => hs1.extBut _ o hCI e
    refine wpAny_bind (wpAny_assign_Name (wpAny_storeName_local hx hn1 (fun h2 hn2 hs2 => ?_) (by simp [hk])))
    refine wpAny_bind (wpAny_Name (wpAny_loadName_local hk hx hn2 (if_pos rfl) ?_) hxd)
    refine wpAny_bind (wpAny_standAt (wpAny_bind (wpAny_of_eq (a := .ref b) rfl ?_)))
    have hb2 : h2.IsList b its.toArray := hbl.at fun o e => hs2.extBut b o hbC (hs1.extBut b o hbI (hkp b o hbC hbI hbD e))
    refine wpAny_bind (wpAny_holding (wpAny_pyIter_list hb2 ?_))
    dsimp only
    have hD2 : h2.get? D = some (LCg.lst ys) := hs2.extBut D _ hDC (hs1.extBut D _ hDI hDi)
    have bl : ∀ c o, h2.get? c = some o → c ≠ h2.objs.size := fun c o e => Nat.ne_of_lt (Heap.lt_size e)
    obtain ⟨oC, eC, _⟩ := LCg.ns_obj hn2
    have hfit : ys.length + its.length ≤ sizeLine := by
      have e1 := hys.length
      have e2 := hbi.length
      have e3 := flat_snoc hlsi
      have e4 : lss.flatten = (lss.take (i + 1)).flatten ++ (lss.drop (i + 1)).flatten := by rw [← List.flatten_append, List.take_append_drop]
      have e5 := congrArg List.length e4
      rw [e3, List.length_append, List.length_append] at e5
      omega
    obtain ⟨ob, eb, _⟩ := id hb2
    obtain ⟨oI, eI, rI⟩ := hit1
    have eI2 := hs2.extBut I oI (Ne.symm hCI) eI
    have hl2 : h2.IsList a vals.toArray := hl'.at fun o e => hs2.extBut a o (Ne.symm hCa) (hs1.extBut a o (Ne.symm hIa) e)
    have up : ∀ c o, h2.get? c = some o → (h2.push { cls := .type "list_iterator", data := .fields #[.ref b, .int 0 0] }).get? c = some o := fun c o e => Heap.get?_push_of_some _ e
    have hst1 : (h2.push { cls := .type "list_iterator", data := .fields #[.ref b, .int 0 0] }).IsListIter h2.objs.size b 0 := ⟨_, Heap.get?_push_size _ rfl, rfl, rfl⟩
    refine wpAny_bind (wpAny_runOwn ?_)
    have loop : ∀ tk0 R', (∀ h' tk m', h'.Ns cenv.locals m' → h'.get? D = some (LCg.lst (ys ++ its)) → (∀ b' o, b' ≠ cenv.locals → b' ≠ h2.objs.size → b' ≠ D → (h2.push { cls := .type "list_iterator", data := .fields #[.ref b, .int 0 0] }).get? b' = some o → h'.get? b' = some o) → R' (.ok .next) { s with heap := h', toks := tk }) →
        codeAny (model prog w) A (.compLoop (flatE x y pe px py pi i0 scope pos) 1 (.ref h2.objs.size) (.ref D) cenv) R' { s with heap := h2.push { cls := .type "list_iterator", data := .fields #[.ref b, .int 0 0] }, toks := tk0 } := fun tk0 R' hR' =>
      flat_inner (m := _) hk hy hyd hh hst1 (hb2.push _) (up _ _ hD2) (hn2.at' fun o e => up _ _ e) (Ne.symm (bl b ob eb)) (bl _ oC eC) (Ne.symm hbC) (bl D _ hD2) (Ne.symm hbD) hDC hfit hR'
    refine codeAny_compStart_flat (loop _ _ ?_) (wpAny_pyIter_listiter hst1 (loop _ _ ?_))
    all_goals (
      intro h3 tk3 m3 hn3 hD3 hk3
      refine wpAny_pure ?_
      refine ⟨rfl, vals.length + 1 - (i + 1), by omega, i + 1, h3, _, _, ys ++ its, rfl, hlt, rfl, ?_, hD3, ?_, hn3, ?_⟩
      · exact ⟨oI, hk3 I oI (Ne.symm hCI) (bl I oI eI2) (Ne.symm hDI) (up _ _ eI2), rI⟩
      · rw [flat_snoc hlsi]; exact hys.append hbi
      · intro c o h1' h2' h3' e
        have e2 := hs2.extBut c o h1' (hs1.extBut c o h2' (hkp c o h1' h2' h3' e))
        exact hk3 c o h1' (bl c o e2) h3' (up _ _ e2))
  · obtain rfl : i = vals.length := by omega
    refine wpAny_pyNext_list_end hh hit hl' (by simp) fun h1 he1 => ?_
    dsimp only
    refine wpAny_pure (hR h1 tk m' ys (hn'.at' fun o e => he1 _ o hCI e) (he1 D _ hDI hDi) ?_ fun b o h1' h2' h3' e => he1 b o h2' (hkp b o h1' h2' h3' e))
    rw [hL.length, List.take_length] at hys
    exact hys
theorem LotsAre.refs {h : Heap} {vs : List Value} {lss : List (List Int)} {b : Addr} (x : LotsAre h vs lss) (hb : .ref b ∈ vs) : ∃ o, h.get? b = some o := by
  obtain ⟨i, hi⟩ := List.mem_iff_getElem?.mp hb
  obtain ⟨a, its, ls, e, ⟨o, ho, _⟩, _⟩ := x.get hi
  cases e
  exact ⟨o, ho⟩
theorem flat_comp {h₀ : Heap} {L : Addr} {env : Env} {x y : Str} {pe px py pi : Pos} {i0 : Expr} {scope : Scope} {pos : Pos} {Q : Value → Shared → Prop}
    (hfree : ∀ x ∈ scope.names, x.2 ≠ .free) (hcell : ∀ y ∈ scope.names, y.2 ≠ .cell) (hkind : scope.kind = .function) (hnames : ∀ x ∈ scope.names, x.2 = .local → scope.names.lookup x.1 = some .local)
    (hx : scope.names.lookup x = some .local) (hxd : (x == ("__debug__" : Str)) = false) (hy : scope.names.lookup y = some .local) (hyd : (y == ("__debug__" : Str)) = false)
    (h : wpAny (model prog w) A (eval i0 env) (fun xv s₁ => ∃ ax vals lss m news, xv = .ref ax ∧ A.handled = none ∧ Fr h₀ L s₁.heap m ∧ News h₀ L s₁.heap news ∧ s₁.heap.IsList ax vals.toArray ∧ LotsAre s₁.heap vals lss ∧ lss.flatten.length ≤ sizeLine ∧
      ∀ D ys h tk, Fr h₀ L h m → News h₀ L h ((D, LCg.lst ys) :: news) → IntsAre ys lss.flatten → Q (.ref D) { s₁ with heap := h, toks := tk }) E s)
    (hs : ∀ x, foldedSetIterable i0 env x = pure x := by intro _; rfl) :
    wpAny (model prog w) A (eval (flatE x y pe px py pi i0 scope pos) env) Q E s := by
  refine wpAny_ListComp hfree hkind hnames (wpAny_mono h (fun xv s₁ h₁ => ?_) fun _ _ e => e) hs
  obtain ⟨ax, vals, lss, m, news, rfl, hh, F, N, hl, hL, hsz, hQ⟩ := h₁
  refine wpAny_pyIter_list hl (wpAny_newObj_type (wpAny_newFunctionEnv hcell (by intro y hy; simp at hy) (fun h₁ hns₁ hsb₁ => ?_) hkind))
  dsimp only at hns₁ hsb₁ ⊢
  generalize hH1 : s₁.heap.push { cls := .type "list_iterator", data := .fields #[.ref ax, .int 0 0] } = H1 at hns₁ hsb₁ ⊢
  generalize hH2 : H1.push { cls := .type "list", dict := none, data := .seq ([] : List Value).toArray } = H2 at hns₁ hsb₁ ⊢
  have s1 : H1.objs.size = s₁.heap.objs.size + 1 := by rw [← hH1, Heap.size_push]
  have s2 : H2.objs.size = s₁.heap.objs.size + 2 := by rw [← hH2, Heap.size_push, s1]
  have up1 : ∀ b o, s₁.heap.get? b = some o → H1.get? b = some o := fun b o e => hH1 ▸ Heap.get?_push_of_some _ e
  have up2 : ∀ b o, H1.get? b = some o → H2.get? b = some o := fun b o e => hH2 ▸ Heap.get?_push_of_some _ e
  have up3 : ∀ b o, H2.get? b = some o → h₁.get? b = some o := fun b o e => hsb₁.extBut b o (Nat.ne_of_lt (Heap.lt_size e)) (Heap.get?_push_of_some _ e)
  have up : ∀ b o, s₁.heap.get? b = some o → h₁.get? b = some o := fun b o e => up3 b o (up2 b o (up1 b o e))
  have old : ∀ b o, s₁.heap.get? b = some o → b ≠ H2.objs.size ∧ b ≠ s₁.heap.objs.size ∧ b ≠ H1.objs.size := fun b o e => by
    have q := Heap.lt_size e
    rw [s1, s2]
    exact ⟨Nat.ne_of_lt (Nat.lt_succ_of_lt (Nat.lt_succ_of_lt q)), Nat.ne_of_lt q, Nat.ne_of_lt (Nat.lt_succ_of_lt q)⟩
  have fresh : ∀ b, s₁.heap.objs.size ≤ b → h₀.get? b = none := fun b hb => by
    cases e : h₀.get? b with
    | none => rfl
    | some o' => exact absurd (Heap.lt_size (F.keep b o' e)) (Nat.not_lt.mpr hb)
  obtain ⟨oL, eL⟩ : ∃ o, s₁.heap.get? L = some o := by obtain ⟨o, _, _, e, _⟩ := F.ns; exact ⟨o, e⟩
  obtain ⟨oa, ea, _⟩ := id hl
  have hI : (h₁.IsListIter s₁.heap.objs.size ax 0) := ⟨_, up3 _ _ (up2 _ _ (hH1 ▸ Heap.get?_push_size _ rfl)), rfl, rfl⟩
  have hD : h₁.get? H1.objs.size = some (LCg.lst []) := up3 _ _ (hH2 ▸ Heap.get?_push_size _ rfl)
  have loop : ∀ tk0, codeAny (model prog w) A (.compLoop (flatE x y pe px py pi i0 scope pos) 0 (.ref s₁.heap.objs.size) (.ref H1.objs.size) (compEnv scope H2.objs.size env))
      (fun r s' => ∃ m, s'.heap.Ns H2.objs.size m ∧ ∀ h', Heap.SameBut H2.objs.size s'.heap h' →
        match r with | .ok _ => Q (.ref H1.objs.size) { s' with heap := h' } | .error x => wpAny (model prog w) A (passOn "comprehension.variables-let-go" x (compEnv scope H2.objs.size env)) Q E { s' with heap := h' }) { s₁ with heap := h₁, toks := tk0 } := fun tk0 => by
    refine flat_outer (a := ax) (m := _) (cenv := compEnv scope H2.objs.size env) hkind hx hxd hy hyd hh hI (hl.at fun o e => up _ _ e) (hL.keeps up) hD hns₁ ?_ ?_ ?_ ?_ ?_ ?_ ?_ hsz ?_
    · exact Ne.symm (old _ _ ea).2.1
    · show H2.objs.size ≠ _; rw [s2]; exact Nat.ne_of_gt (by omega)
    · exact Ne.symm (old _ _ ea).1
    · rw [s1]; exact Nat.ne_of_gt (by omega)
    · exact Ne.symm (old _ _ ea).2.2
    · show H1.objs.size ≠ H2.objs.size; rw [s1, s2]; exact Nat.ne_of_lt (by omega)
    · intro b hb
      obtain ⟨o, e⟩ := hL.refs hb
      exact old b o e
    · intro h' tk m' ys hn hDy hys hk
      refine ⟨m', hn, fun h'' hs'' => ?_⟩
      have kk : ∀ b o, s₁.heap.get? b = some o → h''.get? b = some o := fun b o e => by
        obtain ⟨q1, q2, q3⟩ := old b o e
        exact hs''.extBut b o q1 (hk b o q1 q2 q3 (up b o e))
      refine hQ _ ys h'' tk (F.keeps kk) (fun p hp => ?_) hys
      rcases List.mem_cons.mp hp with rfl | hp
      · refine ⟨hs''.extBut _ _ ?_ hDy, ?_, fresh _ (by rw [s1]; exact Nat.le_succ _)⟩
        · show H1.objs.size ≠ H2.objs.size; rw [s1, s2]; exact Nat.ne_of_lt (by omega)
        · exact Ne.symm (old _ _ eL).2.2
      · exact ⟨kk _ _ (N p hp).1, (N p hp).2⟩
  exact codeAny_compStart_list (loop _) (wpAny_pyIter_listiter hI (loop _))
def FlatSrc (A : Around) (h₀ : Heap) (L : Addr) (Q : Value → Shared → Prop) (xv : Value) (s₁ : Shared) : Prop :=
  ∃ ax vals lss m news, xv = .ref ax ∧ A.handled = none ∧ Fr h₀ L s₁.heap m ∧ News h₀ L s₁.heap news ∧ s₁.heap.IsList ax vals.toArray ∧ LotsAre s₁.heap vals lss ∧ lss.flatten.length ≤ sizeLine ∧
      ∀ D ys h tk, Fr h₀ L h m → News h₀ L h ((D, LCg.lst ys) :: news) → IntsAre ys lss.flatten → Q (.ref D) { s₁ with heap := h, toks := tk }
theorem flat_compF {h₀ : Heap} {L : Addr} {m₀ : Str → Option Value} {env : Env} {x y : Str} {pe px py pi : Pos} {i0 : Expr} {scope : Scope} {pos : Pos} {Q : Value → Shared → Prop} (_F : Fr h₀ L s.heap m₀)
    (hfree : ∀ x ∈ scope.names, x.2 ≠ .free) (hcell : ∀ y ∈ scope.names, y.2 ≠ .cell) (hkind : scope.kind = .function) (hnames : ∀ x ∈ scope.names, x.2 = .local → scope.names.lookup x.1 = some .local)
    (hx : scope.names.lookup x = some .local) (hxd : (x == ("__debug__" : Str)) = false) (hy : scope.names.lookup y = some .local) (hyd : (y == ("__debug__" : Str)) = false)
    (h : wpAny (model prog w) A (eval i0 env) (FlatSrc A h₀ L Q) E s)
    (hs : ∀ x, foldedSetIterable i0 env x = pure x := by intro _; rfl) :
    wpAny (model prog w) A (eval (flatE x y pe px py pi i0 scope pos) env) Q E s := flat_comp hfree hcell hkind hnames hx hxd hy hyd h hs
end
end Mine
end
theorem Mine.anew_Flat : True := by (w_top off); first | walk1 | trivial
-- Door
section
open PySem PySem.W PySem.Spec PySem.Calls PyProof.Rows
set_option Elab.async false
set_option maxRecDepth 100000
set_option maxHeartbeats 8000000
namespace Mine

def door {α : Type} (t d : Sem α) : Sem α := .stack fun st => if st.all (fun x => !dirtyC x.1) then t else d
theorem wpAny_door {α : Type} {M : Model} {A : Around} {t d : Sem α} {Q : α → Shared → Prop} {E : Value → Shared → Prop} {s : Shared}
    (h : wpC M A t Q E s) (hd : wpAny M A d Q E s) : wpAny M A (door t d) Q E s := fun Γ p hΓ => by
  show Sem.wp M Γ (if ((Γ.code, p) :: Γ.below).all (fun x => !dirtyC x.1) then t else d) _ _ p s
  by_cases q : ((Γ.code, p) :: Γ.below).all (fun x => !dirtyC x.1) = true
  · rw [if_pos q]
    refine h Γ p hΓ ⟨?_, fun x hx => ?_⟩
    · have := List.all_eq_true.mp q _ (List.Mem.head _)
      exact (Bool.not_eq_true' _).mp this
    · have := List.all_eq_true.mp q _ (List.Mem.tail _ hx)
      exact (Bool.not_eq_true' _).mp this
  · rw [if_neg q]
    exact hd Γ p hΓ
def doorStub (tree d : List Value → Sem Fin) (vs : List Value) : Thread := ⟨door (tree vs) (d vs), .builtin "claim.caller" {}, default, []⟩
def treeStub (tree : List Value → Sem Fin) (vs : List Value) : Thread := ⟨tree vs, .builtin "claim.caller" {}, default, []⟩
theorem sched_door {p : Program} {w : World} {tree d : List Value → Sem Fin} {vs : List Value} {s s' : Shared} {n : Nat} {o : Outcome} (hr : s.asleep)
    (h : schedN (denote table) p w n (.single s (doorStub tree d vs)) = .halted o s') : ∃ m, schedN (denote table) p w m (.single s (treeStub tree vs)) = .halted o s' := by
  cases n with
  | zero => cases h
  | succ m =>
    refine ⟨m, ?_⟩
    have hs : step (denote table) p w s (doorStub tree d vs) = .go s (treeStub tree vs) := rfl
    have e := (sstep_single (denote table) p w s (doorStub tree d vs) rfl hr).resolve_right (by rw [hs]; exact fun x => by cases x)
    rw [hs] at e
    simp only [schedN, e] at h
    exact h
theorem callFrom_door {c : ClaimW} {w : World} {tree d : List Value → Sem Fin} {free : Addr → Prop} {gens : Prop} {kept : Heap → Prop} {s : Shared} (hz : s.asleep)
    (h : c.CallFrom (doorStub tree d) w free gens kept s) : c.CallFrom (treeStub tree) w free gens kept s := fun args hp hl ord ho => by
  obtain ⟨vs, s₁, laid, n, o, s', run, rest⟩ := h args hp hl ord ho
  obtain ⟨m, run'⟩ := sched_door (Shared.asleep_of_life (layAllW_rest _ _ _ laid).2.2.2 hz) run
  exact ⟨vs, s₁, laid, m, o, s', run', rest⟩
theorem holdsOpen_door {c : ClaimW} {tree d : List Value → Sem Fin} {defs kps : List Str} {writes : Bool} (h : c.HoldsOpenBy (doorStub tree d) defs kps writes) :
    c.HoldsOpenBy (treeStub tree) defs kps writes := by
  refine ⟨h.1, h.2.1, fun w => ⟨(h.2.2 w).1, fun s hs => ?_⟩⟩
  obtain ⟨s₀, f, g, s₁, T, x1, x2, x3, x4⟩ := (h.2.2 w).2 s hs
  have z : s₀.asleep := Shared.asleep_of_life (fence_lifeW f) (AfterImport.life hs)
  exact ⟨s₀, f, g, s₁, T, x1, x2, x3, callFrom_door (Shared.asleep_of_life T.2.1 z) x4⟩
end Mine
end
theorem Mine.anew_Door : True := by (w_top off); first | walk1 | trivial
-- Enter
section
open PySem PySem.W PySem.Spec PySem.Calls PyProof.Rows
set_option Elab.async false
set_option maxRecDepth 100000
set_option maxHeartbeats 8000000
namespace Mine

section
variable {prog : Program} {w : World} {A : Around} {s : Shared} {R : Result → Shared → Prop}
theorem codeC_call_fn {a : Addr} {o : Obj} {fd : FuncData} {body : List Stmt} {args : Args} {binds : List (Str × Value)}
    (hroom : A.depth < recursionLimit) (ho : s.heap.get? a = some o) (hdata : o.data = .func fd) (hlim : s.heap.NoLimit) (hcd : s.heap.CodeRec fd.code fd.qualname)
    (hbody : fd.body = .stmts body) (hbind : BindsTo s fd args binds)
    (hcell : ∀ x ∈ fd.scope.names, x.2 ≠ .cell) (hloc : ∀ x ∈ binds, fd.scope.names.lookup x.1 = some .local)
    (h : ∀ h₀, h₀.Ns s.heap.objs.size (fun x => binds.reverse.lookup x) → (∀ b o, s.heap.get? b = some o → h₀.get? b = some o) →
      wpC (model prog w) (A.deeper (callEnv fd s.heap.objs.size a)) (execs body (callEnv fd s.heap.objs.size a)) (fun f s' => R (.ok (.ret (match f with | .ret v => v | _ => .none))) s')
        (fun e s' => wpC (model prog w) (A.deeper (callEnv fd s.heap.objs.size a)) (leaving (callEnv fd s.heap.objs.size a) e) (fun _ s'' => R (.error e) s'') (fun e' s'' => R (.error e') s'') s')
        { s with heap := h₀, toks := s.toks + binds.length })
    (hco : fd.scope.isCoroutine = false) (hgen : fd.scope.isGenerator = false) (hk : fd.scope.kind = .function) :
    codeC (model prog w) A (.call (.ref a) args) R s := by
  refine codeC_tree rfl ?_
  show wpC _ A.in1 (callAny (.ref a) args) _ _ s
  simp only [callAny]
  refine wpC_then (P := fun o' s₁ => o = o' ∧ s = s₁) (wpAny_load ho ⟨rfl, rfl⟩) ?_
  rintro _ _ ⟨rfl, rfl⟩
  obtain ⟨c, oc, vs, tq, hc, hoc, hdc, hq⟩ := hcd
  simp only [hdata, callFunction, hco, hgen, hbody, hc]
  refine wpC_then (m := field (.ref c) 1) (P := fun v s₁ => .str fd.qualname tq = v ∧ s = s₁) (wpAny_field hoc hdc hq ⟨rfl, rfl⟩) ?_
  rintro _ _ ⟨rfl, rfl⟩
  refine wpC_bind (wpC_pure ?_)
  refine wpC_then (P := fun b s₁ => binds = b ∧ s = s₁) (hbind _ _ _ _ ⟨rfl, rfl⟩) ?_
  rintro _ _ ⟨rfl, rfl⟩
  refine wpC_bind (wpC_any (wpAny_newFunctionEnv hcell hloc (fun h₀ hns₀ hsb₀ => ?_) hk))
  have k0 : ∀ b o, s.heap.get? b = some o → h₀.get? b = some o := fun b o e => hsb₀.extBut b o (Nat.ne_of_lt (Heap.lt_size e)) (Heap.get?_push_of_some _ e)
  refine wpC_bind (wpC_any (wpAny_enterFrame (hlim.fresh _ hsb₀) hroom ?_))
  have hh := h h₀ hns₀ k0
  simp only [callEnv, hc] at hh
  exact wpC_pure ⟨rfl, codeC_func hh⟩
end
section
variable {prog : Program} {w : World} {A₀ A : Around} {E : Value → Shared → Prop} {s : Shared} {base h₀ : Heap} {outer : List Env} {L : Addr} {m : Str → Option Value} {env : Env} {news : List (Addr × Obj)}
theorem code_defC {K : Frag} {p : Program} {loose : List Str} {mean : ExcName → Option Value} {mg mb : Str → Option Value} {R : Result → Shared → Prop} {name qual : Str} {params : Arguments} {body : List Stmt} {scope : Scope} {dV kV doc pm cdv ct oc : Value} {an od : Option Addr} {osl : Array (Option Value)} {f : Addr} {args : Args} {binds : List (Str × Value)}
    (B : Below A₀ base outer h₀) (F : Fr h₀ L s.heap m) (X₀ : K.In h₀) (N : News h₀ L s.heap news) (T : Top p loose mean mg mb h₀) (hA : A.frames = some (env :: outer)) (hf : env.frame = some L) (hke : env.scope.kind = .function)
    (ho : K.lookup f = some ⟨oc, od, .func (fnOf name qual params body scope dV kV doc pm an cdv ct), osl⟩) (hcd : codeIn K cdv qual = true) (hroom : A.depth < recursionLimit)
    (hbind : BindsTo s (fnOf name qual params body scope dV kV doc pm an cdv ct) args binds) (hloc : ∀ y ∈ binds, scope.names.lookup y.1 = some .local)
    (h : ∀ g L' h₁, Fr h₀ L g m → Fr g L' h₁ (fun y => binds.reverse.lookup y) → News g L' h₁ news → Below A base (env :: outer) g → K.In g → Top p loose mean mg mb g → GSub s.heap g (news.map (·.1)) →
      wpC (model prog w) (A.deeper (envOf qual scope L' f cdv)) (execs body (envOf qual scope L' f cdv))
        (fun fl s' => LeaveK h₀ L m g R (match fl with | .ret v => v | _ => .none) s')
        (fun e s' => wpC (model prog w) (A.deeper (envOf qual scope L' f cdv)) (leaving (envOf qual scope L' f cdv) e) (fun _ s'' => R (.error e) s'') (fun e' s'' => R (.error e') s'') s')
        { s with heap := h₁, toks := s.toks + binds.length })
    (hco : scope.isCoroutine = false) (hgen : scope.isGenerator = false) (hk : scope.kind = .function)
    (hcell : ∀ x ∈ scope.names, x.2 ≠ .cell) : codeC (model prog w) A (.call (.ref f) args) R s := by
  obtain ⟨FG, BG, st, lv⟩ := groundX (R := R) B F N hA hf hke
  refine codeC_call_fn (fd := fnX name qual params body scope [] dV kV doc pm an cdv ct) (body := body) (binds := binds) hroom ((X₀.keeps F.keep) _ _ ho) rfl (T.nolimit.keeps F.keep) (codeRec_of (X₀.keeps F.keep) hcd) rfl hbind hcell hloc (fun h₁ hns hk₁ => ?_) hco hgen hk
  refine wpC_mono (h _ s.heap.objs.size h₁ FG ⟨hns, fun b o e => hk₁ b o (of_hideAll _ e), Nat.le_of_eq (hideAll_size _ _)⟩ (fun p hp => ⟨hk₁ _ _ (N p hp).1, Nat.ne_of_lt (Heap.lt_size (N p hp).1), hideAll_none _ (List.mem_map_of_mem hp)⟩)
    BG (X₀.keeps st) (T.keeps st) (fun b o e n => hideAll_get _ e n)) (fun fl s' hl => lv _ _ hl) fun _ _ y => y
end
end Mine
end
theorem Mine.anew_Enter : True := by (w_top off); first | walk1 | trivial
-- EnumC
section
open PySem PySem.W PySem.Spec PySem.Calls PyProof.Rows
set_option Elab.async false
set_option maxRecDepth 100000
set_option maxHeartbeats 8000000
namespace Mine

open LCg
def enumF (el : Nat → Int → Int) : Nat → List Int → List Int
  | _, [] => []
  | i, k :: ks => el i k :: enumF el (i + 1) ks
theorem enumF_snoc (el : Nat → Int → Int) (k : Int) : ∀ (i : Nat) (ks : List Int), enumF el i (ks ++ [k]) = enumF el i ks ++ [el (i + ks.length) k]
  | i, [] => rfl
  | i, x :: ks => by
    show el i x :: enumF el (i + 1) (ks ++ [k]) = _
    rw [enumF_snoc el k (i + 1) ks]
    simp only [enumF, List.length_cons, List.cons_append]
    rw [show i + 1 + ks.length = i + (ks.length + 1) by omega]
section
variable {prog : Program} {w : World} {A : Around} {E : Value → Shared → Prop} {s : Shared} {h₀ : Heap} {L : Addr} {m : Str → Option Value} {env : Env}
/-- what the element yields at each turn -/
def EnumElt (prog : Program) (w : World) (A : Around) (h₀ : Heap) (L : Addr) (m : Str → Option Value) (env : Env) (elt : Expr) (x x₂ : Str) (scope : Scope) (cl : List (Str × Addr)) (s : Shared) (ns : List Int) (el : Nat → Int → Int) (news : List (Addr × Obj)) : Prop :=
  ∀ (i : Nat) (k : Int) (t u : Tok) I oI I2 oI2 C oC D oD m₂ h tk (E' : Value → Shared → Prop), ns[i]? = some k → NsObj oC m₂ → m₂ x = some (.int (i : Int) t) → m₂ x₂ = some (.int k u) → Fr h₀ L h m → News h₀ L h ((I, oI) :: (C, oC) :: (D, oD) :: (I2, oI2) :: news) →
    Off3 I C D ((I2, oI2) :: news) → ((@Ne Nat I C) ∧ (@Ne Nat I D) ∧ (@Ne Nat C D)) →
    wpAny (model prog w) A (eval elt (compEnvC scope cl C env)) (CompEnd h₀ L m { s with heap := h, toks := tk } I oI C oC D oD (fun nw => nw = (I2, oI2) :: news) (fun y _ => ∃ t', y = .int (el i k) t')) E' { s with heap := h, toks := tk }
theorem enum_block {elt iter : Expr} {x x₂ : Str} {px px₂ tp : Pos} {tk} {scope : Scope} {cl : List (Str × Addr)} {pos : Pos} {s₂ : Shared} {e it l : Addr} {vs : List Value} {ns : List Int} {el : Nat → Int → Int} {news : List (Addr × Obj)}
    {RR : Value → Addr → Result → Shared → Prop} (hh : A.handled = none) (hl : h₀.IsList l vs.toArray) (hi : IntsAre vs ns) (hsz : vs.length ≤ sizeLine)
    (hcell : ∀ y ∈ scope.names, y.2 ≠ .cell) (hkind : scope.kind = .function) (hx : scope.names.lookup x = some .local) (hx₂ : scope.names.lookup x₂ = some .local) (hxx : x ≠ x₂)
    (hE : IsEnum s₂.heap e it 0 .none) (hit : s₂.heap.IsListIter it l 0) (hei : e ≠ it) (he₀ : h₀.get? e = none) (hi₀ : h₀.get? it = none) (hLe : L ≠ e) (hLi : L ≠ it)
    (F : Fr h₀ L s₂.heap m) (N : News h₀ L s₂.heap news) (offE : ∀ p ∈ news, p.1 ≠ e) (offI : ∀ p ∈ news, p.1 ≠ it)
    (R : EnumElt prog w A h₀ L m env elt x x₂ scope cl s₂ ns el news)
    (hRR : ∀ D C h tk m' ys, Fr h₀ L h m → News h₀ L h ((D, lst ys) :: news) → h.Ns C m' → h₀.get? C = none → h₀.get? D = none → C ≠ L → D ≠ L → C ≠ D → (∀ p ∈ news, p.1 ≠ C) → IntsAre ys (enumF el 0 ns) → RR (.ref D) C (.ok .next) { s₂ with heap := h, toks := tk }) :
    wpAny (model prog w) A (newList []) (fun acc s₃ => wpAny (model prog w) A (newFunctionEnv scope env.globals cl [] env.qual none .none (some env)) (fun cenv s₄ =>
      codeAny (model prog w) A (.compStart (.ListComp elt [⟨.Tuple [.Name x px, .Name x₂ px₂] tk tp, iter, [], 0⟩] scope pos) 0 (.ref e) acc { cenv with scope := relabel scope env }) (RR acc cenv.locals) s₄) E s₃) E s₂ := by
  have hle : l ≠ e := fun q => by obtain ⟨o, z, _⟩ := hl; rw [q, he₀] at z; cases z
  have hli : l ≠ it := fun q => by obtain ⟨o, z, _⟩ := hl; rw [q, hi₀] at z; cases z
  have W := WalksT.enumerate (prog := prog) (w := w) hh e it l hei hle hli vs.toArray
  refine wpAny_newObj_type (wpAny_newFunctionEnv hcell (by intro y hy; simp at hy) (fun h₁ hns₁ hsb₁ => ?_) hkind)
  dsimp only at hns₁ hsb₁ ⊢
  generalize hH2 : s₂.heap.push { cls := .type "list", dict := none, data := .seq ([] : List Value).toArray } = H2 at hns₁ hsb₁ ⊢
  have hC : H2.objs.size = s₂.heap.objs.size + 1 := by rw [← hH2, Heap.size_push]
  have hDC : s₂.heap.objs.size ≠ H2.objs.size := by rw [hC]; exact Nat.ne_of_lt (Nat.lt_succ_self _)
  have below : ∀ b, b < s₂.heap.objs.size → b ≠ H2.objs.size ∧ b ≠ s₂.heap.objs.size := fun b hb => ⟨by rw [hC]; exact Nat.ne_of_lt (Nat.lt_succ_of_lt hb), Nat.ne_of_lt hb⟩
  have hes : e < s₂.heap.objs.size := Heap.lt_size hE
  have his : it < s₂.heap.objs.size := by obtain ⟨_, z, _⟩ := hit; exact Heap.lt_size z
  have old : ∀ b o, s₂.heap.get? b = some o → h₁.get? b = some o := fun b o e => hsb₁.extBut b o (below b (Heap.lt_size e)).1 (Heap.get?_push_of_some _ (hH2 ▸ Heap.get?_push_of_some _ e))
  have hacc : h₁.get? s₂.heap.objs.size = some (lst []) := hsb₁.extBut _ _ hDC (Heap.get?_push_of_some _ (hH2 ▸ Heap.get?_push_size _ rfl))
  have fresh₀ : ∀ a, s₂.heap.objs.size ≤ a → h₀.get? a = none := fun a ha => by
    cases e : h₀.get? a with
    | none => rfl
    | some o' => exact absurd (Heap.lt_size (F.keep a o' e)) (Nat.not_lt.mpr ha)
  have hD₀ : h₀.get? s₂.heap.objs.size = none := fresh₀ _ (Nat.le_refl _)
  have hC₀ : h₀.get? H2.objs.size = none := fresh₀ _ (by rw [hC]; exact Nat.le_succ _)
  have hLlt : L < s₂.heap.objs.size := F.ns.lt
  have hDL : s₂.heap.objs.size ≠ L := Ne.symm (below L hLlt).2
  have hCL : H2.objs.size ≠ L := Ne.symm (below L hLlt).1
  have offn : ∀ p ∈ news, p.1 ≠ H2.objs.size ∧ p.1 ≠ s₂.heap.objs.size := fun p hp => below _ (Heap.lt_size (N p hp).1)
  have fr2 : ∀ {h h' : Heap}, Fr h₀ L h m → (∀ b o, b ∉ [e, it] → h.get? b = some o → h'.get? b = some o) → Fr h₀ L h' m := fun F hk =>
    ⟨F.ns.at' fun o z => hk L o (by simp [hLe, hLi]) z, fun b o z => hk b o (fun hm => by
      rcases List.mem_cons.mp hm with q | q
      · rw [q, he₀] at z; cases z
      · rw [List.mem_singleton.mp q, hi₀] at z; cases z) (F.keep b o z), F.above⟩
  have loop : ∀ s₃ : Shared, s₃ = { s₂ with heap := h₁, toks := s₂.toks + ([] : List (Str × Value)).length } →
      codeAny (model prog w) A (.compLoop (.ListComp elt [⟨.Tuple [.Name x px, .Name x₂ px₂] tk tp, iter, [], 0⟩] scope pos) 0 (.ref e) (.ref s₂.heap.objs.size) (compEnvC scope cl H2.objs.size env))
        (RR (.ref s₂.heap.objs.size) H2.objs.size) s₃ := by
    rintro s₃ rfl
    refine LCp.codeAny_compLoop_pair
      (fun k s' => ∃ h' tk i ys m', s' = { s₂ with heap := h', toks := tk } ∧ i ≤ vs.length ∧ k = vs.length + 1 - i ∧ IntsAre ys (enumF el 0 (ns.take i)) ∧ ((∃ old, IsEnum h' e it (i : Nat) old) ∧ h'.IsListIter it l i ∧ h'.IsList l vs.toArray) ∧ Fr h₀ L h' m ∧ h'.Ns H2.objs.size m' ∧ News h₀ L h' ((s₂.heap.objs.size, lst ys) :: news)) ?_ (vs.length + 1)
      ⟨h₁, _, 0, [], _, rfl, Nat.zero_le _, rfl, .nil, ⟨⟨_, old _ _ hE⟩, hit.at fun o z => old _ o z, hl.at fun o z => old _ o (F.keep _ o z)⟩, F.keeps old, hns₁, fun p hp => ?_⟩
    · rintro k s' ⟨h', tk, i, ys, m', rfl, hi', rfl, hys, hst', F', hn', N'⟩
      by_cases hlt : i < vs.length
      · refine W.item i _ _ _ (by simpa using hlt) hst' fun T vals h₂ tk₂ hP hTs hT hMid hk₂ => ?_
        obtain ⟨t, v, hv, rfl⟩ := hP
        have hv' : vs[i]? = some v := by simpa using hv
        obtain ⟨kk, u, rfl, hnk⟩ := hi.at i v hv'
        refine W.go _ _ _ i T _ _ _ hMid fun h₃ hst₃ hk₃ => ?_
        have hTe := W.apart _ _ _ hMid
        have ht : IsTup h₃ T #[.int (i : Int) t, .int kk u] := by
          obtain ⟨oT, zT, rT⟩ := hT
          exact ⟨oT, hk₃ T oT hTe zT, rT⟩
        have hk₂₃ : ∀ b o, b ∉ [e, it] → h'.get? b = some o → h₃.get? b = some o := fun b o hb z => hk₃ b o hb (hk₂ b o hb z)
        refine assign_Tuple_tuple hh ht rfl rfl fun h₅ he => ?_
        have he' : ∀ b o, h₃.get? b = some o → h₅.get? b = some o := fun b o z => he b o (Nat.ne_of_lt (Heap.lt_size z)) z
        have eC : H2.objs.size ≠ e := Ne.symm (below _ hes).1
        have iC : H2.objs.size ≠ it := Ne.symm (below _ his).1
        refine assignInOrder_cons (wpAny_assign_Name (wpAny_storeName_local (lookup_relabel_local hx) ((hn'.at' fun o z => hk₂₃ _ o (by simp [eC, iC]) z).at' fun o z => he' _ o z) (fun h₆ hn₆ hs₆ => ?_) (by simp [compEnvC, relabel, hkind])))
        refine assignInOrder_cons (wpAny_assign_Name (wpAny_storeName_local (lookup_relabel_local hx₂) hn₆ (fun h₇ hn₇ hs₇ => ?_) (by simp [compEnvC, relabel, hkind])))
        refine assignInOrder_nil ?_
        have old3 : ∀ b o, b ≠ H2.objs.size → h₃.get? b = some o → h₇.get? b = some o := fun b o hb z => hs₇.extBut b o hb (hs₆.extBut b o hb (he' b o z))
        obtain ⟨⟨oldI, hE₃⟩, hit₃, hl₃⟩ := hst₃
        have hE₇ := old3 e _ (Ne.symm eC) hE₃
        obtain ⟨oit, zit, rit⟩ := hit₃
        have zit₇ := old3 it _ (Ne.symm iC) zit
        obtain ⟨oC, zC, hoC⟩ := ns_obj hn₇
        have F₇ : Fr h₀ L h₇ m := (((fr2 F' hk₂₃).keeps he').change hs₆ hCL hC₀).change hs₇ hCL hC₀
        have N₇ : News h₀ L h₇ ((e, _) :: (H2.objs.size, oC) :: (s₂.heap.objs.size, lst ys) :: (it, oit) :: news) := fun p hp => by
          rcases List.mem_cons.mp hp with rfl | hp
          · exact ⟨hE₇, Ne.symm hLe, he₀⟩
          · rcases List.mem_cons.mp hp with rfl | hp
            · exact ⟨zC, hCL, hC₀⟩
            · rcases List.mem_cons.mp hp with rfl | hp
              · refine ⟨old3 _ _ hDC (hk₂₃ _ _ ?_ (N' _ (.head _)).1), hDL, hD₀⟩
                simp [Ne.symm (below _ hes).2, Ne.symm (below _ his).2]
              · rcases List.mem_cons.mp hp with rfl | hp
                · exact ⟨zit₇, Ne.symm hLi, hi₀⟩
                · refine ⟨old3 _ _ (offn p hp).1 (hk₂₃ _ _ (by simp [offE p hp, offI p hp]) (N' _ (.tail _ hp)).1), (N' _ (.tail _ hp)).2⟩
        have off7 : Off3 e H2.objs.size s₂.heap.objs.size ((it, oit) :: news) := Off3.of fun p hp => by
          rcases List.mem_cons.mp hp with rfl | hp
          · exact ⟨Ne.symm hei, (below _ his).1, (below _ his).2⟩
          · exact ⟨offE p hp, (offn p hp).1, (offn p hp).2⟩
        refine wpAny_mono (R i kk t u e _ it oit H2.objs.size oC s₂.heap.objs.size (lst ys) _ h₇ _ _ hnk hoC (by simp [hxx]) (by simp) F₇ N₇ off7 ⟨(below _ hes).1, (below _ hes).2, Ne.symm hDC⟩) (fun y s₄ h₄ => ?_) fun _ _ z => z
        obtain ⟨h₄, tk₄, news₄, rfl, F₄, N₄, off₄, rfl, t', rfl⟩ := h₄
        have zD := (N₄ (s₂.heap.objs.size, lst ys) (.tail _ (.tail _ (.head _)))).1
        have hyl : ys.length = i := by
          rw [hys.length]
          have : ∀ (ks : List Int) (j : Nat), (enumF el j ks).length = ks.length := by
            intro ks
            induction ks with
            | nil => intro j; rfl
            | cons a r ih => intro j; simp [enumF, ih]
          rw [this, List.length_take, ← hi.length]; omega
        refine append_at (hsz := by show ys.toArray.size ≤ sizeLine; rw [List.size_toArray, hyl]; exact Nat.le_trans hi' hsz) zD fun h₅' hs₅ hD₅ => ?_
        have dne : ∀ b, b ≠ s₂.heap.objs.size → ∀ o, h₄.get? b = some o → h₅'.get? b = some o := fun b hb o z => hs₅.extBut b o hb z
        refine ⟨vs.length + 1 - (i + 1), by omega, h₅', tk₄, i + 1, ys ++ [.int (el i kk) t'], _, rfl, hlt, rfl, ?_, ⟨⟨oldI, ?_⟩, ⟨oit, ?_, rit⟩, ?_⟩, F₄.change hs₅ hDL hD₀, (hoC.ns (N₄ (H2.objs.size, oC) (.tail _ (.head _))).1).sameBut hs₅ (Ne.symm hDC), fun p hp => ?_⟩
        · rw [List.take_add_one, hnk]
          show IntsAre _ (enumF el 0 (ns.take i ++ [kk]))
          rw [enumF_snoc]
          have e5 : 0 + (ns.take i).length = i := by rw [List.length_take, ← hi.length]; omega
          rw [e5]
          exact hys.append (.cons _ _ .nil)
        · exact dne e (below _ hes).2 _ (N₄ (e, _) (.head _)).1
        · exact dne it (below _ his).2 _ (N₄ (it, oit) (.tail _ (.tail _ (.tail _ (.head _))))).1
        · have hl5 := (hl.at fun o z => F₄.keep _ o z : h₄.IsList l vs.toArray)
          refine hl5.at fun o z => dne l (fun q => ?_) o z
          obtain ⟨o', z', _⟩ := hl
          rw [q, hD₀] at z'; cases z'
        · rcases List.mem_cons.mp hp with rfl | hp
          · exact ⟨hD₅.trans (congrArg some (lst_snoc ys _)), hDL, hD₀⟩
          · exact ⟨dne _ (offn p hp).2 _ (N₄ p (.tail _ (.tail _ (.tail _ (.tail _ hp))))).1, (N' _ (.tail _ hp)).2⟩
      · obtain rfl : i = vs.length := Nat.le_antisymm hi' (Nat.not_lt.mp hlt)
        refine W.done _ _ _ (by simpa using hst') fun h₂ tk₂ hk₂ => ?_
        refine hRR _ _ h₂ tk₂ m' ys (fr2 F' hk₂) (fun p hp => ?_) (hn'.at' fun o z => hk₂ _ o (by simp [Ne.symm (below _ hes).1, Ne.symm (below _ his).1]) z) hC₀ hD₀ hCL hDL (Ne.symm hDC) (fun p hp => (offn p hp).1) ?_
        · refine ⟨hk₂ _ _ ?_ (N' p hp).1, (N' p hp).2⟩
          rcases List.mem_cons.mp hp with rfl | hp
          · simp [Ne.symm (below _ hes).2, Ne.symm (below _ his).2]
          · simp [offE p hp, offI p hp]
        · rw [hi.length, List.take_length] at hys
          exact hys
    · rcases List.mem_cons.mp hp with rfl | hp
      · exact ⟨hacc, hDL, hD₀⟩
      · exact ⟨old _ _ (N p hp).1, (N p hp).2⟩
  exact codeAny_compStart_list (loop _ rfl) (W.self 0 _ _ _ ⟨⟨_, old _ _ hE⟩, hit.at fun o z => old _ o z, hl.at fun o z => old _ o (F.keep _ o z)⟩ (loop _ rfl))
def EnumSrc (prog : Program) (w : World) (A : Around) (h₀ : Heap) (L : Addr) (m : Str → Option Value) (env : Env) (elt : Expr) (x x₂ : Str) (scope : Scope) (cl : List (Str × Addr)) (Q : Value → Shared → Prop) (xv : Value) (s₁ : Shared) : Prop :=
  ∃ (e it l : Addr) (vs : List Value) (ns : List Int) (el : Nat → Int → Int) (news : List (Addr × Obj)), xv = .ref e ∧ A.handled = none ∧ h₀.IsList l vs.toArray ∧ IntsAre vs ns ∧ vs.length ≤ sizeLine ∧
    IsEnum s₁.heap e it 0 .none ∧ s₁.heap.IsListIter it l 0 ∧ e ≠ it ∧ h₀.get? e = none ∧ h₀.get? it = none ∧ L ≠ e ∧ L ≠ it ∧ Fr h₀ L s₁.heap m ∧ News h₀ L s₁.heap news ∧ (∀ p ∈ news, p.1 ≠ e) ∧ (∀ p ∈ news, p.1 ≠ it) ∧
    EnumElt prog w A h₀ L m env elt x x₂ scope cl s₁ ns el news ∧
    ∀ D h tk ys, Fr h₀ L h m → News h₀ L h ((D, lst ys) :: news) → IntsAre ys (enumF el 0 ns) → Q (.ref D) { s₁ with heap := h, toks := tk }
theorem enum_src_call {elt : Expr} {x x₂ : Str} {scope : Scope} {cl : List (Str × Addr)} {l : Addr} {vs : List Value} {ns : List Int} {news : List (Addr × Obj)} {Q : Value → Shared → Prop} (el : Nat → Int → Int)
    (F : Fr h₀ L s.heap m) (N : News h₀ L s.heap news) (hh : A.handled = none) (hl : h₀.IsList l vs.toArray) (hi : IntsAre vs ns) (hsz : vs.length ≤ sizeLine)
    (R : ∀ g, EnumElt prog w A h₀ L m env elt x x₂ scope cl { s with heap := g } ns el news)
    (hQ : ∀ D h tk ys, Fr h₀ L h m → News h₀ L h ((D, lst ys) :: news) → IntsAre ys (enumF el 0 ns) → Q (.ref D) { s with heap := h, toks := tk }) :
    wpAny (model prog w) A (call (.type "enumerate") [.ref l]) (EnumSrc prog w A h₀ L m env elt x x₂ scope cl Q) E s := by
  refine call_enumerate_list (hl.at fun o e => F.keep _ o e) fun h' he hit hsz' hk => ?_
  have fresh : ∀ b, s.heap.objs.size ≤ b → h₀.get? b = none := fun b hb => by
    cases e : h₀.get? b with
    | none => rfl
    | some o' => exact absurd (Heap.lt_size (F.keep b o' e)) (Nat.not_lt.mpr hb)
  have hL := F.ns.lt
  exact ⟨_, _, l, vs, ns, el, news, rfl, hh, hl, hi, hsz, he, hit, Nat.succ_ne_self _, fresh _ (Nat.le_succ _), fresh _ (Nat.le_refl _), Nat.ne_of_lt (Nat.lt_succ_of_lt hL), Nat.ne_of_lt hL, F.keeps hk, N.grown hk,
    fun p hp => Nat.ne_of_lt (Nat.lt_succ_of_lt (Heap.lt_size (N p hp).1)), fun p hp => Nat.ne_of_lt (Heap.lt_size (N p hp).1), R h', fun D h tk ys F N hy => hQ D h tk ys F N hy⟩
theorem enum_comp {elt iter : Expr} {x x₂ : Str} {px px₂ tp : Pos} {tk} {scope : Scope} {cl : List (Str × Addr)} {pos : Pos} {Q : Value → Shared → Prop} (F₀ : Fr h₀ L s.heap m)
    (hclos : closureFor scope env = pure cl) (hcell : ∀ y ∈ scope.names, y.2 ≠ .cell) (hkind : scope.kind = .function)
    (hnames : ∀ y ∈ scope.names, y.2 = .local → scope.names.lookup y.1 = some .local) (hx : scope.names.lookup x = some .local) (hx₂ : scope.names.lookup x₂ = some .local) (hxx : x ≠ x₂)
    (h : wpAny (model prog w) A (eval iter env) (EnumSrc prog w A h₀ L m env elt x x₂ scope cl Q) E s)
    (hs : ∀ x, foldedSetIterable iter env x = pure x := by intro _; rfl) :
    wpAny (model prog w) A (eval (.ListComp elt [⟨.Tuple [.Name x px, .Name x₂ px₂] tk tp, iter, [], 0⟩] scope pos) env) Q E s := by
  rw [eval_ListComp]
  refine wpAny_comprehension_free (use := none) rfl hs hclos hkind hnames (wpAny_mono h (fun xv s₁ h₁ => ?_) fun _ _ e => e)
  obtain ⟨e, it, l, vs, ns, el, news, rfl, hh, hl, hi, hsz, hE, hit, hei, he₀, hi₀, hLe, hLi, F, N, offE, offI, R, hQ⟩ := h₁
  refine wpAny_pyIter_enum hE ?_
  refine enum_block hh hl hi hsz hcell hkind hx hx₂ hxx hE hit hei he₀ hi₀ hLe hLi F N offE offI R ?_
  intro D C h tk m' ys F' N' hn hC₀ hD₀ hCL hDL hCD offC hys
  refine ⟨m', hn, fun h'' hs'' => hQ D h'' tk ys (F'.change hs'' hCL hC₀) (fun p hp => ?_) hys⟩
  refine ⟨hs''.extBut _ _ ?_ (N' p hp).1, (N' p hp).2⟩
  rcases List.mem_cons.mp hp with rfl | hp
  · exact Ne.symm hCD
  · exact offC p hp
end
end Mine
end
theorem Mine.anew_EnumC : True := by (w_top off); first | walk1 | trivial
-- TopA
section
open PySem PySem.W PySem.Spec PySem.Calls PyProof.Rows
set_option Elab.async false
set_option maxRecDepth 100000
set_option maxHeartbeats 8000000
namespace Mine

abbrev WalkC (q : Program) (loose : List Str) (XP : (Str → Option Value) → Heap → Prop) (YP : World → Heap → Prop) (r : RowW) (d : DefRec) (kwd : List (Str × Expr)) : Prop :=
  ∀ (w : World) (s₀ s₁ : Shared) (mg mb : Str → Option Value), Ground q loose r.records XP w s₀ mg mb s₁.heap → YP w s₁.heap → ∀ (a : Addr) (o : Obj) (pm cd doc dV kV : Value), s₁.heap.get? a = some o →
    o.data = .func { docDef d.name d.params d.body d.scope pm cd doc with defaults := dV, kwdefaults := kV } → s₁.heap.CodeRec cd d.name → Dflts mg s₁.heap d.params kwd dV kV → mg d.name = some (.ref a) → s₁.gens = #[] →
    ∀ (args : List WData) (vals : List Value) (as : List Addr), r.claim.pre args = true → WData.layableAll args = true → ReadsAllW r.records (classAt s₀.heap) s₁.heap vals args as → WellAll w.params s₁.heap vals args → (∀ a ∈ as, (a == sysModules) = false) →
      GoodWG r.claim (classAt s₀.heap) (ExcName.means s₀.heap) args s₁ (.ok (.ret (.bool true))) s₁ ∧
      wpC (model r.prog w) callerA (PySem.call (.ref a) vals) (fun v s' => GoodWG r.claim (classAt s₀.heap) (ExcName.means s₀.heap) args s₁ (.ok (.ret v)) s')
        (fun e s' => GoodWG r.claim (classAt s₀.heap) (ExcName.means s₀.heap) args s₁ (.error e) s') s₁
theorem door_ret {prog : Program} {w : World} {name : Str} {vs : List Value} {v₀ : Value} {s : Shared} {mg : Str → Option Value} {f : Value} {Q : Fin → Shared → Prop} {E : Value → Shared → Prop}
    (hg : s.heap.Ns mainNs mg) (hf : mg name = some f) (h : wpAny (model prog w) callerA (door (PySem.call f vs) (pure v₀)) (fun v s' => Q (.done (.ret v)) s') E s) :
    wpAny (model prog w) callerA (door (do match ← nsGet mainNs name with
      | some f => do ret (← PySem.call f vs)
      | none => unsupported "claim.caller:no-such-global") (ret v₀)) Q E s := fun Γ p hΓ => by
  have h1 := h Γ p hΓ
  simp only [door, Sem.wp_stack] at h1 ⊢
  by_cases q : ((Γ.code, p) :: Γ.below).all (fun x => !dirtyC x.1) = true
  · rw [if_pos q] at h1 ⊢
    rw [Sem.wp_bind']
    refine (Sem.wp_nsGet _ Γ _ p s hg name _).mpr ?_
    rw [hf]
    show Sem.wp _ Γ (PySem.call f vs >>= fun v => ret v) _ _ p s
    rw [Sem.wp_bind']
    exact h1
  · rw [if_neg q] at h1 ⊢
    exact h1
abbrev LeftTop (p q : Program) (loose : List Str) (Xt : Shared → Bool) {α : Type} (Yf : Shared → α) (Ya : World → α) (N : Nat) : Prop := LeftO p q loose Xt Yf Ya N
theorem PySem.W.holds_open {r : OpenRow} {q : Program} {loose : List Str} {Xt : Shared → Bool} {XP : (Str → Option Value) → Heap → Prop} {α : Type} {Yf : Shared → α} {Ya : World → α} {YP : World → Heap → Prop} {d : DefRec} {kwd : List (Str × Expr)} {N : Nat}
    (left : LeftTop r.prog q loose Xt Yf Ya N) (hY : ∀ w s, Yf s = Ya w → YP w s.heap) (hYk : ∀ w h h', YP w h → (∀ b o, h.get? b = some o → h'.get? b = some o) → YP w h')
    (hX : ∀ s, Xt s = true → XP (s.heap.nsMap mainGlobals) s.heap) (hXk : ∀ mg h h', XP mg h → (∀ b o, h.get? b = some o → h'.get? b = some o) → XP mg h')
    (hdef : defOf q r.name = some (d, kwd)) (hp : r.prog.theDef r.name = some (d.params, d.body, d.scope)) (hk : kwWritten? d.params.kwonlyargs d.params.kw_defaults = some kwd) (hRf : ∀ s, Xt s = true → RecFacts r.records s.heap) (hwr : (!r.writes || r.records.isEmpty) = true)
    (k1 : r.wellSaid = true) (ok : (chainsOk q && opensWell r.prog && (frees r.toRowW && r.within.isEmpty)) = true) (hb : r.prog.bare) (hw : r.toRowW.promised)
    (call : WalkC q loose XP YP r.toRowW d kwd) : r.Holds := by
  refine ⟨k1, hw, holdsOpen_door (tree := fun vs => do match ← nsGet mainNs r.name with
      | some f => do ret (← PySem.call f vs)
      | none => unsupported "claim.caller:no-such-global") (d := fun _ => ret (.bool true)) (open_anyG (r := r.toRowW) (run := fun f vs => door (PySem.call f vs) (pure (.bool true))) (tree := fun vs => door (do match ← nsGet mainNs r.name with
      | some f => do ret (← PySem.call f vs)
      | none => unsupported "claim.caller:no-such-global") (ret (.bool true))) left hY hYk hX hXk hRf hwr ok hb hw
    (fun vs w s mg f Q E hg hf h => door_ret hg hf h)
    (fun w s hg G n hn => ?_) fun w s₀ s₁ mg mb G Y args vs as hpre hlay L low => ?_)⟩
  · obtain rfl : n = r.name := by split at hn <;> simp_all
    exact pinned_of_view hg G hdef hp hk
  · obtain ⟨a, o, pm, cd, doc, dV, kV, h1, h2, h3, h4, h5⟩ := G.fn hdef
    obtain ⟨g, c⟩ := call w s₀ s₁ mg mb G Y a o pm cd doc dV kV h2 h3 h4 h5 (defOf_name hdef ▸ h1) L.gens args vs as hpre hlay L.reads L.well (L.low low)
    exact ⟨.ref a, h1, wpAny_door c (wpAny_pure g)⟩
open_top top0 for PySem.Challenge.rw_on0221_01
end Mine
end
theorem Mine.anew_TopA : True := by (w_top off); first | walk1 | trivial
-- Cell
section
open PySem PySem.W PySem.Spec PySem.Calls PyProof.Rows
set_option Elab.async false
set_option maxRecDepth 100000
set_option maxHeartbeats 8000000
namespace Mine

section
variable {prog : Program} {w : World} {A₀ A : Around} {s : Shared} {base h₀ : Heap} {outer : List Env} {L : Addr} {m : Str → Option Value} {env : Env} {news : List (Addr × Obj)}
  {R : Result → Shared → Prop} {name qual : Str} {params : Arguments} {body : List Stmt} {scope : Scope} {dV kV doc pm cdv ct oc : Value} {an od : Option Addr} {osl : Array (Option Value)} {f : Addr} {args : Args} {binds : List (Str × Value)}
theorem cells_news {g h h₁ : Heap} {L' : Addr} {news cells : List (Addr × Obj)} {hs : List Addr} (hg : g = hideAll h hs) (NC : News h L' h₁ cells) (N2 : ∀ p ∈ news, h₁.get? p.1 = some p.2 ∧ p.1 ≠ L' ∧ g.get? p.1 = none) : News g L' h₁ (cells ++ news) := fun p hp => by
  rcases List.mem_append.mp hp with hp | hp
  · refine ⟨(NC p hp).1, (NC p hp).2.1, ?_⟩
    cases q : g.get? p.1 with
    | none => rfl
    | some o => rw [hg] at q; have := of_hideAll _ q; rw [(NC p hp).2.2] at this; cases this
  · exact N2 p hp
theorem code_cellG {K : Frag} {p : Program} {loose : List Str} {mean : ExcName → Option Value} {mg mb : Str → Option Value}
    (B : Below A₀ base outer h₀) (F : Fr h₀ L s.heap m) (X₀ : K.In h₀) (N : News h₀ L s.heap news) (T : Top p loose mean mg mb h₀) (hA : A.frames = some (env :: outer)) (hf : env.frame = some L) (hke : env.scope.kind = .function)
    (ho : K.lookup f = some ⟨oc, od, .func (fnOf name qual params body scope dV kV doc pm an cdv ct), osl⟩) (hcd : codeIn K cdv qual = true) (hroom : A.depth < recursionLimit)
    (hbind : BindsTo s (fnOf name qual params body scope dV kV doc pm an cdv ct) args binds) (hkind : (binds.all fun y => scope.names.lookup y.1 == some .local || scope.names.lookup y.1 == some .cell) = true)
    (hnd : ((cellsFrom 0 scope.names []).map (·.1)).Nodup)
    (h : ∀ g L' h₁ tk cells, Fr h₀ L g m → Fr g L' h₁ (bindL (envOfC qual scope L' f cdv).kindOf binds fun _ => none) → News g L' h₁ (cells ++ news) →
      CellsAre (bindC (envOfC qual scope L' f cdv).kindOf binds fun _ => none) (cellsFrom (L' + 1) scope.names []) cells → Below A base (env :: outer) g → K.In g → Top p loose mean mg mb g → GSub s.heap g (news.map (·.1)) →
      wpAny (model prog w) (A.deeper (envOfC qual scope L' f cdv)) (execs body (envOfC qual scope L' f cdv))
        (fun fl s' => LeaveK h₀ L m g R (match fl with | .ret v => v | _ => .none) s')
        (fun e s' => wpAny (model prog w) (A.deeper (envOfC qual scope L' f cdv)) (leaving (envOfC qual scope L' f cdv) e) (fun _ s'' => R (.error e) s'') (fun e' s'' => R (.error e') s'') s')
        { s with heap := h₁, toks := tk })
    (hco : scope.isCoroutine = false) (hgen : scope.isGenerator = false) (hk : scope.kind = .function) : codeAny (model prog w) A (.call (.ref f) args) R s := by
  obtain ⟨FG, BG, st, lv⟩ := groundX (R := R) B F N hA hf hke
  refine codeAny_call_function (fd := fnX name qual params body scope [] dV kV doc pm an cdv ct) hroom ((X₀.keeps F.keep) _ _ ho) rfl hco hgen rfl (codeRec_of (X₀.keeps F.keep) hcd) (hbind _ _ _ _ ?_)
  refine wpAny_newFunctionEnv_cells hk (kindsX hkind _) fun env' he s' x => ?_
  subst he
  refine ⟨(T.nolimit.keeps F.keep).keeps x.toInCall.keep, codeAny_func ?_⟩
  obtain ⟨h₁, tk, rfl, _⟩ := x.done
  have hk₁ := x.toInCall.keep
  obtain ⟨cells, NC, Y⟩ := Cl.news (h₀ := s.heap) (Nat.le_refl _) fun n c hm => ⟨x.cell n c (lookup_of_mem_nodup (cellsFrom_names scope.names 0 (s.heap.objs.size + 1) [] [] rfl ▸ hnd) hm), x.above n c hm⟩
  refine wpAny_mono (h _ s.heap.objs.size h₁ tk cells FG ⟨x.toInCall.ns, fun b o e => hk₁ b o (of_hideAll _ e), Nat.le_of_eq (hideAll_size _ _)⟩ (cells_news rfl NC fun p hp => ⟨hk₁ _ _ (N p hp).1, Nat.ne_of_lt (Heap.lt_size (N p hp).1), hideAll_none _ (List.mem_map_of_mem hp)⟩) Y BG (X₀.keeps st) (T.keeps st) (fun b o e n => hideAll_get _ e n)) (fun fl s' hl => lv _ _ hl) fun _ _ y => y
theorem codeC_call_function {a : Addr} {o : Obj} {fd : FuncData} {args : Args} {body : List Stmt}
    (hroom : A.depth < recursionLimit) (ho : s.heap.get? a = some o) (hdata : o.data = .func fd) (hco : fd.scope.isCoroutine = false) (hgen : fd.scope.isGenerator = false) (hbody : fd.body = .stmts body) (hcd : s.heap.CodeRec fd.code fd.qualname)
    (h : wpAny (model prog w) A.in1 (bindArgs fd args) (fun binds s₁ => wpAny (model prog w) A.in1 (newFunctionEnv fd.scope fd.globals fd.closure binds (fd.qualname ++ ".<locals>.") (some a) fd.code none fd.builtins)
      (fun env s₂ => s₂.heap.NoLimit ∧ codeC (model prog w) A (.func body env) R s₂) (fun e s' => R (.error e) s') s₁) (fun e s' => R (.error e) s') s) :
    codeC (model prog w) A (.call (.ref a) args) R s := by
  refine codeC_tree rfl ?_
  show wpC _ A.in1 (callAny (.ref a) args) _ _ s
  simp only [callAny]
  refine wpC_then (P := fun o' s₁ => o = o' ∧ s = s₁) (wpAny_load ho ⟨rfl, rfl⟩) ?_
  rintro _ _ ⟨rfl, rfl⟩
  obtain ⟨c, oc, vs, tq, hc, hoc, hdc, hq⟩ := hcd
  simp only [hdata, callFunction, hco, hgen, hbody, hc]
  refine wpC_then (m := field (.ref c) 1) (P := fun v s₁ => .str fd.qualname tq = v ∧ s = s₁) (wpAny_field hoc hdc hq ⟨rfl, rfl⟩) ?_
  rintro _ _ ⟨rfl, rfl⟩
  refine wpC_bind (wpC_pure ?_)
  refine wpC_then h fun binds s₁ h₁ => ?_
  rw [hc] at h₁
  refine wpC_then h₁ fun env s₂ h₂ => ?_
  refine wpC_bind (wpC_any (wpAny_enterFrame h₂.1 hroom ?_))
  exact wpC_pure ⟨rfl, h₂.2⟩
theorem code_cellC {K : Frag} {p : Program} {loose : List Str} {mean : ExcName → Option Value} {mg mb : Str → Option Value}
    (B : Below A₀ base outer h₀) (F : Fr h₀ L s.heap m) (X₀ : K.In h₀) (N : News h₀ L s.heap news) (T : Top p loose mean mg mb h₀) (hA : A.frames = some (env :: outer)) (hf : env.frame = some L) (hke : env.scope.kind = .function)
    (ho : K.lookup f = some ⟨oc, od, .func (fnOf name qual params body scope dV kV doc pm an cdv ct), osl⟩) (hcd : codeIn K cdv qual = true) (hroom : A.depth < recursionLimit)
    (hbind : BindsTo s (fnOf name qual params body scope dV kV doc pm an cdv ct) args binds) (hkind : (binds.all fun y => scope.names.lookup y.1 == some .local || scope.names.lookup y.1 == some .cell) = true)
    (hnd : ((cellsFrom 0 scope.names []).map (·.1)).Nodup)
    (h : ∀ g L' h₁ tk cells, Fr h₀ L g m → Fr g L' h₁ (bindL (envOfC qual scope L' f cdv).kindOf binds fun _ => none) → News g L' h₁ (cells ++ news) →
      CellsAre (bindC (envOfC qual scope L' f cdv).kindOf binds fun _ => none) (cellsFrom (L' + 1) scope.names []) cells → Below A base (env :: outer) g → K.In g → Top p loose mean mg mb g → GSub s.heap g (news.map (·.1)) →
      wpC (model prog w) (A.deeper (envOfC qual scope L' f cdv)) (execs body (envOfC qual scope L' f cdv))
        (fun fl s' => LeaveK h₀ L m g R (match fl with | .ret v => v | _ => .none) s')
        (fun e s' => wpC (model prog w) (A.deeper (envOfC qual scope L' f cdv)) (leaving (envOfC qual scope L' f cdv) e) (fun _ s'' => R (.error e) s'') (fun e' s'' => R (.error e') s'') s')
        { s with heap := h₁, toks := tk })
    (hco : scope.isCoroutine = false) (hgen : scope.isGenerator = false) (hk : scope.kind = .function) : codeC (model prog w) A (.call (.ref f) args) R s := by
  obtain ⟨FG, BG, st, lv⟩ := groundX (R := R) B F N hA hf hke
  refine codeC_call_function (fd := fnX name qual params body scope [] dV kV doc pm an cdv ct) hroom ((X₀.keeps F.keep) _ _ ho) rfl hco hgen rfl (codeRec_of (X₀.keeps F.keep) hcd) (hbind _ _ _ _ ?_)
  refine wpAny_newFunctionEnv_cells hk (kindsX hkind _) fun env' he s' x => ?_
  subst he
  refine ⟨(T.nolimit.keeps F.keep).keeps x.toInCall.keep, codeC_func ?_⟩
  obtain ⟨h₁, tk, rfl, _⟩ := x.done
  have hk₁ := x.toInCall.keep
  obtain ⟨cells, NC, Y⟩ := Cl.news (h₀ := s.heap) (Nat.le_refl _) fun n c hm => ⟨x.cell n c (lookup_of_mem_nodup (cellsFrom_names scope.names 0 (s.heap.objs.size + 1) [] [] rfl ▸ hnd) hm), x.above n c hm⟩
  refine wpC_mono (h _ s.heap.objs.size h₁ tk cells FG ⟨x.toInCall.ns, fun b o e => hk₁ b o (of_hideAll _ e), Nat.le_of_eq (hideAll_size _ _)⟩ (cells_news rfl NC fun p hp => ⟨hk₁ _ _ (N p hp).1, Nat.ne_of_lt (Heap.lt_size (N p hp).1), hideAll_none _ (List.mem_map_of_mem hp)⟩) Y BG (X₀.keeps st) (T.keeps st) (fun b o e n => hideAll_get _ e n)) (fun fl s' hl => lv _ _ hl) fun _ _ y => y
end
end Mine
end
theorem Mine.anew_Cell : True := by (w_top off); first | walk1 | trivial
-- TopB
section
open PySem PySem.W PySem.Spec PySem.Calls PyProof.Rows
set_option Elab.async false
set_option maxRecDepth 100000
set_option maxHeartbeats 8000000
namespace Mine

/-- every name that the text binds at its top -/
def ownNames : List Str := [Str.ofString "__name__", Str.ofString "MillError", Str.ofString "SheetFault", Str.ofString "MOST_ADLER", Str.ofString "get32", Str.ofString "crc_steps", Str.ofString "crc32", Str.ofString "adler32", Str.ofString "block_size", Str.ofString "unstored",
  Str.ofString "_law_pool", Str.ofString "_law_take", Str.ofString "_law_one", Str.ofString "_law_sum", Str.ofString "_law_check", Str.ofString "_law_four", Str.ofString "_law_stream", Str.ofString "_law_turned", Str.ofString "_law_is_refused", Str.ofString "law"]
theorem top_wider {l1 l2 : List Str} {mean : ExcName → Option Value} {mg mb : Str → Option Value} {h : Heap} (T : Top topProg l1 mean mg mb h) (hl : ∀ x ∈ l1, x ∈ l2) : Top topProg l2 mean mg mb h where
  g := T.g
  b := T.b
  nolimit := T.nolimit
  nodigits := T.nodigits
  fn := T.fn
  own := T.own
  const := T.const
  free := fun x h1 h2 h3 h4 _ => T.free x h1 (fun q => h2 (hl x q)) h3 h4 (fun q => nomatch (show x ∈ ([] : List Str) from q))
  builtins := T.builtins
  tab := T.tab
  bmain := T.bmain
  seer := T.seer
theorem own_in : ∀ x ∈ (looseW top0.view_39 [Str.ofString "crc32", Str.ofString "adler32"] ++ (recsOf top0.view_39).map (·.name) ++ (litsOf top0.view_39).map (·.1) ++ (clssOf top0.view_39 (looseW top0.view_39 [Str.ofString "crc32", Str.ofString "adler32"])).map (·.name)), x ∈ ownNames := by
  decide +kernel
theorem top_own {mean : ExcName → Option Value} {mg mb : Str → Option Value} {h : Heap} {tabs : List (Addr × Addr)} (hT : TabsAt tabs h) (T : Top top0.view_39 (looseW top0.view_39 [Str.ofString "crc32", Str.ofString "adler32"]) mean mg mb h) : Top topProg ownNames mean mg mb (ghostOf h tabs) :=
  top_wider (ghost_top hT T) own_in
end Mine
end
theorem Mine.anew_TopB : True := by (w_top off); first | walk1 | trivial
-- Base
section
open PySem PySem.W PyProof.Rows
set_option Elab.async false
set_option maxRecDepth 100000
namespace Mine

theorem news_reord {h₀ h : Heap} {L l : Addr} {o : Obj} {news : List (Addr × Obj)} {g : Obj → List (Addr × Obj)} (N : News h₀ L h news) (U : UpdF l o news g) :
    ∃ rest, News h₀ L h ((l, o) :: rest) ∧ OwnOff rest [l] ∧ ∀ h' o', News h₀ L h' ((l, o') :: rest) → News h₀ L h' (g o') := by
  obtain ⟨pre, post, rfl, hg, h1, h2⟩ := U.split
  refine ⟨pre ++ post, fun p hp => ?_, fun p hp b hb => ?_, fun h' o' N' p hp => ?_⟩
  · rcases List.mem_cons.mp hp with rfl | hp
    · exact N _ (List.mem_append.mpr (.inr (.head _)))
    · rcases List.mem_append.mp hp with hp | hp
      · exact N _ (List.mem_append.mpr (.inl hp))
      · exact N _ (List.mem_append.mpr (.inr (.tail _ hp)))
  · rw [List.mem_singleton.mp hb]
    rcases List.mem_append.mp hp with hp | hp
    · exact h1 p hp
    · exact h2 p hp
  · rw [hg] at hp
    rcases List.mem_append.mp hp with hp | hp
    · exact N' _ (.tail _ (List.mem_append.mpr (.inl hp)))
    · rcases List.mem_cons.mp hp with rfl | hp
      · exact N' _ (.head _)
      · exact N' _ (.tail _ (List.mem_append.mpr (.inr hp)))
end Mine
namespace Mine
open PySem PySem.W PySem.Spec PySem.Calls PyProof.Rows
/-- a fact laid aside: no line of the walk finds it -/
def Aside (P : Prop) : Prop := P
theorem Aside.mk {P : Prop} (h : P) : Aside P := h
theorem Aside.out {P : Prop} (h : Aside P) : P := h
/-- what a call hid nothing of stands as it stood -/
theorem news_back {h₀ h g h' : Heap} {L L' : Addr} {m' : Str → Option Value} {news own own' : List (Addr × Obj)} (N : News h₀ L h news) (G : GSub h g (own.map (·.1))) (F' : Fr g L' h' m') (N' : News h₀ L h' own') :
    News h₀ L h' (own' ++ news.filter fun p => decide (p.1 ∉ own.map (·.1))) := by
  intro p hp
  rcases List.mem_append.mp hp with hp | hp
  · exact N' p hp
  · obtain ⟨h1, h2⟩ := List.mem_filter.mp hp
    exact ⟨F'.keep _ _ (G _ _ (N p h1).1 (of_decide_eq_true h2)), (N p h1).2⟩
/-- the same where the call was given no object of the ledger to turn -/
theorem news_back0 {h₀ h g h' : Heap} {L L' : Addr} {m' : Str → Option Value} {news own' : List (Addr × Obj)} (N : News h₀ L h news) (G : GSub h g []) (F' : Fr g L' h' m') (N' : News h₀ L h' own') :
    News h₀ L h' (own' ++ news) := by
  intro p hp
  rcases List.mem_append.mp hp with hp | hp
  · exact N' p hp
  · exact ⟨F'.keep _ _ (G _ _ (N p hp).1 (by simp)), (N p hp).2⟩
end Mine
end
theorem Mine.anew_Base : True := by (w_top off); first | walk1 | trivial
-- Take
section
open PySem PySem.W PySem.Spec PySem.Calls PyProof.Rows
set_option Elab.async false
set_option maxRecDepth 100000
set_option maxHeartbeats 8000000
namespace Mine

theorem mul_ok_small {a b : Int} (h0 : 0 ≤ a) (h1 : a < 18446744073709551616) : IntMulOk a b := IntMulOk.of_left (intBits_le_64 (by omega) (by omega))
theorem mul_ok_take {x z b : Int} : IntMulOk ([x, Int.fmod z 2147483647].getD (Int.toNat 1) 0) b := by
  show IntMulOk (Int.fmod z 2147483647) b
  exact mul_ok_small (fmod_lo _ (by decide)) (Int.lt_trans (fmod_hi _ (by decide)) (by decide))
section
local macro_rules | `(tactic| mul_fits) => `(tactic| exact mul_ok_take)

theorem take_c (w : World) (mean : ExcName → Option Value) (mg mb : Str → Option Value)
    {dp un : Nat} {gd : Option (List Code)} {cn : Str} {cs : Scope} {a : Addr} {ccd : Value} {cl : List (Str × Addr)} {outer : List Env} {A₀ : Around} {base h₀ : Heap} {L : Addr} {m : Str → Option Value} {news : List (Addr × Obj)} {s : Shared} {Q E : Value → Shared → Prop}
    (B : Below A₀ base outer h₀) (F : Fr h₀ L s.heap m) (X : (Mine.top0.heap_39 w.params).In h₀) (N : News h₀ L s.heap news) (T : Top topProg ownNames mean mg mb h₀) (hk : cs.kind = .function)
    {l : Addr} {x y top : Int} {tx ty tt : Tok} {n : Nat} {g : Obj → List (Addr × Obj)}
    (U : UpdF l (listOf #[.int x tx, .int y ty] n) news g) (hx : 0 ≤ x) (hy : 0 ≤ y) (hy2 : y < 2147483647) (ht : 0 < top) (ht2 : top < 65536) (hd : dp + 1 < recursionLimit) (hu : un + 8 < cLine)
    (hret : ∀ d td x' tx' y' ty' n' h' tk', 0 ≤ d → d < top → 0 ≤ x' → 0 ≤ y' → y' < 2147483647 → Fr h₀ L h' m → News h₀ L h' (g (listOf #[.int x' tx', .int y' ty'] n')) → Q (.int d td) { s with heap := h', toks := tk' }) :
    wpAny (model PySem.Challenge.rw_on0221_01.row.prog w) (ktrTop dp un gd cn cs L a ccd cl outer) (call (.ref 104) [.ref l, .int top tt]) Q E s := by
  revert X; k_fill; intro X
  obtain ⟨rest, N2, hoff, back⟩ := news_reord N U
  clear N U
  refine wpAny_call ?_
  k_dflt ktr_enter
  k_steps
  all_goals (
    refine hret _ _ _ _ _ _ _ _ _ (fmod_lo _ ht) (fmod_hi _ ht) ?_ ?_ ?_ (by assumption) (back _ _ (by assumption)))
  · exact Int.fdiv_nonneg hx (Int.le_of_lt ht)
  · exact hy
  · exact hy2
  · exact hx
  · exact fmod_lo _ (by decide)
  · exact fmod_hi _ (by decide)
end
end Mine
end
theorem Mine.anew_Take : True := by (w_top off); first | walk1 | trivial
-- NeLem
section
open PySem PySem.W PySem.Spec PySem.Calls PyProof.Rows
set_option Elab.async false
set_option maxRecDepth 100000
set_option maxHeartbeats 8000000
namespace Mine

theorem ne_off {L x y : Nat} (i j : Nat) (hx : x = L + i) (hy : y = L + j) (h : i ≠ j) : x ≠ y := fun e => h (Nat.add_left_cancel (hx.symm.trans (e.trans hy)))
theorem ne_tab {L c x : Nat} (i : Nat) (hx : x = L + i) (h : @LT.lt Nat _ c L) : c ≠ x := fun e => Nat.lt_irrefl c (Nat.lt_of_lt_of_le h (Nat.le_trans (Nat.le_add_right L i) (Nat.le_of_eq (hx.symm.trans e.symm))))
end Mine
end
theorem Mine.anew_NeLem : True := by (w_top off); first | walk1 | trivial
-- One
section
open PySem PySem.W PySem.Spec PySem.Calls PyProof.Rows
set_option Elab.async false
set_option maxRecDepth 100000
set_option maxHeartbeats 8000000
namespace Mine

/-- the source's entry of a ledger, its two ints any -/
abbrev srcO (x y : Int) (tx ty : Tok) (n : Nat) : Obj := listOf #[.int x tx, .int y ty] n

theorem news_reord2 {h₀ h : Heap} {L l t : Addr} {o ot : Obj} {news : List (Addr × Obj)} {g : Obj → List (Addr × Obj)} (N : News h₀ L h news) (U : UpdF l o news g) (ht : (t, ot) ∈ news) :
    ∃ rest, News h₀ L h ((l, o) :: (t, ot) :: rest) ∧ OwnOff rest [l] ∧ ∀ h' o', News h₀ L h' ((l, o') :: (t, ot) :: rest) → News h₀ L h' (g o') := by
  obtain ⟨rest, N2, hoff, back⟩ := news_reord N U
  refine ⟨rest, fun p hp => ?_, hoff, fun h' o' N' => back h' o' fun p hp => ?_⟩
  · rcases List.mem_cons.mp hp with rfl | hp
    · exact N2 _ (.head _)
    · rcases List.mem_cons.mp hp with rfl | hp
      · exact N _ ht
      · exact N2 _ (.tail _ hp)
  · rcases List.mem_cons.mp hp with rfl | hp
    · exact N' _ (.head _)
    · exact N' _ (.tail _ (.tail _ hp))

theorem getD_mem {ns : List Int} {d : Int} (h0 : 0 ≤ d) (h1 : d < (ns.length : Int)) : ns.getD d.toNat 0 ∈ ns := by
  have h : d.toNat < ns.length := by omega
  rw [List.getD, List.getElem?_eq_getElem h]
  exact List.getElem_mem h
end Mine
end
theorem Mine.anew_One : True := by (w_top off); first | walk1 | trivial
-- Loop
section
open PySem PySem.W PySem.Spec PySem.Calls PyProof.Rows
set_option Elab.async false
set_option maxRecDepth 100000
set_option maxHeartbeats 8000000
namespace Mine

/-- the walk stops here: no line serves this word -/
def Halt {α : Type} (t : Sem α) : Sem α := t
section
variable {α : Type} {M : Model} {A : Around} {E : Value → Shared → Prop} {s : Shared} {Q : α → Shared → Prop} {t : Sem α}
theorem Stop.out (h : wpAny M A (Halt t) Q E s) : wpAny M A t Q E s := h
theorem Stop.mk (h : wpAny M A t Q E s) : wpAny M A (Halt t) Q E s := h
/-- an end at which the walk stops -/
abbrev EndAt (M : Model) (A : Around) (E : Value → Shared → Prop) (P : Prop) (s : Shared) : Prop := wpAny M A (Halt (pure ())) (fun _ _ => P) E s
theorem EndAt.mk {P : Prop} (h : P) : EndAt M A E P s := wpAny_pure (a := ()) (Q := fun _ _ => P) h
theorem ends_at (h : wpAny M A t (fun a s' => EndAt M A E (Q a s') s') E s) : wpAny M A t Q E s :=
  fun Γ p hΓ => Sem.wp_mono M Γ t (fun _ p' _ h' => h' Γ p' hΓ) (fun _ _ _ h' => h') p s (h Γ p hΓ)
end

/-- what holds of frame and ledger between two turns: σ the state, ps its names, `stored` the other names that the body stores -/
def TurnS {σ : Type} (Led : σ → List (Addr × Obj)) (ps : σ → List (Str × Value)) (x : Str) (stored : List Str) (m₀ : Str → Option Value) (R : σ → Prop) (m : Str → Option Value) (nx : List (Addr × Obj)) : Prop :=
  ∃ c : σ, nx = Led c ∧ (∀ p ∈ ps c, m p.1 = some p.2) ∧ (∀ z, z ≠ x → (∀ p ∈ ps c, z ≠ p.1) → stored.contains z = false → m z = m₀ z) ∧ R c

abbrev TurnEnd {σ : Type} (M : Model) (A : Around) (E : Value → Shared → Prop) (h₀ : Heap) (L : Addr) (Led : σ → List (Addr × Obj)) (ps : σ → List (Str × Value)) (x : Str) (stored : List Str) (m₀ : Str → Option Value) (R : σ → Prop) (own : List (Addr × Obj)) (adr : List Addr) (s₁ : Shared) (Q : Flow → Shared → Prop) (f : Flow) (s₂ : Shared) : Prop :=
  EndAt M A E (InvPostN h₀ L (TurnS Led ps x stored m₀ R) own adr s₁ Q f s₂) s₂

theorem turn_end {σ : Type} {M : Model} {A : Around} {E : Value → Shared → Prop} {h₀ : Heap} {L : Addr} {Led : σ → List (Addr × Obj)} {ps : σ → List (Str × Value)} {x : Str} {stored : List Str} {m₀ : Str → Option Value} {R : σ → Prop} {own : List (Addr × Obj)} {adr : List Addr} {s₁ : Shared} {Q : Flow → Shared → Prop} {h' : Heap} {tk : Nat} {m' : Str → Option Value} {news' : List (Addr × Obj)}
    (c : σ) (F : Fr h₀ L h' m') (N : News h₀ L h' news') (hn : ∀ p ∈ Led c, p ∈ news') (ho : ∀ p ∈ own, p ∈ news') (ha : (Led c).map (·.1) = adr) (hk : ∀ p ∈ ps c, m' p.1 = some p.2)
    (hr : ∀ z, z ≠ x → (∀ p ∈ ps c, z ≠ p.1) → stored.contains z = false → m' z = m₀ z) (hp : R c) :
    TurnEnd M A E h₀ L Led ps x stored m₀ R own adr s₁ Q .next { s₁ with heap := h', toks := tk } := by
  refine EndAt.mk ?_
  show InvEndN h₀ L (TurnS Led ps x stored m₀ R) own adr s₁ { s₁ with heap := h', toks := tk }
  exact InvEndN.intro F N ⟨c, rfl, hk, hr, hp⟩ ha hn ho

section
variable {prog : Program} {w : World} {A : Around} {E : Value → Shared → Prop} {s : Shared} {env : Env} {h₀ : Heap} {x : Str} {body : List Stmt} {Q : Flow → Shared → Prop}

theorem loopS {σ : Type} {I : Addr} {fp wr : List Addr} {n : Nat} {P : Nat → Value → Prop} {St : Nat → Heap → Prop} {m₀ : Str → Option Value}
    (Led : σ → List (Addr × Obj)) (ps : σ → List (Str × Value)) (stored : List Str) (R : Nat → σ → Prop) (c₀ : σ)
    (W : Walks prog w A I fp wr n P St) (hLf : env.locals ∉ fp) (hwr : ∀ b ∈ wr, h₀.get? b = none) (hfp : ∀ q ∈ Led c₀, q.1 ∉ fp) (hst : St 0 s.heap) (F : Fr h₀ env.locals s.heap m₀) (N : News h₀ env.locals s.heap (Led c₀))
    (hk : ∀ p ∈ ps c₀, m₀ p.1 = some p.2) (hp : R 0 c₀)
    (turn : ∀ i (c : σ) v (u : Str → Option Value) h tk own, i < n → P i v → R i c → OwnOff own ((Led c₀).map (·.1)) →
      Fr h₀ env.locals h (fun y => if y = x then some v else kstB (fun z => if stored.contains z then u z else m₀ z) (ps c) y) → News h₀ env.locals h (Led c ++ own) →
      wpAny (model prog w) A (execs body env) (TurnEnd (model prog w) A E h₀ env.locals Led ps x stored m₀ (R (i + 1)) own ((Led c₀).map (·.1)) { s with heap := h, toks := tk } Q) E { s with heap := h, toks := tk })
    (done : ∀ (c : σ) (u : Str → Option Value) h tk, R n c → Fr h₀ env.locals h (fun y => if y = x then u y else kstB (fun z => if stored.contains z then u z else m₀ z) (ps c) y) → News h₀ env.locals h (Led c) → Q .next { s with heap := h, toks := tk }) :
    LoopAtV prog w A h₀ env x body Q E (.ref I) s := by
  refine loop_invN (fun i m nx => TurnS Led ps x stored m₀ (R i) m nx) W hLf hwr (fun p hp hI => hfp p hp (W.sub _ hI)) hfp hst F N ⟨c₀, rfl, hk, fun _ _ _ _ => rfl, hp⟩ ?_ ?_
  · rintro i v m₁ nx h tk own hi hv _ hoff ⟨c, rfl, h1, h2, hp'⟩ F₁ N₁
    exact ends_at (turn i c v m₁ h tk own hi hv hp' hoff (kst_fr h1 h2 F₁) N₁)
  · rintro m₁ nx h tk ⟨c, rfl, h1, h2, hp'⟩ F₁ N₁
    exact done c m₁ h tk hp' (kst_frOut h1 h2 F₁) N₁

/-- over a range by ones -/
theorem loop_range {σ : Type} {r : Addr} {a₀ b₀ : Int} {t₀ u₀ v₀ : Tok} {n : Nat} {m₀ : Str → Option Value}
    (Led : σ → List (Addr × Obj)) (ps : σ → List (Str × Value)) (stored : List Str) (R : Nat → σ → Prop) (c₀ : σ)
    (hh : A.handled = none) (hr : IsRange s.heap r a₀ b₀ 1 t₀ u₀ v₀) (hsmall : Builtin.Range.small a₀ b₀ 1 = true) (hn : Builtin.Range.rangeSize a₀ b₀ 1 = (n : Int)) (F : Fr h₀ env.locals s.heap m₀) (N : News h₀ env.locals s.heap (Led c₀))
    (hk : ∀ p ∈ ps c₀, m₀ p.1 = some p.2) (hp : R 0 c₀)
    (turn : ∀ (i : Nat) (c : σ) t (u : Str → Option Value) h tk own, i < n → R i c → OwnOff own ((Led c₀).map (·.1)) →
      Fr h₀ env.locals h (fun y => if y = x then some (.int (a₀ + (i : Int)) t) else kstB (fun z => if stored.contains z then u z else m₀ z) (ps c) y) → News h₀ env.locals h (Led c ++ own) →
      wpAny (model prog w) A (execs body env) (TurnEnd (model prog w) A E h₀ env.locals Led ps x stored m₀ (R (i + 1)) own ((Led c₀).map (·.1)) { s with heap := h, toks := tk } Q) E { s with heap := h, toks := tk })
    (done : ∀ (c : σ) (u : Str → Option Value) h tk, R n c → Fr h₀ env.locals h (fun y => if y = x then u y else kstB (fun z => if stored.contains z then u z else m₀ z) (ps c) y) → News h₀ env.locals h (Led c) → Q .next { s with heap := h, toks := tk }) :
    wpAny (model prog w) A (pyIter (.ref r)) (fun it s₂ => LoopAtV prog w A h₀ env x body Q E it s₂) E s := by
  refine wpAny_pyIter_range hr hsmall ?_
  have W : Walks prog w A s.heap.objs.size [s.heap.objs.size] [s.heap.objs.size] n (fun i v => i < n ∧ ∃ t, v = .int (a₀ + i * 1) t)
      (fun i h => IsRangeIter h s.heap.objs.size (a₀ + (i : Nat) * 1) ((n : Int) - (i : Nat)) 1) := (Walks.range hh _ a₀ 1 n).bound
  refine loopS Led ps stored R c₀ W ?_ ?_ ?_ (by show IsRangeIter _ _ _ _ _; rw [hn]; simpa using Heap.get?_push_size _ rfl) (F.push _) (fun p hp => ⟨Heap.get?_push_of_some _ (N p hp).1, (N p hp).2⟩) hk hp ?_ ?_
  · intro hm
    exact absurd F.ns.lt ((List.mem_singleton.mp hm) ▸ Nat.lt_irrefl _)
  · intro b hb
    rw [List.mem_singleton.mp hb]
    exact next_is_new F
  · intro p hp hI
    exact absurd (Heap.lt_size (N p hp).1) ((List.mem_singleton.mp hI) ▸ Nat.lt_irrefl _)
  · rintro i c v u h tk own hi ⟨_, t, rfl⟩ hR hoff F₁ N₁
    have e1 : a₀ + (i : Int) * 1 = a₀ + (i : Int) := by omega
    rw [e1] at F₁
    exact turn i c t u h tk own hi hR hoff F₁ N₁
  · exact fun c u h tk hR F₁ N₁ => done c u h tk hR F₁ N₁

/-- over bytes -/
theorem loop_bytes {σ : Type} {b : Array UInt8} {tb : Tok} {m₀ : Str → Option Value}
    (Led : σ → List (Addr × Obj)) (ps : σ → List (Str × Value)) (stored : List Str) (R : Nat → σ → Prop) (c₀ : σ)
    (hh : A.handled = none) (F : Fr h₀ env.locals s.heap m₀) (N : News h₀ env.locals s.heap (Led c₀))
    (hk : ∀ p ∈ ps c₀, m₀ p.1 = some p.2) (hp : R 0 c₀)
    (turn : ∀ (i : Nat) (c : σ) (k : Int) t (u : Str → Option Value) h tk own, (KBw.bInts b)[i]? = some k → 0 ≤ k → k < 256 → R i c → OwnOff own ((Led c₀).map (·.1)) →
      Fr h₀ env.locals h (fun y => if y = x then some (.int k t) else kstB (fun z => if stored.contains z then u z else m₀ z) (ps c) y) → News h₀ env.locals h (Led c ++ own) →
      wpAny (model prog w) A (execs body env) (TurnEnd (model prog w) A E h₀ env.locals Led ps x stored m₀ (R (i + 1)) own ((Led c₀).map (·.1)) { s with heap := h, toks := tk } Q) E { s with heap := h, toks := tk })
    (done : ∀ (c : σ) (u : Str → Option Value) h tk, R (KBw.bInts b).length c → Fr h₀ env.locals h (fun y => if y = x then u y else kstB (fun z => if stored.contains z then u z else m₀ z) (ps c) y) → News h₀ env.locals h (Led c) → Q .next { s with heap := h, toks := tk }) :
    wpAny (model prog w) A (pyIter (.bytes b tb)) (fun it s₂ => LoopAtV prog w A h₀ env x body Q E it s₂) E s := by
  refine KBw.pyIter_bytes ?_
  have W := KBw.walks (prog := prog) (w := w) hh s.heap.objs.size b tb
  refine loopS Led ps stored R c₀ W ?_ ?_ ?_ ⟨_, Heap.get?_push_size _ rfl, rfl, rfl⟩ (F.push _) (fun p hp => ⟨Heap.get?_push_of_some _ (N p hp).1, (N p hp).2⟩) hk hp ?_ ?_
  · intro hm
    exact absurd F.ns.lt ((List.mem_singleton.mp hm) ▸ Nat.lt_irrefl _)
  · intro b' hb
    rw [List.mem_singleton.mp hb]
    exact next_is_new F
  · intro p hp hI
    exact absurd (Heap.lt_size (N p hp).1) ((List.mem_singleton.mp hI) ▸ Nat.lt_irrefl _)
  · rintro i c v u h tk own hi ⟨n, t, hn, rfl⟩ hR hoff F₁ N₁
    have hn' := KBw.ints_get hn
    have hb := KBw.ints_in (List.mem_of_getElem? hn')
    exact turn i c _ t u h tk own hn' hb.1 hb.2 hR hoff F₁ N₁
  · exact fun c u h tk hR F₁ N₁ => done c u h tk (by rw [KBw.ints_length]; exact hR) F₁ N₁

/-- over a list of values that is not turned (it stands in the ledger, or below) -/
theorem loop_list {σ : Type} {l : Addr} {vs : List Value} {m₀ : Str → Option Value}
    (Led : σ → List (Addr × Obj)) (ps : σ → List (Str × Value)) (stored : List Str) (R : Nat → σ → Prop) (c₀ : σ)
    (hh : A.handled = none) (hl : h₀.IsList l vs.toArray) (F : Fr h₀ env.locals s.heap m₀) (N : News h₀ env.locals s.heap (Led c₀))
    (hk : ∀ p ∈ ps c₀, m₀ p.1 = some p.2) (hp : R 0 c₀)
    (turn : ∀ (i : Nat) (c : σ) v (u : Str → Option Value) h tk own, vs[i]? = some v → R i c → OwnOff own ((Led c₀).map (·.1)) →
      Fr h₀ env.locals h (fun y => if y = x then some v else kstB (fun z => if stored.contains z then u z else m₀ z) (ps c) y) → News h₀ env.locals h (Led c ++ own) →
      wpAny (model prog w) A (execs body env) (TurnEnd (model prog w) A E h₀ env.locals Led ps x stored m₀ (R (i + 1)) own ((Led c₀).map (·.1)) { s with heap := h, toks := tk } Q) E { s with heap := h, toks := tk })
    (done : ∀ (c : σ) (u : Str → Option Value) h tk, R vs.length c → Fr h₀ env.locals h (fun y => if y = x then u y else kstB (fun z => if stored.contains z then u z else m₀ z) (ps c) y) → News h₀ env.locals h (Led c) → Q .next { s with heap := h, toks := tk }) :
    wpAny (model prog w) A (pyIter (.ref l)) (fun it s₂ => LoopAtV prog w A h₀ env x body Q E it s₂) E s := by
  have hls : s.heap.IsList l vs.toArray := hl.at fun o e => F.keep l o e
  obtain ⟨ol, hol, _⟩ := id hl
  have hlt : l < h₀.objs.size := Heap.lt_size hol
  have hne : l ≠ s.heap.objs.size := Nat.ne_of_lt (Nat.lt_trans (Nat.lt_of_lt_of_le hlt F.above) F.ns.lt)
  refine wpAny_pyIter_list hls ?_
  have W := Walks.list (prog := prog) (w := w) hh s.heap.objs.size l hne vs.toArray
  refine loopS Led ps stored R c₀ W ?_ ?_ ?_ ⟨⟨_, Heap.get?_push_size _ rfl, rfl, rfl⟩, hls.at fun o e => Heap.get?_push_of_some _ e⟩ (F.push _) (fun p hp => ⟨Heap.get?_push_of_some _ (N p hp).1, (N p hp).2⟩) hk hp ?_ ?_
  · intro hm
    rcases List.mem_cons.mp hm with e | hm
    · exact absurd F.ns.lt (e ▸ Nat.lt_irrefl _)
    · exact absurd (Nat.lt_of_lt_of_le hlt F.above) ((List.mem_singleton.mp hm) ▸ Nat.lt_irrefl _)
  · intro b hb
    rw [List.mem_singleton.mp hb]
    exact next_is_new F
  · intro p hp hI
    rcases List.mem_cons.mp hI with e | hI
    · exact absurd (Heap.lt_size (N p hp).1) (e ▸ Nat.lt_irrefl _)
    · have h3 := (N p hp).2.2
      rw [List.mem_singleton.mp hI, hol] at h3
      cases h3
  · rintro i c v u h tk own hi hv hR hoff F₁ N₁
    exact turn i c v u h tk own (by simpa using hv) hR hoff F₁ N₁
  · exact fun c u h tk hR F₁ N₁ => done c u h tk (by simpa using hR) F₁ N₁
end



theorem octet_abs {a : Int} (h0 : 0 ≤ a) (h1 : a < 256) : a.natAbs < 2 ^ 64 := by omega
theorem head1 {h₀ h : Heap} {L a : Addr} {o : Obj} {r : List (Addr × Obj)} (_N : News h₀ L h ((a, o) :: r)) : ∃ x, x = a := ⟨_, rfl⟩
theorem head2 {h₀ h : Heap} {L a b : Addr} {o p : Obj} {r : List (Addr × Obj)} (_N : News h₀ L h ((a, o) :: (b, p) :: r)) : ∃ x y, x = a ∧ y = b := ⟨_, _, rfl, rfl⟩
theorem head3 {h₀ h : Heap} {L a b c : Addr} {o p q : Obj} {r : List (Addr × Obj)} (_N : News h₀ L h ((a, o) :: (b, p) :: (c, q) :: r)) : ∃ x y z, x = a ∧ y = b ∧ z = c := ⟨_, _, _, rfl, rfl, rfl⟩

end Mine
end
theorem Mine.anew_Loop : True := by (w_top off); first | walk1 | trivial
-- ByteArr
section
open PySem PySem.W PySem.Spec PySem.Calls PyProof.Rows
set_option Elab.async false
set_option maxRecDepth 100000
set_option maxHeartbeats 8000000
namespace Mine

theorem by_mro : mroOf (.type "bytearray") = pure [.type "bytearray", .type "object"] := by rw [mroOf_type]; kernel_rfl
theorem by_lookup_new : typeLookup (.type "bytearray") "__new__" = pure (some (.builtin "bytearray.__new__")) := by rw [typeLookup_type, builtinLookup_eq_fast]; kernel_rfl
theorem by_slot_init : Slot "bytearray" "__init__" "bytearray.__init__" :=
  .of (owner := "bytearray") (n := "__init__") (by rw [typeLookup_type, builtinLookup_eq_fast]; kernel_rfl) (by decide +kernel) (by decide +kernel) (by decide +kernel)
    (by first | exact .inl (by decide +kernel) | exact .inr (by decide +kernel)) (by rw [isSubtype_type]; kernel_rfl)
theorem by_called : TypeCalled "bytearray" "bytearray.__new__" "bytearray.__init__" :=
  ⟨by decide +kernel, by decide +kernel, ⟨_, _, by_mro⟩, madeBy_type by_mro by_lookup_new (by decide +kernel), by decide +kernel, by rw [isSubtype_type]; kernel_rfl, by_slot_init⟩
theorem by_typeCall : checkTypeCall "bytearray" ⟨[], []⟩ = pure () := by kernel_rfl
theorem by_newCall : checkBuiltinCall "bytearray.__new__" ⟨[.type "bytearray"], []⟩ = pure () := by kernel_rfl
theorem by_entry_new : entryFor table "bytearray.__new__" = some Builtin.«list.__new__» := entryFor_alias (id' := "list.__new__") (by kernel_rfl) rfl (by decide +kernel) (by kernel_rfl)
theorem by_plain_new : plainId "bytearray.__new__" = true := by decide +kernel
theorem by_entry_init : entryFor table "bytearray.__init__" = some Builtin.«bytearray.__init__» := by first | exact entryFor_of_fast (by kernel_rfl) | exact entryFor_of_tree (by kernel_rfl)
theorem by_args_init (a : Value) : argsOk "bytearray.__init__" ⟨[a], []⟩ := by unfold argsOk; kernel_rfl
theorem by_slot_extend : Slot "bytearray" "extend" "bytearray.extend" :=
  .of (owner := "bytearray") (n := "extend") (by rw [typeLookup_type, builtinLookup_eq_fast]; kernel_rfl) (by decide +kernel) (by decide +kernel) (by decide +kernel)
    (by first | exact .inl (by decide +kernel) | exact .inr (by decide +kernel)) (by rw [isSubtype_type]; kernel_rfl)
theorem by_entry_extend : entryFor table "bytearray.extend" = some Builtin.«bytearray.extend» := by first | exact entryFor_of_fast (by kernel_rfl) | exact entryFor_of_tree (by kernel_rfl)
theorem by_args_extend (a b : Value) : argsOk "bytearray.extend" ⟨[a, b], []⟩ := by unfold argsOk; kernel_rfl
theorem by_getattribute : typeLookup (.type "bytearray") "__getattribute__" = pure (some (.builtin "bytearray.__getattribute__")) := by rw [typeLookup_type, builtinLookup_eq_fast]; kernel_rfl
theorem by_canon : (Manifest.canonical "bytearray.__getattribute__" != "object.__getattribute__") = false := by decide +kernel
theorem by_getattr_none : typeLookup (.type "bytearray") "__getattr__" = pure none := by rw [typeLookup_type, builtinLookup_eq_fast]; kernel_rfl
theorem by_type_extend : typeOf (.builtin "bytearray.extend") = pure (.type "method_descriptor") := by show builtinType _ = _; rw [builtinType_eq_fast]; kernel_rfl
theorem by_slot_iter : Slot "bytearray" "__iter__" "bytearray.__iter__" :=
  .of (owner := "bytearray") (n := "__iter__") (by rw [typeLookup_type, builtinLookup_eq_fast]; kernel_rfl) (by decide +kernel) (by decide +kernel) (by decide +kernel)
    (by first | exact .inl (by decide +kernel) | exact .inr (by decide +kernel)) (by rw [isSubtype_type]; kernel_rfl)
theorem by_entry_iter : entryFor table "bytearray.__iter__" = some Builtin.«bytearray.__iter__» := by first | exact entryFor_of_fast (by kernel_rfl) | exact entryFor_of_tree (by kernel_rfl)
theorem by_args_iter (a : Value) : argsOk "bytearray.__iter__" ⟨[a], []⟩ := by unfold argsOk; kernel_rfl
theorem by_slot_next : Slot "bytearray_iterator" "__next__" "bytearray_iterator.__next__" :=
  .of (owner := "bytearray_iterator") (n := "__next__") (by rw [typeLookup_type, builtinLookup_eq_fast]; kernel_rfl) (by decide +kernel) (by decide +kernel) (by decide +kernel)
    (by first | exact .inl (by decide +kernel) | exact .inr (by decide +kernel)) (by rw [isSubtype_type]; kernel_rfl)
theorem by_slot_self : Slot "bytearray_iterator" "__iter__" "bytearray_iterator.__iter__" :=
  .of (owner := "bytearray_iterator") (n := "__iter__") (by rw [typeLookup_type, builtinLookup_eq_fast]; kernel_rfl) (by decide +kernel) (by decide +kernel) (by decide +kernel)
    (by first | exact .inl (by decide +kernel) | exact .inr (by decide +kernel)) (by rw [isSubtype_type]; kernel_rfl)
theorem by_entry_next : entryFor table "bytearray_iterator.__next__" = some Builtin.«bytearray_iterator.__next__» := by first | exact entryFor_of_fast (by kernel_rfl) | exact entryFor_of_tree (by kernel_rfl)
theorem by_entry_self : entryFor table "bytearray_iterator.__iter__" = some Builtin.«dict_keyiterator.__iter__» := entryFor_alias (id' := "dict_keyiterator.__iter__") (by kernel_rfl) rfl (by decide +kernel) (by kernel_rfl)
theorem by_args_next (a : Value) : argsOk "bytearray_iterator.__next__" ⟨[a], []⟩ := by unfold argsOk; kernel_rfl
theorem by_args_self (a : Value) : argsOk "bytearray_iterator.__iter__" ⟨[a], []⟩ := by unfold argsOk; kernel_rfl
theorem by_no_bytes : typeLookup (.type "bytearray") "__bytes__" = pure none := by rw [typeLookup_type, builtinLookup_eq_fast]; kernel_rfl
theorem by_no_index : typeLookup (.type "bytearray") "__index__" = pure none := by rw [typeLookup_type, builtinLookup_eq_fast]; kernel_rfl
theorem by_buffer : typeLookup (.type "bytearray") "__buffer__" = pure (some (.builtin "bytearray.__buffer__")) := by rw [typeLookup_type, builtinLookup_eq_fast]; kernel_rfl
theorem by_release : typeLookup (.type "bytearray") "__release_buffer__" = pure (some (.builtin "bytearray.__release_buffer__")) := by rw [typeLookup_type, builtinLookup_eq_fast]; kernel_rfl
theorem by_bind : Builtin.Bytes.bindOptional "bytearray.__init__" "bytearray" ["source", "encoding", "errors"] [] [] = pure [none, none, none] := by kernel_rfl
set_option maxRecDepth 1000000 in
set_option maxHeartbeats 4000000 in
theorem by_owner_new : ("bytearray.__new__".splitOn ".__new__").headD "" = "bytearray" := by simp +decide [String.splitOn, String.splitOnAux]
end Mine
end
theorem Mine.anew_ByteArr : True := by (w_top off); first | walk1 | trivial
-- Exc
section
open PySem PySem.W PySem.Spec PySem.Calls PyProof.Rows
set_option Elab.async false
set_option maxRecDepth 100000
set_option maxHeartbeats 8000000
namespace Mine

section
variable {prog : Program} {w : World} {A : Around} {E : Value → Shared → Prop} {s : Shared} {K : Frag} {x C : Addr} {R : Result → Shared → Prop}

theorem refuse_exc (self : Value) (C M : Addr) : refuseLoop self "__setattr__" [.ref C, .ref M, .type "Exception", .type "BaseException", .type "object"] = pure () := by
  rw [refuseLoop_ref, refuseLoop_ref]
  kernel_rfl

theorem osa_exc {ox : Obj} {od : Option Obj} {cd : ClassData} {name : Str} {tk : Tok} {v : Value} {Mi : Addr} (X : K.In s.heap) (I : InstAt s.heap x ox C od) (hc : clsIn K C = some cd)
    (hm : cd.mro = [.ref C, .ref Mi, .type "Exception", .type "BaseException", .type "object"]) (ht : takerIn K C name = some none)
    (h : ∀ b, wpAny (model prog w) A.in1 (Builtin.ObjectAttr.storeInOwnDict (.ref x) (.ref C) (.str name tk) name v b)
      (fun fin s' => match fin with | .done f => R (.ok f) s' | .again c' => c'.quiet = true ∧ codeAny (model prog w) A c' R s') (fun e s' => R (.error e) s') s) :
    codeAny (model prog w) A (.call (.builtin "object.__setattr__") ⟨[.ref x, .str name tk, v], []⟩) R s := by
  have SF := PySem.F.store_object
  have hmr : Looks (model prog w) s.heap (mroOf (.ref C)) cd.mro := (looks_clsIn X hc).andThen .now
  have sub : Looks (model prog w) s.heap (isInstance (.ref x) (.type "object")) true := by
    refine I.type.andThen (looks_mroIn X ?_)
    unfold mroIn
    rw [hc, Option.bind_some, hm]
    rfl
  refine codeAny_call_builtin SF.slot.plain SF.entry (@check_slot (model prog w) _ _ s "object.__setattr__" "object" "__setattr__" (.ref x) [.str name tk, v] [] _ SF.kind SF.split sub (SF.args (.ref x) (.str name tk) v) ?_)
  obtain ⟨attr, ha, hr⟩ := Option.bind_eq_some_iff.mp ht
  have L3 : Looks (model prog w) s.heap (Builtin.ObjectAttr.storeTaker? attr) none := by
    cases attr with
    | none => cases hr; exact .now
    | some a =>
      obtain ⟨b, hb, hb'⟩ := Option.map_eq_some_iff.mp hr
      refine (looks_takesIn X hb).andThen ?_
      cases b
      · exact .now
      · cases hb'
  rw [osa_eq, refuse_eq]
  refine wpAny_bind (wpAny_bind (I.type.here (wpAny_bind (hmr.here ?_))))
  rw [hm, refuse_exc]
  refine wpAny_pure (wpAny_bind (I.type.here (wpAny_bind ((looks_findIn X ha).here (wpAny_bind (L3.here ?_))))))
  exact h _

/-- a field of its own, stored in an exception that has no dict yet -/
theorem setAttr_exc {ox : Obj} {cd : ClassData} {name : Str} {v : Value} {Mi : Addr} {fs : Array Value} {Q : Unit → Shared → Prop} (X : K.In s.heap) (hx : s.heap.get? x = some ox) (hcls : ox.cls = .ref C) (hdi : ox.dict = none) (hda : ox.data = .fields fs) (hc : clsIn K C = some cd) (hcd : cd.hasDict = true)
    (hm : cd.mro = [.ref C, .ref Mi, .type "Exception", .type "BaseException", .type "object"]) (ht : takerIn K C name = some none)
    (hs : findIn K (.ref C) "__setattr__" = some (some (.builtin "object.__setattr__")))
    (h : ∀ h' tk dx, (∀ b o, b ≠ x → s.heap.get? b = some o → h'.get? b = some o) → h'.get? x = some { ox with dict := some dx } → s.heap.objs.size ≤ dx → Q () { s with heap := h', toks := tk }) :
    wpAny (model prog w) A (setAttr (.ref x) name v) Q E s := by
  have I : InstAt s.heap x ox C none := ⟨hx, hcls, by unfold notCls; rw [hda], by rw [hdi]; trivial⟩
  refine set_plain X I hs (osa_exc (s := { s with toks := s.toks + 1 }) X I hc hm ht fun b => ?_)
  obtain ⟨oc, odi, oda, osl⟩ := ox
  dsimp only at hcls hdi hda
  subst hcls hdi hda
  unfold Builtin.ObjectAttr.storeInOwnDict
  refine wpAny_bind (wpAny_pure (wpAny_bind ?_))
  unfold Builtin.ObjectAttr.ownDictForStores instanceDict
  refine wpAny_bind (wpAny_loadPart hx (wpAny_bind (looks_clsIn X hc _ _ _ _ (fun _ _ e => e) ?_)))
  rw [hcd, if_neg (by decide)]
  dsimp only
  rw [if_neg (show ¬ ((!true || !typeHasDict (Value.ref C)) = true) from by simp [typeHasDict])]
  refine wpAny_bind (wpAny_alloc ?_)
  have hx1 := Heap.get?_push_of_some { cls := .type "dict", data := .dict #[] } hx
  refine wpAny_bind (wpAny_update hx1 ?_)
  unfold dictMade
  refine wpAny_pure ?_
  dsimp only
  unfold Builtin.ObjectAttr.storeInDict Builtin.ObjectAttr.newKeyGuard
  refine wpAny_bind (wpAny_pure (wpAny_bind ?_))
  have hne : x ≠ s.heap.objs.size := Nat.ne_of_lt (Heap.lt_size hx)
  have D : ((s.heap.push { cls := .type "dict", data := .dict #[] }).update x fun o => { cls := o.cls, dict := some s.heap.objs.size, data := o.data, slots := o.slots }).get? s.heap.objs.size = some { cls := .type "dict", data := .dict #[] } :=
    (Heap.get?_update_other _ _ hne).trans (Heap.get?_push_size _ rfl)
  unfold nsSet
  refine wpAny_bind (wpAny_bind (wpAny_askSetting (wpAny_pure (wpAny_bind (wpAny_mkText (wpAny_bind (wpAny_loadPart D ?_)))))))
  dsimp only
  rw [aRefKeyMayBeTheName_at, if_neg (by simp)]
  refine wpAny_updatePart D ?_
  refine wpAny_bind ?_
  have D' := Heap.get?_update_self (Obj.putName name (if name.cps.isEmpty = true then 0 else reduceHash (w.params.strHash name.cps)) (Value.str name (s.toks + 1)) v) D (by rfl)
  refine wpAny_lookBehind D' ?_ ?_
  · rw [show ({ cls := .type "dict", data := .dict #[] } : Obj) = dictOf [] 0 from rfl, putName_dict]
    exact pastItsLine_dict (by simp [putL])
  · refine wpAny_pure (h _ _ s.heap.objs.size (fun b o hb e => ?_) ?_ (Nat.le_refl _))
    · have hbd : s.heap.objs.size ≠ b := Nat.ne_of_gt (Heap.lt_size e)
      rw [Heap.get?_update_other _ _ hbd, Heap.get?_update_other _ _ (Ne.symm hb)]
      exact Heap.get?_push_of_some _ e
    · rw [Heap.get?_update_other _ _ (Ne.symm hne)]
      exact Heap.get?_update_self _ hx1 rfl
end

section
variable {prog : Program} {w : World} {A : Around} {E : Value → Shared → Prop} {h : Heap} {g : Array GenState} {d : Drawn} {t : Nat} {os : OsState}
variable {nm q : Str} {C N Mi : Addr} {bs : List Value} {hdct : Bool} {sn : List Str} {sub : List Value} {ab : Bool} {col : Option Bool} {dd : Option Addr} {k0 k1 k2 k3 k5 : Option Value}

abbrev bmE (Mi : Addr) : List Value := [.ref Mi, .type "Exception", .type "BaseException", .type "object"]

theorem check_newE {M : Model} {rest : List Value} {Q : Unit → Shared → Prop} (hC : h.get? C = some (excClassObj nm q C N bs (bmE Mi) hdct sn sub ab col dd k0 k1 k2 k3 k5 "Exception.__new__"))
    (hq : Q () ⟨h, g, d, t, os⟩) : wpAny M A (checkBuiltinCall "Exception.__new__" ⟨.ref C :: rest, []⟩) Q E ⟨h, g, d, t, os⟩ := by
  have F := PySem.F.excBase_Exception
  have hcont : (Value.ref C :: bmE Mi).contains (.type "Exception") = true := by simp
  have hstar := F.noStar
  simp only [checkBuiltinCall, F.newKind, F.newSplit, F.newRow]
  repeat (first | refine wpAny_loadPart_at hC ?_ | (refine wpAny_isSubtype_exc hC ?_; rw [hcont]) | refine wpAny_staticBase_exc hC ?_ | refine wpAny_madeBy_exc hC ?_ | simp only [bne_self_eq_false, Bool.false_eq_true, if_false] | wp_step)
  exact hq

theorem code_newE {R : Result → Shared → Prop} {rest : List Value} (hC : h.get? C = some (excClassObj nm q C N bs (bmE Mi) hdct sn sub ab col dd k0 k1 k2 k3 k5 "Exception.__new__"))
    (hq : R (.ok (.ret (.ref (h.objs.size + 1)))) ⟨(h.push { cls := .type "tuple", data := .seq rest.toArray }).push
      { cls := .ref C, data := .fields #[.ref h.objs.size, .none, .none, .none, .bool false, .none] }, g, d, t, os⟩) (hrest : rest.length ≤ sizeLine := by size_fits) :
    codeAny (model prog w) A (.builtin "Exception.__new__" ⟨.ref C :: rest, []⟩) R ⟨h, g, d, t, os⟩ := by
  have F := PySem.F.excBase_Exception
  have hends := F.ends
  have hcB : (Value.ref C :: bmE Mi).contains (.type "Exception") = true := by simp
  have hcA : (Value.ref C :: bmE Mi).contains (.type "AttributeError") = false := by simp
  have hcN : (Value.ref C :: bmE Mi).contains (.type "NameError") = false := by simp
  refine codeAny_builtinAt F.entry ?_
  unfold Builtin.«BaseException.__new__»
  refine PySem.wpAt_bind ?_
  show PySem.wpAt _ _ _ (stack >>= _) _ _ _
  refine PySem.wpAt_bind (PySem.wpAt_stack fun p below => PySem.wpAt_of_wpAny ?_)
  wp_walk
  refine PySem.wpAt_of_wpAny ?_
  rw [F.owner]
  repeat (first | with_reducible refine wpAny_madeHere_exc F.canon hC ?_ | with_reducible refine wpAny_loadPart_at hC ?_ | (with_reducible refine wpAny_isSubtype_exc hC ?_; first | rw [hcB] | rw [hcA] | rw [hcN]) | wp_step)
  show R _ _
  rw [Heap.size_push]
  exact hq

theorem type_call_excE {K : Frag} {rest : List Value} {fI : Addr} {oI : Obj} {Q : Fin → Shared → Prop} (X : K.In h)
    (hC : h.get? C = some (excClassObj nm q C N bs (bmE Mi) hdct sn sub ab col dd k0 k1 k2 k3 k5 "Exception.__new__"))
    (hi : findIn K (.ref C) "__init__" = some (some (.ref fI))) (hfI : h.get? fI = some oI) (hfc : oI.cls = .type "function")
    (hq : ∀ h' e t', (∀ b o, h.get? b = some o → h'.get? b = some o) → h.get? e = none → h'.get? e = some { cls := .ref C, data := .fields #[.ref t', .none, .none, .none, .bool false, .none] } → h.get? t' = none → h'.get? t' = some { cls := .type "tuple", data := .seq rest.toArray } →
      wpAny (model prog w) A (call (.ref fI) (.ref e :: rest)) (fun r s' => r = .none ∧ Q (.done (.ret (.ref e))) s') E ⟨h', g, d, t, os⟩) (hrest : rest.length ≤ sizeLine := by size_fits) :
    wpAny (model prog w) A (Builtin.«type.__call__» ⟨.ref C :: rest, []⟩) Q E ⟨h, g, d, t, os⟩ := by
  have F := PySem.F.excBase_Exception
  repeat (first | with_reducible refine wpAny_loadPart_at hC ?_ | with_reducible refine wpAny_madeBy_exc hC ?_ | wp_step)
  refine codeAny_call_builtin_code (Code.quiet_builtin _ F.quiet) (check_newE hC ?_)
  refine code_newE hC ?_ hrest
  show wpAny _ _ _ _ _ _
  have hC₁ := Heap.get?_push_of_some { cls := .ref C, data := .fields #[.ref h.objs.size, .none, .none, .none, .bool false, .none] }
    (Heap.get?_push_of_some { cls := .type "tuple", data := .seq rest.toArray } hC)
  have hfI₁ := Heap.get?_push_of_some { cls := .ref C, data := .fields #[.ref h.objs.size, .none, .none, .none, .bool false, .none] }
    (Heap.get?_push_of_some { cls := .type "tuple", data := .seq rest.toArray } hfI)
  have hget : ((h.push { cls := .type "tuple", data := .seq rest.toArray }).push
      { cls := .ref C, data := .fields #[.ref h.objs.size, .none, .none, .none, .bool false, .none] }).get? (h.objs.size + 1) = some
      { cls := .ref C, data := .fields #[.ref h.objs.size, .none, .none, .none, .bool false, .none] } := by heap_get
  have hcC : (Value.ref C :: bmE Mi).contains (.ref C) = true := by simp
  have X₁ : K.In ((h.push { cls := .type "tuple", data := .seq rest.toArray }).push { cls := .ref C, data := .fields #[.ref h.objs.size, .none, .none, .none, .bool false, .none] }) :=
    X.keeps fun b o e => Heap.get?_push_of_some _ (Heap.get?_push_of_some _ e)
  unfold isInstance
  repeat (first | with_reducible refine wpAny_loadPart_at hget ?_ | (with_reducible refine wpAny_isSubtype_exc hC₁ ?_; rw [hcC]) | wp_step)
  show wpAny _ _ (typeLookup (.ref C) _) _ _ _
  refine looks_findIn X₁ hi _ _ _ _ (fun _ _ e => e) ?_
  refine wpAny_holding (wpAny_bind ?_)
  unfold bindSpecial
  refine wpAny_bind (wpAny_typeOf (T := "function") ⟨_, hfI₁, hfc⟩ ?_)
  rw [if_pos (by decide)]
  refine wpAny_pure (wpAny_bind (wpAny_mono (hq _ (h.objs.size + 1) h.objs.size (fun b o hb => Heap.get?_push_of_some _ (Heap.get?_push_of_some _ hb)) (Heap.get?_none_of_le (Nat.le_succ _)) hget (Heap.get?_none_of_le (Nat.le_refl _)) ?_) (fun r s' hr => ?_) fun _ _ x => x))
  · exact Heap.get?_push_of_some _ (Heap.get?_push_at rfl rfl)
  · obtain ⟨rfl, hQ⟩ := hr
    wp_walk
    exact hQ

theorem call_excE {K : Frag} {rest : List Value} {fI : Addr} {oI : Obj} {Q : Value → Shared → Prop} (X : K.In h)
    (hC : h.get? C = some (excClassObj nm q C N bs (bmE Mi) hdct sn sub ab col dd k0 k1 k2 k3 k5 "Exception.__new__"))
    (hi : findIn K (.ref C) "__init__" = some (some (.ref fI))) (hfI : h.get? fI = some oI) (hfc : oI.cls = .type "function")
    (hq : ∀ h' e t', (∀ b o, h.get? b = some o → h'.get? b = some o) → h.get? e = none → h'.get? e = some { cls := .ref C, data := .fields #[.ref t', .none, .none, .none, .bool false, .none] } → h.get? t' = none → h'.get? t' = some { cls := .type "tuple", data := .seq rest.toArray } →
      wpAny (model prog w) (A.under (.builtin "type.__call__" ⟨.ref C :: rest, []⟩)) (call (.ref fI) (.ref e :: rest)) (fun r s' => r = .none ∧ Q (.ref e) s') E ⟨h', g, d, t, os⟩) (hrest : rest.length ≤ sizeLine := by size_fits) :
    wpAny (model prog w) A (call (.ref C) rest) Q E ⟨h, g, d, t, os⟩ := by
  have f1 := tc_lookup
  have f2 := tc_bind (.ref C)
  have hT : (⟨h, g, d, t, os⟩ : Shared).TypeIs (.ref C) "type" := ⟨_, hC, rfl⟩
  refine wpAny_call (codeAny_of_tree ?_)
  show wpAny _ _ (callAny (.ref C) _) _ _ _
  repeat (any_goals (first | assumption | with_reducible refine wpAny_loadPart_at hC ?_ | wp_step))
  refine ⟨rfl, ?_⟩
  refine codeAny_call_builtin_at (Code.quiet_builtin _ (by decide +kernel)) entry_typeCall (wpAny_check_type_call_sub hC (type_call_excE (hrest := hrest) X hC hi hfI hfc fun h' e t' k1 k2 k3 k4 k5 => ?_))
  exact hq h' e t' k1 k2 k3 k4 k5
end
end Mine
end
theorem Mine.anew_Exc : True := by (w_top off); first | walk1 | trivial
-- Grow
section
open PySem PySem.W PySem.Spec PySem.Calls PyProof.Rows
set_option Elab.async false
set_option maxRecDepth 100000
set_option maxHeartbeats 8000000
namespace Mine

section
variable {prog : Program} {w : World} {A : Around} {E : Value → Shared → Prop} {s : Shared} {env : Env} {h₀ : Heap} {x : Str} {body : List Stmt} {Q : Flow → Shared → Prop}
/-- a turn's end: the ledger may have grown -/
def GrowEnd (h₀ : Heap) (L : Addr) (own : List (Addr × Obj)) (J : (Str → Option Value) → List (Addr × Obj) → Prop) (s₁ : Shared) (Q : Flow → Shared → Prop) (f : Flow) (s₂ : Shared) : Prop :=
  match f with
  | .ret v => Q (.ret v) s₂
  | .brk => Q .next s₂
  | _ => ∃ h' tk m' news', s₂ = { s₁ with heap := h', toks := tk } ∧ Fr h₀ L h' m' ∧ News h₀ L h' (own ++ news') ∧ (∀ p ∈ news', ∀ q ∈ own, p.1 ≠ q.1) ∧ J m' news'
theorem ends_at' {α : Type} {M : Model} {A : Around} {E : Value → Shared → Prop} {s : Shared} {t : Sem α} {P : α → Shared → Prop} (h : wpAny M A t (fun a s' => EndAt M A E (P a s') s') E s) : wpAny M A t P E s := ends_at h
theorem grow_range {r : Addr} {a₀ b₀ : Int} {t₀ u₀ v₀ : Tok} {n : Nat} {m₀ : Str → Option Value} {news : List (Addr × Obj)} (J : Nat → (Str → Option Value) → List (Addr × Obj) → Prop)
    (hh : A.handled = none) (hr : IsRange s.heap r a₀ b₀ 1 t₀ u₀ v₀) (hsmall : Builtin.Range.small a₀ b₀ 1 = true) (hn : Builtin.Range.rangeSize a₀ b₀ 1 = (n : Int)) (F : Fr h₀ env.locals s.heap m₀) (N : News h₀ env.locals s.heap news) (hj : J 0 m₀ news)
    (turn : ∀ (i : Nat) m₁ news₁ I oI t h tk, i < n → J i m₁ news₁ → (∀ p ∈ news₁, p.1 ≠ I) → Fr h₀ env.locals h (fun y => if y = x then some (.int (a₀ + (i : Int)) t) else m₁ y) → News h₀ env.locals h ((I, oI) :: news₁) →
      wpAny (model prog w) A (execs body env) (fun f s₂ => EndAt (model prog w) A E (GrowEnd h₀ env.locals [(I, oI)] (J (i + 1)) { s with heap := h, toks := tk } Q f s₂) s₂) E { s with heap := h, toks := tk })
    (done : ∀ m₁ news₁ h tk, J n m₁ news₁ → Fr h₀ env.locals h m₁ → News h₀ env.locals h news₁ → Q .next { s with heap := h, toks := tk }) :
    wpAny (model prog w) A (pyIter (.ref r)) (fun it s₂ => LoopAtV prog w A h₀ env x body Q E it s₂) E s := by
  refine wpAny_pyIter_range hr hsmall ?_
  have W : Walks prog w A s.heap.objs.size [s.heap.objs.size] [s.heap.objs.size] n (fun i v => i < n ∧ ∃ t, v = .int (a₀ + i * 1) t)
      (fun i h => IsRangeIter h s.heap.objs.size (a₀ + (i : Nat) * 1) ((n : Int) - (i : Nat)) 1) := (Walks.range hh _ a₀ 1 n).bound
  have hI₀ := next_is_new F
  refine ⟨s.heap.objs.size, _, _, n, _, _, m₀, news, J, rfl, W, ?_, ?_, ?_, ?_, F.push _, fun p hp => ⟨Heap.get?_push_of_some _ (N p hp).1, (N p hp).2⟩, hj, ?_, ?_⟩
  · intro hm
    exact absurd F.ns.lt ((List.mem_singleton.mp hm) ▸ Nat.lt_irrefl _)
  · intro b hb
    rw [List.mem_singleton.mp hb]
    exact hI₀
  · intro p hp hI
    exact absurd (Heap.lt_size (N p hp).1) ((List.mem_singleton.mp hI) ▸ Nat.lt_irrefl _)
  · show IsRangeIter _ _ _ _ _; rw [hn]; simpa using Heap.get?_push_size _ rfl
  · rintro i v m₁ news₁ s₁ own ⟨h, tk, rfl⟩ hi ⟨_, t, rfl⟩ hJ hw hown hget hall st F₁ N₁
    have e1 : a₀ + (i : Int) * 1 = a₀ + (i : Int) := by omega
    rw [e1] at F₁
    obtain ⟨oI, stI⟩ : ∃ o, h.get? s.heap.objs.size = some o := ⟨_, st⟩
    have hmem := hall _ (List.mem_singleton.mpr rfl) hI₀ _ stI
    have own1 : ∀ p ∈ own, p = (s.heap.objs.size, oI) := fun p hp => by
      have q1 := List.mem_singleton.mp (hown p hp)
      have q2 := hget p hp
      rw [q1] at q2
      have q3 := stI.symm.trans q2
      obtain ⟨pa, po⟩ := p
      dsimp only at q1 q3
      rw [q1, Option.some.inj q3]
    refine wpAny_mono (ends_at' (turn i m₁ news₁ s.heap.objs.size oI t h tk hi hJ (fun p hp q => hw p hp (by rw [q]; exact List.mem_singleton.mpr rfl)) F₁ fun p hp => ?_)) (fun f s₂ h₂ => ?_) fun _ _ z => z
    · rcases List.mem_cons.mp hp with rfl | hp
      · exact N₁ _ (List.mem_append_left _ hmem)
      · exact N₁ _ (List.mem_append_right _ hp)
    · have nx : (∃ h' tk' m' news', s₂ = { s with heap := h', toks := tk' } ∧ Fr h₀ env.locals h' m' ∧ News h₀ env.locals h' ([(s.heap.objs.size, oI)] ++ news') ∧ (∀ p ∈ news', ∀ q ∈ [(s.heap.objs.size, oI)], p.1 ≠ q.1) ∧ J (i + 1) m' news') →
          LoopStepU h₀ env.locals [s.heap.objs.size] own (J (i + 1)) { s with heap := h, toks := tk } .next s₂ := by
        rintro ⟨h', tk', m', news', rfl, F', N', off, hJ'⟩
        refine ⟨rfl, h', tk', m', news', rfl, F', fun p hp => ?_, fun p hp hq => ?_, hJ'⟩
        · rcases List.mem_append.mp hp with hp | hp
          · rw [own1 p hp]; exact N' _ (.head _)
          · exact N' _ (.tail _ hp)
        · exact off p hp _ (.head _) (List.mem_singleton.mp hq)
      cases f with
      | ret v => exact .ret h₂
      | brk => exact .brk h₂
      | next => exact .next (nx h₂)
      | cont => exact .cont (nx h₂)
  · rintro h' tk m' news' F' N' _ hJ
    exact done m' news' h' tk hJ F' N'
/-- over enumerate of a list that stands below the frame -/
def GrowEnumAt (prog : Program) (w : World) (A : Around) (h₀ : Heap) (env : Env) (xi xc : Str) (body : List Stmt) (Q : Flow → Shared → Prop) (E : Value → Shared → Prop) (xv : Value) (s₁ : Shared) : Prop :=
  ∃ (e it l : Addr) (vs : List Value) (m : Str → Option Value) (news : List (Addr × Obj)) (J : Nat → (Str → Option Value) → List (Addr × Obj) → Prop), xv = .ref e ∧ h₀.IsList l vs.toArray ∧ IsEnum s₁.heap e it 0 .none ∧ s₁.heap.IsListIter it l 0 ∧ e ≠ it ∧ h₀.get? e = none ∧ h₀.get? it = none ∧
    env.locals ≠ e ∧ env.locals ≠ it ∧ Fr h₀ env.locals s₁.heap m ∧ News h₀ env.locals s₁.heap news ∧ (∀ p ∈ news, p.1 ≠ e ∧ p.1 ≠ it) ∧ J 0 m news ∧
    (∀ (i : Nat) v t m₁ news₁ oe oi h tk, vs[i]? = some v → J i m₁ news₁ → (∀ p ∈ news₁, p.1 ≠ e ∧ p.1 ≠ it) → Fr h₀ env.locals h (fun y => if y = xc then some v else if y = xi then some (.int (i : Int) t) else m₁ y) → News h₀ env.locals h ((e, oe) :: (it, oi) :: news₁) →
      wpAny (model prog w) A (execs body env) (GrowEnd h₀ env.locals [(e, oe), (it, oi)] (J (i + 1)) { s₁ with heap := h, toks := tk } Q) E { s₁ with heap := h, toks := tk }) ∧
    (∀ m₁ news₁ h tk, J vs.length m₁ news₁ → Fr h₀ env.locals h m₁ → News h₀ env.locals h news₁ → Q .next { s₁ with heap := h, toks := tk })
theorem For_enumG {xi xc : Str} {pk pv pt pos : Pos} {x1 : Nat} {iter : Expr} (h₀ : Heap) (hh : A.handled = none)
    (hxi : env.kindOf xi = some .local) (hxc : env.kindOf xc = some .local)
    (hp : (env.scope.kind == .class || (env.scope.kind == .module && env.locals != env.globals)) = false)
    (h : wpAny (model prog w) A (eval iter env) (GrowEnumAt prog w A h₀ env xi xc body Q E) E s)
    (hs : ∀ x, foldedSetIterable iter env x = pure x)
    (hE : PassesOwn (model prog w) A env E := by passes_own) :
    wpAny (model prog w) A (exec (.For (.Tuple [.Name xi pk, .Name xc pv] x1 pt) iter body [] pos) env) Q E s := by
  refine wpAny_For (wpAny_mono h (fun xv s₁ h₁ => ?_) fun _ _ e => e) hs
  obtain ⟨e, it, l, vs, m, news, J, rfl, hl, hEn, hit, hei, he₀, hi₀, hLe, hLi, F, N, off, hJ, step, hQ⟩ := h₁
  refine wpAny_pyIter_enum hEn ?_
  have hle : l ≠ e := fun q => by obtain ⟨o, z, _⟩ := hl; rw [q, he₀] at z; cases z
  have hli : l ≠ it := fun q => by obtain ⟨o, z, _⟩ := hl; rw [q, hi₀] at z; cases z
  have W := WalksT.enumerate (prog := prog) (w := w) hh e it l hei hle hli vs.toArray
  have fr2 : ∀ {h h' : Heap} {m'}, Fr h₀ env.locals h m' → (∀ b o, b ∉ [e, it] → h.get? b = some o → h'.get? b = some o) → Fr h₀ env.locals h' m' := fun F hk =>
    ⟨F.ns.at' fun o z => hk _ o (by simp [hLe, hLi]) z, fun b o z => hk b o (fun hm => by
      rcases List.mem_cons.mp hm with q | q
      · rw [q, he₀] at z; cases z
      · rw [List.mem_singleton.mp q, hi₀] at z; cases z) (F.keep b o z), F.above⟩
  refine codeAny_forLoop_any
    (fun k s' => ∃ h' tk m' news' i, s' = { s₁ with heap := h', toks := tk } ∧ ((∃ old, IsEnum h' e it (i : Nat) old) ∧ h'.IsListIter it l i ∧ h'.IsList l vs.toArray) ∧ Fr h₀ env.locals h' m' ∧ News h₀ env.locals h' news' ∧ (∀ p ∈ news', p.1 ≠ e ∧ p.1 ≠ it) ∧ J i m' news' ∧ i ≤ vs.length ∧ k = vs.length + 1 - i) ?_ (vs.length + 1)
    ⟨s₁.heap, s₁.toks, m, news, 0, rfl, ⟨⟨_, hEn⟩, hit, hl.at fun o z => F.keep _ o z⟩, F, N, off, hJ, Nat.zero_le _, rfl⟩
  rintro k s' ⟨H, tk, m', news', i, rfl, hst', F', N', off', hJ', hi, rfl⟩
  by_cases hlt : i < vs.length
  · refine W.item i _ _ _ (by simpa using hlt) hst' fun T vals h₁ tk₁ hPt _ hT hMid hk₁ => ?_
    obtain ⟨t, v, hv, rfl⟩ := hPt
    have hv' : vs[i]? = some v := by simpa using hv
    refine W.go _ x1 pt i T _ _ _ hMid fun h₂ hst₂ hk₂ => ?_
    have ht₂ : h₂.IsTuple T #[.int (i : Int) t, v] := hT.at fun o e => hk₂ T o (W.apart i T h₁ hMid) e
    refine wpAny_assign_Tuple hh ht₂ rfl rfl fun h₃ hx₃ => ?_
    replace hx₃ : Heap.ExtBut h₂.objs.size h₂ h₃ := hx₃
    have up₃ : ∀ b o, h₂.get? b = some o → h₃.get? b = some o := fun b o x => hx₃ b o (Nat.ne_of_lt (Heap.lt_size x)) x
    have up13 : ∀ b o, b ∉ [e, it] → H.get? b = some o → h₃.get? b = some o := fun b o hb x => up₃ b o (hk₂ b o hb (hk₁ b o hb x))
    have F₃ := fr2 F' up13
    have N₃ : News h₀ env.locals h₃ news' := fun p hp => ⟨up13 _ _ (by simp [(off' p hp).1, (off' p hp).2]) (N' p hp).1, (N' p hp).2⟩
    show wpAny _ A (do holding [v] (assign (.Name xi pk) env (.int (i : Int) t)); do holding [] (assign (.Name xc pv) env v); pure ()) _ _ _
    refine wpAny_bind (wpAny_holding (wpAny_assign_Name (wpAny_storeName_local hxi F₃.ns (fun h₄ hn₄ hs₄ => ?_) hp)))
    replace hs₄ : Heap.SameBut env.locals h₃ h₄ := hs₄
    have F₄ := F₃.set hn₄ hs₄
    refine wpAny_bind (wpAny_holding (wpAny_assign_Name (wpAny_storeName_local hxc F₄.ns (fun h₅ hn₅ hs₅ => wpAny_pure ?_) hp)))
    replace hs₅ : Heap.SameBut env.locals h₄ h₅ := hs₅
    have F₅ := F₄.set hn₅ hs₅
    have N₅ : News h₀ env.locals h₅ news' := (N₃.set hs₄).set hs₅
    obtain ⟨⟨oldI, hE₂⟩, ⟨oit, zit, rit⟩, hl₂⟩ := hst₂
    have up25 : ∀ b o, b ≠ env.locals → h₂.get? b = some o → h₅.get? b = some o := fun b o hb z => hs₅.extBut b o hb (hs₄.extBut b o hb (up₃ b o z))
    have zE := up25 e _ (Ne.symm hLe) hE₂
    have zI := up25 it _ (Ne.symm hLi) zit
    obtain ⟨oE, zE', backE⟩ : ∃ o, h₅.get? e = some o ∧ ∀ h' : Heap, h'.get? e = some o → IsEnum h' e it ((i + 1 : Nat) : Int) oldI := ⟨_, zE, fun h' z => z⟩
    have fin : ∀ s₃, (∃ h' tk' m₂ news₂, s₃ = { s₁ with heap := h', toks := tk' } ∧ Fr h₀ env.locals h' m₂ ∧ News h₀ env.locals h' ([(e, oE), (it, oit)] ++ news₂) ∧ (∀ p ∈ news₂, ∀ q ∈ [(e, oE), (it, oit)], p.1 ≠ q.1) ∧ J (i + 1) m₂ news₂) →
        ∃ m_1, m_1 < vs.length + 1 - i ∧ ∃ h' tk m' news' i, s₃ = { s₁ with heap := h', toks := tk } ∧ ((∃ old, IsEnum h' e it (i : Nat) old) ∧ h'.IsListIter it l i ∧ h'.IsList l vs.toArray) ∧ Fr h₀ env.locals h' m' ∧ News h₀ env.locals h' news' ∧ (∀ p ∈ news', p.1 ≠ e ∧ p.1 ≠ it) ∧ J i m' news' ∧ i ≤ vs.length ∧ m_1 = vs.length + 1 - i := by
      rintro s₃ ⟨h', tk', m₂, news₂, rfl, F₆, N₆, off₆, hJ₆⟩
      exact ⟨vs.length + 1 - (i + 1), by omega, h', tk', m₂, news₂, i + 1, rfl, ⟨⟨oldI, backE _ (N₆ _ (.head _)).1⟩, ⟨oit, (N₆ _ (.tail _ (.head _))).1, rit⟩, hl.at fun o z => F₆.keep _ o z⟩, F₆, fun p hp => N₆ p (.tail _ (.tail _ hp)),
        fun p hp => ⟨off₆ p hp _ (.head _), off₆ p hp _ (.tail _ (.head _))⟩, hJ₆, hlt, rfl⟩
    refine wpAny_mono (wpAny_passesOwn hE (step i v t m' news' oE oit h₅ _ hv' hJ' off' F₅ fun p hp => ?_)) (fun f s₃ h₆ => ?_) fun _ _ e => e
    · rcases List.mem_cons.mp hp with rfl | hp
      · exact ⟨zE', Ne.symm hLe, he₀⟩
      · rcases List.mem_cons.mp hp with rfl | hp
        · exact ⟨zI, Ne.symm hLi, hi₀⟩
        · exact N₅ p hp
    · cases f with
      | ret v => exact h₆
      | brk => exact h₆
      | next => exact fin s₃ h₆
      | cont => exact fin s₃ h₆
  · have hin : i = vs.length := by omega
    subst hin
    refine W.done _ _ _ (by simpa using hst') fun h₁ tk₁ hk₁ => wpAny_execs_nil ?_
    exact hQ m' news' h₁ tk₁ hJ' (fr2 F' hk₁) fun p hp => ⟨hk₁ _ _ (by simp [(off' p hp).1, (off' p hp).2]) (N' p hp).1, (N' p hp).2⟩
theorem For_enumF {xi xc : Str} {pk pv pt pos : Pos} {x1 : Nat} {iter : Expr} {m : Str → Option Value} (_F : Fr h₀ env.locals s.heap m) (hh : A.handled = none)
    (hxi : env.kindOf xi = some .local) (hxc : env.kindOf xc = some .local)
    (hp : (env.scope.kind == .class || (env.scope.kind == .module && env.locals != env.globals)) = false)
    (h : wpAny (model prog w) A (eval iter env) (GrowEnumAt prog w A h₀ env xi xc body Q E) E s)
    (hs : ∀ x, foldedSetIterable iter env x = pure x := by intro _; rfl)
    (hE : PassesOwn (model prog w) A env E := by passes_own) :
    wpAny (model prog w) A (exec (.For (.Tuple [.Name xi pk, .Name xc pv] x1 pt) iter body [] pos) env) Q E s := For_enumG h₀ hh hxi hxc hp h hs
theorem grow_enum_call {xi xc : Str} {l : Addr} {vs : List Value} {m : Str → Option Value} {news : List (Addr × Obj)} (J : Nat → (Str → Option Value) → List (Addr × Obj) → Prop)
    (F : Fr h₀ env.locals s.heap m) (N : News h₀ env.locals s.heap news) (hl : h₀.IsList l vs.toArray) (hJ : J 0 m news)
    (turn : ∀ (i : Nat) v t e oe it oi m₁ news₁ h tk, vs[i]? = some v → J i m₁ news₁ → (∀ p ∈ news₁, p.1 ≠ e ∧ p.1 ≠ it) → Fr h₀ env.locals h (fun y => if y = xc then some v else if y = xi then some (.int (i : Int) t) else m₁ y) → News h₀ env.locals h ((e, oe) :: (it, oi) :: news₁) →
      wpAny (model prog w) A (execs body env) (fun f s₂ => EndAt (model prog w) A E (GrowEnd h₀ env.locals [(e, oe), (it, oi)] (J (i + 1)) { s with heap := h, toks := tk } Q f s₂) s₂) E { s with heap := h, toks := tk })
    (done : ∀ m₁ news₁ h tk, J vs.length m₁ news₁ → Fr h₀ env.locals h m₁ → News h₀ env.locals h news₁ → Q .next { s with heap := h, toks := tk }) :
    wpAny (model prog w) A (call (.type "enumerate") [.ref l]) (GrowEnumAt prog w A h₀ env xi xc body Q E) E s := by
  refine call_enumerate_list (hl.at fun o e => F.keep _ o e) fun h' he hit hsz' hk => ?_
  have fresh : ∀ b, s.heap.objs.size ≤ b → h₀.get? b = none := fun b hb => by
    cases e : h₀.get? b with
    | none => rfl
    | some o' => exact absurd (Heap.lt_size (F.keep b o' e)) (Nat.not_lt.mpr hb)
  have hL := F.ns.lt
  exact ⟨_, _, l, vs, m, news, J, rfl, hl, he, hit, Nat.succ_ne_self _, fresh _ (Nat.le_succ _), fresh _ (Nat.le_refl _), Nat.ne_of_lt (Nat.lt_succ_of_lt hL), Nat.ne_of_lt hL, F.keeps hk, N.grown hk,
    fun p hp => ⟨Nat.ne_of_lt (Nat.lt_succ_of_lt (Heap.lt_size (N p hp).1)), Nat.ne_of_lt (Heap.lt_size (N p hp).1)⟩, hJ,
    fun i v t m₁ news₁ oe oi h tk a b c F1 N1 => ends_at' (turn i v t _ oe _ oi m₁ news₁ h tk a b c F1 N1), done⟩
end
end Mine
end
theorem Mine.anew_Grow : True := by (w_top off); first | walk1 | trivial
-- ByteUse
section
open PySem PySem.W PySem.Spec PySem.Calls PyProof.Rows
set_option Elab.async false
set_option maxRecDepth 100000
set_option maxHeartbeats 8000000
namespace Mine

abbrev baObj (b : Array UInt8) : Obj := { cls := .type "bytearray", data := .bytearray b }
section
variable {prog : Program} {w : World} {A : Around} {E : Value → Shared → Prop} {s : Shared} {R : Result → Shared → Prop}
theorem codeC_builtin {id : String} {args : Args} {b : Builtin} (hd : dirtyC (.builtin id args) = false) (hb : entryFor table id = some b)
    (h : wpC (model prog w) (A.under (.builtin id args)) (b args)
      (fun fin s' => match fin with | .done f => R (.ok f) s' | .again c' => c'.quiet = true ∧ codeC (model prog w) A c' R s') (fun e s' => R (.error e) s') s) :
    codeC (model prog w) A (.builtin id args) R s := by
  refine codeC_tree hd ?_
  show wpC _ _ (match entryFor table id with | some b => b args | none => unsupported ((withoutEnding? id "#data").getD id)) _ _ s
  rw [hb]; exact h
theorem codeC_call_builtin {id : String} {args : Args} {b : Builtin} (hq : plainId id = true) (hd : dirtyC (.builtin id args) = false) (hb : entryFor table id = some b)
    (hc : wpAny (model prog w) A.in1 (checkBuiltinCall id args) (fun _ s₁ => s₁ = s) (fun e s' => R (.error e) s') s)
    (h : wpC (model prog w) A.in1 (b args)
      (fun fin s' => match fin with | .done f => R (.ok f) s' | .again c' => c'.quiet = true ∧ codeC (model prog w) A c' R s') (fun e s' => R (.error e) s') s) :
    codeC (model prog w) A (.call (.builtin id) args) R s := by
  refine codeC_tree rfl ?_
  show wpC _ A.in1 (do checkBuiltinCall id args; again (.builtin id args)) _ _ s
  refine wpC_then hc fun _ s₁ e => ?_
  subst e
  refine wpC_pure ⟨plainId_quiet hq _, codeC_builtin hd hb ?_⟩
  rw [Around.under_plainId hq _]
  exact h
theorem codeAny_new_ba {Q₁ : Value → Shared → Prop} (h : Q₁ (.ref s.heap.objs.size) { s with heap := s.heap.push (baObj #[]) }) :
    codeAny (model prog w) A (.call (.builtin "bytearray.__new__") ⟨[.type "bytearray"], []⟩) (wants Q₁ E) s := by
  refine codeAny_of_tree ?_
  show wpAny _ A.in1 (do checkBuiltinCall "bytearray.__new__" ⟨[.type "bytearray"], []⟩; again (.builtin "bytearray.__new__" ⟨[.type "bytearray"], []⟩)) _ _ s
  refine wpAny_bind (wpAny_of_eq by_newCall (wpAny_pure ⟨plainId_quiet by_plain_new _, codeAny_builtin_stack by_entry_new rfl fun p st => ?_⟩))
  rw [Around.under_plainId by_plain_new _]
  have hown := by_owner_new
  have hsub : isSubtype (.type "bytearray") (.type "bytearray") = pure true := F.sub_bytearray_bytearray
  obtain ⟨hp, g, d, tk, os⟩ := s
  simp only [hown]
  wp_walk
  exact h
theorem ba_type {f : Addr} {b : Array UInt8} (hf : s.heap.get? f = some (baObj b)) : s.TypeIs (.ref f) "bytearray" := ⟨_, hf, rfl⟩
theorem wpAny_own_ba {f : Addr} {b : Array UInt8} {Q : Bool → Shared → Prop} (hf : s.heap.get? f = some (baObj b)) (h : Q false s) :
    wpAny (model prog w) A (Builtin.Bytes.ownRelease (.ref f)) Q E s := by
  have key : ∀ x : String, x = "bytearray" → ∀ {Q : Bool → Shared → Prop}, Q true s → wpAny (model prog w) A (isInstance (.ref f) (.type x)) Q E s := fun x hx Q q => by
    rw [hx]
    exact wpAny_isInstance (ba_type hf) F.sub_bytearray_bytearray q
  unfold Builtin.Bytes.ownRelease Builtin.Bytes.slotIsOwn
  refine wpAny_bind (wpAny_bind (wpAny_specialOf (ba_type hf) by_release ?_))
  dsimp only
  split
  · rename_i hx
    exact absurd hx (by decide +kernel)
  · exact key _ (by decide +kernel) (wpAny_pure h)
theorem wpAny_write_ba {f : Addr} {b c : Array UInt8} {g : Array UInt8 → Array UInt8} {Q : Unit → Shared → Prop} (hf : s.heap.get? f = some (baObj b)) (hg : g b = c) (hz : c.size ≤ sizeLine)
    (h : ∀ h', h'.get? f = some (baObj c) → Heap.SameBut f s.heap h' → Q () { s with heap := h' }) :
    wpAny (model prog w) A (Builtin.Bytes.write (.ref f) g) Q E s := by
  show wpAny _ _ (updateBytearray f g) _ _ _
  unfold updateBytearray
  refine wpAny_bind (wpAny_load hf ?_)
  show wpAny _ _ (update f (Obj.mapBytearray g) >>= fun _ => lookBehind f) _ _ _
  refine wpAny_bind (wpAny_update hf ?_)
  have h2 : (s.heap.update f (Obj.mapBytearray g)).get? f = some (baObj c) := by
    rw [← hg]
    exact Heap.get?_update_self (Obj.mapBytearray g) hf rfl
  refine wpAny_lookBehind h2 ?_ (h _ h2 (Heap.SameBut.update ..))
  show (if c.size > sizeLine then some "bytearray:memory" else none) = none
  rw [if_neg (Nat.not_lt.mpr hz)]
theorem wpC_exports_ba {f : Addr} {b : Array UInt8} {Q : Bool → Shared → Prop} (hf : s.heap.get? f = some (baObj b)) (h : Q false s) :
    wpC (model prog w) A (Builtin.Bytes.exported (.ref f) <||> (do return (← Builtin.Bytes.exportsOf (.ref f)) > 0)) Q E s := by
  refine wpC_bind (wpC_exported ?_)
  show wpC _ _ (Builtin.Bytes.exportsOf (.ref f) >>= fun n => pure (decide (n > 0))) _ _ _
  refine wpC_any (wpAny_bind ?_)
  show wpAny _ _ (load f >>= _) _ _ _
  exact wpAny_bind (wpAny_load hf (wpAny_pure (wpAny_pure h)))
theorem wpC_init_ba {f : Addr} {Q : Fin → Shared → Prop} (hf : s.heap.get? f = some (baObj #[]))
    (h : ∀ h', h'.get? f = some (baObj #[]) → Heap.SameBut f s.heap h' → Q (.done (.ret .none)) { s with heap := h' }) :
    wpC (model prog w) A (Builtin.«bytearray.__init__» ⟨[.ref f], []⟩) Q E s := by
  unfold Builtin.«bytearray.__init__»
  refine wpC_then (P := fun b s₁ => b = false ∧ s₁ = s) (wpAny_own_ba hf ⟨rfl, rfl⟩) ?_
  rintro _ _ ⟨rfl, rfl⟩
  refine wpC_if_false rfl ?_
  refine wpC_bind (wpC_of_eq by_bind ?_)
  refine wpC_bind (wpC_of_eq (a := ()) rfl ?_)
  refine wpC_bind (wpC_of_eq (a := ()) rfl ?_)
  refine wpC_bind (wpC_exports_ba hf ?_)
  refine wpC_if_false rfl ?_
  refine wpC_bind (wpC_any (wpAny_write_ba hf rfl (Nat.zero_le _) fun h' e1 e2 => ?_))
  refine wpC_bind ?_
  refine wpC_if_false rfl ?_
  refine wpC_if_false rfl ?_
  exact wpC_pure (wpC_pure (h h' e1 e2))
end
end Mine
end
theorem Mine.anew_ByteUse : True := by (w_top off); first | walk1 | trivial
-- XInit
section
open PySem PySem.W PySem.Spec PySem.Calls PyProof.Rows
set_option Elab.async false
set_option maxRecDepth 100000
set_option maxHeartbeats 8000000
namespace Mine

abbrev exO (C t : Addr) (dx : Option Addr) : Obj := { cls := .ref C, dict := dx, data := .fields #[.ref t, .none, .none, .none, .bool false, .none] }

local macro_rules | `(tactic| walk_at "setAttr ref") => `(tactic| (refine Stop.out ?_))

theorem clsIn_of {K : Frag} {C : Addr} {oc : Value} {od : Option Addr} {cd : ClassData} {sl : Array (Option Value)} (ho : K.lookup C = some ⟨oc, od, .cls cd, sl⟩) : clsIn K C = some cd := by
  unfold clsIn
  rw [ho]
theorem init_c (w : World) (mean : ExcName → Option Value) (mg mb : Str → Option Value) {A₀ A : Around} {base h₀ : Heap} {outer : List Env} {env : Env} {L : Addr} {m : Str → Option Value} {s : Shared} {Q E : Value → Shared → Prop}
    (B : Below A₀ base outer h₀) (F : Fr h₀ L s.heap m) (X : (Mine.top0.heap_39 w.params).In h₀) (T : Top topProg ownNames mean mg mb h₀) (hA : A.frames = some (env :: outer)) (hf : env.frame = some L) (hke : env.scope.kind = .function) (hroom : A.depth < recursionLimit)
    {e t' : Addr} {msg : Str} {tm : Tok} (he : s.heap.get? e = some (exO 44 t' none)) (hnew : h₀.get? e = none) (heL : e ≠ L)
    (hret : ∀ h' tk' dx, (∀ b o, b ≠ e → s.heap.get? b = some o → h'.get? b = some o) → h'.get? e = some (exO 44 t' (some dx)) → Q .none { s with heap := h', toks := tk' }) :
    wpAny (model PySem.Challenge.rw_on0221_01.row.prog w) A (call (.ref 28) [.ref e, .str msg tm]) Q E s := by
  revert X; k_fill; intro X
  have Nw : News h₀ L s.heap [(e, exO 44 t' none)] := fun p hp => by
    rw [List.mem_singleton.mp hp]; exact ⟨he, heL, hnew⟩
  refine wpAny_call ?_
  k_dflt (refine' code_defG ?k1 ?k2 ?k3 ?k4 ?k5 ?kA ?kF ?kK ?k6 ?k7 ?k8 ?k9 ?kB ?_ ?c2 ?c3 ?c4 ?c5; (case kA => exact hA); (case kF => exact hf); (case kK => assumption); (case k1 => k_asm); (case k2 => k_asm); (case k3 => k_asm); (case k4 => exact Nw); (case k5 => k_asm); (case k6 => k_is); (case k7 => k_is); (case k8 => exact hroom); (case k9 => first | exact BindsTo.of_eq rfl | exact binds_K (by k_in) rfl (by k_is) rfl rfl rfl); (case c5 => decide); (case kB => exact locs rfl); (case c2 => exact rfl); (case c3 => exact rfl); (case c4 => exact rfl); k_whole)
  intro g1 L1 h1 FG1 F1 N1 B1 X1 T1 GS1
  try dsimp only
  k_steps
  have X2 := X1.keeps F1.keep
  refine' setAttr_exc (K := Mine.top0.heap_39 w.params) X2 (N1 _ (.head _)).1 rfl rfl rfl (clsIn_of ?ho) ?hcd ?hm ?ht ?hs ?_
  case ho => k_is
  case hcd => rfl
  case hm => rfl
  case ht => k_is
  case hs => k_is
  intro h2 tk2 dx hk2 he2 hdx
  have eL : e ≠ L1 := (N1 _ (.head _)).2.1
  have F2 : Fr g1 L1 h2 _ := ⟨F1.ns.at' fun o q => hk2 _ o (Ne.symm eL) q, fun b o q => hk2 b o (fun z => by rw [z, (N1 _ (.head _)).2.2] at q; cases q) (F1.keep b o q), F1.above⟩
  have N2 : News g1 L1 h2 [(e, exO 44 t' (some dx))] := fun p hp => by
    rw [List.mem_singleton.mp hp]; exact ⟨he2, eL, (N1 _ (.head _)).2.2⟩
  k_steps
  refine hret _ _ dx (fun b o hb q => ?_) he2
  exact F2.keep _ _ (GS1 _ _ q (by simp [hb]))
end Mine
end
theorem Mine.anew_XInit : True := by (w_top off); first | walk1 | trivial
-- ByteNew
section
open PySem PySem.W PySem.Spec PySem.Calls PyProof.Rows
set_option Elab.async false
set_option maxRecDepth 100000
set_option maxHeartbeats 8000000
namespace Mine

theorem dirty_no {id : String} {args : Args} (h : (Builtin.Bytes.decodersThatHold ++ ["bytearray.__contains__", "bytearray.__mod__", "bytearray.__rmod__", "_struct.pack_into.held", "bytearray.find.held"]).contains id = false) : dirtyC (.builtin id args) = false := h
section
variable {prog : Program} {w : World} {A : Around} {E : Value → Shared → Prop} {s : Shared} {R : Result → Shared → Prop}
theorem wpC_call_ba {Q : Value → Shared → Prop} (h : ∀ h', h'.get? s.heap.objs.size = some (baObj #[]) → (∀ b o, s.heap.get? b = some o → h'.get? b = some o) → Q (.ref s.heap.objs.size) { s with heap := h' }) :
    wpC (model prog w) A (call (.type "bytearray") []) Q E s := by
  have hct := by_typeCall
  obtain ⟨c, tl, hmro⟩ := by_called.mro
  have hmade := by_called.made
  have h1 := by_called.notType
  have h2 := by_called.canCreate
  refine wpC_call (codeC_tree rfl ?_)
  show wpC _ _ (callAny (.type "bytearray") _) _ _ _
  refine wpC_pure ⟨Code.quiet_builtin _ (by decide +kernel), codeC_builtin (by decide +kernel) F.entry_type_call ?_⟩
  rw [Around.under_plain (weight_type_call_type "bytearray" [] []) rfl]
  unfold Builtin.«type.__call__»
  dsimp only
  refine wpC_if_false h1 ?_
  refine wpC_if_false h2 ?_
  refine wpC_bind (wpC_of_eq hct ?_)
  refine wpC_bind (wpC_of_eq hmro ?_)
  refine wpC_if_false rfl ?_
  refine wpC_bind (wpC_of_eq hmade ?_)
  refine wpC_bind (wpC_of_eq (a := .builtin "bytearray.__new__") rfl ?_)
  refine wpC_bind (wpC_holding (wpC_any (wpAny_call ?_)))
  refine codeAny_mono (codeAny_new_ba (s := s) (E := fun _ _ => False) (Q₁ := fun v s₁ => v = .ref s.heap.objs.size ∧ s₁ = { s with heap := s.heap.push (baObj #[]) }) ⟨rfl, rfl⟩) fun r s₁ hr => ?_
  match r, hr with
  | .ok (.ret v), hr =>
    obtain ⟨rfl, rfl⟩ := hr
    have hf : (s.heap.push (baObj #[])).get? s.heap.objs.size = some (baObj #[]) := Heap.get?_push_size _ rfl
    dsimp only
    refine wpC_then (P := fun b s₁ => b = true ∧ s₁ = { s with heap := s.heap.push (baObj #[]) }) (wpAny_isInstance (T := "bytearray") ⟨_, hf, rfl⟩ F.sub_bytearray_bytearray ⟨rfl, rfl⟩) ?_
    rintro _ _ ⟨rfl, rfl⟩
    refine wpC_if_false rfl ?_
    refine wpC_bind (wpC_holding ?_)
    simp only [callSpecial?]
    refine wpC_then (P := fun v s₁ => v = some (.builtin "bytearray.__init__") ∧ s₁ = { s with heap := s.heap.push (baObj #[]) }) (wpAny_specialOf (T := "bytearray") ⟨_, hf, rfl⟩ by_slot_init.lookup ⟨rfl, rfl⟩) ?_
    rintro _ _ ⟨rfl, rfl⟩
    dsimp only
    refine wpC_holding ?_
    rw [by_slot_init.bind]
    refine wpC_bind (wpC_pure ?_)
    dsimp only
    refine wpC_bind (wpC_call ?_)
    refine codeC_call_builtin by_slot_init.plain (dirty_no (by decide +kernel)) by_entry_init (by_slot_init.check _ _ _ _ _ _ _ _ ⟨_, hf, rfl⟩ (by_args_init _) rfl) ?_
    refine wpC_init_ba hf fun h' e1 e2 => ?_
    dsimp only
    refine wpC_pure ?_
    dsimp only
    refine wpC_if_false (by decide +kernel) ?_
    exact wpC_pure (h h' e1 fun b o e => e2.extBut b o (Nat.ne_of_lt (Heap.lt_size e)) (Heap.get?_push_of_some _ e))
theorem ba_take {t : Tok} {more : Array UInt8} : Builtin.Bytes.takeBufferQuiet? "bytearray.extend" (.bytes more t) 0 = pure (some (more, none)) := by
  unfold Builtin.Bytes.takeBufferQuiet? Builtin.Bytes.takeBuffer?
  rw [KBy.special_eq KBy.look_buffer, KBy.own_buffer, show ((0 : Int) == Builtin.Bytes.fullReadOnly) = false by decide, KBy.buffer_eq]
  rfl
theorem wpC_extend {f : Addr} {b more : Array UInt8} {t : Tok} {Q : Value → Shared → Prop} (hf : s.heap.get? f = some (baObj b)) (hz : (b ++ more).size ≤ sizeLine)
    (h : ∀ h', h'.get? f = some (baObj (b ++ more)) → Heap.SameBut f s.heap h' → Q .none { s with heap := h' }) :
    wpC (model prog w) A (call (.builtin "bytearray.extend") [.ref f, .bytes more t]) Q E s := by
  refine wpC_call (codeC_call_builtin by_slot_extend.plain (dirty_no (by decide +kernel)) by_entry_extend (by_slot_extend.check _ _ _ _ _ _ _ _ (ba_type hf) (by_args_extend _ _) rfl) ?_)
  unfold Builtin.«bytearray.extend»
  refine wpC_bind (wpC_of_eq (a := (Value.ref f, Value.bytes more t)) rfl ?_)
  dsimp only
  refine wpC_bind (wpC_of_eq (KBy.special_eq KBy.look_buffer) ?_)
  refine wpC_if_true rfl ?_
  refine wpC_bind (wpC_rule ?_)
  refine wpC_then (P := fun c s₁ => b = c ∧ s = s₁) ?_ ?_
  · unfold Builtin.Bytes.payload Builtin.Bytes.payload?
    refine wpAny_bind (wpAny_bind (wpAny_load hf ?_))
    exact wpAny_pure (wpAny_pure ⟨rfl, rfl⟩)
  rintro _ _ ⟨rfl, rfl⟩
  refine wpC_bind (wpC_of_eq ba_take ?_)
  dsimp only
  refine wpC_if_true rfl ?_
  show wpC _ _ (if (!more.isEmpty) = true then Builtin.Bytes.checkResize (.ref f) >>= fun _ => (Builtin.Bytes.write (.ref f) (· ++ more) >>= fun _ => ret .none) else (Builtin.Bytes.write (.ref f) (· ++ more) >>= fun _ => ret .none)) _ _ _
  have last : wpC (model prog w) A.in1 (Builtin.Bytes.write (.ref f) (· ++ more) >>= fun _ => ret .none) (fun fin s' =>
      match fin with
      | .done f => match (Except.ok f : Result) with | .ok (.ret v) => Q v s' | .ok _ => False | .error e => E e s'
      | .again c' => c'.quiet = true ∧ codeC (model prog w) A c' (fun r s' => match r with | .ok (.ret v) => Q v s' | .ok _ => False | .error e => E e s') s') (fun e s' => E e s') s :=
    wpC_bind (wpC_any (wpAny_write_ba hf rfl hz fun h' e1 e2 => wpC_pure (h h' e1 e2)))
  by_cases q : (!more.isEmpty) = true
  · refine wpC_if_true q (wpC_bind ?_)
    unfold Builtin.Bytes.checkResize
    refine wpC_bind (wpC_exports_ba hf ?_)
    exact wpC_if_false rfl (wpC_pure last)
  · refine wpC_if_false (by simpa using q) last
end
end Mine
end
theorem Mine.anew_ByteNew : True := by (w_top off); first | walk1 | trivial
-- Raise
section
open PySem PySem.W PySem.Spec PySem.Calls PyProof.Rows
set_option Elab.async false
set_option maxRecDepth 100000
set_option maxHeartbeats 8000000
namespace Mine

/-- an exception of an own class as it was just made: its dict is its own, its tuple too -/
structure MadeX (h h' : Heap) (e C t : Addr) (vs : List Value) : Prop where
  keeps : ∀ b o, h.get? b = some o → h'.get? b = some o
  new : h.get? e = none
  there : ∃ dx, h'.get? e = some (exO C t (some dx))
  tnew : h.get? t = none
  tup : h'.get? t = some { cls := .type "tuple", data := .seq vs.toArray }

section
variable {M : Model} {A : Around} {E : Value → Shared → Prop} {env : Env}
variable {nm q : Str} {C N Mi : Addr} {bs : List Value} {hdct : Bool} {sn : List Str} {sub : List Value} {ab : Bool} {col : Option Bool} {dd : Option Addr} {k0 k1 k2 k3 k5 : Option Value} {newId : String}

theorem raiseStmt_X {s : Shared} {x : Sem Value} {Q : Flow → Shared → Prop} (hh : A.handled = none)
    (h : wpAny M A x (fun v s₁ => ∃ e t dx, v = .ref e ∧ s₁.heap.get? C = some (excClassObj nm q C N bs (bmE Mi) hdct sn sub ab col dd k0 k1 k2 k3 k5 newId) ∧
      s₁.heap.get? e = some (exO C t (some dx)) ∧ E (.ref e) s₁) E s) :
    wpAny M A (raiseStmt env (some x) none) Q E s := by
  have hcB : (Value.ref C :: bmE Mi).contains (.type "BaseException") = true := by simp
  unfold raiseStmt
  refine wpAny_bind (wpAny_mono h (fun v s₁ h₁ => ?_) fun _ _ x => x)
  obtain ⟨e, t, dx, rfl, hC, he, hE⟩ := h₁
  obtain ⟨hp, g, d, tk, os⟩ := s₁
  repeat (first | with_reducible refine wpAny_loadPart_at he ?_ | with_reducible refine wpAny_loadPart_at hC ?_ | (with_reducible refine wpAny_isSubtype_exc hC ?_; rw [hcB]) | wp_step)
  exact wpAny_raiseNew_none hh hE
end

structure SheetCls (h : Heap) : Prop where
  out : ∃ nm q N bs hdct sn sub ab col dd k0 k1 k2 k3 k5, h.get? 44 = some (excClassObj nm q 44 N bs (bmE 31) hdct sn sub ab col dd k0 k1 k2 k3 k5 "Exception.__new__")
theorem sheet_of {K : Frag} {h : Heap} {nm q : Str} {N : Addr} {bs : List Value} {hdct : Bool} {sn : List Str} {sub : List Value} {ab : Bool} {col : Option Bool} {dd : Option Addr} {k0 k1 k2 k3 k5 : Option Value} (X : K.In h)
    (ho : K.lookup 44 = some (excClassObj nm q 44 N bs (bmE 31) hdct sn sub ab col dd k0 k1 k2 k3 k5 "Exception.__new__")) : SheetCls h := ⟨_, _, _, _, _, _, _, _, _, _, _, _, _, _, _, X _ _ ho⟩
theorem fn_of {K : Frag} {h : Heap} {a : Addr} {od : Option Addr} {dt : Data} {osl : Array (Option Value)} (X : K.In h) (ho : K.lookup a = some ⟨.type "function", od, dt, osl⟩) : ∃ oI, h.get? a = some oI ∧ oI.cls = .type "function" := ⟨_, X _ _ ho, rfl⟩
theorem get_of {K : Frag} {h : Heap} {a : Addr} {o : Obj} (X : K.In h) (ho : K.lookup a = some o) : ∃ o, h.get? a = some o := ⟨o, X _ _ ho⟩
theorem SheetCls.keeps {h h' : Heap} (x : SheetCls h) (k : ∀ b o, h.get? b = some o → h'.get? b = some o) : SheetCls h' := by
  obtain ⟨nm, q, N, bs, hdct, sn, sub, ab, col, dd, k0, k1, k2, k3, k5, hC⟩ := x.out
  exact ⟨_, _, _, _, _, _, _, _, _, _, _, _, _, _, _, k _ _ hC⟩
section
local macro_rules | `(tactic| walk_at "call ref") => `(tactic| (refine Stop.out ?_))
variable {prog : Program} {w : World} {A A₀ : Around} {E : Value → Shared → Prop} {s : Shared} {base h₀ : Heap} {outer : List Env} {L : Addr} {m : Str → Option Value} {env : Env}

theorem raise_sheet (w : World) (mean : ExcName → Option Value) (mg mb : Str → Option Value) {Q : Flow → Shared → Prop} {msg : String} {kc : Nat} {np cp cpos pos : Pos}
    (B : Below A₀ base outer h₀) (F : Fr h₀ L s.heap m) (X : (Mine.top0.heap_39 w.params).In h₀) (T : Top topProg ownNames mean mg mb h₀) (hA : A.frames = some (env :: outer)) (hf : env.frame = some L) (hke : env.scope.kind = .function) (hh : A.handled = none) (hroom : A.depth + 1 < recursionLimit)
    (hg : env.globals = mainGlobals) (hx : env.kindOf (Str.ofString "SheetFault") = some .globalImplicit)
    (hE : ∀ e t vs h' tk', MadeX s.heap h' e 44 t vs → E (.ref e) { s with heap := h', toks := tk' }) :
    wpAny (model PySem.Challenge.rw_on0221_01.row.prog w) A (exec (.Raise (some (.Call (.Name (Str.ofString "SheetFault") np) [.Constant (.str (Str.ofString msg)) kc cp] [] cpos)) none pos) env) Q E s := by
  revert X; k_fill; intro X
  have P : TopRead topProg ownNames mg mb h₀ := topRead_of T
  have X1 := X.keeps F.keep
  have S1 : SheetCls s.heap := by
    refine' sheet_of X1 ?ho
    case ho => k_is
  obtain ⟨nm, q, N, bs, hdct, sn, sub, ab, col, dd, k0, k1, k2, k3, k5, hC⟩ := S1.out
  rw [arm_exec_Raise]
  refine wpAny_bind (wpAny_standAt (raiseStmt_X (C := 44) (nm := nm) (q := q) (N := N) (Mi := 31) (bs := bs) (hdct := hdct) (sn := sn) (sub := sub) (ab := ab) (col := col) (dd := dd) (k0 := k0) (k1 := k1) (k2 := k2) (k3 := k3) (k5 := k5) (newId := "Exception.__new__") hh ?_))
  refine wpAny_bind (wpAny_mono (wpAny_Call_ofName ?_) (fun v s₃ h₃ => wpAny_bind (wpAny_standAt (wpAny_pure h₃))) fun _ _ x => x)
  refine' nameG_K F X P ?e ?_ hg hke hx (by decide)
  case e => k_is
  refine' callWith_K (f := .ref 44) X ?k ?_
  case k => k_is
  k_steps
  refine Stop.mk ?_
  obtain ⟨oI, hI, hIc⟩ : ∃ oI, s.heap.get? 28 = some oI ∧ oI.cls = .type "function" := by
    refine' fn_of X1 ?ho
    case ho => k_is
  refine' call_excE (K := Mine.top0.heap_39 w.params) X1 hC ?hi hI hIc ?_
  case hi => k_is
  intro h1 e t' k1 k2 k3 k4 k5
  have F1 := Fr.keeps F k1
  have eL : e ≠ L := fun z => by
    obtain ⟨oL, _, _, hL, _⟩ := F.ns
    rw [← z, k2] at hL; cases hL
  have e0 : h₀.get? e = none := by
    cases z : h₀.get? e with
    | none => rfl
    | some o => have := F.keep e o z; rw [k2] at this; cases this
  refine init_c w mean mg mb (A₀ := A₀) (base := base) (h₀ := h₀) (outer := outer) (env := env) (L := L) (m := m) B F1 X T (by show A.frames = _; exact hA) hf hke (by rw [depth_under_make]; exact hroom) k3 e0 eL ?_
  intro h2 tk2 dx hk2 he2
  have keep : ∀ b o, s.heap.get? b = some o → h2.get? b = some o := fun b o q => hk2 b o (fun z => by rw [z, k2] at q; cases q) (k1 b o q)
  refine ⟨rfl, e, t', dx, rfl, keep _ _ hC, he2, ?_⟩
  refine hE e t' [.str (Str.ofString msg) s.toks] h2 tk2 ⟨keep, k2, ⟨dx, he2⟩, k4, hk2 _ _ (fun z => ?_) k5⟩
  rw [z, k3] at k5; cases k5
end
end Mine
end
theorem Mine.anew_Raise : True := by (w_top off); first | walk1 | trivial
-- ByteIter
section
open PySem PySem.W PySem.Spec PySem.Calls PyProof.Rows
set_option Elab.async false
set_option maxRecDepth 100000
set_option maxHeartbeats 8000000
namespace Mine

def IsBaIter (h : Heap) (a f : Addr) (i : Nat) : Prop := ∃ o, h.get? a = some o ∧ o.cls = .type "bytearray_iterator" ∧ o.data = .fields #[.ref f, .int i 0]
theorem baIter_typeIs {s : Shared} {a f : Addr} {i : Nat} (y : IsBaIter s.heap a f i) : s.TypeIs (.ref a) "bytearray_iterator" :=
  let ⟨o, ho, hc, _⟩ := y; ⟨o, ho, hc⟩
section
variable {prog : Program} {w : World} {A : Around} {E : Value → Shared → Prop} {s : Shared} {b : Array UInt8} {f : Addr}
theorem pyIter_ba {Q : Value → Shared → Prop} (hf : s.heap.get? f = some (baObj b)) (hQ : Q (.ref s.heap.objs.size) { s with heap := s.heap.push { cls := .type "bytearray_iterator", data := .fields #[.ref f, .int 0 0] } }) : wpAny (model prog w) A (pyIter (.ref f)) Q E s := by
  refine wpAny_pyIter_slot (ba_type hf) by_slot_iter (wpAny_call_entry by_slot_iter (ba_type hf) by_entry_iter ?_ (by_args_iter _))
  show wpAny _ _ (do ret (← newFields "bytearray_iterator" [.ref f, rawInt 0])) _ _ s
  exact wpAny_bind (wpAny_newObj_type (wpAny_pure ⟨_, rfl, "bytearray_iterator", _, ⟨_, Heap.get?_push_size _ rfl, rfl⟩, by_slot_next.lookup, hQ⟩))
theorem pyIter_baSelf {it : Addr} {i : Nat} {Q : Value → Shared → Prop} (hit : IsBaIter s.heap it f i) (h : Q (.ref it) s) : wpAny (model prog w) A (pyIter (.ref it)) Q E s := by
  refine wpAny_pyIter_slot (baIter_typeIs hit) by_slot_self (wpAny_call_entry by_slot_self (baIter_typeIs hit) by_entry_self ?_ (by_args_self _))
  show wpAny _ _ (ret (.ref it)) _ _ s
  exact wpAny_pure ⟨_, rfl, "bytearray_iterator", _, baIter_typeIs hit, by_slot_next.lookup, h⟩
theorem baNext_item {it : Addr} {i : Nat} {c : UInt8} {Q : Option Value → Shared → Prop} (hit : IsBaIter s.heap it f i) (hf : s.heap.get? f = some (baObj b)) (hx : b[i]? = some c)
    (hQ : ∀ h', IsBaIter h' it f (i + 1) → Heap.SameBut it s.heap h' → Q (some (.int (c.toNat : Int) s.toks)) { s with heap := h', toks := s.toks + 1 }) : wpAny (model prog w) A (pyNext (.ref it)) Q E s := by
  obtain ⟨o, ho, hc, hd⟩ := id hit
  unfold pyNext
  refine wpAny_bind (wpAny_attempt (wpAny_callSpecial?_slot (name := PySem.Str.ofString "__next__") (baIter_typeIs hit) by_slot_next
    (wpAny_call_entry by_slot_next (baIter_typeIs hit) by_entry_next ?_ (by_args_next _))))
  show wpAny _ _ (field (.ref it) 0 >>= _) _ _ s
  refine wpAny_bind (wpAny_field ho hd (x := .ref f) rfl ?_)
  show wpAny _ _ (load f >>= _) _ _ s
  refine wpAny_bind (wpAny_load hf ?_)
  show wpAny _ _ (field (.ref it) 1 >>= _) _ _ s
  refine wpAny_bind (wpAny_field ho hd (x := .int i 0) rfl ?_)
  simp only [Int.toNat_natCast, hx]
  refine wpAny_bind (wpAny_setField ho hd (by simp) (wpAny_bind (wpAny_mkInt (wpAny_pure ⟨_, rfl, wpAny_pure (hQ _ ?_ (Heap.SameBut.update ..))⟩))))
  exact ⟨_, Heap.get?_update_self _ ho (Obj.isFreed_of_fields (Obj.data_mapFields hd _)), (Obj.cls_mapFields ..).trans hc, by
    rw [Obj.data_mapFields hd]; simp [rawInt]⟩
theorem baNext_end {it : Addr} {i : Nat} {Q : Option Value → Shared → Prop} (hh : A.handled = none) (hit : IsBaIter s.heap it f i) (hf : s.heap.get? f = some (baObj b)) (hx : b[i]? = none)
    (hQ : ∀ h', Heap.ExtBut it s.heap h' → Q none { s with heap := h' }) : wpAny (model prog w) A (pyNext (.ref it)) Q E s := by
  obtain ⟨o, ho, hc, hd⟩ := id hit
  unfold pyNext
  refine wpAny_bind (wpAny_attempt (wpAny_callSpecial?_slot (name := PySem.Str.ofString "__next__") (baIter_typeIs hit) by_slot_next
    (wpAny_call_entry by_slot_next (baIter_typeIs hit) by_entry_next ?_ (by_args_next _))))
  show wpAny _ _ (field (.ref it) 0 >>= _) _ _ s
  refine wpAny_bind (wpAny_field ho hd (x := .ref f) rfl ?_)
  show wpAny _ _ (load f >>= _) _ _ s
  refine wpAny_bind (wpAny_load hf ?_)
  show wpAny _ _ (field (.ref it) 1 >>= _) _ _ s
  refine wpAny_bind (wpAny_field ho hd (x := .int i 0) rfl ?_)
  simp only [Int.toNat_natCast, hx]
  refine wpAny_bind (wpAny_rule (wpAny_bind (wpAny_setField ho hd (by simp) ?_)))
  refine wpAny_bind (wpAny_letGo ?_)
  show wpAny _ _ (newExc (.type "StopIteration") [] >>= _) _ _ _
  refine wpAny_bind ?_
  simp only [newExc, newTuple]
  refine wpAny_bind (wpAny_newObj_type ?_ (by size_fits))
  refine wpAny_bind (m := firstArgMember _ _) (wpAny_of_eq (a := Value.none) (by first | rfl | (simp only [firstArgMember]; rfl)) ?_)
  refine wpAny_newObj_type ?_ (by size_fits)
  simp only [raiseNew]
  refine wpAny_bind (wpAny_handled ?_)
  rw [show A.in1.handled = none from hh]
  refine wpAny_bind (wpAny_pure (wpAny_throw ?_))
  refine wpAny_bind (wpAny_isInstance (T := "StopIteration") (b := true) ⟨_, Heap.get?_push_size _ rfl, rfl⟩ isSubtype_stop ?_)
  exact wpAny_pure (hQ _ (((Heap.SameBut.update ..).extBut.push _).push _))
end
theorem ba_walks {prog : Program} {w : World} {A : Around} (hh : A.handled = none) (I f : Addr) (hne : I ≠ f) (b : Array UInt8) :
    Walks prog w A I [I, f] [I] b.size (fun i v => ∃ c u, b[i]? = some c ∧ v = .int (c.toNat : Int) u) (fun i h => IsBaIter h I f i ∧ h.get? f = some (baObj b)) where
  sub := fun _ hb => by rw [List.mem_singleton.mp hb]; exact List.Mem.head _
  frame := fun _ _ _ st hk => let ⟨⟨o, ho, r⟩, hf⟩ := st; ⟨⟨o, hk I (by simp) o ho, r⟩, hk f (by simp) _ hf⟩
  item := fun i s Q E hi st hQ => by
    refine baNext_item st.1 st.2 (c := b[i]) (by simp [hi]) fun h' hit' hs' => ?_
    exact hQ _ h' (s.toks + 1) ⟨_, _, by simp [hi], rfl⟩ ⟨hit', (hs'.2 f (Ne.symm hne)).trans st.2⟩ fun b o hb e => hs'.extBut b o (fun h => hb (by simp [h])) e
  done := fun s Q E st hQ => baNext_end hh st.1 st.2 (by simp) fun h' he' => hQ h' s.toks fun b o hb e => he' b o (fun h => hb (by simp [h])) e
  self := fun _ _ _ _ st hQ => pyIter_baSelf st.1 hQ
section
variable {prog : Program} {w : World} {A : Around} {E : Value → Shared → Prop} {s : Shared} {env : Env} {h₀ : Heap} {x : Str} {body : List Stmt} {Q : Flow → Shared → Prop}
/-- over a bytearray that stands below the frame -/
theorem loop_ba {σ : Type} {b : Array UInt8} {f : Addr} {m₀ : Str → Option Value}
    (Led : σ → List (Addr × Obj)) (ps : σ → List (Str × Value)) (stored : List Str) (R : Nat → σ → Prop) (c₀ : σ)
    (hh : A.handled = none) (hf : h₀.get? f = some (baObj b)) (F : Fr h₀ env.locals s.heap m₀) (N : News h₀ env.locals s.heap (Led c₀))
    (hk : ∀ p ∈ ps c₀, m₀ p.1 = some p.2) (hp : R 0 c₀)
    (turn : ∀ (i : Nat) (c : σ) (k : Int) t (u : Str → Option Value) h tk own, (KBw.bInts b)[i]? = some k → 0 ≤ k → k < 256 → R i c → OwnOff own ((Led c₀).map (·.1)) →
      Fr h₀ env.locals h (fun y => if y = x then some (.int k t) else kstB (fun z => if stored.contains z then u z else m₀ z) (ps c) y) → News h₀ env.locals h (Led c ++ own) →
      wpAny (model prog w) A (execs body env) (TurnEnd (model prog w) A E h₀ env.locals Led ps x stored m₀ (R (i + 1)) own ((Led c₀).map (·.1)) { s with heap := h, toks := tk } Q) E { s with heap := h, toks := tk })
    (done : ∀ (c : σ) (u : Str → Option Value) h tk, R (KBw.bInts b).length c → Fr h₀ env.locals h (fun y => if y = x then u y else kstB (fun z => if stored.contains z then u z else m₀ z) (ps c) y) → News h₀ env.locals h (Led c) → Q .next { s with heap := h, toks := tk }) :
    wpAny (model prog w) A (pyIter (.ref f)) (fun it s₂ => LoopAtV prog w A h₀ env x body Q E it s₂) E s := by
  have hfs : s.heap.get? f = some (baObj b) := F.keep _ _ hf
  have hlt : f < h₀.objs.size := Heap.lt_size hf
  have hne : s.heap.objs.size ≠ f := fun q => absurd (Nat.lt_trans (Nat.lt_of_lt_of_le hlt F.above) F.ns.lt) (q ▸ Nat.lt_irrefl _)
  refine pyIter_ba hfs ?_
  have W := ba_walks (prog := prog) (w := w) hh s.heap.objs.size f hne b
  refine loopS Led ps stored R c₀ W ?_ ?_ ?_ ⟨⟨_, Heap.get?_push_size _ rfl, rfl, rfl⟩, Heap.get?_push_of_some _ hfs⟩ (F.push _) (fun p hp => ⟨Heap.get?_push_of_some _ (N p hp).1, (N p hp).2⟩) hk hp ?_ ?_
  · intro hm
    rcases List.mem_cons.mp hm with e | hm
    · exact absurd F.ns.lt (e ▸ Nat.lt_irrefl _)
    · exact absurd (Nat.lt_of_lt_of_le hlt F.above) ((List.mem_singleton.mp hm) ▸ Nat.lt_irrefl _)
  · intro b' hb
    rw [List.mem_singleton.mp hb]
    exact next_is_new F
  · intro p hp hI
    rcases List.mem_cons.mp hI with e | hI
    · exact absurd (Heap.lt_size (N p hp).1) (e ▸ Nat.lt_irrefl _)
    · have h3 := (N p hp).2.2
      rw [List.mem_singleton.mp hI, hf] at h3
      cases h3
  · rintro i c v u h tk own hi ⟨n, t, hn, rfl⟩ hR hoff F₁ N₁
    have hn' := KBw.ints_get hn
    have hb := KBw.ints_in (List.mem_of_getElem? hn')
    exact turn i c _ t u h tk own hn' hb.1 hb.2 hR hoff F₁ N₁
  · exact fun c u h tk hR F₁ N₁ => done c u h tk (by rw [KBw.ints_length]; exact hR) F₁ N₁
end
end Mine
end
theorem Mine.anew_ByteIter : True := by (w_top off); first | walk1 | trivial
-- Leave
section
open PySem PySem.W PySem.Spec PySem.Calls PyProof.Rows
set_option Elab.async false
set_option maxRecDepth 100000
set_option maxHeartbeats 8000000
namespace Mine

section
variable {M : Model} {A : Around} {E : Value → Shared → Prop} {s : Shared}
theorem leaves_madeX {base h : Heap} {env : Env} {outer : List Env} {L e C t : Addr} {vs : List Value} {Q : Unit → Shared → Prop}
    (hfr : A.frames = some (env :: outer)) (hf : env.frame = some L) (hkb : base.StaysIn h) (hl : h.FunFrames base (env :: outer)) (hx : MadeX h s.heap e C t vs)
    (hQ : ∀ h', Heap.FlyingW base outer e (.ref C) (.ref t) h' → h'.TupAt t vs → base.get? t = none → s.heap.UpToSlots h' → Q () { s with heap := h' }) : wpAny M A (leaving env (.ref e)) Q E s := by
  obtain ⟨dx, he⟩ := hx.there
  have fresh : ∀ b, h.get? b = none → base.get? b = none := fun b hb => by
    cases hq : base.get? b with
    | none => rfl
    | some o' => have := hkb b o' hq; rw [hb] at this; cases this
  refine wpAny_leaving_firstW (a0 := .ref t) hfr (hl.of_keeps fun b o hb _ => ⟨o, hx.keeps b o hb, rfl⟩) hf he (fun b o hb => hx.keeps b o (hkb b o hb)) (fresh e hx.new) rfl rfl rfl fun h' hL => ?_
  obtain ⟨k1, ⟨_, _, k2⟩, k3, k4⟩ := hL
  exact hQ h' ⟨k1, fresh e hx.new, k2, k3⟩ (Heap.TupAt.of_slots ⟨_, _, hx.tup, rfl, rfl⟩ k4) (fresh t hx.tnew) k4
end

section
variable {M : Model} {A : Around} {E : Value → Shared → Prop} {s' : Shared} {base g g₂ h : Heap} {outer : List Env} {L a e t C : Addr} {m : Str → Option Value} {name : Str} {scope : Scope} {cd : Value} {Q : Unit → Shared → Prop} {news : List (Addr × Obj)}
theorem leave_raiseX {vs : List Value} (K : Below A base outer g) (hx : MadeX h s'.heap e C t vs) (F : Fr g L h m) (N : News g L h news)
    (hQ : ∀ h', RaisedS base g outer e (.ref C) t vs news h' → g.UpToSlots h' → Q () { s' with heap := h' }) (hk : scope.kind = .function := by rfl) :
    wpAny M (A.deeper (envOf name scope L a cd)) (leaving (envOf name scope L a cd) (.ref e)) Q E s' := by
  have K' := K.push (name := name) (a := a) (cd := cd) F hk
  have hin : ∀ env ∈ (envOf name scope L a cd :: outer), ∀ b, env.frame = some b → b ∈ (envOf name scope L a cd :: outer).filterMap (·.frame) := fun env he b hb => List.mem_filterMap.mpr ⟨env, he, hb⟩
  have st : base.StaysIn (hideAll h ((envOf name scope L a cd :: outer).filterMap (·.frame))) := fun b o q => hideAll_get _ (K'.stays b o q) fun hm => by
    rw [(K'.frames.mem hm).1] at q; cases q
  have sg : ∀ b o, g.get? b = some o → b ∉ outer.filterMap (·.frame) → (hideAll h ((envOf name scope L a cd :: outer).filterMap (·.frame))).get? b = some o := fun b o q nm => hideAll_get _ (F.keep b o q) fun hm => by
    rcases kts_mem hm with z | z
    · rw [z, kts_self F] at q
      cases q
    · exact nm z
  have hl : ∀ q ∈ news, (hideAll h ((envOf name scope L a cd :: outer).filterMap (·.frame))).get? q.1 = some q.2 ∧ g.get? q.1 = none ∧ base.get? q.1 = none := fun q hq => by
    refine ⟨hideAll_get _ (N q hq).1 fun hm => ?_, (N q hq).2.2, fresh_of_stays K.stays (N q hq).2.2⟩
    obtain ⟨env, he, hf⟩ := List.mem_filterMap.mp hm
    rcases List.mem_cons.mp he with rfl | he
    · exact (N q hq).2.1 (Option.some.inj hf).symm
    · obtain ⟨o, ho, _⟩ := (K.frames.mem (List.mem_filterMap.mpr ⟨env, he, hf⟩)).2
      rw [(N q hq).2.2] at ho; cases ho
  exact leaves_madeX K'.stack rfl (fun b o q => of_hideAll _ q) (funFrames_hide K'.frames hin) hx fun h' x1 x2 x3 x4 =>
    hQ h' ⟨⟨_, st, sg, hl, x1, x3⟩, x2⟩ (((Heap.UpToSlots.of_keeps F.keep).trans (Heap.UpToSlots.of_keeps hx.keeps)).trans x4)
end
end Mine
end
theorem Mine.anew_Leave : True := by (w_top off); first | walk1 | trivial
-- ByteOut
section
open PySem PySem.W PySem.Spec PySem.Calls PyProof.Rows
set_option Elab.async false
set_option maxRecDepth 100000
set_option maxHeartbeats 8000000
namespace Mine

section
variable {prog : Program} {w : World} {A : Around} {E : Value → Shared → Prop} {s : Shared} {b : Array UInt8} {f : Addr}
theorem wpAny_slotOwn_ba {Q : Bool → Shared → Prop} (hf : s.heap.get? f = some (baObj b)) (h : Q true s) :
    wpAny (model prog w) A (Builtin.Bytes.slotIsOwn (.ref f) "__buffer__") Q E s := by
  have key : ∀ x : String, x = "bytearray" → ∀ {Q : Bool → Shared → Prop}, Q true s → wpAny (model prog w) A (isInstance (.ref f) (.type x)) Q E s := fun x hx Q q => by
    rw [hx]
    exact wpAny_isInstance (ba_type hf) F.sub_bytearray_bytearray q
  unfold Builtin.Bytes.slotIsOwn
  refine wpAny_bind (wpAny_specialOf (ba_type hf) by_buffer ?_)
  dsimp only
  split
  · rename_i hx
    exact absurd hx (by decide +kernel)
  · exact key _ (by decide +kernel) h
theorem wpAny_buffer_ba {id : String} {full : Bool} {Q : Option (Array UInt8) → Shared → Prop} (hf : s.heap.get? f = some (baObj b)) (h : Q (some b) s) :
    wpAny (model prog w) A (Builtin.Bytes.buffer? id (.ref f) full) Q E s := by
  unfold Builtin.Bytes.buffer?
  refine wpAny_bind (wpAny_specialOf (ba_type hf) by_buffer ?_)
  dsimp only
  refine wpAny_bind (wpAny_slotOwn_ba hf ?_)
  refine bm_if_false rfl ?_
  refine wpAny_bind (wpAny_specialOf (ba_type hf) by_buffer ?_)
  refine wpAny_bind (wpAny_own_ba hf ?_)
  refine bm_if_false rfl ?_
  unfold Builtin.Bytes.payload Builtin.Bytes.payload?
  refine wpAny_bind (wpAny_bind (wpAny_bind (wpAny_load hf ?_)))
  exact wpAny_pure (wpAny_pure (wpAny_pure h))
theorem bytesNew_ba {Q : Value → Shared → Prop} (hf : s.heap.get? f = some (baObj b)) (hz : b.size ≤ sizeLine)
    (hQ : ∀ t k, Q (.bytes b t) { s with toks := k }) :
    codeAny (model prog w) A (.call (.builtin "bytes.__new__") ⟨[.type "bytes", .ref f], []⟩) (wants Q E) s := by
  refine codeAny_of_tree ?_
  show wpAny _ A.in1 (do checkBuiltinCall "bytes.__new__" ⟨[.type "bytes", .ref f], []⟩; again (.builtin "bytes.__new__" ⟨[.type "bytes", .ref f], []⟩)) _ _ s
  refine wpAny_bind (wpAny_of_eq (F.bm_newCall _) (wpAny_pure ⟨plainId_quiet F.bm_plain _, codeAny_builtin F.bm_entry ?_⟩))
  rw [Around.under_plainId F.bm_plain _]
  have hT : s.TypeIs (.ref f) "bytearray" := ba_type hf
  unfold Builtin.«bytes.__new__»
  refine wpAny_bind (wpAny_of_eq (a := true) rfl ?_)
  refine bm_if_false rfl ?_
  refine wpAny_bind (wpAny_of_eq F.bm_sub ?_)
  refine bm_if_false rfl ?_
  refine wpAny_bind (wpAny_of_eq (F.bm_bind _) ?_)
  refine wpAny_bind (wpAny_of_eq (a := ()) rfl ?_)
  refine wpAny_bind (wpAny_of_eq (a := ()) rfl ?_)
  refine bm_if_false rfl ?_
  refine wpAny_bind (wpAny_specialOf hT by_no_bytes ?_)
  refine wpAny_bind (wpAny_bind ?_)
  show wpAny _ _ (load f >>= _) _ _ _
  refine wpAny_bind (wpAny_load hf ?_)
  refine wpAny_pure (wpAny_pure ?_)
  refine bm_if_false rfl ?_
  refine wpAny_bind (wpAny_specialOf hT by_no_index ?_)
  refine bm_if_true rfl ?_
  first
    | show wpAny _ _ (Builtin.Bytes.buffer? "bytes.__new__" (.ref f) true >>= _) _ _ _
    | (refine wpAny_bind ?_; show wpAny _ _ (Builtin.Bytes.buffer? "bytes.__new__" (.ref f) true >>= _) _ _ _)
  refine wpAny_bind (wpAny_buffer_ba hf ?_)
  refine wpAny_bind (wpAny_rule ?_)
  refine wpAny_bind (wpAny_mkBytes ?_ hz)
  show wpAny _ _ (if (Value.type "bytes" == Value.type "bytes") = true then _ else _) _ _ _
  refine bm_if_true (by decide) ?_
  first
    | exact wpAny_pure (hQ _ _)
    | exact wpAny_pure (wpAny_pure (hQ _ _))
    | exact wpAny_bind (wpAny_pure (wpAny_pure (hQ _ _)))
theorem call_bytes_ba {Q : Value → Shared → Prop} (hf : s.heap.get? f = some (baObj b)) (hz : b.size ≤ sizeLine)
    (hQ : ∀ t k, Q (.bytes b t) { s with toks := k }) : wpAny (model prog w) A (call (.type "bytes") [.ref f]) Q E s := by
  refine callType_codes (Q₁ := fun obj s₁ => s₁.TypeIs obj "bytes" ∧ Q obj s₁) F.bm_called (F.bm_typeCall _) F.entry_object_init
    (bytesNew_ba hf hz fun t k => ⟨PySem.W.typeIs_bytes _ _ _, hQ t k⟩) fun obj s₁ h₁ => ?_
  exact ⟨h₁.1, F.args_object_init_2 obj _, object_init_meets F.bm_called.init.lookup F.bm_called.made (by decide) prog w A.in1 _ s₁ ⟨h₁.1, rfl, h₁.2⟩⟩
end
end Mine
end
theorem Mine.anew_ByteOut : True := by (w_top off); first | walk1 | trivial
-- While
section
open PySem PySem.W PySem.Spec PySem.Calls PyProof.Rows
set_option Elab.async false
set_option maxRecDepth 100000
set_option maxHeartbeats 8000000
namespace Mine

section
variable {prog : Program} {w : World} {A : Around} {E : Value → Shared → Prop} {s : Shared} {env : Env}
theorem wpC_runOwn {c : Code} {Q : Flow → Shared → Prop} (hc : codeC (model prog w) (A.mark none) c (fun r s' => match r with | .ok f => Q f s' | .error e => cameBackBy (model prog w) A env E e s') s) :
    wpC (model prog w) A (runOwn c env none) Q E s := by
  unfold runOwn
  refine wpC_onRaise (wpC_run (codeC_mono hc fun r s' h => ?_))
  cases r with
  | ok f => exact h
  | error e => exact wpC_any h
theorem wpC_While {test : Expr} {body : List Stmt} {pos : Pos} {Q : Flow → Shared → Prop} (I : Nat → Shared → Prop) (Eb : Value → Shared → Prop)
    (hE : ∀ e s', Eb e s' → wpAny (model prog w) A (noteFrame e env) (fun _ s'' => cameBackBy (model prog w) A env E e s'') (fun e' s'' => cameBackBy (model prog w) A env E e' s'') s')
    (turn : ∀ n s, I n s → wpAny (model prog w) A (isTrue test env (eval test env)) (fun b s₂ =>
      if b then wpC (model prog w) A (execs body env) (fun f s₃ => match f with
        | .next | .cont => ∃ m, m < n ∧ I m s₃
        | .brk => Q .next s₃
        | .ret v => Q (.ret v) s₃) Eb s₂
      else Q .next s₂) Eb s)
    (n : Nat) (h : I n s) : wpC (model prog w) A (exec (.While test body [] pos) env) Q E s := by
  have e : exec (.While test body [] pos) env = (do standAt pos; runOwn (.whileLoop test body [] env) env) := exec_While ..
  rw [e]
  refine wpC_bind (wpC_standAt (wpC_runOwn ?_))
  have hA : A.mark none = A := rfl
  rw [hA]
  refine codeC_loop rfl rfl I (fun n s hI => ?_) n h
  show wpC _ A ((whileTurn test body [] env).onRaise (fun x => do noteFrame x env; theTreesLotGoes x)) _ _ s
  refine wpC_onRaise ?_
  simp only [whileTurn]
  refine wpC_mono (Q := fun fin s' => match fin with | .done f => Q f s' | .again c' => c' = .whileLoop test body [] env ∧ ∃ m, m < n ∧ I m s') (E' := _) (E := Eb) ?_ (fun fin s' h => ?_) (fun e s' h => ?_)
  · refine wpC_bind (wpC_any (wpAny_mono (turn n s hI) (fun b s₂ h₂ => ?_) fun _ _ h' => h'))
    cases b with
    | false =>
      simp only [Bool.false_eq_true, if_false] at h₂ ⊢
      exact wpC_bind (wpC_execs_nil (wpC_pure h₂))
    | true =>
      simp only [if_true] at h₂ ⊢
      refine wpC_bind (wpC_mono h₂ (fun f s₃ h₃ => ?_) fun _ _ h' => h')
      cases f <;> first | exact wpC_pure ⟨rfl, h₃⟩ | exact wpC_pure h₃
  · cases fin <;> exact h
  · refine wpC_any (wpAny_bind (wpAny_mono (hE e s' h) (fun _ s'' h2 => ?_) fun _ _ h2 => h2))
    exact wpAny_theTreesLotGoes h2
end
section
variable {prog : Program} {w : World} {A₀ : Around} {E : Value → Shared → Prop} {s' : Shared} {base g G : Heap} {outer : List Env} {L a e t : Addr} {m : Str → Option Value} {name : Str} {scope : Scope} {cd cls : Value}
  {vs : List Value} {Q : Flow → Shared → Prop} {Q1 : Unit → Shared → Prop} {news : List (Addr × Obj)}
theorem noted_S (K : Below A₀ base outer g) (R : RaisedS base G (envOf name scope L a cd :: outer) e cls t vs news s'.heap) (hsm : G.UpToSlots s'.heap)
    (k : ∀ h', RaisedH base G (envOf name scope L a cd :: outer) L e cls t vs news h' → G.UpToSlots h' → Q1 () { s' with heap := h' }) :
    wpAny (model prog w) (A₀.deeper (envOf name scope L a cd)) (noteFrame (.ref e) (envOf name scope L a cd)) Q1 E s' := by
  obtain ⟨⟨B, hB, hBG, hl, hfl, hnew⟩, htup⟩ := R
  exact wpAny_looks_onW (Around.frames_deeper K.stack) rfl hfl fun h' hh hs => k h' ⟨⟨B, hB, hBG, hl, hh, hnew⟩, htup.of_slots hs⟩ (hsm.trans hs)
theorem setFlight_held {M : Model} {A : Around} {s : Shared} {base : Heap} {l : List Env} {e L : Addr} {cls a0 : Value} {Q : Unit → Shared → Prop} (R : Heap.HeldW base l e cls a0 L s.heap)
    (h : ∀ h', Heap.HeldW base l e cls a0 L h' → s.heap.UpToSlots h' → Q () { s with heap := h' }) : wpAny M A (setFlight (.ref e) (some L)) Q E s := by
  obtain ⟨hkb, hen, hl, oe, vs, T, oT, ts, he, hcls, hd, h1, hnT, hTe, hT, hdT, h3⟩ := R
  have hsz3 : 3 < ts.size := (Array.getElem?_eq_some_iff.mp h3).1
  have other : ∀ b, b ≠ T → (s.heap.update T (Obj.mapFields (·.setIfInBounds 3 ((some L).elim Value.none fun f => rawInt f)))).get? b = s.heap.get? b :=
    fun b hb => Heap.get?_update_other _ _ (Ne.symm hb)
  have noRecord : ∀ b o, s.heap.get? b = some o → (∀ vs, o.data ≠ .fields vs) → b ≠ T := fun b o hb hnf q => by
    rw [q, hT] at hb; injection hb with hb; subst hb; exact hnf ts hdT
  unfold setFlight
  refine wpAny_bind (wpAny_field he hd h1 ?_)
  rw [if_pos (show (Value.ref T != Value.none) = true from by simp)]
  refine wpAny_setField hT hdT hsz3 (h _ ⟨fun b o hbo => (other b fun q => by rw [q, hnT] at hbo; cases hbo).trans (hkb b o hbo), hen,
    hl.of_keeps fun b o hb hnf => ⟨o, (other b (noRecord b o hb hnf)).trans hb, rfl⟩, ?_⟩ fun b o hb hnf => ⟨o.slots, (other b (noRecord b o hb hnf)).trans hb⟩)
  exact ⟨oe, vs, T, _, _, (other e (Ne.symm hTe)).trans he, hcls, hd, h1, hnT, hTe, Heap.get?_update_self _ hT (Obj.isFreed_of_fields (Obj.data_mapFields hdT _)), Obj.data_mapFields hdT _, by simp [hsz3]⟩
theorem back_H {A : Around} (R : RaisedH base G (envOf name scope L a cd :: outer) L e cls t vs news s'.heap) (hsm : G.UpToSlots s'.heap)
    (k : ∀ h', RaisedH base G (envOf name scope L a cd :: outer) L e cls t vs news h' → G.UpToSlots h' → E (.ref e) { s' with heap := h' }) :
    cameBackBy (model prog w) A (envOf name scope L a cd) E (.ref e) s' := by
  obtain ⟨⟨B, hB, hBG, hl, hfl, hnew⟩, htup⟩ := R
  obtain ⟨_, _, _, oe, ws, T, oT, ts, he, hc, hd, h1, _⟩ := id hfl
  unfold cameBackBy
  refine wpAny_bind (wpAny_field he hd h1 ?_)
  rw [if_neg (show ¬ ((Value.ref T == Value.none) = true) from by simp)]
  exact setFlight_held hfl fun h' hh hs => k h' ⟨⟨B, hB, hBG, hl, hh, hnew⟩, htup.of_slots hs⟩ (hsm.trans hs)
end
end Mine
end
theorem Mine.anew_While : True := by (w_top off); first | walk1 | trivial
-- Bits
section
open PySem PySem.W PySem.Spec PySem.Calls PyProof.Rows
set_option Elab.async false
set_option maxRecDepth 100000
set_option maxHeartbeats 8000000
namespace Mine

theorem nat_apart {a k i : Nat} (h : a < 2 ^ i) : a &&& (k * 2 ^ i) = 0 := by
  apply Nat.eq_of_testBit_eq
  intro j
  rw [Nat.testBit_and, Nat.zero_testBit, Nat.mul_comm, Nat.testBit_two_pow_mul]
  by_cases hj : i ≤ j
  · rw [Nat.testBit_lt_two_pow (Nat.lt_of_lt_of_le h (Nat.pow_le_pow_right (by decide) hj))]; simp
  · simp [hj]
theorem and_apart {a k : Int} {i : Nat} (h0 : 0 ≤ a) (h1 : a < 2 ^ i) (hk : 0 ≤ k) : Builtin.bitAnd a (k * 2 ^ i) = 0 := by
  obtain ⟨a', rfl⟩ := Int.eq_ofNat_of_zero_le h0
  obtain ⟨k', rfl⟩ := Int.eq_ofNat_of_zero_le hk
  have e : ((k' : Int) * 2 ^ i) = ((k' * 2 ^ i : Nat) : Int) := by push_cast; rfl
  have h1' : a' < 2 ^ i := by exact_mod_cast h1
  rw [e, bitAnd_pp (Int.natCast_nonneg _) (Int.natCast_nonneg _), Int.toNat_natCast, Int.toNat_natCast, nat_apart h1']
  rfl
theorem or_oct {a b : Int} (a0 : 0 ≤ a) (a1 : a < 256) (b0 : 0 ≤ b) : Builtin.bitOr a (b * 2 ^ Int.toNat 8) = a + 256 * b := by
  have e : Int.toNat 8 = 8 := rfl
  rw [e, bitOr_and, and_apart a0 (by omega) b0]; omega
section
variable {prog : Program} {w : World} {A : Around} {E : Value → Shared → Prop} {s : Shared} {a b : Int} {t u : Tok} {Q : Value → Shared → Prop}
theorem or_oct_w (a0 : 0 ≤ a) (a1 : a < 256) (b0 : 0 ≤ b) (h : Q (.int (a + 256 * b) s.toks) { s with toks := s.toks + 1 }) : wpAny (model prog w) A (binaryOp .BitOr (.int a t) (.int (b * 2 ^ Int.toNat 8) u)) Q E s :=
  or_int (by rw [or_oct a0 a1 b0]; exact h)
end
end Mine
end
theorem Mine.anew_Bits : True := by (w_top off); first | walk1 | trivial
-- CleanE
section
open PySem PySem.W PySem.Spec PySem.Calls PyProof.Rows
set_option Elab.async false
set_option maxRecDepth 100000
set_option maxHeartbeats 8000000
namespace Mine

section
variable {M : Model} {A : Around} {E : Value → Shared → Prop} {s : Shared} {env : Env}
theorem wpC_Assign_Tuple {elts k tpos value pos} {Q : Flow → Shared → Prop}
    (h : wpC M A (eval value env) (fun v s₁ => wpAny M A (assign (.Tuple elts k tpos) env v) (fun _ => Q .next) E s₁) E s)
    (hs : swapsWithSole [.Tuple elts k tpos] value pos.line env = pure false := by rfl)
    (hw : swappedStores [.Tuple elts k tpos] value env = pure none := by rfl) :
    wpC M A (exec (.Assign [.Tuple elts k tpos] value pos) env) Q E s := by
  rw [exec_Assign]
  refine wpC_bind (wpC_standAt ?_)
  rw [hs]
  refine wpC_bind (wpC_pure ?_)
  rw [if_neg (by decide)]
  refine wpC_bind (wpC_mono h (fun v s₁ h₁ => ?_) fun _ _ x => x)
  rw [hw]
  refine wpC_bind (wpC_pure ?_)
  show wpC M A (do assignAll v [assign (.Tuple elts k tpos) env]; pure .next) Q E s₁
  exact wpC_any (wpAny_bind (wpAny_mono h₁ (fun _ _ x => wpAny_pure x) fun _ _ x => x))
theorem wpC_tuple_first {e1 : Expr} {rest : List Expr} {k tpos} {Q : Value → Shared → Prop}
    (h : wpC M A (eval e1 env) (fun v s₁ => wpAny M A (spliced (backTo tpos (starEach rest env))) (fun vs s₂ => wpAny M A (newTuple (v :: vs)) Q E s₂) E s₁) E s)
    (hst : backTo tpos (starEach (e1 :: rest) env) = (false, eval e1 env) :: backTo tpos (starEach rest env) := by rfl) :
    wpC M A (eval (.Tuple (e1 :: rest) k tpos) env) Q E s := by
  have e : eval (.Tuple (e1 :: rest) k tpos) env = (do standAt tpos; newTuple (← spliced (backTo tpos (starEach (e1 :: rest) env)))) := arm_eval_Tuple ..
  rw [e, hst]
  refine wpC_bind (wpC_standAt ?_)
  rw [spliced]
  refine wpC_bind (wpC_bind (wpC_mono h (fun v s₁ h₁ => ?_) fun _ _ x => x))
  refine wpC_any ?_
  show wpAny M A ((pure [v] : Sem (List Value)) >>= fun here => holding here (spliced (backTo tpos (starEach rest env))) >>= fun r => pure (here ++ r)) _ _ _
  refine wpAny_bind (wpAny_pure (wpAny_bind (wpAny_holding (wpAny_mono h₁ (fun vs s₂ h₂ => ?_) fun _ _ x => x))))
  exact wpAny_pure (wpC_any h₂)
theorem wpC_callWith_type0 {pos : Pos} {T : String} {Q : Value → Shared → Prop} (h : wpC M A (call (.type T) []) Q E s) :
    wpC M A (callWith pos (.type T) [] [] []) Q E s := by
  unfold callWith
  refine wpC_then (P := fun a s₁ => ⟨[], []⟩ = a ∧ s = s₁) (wpAny_holding (PyProof.Rows.evalArgs_nil3 ⟨rfl, rfl⟩)) ?_
  rintro _ _ ⟨rfl, rfl⟩
  refine wpC_bind (wpC_standAt ?_)
  refine wpC_bind (wpC_pure ?_)
  exact wpC_bind (wpC_mono h (fun r s₂ hr => wpC_bind (wpC_holding (wpC_point (wpC_pure hr)))) fun _ _ x => x)
end
end Mine
end
theorem Mine.anew_CleanE : True := by (w_top off); first | walk1 | trivial
-- ByteOne
section
open PySem PySem.W PySem.Spec PySem.Calls PyProof.Rows
set_option Elab.async false
set_option maxRecDepth 100000
set_option maxHeartbeats 8000000
namespace Mine

theorem int_no_bytes : typeLookup (.type "int") "__bytes__" = pure none := by rw [typeLookup_type, builtinLookup_eq_fast]; kernel_rfl
theorem int_index : typeLookup (.type "int") "__index__" = pure (some (.builtin "int.__index__")) := by rw [typeLookup_type, builtinLookup_eq_fast]; kernel_rfl
section
open Mine
variable {prog : Program} {w : World} {A : Around} {E : Value → Shared → Prop} {s : Shared}
theorem bytesNew_one {t : Tok} {Q : Value → Shared → Prop} (hQ : ∀ t k, Q (.bytes #[0] t) { s with toks := k }) :
    codeAny (model prog w) A (.call (.builtin "bytes.__new__") ⟨[.type "bytes", .int 1 t], []⟩) (wants Q E) s := by
  refine codeAny_of_tree ?_
  show wpAny _ A.in1 (do checkBuiltinCall "bytes.__new__" ⟨[.type "bytes", .int 1 t], []⟩; again (.builtin "bytes.__new__" ⟨[.type "bytes", .int 1 t], []⟩)) _ _ s
  refine wpAny_bind (wpAny_of_eq (F.bm_newCall _) (wpAny_pure ⟨plainId_quiet F.bm_plain _, codeAny_builtin F.bm_entry ?_⟩))
  rw [Around.under_plainId F.bm_plain _]
  have hT : s.TypeIs (.int 1 t) "int" := rfl
  unfold Builtin.«bytes.__new__»
  refine wpAny_bind (wpAny_of_eq (a := true) rfl ?_)
  refine bm_if_false rfl ?_
  refine wpAny_bind (wpAny_of_eq F.bm_sub ?_)
  refine bm_if_false rfl ?_
  refine wpAny_bind (wpAny_of_eq (F.bm_bind _) ?_)
  refine wpAny_bind (wpAny_of_eq (a := ()) rfl ?_)
  refine wpAny_bind (wpAny_of_eq (a := ()) rfl ?_)
  refine bm_if_false rfl ?_
  refine wpAny_bind (wpAny_specialOf hT int_no_bytes ?_)
  refine wpAny_bind (wpAny_of_eq (a := false) rfl ?_)
  refine bm_if_false rfl ?_
  refine wpAny_bind (wpAny_specialOf hT int_index ?_)
  refine bm_if_false rfl ?_
  refine wpAny_bind (wpAny_of_eq (a := Except.ok 1) rfl ?_)
  refine bm_if_false (by decide +kernel) ?_
  rw [if_neg (by decide), if_neg (by decide)]
  refine bm_if_false (by decide +kernel) ?_
  refine wpAny_bind (wpAny_rule ?_)
  refine wpAny_bind (wpAny_mkBytes (b := #[0]) ?_ (by decide))
  show wpAny _ _ (if (Value.type "bytes" == Value.type "bytes") = true then _ else _) _ _ _
  refine bm_if_true (by decide) ?_
  first
    | exact wpAny_pure (hQ _ _)
    | exact wpAny_pure (wpAny_pure (hQ _ _))
    | exact wpAny_bind (wpAny_pure (wpAny_pure (hQ _ _)))
theorem call_bytes_one {t : Tok} {Q : Value → Shared → Prop}
    (hQ : ∀ t k, Q (.bytes #[0] t) { s with toks := k }) : wpAny (model prog w) A (call (.type "bytes") [.int 1 t]) Q E s := by
  refine callType_codes (Q₁ := fun obj s₁ => s₁.TypeIs obj "bytes" ∧ Q obj s₁) F.bm_called (F.bm_typeCall _) F.entry_object_init
    (bytesNew_one fun t k => ⟨PySem.W.typeIs_bytes _ _ _, hQ t k⟩) fun obj s₁ h₁ => ?_
  exact ⟨h₁.1, F.args_object_init_2 obj _, object_init_meets F.bm_called.init.lookup F.bm_called.made (by decide) prog w A.in1 _ s₁ ⟨h₁.1, rfl, h₁.2⟩⟩
end
theorem bytes_one_K {prog : Program} {w : World} {A : Around} {E : Value → Shared → Prop} {s : Shared} {Q : Value → Shared → Prop} {g : Heap} {L : Addr} {m : Str → Option Value} {news : List (Addr × Obj)} {u : Tok}
    (F : Fr g L s.heap m) (N : News g L s.heap news)
    (hQ : ∀ t k, Fr g L s.heap m → News g L s.heap news → Q (.bytes #[0] t) { s with toks := k }) : wpAny (model prog w) A (call (.type "bytes") [.int 1 u]) Q E s :=
  call_bytes_one fun t k => hQ t k F N
end Mine
end
theorem Mine.anew_ByteOne : True := by (w_top off); first | walk1 | trivial
-- CleanX
section
open PySem PySem.W PySem.Spec PySem.Calls PyProof.Rows
set_option Elab.async false
set_option maxRecDepth 100000
set_option maxHeartbeats 8000000
namespace Mine

section
variable {M : Model} {A : Around} {E : Value → Shared → Prop} {s : Shared} {env : Env}
theorem getMethod_ba_extend {l : Addr} {b : Array UInt8} {pl : Sem Bool} {Q : Value × List Value → Shared → Prop} (ho : s.heap.get? l = some (baObj b))
    (h : Q (.builtin "bytearray.extend", [.ref l]) s) : wpAny M A (getMethod (.ref l) "extend" pl) Q E s := by
  have hT : s.TypeIs (.ref l) "bytearray" := ⟨_, ho, rfl⟩
  unfold getMethod
  refine wpAny_bind (wpAny_specialOf hT by_getattribute ?_)
  show wpAny M A (if (Manifest.canonical "bytearray.__getattribute__" != "object.__getattribute__") = true then _ else _) Q E s
  rw [by_canon, if_neg Bool.false_ne_true]
  refine wpAny_bind (wpAny_specialOf hT by_getattr_none ?_)
  refine wpAny_bind (wpAny_specialOf hT by_slot_extend.lookup ?_)
  refine wpAny_bind (wpAny_of_eq by_type_extend ?_)
  refine wpAny_bind (wpAny_load ho ?_)
  exact wpAny_bind (wpAny_rule (wpAny_pure h))
theorem wpC_callWith_builtin1 {pos : Pos} {id : String} {first : List Value} {x : Sem Value} {Q : Value → Shared → Prop}
    (h : wpAny M A x (fun v s₁ => wpC M A (call (.builtin id) (first ++ [v])) Q E s₁) E s) :
    wpC M A (callWith pos (.builtin id) first [(false, x)] []) Q E s := by
  unfold callWith
  refine wpC_bind (wpC_any (wpAny_holding (evalArgs_plain (spliced_cons (wpAny_mono h (fun v s₁ h₁ => spliced_nil ?_) fun _ _ x => x)))))
  refine wpC_bind (wpC_standAt ?_)
  refine wpC_bind (wpC_pure ?_)
  exact wpC_bind (wpC_mono h₁ (fun r s₂ hr => wpC_bind (wpC_holding (wpC_point (wpC_pure hr)))) fun _ _ x => x)
theorem wpC_Call_extend {o elt : Expr} {apos pos : Pos} {Q : Value → Shared → Prop}
    (hbase : attributeBase o "extend" env (eval o env) = eval o env)
    (hfew : methodCallForm (([elt] : List Expr).length + ([] : List Keyword).length) (backTo pos (starEach [elt] env)) (backToKw pos (keywordEach [] env)) = true)
    (hline : (apos.endLine == pos.line) = true)
    (htrees : backTo pos (starEach [elt] env) = [(false, eval elt env)])
    (h : wpAny M A (eval o env) (fun ov s₁ => ∃ f b, ov = .ref f ∧ s₁.heap.get? f = some (baObj b) ∧
      wpAny M A (eval elt env) (fun y s₂ => wpC M A (call (.builtin "bytearray.extend") [.ref f, y]) Q E s₂) E s₁) E s) :
    wpC M A (eval (.Call (.Attribute o "extend" apos) [elt] [] pos) env) Q E s := by
  rw [arm_eval_Call, hbase]
  refine wpC_bind (wpC_any (wpAny_mono h (fun ov s₁ h₁ => ?_) fun _ _ e => e))
  obtain ⟨f, b, rfl, hf, hcall⟩ := h₁
  refine wpC_bind (wpC_standAt ?_)
  have fin : wpC M A (callWith pos (.builtin "bytearray.extend") [.ref f] (backTo pos (starEach [elt] env)) []) Q E s₁ := by
    rw [htrees]
    exact wpC_callWith_builtin1 hcall
  have hpos : methodCallPos true o env apos pos = pure pos := by unfold methodCallPos; simp [hline]
  unfold methodCall
  rw [hfew]
  refine wpC_bind (wpC_any (wpAny_holding (getMethod_ba_extend hf ?_)))
  exact wpC_bind (wpC_of_eq hpos fin)
theorem wpC_Expr_none {value : Expr} {pos : Pos} {Q : Flow → Shared → Prop} (hi : interactive env = false) (hs : swapsWith value none pos.line env = pure false)
    (h : wpC M A (eval value env) (fun v s₁ => v = .none ∧ Q .next s₁) E s) (hd : dropValue value pos .none = pure .next) : wpC M A (exec (.Expr value pos) env) Q E s := by
  rw [exec_Expr env value pos hi hs]
  refine wpC_bind (wpC_standAt ?_)
  refine wpC_bind (wpC_mono h (fun v s₁ h₁ => ?_) fun _ _ x => x)
  obtain ⟨rfl, hq⟩ := h₁
  rw [hd]
  exact wpC_pure hq
end
end Mine
end
theorem Mine.anew_CleanX : True := by (w_top off); first | walk1 | trivial
section
open PySem PySem.W PySem.Spec PySem.Calls PyProof.Rows
set_option Elab.async false
set_option maxRecDepth 100000
set_option maxHeartbeats 8000000
namespace Mine
local macro_rules | `(tactic| walk_at "call ref") => `(tactic| (k_here; refine Stop.out ?_))
local macro_rules | `(tactic| walk_at "call ref") => `(tactic| (k_here; (with_reducible show wpAny _ _ (call (Value.ref 104) _) _ _ _); k_dflt (refine' take_c _ _ _ _ ?k1 ?k2 ?k3 ?k4 ?k5 ?kK ?kU ?a1 ?a2 ?a3 ?a4 ?a5 ?kd ?ku ?_; (case k1 | k2 | k3 | k4 | k5 => k_asm); (case kK => first | exact rfl | assumption); (case kU => first | (rename (∀ _ : Obj, UpdF _ _ _ _) => lU'; exact lU' _) | (rename (∀ _ : Obj, UpdF _ _ _ _) => lU'; (refine' UpdF.tail ?lu1 (lU' _)); (case lu1 => k_ne)) | k_updF); (case a1 | a2 | a3 => assumption); (case a4 | a5 => (try dsimp only); omega); (case kd => ktr_room); (case ku => ktr_units); k_whole; intro d' td' x' tx' y' ty' n' h' tk' hd0' hd1' hx' hy' hy2' F' N'; (try dsimp only at N' ⊢); (try k_fold))))
local macro_rules | `(tactic| walk_at "pyIter ref") => `(tactic| ((with_reducible show wpAny _ _ (pyIter _) (fun it s₂ => LoopAtV _ _ _ _ _ _ _ _ _ it s₂) _ _); refine Stop.out ?_))
local macro_rules | `(tactic| walk_at "pyIter bytes") => `(tactic| ((with_reducible show wpAny _ _ (pyIter _) (fun it s₂ => LoopAtV _ _ _ _ _ _ _ _ _ it s₂) _ _); refine Stop.out ?_))
local macro_rules | `(tactic| walk_at "exec For") => `(tactic| (k_here; (with_reducible show wpAny _ _ (exec (Stmt.For (Expr.Name _ _) _ _ [] _) _) _ _ _); (rename Fr _ _ _ _ => lF'); (with_unfolding_all refine' For_invVF lF' ?k1 ?k2 ?_; (case k1 | k2 => exact rfl); k_whole)))
local macro_rules | `(tactic| walk_at "binaryOp LShift int int") => `(tactic| (k_here; (with_reducible refine lshift_int_small ?kb1 ?kb2 ?kb3 ?_); (case kb1 | kb2 => decide); (case kb3 => exact octet_abs (by assumption) (by assumption))))
local macro_rules | `(tactic| walk_at "binaryOp RShift int int") => `(tactic| (k_here; (with_reducible refine rshift_int ?kb1 ?_); (case kb1 => decide)))
local macro_rules | `(tactic| walk_at "execs cons") => `(tactic| (k_here; dsimp only))
local macro_rules | `(tactic| k_ne) => `(tactic| (refine neN ?_; (try dsimp only); first | assumption | exact Ne.symm (by assumption) | exact Nat.ne_of_lt (by assumption) | exact Nat.ne_of_gt (by assumption) | exact ne_off 1 2 rfl rfl (by decide) | exact ne_off 1 3 rfl rfl (by decide) | exact ne_off 1 4 rfl rfl (by decide) | exact ne_off 2 1 rfl rfl (by decide) | exact ne_off 2 3 rfl rfl (by decide) | exact ne_off 2 4 rfl rfl (by decide) | exact ne_off 3 1 rfl rfl (by decide) | exact ne_off 3 2 rfl rfl (by decide) | exact ne_off 3 4 rfl rfl (by decide) | exact ne_off 4 1 rfl rfl (by decide) | exact ne_off 4 2 rfl rfl (by decide) | exact ne_off 4 3 rfl rfl (by decide) | exact ne_tab 1 rfl (by assumption) | exact Ne.symm (ne_tab 1 rfl (by assumption)) | exact ne_tab 2 rfl (by assumption) | exact Ne.symm (ne_tab 2 rfl (by assumption)) | exact ne_tab 3 rfl (by assumption) | exact Ne.symm (ne_tab 3 rfl (by assumption)) | exact ne_tab 4 rfl (by assumption) | exact Ne.symm (ne_tab 4 rfl (by assumption))))
-- Get
section


def get32F (ks : List Int) (p : Int) : Int := Builtin.bitOr (Builtin.bitOr (Builtin.bitOr (ks.getD p.toNat 0 * 2 ^ Int.toNat 24) (ks.getD (p + 1).toNat 0 * 2 ^ Int.toNat 16)) (ks.getD (p + 2).toNat 0 * 2 ^ Int.toNat 8)) (ks.getD (p + 3).toNat 0)
theorem get32_c (w : World) (mean : ExcName → Option Value) (mg mb : Str → Option Value)
    {dp un : Nat} {gd : Option (List Code)} {cn : Str} {cs : Scope} {a : Addr} {ccd : Value} {cl : List (Str × Addr)} {outer : List Env} {A₀ : Around} {base h₀ : Heap} {L : Addr} {m : Str → Option Value} {news : List (Addr × Obj)} {s : Shared} {Q E : Value → Shared → Prop}
    (B : Below A₀ base outer h₀) (F : Fr h₀ L s.heap m) (X : (Mine.top0.heap_39 w.params).In h₀) (N : News h₀ L s.heap news) (T : Top topProg ownNames mean mg mb h₀) (hk : cs.kind = .function)
    {b : Array UInt8} {ks : List Int} {tb ta : Tok} {p : Int} (hb : KBw.bInts b = ks) (hp0 : 0 ≤ p) (hp1 : p + 4 ≤ (ks.length : Int)) (hp2 : ks.length < 1048576)
    (hd : dp + 1 < recursionLimit) (hu : un + 8 < cLine)
    (hret : ∀ t h' tk', Fr h₀ L h' m → News h₀ L h' news → Q (.int (get32F ks p) t) { s with heap := h', toks := tk' }) :
    wpAny (model PySem.Challenge.rw_on0221_01.row.prog w) (ktrTop dp un gd cn cs L a ccd cl outer) (call (.ref 53) [.bytes b tb, .int p ta]) Q E s := by
  revert X; k_fill; intro X
  have Nw : News h₀ L s.heap [] := News.nil
  have N0 := Aside.mk N
  clear N
  refine ends_at ?_
  refine wpAny_call ?_
  k_dflt (refine' code_defG ?k1 ?k2 ?k3 ?k4 ?k5 ?kA ?kF ?kK ?k6 ?k7 ?k8 ?k9 ?kB ?_ ?c2 ?c3 ?c4 ?c5; (case kA => exact rfl); (case kF => exact rfl); (case kK => assumption); (case k1 => k_asm); (case k2 => k_asm); (case k3 => k_asm); (case k4 => exact Nw); (case k5 => k_asm); (case k6 => k_is); (case k7 => k_is); (case k8 => ktr_room); (case k9 => first | exact BindsTo.of_eq rfl | exact binds_K (by k_in) rfl (by k_is) rfl rfl rfl); (case c5 => decide); (case kB => exact locs rfl); (case c2 => exact rfl); (case c3 => exact rfl); (case c4 => exact rfl); k_whole)
  intro g1 L1 h1 FG1 F1 N1 B1 X1 T1 GS1
  try dsimp only
  try k_fold
  k_steps
  exact EndAt.mk (hret _ _ _ (by assumption) (news_back0 N0.out GS1 F1 News.nil))
end
theorem anew_Get : True := by (w_top off); first | walk1 | trivial
-- Adler
section


theorem or_16 {h l : Int} (h0 : 0 ≤ h) (l0 : 0 ≤ l) (l1 : l < 65536) : Builtin.bitOr (h * 2 ^ Int.toNat 16) l = h * 65536 + l := by
  have e : Int.toNat 16 = 16 := rfl
  rw [e, bitOr_comm, bitOr_and, and_apart l0 (by omega) h0]; omega
section
variable {prog : Program} {w : World} {A : Around} {E : Value → Shared → Prop} {s : Shared} {a b : Int} {t u : Tok} {Q : Value → Shared → Prop}
theorem or_16_w (a0 : 0 ≤ a) (b0 : 0 ≤ b) (b1 : b < 65521) (h : Q (.int (a * 65536 + b) s.toks) { s with toks := s.toks + 1 }) : wpAny (model prog w) A (binaryOp .BitOr (.int (a * 2 ^ Int.toNat 16) t) (.int b u)) Q E s :=
  or_int (by rw [or_16 a0 b0 (by omega)]; exact h)
end
local macro_rules | `(tactic| walk_at "binaryOp BitOr int int") => `(tactic| (k_here; (with_reducible refine or_16_w ?a ?b ?c ?_); (case a | b | c => assumption); (try dsimp only)))
def adlO (c : Int × Int) (k : Int) : Int × Int := (Int.fmod (c.1 + k) 65521, Int.fmod (c.2 + Int.fmod (c.1 + k) 65521) 65521)
def adlF (ks : List Int) : Int := (ks.foldl adlO (1, 0)).2 * 65536 + (ks.foldl adlO (1, 0)).1
theorem fold_snoc2 {σ : Type} {f : σ → Int → σ} {c : σ} {ks : List Int} {i : Nat} {k : Int} (h : ks[i]? = some k) : (ks.take (i + 1)).foldl f c = f ((ks.take i).foldl f c) k := by
  rw [List.take_add_one, h]; simp
theorem adl_in : ∀ (ks : List Int) (c : Int × Int), 0 ≤ c.1 → c.1 < 65521 → 0 ≤ c.2 → c.2 < 65521 → 0 ≤ (ks.foldl adlO c).1 ∧ (ks.foldl adlO c).1 < 65521 ∧ 0 ≤ (ks.foldl adlO c).2 ∧ (ks.foldl adlO c).2 < 65521
  | [], _, a, b, c, d => ⟨a, b, c, d⟩
  | _ :: ks, _, _, _, _, _ => adl_in ks _ (fmod_lo _ (by decide)) (fmod_hi _ (by decide)) (fmod_lo _ (by decide)) (fmod_hi _ (by decide))
local macro_rules | `(tactic| walk_at "binaryOp LShift int int") => `(tactic| (k_here; (with_reducible refine lshift_int_small ?kb1 ?kb2 ?kb3 ?_); (case kb1 | kb2 => decide); (case kb3 => omega)))
theorem adler_c (w : World) (mean : ExcName → Option Value) (mg mb : Str → Option Value)
    {dp un : Nat} {gd : Option (List Code)} {cn : Str} {cs : Scope} {a : Addr} {ccd : Value} {cl : List (Str × Addr)} {outer : List Env} {A₀ : Around} {base h₀ : Heap} {L : Addr} {m : Str → Option Value} {news : List (Addr × Obj)} {s : Shared} {Q E : Value → Shared → Prop}
    (B : Below A₀ base outer h₀) (F : Fr h₀ L s.heap m) (X : (Mine.top0.heap_39 w.params).In h₀) (N : News h₀ L s.heap news) (T : Top topProg ownNames mean mg mb h₀) (hk : cs.kind = .function)
    {b : Array UInt8} {f : Addr} (hf : s.heap.get? f = some (baObj b))
    (hd : dp + 2 < recursionLimit) (hu : un + 16 < cLine)
    (hret : ∀ t h' tk', Fr h₀ L h' m → News h₀ L h' news → Q (.int (adlF (KBw.bInts b)) t) { s with heap := h', toks := tk' }) :
    wpAny (model PySem.Challenge.rw_on0221_01.row.prog w) (ktrTop dp un gd cn cs L a ccd cl outer) (call (.ref 76) [.ref f]) Q E s := by
  revert X; k_fill; intro X
  have Nw : News h₀ L s.heap [] := News.nil
  have N0 := Aside.mk N
  clear N
  refine ends_at ?_
  refine wpAny_call ?_
  k_dflt (refine' code_defG ?k1 ?k2 ?k3 ?k4 ?k5 ?kA ?kF ?kK ?k6 ?k7 ?k8 ?k9 ?kB ?_ ?c2 ?c3 ?c4 ?c5; (case kA => exact rfl); (case kF => exact rfl); (case kK => assumption); (case k1 => k_asm); (case k2 => k_asm); (case k3 => k_asm); (case k4 => exact Nw); (case k5 => k_asm); (case k6 => k_is); (case k7 => k_is); (case k8 => ktr_room); (case k9 => first | exact BindsTo.of_eq rfl | exact binds_K (by k_in) rfl (by k_is) rfl rfl rfl); (case c5 => decide); (case kB => exact locs rfl); (case c2 => exact rfl); (case c3 => exact rfl); (case c4 => exact rfl); k_whole)
  intro g1 L1 h1 FG1 F1 N1 B1 X1 T1 GS1
  try dsimp only
  have hf1 := GS1 f _ hf (by simp)
  try k_fold
  k_steps
  refine Stop.mk ?_
  rename News _ _ _ _ => Nx
  clear Nx
  refine loop_ba (σ := Int × Int × Tok × Tok) (fun _ => []) (fun d => [(Str.ofString "low", .int d.1 d.2.2.1), (Str.ofString "high", .int d.2.1 d.2.2.2)]) [] (fun i d => (d.1, d.2.1) = ((KBw.bInts b).take i).foldl adlO (1, 0)) (_, _, _, _) rfl hf1 (by assumption) News.nil (by kst_all) rfl ?_ ?_
  · intro i d k t u h tk own hk' hk0 hk1 hR hoff F2 N2
    simp only [List.nil_append] at N2
    dsimp only [kstB] at F2
    try k_fold
    k_steps
    (refine turn_end (_, _, _, _) (by assumption) (by assumption) (by kst_in) (by kst_in) rfl (by kst_all) (by kst_same) ?_)
    show _ = ((KBw.bInts b).take (i + 1)).foldl adlO (1, 0)
    rw [fold_snoc2 hk', ← hR]
    rfl
  · intro d u h tk hR F2 N2
    dsimp only [kstB] at F2
    rw [List.take_length] at hR
    obtain ⟨h0, h1, h2, h3⟩ := adl_in (KBw.bInts b) (1, 0) (by decide) (by decide) (by decide) (by decide)
    rw [← hR] at h0 h1 h2 h3
    dsimp only at h0 h1 h2 h3
    k_steps
    refine EndAt.mk ?_
    have e : adlF (KBw.bInts b) = d.2.1 * 65536 + d.1 := by rw [adlF, ← hR]
    rw [e] at hret
    exact hret _ _ _ (by assumption) (news_back0 N0.out GS1 F2 News.nil)
end
theorem anew_Adler : True := by (w_top off); first | walk1 | trivial
-- Steps
section

/-- one bit of the check -/
def bit1 (c : Int) : Int := if Builtin.bitAnd c 1 ≠ 0 then Builtin.bitXor (Int.fdiv c (2 ^ Int.toNat 1)) 3988292384 else Int.fdiv c (2 ^ Int.toNat 1)
def bits : Nat → Int → Int
  | 0, c => c
  | n + 1, c => bit1 (bits n c)
theorem rangeKs_snoc (a : Int) (n : Nat) : rangeKs a (n + 1) = rangeKs a n ++ [a + (n : Int)] := by simp [rangeKs, List.range_succ]
def tab16 : List Int := (rangeKs 0 16).map (bits 4)

theorem steps_c (w : World) (mean : ExcName → Option Value) (mg mb : Str → Option Value)
    {dp un : Nat} {gd : Option (List Code)} {cn : Str} {cs : Scope} {a : Addr} {ccd : Value} {cl : List (Str × Addr)} {outer : List Env} {A₀ : Around} {base h₀ : Heap} {L : Addr} {m : Str → Option Value} {news : List (Addr × Obj)} {s : Shared} {Q E : Value → Shared → Prop}
    (B : Below A₀ base outer h₀) (F : Fr h₀ L s.heap m) (X : (Mine.top0.heap_39 w.params).In h₀) (N : News h₀ L s.heap news) (T : Top topProg ownNames mean mg mb h₀) (hk : cs.kind = .function)
    (hd : dp + 1 < recursionLimit) (hu : un + 8 < cLine)
    (hret : ∀ l vs n h' tk', IntsAre vs tab16 → Fr h₀ L h' m → News h₀ L h' ((l, listOf vs.toArray n) :: news) → Q (.ref l) { s with heap := h', toks := tk' }) :
    wpAny (model PySem.Challenge.rw_on0221_01.row.prog w) (ktrTop dp un gd cn cs L a ccd cl outer) (call (.ref 60) []) Q E s := by
  revert X; k_fill; intro X
  have Nw : News h₀ L s.heap [] := News.nil
  have N0 := Aside.mk N
  clear N
  refine ends_at ?_
  refine wpAny_call ?_
  k_dflt (refine' code_defG ?k1 ?k2 ?k3 ?k4 ?k5 ?kA ?kF ?kK ?k6 ?k7 ?k8 ?k9 ?kB ?_ ?c2 ?c3 ?c4 ?c5; (case kA => exact rfl); (case kF => exact rfl); (case kK => assumption); (case k1 => k_asm); (case k2 => k_asm); (case k3 => k_asm); (case k4 => exact Nw); (case k5 => k_asm); (case k6 => k_is); (case k7 => k_is); (case k8 => ktr_room); (case k9 => first | exact BindsTo.of_eq rfl | exact binds_K (by k_in) rfl (by k_is) rfl rfl rfl); (case c5 => decide); (case kB => exact locs rfl); (case c2 => exact rfl); (case c3 => exact rfl); (case c4 => exact rfl); k_whole)
  intro g1 L1 h1 FG1 F1 N1 B1 X1 T1 GS1
  try dsimp only
  try k_fold
  k_steps
  refine Stop.mk ?_
  rename News _ _ _ _ => Nx
  obtain ⟨lf, hlf⟩ := head1 Nx
  subst hlf
  refine loop_range (σ := Array Value × Nat) (fun c => [(lf, listOf c.1 c.2)]) (fun _ => []) [Str.ofString "crc", Str.ofString "turn"] (n := 16) (fun i c => IntsAre c.1.toList ((rangeKs 0 i).map (bits 4))) (#[], 0) rfl (by assumption) (by decide) (by decide) (by assumption) (by assumption) (fun _ h => nomatch h) .nil ?_ ?_
  · intro i c t u h tk own hi hR hoff F2 N2
    simp only [List.nil_append, List.cons_append] at N2
    dsimp only [kstB] at F2
    try k_fold
    k_steps
    refine Stop.mk ?_
    refine loop_range (σ := Int × Tok) (fun _ => (lf, listOf c.1 c.2) :: own) (fun d => [(Str.ofString "crc", .int d.1 d.2)]) [] (n := 4) (fun j d => d.1 = bits j (0 + (i : Int))) (_, _) rfl (by assumption) (by decide) (by decide) (by assumption) (by assumption) (by kst_all) rfl ?_ ?_
    · intro j d t' u' h' tk' own' hj hR' hoff' F3 N3
      simp only [List.nil_append, List.cons_append] at N3
      dsimp only [kstB] at F3
      try k_fold
      k_steps
      all_goals ((refine turn_end (_, _) (by assumption) (by assumption) (by kst_in) (by kst_in) rfl (by kst_all) (by kst_same) ?_))
      · show _ = bit1 (bits j (0 + (i : Int)))
        rw [← hR', bit1, if_pos (by assumption)]
      · show _ = bit1 (bits j (0 + (i : Int)))
        rw [← hR', bit1, if_neg (by simpa using by assumption)]
    · intro d u' h' tk' hR' F3 N3
      dsimp only [kstB] at F3
      k_steps
      (refine turn_end (c.1.push (.int d.1 d.2), _) (by assumption) (by assumption) (by kst_in) (by kst_in) rfl (by kst_all) (by kst_same) ?_)
      show IntsAre (c.1.push (.int d.1 d.2)).toList ((rangeKs 0 (i + 1)).map (bits 4))
      rw [rangeKs_snoc, List.map_append, hR', List.map_cons, List.map_nil, Array.toList_push]
      exact IntsAre.append hR (.cons _ _ .nil)
  · intro c u h tk hR F2 N2
    dsimp only [kstB] at F2
    k_steps
    have ea : c.1 = c.1.toList.toArray := (Array.toArray_toList).symm
    rw [ea] at *
    exact EndAt.mk (hret _ _ _ _ _ hR (by assumption) (news_back0 N0.out GS1 F2 (by assumption)))
end
theorem anew_Steps : True := by (w_top off); first | walk1 | trivial
-- Block
section


local macro_rules | `(tactic| walk_at "exec Raise some none") => `(tactic| (refine Stop.out ?_))
local macro_rules | `(tactic| walk_at "binaryOp BitOr int int") => `(tactic| (k_here; (with_reducible refine or_oct_w ?a ?b ?c ?_); (case a | b | c => assumption); (try dsimp only)))
def blkF (ks : List Int) (p : Int) : Option Int :=
  if (ks.length : Int) < p + 5 then none
  else if (ks.getD p.toNat 0).fdiv (2 ^ Int.toNat 1) ≠ 0 then none
  else if ks.getD (p + 3).toNat 0 + 256 * ks.getD (p + 4).toNat 0 ≠ 65535 - (ks.getD (p + 1).toNat 0 + 256 * ks.getD (p + 2).toNat 0) then none
  else if (ks.length : Int) < p + 5 + (ks.getD (p + 1).toNat 0 + 256 * ks.getD (p + 2).toNat 0) then none
  else some (ks.getD (p + 1).toNat 0 + 256 * ks.getD (p + 2).toNat 0)
theorem block_g (w : World) (mean : ExcName → Option Value) (mg mb : Str → Option Value)
    {dp un : Nat} {gd : Option (List Code)} {cn : Str} {cs : Scope} {a : Addr} {ccd : Value} {cl : List (Str × Addr)} {outer : List Env} {A₀ : Around} {base h₀ : Heap} {L : Addr} {m : Str → Option Value} {news : List (Addr × Obj)} {s : Shared} {Q E : Value → Shared → Prop}
    (B : Below A₀ base outer h₀) (F : Fr h₀ L s.heap m) (X : (Mine.top0.heap_39 w.params).In h₀) (N : News h₀ L s.heap news) (T : Top topProg ownNames mean mg mb h₀) (hk : cs.kind = .function)
    {b : Array UInt8} {ks : List Int} {tb ta : Tok} {p : Int} (hb : KBw.bInts b = ks) (hp0 : 0 ≤ p) (hp1 : p < 1048576) (hp2 : ks.length < 1048576)
    (hd : dp + 2 < recursionLimit) (hu : un + 16 < cLine)
    (hret : ∀ z t h' tk', blkF ks p = some z → Fr h₀ L h' m → News h₀ L h' news → Q (.int z t) { s with heap := h', toks := tk' })
    (herr : ∀ e t vs G h' tk', blkF ks p = none → Fr h₀ L G m → GSub s.heap G [] → RaisedS base G (envX cn cs L a ccd cl :: outer) e (.ref 44) t vs [] h' → G.UpToSlots h' → E (.ref e) { s with heap := h', toks := tk' }) :
    wpAny (model PySem.Challenge.rw_on0221_01.row.prog w) (ktrTop dp un gd cn cs L a ccd cl outer) (call (.ref 83) [.bytes b tb, .int p ta]) Q E s := by
  revert X; k_fill; intro X
  have Nw : News h₀ L s.heap [] := News.nil
  have N0 := Aside.mk N
  clear N
  refine ends_at ?_
  refine wpAny_call ?_
  k_dflt (refine' code_defG ?k1 ?k2 ?k3 ?k4 ?k5 ?kA ?kF ?kK ?k6 ?k7 ?k8 ?k9 ?kB ?_ ?c2 ?c3 ?c4 ?c5; (case kA => exact rfl); (case kF => exact rfl); (case kK => assumption); (case k1 => k_asm); (case k2 => k_asm); (case k3 => k_asm); (case k4 => exact Nw); (case k5 => k_asm); (case k6 => k_is); (case k7 => k_is); (case k8 => ktr_room); (case k9 => first | exact BindsTo.of_eq rfl | exact binds_K (by k_in) rfl (by k_is) rfl rfl rfl); (case c5 => decide); (case kB => exact locs rfl); (case c2 => exact rfl); (case c3 => exact rfl); (case c4 => exact rfl); k_whole)
  intro g1 L1 h1 FG1 F1 N1 B1 X1 T1 GS1
  try dsimp only
  try k_fold
  k_steps
  any_goals (
    refine Stop.mk (raise_sheet w mean mg mb B1 (by assumption) X1 T1 rfl rfl rfl rfl (by ktr_room) rfl rfl ?_)
    intro e t vs h' tk' hm
    refine leave_raiseX B1 hm (by assumption) (by assumption) (fun h'' R U => ?_)
    refine herr e t vs g1 h'' tk' ?_ FG1 GS1 R U)
  · rw [blkF, if_pos (by assumption)]
  · rw [blkF, if_neg (by assumption), if_pos (by assumption)]
  · rw [blkF, if_neg (by assumption), if_neg (fun hn => hn (by assumption)), if_pos (by assumption)]
  · rw [blkF, if_neg (by assumption), if_neg (fun hn => hn (by assumption)), if_neg (fun hn => hn (by assumption)), if_pos (by assumption)]
  · refine EndAt.mk (hret _ _ _ _ ?_ (by assumption) (news_back0 N0.out GS1 (by assumption) News.nil))
    rw [blkF, if_neg (by assumption), if_neg (fun hn => hn (by assumption)), if_neg (fun hn => hn (by assumption)), if_neg (by assumption)]
theorem block_c (w : World) (mean : ExcName → Option Value) (mg mb : Str → Option Value)
    {dp un : Nat} {gd : Option (List Code)} {cn : Str} {cs : Scope} {a : Addr} {ccd : Value} {cl : List (Str × Addr)} {outer : List Env} {A₀ : Around} {base h₀ : Heap} {L : Addr} {m : Str → Option Value} {news : List (Addr × Obj)} {s : Shared} {Q E : Value → Shared → Prop}
    (B : Below A₀ base outer h₀) (F : Fr h₀ L s.heap m) (X : (Mine.top0.heap_39 w.params).In h₀) (N : News h₀ L s.heap news) (T : Top topProg ownNames mean mg mb h₀) (hk : cs.kind = .function)
    {b : Array UInt8} {ks : List Int} {tb ta : Tok} {p : Int} (hb : KBw.bInts b = ks) (hp0 : 0 ≤ p) (hp1 : p < 1048576) (hp2 : ks.length < 1048576)
    (hd : dp + 2 < recursionLimit) (hu : un + 16 < cLine)
    (hret : ∀ z t h' tk', blkF ks p = some z → Fr h₀ L h' m → News h₀ L h' news → Q (.int z t) { s with heap := h', toks := tk' })
    (herr : ∀ e t vs G h' tk', blkF ks p = none → Fr h₀ L G m → RaisedS base G (envX cn cs L a ccd cl :: outer) e (.ref 44) t vs [] h' → G.UpToSlots h' → E (.ref e) { s with heap := h', toks := tk' }) :
    wpAny (model PySem.Challenge.rw_on0221_01.row.prog w) (ktrTop dp un gd cn cs L a ccd cl outer) (call (.ref 83) [.bytes b tb, .int p ta]) Q E s :=
  block_g w mean mg mb B F X N T hk hb hp0 hp1 hp2 hd hu hret fun e t vs G h' tk' hz F' _ R U => herr e t vs G h' tk' hz F' R U
end
theorem anew_Block : True := by (w_top off); first | walk1 | trivial
-- Crc
section



theorem and15_lo (x : Int) : 0 ≤ Builtin.bitAnd x 15 := by rw [bitAnd_m4]; omega
theorem and15_hi (x : Int) : Builtin.bitAnd x 15 < (tab16.length : Int) := by
  have e : tab16.length = 16 := by simp [tab16, rangeKs_length]
  rw [bitAnd_m4, e]; omega
theorem and15_fit (x : Int) : Builtin.bitAnd x 15 < 2 ^ 63 := by rw [bitAnd_m4]; omega
local macro_rules | `(tactic| l_idx) => `(tactic| first | exact and15_lo _ | exact and15_hi _ | exact and15_fit _)
def nib (c : Int) : Int := Builtin.bitXor (tab16.getD (Int.toNat (Builtin.bitAnd c 15)) 0) (Int.fdiv c (2 ^ Int.toNat 4))
def crcOct (c k : Int) : Int := nib (nib (Builtin.bitXor c k))
def crcF (c : Int) (ks : List Int) : Int := Builtin.bitXor (ks.foldl crcOct (Builtin.bitXor c 4294967295)) 4294967295
theorem fold_snoc {f : Int → Int → Int} {c : Int} {ks : List Int} {i : Nat} {k : Int} (h : ks[i]? = some k) : (ks.take (i + 1)).foldl f c = f ((ks.take i).foldl f c) k := by
  rw [List.take_add_one, h]; simp
theorem crc32_c (w : World) (mean : ExcName → Option Value) (mg mb : Str → Option Value)
    {dp un : Nat} {gd : Option (List Code)} {cn : Str} {cs : Scope} {a : Addr} {ccd : Value} {cl : List (Str × Addr)} {outer : List Env} {A₀ : Around} {base h₀ : Heap} {L : Addr} {m : Str → Option Value} {news : List (Addr × Obj)} {s : Shared} {Q E : Value → Shared → Prop}
    (B : Below A₀ base outer h₀) (F : Fr h₀ L s.heap m) (X : (Mine.top0.heap_39 w.params).In h₀) (N : News h₀ L s.heap news) (T : Top topProg ownNames mean mg mb h₀) (hk : cs.kind = .function)
    {b : Array UInt8} {tb tc : Tok} {c : Int}
    (hd : dp + 2 < recursionLimit) (hu : un + 16 < cLine)
    (hret : ∀ t h' tk', Fr h₀ L h' m → News h₀ L h' news → Q (.int (crcF c (KBw.bInts b)) t) { s with heap := h', toks := tk' }) :
    wpAny (model PySem.Challenge.rw_on0221_01.row.prog w) (ktrTop dp un gd cn cs L a ccd cl outer) (call (.ref 68) [.bytes b tb, .int c tc]) Q E s := by
  revert X; k_fill; intro X
  have Nw : News h₀ L s.heap [] := News.nil
  have N0 := Aside.mk N
  clear N
  refine ends_at ?_
  refine wpAny_call ?_
  k_dflt (refine' code_defG ?k1 ?k2 ?k3 ?k4 ?k5 ?kA ?kF ?kK ?k6 ?k7 ?k8 ?k9 ?kB ?_ ?c2 ?c3 ?c4 ?c5; (case kA => exact rfl); (case kF => exact rfl); (case kK => assumption); (case k1 => k_asm); (case k2 => k_asm); (case k3 => k_asm); (case k4 => exact Nw); (case k5 => k_asm); (case k6 => k_is); (case k7 => k_is); (case k8 => ktr_room); (case k9 => first | exact BindsTo.of_eq rfl | exact binds_K (by k_in) rfl (by k_is) rfl rfl rfl); (case c5 => decide); (case kB => exact locs rfl); (case c2 => exact rfl); (case c3 => exact rfl); (case c4 => exact rfl); k_whole)
  intro g1 L1 h1 FG1 F1 N1 B1 X1 T1 GS1
  try dsimp only
  try k_fold
  k_steps
  refine Stop.mk ?_
  k_dflt (refine' steps_c _ _ _ _ ?k1 ?k2 ?k3 ?k4 ?k5 ?kK ?kd ?ku ?_; (case k1 => k_asm); (case k2 => k_asm); (case k3 => k_asm); (case k4 => k_asm); (case k5 => k_asm); (case kK => first | exact rfl | assumption); (case kd => ktr_room); (case ku => ktr_units); k_whole); intro l' vs' n' h' tk' hI' F' N'; (try dsimp only at N' ⊢); (try k_fold)
  k_steps
  refine Stop.mk ?_
  rename News _ _ _ _ => Nx
  refine loop_bytes (σ := Int × Tok) (fun _ => _) (fun d => [(Str.ofString "crc", .int d.1 d.2)]) [] (fun i d => d.1 = ((KBw.bInts b).take i).foldl crcOct (Builtin.bitXor c 4294967295)) (_, _) rfl (by assumption) Nx (by kst_all) rfl ?_ ?_
  · intro i d k t u h tk own hk' hk0 hk1 hR hoff F2 N2
    simp only [List.cons_append, List.nil_append] at N2
    dsimp only [kstB] at F2
    try k_fold
    k_steps
    (refine turn_end (_, _) (by assumption) (by assumption) (by kst_in) (by kst_in) rfl (by kst_all) (by kst_same) ?_)
    show _ = ((KBw.bInts b).take (i + 1)).foldl crcOct (Builtin.bitXor c 4294967295)
    rw [fold_snoc hk', ← hR]
    rfl
  · intro d u h tk hR F2 N2
    dsimp only [kstB] at F2
    rw [List.take_length] at hR
    k_steps
    rw [hR]
    exact EndAt.mk (hret _ _ _ (by assumption) (news_back0 N0.out GS1 F2 News.nil))
theorem crc32_c1 (w : World) (mean : ExcName → Option Value) (mg mb : Str → Option Value)
    {dp un : Nat} {gd : Option (List Code)} {cn : Str} {cs : Scope} {a : Addr} {ccd : Value} {cl : List (Str × Addr)} {outer : List Env} {A₀ : Around} {base h₀ : Heap} {L : Addr} {m : Str → Option Value} {news : List (Addr × Obj)} {s : Shared} {Q E : Value → Shared → Prop}
    (B : Below A₀ base outer h₀) (F : Fr h₀ L s.heap m) (X : (Mine.top0.heap_39 w.params).In h₀) (N : News h₀ L s.heap news) (T : Top topProg ownNames mean mg mb h₀) (hk : cs.kind = .function)
    {b : Array UInt8} {tb : Tok}
    (hd : dp + 2 < recursionLimit) (hu : un + 16 < cLine)
    (hret : ∀ t h' tk', Fr h₀ L h' m → News h₀ L h' news → Q (.int (crcF 0 (KBw.bInts b)) t) { s with heap := h', toks := tk' }) :
    wpAny (model PySem.Challenge.rw_on0221_01.row.prog w) (ktrTop dp un gd cn cs L a ccd cl outer) (call (.ref 68) [.bytes b tb]) Q E s := by
  revert X; k_fill; intro X
  have Nw : News h₀ L s.heap [] := News.nil
  have N0 := Aside.mk N
  clear N
  refine ends_at ?_
  refine wpAny_call ?_
  k_dflt (refine' code_defG ?k1 ?k2 ?k3 ?k4 ?k5 ?kA ?kF ?kK ?k6 ?k7 ?k8 ?k9 ?kB ?_ ?c2 ?c3 ?c4 ?c5; (case kA => exact rfl); (case kF => exact rfl); (case kK => assumption); (case k1 => k_asm); (case k2 => k_asm); (case k3 => k_asm); (case k4 => exact Nw); (case k5 => k_asm); (case k6 => k_is); (case k7 => k_is); (case k8 => ktr_room); (case k9 => first | exact BindsTo.of_eq rfl | exact binds_K (by k_in) rfl (by k_is) rfl rfl rfl); (case c5 => decide); (case kB => exact locs rfl); (case c2 => exact rfl); (case c3 => exact rfl); (case c4 => exact rfl); k_whole)
  intro g1 L1 h1 FG1 F1 N1 B1 X1 T1 GS1
  try dsimp only
  try k_fold
  k_steps
  refine Stop.mk ?_
  k_dflt (refine' steps_c _ _ _ _ ?k1 ?k2 ?k3 ?k4 ?k5 ?kK ?kd ?ku ?_; (case k1 => k_asm); (case k2 => k_asm); (case k3 => k_asm); (case k4 => k_asm); (case k5 => k_asm); (case kK => first | exact rfl | assumption); (case kd => ktr_room); (case ku => ktr_units); k_whole); intro l' vs' n' h' tk' hI' F' N'; (try dsimp only at N' ⊢); (try k_fold)
  k_steps
  refine Stop.mk ?_
  rename News _ _ _ _ => Nx
  refine loop_bytes (σ := Int × Tok) (fun _ => _) (fun d => [(Str.ofString "crc", .int d.1 d.2)]) [] (fun i d => d.1 = ((KBw.bInts b).take i).foldl crcOct (Builtin.bitXor 0 4294967295)) (_, _) rfl (by assumption) Nx (by kst_all) rfl ?_ ?_
  · intro i d k t u h tk own hk' hk0 hk1 hR hoff F2 N2
    simp only [List.cons_append, List.nil_append] at N2
    dsimp only [kstB] at F2
    try k_fold
    k_steps
    (refine turn_end (_, _) (by assumption) (by assumption) (by kst_in) (by kst_in) rfl (by kst_all) (by kst_same) ?_)
    show _ = ((KBw.bInts b).take (i + 1)).foldl crcOct (Builtin.bitXor 0 4294967295)
    rw [fold_snoc hk', ← hR]
    rfl
  · intro d u h tk hR F2 N2
    dsimp only [kstB] at F2
    rw [List.take_length] at hR
    k_steps
    rw [hR]
    exact EndAt.mk (hret _ _ _ (by assumption) (news_back0 N0.out GS1 F2 News.nil))
end
theorem anew_Crc : True := by (w_top off); first | walk1 | trivial
-- UnstL
section

theorem ends_atC {α : Type} {M : Model} {A : Around} {E : Value → Shared → Prop} {s : Shared} {Q : α → Shared → Prop} {t : Sem α} (h : wpC M A t (fun a s' => EndAt M A E (Q a s') s') E s) : wpC M A t Q E s :=
  fun Γ p hΓ hC => Sem.wp_mono M Γ t (fun _ p' _ h' => h' Γ p' hΓ) (fun _ _ _ h' => h') p s (h Γ p hΓ hC)
/-- a piece that is walked with wpAny; what comes behind it is hidden from the walk -/
theorem wpC_piece {α : Type} {M : Model} {A : Around} {E : Value → Shared → Prop} {s : Shared} {Q : α → Shared → Prop} {t : Sem α}
    (h : ∀ Q' E', Aside (Q' = Q ∧ E' = E) → wpAny M A t (fun a s' => EndAt M A E' (Q' a s') s') E' s) : wpC M A t Q E s := wpC_any (ends_at (h Q E ⟨rfl, rfl⟩))
theorem wpC_Call_ofName {M : Model} {A : Around} {E : Value → Shared → Prop} {s : Shared} {env : Env} {x : Str} {np pos : Pos} {args : List Expr} {keywords : List Keyword} {Q : Value → Shared → Prop}
    (h : wpC M A (eval (.Name x np) env) (fun f s₁ => wpC M A (callWith pos f [] (backTo pos (starEach args env)) (backToKw pos (keywordEach keywords env))) Q E s₁) E s) :
    wpC M A (eval (.Call (.Name x np) args keywords pos) env) Q E s := by
  show wpC M A (do callWith pos (← eval (.Name x np) env) [] (backTo pos (starEach args env)) (backToKw pos (keywordEach keywords env))) Q E s
  exact wpC_bind h
theorem wpC_Assign_Swapped {M : Model} {A : Around} {E : Value → Shared → Prop} {s : Shared} {env : Env} {elts k tpos value pos} {names : List Str} {Q : Flow → Shared → Prop}
    (h : wpC M A (eval value env) (fun v s₁ => wpAny M A (unpackItems v names.length none) (fun items s₂ =>
      wpAny M A (assignInOrder (names.reverse.map fun n => bindName env n) items.reverse) (fun _ s₃ => Q .next s₃) E s₂) E s₁) E s)
    (hs : swapsWithSole [.Tuple elts k tpos] value pos.line env = pure false := by rfl)
    (hw : swappedStores [.Tuple elts k tpos] value env = pure (some names) := by rfl) :
    wpC M A (exec (.Assign [.Tuple elts k tpos] value pos) env) Q E s := by
  rw [exec_Assign]
  refine wpC_bind (wpC_standAt ?_)
  rw [hs]
  refine wpC_bind (wpC_pure ?_)
  rw [if_neg (by decide)]
  refine wpC_bind (wpC_mono h (fun v s₁ h₁ => ?_) fun _ _ x => x)
  rw [hw]
  refine wpC_bind (wpC_pure ?_)
  show wpC M A (do rule "assign.swapped-stores"; let items ← unpackItems v names.length none; assignInOrder (names.reverse.map fun n => bindName env n) items.reverse; pure .next) Q E s₁
  exact wpC_any (wpAny_bind (wpAny_rule (wpAny_bind (wpAny_mono h₁ (fun items s₂ h₂ => wpAny_bind (wpAny_mono h₂ (fun _ _ x => wpAny_pure x) fun _ _ x => x)) fun _ _ x => x))))
/-- what comes behind the piece is hidden -/
theorem endsC {α : Type} {M : Model} {A : Around} {E : Value → Shared → Prop} {s : Shared} {Q : α → Shared → Prop} {t : Sem α}
    (h : ∀ Q' E', Aside (Q' = Q ∧ E' = E) → wpC M A t (fun a s' => EndAt M A E' (Q' a s') s') E' s) : wpC M A t Q E s := ends_atC (h Q E ⟨rfl, rfl⟩)
theorem ends_any {α : Type} {M : Model} {A : Around} {E : Value → Shared → Prop} {s : Shared} {Q : α → Shared → Prop} {t : Sem α}
    (h : ∀ Q' E', Aside (Q' = Q ∧ E' = E) → wpAny M A t (fun a s' => EndAt M A E' (Q' a s') s') E' s) : wpAny M A t Q E s := ends_at (h Q E ⟨rfl, rfl⟩)
abbrev hdrBad (ks : List Int) : Prop := (ks.length : Int) < 2 ∨ Builtin.bitAnd (ks.getD (Int.toNat 0) 0) 15 ≠ 8 ∨ Int.fmod (256 * ks.getD (Int.toNat 0) 0 + ks.getD (Int.toNat 1) 0) 31 ≠ 0 ∨ Builtin.bitAnd (ks.getD (Int.toNat 1) 0) 32 ≠ 0
def slice (ks : List Int) (p z : Int) : List Int := (ks.drop p.toNat).take z.toNat
def unsL : Nat → List Int → Int → List Int → Option (Int × List Int)
  | 0, _, _, _ => none
  | n + 1, ks, p, acc => match blkF ks p with
    | none => none
    | some z => if ks.getD p.toNat 0 = 1 then some (p + 5 + z, acc ++ slice ks (p + 5) z) else unsL n ks (p + 5 + z) (acc ++ slice ks (p + 5) z)
def unstF (ks : List Int) : Option (List Int) :=
  if hdrBad ks then none else match unsL ks.length ks 2 [] with
  | none => none
  | some (p, acc) => if p + 4 ≠ (ks.length : Int) ∨ get32F ks p ≠ adlF acc then none else some acc
theorem unst_bad {ks : List Int} (h : hdrBad ks) : unstF ks = none := if_pos h
theorem unst_bad1 {ks : List Int} (h : (ks.length : Int) < 2) : unstF ks = none := unst_bad (Or.inl h)
theorem unst_bad2 {ks : List Int} (h : ¬ Builtin.bitAnd (ks.getD (Int.toNat 0) 0) 15 = 8) : unstF ks = none := unst_bad (Or.inr (Or.inl h))
theorem unst_bad3 {ks : List Int} (h : ¬ Int.fmod (256 * ks.getD (Int.toNat 0) 0 + ks.getD (Int.toNat 1) 0) 31 = 0) : unstF ks = none := unst_bad (Or.inr (Or.inr (Or.inl h)))
theorem unst_bad4 {ks : List Int} (h : ¬ Builtin.bitAnd (ks.getD (Int.toNat 1) 0) 32 = 0) : unstF ks = none := unst_bad (Or.inr (Or.inr (Or.inr h)))
theorem unst_good {ks : List Int} (h1 : ¬ (ks.length : Int) < 2) (h2 : Builtin.bitAnd (ks.getD (Int.toNat 0) 0) 15 = 8) (h3 : Int.fmod (256 * ks.getD (Int.toNat 0) 0 + ks.getD (Int.toNat 1) 0) 31 = 0) (h4 : Builtin.bitAnd (ks.getD (Int.toNat 1) 0) 32 = 0) : ¬ hdrBad ks := fun hb => by
  rcases hb with q | q | q | q
  · exact h1 q
  · exact q h2
  · exact q h3
  · exact q h4
/-- what holds at the head of the loop -/
def UI (g : Heap) (L f : Addr) (m₀ : Str → Option Value) (ks : List Int) (s₀ : Shared) (n : Nat) (s : Shared) : Prop :=
  ∃ (p : Int) (acc : Array UInt8) (fl : Bool) (t : Tok) (m₁ : Str → Option Value) (h : Heap) (tk : Nat), s = { s₀ with heap := h, toks := tk } ∧ Fr g L h m₁ ∧
    (∀ q ∈ [(Str.ofString "found", Value.ref f), (Str.ofString "at", Value.int p t), (Str.ofString "is_last", Value.bool fl)], m₁ q.1 = some q.2) ∧
    (∀ z, z ≠ Str.ofString "size" → (∀ q ∈ [(Str.ofString "found", Value.ref f), (Str.ofString "at", Value.int p t), (Str.ofString "is_last", Value.bool fl)], z ≠ q.1) → ([] : List Str).contains z = false → m₁ z = m₀ z) ∧
    News g L h [(f, baObj acc)] ∧ 2 ≤ p ∧ p ≤ (ks.length : Int) ∧ (acc.size : Int) ≤ p ∧ n = ((ks.length : Int) - p).toNat ∧
    (if fl then unsL ks.length ks 2 [] = some (p, KBw.bInts acc) else ∃ k : Nat, (ks.length : Int) ≤ p + (k : Int) ∧ unsL ks.length ks 2 [] = unsL k ks p (KBw.bInts acc))
/-- what holds where a turn raises -/
def UE (base g : Heap) (L : Addr) (outer : List Env) (ks : List Int) (s₀ : Shared) (env : Env) (e : Value) (s : Shared) : Prop :=
  unstF ks = none ∧ ∃ (ea t : Addr) (vs : List Value) (G : Heap) (m : Str → Option Value) (h : Heap) (tk : Nat), e = .ref ea ∧ s = { s₀ with heap := h, toks := tk } ∧ Fr g L G m ∧ RaisedS base G (env :: outer) ea (.ref 44) t vs [] h ∧ G.UpToSlots h
theorem wpC_WhileU {prog : Program} {w : World} {A : Around} {E : Value → Shared → Prop} {s : Shared} {env : Env} {test : Expr} {body : List Stmt} {pos : Pos} {Q : Flow → Shared → Prop} (I : Nat → Shared → Prop) (Eb : Env → Value → Shared → Prop)
    (hE : ∀ e s', Eb env e s' → wpAny (model prog w) A (noteFrame e env) (fun _ s'' => cameBackBy (model prog w) A env E e s'') (fun e' s'' => cameBackBy (model prog w) A env E e' s'') s')
    (turn : ∀ n s, I n s → wpAny (model prog w) A (isTrue test env (eval test env)) (fun b s₂ =>
      if b then wpC (model prog w) A (execs body env) (fun f s₃ => match f with
        | .next | .cont => ∃ m, m < n ∧ I m s₃
        | .brk => Q .next s₃
        | .ret v => Q (.ret v) s₃) (Eb env) s₂
      else Q .next s₂) (Eb env) s)
    (n : Nat) (h : I n s) : wpC (model prog w) A (exec (.While test body [] pos) env) Q E s := wpC_While I (Eb env) hE turn n h
theorem getD_oct {b : Array UInt8} {i : Nat} : 0 ≤ (KBw.bInts b).getD i 0 ∧ (KBw.bInts b).getD i 0 < 256 := by
  rw [List.getD_eq_getElem?_getD]
  cases q : (KBw.bInts b)[i]? with
  | none => exact ⟨by decide, by decide⟩
  | some x => exact KBw.ints_in (List.mem_of_getElem? q)
theorem blk_fit {b : Array UInt8} {ks : List Int} (hb : KBw.bInts b = ks) {p z : Int} (h : blkF ks p = some z) : p + 5 + z ≤ (ks.length : Int) ∧ 0 ≤ z ∧ z < 65536 := by
  subst hb
  unfold blkF at h
  split at h
  · cases h
  · split at h
    · cases h
    · split at h
      · cases h
      · split at h
        · cases h
        · rename_i q
          have e := Option.some.inj h
          have h1 := @getD_oct b (p + 1).toNat
          have h2 := @getD_oct b (p + 2).toNat
          omega
theorem unst_none {ks acc : List Int} {p : Int} (hg : ¬ hdrBad ks) (hfn : ∃ k : Nat, (ks.length : Int) ≤ p + (k : Int) ∧ unsL ks.length ks 2 [] = unsL k ks p acc) (hz : blkF ks p = none) : unstF ks = none := by
  obtain ⟨k, _, e⟩ := hfn
  unfold unstF
  rw [if_neg hg, e]
  cases k with
  | zero => rfl
  | succ n => simp only [unsL, hz]
theorem uns_step {ks acc : List Int} {p z : Int} (hfn : ∃ k : Nat, (ks.length : Int) ≤ p + (k : Int) ∧ unsL ks.length ks 2 [] = unsL k ks p acc) (hz : blkF ks p = some z) (h0 : 0 ≤ z) (hp : p + 5 + z ≤ (ks.length : Int)) :
    if ks.getD p.toNat 0 = 1 then unsL ks.length ks 2 [] = some (p + 5 + z, acc ++ slice ks (p + 5) z) else ∃ k : Nat, (ks.length : Int) ≤ p + 5 + z + (k : Int) ∧ unsL ks.length ks 2 [] = unsL k ks (p + 5 + z) (acc ++ slice ks (p + 5) z) := by
  obtain ⟨k, hk, e⟩ := hfn
  cases k with
  | zero => omega
  | succ n =>
    simp only [unsL, hz] at e
    split
    · rw [e, if_pos (by assumption)]
    · rw [if_neg (by assumption)] at e
      exact ⟨n, by omega, e⟩
theorem clip_in {n : Nat} {i : Int} (h0 : 0 ≤ i) (h1 : i ≤ (n : Int)) : clipAt n i = i.toNat := by
  unfold clipAt
  rw [if_neg (by omega)]
  omega
theorem slice_clip {ks : List Int} {p z : Int} (h0 : 0 ≤ p) (hz : 0 ≤ z) (h1 : p + z ≤ (ks.length : Int)) :
    List.take (clipAt ks.length (p + z) - clipAt ks.length p) (List.drop (clipAt ks.length p) ks) = slice ks p z := by
  rw [clip_in (by omega) h1, clip_in h0 (by omega)]
  unfold slice
  congr 1
  omega
theorem ext_len {acc more : Array UInt8} {ks : List Int} {p z : Int} (hm : KBw.bInts more = slice ks p z) (hz : 0 ≤ z) : ((acc ++ more).size : Int) ≤ acc.size + z := by
  have h : more.size ≤ z.toNat := by
    rw [← KBw.ints_length, hm, slice, List.length_take]
    exact Nat.min_le_left _ _
  rw [Array.size_append]
  omega
/-- an object of the ledger turned -/
theorem turned1 {g h h' : Heap} {L f : Addr} {m : Str → Option Value} {o o' : Obj} (F : Fr g L h m) (N : News g L h [(f, o)]) (e1 : h'.get? f = some o') (e2 : Heap.SameBut f h h') :
    Fr g L h' m ∧ News g L h' [(f, o')] := by
  obtain ⟨_, n2, n3⟩ := N _ (.head _)
  refine ⟨⟨F.ns.at' fun o q => (e2.2 _ (Ne.symm n2)).trans q, fun b o q => (e2.2 b fun z => ?_).trans (F.keep b o q), F.above⟩, fun p hp => ?_⟩
  · dsimp only at n3
    rw [z, n3] at q; cases q
  · rw [List.mem_singleton.mp hp]
    exact ⟨e1, n2, n3⟩
theorem uns_turn {ks : List Int} {acc more : Array UInt8} {p z : Int} (hfn : ∃ k : Nat, (ks.length : Int) ≤ p + (k : Int) ∧ unsL ks.length ks 2 [] = unsL k ks p (KBw.bInts acc)) (hz : blkF ks p = some z) (h0 : 0 ≤ z) (hp : p + 5 + z ≤ (ks.length : Int))
    (hm : KBw.bInts more = slice ks (p + 5) z) :
    if (ks.getD p.toNat 0 == 1) = true then unsL ks.length ks 2 [] = some (p + 5 + z, KBw.bInts (acc ++ more)) else ∃ k : Nat, (ks.length : Int) ≤ p + 5 + z + (k : Int) ∧ unsL ks.length ks 2 [] = unsL k ks (p + 5 + z) (KBw.bInts (acc ++ more)) := by
  rw [KBw.ints_app rfl hm]
  have h := uns_step hfn hz h0 hp
  by_cases q : ks.getD p.toNat 0 = 1
  · rw [if_pos q] at h
    rw [if_pos (by simpa using q)]
    exact h
  · rw [if_neg q] at h
    rw [if_neg (by simpa using q)]
    exact h
theorem bytes_ba_K {prog : Program} {w : World} {A : Around} {E : Value → Shared → Prop} {s : Shared} {Q : Value → Shared → Prop} {g : Heap} {L f : Addr} {m : Str → Option Value} {news : List (Addr × Obj)} {b : Array UInt8}
    (F : Fr g L s.heap m) (N : News g L s.heap news) (hf : (f, baObj b) ∈ news) (hz : b.size ≤ sizeLine)
    (hQ : ∀ t k, Fr g L s.heap m → News g L s.heap news → Q (.bytes b t) { s with toks := k }) : wpAny (model prog w) A (call (.type "bytes") [.ref f]) Q E s :=
  call_bytes_ba (N _ hf).1 hz fun t k => hQ t k F N
theorem unst_end1 {ks acc : List Int} {p : Int} (h : unsL ks.length ks 2 [] = some (p, acc)) (h1 : p + 4 ≠ (ks.length : Int)) : unstF ks = none := by
  unfold unstF
  split
  · rfl
  · rw [h]; exact if_pos (Or.inl h1)
theorem unst_end2 {ks acc : List Int} {p : Int} (h : unsL ks.length ks 2 [] = some (p, acc)) (h1 : get32F ks p ≠ adlF acc) : unstF ks = none := by
  unfold unstF
  split
  · rfl
  · rw [h]; exact if_pos (Or.inr h1)
theorem unst_end3 {ks acc : List Int} {p : Int} (hg : ¬ hdrBad ks) (h : unsL ks.length ks 2 [] = some (p, acc)) (h1 : p + 4 = (ks.length : Int)) (h2 : get32F ks p = adlF acc) : unstF ks = some acc := by
  unfold unstF
  rw [if_neg hg, h]
  exact if_neg fun q => q.elim (fun z => z h1) fun z => z h2
theorem off1_of {D : Addr} (l : List (Addr × Obj)) (h : ∀ p ∈ l, p.1 ≠ D) : LCg.Off1 D l := by
  induction l with
  | nil => exact True.intro
  | cons a r ih => exact And.intro (h a (List.Mem.head _)) (ih fun p hp => h p (List.Mem.tail _ hp))
theorem off1_mem {D : Addr} (l : List (Addr × Obj)) (h : LCg.Off1 D l) : ∀ p ∈ l, p.1 ≠ D := by
  induction l with
  | nil => intro p hp; cases hp
  | cons a r ih =>
    intro p hp
    rcases List.mem_cons.mp hp with rfl | hp
    · exact h.1
    · exact ih h.2 p hp
/-- what a call made is none of the caller's -/
theorem made_off {h₀ h g h' : Heap} {L L' D : Addr} {o : Obj} {news own' : List (Addr × Obj)} (N : News h₀ L h news) (G : GSub h g []) (N' : News g L' h' own') (hD : (D, o) ∈ own') : LCg.Off1 D news := by
  refine off1_of news fun p hp e => ?_
  have h1 := G p.1 p.2 (N p hp).1 List.not_mem_nil
  rw [e] at h1
  have h2 := (N' (D, o) hD).2.2
  rw [h2] at h1
  cases h1
theorem made_offU {h₀ h g h' : Heap} {L L' D l : Addr} {o : Obj} {news own' : List (Addr × Obj)} (N : News h₀ L h news) (G : GSub h g [l]) (N' : News g L' h' own') (hD : (D, o) ∈ own') (hl : D ≠ l) : LCg.Off1 D news := by
  refine off1_of news fun p hp e => ?_
  have h1 := G p.1 p.2 (N p hp).1 (by rw [e]; simpa using hl)
  rw [e] at h1
  have h2 := (N' (D, o) hD).2.2
  rw [h2] at h1
  cases h1
end
theorem anew_UnstL : True := by (w_top off); first | walk1 | trivial
-- Check
section


def chk1 (k : Int) (p : Nat) (r : Int) : Int := if Int.fmod (r + Int.fdiv k (2 ^ (0 + (p : Int)).toNat)) 2 = 1 then Builtin.bitXor (Int.fdiv r 2) 3988292384 else Builtin.bitXor (Int.fdiv r 2) 0
def chkN (k : Int) : Nat → Int → Int
  | 0, r => r
  | p + 1, r => chk1 k p (chkN k p r)
def chkOct (r k : Int) : Int := chkN k 8 r
def chkF (ks : List Int) : Int := Builtin.bitXor (ks.foldl chkOct 4294967295) 4294967295
theorem check_c (w : World) (mean : ExcName → Option Value) (mg mb : Str → Option Value)
    {dp un : Nat} {gd : Option (List Code)} {cn : Str} {cs : Scope} {a : Addr} {ccd : Value} {cl : List (Str × Addr)} {outer : List Env} {A₀ : Around} {base h₀ : Heap} {L : Addr} {m : Str → Option Value} {news : List (Addr × Obj)} {s : Shared} {Q E : Value → Shared → Prop}
    (B : Below A₀ base outer h₀) (F : Fr h₀ L s.heap m) (X : (Mine.top0.heap_39 w.params).In h₀) (N : News h₀ L s.heap news) (T : Top topProg ownNames mean mg mb h₀) (hk : cs.kind = .function)
    {b : Array UInt8} {tb : Tok}
    (hd : dp + 1 < recursionLimit) (hu : un + 8 < cLine)
    (hret : ∀ t h' tk', Fr h₀ L h' m → News h₀ L h' news → Q (.int (chkF (KBw.bInts b)) t) { s with heap := h', toks := tk' }) :
    wpAny (model PySem.Challenge.rw_on0221_01.row.prog w) (ktrTop dp un gd cn cs L a ccd cl outer) (call (.ref 123) [.bytes b tb]) Q E s := by
  revert X; k_fill; intro X
  have Nw : News h₀ L s.heap [] := News.nil
  have N0 := Aside.mk N
  clear N
  refine ends_at ?_
  refine wpAny_call ?_
  k_dflt (refine' code_defG ?k1 ?k2 ?k3 ?k4 ?k5 ?kA ?kF ?kK ?k6 ?k7 ?k8 ?k9 ?kB ?_ ?c2 ?c3 ?c4 ?c5; (case kA => exact rfl); (case kF => exact rfl); (case kK => assumption); (case k1 => k_asm); (case k2 => k_asm); (case k3 => k_asm); (case k4 => exact Nw); (case k5 => k_asm); (case k6 => k_is); (case k7 => k_is); (case k8 => ktr_room); (case k9 => first | exact BindsTo.of_eq rfl | exact binds_K (by k_in) rfl (by k_is) rfl rfl rfl); (case c5 => decide); (case kB => exact locs rfl); (case c2 => exact rfl); (case c3 => exact rfl); (case c4 => exact rfl); k_whole)
  intro g1 L1 h1 FG1 F1 N1 B1 X1 T1 GS1
  try dsimp only
  try k_fold
  k_steps
  refine Stop.mk ?_
  rename News _ _ _ _ => Nx
  refine loop_bytes (σ := Int × Tok) (fun _ => _) (fun d => [(Str.ofString "rest", .int d.1 d.2)]) [Str.ofString "place", Str.ofString "is_odd"] (fun i d => d.1 = ((KBw.bInts b).take i).foldl chkOct 4294967295) (_, _) rfl (by assumption) Nx (by kst_all) rfl ?_ ?_
  · intro i d k t u h tk own hk' hk0 hk1 hR hoff F2 N2
    simp only [List.nil_append] at N2
    dsimp only [kstB] at F2
    try k_fold
    k_steps
    refine Stop.mk ?_
    rename News _ _ _ _ => Ny
    refine loop_range (σ := Int × Tok) (fun _ => _) (fun d => [(Str.ofString "rest", .int d.1 d.2)]) [Str.ofString "is_odd"] (n := 8) (fun j d' => d'.1 = chkN k j d.1) (_, _) rfl (by assumption) (by decide) (by decide) (by assumption) Ny (by kst_all) rfl ?_ ?_
    · intro j d' t' u' h' tk' own' hj hR' hoff' F3 N3
      try dsimp only at N3
      dsimp only [kstB] at F3
      try k_fold
      k_steps
      all_goals (refine turn_end (_, _) (by assumption) (by assumption) (by kst_in) (by kst_in) rfl (by kst_all) (by kst_same) ?_)
      · show _ = chk1 k j (chkN k j d.1)
        rw [← hR', chk1, if_pos (by assumption)]
      · show _ = chk1 k j (chkN k j d.1)
        rw [← hR', chk1, if_neg (by assumption)]
    · intro d' u' h' tk' hR' F3 N3
      dsimp only [kstB] at F3
      k_steps
      (refine turn_end (_, _) (by assumption) (by assumption) (by kst_in) (by kst_in) rfl (by kst_all) (by kst_same) ?_)
      show _ = ((KBw.bInts b).take (i + 1)).foldl chkOct 4294967295
      rw [fold_snoc hk', ← hR, hR']
      rfl
  · intro d u h tk hR F2 N2
    dsimp only [kstB] at F2
    rw [List.take_length] at hR
    k_steps
    rw [hR]
    exact EndAt.mk (hret _ _ _ (by assumption) (news_back0 N0.out GS1 F2 News.nil))
end
theorem anew_Check : True := by (w_top off); first | walk1 | trivial
-- OneG
section

/-- back to the caller's ledger: the call was given one object to turn -/
theorem news_backU {h₀ h gr h' : Heap} {L L' l : Addr} {m' : Str → Option Value} {news own' : List (Addr × Obj)} {g : Obj → List (Addr × Obj)} {o o' : Obj} (N : News h₀ L h news) (U : UpdF l o news g) (G : GSub h gr [l]) (F' : Fr gr L' h' m') (N' : News h₀ L h' (own' ++ [(l, o')])) :
    News h₀ L h' (own' ++ g o') := by
  obtain ⟨pre, post, rfl, hg, h1, h2⟩ := U.split
  intro p hp
  rcases List.mem_append.mp hp with hp | hp
  · exact N' _ (List.mem_append_left _ hp)
  · rw [hg] at hp
    rcases List.mem_append.mp hp with hp | hp
    · have z := N p (List.mem_append_left _ hp)
      exact ⟨F'.keep _ _ (G _ _ z.1 (by simpa using h1 p hp)), z.2⟩
    · rcases List.mem_cons.mp hp with rfl | hp
      · exact N' _ (List.mem_append_right _ (.head _))
      · have z := N p (List.mem_append_right _ (.tail _ hp))
        exact ⟨F'.keep _ _ (G _ _ z.1 (by simpa using h2 p hp)), z.2⟩
theorem news_src {h₀ h : Heap} {L l : Addr} {o : Obj} {news : List (Addr × Obj)} {g : Obj → List (Addr × Obj)} (N : News h₀ L h news) (U : UpdF l o news g) : News h₀ L h [(l, o)] := by
  obtain ⟨rest, N2, _, _⟩ := news_reord N U
  exact fun p hp => N2 p (by rw [List.mem_singleton.mp hp]; exact .head _)

theorem oneG_c (w : World) (mean : ExcName → Option Value) (mg mb : Str → Option Value)
    {dp un : Nat} {gd : Option (List Code)} {cn : Str} {cs : Scope} {a : Addr} {ccd : Value} {cl : List (Str × Addr)} {outer : List Env} {A₀ : Around} {base h₀ : Heap} {L : Addr} {m : Str → Option Value} {news : List (Addr × Obj)} {s : Shared} {Q E : Value → Shared → Prop}
    (B : Below A₀ base outer h₀) (F : Fr h₀ L s.heap m) (X : (Mine.top0.heap_39 w.params).In h₀) (N : News h₀ L s.heap news) (T : Top topProg ownNames mean mg mb h₀) (hk : cs.kind = .function)
    {l t : Addr} {x y : Int} {tx ty : Tok} {n : Nat} {g : Obj → List (Addr × Obj)} {vs : List Value} {ns : List Int}
    (U : UpdF l (listOf #[.int x tx, .int y ty] n) news g) (hT : s.heap.IsList t vs.toArray) (htl : t ≠ l) (hi : IntsAre vs ns) (h1 : 0 < ns.length) (h2 : ns.length < 65536)
    (hx : 0 ≤ x) (hy : 0 ≤ y) (hy2 : y < 2147483647) (hd : dp + 2 < recursionLimit) (hu : un + 16 < cLine)
    (hret : ∀ d td x' tx' y' ty' n' h' tk', d ∈ ns → 0 ≤ x' → 0 ≤ y' → y' < 2147483647 → Fr h₀ L h' m → News h₀ L h' (g (listOf #[.int x' tx', .int y' ty'] n')) → Q (.int d td) { s with heap := h', toks := tk' }) :
    wpAny (model PySem.Challenge.rw_on0221_01.row.prog w) (ktrTop dp un gd cn cs L a ccd cl outer) (call (.ref 111) [.ref l, .ref t]) Q E s := by
  revert X; k_fill; intro X
  have Nw := news_src N U
  have N0 := Aside.mk N
  have U0 := Aside.mk U
  clear N U
  refine ends_at ?_
  refine wpAny_call ?_
  k_dflt (refine' code_defG ?k1 ?k2 ?k3 ?k4 ?k5 ?kA ?kF ?kK ?k6 ?k7 ?k8 ?k9 ?kB ?_ ?c2 ?c3 ?c4 ?c5; (case kA => exact rfl); (case kF => exact rfl); (case kK => assumption); (case k1 => k_asm); (case k2 => k_asm); (case k3 => k_asm); (case k4 => exact Nw); (case k5 => k_asm); (case k6 => k_is); (case k7 => k_is); (case k8 => ktr_room); (case k9 => first | exact BindsTo.of_eq rfl | exact binds_K (by k_in) rfl (by k_is) rfl rfl rfl); (case c5 => decide); (case kB => exact locs rfl); (case c2 => exact rfl); (case c3 => exact rfl); (case c4 => exact rfl); k_whole)
  intro g1 L1 h1 FG1 F1 N1 B1 X1 T1 GS1
  try dsimp only
  have hT1 : g1.IsList t vs.toArray := hT.at fun o e => GS1 t o e (by simpa using htl)
  clear hT
  try k_fold
  k_steps
  rename News h₀ L _ _ => NX
  rename Fr g1 L1 _ _ => FX
  have NY := news_backU (own' := []) N0.out U0.out GS1 FX NX
  refine EndAt.mk (hret _ _ _ _ _ _ _ _ _ (getD_mem (by assumption) (by assumption)) ?_ ?_ ?_ (by assumption) NY) <;> assumption
theorem mem_bound {P : Prop} {hds row : List Int} {d : Int} (hm : d ∈ hds) (h : ∀ k ∈ hds, 0 ≤ k ∧ k + 5 ≤ (row.length : Int)) (k : 0 ≤ d → d + 5 ≤ (row.length : Int) → P) : P := k (h d hm).1 (h d hm).2
theorem kept_list {g h : Heap} {L l : Addr} {m : Str → Option Value} {its : Array Value} (F : Fr g L h m) (hl : g.IsList l its) : h.IsList l its := hl.at fun o e => F.keep _ o e
theorem ints4 {a b c d : Int} {t u v z : Tok} : IntsAre [.int a t, .int b u, .int c v, .int d z] [a, b, c, d] := .cons _ _ (.cons _ _ (.cons _ _ (.cons _ _ .nil)))
theorem ints2 {a b : Int} {t u : Tok} : IntsAre [.int a t, .int b u] [a, b] := .cons _ _ (.cons _ _ .nil)
end
theorem anew_OneG : True := by (w_top off); first | walk1 | trivial
-- Sum
section


def lsumF (ls : List Int) : Int := ((ls.length : Int) + (enumF (fun i k => ((ls.length : Int) - (i : Int)) * k) 0 ls).sum).fmod 65521 * 65536 + (1 + ls.sum).fmod 65521
local macro_rules | `(tactic| walk_at "eval ListComp") => `(tactic| (k_here; k_dflt (refine enum_comp (F₀ := by k_asm) (by with_unfolding_all rfl) (by decide) (by rfl) (by decide) (by rfl) (by rfl) (by decide) ?_)))
local macro_rules | `(tactic| walk_at "call type:enumerate") => `(tactic| (k_here; refine Stop.out ?_))
theorem sum_c (w : World) (mean : ExcName → Option Value) (mg mb : Str → Option Value)
    {dp un : Nat} {gd : Option (List Code)} {cn : Str} {cs : Scope} {a : Addr} {ccd : Value} {cl : List (Str × Addr)} {outer : List Env} {A₀ : Around} {base h₀ : Heap} {L : Addr} {m : Str → Option Value} {news : List (Addr × Obj)} {s : Shared} {Q E : Value → Shared → Prop}
    (B : Below A₀ base outer h₀) (F : Fr h₀ L s.heap m) (X : (Mine.top0.heap_39 w.params).In h₀) (N : News h₀ L s.heap news) (T : Top topProg ownNames mean mg mb h₀) (hk : cs.kind = .function)
    {D : Addr} {vs : List Value} {ls : List Int} (hD : s.heap.IsList D vs.toArray) (hi : IntsAre vs ls) (hb : ∀ k ∈ ls, 0 ≤ k ∧ k < 256) (hlen : ls.length < 4096)
    (hd : dp + 2 < recursionLimit) (hu : un + 16 < cLine)
    (hret : ∀ t h' tk', Fr h₀ L h' m → News h₀ L h' news → Q (.int (lsumF ls) t) { s with heap := h', toks := tk' }) :
    wpAny (model PySem.Challenge.rw_on0221_01.row.prog w) (ktrTop dp un gd cn cs L a ccd cl outer) (call (.ref 116) [.ref D]) Q E s := by
  revert X; k_fill; intro X
  have Nw : News h₀ L s.heap [] := News.nil
  have N0 := Aside.mk N
  clear N
  refine ends_at ?_
  refine wpAny_call ?_
  k_dflt (refine' code_cellG ?k1 ?k2 ?k3 ?k4 ?k5 ?kA ?kF ?kK ?k6 ?k7 ?k8 ?k9 ?kB ?kD ?_ ?c2 ?c3 ?c4; (case kA => exact rfl); (case kF => exact rfl); (case kK => assumption); (case k1 => k_asm); (case k2 => k_asm); (case k3 => k_asm); (case k4 => exact Nw); (case k5 => k_asm); (case k6 => k_is); (case k7 => k_is); (case k8 => ktr_room); (case k9 => first | exact BindsTo.of_eq rfl | exact binds_K (by k_in) rfl (by k_is) rfl rfl rfl); (case kB => exact rfl); (case kD => decide +kernel); (case c2 => exact rfl); (case c3 => exact rfl); (case c4 => exact rfl); k_whole)
  intro g1 L1 h1 tk1 cells1 FG1 F1 N1 Y1 B1 X1 T1 GS1
  k_cells Y1
  try simp only [List.cons_append, List.nil_append] at N1
  try dsimp only
  have hD1 : g1.IsList D vs.toArray := hD.at fun o e => GS1 D o e (by simp)
  clear hD
  try k_fold
  k_steps
  refine Stop.mk (enum_src_call (fun i k => ((ls.length : Int) - (i : Int)) * k) (by assumption) (by assumption) rfl hD1 hi (by have h9 := hi.length; have : sizeLine = 16777216 := rfl; omega) ?_ ?_)
  · intro g9 i k t u I oI I2 oI2 C oC D2 oD m9 h9 tk9 E9 hk9 hoC hx hx2 F9 N9 off9 ne9
    have off8 := Aside.mk off9
    simp only [LCg.Off3, and_true] at off9
    have hk1 := hb k (List.mem_of_getElem? hk9)
    obtain ⟨hk2, hk3⟩ := hk1
    have hi9 : i < ls.length := by
      obtain ⟨q, _⟩ := List.getElem?_eq_some_iff.mp hk9
      exact q
    k_steps
    exact LCg.CompEnd.intro (by assumption) (by assumption) _ (fun p hp => hp) off8.out rfl ⟨_, rfl⟩
  · intro D2 h9 tk9 ys F9 N9 hys
    k_steps
    exact EndAt.mk (hret _ _ _ (by assumption) (news_back0 N0.out GS1 (by assumption) News.nil))
end
theorem anew_Sum : True := by (w_top off); first | walk1 | trivial
-- Four
section


theorem k4 {k : Int} (h : k ∈ ([3, 2, 1, 0] : List Int)) : 0 ≤ k ∧ k ≤ 1000000 := by
  simp only [List.mem_cons, List.not_mem_nil, or_false] at h
  omega
theorem pow4 {k : Int} (h : k ∈ ([3, 2, 1, 0] : List Int)) : ((256 : Int) ^ k.toNat).natAbs < 1073741824 := by
  simp only [List.mem_cons, List.not_mem_nil, or_false] at h
  rcases h with rfl | rfl | rfl | rfl <;> decide
theorem pow_ne (n : Nat) : (256 : Int) ^ n ≠ 0 := Int.pow_ne_zero (by decide)
local macro_rules | `(tactic| walk_at "binaryOp Pow int int") => `(tactic| (k_here; (with_reducible refine pow_int_small ?p1 ?p2 ?p3 ?_); (case p1 => exact (k4 (by assumption)).1); (case p2 => exact (k4 (by assumption)).2); (case p3 => decide)))
local macro_rules | `(tactic| walk_at "binaryOp FloorDiv int int") => `(tactic| (k_here; (with_reducible refine floordiv_int (pow_ne _) ?_ (Or.inl (PyProof.noPylong_small (pow4 (by assumption)))))))
theorem news_head {g h : Heap} {L : Addr} {p : Addr × Obj} {r : List (Addr × Obj)} (N : News g L h (p :: r)) : News g L h [p] := fun q hq => N q (by rw [List.mem_singleton.mp hq]; exact .head _)
theorem four_c (w : World) (mean : ExcName → Option Value) (mg mb : Str → Option Value)
    {dp un : Nat} {gd : Option (List Code)} {cn : Str} {cs : Scope} {a : Addr} {ccd : Value} {cl : List (Str × Addr)} {outer : List Env} {A₀ : Around} {base h₀ : Heap} {L : Addr} {m : Str → Option Value} {news : List (Addr × Obj)} {s : Shared} {Q E : Value → Shared → Prop}
    (B : Below A₀ base outer h₀) (F : Fr h₀ L s.heap m) (X : (Mine.top0.heap_39 w.params).In h₀) (N : News h₀ L s.heap news) (T : Top topProg ownNames mean mg mb h₀) (hk : cs.kind = .function)
    {z : Int} {tz : Tok}
    (hd : dp + 2 < recursionLimit) (hu : un + 16 < cLine)
    (hret : ∀ D vs n h' tk', IntsAre vs (([3, 2, 1, 0] : List Int).map fun k => (z.fdiv (256 ^ k.toNat)).fmod 256) → Fr h₀ L h' m → News h₀ L h' ((D, listOf vs.toArray n) :: news) → Q (.ref D) { s with heap := h', toks := tk' }) :
    wpAny (model PySem.Challenge.rw_on0221_01.row.prog w) (ktrTop dp un gd cn cs L a ccd cl outer) (call (.ref 128) [.int z tz]) Q E s := by
  revert X; k_fill; intro X
  have Nw : News h₀ L s.heap [] := News.nil
  have N0 := Aside.mk N
  clear N
  refine ends_at ?_
  refine wpAny_call ?_
  k_dflt (refine' code_cellG ?k1 ?k2 ?k3 ?k4 ?k5 ?kA ?kF ?kK ?k6 ?k7 ?k8 ?k9 ?kB ?kD ?_ ?c2 ?c3 ?c4; (case kA => exact rfl); (case kF => exact rfl); (case kK => assumption); (case k1 => k_asm); (case k2 => k_asm); (case k3 => k_asm); (case k4 => exact Nw); (case k5 => k_asm); (case k6 => k_is); (case k7 => k_is); (case k8 => ktr_room); (case k9 => first | exact BindsTo.of_eq rfl | exact binds_K (by k_in) rfl (by k_is) rfl rfl rfl); (case kB => exact rfl); (case kD => decide +kernel); (case c2 => exact rfl); (case c3 => exact rfl); (case c4 => exact rfl); k_whole)
  intro g1 L1 h1 tk1 cells1 FG1 F1 N1 Y1 B1 X1 T1 GS1
  k_cells Y1
  try simp only [List.cons_append, List.nil_append] at N1
  try dsimp only
  try k_fold
  k_steps
  rename News h₀ L _ _ => NX
  rename Fr g1 L1 _ _ => FX
  have NY := news_back0 N0.out GS1 FX (news_head NX)
  exact EndAt.mk (hret _ _ _ _ _ (by assumption) (by assumption) NY)
end
theorem anew_Four : True := by (w_top off); first | walk1 | trivial
-- PlainC
section

theorem nat_xor_and : ∀ (n a b : Nat), a ≤ n → a + b = (a ^^^ b) + 2 * (a &&& b)
  | 0, a, b, h => by
    have : a = 0 := by omega
    subst this; simp
  | n + 1, a, b, h => by
    by_cases ha : a = 0
    · subst ha; simp
    have ih := nat_xor_and n (a / 2) (b / 2) (by omega)
    have e1 : (a ^^^ b) / 2 = a / 2 ^^^ b / 2 := by
      have := Nat.shiftRight_xor_distrib (a := a) (b := b) (i := 1)
      simpa [Nat.shiftRight_eq_div_pow] using this
    have e2 : (a &&& b) / 2 = a / 2 &&& b / 2 := by
      have := Nat.shiftRight_and_distrib (a := a) (b := b) (i := 1)
      simpa [Nat.shiftRight_eq_div_pow] using this
    have e3 : (a ^^^ b) % 2 = (a + b) % 2 := by
      rcases Nat.mod_two_eq_zero_or_one a with p | p <;> rcases Nat.mod_two_eq_zero_or_one b with q | q <;> rcases Nat.mod_two_eq_zero_or_one (a ^^^ b) with r | r <;> have z := @Nat.xor_mod_two_eq_one a b <;> simp [p, q, r] at z <;> omega
    have e4 : (a &&& b) % 2 = (a % 2) * (b % 2) := by
      rcases Nat.mod_two_eq_zero_or_one a with p | p <;> rcases Nat.mod_two_eq_zero_or_one b with q | q <;> rcases Nat.mod_two_eq_zero_or_one (a &&& b) with r | r <;> have z := @Nat.and_mod_two_eq_one a b <;> simp [p, q, r] at z ⊢
    rw [← e1, ← e2] at ih
    rcases Nat.mod_two_eq_zero_or_one a with p | p <;> rcases Nat.mod_two_eq_zero_or_one b with q | q <;> simp only [p, q] at e4 <;> omega
theorem bitXor_nat (a b : Nat) : Builtin.bitXor (a : Int) (b : Int) = ((a ^^^ b : Nat) : Int) := by
  rw [bitXor_and, bitAnd_pp (Int.natCast_nonneg _) (Int.natCast_nonneg _), Int.toNat_natCast, Int.toNat_natCast]
  have := nat_xor_and a a b (Nat.le_refl _)
  omega
theorem bitXor_inv (a b : Nat) : Builtin.bitXor (Builtin.bitXor (a : Int) (b : Int)) (b : Int) = (a : Int) := by
  rw [bitXor_nat, bitXor_nat, Nat.xor_assoc, Nat.xor_self, Nat.xor_zero]
/-- one bit, over the naturals -/
def nbit (c : Nat) : Nat := (c / 2) ^^^ (if c % 2 = 1 then 3988292384 else 0)
theorem bit1_nat (c : Nat) : bit1 (c : Int) = (nbit c : Int) := by
  have e : Int.fdiv (c : Int) (2 ^ Int.toNat 1) = ((c / 2 : Nat) : Int) := by
    rw [Int.fdiv_eq_ediv_of_nonneg _ (by decide)]; simp
  have e2 : Builtin.bitAnd (c : Int) 1 = ((c % 2 : Nat) : Int) := by rw [bitAnd_m1]; simp
  unfold bit1 nbit
  rw [e, e2]
  rcases Nat.mod_two_eq_zero_or_one c with p | p
  · rw [p]; simp
  · rw [p]
    simp only [if_true]
    exact bitXor_nat _ _
theorem div2_xor (a b : Nat) : (a ^^^ b) / 2 = a / 2 ^^^ b / 2 := by
  have := Nat.shiftRight_xor_distrib (a := a) (b := b) (i := 1)
  simpa [Nat.shiftRight_eq_div_pow] using this
theorem mod2_xor (a b : Nat) : (a ^^^ b) % 2 = (a + b) % 2 := by
  have := nat_xor_and a a b (Nat.le_refl _)
  omega
theorem nbit_even (c : Nat) (h : c % 2 = 0) : nbit c = c / 2 := by
  unfold nbit; rw [h]; simp
theorem nbit_xor (a b : Nat) : nbit (a ^^^ b) = nbit a ^^^ nbit b := by
  unfold nbit
  rw [div2_xor, mod2_xor]
  rcases Nat.mod_two_eq_zero_or_one a with p | p <;> rcases Nat.mod_two_eq_zero_or_one b with q | q
  · rw [p, q, show (a + b) % 2 = 0 by omega]; simp
  · rw [p, q, show (a + b) % 2 = 1 by omega]; simp [Nat.xor_assoc]
  · rw [p, q, show (a + b) % 2 = 1 by omega]; simp only [if_true]; rw [if_neg (by decide), Nat.xor_zero]; ac_rfl
  · rw [p, q, show (a + b) % 2 = 0 by omega]
    simp only [if_true]; rw [if_neg (by decide), Nat.xor_zero]
    have : (3988292384 : Nat) ^^^ 3988292384 = 0 := Nat.xor_self _
    calc a / 2 ^^^ b / 2 = a / 2 ^^^ b / 2 ^^^ 0 := by simp
      _ = a / 2 ^^^ b / 2 ^^^ (3988292384 ^^^ 3988292384) := by rw [this]
      _ = _ := by ac_rfl
def nbits : Nat → Nat → Nat
  | 0, c => c
  | n + 1, c => nbit (nbits n c)
theorem bits_nat (n c : Nat) : bits n (c : Int) = (nbits n c : Int) := by
  induction n with
  | zero => rfl
  | succ n ih => show bit1 (bits n c) = _; rw [ih, bit1_nat]; rfl
theorem nbits_xor (n a b : Nat) : nbits n (a ^^^ b) = nbits n a ^^^ nbits n b := by
  induction n with
  | zero => rfl
  | succ n ih => show nbit (nbits n _) = _; rw [ih, nbit_xor]; rfl
theorem nbits_high (n c : Nat) : nbits n (c * 2 ^ n) = c := by
  induction n generalizing c with
  | zero => simp [nbits]
  | succ n ih =>
    show nbit (nbits n _) = _
    have e : c * 2 ^ (n + 1) = (c * 2) * 2 ^ n := by rw [Nat.pow_succ, Nat.mul_comm (2 ^ n), Nat.mul_assoc]
    rw [e, ih, nbit_even _ (by omega)]; omega
theorem split_xor (c n : Nat) : c = (c % 2 ^ n) ^^^ (c / 2 ^ n * 2 ^ n) := by
  have h1 := nat_xor_and _ (c % 2 ^ n) (c / 2 ^ n * 2 ^ n) (Nat.le_refl _)
  rw [nat_apart (Nat.mod_lt _ (Nat.two_pow_pos n))] at h1
  have h2 := Nat.mod_add_div c (2 ^ n)
  rw [Nat.mul_comm] at h2
  omega
theorem tab16_at {i : Nat} (h : i < 16) : tab16.getD i 0 = (nbits 4 i : Int) := by
  have e : tab16[i]? = some (bits 4 (i : Int)) := by
    rw [tab16, List.getElem?_map]
    simp [rangeKs, h]
  rw [List.getD_eq_getElem?_getD, e, Option.getD_some, bits_nat]
theorem nib_nat (c : Nat) : nib (c : Int) = (nbits 4 c : Int) := by
  unfold nib
  have e1 : Builtin.bitAnd (c : Int) 15 = ((c % 16 : Nat) : Int) := by rw [bitAnd_m4]; simp
  have e2 : Int.fdiv (c : Int) (2 ^ Int.toNat 4) = ((c / 16 : Nat) : Int) := by
    rw [Int.fdiv_eq_ediv_of_nonneg _ (by decide)]; simp
  rw [e1, e2, Int.toNat_natCast, tab16_at (Nat.mod_lt _ (by decide)), bitXor_nat]
  have e3 : nbits 4 c = nbits 4 (c % 16) ^^^ (c / 16) := by
    have h := congrArg (nbits 4) (split_xor c 4)
    rw [nbits_xor, nbits_high] at h
    exact h
  rw [e3]
theorem nbits_add (a b c : Nat) : nbits a (nbits b c) = nbits (a + b) c := by
  induction a with
  | zero => simp [nbits]
  | succ a ih => rw [Nat.add_right_comm]; show nbit _ = nbit _; rw [ih]
theorem crcOct_nat (c k : Nat) : crcOct (c : Int) (k : Int) = (nbits 8 (c ^^^ k) : Int) := by
  unfold crcOct
  rw [bitXor_nat, nib_nat, nib_nat, nbits_add]
theorem chk1_nat (k p r : Nat) : chk1 (k : Int) p (r : Int) = ((nbit (r ^^^ (k / 2 ^ p % 2)) : Nat) : Int) := by
  unfold chk1 nbit
  have e0 : (0 + (p : Int)).toNat = p := by omega
  have e1 : Int.fdiv (k : Int) (2 ^ p) = ((k / 2 ^ p : Nat) : Int) := by
    rw [Int.fdiv_eq_ediv_of_nonneg _ (Int.le_of_lt (Int.pow_pos (by decide)))]; simp
  have e2 : Int.fdiv (r : Int) 2 = ((r / 2 : Nat) : Int) := by
    rw [Int.fdiv_eq_ediv_of_nonneg _ (by decide)]; simp
  have e3 : Int.fmod ((r : Int) + ((k / 2 ^ p : Nat) : Int)) 2 = (((r + k / 2 ^ p) % 2 : Nat) : Int) := by
    rw [Int.fmod_eq_emod_of_nonneg _ (by decide)]; simp
  rw [e0, e1, e2, e3, div2_xor, mod2_xor]
  have e4 : k / 2 ^ p % 2 / 2 = 0 := by omega
  rw [e4, Nat.xor_zero, Nat.add_mod_mod]
  rcases Nat.mod_two_eq_zero_or_one (r + k / 2 ^ p) with q | q
  · rw [q]; simp [bitXor_zero]
  · rw [q]; simp only [if_true]; exact bitXor_nat _ _
theorem chkN_nat (k p r : Nat) : ∃ x : Nat, chkN (k : Int) p (r : Int) = (x : Int) ∧ nbits p (r ^^^ k) = x ^^^ (k / 2 ^ p) := by
  induction p with
  | zero => exact ⟨r, rfl, by simp [nbits]⟩
  | succ p ih =>
    obtain ⟨x, e1, e2⟩ := ih
    refine ⟨nbit (x ^^^ (k / 2 ^ p % 2)), ?_, ?_⟩
    · show chk1 (k : Int) p (chkN (k : Int) p (r : Int)) = _
      rw [e1, chk1_nat]
    · show nbit (nbits p _) = _
      rw [e2]
      have h := split_xor (k / 2 ^ p) 1
      have e : k / 2 ^ (p + 1) = k / 2 ^ p / 2 := by rw [Nat.pow_succ, Nat.div_div_eq_div_mul]
      rw [e]
      have e5 : nbit (k / 2 ^ p / 2 * 2) = k / 2 ^ p / 2 := by rw [nbit_even _ (by omega)]; omega
      calc nbit (x ^^^ (k / 2 ^ p)) = nbit (x ^^^ ((k / 2 ^ p % 2) ^^^ (k / 2 ^ p / 2 * 2))) := by rw [show k / 2 ^ p % 2 ^^^ k / 2 ^ p / 2 * 2 = k / 2 ^ p from h.symm]
        _ = nbit ((x ^^^ (k / 2 ^ p % 2)) ^^^ (k / 2 ^ p / 2 * 2)) := by rw [Nat.xor_assoc]
        _ = _ := by rw [nbit_xor, e5]
theorem chkOct_nat {k : Nat} (hk : k < 256) (r : Nat) : chkOct (r : Int) (k : Int) = ((nbits 8 (r ^^^ k) : Nat) : Int) := by
  obtain ⟨x, e1, e2⟩ := chkN_nat k 8 r
  have e : k / 2 ^ 8 = 0 := Nat.div_eq_of_lt hk
  rw [e, Nat.xor_zero] at e2
  show chkN (k : Int) 8 (r : Int) = _
  rw [e1, e2]
theorem crc_fold : ∀ (ks : List Int), (∀ k ∈ ks, 0 ≤ k) → ∀ r : Nat, ∃ x : Nat, ks.foldl crcOct (r : Int) = (x : Int)
  | [], _, r => ⟨r, rfl⟩
  | k :: ks, h, r => by
    obtain ⟨k', rfl⟩ := Int.eq_ofNat_of_zero_le (h k (.head _))
    show ∃ x : Nat, ks.foldl crcOct (crcOct (r : Int) (k' : Int)) = _
    rw [crcOct_nat]
    exact crc_fold ks (fun z hz => h z (.tail _ hz)) _
theorem crc_chk : ∀ (ks : List Int), (∀ k ∈ ks, 0 ≤ k ∧ k < 256) → ∀ r : Nat, ks.foldl crcOct (r : Int) = ks.foldl chkOct (r : Int)
  | [], _, r => rfl
  | k :: ks, h, r => by
    have h1 := h k (.head _)
    obtain ⟨k', rfl⟩ := Int.eq_ofNat_of_zero_le h1.1
    show ks.foldl crcOct (crcOct (r : Int) (k' : Int)) = ks.foldl chkOct (chkOct (r : Int) (k' : Int))
    rw [crcOct_nat, chkOct_nat (by omega)]
    exact crc_chk ks (fun z hz => h z (.tail _ hz)) _
theorem crc_check {ks : List Int} (h : ∀ k ∈ ks, 0 ≤ k ∧ k < 256) : crcF 0 ks = chkF ks := by
  unfold crcF chkF
  have e : Builtin.bitXor 0 4294967295 = ((4294967295 : Nat) : Int) := by decide
  rw [e, crc_chk ks h]
  rfl
theorem crc_partsP {ks : List Int} {c : Nat} (hk : ∀ k ∈ ks, 0 ≤ k) (hc : c ≤ ks.length) : crcF (crcF 0 (ks.take c)) ((ks.drop c).take (ks.length - c)) = crcF 0 ks := by
  have e0 : Builtin.bitXor 0 4294967295 = ((4294967295 : Nat) : Int) := by decide
  have e1 : (ks.drop c).take (ks.length - c) = ks.drop c := List.take_of_length_le (by rw [List.length_drop]; omega)
  rw [e1]
  obtain ⟨x, hx⟩ := crc_fold (ks.take c) (fun k h => hk k (List.mem_of_mem_take h)) 4294967295
  have e2 : crcF 0 (ks.take c) = Builtin.bitXor (x : Int) ((4294967295 : Nat) : Int) := by
    unfold crcF
    rw [e0, hx]; rfl
  rw [e2]
  have e3 : Builtin.bitXor (Builtin.bitXor (x : Int) ((4294967295 : Nat) : Int)) 4294967295 = (x : Int) := bitXor_inv x 4294967295
  unfold crcF
  rw [e3, e0, ← hx, ← List.foldl_append, List.take_append_drop]
end
theorem anew_PlainC : True := by (w_top off); first | walk1 | trivial
-- CleanF
section

section
variable {M : Model} {A : Around} {E : Value → Shared → Prop} {s : Shared} {env : Env}
theorem wpC_If {test body orelse pos} {Q : Flow → Shared → Prop}
    (h : wpC M A (isTrue test env (eval test env)) (fun b s₂ => if b = true then wpC M A (execs body env) Q E s₂ else wpC M A (execs orelse env) Q E s₂) E s) :
    wpC M A (exec (.If test body orelse pos) env) Q E s := by
  rw [exec_If]
  refine wpC_bind (wpC_standAt (wpC_bind (wpC_mono h (fun b s₂ h₂ => ?_) fun _ _ x => x)))
  cases b with
  | true => simpa using h₂
  | false => simpa using h₂
theorem wpC_isTrue_or {x rest pos whole} {Q : Bool → Shared → Prop}
    (h : wpC M A (isTrue x env (eval x env)) (fun c s' => if c = true then Q true s' else wpC M A (isTrue (.BoolOp .Or rest pos) env whole) Q E s') E s) :
    wpC M A (isTrue (.BoolOp .Or (x :: rest) pos) env whole) Q E s := by
  show wpC M A (do
    match BoolOp.Or, ← isTrue x env (eval x env) with
    | .And, false => pure false
    | .Or, true => pure true
    | _, _ => allTrue .Or rest env) Q E s
  refine wpC_bind (wpC_mono h (fun c s' h' => ?_) fun _ _ x => x)
  cases c with
  | true => exact wpC_pure (by simpa using h')
  | false =>
    rw [if_neg (by decide)] at h'
    exact h'
theorem wpC_isTrue_or_nil {pos whole} {Q : Bool → Shared → Prop} (h : Q false s) : wpC M A (isTrue (.BoolOp .Or [] pos) env whole) Q E s := wpC_pure (a := false) h
theorem wpC_isTrue_not {x pos whole} {Q : Bool → Shared → Prop} (h : wpC M A (isTrue x env (eval x env)) (fun c s' => Q (!c) s') E s) : wpC M A (isTrue (.UnaryOp .Not x pos) env whole) Q E s := by
  show wpC M A (do return !(← isTrue x env (eval x env))) Q E s
  exact wpC_bind (wpC_mono h (fun c s' h' => wpC_pure h') fun _ _ x => x)
theorem wpC_isTrue_Compare1 {l op r pos whole} {Q : Bool → Shared → Prop}
    (h : wpC M A (eval l env) (fun a s₁ => wpAny M A (eval r env) (fun b s₂ => wpAny M A (compareOp op a b) (fun c s₃ => wpAny M A (truthy c) Q E s₃) E s₂) E s₁) E s)
    (hm : behindInMarks op r = false := by with_unfolding_all rfl) : wpC M A (isTrue (.Compare l [op] [r] pos) env whole) Q E s := fun Γ p hΓ hC => by
  simp only [isTrue_Compare1, markedBehindIn_of_false hm, Sem.wp_bind', Sem.wp_holding, Sem.wp_cmd_standAt, Sem.wp_operate]
  exact Sem.wp_mono M Γ _ (fun a p₁ s₁ h₁ => Sem.wp_mono M Γ _ (fun b _ s₂ h₂ => Sem.wp_mono M Γ _ (fun c p₃ s₃ h₃ => h₃ Γ p₃ hΓ)
    (fun _ _ _ h' => h') _ _ (h₂ Γ _ hΓ)) (fun _ _ _ h' => h') _ _ (h₁ Γ p₁ hΓ)) (fun _ _ _ h' => h') _ _ (h Γ p hΓ hC)
/-- a call of a def that the text knows, one argument, none -/
theorem wpC_callWith_of1 {pos : Pos} {f : Value} {first : List Value} {x : Sem Value} {P : Heap → Prop} {Q : Value → Shared → Prop}
    (hk : ∀ h, P h → ∃ k, (k = Keeper.frame ∨ k = Keeper.machine ∨ k = Keeper.boundFrame) ∧ Looks M h (keeperOf f) k)
    (h : wpAny M A x (fun v s₁ => P s₁.heap ∧ wpC M A (call f (first ++ [v])) Q E s₁) E s) : wpC M A (callWith pos f first [(false, x)] []) Q E s := by
  unfold callWith
  refine wpC_bind (wpC_any (wpAny_holding (evalArgs_plain (spliced_cons (wpAny_mono h (fun v s₁ h₁ => spliced_nil ?_) fun _ _ x => x)))))
  refine wpC_bind (wpC_standAt ?_)
  obtain ⟨k, hk', L⟩ := hk _ h₁.1
  refine wpC_then (P := fun k' s' => k = k' ∧ s₁ = s') (L.here ⟨rfl, rfl⟩) ?_
  rintro _ _ ⟨rfl, rfl⟩
  have tail : ∀ {t : Sem Value}, wpC M A t Q E s₁ → wpC M A (t >>= fun r => holding [r] point >>= fun _ => pure r) Q E s₁ :=
    fun ht => wpC_bind (wpC_mono ht (fun r s₂ hr => wpC_bind (wpC_holding (wpC_point (wpC_pure hr)))) fun _ _ x => x)
  rcases hk' with rfl | rfl | rfl
  · exact tail (by unfold callMarked; exact wpC_keep h₁.2)
  · exact tail h₁.2
  · exact tail (by unfold callMarked; exact wpC_keep h₁.2)
theorem wpC_callWith_of0 {pos : Pos} {f : Value} {first : List Value} {P : Heap → Prop} {Q : Value → Shared → Prop}
    (hk : ∀ h, P h → ∃ k, (k = Keeper.frame ∨ k = Keeper.machine ∨ k = Keeper.boundFrame) ∧ Looks M h (keeperOf f) k)
    (hP : P s.heap) (h : wpC M A (call f (first ++ [])) Q E s) : wpC M A (callWith pos f first [] []) Q E s := by
  unfold callWith
  refine wpC_then (P := fun a s₁ => ⟨[], []⟩ = a ∧ s = s₁) (wpAny_holding (PyProof.Rows.evalArgs_nil3 ⟨rfl, rfl⟩)) ?_
  rintro _ _ ⟨rfl, rfl⟩
  refine wpC_bind (wpC_standAt ?_)
  obtain ⟨k, hk', L⟩ := hk _ hP
  refine wpC_then (P := fun k' s' => k = k' ∧ s = s') (L.here ⟨rfl, rfl⟩) ?_
  rintro _ _ ⟨rfl, rfl⟩
  have tail : ∀ {t : Sem Value}, wpC M A t Q E s → wpC M A (t >>= fun r => holding [r] point >>= fun _ => pure r) Q E s :=
    fun ht => wpC_bind (wpC_mono ht (fun r s₂ hr => wpC_bind (wpC_holding (wpC_point (wpC_pure hr)))) fun _ _ x => x)
  rcases hk' with rfl | rfl | rfl
  · exact tail (by unfold callMarked; exact wpC_keep h)
  · exact tail h
  · exact tail (by unfold callMarked; exact wpC_keep h)
theorem wpC_Return_some {e : Expr} {pos : Pos} {Q : Flow → Shared → Prop} (h : wpC M A (eval e env) (fun v s₁ => Q (.ret v) s₁) E s) : wpC M A (exec (.Return (some e) pos) env) Q E s := by
  rw [exec_Return_some]
  exact wpC_bind (wpC_standAt (wpC_bind (wpC_mono h (fun v s' h' => wpC_pure h') fun _ _ x => x)))
theorem wpC_Call_ofName2 {x : Str} {np pos : Pos} {args : List Expr} {keywords : List Keyword} {Q : Value → Shared → Prop}
    (h : wpC M A (eval (.Name x np) env) (fun f s₁ => wpC M A (callWith pos f [] (backTo pos (starEach args env)) (backToKw pos (keywordEach keywords env))) Q E s₁) E s) :
    wpC M A (eval (.Call (.Name x np) args keywords pos) env) Q E s := wpC_Call_ofName h
end
end
theorem anew_CleanF : True := by (w_top off); first | walk1 | trivial
-- Unst
section


local macro_rules | `(tactic| walk_at "exec Raise some none") => `(tactic| (refine Stop.out ?_))
local macro_rules | `(tactic| walk_at "execs nil") => `(tactic| (refine wpAny_execs_nil ?_))
local macro_rules | `(tactic| walk_at "call ref") => `(tactic| (k_here; (with_reducible show wpAny _ _ (call (Value.ref 83) _) _ _ _); k_dflt (refine' block_c _ _ _ _ ?k1 ?k2 ?k3 ?k4 ?k5 ?kK ?kb ?a1 ?a2 ?a3 ?kd ?ku ?_ ?_; (case k1 | k2 | k3 | k4 | k5 => k_asm); (case kK => first | exact rfl | assumption); (case kb => assumption); (case a1 | a2 | a3 => omega); (case kd => ktr_room); (case ku => ktr_units); k_whole); (first | (intro z' t' h' tk' hz' F' N'; (try dsimp only at N' ⊢); (try k_fold)) | (intro e' t' vs' G' h' tk' hz' F' R' U'; (try dsimp only)))))
local macro_rules | `(tactic| walk_at "call ref") => `(tactic| (k_here; (with_reducible show wpAny _ _ (call (Value.ref 53) _) _ _ _); k_dflt (refine' get32_c _ _ _ _ ?k1 ?k2 ?k3 ?k4 ?k5 ?kK ?kb ?a1 ?a2 ?a3 ?kd ?ku ?_; (case k1 | k2 | k3 | k4 | k5 => k_asm); (case kK => first | exact rfl | assumption); (case kb => assumption); (case a1 | a2 | a3 => omega); (case kd => ktr_room); (case ku => ktr_units); k_whole); (intro t' h' tk' F' N'; (try dsimp only at N' ⊢); (try k_fold))))
local macro_rules | `(tactic| walk_at "call ref") => `(tactic| (k_here; (with_reducible show wpAny _ _ (call (Value.ref 76) _) _ _ _); k_dflt (refine' adler_c _ _ _ _ ?k1 ?k2 ?k3 ?k4 ?k5 ?kK ?kb ?kd ?ku ?_; (case k1 | k2 | k3 | k4 | k5 => k_asm); (case kK => first | exact rfl | assumption); (case kb => (rename News _ _ _ _ => lN'); exact (lN' _ (by k_mem)).1); (case kd => ktr_room); (case ku => ktr_units); k_whole); (intro t' h' tk' F' N'; (try dsimp only at N' ⊢); (try k_fold))))
local macro_rules | `(tactic| walk_at "call type:bytes") => `(tactic| (k_here; (with_reducible show wpAny _ _ (call (Value.type "bytes") [Value.ref _]) _ _ _); k_dflt (refine' bytes_ba_K ?k1 ?k2 ?k3 ?k4 ?_; (case k1 | k2 => k_asm); (case k3 => k_mem); (case k4 => (have : sizeLine = 16777216 := rfl; omega)); k_whole); (intro t' tk' F' N'; (try dsimp only at N' F' ⊢); (try k_fold))))
set_option maxHeartbeats 2000000 in
theorem unst_g (w : World) (mean : ExcName → Option Value) (mg mb : Str → Option Value)
    {dp un : Nat} {gd : Option (List Code)} {cn : Str} {cs : Scope} {a : Addr} {ccd : Value} {cl : List (Str × Addr)} {outer : List Env} {A₀ : Around} {base h₀ : Heap} {L : Addr} {m : Str → Option Value} {news : List (Addr × Obj)} {s : Shared} {Q E : Value → Shared → Prop}
    (B : Below A₀ base outer h₀) (F : Fr h₀ L s.heap m) (X : (Mine.top0.heap_39 w.params).In h₀) (N : News h₀ L s.heap news) (T : Top topProg ownNames mean mg mb h₀) (hk : cs.kind = .function)
    {b : Array UInt8} {ks : List Int} {tb : Tok} (hb : KBw.bInts b = ks) (hlen : ks.length < 1048000)
    (hd : dp + 4 < recursionLimit) (hu : un + 32 < cLine)
    (hret : ∀ z t h' tk', unstF ks = some (KBw.bInts z) → Fr h₀ L h' m → News h₀ L h' news → Q (.bytes z t) { s with heap := h', toks := tk' })
    (herr : ∀ e t vs G h' tk', unstF ks = none → Fr h₀ L G m → GSub s.heap G [] → RaisedS base G (envX cn cs L a ccd cl :: outer) e (.ref 44) t vs [] h' → G.UpToSlots h' → E (.ref e) { s with heap := h', toks := tk' }) :
    wpC (model PySem.Challenge.rw_on0221_01.row.prog w) (ktrTop dp un gd cn cs L a ccd cl outer) (call (.ref 90) [.bytes b tb]) Q E s := by
  revert X; k_fill; intro X
  have Nw : News h₀ L s.heap [] := News.nil
  have N0 := Aside.mk N
  clear N
  refine ends_atC ?_
  refine wpC_call ?_
  k_dflt (refine' code_defC ?k1 ?k2 ?k3 ?k4 ?k5 ?kA ?kF ?kK ?k6 ?k7 ?k8 ?k9 ?kB ?_ ?c2 ?c3 ?c4 ?c5; (case kA => exact rfl); (case kF => exact rfl); (case kK => assumption); (case k1 => k_asm); (case k2 => k_asm); (case k3 => k_asm); (case k4 => exact Nw); (case k5 => k_asm); (case k6 => k_is); (case k7 => k_is); (case k8 => ktr_room); (case k9 => first | exact BindsTo.of_eq rfl | exact binds_K (by k_in) rfl (by k_is) rfl rfl rfl); (case c5 => decide); (case kB => exact locs rfl); (case c2 => exact rfl); (case c3 => exact rfl); (case c4 => exact rfl); k_whole)
  intro g1 L1 h1 FG1 F1 N1 B1 X1 T1 GS1
  try dsimp only
  try k_fold
  refine wpC_execs_cons (wpC_piece ?_)
  intro Q1 E1 hQ1
  k_steps
  any_goals (
    refine Stop.mk (raise_sheet w mean mg mb B1 (by assumption) X1 T1 rfl rfl rfl rfl (by ktr_room) rfl rfl ?_)
    intro e t vs h' tk' hm
    obtain ⟨rfl, rfl⟩ := hQ1.out
    refine wpC_any (leave_raiseX B1 hm (by assumption) (by assumption) (fun h'' R U => ?_))
    refine herr e t vs g1 h'' tk' ?_ FG1 GS1 R U
    clear hQ1
    first
      | (refine unst_bad1 ?_; with_reducible assumption)
      | (refine unst_bad2 ?_; with_reducible assumption)
      | (refine unst_bad3 ?_; with_reducible assumption)
      | (refine unst_bad4 ?_; with_reducible assumption))
  refine EndAt.mk ?_
  try dsimp only
  obtain ⟨rfl, rfl⟩ := hQ1.out
  clear hQ1
  have hgood : ¬ hdrBad ks := by refine unst_good ?_ ?_ ?_ ?_ <;> with_reducible assumption
  try dsimp only
  refine wpC_execs_cons (endsC ?_)
  intro Q1 E1 hQ1
  refine wpC_Assign_Swapped (wpC_tuple_first (wpC_Call_ofName (wpC_piece ?_)))
  intro Q2 E2 hQ2
  k_steps
  refine EndAt.mk ?_
  try dsimp only
  obtain ⟨rfl, rfl⟩ := hQ2.out
  clear hQ2
  try dsimp only
  rename Fr g1 L1 h1 _ => F1
  obtain ⟨f, hfe⟩ : ∃ f, f = h1.objs.size := ⟨_, rfl⟩
  refine wpC_callWith_type0 (wpC_call_ba fun h2 hf2 hk2 => ?_)
  dsimp only at hf2 hk2 ⊢
  rw [← hfe] at hf2 ⊢
  have hfL : f ≠ L1 := hfe ▸ (Nat.ne_of_gt F1.ns.lt)
  have hfg : g1.get? f = none := hfe ▸ next_is_new F1
  have N2 : News g1 L1 h2 [(f, baObj #[])] := fun p hp => by
    rw [List.mem_singleton.mp hp]; exact ⟨hf2, hfL, hfg⟩
  have F2 := Fr.keeps F1 hk2
  clear F1 N1 hf2 hk2 hfe
  k_steps
  refine EndAt.mk ?_
  try dsimp only
  obtain ⟨rfl, rfl⟩ := hQ1.out
  clear hQ1
  try dsimp only
  rename Fr g1 L1 _ _ => F3
  rename News g1 L1 _ _ => N3
  refine wpC_execs_cons (endsC ?_)
  intro Q1 E1 hQ1
  refine wpC_WhileU (UI g1 L1 f _ ks s) (UE base g1 L1 (envX cn cs L a ccd cl :: outer) ks s) ?_ ?_ _ ⟨2, #[], false, _, _, _, _, rfl, F3, by kst_all, fun _ _ _ _ => rfl, fun q hq => N3 q (List.Mem.tail _ hq), by omega, by omega, by decide, rfl, ks.length, by omega, rfl⟩
  · clear F3 N3
    rintro e s' ⟨hno, ea, t, vs, G, m', h', tk', rfl, rfl, FG, R, U⟩
    refine noted_S B1 R U fun h3 R3 U3 => ?_
    refine back_H R3 U3 fun h4 R4 U4 => ?_
    dsimp only
    obtain ⟨rfl, rfl⟩ := hQ1.out
    refine wpC_any (leave_heldS R4 FG U4 fun h5 R5 _ U5 => ?_)
    exact herr ea t vs g1 h5 tk' hno FG1 GS1 R5 U5
  · rintro n s1 ⟨p, acc, fl, t, m₁, h3, tk3, rfl, FI, hps, hrest, NI, hp2, hpl, hac, rfl, hfn⟩
    have F4 := kst_frOut (x := Str.ofString "size") hps hrest FI
    dsimp only [kstB] at F4
    clear FI hps hrest F3 N3
    try dsimp only at hfn
    refine ends_any ?_
    intro Q2 E2 hQ2
    cases fl
    · k_steps
      refine EndAt.mk ?_
      try dsimp only
      obtain ⟨rfl, rfl⟩ := hQ2.out
      clear hQ2
      simp only [Bool.not_false, if_true]
      refine wpC_execs_cons (wpC_piece ?_)
      intro Q2 E2 hQ2
      k_steps
      rotate_left
      · try dsimp only
        obtain ⟨rfl, rfl⟩ := hQ2.out
        exact ⟨unst_none hgood hfn (by assumption), _, _, _, _, _, _, _, rfl, rfl, by assumption, by assumption, by assumption⟩
      refine EndAt.mk ?_
      try dsimp only
      obtain ⟨rfl, rfl⟩ := hQ2.out
      clear hQ2
      rename blkF ks p = some _ => hz
      obtain ⟨hfit, hz0, hz1⟩ := blk_fit hb hz
      refine wpC_execs_cons (wpC_piece ?_)
      intro Q2 E2 hQ2
      k_steps
      refine EndAt.mk ?_
      try dsimp only
      obtain ⟨rfl, rfl⟩ := hQ2.out
      clear hQ2
      try dsimp only
      rename Fr g1 L1 _ _ => F5
      rename News g1 L1 _ _ => N5
      refine wpC_execs_cons (endsC ?_)
      intro Q2 E2 hQ2
      refine wpC_Expr_none rfl rfl (wpC_Call_extend rfl rfl rfl rfl (ends_any ?_)) rfl
      intro Q3 E3 hQ3
      k_steps
      refine EndAt.mk ?_
      try dsimp only
      obtain ⟨rfl, rfl⟩ := hQ3.out
      clear hQ3
      refine ⟨f, acc, rfl, (N5 _ (.head _)).1, ends_any ?_⟩
      intro Q3 E3 hQ3
      k_steps
      refine EndAt.mk ?_
      try dsimp only
      obtain ⟨rfl, rfl⟩ := hQ3.out
      clear hQ3
      try dsimp only
      rename Fr g1 L1 _ _ => F6
      rename News g1 L1 _ _ => N6
      rename KBw.bInts (KBy.picked _ _ _) = _ => hsl
      rw [slice_clip (by omega) hz0 hfit] at hsl
      have hxl := ext_len (acc := acc) hsl hz0
      refine wpC_extend (N6 _ (.head _)).1 (by have : sizeLine = 16777216 := rfl; omega) fun h7 e1 e2 => ?_
      try dsimp only at e2 ⊢
      obtain ⟨F7, N7⟩ := turned1 F6 N6 e1 e2
      clear F6 N6 e1 e2
      refine ⟨rfl, EndAt.mk ?_⟩
      obtain ⟨rfl, rfl⟩ := hQ2.out
      clear hQ2
      try dsimp only
      refine wpC_execs_cons (wpC_piece ?_)
      intro Q2 E2 hQ2
      k_steps
      refine EndAt.mk ?_
      try dsimp only
      obtain ⟨rfl, rfl⟩ := hQ2.out
      clear hQ2
      try dsimp only
      rename Fr g1 L1 _ _ => F8
      rename News g1 L1 _ _ => N8
      refine wpC_execs_nil ⟨_, ?_, _, _, _, _, _, _, _, rfl, F8, by kst_all, by kst_same, N8, ?_, ?_, ?_, rfl, uns_turn hfn hz hz0 hfit hsl⟩
      · omega
      · omega
      · omega
      · omega
    · k_steps
      refine EndAt.mk ?_
      try dsimp only
      obtain ⟨rfl, rfl⟩ := hQ2.out
      clear hQ2
      rw [if_neg (by decide)]
      refine EndAt.mk ?_
      obtain ⟨rfl, rfl⟩ := hQ1.out
      clear hQ1
      try dsimp only
      rw [if_pos rfl] at hfn
      refine wpC_piece ?_
      intro Q2 E2 hQ2
      k_steps
      · refine Stop.mk (raise_sheet w mean mg mb B1 (by assumption) X1 T1 rfl rfl rfl rfl (by ktr_room) rfl rfl ?_)
        intro e t vs h' tk' hm
        obtain ⟨rfl, rfl⟩ := hQ2.out
        refine wpC_any (leave_raiseX B1 hm (by assumption) News.nil (fun h'' R U => ?_))
        refine herr e t vs g1 h'' tk' ?_ FG1 GS1 R U
        clear hQ2
        exact unst_end1 hfn (by with_reducible assumption)
      · refine Stop.mk (raise_sheet w mean mg mb B1 (by assumption) X1 T1 rfl rfl rfl rfl (by ktr_room) rfl rfl ?_)
        intro e t vs h' tk' hm
        obtain ⟨rfl, rfl⟩ := hQ2.out
        refine wpC_any (leave_raiseX B1 hm (by assumption) News.nil (fun h'' R U => ?_))
        refine herr e t vs g1 h'' tk' ?_ FG1 GS1 R U
        clear hQ2
        exact unst_end2 hfn (by with_reducible assumption)
      · refine EndAt.mk ?_
        try dsimp only
        obtain ⟨rfl, rfl⟩ := hQ2.out
        clear hQ2
        rename Fr g1 L1 _ _ => F9
        k_steps
        exact EndAt.mk (hret _ _ _ _ (unst_end3 hgood hfn (by with_reducible assumption) (by with_reducible assumption)) (by assumption) (news_back0 N0.out GS1 F9 News.nil))
theorem unst_c (w : World) (mean : ExcName → Option Value) (mg mb : Str → Option Value)
    {dp un : Nat} {gd : Option (List Code)} {cn : Str} {cs : Scope} {a : Addr} {ccd : Value} {cl : List (Str × Addr)} {outer : List Env} {A₀ : Around} {base h₀ : Heap} {L : Addr} {m : Str → Option Value} {news : List (Addr × Obj)} {s : Shared} {Q E : Value → Shared → Prop}
    (B : Below A₀ base outer h₀) (F : Fr h₀ L s.heap m) (X : (Mine.top0.heap_39 w.params).In h₀) (N : News h₀ L s.heap news) (T : Top topProg ownNames mean mg mb h₀) (hk : cs.kind = .function)
    {b : Array UInt8} {ks : List Int} {tb : Tok} (hb : KBw.bInts b = ks) (hlen : ks.length < 1048000)
    (hd : dp + 4 < recursionLimit) (hu : un + 32 < cLine)
    (hret : ∀ z t h' tk', unstF ks = some (KBw.bInts z) → Fr h₀ L h' m → News h₀ L h' news → Q (.bytes z t) { s with heap := h', toks := tk' })
    (herr : ∀ e t vs G h' tk', unstF ks = none → Fr h₀ L G m → RaisedS base G (envX cn cs L a ccd cl :: outer) e (.ref 44) t vs [] h' → G.UpToSlots h' → E (.ref e) { s with heap := h', toks := tk' }) :
    wpC (model PySem.Challenge.rw_on0221_01.row.prog w) (ktrTop dp un gd cn cs L a ccd cl outer) (call (.ref 90) [.bytes b tb]) Q E s :=
  unst_g w mean mg mb B F X N T hk hb hlen hd hu hret fun e t vs G h' tk' hz F' _ R U => herr e t vs G h' tk' hz F' R U
end
theorem anew_Unst : True := by (w_top off); first | walk1 | trivial
-- Pool
section


theorem pool_lo (a : Int) (c : Bool) : 0 ≤ (if -1 - a > a then -1 - a else a) * (if c = true then 1 else 0) := by
  by_cases h : c = true
  · rw [if_pos h]
    by_cases q : -1 - a > a
    · rw [if_pos q]; omega
    · rw [if_neg q]; omega
  · rw [if_neg h]; simp
theorem pool_c (w : World) (mean : ExcName → Option Value) (mg mb : Str → Option Value)
    {dp un : Nat} {gd : Option (List Code)} {cn : Str} {cs : Scope} {a : Addr} {ccd : Value} {cl : List (Str × Addr)} {outer : List Env} {A₀ : Around} {base h₀ : Heap} {L : Addr} {m : Str → Option Value} {news : List (Addr × Obj)} {s : Shared} {Q E : Value → Shared → Prop}
    (B : Below A₀ base outer h₀) (F : Fr h₀ L s.heap m) (X : (Mine.top0.heap_39 w.params).In h₀) (N : News h₀ L s.heap news) (T : Top topProg ownNames mean mg mb h₀) (hk : cs.kind = .function)
    {S : Addr} {vs : List Value} {ns : List Int} (hS : s.heap.IsList S vs.toArray) (hi : IntsAre vs ns) (hn : ns.length ≤ 63)
    (hd : dp + 1 < recursionLimit) (hu : un + 8 < cLine)
    (hret : ∀ D x y tx ty n h' tk', LCg.Off1 D news → 0 ≤ x → 0 ≤ y → y < 2147483647 → Fr h₀ L h' m → News h₀ L h' ((D, listOf #[.int x tx, .int y ty] n) :: news) → Q (.ref D) { s with heap := h', toks := tk' }) :
    wpAny (model PySem.Challenge.rw_on0221_01.row.prog w) (ktrTop dp un gd cn cs L a ccd cl outer) (call (.ref 97) [.ref S]) Q E s := by
  revert X; k_fill; intro X
  have Nw : News h₀ L s.heap [] := News.nil
  have N0 := Aside.mk N
  clear N
  refine ends_at ?_
  refine wpAny_call ?_
  k_dflt (refine' code_defG ?k1 ?k2 ?k3 ?k4 ?k5 ?kA ?kF ?kK ?k6 ?k7 ?k8 ?k9 ?kB ?_ ?c2 ?c3 ?c4 ?c5; (case kA => exact rfl); (case kF => exact rfl); (case kK => assumption); (case k1 => k_asm); (case k2 => k_asm); (case k3 => k_asm); (case k4 => exact Nw); (case k5 => k_asm); (case k6 => k_is); (case k7 => k_is); (case k8 => ktr_room); (case k9 => first | exact BindsTo.of_eq rfl | exact binds_K (by k_in) rfl (by k_is) rfl rfl rfl); (case c5 => decide); (case kB => exact locs rfl); (case c2 => exact rfl); (case c3 => exact rfl); (case c4 => exact rfl); k_whole)
  intro g1 L1 h1 FG1 F1 N1 B1 X1 T1 GS1
  try dsimp only
  have hS1 : g1.IsList S vs.toArray := hS.at fun o e => GS1 S o e (by simp)
  clear hS
  try k_fold
  k_steps
  · rename News h₀ L _ _ => NX
    have NY := news_back0 N0.out GS1 (by assumption) NX
    rename News g1 L1 _ _ => NZ
    exact EndAt.mk (hret _ _ _ _ _ _ _ _ (made_off N0.out GS1 NZ (.head _)) (pool_lo _ _) (fmod_lo _ (by decide)) (fmod_hi _ (by decide)) (by assumption) NY)
  · rename News h₀ L _ _ => NX
    have NY := news_back0 N0.out GS1 (by assumption) NX
    rename News g1 L1 _ _ => NZ
    exact EndAt.mk (hret _ _ _ _ _ _ _ _ (made_off N0.out GS1 NZ (.head _)) (pool_lo _ _) (fmod_lo _ (by decide)) (fmod_hi _ (by decide)) (by assumption) NY)
end
theorem anew_Pool : True := by (w_top off); first | walk1 | trivial
-- Stream
section


def blockF (last : Int) (ls : List Int) : List Int := [last, Int.fmod (ls.length : Int) 256, Int.fdiv (ls.length : Int) 256, 255 - Int.fmod (ls.length : Int) 256, 255 - Int.fdiv (ls.length : Int) 256] ++ ls
def rowN (n : Nat) : Nat → List (List Int) → List Int
  | _, [] => []
  | i, ls :: r => blockF (if ((i : Nat) : Int) = (n : Int) - 1 then 1 else 0) ls ++ rowN n (i + 1) r
theorem rowN_snoc (n : Nat) (ls : List Int) : ∀ (i : Nat) (lss : List (List Int)), rowN n i (lss ++ [ls]) = rowN n i lss ++ blockF (if ((i + lss.length : Nat) : Int) = (n : Int) - 1 then 1 else 0) ls
  | i, [] => by simp [rowN]
  | i, x :: r => by
    show _ ++ rowN n (i + 1) (r ++ [ls]) = (_ ++ rowN n (i + 1) r) ++ _
    rw [rowN_snoc n ls (i + 1) r, List.append_assoc]
    have e : i + 1 + r.length = i + (x :: r).length := by simp; omega
    rw [e]
def headAt (lss : List (List Int)) (j : Nat) : Int := 2 + ((rowN lss.length 0 (lss.take j)).length : Int)
def headsN (lss : List (List Int)) (i : Nat) : List Int := (List.range i).map (headAt lss)
/-- what holds between two turns -/
def SJ (lss : List (List Int)) (m₀ : Str → Option Value) (i : Nat) (m : Str → Option Value) (news : List (Addr × Obj)) : Prop :=
  ∃ (Ra H : Addr) (rvs hvs : List Value) (rn hn : Nat), news = [(Ra, listOf rvs.toArray rn), (H, listOf hvs.toArray hn)] ∧ IntsAre rvs ([120, 1] ++ rowN lss.length 0 (lss.take i)) ∧ IntsAre hvs (headsN lss i) ∧
    (∀ q ∈ [(Str.ofString "row", Value.ref Ra), (Str.ofString "heads", Value.ref H)], m q.1 = some q.2) ∧
    (∀ z, z ≠ Str.ofString "size" → (∀ q ∈ [(Str.ofString "row", Value.ref Ra), (Str.ofString "heads", Value.ref H)], z ≠ q.1) → [Str.ofString "at_now", Str.ofString "lot"].contains z = false → m z = m₀ z) ∧ Ra ≠ H
theorem kst_fr2 {h₀ h : Heap} {L : Addr} {x a b : Str} {u w : Option Value} {ps : List (Str × Value)} {stored : List Str} {m₀ m₁ : Str → Option Value} (h1 : ∀ p ∈ ps, m₁ p.1 = some p.2) (h2 : ∀ z, z ≠ x → (∀ p ∈ ps, z ≠ p.1) → stored.contains z = false → m₁ z = m₀ z)
    (F : Fr h₀ L h (fun y => if y = a then u else if y = b then w else m₁ y)) : Fr h₀ L h (fun y => if y = a then u else if y = b then w else if y = x then m₁ y else kstB (fun z => if stored.contains z then m₁ z else m₀ z) ps y) := by
  have em : (fun y => if y = a then u else if y = b then w else if y = x then m₁ y else kstB (fun z => if stored.contains z then m₁ z else m₀ z) ps y) = fun y => if y = a then u else if y = b then w else m₁ y := by
    funext y
    by_cases hy : y = x
    · rw [if_pos hy]
    · rw [if_neg hy, kst_off h1 h2 hy]
  rw [em]
  exact F
theorem rowN_small {lss : List (List Int)} (hsz : ∀ ls ∈ lss, ls.length < 512) (i : Nat) : (rowN lss.length 0 (lss.take i)).length ≤ 517 * lss.length := by
  have key : ∀ (r : List (List Int)) (j : Nat), (∀ ls ∈ r, ls.length < 512) → (rowN lss.length j r).length ≤ 517 * r.length := by
    intro r
    induction r with
    | nil => intro j _; exact Nat.le_refl _
    | cons a r ih =>
      intro j h
      have h1 := h a (.head _)
      have h2 := ih (j + 1) fun x hx => h x (.tail _ hx)
      simp only [rowN, blockF, List.length_append, List.length_cons, List.length_nil]
      omega
  have h3 := key (lss.take i) 0 fun ls hl => hsz ls (List.mem_of_mem_take hl)
  have h4 : (lss.take i).length ≤ lss.length := by rw [List.length_take]; exact Nat.min_le_right _ _
  omega
theorem news_swap {g h : Heap} {L : Addr} {p q r : Addr × Obj} {rest : List (Addr × Obj)} (N : News g L h (p :: q :: r :: rest)) : News g L h [r, q] := fun x hx => by
  rcases List.mem_cons.mp hx with rfl | hx
  · exact N _ (.tail _ (.tail _ (.head _)))
  · rw [List.mem_singleton.mp hx]; exact N _ (.tail _ (.head _))
theorem news_pick {g h : Heap} {L : Addr} {p1 p2 p3 p4 p5 p6 p7 : Addr × Obj} (N : News g L h [p1, p2, p3, p4, p5, p6, p7]) : News g L h ([p4, p5] ++ [p1, p7]) := fun x hx => N x (by
  simp only [List.cons_append, List.nil_append, List.mem_cons, List.not_mem_nil, or_false] at hx ⊢
  rcases hx with h | h | h | h <;> simp [h])
theorem news_pick3 {g h : Heap} {L : Addr} {p1 p2 p3 p4 p5 p6 : Addr × Obj} (N : News g L h [p1, p2, p3, p4, p5, p6]) : News g L h [p1, p2, p6] := fun x hx => N x (by
  simp only [List.mem_cons, List.not_mem_nil, or_false] at hx ⊢
  rcases hx with h | h | h <;> simp [h])
theorem stream_off {D H e it : Addr} {o1 o2 oe oi : Obj} (d1 : @Ne Nat D e) (d2 : @Ne Nat D it) (r3 : @Ne Nat H e) (r4 : @Ne Nat H it) : ∀ p ∈ [(D, o1), (H, o2)], ∀ q ∈ [(e, oe), (it, oi)], p.1 ≠ q.1 := fun p hp q hq => by
  rcases List.mem_cons.mp hp with rfl | hp <;> rcases List.mem_cons.mp hq with rfl | hq
  · exact d1
  · rw [List.mem_singleton.mp hq]; exact d2
  · rw [List.mem_singleton.mp hp]; exact r3
  · rw [List.mem_singleton.mp hp, List.mem_singleton.mp hq]; exact r4
theorem flat_small {lss : List (List Int)} (hsz : ∀ ls ∈ lss, ls.length < 512) (hlen : lss.length < 8) : lss.flatten.length < 4096 := by
  have key : ∀ r : List (List Int), (∀ ls ∈ r, ls.length < 512) → r.flatten.length ≤ 511 * r.length := by
    intro r
    induction r with
    | nil => intro _; exact Nat.le_refl _
    | cons a r ih =>
      intro h
      have h1 := h a (.head _)
      have h2 := ih fun x hx => h x (.tail _ hx)
      rw [List.flatten_cons, List.length_append, List.length_cons]
      omega
  have := key lss hsz
  omega
local macro_rules | `(tactic| walk_at "eval ListComp") => `(tactic| (k_here; (rename Fr _ _ _ _ => lF'); k_dflt (refine flat_compF lF' (by decide) (by decide) rfl (by decide) rfl (by decide) rfl (by decide) ?_)))
local macro_rules | `(tactic| walk_at "exec For Tuple Call cons nil") => `(tactic| (k_here; (rename Fr _ _ _ _ => lF'); (with_unfolding_all refine' For_enumF lF' ?k0 ?k1 ?k2 ?k3 ?_; (case k0 | k1 | k2 | k3 => exact rfl); k_whole)))
local macro_rules | `(tactic| walk_at "call type:enumerate") => `(tactic| (k_here; refine Stop.out ?_))
local macro_rules | `(tactic| size_fits) => `(tactic| assumption)
theorem len_lots {prog : Program} {w : World} {A : Around} {E : Value → Shared → Prop} {s : Shared} {h₀ : Heap} {L l : Addr} {m : Str → Option Value} {vals : List Value} {lss : List (List Int)} {Q : Value → Shared → Prop}
    (F : Fr h₀ L s.heap m) (hl : h₀.IsList l vals.toArray) (hn : vals.length = lss.length) (hb : lss.length < 8) (h : ∀ t k, Q (.int (lss.length : Int) t) { s with toks := k }) : wpAny (model prog w) A (call (.builtin "len") [.ref l]) Q E s := by
  refine Calls.call_len_list (hl.at fun o e => F.keep _ o e) ?_ ?_
  · rw [List.size_toArray, hn]; omega
  · rw [List.size_toArray, hn]; exact h _ _
local macro_rules | `(tactic| walk_at "call builtin:len") => `(tactic| (k_here; (with_reducible show wpAny _ _ (call (Value.builtin _) [Value.ref _]) _ _ _); (with_reducible refine' len_lots ?k1 ?k2 ?k3 ?k4 ?_; (case k2 | k3 | k4 | k1 => assumption)); intro t' k'; (try dsimp only)))
theorem stream_c (w : World) (mean : ExcName → Option Value) (mg mb : Str → Option Value)
    {dp un : Nat} {gd : Option (List Code)} {cn : Str} {cs : Scope} {a : Addr} {ccd : Value} {cl : List (Str × Addr)} {outer : List Env} {A₀ : Around} {base h₀ : Heap} {L : Addr} {m : Str → Option Value} {news : List (Addr × Obj)} {s : Shared} {Q E : Value → Shared → Prop}
    (B : Below A₀ base outer h₀) (F : Fr h₀ L s.heap m) (X : (Mine.top0.heap_39 w.params).In h₀) (N : News h₀ L s.heap news) (T : Top topProg ownNames mean mg mb h₀) (hk : cs.kind = .function)
    {l : Addr} {vals : List Value} {lss : List (List Int)} (hl : s.heap.IsList l vals.toArray) (hL : LotsAre s.heap vals lss) (hlen0 : 0 < lss.length) (hlen : lss.length < 8) (hsz : ∀ ls ∈ lss, ls.length < 512) (hoct : ∀ ls ∈ lss, ∀ k ∈ ls, 0 ≤ k ∧ k < 256)
    (hd : dp + 4 < recursionLimit) (hu : un + 32 < cLine)
    (hret : ∀ T Ra H rvs hvs rn hn nt h' tk', LCg.Off1 T news → LCg.Off1 Ra news → LCg.Off1 H news → IntsAre rvs ([120, 1] ++ rowN lss.length 0 lss ++ (([3, 2, 1, 0] : List Int).map fun k => (lsumF lss.flatten).fdiv (256 ^ k.toNat) |>.fmod 256)) → IntsAre hvs (headsN lss lss.length) →
      Fr h₀ L h' m → News h₀ L h' ((T, { cls := .type "tuple", data := .seq #[.ref Ra, .ref H] nt }) :: (Ra, listOf rvs.toArray rn) :: (H, listOf hvs.toArray hn) :: news) → Q (.ref T) { s with heap := h', toks := tk' }) :
    wpAny (model PySem.Challenge.rw_on0221_01.row.prog w) (ktrTop dp un gd cn cs L a ccd cl outer) (call (.ref 133) [.ref l]) Q E s := by
  revert X; k_fill; intro X
  have Nw : News h₀ L s.heap [] := News.nil
  have N0 := Aside.mk N
  clear N
  refine ends_at ?_
  refine wpAny_call ?_
  k_dflt (refine' code_defG ?k1 ?k2 ?k3 ?k4 ?k5 ?kA ?kF ?kK ?k6 ?k7 ?k8 ?k9 ?kB ?_ ?c2 ?c3 ?c4 ?c5; (case kA => exact rfl); (case kF => exact rfl); (case kK => assumption); (case k1 => k_asm); (case k2 => k_asm); (case k3 => k_asm); (case k4 => exact Nw); (case k5 => k_asm); (case k6 => k_is); (case k7 => k_is); (case k8 => ktr_room); (case k9 => first | exact BindsTo.of_eq rfl | exact binds_K (by k_in) rfl (by k_is) rfl rfl rfl); (case c5 => decide); (case kB => exact locs rfl); (case c2 => exact rfl); (case c3 => exact rfl); (case c4 => exact rfl); k_whole)
  intro g1 L1 h1 FG1 F1 N1 B1 X1 T1 GS1
  try dsimp only
  have hl1 : g1.IsList l vals.toArray := hl.at fun o e => GS1 l o e (by simp)
  have hL1 : LotsAre g1 vals lss := hL.keeps fun b o e => GS1 b o e (by simp)
  have hvl := hL1.length
  clear hl hL
  try k_fold
  k_steps
  rename Fr g1 L1 _ _ => F2
  rename News g1 L1 _ _ => N2
  obtain ⟨T0, H0, R0, eT, eH, eR⟩ := head3 N2
  subst eT eH eR
  have N3 := news_swap N2
  have hRH : R0 ≠ H0 := by k_ne
  refine Stop.mk (grow_enum_call (SJ lss _) F2 N3 hl1 ⟨R0, H0, _, _, _, _, rfl, .cons _ _ (.cons _ _ .nil), .nil, by kst_all, fun _ _ _ _ => rfl, hRH⟩ ?_ ?_)
  · rintro i v t e oe it oi m₁ news₁ h tk hv ⟨Ra, H, rvs, hvs, rn, hn, rfl, hrv, hhv, hm1, hm2, hne⟩ off F4 N4
    have F5 := kst_fr2 hm1 hm2 F4
    dsimp only [kstB] at F5
    clear F4 F2 N2 N3
    obtain ⟨al, its, ls, rfl, hal, hits, hls⟩ := hL1.get hv
    have hil : i < lss.length := by rw [← hvl]; exact (List.getElem?_eq_some_iff.mp hv).1
    have hls2 := hsz ls (List.mem_of_getElem? hls)
    have hoct2 := hoct ls (List.mem_of_getElem? hls)
    have hro := rowN_small hsz i
    have r0 : @Ne Nat Ra H := hne
    have r1 : @Ne Nat Ra e := (off _ (.head _)).1
    have r2 : @Ne Nat Ra it := (off _ (.head _)).2
    have r3 : @Ne Nat H e := (off _ (.tail _ (.head _))).1
    have r4 : @Ne Nat H it := (off _ (.tail _ (.head _))).2
    clear off hne
    have z1 : hvs.toArray.size ≤ sizeLine := by
      have e1 : sizeLine = 16777216 := rfl
      have e2 := hhv.length
      rw [headsN, List.length_map, List.length_range] at e2
      rw [List.size_toArray]; omega
    k_steps
    rename Fr g1 L1 _ _ => F6
    rename News g1 L1 _ _ => N6
    rename IntsAre _ (_ ++ ls) => hrow
    obtain ⟨D0, hD0⟩ := head1 N6
    subst hD0
    have d0 : @Ne Nat D0 H := by k_ne
    have d1 : @Ne Nat D0 e := by k_ne
    have d2 : @Ne Nat D0 it := by k_ne
    have N8 := news_pick N6
    refine EndAt.mk ⟨_, _, _, _, rfl, F6, N8, stream_off d1 d2 r3 r4, D0, H, _, _, _, _, rfl, ?_, ?_, by kst_all, by kst_same, d0⟩
    · rw [List.take_add_one, hls]
      show IntsAre _ ([120, 1] ++ rowN lss.length 0 (lss.take i ++ [ls]))
      rw [rowN_snoc]
      have e5 : 0 + (lss.take i).length = i := by rw [List.length_take]; omega
      rw [e5, blockF]
      have e6 : (if ((i : Int) == (lss.length : Int) - 1) = true then (1 : Int) else 0) = if ((i : Nat) : Int) = (lss.length : Int) - 1 then 1 else 0 := by
        simp only [beq_iff_eq]
      rw [e6] at hrow
      simpa only [List.append_assoc] using hrow
    · have e7 : headsN lss (i + 1) = headsN lss i ++ [headAt lss i] := by rw [headsN, List.range_succ, List.map_append]; rfl
      rw [e7]
      have e8 : headAt lss i = ((1 + 1 + (rowN lss.length 0 (lss.take i)).length : Nat) : Int) := by rw [headAt]; omega
      rw [e8]
      exact hhv.append (.cons _ _ .nil)
  · rintro m₁ news₁ h tk ⟨Ra, H, rvs, hvs, rn, hn, rfl, hrv, hhv, hm1, hm2, hne⟩ F4 N4
    have F5 := kst_frOut (x := Str.ofString "size") hm1 hm2 F4
    dsimp only [kstB] at F5
    clear F4 F2 N2 N3
    k_steps
    rename Fr g1 _ _ _ => F6
    rename News g1 _ _ _ => N6
    rw [hvl, List.take_length] at hrv
    rw [hvl] at hhv
    have hfl : lss.flatten.length < 4096 := flat_small hsz hlen
    have hfo : ∀ k ∈ lss.flatten, 0 ≤ k ∧ k < 256 := fun k hk => by
      obtain ⟨ls, h1, h2⟩ := List.mem_flatten.mp hk
      exact hoct ls h1 k h2
    refine ⟨l, vals, lss, _, _, rfl, rfl, F6, N6, hl1.at fun o e => F6.keep _ o e, hL1.keeps F6.keep, by have : sizeLine = 16777216 := rfl; omega, ?_⟩
    intro D9 ys9 h9 tk9 F9 N9 hys9
    have hro := rowN_small hsz lss.length
    rw [List.take_length] at hro
    k_steps
    refine Stop.mk ?_
    k_dflt (refine' sum_c _ _ _ _ ?k1 ?k2 ?k3 ?k4 ?k5 ?kK ?kD ?ki ?kb ?kl ?kd ?ku ?_; (case k1 => k_asm); (case k2 => k_asm); (case k3 => k_asm); (case k4 => k_asm); (case k5 => k_asm); (case kK => first | exact rfl | assumption); (case kD => exact News.isList (by k_asm) (by k_mem)); (case ki => assumption); (case kb => assumption); (case kl => assumption); (case kd => ktr_room); (case ku => ktr_units); k_whole); (intro t' h' tk' F' N'; (try dsimp only at N' ⊢); (try k_fold))
    k_steps
    refine Stop.mk ?_
    k_dflt (refine' four_c _ _ _ _ ?k1 ?k2 ?k3 ?k4 ?k5 ?kK ?kd ?ku ?_; (case k1 => k_asm); (case k2 => k_asm); (case k3 => k_asm); (case k4 => k_asm); (case k5 => k_asm); (case kK => first | exact rfl | assumption); (case kd => ktr_room); (case ku => ktr_units); k_whole); (intro D' vs' n' h' tk' hI' F' N'; (try dsimp only at N' ⊢); (try k_fold))
    k_steps
    rename News h₀ L _ _ => NX
    have NY := news_back0 N0.out GS1 (by assumption) (news_pick3 NX)
    rename News g1 L1 _ _ => NZ
    exact EndAt.mk (hret _ _ _ _ _ _ _ _ _ _ (made_off N0.out GS1 NZ (.head _)) (made_off N0.out GS1 NZ (.tail _ (.head _))) (made_off N0.out GS1 NZ (.tail _ (.tail _ (.tail _ (.tail _ (.tail _ (.head _))))))) (by assumption) hhv (by assumption) NY)
end
theorem anew_Stream : True := by (w_top off); first | walk1 | trivial
-- Refuse
section

section
variable {prog : Program} {w : World} {A : Around} {E : Value → Shared → Prop} {s : Shared} {env : Env}
theorem wpC_Try_except {body orelse : List Stmt} {h₀ : ExceptHandler} {hs : List ExceptHandler} {pos : Pos} {Q : Flow → Shared → Prop}
    (h : wpC (model prog w) A (execs body env) (fun f s₁ => match f with | .next => wpC (model prog w) A (execs orelse env) Q E s₁ | f => Q f s₁)
      (fun e s₁ => wpAny (model prog w) A (noteFrame e env) (fun _ s₂ => wpAny (model prog w) A (setFlight e none) (fun _ s₃ => wpAny (model prog w) A (handleBy e env (h₀ :: hs)) Q E s₃) E s₂) E s₁) s) :
    wpC (model prog w) A (exec (.Try body (h₀ :: hs) orelse [] pos) env) Q E s := by
  rw [arm_exec_Try]
  refine wpC_bind (wpC_standAt ?_)
  unfold tryStmt
  simp only [List.isEmpty_nil, if_true, List.isEmpty_cons, Bool.false_and, Bool.false_eq_true, if_false]
  refine wpC_bind (wpC_attempt (wpC_mono h (fun f s₁ h₁ => ?_) fun e s₁ h₁ => ?_))
  · cases f <;> first | exact h₁ | exact wpC_pure h₁
  · exact wpC_any (wpAny_bind (wpAny_mono h₁ (fun _ _ h₂ => wpAny_bind h₂) fun _ _ x => x))
theorem wpC_Expr_never {value : Expr} {pos : Pos} {Q : Flow → Shared → Prop} (hi : interactive env = false) (hs : swapsWith value none pos.line env = pure false)
    (h : wpC (model prog w) A (eval value env) (fun _ _ => False) E s) : wpC (model prog w) A (exec (.Expr value pos) env) Q E s := by
  rw [exec_Expr env value pos hi hs]
  exact wpC_bind (wpC_standAt (wpC_bind (wpC_mono h (fun v s₁ h₁ => h₁.elim) fun _ _ x => x)))
end
theorem keeps_fn {M : Model} {f : Addr} {o : Obj} {fd : FuncData} (hd : o.data = .func fd) (h : Heap) (X : h.get? f = some o) : ∃ k, (k = Keeper.frame ∨ k = Keeper.machine ∨ k = Keeper.boundFrame) ∧ Looks M h (keeperOf (.ref f)) k := by
  refine ⟨.frame, .inl rfl, (Looks.ld (part := none) X).andThen ?_⟩
  rw [hd]
  exact .now
section
variable {prog : Program} {w : World} {A₀ A : Around} {s : Shared} {base h₀ : Heap} {L : Addr} {m : Str → Option Value} {env : Env} {news : List (Addr × Obj)}
theorem code_defC0 {K : Frag} {p : Program} {loose : List Str} {mean : ExcName → Option Value} {mg mb : Str → Option Value} {R : Result → Shared → Prop} {name qual : Str} {params : Arguments} {body : List Stmt} {scope : Scope} {dV kV doc pm cdv ct oc : Value} {an od : Option Addr} {osl : Array (Option Value)} {f : Addr} {args : Args} {binds : List (Str × Value)}
    (B : Below A₀ base [] h₀) (F : Fr h₀ L s.heap m) (X₀ : K.In h₀) (N : News h₀ L s.heap news) (T : Top p loose mean mg mb h₀) (hA : A.frames = some [env]) (hf : env.frame = some L) (hke : env.scope.kind = .function)
    (ho : K.lookup f = some ⟨oc, od, .func (fnOf name qual params body scope dV kV doc pm an cdv ct), osl⟩) (hcd : codeIn K cdv qual = true) (hroom : A.depth < recursionLimit)
    (hbind : BindsTo s (fnOf name qual params body scope dV kV doc pm an cdv ct) args binds) (hloc : ∀ y ∈ binds, scope.names.lookup y.1 = some .local)
    (h : ∀ g L' h₁, Fr h₀ L g m → Fr g L' h₁ (fun y => binds.reverse.lookup y) → News g L' h₁ news → Below A base [env] g → K.In g → Top p loose mean mg mb g → KtsDicts ([env].filterMap (·.frame)) g →
      wpC (model prog w) (A.deeper (envOf qual scope L' f cdv)) (execs body (envOf qual scope L' f cdv))
        (fun fl s' => LeaveS0 ([env].filterMap (·.frame)) h₀ L m g R (match fl with | .ret v => v | _ => .none) s')
        (fun _ _ => False)
        { s with heap := h₁, toks := s.toks + binds.length })
    (hco : scope.isCoroutine = false) (hgen : scope.isGenerator = false) (hk : scope.kind = .function)
    (hcell : ∀ x ∈ scope.names, x.2 ≠ .cell) : codeC (model prog w) A (.call (.ref f) args) R s := by
  obtain ⟨FG, BG, st, _⟩ := groundX (R := R) B F N hA hf hke
  obtain ⟨oL, es, ep, hL, hLd, hLk, hLf⟩ := F.ns
  have nL : L ∉ news.map (·.1) := fun q => by
    obtain ⟨p, hp, e⟩ := List.mem_map.mp q
    exact (N p hp).2.1 e
  have hLg := hideAll_get (news.map (·.1)) hL nL
  have hin : ∀ b, b ∈ [env].filterMap (·.frame) → b = L := fun b hb => by
    simp only [List.filterMap_cons, hf, List.filterMap_nil, List.mem_singleton] at hb
    exact hb
  refine codeC_call_fn (fd := fnX name qual params body scope [] dV kV doc pm an cdv ct) (body := body) (binds := binds) hroom ((X₀.keeps F.keep) _ _ ho) rfl (T.nolimit.keeps F.keep) (codeRec_of (X₀.keeps F.keep) hcd) rfl hbind hcell hloc (fun h₁ hns hk₁ => ?_) hco hgen hk
  refine wpC_mono (h _ s.heap.objs.size h₁ FG ⟨hns, fun b o e => hk₁ b o (of_hideAll _ e), Nat.le_of_eq (hideAll_size _ _)⟩ (fun p hp => ⟨hk₁ _ _ (N p hp).1, Nat.ne_of_lt (Heap.lt_size (N p hp).1), hideAll_none _ (List.mem_map_of_mem hp)⟩)
    BG (X₀.keeps st) (T.keeps st) (fun b hb => by rw [hin b hb]; exact ⟨oL, es, ep, hLg, hLd⟩)) (fun fl s' hl => ?_) fun _ _ y => y.elim
  obtain ⟨g', L', m', news', T', F', N', k⟩ := hl
  have nL₀ : h₀.get? L = none := kts_self F
  obtain ⟨sl, hs⟩ := T'.up hLg
  refine k ⟨⟨_, es, ep, F'.keep _ _ hs, hLd, hLk, hLf⟩, fun b o e => F'.keep b o (T'.other b o (st b o e) (fun q => by
    rw [hin b q, nL₀] at e
    cases e)), F.above⟩ fun p hp => ⟨(N' p hp).1, fun q => ?_, ?_⟩
  · have := (N' p hp).2.2; rw [q, hs] at this; cases this
  · cases q : h₀.get? p.1 with
    | none => rfl
    | some o =>
      obtain ⟨sl', hs'⟩ := T'.up (st _ _ q)
      have := (N' p hp).2.2
      rw [hs'] at this
      cases this
end
/-- an exception passes a frame, and what the frame above it kept comes along -/
theorem leave_onN {M : Model} {A : Around} {E : Value → Shared → Prop} {s' : Shared} {base g g₂ : Heap} {outer : List Env} {L e t : Addr} {m : Str → Option Value} {env : Env} {Q : Unit → Shared → Prop} {news : List (Addr × Obj)} {cls : Value} {vs : List Value}
    (hf : env.frame = some L) (K : Below A base outer g) (F : Fr g L g₂ m) (R : RaisedS base g₂ (env :: outer) e cls t vs [] s'.heap) (hsm : g₂.UpToSlots s'.heap)
    (N : ∀ q ∈ news, g₂.get? q.1 = some q.2 ∧ q.1 ≠ L ∧ q.1 ∉ outer.filterMap (·.frame) ∧ g.get? q.1 = none ∧ base.get? q.1 = none)
    (hQ : ∀ h', RaisedS base g outer e cls t vs news h' → g.UpToSlots h' → Q () { s' with heap := h' }) :
    wpAny M (A.deeper env) (leaving env (.ref e)) Q E s' := by
  obtain ⟨⟨B, hB, hBG, _, hfl, hnew⟩, htup⟩ := R
  have hm' : ∀ b, b ∈ (env :: outer).filterMap (·.frame) → b = L ∨ b ∈ outer.filterMap (·.frame) := fun b hm => by
    rw [List.filterMap_cons, hf] at hm
    exact List.mem_cons.mp hm
  refine wpAny_leaves_onW (Around.frames_deeper K.stack) hf hfl fun h' x1 x2 => ?_
  refine hQ h' ⟨⟨B, hB, fun b o q nm => hBG b o (F.keep b o q) (fun hm => by
      rcases hm' b hm with z | z
      · rw [z, kts_self F] at q
        cases q
      · exact nm z), fun q hq => ⟨hBG _ _ (N q hq).1 (fun hm => (hm' _ hm).elim (N q hq).2.1 (N q hq).2.2.1), (N q hq).2.2.2⟩, x1, hnew⟩, htup.of_slots x2⟩ ((Heap.UpToSlots.of_keeps F.keep).trans (hsm.trans x2))
section

theorem refused_c (w : World) (mean : ExcName → Option Value) (mg mb : Str → Option Value)
    {dp un : Nat} {gd : Option (List Code)} {cn : Str} {cs : Scope} {a : Addr} {ccd : Value} {cl : List (Str × Addr)} {A₀ : Around} {base h₀ : Heap} {L : Addr} {m : Str → Option Value} {news : List (Addr × Obj)} {s : Shared} {Q E : Value → Shared → Prop}
    (B : Below A₀ base [] h₀) (F : Fr h₀ L s.heap m) (X : (Mine.top0.heap_39 w.params).In h₀) (N : News h₀ L s.heap news) (T : Top topProg ownNames mean mg mb h₀) (hk : cs.kind = .function)
    (XB : (Mine.top0.heap_39 w.params).In base) (TB : Top topProg ownNames mean mg mb base)
    {f : Addr} {o : Obj} {fd : FuncData} (hfo : (f, o) ∈ news) (hfd : o.data = .func fd) (hd : dp + 2 < recursionLimit)
    (hdeed : ∀ (rn : Str) (rs : Scope) (rcd : Value) (g1 : Heap) (L1 : Addr) (m1 : Str → Option Value) (s1 : Shared) (E1 : Value → Shared → Prop), rs.kind = .function → Below (ktrTop dp un gd cn cs L a ccd cl []) base [envX cn cs L a ccd cl] g1 →
      Fr g1 L1 s1.heap m1 → (Mine.top0.heap_39 w.params).In g1 → News g1 L1 s1.heap news → Top topProg ownNames mean mg mb g1 →
      (∀ e t vs G h' tk', Fr g1 L1 G m1 → RaisedS base G (envOf rn rs L1 147 rcd :: [envX cn cs L a ccd cl]) e (.ref 44) t vs news h' → G.UpToSlots h' → E1 (.ref e) { s1 with heap := h', toks := tk' }) →
      wpC (model PySem.Challenge.rw_on0221_01.row.prog w) ((ktrTop dp un gd cn cs L a ccd cl []).deeper (envOf rn rs L1 147 rcd)) (call (.ref f) []) (fun _ _ => False) E1 s1)
    (hret : ∀ h' tk', Fr h₀ L h' m → News h₀ L h' news → Q (.bool true) { s with heap := h', toks := tk' }) :
    wpC (model PySem.Challenge.rw_on0221_01.row.prog w) (ktrTop dp un gd cn cs L a ccd cl []) (call (.ref 147) [.ref f]) Q E s := by
  revert X; k_fill; intro X
  refine wpC_call ?_
  k_dflt (refine' code_defC0 ?k1 ?k2 ?k3 ?k4 ?k5 ?kA ?kF ?kK ?k6 ?k7 ?k8 ?k9 ?kB ?_ ?c2 ?c3 ?c4 ?c5; (case kA => exact rfl); (case kF => exact rfl); (case kK => assumption); (case k1 => k_asm); (case k2 => k_asm); (case k3 => k_asm); (case k4 => k_asm); (case k5 => k_asm); (case k6 => k_is); (case k7 => k_is); (case k8 => ktr_room); (case k9 => first | exact BindsTo.of_eq rfl | exact binds_K (by k_in) rfl (by k_is) rfl rfl rfl); (case c5 => decide); (case kB => exact locs rfl); (case c2 => exact rfl); (case c3 => exact rfl); (case c4 => exact rfl); k_whole)
  intro g1 L1 h1 FG1 F1 N1 B1 X1 T1 D1
  try dsimp only
  try k_fold
  refine wpC_execs_cons (wpC_Try_except (wpC_execs_cons (wpC_Expr_never rfl rfl (wpC_Call_ofName (wpC_piece ?_)))))
  intro Q1 E1 hQ1
  k_steps
  refine EndAt.mk ?_
  obtain ⟨rfl, rfl⟩ := hQ1.out
  clear hQ1
  refine wpC_callWith_of0 (P := fun h => h.get? f = some o) (keeps_fn hfd) ?_ ?_
  · exact (N1 _ hfo).1
  refine hdeed _ _ _ _ _ _ _ _ rfl B1 F1 X1 N1 T1 ?_
  intro e t vs G h' tk' FG R U
  refine caught_SO0 (g₀ := g1) R FG B1 U XB TB D1 KtsTurn.refl (by k_is) (by kts_isx) ?_
  intro h2 g2 n2 T2 F2 N2 G2 N3 B2 X2 T3 D2
  k_steps
  exact hret _ _ (by assumption) (by assumption)
end
section
variable {prog : Program} {w : World} {A A₀ : Around} {s : Shared} {R : Result → Shared → Prop}
theorem codeC_callFunE {a : Addr} {o : Obj} {fd : FuncData} {args : Args} {body : Expr}
    (hroom : A.depth < recursionLimit) (ho : s.heap.get? a = some o) (hdata : o.data = .func fd) (hco : fd.scope.isCoroutine = false) (hgen : fd.scope.isGenerator = false) (hbody : fd.body = .expr body) (hcd : s.heap.CodeRec fd.code fd.qualname)
    (h : wpAny (model prog w) A.in1 (bindArgs fd args) (fun binds s₁ => wpAny (model prog w) A.in1 (newFunctionEnv fd.scope fd.globals fd.closure binds (fd.qualname ++ ".<locals>.") (some a) fd.code none fd.builtins)
      (fun env s₂ => s₂.heap.NoLimit ∧ codeC (model prog w) A (.expr body env) R s₂) (fun e s' => R (.error e) s') s₁) (fun e s' => R (.error e) s') s) :
    codeC (model prog w) A (.call (.ref a) args) R s := by
  refine codeC_tree rfl ?_
  show wpC _ A.in1 (callAny (.ref a) args) _ _ s
  simp only [callAny]
  refine wpC_then (P := fun o' s₁ => o = o' ∧ s = s₁) (wpAny_load ho ⟨rfl, rfl⟩) ?_
  rintro _ _ ⟨rfl, rfl⟩
  obtain ⟨c, oc, vs, tq, hc, hoc, hdc, hq⟩ := hcd
  simp only [hdata, callFunction, hco, hgen, hbody, hc]
  refine wpC_then (m := field (.ref c) 1) (P := fun v s₁ => .str fd.qualname tq = v ∧ s = s₁) (wpAny_field hoc hdc hq ⟨rfl, rfl⟩) ?_
  rintro _ _ ⟨rfl, rfl⟩
  refine wpC_bind (wpC_pure ?_)
  refine wpC_then h fun binds s₁ h₁ => ?_
  rw [hc] at h₁
  refine wpC_then h₁ fun env s₂ h₂ => ?_
  refine wpC_bind (wpC_any (wpAny_enterFrame h₂.1 hroom ?_))
  exact wpC_pure ⟨rfl, h₂.2⟩
variable {K : Frag} {L : Addr} {h₀ base : Heap} {m mg mb : Str → Option Value} {news : List (Addr × Obj)} {p : Program} {loose : List Str} {mean : ExcName → Option Value} {E : Value → Shared → Prop}
/-- a lambda of no arguments that raises -/
theorem lam_c {env : Env} {outer : List Env} {name qual : Str} {params : Arguments} {body : Expr} {scope : Scope} {cl : List (Str × Addr)} {pm ctv : Value} {c' : Addr} {f : Addr}
    (B : Below A₀ base outer h₀) (F : Fr h₀ L s.heap m) (X₀ : K.In h₀) (N : News h₀ L s.heap news) (T : Top p loose mean mg mb h₀) (hA : A.frames = some (env :: outer)) (hf : env.frame = some L) (hke : env.scope.kind = .function)
    (ho : (f, kla_obj name qual params body scope cl pm c' ctv) ∈ news) (hcd : s.heap.CodeRec (.ref c') qual) (hroom : A.depth < recursionLimit)
    (hbind : bindArgs (kla_fn name qual params body scope cl pm (.ref c') ctv) ⟨[], []⟩ = pure [])
    (hout : ∀ q ∈ news, q.1 ∉ outer.filterMap (·.frame))
    (herr : ∀ e t vs G h' tk', Fr h₀ L G m → RaisedS base G (env :: outer) e (.ref 44) t vs news h' → G.UpToSlots h' → E (.ref e) { s with heap := h', toks := tk' })
    (h : ∀ g L' h₁ (E' : Value → Shared → Prop), Fr h₀ L g m → Fr g L' h₁ (fun _ => none) → News g L' h₁ news → Below A base (env :: outer) g → K.In g → Top p loose mean mg mb g →
      (∀ e t vs G h' tk' m', Fr g L' G m' → (∀ q ∈ news, G.get? q.1 = some q.2) → RaisedS base G (envX qual scope L' f (.ref c') cl :: env :: outer) e (.ref 44) t vs [] h' → G.UpToSlots h' → E' (.ref e) { s with heap := h', toks := tk' }) →
      wpC (model prog w) (A.deeper (envX qual scope L' f (.ref c') cl)) (eval body (envX qual scope L' f (.ref c') cl)) (fun _ _ => False) E' { s with heap := h₁ })
    (hco : scope.isCoroutine = false) (hgen : scope.isGenerator = false) (hk : scope.kind = .function)
    (hcell : ∀ x ∈ scope.names, x.2 ≠ .cell) : wpC (model prog w) A (call (.ref f) []) (fun _ _ => False) E s := by
  refine wpC_call ?_
  obtain ⟨FG, BG, st, _⟩ := groundX (R := fun _ _ => True) B F N hA hf hke
  refine codeC_callFunE hroom (N _ ho).1 rfl hco hgen rfl hcd ?_
  rw [hbind]
  refine wpAny_pure (wpAny_newFunctionEnv hcell (fun _ hy => nomatch hy) (fun h₁ hns hsb => ⟨((T.nolimit).keeps F.keep).fresh _ hsb, ?_⟩) hk)
  have hk₁ : ∀ b o, s.heap.get? b = some o → h₁.get? b = some o := fun b o e => hsb.extBut b o (Nat.ne_of_lt (Heap.lt_size e)) (Heap.get?_push_of_some _ e)
  have hlt : ∀ q ∈ news, q.1 < s.heap.objs.size := fun q hq => Heap.lt_size (N q hq).1
  refine codeC_expr (wpC_mono (h _ s.heap.objs.size h₁ (fun e s' => wpC (model prog w) (A.deeper (envX qual scope s.heap.objs.size f (.ref c') cl)) (leaving (envX qual scope s.heap.objs.size f (.ref c') cl) e) (fun _ s'' => E e s'') (fun e' s'' => E e' s'') s') FG ⟨hns, fun b o e => hk₁ b o (of_hideAll _ e), Nat.le_of_eq (hideAll_size _ _)⟩
    (fun p hp => ⟨hk₁ _ _ (N p hp).1, Nat.ne_of_lt (hlt p hp), hideAll_none _ (List.mem_map_of_mem hp)⟩) BG (X₀.keeps st) (T.keeps st) ?_) (fun _ _ z => z.elim) fun _ _ z => z)
  intro e t vs G h' tk' m' FX hG R U
  refine wpC_any (leave_onN rfl BG FX R U (news := news) (fun q hq => ⟨hG q hq, Nat.ne_of_lt (hlt q hq), fun hm => ?_, hideAll_none _ (List.mem_map_of_mem hq), fresh_of_stays B.stays (N q hq).2.2⟩) fun h2 R2 U2 => ?_)
  · rw [List.filterMap_cons, hf] at hm
    rcases List.mem_cons.mp hm with z | z
    · exact (N q hq).2.1 z
    · exact hout q hq z
  · exact herr e t vs _ h2 tk' FG R2 U2
end
end
theorem anew_Refuse : True := by (w_top off); first | walk1 | trivial
-- PlainS
section

/-- the weighted sum -/
def wsum : List Int → Int
  | [] => 0
  | k :: ks => ((ks.length : Int) + 1) * k + wsum ks
theorem enum_wsum (n : Int) : ∀ (ls : List Int) (j : Nat), n - (j : Int) = (ls.length : Int) → (enumF (fun i k => (n - (i : Int)) * k) j ls).sum = wsum ls
  | [], _, _ => rfl
  | k :: ks, j, h => by
    have h2 : n - ((j + 1 : Nat) : Int) = (ks.length : Int) := by rw [List.length_cons] at h; push_cast at h ⊢; omega
    show (enumF _ j (k :: ks)).sum = ((ks.length : Int) + 1) * k + wsum ks
    rw [enumF, List.sum_cons, enum_wsum n ks (j + 1) h2]
    have e : n - (j : Int) = (ks.length : Int) + 1 := by rw [List.length_cons] at h; push_cast at h; omega
    rw [e]
theorem mod_same {x y M : Int} (h : ∃ q, x = y + M * q) : x % M = y % M := by
  obtain ⟨q, rfl⟩ := h
  exact Int.add_mul_emod_self_left _ _ _
theorem adl_fold : ∀ (ks : List Int) (a b : Int), 0 ≤ a → a < 65521 → 0 ≤ b → b < 65521 →
    ks.foldl adlO (a, b) = ((a + ks.sum) % 65521, (b + (ks.length : Int) * a + wsum ks) % 65521)
  | [], a, b, a0, a1, b0, b1 => by
    show (a, b) = _
    rw [List.sum_nil, wsum]
    have e : (b + (([] : List Int).length : Int) * a + 0) = b := by simp
    rw [e, Int.add_zero, Int.emod_eq_of_lt a0 a1, Int.emod_eq_of_lt b0 b1]
  | k :: ks, a, b, a0, a1, b0, b1 => by
    show ks.foldl adlO (adlO (a, b) k) = _
    have e0 : adlO (a, b) k = ((a + k) % 65521, (b + (a + k) % 65521) % 65521) := by
      unfold adlO
      dsimp only
      rw [Int.fmod_eq_emod_of_nonneg _ (by decide), Int.fmod_eq_emod_of_nonneg _ (by decide)]
    rw [e0]
    have ha := Int.emod_add_mul_ediv (a + k) 65521
    have h0 : 0 ≤ (a + k) % 65521 := Int.emod_nonneg _ (by decide)
    have h1 : (a + k) % 65521 < 65521 := Int.emod_lt_of_pos _ (by decide)
    have hb := Int.emod_add_mul_ediv (b + (a + k) % 65521) 65521
    have h2 : 0 ≤ (b + (a + k) % 65521) % 65521 := Int.emod_nonneg _ (by decide)
    have h3 : (b + (a + k) % 65521) % 65521 < 65521 := Int.emod_lt_of_pos _ (by decide)
    rw [adl_fold ks _ _ h0 h1 h2 h3]
    generalize (b + (a + k) % 65521) / 65521 = q2 at hb
    generalize (b + (a + k) % 65521) % 65521 = b' at hb h2 h3 ⊢
    generalize (a + k) / 65521 = q1 at ha
    generalize (a + k) % 65521 = a' at ha hb h0 h1 ⊢
    have ea : a' = a + k - 65521 * q1 := by omega
    have eb : b' = b + (a + k - 65521 * q1) - 65521 * q2 := by omega
    rw [List.sum_cons, wsum, List.length_cons]
    refine Prod.ext (mod_same ⟨-q1, ?_⟩) (mod_same ⟨-q1 - q2 - (ks.length : Int) * q1, ?_⟩)
    · rw [ea]; omega
    · 
      rw [eb, ea]
      push_cast
      generalize (ks.length : Int) = n
      generalize wsum ks = W
      simp only [Int.mul_sub, Int.mul_add, Int.add_mul, Int.sub_mul, Int.mul_neg, Int.one_mul]
      have c1 : n * (65521 * q1) = 65521 * (n * q1) := by rw [Int.mul_left_comm]
      rw [c1]
      omega
theorem adl_lsum (ks : List Int) : adlF ks = lsumF ks := by
  unfold adlF lsumF
  rw [adl_fold ks 1 0 (by decide) (by decide) (by decide) (by decide), enum_wsum (ks.length : Int) ks 0 (by simp), Int.fmod_eq_emod_of_nonneg _ (by decide), Int.fmod_eq_emod_of_nonneg _ (by decide)]
  dsimp only
  rw [Int.mul_one, Int.zero_add]
theorem lsum_in (ks : List Int) : 0 ≤ lsumF ks ∧ lsumF ks < 4294967296 := by
  unfold lsumF
  have a := fmod_lo ((ks.length : Int) + (enumF (fun i k => ((ks.length : Int) - (i : Int)) * k) 0 ks).sum) (show (0 : Int) < 65521 by decide)
  have b := fmod_hi ((ks.length : Int) + (enumF (fun i k => ((ks.length : Int) - (i : Int)) * k) 0 ks).sum) (show (0 : Int) < 65521 by decide)
  have c := fmod_lo (1 + ks.sum) (show (0 : Int) < 65521 by decide)
  have d := fmod_hi (1 + ks.sum) (show (0 : Int) < 65521 by decide)
  omega
theorem get32_sum {ks : List Int} {p b0 b1 b2 b3 : Int} (h0 : ks.getD p.toNat 0 = b0) (h1 : ks.getD (p + 1).toNat 0 = b1) (h2 : ks.getD (p + 2).toNat 0 = b2) (h3 : ks.getD (p + 3).toNat 0 = b3)
    (r0 : 0 ≤ b0 ∧ b0 < 256) (r1 : 0 ≤ b1 ∧ b1 < 256) (r2 : 0 ≤ b2 ∧ b2 < 256) (r3 : 0 ≤ b3 ∧ b3 < 256) :
    get32F ks p = b0 * 16777216 + b1 * 65536 + b2 * 256 + b3 := by
  have e24 : (2 : Int) ^ Int.toNat 24 = 16777216 := by decide
  have e16 : (2 : Int) ^ Int.toNat 16 = 65536 := by decide
  have e8 : (2 : Int) ^ Int.toNat 8 = 256 := by decide
  unfold get32F
  rw [h0, h1, h2, h3, e24, e16, e8]
  have s1 : Builtin.bitOr (b0 * 16777216) (b1 * 65536) = b0 * 16777216 + b1 * 65536 := by
    have z := and_apart (a := b1 * 65536) (k := b0) (i := 24) (by omega) (by show _ < (16777216 : Int); omega) r0.1
    rw [show (2 : Int) ^ 24 = 16777216 by decide] at z
    rw [bitOr_and, bitAnd_comm, z]; omega
  have s2 : Builtin.bitOr (b0 * 16777216 + b1 * 65536) (b2 * 256) = b0 * 16777216 + b1 * 65536 + b2 * 256 := by
    have z := and_apart (a := b2 * 256) (k := b0 * 256 + b1) (i := 16) (by omega) (by show _ < (65536 : Int); omega) (by omega)
    rw [show (2 : Int) ^ 16 = 65536 by decide] at z
    have e : b0 * 16777216 + b1 * 65536 = (b0 * 256 + b1) * 65536 := by omega
    rw [bitOr_and, bitAnd_comm, e, z]; omega
  have s3 : Builtin.bitOr (b0 * 16777216 + b1 * 65536 + b2 * 256) b3 = b0 * 16777216 + b1 * 65536 + b2 * 256 + b3 := by
    have z := and_apart (a := b3) (k := b0 * 65536 + b1 * 256 + b2) (i := 8) (by omega) (by show _ < (256 : Int); omega) (by omega)
    rw [show (2 : Int) ^ 8 = 256 by decide] at z
    have e : b0 * 16777216 + b1 * 65536 + b2 * 256 = (b0 * 65536 + b1 * 256 + b2) * 256 := by omega
    rw [bitOr_and, bitAnd_comm, e, z]; omega
  rw [s1, s2, s3]
end
theorem anew_PlainS : True := by (w_top off); first | walk1 | trivial
section
local macro_rules | `(tactic| walk_at "call ref") => `(tactic| (k_here; (with_reducible show wpAny _ _ (call (Value.ref 111) _) _ _ _); k_dflt (refine' oneG_c _ _ _ _ ?k1 ?k2 ?k3 ?k4 ?k5 ?kK ?kU ?kT ?kn ?ki ?b1 ?b2 ?a1 ?a2 ?a3 ?kd ?ku ?_; (case k1 | k2 | k3 | k4 | k5 => k_asm); (case kK => first | exact rfl | assumption); (case kU => first | (rename (∀ _ : Obj, UpdF _ _ _ _) => lU'; exact lU' _) | (rename (∀ _ : Obj, UpdF _ _ _ _) => lU'; (refine' UpdF.tail ?lu1 (lU' _)); (case lu1 => k_ne)) | k_updF); (case kT => first | exact kept_list (by assumption) (by assumption) | exact News.isList (by k_asm) (by k_mem)); (case kn => first | assumption | k_ne); (case ki => first | assumption | exact ints4 | exact ints2); (case b1 => first | exact Nat.succ_pos _ | assumption); (case b2 => first | (simp only [List.length_cons, List.length_nil]; decide) | assumption); (case a1 | a2 | a3 => assumption); (case kd => ktr_room); (case ku => ktr_units); k_whole; intro d' td' x' tx' y' ty' n' h' tk' hdm' hx' hy' hy2' F' N'; (try dsimp only at N' ⊢); (try (refine' mem_bound hdm' ?hq ?_; (case hq => assumption); intro hb1' hb2')); (try k_fold))))
-- Turn
section

section
local macro_rules | `(tactic| size_fits) => `(tactic| assumption)
inductive Turned (row hds : List Int) : List Int → Prop
  | cut {k : Int} : 0 ≤ k → k < (row.length : Int) → Turned row hds (row.take k.toNat)
  | more {b : Int} : 0 ≤ b → b < 256 → Turned row hds (row ++ [b])
  | one {b : Int} : b ∈ ([33, 2, 0, 32] : List Int) → Turned row hds (row.set (Int.toNat 1) b)
  | kind {h b : Int} : h ∈ hds → b ∈ ([2, 4] : List Int) → Turned row hds (row.set h.toNat (row.getD h.toNat 0 + b))
  | size {h j d : Int} : h ∈ hds → 0 ≤ j → j < 4 → 0 ≤ d → d < 255 → Turned row hds (row.set (h + 1 + j).toNat ((row.getD (h + 1 + j).toNat 0 + 1 + d).fmod 256))
  | last {h : Int} : h ∈ hds → Turned row hds (row.set h.toNat (1 - row.getD h.toNat 0))
  | sum {j d : Int} : 0 ≤ j → j < 4 → 0 ≤ d → d < 255 → Turned row hds (row.set ((row.length : Int) - 1 - j).toNat ((row.getD ((row.length : Int) - 1 - j).toNat 0 + 1 + d).fmod 256))
  | first {b : Int} : b ∈ ([119, 121, 0, 58] : List Int) → Turned row hds (row.set (Int.toNat 0) b)
theorem news_two {g h : Heap} {L : Addr} {p q : Addr × Obj} {news : List (Addr × Obj)} (N : News g L h news) (h1 : p ∈ news) (h2 : q ∈ news) : News g L h ([p] ++ [q]) := fun x hx => by
  rcases List.mem_cons.mp hx with rfl | hx
  · exact N _ h1
  · rw [List.mem_singleton.mp hx]; exact N _ h2
theorem slice_upto {prog : Program} {w : World} {A : Around} {E : Value → Shared → Prop} {h₀ h : Heap} {gens : Array GenState} {drawn : Drawn} {tk : Nat} {os : OsState} {L l : Addr} {m : Str → Option Value} {news : List (Addr × Obj)} {vs : List Value} {ns : List Int} {value slice : Expr} {y : Int} {t : Tok} {Q : Value → Shared → Prop}
    (F : Fr h₀ L h m) (N : News h₀ L h news) (hl : h.IsList l vs.toArray) (hi' : IntsAre vs ns) (hy : 0 ≤ y) (hz : vs.toArray.size ≤ sizeLine)
    (h9 : ∀ D ws h', Fr h₀ L h' m → News h₀ L h' ((D, listOf (List.toArray ws) 0) :: news) → (∀ p ∈ news, p.1 < D) → IntsAre ws (ns.take y.toNat) → Q (.ref D) ⟨h', gens, drawn, tk, os⟩)
    (hs : subscripted slice false (.ref l) (.ref h.objs.size) = operate [.ref h.objs.size, .ref l] (getItem (.ref l) (.ref h.objs.size))) (ht : ∀ r, letTemporaryGo value (.ref l) r = pure ()) :
    wpAny (model prog w) A (subscriptTail value slice (.ref l) (.ref h.objs.size)) Q E ⟨h.push { cls := .type "slice", data := .fields #[.none, .int y t, .none] }, gens, drawn, tk, os⟩ :=
  kmk_slice_ints (s := ⟨h, gens, drawn, tk, os⟩) F N hl .none (.int _ _) hi' (kmk_upto hi' hy) rfl (fun D ws h' a b c d _ _ => h9 D ws h' a b c d) hs ht hz
local macro_rules | `(tactic| walk_at "subscriptTail Name Slice ref ref") => `(tactic| (k_here; (with_reducible show wpAny _ _ (subscriptTail _ (PySem.Expr.Slice _ _ none _) (Value.ref _) (Value.ref _)) _ _ _); k_dflt (refine' slice_upto ?zF ?zN ?zl ?zi ?zy ?zz ?_ ?zs ?zt; (case zF | zN => k_asm); (case zl => exact News.isList (by k_asm) (by k_mem)); (case zi | zy | zz => assumption); (case zs => with_unfolding_all rfl); (case zt => (intro _; with_unfolding_all rfl)); k_whole); intro D' ws' h' F' N' l1 hI'; (try k_lt l1); (try k_sweep)))
theorem turned_c (w : World) (mean : ExcName → Option Value) (mg mb : Str → Option Value)
    {dp un : Nat} {gd : Option (List Code)} {cn : Str} {cs : Scope} {a : Addr} {ccd : Value} {cl : List (Str × Addr)} {outer : List Env} {A₀ : Around} {base h₀ : Heap} {L : Addr} {m : Str → Option Value} {news : List (Addr × Obj)} {s : Shared} {Q E : Value → Shared → Prop}
    (B : Below A₀ base outer h₀) (F : Fr h₀ L s.heap m) (X : (Mine.top0.heap_39 w.params).In h₀) (N : News h₀ L s.heap news) (T : Top topProg ownNames mean mg mb h₀) (hk : cs.kind = .function)
    {l Ra H : Addr} {x y : Int} {tx ty : Tok} {n : Nat} {g : Obj → List (Addr × Obj)} {rvs hvs : List Value} {row hds : List Int}
    (U : UpdF l (listOf #[.int x tx, .int y ty] n) news g) (hR : s.heap.IsList Ra rvs.toArray) (hRl : Ra ≠ l) (hrow : IntsAre rvs row) (hH : s.heap.IsList H hvs.toArray) (hHl : H ≠ l) (hhds : IntsAre hvs hds)
    (hr1 : 6 ≤ row.length) (hr2 : row.length < 65536) (hh1 : 0 < hds.length) (hh2 : hds.length < 65536) (hin : ∀ k ∈ hds, 0 ≤ k ∧ k + 5 ≤ (row.length : Int)) (hoct : ∀ k ∈ row, 0 ≤ k ∧ k < 256)
    (hx : 0 ≤ x) (hy : 0 ≤ y) (hy2 : y < 2147483647) (hd : dp + 3 < recursionLimit) (hu : un + 24 < cLine)
    (hret : ∀ D vs nv ts x' tx' y' ty' n' h' tk', LCg.Off1 D news → IntsAre vs ts → Turned row hds ts → 0 ≤ x' → 0 ≤ y' → y' < 2147483647 → Fr h₀ L h' m → News h₀ L h' ((D, listOf vs.toArray nv) :: g (listOf #[.int x' tx', .int y' ty'] n')) → Q (.ref D) { s with heap := h', toks := tk' }) :
    wpAny (model PySem.Challenge.rw_on0221_01.row.prog w) (ktrTop dp un gd cn cs L a ccd cl outer) (call (.ref 140) [.ref l, .ref Ra, .ref H]) Q E s := by
  revert X; k_fill; intro X
  have Nw := news_src N U
  have N0 := Aside.mk N
  have U0 := Aside.mk U
  clear N U
  refine ends_at ?_
  refine wpAny_call ?_
  k_dflt (refine' code_defG ?k1 ?k2 ?k3 ?k4 ?k5 ?kA ?kF ?kK ?k6 ?k7 ?k8 ?k9 ?kB ?_ ?c2 ?c3 ?c4 ?c5; (case kA => exact rfl); (case kF => exact rfl); (case kK => assumption); (case k1 => k_asm); (case k2 => k_asm); (case k3 => k_asm); (case k4 => exact Nw); (case k5 => k_asm); (case k6 => k_is); (case k7 => k_is); (case k8 => ktr_room); (case k9 => first | exact BindsTo.of_eq rfl | exact binds_K (by k_in) rfl (by k_is) rfl rfl rfl); (case c5 => decide); (case kB => exact locs rfl); (case c2 => exact rfl); (case c3 => exact rfl); (case c4 => exact rfl); k_whole)
  intro g1 L1 h1 FG1 F1 N1 B1 X1 T1 GS1
  try dsimp only
  have hR1 : g1.IsList Ra rvs.toArray := hR.at fun o e => GS1 Ra o e (by simpa using hRl)
  have hH1 : g1.IsList H hvs.toArray := hH.at fun o e => GS1 H o e (by simpa using hHl)
  clear hR hH
  have zr : rvs.toArray.size ≤ sizeLine := by
    have e1 : sizeLine = 16777216 := rfl
    rw [List.size_toArray, hrow.length]; omega
  try k_fold
  k_steps
  · rename News h₀ L _ _ => NX
    rename Fr g1 L1 _ _ => FX
    refine' EndAt.mk (hret _ _ _ _ _ _ _ _ _ _ _ ?zox0 ?zix0 ?ztx0 ?z1x0 ?z2x0 ?z3x0 ?zfx0 ?zNx0)
    case zix0 => assumption
    case zox0 => (rename News g1 L1 _ _ => NZ; (refine' made_offU N0.out GS1 NZ ?zpa0 ?zpb0); (case zpa0 => k_mem); (case zpb0 => k_ne))
    case zNx0 => (refine' news_backU (own' := [_]) N0.out U0.out GS1 FX (news_two NX ?zmax0 ?zmbx0); (case zmax0 => k_mem); (case zmbx0 => k_mem))
    case z1x0 => assumption
    case z2x0 => assumption
    case z3x0 => assumption
    case zfx0 => assumption
    case ztx0 => exact .cut (by assumption) (by assumption)
  · rename News h₀ L _ _ => NX
    rename Fr g1 L1 _ _ => FX
    refine' EndAt.mk (hret _ _ _ _ _ _ _ _ _ _ _ ?zox1 ?zix1 ?ztx1 ?z1x1 ?z2x1 ?z3x1 ?zfx1 ?zNx1)
    case zix1 => assumption
    case zox1 => (rename News g1 L1 _ _ => NZ; (refine' made_offU N0.out GS1 NZ ?zpa1 ?zpb1); (case zpa1 => k_mem); (case zpb1 => k_ne))
    case zNx1 => (refine' news_backU (own' := [_]) N0.out U0.out GS1 FX (news_two NX ?zmax1 ?zmbx1); (case zmax1 => k_mem); (case zmbx1 => k_mem))
    case z1x1 => assumption
    case z2x1 => assumption
    case z3x1 => assumption
    case zfx1 => assumption
    case ztx1 => exact .more (by assumption) (by assumption)
  · rename News h₀ L _ _ => NX
    rename Fr g1 L1 _ _ => FX
    refine' EndAt.mk (hret _ _ _ _ _ _ _ _ _ _ _ ?zox2 ?zix2 ?ztx2 ?z1x2 ?z2x2 ?z3x2 ?zfx2 ?zNx2)
    case zix2 => assumption
    case zox2 => (rename News g1 L1 _ _ => NZ; (refine' made_offU N0.out GS1 NZ ?zpa2 ?zpb2); (case zpa2 => k_mem); (case zpb2 => k_ne))
    case zNx2 => (refine' news_backU (own' := [_]) N0.out U0.out GS1 FX (news_two NX ?zmax2 ?zmbx2); (case zmax2 => k_mem); (case zmbx2 => k_mem))
    case z1x2 => assumption
    case z2x2 => assumption
    case z3x2 => assumption
    case zfx2 => assumption
    case ztx2 => exact .one (by assumption)
  · rename News h₀ L _ _ => NX
    rename Fr g1 L1 _ _ => FX
    refine' EndAt.mk (hret _ _ _ _ _ _ _ _ _ _ _ ?zox3 ?zix3 ?ztx3 ?z1x3 ?z2x3 ?z3x3 ?zfx3 ?zNx3)
    case zix3 => assumption
    case zox3 => (rename News g1 L1 _ _ => NZ; (refine' made_offU N0.out GS1 NZ ?zpa3 ?zpb3); (case zpa3 => k_mem); (case zpb3 => k_ne))
    case zNx3 => (refine' news_backU (own' := [_]) N0.out U0.out GS1 FX (news_two NX ?zmax3 ?zmbx3); (case zmax3 => k_mem); (case zmbx3 => k_mem))
    case z1x3 => assumption
    case z2x3 => assumption
    case z3x3 => assumption
    case zfx3 => assumption
    case ztx3 => exact .kind (by assumption) (by assumption)
  · rename News h₀ L _ _ => NX
    rename Fr g1 L1 _ _ => FX
    refine' EndAt.mk (hret _ _ _ _ _ _ _ _ _ _ _ ?zox4 ?zix4 ?ztx4 ?z1x4 ?z2x4 ?z3x4 ?zfx4 ?zNx4)
    case zix4 => assumption
    case zox4 => (rename News g1 L1 _ _ => NZ; (refine' made_offU N0.out GS1 NZ ?zpa4 ?zpb4); (case zpa4 => k_mem); (case zpb4 => k_ne))
    case zNx4 => (refine' news_backU (own' := [_]) N0.out U0.out GS1 FX (news_two NX ?zmax4 ?zmbx4); (case zmax4 => k_mem); (case zmbx4 => k_mem))
    case z1x4 => assumption
    case z2x4 => assumption
    case z3x4 => assumption
    case zfx4 => assumption
    case ztx4 => exact .size (by assumption) (by assumption) (by assumption) (by assumption) (by assumption)
  · rename News h₀ L _ _ => NX
    rename Fr g1 L1 _ _ => FX
    refine' EndAt.mk (hret _ _ _ _ _ _ _ _ _ _ _ ?zox5 ?zix5 ?ztx5 ?z1x5 ?z2x5 ?z3x5 ?zfx5 ?zNx5)
    case zix5 => assumption
    case zox5 => (rename News g1 L1 _ _ => NZ; (refine' made_offU N0.out GS1 NZ ?zpa5 ?zpb5); (case zpa5 => k_mem); (case zpb5 => k_ne))
    case zNx5 => (refine' news_backU (own' := [_]) N0.out U0.out GS1 FX (news_two NX ?zmax5 ?zmbx5); (case zmax5 => k_mem); (case zmbx5 => k_mem))
    case z1x5 => assumption
    case z2x5 => assumption
    case z3x5 => assumption
    case zfx5 => assumption
    case ztx5 => exact .last (by assumption)
  · rename News h₀ L _ _ => NX
    rename Fr g1 L1 _ _ => FX
    refine' EndAt.mk (hret _ _ _ _ _ _ _ _ _ _ _ ?zox6 ?zix6 ?ztx6 ?z1x6 ?z2x6 ?z3x6 ?zfx6 ?zNx6)
    case zix6 => assumption
    case zox6 => (rename News g1 L1 _ _ => NZ; (refine' made_offU N0.out GS1 NZ ?zpa6 ?zpb6); (case zpa6 => k_mem); (case zpb6 => k_ne))
    case zNx6 => (refine' news_backU (own' := [_]) N0.out U0.out GS1 FX (news_two NX ?zmax6 ?zmbx6); (case zmax6 => k_mem); (case zmbx6 => k_mem))
    case z1x6 => assumption
    case z2x6 => assumption
    case z3x6 => assumption
    case zfx6 => assumption
    case ztx6 => exact .sum (by assumption) (by assumption) (by assumption) (by assumption)
  · rename News h₀ L _ _ => NX
    rename Fr g1 L1 _ _ => FX
    refine' EndAt.mk (hret _ _ _ _ _ _ _ _ _ _ _ ?zox7 ?zix7 ?ztx7 ?z1x7 ?z2x7 ?z3x7 ?zfx7 ?zNx7)
    case zix7 => assumption
    case zox7 => (rename News g1 L1 _ _ => NZ; (refine' made_offU N0.out GS1 NZ ?zpa7 ?zpb7); (case zpa7 => k_mem); (case zpb7 => k_ne))
    case zNx7 => (refine' news_backU (own' := [_]) N0.out U0.out GS1 FX (news_two NX ?zmax7 ?zmbx7); (case zmax7 => k_mem); (case zmbx7 => k_mem))
    case z1x7 => assumption
    case z2x7 => assumption
    case z3x7 => assumption
    case zfx7 => assumption
    case ztx7 => exact .first (by assumption)
end
end
theorem anew_Turn : True := by (w_top off); first | walk1 | trivial
-- LawBase
section

/-- the def's text, written out -/
theorem law_use {p : Program} {x : Str} {params params' : Arguments} {body body' : List Stmt} {scope scope' : Scope} {G : List Stmt → Scope → Prop}
    (hL : p.theDef x = some (params', body', scope')) (ho : p.theDef x = some (params, body, scope)) (h : p.theDef x = some (params, body, scope) → G body scope) : G body' scope' := by
  have h1 := h ho
  rw [ho] at hL
  cases hL
  exact h1
/-- the inner lists, told by a ledger -/
def LotsIn (inn : List (Addr × Obj)) : List Value → List (List Int) → Prop
  | [], [] => True
  | v :: vs, ls :: lss => (∃ a its n, v = .ref a ∧ (a, listOf (List.toArray its) n) ∈ inn ∧ IntsAre its ls) ∧ LotsIn inn vs lss
  | _, _ => False
theorem LotsIn.are {g h : Heap} {L : Addr} {inn : List (Addr × Obj)} (N : News g L h inn) : ∀ {vs : List Value} {lss : List (List Int)}, LotsIn inn vs lss → LotsAre h vs lss
  | [], [], _ => trivial
  | _ :: _, _ :: _, ⟨⟨a, its, n, hv, hm, hi⟩, r⟩ => ⟨⟨a, its, hv, News.isList N hm, hi⟩, r.are N⟩
theorem LotsIn.length {inn : List (Addr × Obj)} : ∀ {vs : List Value} {lss : List (List Int)}, LotsIn inn vs lss → vs.length = lss.length
  | [], [], _ => rfl
  | _ :: _, _ :: _, ⟨_, r⟩ => by simp [r.length]
theorem LotsIn.mono {inn inn' : List (Addr × Obj)} (hs : ∀ p ∈ inn, p ∈ inn') : ∀ {vs : List Value} {lss : List (List Int)}, LotsIn inn vs lss → LotsIn inn' vs lss
  | [], [], _ => trivial
  | _ :: _, _ :: _, ⟨⟨a, its, n, hv, hm, hi⟩, r⟩ => ⟨⟨a, its, n, hv, hs _ hm, hi⟩, r.mono hs⟩
theorem LotsIn.snoc {inn : List (Addr × Obj)} {a : Addr} {its : List Value} {n : Nat} {ls : List Int} (hm : (a, listOf its.toArray n) ∈ inn) (hi : IntsAre its ls) : ∀ {vs : List Value} {lss : List (List Int)}, LotsIn inn vs lss → LotsIn inn (vs ++ [.ref a]) (lss ++ [ls])
  | [], [], _ => ⟨⟨a, its, n, rfl, hm, hi⟩, trivial⟩
  | _ :: _, _ :: _, ⟨x, r⟩ => ⟨x, r.snoc hm hi⟩
theorem LotsIn.set0 {inn : List (Addr × Obj)} {a : Addr} {its : List Value} {n : Nat} {ls : List Int} (hm : (a, listOf its.toArray n) ∈ inn) (hi : IntsAre its ls) : ∀ {vs : List Value} {lss : List (List Int)}, LotsIn inn vs lss → LotsIn inn (vs.set 0 (.ref a)) (lss.set 0 ls)
  | [], [], _ => trivial
  | _ :: _, _ :: _, ⟨_, r⟩ => ⟨⟨a, its, n, rfl, hm, hi⟩, r⟩
theorem fr_kst {g h : Heap} {L : Addr} {m : Str → Option Value} {ps : List (Str × Value)} (hp : ∀ p ∈ ps, m p.1 = some p.2) (F : Fr g L h m) : Fr g L h (kstB m ps) := by
  have e : kstB m ps = m := by
    funext z
    exact kstB_eq hp fun _ => rfl
  rw [e]; exact F
abbrev lawCl (L : Addr) (scope : Scope) : List (Str × Addr) := cellsFrom (L + 1) scope.names []
def LawEnd (g : Heap) (L : Addr) (s₀ : Shared) (fl : Flow) (s : Shared) : Prop :=
  fl = .ret (.bool true) ∧ ∃ h tk m ps, s = { s₀ with heap := h, toks := tk } ∧ Fr g L h m ∧ h.get? 149 = some (tabObj ps)
def LawAt (w : World) (dp un : Nat) (gd : Option (List Code)) (g : Heap) (L : Addr) (s : Shared) (k : Nat) (body : List Stmt) (scope : Scope) : Prop :=
  wpC (model PySem.Challenge.rw_on0221_01.row.prog w) (ktrTop dp un gd (Str.ofString "law") scope L 152 (.ref 151) (lawCl L scope) []) (execs (body.drop k) (envOfC (Str.ofString "law") scope L 152 (.ref 151))) (LawEnd g L s) (fun _ _ => False) s
def CompStop (P : Prop) : Prop := P
theorem CompStop.out {P : Prop} (h : CompStop P) : P := h
/-- a piece whose raise is told -/
theorem wpC_pieceE {α : Type} {M : Model} {A : Around} {E : Value → Shared → Prop} {s : Shared} {Q : α → Shared → Prop} {t : Sem α}
    (h : ∀ Q', Aside (Q' = Q) → wpAny M A t (fun a s' => EndAt M A E (Q' a s') s') E s) : wpC M A t Q E s := wpC_any (ends_at (h Q rfl))
theorem passes_false {M : Model} {A : Around} {env : Env} : PassesOwn M A env (fun _ _ => False) := by
  intro e s' h
  exact h.elim
theorem range1_K {prog : Program} {w : World} {A : Around} {E : Value → Shared → Prop} {s : Shared} {g : Heap} {L : Addr} {m : Str → Option Value} {news : List (Addr × Obj)} {n : Int} {t : Tok} {Q : Value → Shared → Prop} (F : Fr g L s.heap m) (N : News g L s.heap news)
    (h : ∀ r h' tk u v, IsRange h' r 0 n 1 u t v → Fr g L h' m → News g L h' news → Q (.ref r) { s with heap := h', toks := tk }) : wpAny (model prog w) A (call (.type "range") [.int n t]) Q E s :=
  call_range_1 (h _ _ _ _ _ (Heap.get?_push_size _ rfl) (F.push _) (N.grown fun _ _ e => Heap.get?_push_of_some _ e))
theorem small8 {d : Int} (h0 : 0 ≤ d) (h1 : d < 8) : Builtin.Range.small 0 d 1 = true ∧ Builtin.Range.rangeSize 0 d 1 = ((d.toNat : Nat) : Int) := by
  have h : d = 0 ∨ d = 1 ∨ d = 2 ∨ d = 3 ∨ d = 4 ∨ d = 5 ∨ d = 6 ∨ d = 7 := by omega
  rcases h with rfl | rfl | rfl | rfl | rfl | rfl | rfl | rfl <;> decide
theorem news_back1 {g h : Heap} {L : Addr} {p1 p2 p3 p4 p5 p6 p7 : Addr × Obj} (N : News g L h [p1, p2, p3, p4, p5, p6, p7]) : News g L h [p2, p3, p4, p5, p6, p7, p1] := fun x hx => N x (by
  simp only [List.mem_cons, List.not_mem_nil, or_false] at hx ⊢
  rcases hx with h | h | h | h | h | h | h <;> simp [h])
theorem fr_off1 {g h : Heap} {L : Addr} {x : Str} {v : Option Value} {m₁ m₀ : Str → Option Value} (hm : ∀ z, z ≠ x → m₁ z = m₀ z) (F : Fr g L h (fun y => if y = x then v else m₁ y)) : Fr g L h (fun y => if y = x then v else m₀ y) := by
  have e : (fun y => if y = x then v else m₁ y) = fun y => if y = x then v else m₀ y := by
    funext y
    by_cases q : y = x
    · simp [q]
    · simp [q, hm y q]
  rw [← e]; exact F
theorem comp_ind {prog : Program} {w : World} {A : Around} {h₀ : Heap} {L : Addr} {m : Str → Option Value} {env : Env} {elt : Expr} {x : Str} {scope : Scope} {cl : List (Str × Addr)} {s : Shared} {S : List (Addr × Obj) → Prop} {P : Nat → Value → Prop} {Fin : List Value → List (Addr × Obj) → Prop} {news : List (Addr × Obj)}
    (St : Nat → List Value → List (Addr × Obj) → Prop) (n : Nat) (h0 : St 0 [] news)
    (turn : ∀ i ys nw, i < n → St i ys nw → ∀ v I oI C oC D m₂ h tk (E' : Value → Shared → Prop), P i v → LCg.NsObj oC m₂ → m₂ x = some v → Fr h₀ L h m → News h₀ L h ((I, oI) :: (C, oC) :: (D, LCg.lst ys) :: nw) → LCg.Off3 I C D nw → ((@Ne Nat I C) ∧ (@Ne Nat I D) ∧ (@Ne Nat C D)) →
      wpAny (model prog w) A (eval elt (compEnvC scope cl C env)) (LCg.CompEnd h₀ L m { s with heap := h, toks := tk } I oI C oC D (LCg.lst ys) S (fun y nw' => St (i + 1) (ys ++ [y]) nw')) E' { s with heap := h, toks := tk })
    (fin : ∀ ys nw, St n ys nw → Fin ys nw) : LCg.CompRest prog w A h₀ L m env elt x scope cl s S P Fin n 0 [] news := by
  have key : ∀ k i ys nw, i + k = n → St i ys nw → LCg.CompRest prog w A h₀ L m env elt x scope cl s S P Fin k i ys nw := by
    intro k
    induction k with
    | zero =>
      intro i ys nw e h
      have e' : i = n := by omega
      subst e'
      exact LCg.CompRest.zero (fin ys nw h)
    | succ k ih =>
      intro i ys nw e h
      refine LCg.CompRest.succ fun v I oI C oC D m₂ hp tk E' hP hC hx F N off ne => ?_
      refine wpAny_mono (turn i ys nw (by omega) h v I oI C oC D m₂ hp tk E' hP hC hx F N off ne) (fun y s₂ h₂ => ?_) fun _ _ z => z
      obtain ⟨h', tk', nw', e1, F', N', off', hS, hSt⟩ := h₂
      exact ⟨h', tk', nw', e1, F', N', off', hS, ih (i + 1) _ _ (by omega) hSt⟩
  exact key n 0 [] news (by omega) h0
theorem news_in {g h : Heap} {L : Addr} {d q a1 a2 a3 a4 a5 a6 lo : Addr × Obj} {inn : List (Addr × Obj)} (N : News g L h (d :: q :: a1 :: a2 :: a3 :: a4 :: a5 :: a6 :: lo :: inn)) : News g L h ([q] ++ (a1 :: a2 :: a3 :: a4 :: a5 :: a6 :: lo :: d :: inn)) := fun x hx => N x (by
  simp only [List.cons_append, List.nil_append, List.mem_cons] at hx ⊢
  rcases hx with h | h | h | h | h | h | h | h | h | h <;> simp [h])
theorem set0_K {prog : Program} {w : World} {A : Around} {E : Value → Shared → Prop} {s : Shared} {g : Heap} {L lo : Addr} {m : Str → Option Value} {news : List (Addr × Obj)} {gg : Obj → List (Addr × Obj)} {vals : List Value} {nl : Nat} {v : Value} {t : Tok} {Q : Unit → Shared → Prop}
    (F : Fr g L s.heap m) (N : News g L s.heap news) (U : UpdF lo (listOf vals.toArray nl) news gg) (h0 : 0 < vals.length)
    (hQ : ∀ h' o', Fr g L h' m → News g L h' (gg o') → (∀ h'' : Heap, h''.get? lo = some o' → h''.IsList lo (vals.set 0 v).toArray) → Q () { s with heap := h' }) : wpAny (model prog w) A (setItem (.ref lo) (.int 0 t) v) Q E s := by
  obtain ⟨pre, post, rfl, hg, h1, h2⟩ := U.split
  have hm := N _ (List.mem_append_right pre (List.Mem.head post))
  refine wpAny_setItem_list (k := 0) ⟨_, hm.1, rfl, _, rfl⟩ (by decide) (by decide) (by rw [List.size_toArray]; omega) fun h' hl hs => ?_
  obtain ⟨o', e1, e2⟩ := hl
  refine hQ h' o' (F.change hs hm.2.1 hm.2.2) (fun p hp => ?_) fun h'' e => ⟨o', e, by simpa using e2⟩
  rw [hg] at hp
  rcases List.mem_append.mp hp with hp | hp
  · have z := N p (List.mem_append_left _ hp)
    exact ⟨hs.extBut _ _ (h1 p hp) z.1, z.2⟩
  · rcases List.mem_cons.mp hp with rfl | hp
    · exact ⟨e1, hm.2⟩
    · have z := N p (List.mem_append_right _ (.tail _ hp))
      exact ⟨hs.extBut _ _ (h2 p hp) z.1, z.2⟩
/-- the stream's octets -/
def rowF (lss : List (List Int)) : List Int := [120, 1] ++ rowN lss.length 0 lss ++ (([3, 2, 1, 0] : List Int).map fun k => (lsumF lss.flatten).fdiv (256 ^ k.toNat) |>.fmod 256)
theorem rowN_in {n : Nat} : ∀ (i : Nat) (lss : List (List Int)), (∀ ls ∈ lss, ls.length < 512) → (∀ ls ∈ lss, ∀ k ∈ ls, 0 ≤ k ∧ k < 256) → ∀ k ∈ rowN n i lss, 0 ≤ k ∧ k < 256 := by
  intro i lss
  induction lss generalizing i with
  | nil => intro _ _ k hk; cases hk
  | cons ls r ih =>
    intro h1 h2 k hk
    have hl := h1 ls (.head _)
    have e1 : Int.fmod (ls.length : Int) 256 = (ls.length : Int) % 256 := Int.fmod_eq_emod_of_nonneg _ (by decide)
    have e2 : Int.fdiv (ls.length : Int) 256 = (ls.length : Int) / 256 := Int.fdiv_eq_ediv_of_nonneg _ (by decide)
    rcases List.mem_append.mp hk with hk | hk
    · rcases List.mem_append.mp hk with hk | hk
      · simp only [List.mem_cons, List.not_mem_nil, or_false, e1, e2] at hk
        rcases hk with q | q | q | q | q
        · rw [q]; split <;> decide
        · omega
        · omega
        · omega
        · omega
      · exact h2 ls (.head _) k hk
    · exact ih (i + 1) (fun x hx => h1 x (.tail _ hx)) (fun x hx => h2 x (.tail _ hx)) k hk
theorem rowF_in {lss : List (List Int)} (h1 : ∀ ls ∈ lss, ls.length < 512) (h2 : ∀ ls ∈ lss, ∀ k ∈ ls, 0 ≤ k ∧ k < 256) : ∀ k ∈ rowF lss, 0 ≤ k ∧ k < 256 := by
  intro k hk
  rcases List.mem_append.mp hk with hk | hk
  · rcases List.mem_append.mp hk with hk | hk
    · simp only [List.mem_cons, List.not_mem_nil, or_false] at hk
      rcases hk with q | q <;> rw [q] <;> decide
    · exact rowN_in 0 lss h1 h2 k hk
  · obtain ⟨j, _, rfl⟩ := List.mem_map.mp hk
    exact ⟨fmod_lo _ (by decide), fmod_hi _ (by decide)⟩
theorem rowF_len {lss : List (List Int)} (h1 : ∀ ls ∈ lss, ls.length < 512) (h2 : lss.length < 6) : 6 ≤ (rowF lss).length ∧ (rowF lss).length < 4096 := by
  have h3 := rowN_small h1 lss.length
  rw [List.take_length] at h3
  simp only [rowF, List.length_append, List.length_cons, List.length_nil, List.length_map]
  omega
end
theorem anew_LawBase : True := by (w_top off); first | walk1 | trivial
-- PlainR
section

theorem getD_at (pre r : List Int) (i : Nat) {p : Int} (hp : p = (pre.length : Int) + (i : Int)) : (pre ++ r).getD p.toNat 0 = r.getD i 0 := by
  have e : p.toNat = pre.length + i := by omega
  rw [e, List.getD_eq_getElem?_getD, List.getD_eq_getElem?_getD, List.getElem?_append_right (by omega)]
  congr 2; omega
theorem blk_open (pre rest : List Int) (c0 c1 c2 c3 c4 : Int) {p : Int} (hp : p = (pre.length : Int)) : blkF (pre ++ c0 :: c1 :: c2 :: c3 :: c4 :: rest) p =
    if c0.fdiv 2 ≠ 0 then none else if c3 + 256 * c4 ≠ 65535 - (c1 + 256 * c2) then none else if (rest.length : Int) < c1 + 256 * c2 then none else some (c1 + 256 * c2) := by
  have g0 := getD_at pre (c0 :: c1 :: c2 :: c3 :: c4 :: rest) 0 (p := p) (by omega)
  have g1 := getD_at pre (c0 :: c1 :: c2 :: c3 :: c4 :: rest) 1 (p := p + 1) (by omega)
  have g2 := getD_at pre (c0 :: c1 :: c2 :: c3 :: c4 :: rest) 2 (p := p + 2) (by omega)
  have g3 := getD_at pre (c0 :: c1 :: c2 :: c3 :: c4 :: rest) 3 (p := p + 3) (by omega)
  have g4 := getD_at pre (c0 :: c1 :: c2 :: c3 :: c4 :: rest) 4 (p := p + 4) (by omega)
  simp only [List.getD_cons_zero, List.getD_cons_succ] at g0 g1 g2 g3 g4
  have hl : ((pre ++ c0 :: c1 :: c2 :: c3 :: c4 :: rest).length : Int) = p + 5 + (rest.length : Int) := by
    rw [List.length_append]; simp only [List.length_cons]; omega
  unfold blkF
  rw [g0, g1, g2, g3, g4, hl, if_neg (by omega)]
  have e : (2 : Int) ^ Int.toNat 1 = 2 := by decide
  rw [e]
  congr 2
  by_cases q : (rest.length : Int) < c1 + 256 * c2
  · rw [if_pos q, if_pos (by omega)]
  · rw [if_neg q, if_neg (by omega)]
theorem blk_good (pre ls post : List Int) {f : Int} (hf : f = 0 ∨ f = 1) (hl : ls.length < 512) {p : Int} (hp : p = (pre.length : Int)) : blkF (pre ++ (blockF f ls ++ post)) p = some (ls.length : Int) := by
  have e1 : Int.fmod (ls.length : Int) 256 = (ls.length : Int) % 256 := Int.fmod_eq_emod_of_nonneg _ (by decide)
  have e2 : Int.fdiv (ls.length : Int) 256 = (ls.length : Int) / 256 := Int.fdiv_eq_ediv_of_nonneg _ (by decide)
  have h := blk_open pre (ls ++ post) f (Int.fmod (ls.length : Int) 256) (Int.fdiv (ls.length : Int) 256) (255 - Int.fmod (ls.length : Int) 256) (255 - Int.fdiv (ls.length : Int) 256) hp
  unfold blockF
  simp only [List.cons_append, List.nil_append] at h ⊢
  rw [h, e1, e2, if_neg, if_neg, if_neg]
  · congr 1; omega
  · rw [List.length_append]; push_cast; omega
  · omega
  · rcases hf with q | q <;> rw [q] <;> decide
theorem flag_at (pre ls post : List Int) (f : Int) {p : Int} (hp : p = (pre.length : Int)) : (pre ++ (blockF f ls ++ post)).getD p.toNat 0 = f := by
  have h := getD_at pre (blockF f ls ++ post) 0 (p := p) (by omega)
  rw [h]; rfl
theorem slice_at (pre ls post : List Int) (f : Int) {p : Int} (hp : p = (pre.length : Int)) : slice (pre ++ (blockF f ls ++ post)) (p + 5) (ls.length : Int) = ls := by
  unfold slice
  have e : (p + 5).toNat = pre.length + 5 := by omega
  rw [e, Int.toNat_natCast, ← List.drop_drop, List.drop_left]
  unfold blockF
  simp only [List.cons_append, List.nil_append, List.drop_succ_cons, List.drop_zero]
  exact List.take_left
theorem uns_zero (m : Nat) (pre ls post acc : List Int) (hl : ls.length < 512) {p : Int} (hp : p = (pre.length : Int)) :
    unsL (m + 1) (pre ++ (blockF 0 ls ++ post)) p acc = unsL m (pre ++ (blockF 0 ls ++ post)) (p + 5 + (ls.length : Int)) (acc ++ ls) := by
  rw [unsL, blk_good pre ls post (.inl rfl) hl hp]
  dsimp only
  rw [flag_at pre ls post 0 hp, slice_at pre ls post 0 hp, if_neg (by decide)]
theorem uns_one (m : Nat) (pre ls post acc : List Int) (hl : ls.length < 512) {p : Int} (hp : p = (pre.length : Int)) :
    unsL (m + 1) (pre ++ (blockF 1 ls ++ post)) p acc = some (p + 5 + (ls.length : Int), acc ++ ls) := by
  rw [unsL, blk_good pre ls post (.inr rfl) hl hp]
  dsimp only
  rw [flag_at pre ls post 1 hp, slice_at pre ls post 1 hp, if_pos rfl]
def zeros : List (List Int) → List Int
  | [] => []
  | ls :: r => blockF 0 ls ++ zeros r
theorem block_len (f : Int) (ls : List Int) : (blockF f ls).length = 5 + ls.length := by
  unfold blockF; rw [List.length_append]; rfl
theorem uns_zeros (post : List Int) : ∀ (A : List (List Int)) (m : Nat) (pre acc : List Int) {p : Int}, (∀ ls ∈ A, ls.length < 512) → p = (pre.length : Int) →
    unsL (m + A.length) (pre ++ (zeros A ++ post)) p acc = unsL m (pre ++ (zeros A ++ post)) (p + ((zeros A).length : Int)) (acc ++ A.flatten)
  | [], m, pre, acc, p, _, hp => by
    simp [zeros]
  | ls :: A, m, pre, acc, p, hA, hp => by
    have h1 := uns_zero (m + A.length) pre ls (zeros A ++ post) acc (hA ls (.head _)) hp
    have h2 := uns_zeros post A m (pre ++ blockF 0 ls) (acc ++ ls) (p := p + 5 + (ls.length : Int)) (fun x hx => hA x (.tail _ hx)) (by rw [List.length_append, block_len]; push_cast; omega)
    have e : pre ++ (zeros (ls :: A) ++ post) = pre ++ (blockF 0 ls ++ (zeros A ++ post)) := by rw [zeros, List.append_assoc]
    have e2 : pre ++ blockF 0 ls ++ (zeros A ++ post) = pre ++ (blockF 0 ls ++ (zeros A ++ post)) := List.append_assoc ..
    rw [e2] at h2
    rw [e, List.length_cons, ← Nat.add_assoc, h1, h2, zeros, List.length_append, block_len, List.flatten_cons, List.append_assoc]
    congr 1
    push_cast; omega
theorem uns_none (post : List Int) : ∀ (A : List (List Int)) (pre : List Int) {p : Int}, (∀ ls ∈ A, ls.length < 512) → p = (pre.length : Int) →
    (∀ m acc, unsL m (pre ++ (zeros A ++ post)) (p + ((zeros A).length : Int)) acc = none) → ∀ m acc, unsL m (pre ++ (zeros A ++ post)) p acc = none
  | [], pre, p, _, hp, h, m, acc => by
    have := h m acc
    simpa [zeros] using this
  | ls :: A, pre, p, hA, hp, h, m, acc => by
    cases m with
    | zero => rfl
    | succ m =>
      have e : pre ++ (zeros (ls :: A) ++ post) = pre ++ (blockF 0 ls ++ (zeros A ++ post)) := by rw [zeros, List.append_assoc]
      have e2 : pre ++ blockF 0 ls ++ (zeros A ++ post) = pre ++ (blockF 0 ls ++ (zeros A ++ post)) := List.append_assoc ..
      rw [e, uns_zero m pre ls (zeros A ++ post) acc (hA ls (.head _)) hp]
      have h2 := uns_none post A (pre ++ blockF 0 ls) (p := p + 5 + (ls.length : Int)) (fun x hx => hA x (.tail _ hx)) (by rw [List.length_append, block_len]; push_cast; omega)
      rw [e2] at h2
      refine h2 (fun m' acc' => ?_) m _
      have h3 := h m' acc'
      rw [e, zeros, List.length_append, block_len] at h3
      have e3 : p + 5 + (ls.length : Int) + ((zeros A).length : Int) = p + ((5 + ls.length + (zeros A).length : Nat) : Int) := by push_cast; omega
      rw [e3]; exact h3
theorem rowN_app (n : Nat) (r : List (List Int)) : ∀ (A : List (List Int)) (i : Nat), rowN n i (A ++ r) = rowN n i A ++ rowN n (i + A.length) r
  | [], i => by simp [rowN]
  | ls :: A, i => by
    show blockF _ ls ++ rowN n (i + 1) (A ++ r) = (blockF _ ls ++ rowN n (i + 1) A) ++ _
    rw [rowN_app n r A (i + 1), List.append_assoc, List.length_cons]
    congr 3; omega
theorem rowN_zeros (n : Nat) : ∀ (A : List (List Int)) (i : Nat), i + A.length < n → rowN n i A = zeros A
  | [], _, _ => rfl
  | ls :: A, i, h => by
    rw [List.length_cons] at h
    show blockF _ ls ++ rowN n (i + 1) A = blockF 0 ls ++ zeros A
    rw [rowN_zeros n A (i + 1) (by omega), if_neg (by omega)]
def sumB (x : Int) : List Int := ([3, 2, 1, 0] : List Int).map fun k => (x.fdiv (256 ^ k.toNat)).fmod 256
theorem rowF_eq (lss : List (List Int)) : rowF lss = [120, 1] ++ (rowN lss.length 0 lss ++ sumB (lsumF lss.flatten)) := by
  unfold rowF sumB
  rw [List.append_assoc]
/-- a row cut at a head -/
theorem row_cut {lss : List (List Int)} {j : Nat} {ls : List Int} (hj : lss[j]? = some ls) : ∃ (A C : List (List Int)), lss = A ++ ls :: C ∧ A.length = j ∧ headAt lss j = (([120, 1] ++ zeros A).length : Int) ∧
    (∀ S, [120, 1] ++ (rowN lss.length 0 lss ++ S) = ([120, 1] ++ zeros A) ++ (blockF (if C.length = 0 then 1 else 0) ls ++ (rowN lss.length (j + 1) C ++ S))) ∧ (C.length ≠ 0 → 5 ≤ (rowN lss.length (j + 1) C).length) ∧ (C.length = 0 → rowN lss.length (j + 1) C = []) := by
  obtain ⟨hlt, hls⟩ := List.getElem?_eq_some_iff.mp hj
  have e : lss = lss.take j ++ ls :: lss.drop (j + 1) := by
    rw [← hls, List.getElem_cons_drop, List.take_append_drop]
  have el : (lss.take j).length = j := by rw [List.length_take]; omega
  have ez : rowN lss.length 0 (lss.take j) = zeros (lss.take j) := rowN_zeros _ _ _ (by omega)
  have ed : (lss.drop (j + 1)).length = lss.length - (j + 1) := List.length_drop
  refine ⟨lss.take j, lss.drop (j + 1), e, el, ?_, fun S => ?_, fun h => ?_, fun h => ?_⟩
  · rw [headAt, ez, List.length_append]; rfl
  · have h1 : rowN lss.length 0 lss = zeros (lss.take j) ++ rowN lss.length j (ls :: lss.drop (j + 1)) := by
      have h2 := rowN_app lss.length (ls :: lss.drop (j + 1)) (lss.take j) 0
      rw [← e, ez, el, Nat.zero_add] at h2
      exact h2
    rw [h1, rowN]
    simp only [List.append_assoc]
    congr 4
    rw [ed]
    by_cases q : j + 1 = lss.length
    · rw [if_pos (by omega), if_pos (by omega)]
    · rw [if_neg (by omega), if_neg (by omega)]
  · cases q : lss.drop (j + 1) with
    | nil => rw [q] at h; exact absurd rfl h
    | cons x r => rw [rowN, List.length_append, block_len]; omega
  · rw [List.length_eq_zero_iff.mp h]; rfl
theorem walk_all {lss : List (List Int)} (h0 : 0 < lss.length) (h2 : ∀ ls ∈ lss, ls.length < 512) (S : List Int) {m : Nat} (hm : lss.length ≤ m) :
    unsL m ([120, 1] ++ (rowN lss.length 0 lss ++ S)) 2 [] = some (2 + ((rowN lss.length 0 lss).length : Int), lss.flatten) := by
  have hj : lss[lss.length - 1]? = some (lss[lss.length - 1]) := List.getElem?_eq_getElem (by omega)
  obtain ⟨A, C, e, el, eh, er, _, eC⟩ := row_cut hj
  have hC : C.length = 0 := by
    have := congrArg List.length e
    rw [List.length_append, List.length_cons] at this
    omega
  have hz : (lss[lss.length - 1]).length < 512 := h2 _ (List.mem_of_getElem? hj)
  have er0 := er S
  have er1 := congrArg List.length (er [])
  generalize lss[lss.length - 1] = z at e er0 er1 hz
  rw [if_pos hC, eC hC] at er0 er1
  rw [er0, List.append_assoc [120, 1]]
  obtain ⟨m', rfl⟩ : ∃ m', m = (m' + 1) + A.length := ⟨m - lss.length, by omega⟩
  have hA : ∀ ls ∈ A, ls.length < 512 := fun x hx => h2 x (by rw [e]; exact List.mem_append_left _ hx)
  rw [uns_zeros _ A (m' + 1) [120, 1] [] (p := 2) hA rfl]
  have e9 : [120, 1] ++ (zeros A ++ (blockF 1 z ++ ([] ++ S))) = ([120, 1] ++ zeros A) ++ (blockF 1 z ++ S) := by simp
  rw [e9, uns_one m' ([120, 1] ++ zeros A) z S ([] ++ A.flatten) hz (by rw [List.length_append]; rfl)]
  have e8 : lss.flatten = A.flatten ++ z := by
    have : C = [] := List.length_eq_zero_iff.mp hC
    rw [e, this]; simp
  rw [e8, List.nil_append]
  congr 2
  simp only [List.length_append, List.length_cons, List.length_nil, block_len] at er1
  omega
theorem hdr_good (r : List Int) : ¬ hdrBad (120 :: 1 :: r) := by
  refine unst_good (by simp only [List.length_cons]; omega) ?_ ?_ ?_
  · show Builtin.bitAnd 120 15 = 8
    decide
  · show Int.fmod (256 * 120 + 1) 31 = 0
    decide
  · show Builtin.bitAnd 1 32 = 0
    decide
theorem sumB_get (P : List Int) (b0 b1 b2 b3 : Int) (r0 : 0 ≤ b0 ∧ b0 < 256) (r1 : 0 ≤ b1 ∧ b1 < 256) (r2 : 0 ≤ b2 ∧ b2 < 256) (r3 : 0 ≤ b3 ∧ b3 < 256) {p : Int} (hp : p = (P.length : Int)) :
    get32F (P ++ [b0, b1, b2, b3]) p = b0 * 16777216 + b1 * 65536 + b2 * 256 + b3 :=
  get32_sum (getD_at P [b0, b1, b2, b3] 0 (by omega)) (getD_at P [b0, b1, b2, b3] 1 (by omega)) (getD_at P [b0, b1, b2, b3] 2 (by omega)) (getD_at P [b0, b1, b2, b3] 3 (by omega)) r0 r1 r2 r3
theorem sumB_split {x : Int} (h0 : 0 ≤ x) (h1 : x < 4294967296) : ∃ b0 b1 b2 b3 : Int, sumB x = [b0, b1, b2, b3] ∧ (0 ≤ b0 ∧ b0 < 256) ∧ (0 ≤ b1 ∧ b1 < 256) ∧ (0 ≤ b2 ∧ b2 < 256) ∧ (0 ≤ b3 ∧ b3 < 256) ∧ b0 * 16777216 + b1 * 65536 + b2 * 256 + b3 = x := by
  refine ⟨x / 16777216 % 256, x / 65536 % 256, x / 256 % 256, x % 256, ?_, ?_, ?_, ?_, ?_, ?_⟩
  · have e3 : (256 : Int) ^ Int.toNat 3 = 16777216 := by decide
    have e2 : (256 : Int) ^ Int.toNat 2 = 65536 := by decide
    have e1 : (256 : Int) ^ Int.toNat 1 = 256 := by decide
    have e0 : (256 : Int) ^ Int.toNat 0 = 1 := by decide
    simp only [sumB, List.map_cons, List.map_nil, e3, e2, e1, e0]
    rw [Int.fdiv_eq_ediv_of_nonneg _ (by decide), Int.fdiv_eq_ediv_of_nonneg _ (by decide), Int.fdiv_eq_ediv_of_nonneg _ (by decide), Int.fdiv_eq_ediv_of_nonneg _ (by decide),
      Int.fmod_eq_emod_of_nonneg _ (by decide), Int.fmod_eq_emod_of_nonneg _ (by decide), Int.fmod_eq_emod_of_nonneg _ (by decide), Int.fmod_eq_emod_of_nonneg _ (by decide), Int.ediv_one]
  all_goals omega
theorem lot_count {lss : List (List Int)} (n i : Nat) : lss.length ≤ (rowN n i lss).length := by
  induction lss generalizing i with
  | nil => exact Nat.zero_le _
  | cons ls r ih => rw [rowN, List.length_append, block_len, List.length_cons]; have := ih (i + 1); omega
theorem unst_sum {lss : List (List Int)} (h0 : 0 < lss.length) (h2 : ∀ ls ∈ lss, ls.length < 512) (S : List Int) : unstF ([120, 1] ++ (rowN lss.length 0 lss ++ S)) =
    if S.length ≠ 4 ∨ get32F ([120, 1] ++ (rowN lss.length 0 lss ++ S)) (2 + ((rowN lss.length 0 lss).length : Int)) ≠ lsumF lss.flatten then none else some lss.flatten := by
  have hlen : ([120, 1] ++ (rowN lss.length 0 lss ++ S)).length = 2 + (rowN lss.length 0 lss).length + S.length := by
    simp only [List.length_append, List.length_cons, List.length_nil]; omega
  have hw := walk_all h0 h2 S (m := ([120, 1] ++ (rowN lss.length 0 lss ++ S)).length) (by rw [hlen]; have := lot_count (lss := lss) lss.length 0; omega)
  have hg : ¬ hdrBad ([120, 1] ++ (rowN lss.length 0 lss ++ S)) := hdr_good _
  unfold unstF
  rw [if_neg hg, hw]
  dsimp only
  rw [adl_lsum, hlen]
  have e : (2 + ((rowN lss.length 0 lss).length : Int) + 4 ≠ ((2 + (rowN lss.length 0 lss).length + S.length : Nat) : Int)) ↔ S.length ≠ 4 := by
    push_cast; omega
  simp only [e]
theorem unst_rowP {lss : List (List Int)} (h0 : 0 < lss.length) (h2 : ∀ ls ∈ lss, ls.length < 512) : unstF (rowF lss) = some lss.flatten := by
  obtain ⟨z0, z1⟩ := lsum_in lss.flatten
  obtain ⟨b0, b1, b2, b3, es, r0, r1, r2, r3, ex⟩ := sumB_split z0 z1
  rw [rowF_eq, es, unst_sum h0 h2, if_neg]
  rintro (q | q)
  · exact q rfl
  · refine q ?_
    rw [← List.append_assoc, sumB_get _ _ _ _ _ r0 r1 r2 r3 (by rw [List.length_append]; simp), ex]
theorem blk_rowP {lss : List (List Int)} (h2 : ∀ ls ∈ lss, ls.length < 512) {j : Nat} {ls : List Int} (hj : lss[j]? = some ls) : blkF (rowF lss) (headAt lss j) = some (ls.length : Int) := by
  obtain ⟨A, C, e, el, eh, er, _⟩ := row_cut hj
  rw [rowF_eq, er, eh]
  refine blk_good _ _ _ ?_ (h2 _ (List.mem_of_getElem? hj)) rfl
  split
  · exact .inr rfl
  · exact .inl rfl
end
theorem anew_PlainR : True := by (w_top off); first | walk1 | trivial
-- LawPost
section

section
variable {c : ClaimW} {cl : Str → Option Addr} {mean : ExcName → Option Value} {args : List WData} {s₁ s' : Shared}
theorem good_start (hg : s₁.gens = #[]) (hn : ∀ e, c.raises args e = false) (hp : c.post args (.bool true) args = true) : GoodWG c cl mean args s₁ (.ok (.ret (.bool true))) s₁ :=
  ⟨.inl ⟨_, .bool true, [], rfl, hn, .bool true, hp, fun _ => ⟨.nil, fun _ ha => nomatch ha⟩⟩, .of_keep fun _ _ e => e, rfl, .of_eq hg⟩
theorem law_post {cd P : Addr} {h : Heap} {L : Addr} {tk : Nat} {m : Str → Option Value} {ps : Array Value} (hT : TabsAt [(cd, P)] s₁.heap) (hg : s₁.gens = #[]) (hn : ∀ e, c.raises args e = false) (hp : c.post args (.bool true) args = true)
    (hs : s' = { s₁ with heap := h, toks := tk }) (F : Fr (ghostOf s₁.heap [(cd, P)]) L h m) (hP : h.get? P = some (tabObj ps)) : GoodWG c cl mean args s₁ (.ok (.ret (.bool true))) s' := by
  subst hs
  have h0 := hT (cd, P) (.head _)
  have hk : ∀ b o, b ≠ P → s₁.heap.get? b = some o → h.get? b = some o := fun b o hb e => F.keep b o (ghost_ne e fun q => hb (List.mem_singleton.mp q))
  refine ⟨.inl ⟨_, .bool true, [], rfl, hn, .bool true, hp, fun _ => ⟨.nil, fun _ ha => nomatch ha⟩⟩, ⟨fun b o e => ?_, fun b o e => ?_⟩, rfl, .of_eq hg⟩
  · by_cases hb : b = P
    · subst hb
      have e2 := h0.2
      rw [show s₁.heap.get? b = some o from e] at e2
      obtain rfl := Option.some.inj e2
      exact .inr (.inl ⟨(h0.1.tab h0.2).isCodeTable, rfl, #[], ps, rfl, by rw [Array.empty_append]; exact hP⟩)
    · exact .inl (hk b o hb e)
  · by_cases hb : b = P
    · exact ⟨_, hb ▸ hP⟩
    · exact ⟨o, hk b o hb e⟩
end
section
variable {prog : Program} {w : World} {A : Around} {s : Shared} {R : Result → Shared → Prop} {name qual : Str} {params : Arguments} {body : List Stmt} {scope : Scope} {dV kV doc pm cdv ct oc : Value} {an od : Option Addr} {osl : Array (Option Value)} {f : Addr} {args : Args} {binds : List (Str × Value)}
/-- a function with cells entered from the claim's own stub -/
theorem code_topC {K : Frag} {p : Program} {loose : List Str} {mean : ExcName → Option Value} {mg mb : Str → Option Value} (X : K.In s.heap) (T : Top p loose mean mg mb s.heap)
    (ho : K.lookup f = some ⟨oc, od, .func (fnOf name qual params body scope dV kV doc pm an cdv ct), osl⟩) (hcd : codeIn K cdv qual = true) (hroom : A.depth < recursionLimit)
    (hbind : BindsTo s (fnOf name qual params body scope dV kV doc pm an cdv ct) args binds) (hkind : (binds.all fun y => scope.names.lookup y.1 == some .local || scope.names.lookup y.1 == some .cell) = true)
    (hnd : ((cellsFrom 0 scope.names []).map (·.1)).Nodup)
    (h : ∀ L h₁ tk cells, Fr s.heap L h₁ (bindL (envOfC qual scope L f cdv).kindOf binds fun _ => none) → News s.heap L h₁ cells → CellsAre (bindC (envOfC qual scope L f cdv).kindOf binds fun _ => none) (cellsFrom (L + 1) scope.names []) cells →
      wpC (model prog w) (A.deeper (envOfC qual scope L f cdv)) (execs body (envOfC qual scope L f cdv))
        (fun fl s' => R (.ok (.ret (match fl with | .ret v => v | _ => .none))) s') (fun _ _ => False) { s with heap := h₁, toks := tk })
    (hco : scope.isCoroutine = false) (hgen : scope.isGenerator = false) (hk : scope.kind = .function) : codeC (model prog w) A (.call (.ref f) args) R s := by
  refine codeC_call_function (fd := fnX name qual params body scope [] dV kV doc pm an cdv ct) hroom (X _ _ ho) rfl hco hgen rfl (codeRec_of X hcd) (hbind _ _ _ _ ?_)
  refine wpAny_newFunctionEnv_cells hk (kindsX hkind _) fun env' he s' x => ?_
  subst he
  refine ⟨T.nolimit.keeps x.toInCall.keep, codeC_func ?_⟩
  obtain ⟨h₁, tk, rfl, _⟩ := x.done
  have hk₁ := x.toInCall.keep
  obtain ⟨cells, NC, Y⟩ := Cl.news (h₀ := s.heap) (Nat.le_refl _) fun n c hm => ⟨x.cell n c (lookup_of_mem_nodup (cellsFrom_names scope.names 0 (s.heap.objs.size + 1) [] [] rfl ▸ hnd) hm), x.above n c hm⟩
  exact wpC_mono (h s.heap.objs.size h₁ tk cells ⟨x.toInCall.ns, hk₁, Nat.le_refl _⟩ NC Y) (fun _ _ y => y) fun _ _ y => y.elim
end
end
theorem anew_LawPost : True := by (w_top off); first | walk1 | trivial
-- PlainT
section

theorem blk_ext {ks ext : List Int} {p z : Int} (hin : ∀ k ∈ ks, 0 ≤ k) (hp : 0 ≤ p) (h : blkF ks p = some z) :
    blkF (ks ++ ext) p = some z ∧ p + 5 + z ≤ (ks.length : Int) ∧ 0 ≤ z ∧ (ks ++ ext).getD p.toNat 0 = ks.getD p.toNat 0 ∧ slice (ks ++ ext) (p + 5) z = slice ks (p + 5) z := by
  have hg : ∀ q : Int, 0 ≤ q → q < (ks.length : Int) → (ks ++ ext).getD q.toNat 0 = ks.getD q.toNat 0 := fun q h0 h1 => by
    rw [List.getD_eq_getElem?_getD, List.getD_eq_getElem?_getD, List.getElem?_append_left (by omega)]
  have hn : ∀ i : Nat, 0 ≤ ks.getD i 0 := fun i => by
    rw [List.getD_eq_getElem?_getD]
    cases q : ks[i]? with
    | none => exact Int.le_refl 0
    | some v => exact hin v (List.mem_of_getElem? q)
  have n1 := hn (p + 1).toNat
  have n2 := hn (p + 2).toNat
  unfold blkF at h ⊢
  split at h
  · cases h
  rename_i q1
  rw [hg p hp (by omega), hg (p + 1) (by omega) (by omega), hg (p + 2) (by omega) (by omega), hg (p + 3) (by omega) (by omega), hg (p + 4) (by omega) (by omega)]
  split at h
  · cases h
  rename_i q2
  split at h
  · cases h
  rename_i q3
  split at h
  · cases h
  rename_i q4
  have hz := Option.some.inj h
  have hl : ((ks ++ ext).length : Int) = (ks.length : Int) + (ext.length : Int) := by rw [List.length_append]; push_cast; rfl
  rw [hl]
  refine ⟨?_, by omega, by omega, rfl, ?_⟩
  · rw [if_neg (by omega), if_neg q2, if_neg q3, if_neg (by omega), hz]
  · unfold slice
    rw [List.drop_append_of_le_length (by omega), List.take_append_of_le_length (by rw [List.length_drop]; omega)]
theorem uns_ext {ks ext : List Int} (hin : ∀ k ∈ ks, 0 ≤ k) : ∀ (m : Nat) (p : Int) (acc : List Int) (r : Int × List Int), 0 ≤ p → unsL m ks p acc = some r → ∀ m', m ≤ m' → unsL m' (ks ++ ext) p acc = some r ∧ r.1 ≤ (ks.length : Int)
  | 0, _, _, _, _, h, _, _ => nomatch h
  | m + 1, p, acc, r, hp, h, m', hm => by
    obtain ⟨m'', rfl⟩ : ∃ m'', m' = m'' + 1 := ⟨m' - 1, by omega⟩
    rw [unsL] at h ⊢
    cases q : blkF ks p with
    | none => rw [q] at h; cases h
    | some z =>
      obtain ⟨e1, e2, e3, e4, e5⟩ := blk_ext (ext := ext) hin hp q
      rw [q] at h
      rw [e1]
      dsimp only at h ⊢
      rw [e4, e5]
      split at h
      · rename_i q2
        rw [if_pos q2]
        have hr := Option.some.inj h
        subst hr
        exact ⟨rfl, e2⟩
      · rename_i q2
        rw [if_neg q2]
        exact uns_ext hin m (p + 5 + z) _ r (by omega) h m'' (by omega)
theorem uns_len (ks : List Int) (h : ∀ acc p, unsL ks.length ks 2 [] = some (p, acc) → p + 4 ≠ (ks.length : Int)) : unstF ks = none := by
  unfold unstF
  split
  · rfl
  · cases q : unsL ks.length ks 2 [] with
    | none => rfl
    | some r =>
      obtain ⟨p, acc⟩ := r
      dsimp only
      rw [if_pos (.inl (h acc p q))]
theorem uns_no (ks : List Int) (h : unsL ks.length ks 2 [] = none) : unstF ks = none := uns_len ks fun acc p e => by rw [h] at e; cases e
section
variable {lss : List (List Int)} (h0 : 0 < lss.length) (h2 : ∀ ls ∈ lss, ls.length < 512) (h3 : ∀ ls ∈ lss, ∀ k ∈ ls, 0 ≤ k ∧ k < 256)
include h0 h2 h3
omit h0 in
theorem row_pos : ∀ k ∈ rowF lss, 0 ≤ k := fun k hk => (rowF_in h2 h3 k hk).1
omit h3 in
theorem uns_row {m : Nat} (hm : lss.length ≤ m) : unsL m (rowF lss) 2 [] = some (((rowF lss).length : Int) - 4, lss.flatten) := by
  rw [rowF_eq, walk_all h0 h2 _ hm]
  congr 2
  simp only [List.length_append, List.length_cons, List.length_nil, sumB, List.length_map]
  omega
omit h0 h2 h3 in
theorem lots_row : lss.length ≤ (rowF lss).length := by
  rw [rowF_eq]
  simp only [List.length_append]
  have := lot_count (lss := lss) lss.length 0
  omega
theorem unst_cut {k : Nat} (hk : k < (rowF lss).length) : unstF ((rowF lss).take k) = none := by
  refine uns_len _ fun acc p e => ?_
  have hp : ∀ x ∈ (rowF lss).take k, 0 ≤ x := fun x hx => row_pos h2 h3 x (List.mem_of_mem_take hx)
  have hl : ((rowF lss).take k).length = k := by rw [List.length_take]; omega
  rw [hl] at e ⊢
  obtain ⟨e1, _⟩ := uns_ext (ext := (rowF lss).drop k) hp _ _ _ _ (by decide) e (k + lss.length) (by omega)
  rw [List.take_append_drop, uns_row h0 h2 (by omega)] at e1
  have e2 := congrArg Prod.fst (Option.some.inj e1)
  dsimp only at e2
  omega
theorem unst_longer (b : Int) : unstF (rowF lss ++ [b]) = none := by
  refine uns_len _ fun acc p e => ?_
  obtain ⟨e1, _⟩ := uns_ext (ext := [b]) (row_pos h2 h3) _ _ _ _ (by decide) (uns_row h0 h2 lots_row) (rowF lss ++ [b]).length (by rw [List.length_append]; omega)
  rw [e1] at e
  have e2 := congrArg Prod.fst (Option.some.inj e)
  dsimp only at e2
  rw [List.length_append, List.length_singleton]
  omega
end
end
theorem anew_PlainT : True := by (w_top off); first | walk1 | trivial
-- PlainU
section

theorem set_at (pre r : List Int) (i : Nat) (y : Int) {p : Int} (hp : p = (pre.length : Int) + (i : Int)) : (pre ++ r).set p.toNat y = pre ++ r.set i y := by
  have e : p.toNat = pre.length + i := by omega
  rw [e, List.set_append_right _ _ (by omega)]
  congr 2; omega
theorem no_at {A : List (List Int)} {post : List Int} (hA : ∀ ls ∈ A, ls.length < 512) (hb : blkF (([120, 1] ++ zeros A) ++ post) ((([120, 1] ++ zeros A).length : Nat) : Int) = none) : unstF (([120, 1] ++ zeros A) ++ post) = none := by
  rw [List.append_assoc] at hb ⊢
  have e : ((([120, 1] ++ zeros A).length : Nat) : Int) = 2 + ((zeros A).length : Int) := by rw [List.length_append]; simp
  rw [e] at hb
  refine uns_no _ (uns_none post A [120, 1] (p := 2) hA rfl (fun m acc => ?_) _ _)
  cases m with
  | zero => rfl
  | succ m => rw [unsL, hb]
theorem block_cons (f : Int) (ls R : List Int) : ∃ c1 c2 c3 c4 : Int, blockF f ls ++ R = f :: c1 :: c2 :: c3 :: c4 :: (ls ++ R) ∧ c3 = 255 - c1 ∧ c4 = 255 - c2 ∧ 0 ≤ c1 ∧ c1 < 256 ∧ 0 ≤ c2 :=
  ⟨Int.fmod (ls.length : Int) 256, Int.fdiv (ls.length : Int) 256, _, _, rfl, rfl, rfl, fmod_lo _ (by decide), fmod_hi _ (by decide), by rw [Int.fdiv_eq_ediv_of_nonneg _ (by decide)]; omega⟩
theorem first_two (lss : List (List Int)) : rowF lss = 120 :: 1 :: (rowN lss.length 0 lss ++ sumB (lsumF lss.flatten)) := rowF_eq lss
theorem sumB_len (x : Int) : (sumB x).length = 4 := rfl
section
variable {lss : List (List Int)} (h0 : 0 < lss.length) (h2 : ∀ ls ∈ lss, ls.length < 512) (h3 : ∀ ls ∈ lss, ∀ k ∈ ls, 0 ≤ k ∧ k < 256)
include h2
theorem turned_kind {j : Nat} {ls : List Int} (hj : lss[j]? = some ls) {b : Int} (hb : b ∈ ([2, 4] : List Int)) : unstF ((rowF lss).set (headAt lss j).toNat ((rowF lss).getD (headAt lss j).toNat 0 + b)) = none ∧ (0 ≤ (rowF lss).getD (headAt lss j).toNat 0 + b ∧ (rowF lss).getD (headAt lss j).toNat 0 + b < 256) := by
  obtain ⟨A, C, e, el, eh, er, _⟩ := row_cut hj
  have hA : ∀ ls ∈ A, ls.length < 512 := fun x hx => h2 x (by rw [e]; exact List.mem_append_left _ hx)
  rw [rowF_eq, er, flag_at _ _ _ _ eh, set_at _ _ 0 _ (by rw [eh]; simp)]
  obtain ⟨c1, c2, c3, c4, ec, _⟩ := block_cons (if C.length = 0 then 1 else 0) ls (rowN lss.length (j + 1) C ++ sumB (lsumF lss.flatten))
  have hf : (if C.length = 0 then (1 : Int) else 0) = 1 ∨ (if C.length = 0 then (1 : Int) else 0) = 0 := by split <;> simp
  rw [ec, List.set_cons_zero]
  generalize (if C.length = 0 then (1 : Int) else 0) = f at hf ⊢
  simp only [List.mem_cons, List.not_mem_nil, or_false] at hb
  refine ⟨no_at hA ?_, by omega⟩
  rw [blk_open _ _ _ _ _ _ _ rfl, if_pos]
  rcases hf with rfl | rfl <;> rcases hb with rfl | rfl <;> decide
theorem turned_size {j : Nat} {ls : List Int} (hj : lss[j]? = some ls) {i d : Int} (i0 : 0 ≤ i) (i1 : i < 4) (d0 : 0 ≤ d) (d1 : d < 255) :
    unstF ((rowF lss).set (headAt lss j + 1 + i).toNat (((rowF lss).getD (headAt lss j + 1 + i).toNat 0 + 1 + d).fmod 256)) = none := by
  obtain ⟨A, C, e, el, eh, er, _⟩ := row_cut hj
  have hA : ∀ ls ∈ A, ls.length < 512 := fun x hx => h2 x (by rw [e]; exact List.mem_append_left _ hx)
  have hz : ls.length < 512 := h2 _ (List.mem_of_getElem? hj)
  rw [rowF_eq, er, eh]
  have hf : (if C.length = 0 then (1 : Int) else 0).fdiv 2 = 0 := by split <;> decide
  obtain ⟨c1, c2, c3, c4, ec, z3, z4, l1, u1, l2⟩ := block_cons (if C.length = 0 then 1 else 0) ls (rowN lss.length (j + 1) C ++ sumB (lsumF lss.flatten))
  rw [ec]
  have ec2 := congrArg (fun l => l.getD 2 0) ec
  have u2 : c2 < 256 := by
    have : c2 = Int.fdiv (ls.length : Int) 256 := ec2.symm
    rw [this, Int.fdiv_eq_ediv_of_nonneg _ (by decide)]; omega
  generalize (if C.length = 0 then (1 : Int) else 0) = f at hf ⊢
  generalize ls ++ (rowN lss.length (j + 1) C ++ sumB (lsumF lss.flatten)) = R
  have hm : ∀ c : Int, 0 ≤ c → c < 256 → (c + 1 + d).fmod 256 ≠ c := fun c c0 c1 => by
    rw [Int.fmod_eq_emod_of_nonneg _ (by decide)]; omega
  obtain rfl | rfl | rfl | rfl : i = 0 ∨ i = 1 ∨ i = 2 ∨ i = 3 := by omega
  · rw [getD_at _ _ 1 (by omega), set_at _ _ 1 _ (by omega)]
    have q := hm c1 l1 u1
    simp only [List.getD_cons_zero, List.getD_cons_succ, List.set_cons_zero, List.set_cons_succ]
    exact no_at hA (by rw [blk_open _ _ _ _ _ _ _ rfl, if_neg (by rw [hf]; exact fun z => z rfl), if_pos (by omega)])
  · rw [getD_at _ _ 2 (by omega), set_at _ _ 2 _ (by omega)]
    have q := hm c2 l2 u2
    simp only [List.getD_cons_zero, List.getD_cons_succ, List.set_cons_zero, List.set_cons_succ]
    exact no_at hA (by rw [blk_open _ _ _ _ _ _ _ rfl, if_neg (by rw [hf]; exact fun z => z rfl), if_pos (by omega)])
  · rw [getD_at _ _ 3 (by omega), set_at _ _ 3 _ (by omega)]
    have q := hm c3 (by omega) (by omega)
    simp only [List.getD_cons_zero, List.getD_cons_succ, List.set_cons_zero, List.set_cons_succ]
    exact no_at hA (by rw [blk_open _ _ _ _ _ _ _ rfl, if_neg (by rw [hf]; exact fun z => z rfl), if_pos (by omega)])
  · rw [getD_at _ _ 4 (by omega), set_at _ _ 4 _ (by omega)]
    have q := hm c4 (by omega) (by omega)
    simp only [List.getD_cons_zero, List.getD_cons_succ, List.set_cons_zero, List.set_cons_succ]
    exact no_at hA (by rw [blk_open _ _ _ _ _ _ _ rfl, if_neg (by rw [hf]; exact fun z => z rfl), if_pos (by omega)])
theorem turned_last {j : Nat} {ls : List Int} (hj : lss[j]? = some ls) : unstF ((rowF lss).set (headAt lss j).toNat (1 - (rowF lss).getD (headAt lss j).toNat 0)) = none ∧ (0 ≤ 1 - (rowF lss).getD (headAt lss j).toNat 0 ∧ 1 - (rowF lss).getD (headAt lss j).toNat 0 < 256) := by
  obtain ⟨A, C, e, el, eh, er, eC, eC0⟩ := row_cut hj
  have hA : ∀ ls ∈ A, ls.length < 512 := fun x hx => h2 x (by rw [e]; exact List.mem_append_left _ hx)
  have hz : ls.length < 512 := h2 _ (List.mem_of_getElem? hj)
  rw [rowF_eq, er, flag_at _ _ _ _ eh, set_at _ _ 0 _ (by rw [eh]; simp)]
  have es : ∀ f g : Int, ∀ R : List Int, (blockF f ls ++ R).set 0 g = blockF g ls ++ R := fun _ _ _ => rfl
  rw [es]
  by_cases q : C.length = 0
  · rw [if_pos q, eC0 q, List.nil_append]
    refine ⟨?_, by decide, by decide⟩
    rw [List.append_assoc]
    refine uns_no _ (uns_none _ A [120, 1] (p := 2) hA rfl (fun m acc => ?_) _ _)
    cases m with
    | zero => rfl
    | succ m =>
      have h9 := uns_zero m ([120, 1] ++ zeros A) ls (sumB (lsumF lss.flatten)) acc hz rfl
      rw [List.append_assoc] at h9
      have e9 : ((([120, 1] ++ zeros A).length : Nat) : Int) = 2 + ((zeros A).length : Int) := by rw [List.length_append]; simp
      rw [e9] at h9
      show unsL (m + 1) ([120, 1] ++ (zeros A ++ (blockF 0 ls ++ sumB (lsumF lss.flatten)))) _ _ = _
      rw [h9]
      cases m with
      | zero => rfl
      | succ m =>
        rw [unsL]
        have : blkF ([120, 1] ++ (zeros A ++ (blockF 0 ls ++ sumB (lsumF lss.flatten)))) (2 + ((zeros A).length : Int) + 5 + (ls.length : Int)) = none := by
          refine if_pos ?_
          simp only [List.length_append, List.length_cons, List.length_nil, block_len, sumB_len]
          omega
        rw [this]
  · rw [if_neg q]
    refine ⟨?_, by decide, by decide⟩
    have h5 := eC q
    generalize rowN lss.length (j + 1) C = R at h5 ⊢
    refine uns_len _ fun acc p ep => ?_
    have hlen : (([120, 1] ++ zeros A) ++ (blockF (1 - 0) ls ++ (R ++ sumB (lsumF lss.flatten)))).length = 2 + (zeros A).length + (5 + ls.length) + (R.length + 4) := by
      simp only [List.length_append, List.length_cons, List.length_nil, block_len, sumB_len]
      omega
    have hAz : A.length ≤ (zeros A).length := by
      clear hA e el eh er ep hlen
      induction A with
      | nil => exact Nat.zero_le _
      | cons x r ih => rw [zeros, List.length_append, block_len, List.length_cons]; omega
    obtain ⟨m, em⟩ : ∃ m, (([120, 1] ++ zeros A) ++ (blockF (1 - 0) ls ++ (R ++ sumB (lsumF lss.flatten)))).length = m + 1 + A.length := ⟨(zeros A).length - A.length + (2 + (5 + ls.length) + (R.length + 3)), by omega⟩
    have e1 := uns_zeros (blockF (1 - 0) ls ++ (R ++ sumB (lsumF lss.flatten))) A (m + 1) [120, 1] [] (p := 2) hA rfl
    have e2 := uns_one m ([120, 1] ++ zeros A) ls (R ++ sumB (lsumF lss.flatten)) ([] ++ A.flatten) hz rfl
    rw [em, List.append_assoc, e1] at ep
    have e9 : ((([120, 1] ++ zeros A).length : Nat) : Int) = 2 + ((zeros A).length : Int) := by rw [List.length_append]; simp
    rw [e9, List.append_assoc] at e2
    have e3 := congrArg Prod.fst (Option.some.inj (e2.symm.trans ep))
    dsimp only at e3
    rw [hlen]
    omega
include h0
theorem turned_sum {i d : Int} (i0 : 0 ≤ i) (i1 : i < 4) (d0 : 0 ≤ d) (d1 : d < 255) :
    unstF ((rowF lss).set (((rowF lss).length : Int) - 1 - i).toNat (((rowF lss).getD (((rowF lss).length : Int) - 1 - i).toNat 0 + 1 + d).fmod 256)) = none := by
  obtain ⟨z0, z1⟩ := lsum_in lss.flatten
  obtain ⟨b0, b1, b2, b3, es, r0, r1, r2, r3, ex⟩ := sumB_split z0 z1
  have hl : ((rowF lss).length : Int) = (([120, 1] ++ rowN lss.length 0 lss).length : Int) + 4 := by
    rw [rowF_eq, es]
    simp only [List.length_append, List.length_cons, List.length_nil]
    omega
  have hr : rowF lss = ([120, 1] ++ rowN lss.length 0 lss) ++ [b0, b1, b2, b3] := by rw [rowF_eq, es, List.append_assoc]
  have key : ∀ c0 c1 c2 c3 : Int, (0 ≤ c0 ∧ c0 < 256) → (0 ≤ c1 ∧ c1 < 256) → (0 ≤ c2 ∧ c2 < 256) → (0 ≤ c3 ∧ c3 < 256) → c0 * 16777216 + c1 * 65536 + c2 * 256 + c3 ≠ lsumF lss.flatten →
      unstF (([120, 1] ++ rowN lss.length 0 lss) ++ [c0, c1, c2, c3]) = none := fun c0 c1 c2 c3 q0 q1 q2 q3 hne => by
    have g := sumB_get ([120, 1] ++ rowN lss.length 0 lss) c0 c1 c2 c3 q0 q1 q2 q3 (p := 2 + ((rowN lss.length 0 lss).length : Int)) (by rw [List.length_append]; simp)
    rw [List.append_assoc] at g ⊢
    rw [unst_sum h0 h2, if_pos (.inr (by rw [g]; exact hne))]
  have hm : ∀ c : Int, 0 ≤ c → c < 256 → (c + 1 + d).fmod 256 ≠ c ∧ 0 ≤ (c + 1 + d).fmod 256 ∧ (c + 1 + d).fmod 256 < 256 := fun c c0 c1 => by
    rw [Int.fmod_eq_emod_of_nonneg _ (by decide)]; omega
  rw [hl, hr]
  obtain rfl | rfl | rfl | rfl : i = 0 ∨ i = 1 ∨ i = 2 ∨ i = 3 := by omega
  · rw [getD_at _ _ 3 (by omega), set_at _ _ 3 _ (by omega)]
    obtain ⟨n1, n2, n3⟩ := hm b3 r3.1 r3.2
    simp only [List.getD_cons_zero, List.getD_cons_succ, List.set_cons_zero, List.set_cons_succ]
    exact key _ _ _ _ r0 r1 r2 ⟨n2, n3⟩ (by omega)
  · rw [getD_at _ _ 2 (by omega), set_at _ _ 2 _ (by omega)]
    obtain ⟨n1, n2, n3⟩ := hm b2 r2.1 r2.2
    simp only [List.getD_cons_zero, List.getD_cons_succ, List.set_cons_zero, List.set_cons_succ]
    exact key _ _ _ _ r0 r1 ⟨n2, n3⟩ r3 (by omega)
  · rw [getD_at _ _ 1 (by omega), set_at _ _ 1 _ (by omega)]
    obtain ⟨n1, n2, n3⟩ := hm b1 r1.1 r1.2
    simp only [List.getD_cons_zero, List.getD_cons_succ, List.set_cons_zero, List.set_cons_succ]
    exact key _ _ _ _ r0 ⟨n2, n3⟩ r2 r3 (by omega)
  · rw [getD_at _ _ 0 (by omega), set_at _ _ 0 _ (by omega)]
    obtain ⟨n1, n2, n3⟩ := hm b0 r0.1 r0.2
    simp only [List.getD_cons_zero, List.getD_cons_succ, List.set_cons_zero, List.set_cons_succ]
    exact key _ _ _ _ ⟨n2, n3⟩ r1 r2 r3 (by omega)
end
theorem head_of {lss : List (List Int)} {h : Int} (hh : h ∈ headsN lss lss.length) : ∃ j ls, h = headAt lss j ∧ lss[j]? = some ls := by
  obtain ⟨j, hj, rfl⟩ := List.mem_map.mp hh
  exact ⟨j, _, rfl, List.getElem?_eq_getElem (List.mem_range.mp hj)⟩
theorem turned_noneP {lss : List (List Int)} (h0 : 0 < lss.length) (h2 : ∀ ls ∈ lss, ls.length < 512) (h3 : ∀ ls ∈ lss, ∀ k ∈ ls, 0 ≤ k ∧ k < 256) {t : List Int} (ht : Turned (rowF lss) (headsN lss lss.length) t) : unstF t = none := by
  cases ht with
  | cut a b => exact unst_cut h0 h2 h3 (by omega)
  | more a b => exact unst_longer h0 h2 h3 _
  | one hb =>
    rw [first_two]
    refine unst_bad ?_
    simp only [List.mem_cons, List.not_mem_nil, or_false] at hb
    rcases hb with rfl | rfl | rfl | rfl
    · exact Or.inr (Or.inr (Or.inl (by show Int.fmod (256 * 120 + 33) 31 ≠ 0; decide)))
    · exact Or.inr (Or.inr (Or.inl (by show Int.fmod (256 * 120 + 2) 31 ≠ 0; decide)))
    · exact Or.inr (Or.inr (Or.inl (by show Int.fmod (256 * 120 + 0) 31 ≠ 0; decide)))
    · exact Or.inr (Or.inr (Or.inr (by show Builtin.bitAnd 32 32 ≠ 0; decide)))
  | first hb =>
    rw [first_two]
    refine unst_bad (Or.inr (Or.inl ?_))
    simp only [List.mem_cons, List.not_mem_nil, or_false] at hb
    rcases hb with rfl | rfl | rfl | rfl
    · show Builtin.bitAnd 119 15 ≠ 8; decide
    · show Builtin.bitAnd 121 15 ≠ 8; decide
    · show Builtin.bitAnd 0 15 ≠ 8; decide
    · show Builtin.bitAnd 58 15 ≠ 8; decide
  | kind hh hb =>
    obtain ⟨j, ls, rfl, hj⟩ := head_of hh
    exact (turned_kind h2 hj hb).1
  | size hh a b c d =>
    obtain ⟨j, ls, rfl, hj⟩ := head_of hh
    exact turned_size h2 hj a b c d
  | last hh =>
    obtain ⟨j, ls, rfl, hj⟩ := head_of hh
    exact (turned_last h2 hj).1
  | sum a b c d => exact turned_sum h0 h2 a b c d
theorem in_set {ks : List Int} {i : Nat} {v : Int} (h : KBa.In ks) (h0 : 0 ≤ v) (h1 : v < 256) : KBa.In (ks.set i v) := fun k hk => by
  rcases List.mem_or_eq_of_mem_set hk with q | rfl
  · exact h k q
  · exact ⟨h0, h1⟩
theorem turned_inP {lss : List (List Int)} (h2 : ∀ ls ∈ lss, ls.length < 512) (h3 : ∀ ls ∈ lss, ∀ k ∈ ls, 0 ≤ k ∧ k < 256) {t : List Int} (ht : Turned (rowF lss) (headsN lss lss.length) t) : KBa.In t := by
  have hr : KBa.In (rowF lss) := rowF_in h2 h3
  cases ht with
  | cut a b => exact fun k hk => hr k (List.mem_of_mem_take hk)
  | more a b =>
    intro k hk
    rcases List.mem_append.mp hk with q | q
    · exact hr k q
    · rw [List.mem_singleton.mp q]; exact ⟨a, b⟩
  | one hb =>
    simp only [List.mem_cons, List.not_mem_nil, or_false] at hb
    exact in_set hr (by omega) (by omega)
  | first hb =>
    simp only [List.mem_cons, List.not_mem_nil, or_false] at hb
    exact in_set hr (by omega) (by omega)
  | kind hh hb =>
    obtain ⟨j, ls, rfl, hj⟩ := head_of hh
    obtain ⟨_, q1, q2⟩ := turned_kind h2 hj hb
    exact in_set hr q1 q2
  | size hh a b c d => exact in_set hr (fmod_lo _ (by decide)) (fmod_hi _ (by decide))
  | last hh =>
    obtain ⟨j, ls, rfl, hj⟩ := head_of hh
    obtain ⟨_, q1, q2⟩ := turned_last h2 hj
    exact in_set hr q1 q2
  | sum a b c d => exact in_set hr (fmod_lo _ (by decide)) (fmod_hi _ (by decide))
theorem turned_len {row hds t : List Int} (ht : Turned row hds t) : t.length ≤ row.length + 1 := by
  cases ht <;> simp [List.length_take] <;> omega
theorem clip_at {n : Nat} {i : Int} (h0 : 0 ≤ i) (h1 : i ≤ (n : Int)) : clipAt n i = i.toNat := by
  unfold clipAt; rw [if_neg (by omega)]; omega
theorem clip_max {n : Nat} {i : Int} (h0 : 0 ≤ i) : clipAt n i ≤ i.toNat := by
  unfold clipAt; rw [if_neg (by omega)]; omega
theorem blk_cutP {lss : List (List Int)} (h0 : 0 < lss.length) (h2 : ∀ ls ∈ lss, ls.length < 512) (h3 : ∀ ls ∈ lss, ∀ k ∈ ls, 0 ≤ k ∧ k < 256) : blkF (List.take (clipAt (rowF lss).length (((rowF lss).length : Int) - 5)) (rowF lss)) (headAt lss (lss.length - 1)) = none := by
  have hj : lss[lss.length - 1]? = some (lss[lss.length - 1]) := List.getElem?_eq_getElem (by omega)
  have hh : 0 ≤ headAt lss (lss.length - 1) := by rw [headAt]; omega
  obtain ⟨A, C, e, el, eh, er, _, eC⟩ := row_cut hj
  have hl : ((rowF lss).length : Int) = headAt lss (lss.length - 1) + 5 + ((lss[lss.length - 1]).length : Int) + 4 := by
    have hC : C.length = 0 := by
      have := congrArg List.length e
      rw [List.length_append, List.length_cons] at this
      omega
    rw [eh, rowF_eq, er, eC hC]
    simp only [List.length_append, List.length_cons, List.length_nil, block_len, sumB_len]
    omega
  have hlk := blk_rowP h2 hj
  cases q : blkF (List.take (clipAt (rowF lss).length (((rowF lss).length : Int) - 5)) (rowF lss)) (headAt lss (lss.length - 1)) with
  | none => rfl
  | some z =>
    obtain ⟨e1, e2, _⟩ := blk_ext (ext := (rowF lss).drop (clipAt (rowF lss).length (((rowF lss).length : Int) - 5))) (fun k hk => (rowF_in h2 h3 k (List.mem_of_mem_take hk)).1) hh q
    rw [List.take_append_drop, hlk] at e1
    have e3 := Option.some.inj e1
    rw [List.length_take] at e2
    have e4 := clip_max (n := (rowF lss).length) (i := ((rowF lss).length : Int) - 5) (by omega)
    omega
theorem blk_endP (lss : List (List Int)) : blkF (rowF lss) (((rowF lss).length : Int) - 4) = none := if_pos (by omega)
theorem blk_shortP (lss : List (List Int)) : blkF (List.take (clipAt (rowF lss).length (headAt lss 0 + 4)) (rowF lss)) (headAt lss 0) = none := by
  refine if_pos ?_
  rw [List.length_take]
  have hh : 0 ≤ headAt lss 0 := by rw [headAt]; omega
  have e4 := clip_max (n := (rowF lss).length) (i := headAt lss 0 + 4) (by omega)
  omega
end
theorem anew_PlainU : True := by (w_top off); first | walk1 | trivial
-- Plain
section

/-- the plain law, as the walk asks for it -/
theorem unst_row {lss : List (List Int)} (h0 : 0 < lss.length) (_ : lss.length < 6) (h2 : ∀ ls ∈ lss, ls.length < 512) (_ : ∀ ls ∈ lss, ∀ k ∈ ls, 0 ≤ k ∧ k < 256) : unstF (rowF lss) = some lss.flatten := unst_rowP h0 h2
theorem blk_row {lss : List (List Int)} (_ : 0 < lss.length) (_ : lss.length < 6) (h2 : ∀ ls ∈ lss, ls.length < 512) (_ : ∀ ls ∈ lss, ∀ k ∈ ls, 0 ≤ k ∧ k < 256) {j : Nat} {ls : List Int} (hj : lss[j]? = some ls) : blkF (rowF lss) (headAt lss j) = some (ls.length : Int) := blk_rowP h2 hj
theorem crc_parts {ks : List Int} {c : Nat} (hk : ∀ k ∈ ks, 0 ≤ k ∧ k < 256) (hc : c ≤ ks.length) : crcF (crcF 0 (ks.take c)) ((ks.drop c).take (ks.length - c)) = crcF 0 ks := crc_partsP (fun k h => (hk k h).1) hc
theorem turned_in {lss : List (List Int)} (_ : 0 < lss.length) (_ : lss.length < 6) (h2 : ∀ ls ∈ lss, ls.length < 512) (h3 : ∀ ls ∈ lss, ∀ k ∈ ls, 0 ≤ k ∧ k < 256) {t : List Int} (ht : Turned (rowF lss) (headsN lss lss.length) t) : KBa.In t := turned_inP h2 h3 ht
theorem turned_none {lss : List (List Int)} (h0 : 0 < lss.length) (_ : lss.length < 6) (h2 : ∀ ls ∈ lss, ls.length < 512) (h3 : ∀ ls ∈ lss, ∀ k ∈ ls, 0 ≤ k ∧ k < 256) {t : List Int} (ht : Turned (rowF lss) (headsN lss lss.length) t) : unstF t = none := turned_noneP h0 h2 h3 ht
theorem unst_more {lss : List (List Int)} (h0 : 0 < lss.length) (_ : lss.length < 6) (h2 : ∀ ls ∈ lss, ls.length < 512) (h3 : ∀ ls ∈ lss, ∀ k ∈ ls, 0 ≤ k ∧ k < 256) : unstF (rowF lss ++ [0]) = none := unst_longer h0 h2 h3 0
theorem blk_cut {lss : List (List Int)} (h0 : 0 < lss.length) (_ : lss.length < 6) (h2 : ∀ ls ∈ lss, ls.length < 512) (h3 : ∀ ls ∈ lss, ∀ k ∈ ls, 0 ≤ k ∧ k < 256) : blkF (List.take (clipAt (rowF lss).length (((rowF lss).length : Int) - 5)) (rowF lss)) (headAt lss (lss.length - 1)) = none := blk_cutP h0 h2 h3
theorem blk_end {lss : List (List Int)} (_ : 0 < lss.length) (_ : lss.length < 6) (_ : ∀ ls ∈ lss, ls.length < 512) (_ : ∀ ls ∈ lss, ∀ k ∈ ls, 0 ≤ k ∧ k < 256) : blkF (rowF lss) (((rowF lss).length : Int) - 4) = none := blk_endP lss
theorem blk_short {lss : List (List Int)} (_ : 0 < lss.length) (_ : lss.length < 6) (_ : ∀ ls ∈ lss, ls.length < 512) (_ : ∀ ls ∈ lss, ∀ k ∈ ls, 0 ≤ k ∧ k < 256) : blkF (List.take (clipAt (rowF lss).length (headAt lss 0 + 4)) (rowF lss)) (headAt lss 0) = none := blk_shortP lss
end
theorem anew_Plain : True := by (w_top off); first | walk1 | trivial
-- LawGB
section

section
variable {M : Model} {A : Around} {E : Value → Shared → Prop} {s : Shared} {env : Env}
theorem wpC_isTrue_Call {f : Expr} {args : List Expr} {kws : List Keyword} {pos : Pos} {whole : Sem Value} {Q : Bool → Shared → Prop} (h : wpC M A whole (fun v s₁ => wpAny M A (truthy v) Q E s₁) E s) :
    wpC M A (isTrue (.Call f args kws pos) env whole) Q E s := by
  show wpC M A (do let v ← whole; standAt (Expr.Call f args kws pos).pos; holding [v] (truthy v)) Q E s
  exact wpC_bind (wpC_mono h (fun v s₁ h₁ => wpC_bind (wpC_standAt (wpC_holding (wpC_any h₁)))) fun _ _ x => x)
theorem news_drop {g h : Heap} {L : Addr} {p : Addr × Obj} {r : List (Addr × Obj)} (N : News g L h (p :: r)) : News g L h r := fun x hx => N x (.tail _ hx)
theorem truthy_true {Q : Bool → Shared → Prop} (h : Q true s) : wpAny M A (truthy (.bool true)) Q E s := wpAny_pure h
theorem wpC_eval_And2 {x y : Expr} {pos : Pos} {Q : Value → Shared → Prop} (h : wpC M A (eval x env) (fun v s₁ => v = .bool true ∧ wpC M A (eval y env) Q E s₁) E s) : wpC M A (eval (.BoolOp .And [x, y] pos) env) Q E s := by
  rw [arm_eval_BoolOp]
  show wpC M A (do
    let v ← eval x env
    standAt pos
    let t ← holding [v] (truthy v)
    match BoolOp.And, t with
    | .And, false | .Or, true => pure v
    | _, _ => eval y env) Q E s
  refine wpC_bind (wpC_mono h (fun v s₁ h₁ => ?_) fun _ _ x => x)
  obtain ⟨rfl, h2⟩ := h₁
  exact wpC_bind (wpC_standAt (wpC_bind (wpC_holding (wpC_any (truthy_true h2)))))
end
section
variable {prog : Program} {w : World} {A : Around} {E : Value → Shared → Prop} {s : Shared}
theorem head_last {value slice : Expr} {l : Addr} {vs : List Value} {lss : List (List Int)} {u : Tok} {Q : Value → Shared → Prop} (hl : s.heap.IsList l vs.toArray) (hi : IntsAre vs (headsN lss lss.length)) (h0 : 0 < lss.length)
    (h : ∀ t, Q (.int (headAt lss (lss.length - 1)) t) s)
    (hs : subscripted slice false (.ref l) (.int (-1) u) = operate [.ref l, .int (-1) u] (getItem (.ref l) (.int (-1) u))) :
    wpAny (model prog w) A (subscriptTail value slice (.ref l) (.int (-1) u)) Q E s := by
  have hn : vs.length = lss.length := by rw [hi.length, headsN, List.length_map, List.length_range]
  obtain ⟨v, hv⟩ : ∃ v, vs[vs.length - 1]? = some v := ⟨_, List.getElem?_eq_getElem (by omega)⟩
  obtain ⟨k, t, rfl, hk⟩ := hi.at _ _ hv
  rw [hn, headsN, List.getElem?_map, List.getElem?_range (by omega)] at hk
  have hk2 := Option.some.inj hk
  subst hk2
  refine kde_neg hl (by decide) (by decide) (j := vs.length - 1) ?_ hv (h t) hs
  unfold seqIndex?
  have e : (-1 : Int) + (vs.length : Int) = ((vs.length - 1 : Nat) : Int) := by omega
  simp only [show (-1 : Int) < 0 by decide, if_true]
  first
    | (rw [e]; simp; omega)
    | (simp [e]; omega)
theorem head_first {value slice : Expr} {l : Addr} {vs : List Value} {lss : List (List Int)} {u : Tok} {Q : Value → Shared → Prop} (hl : s.heap.IsList l vs.toArray) (hi : IntsAre vs (headsN lss lss.length)) (h0 : 0 < lss.length)
    (h : ∀ t, Q (.int (headAt lss 0) t) s)
    (hs : subscripted slice false (.ref l) (.int 0 u) = operate [.ref l, .int 0 u] (getItem (.ref l) (.int 0 u))) :
    wpAny (model prog w) A (subscriptTail value slice (.ref l) (.int 0 u)) Q E s := by
  have hn : vs.length = lss.length := by rw [hi.length, headsN, List.length_map, List.length_range]
  obtain ⟨v, hv⟩ : ∃ v, vs[0]? = some v := ⟨_, List.getElem?_eq_getElem (by omega)⟩
  obtain ⟨k, t, rfl, hk⟩ := hi.at _ _ hv
  rw [headsN, List.getElem?_map, List.getElem?_range (by omega)] at hk
  have hk2 := Option.some.inj hk
  subst hk2
  exact tail_any hl.typeIs slot_list_getitem.lookup (getItem_listL hl (by decide) (by decide) hv (h t)) hs
end
theorem head_fit {lss : List (List Int)} (h0 : 0 < lss.length) (h1 : lss.length < 6) (h2 : ∀ ls ∈ lss, ls.length < 512) (h3 : ∀ ls ∈ lss, ∀ k ∈ ls, 0 ≤ k ∧ k < 256) {j : Nat} (hj : j < lss.length) : 0 ≤ headAt lss j ∧ headAt lss j + 5 ≤ ((rowF lss).length : Int) := by
  have hls : lss[j]? = some lss[j] := List.getElem?_eq_getElem hj
  obtain ⟨b1, b2, _⟩ := blk_fit (KBa.ints_make (rowF_in h2 h3)) (blk_row h0 h1 h2 h3 hls)
  exact ⟨by rw [headAt]; omega, by omega⟩
end
theorem anew_LawGB : True := by (w_top off); first | walk1 | trivial
section
local macro_rules | `(tactic| walk_at "call type:bytes") => `(tactic| (k_here; (with_reducible show wpAny _ _ (call (Value.type "bytes") [Value.int 1 _]) _ _ _); k_dflt (refine' bytes_one_K ?k1 ?k2 ?_; (case k1 | k2 => k_asm); k_whole); (intro t' tk' F' N'; (try dsimp only at N' F' ⊢); (try k_fold))))
local macro_rules | `(tactic| walk_at "subscriptTail") => `(tactic| (k_here; (with_reducible show wpAny _ _ (subscriptTail _ _ (Value.ref _) (Value.int _ _)) _ _ _); k_dflt (refine' head_last ?k1 ?k2 ?k3 ?_ ?k6; (case k1 => exact News.isList (by k_asm) (by k_mem)); (case k2 | k3 => assumption); (case k6 => with_unfolding_all rfl); k_whole); intro t'; try dsimp only))
local macro_rules | `(tactic| walk_at "subscriptTail") => `(tactic| (k_here; (with_reducible show wpAny _ _ (subscriptTail _ _ (Value.ref _) (Value.int 0 _)) _ _ _); k_dflt (refine' head_first ?k1 ?k2 ?k3 ?_ ?k6; (case k1 => exact News.isList (by k_asm) (by k_mem)); (case k2 | k3 => assumption); (case k6 => with_unfolding_all rfl); k_whole); intro t'; try dsimp only))
local macro_rules | `(tactic| walk_at "call ref") => `(tactic| (k_here; (with_reducible show wpAny _ _ (call (Value.ref 83) _) _ _ _); k_dflt (refine' block_g _ _ _ _ ?k1 ?k2 ?k3 ?k4 ?k5 ?kK ?kb ?a1 ?a2 ?a3 ?kd ?ku ?_ ?_; (case k1 | k2 | k3 | k4 | k5 => k_asm); (case kK => first | exact rfl | assumption); (case kb => assumption); (case a1 => first | assumption | omega); (case a2 => omega); (case a3 => first | omega | ((try rw [List.length_take]); omega)); (case kd => ktr_room); (case ku => ktr_units); k_whole); (first | (intro z' t' h' tk' hz' F' N'; (try dsimp only at N' ⊢); (try k_fold)) | (intro e' t' vs' G' h' tk' hz' F' GS' R' U'; (try dsimp only)))))
-- LawJ
section

section
theorem law_end {g h : Heap} {L : Addr} {s : Shared} {tk : Tok} {m : Str → Option Value} {ps : Array Value} (F : Fr g L h m) (e : h.get? 149 = some (tabObj ps)) : LawEnd g L s (.ret (.bool true)) { s with heap := h, toks := tk } :=
  ⟨rfl, h, tk, m, ps, rfl, F, e⟩
def lastOf (body : List Stmt) : Expr := match body.drop 14 with | [.Return (some (.BoolOp _ [_, y] _)) _] => y | _ => .Constant .none 0 ⟨0, 0, 0, 0⟩
def LawLast (w : World) (dp un : Nat) (gd : Option (List Code)) (g : Heap) (L : Addr) (s : Shared) (body : List Stmt) (scope : Scope) : Prop :=
  wpC (model PySem.Challenge.rw_on0221_01.row.prog w) (ktrTop dp un gd (Str.ofString "law") scope L 152 (.ref 151) (lawCl L scope) []) (eval (lastOf body) (envOfC (Str.ofString "law") scope L 152 (.ref 151))) (fun v s₁ => LawEnd g L s (.ret v) s₁) (fun _ _ => False) s
theorem lawJ (w : World) (mean : ExcName → Option Value) (mg mb : Str → Option Value) {dp un : Nat} {gd : Option (List Code)} {g : Heap} {L : Addr} {m : Str → Option Value} {s : Shared} {oS oH oT oU : Obj}
    {params : Arguments} {body : List Stmt} {scope : Scope} (hL : (PySem.Challenge.rw_on0221_01.row.prog).theDef (Str.ofString "law") = some (params, body, scope))
    (B : Below callerA g [] g) (F : Fr g L s.heap m) (X : (Mine.top0.heap_39 w.params).In g) (T : Top topProg ownNames mean mg mb g) (C : CodeHd g 151 149)
    {H : Addr} {tT : Tok} {hn : Nat} {hvs : List Value} {lss : List (List Int)}
 {c1 c2 c3 c4 : Addr}
    (N : News g L s.heap [(H, listOf hvs.toArray hn), (L + 2, oH), (L + 3, oT), (L + 4, oU), (149, tabObj (#[] ++ #[rawInt ((136 : Nat) : Int), rawInt ((0 : Nat) : Int), Value.ref c1] ++ #[rawInt ((137 : Nat) : Int), rawInt ((0 : Nat) : Int), Value.ref c2] ++ #[rawInt ((140 : Nat) : Int), rawInt ((0 : Nat) : Int), Value.ref c3] ++ #[rawInt ((143 : Nat) : Int), rawInt ((0 : Nat) : Int), Value.ref c4]))]) (hl1 : 0 < lss.length) (hl2 : lss.length < 6) (h6 : ∀ ls ∈ lss, ls.length < 512) (hoct : ∀ ls ∈ lss, ∀ k ∈ ls, 0 ≤ k ∧ k < 256)
    (hhv : IntsAre hvs (headsN lss lss.length))
    (dH : oH.data = .cell (some (.ref H))) (dT : oT.data = .cell (some (.bytes (byteArr (rowF lss)) tT))) (hlt : @LT.lt Nat _ 149 L)
    (off : (@Ne Nat H (L + 2)) ∧ (@Ne Nat H (L + 3)) ∧ (@Ne Nat H 149)) (hd : dp + 12 < recursionLimit) (hu : un + 96 < cLine) :
    LawLast w dp un gd g L s body scope := by
  refine' law_use hL ?ho ?_
  case ho => with_unfolding_all rfl
  intro hL2
  unfold LawLast
  dsimp only [lastOf, List.drop]
  revert X; k_fill; intro X
  clear hL
  obtain ⟨rl1, rl2⟩ := rowF_len h6 hl2
  have hrb := KBa.ints_make (rowF_in h6 hoct)
  obtain ⟨q1, q2⟩ := head_fit hl1 hl2 h6 hoct (j := lss.length - 1) (by omega)
  obtain ⟨q3, q4⟩ := head_fit hl1 hl2 h6 hoct (j := 0) hl1
  refine wpC_Call_ofName (wpC_pieceE ?_)
  intro Q1 hQ1
  k_steps
  refine EndAt.mk ?_
  have hQ2 := hQ1.out
  subst hQ2
  clear hQ1
  refine wpC_callWith_of1 (P := (Mine.top0.heap_39 w.params).In) (keeps_K (by k_is)) (ends_at' ?_)
  rw [if_neg Bool.false_ne_true]
  k_steps
  rename Fr g _ _ _ => F1
  rename News g _ _ _ => N1
  rename _ = Data.fields _ => df1
  rename _ = some (Value.str _ _) => df2
  refine EndAt.mk ⟨X.keeps F1.keep, ?_⟩
  try dsimp only [List.nil_append, List.cons_append]
  refine refused_c w mean mg mb B F1 X N1 T rfl X T (List.Mem.head _) rfl (by omega) ?_ ?_
  · intro rn rs rcd g1 L1 m1 s1 E1 hrk B1 F2 X1 N2 T1 herr
    refine lam_c B1 F2 X1 N2 T1 rfl rfl hrk (List.Mem.head _) (codeRec_news N2 (List.Mem.tail _ (List.Mem.head _)) df1 df2) (by show dp + 1 < recursionLimit; omega) rfl (fun q hq hm => (N1 q hq).2.1 (List.mem_singleton.mp hm)) herr ?_ rfl rfl rfl (by decide)
    intro g2 L2 h2 E2 FG2 F3 N3 B2 X2 T2 herr2
    clear herr F2 N2 X1 T1

    have hno := blk_short hl1 hl2 h6 hoct
    clear q1 q2
    refine wpC_piece ?_
    intro Q3 E3 hQ3
    k_steps
    · rename blkF _ _ = some _ => hz
      rw [hno] at hz
      cases hz
    · obtain ⟨rfl, rfl⟩ := hQ3.out
      rename Heap.UpToSlots _ _ => U9
      rename RaisedS _ _ _ _ _ _ _ _ _ => R9
      rename GSub _ _ _ => GS9
      rename News g2 L2 _ _ => N9
      exact herr2 _ _ _ _ _ _ _ (by assumption) (fun q hq => GS9 _ _ (N9 q hq).1 (fun hm => nomatch hm)) R9 U9

  intro h6' tk6 F6 N6
  exact law_end (s := s) F6 (N6 (149, tabObj _) (by k_mem)).1
end
end
theorem anew_LawJ : True := by (w_top off); first | walk1 | trivial
-- LawI
section

section
theorem lawI (w : World) (mean : ExcName → Option Value) (mg mb : Str → Option Value) {dp un : Nat} {gd : Option (List Code)} {g : Heap} {L : Addr} {m : Str → Option Value} {s : Shared} {oS oH oT oU : Obj}
    {params : Arguments} {body : List Stmt} {scope : Scope} (hL : (PySem.Challenge.rw_on0221_01.row.prog).theDef (Str.ofString "law") = some (params, body, scope))
    (B : Below callerA g [] g) (F : Fr g L s.heap m) (X : (Mine.top0.heap_39 w.params).In g) (T : Top topProg ownNames mean mg mb g) (C : CodeHd g 151 149)
    {H : Addr} {tT : Tok} {hn : Nat} {hvs : List Value} {lss : List (List Int)}
 {c1 c2 c3 : Addr}
    (N : News g L s.heap [(H, listOf hvs.toArray hn), (L + 2, oH), (L + 3, oT), (L + 4, oU), (149, tabObj (#[] ++ #[rawInt ((136 : Nat) : Int), rawInt ((0 : Nat) : Int), Value.ref c1] ++ #[rawInt ((137 : Nat) : Int), rawInt ((0 : Nat) : Int), Value.ref c2] ++ #[rawInt ((140 : Nat) : Int), rawInt ((0 : Nat) : Int), Value.ref c3]))]) (hl1 : 0 < lss.length) (hl2 : lss.length < 6) (h6 : ∀ ls ∈ lss, ls.length < 512) (hoct : ∀ ls ∈ lss, ∀ k ∈ ls, 0 ≤ k ∧ k < 256)
    (hhv : IntsAre hvs (headsN lss lss.length))
    (dH : oH.data = .cell (some (.ref H))) (dT : oT.data = .cell (some (.bytes (byteArr (rowF lss)) tT))) (hlt : @LT.lt Nat _ 149 L)
    (off : (@Ne Nat H (L + 2)) ∧ (@Ne Nat H (L + 3)) ∧ (@Ne Nat H 149)) (hd : dp + 12 < recursionLimit) (hu : un + 96 < cLine) :
    LawAt w dp un gd g L s 14 body scope := by
  refine' law_use hL ?ho ?_
  case ho => with_unfolding_all rfl
  intro hL2
  unfold LawAt
  revert X; k_fill; intro X
  clear hL
  obtain ⟨rl1, rl2⟩ := rowF_len h6 hl2
  have hrb := KBa.ints_make (rowF_in h6 hoct)
  obtain ⟨q1, q2⟩ := head_fit hl1 hl2 h6 hoct (j := lss.length - 1) (by omega)
  obtain ⟨q3, q4⟩ := head_fit hl1 hl2 h6 hoct (j := 0) hl1
  refine wpC_execs_cons (wpC_Return_some (wpC_eval_And2 (wpC_Call_ofName (wpC_pieceE ?_))))
  intro Q1 hQ1
  k_steps
  refine EndAt.mk ?_
  have hQ2 := hQ1.out
  subst hQ2
  clear hQ1
  refine wpC_callWith_of1 (P := (Mine.top0.heap_39 w.params).In) (keeps_K (by k_is)) (ends_at' ?_)
  rw [if_neg Bool.false_ne_true]
  k_steps
  rename Fr g _ _ _ => F1
  rename News g _ _ _ => N1
  rename _ = Data.fields _ => df1
  rename _ = some (Value.str _ _) => df2
  refine EndAt.mk ⟨X.keeps F1.keep, ?_⟩
  try dsimp only [List.nil_append, List.cons_append]
  refine refused_c w mean mg mb B F1 X N1 T rfl X T (List.Mem.head _) rfl (by omega) ?_ ?_
  · intro rn rs rcd g1 L1 m1 s1 E1 hrk B1 F2 X1 N2 T1 herr
    refine lam_c B1 F2 X1 N2 T1 rfl rfl hrk (List.Mem.head _) (codeRec_news N2 (List.Mem.tail _ (List.Mem.head _)) df1 df2) (by show dp + 1 < recursionLimit; omega) rfl (fun q hq hm => (N1 q hq).2.1 (List.mem_singleton.mp hm)) herr ?_ rfl rfl rfl (by decide)
    intro g2 L2 h2 E2 FG2 F3 N3 B2 X2 T2 herr2
    clear herr F2 N2 X1 T1

    have hno := blk_end hl1 hl2 h6 hoct
    refine wpC_piece ?_
    intro Q3 E3 hQ3
    k_steps
    · rename blkF _ _ = some _ => hz
      rw [hno] at hz
      cases hz
    · obtain ⟨rfl, rfl⟩ := hQ3.out
      rename Heap.UpToSlots _ _ => U9
      rename RaisedS _ _ _ _ _ _ _ _ _ => R9
      rename GSub _ _ _ => GS9
      rename News g2 L2 _ _ => N9
      exact herr2 _ _ _ _ _ _ _ (by assumption) (fun q hq => GS9 _ _ (N9 q hq).1 (fun hm => nomatch hm)) R9 U9

  intro h5 tk5 F5 N5
  clear F1 N1 df1 df2
  try dsimp only
  refine ⟨rfl, ?_⟩
  replace N5 := news_drop (news_drop N5)
  exact lawJ (oS := oS) (s := { s with heap := h5, toks := tk5 }) w mean mg mb hL2 B F5 X T C N5 hl1 hl2 h6 hoct hhv dH dT hlt off hd hu
end
end
theorem anew_LawI : True := by (w_top off); first | walk1 | trivial
-- LawH
section

section
theorem lawH (w : World) (mean : ExcName → Option Value) (mg mb : Str → Option Value) {dp un : Nat} {gd : Option (List Code)} {g : Heap} {L : Addr} {m : Str → Option Value} {s : Shared} {oS oH oT oU : Obj}
    {params : Arguments} {body : List Stmt} {scope : Scope} (hL : (PySem.Challenge.rw_on0221_01.row.prog).theDef (Str.ofString "law") = some (params, body, scope))
    (B : Below callerA g [] g) (F : Fr g L s.heap m) (X : (Mine.top0.heap_39 w.params).In g) (T : Top topProg ownNames mean mg mb g) (C : CodeHd g 151 149)
    {H : Addr} {tT : Tok} {hn : Nat} {hvs : List Value} {lss : List (List Int)}
 {c1 c2 : Addr}
    (N : News g L s.heap [(H, listOf hvs.toArray hn), (L + 2, oH), (L + 3, oT), (L + 4, oU), (149, tabObj (#[] ++ #[rawInt ((136 : Nat) : Int), rawInt ((0 : Nat) : Int), Value.ref c1] ++ #[rawInt ((137 : Nat) : Int), rawInt ((0 : Nat) : Int), Value.ref c2]))]) (hl1 : 0 < lss.length) (hl2 : lss.length < 6) (h6 : ∀ ls ∈ lss, ls.length < 512) (hoct : ∀ ls ∈ lss, ∀ k ∈ ls, 0 ≤ k ∧ k < 256)
    (hhv : IntsAre hvs (headsN lss lss.length))
    (dH : oH.data = .cell (some (.ref H))) (dT : oT.data = .cell (some (.bytes (byteArr (rowF lss)) tT))) (hlt : @LT.lt Nat _ 149 L)
    (off : (@Ne Nat H (L + 2)) ∧ (@Ne Nat H (L + 3)) ∧ (@Ne Nat H 149)) (hd : dp + 12 < recursionLimit) (hu : un + 96 < cLine) :
    LawAt w dp un gd g L s 13 body scope := by
  refine' law_use hL ?ho ?_
  case ho => with_unfolding_all rfl
  intro hL2
  unfold LawAt
  revert X; k_fill; intro X
  clear hL
  obtain ⟨rl1, rl2⟩ := rowF_len h6 hl2
  have hrb := KBa.ints_make (rowF_in h6 hoct)
  obtain ⟨q1, q2⟩ := head_fit hl1 hl2 h6 hoct (j := lss.length - 1) (by omega)
  obtain ⟨q3, q4⟩ := head_fit hl1 hl2 h6 hoct (j := 0) hl1
  refine wpC_execs_cons (wpC_If (wpC_isTrue_not (wpC_isTrue_Call (wpC_Call_ofName (wpC_pieceE ?_)))))
  intro Q1 hQ1
  k_steps
  refine EndAt.mk ?_
  have hQ2 := hQ1.out
  subst hQ2
  clear hQ1
  refine wpC_callWith_of1 (P := (Mine.top0.heap_39 w.params).In) (keeps_K (by k_is)) (ends_at' ?_)
  rw [if_neg Bool.false_ne_true]
  k_steps
  rename Fr g _ _ _ => F1
  rename News g _ _ _ => N1
  rename _ = Data.fields _ => df1
  rename _ = some (Value.str _ _) => df2
  refine EndAt.mk ⟨X.keeps F1.keep, ?_⟩
  try dsimp only [List.nil_append, List.cons_append]
  refine refused_c w mean mg mb B F1 X N1 T rfl X T (List.Mem.head _) rfl (by omega) ?_ ?_
  · intro rn rs rcd g1 L1 m1 s1 E1 hrk B1 F2 X1 N2 T1 herr
    refine lam_c B1 F2 X1 N2 T1 rfl rfl hrk (List.Mem.head _) (codeRec_news N2 (List.Mem.tail _ (List.Mem.head _)) df1 df2) (by show dp + 1 < recursionLimit; omega) rfl (fun q hq hm => (N1 q hq).2.1 (List.mem_singleton.mp hm)) herr ?_ rfl rfl rfl (by decide)
    intro g2 L2 h2 E2 FG2 F3 N3 B2 X2 T2 herr2
    clear herr F2 N2 X1 T1

    have hno := blk_cut hl1 hl2 h6 hoct
    refine wpC_piece ?_
    intro Q3 E3 hQ3
    k_steps
    · rename blkF _ _ = some _ => hz
      rw [hno] at hz
      cases hz
    · obtain ⟨rfl, rfl⟩ := hQ3.out
      rename Heap.UpToSlots _ _ => U9
      rename RaisedS _ _ _ _ _ _ _ _ _ => R9
      rename GSub _ _ _ => GS9
      rename News g2 L2 _ _ => N9
      exact herr2 _ _ _ _ _ _ _ (by assumption) (fun q hq => GS9 _ _ (N9 q hq).1 (fun hm => nomatch hm)) R9 U9

  intro h5 tk5 F5 N5
  clear F1 N1 df1 df2
  try dsimp only
  refine truthy_true ?_
  rw [if_neg (by decide)]
  replace N5 := news_drop (news_drop N5)

  refine wpC_execs_nil ?_
  exact lawI (oS := oS) w mean mg mb hL2 B F5 X T C N5 hl1 hl2 h6 hoct hhv dH dT hlt off hd hu
end
end
theorem anew_LawH : True := by (w_top off); first | walk1 | trivial
-- LawG
section

section
theorem lawG (w : World) (mean : ExcName → Option Value) (mg mb : Str → Option Value) {dp un : Nat} {gd : Option (List Code)} {g : Heap} {L : Addr} {m : Str → Option Value} {s : Shared} {oS oH oT oU : Obj}
    {params : Arguments} {body : List Stmt} {scope : Scope} (hL : (PySem.Challenge.rw_on0221_01.row.prog).theDef (Str.ofString "law") = some (params, body, scope))
    (B : Below callerA g [] g) (F : Fr g L s.heap m) (X : (Mine.top0.heap_39 w.params).In g) (T : Top topProg ownNames mean mg mb g) (C : CodeHd g 151 149)
    {H : Addr} {tT tU : Tok} {hn : Nat} {hvs : List Value} {ts : List Int} {lss : List (List Int)}
    (N : News g L s.heap [(H, listOf hvs.toArray hn), (L + 2, oH), (L + 3, oT), (L + 4, oU), (149, tabObj #[])]) (hl1 : 0 < lss.length) (hl2 : lss.length < 6) (h6 : ∀ ls ∈ lss, ls.length < 512) (hoct : ∀ ls ∈ lss, ∀ k ∈ ls, 0 ≤ k ∧ k < 256)
    (hhv : IntsAre hvs (headsN lss lss.length)) (htn : unstF ts = none) (tin : KBa.In ts) (tln : ts.length ≤ (rowF lss).length + 1)
    (dH : oH.data = .cell (some (.ref H))) (dT : oT.data = .cell (some (.bytes (byteArr (rowF lss)) tT))) (dU : oU.data = .cell (some (.bytes (byteArr ts) tU))) (hlt : @LT.lt Nat _ 149 L)
    (off : (@Ne Nat H (L + 2)) ∧ (@Ne Nat H (L + 3)) ∧ (@Ne Nat H (L + 4)) ∧ (@Ne Nat H 149)) (hd : dp + 12 < recursionLimit) (hu : un + 96 < cLine) :
    LawAt w dp un gd g L s 12 body scope := by
  refine' law_use hL ?ho ?_
  case ho => with_unfolding_all rfl
  intro hL2
  unfold LawAt
  revert X; k_fill; intro X
  clear hL
  obtain ⟨rl1, rl2⟩ := rowF_len h6 hl2
  have rin : KBa.In (rowF lss) := rowF_in h6 hoct
  have hrb := KBa.ints_make rin
  have htb := KBa.ints_make tin
  refine wpC_execs_cons (wpC_If (wpC_isTrue_or (wpC_isTrue_not (wpC_isTrue_Call (wpC_Call_ofName (wpC_pieceE ?_))))))
  intro Q1 hQ1
  k_steps
  refine EndAt.mk ?_
  have hQ2 := hQ1.out
  subst hQ2
  clear hQ1
  refine wpC_callWith_of1 (P := (Mine.top0.heap_39 w.params).In) (keeps_K (by k_is)) (ends_at' ?_)
  rw [if_neg Bool.false_ne_true]
  k_steps
  rename Fr g _ _ _ => F1
  rename News g _ _ _ => N1
  rename _ = Data.fields _ => df1
  rename _ = some (Value.str _ _) => df2
  refine EndAt.mk ⟨X.keeps F1.keep, ?_⟩
  try dsimp only [List.nil_append, List.cons_append]
  refine refused_c w mean mg mb B F1 X N1 T rfl X T (List.Mem.head _) rfl (by omega) ?_ ?_
  · intro rn rs rcd g1 L1 m1 s1 E1 hrk B1 F2 X1 N2 T1 herr
    refine lam_c B1 F2 X1 N2 T1 rfl rfl hrk (List.Mem.head _) (codeRec_news N2 (List.Mem.tail _ (List.Mem.head _)) df1 df2) (by show dp + 1 < recursionLimit; omega) rfl (fun q hq hm => (N1 q hq).2.1 (List.mem_singleton.mp hm)) herr ?_ rfl rfl rfl (by decide)
    intro g2 L2 h2 E2 FG2 F3 N3 B2 X2 T2 herr2
    clear herr F2 N2 X1 T1

    refine wpC_Call_ofName (wpC_piece ?_)
    intro Q3 E3 hQ3
    k_steps
    refine EndAt.mk ?_
    obtain ⟨rfl, rfl⟩ := hQ3.out
    clear hQ3
    refine wpC_callWith_of1 (P := (Mine.top0.heap_39 w.params).In) (keeps_K (by k_is)) (ends_at' ?_)
    try rw [if_neg Bool.false_ne_true]
    k_steps
    rename Fr g2 L2 _ _ => F4
    rename News g2 L2 _ _ => N4
    refine EndAt.mk ⟨X2.keeps F4.keep, ?_⟩
    try dsimp only [List.nil_append, List.cons_append]

    have hno := htn
    refine unst_g w mean mg mb B2 F4 X2 N4 T2 rfl htb (by omega) ?_ ?_ ?_ ?_
    · show dp + 1 + 1 + 4 < recursionLimit
      omega
    · show un + 3 + 3 + 32 < cLine
      omega
    · intro z t h' tk' hz
      rw [hno] at hz
      cases hz
    · intro e t vs G h' tk' _ FX GS R U
      exact herr2 e t vs G h' tk' _ FX (fun q hq => GS _ _ (N4 q hq).1 (fun hm => nomatch hm)) R U

  intro h5 tk5 F5 N5
  clear F1 N1 df1 df2
  try dsimp only
  refine truthy_true ?_
  rw [if_neg (by decide)]
  replace N5 := news_drop (news_drop N5)

  refine wpC_isTrue_or (wpC_isTrue_not (wpC_isTrue_Call (wpC_Call_ofName (wpC_pieceE ?_))))
  intro Q1 hQ1
  k_steps
  refine EndAt.mk ?_
  have hQ2 := hQ1.out
  subst hQ2
  clear hQ1
  refine wpC_callWith_of1 (P := (Mine.top0.heap_39 w.params).In) (keeps_K (by k_is)) (ends_at' ?_)
  rw [if_neg Bool.false_ne_true]
  k_steps
  rename Fr g _ _ _ => F1
  rename News g _ _ _ => N1
  rename _ = Data.fields _ => df1
  rename _ = some (Value.str _ _) => df2
  refine EndAt.mk ⟨X.keeps F1.keep, ?_⟩
  try dsimp only [List.nil_append, List.cons_append]
  refine refused_c w mean mg mb B F1 X N1 T rfl X T (List.Mem.head _) rfl (by omega) ?_ ?_
  · intro rn rs rcd g1 L1 m1 s1 E1 hrk B1 F2 X1 N2 T1 herr
    refine lam_c B1 F2 X1 N2 T1 rfl rfl hrk (List.Mem.head _) (codeRec_news N2 (List.Mem.tail _ (List.Mem.head _)) df1 df2) (by show dp + 1 < recursionLimit; omega) rfl (fun q hq hm => (N1 q hq).2.1 (List.mem_singleton.mp hm)) herr ?_ rfl rfl rfl (by decide)
    intro g2 L2 h2 E2 FG2 F3 N3 B2 X2 T2 herr2
    clear herr F2 N2 X1 T1

    refine wpC_Call_ofName (wpC_piece ?_)
    intro Q3 E3 hQ3
    k_steps
    refine EndAt.mk ?_
    obtain ⟨rfl, rfl⟩ := hQ3.out
    clear hQ3
    refine wpC_callWith_of1 (P := (Mine.top0.heap_39 w.params).In) (keeps_K (by k_is)) (ends_at' ?_)
    try rw [if_neg Bool.false_ne_true]
    k_steps
    rename Fr g2 L2 _ _ => F4
    rename News g2 L2 _ _ => N4
    refine EndAt.mk ⟨X2.keeps F4.keep, ?_⟩
    try dsimp only [List.nil_append, List.cons_append]

    have hno := unst_more hl1 hl2 h6 hoct
    rename KBw.bInts (byteArr (rowF lss) ++ #[0]) = _ => kap0
    have kap : KBw.bInts (byteArr (rowF lss) ++ #[0]) = rowF lss ++ [0] := kap0
    refine unst_g w mean mg mb B2 F4 X2 N4 T2 rfl kap (by rw [List.length_append]; show _ + 1 < 1048000; omega) ?_ ?_ ?_ ?_
    · show dp + 1 + 1 + 4 < recursionLimit
      omega
    · show un + 3 + 3 + 32 < cLine
      omega
    · intro z t h' tk' hz
      rw [hno] at hz
      cases hz
    · intro e t vs G h' tk' _ FX GS R U
      exact herr2 e t vs G h' tk' _ FX (fun q hq => GS _ _ (N4 q hq).1 (fun hm => nomatch hm)) R U

  intro h5 tk5 F5 N5
  clear F1 N1 df1 df2
  try dsimp only
  refine truthy_true ?_
  rw [if_neg (by decide)]
  replace N5 := news_drop (news_drop N5)

  refine wpC_isTrue_or_nil ?_
  rw [if_neg Bool.false_ne_true]
  refine wpC_execs_nil ?_
  exact lawH (oS := oS) w mean mg mb hL2 B F5 X T C N5 hl1 hl2 h6 hoct hhv dH dT hlt ⟨off.1, off.2.1, off.2.2.2⟩ hd hu
end
end
theorem anew_LawG : True := by (w_top off); first | walk1 | trivial
end
theorem anew_1 : True := by (w_top off); first | walk1 | trivial
-- LawF
section

theorem bInts_inj {a b : Array UInt8} (h : KBw.bInts a = KBw.bInts b) : a = b := by
  unfold KBw.bInts at h
  have h2 : a.toList = b.toList := by
    have key : ∀ x y : List UInt8, (x.map fun c => (c.toNat : Int)) = (y.map fun c => (c.toNat : Int)) → x = y := by
      intro x
      induction x with
      | nil => intro y h; cases y with
        | nil => rfl
        | cons _ _ => simp at h
      | cons c r ih => intro y h; cases y with
        | nil => simp at h
        | cons d q =>
          simp only [List.map_cons, List.cons.injEq] at h
          have e : c.toNat = d.toNat := by omega
          rw [ih q h.2, UInt8.toNat_inj.mp e]
    exact key _ _ h
  exact Array.toList_inj.mp h2
section
theorem clip_le (n : Nat) (i : Int) : clipAt n i ≤ n := by
  unfold clipAt; omega
theorem heads_in {lss : List (List Int)} (h0 : 0 < lss.length) (h1 : lss.length < 6) (h2 : ∀ ls ∈ lss, ls.length < 512) (h3 : ∀ ls ∈ lss, ∀ k ∈ ls, 0 ≤ k ∧ k < 256) : ∀ k ∈ headsN lss lss.length, 0 ≤ k ∧ k + 5 ≤ ((rowF lss).length : Int) := by
  intro k hk
  obtain ⟨j, hj, rfl⟩ := List.mem_map.mp hk
  have hj2 : j < lss.length := List.mem_range.mp hj
  have hls : lss[j]? = some lss[j] := List.getElem?_eq_getElem hj2
  obtain ⟨b1, b2, _⟩ := blk_fit (KBa.ints_make (rowF_in h2 h3)) (blk_row h0 h1 h2 h3 hls)
  refine ⟨by rw [headAt]; omega, by omega⟩
theorem lawF (w : World) (mean : ExcName → Option Value) (mg mb : Str → Option Value) {dp un : Nat} {gd : Option (List Code)} {g : Heap} {L : Addr} {m : Str → Option Value} {s : Shared} {oS oH oT oU : Obj}
    {params : Arguments} {body : List Stmt} {scope : Scope} (hL : (PySem.Challenge.rw_on0221_01.row.prog).theDef (Str.ofString "law") = some (params, body, scope))
    (B : Below callerA g [] g) (F : Fr g L s.heap m) (X : (Mine.top0.heap_39 w.params).In g) (T : Top topProg ownNames mean mg mb g) (C : CodeHd g 151 149)
    {src lo Ra H : Addr} {x y : Int} {tx ty tp tT : Tok} {n rn hn : Nat} {oLo : Obj} {rvs hvs vals : List Value} {lss : List (List Int)} {inn : List (Addr × Obj)}
    (N : News g L s.heap ((Ra, listOf rvs.toArray rn) :: (H, listOf hvs.toArray hn) :: (src, listOf #[.int x tx, .int y ty] n) :: (L + 1, oS) :: (L + 2, oH) :: (L + 3, oT) :: (L + 4, oU) :: (149, tabObj #[]) :: (lo, oLo) :: inn)) (hin : LotsIn inn vals lss) (hlo : ∀ h : Heap, h.get? lo = some oLo → h.IsList lo vals.toArray) (hl1 : 0 < lss.length) (hl2 : lss.length < 6) (h6 : ∀ ls ∈ lss, ls.length < 512) (hoct : ∀ ls ∈ lss, ∀ k ∈ ls, 0 ≤ k ∧ k < 256)
    (hrv : IntsAre rvs (rowF lss)) (hhv : IntsAre hvs (headsN lss lss.length))
    (dS : oS.data = .cell (some (.ref src))) (dH : oH.data = .cell (some (.ref H))) (dT : oT.data = .cell (some (.bytes (byteArr (rowF lss)) tT))) (dU : oU.data = .cell none) (hlt : @LT.lt Nat _ 149 L)
    (off : (@Ne Nat (L + 1) src) ∧ (@Ne Nat (L + 2) src) ∧ (@Ne Nat (L + 3) src) ∧ (@Ne Nat (L + 4) src) ∧ (@Ne Nat 149 src)) (l1 : (@LT.lt Nat _ src lo) ∧ (@LT.lt Nat _ (L + 1) lo) ∧ (@LT.lt Nat _ (L + 2) lo) ∧ (@LT.lt Nat _ (L + 3) lo) ∧ (@LT.lt Nat _ (L + 4) lo) ∧ (@LT.lt Nat _ 149 lo))
    (oR : LCg.Off1 Ra ((src, listOf #[.int x tx, .int y ty] n) :: (L + 1, oS) :: (L + 2, oH) :: (L + 3, oT) :: (L + 4, oU) :: (149, tabObj #[]) :: (lo, oLo) :: inn)) (oHh : LCg.Off1 H ((src, listOf #[.int x tx, .int y ty] n) :: (L + 1, oS) :: (L + 2, oH) :: (L + 3, oT) :: (L + 4, oU) :: (149, tabObj #[]) :: (lo, oLo) :: inn))
    (hm : m (Str.ofString "lots") = some (.ref lo)) (hmp : m (Str.ofString "plain") = some (.bytes (byteArr lss.flatten) tp)) (hmr : m (Str.ofString "row") = some (.ref Ra)) (hx : 0 ≤ x) (hy : 0 ≤ y) (hy2 : y < 2147483647) (hoff : OwnOff inn [src, L + 1, L + 2, L + 3, L + 4, 149, lo]) (hd : dp + 12 < recursionLimit) (hu : un + 96 < cLine) :
    LawAt w dp un gd g L s 8 body scope := by
  refine' law_use hL ?ho ?_
  case ho => with_unfolding_all rfl
  intro hL2
  unfold LawAt
  revert X; k_fill; intro X
  have F0 := fr_kst (ps := [(Str.ofString "lots", Value.ref lo), (Str.ofString "plain", .bytes (byteArr lss.flatten) tp), (Str.ofString "row", .ref Ra)]) (by
    intro p hp
    simp only [List.mem_cons, List.not_mem_nil, or_false] at hp
    rcases hp with rfl | rfl | rfl
    · exact hm
    · exact hmp
    · exact hmr) F
  dsimp only [kstB] at F0
  clear F
  obtain ⟨o1, o2, o3, o4, o5⟩ := off
  obtain ⟨l1, l2, l3, l4, l5, l6⟩ := l1
  obtain ⟨rl1, rl2⟩ := rowF_len h6 hl2
  have rin : KBa.In (rowF lss) := rowF_in h6 hoct
  have hrb := KBa.ints_make rin
  have hfo : KBa.In lss.flatten := fun k hk => by
    obtain ⟨ls, h1, h2⟩ := List.mem_flatten.mp hk
    exact hoct ls h1 k h2
  have hfb := KBa.ints_make hfo
  have hfl : lss.flatten.length < 4096 := flat_small h6 (by omega)
  dsimp only [LCg.Off1] at oR oHh
  obtain ⟨_, _, _, _, _, _, _, _⟩ := oR
  obtain ⟨h1, h2, h3, h4, h5, h6', h7, h8⟩ := oHh
  refine wpC_execs_cons (wpC_pieceE ?_)
  intro Q1 hQ1
  k_steps
  refine EndAt.mk ?_
  have hQ2 := hQ1.out
  subst hQ2
  clear hQ1
  try dsimp only
  refine wpC_execs_cons (wpC_pieceE ?_)
  intro Q1 hQ1
  k_steps
  refine Stop.mk ?_
  k_dflt (refine' check_c _ _ _ _ ?k1 ?k2 ?k3 ?k4 ?k5 ?kK ?kd ?ku ?_; (case k1 => k_asm); (case k2 => k_asm); (case k3 => k_asm); (case k4 => k_asm); (case k5 => k_asm); (case kK => first | exact rfl | assumption); (case kd => ktr_room); (case ku => ktr_units); k_whole; intro t' h' tk' F' N'; (try dsimp only at N' ⊢); (try k_fold))
  k_steps
  refine EndAt.mk ?_
  have hQ2 := hQ1.out
  subst hQ2
  clear hQ1
  try dsimp only
  refine wpC_execs_cons (wpC_pieceE ?_)
  intro Q1 hQ1
  k_steps
  refine Stop.mk ?_
  k_dflt (refine' crc32_c1 _ _ _ _ ?k1 ?k2 ?k3 ?k4 ?k5 ?kK ?kd ?ku ?_; (case k1 => k_asm); (case k2 => k_asm); (case k3 => k_asm); (case k4 => k_asm); (case k5 => k_asm); (case kK => first | exact rfl | assumption); (case kd => ktr_room); (case ku => ktr_units); k_whole; intro t' h' tk' F' N'; (try dsimp only at N' ⊢); (try k_fold))
  k_steps
  · rename crcF 0 (KBw.bInts (KBy.picked _ _ _)) ≠ _ => hne
    exact absurd (crc_check fun k hk => KBw.ints_in hk) hne
  refine Stop.mk ?_
  k_dflt (refine' crc32_c1 _ _ _ _ ?k1 ?k2 ?k3 ?k4 ?k5 ?kK ?kd ?ku ?_; (case k1 => k_asm); (case k2 => k_asm); (case k3 => k_asm); (case k4 => k_asm); (case k5 => k_asm); (case kK => first | exact rfl | assumption); (case kd => ktr_room); (case ku => ktr_units); k_whole; intro t' h' tk' F' N'; (try dsimp only at N' ⊢); (try k_fold))
  k_steps
  refine Stop.mk ?_
  k_dflt (refine' crc32_c _ _ _ _ ?k1 ?k2 ?k3 ?k4 ?k5 ?kK ?kd ?ku ?_; (case k1 => k_asm); (case k2 => k_asm); (case k3 => k_asm); (case k4 => k_asm); (case k5 => k_asm); (case kK => first | exact rfl | assumption); (case kd => ktr_room); (case ku => ktr_units); k_whole; intro t' h' tk' F' N'; (try dsimp only at N' ⊢); (try k_fold))
  k_steps
  refine Stop.mk ?_
  k_dflt (refine' crc32_c1 _ _ _ _ ?k1 ?k2 ?k3 ?k4 ?k5 ?kK ?kd ?ku ?_; (case k1 => k_asm); (case k2 => k_asm); (case k3 => k_asm); (case k4 => k_asm); (case k5 => k_asm); (case kK => first | exact rfl | assumption); (case kd => ktr_room); (case ku => ktr_units); k_whole; intro t' h' tk' F' N'; (try dsimp only at N' ⊢); (try k_fold))
  k_steps
  · rename crcF (crcF 0 _) _ ≠ _ => hne
    rename KBw.bInts (KBy.picked _ none (some _)) = _ => ke1
    rename KBw.bInts (KBy.picked _ (some _) none) = List.take (_ - clipAt _ _) (List.drop (clipAt _ _) _) => ke2
    rw [ke1, ke2, hfb] at hne
    exact absurd (crc_parts hfo (clip_le _ _)) hne
  refine EndAt.mk ?_
  have hQ2 := hQ1.out
  subst hQ2
  clear hQ1
  try dsimp only
  have hin8 : ∀ k ∈ headsN lss lss.length, 0 ≤ k ∧ k + 5 ≤ ((rowF lss).length : Int) := heads_in hl1 hl2 h6 hoct
  have hhn : (headsN lss lss.length).length = lss.length := by rw [headsN, List.length_map, List.length_range]
  refine wpC_execs_cons (wpC_pieceE ?_)
  intro Q1 hQ1
  k_steps
  refine Stop.mk ?_
  k_dflt (refine' turned_c _ _ _ _ ?k1 ?k2 ?k3 ?k4 ?k5 ?kK ?kU ?hR ?hRl ?hr ?hH ?hHl ?hh ?r1 ?r2 ?r3 ?r4 ?hi ?ho ?a1 ?a2 ?a3 ?kd ?ku ?_; (case k1 => k_asm); (case k2 => k_asm); (case k3 => k_asm); (case k4 => k_asm); (case k5 => k_asm); (case kK => first | exact rfl | assumption); (case kU => k_updF); (case hR => exact News.isList (by k_asm) (by k_mem)); (case hRl => k_ne); (case hr => assumption); (case hH => exact News.isList (by k_asm) (by k_mem)); (case hHl => k_ne); (case hh => assumption); (case r1 => assumption); (case r2 => omega); (case r3 => omega); (case r4 => omega); (case hi => assumption); (case ho => assumption); (case a1 => assumption); (case a2 => assumption); (case a3 => assumption); (case kd => ktr_room); (case ku => ktr_units); k_whole); (intro D' vs' nv' ts' x' tx' y' ty' n' h' tk' off' hi' ht' hx' hy' hy2' F' N'; (try dsimp only at N' ⊢); (try dsimp only [LCg.Off1] at off'); (repeat (obtain ⟨_, off'⟩ := off')); (try k_fold))
  rename Turned _ _ _ => htn
  rename IntsAre _ _ => hti
  have tin := turned_in hl1 hl2 h6 hoct htn
  have tln := turned_len htn
  have ztt : ∀ (b : List Value) (c : List Int), IntsAre b c → c.length ≤ (rowF lss).length + 1 → b.toArray.size ≤ sizeLine := fun b c hb hc => by
    have e1 : sizeLine = 16777216 := rfl
    rw [List.size_toArray, hb.length]; omega
  have zt1 := ztt _ _ hti tln
  k_steps
  refine EndAt.mk ?_
  have hQ2 := hQ1.out
  subst hQ2
  clear hQ1
  try dsimp only
  rename Fr g L _ _ => F6
  rename News g L _ _ => N6
  rename _ = Data.cell (some (Value.bytes (byteArr _) _)) => dU6
  have htn0 := turned_none hl1 hl2 h6 hoct htn
  refine lawG (oS := oS) (hn := hn) w mean mg mb hL2 B F6 X T C ?_ hl1 hl2 h6 hoct hhv htn0 tin tln dH dT dU6 hlt ?_ hd hu
  · intro p hp
    simp only [List.mem_cons, List.not_mem_nil, or_false] at hp
    rcases hp with rfl | rfl | rfl | rfl | rfl <;> exact N6 _ (by k_mem)
  · exact ⟨h3.symm, h4.symm, h5.symm, h6'.symm⟩
end
end
theorem anew_LawF : True := by (w_top off); first | walk1 | trivial
-- LawE
section

section
local macro_rules | `(tactic| walk_at "eval ListComp") => `(tactic| (k_here; k_dflt (refine LCg.ListComp_U (F₀ := by k_asm) (by with_unfolding_all rfl) (by decide) (by rfl) (by decide) (by rfl) ?_)))
local macro_rules | `(tactic| walk_at "CompSrc") => `(tactic| (refine CompStop.out ?_))
theorem len_made {prog : Program} {w : World} {A : Around} {E : Value → Shared → Prop} {s : Shared} {a : Addr} {its : List Value} {ls : List Int} {Q : Value → Shared → Prop}
    (hl : s.heap.IsList a its.toArray) (hi : IntsAre its ls) (hz : ls.length < 512) (h : ∀ t k, Q (.int (ls.length : Int) t) { s with toks := k }) : wpAny (model prog w) A (call (.builtin "len") [.ref a]) Q E s := by
  refine Calls.call_len_list hl ?_ ?_
  · rw [List.size_toArray, hi.length]; omega
  · rw [List.size_toArray, hi.length]; exact h _ _
local macro_rules | `(tactic| walk_at "call builtin:len") => `(tactic| (k_here; (with_reducible show wpAny _ _ (call (Value.builtin _) [Value.ref _]) _ _ _); (refine' len_made ?k1 ?k2 ?k3 ?_; (case k1 | k2 | k3 => with_reducible assumption)); intro t' k'; (try dsimp only)))
theorem lawE (w : World) (mean : ExcName → Option Value) (mg mb : Str → Option Value) {dp un : Nat} {gd : Option (List Code)} {g : Heap} {L : Addr} {m : Str → Option Value} {s : Shared} {oS oH oT oU : Obj}
    {params : Arguments} {body : List Stmt} {scope : Scope} (hL : (PySem.Challenge.rw_on0221_01.row.prog).theDef (Str.ofString "law") = some (params, body, scope))
    (B : Below callerA g [] g) (F : Fr g L s.heap m) (X : (Mine.top0.heap_39 w.params).In g) (T : Top topProg ownNames mean mg mb g) (C : CodeHd g 151 149)
    {src lo Ra H : Addr} {x y : Int} {tx ty tp tT : Tok} {n rn hn : Nat} {oLo : Obj} {rvs hvs vals : List Value} {lss : List (List Int)} {inn : List (Addr × Obj)}
    (N : News g L s.heap ((Ra, listOf rvs.toArray rn) :: (H, listOf hvs.toArray hn) :: (src, listOf #[.int x tx, .int y ty] n) :: (L + 1, oS) :: (L + 2, oH) :: (L + 3, oT) :: (L + 4, oU) :: (149, tabObj #[]) :: (lo, oLo) :: inn)) (hin : LotsIn inn vals lss) (hlo : ∀ h : Heap, h.get? lo = some oLo → h.IsList lo vals.toArray) (hl1 : 0 < lss.length) (hl2 : lss.length < 6) (h6 : ∀ ls ∈ lss, ls.length < 512) (hoct : ∀ ls ∈ lss, ∀ k ∈ ls, 0 ≤ k ∧ k < 256)
    (hrv : IntsAre rvs (rowF lss)) (hhv : IntsAre hvs (headsN lss lss.length))
    (dS : oS.data = .cell (some (.ref src))) (dH : oH.data = .cell (some (.ref H))) (dT : oT.data = .cell (some (.bytes (byteArr (rowF lss)) tT))) (dU : oU.data = .cell none) (hlt : @LT.lt Nat _ 149 L)
    (off : (@Ne Nat (L + 1) src) ∧ (@Ne Nat (L + 2) src) ∧ (@Ne Nat (L + 3) src) ∧ (@Ne Nat (L + 4) src) ∧ (@Ne Nat 149 src)) (l1 : (@LT.lt Nat _ src lo) ∧ (@LT.lt Nat _ (L + 1) lo) ∧ (@LT.lt Nat _ (L + 2) lo) ∧ (@LT.lt Nat _ (L + 3) lo) ∧ (@LT.lt Nat _ (L + 4) lo) ∧ (@LT.lt Nat _ 149 lo))
    (oR : LCg.Off1 Ra ((src, listOf #[.int x tx, .int y ty] n) :: (L + 1, oS) :: (L + 2, oH) :: (L + 3, oT) :: (L + 4, oU) :: (149, tabObj #[]) :: (lo, oLo) :: inn)) (oHh : LCg.Off1 H ((src, listOf #[.int x tx, .int y ty] n) :: (L + 1, oS) :: (L + 2, oH) :: (L + 3, oT) :: (L + 4, oU) :: (149, tabObj #[]) :: (lo, oLo) :: inn))
    (hm : m (Str.ofString "lots") = some (.ref lo)) (hmp : m (Str.ofString "plain") = some (.bytes (byteArr lss.flatten) tp)) (hmr : m (Str.ofString "row") = some (.ref Ra)) (hx : 0 ≤ x) (hy : 0 ≤ y) (hy2 : y < 2147483647) (hoff : OwnOff inn [src, L + 1, L + 2, L + 3, L + 4, 149, lo]) (hd : dp + 12 < recursionLimit) (hu : un + 96 < cLine) :
    LawAt w dp un gd g L s 7 body scope := by
  refine' law_use hL ?ho ?_
  case ho => with_unfolding_all rfl
  intro hL2
  unfold LawAt
  revert X; k_fill; intro X
  have F0 := fr_kst (ps := [(Str.ofString "lots", Value.ref lo), (Str.ofString "plain", .bytes (byteArr lss.flatten) tp), (Str.ofString "row", .ref Ra)]) (by
    intro p hp
    simp only [List.mem_cons, List.not_mem_nil, or_false] at hp
    rcases hp with rfl | rfl | rfl
    · exact hm
    · exact hmp
    · exact hmr) F
  dsimp only [kstB] at F0
  clear F
  have offs := Aside.mk (And.intro off l1)
  obtain ⟨o1, o2, o3, o4, o5⟩ := off
  obtain ⟨l1, l2, l3, l4, l5, l6⟩ := l1
  obtain ⟨rl1, rl2⟩ := rowF_len h6 hl2
  have rin : KBa.In (rowF lss) := rowF_in h6 hoct
  have hrb := KBa.ints_make rin
  have hfo : KBa.In lss.flatten := fun k hk => by
    obtain ⟨ls, h1, h2⟩ := List.mem_flatten.mp hk
    exact hoct ls h1 k h2
  have hfb := KBa.ints_make hfo
  refine wpC_execs_cons (wpC_If (wpC_isTrue_or (wpC_isTrue_Compare1 (wpC_Call_ofName (wpC_pieceE ?_)))))
  intro Q1 hQ1
  k_steps
  refine EndAt.mk ?_
  have hQ2 := hQ1.out
  subst hQ2
  clear hQ1
  refine wpC_callWith_of1 (P := (Mine.top0.heap_39 w.params).In) (keeps_K (by k_is)) (ends_at' ?_)
  rw [if_neg Bool.false_ne_true]
  k_steps
  rename Fr g _ _ _ => F1
  rename News g _ _ _ => N1
  refine EndAt.mk ⟨X.keeps F1.keep, ?_⟩
  try dsimp only [List.nil_append, List.cons_append]
  have hun := unst_row hl1 hl2 h6 hoct
  refine unst_c w mean mg mb B F1 X N1 T rfl hrb (by omega) (by omega) (by omega) ?_ ?_
  rotate_left
  · intro e t vs G h' tk' hno
    rw [hun] at hno; cases hno
  intro z t h' tk' hz F2 N2
  rw [hun] at hz
  have ez : z = byteArr lss.flatten := bInts_inj (by rw [hfb]; exact (Option.some.inj hz).symm)
  subst ez
  clear hz F1 N1
  try dsimp only
  refine ends_any ?_
  intro Q2 E2 hQ2
  k_steps
  refine EndAt.mk ?_
  obtain ⟨rfl, rfl⟩ := hQ2.out
  clear hQ2
  refine ends_any ?_
  intro Q2 E2 hQ2
  k_steps
  refine EndAt.mk ?_
  obtain ⟨rfl, rfl⟩ := hQ2.out
  clear hQ2
  refine ends_any ?_
  intro Q2 E2 hQ2
  k_steps
  refine EndAt.mk ?_
  obtain ⟨rfl, rfl⟩ := hQ2.out
  clear hQ2
  rw [bne_self_eq_false, if_neg Bool.false_ne_true]
  refine wpC_pieceE ?_
  intro Q1 hQ1
  k_steps
  rename Fr g _ _ _ => F3
  rename News g _ _ _ => N3
  have hmH : (H, listOf hvs.toArray hn) ∈ (Ra, listOf rvs.toArray rn) :: (H, listOf hvs.toArray hn) :: (src, listOf #[.int x tx, .int y ty] n) :: (L + 1, oS) :: (L + 2, oH) :: (L + 3, oT) :: (L + 4, oU) :: (149, tabObj #[]) :: (lo, oLo) :: inn := .tail _ (.head _)
  have hhl : hvs.length = lss.length := by rw [hhv.length, headsN, List.length_map, List.length_range]
  show LCg.CompSrc _ _ _ _ _ _ _ _ _ _ _ _ _ _
  refine LCg.CompSrc.ledger rfl F3 N3 hmH (by have : sizeLine = 16777216 := rfl; rw [List.size_toArray]; omega) (fun g9 => comp_ind
    (fun j ys nw => nw = (Ra, listOf rvs.toArray rn) :: (H, listOf hvs.toArray hn) :: (src, listOf #[.int x tx, .int y ty] n) :: (L + 1, oS) :: (L + 2, oH) :: (L + 3, oT) :: (L + 4, oU) :: (149, tabObj #[]) :: (lo, oLo) :: inn ∧
      IntsAre ys ((lss.take j).map fun ls => (ls.length : Int))) _ ⟨rfl, .nil⟩ ?_ ?_)
  · rintro j ys nw hj ⟨rfl, hys⟩ v I1 oI1 C1 oC1 D1 m2 h2 tk2 E2 hv hC1 hx2 F7 N7 off7 ne7
    obtain ⟨k, tk', rfl, hk⟩ := hhv.at j v (by simpa using hv)
    have hj2 : j < lss.length := by rw [List.size_toArray, hhl] at hj; exact hj
    have hk2 : k = headAt lss j := by
      rw [headsN, List.getElem?_map, List.getElem?_range hj2] at hk
      exact (Option.some.inj hk).symm
    subst hk2
    obtain ⟨ls, hls⟩ : ∃ ls, lss[j]? = some ls := ⟨_, List.getElem?_eq_getElem hj2⟩
    have hblk := blk_row hl1 hl2 h6 hoct hls
    obtain ⟨b1, b2, b3⟩ := blk_fit hrb hblk
    have b4 : 0 ≤ headAt lss j := by rw [headAt]; omega
    have b5 : headAt lss j < 1048576 := by omega
    have off8 := Aside.mk off7
    simp only [LCg.Off3] at off7
    replace off7 := Aside.mk off7
    replace ne7 := Aside.mk ne7
    k_steps
    refine Stop.mk ?_
    k_dflt (refine' block_c _ _ _ _ ?k1 ?k2 ?k3 ?k4 ?k5 ?kK ?kb ?a1 ?a2 ?a3 ?kd ?ku ?_ ?_; (case k1 => k_asm); (case k2 => k_asm); (case k3 => k_asm); (case k4 => k_asm); (case k5 => k_asm); (case kK => first | exact rfl | assumption); (case kb => with_reducible assumption); (case a1 => first | with_reducible assumption | omega); (case a2 => first | with_reducible assumption | omega); (case a3 => omega); (case kd => ktr_room); (case ku => ktr_units); k_whole); (first | (intro z' t' h' tk' hz' F' N'; (try dsimp only at N' ⊢); (try k_fold)) | (intro e' t' vs' G' h' tk' hz' F' R' U'; (try dsimp only)))
    k_steps
    · rename blkF _ _ = some _ => hz
      rw [hblk] at hz
      have hz2 := Option.some.inj hz
      subst hz2
      rename Fr g L _ _ => F8
      rename News g L _ _ => N8
      refine LCg.CompEnd.intro F8 N8 _ (fun p hp => hp) off8.out (.inr ⟨_, hmH, rfl, _, rfl⟩) ⟨rfl, ?_⟩
      rw [List.take_add_one, hls, List.map_append]
      exact hys.append (.cons _ _ .nil)
    · rename blkF _ _ = none => hz
      rw [hblk] at hz; cases hz
  · rintro ys nw ⟨rfl, hys⟩ D2 h2 tk2 F7 N7 offD
    rw [List.size_toArray, hhl, List.take_length] at hys
    have off8 := Aside.mk offD
    simp only [LCg.Off1] at offD
    replace offD := Aside.mk offD
    k_steps
    rename Fr g _ _ _ => F8
    rename News g _ _ _ => N8
    have hmL : (lo, oLo) ∈ (D2, LCg.lst ys) :: (Ra, listOf rvs.toArray rn) :: (H, listOf hvs.toArray hn) :: (src, listOf #[.int x tx, .int y ty] n) :: (L + 1, oS) :: (L + 2, oH) :: (L + 3, oT) :: (L + 4, oU) :: (149, tabObj #[]) :: (lo, oLo) :: inn := by k_mem
    obtain ⟨oL9, eL9, cL9, nL9, dL9⟩ := hlo _ (N8 _ hmL).1
    rw [(N8 _ hmL).1] at eL9
    have eL8 := Option.some.inj eL9
    dsimp only at eL8
    subst eL8
    have hvl := hin.length
    show LCg.CompSrc _ _ _ _ _ _ _ _ _ _ _ _ _ _
    refine Or.inl ⟨lo, vals.toArray, _, rfl, rfl, F8, N8, Or.inr ⟨_, hmL, cL9, nL9, dL9⟩, by have : sizeLine = 16777216 := rfl; rw [List.size_toArray]; omega, ?_⟩
    rintro s₂ ⟨g9, rfl⟩
    refine comp_ind
      (fun j zs nw => nw = (D2, LCg.lst ys) :: (Ra, listOf rvs.toArray rn) :: (H, listOf hvs.toArray hn) :: (src, listOf #[.int x tx, .int y ty] n) :: (L + 1, oS) :: (L + 2, oH) :: (L + 3, oT) :: (L + 4, oU) :: (149, tabObj #[]) :: (lo, oLo) :: inn ∧
        IntsAre zs ((lss.take j).map fun ls => (ls.length : Int))) _ ⟨rfl, .nil⟩ ?_ ?_
    · rintro j zs nw hj ⟨rfl, hzs⟩ v I1 oI1 C1 oC1 D1 m2 h3 tk3 E2 hv hC1 hx2 F9 N9 off7 ne7
      have hL9 : LotsAre h3 vals lss := hin.are (fun p hp => N9 p (by repeat (first | exact hp | refine List.Mem.tail _ ?_)))
      obtain ⟨a9, its9, ls, rfl, hal, hits, hls⟩ := hL9.get (i := j) (v := v) (by simpa using hv)
      have hlz := h6 ls (List.mem_of_getElem? hls)
      have off6 := Aside.mk off7
      simp only [LCg.Off3] at off7
      replace off7 := Aside.mk off7
      replace ne7 := Aside.mk ne7
      k_steps
      refine LCg.CompEnd.intro F9 N9 _ (fun p hp => hp) off6.out (.inr ⟨_, hmL, cL9, nL9, dL9⟩) ⟨rfl, ?_⟩
      rw [List.take_add_one, hls, List.map_append]
      exact hzs.append (.cons _ _ .nil)
    · rintro zs nw ⟨rfl, hzs⟩ D3 h3 tk3 F9 N9 offD3
      rw [List.size_toArray, hvl, List.take_length] at hzs
      replace offD3 := Aside.mk offD3
      k_steps
      refine EndAt.mk ?_
      have hQ2 := hQ1.out
      subst hQ2
      clear hQ1
      dsimp only
      rw [if_neg Bool.false_ne_true]
      refine wpC_execs_nil ?_
      exact lawF (s := { s with heap := h3, toks := tk3 }) w mean mg mb hL2 B F9 X T C (news_drop (news_drop N9)) hin hlo hl1 hl2 h6 hoct hrv hhv dS dH dT dU hlt offs.out.1 offs.out.2 oR oHh (if_pos rfl) rfl rfl hx hy hy2 hoff hd hu
end
end
theorem anew_LawE : True := by (w_top off); first | walk1 | trivial
-- LawD
section

section
local macro_rules | `(tactic| walk_at "eval ListComp") => `(tactic| (k_here; (rename Fr _ _ _ _ => lF'); k_dflt (refine flat_compF lF' (by decide) (by decide) rfl (by decide) rfl (by decide) rfl (by decide) ?_)))
theorem lawD (w : World) (mean : ExcName → Option Value) (mg mb : Str → Option Value) {dp un : Nat} {gd : Option (List Code)} {g : Heap} {L : Addr} {m : Str → Option Value} {s : Shared} {oS oH oT oU : Obj}
    {params : Arguments} {body : List Stmt} {scope : Scope} (hL : (PySem.Challenge.rw_on0221_01.row.prog).theDef (Str.ofString "law") = some (params, body, scope))
    (B : Below callerA g [] g) (F : Fr g L s.heap m) (X : (Mine.top0.heap_39 w.params).In g) (T : Top topProg ownNames mean mg mb g) (C : CodeHd g 151 149)
    {src lo : Addr} {x y : Int} {tx ty : Tok} {n : Nat} {oLo : Obj} {vals : List Value} {lss : List (List Int)} {inn : List (Addr × Obj)}
    (N : News g L s.heap ((src, listOf #[.int x tx, .int y ty] n) :: (L + 1, oS) :: (L + 2, oH) :: (L + 3, oT) :: (L + 4, oU) :: (149, tabObj #[]) :: (lo, oLo) :: inn)) (hin : LotsIn inn vals lss) (hlo : ∀ h : Heap, h.get? lo = some oLo → h.IsList lo vals.toArray) (hl1 : 0 < lss.length) (hl2 : lss.length < 6) (h6 : ∀ ls ∈ lss, ls.length < 512) (hoct : ∀ ls ∈ lss, ∀ k ∈ ls, 0 ≤ k ∧ k < 256)
    (dS : oS.data = .cell (some (.ref src))) (dH : oH.data = .cell none) (dT : oT.data = .cell none) (dU : oU.data = .cell none) (hlt : @LT.lt Nat _ 149 L)
    (off : (@Ne Nat (L + 1) src) ∧ (@Ne Nat (L + 2) src) ∧ (@Ne Nat (L + 3) src) ∧ (@Ne Nat (L + 4) src) ∧ (@Ne Nat 149 src)) (l1 : (@LT.lt Nat _ src lo) ∧ (@LT.lt Nat _ (L + 1) lo) ∧ (@LT.lt Nat _ (L + 2) lo) ∧ (@LT.lt Nat _ (L + 3) lo) ∧ (@LT.lt Nat _ (L + 4) lo) ∧ (@LT.lt Nat _ 149 lo))
    (hm : m (Str.ofString "lots") = some (.ref lo)) (hx : 0 ≤ x) (hy : 0 ≤ y) (hy2 : y < 2147483647) (hoff : OwnOff inn [src, L + 1, L + 2, L + 3, L + 4, 149, lo]) (hd : dp + 12 < recursionLimit) (hu : un + 96 < cLine) :
    LawAt w dp un gd g L s 4 body scope := by
  refine' law_use hL ?ho ?_
  case ho => with_unfolding_all rfl
  intro hL2
  unfold LawAt
  revert X; k_fill; intro X
  have F0 := fr_kst (ps := [(Str.ofString "lots", Value.ref lo)]) (by intro p hp; rw [List.mem_singleton.mp hp]; exact hm) F
  dsimp only [kstB] at F0
  obtain ⟨o1, o2, o3, o4, o5⟩ := off
  obtain ⟨l1, l2, l3, l4, l5, l6⟩ := l1
  have hfl : lss.flatten.length < 4096 := flat_small h6 (by omega)
  have hfo : ∀ k ∈ lss.flatten, 0 ≤ k ∧ k < 256 := fun k hk => by
    obtain ⟨ls, h1, h2⟩ := List.mem_flatten.mp hk
    exact hoct ls h1 k h2
  refine wpC_execs_cons (wpC_pieceE ?_)
  intro Q1 hQ1
  k_steps
  rename Fr g _ _ _ => F6
  rename News g _ _ _ => N6
  refine ⟨lo, vals, lss, _, _, rfl, rfl, F6, N6, hlo _ (N6 (lo, oLo) (by k_mem)).1, hin.are (fun p hp => N6 p (by repeat (first | exact hp | refine List.Mem.tail _ ?_))), by have : sizeLine = 16777216 := rfl; omega, ?_⟩
  intro D9 ys9 h9 tk9 F9 N9 hys9
  have zy : ys9.toArray.size ≤ sizeLine := by
    have e1 : sizeLine = 16777216 := rfl
    rw [List.size_toArray, hys9.length]; omega
  k_steps
  refine EndAt.mk ?_
  have hQ2 := hQ1.out
  subst hQ2
  clear hQ1
  try dsimp only
  rename News g L _ _ => N8
  have N5 := news_drop N8
  clear N8
  refine wpC_execs_cons (wpC_pieceE ?_)
  intro Q1 hQ1
  k_steps
  refine Stop.mk ?_
  k_dflt (refine' stream_c _ _ _ _ ?k1 ?k2 ?k3 ?k4 ?k5 ?kK ?kl ?kL ?h0 ?h1 ?h2 ?h3 ?kd ?ku ?_; (case k1 => k_asm); (case k2 => k_asm); (case k3 => k_asm); (case k4 => k_asm); (case k5 => k_asm); (case kK => first | exact rfl | assumption); (case kl => (rename News _ _ _ _ => lN'; rename ∀ _ : Heap, _ = _ → Heap.IsList _ _ _ => lo'; exact lo' _ (lN' (_, _) (by k_mem)).1)); (case kL => (rename News _ _ _ _ => lN'; rename LotsIn _ _ _ => hin'; exact hin'.are (fun p hp => lN' p (by repeat (first | exact hp | refine List.Mem.tail _ ?_))))); (case h0 => assumption); (case h1 => omega); (case h2 => assumption); (case h3 => assumption); (case kd => ktr_room); (case ku => ktr_units); k_whole; intro T' Ra' H' rvs' hvs' rn' hn' nt' h' tk' o1' o2' o3' hr' hh' F' N'; (try dsimp only at N' ⊢); (try dsimp only [LCg.Off1] at o1' o2' o3'); (repeat (obtain ⟨_, o1'⟩ := o1')); (repeat (obtain ⟨_, o2'⟩ := o2')); (repeat (obtain ⟨_, o3'⟩ := o3')); (try k_fold))
  k_steps
  refine EndAt.mk ?_
  have hQ2 := hQ1.out
  subst hQ2
  clear hQ1
  try dsimp only
  rename IntsAre _ (_ ++ List.map _ _) => hr
  change IntsAre _ (rowF lss) at hr
  obtain ⟨rl1, rl2⟩ := rowF_len h6 hl2
  have rin : KBa.In (rowF lss) := rowF_in h6 hoct
  have zr : ∀ b : List Value, IntsAre b (rowF lss) → b.toArray.size ≤ sizeLine := fun b hb => by
    have e1 : sizeLine = 16777216 := rfl
    rw [List.size_toArray, hb.length]; omega
  have zr1 := zr _ hr
  rename News g L _ _ => N8
  have N7 := news_drop N8
  clear N8
  refine wpC_execs_cons (wpC_pieceE ?_)
  intro Q1 hQ1
  k_steps
  refine EndAt.mk ?_
  have hQ2 := hQ1.out
  subst hQ2
  clear hQ1
  try dsimp only
  rename Fr g L _ _ => F6
  rename News g L _ _ => N6
  rename _ = Data.cell (some (Value.ref _)) => dH6
  rename _ = Data.cell (some (Value.bytes (byteArr (rowF _)) _)) => dT6
  rename IntsAre _ (headsN _ _) => hh6
  refine lawE w mean mg mb hL2 B F6 X T C N6 hin hlo hl1 hl2 h6 hoct hr hh6 dS dH6 dT6 dU hlt ⟨o1, o2, o3, o4, o5⟩ ⟨l1, l2, l3, l4, l5, l6⟩ ?_ ?_ rfl rfl rfl ?_ ?_ ?_ hoff hd hu
  · exact ⟨by assumption, by assumption, by assumption, by assumption, by assumption, by assumption, by assumption, by assumption⟩
  · exact ⟨by assumption, by assumption, by assumption, by assumption, by assumption, by assumption, by assumption, by assumption⟩
  all_goals assumption
end
end
theorem anew_LawD : True := by (w_top off); first | walk1 | trivial
-- LawC
section

section
local macro_rules | `(tactic| walk_at "setItem ref int ref") => `(tactic| (k_here; k_dflt (refine' set0_K ?k1 ?k2 ?kU ?k4 ?_; (case k1 | k2 => k_asm); (case kU => k_updF); (case k4 => assumption); k_whole); intro h' o' F' N' ho'; (try dsimp only at N')))
theorem news_in3 {g h : Heap} {L : Addr} {d p q a1 a2 a3 a4 a5 a6 lo : Addr × Obj} {inn : List (Addr × Obj)} (N : News g L h (d :: p :: q :: a1 :: a2 :: a3 :: a4 :: a5 :: a6 :: lo :: inn)) : News g L h (a1 :: a2 :: a3 :: a4 :: a5 :: a6 :: lo :: d :: inn) := fun x hx => N x (by
  simp only [List.mem_cons] at hx ⊢
  rcases hx with h | h | h | h | h | h | h | h | h <;> simp [h])
theorem octs258 : ∀ k ∈ List.map (fun a => a) (rangeInts 0 1 (256 - 0 : Int).toNat) ++ [7, 7], (0 : Int) ≤ k ∧ k < 256 := by decide +kernel
theorem lawC (w : World) (mean : ExcName → Option Value) (mg mb : Str → Option Value) {dp un : Nat} {gd : Option (List Code)} {g : Heap} {L : Addr} {m : Str → Option Value} {s : Shared} {oS oH oT oU : Obj}
    {params : Arguments} {body : List Stmt} {scope : Scope} (hL : (PySem.Challenge.rw_on0221_01.row.prog).theDef (Str.ofString "law") = some (params, body, scope))
    (B : Below callerA g [] g) (F : Fr g L s.heap m) (X : (Mine.top0.heap_39 w.params).In g) (T : Top topProg ownNames mean mg mb g) (C : CodeHd g 151 149)
    {src lo : Addr} {x y : Int} {tx ty : Tok} {n nl : Nat} {vals : List Value} {lss : List (List Int)} {inn : List (Addr × Obj)}
    (N : News g L s.heap ((src, listOf #[.int x tx, .int y ty] n) :: (L + 1, oS) :: (L + 2, oH) :: (L + 3, oT) :: (L + 4, oU) :: (149, tabObj #[]) :: (lo, listOf vals.toArray nl) :: inn)) (hin : LotsIn inn vals lss) (hl1 : 0 < lss.length) (hl2 : lss.length < 6) (h6 : ∀ ls ∈ lss, ls.length < 6) (hoct : ∀ ls ∈ lss, ∀ k ∈ ls, 0 ≤ k ∧ k < 256)
    (dS : oS.data = .cell (some (.ref src))) (dH : oH.data = .cell none) (dT : oT.data = .cell none) (dU : oU.data = .cell none) (hlt : @LT.lt Nat _ 149 L)
    (off : (@Ne Nat (L + 1) src) ∧ (@Ne Nat (L + 2) src) ∧ (@Ne Nat (L + 3) src) ∧ (@Ne Nat (L + 4) src) ∧ (@Ne Nat 149 src)) (l1 : (@LT.lt Nat _ src lo) ∧ (@LT.lt Nat _ (L + 1) lo) ∧ (@LT.lt Nat _ (L + 2) lo) ∧ (@LT.lt Nat _ (L + 3) lo) ∧ (@LT.lt Nat _ (L + 4) lo) ∧ (@LT.lt Nat _ 149 lo))
    (hm : m (Str.ofString "lots") = some (.ref lo)) (hx : 0 ≤ x) (hy : 0 ≤ y) (hy2 : y < 2147483647) (hoff : OwnOff inn [src, L + 1, L + 2, L + 3, L + 4, 149, lo]) (hd : dp + 12 < recursionLimit) (hu : un + 96 < cLine) :
    LawAt w dp un gd g L s 3 body scope := by
  refine' law_use hL ?ho ?_
  case ho => with_unfolding_all rfl
  intro hL2
  unfold LawAt
  revert X; k_fill; intro X
  have F0 := fr_kst (ps := [(Str.ofString "lots", Value.ref lo)]) (by intro p hp; rw [List.mem_singleton.mp hp]; exact hm) F
  dsimp only [kstB] at F0
  obtain ⟨o1, o2, o3, o4, o5⟩ := off
  obtain ⟨l1, l2, l3, l4, l5, l6⟩ := l1
  have hv0 : 0 < vals.length := by rw [hin.length]; exact hl1
  refine wpC_execs_cons (wpC_pieceE ?_)
  intro Q1 hQ1
  k_steps
  · refine EndAt.mk ?_
    have hQ2 := hQ1.out
    subst hQ2
    rename Fr g L _ _ => F9
    rename News g L _ _ => N9
    rename IntsAre _ (_ ++ [7, 7]) => h258
    rename ∀ _ : Heap, _ = _ → Heap.IsList _ _ _ => hlo9
    obtain ⟨D9, hD9⟩ := head1 N9
    subst hD9
    have N8 := news_in3 N9
    refine lawD w mean mg mb hL2 B F9 X T C N8 ((hin.mono fun p hp => List.Mem.tail _ hp).set0 (.head _) h258) hlo9 (by rw [List.length_set]; exact hl1) (by rw [List.length_set]; exact hl2) ?_ ?_ dS dH dT dU hlt ⟨o1, o2, o3, o4, o5⟩ ⟨l1, l2, l3, l4, l5, l6⟩ (if_pos rfl) (by assumption) (by assumption) (by assumption) ?_ hd hu
    · intro ls hls
      rcases List.mem_or_eq_of_mem_set hls with q | q
      · have := h6 ls q; omega
      · rw [q]; simp [rangeInts]
    · intro ls hls
      rcases List.mem_or_eq_of_mem_set hls with q | q
      · exact hoct ls q
      · rw [q]; exact octs258
    · intro p hp b hb
      rcases List.mem_cons.mp hp with rfl | hp
      · simp only [List.mem_cons, List.not_mem_nil, or_false] at hb
        clear hoff
        rcases hb with rfl | rfl | rfl | rfl | rfl | rfl | rfl <;> k_ne
      · exact hoff p hp b hb
  · refine EndAt.mk ?_
    have hQ2 := hQ1.out
    subst hQ2
    rename Fr g L _ _ => F9
    rename News g L _ _ => N9
    refine lawD w mean mg mb hL2 B F9 X T C N9 hin (fun h e => ⟨_, e, rfl, _, rfl⟩) hl1 hl2 (fun ls hls => by have := h6 ls hls; omega) hoct dS dH dT dU hlt ⟨o1, o2, o3, o4, o5⟩ ⟨l1, l2, l3, l4, l5, l6⟩ (if_pos rfl) (by assumption) (by assumption) (by assumption) hoff hd hu
end
end
theorem anew_LawC : True := by (w_top off); first | walk1 | trivial
-- LawB
section

section
local macro_rules | `(tactic| walk_at "eval ListComp") => `(tactic| (k_here; k_dflt (refine LCg.ListComp_U (F₀ := by k_asm) (by with_unfolding_all rfl) (by decide) (by rfl) (by decide) (by rfl) ?_)))
local macro_rules | `(tactic| walk_at "CompSrc") => `(tactic| (refine CompStop.out ?_))
local macro_rules | `(tactic| walk_at "call type:range") => `(tactic| (k_here; (with_reducible show wpAny _ _ (call _ [_]) _ _ _); k_dflt (refine' range1_K ?k1 ?k2 ?_; (case k1 | k2 => k_asm); k_whole); intro r' h' tk' u' v' hr' F' N'; (try dsimp only at N' F' ⊢)))
/-- what holds between two turns of the loop that draws the lots -/
def BJ (src lo L : Addr) (oS oH oT oU : Obj) (m₀ : Str → Option Value) (i : Nat) (m : Str → Option Value) (news : List (Addr × Obj)) : Prop :=
  ∃ (vals : List Value) (lss : List (List Int)) (inn : List (Addr × Obj)) (x y : Int) (tx ty : Tok) (n nl : Nat),
    news = (src, listOf #[.int x tx, .int y ty] n) :: (L + 1, oS) :: (L + 2, oH) :: (L + 3, oT) :: (L + 4, oU) :: (149, tabObj #[]) :: (lo, listOf vals.toArray nl) :: inn ∧
    LotsIn inn vals lss ∧ lss.length = i ∧ (∀ ls ∈ lss, ls.length < 6) ∧ (∀ ls ∈ lss, ∀ k ∈ ls, 0 ≤ k ∧ k < 256) ∧ 0 ≤ x ∧ 0 ≤ y ∧ y < 2147483647 ∧ OwnOff inn [src, L + 1, L + 2, L + 3, L + 4, 149, lo] ∧ (∀ z, z ≠ Str.ofString "turn" → m z = m₀ z)
local macro_rules | `(tactic| size_fits) => `(tactic| assumption)
theorem lawB (w : World) (mean : ExcName → Option Value) (mg mb : Str → Option Value) {dp un : Nat} {gd : Option (List Code)} {g : Heap} {L : Addr} {m : Str → Option Value} {s : Shared} {oS oH oT oU : Obj}
    {params : Arguments} {body : List Stmt} {scope : Scope} (hL : (PySem.Challenge.rw_on0221_01.row.prog).theDef (Str.ofString "law") = some (params, body, scope))
    (B : Below callerA g [] g) (F : Fr g L s.heap m) (X : (Mine.top0.heap_39 w.params).In g) (T : Top topProg ownNames mean mg mb g) (C : CodeHd g 151 149)
    {src lo : Addr} {x y : Int} {tx ty : Tok} {n : Nat}
    (N : News g L s.heap [(lo, listOf #[] 0), (src, listOf #[.int x tx, .int y ty] n), (L + 1, oS), (L + 2, oH), (L + 3, oT), (L + 4, oU), (149, tabObj #[])]) (dS : oS.data = .cell (some (.ref src))) (dH : oH.data = .cell none) (dT : oT.data = .cell none) (dU : oU.data = .cell none) (hlt : @LT.lt Nat _ 149 L)
    (off : (@Ne Nat (L + 1) src) ∧ (@Ne Nat (L + 2) src) ∧ (@Ne Nat (L + 3) src) ∧ (@Ne Nat (L + 4) src) ∧ (@Ne Nat 149 src)) (l1 : (@LT.lt Nat _ src lo) ∧ (@LT.lt Nat _ (L + 1) lo) ∧ (@LT.lt Nat _ (L + 2) lo) ∧ (@LT.lt Nat _ (L + 3) lo) ∧ (@LT.lt Nat _ (L + 4) lo) ∧ (@LT.lt Nat _ 149 lo))
    (hm : m (Str.ofString "lots") = some (.ref lo)) (hx : 0 ≤ x) (hy : 0 ≤ y) (hy2 : y < 2147483647) (hd : dp + 12 < recursionLimit) (hu : un + 96 < cLine) :
    LawAt w dp un gd g L s 2 body scope := by
  refine' law_use hL ?ho ?_
  case ho => with_unfolding_all rfl
  intro hL2
  unfold LawAt
  revert X; k_fill; intro X
  have F0 := fr_kst (ps := [(Str.ofString "lots", Value.ref lo)]) (by intro p hp; rw [List.mem_singleton.mp hp]; exact hm) F
  dsimp only [kstB] at F0
  clear F
  obtain ⟨o1, o2, o3, o4, o5⟩ := off
  obtain ⟨l1, l2, l3, l4, l5, l6⟩ := l1
  refine wpC_execs_cons (wpC_pieceE ?_)
  intro Q1 hQ1
  k_steps
  rename IsRange _ _ _ _ _ _ _ _ => hr9
  rename Fr g L _ _ => F9
  rename News g L _ _ => N9
  refine Stop.mk ?_
  rename _ < (5 : Int) => hd5
  obtain ⟨e1, e2⟩ := small8 (d := 1 + _) (by omega) (Int.add_lt_add_left (Int.lt_trans hd5 (by decide : (5 : Int) < 7)) 1)
  refine grow_range (BJ src lo L oS oH oT oU _) rfl hr9 e1 e2 F9 (news_back1 N9) ⟨[], [], [], _, _, _, _, _, _, rfl, trivial, rfl, by simp, by simp, by assumption, by assumption, by assumption, (fun p hp => absurd hp List.not_mem_nil), fun _ _ => rfl⟩ ?_ ?_
  · clear N9 F9 hr9 e1 e2
    rintro i m₁ news₁ I oI t h tk hi ⟨vals, lss, inn, x, y, tx, ty, n, nl, rfl, hin, hlen, h6, hoct, hx, hy, hy2, hoff, hm1⟩ hI F4 N4
    have F5 := fr_off1 hm1 F4
    have hI1 := off1_of _ hI
    dsimp only [LCg.Off1] at hI1
    obtain ⟨i1, i2, i3, i4, i5, i6, i7, i8⟩ := hI1
    clear F4 hm1 hI
    k_steps
    rename IsRange _ _ _ _ _ _ _ _ => hr8
    rename Fr g L _ _ => F6
    rename News g L _ _ => N6
    rename _ < (6 : Int) => hd6
    obtain ⟨e3, e4⟩ := small8 (by assumption) (Int.lt_trans hd6 (by decide : (6 : Int) < 8))
    have hrest : ∀ p ∈ (L + 1, oS) :: (L + 2, oH) :: (L + 3, oT) :: (L + 4, oU) :: (149, tabObj #[]) :: (lo, listOf vals.toArray nl) :: inn, p.1 ≠ src := by k_all
    show LCg.CompSrc _ _ _ _ _ _ _ _ _ _ _ _ _ _
    refine LCg.CompSrc.range rfl F6 N6 hr8 e3 e4 (by have : sizeLine = 16777216 := rfl; omega) (fun g9 => comp_ind
      (fun j ys nw => ∃ (ls : List Int) (x y : Int) (tx ty : Tok) (n : Nat), nw = (I, oI) :: (src, listOf #[.int x tx, .int y ty] n) :: (L + 1, oS) :: (L + 2, oH) :: (L + 3, oT) :: (L + 4, oU) :: (149, tabObj #[]) :: (lo, listOf vals.toArray nl) :: inn ∧
        IntsAre ys ls ∧ ls.length = j ∧ (∀ k ∈ ls, 0 ≤ k ∧ k < 256) ∧ 0 ≤ x ∧ 0 ≤ y ∧ y < 2147483647) _ ⟨[], _, _, _, _, _, rfl, .nil, rfl, by simp, by assumption, by assumption, by assumption⟩ ?_ ?_)
    · have UI := fun o => UpdF.tail (p := (I, oI)) (Ne.symm i1) (UpdF.head (d := src) (o := o) hrest)
      rintro j ys nw hj ⟨ls, x1, y1, tx1, ty1, n1, rfl, hys, hlj, hls, hx1, hy1, hy3⟩ v I1 oI1 C1 oC1 D1 m2 h2 tk2 E2 ⟨t2, rfl⟩ hC1 hx2 F7 N7 off7 ne7
      have U1 := fun o => UpdF.tail (p := (I1, oI1)) (Ne.symm (off7.2.1.1)) (UpdF.tail (p := (C1, oC1)) (Ne.symm off7.2.1.2.1) (UpdF.tail (p := (D1, LCg.lst ys)) (Ne.symm off7.2.1.2.2) (UI o)))
      replace off7 := Aside.mk off7
      replace ne7 := Aside.mk ne7
      k_steps
      rename Fr g L _ _ => F8
      rename News g L _ _ => N8
      rename _ ∈ ([0, 255, 7, _] : List Int) => hdm
      refine LCg.CompEnd.intro F8 N8 _ (fun p hp => List.Mem.tail _ hp) off7.out trivial ⟨ls ++ [_], _, _, _, _, _, rfl, hys.append (.cons _ _ .nil), by rw [List.length_append, hlj]; rfl, fun k hk => ?_, by assumption, by assumption, by assumption⟩
      rcases List.mem_append.mp hk with hk | hk
      · exact hls k hk
      · rw [List.mem_singleton.mp hk]
        simp only [List.mem_cons, List.not_mem_nil, or_false] at hdm
        rcases hdm with h9 | h9 | h9 | h9
        · rw [h9]; decide
        · rw [h9]; decide
        · rw [h9]; decide
        · rw [h9]; exact ⟨by assumption, by assumption⟩
    · rintro ys nw ⟨ls, x1, y1, tx1, ty1, n1, rfl, hys, hlj, hls, hx1, hy1, hy3⟩ D h2 tk2 F7 N7 offD
      have f1 : @Ne Nat lo D := offD.2.2.2.2.2.2.2.1
      have f2 : @Ne Nat D I := Ne.symm offD.1
      have f3 := offD.2.2.2.2.2.2.2.2
      replace offD := Aside.mk offD
      have z1 : vals.toArray.size ≤ sizeLine := by
        have e8 : sizeLine = 16777216 := rfl
        rw [List.size_toArray, hin.length, hlen]; omega
      k_steps
      rename Fr g _ _ _ => F8
      rename News g _ _ _ => N8
      have N9 := news_in N8
      have hmemD : (D, LCg.lst ys) ∈ (D, LCg.lst ys) :: inn := .head _
      refine EndAt.mk ⟨_, _, _, _, rfl, F8, N9, fun p hp q hq => ?_, vals ++ [.ref D], lss ++ [ls], (D, LCg.lst ys) :: inn, x1, y1, tx1, ty1, n1, nl + 1, by first | rfl | (rw [← List.push_toArray]) | (simp only [List.push_toArray]), (hin.mono fun p hp => List.Mem.tail _ hp).snoc hmemD hys, by rw [List.length_append, hlen]; rfl, fun a ha => ?_, fun a ha => ?_, hx1, hy1, hy3, fun p hp b hb => ?_, fun z hz => ?_⟩
      · rw [List.mem_singleton.mp hq]
        rcases List.mem_cons.mp hp with rfl | hp
        · exact i1
        rcases List.mem_cons.mp hp with rfl | hp
        · exact i2
        rcases List.mem_cons.mp hp with rfl | hp
        · exact i3
        rcases List.mem_cons.mp hp with rfl | hp
        · exact i4
        rcases List.mem_cons.mp hp with rfl | hp
        · exact i5
        rcases List.mem_cons.mp hp with rfl | hp
        · exact i6
        rcases List.mem_cons.mp hp with rfl | hp
        · exact i7
        rcases List.mem_cons.mp hp with rfl | hp
        · exact f2
        · exact off1_mem _ i8 p hp
      · rcases List.mem_append.mp ha with ha | ha
        · exact h6 a ha
        · rw [List.mem_singleton.mp ha, hlj]; omega
      · rcases List.mem_append.mp ha with ha | ha
        · exact hoct a ha
        · rw [List.mem_singleton.mp ha]; exact hls
      · rcases List.mem_cons.mp hp with rfl | hp
        · have o9 := offD.out
          simp only [List.mem_cons, List.not_mem_nil, or_false] at hb
          rcases hb with rfl | rfl | rfl | rfl | rfl | rfl | rfl
          · exact Ne.symm o9.2.1
          · exact Ne.symm o9.2.2.1
          · exact Ne.symm o9.2.2.2.1
          · exact Ne.symm o9.2.2.2.2.1
          · exact Ne.symm o9.2.2.2.2.2.1
          · exact Ne.symm o9.2.2.2.2.2.2.1
          · exact Ne.symm o9.2.2.2.2.2.2.2.1
        · exact hoff p hp b hb
      · simp [hz]
  · rintro m₁ news₁ h tk ⟨vals, lss, inn, x, y, tx, ty, n, nl, rfl, hin, hlen, h6, hoct, hx, hy, hy2, hoff, hm1⟩ F4 N4
    refine EndAt.mk ?_
    have hQ2 := hQ1.out
    subst hQ2
    refine lawC (s := { s with heap := h, toks := tk }) w mean mg mb hL2 B F4 X T C N4 hin (by omega) (by omega) h6 hoct dS dH dT dU hlt ⟨o1, o2, o3, o4, o5⟩ ⟨l1, l2, l3, l4, l5, l6⟩ (by rw [hm1 _ (by decide)]; exact if_pos rfl) hx hy hy2 hoff hd hu
end
end
theorem anew_LawB : True := by (w_top off); first | walk1 | trivial
-- LawA
section

section
theorem lawA (w : World) (mean : ExcName → Option Value) (mg mb : Str → Option Value) {dp un : Nat} {gd : Option (List Code)} {g : Heap} {L S : Addr} {m : Str → Option Value} {s : Shared} {vs : List Value} {ns : List Int} {oS oH oT oU : Obj}
    {params : Arguments} {body : List Stmt} {scope : Scope} (hL : (PySem.Challenge.rw_on0221_01.row.prog).theDef (Str.ofString "law") = some (params, body, scope))
    (B : Below callerA g [] g) (F : Fr g L s.heap m) (X : (Mine.top0.heap_39 w.params).In g) (T : Top topProg ownNames mean mg mb g) (C : CodeHd g 151 149)
    (N : News g L s.heap [(L + 1, oS), (L + 2, oH), (L + 3, oT), (L + 4, oU), (149, tabObj #[])]) (dS : oS.data = .cell none) (dH : oH.data = .cell none) (dT : oT.data = .cell none) (dU : oU.data = .cell none) (hlt : @LT.lt Nat _ 149 L)
    (hm : m (Str.ofString "script") = some (.ref S)) (hS : g.IsList S vs.toArray) (hi : IntsAre vs ns) (hn : ns.length ≤ 63) (hd : dp + 12 < recursionLimit) (hu : un + 96 < cLine) :
    LawAt w dp un gd g L s 0 body scope := by
  refine' law_use hL ?ho ?_
  case ho => with_unfolding_all rfl
  intro hL2
  unfold LawAt
  revert X; k_fill; intro X
  have F0 := fr_kst (ps := [(Str.ofString "script", Value.ref S)]) (by intro p hp; rw [List.mem_singleton.mp hp]; exact hm) F
  dsimp only [kstB] at F0
  clear F
  refine wpC_execs_cons (wpC_pieceE ?_)
  intro Q1 hQ1
  k_steps
  refine Stop.mk ?_
  k_dflt (refine' pool_c _ _ _ _ ?k1 ?k2 ?k3 ?k4 ?k5 ?kK ?kS ?ki ?kn ?kd ?ku ?_; (case k1 => k_asm); (case k2 => k_asm); (case k3 => k_asm); (case k4 => k_asm); (case k5 => k_asm); (case kK => first | exact rfl | assumption); (case kS => exact kept_list (by assumption) (by assumption)); (case ki => assumption); (case kn => assumption); (case kd => ktr_room); (case ku => ktr_units); k_whole; intro D' x' y' tx' ty' n' h' tk' off' hx' hy' hy2' F' N'; (try dsimp only at N' ⊢); (try dsimp only [LCg.Off1] at off'); (repeat (obtain ⟨_, off'⟩ := off')); (try k_fold))
  k_steps
  refine EndAt.mk ?_
  have hQ2 := hQ1.out
  subst hQ2
  clear hQ1
  try dsimp only
  refine wpC_execs_cons (wpC_pieceE ?_)
  intro Q1 hQ1
  k_steps
  refine EndAt.mk ?_
  have hQ2 := hQ1.out
  subst hQ2
  clear hQ1
  try dsimp only
  rename Fr g L _ _ => F6
  rename News g L _ _ => N6
  rename _ = Data.cell (some (Value.ref _)) => dS6
  refine lawB w mean mg mb hL2 B F6 X T C N6 dS6 dH dT dU hlt ?_ ?_ rfl ?_ ?_ ?_ hd hu
  · exact ⟨by assumption, by assumption, by assumption, by assumption, by assumption⟩
  all_goals assumption
end
end
theorem anew_LawA : True := by (w_top off); first | walk1 | trivial
-- LawTop
section

theorem lawTop : PySem.Challenge.rw_on0221_01.Holds := by
  refine top0 ?_
  k_fill
  intro w s₀ s₁ mg mb G Y fa o pm cd doc dV kV ho hd hcd hD hmg hg args vals as hpre hlay hrd hwl hlo
  have KX := km_in_of Y
  have hT8 := km_tabs_of Y
  have X := (Ground.X G).1
  have V := (Ground.X G).2
  refine Ground.open G ?_
  intro T B D TE TW
  have hT9 : TabsAt ([(151, 149)] : List (Addr × Addr)) s₁.heap := List.forall_mem_cons.mpr ⟨⟨codeHd_of_K (c := 151) (P := 149) KX (by kernel_rfl), hT8 149 (by k_mem)⟩, fun _ h => nomatch h⟩
  obtain rfl : fa = 152 := by
    have e := mg_of (n := Str.ofString "law") (v := Value.ref 152) KX T.g (by kernel_rfl)
    have e2 : mg (Str.ofString "law") = some (.ref fa) := hmg
    rw [e] at e2
    cases e2
    rfl
  clear ho hd hcd hD hmg X V B D TE TW G Y hT8
  wrow_args hpre hlay hrd hwl hlo
  rename Heap.IsList _ _ _ => hS
  rename IntsAre _ _ => hI
  rename ¬ _ => hsz
  have hpost : ∀ ns : List Int, PySem.Challenge.rw_on0221_01.row.claim.post [ofPy (PyData.list (List.map PyData.int ns))] (WData.bool true) [ofPy (PyData.list (List.map PyData.int ns))] = true := fun ns => postW_of (by wrow_shape) (by wtm_val) (by str_meet; first | done | w_fin)
  refine ⟨good_start hg (fun _ => rfl) (hpost _), ?_⟩
  refine wpC_call ?_
  refine' code_topC KX T ?k6 ?k7 ?k8 ?k9 ?kB ?kD ?_ ?c2 ?c3 ?c4
  case k6 => k_is
  case k7 => k_is
  case k8 => decide
  case k9 => exact BindsTo.of_eq rfl
  case kB => exact rfl
  case kD => decide +kernel
  case c2 => exact rfl
  case c3 => exact rfl
  case c4 => exact rfl
  intro L h₁ tk cells F N Y
  k_cells Y
  have F2 := ghost_fr hT9 F
  have N2 := ghost_news hT9 F N
  have hlt := ghost_lt hT9 F (149, tabObj #[]) (.head _)
  simp only [tabNews, List.map_cons, List.map_nil, List.nil_append, List.cons_append] at N2
  have N3 : News (ghostOf s₁.heap [(151, 149)]) L h₁ [(L + 1, _), (L + 2, _), (L + 3, _), (L + 4, _), (149, tabObj #[])] := fun p hp => by
    simp only [List.mem_cons, List.not_mem_nil, or_false] at hp
    rcases hp with rfl | rfl | rfl | rfl | rfl
    · exact N2 _ (.tail _ (.tail _ (.tail _ (.head _))))
    · exact N2 _ (.tail _ (.tail _ (.head _)))
    · exact N2 _ (.tail _ (.head _))
    · exact N2 _ (.head _)
    · exact N2 _ (.tail _ (.tail _ (.tail _ (.tail _ (.head _)))))
  refine' wpC_mono (lawA (s := { s₁ with heap := h₁, toks := tk }) (dp := callerA.depth + 1) (un := callerA.units + 3) w (ExcName.means s₀.heap) mg mb ?hL (ghost_below hT9) F2 (ghost_K hT9 KX (by kernel_rfl)) (top_own hT9 T) (ghost_code hT9).1 N3 ?dS ?dH ?dT ?dU hlt ?hm (ghost_list hT9 hS) hI (by omega) ?hd ?hu) ?_ ?_
  case hL => with_unfolding_all rfl
  case dS => with_unfolding_all assumption
  case dH => with_unfolding_all assumption
  case dT => with_unfolding_all assumption
  case dU => with_unfolding_all assumption
  case hm => rfl
  case hd => decide
  case hu => decide
  · rintro _ _ ⟨rfl, h, tk2, m, ps, es, FL, hP⟩
    exact law_post hT9 hg (fun _ => rfl) (hpost _) es FL hP
  · exact fun _ _ h => h.elim
end
theorem anew_LawTop : True := by (w_top off); first | walk1 | trivial
end
theorem anew_2 : True := by (w_top off); first | walk1 | trivial
end Mine
end
theorem Mine.anew_3 : True := by (w_top off); first | walk1 | trivial
open PySem PySem.W PyProof.Rows
theorem PySem.Challenge.cw_on0221_01_holds : PySem.Challenge.rw_on0221_01.Holds := by
  exact Mine.lawTop
