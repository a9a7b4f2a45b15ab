import PyProof.Rows.All
import Wide.All
import OpenK.AllK
import Wide.FinOn
import Lean
import PySem.Challenge.RW_pq0141_01
set_option Elab.async false
namespace Mine

section -- A0
open PySem PySem.W PyProof.Rows PySem.Calls PySem.Spec
set_option maxRecDepth 100000
/-- a name of a local or a constant, read at once: its value and the next token -/
def atomE (m : Str → Option Value) (ns : List (Str × NameKind)) (tk : Nat) : PySem.Expr → Option (Value × Nat)
  | .Name x _ => match ns.lookup x with
    | some .local => (match x == ("__debug__" : Str) with
      | false => (match m x with | some v => some (v, tk) | none => none)
      | true => none)
    | _ => none
  | .Constant (.str x) _ _ => some (.str x tk, tk + 1)
  | .Constant (.int i) _ _ => some (.int i tk, tk + 1)
  | .Constant .none _ _ => some (.none, tk)
  | .Constant (.bool b) _ _ => some (.bool b, tk)
  | _ => none
def flatE (m : Str → Option Value) (ns : List (Str × NameKind)) (tk : Nat) : PySem.Expr → Option (Value × Nat)
  | .BinOp l .Add r _ => match atomE m ns tk l with
    | some (.int a _, t1) => (match atomE m ns t1 r with
      | some (.int b _, t2) => some (.int (a + b) t2, t2 + 1)
      | _ => none)
    | _ => none
  | e => atomE m ns tk e
def flatL (m : Str → Option Value) (ns : List (Str × NameKind)) : List PySem.Expr → Nat → Option (List Value × Nat)
  | [], tk => some ([], tk)
  | e :: r, tk => match flatE m ns tk e with
    | some (v, t) => (match flatL m ns r t with
      | some (vs, t') => some (v :: vs, t')
      | none => none)
    | none => none
section
variable {prog : Program} {w : World} {A : Around} {E : Value → Shared → Prop} {h₀ h : Heap} {gs : Array GenState} {d : Drawn} {os : OsState} {L a : Addr} {m : Str → Option Value}
  {cn : Str} {cs : Scope} {ccd : Value} {cl : List (Str × Addr)}
theorem atom_ok {Q : Value → Shared → Prop} (F : Fr h₀ L h m) (hk : cs.kind = .function) : ∀ {e : PySem.Expr} {tk : Nat} {v : Value} {t : Nat}, atomE m cs.names tk e = some (v, t) → Q v ⟨h, gs, d, t, os⟩ →
    wpAny (model prog w) A (eval e (envX cn cs L a ccd cl)) Q E ⟨h, gs, d, tk, os⟩ := by
  intro e tk v t he hq
  unfold atomE at he
  split at he
  · rename_i x pos
    split at he
    · rename_i hx
      split at he
      · rename_i hd
        split at he
        · rename_i v' hv
          cases he
          exact nameX_L (s := ⟨h, gs, d, tk, os⟩) F hv hq hk hx hd
        · cases he
      · cases he
    · cases he
  · cases he; exact wpAny_Constant_str hq
  · cases he; exact wpAny_Constant_int hq
  · cases he; exact wpAny_Constant_none hq
  · cases he; exact wpAny_Constant_bool hq
  · cases he
theorem flatE_ok {Q : Value → Shared → Prop} (F : Fr h₀ L h m) (hk : cs.kind = .function) {e : PySem.Expr} {tk : Nat} {v : Value} {t : Nat} (he : flatE m cs.names tk e = some (v, t)) (hq : Q v ⟨h, gs, d, t, os⟩) :
    wpAny (model prog w) A (eval e (envX cn cs L a ccd cl)) Q E ⟨h, gs, d, tk, os⟩ := by
  unfold flatE at he
  split at he
  · split at he
    · rename_i h1
      split at he
      · rename_i h2
        cases he
        exact wpAny_BinOp (atom_ok F hk h1 (atom_ok F hk h2 (add_int hq)))
      · cases he
    · cases he
  · exact atom_ok F hk he hq
theorem flatL_ok (F : Fr h₀ L h m) (hk : cs.kind = .function) {pos : Pos} : ∀ {args : List PySem.Expr} {tk : Nat} {vs : List Value} {t : Nat} {Q : List Value → Shared → Prop}, flatL m cs.names args tk = some (vs, t) → Q vs ⟨h, gs, d, t, os⟩ →
    wpAny (model prog w) A (spliced (backTo pos (starEach args (envX cn cs L a ccd cl)))) Q E ⟨h, gs, d, tk, os⟩
  | [], tk, vs, t, Q, he, hq => by
    cases he
    exact args_nil hq
  | e :: r, tk, vs, t, Q, he, hq => by
    unfold flatL at he
    split at he
    · rename_i v t1 h1
      split at he
      · rename_i vs' t2 h2
        cases he
        refine args_cons (flatE_ok F hk h1 (flatL_ok F hk h2 hq)) ?_
        cases e <;> first | rfl | (simp [flatE, atomE] at h1; done)
      · cases he
    · cases he
section
variable {M : Model} {x : Str} {v : Value} {news : List (Addr × Obj)} {tk : Nat} {k : Nat} {pos : Pos}
/-- a frame with one more name -/
def put (m : Str → Option Value) (x : Str) (v : Value) : Str → Option Value := fun y => if y = x then some v else m y
theorem storeS {Q : Unit → Shared → Prop} (F : Fr h₀ L h m) (N : News h₀ L h news)
    (hq : ∀ h', Fr h₀ L h' (put m x v) → News h₀ L h' news → Q () ⟨h', gs, d, tk + 1, os⟩)
    (hk : cs.kind = .function) (hx : (envX cn cs L a ccd cl).kindOf x = some .local) : wpAny M A (storeName (envX cn cs L a ccd cl) x v) Q E ⟨h, gs, d, tk, os⟩ :=
  storeX_L (s := ⟨h, gs, d, tk, os⟩) F N hq hk hx
theorem tupS {vs : List Value} {Q : Value → Shared → Prop} (F : Fr h₀ L h m) (N : News h₀ L h news)
    (hq : ∀ D h', Fr h₀ L h' m → News h₀ L h' ((D, ({ cls := .type "tuple", data := .seq vs.toArray } : Obj)) :: news) → (∀ p ∈ news, p.1 < D) → Q (.ref D) ⟨h', gs, d, tk, os⟩)
    (hz : vs.length ≤ sizeLine) : wpAny M A (newTuple vs) Q E ⟨h, gs, d, tk, os⟩ := kup_newTuple (s := ⟨h, gs, d, tk, os⟩) F N hq hz
theorem listS {vs : List Value} {Q : Value → Shared → Prop} (F : Fr h₀ L h m) (N : News h₀ L h news)
    (hq : ∀ l h', Fr h₀ L h' m → News h₀ L h' ((l, listOf vs.toArray 0) :: news) → (∀ p ∈ news, p.1 < l) → Q (.ref l) ⟨h', gs, d, tk, os⟩)
    (hz : vs.length ≤ sizeLine) : wpAny M A (newList vs) Q E ⟨h, gs, d, tk, os⟩ := newList_K (s := ⟨h, gs, d, tk, os⟩) F N hq hz
theorem strS {y : Str} {env : Env} {Q : Value → Shared → Prop} (hq : Q (.str y tk) ⟨h, gs, d, tk + 1, os⟩) : wpAny M A (eval (.Constant (.str y) k pos) env) Q E ⟨h, gs, d, tk, os⟩ := wpAny_Constant_str hq
theorem intS {y : Int} {env : Env} {Q : Value → Shared → Prop} (hq : Q (.int y tk) ⟨h, gs, d, tk + 1, os⟩) : wpAny M A (eval (.Constant (.int y) k pos) env) Q E ⟨h, gs, d, tk, os⟩ := wpAny_Constant_int hq
theorem addS {y z : Int} {t u : Nat} {Q : Value → Shared → Prop} (hq : Q (.int (y + z) tk) ⟨h, gs, d, tk + 1, os⟩) : wpAny (model prog w) A (binaryOp .Add (.int y t) (.int z u)) Q E ⟨h, gs, d, tk, os⟩ := add_int hq
end
end
/-- room: what is under a known bound, a few deeper -/
theorem rm0 {a M N : Nat} (h : a < M) (e : Nat.ble M N = true) : a < N := Nat.lt_of_lt_of_le h (Nat.le_of_ble_eq_true e)
theorem rm1 {a M N : Nat} (h : a < M) (e : Nat.ble (M + 1) N = true) : a + 1 < N := Nat.lt_of_lt_of_le (Nat.add_lt_add_right h 1) (Nat.le_of_ble_eq_true e)
theorem rm2 {a M N : Nat} (h : a < M) (e : Nat.ble (M + 2) N = true) : a + 1 + 1 < N := Nat.lt_of_lt_of_le (Nat.add_lt_add_right h 2) (Nat.le_of_ble_eq_true e)
theorem rm3 {a M N : Nat} (h : a < M) (e : Nat.ble (M + 3) N = true) : a + 1 + 1 + 1 < N := Nat.lt_of_lt_of_le (Nat.add_lt_add_right h 3) (Nat.le_of_ble_eq_true e)
theorem rm4 {a M N : Nat} (h : a < M) (e : Nat.ble (M + 4) N = true) : a + 1 + 1 + 1 + 1 < N := Nat.lt_of_lt_of_le (Nat.add_lt_add_right h 4) (Nat.le_of_ble_eq_true e)
theorem rmk {a k M N : Nat} (h : a < M) (e : Nat.ble (M + k) N = true) : a + k < N := Nat.lt_of_lt_of_le (Nat.add_lt_add_right h k) (Nat.le_of_ble_eq_true e)
/-- the order of addresses, read off a ledger -/
theorem nel {a b : Nat} {o : Obj} {news : List (Addr × Obj)} (l : ∀ p ∈ news, p.1 < b) (m : (a, o) ∈ news) : a ≠ b := Nat.ne_of_lt (l _ m)
theorem neg {a b : Nat} {o : Obj} {news : List (Addr × Obj)} (l : ∀ p ∈ news, p.1 < a) (m : (b, o) ∈ news) : a ≠ b := Nat.ne_of_gt (l _ m)
theorem nes1 {a b : Nat} {o : Obj} {news : List (Addr × Obj)} (l : ∀ p ∈ news, p.1 ≠ b) (m : (a, o) ∈ news) : a ≠ b := l _ m
theorem nes2 {a b : Nat} {o : Obj} {news : List (Addr × Obj)} (l : ∀ p ∈ news, p.1 ≠ a) (m : (b, o) ∈ news) : a ≠ b := (l _ m).symm
theorem all_of {d : Nat} {news : List (Addr × Obj)} (l : ∀ p ∈ news, p.1 < d) : ∀ p ∈ news, p.1 ≠ d := fun p hp => Nat.ne_of_lt (l p hp)
theorem ltl {a b : Nat} {o : Obj} {news : List (Addr × Obj)} (l : ∀ p ∈ news, p.1 < b) (m : (a, o) ∈ news) : a < b := l _ m
def Apart (news : List (Addr × Obj)) : List (Addr × Obj) → Prop
  | [] => True
  | p :: r => (∀ q ∈ news, q.1 ≠ p.1) ∧ Apart news r
theorem apart_of {news : List (Addr × Obj)} : ∀ {tl : List (Addr × Obj)}, (∀ p ∈ tl, ∀ q ∈ news, q.1 ≠ p.1) → Apart news tl
  | [], _ => trivial
  | p :: _, h => ⟨h p (.head _), apart_of fun q hq => h q (.tail _ hq)⟩
end
section -- KF
open PySem PySem.W PyProof.Rows
local macro_rules | `(tactic| o_head $_H) => `(tactic| assumption)
set_option maxRecDepth 100000 in
set_option maxHeartbeats 8000000 in
theorem kfrag (h : PySem.Challenge.rw_pq0141_01.row.Holds) : PySem.Challenge.rw_pq0141_01.row.Holds := by
  k_head
end
section -- B0
open PySem PySem.W PyProof.Rows PySem.Calls PySem.Spec
section
variable {prog : Program} {w : World} {A : Around} {E : Value → Shared → Prop} {s : Shared} {Q : Value → Shared → Prop}
/-- entering a def that only reads what stood: the base is the whole heap -/
theorem ro_enter {K : Frag} {p : Program} {loose : List Str} {mean : ExcName → Option Value} {mg mb : Str → Option Value}
    {name qual : Str} {params : Arguments} {body : List Stmt} {scope : Scope} {dV kV doc pm cdv ct oc : Value} {an od : Option Addr} {osl : Array (Option Value)} {f : Addr} {args : List Value} {binds : List (Str × Value)}
    (X : K.In s.heap) (T : Top p loose mean mg mb s.heap) (hroom : A.depth < recursionLimit)
    (ho : K.lookup f = some ⟨oc, od, .func (fnOf name qual params body scope dV kV doc pm an cdv ct), osl⟩) (hcd : codeIn K cdv qual = true)
    (hbind : BindsTo s (fnOf name qual params body scope dV kV doc pm an cdv ct) ⟨args, []⟩ binds) (hloc : ∀ y ∈ binds, scope.names.lookup y.1 = some .local)
    (h : ∀ L h₁ tk, Fr s.heap L h₁ (fun y => binds.reverse.lookup y) → News s.heap L h₁ [] →
      wpAny (model prog w) (A.deeper (envOf qual scope L f cdv)) (execs body (envOf qual scope L f cdv))
        (fun fl s' => Q (match fl with | .ret v => v | _ => .none) s')
        (fun e s' => wpAny (model prog w) (A.deeper (envOf qual scope L f cdv)) (leaving (envOf qual scope L f cdv) e) (fun _ s'' => E e s'') (fun e' s'' => E e' s'') s')
        { s with heap := h₁, toks := tk })
    (hco : scope.isCoroutine = false) (hgen : scope.isGenerator = false) (hk : scope.kind = .function)
    (hcell : ∀ x ∈ scope.names, x.2 ≠ .cell) : wpAny (model prog w) A (call (.ref f) args) Q E s := by
  refine wpAny_call ?_
  refine codeAny_call_def (fd := fnOf name qual params body scope dV kV doc pm an cdv ct) (body := body) (binds := binds) hroom (X _ _ ho) rfl T.nolimit (codeRec_of X hcd) rfl hbind hcell hloc (fun h₁ hns hk₁ => ?_) hco hgen hk
  exact h _ h₁ _ ⟨hns, hk₁, Nat.le_refl _⟩ (fun _ hp => nomatch hp)
end
/-- the tokens -/
abbrev tokD (t : Str × Str) : PyData := .tuple [.str t.1, .str t.2]
def IsTok (h : Heap) (v : Value) (t : Str × Str) : Prop := (PyData.strOk t.1 = true ∧ PyData.strOk t.2 = true) ∧ ∃ p t1 t2, v = .ref p ∧ IsTup h p #[.str t.1 t1, .str t.2 t2]
theorem IsTok.keeps {h h' : Heap} {v : Value} {t : Str × Str} (x : IsTok h v t) (k : ∀ b o, h.get? b = some o → h'.get? b = some o) : IsTok h' v t :=
  let ⟨a, p, t1, t2, e, y⟩ := x; ⟨a, p, t1, t2, e, y.keeps k⟩
theorem IsTok.reads {h : Heap} {v : Value} {t : Str × Str} (x : IsTok h v t) : Reads h v (tokD t) [] := by
  obtain ⟨_, p, t1, t2, rfl, o, ho, hc, n, hd⟩ := x
  exact .tuple ho hc hd (.cons (.str _ _) (.cons (.str _ _) .nil))
def tokV (vs : List Value) (k : Nat) : Value := (vs[k]?).getD (.ref 55)
theorem idx0 (k : Nat) : (k : Int) = ((k : Nat) : Int) := rfl
theorem idx1 (k : Nat) : (k : Int) + 1 = ((k + 1 : Nat) : Int) := rfl
theorem idx2 (k : Nat) : (k : Int) + 1 + 1 = ((k + 1 + 1 : Nat) : Int) := rfl
theorem idx3 (k : Nat) : (k : Int) + 1 + 1 + 1 = ((k + 1 + 1 + 1 : Nat) : Int) := rfl
theorem idx4 (k : Nat) : (k : Int) + 1 + 1 + 1 + 1 = ((k + 1 + 1 + 1 + 1 : Nat) : Int) := rfl
theorem idx5 (k : Nat) : (k : Int) + 2 = ((k + 1 + 1 : Nat) : Int) := rfl
theorem shaped_tok {t : Str × Str} (h1 : PyData.strOk t.1 = true) (h2 : PyData.strOk t.2 = true) : SeqAt.shaped (tokD t) = true := by
  simp [SeqAt.shaped, PyData.canLay0, PyData.canLayAll0, PyData.depth, PyData.depthAll, h1, h2]
theorem eqv_tok (t u : Str × Str) : PyData.eqv (tokD t) (tokD u) = decide (t = u) := by
  obtain ⟨a, b⟩ := t
  obtain ⟨c, d⟩ := u
  by_cases h1 : a = c <;> by_cases h2 : b = d <;> simp [PyData.eqv, PyData.eqvAll, h1, h2]
section
variable {prog : Program} {w : World} {A : Around} {E : Value → Shared → Prop} {s : Shared} {h₀ : Heap} {L : Addr} {m : Str → Option Value} {news : List (Addr × Obj)} {Q : Value → Shared → Prop}
theorem eq_tok {p : Addr} {t1 t2 : Tok} {c d : Str} {q : Addr} {a b : Str} {u1 u2 : Tok} {n : Nat} (F : Fr h₀ L s.heap m) (N : News h₀ L s.heap news) (ht : IsTup h₀ p #[.str c t1, .str d t2])
    (hq : (q, ({ cls := .type "tuple", data := .seq [Value.str a u1, Value.str b u2].toArray n } : Obj)) ∈ news) (h1 : PyData.strOk c = true) (h2 : PyData.strOk d = true) (h3 : PyData.strOk a = true) (h4 : PyData.strOk b = true) (hu : A.units < 9800)
    (h : Q (.bool (decide ((c, d) = (a, b)))) s) : wpAny (model prog w) A (compareOp .Eq (.ref p) (.ref q)) Q E s := by
  have ht' := ht.keeps F.keep
  obtain ⟨o, ho, hc, n', hd⟩ := ht'
  exact eq_dataH (da := tokD (c, d)) (db := tokD (a, b)) (.tuple ho hc hd (.cons (.str _ _) (.cons (.str _ _) .nil))) (.tuple (N.get hq) rfl rfl (.cons (.str _ _) (.cons (.str _ _) .nil))) (shaped_tok (t := (c, d)) h1 h2) (shaped_tok (t := (a, b)) h3 h4) (by simp only [cLine]; omega) (by rw [eqv_tok]; exact h)
end
def NewIn (h h' : Heap) (tl : List (Addr × Obj)) : Prop := (∀ b o, h.get? b = some o → h'.get? b = some o) ∧ ∀ p ∈ tl, h'.get? p.1 = some p.2 ∧ h.get? p.1 = none
abbrev tupOf (vs : List Value) (n : Nat) : Obj := { cls := .type "tuple", data := .seq vs.toArray n }
theorem newIn_of {h₀ h' : Heap} {L : Addr} {m : Str → Option Value} {news tl : List (Addr × Obj)} (F : Fr h₀ L h' m) (N : News h₀ L h' news) (hs : ∀ p ∈ tl, p ∈ news) : NewIn h₀ h' tl :=
  ⟨F.keep, fun p hp => ⟨(N p (hs p hp)).1, (N p (hs p hp)).2.2⟩⟩
theorem news_in {h₀ h h' : Heap} {L : Addr} {m : Str → Option Value} {news tl : List (Addr × Obj)} (F : Fr h₀ L h m) (N : News h₀ L h news) (k : NewIn h h' tl) : News h₀ L h' (tl ++ news) := fun p hp => by
  rcases List.mem_append.mp hp with hp | hp
  · refine ⟨(k.2 p hp).1, fun e => ?_, ?_⟩
    · obtain ⟨oL, _, _, hL, _⟩ := F.ns
      have := (k.2 p hp).2
      rw [e, hL] at this; cases this
    · cases q : h₀.get? p.1 with
      | none => rfl
      | some o => have := (k.2 p hp).2; rw [F.keep _ _ q] at this; cases this
  · exact ⟨k.1 _ _ (N p hp).1, (N p hp).2⟩
theorem news_ne {h₀ h h' : Heap} {L : Addr} {news tl : List (Addr × Obj)} (N : News h₀ L h news) (k : NewIn h h' tl) : ∀ p ∈ tl, ∀ q ∈ news, q.1 ≠ p.1 := fun p hp q hq e => by
  have h1 := (k.2 p hp).2
  rw [← e, (N q hq).1] at h1; cases h1
def AllNeN (d : Nat) : List (Addr × Obj) → Prop
  | [] => True
  | p :: r => @Ne Nat p.1 d ∧ AllNeN d r
def AllNeT (news : List (Addr × Obj)) : List (Addr × Obj) → Prop
  | [] => True
  | p :: r => AllNeN p.1 news ∧ AllNeT news r
theorem allNeN_of {d : Addr} : ∀ {l : List (Addr × Obj)}, (∀ q ∈ l, q.1 ≠ d) → AllNeN d l
  | [], _ => trivial
  | p :: _, h => ⟨h p (.head _), allNeN_of fun q hq => h q (.tail _ hq)⟩
theorem allNeT_of {news : List (Addr × Obj)} : ∀ {tl : List (Addr × Obj)}, (∀ p ∈ tl, ∀ q ∈ news, q.1 ≠ p.1) → AllNeT news tl
  | [], _ => trivial
  | p :: _, h => ⟨allNeN_of (h p (.head _)), allNeT_of fun q hq => h q (.tail _ hq)⟩
theorem fr_on {h₀ h h' : Heap} {L : Addr} {m : Str → Option Value} (F : Fr h₀ L h m) (k : ∀ b o, h.get? b = some o → h'.get? b = some o) : Fr h₀ L h' m := ⟨F.ns.keeps k, fun b o e => k _ _ (F.keep b o e), F.above⟩
theorem news_on {h₀ h h' : Heap} {L : Addr} {news : List (Addr × Obj)} (N : News h₀ L h news) (k : ∀ b o, h.get? b = some o → h'.get? b = some o) : News h₀ L h' news := fun p hp => ⟨k _ _ (N p hp).1, (N p hp).2⟩
end
open PySem PySem.W PyProof.Rows PySem.Calls PySem.Spec
local macro_rules | `(tactic| walk_at "spliced") => `(tactic| (k_here; (with_reducible show wpAny _ _ (spliced (backTo _ (starEach (_ :: _) _))) _ _ _); k_dflt (refine' flatL_ok ?F ?k ?e ?_; (case F => k_asm); (case k => exact rfl); (case e => exact rfl); k_whole); (try dsimp only [List.cons_append, List.nil_append])))
local macro_rules | `(tactic| k_ne) => `(tactic| (refine neN ?_; (try dsimp only); first | assumption | exact Ne.symm (by assumption) | exact nel (by assumption) (by k_mem) | exact neg (by assumption) (by k_mem) | exact nes1 (by assumption) (by k_mem) | exact nes2 (by assumption) (by k_mem) | exact Nat.ne_of_lt (by assumption) | exact Nat.ne_of_gt (by assumption) | omega))
local macro_rules | `(tactic| k_lt $_) => `(tactic| skip)
local macro_rules | `(tactic| k_all) => `(tactic| (refine all_of ?_; assumption))
local macro_rules | `(tactic| walk_at "storeName") => `(tactic| (k_here; k_dflt (refine' storeS ?F ?N ?_ ?a ?b; (case F => k_asm); (case N => k_asm); (case a => rfl); (case b => rfl); k_whole; intro h' F' N'; (try k_sweep))))
local macro_rules | `(tactic| walk_at "newTuple") => `(tactic| (k_here; k_dflt (refine' tupS ?F ?N ?_ ?z; (case F => k_asm); (case N => k_asm); (case z => kmk_size)); intro D' h' F' N' l1; (try k_lt l1); (try k_sweep)))
local macro_rules | `(tactic| walk_at "newList") => `(tactic| (k_here; k_dflt (refine' listS ?F ?N ?_ ?z; (case F => k_asm); (case N => k_asm); (case z => kmk_size)); intro l' h' F' N' l1; (try k_lt l1); (try k_sweep)))
local macro_rules | `(tactic| walk_at "eval Constant str") => `(tactic| (k_here; refine strS ?_))
local macro_rules | `(tactic| walk_at "eval Constant int") => `(tactic| (k_here; refine intS ?_))
local macro_rules | `(tactic| walk_at "binaryOp Add int int") => `(tactic| (k_here; refine addS ?_))
section -- B1
open PySem PySem.W PyProof.Rows PySem.Calls PySem.Spec
section
variable {prog : Program} {w : World} {A : Around} {E : Value → Shared → Prop} {s : Shared} {h₀ : Heap} {L l : Addr} {m : Str → Option Value} {vs : List Value} {Q : Value → Shared → Prop}
theorem len_base (F : Fr h₀ L s.heap m) (hl : h₀.IsList l vs.toArray) (hn : vs.length < 1000) (h : Q (.int vs.length (s.toks + 1)) { s with toks := s.toks + 1 + 1 }) :
   wpAny (model prog w) A (call (.builtin "len") [.ref l]) Q E s :=
  Calls.call_len_list (Fr.lst F hl) (by simp; omega) (by simpa using h)
theorem item_base {value slice : PySem.Expr} {k : Int} {u : Tok} {v : Value} (F : Fr h₀ L s.heap m) (hl : h₀.IsList l vs.toArray) (h0 : 0 ≤ k) (hhi : k < 2 ^ 63) (hx : vs[k.toNat]? = some v) (h : Q v s)
    (hs : subscripted slice false (.ref l) (.int k u) = operate [.ref l, .int k u] (getItem (.ref l) (.int k u)) := by with_unfolding_all rfl) :
    wpAny (model prog w) A (subscriptTail value slice (.ref l) (.int k u)) Q E s := item_litK (Fr.lst F hl) h0 hhi hx h hs
end
local macro_rules | `(tactic| walk_at "call builtin:len") => `(tactic| (k_here; (with_reducible show wpAny _ _ (call (Value.builtin "len") [Value.ref _]) _ _ _); k_dflt (refine' len_base ?k1 ?k2 ?k3 ?_; (case k1 => k_asm); (case k2 => assumption); (case k3 => assumption); k_whole)))
local macro_rules | `(tactic| walk_at "subscriptTail") => `(tactic| (k_here; (with_reducible show wpAny _ _ (subscriptTail _ _ (Value.ref _) (Value.int _ _)) _ _ _); (with_unfolding_all refine' item_base ?k1 ?k2 ?k3 ?k4 ?k5 ?_ ?k6; (case k1 => k_asm); (case k2 => assumption); (case k3 => assumption); (case k4 => omega); (case k5 => assumption); (case k6 => with_unfolding_all rfl); k_whole)))
set_option maxRecDepth 100000 in
set_option maxHeartbeats 8000000 in
theorem tok_at (w : World) {p : Program} {loose : List Str} {mean : ExcName → Option Value} {mg mb : Str → Option Value}
   {A : Around} {s : Shared} {Q E : Value → Shared → Prop} {l : Addr} {vs : List Value} {i : Int} (k : Nat) {tk : Tok}
   (X : (kfrag.heap_1 w.params).In s.heap) (T : Top p loose mean mg mb s.heap) (hD : A.depth < 900)
   (hl : s.heap.IsList l vs.toArray) (hi : i = (k : Int)) (hn : vs.length < 1000)
   (ret : ∀ h' tk', (∀ b o, s.heap.get? b = some o → h'.get? b = some o) → Q (tokV vs k) { s with heap := h', toks := tk' }) :
   wpAny (model Challenge.rw_pq0141_01.row.prog w) A (call (.ref 62) [.ref l, .int i tk]) Q E s := by
  revert X; k_fill; intro X
  (k_dflt (refine' ro_enter ?k3 ?k5 ?k8 ?k6 ?k7 ?k9 ?kB ?_ ?c2 ?c3 ?c4 ?c5; (case k3 => exact X); (case k5 => exact T); (case k6 => k_is); (case k7 => k_is); (case k8 => simp only [recursionLimit]; omega); (case k9 => exact BindsTo.of_eq rfl); (case c5 => decide); (case kB => exact locs rfl); (case c2 => exact rfl); (case c3 => exact rfl); (case c4 => exact rfl); k_whole; intro L h₁ tk F N; (try dsimp only); (try k_fold)))
  have h0 : 0 ≤ i := by omega
  by_cases hk : k < vs.length
  · have hv : vs[i.toNat]? = some (tokV vs k) := by
      subst hi; simp [tokV, hk]
    k_steps
    all_goals (exact ret _ _ (Fr.keep (by k_asm)))
  · have e : tokV vs k = .ref 55 := by simp [tokV, hk]
    rw [e] at ret
    k_steps
    all_goals (exact ret _ _ (Fr.keep (by k_asm)))
theorem tok_use {w : World} {p : Program} {loose : List Str} {mean : ExcName → Option Value} {mg mb : Str → Option Value} {h₀ : Heap} {L : Addr} {m : Str → Option Value} {news : List (Addr × Obj)}
   {A : Around} {hp : Heap} {gs : Array GenState} {dr : Drawn} {t0 : Nat} {os : OsState} {Q E : Value → Shared → Prop} {l : Addr} {vs : List Value} {i : Int} {k : Nat} {tk : Tok} {v : Value}
   (F : Fr h₀ L hp m) (N : News h₀ L hp news) (X : (kfrag.heap_1 w.params).In h₀) (T : Top p loose mean mg mb h₀) (hl : h₀.IsList l vs.toArray) (hn : vs.length < 1000) (hi : i = (k : Int)) (hv : tokV vs k = v) (hD : A.depth < 900)
   (ret : ∀ h' tk', Fr h₀ L h' m → News h₀ L h' news → Q v ⟨h', gs, dr, tk', os⟩) :
   wpAny (model Challenge.rw_pq0141_01.row.prog w) A (call (.ref 62) [.ref l, .int i tk]) Q E ⟨hp, gs, dr, t0, os⟩ :=
  tok_at w k (s := ⟨hp, gs, dr, t0, os⟩) (X.keeps F.keep) (T.keeps F.keep) hD (Fr.lst F hl) hi hn fun h' tk' kk => hv ▸ ret h' tk' (fr_on F kk) (news_on N kk)
end
local macro_rules | `(tactic| walk_at "idx") => `(tactic| first | exact idx0 _ | exact idx1 _ | exact idx2 _ | exact idx3 _ | exact idx4 _ | exact idx5 _)
local macro_rules | `(tactic| walk_at "rm") => `(tactic| first | (refine' rm0 ?rh ?re; (case rh => assumption); (case re => exact rfl)) | (refine' rm1 ?rh ?re; (case rh => assumption); (case re => exact rfl)) | (refine' rm2 ?rh ?re; (case rh => assumption); (case re => exact rfl)) | (refine' rm3 ?rh ?re; (case rh => assumption); (case re => exact rfl)) | (refine' rmk ?rh ?re; (case rh => assumption); (case re => exact rfl)))
local macro_rules | `(tactic| walk_at "down") => `(tactic| first | walk_at "rm" | omega | (dsimp only [Around.deeper, Around.in1]; omega))
local macro_rules | `(tactic| walk_at "ok") => `(tactic| first | assumption | decide +kernel)
local macro_rules | `(tactic| walk_at "call ref") => `(tactic| (k_here; (with_reducible show wpAny _ _ (call (Value.ref 62) [Value.ref _, Value.int _ _]) _ _ _); k_dflt (refine' tok_use ?F ?N ?X ?T ?l ?n ?i ?v ?D ?_; (case F => k_asm); (case N => k_asm); (case X => k_asm); (case T => k_asm); (case l => assumption); (case n => assumption); (case i => walk_at "idx"); (case v => assumption); (case D => walk_at "down"); k_whole; intro h' tk' F' N'; (try k_sweep))))
section -- B2
open PySem PySem.W PyProof.Rows PySem.Calls PySem.Spec
local macro_rules | `(tactic| walk_at "compareOp Eq ref ref") => `(tactic| (k_here; (with_reducible show wpAny _ _ (compareOp CmpOp.Eq (Value.ref _) (Value.ref _)) _ _ _); k_dflt (refine' eq_tok ?F ?N ?t ?q ?a ?b ?c ?d ?u ?_; (case F => k_asm); (case N => k_asm); (case t => assumption); (case q => k_mem); (case a => walk_at "ok"); (case b => walk_at "ok"); (case c => walk_at "ok"); (case d => walk_at "ok"); (case u => walk_at "down"); k_whole)))
set_option maxRecDepth 100000 in
set_option maxHeartbeats 8000000 in
theorem is_sign (w : World) {p : Program} {loose : List Str} {mean : ExcName → Option Value} {mg mb : Str → Option Value}
   {A : Around} {s : Shared} {Q E : Value → Shared → Prop} {l : Addr} {vs : List Value} {i : Int} (k : Nat) {tk tk2 t1 t2 : Tok} {kd td : Str} {a : Addr} {sg : Str}
   (X : (kfrag.heap_1 w.params).In s.heap) (T : Top p loose mean mg mb s.heap) (hD : A.depth < 890) (hU : A.units < 9000)
   (hl : s.heap.IsList l vs.toArray) (hi : i = (k : Int)) (hn : vs.length < 1000) (hv : tokV vs k = .ref a) (ht : IsTup s.heap a #[.str kd t1, .str td t2]) (s1 : PyData.strOk kd = true) (s2 : PyData.strOk td = true) (s3 : PyData.strOk sg = true)
   (ret : ∀ h' tk', (∀ b o, s.heap.get? b = some o → h'.get? b = some o) → Q (.bool (decide ((kd, td) = (Str.ofString "sign", sg)))) { s with heap := h', toks := tk' }) :
   wpAny (model Challenge.rw_pq0141_01.row.prog w) A (call (.ref 69) [.ref l, .int i tk, .str sg tk2]) Q E s := by
  revert X; k_fill; intro X
  subst hi
  (k_dflt (refine' ro_enter ?zk3x1 ?zk5x1 ?zk8x1 ?zk6x1 ?zk7x1 ?zk9x1 ?zkBx1 ?_ ?zc2x1 ?zc3x1 ?zc4x1 ?zc5x1; (case zk3x1 => assumption); (case zk5x1 => assumption); (case zk6x1 => k_is); (case zk7x1 => k_is); (case zk8x1 => simp only [recursionLimit]; omega); (case zk9x1 => exact BindsTo.of_eq rfl); (case zc5x1 => decide); (case zkBx1 => exact locs rfl); (case zc2x1 => exact rfl); (case zc3x1 => exact rfl); (case zc4x1 => exact rfl); k_whole; intro _ _ _ _ _; (try dsimp only); (try k_fold)))
  k_steps
  all_goals (exact ret _ _ (Fr.keep (by k_asm)))
theorem sign_no {w : World} {p : Program} {loose : List Str} {mean : ExcName → Option Value} {mg mb : Str → Option Value} {h₀ : Heap} {L : Addr} {m : Str → Option Value} {news : List (Addr × Obj)}
   {A : Around} {hp : Heap} {gs : Array GenState} {dr : Drawn} {t0 : Nat} {os : OsState} {Q E : Value → Shared → Prop} {l : Addr} {vs : List Value} {i : Int} {k : Nat} {tk tk2 t1 t2 : Tok} {kd td : Str} {a : Addr} {sg : Str}
   (F : Fr h₀ L hp m) (N : News h₀ L hp news) (X : (kfrag.heap_1 w.params).In h₀) (T : Top p loose mean mg mb h₀) (hl : h₀.IsList l vs.toArray) (hn : vs.length < 1000) (hi : i = (k : Int)) (hv : tokV vs k = .ref a)
   (ht : IsTup h₀ a #[.str kd t1, .str td t2]) (s1 : PyData.strOk kd = true) (s2 : PyData.strOk td = true) (s3 : PyData.strOk sg = true) (hne : (kd, td) ≠ (Str.ofString "sign", sg)) (hD : A.depth < 890) (hU : A.units < 9000)
   (ret : ∀ h' tk', Fr h₀ L h' m → News h₀ L h' news → Q (.bool false) ⟨h', gs, dr, tk', os⟩) :
   wpAny (model Challenge.rw_pq0141_01.row.prog w) A (call (.ref 69) [.ref l, .int i tk, .str sg tk2]) Q E ⟨hp, gs, dr, t0, os⟩ :=
  is_sign w k (s := ⟨hp, gs, dr, t0, os⟩) (X.keeps F.keep) (T.keeps F.keep) hD hU (Fr.lst F hl) hi hn hv (ht.keeps F.keep) s1 s2 s3 fun h' tk' kk => (decide_eq_false hne) ▸ ret h' tk' (fr_on F kk) (news_on N kk)
end
section -- B3
open PySem PySem.W PyProof.Rows PySem.Calls PySem.Spec
variable {w : World} {p : Program} {loose : List Str} {mean : ExcName → Option Value} {mg mb : Str → Option Value} {dp un : Nat} {fr : Option (List Env)} {gd : Option (List Code)} {s : Shared} {Q E : Value → Shared → Prop}
theorem tup3 {h h' : Heap} {a : Addr} {n : Nat} {x y z x' y' z' : Int} {u1 u2 u3 : Tok} (H : NewIn h h' [(a, tupOf [.int x u1, .int y u2, .int z u3] n)]) (h1 : x = x') (h2 : y = y') (h3 : z = z') : NewIn h h' [(a, tupOf [.int x' u1, .int y' u2, .int z' u3] n)] := by subst h1 h2 h3; exact H
set_option maxRecDepth 100000 in
set_option maxHeartbeats 8000000 in
theorem figs12 {tk tk2 : Tok} (X : (kfrag.heap_1 w.params).In s.heap) (T : Top p loose mean mg mb s.heap) (hD : dp < 890) (hU : un < 9000)
   (ret : ∀ h' tk' a n u1 u2 u3, NewIn s.heap h' [(a, tupOf [.int 12 u1, .int 2 u2, .int 2 u3] n)] → Q (.ref a) { s with heap := h', toks := tk' }) :
   wpAny (model Challenge.rw_pq0141_01.row.prog w) ⟨none, dp, fr, gd, un⟩ (call (.ref 83) [.str (Str.ofString "12") tk, .int 0 tk2]) Q E s := by
  revert X; k_fill; intro X
  (k_dflt (refine' ro_enter ?zk3x2 ?zk5x2 ?zk8x2 ?zk6x2 ?zk7x2 ?zk9x2 ?zkBx2 ?_ ?zc2x2 ?zc3x2 ?zc4x2 ?zc5x2; (case zk3x2 => assumption); (case zk5x2 => assumption); (case zk6x2 => k_is); (case zk7x2 => k_is); (case zk8x2 => simp only [recursionLimit]; omega); (case zk9x2 => exact BindsTo.of_eq rfl); (case zc5x2 => decide); (case zkBx2 => exact locs rfl); (case zc2x2 => exact rfl); (case zc3x2 => exact rfl); (case zc4x2 => exact rfl); k_whole; intro _ _ _ _ _; (try dsimp only); (try k_fold)))
  k_steps
  all_goals first
    | exact ret _ _ _ _ _ _ _ (tup3 (newIn_of (by k_asm) (by k_asm) (List.forall_mem_cons.mpr ⟨by k_mem, List.forall_mem_nil _⟩)) (by decide +kernel) (by decide +kernel) (by decide +kernel))
    | (exfalso; have hl : (Str.ofString "12").length = 2 := by decide +kernel
       omega)
set_option maxRecDepth 100000 in
set_option maxHeartbeats 8000000 in
theorem figs1 {tk tk2 : Tok} (X : (kfrag.heap_1 w.params).In s.heap) (T : Top p loose mean mg mb s.heap) (hD : dp < 890) (hU : un < 9000)
   (ret : ∀ h' tk' a n u1 u2 u3, NewIn s.heap h' [(a, tupOf [.int 1 u1, .int 1 u2, .int 1 u3] n)] → Q (.ref a) { s with heap := h', toks := tk' }) :
   wpAny (model Challenge.rw_pq0141_01.row.prog w) ⟨none, dp, fr, gd, un⟩ (call (.ref 83) [.str (Str.ofString "1") tk, .int 0 tk2]) Q E s := by
  revert X; k_fill; intro X
  (k_dflt (refine' ro_enter ?zk3x3 ?zk5x3 ?zk8x3 ?zk6x3 ?zk7x3 ?zk9x3 ?zkBx3 ?_ ?zc2x3 ?zc3x3 ?zc4x3 ?zc5x3; (case zk3x3 => assumption); (case zk5x3 => assumption); (case zk6x3 => k_is); (case zk7x3 => k_is); (case zk8x3 => simp only [recursionLimit]; omega); (case zk9x3 => exact BindsTo.of_eq rfl); (case zc5x3 => decide); (case zkBx3 => exact locs rfl); (case zc2x3 => exact rfl); (case zc3x3 => exact rfl); (case zc4x3 => exact rfl); k_whole; intro _ _ _ _ _; (try dsimp only); (try k_fold)))
  k_steps
  all_goals first
    | exact ret _ _ _ _ _ _ _ (tup3 (newIn_of (by k_asm) (by k_asm) (List.forall_mem_cons.mpr ⟨by k_mem, List.forall_mem_nil _⟩)) (by decide +kernel) (by decide +kernel) (by decide +kernel))
    | (exfalso; have hl : (Str.ofString "1").length = 1 := by decide +kernel
       omega)
end
section -- B4
open PySem PySem.W PyProof.Rows PySem.Calls PySem.Spec
variable {w : World} {p : Program} {loose : List Str} {mean : ExcName → Option Value} {mg mb : Str → Option Value} {dp un : Nat} {fr : Option (List Env)} {gd : Option (List Code)} {s : Shared} {Q E : Value → Shared → Prop}
set_option maxRecDepth 100000 in
set_option maxHeartbeats 8000000 in
theorem num12 {tk : Tok} (X : (kfrag.heap_1 w.params).In s.heap) (T : Top p loose mean mg mb s.heap) (hD : dp < 880) (hU : un < 8990)
   (ret : ∀ h' tk' a n u1 u2, NewIn s.heap h' [(a, tupOf [.str (Str.ofString "whole") u1, .int 12 u2] n)] → Q (.ref a) { s with heap := h', toks := tk' }) :
   wpAny (model Challenge.rw_pq0141_01.row.prog w) ⟨none, dp, fr, gd, un⟩ (call (.ref 104) [.str (Str.ofString "12") tk]) Q E s := by
  revert X; k_fill; intro X
  (k_dflt (refine' ro_enter ?zk3x4 ?zk5x4 ?zk8x4 ?zk6x4 ?zk7x4 ?zk9x4 ?zkBx4 ?_ ?zc2x4 ?zc3x4 ?zc4x4 ?zc5x4; (case zk3x4 => assumption); (case zk5x4 => assumption); (case zk6x4 => k_is); (case zk7x4 => k_is); (case zk8x4 => simp only [recursionLimit]; omega); (case zk9x4 => exact BindsTo.of_eq rfl); (case zc5x4 => decide); (case zkBx4 => exact locs rfl); (case zc2x4 => exact rfl); (case zc3x4 => exact rfl); (case zc4x4 => exact rfl); k_whole; intro _ _ _ _ _; (try dsimp only); (try k_fold)))
  k_steps
  (k_dflt refine figs12 (by k_in) (Top.keeps (by k_asm) (Fr.keep (by k_asm))) (by walk_at "down") (by walk_at "down") ?_)
  intro h' tk' a n u1 u2 u3 K'
  ((with_reducible rename Fr _ _ _ _ => zkF); (with_reducible rename News _ _ _ _ => zkN); (with_reducible rename NewIn _ _ _ => zkK); have zF := fr_on zkF zkK.1; have zN := news_in zkF zkN zkK; have zne := apart_of (news_ne zkN zkK); (try dsimp only [List.cons_append, List.nil_append] at zN); (repeat (have _ := And.left zne; replace zne := And.right zne)); clear zne zkF zkN zkK)
  k_steps
  all_goals exact ret _ _ _ _ _ _ (newIn_of (by k_asm) (by k_asm) (List.forall_mem_cons.mpr ⟨by k_mem, List.forall_mem_nil _⟩))
set_option maxRecDepth 100000 in
set_option maxHeartbeats 8000000 in
theorem num1 {tk : Tok} (X : (kfrag.heap_1 w.params).In s.heap) (T : Top p loose mean mg mb s.heap) (hD : dp < 880) (hU : un < 8990)
   (ret : ∀ h' tk' a n u1 u2, NewIn s.heap h' [(a, tupOf [.str (Str.ofString "whole") u1, .int 1 u2] n)] → Q (.ref a) { s with heap := h', toks := tk' }) :
   wpAny (model Challenge.rw_pq0141_01.row.prog w) ⟨none, dp, fr, gd, un⟩ (call (.ref 104) [.str (Str.ofString "1") tk]) Q E s := by
  revert X; k_fill; intro X
  (k_dflt (refine' ro_enter ?zk3x6 ?zk5x6 ?zk8x6 ?zk6x6 ?zk7x6 ?zk9x6 ?zkBx6 ?_ ?zc2x6 ?zc3x6 ?zc4x6 ?zc5x6; (case zk3x6 => assumption); (case zk5x6 => assumption); (case zk6x6 => k_is); (case zk7x6 => k_is); (case zk8x6 => simp only [recursionLimit]; omega); (case zk9x6 => exact BindsTo.of_eq rfl); (case zc5x6 => decide); (case zkBx6 => exact locs rfl); (case zc2x6 => exact rfl); (case zc3x6 => exact rfl); (case zc4x6 => exact rfl); k_whole; intro _ _ _ _ _; (try dsimp only); (try k_fold)))
  k_steps
  (k_dflt refine figs1 (by k_in) (Top.keeps (by k_asm) (Fr.keep (by k_asm))) (by walk_at "down") (by walk_at "down") ?_)
  intro h' tk' a n u1 u2 u3 K'
  ((with_reducible rename Fr _ _ _ _ => zkF); (with_reducible rename News _ _ _ _ => zkN); (with_reducible rename NewIn _ _ _ => zkK); have zF := fr_on zkF zkK.1; have zN := news_in zkF zkN zkK; have zne := apart_of (news_ne zkN zkK); (try dsimp only [List.cons_append, List.nil_append] at zN); (repeat (have _ := And.left zne; replace zne := And.right zne)); clear zne zkF zkN zkK)
  k_steps
  all_goals exact ret _ _ _ _ _ _ (newIn_of (by k_asm) (by k_asm) (List.forall_mem_cons.mpr ⟨by k_mem, List.forall_mem_nil _⟩))
end
local macro_rules | `(tactic| walk_at "call ref") => `(tactic| (k_here; (with_reducible show wpAny _ _ (call (Value.ref 69) [Value.ref _, Value.int _ _, Value.str _ _]) _ _ _); k_dflt (refine' sign_no ?F ?N ?X ?T ?l ?n ?i ?v ?t ?a ?b ?c ?e ?D ?U ?_; (case F => k_asm); (case N => k_asm); (case X => k_asm); (case T => k_asm); (case l => assumption); (case n => assumption); (case i => walk_at "idx"); (case v => assumption); (case t => assumption); (case a => walk_at "ok"); (case b => walk_at "ok"); (case c => walk_at "ok"); (case e => assumption); (case D => walk_at "down"); (case U => walk_at "down"); k_whole; intro h' tk' F' N'; (try k_sweep))))
section -- B5
open PySem PySem.W PyProof.Rows PySem.Calls PySem.Spec
variable {w : World} {p : Program} {loose : List Str} {mean : ExcName → Option Value} {mg mb : Str → Option Value} {dp un : Nat} {fr : Option (List Env)} {gd : Option (List Code)} {s : Shared} {Q E : Value → Shared → Prop}
theorem in_tup_no {prog : Program} {A : Around} {t : Addr} {items : Array Value} {ys : List Str} {x : Str} {u : Tok} (ht : IsTup s.heap t items) (hi : StrsAre items.toList ys) (hno : (ys.any (· == x)) = false)
    (h : Q (.bool false) s) : wpAny (model prog w) A (compareOp .In (.str x u) (.ref t)) Q E s := in_tuple_strs ht hi (hno ▸ h)
set_option maxRecDepth 100000 in
set_option maxHeartbeats 8000000 in
theorem po12 {l : Addr} {vs : List Value} {i : Int} {k : Nat} {tk t1 t2 : Tok} {a : Addr} (X : (kfrag.heap_1 w.params).In s.heap) (T : Top p loose mean mg mb s.heap) (hD : dp < 870) (hU : un < 8980)
   (hl : s.heap.IsList l vs.toArray) (hn : vs.length < 1000) (hi : i = (k : Int)) (hv : tokV vs k = .ref a) (ht : IsTup s.heap a #[.str (Str.ofString "number") t1, .str (Str.ofString "12") t2])
   (ret : ∀ h' tk' r n u1 u2, NewIn s.heap h' [(r, tupOf [.str (Str.ofString "whole") u1, .int 12 u2] n)] → Q (.ref r) { s with heap := h', toks := tk' }) :
   wpAny (model Challenge.rw_pq0141_01.row.prog w) ⟨none, dp, fr, gd, un⟩ (call (.ref 153) [.ref l, .int i tk]) Q E s := by
  revert X; k_fill; intro X
  subst hi
  (k_dflt (refine' ro_enter ?zk3x8 ?zk5x8 ?zk8x8 ?zk6x8 ?zk7x8 ?zk9x8 ?zkBx8 ?_ ?zc2x8 ?zc3x8 ?zc4x8 ?zc5x8; (case zk3x8 => assumption); (case zk5x8 => assumption); (case zk6x8 => k_is); (case zk7x8 => k_is); (case zk8x8 => simp only [recursionLimit]; omega); (case zk9x8 => exact BindsTo.of_eq rfl); (case zc5x8 => decide); (case zkBx8 => exact locs rfl); (case zc2x8 => exact rfl); (case zc3x8 => exact rfl); (case zc4x8 => exact rfl); k_whole; intro _ _ _ _ _; (try dsimp only); (try k_fold)))
  k_steps
  (k_dflt refine num12 (by k_in) (Top.keeps (by k_asm) (Fr.keep (by k_asm))) (by walk_at "down") (by walk_at "down") ?_)
  intro h' tk' a n u1 u2 K'
  ((with_reducible rename Fr _ _ _ _ => zkF); (with_reducible rename News _ _ _ _ => zkN); (with_reducible rename NewIn _ _ _ => zkK); have zF := fr_on zkF zkK.1; have zN := news_in zkF zkN zkK; have zne := apart_of (news_ne zkN zkK); (try dsimp only [List.cons_append, List.nil_append] at zN); (repeat (have _ := And.left zne; replace zne := And.right zne)); clear zne zkF zkN zkK)
  k_steps
  all_goals exact ret _ _ _ _ _ _ (newIn_of (by k_asm) (by k_asm) (List.forall_mem_cons.mpr ⟨by k_mem, List.forall_mem_nil _⟩))
set_option maxRecDepth 100000 in
set_option maxHeartbeats 8000000 in
theorem po1 {l : Addr} {vs : List Value} {i : Int} {k : Nat} {tk t1 t2 : Tok} {a : Addr} (X : (kfrag.heap_1 w.params).In s.heap) (T : Top p loose mean mg mb s.heap) (hD : dp < 870) (hU : un < 8980)
   (hl : s.heap.IsList l vs.toArray) (hn : vs.length < 1000) (hi : i = (k : Int)) (hv : tokV vs k = .ref a) (ht : IsTup s.heap a #[.str (Str.ofString "number") t1, .str (Str.ofString "1") t2])
   (ret : ∀ h' tk' r n u1 u2, NewIn s.heap h' [(r, tupOf [.str (Str.ofString "whole") u1, .int 1 u2] n)] → Q (.ref r) { s with heap := h', toks := tk' }) :
   wpAny (model Challenge.rw_pq0141_01.row.prog w) ⟨none, dp, fr, gd, un⟩ (call (.ref 153) [.ref l, .int i tk]) Q E s := by
  revert X; k_fill; intro X
  subst hi
  (k_dflt (refine' ro_enter ?zk3x10 ?zk5x10 ?zk8x10 ?zk6x10 ?zk7x10 ?zk9x10 ?zkBx10 ?_ ?zc2x10 ?zc3x10 ?zc4x10 ?zc5x10; (case zk3x10 => assumption); (case zk5x10 => assumption); (case zk6x10 => k_is); (case zk7x10 => k_is); (case zk8x10 => simp only [recursionLimit]; omega); (case zk9x10 => exact BindsTo.of_eq rfl); (case zc5x10 => decide); (case zkBx10 => exact locs rfl); (case zc2x10 => exact rfl); (case zc3x10 => exact rfl); (case zc4x10 => exact rfl); k_whole; intro _ _ _ _ _; (try dsimp only); (try k_fold)))
  k_steps
  (k_dflt refine num1 (by k_in) (Top.keeps (by k_asm) (Fr.keep (by k_asm))) (by walk_at "down") (by walk_at "down") ?_)
  intro h' tk' a n u1 u2 K'
  ((with_reducible rename Fr _ _ _ _ => zkF); (with_reducible rename News _ _ _ _ => zkN); (with_reducible rename NewIn _ _ _ => zkK); have zF := fr_on zkF zkK.1; have zN := news_in zkF zkN zkK; have zne := apart_of (news_ne zkN zkK); (try dsimp only [List.cons_append, List.nil_append] at zN); (repeat (have _ := And.left zne; replace zne := And.right zne)); clear zne zkF zkN zkK)
  k_steps
  all_goals exact ret _ _ _ _ _ _ (newIn_of (by k_asm) (by k_asm) (List.forall_mem_cons.mpr ⟨by k_mem, List.forall_mem_nil _⟩))
set_option maxRecDepth 100000 in
set_option maxHeartbeats 8000000 in
theorem poA {l : Addr} {vs : List Value} {i : Int} {k : Nat} {tk t1 t2 : Tok} {a : Addr} (X : (kfrag.heap_1 w.params).In s.heap) (T : Top p loose mean mg mb s.heap) (hD : dp < 870) (hU : un < 8980)
   (hl : s.heap.IsList l vs.toArray) (hn : vs.length < 1000) (hi : i = (k : Int)) (hv : tokV vs k = .ref a) (ht : IsTup s.heap a #[.str (Str.ofString "name") t1, .str (Str.ofString "A") t2])
   {t3 t4 : Tok} {a2 : Addr} {kd2 td2 : Str} (hv2 : tokV vs (k + 1) = .ref a2) (ht2 : IsTup s.heap a2 #[.str kd2 t3, .str td2 t4]) (s1 : PyData.strOk kd2 = true) (s2 : PyData.strOk td2 = true) (hne : (kd2, td2) ≠ (Str.ofString "sign", Str.ofString "("))
   (ret : ∀ h' tk' r n u1 u2, NewIn s.heap h' [(r, tupOf [.str (Str.ofString "name") u1, .str (Str.ofString "A") u2] n)] → Q (.ref r) { s with heap := h', toks := tk' }) :
   wpAny (model Challenge.rw_pq0141_01.row.prog w) ⟨none, dp, fr, gd, un⟩ (call (.ref 153) [.ref l, .int i tk]) Q E s := by
  revert X; k_fill; intro X
  subst hi
  (k_dflt (refine' ro_enter ?zk3x12 ?zk5x12 ?zk8x12 ?zk6x12 ?zk7x12 ?zk9x12 ?zkBx12 ?_ ?zc2x12 ?zc3x12 ?zc4x12 ?zc5x12; (case zk3x12 => assumption); (case zk5x12 => assumption); (case zk6x12 => k_is); (case zk7x12 => k_is); (case zk8x12 => simp only [recursionLimit]; omega); (case zk9x12 => exact BindsTo.of_eq rfl); (case zc5x12 => decide); (case zkBx12 => exact locs rfl); (case zc2x12 => exact rfl); (case zc3x12 => exact rfl); (case zc4x12 => exact rfl); k_whole; intro _ _ _ _ _; (try dsimp only); (try k_fold)))
  k_steps
  all_goals exact ret _ _ _ _ _ _ (newIn_of (by k_asm) (by k_asm) (List.forall_mem_cons.mpr ⟨by k_mem, List.forall_mem_nil _⟩))
set_option maxRecDepth 100000 in
set_option maxHeartbeats 8000000 in
theorem poB {l : Addr} {vs : List Value} {i : Int} {k : Nat} {tk t1 t2 : Tok} {a : Addr} (X : (kfrag.heap_1 w.params).In s.heap) (T : Top p loose mean mg mb s.heap) (hD : dp < 870) (hU : un < 8980)
   (hl : s.heap.IsList l vs.toArray) (hn : vs.length < 1000) (hi : i = (k : Int)) (hv : tokV vs k = .ref a) (ht : IsTup s.heap a #[.str (Str.ofString "name") t1, .str (Str.ofString "B") t2])
   {t3 t4 : Tok} {a2 : Addr} {kd2 td2 : Str} (hv2 : tokV vs (k + 1) = .ref a2) (ht2 : IsTup s.heap a2 #[.str kd2 t3, .str td2 t4]) (s1 : PyData.strOk kd2 = true) (s2 : PyData.strOk td2 = true) (hne : (kd2, td2) ≠ (Str.ofString "sign", Str.ofString "("))
   (ret : ∀ h' tk' r n u1 u2, NewIn s.heap h' [(r, tupOf [.str (Str.ofString "name") u1, .str (Str.ofString "B") u2] n)] → Q (.ref r) { s with heap := h', toks := tk' }) :
   wpAny (model Challenge.rw_pq0141_01.row.prog w) ⟨none, dp, fr, gd, un⟩ (call (.ref 153) [.ref l, .int i tk]) Q E s := by
  revert X; k_fill; intro X
  subst hi
  (k_dflt (refine' ro_enter ?zk3x13 ?zk5x13 ?zk8x13 ?zk6x13 ?zk7x13 ?zk9x13 ?zkBx13 ?_ ?zc2x13 ?zc3x13 ?zc4x13 ?zc5x13; (case zk3x13 => assumption); (case zk5x13 => assumption); (case zk6x13 => k_is); (case zk7x13 => k_is); (case zk8x13 => simp only [recursionLimit]; omega); (case zk9x13 => exact BindsTo.of_eq rfl); (case zc5x13 => decide); (case zkBx13 => exact locs rfl); (case zc2x13 => exact rfl); (case zc3x13 => exact rfl); (case zc4x13 => exact rfl); k_whole; intro _ _ _ _ _; (try dsimp only); (try k_fold)))
  k_steps
  all_goals exact ret _ _ _ _ _ _ (newIn_of (by k_asm) (by k_asm) (List.forall_mem_cons.mpr ⟨by k_mem, List.forall_mem_nil _⟩))
set_option maxRecDepth 100000 in
set_option maxHeartbeats 8000000 in
theorem poI {l : Addr} {vs : List Value} {i : Int} {k : Nat} {tk t1 t2 : Tok} {a : Addr} (X : (kfrag.heap_1 w.params).In s.heap) (T : Top p loose mean mg mb s.heap) (hD : dp < 870) (hU : un < 8980)
   (hl : s.heap.IsList l vs.toArray) (hn : vs.length < 1000) (hi : i = (k : Int)) (hv : tokV vs k = .ref a) (ht : IsTup s.heap a #[.str (Str.ofString "name") t1, .str (Str.ofString "I%") t2])
   {t3 t4 : Tok} {a2 : Addr} {kd2 td2 : Str} (hv2 : tokV vs (k + 1) = .ref a2) (ht2 : IsTup s.heap a2 #[.str kd2 t3, .str td2 t4]) (s1 : PyData.strOk kd2 = true) (s2 : PyData.strOk td2 = true) (hne : (kd2, td2) ≠ (Str.ofString "sign", Str.ofString "("))
   (ret : ∀ h' tk' r n u1 u2, NewIn s.heap h' [(r, tupOf [.str (Str.ofString "name") u1, .str (Str.ofString "I%") u2] n)] → Q (.ref r) { s with heap := h', toks := tk' }) :
   wpAny (model Challenge.rw_pq0141_01.row.prog w) ⟨none, dp, fr, gd, un⟩ (call (.ref 153) [.ref l, .int i tk]) Q E s := by
  revert X; k_fill; intro X
  subst hi
  (k_dflt (refine' ro_enter ?zk3x14 ?zk5x14 ?zk8x14 ?zk6x14 ?zk7x14 ?zk9x14 ?zkBx14 ?_ ?zc2x14 ?zc3x14 ?zc4x14 ?zc5x14; (case zk3x14 => assumption); (case zk5x14 => assumption); (case zk6x14 => k_is); (case zk7x14 => k_is); (case zk8x14 => simp only [recursionLimit]; omega); (case zk9x14 => exact BindsTo.of_eq rfl); (case zc5x14 => decide); (case zkBx14 => exact locs rfl); (case zc2x14 => exact rfl); (case zc3x14 => exact rfl); (case zc4x14 => exact rfl); k_whole; intro _ _ _ _ _; (try dsimp only); (try k_fold)))
  k_steps
  all_goals exact ret _ _ _ _ _ _ (newIn_of (by k_asm) (by k_asm) (List.forall_mem_cons.mpr ⟨by k_mem, List.forall_mem_nil _⟩))
set_option maxRecDepth 100000 in
set_option maxHeartbeats 8000000 in
theorem poS {td : Str} (sd : PyData.strOk td = true) {l : Addr} {vs : List Value} {i : Int} {k : Nat} {tk t1 t2 : Tok} {a : Addr} (X : (kfrag.heap_1 w.params).In s.heap) (T : Top p loose mean mg mb s.heap) (hD : dp < 870) (hU : un < 8980)
   (hl : s.heap.IsList l vs.toArray) (hn : vs.length < 1000) (hi : i = (k : Int)) (hv : tokV vs k = .ref a) (ht : IsTup s.heap a #[.str (Str.ofString "sign") t1, .str td t2])
   {t3 t4 : Tok} {a2 : Addr} {kd2 td2 : Str} (hv2 : tokV vs (k + 1) = .ref a2) (ht2 : IsTup s.heap a2 #[.str kd2 t3, .str td2 t4]) (s1 : PyData.strOk kd2 = true) (s2 : PyData.strOk td2 = true) (hne : (kd2, td2) ≠ (Str.ofString "sign", Str.ofString "("))
   (ret : ∀ h' tk', (∀ b o, s.heap.get? b = some o → h'.get? b = some o) → Q .none { s with heap := h', toks := tk' }) :
   wpAny (model Challenge.rw_pq0141_01.row.prog w) ⟨none, dp, fr, gd, un⟩ (call (.ref 153) [.ref l, .int i tk]) Q E s := by
  revert X; k_fill; intro X
  subst hi
  (k_dflt (refine' ro_enter ?zk3x15 ?zk5x15 ?zk8x15 ?zk6x15 ?zk7x15 ?zk9x15 ?zkBx15 ?_ ?zc2x15 ?zc3x15 ?zc4x15 ?zc5x15; (case zk3x15 => assumption); (case zk5x15 => assumption); (case zk6x15 => k_is); (case zk7x15 => k_is); (case zk8x15 => simp only [recursionLimit]; omega); (case zk9x15 => exact BindsTo.of_eq rfl); (case zc5x15 => decide); (case zkBx15 => exact locs rfl); (case zc2x15 => exact rfl); (case zc3x15 => exact rfl); (case zc4x15 => exact rfl); k_whole; intro _ _ _ _ _; (try dsimp only); (try k_fold)))
  k_steps
  all_goals exact ret _ _ (Fr.keep (by k_asm))
set_option maxRecDepth 100000 in
set_option maxHeartbeats 8000000 in
theorem poE {td : Str} (sd : PyData.strOk td = true) {l : Addr} {vs : List Value} {i : Int} {k : Nat} {tk t1 t2 : Tok} {a : Addr} (X : (kfrag.heap_1 w.params).In s.heap) (T : Top p loose mean mg mb s.heap) (hD : dp < 870) (hU : un < 8980)
   (hl : s.heap.IsList l vs.toArray) (hn : vs.length < 1000) (hi : i = (k : Int)) (hv : tokV vs k = .ref a) (ht : IsTup s.heap a #[.str (Str.ofString "end") t1, .str td t2])
   {t3 t4 : Tok} {a2 : Addr} {kd2 td2 : Str} (hv2 : tokV vs (k + 1) = .ref a2) (ht2 : IsTup s.heap a2 #[.str kd2 t3, .str td2 t4]) (s1 : PyData.strOk kd2 = true) (s2 : PyData.strOk td2 = true) (hne : (kd2, td2) ≠ (Str.ofString "sign", Str.ofString "("))
   (ret : ∀ h' tk', (∀ b o, s.heap.get? b = some o → h'.get? b = some o) → Q .none { s with heap := h', toks := tk' }) :
   wpAny (model Challenge.rw_pq0141_01.row.prog w) ⟨none, dp, fr, gd, un⟩ (call (.ref 153) [.ref l, .int i tk]) Q E s := by
  revert X; k_fill; intro X
  subst hi
  (k_dflt (refine' ro_enter ?zk3x16 ?zk5x16 ?zk8x16 ?zk6x16 ?zk7x16 ?zk9x16 ?zkBx16 ?_ ?zc2x16 ?zc3x16 ?zc4x16 ?zc5x16; (case zk3x16 => assumption); (case zk5x16 => assumption); (case zk6x16 => k_is); (case zk7x16 => k_is); (case zk8x16 => simp only [recursionLimit]; omega); (case zk9x16 => exact BindsTo.of_eq rfl); (case zc5x16 => decide); (case zkBx16 => exact locs rfl); (case zc2x16 => exact rfl); (case zc3x16 => exact rfl); (case zc4x16 => exact rfl); k_whole; intro _ _ _ _ _; (try dsimp only); (try k_fold)))
  k_steps
  all_goals exact ret _ _ (Fr.keep (by k_asm))
set_option maxRecDepth 100000 in
set_option maxHeartbeats 8000000 in
theorem poT {l : Addr} {vs : List Value} {i : Int} {k : Nat} {tk t1 t2 : Tok} {a : Addr} (X : (kfrag.heap_1 w.params).In s.heap) (T : Top p loose mean mg mb s.heap) (hD : dp < 870) (hU : un < 8980)
   (hl : s.heap.IsList l vs.toArray) (hn : vs.length < 1000) (hi : i = (k : Int)) (hv : tokV vs k = .ref a) (ht : IsTup s.heap a #[.str (Str.ofString "word") t1, .str (Str.ofString "THEN") t2])
   {t3 t4 : Tok} {a2 : Addr} {kd2 td2 : Str} (hv2 : tokV vs (k + 1) = .ref a2) (ht2 : IsTup s.heap a2 #[.str kd2 t3, .str td2 t4]) (s1 : PyData.strOk kd2 = true) (s2 : PyData.strOk td2 = true) (hne : (kd2, td2) ≠ (Str.ofString "sign", Str.ofString "("))
   (ret : ∀ h' tk', (∀ b o, s.heap.get? b = some o → h'.get? b = some o) → Q .none { s with heap := h', toks := tk' }) :
   wpAny (model Challenge.rw_pq0141_01.row.prog w) ⟨none, dp, fr, gd, un⟩ (call (.ref 153) [.ref l, .int i tk]) Q E s := by
  revert X; k_fill; intro X
  subst hi
  (k_dflt (refine' ro_enter ?zk3x17 ?zk5x17 ?zk8x17 ?zk6x17 ?zk7x17 ?zk9x17 ?zkBx17 ?_ ?zc2x17 ?zc3x17 ?zc4x17 ?zc5x17; (case zk3x17 => assumption); (case zk5x17 => assumption); (case zk6x17 => k_is); (case zk7x17 => k_is); (case zk8x17 => simp only [recursionLimit]; omega); (case zk9x17 => exact BindsTo.of_eq rfl); (case zc5x17 => decide); (case zkBx17 => exact locs rfl); (case zc2x17 => exact rfl); (case zc3x17 => exact rfl); (case zc4x17 => exact rfl); k_whole; intro _ _ _ _ _; (try dsimp only); (try k_fold)))
  k_steps
  (k_dflt refine in_tup_no (kun_topT (by k_asm) (by k_asm) (by k_is)) (by kde_strs) (by decide +kernel) ?_)
  k_steps
  all_goals exact ret _ _ (Fr.keep (by k_asm))
set_option maxRecDepth 100000 in
set_option maxHeartbeats 8000000 in
theorem poL {l : Addr} {vs : List Value} {i : Int} {k : Nat} {tk t1 t2 : Tok} {a : Addr} (X : (kfrag.heap_1 w.params).In s.heap) (T : Top p loose mean mg mb s.heap) (hD : dp < 870) (hU : un < 8980)
   (hl : s.heap.IsList l vs.toArray) (hn : vs.length < 1000) (hi : i = (k : Int)) (hv : tokV vs k = .ref a) (ht : IsTup s.heap a #[.str (Str.ofString "word") t1, .str (Str.ofString "ELSE") t2])
   {t3 t4 : Tok} {a2 : Addr} {kd2 td2 : Str} (hv2 : tokV vs (k + 1) = .ref a2) (ht2 : IsTup s.heap a2 #[.str kd2 t3, .str td2 t4]) (s1 : PyData.strOk kd2 = true) (s2 : PyData.strOk td2 = true) (hne : (kd2, td2) ≠ (Str.ofString "sign", Str.ofString "("))
   (ret : ∀ h' tk', (∀ b o, s.heap.get? b = some o → h'.get? b = some o) → Q .none { s with heap := h', toks := tk' }) :
   wpAny (model Challenge.rw_pq0141_01.row.prog w) ⟨none, dp, fr, gd, un⟩ (call (.ref 153) [.ref l, .int i tk]) Q E s := by
  revert X; k_fill; intro X
  subst hi
  (k_dflt (refine' ro_enter ?zk3x18 ?zk5x18 ?zk8x18 ?zk6x18 ?zk7x18 ?zk9x18 ?zkBx18 ?_ ?zc2x18 ?zc3x18 ?zc4x18 ?zc5x18; (case zk3x18 => assumption); (case zk5x18 => assumption); (case zk6x18 => k_is); (case zk7x18 => k_is); (case zk8x18 => simp only [recursionLimit]; omega); (case zk9x18 => exact BindsTo.of_eq rfl); (case zc5x18 => decide); (case zkBx18 => exact locs rfl); (case zc2x18 => exact rfl); (case zc3x18 => exact rfl); (case zc4x18 => exact rfl); k_whole; intro _ _ _ _ _; (try dsimp only); (try k_fold)))
  k_steps
  (k_dflt refine in_tup_no (kun_topT (by k_asm) (by k_asm) (by k_is)) (by kde_strs) (by decide +kernel) ?_)
  k_steps
  all_goals exact ret _ _ (Fr.keep (by k_asm))
end
section -- B6
open PySem PySem.W PyProof.Rows PySem.Calls PySem.Spec
section
variable {prog : Program} {w : World} {A : Around} {s : Shared} {R : Result → Shared → Prop}
/-- entering a def that changes some of what stood: those objects are hidden from the base -/
theorem mu_code {K : Frag} {p : Program} {loose : List Str} {mean : ExcName → Option Value} {mg mb : Str → Option Value} {hB : Heap} (mu : List (Addr × Obj))
    {name qual : Str} {params : Arguments} {body : List Stmt} {scope : Scope} {dV kV doc pm cdv ct oc : Value} {an od : Option Addr} {osl : Array (Option Value)} {f : Addr} {args : List Value} {binds : List (Str × Value)}
    (X : K.In hB) (T : Top p loose mean mg mb hB) (hBs : hB.StaysIn s.heap) (hm : ∀ q ∈ mu, s.heap.get? q.1 = some q.2 ∧ hB.get? q.1 = none) (hroom : A.depth < recursionLimit)
    (ho : K.lookup f = some ⟨oc, od, .func (fnOf name qual params body scope dV kV doc pm an cdv ct), osl⟩) (hcd : codeIn K cdv qual = true)
    (hbind : BindsTo s (fnOf name qual params body scope dV kV doc pm an cdv ct) ⟨args, []⟩ binds) (hloc : ∀ y ∈ binds, scope.names.lookup y.1 = some .local)
    (h : ∀ g L h₁ tk, hB.StaysIn g → (∀ b o, s.heap.get? b = some o → b ∉ mu.map (·.1) → g.get? b = some o) → (∀ b o, g.get? b = some o → s.heap.get? b = some o) → K.In g → Top p loose mean mg mb g →
      Fr g L h₁ (fun y => binds.reverse.lookup y) → News g L h₁ mu →
      wpAny (model prog w) (A.deeper (envOf qual scope L f cdv)) (execs body (envOf qual scope L f cdv))
        (fun fl s' => R (.ok (.ret (match fl with | .ret v => v | _ => .none))) s')
        (fun e s' => wpAny (model prog w) (A.deeper (envOf qual scope L f cdv)) (leaving (envOf qual scope L f cdv) e) (fun _ s'' => R (.error e) s'') (fun e' s'' => R (.error e') s'') s')
        { s with heap := h₁, toks := tk })
    (hco : scope.isCoroutine = false) (hgen : scope.isGenerator = false) (hk : scope.kind = .function)
    (hcell : ∀ x ∈ scope.names, x.2 ≠ .cell) : codeAny (model prog w) A (.call (.ref f) ⟨args, []⟩) R s := by
  refine codeAny_call_def (fd := fnOf name qual params body scope dV kV doc pm an cdv ct) (body := body) (binds := binds) hroom (hBs _ _ (X _ _ ho)) rfl (T.nolimit.keeps hBs) (codeRec_of (X.keeps hBs) hcd) rfl hbind hcell hloc (fun h₁ hns hk₁ => ?_) hco hgen hk
  have st : hB.StaysIn (hideAll s.heap (mu.map (·.1))) := fun b o e => hideAll_get _ (hBs b o e) fun q => by
    obtain ⟨p, hp, rfl⟩ := List.mem_map.mp q
    rw [(hm p hp).2] at e; cases e
  exact h _ _ h₁ _ st (fun b o e n => hideAll_get _ e n) (fun b o e => of_hideAll _ e) (X.keeps st) (T.keeps st)
    ⟨hns, fun b o e => hk₁ b o (of_hideAll _ e), Nat.le_of_eq (hideAll_size _ _)⟩
    (fun p hp => ⟨hk₁ _ _ (hm p hp).1, Nat.ne_of_lt (Heap.lt_size (hm p hp).1), hideAll_none _ (List.mem_map_of_mem hp)⟩)
end
/-- the objects at ks changed, to chg; tl is new; all else stands -/
def Mu (h h' : Heap) (ks : List Addr) (chg tl : List (Addr × Obj)) : Prop := (∀ b o, h.get? b = some o → b ∉ ks → h'.get? b = some o) ∧ (∀ p ∈ chg, h'.get? p.1 = some p.2) ∧ ∀ p ∈ tl, h'.get? p.1 = some p.2 ∧ h.get? p.1 = none
section
variable {g h₀ h h' : Heap} {L o0 : Addr} {m : Str → Option Value} {news news' chg tl : List (Addr × Obj)} {o ob : Obj} {ks : List Addr}
theorem mu_of (F : Fr g L h' m) (N : News g L h' news) (hg : ∀ b o, h.get? b = some o → b ∉ ks → g.get? b = some o) (hc : ∀ p ∈ chg, p ∈ news) (hs : ∀ p ∈ tl, p ∈ news) (hne : ∀ p ∈ tl, p.1 ∉ ks) : Mu h h' ks chg tl := by
  refine ⟨fun b o e n => F.keep _ _ (hg b o e n), fun p hp => N.get (hc p hp), fun p hp => ⟨(N p (hs p hp)).1, ?_⟩⟩
  cases q : h.get? p.1 with
  | none => rfl
  | some o =>
    have := (N p (hs p hp)).2.2
    rw [hg _ _ q (hne p hp)] at this; cases this
theorem fr_off (F : Fr h₀ L h m) (N : News h₀ L h news) (k : ∀ b o, h.get? b = some o → b ∉ ks → h'.get? b = some o) (hk : ∀ a ∈ ks, ∃ o, (a, o) ∈ news) : Fr h₀ L h' m := by
  obtain ⟨oL, es, ep, hL, r⟩ := F.ns
  refine ⟨⟨oL, es, ep, k _ _ hL fun q => ?_, r⟩, fun b o e => k _ _ (F.keep b o e) fun q => ?_, F.above⟩
  · obtain ⟨o, ho⟩ := hk _ q
    exact (N _ ho).2.1 rfl
  · obtain ⟨o, ho⟩ := hk _ q
    have z := (N _ ho).2.2
    dsimp only at z
    rw [z] at e; cases e
theorem mu_fact (F : Fr h₀ L h m) (N : News h₀ L h news) (hk : ∀ a ∈ ks, ∃ o, (a, o) ∈ news) (M : Mu h h' ks chg tl) (hc : ∀ p ∈ chg, p.1 ∈ ks) {p : Addr × Obj} (hp : p ∈ chg ∨ p ∈ tl ∨ (p ∈ news ∧ p.1 ∉ ks)) : h'.get? p.1 = some p.2 ∧ p.1 ≠ L ∧ h₀.get? p.1 = none := by
  rcases hp with hp | hp | ⟨hp, hn⟩
  · obtain ⟨o, ho⟩ := hk _ (hc p hp)
    exact ⟨M.2.1 p hp, (N _ ho).2⟩
  · refine ⟨(M.2.2 p hp).1, fun e => ?_, ?_⟩
    · obtain ⟨oL, _, _, hL, _⟩ := F.ns
      have := (M.2.2 p hp).2
      rw [e, hL] at this; cases this
    · cases w : h₀.get? p.1 with
      | none => rfl
      | some o => have := (M.2.2 p hp).2; rw [F.keep _ _ w] at this; cases this
  · exact ⟨M.1 _ _ (N p hp).1 hn, (N p hp).2⟩
theorem mu_ne (N : News h₀ L h news) (M : Mu h h' ks chg tl) : ∀ p ∈ tl, ∀ q ∈ news, q.1 ≠ p.1 := fun p hp q hq e => by
  have h1 := (M.2.2 p hp).2
  rw [← e, (N q hq).1] at h1; cases h1
theorem fr_mu (F : Fr h₀ L h m) (N : News h₀ L h news) (M : Mu h h' ks chg tl) (hk : ∀ a ∈ ks, ∃ o, (a, o) ∈ news) : Fr h₀ L h' m := fr_off F N M.1 hk
/-- one object changed: the ledger with its entry put anew -/
theorem news_mu1 (F : Fr h₀ L h m) (N : News h₀ L h news) (U : Upd o0 o ob news news') (M : Mu h h' [o0] [(o0, ob)] tl) : News h₀ L h' (tl ++ news') := by
  obtain ⟨pre, post, rfl, rfl, a, b⟩ := U.split
  have hk : ∀ c ∈ [o0], ∃ o', (c, o') ∈ pre ++ (o0, o) :: post := fun c hc => by rw [List.mem_singleton.mp hc]; exact ⟨o, List.mem_append.mpr (.inr (.head _))⟩
  have hc : ∀ p ∈ [(o0, ob)], p.1 ∈ [o0] := fun p hp => by rw [List.mem_singleton.mp hp]; exact .head _
  have off : ∀ c : Addr, c ≠ o0 → c ∉ [o0] := fun c n q => n (List.mem_singleton.mp q)
  intro q hq
  rcases List.mem_append.mp hq with hq | hq
  · exact mu_fact F N hk M hc (.inr (.inl hq))
  · rcases List.mem_append.mp hq with hq | hq
    · exact mu_fact F N hk M hc (.inr (.inr ⟨List.mem_append.mpr (.inl hq), off _ (a q hq)⟩))
    · rcases List.mem_cons.mp hq with rfl | hq
      · exact mu_fact F N hk M hc (.inl (.head _))
      · exact mu_fact F N hk M hc (.inr (.inr ⟨List.mem_append.mpr (.inr (.tail _ hq)), off _ (b q hq)⟩))
theorem fr_mu1 (F : Fr h₀ L h m) (N : News h₀ L h news) (U : Upd o0 o ob news news') (M : Mu h h' [o0] [(o0, ob)] tl) : Fr h₀ L h' m := by
  obtain ⟨pre, post, rfl, rfl, a, b⟩ := U.split
  exact fr_mu F N M fun c hc => by rw [List.mem_singleton.mp hc]; exact ⟨o, List.mem_append.mpr (.inr (.head _))⟩
theorem inst_keeps {x C : Addr} {ox : Obj} {od : Option Obj} (I : InstAt h x ox C od) (k : ∀ b o, h.get? b = some o → h'.get? b = some o) : InstAt h' x ox C od := by
  obtain ⟨a, b, c, d⟩ := I
  refine ⟨k _ _ a, b, c, ?_⟩
  cases e : ox.dict with
  | none => rw [e] at d; cases od <;> simp_all
  | some dx =>
    rw [e] at d
    cases od with
    | none => exact d
    | some o => exact k _ _ d
theorem news_off {L' : Addr} {m' : Str → Option Value} {nws : List (Addr × Obj)} (F : Fr h₀ L h m) (N : News h₀ L h news) (st : h₀.StaysIn g) (k : ∀ b o, h.get? b = some o → b ∉ ks → g.get? b = some o) (hk : ∀ a ∈ ks, ∃ o, (a, o) ∈ news)
    (F2 : Fr g L' h' m') (N2 : News g L' h' nws) {p : Addr × Obj} (hp : p ∈ nws ∨ (p ∈ news ∧ p.1 ∉ ks)) : h'.get? p.1 = some p.2 ∧ p.1 ≠ L ∧ h₀.get? p.1 = none := by
  rcases hp with hp | ⟨hp, hn⟩
  · by_cases q : p.1 ∈ ks
    · obtain ⟨o, ho⟩ := hk _ q
      exact ⟨(N2 p hp).1, (N _ ho).2⟩
    · refine ⟨(N2 p hp).1, fun e => ?_, ?_⟩
      · obtain ⟨oL, _, _, hL, _⟩ := F.ns
        have := k _ _ hL (e ▸ q)
        rw [← e, (N2 p hp).2.2] at this; cases this
      · cases w : h₀.get? p.1 with
        | none => rfl
        | some o => have := st _ _ w; rw [(N2 p hp).2.2] at this; cases this
  · exact ⟨F2.keep _ _ (k _ _ (N p hp).1 hn), (N p hp).2⟩
end
def TokAt (bs : Heap) (vs : List Value) (k : Nat) (t : Str × Str) : Prop := (PyData.strOk t.1 = true ∧ PyData.strOk t.2 = true) ∧ ∃ a t1 t2, tokV vs k = .ref a ∧ IsTup bs a #[.str t.1 t1, .str t.2 t2]
/-- what plain_operand hands back at the place k: one new object that holds the tree -/
structure PoSpec (w : World) (bs : Heap) (l : Addr) (k : Nat) (tree : Dat) : Prop where
  use : ∀ {p : Program} {loose : List Str} {mean : ExcName → Option Value} {mg mb : Str → Option Value} {dp un : Nat} {fr : Option (List Env)} {gd : Option (List Code)} {s : Shared} {Q E : Value → Shared → Prop} {i : Int} {tk : Tok},
    bs.StaysIn s.heap → (kfrag.heap_1 w.params).In s.heap → Top p loose mean mg mb s.heap → i = (k : Int) → dp < 870 → un < 8980 →
    (∀ h' tk' r ob, NewIn s.heap h' [(r, ob)] → DatIn [(r, ob)] (.ref r) tree → Q (.ref r) { s with heap := h', toks := tk' }) →
    wpAny (model Challenge.rw_pq0141_01.row.prog w) ⟨none, dp, fr, gd, un⟩ (call (.ref 153) [.ref l, .int i tk]) Q E s
section
variable {w : World} {bs : Heap} {l : Addr} {vs : List Value} {k : Nat}
theorem dat_word {r : Addr} {c : Str} {u : Tok} {v : Value} {d : Dat} {n : Nat} (h : DatIn [(r, tupOf [.str c u, v] n)] v d) : DatIn [(r, tupOf [.str c u, v] n)] (.ref r) (.tuple [.str c, d]) :=
  .tuple (.head _) (.cons (.str _ _) (.cons h .nil))
theorem spec12 (hl : bs.IsList l vs.toArray) (hn : vs.length < 1000) (h : TokAt bs vs k (Str.ofString "number", Str.ofString "12")) : PoSpec w bs l k (.tuple [.str (Str.ofString "whole"), .int 12]) := by
  obtain ⟨_, a, t1, t2, hv, ht⟩ := h
  refine ⟨?_⟩
  intro p loose mean mg mb dp un fr gd s Q E i tk hb X T hi hD hU ret
  exact po12 X T hD hU (stays_list hb hl) hn hi hv (stays_tup hb ht) fun h' tk' r n u1 u2 K' => ret h' tk' r _ K' (dat_word (.int _ _))
theorem spec1 (hl : bs.IsList l vs.toArray) (hn : vs.length < 1000) (h : TokAt bs vs k (Str.ofString "number", Str.ofString "1")) : PoSpec w bs l k (.tuple [.str (Str.ofString "whole"), .int 1]) := by
  obtain ⟨_, a, t1, t2, hv, ht⟩ := h
  refine ⟨?_⟩
  intro p loose mean mg mb dp un fr gd s Q E i tk hb X T hi hD hU ret
  exact po1 X T hD hU (stays_list hb hl) hn hi hv (stays_tup hb ht) fun h' tk' r n u1 u2 K' => ret h' tk' r _ K' (dat_word (.int _ _))
theorem specA {t : Str × Str} (hl : bs.IsList l vs.toArray) (hn : vs.length < 1000) (h : TokAt bs vs k (Str.ofString "name", Str.ofString "A")) (h2 : TokAt bs vs (k + 1) t) (hne : t ≠ (Str.ofString "sign", Str.ofString "(")) : PoSpec w bs l k (.tuple [.str (Str.ofString "name"), .str (Str.ofString "A")]) := by
  obtain ⟨_, a, t1, t2, hv, ht⟩ := h
  obtain ⟨⟨s1, s2⟩, a2, t3, t4, hv2, ht2⟩ := h2
  refine ⟨?_⟩
  intro p loose mean mg mb dp un fr gd s Q E i tk hb X T hi hD hU ret
  exact poA X T hD hU (stays_list hb hl) hn hi hv (stays_tup hb ht) hv2 (stays_tup hb ht2) s1 s2 hne fun h' tk' r n u1 u2 K' => ret h' tk' r _ K' (dat_word (.str _ _))
theorem specB {t : Str × Str} (hl : bs.IsList l vs.toArray) (hn : vs.length < 1000) (h : TokAt bs vs k (Str.ofString "name", Str.ofString "B")) (h2 : TokAt bs vs (k + 1) t) (hne : t ≠ (Str.ofString "sign", Str.ofString "(")) : PoSpec w bs l k (.tuple [.str (Str.ofString "name"), .str (Str.ofString "B")]) := by
  obtain ⟨_, a, t1, t2, hv, ht⟩ := h
  obtain ⟨⟨s1, s2⟩, a2, t3, t4, hv2, ht2⟩ := h2
  refine ⟨?_⟩
  intro p loose mean mg mb dp un fr gd s Q E i tk hb X T hi hD hU ret
  exact poB X T hD hU (stays_list hb hl) hn hi hv (stays_tup hb ht) hv2 (stays_tup hb ht2) s1 s2 hne fun h' tk' r n u1 u2 K' => ret h' tk' r _ K' (dat_word (.str _ _))
theorem specI {t : Str × Str} (hl : bs.IsList l vs.toArray) (hn : vs.length < 1000) (h : TokAt bs vs k (Str.ofString "name", Str.ofString "I%")) (h2 : TokAt bs vs (k + 1) t) (hne : t ≠ (Str.ofString "sign", Str.ofString "(")) : PoSpec w bs l k (.tuple [.str (Str.ofString "name"), .str (Str.ofString "I%")]) := by
  obtain ⟨_, a, t1, t2, hv, ht⟩ := h
  obtain ⟨⟨s1, s2⟩, a2, t3, t4, hv2, ht2⟩ := h2
  refine ⟨?_⟩
  intro p loose mean mg mb dp un fr gd s Q E i tk hb X T hi hD hU ret
  exact poI X T hD hU (stays_list hb hl) hn hi hv (stays_tup hb ht) hv2 (stays_tup hb ht2) s1 s2 hne fun h' tk' r n u1 u2 K' => ret h' tk' r _ K' (dat_word (.str _ _))
end
end
local macro_rules | `(tactic| k_room) => `(tactic| first | walk_at "rm" | ((try simp only [depth_under_make, depth_under_kw, depth_in1, depth_deeper, depth_caller]); (try dsimp only [Around.deeper, Around.in1]); (try simp only [recursionLimit]); omega))
local macro_rules | `(tactic| k_units) => `(tactic| first | walk_at "rm" | ((try simp only [cLine]); (try dsimp only [Around.deeper, Around.in1]); omega))
section -- B7
open PySem PySem.W PyProof.Rows PySem.Calls PySem.Spec
variable {w : World} {p : Program} {loose : List Str} {mean : ExcName → Option Value} {mg mb : Str → Option Value} {dp un : Nat} {fr : Option (List Env)} {gd : Option (List Code)} {s : Shared} {Q E : Value → Shared → Prop}
abbrev lvEs (w : World) (a b c d e : Tok) (vk vw va vo vr : Value) : List DictEntry := [⟨PyData.keyHash w.params (Str.ofString "kind"), .str (Str.ofString "kind") a, vk⟩, ⟨PyData.keyHash w.params (Str.ofString "word"), .str (Str.ofString "word") b, vw⟩,
  ⟨PyData.keyHash w.params (Str.ofString "args"), .str (Str.ofString "args") c, va⟩, ⟨PyData.keyHash w.params (Str.ofString "operands"), .str (Str.ofString "operands") d, vo⟩, ⟨PyData.keyHash w.params (Str.ofString "operators"), .str (Str.ofString "operators") e, vr⟩]
set_option maxRecDepth 100000 in
set_option maxHeartbeats 8000000 in
theorem mkLevel {h₀ : Heap} {L : Addr} {m : Str → Option Value} {news : List (Addr × Obj)} {v1 v2 : Value} (F : Fr h₀ L s.heap m) (N : News h₀ L s.heap news) (X : (kfrag.heap_1 w.params).In h₀) (T : Top p loose mean mg mb h₀) (hD : dp < 870) (hU : un < 8980)
   (ret : ∀ h' tk' x d a0 o0 r0 k1 k2 k3 k4 k5 na no nr, Fr h₀ L h' m → News h₀ L h' ((r0, PySem.W.listOf #[] nr) :: (o0, PySem.W.listOf #[] no) :: (a0, PySem.W.listOf #[] na) :: (x, instObj 121 d) :: (d, dictOf (lvEs w k1 k2 k3 k4 k5 v1 v2 (.ref a0) (.ref o0) (.ref r0)) 5) :: news) →
     (∀ q ∈ news, q.1 < d) → d < x → x < a0 → a0 < o0 → o0 < r0 → Q (.ref x) { s with heap := h', toks := tk' }) :
   wpAny (model Challenge.rw_pq0141_01.row.prog w) ⟨none, dp, fr, gd, un⟩ (call (.ref 121) [v1, v2]) Q E s := by
  revert X; k_fill; intro X
  (k_dflt (refine' call_cls ?k1 ?k2 ?k3 ?k4 ?k5 ?k6 ?_; (case k1 => k_asm); (case k2 => k_asm); (case k3 => k_asm); (case k4 => k_is); (case k5 => k_is); (case k6 => k_is)))
  intro x d h1 F1 N1 l1 l2
  (k_dflt (refine' mu_code [(x, instObj 121 d), (d, dictOf [] 0)] ?k3 ?k5 ?kb ?km ?k8 ?k6 ?k7 ?k9 ?kB ?_ ?c2 ?c3 ?c4 ?c5; (case k3 => assumption); (case k5 => assumption); (case k6 => k_is); (case k7 => k_is); (case k8 => k_room); (case k9 => exact BindsTo.of_eq rfl); (case c5 => decide); (case kB => exact locs rfl); (case c2 => exact rfl); (case c3 => exact rfl); (case c4 => exact rfl)))
  case kb => exact F1.keep
  case km => exact fun q hq => ⟨(N1 q (List.mem_append (s := [_, _]).mpr (.inl hq))).1, (N1 q (List.mem_append (s := [_, _]).mpr (.inl hq))).2.2⟩
  intro g L' h₁ tk st k1 k2 Xg Tg F2 N2
  (try dsimp only)
  (try k_fold)
  (k_lt2 l2)
  k_steps
  refine ⟨rfl, ?_⟩
  have hk : ∀ a ∈ [x, d], ∃ o, (a, o) ∈ (x, instObj 121 d) :: (d, dictOf [] 0) :: news := by
    intro b hb
    rcases List.mem_cons.mp hb with rfl | hb
    · exact ⟨_, .head _⟩
    · rw [List.mem_singleton.mp hb]; exact ⟨_, .tail _ (.head _)⟩
  refine ret _ _ x d _ _ _ _ _ _ _ _ _ _ _ (fr_off F1 N1 (fun b o e n => Fr.keep (by assumption) _ _ (k1 b o e n)) hk) (fun q hq => news_off F1 N1 st k1 hk (by assumption) (by assumption) ((List.mem_append (s := [_, _, _, _, _]).mp hq).elim .inl fun h => .inr ⟨.tail _ (.tail _ h), ?_⟩)) l1 l2 ?_ ?_ ?_
  · have := l1 q h
    simp only [List.map_cons, List.map_nil, List.mem_cons, List.not_mem_nil, or_false, not_or]
    exact ⟨Nat.ne_of_lt (Nat.lt_trans this l2), Nat.ne_of_lt this⟩
  all_goals (refine ltN ?_; first | assumption | exact ltl (by assumption) (by k_mem) | omega)
end
local macro_rules | `(tactic| k_inst) => `(tactic| exact inst_keeps (by assumption) (Fr.keep (by k_asm)))
section -- B8
open PySem PySem.W PyProof.Rows PySem.Calls PySem.Spec
variable {w : World} {p : Program} {loose : List Str} {mean : ExcName → Option Value} {mg mb : Str → Option Value} {dp un : Nat} {fr : Option (List Env)} {gd : Option (List Code)} {s : Shared} {Q E : Value → Shared → Prop}
theorem po_use {h₀ bs : Heap} {L : Addr} {m : Str → Option Value} {news : List (Addr × Obj)} {l : Addr} {i : Int} {k : Nat} {tk : Tok} {tree : Dat} (P : PoSpec w bs l k tree)
   (F : Fr h₀ L s.heap m) (N : News h₀ L s.heap news) (X : (kfrag.heap_1 w.params).In h₀) (T : Top p loose mean mg mb h₀) (hb : bs.StaysIn h₀) (hi : i = (k : Int)) (hD : dp < 870) (hU : un < 8980)
   (ret : ∀ h' tk' r ob, Fr h₀ L h' m → News h₀ L h' ((r, ob) :: news) → (∀ q ∈ news, q.1 ≠ r) → DatIn [(r, ob)] (.ref r) tree → Q (.ref r) { s with heap := h', toks := tk' }) :
   wpAny (model Challenge.rw_pq0141_01.row.prog w) ⟨none, dp, fr, gd, un⟩ (call (.ref 153) [.ref l, .int i tk]) Q E s :=
  P.use (fun b o e => F.keep _ _ (hb b o e)) (X.keeps F.keep) (T.keeps F.keep) hi hD hU fun h' tk' r ob K' hd => ret h' tk' r ob (fr_on F K'.1) (news_in F N K') (news_ne N K' _ (.head _)) hd
variable {hB bs : Heap} {l lv x0 d0 o0 r0 kn e r1 r2 : Addr} {u1 u2 : Tok} {vs os rs : List Value} {k no nr : Nat} {tk k1 k2 k3 k4 k5 k6 : Tok} {vw va : Value}
set_option maxRecDepth 100000 in
set_option maxHeartbeats 8000000 in
theorem funcs (X : (kfrag.heap_1 w.params).In s.heap) (T : Top p loose mean mg mb s.heap) (hD : dp < 870) (hU : un < 8980)
   (ret : ∀ h' tk' q n ws, NewIn s.heap h' [(q, PySem.W.listOf (strValues ws).toArray n)] → StrsAre (strValues ws) (ws.map fun x => x.1) → (ws.map fun x => x.1).any (· == Str.ofString "THEN") = false → (ws.map fun x => x.1).any (· == Str.ofString "ELSE") = false → Q (.ref q) { s with heap := h', toks := tk' }) :
   wpAny (model Challenge.rw_pq0141_01.row.prog w) ⟨none, dp, fr, gd, un⟩ (call (.ref 21) []) Q E s := by
  revert X; k_fill; intro X
  (k_dflt (refine' ro_enter ?zk3x19 ?zk5x19 ?zk8x19 ?zk6x19 ?zk7x19 ?zk9x19 ?zkBx19 ?_ ?zc2x19 ?zc3x19 ?zc4x19 ?zc5x19; (case zk3x19 => assumption); (case zk5x19 => assumption); (case zk6x19 => k_is); (case zk7x19 => k_is); (case zk8x19 => simp only [recursionLimit]; omega); (case zk9x19 => exact BindsTo.of_eq rfl); (case zc5x19 => decide); (case zkBx19 => exact locs rfl); (case zc2x19 => exact rfl); (case zc3x19 => exact rfl); (case zc4x19 => exact rfl); k_whole; intro _ _ _ _ _; (try dsimp only); (try k_fold)))
  k_steps
  rename_i e _ _ _ _
  exact ret _ _ _ _ _ (newIn_of (by k_asm) (by k_asm) (List.forall_mem_cons.mpr ⟨by k_mem, List.forall_mem_nil _⟩)) (by assumption) (by rw [e]; decide +kernel) (by rw [e]; decide +kernel)
set_option maxRecDepth 100000 in
set_option maxHeartbeats 8000000 in
theorem tkO  {t : Str × Str} {tree : Dat} (X : (kfrag.heap_1 w.params).In hB) (T : Top p loose mean mg mb hB) (hs : hB.StaysIn s.heap) (hb : bs.StaysIn hB) (hl : bs.IsList l vs.toArray) (hn : vs.length < 1000) (hD : dp < 860) (hU : un < 8970) 
   (htk : TokAt bs vs k t) (P : PoSpec w bs l k tree) (hlv : s.heap.IsList lv #[.ref x0]) (hI : InstAt s.heap x0 (instObj 121 d0) 121 (some (dictOf (lvEs w k1 k2 k3 k4 k5 (.str (Str.ofString "top") k6) vw va (.ref o0) (.ref r0)) 5))) (ho : s.heap.get? o0 = some (PySem.W.listOf os.toArray no)) (hoB : hB.get? o0 = none) (hne1 : lv ≠ o0) (hne2 : x0 ≠ o0) (hne3 : d0 ≠ o0) (hlen : os.length < 1000)
   (ret : ∀ h' tk' q nq r ob u1, Mu s.heap h' [o0] [(o0, PySem.W.listOf (os.toArray.push (.ref r)) (no + 1))] [(q, tupOf [.int ((k : Int) + 1) u1, .bool true] nq), (r, ob)] → DatIn [(r, ob)] (.ref r) tree → Q (.ref q) { s with heap := h', toks := tk' }) :
   wpAny (model Challenge.rw_pq0141_01.row.prog w) ⟨none, dp, fr, gd, un⟩ (call (.ref 160) [.ref lv, .ref l, .int (k : Int) tk, .ref kn]) Q E s := by
  revert X; k_fill; intro X
  obtain ⟨⟨s1, s2⟩, a, t1, t2, hv, ht⟩ := htk
  refine wpAny_call ?_
  (k_dflt (refine' mu_code [(o0, PySem.W.listOf os.toArray no)] ?k3 ?k5 ?kb ?km ?k8 ?k6 ?k7 ?k9 ?kB ?_ ?c2 ?c3 ?c4 ?c5; (case k3 => assumption); (case k5 => assumption); (case k6 => k_is); (case k7 => k_is); (case k8 => k_room); (case k9 => exact BindsTo.of_eq rfl); (case c5 => decide); (case kB => exact locs rfl); (case c2 => exact rfl); (case c3 => exact rfl); (case c4 => exact rfl); (case kb => assumption); (case km => exact fun q hq => by rw [List.mem_singleton.mp hq]; exact ⟨ho, hoB⟩)))
  intro g L h₁ tk' st kg _ Xg Tg F N
  have hlg := stays_list (fun b o e => st b o (hb b o e)) hl
  have htg := stays_tup (fun b o e => st b o (hb b o e)) ht
  have hlvg : g.IsList lv #[.ref x0] := by
    obtain ⟨o, e, r⟩ := hlv
    exact ⟨o, kg _ _ e (by simpa using hne1), r⟩
  have hIg : InstAt g x0 (instObj 121 d0) 121 (some (dictOf (lvEs w k1 k2 k3 k4 k5 (.str (Str.ofString "top") k6) vw va (.ref o0) (.ref r0)) 5)) := by
    obtain ⟨a, b, c, d⟩ := hI
    exact ⟨kg _ _ a (by simpa using hne2), b, c, kg _ _ d (by simpa using hne3)⟩
  have hbg : bs.StaysIn g := fun b o e => st b o (hb b o e)
  clear hl ht hlv hI X T
  (try dsimp only)
  (try k_fold)
  k_steps
  (k_dflt refine po_use P (by k_asm) (by k_asm) (by k_asm) (by k_asm) hbg rfl (by walk_at "down") (by walk_at "down") ?_)
  intro h' tk' r ob F' N' hne hd
  (try k_sweep)
  k_steps
  exact ret _ _ _ _ _ _ _ (mu_of (by k_asm) (by k_asm) kg (List.forall_mem_cons.mpr ⟨by k_mem, List.forall_mem_nil _⟩) (List.forall_mem_cons.mpr ⟨by k_mem, List.forall_mem_cons.mpr ⟨by k_mem, List.forall_mem_nil _⟩⟩) (List.forall_mem_cons.mpr ⟨by (simp only [List.mem_cons, List.not_mem_nil, or_false, not_or]; first | k_ne | exact ⟨by k_ne, by k_ne⟩), List.forall_mem_cons.mpr ⟨by (simp only [List.mem_cons, List.not_mem_nil, or_false, not_or]; first | k_ne | exact ⟨by k_ne, by k_ne⟩), List.forall_mem_nil _⟩⟩)) hd
set_option maxRecDepth 100000 in
set_option maxHeartbeats 8000000 in
theorem tkN  {t : Str × Str} (X : (kfrag.heap_1 w.params).In hB) (T : Top p loose mean mg mb hB) (hs : hB.StaysIn s.heap) (hb : bs.StaysIn hB) (hl : bs.IsList l vs.toArray) (hn : vs.length < 1000) (hD : dp < 860) (hU : un < 8970) 
   (htk : TokAt bs vs k (Str.ofString "sign", Str.ofString "-")) (htk2 : TokAt bs vs (k + 1) t) (hnt : t ≠ (Str.ofString "sign", Str.ofString "(")) (hlv : s.heap.IsList lv #[.ref x0]) (hI : InstAt s.heap x0 (instObj 121 d0) 121 (some (dictOf (lvEs w k1 k2 k3 k4 k5 (.str (Str.ofString "top") k6) vw va (.ref o0) (.ref r0)) 5))) (hr : s.heap.get? r0 = some (PySem.W.listOf rs.toArray nr)) (hrB : hB.get? r0 = none) (hne1 : lv ≠ r0) (hne2 : x0 ≠ r0) (hne3 : d0 ≠ r0) (hlen : rs.length < 1000)
   (ret : ∀ h' tk' q nq e ne u1 u2 u3, Mu s.heap h' [r0] [(r0, PySem.W.listOf (rs.toArray.push (.ref e)) (nr + 1))] [(q, tupOf [.int ((k : Int) + 1) u1, .bool false] nq), (e, tupOf [.str (Str.ofString "neg") u2, .int 12 u3] ne)] → Q (.ref q) { s with heap := h', toks := tk' }) :
   wpAny (model Challenge.rw_pq0141_01.row.prog w) ⟨none, dp, fr, gd, un⟩ (call (.ref 160) [.ref lv, .ref l, .int (k : Int) tk, .ref kn]) Q E s := by
  revert X; k_fill; intro X
  obtain ⟨⟨s1, s2⟩, a, t1, t2, hv, ht⟩ := htk
  obtain ⟨⟨s3, s4⟩, a2, t3, t4, hv2, ht2⟩ := htk2
  refine wpAny_call ?_
  (k_dflt (refine' mu_code [(r0, PySem.W.listOf rs.toArray nr)] ?k3 ?k5 ?kb ?km ?k8 ?k6 ?k7 ?k9 ?kB ?_ ?c2 ?c3 ?c4 ?c5; (case k3 => assumption); (case k5 => assumption); (case k6 => k_is); (case k7 => k_is); (case k8 => k_room); (case k9 => exact BindsTo.of_eq rfl); (case c5 => decide); (case kB => exact locs rfl); (case c2 => exact rfl); (case c3 => exact rfl); (case c4 => exact rfl); (case kb => assumption); (case km => exact fun q hq => by rw [List.mem_singleton.mp hq]; exact ⟨hr, hrB⟩)))
  intro g L h₁ tk' st kg _ Xg Tg F N
  have hlg := stays_list (fun b o e => st b o (hb b o e)) hl
  have htg := stays_tup (fun b o e => st b o (hb b o e)) ht
  have htg2 := stays_tup (fun b o e => st b o (hb b o e)) ht2
  have hlvg : g.IsList lv #[.ref x0] := by
    obtain ⟨o, e, r⟩ := hlv
    exact ⟨o, kg _ _ e (by simpa using hne1), r⟩
  have hIg : InstAt g x0 (instObj 121 d0) 121 (some (dictOf (lvEs w k1 k2 k3 k4 k5 (.str (Str.ofString "top") k6) vw va (.ref o0) (.ref r0)) 5)) := by
    obtain ⟨a, b, c, d⟩ := hI
    exact ⟨kg _ _ a (by simpa using hne2), b, c, kg _ _ d (by simpa using hne3)⟩
  clear hl ht ht2 hlv hI X T
  (try dsimp only)
  (try k_fold)
  k_steps
  (k_dflt refine poS s2 (by k_in) (Top.keeps (by k_asm) (Fr.keep (by k_asm))) (by walk_at "down") (by walk_at "down") (Fr.lst (by k_asm) (by assumption)) hn rfl hv (IsTup.keeps htg (Fr.keep (by k_asm))) hv2 (IsTup.keeps htg2 (Fr.keep (by k_asm))) s3 s4 hnt ?_)
  intro h' tk' K'
  (with_reducible rename Fr _ _ _ _ => kF); (with_reducible rename News _ _ _ _ => kN)
  have F' := fr_on kF K'
  have N' := news_on kN K'
  clear kF kN
  k_steps
  exact ret _ _ _ _ _ _ _ _ _ (mu_of (by k_asm) (by k_asm) kg (List.forall_mem_cons.mpr ⟨by k_mem, List.forall_mem_nil _⟩) (List.forall_mem_cons.mpr ⟨by k_mem, List.forall_mem_cons.mpr ⟨by k_mem, List.forall_mem_nil _⟩⟩) (List.forall_mem_cons.mpr ⟨by (simp only [List.mem_cons, List.not_mem_nil, or_false, not_or]; first | k_ne | exact ⟨by k_ne, by k_ne⟩), List.forall_mem_cons.mpr ⟨by (simp only [List.mem_cons, List.not_mem_nil, or_false, not_or]; first | k_ne | exact ⟨by k_ne, by k_ne⟩), List.forall_mem_nil _⟩⟩))
set_option maxRecDepth 100000 in
set_option maxHeartbeats 8000000 in
theorem joinE  {st : Int} (X : (kfrag.heap_1 w.params).In s.heap) (T : Top p loose mean mg mb s.heap) (hD : dp < 870) (hU : un < 8980) (hI : InstAt s.heap x0 (instObj 121 d0) 121 (some (dictOf (lvEs w k1 k2 k3 k4 k5 (.str (Str.ofString "top") k6) vw va (.ref o0) (.ref r0)) 5))) (hr : s.heap.IsList r0 #[])
   (ret : ∀ h' tk', (∀ b o, s.heap.get? b = some o → h'.get? b = some o) → Q .none { s with heap := h', toks := tk' }) :
   wpAny (model Challenge.rw_pq0141_01.row.prog w) ⟨none, dp, fr, gd, un⟩ (call (.ref 132) [.ref x0, .int st tk]) Q E s := by
  revert X; k_fill; intro X
  (k_dflt (refine' ro_enter ?zk3x24 ?zk5x24 ?zk8x24 ?zk6x24 ?zk7x24 ?zk9x24 ?zkBx24 ?_ ?zc2x24 ?zc3x24 ?zc4x24 ?zc5x24; (case zk3x24 => assumption); (case zk5x24 => assumption); (case zk6x24 => k_is); (case zk7x24 => k_is); (case zk8x24 => simp only [recursionLimit]; omega); (case zk9x24 => exact BindsTo.of_eq rfl); (case zc5x24 => decide); (case zkBx24 => exact locs rfl); (case zc2x24 => exact rfl); (case zc3x24 => exact rfl); (case zc4x24 => exact rfl); k_whole; intro _ _ _ _ _; (try dsimp only); (try k_fold)))
  k_steps
  exact ret _ _ (Fr.keep (by k_asm))
set_option maxRecDepth 100000 in
set_option maxHeartbeats 8000000 in
theorem opP  (X : (kfrag.heap_1 w.params).In hB) (T : Top p loose mean mg mb hB) (hs : hB.StaysIn s.heap) (hb : bs.StaysIn hB) (hl : bs.IsList l vs.toArray) (hn : vs.length < 1000) (hD : dp < 860) (hU : un < 8970) 
   (htk : TokAt bs vs k (Str.ofString "sign", Str.ofString "+")) (hlv : s.heap.IsList lv #[.ref x0]) (hI : InstAt s.heap x0 (instObj 121 d0) 121 (some (dictOf (lvEs w k1 k2 k3 k4 k5 (.str (Str.ofString "top") k6) vw va (.ref o0) (.ref r0)) 5))) (hr : s.heap.get? r0 = some (PySem.W.listOf #[] nr)) (hrB : hB.get? r0 = none) (hne1 : lv ≠ r0) (hne2 : x0 ≠ r0) (hne3 : d0 ≠ r0)
   (ret : ∀ h' tk' q nq e ne u1 u2 u3 u4, Mu s.heap h' [r0] [(r0, PySem.W.listOf #[.ref e] (nr + 1))] [(q, tupOf [.int ((k : Int) + 1) u1, .str (Str.ofString "operand") u4] nq), (e, tupOf [.str (Str.ofString "+") u2, .int 8 u3] ne)] → Q (.ref q) { s with heap := h', toks := tk' }) :
   wpAny (model Challenge.rw_pq0141_01.row.prog w) ⟨none, dp, fr, gd, un⟩ (call (.ref 167) [.ref lv, .ref l, .int (k : Int) tk]) Q E s := by
  revert X; k_fill; intro X
  obtain ⟨⟨s1, s2⟩, a, t1, t2, hv, ht⟩ := htk
  refine wpAny_call ?_
  (k_dflt (refine' mu_code [(r0, PySem.W.listOf #[] nr)] ?k3 ?k5 ?kb ?km ?k8 ?k6 ?k7 ?k9 ?kB ?_ ?c2 ?c3 ?c4 ?c5; (case k3 => assumption); (case k5 => assumption); (case k6 => k_is); (case k7 => k_is); (case k8 => k_room); (case k9 => exact BindsTo.of_eq rfl); (case c5 => decide); (case kB => exact locs rfl); (case c2 => exact rfl); (case c3 => exact rfl); (case c4 => exact rfl); (case kb => assumption); (case km => exact fun q hq => by rw [List.mem_singleton.mp hq]; exact ⟨hr, hrB⟩)))
  intro g L h₁ tk' st kg _ Xg Tg F N
  have hlg := stays_list (fun b o e => st b o (hb b o e)) hl
  have htg := stays_tup (fun b o e => st b o (hb b o e)) ht
  have hlvg : g.IsList lv #[.ref x0] := by
    obtain ⟨o, e, r⟩ := hlv
    exact ⟨o, kg _ _ e (by simpa using hne1), r⟩
  have hIg : InstAt g x0 (instObj 121 d0) 121 (some (dictOf (lvEs w k1 k2 k3 k4 k5 (.str (Str.ofString "top") k6) vw va (.ref o0) (.ref r0)) 5)) := by
    obtain ⟨a, b, c, d⟩ := hI
    exact ⟨kg _ _ a (by simpa using hne2), b, c, kg _ _ d (by simpa using hne3)⟩
  clear hl ht hlv hI X T
  (try dsimp only)
  (try k_fold)
  k_steps
  (k_dflt refine joinE (by k_in) (Top.keeps (by k_asm) (Fr.keep (by k_asm))) (by walk_at "down") (by walk_at "down") (inst_keeps hIg (Fr.keep (by k_asm))) (News.isList (by k_asm) (by k_mem)) ?_)
  intro h' tk' K'
  (with_reducible rename Fr _ _ _ _ => kF); (with_reducible rename News _ _ _ _ => kN)
  have F' := fr_on kF K'
  have N' := news_on kN K'
  clear kF kN
  k_steps
  exact ret _ _ _ _ _ _ _ _ _ _ (mu_of (by k_asm) (by k_asm) kg (List.forall_mem_cons.mpr ⟨by k_mem, List.forall_mem_nil _⟩) (List.forall_mem_cons.mpr ⟨by k_mem, List.forall_mem_cons.mpr ⟨by k_mem, List.forall_mem_nil _⟩⟩) (List.forall_mem_cons.mpr ⟨by (simp only [List.mem_cons, List.not_mem_nil, or_false, not_or]; first | k_ne | exact ⟨by k_ne, by k_ne⟩), List.forall_mem_cons.mpr ⟨by (simp only [List.mem_cons, List.not_mem_nil, or_false, not_or]; first | k_ne | exact ⟨by k_ne, by k_ne⟩), List.forall_mem_nil _⟩⟩))
set_option maxRecDepth 100000 in
set_option maxHeartbeats 8000000 in
theorem in52 {h₀ : Heap} {L : Addr} {m : Str → Option Value} {news : List (Addr × Obj)} {A : Around} {td : Str} (F : Fr h₀ L s.heap m) (N : News h₀ L s.heap news) (X : (kfrag.heap_1 w.params).In h₀) (T : Top p loose mean mg mb h₀) (h5 : td ∈ [Str.ofString "", Str.ofString "t", Str.ofString ",", Str.ofString ")", Str.ofString ";", Str.ofString "THEN", Str.ofString "ELSE"])
   (ret : ∀ tk', Q (.bool false) { s with toks := tk' }) : wpAny (model Challenge.rw_pq0141_01.row.prog w) A (compareOp .In (.str td tk) (.ref 52)) Q E s := by
  revert X; k_fill; intro X
  simp only [List.mem_cons, List.not_mem_nil, or_false] at h5
  rcases h5 with rfl | rfl | rfl | rfl | rfl | rfl | rfl
  all_goals k_steps
  all_goals exact ret _
local macro_rules | `(tactic| walk_at "compareOp In str ref") => `(tactic| (k_here; (with_reducible show wpAny _ _ (compareOp CmpOp.In (Value.str _ _) (Value.ref 52)) _ _ _); k_dflt (refine in52 (by k_asm) (by k_asm) (by k_asm) (by k_asm) (by assumption) ?_); intro tk'))
set_option maxRecDepth 100000 in
set_option maxHeartbeats 8000000 in
theorem opE  {kd td : Str} (X : (kfrag.heap_1 w.params).In s.heap) (T : Top p loose mean mg mb s.heap) (hb : bs.StaysIn s.heap) (hl : bs.IsList l vs.toArray) (hn : vs.length < 1000) (hD : dp < 860) (hU : un < 8970) 
   (htk : TokAt bs vs k (kd, td)) (h5 : td ∈ [Str.ofString "", Str.ofString "t", Str.ofString ",", Str.ofString ")", Str.ofString ";", Str.ofString "THEN", Str.ofString "ELSE"]) (hlv : s.heap.IsList lv #[.ref x0]) (hI : InstAt s.heap x0 (instObj 121 d0) 121 (some (dictOf (lvEs w k1 k2 k3 k4 k5 (.str (Str.ofString "top") k6) vw va (.ref o0) (.ref r0)) 5)))
   (ret : ∀ h' tk' q nq u1 u2, NewIn s.heap h' [(q, tupOf [.int (k : Int) u1, .str (Str.ofString "end") u2] nq)] → Q (.ref q) { s with heap := h', toks := tk' }) :
   wpAny (model Challenge.rw_pq0141_01.row.prog w) ⟨none, dp, fr, gd, un⟩ (call (.ref 167) [.ref lv, .ref l, .int (k : Int) tk]) Q E s := by
  revert X; k_fill; intro X
  obtain ⟨⟨s1, s2⟩, a, t1, t2, hv, ht⟩ := htk
  have hlg := stays_list hb hl
  have htg := stays_tup hb ht
  (k_dflt (refine' ro_enter ?zk3x27 ?zk5x27 ?zk8x27 ?zk6x27 ?zk7x27 ?zk9x27 ?zkBx27 ?_ ?zc2x27 ?zc3x27 ?zc4x27 ?zc5x27; (case zk3x27 => assumption); (case zk5x27 => assumption); (case zk6x27 => k_is); (case zk7x27 => k_is); (case zk8x27 => simp only [recursionLimit]; omega); (case zk9x27 => exact BindsTo.of_eq rfl); (case zc5x27 => decide); (case zkBx27 => exact locs rfl); (case zc2x27 => exact rfl); (case zc3x27 => exact rfl); (case zc4x27 => exact rfl); k_whole; intro _ _ _ _ _; (try dsimp only); (try k_fold)))
  k_steps
  all_goals exact ret _ _ _ _ _ _ (newIn_of (by k_asm) (by k_asm) (List.forall_mem_cons.mpr ⟨by k_mem, List.forall_mem_nil _⟩))
set_option maxRecDepth 100000 in
set_option maxHeartbeats 8000000 in
theorem joinN (X : (kfrag.heap_1 w.params).In hB) (T : Top p loose mean mg mb hB) (hs : hB.StaysIn s.heap) (hD : dp < 860) (hU : un < 8970) (hI : InstAt s.heap x0 (instObj 121 d0) 121 (some (dictOf (lvEs w k1 k2 k3 k4 k5 (.str (Str.ofString "top") k6) vw va (.ref o0) (.ref r0)) 5))) (hn1 : x0 ≠ o0) (hn2 : x0 ≠ r0) (hn3 : d0 ≠ o0) (hn4 : d0 ≠ r0) (ho : s.heap.get? o0 = some (PySem.W.listOf #[.ref r1] no)) (hoB : hB.get? o0 = none) (hr : s.heap.get? r0 = some (PySem.W.listOf #[.ref e] nr)) (hrB : hB.get? r0 = none) 
   (hor : o0 ≠ r0) (he : IsTup s.heap e #[.str (Str.ofString "neg") u1, .int 12 u2]) (he1 : e ≠ o0) (he2 : e ≠ r0)
   (ret : ∀ h' tk' t nt no' nr' u3, Mu s.heap h' [o0, r0] [(o0, PySem.W.listOf #[.ref t] no'), (r0, PySem.W.listOf #[] nr')] [(t, tupOf [.str (Str.ofString "neg") u3, .ref r1] nt)] → Q .none { s with heap := h', toks := tk' }) :
   wpAny (model Challenge.rw_pq0141_01.row.prog w) ⟨none, dp, fr, gd, un⟩ (call (.ref 132) [.ref x0, .int 0 tk]) Q E s := by
  revert X; k_fill; intro X
  refine wpAny_call ?_
  (k_dflt (refine' mu_code [(o0, PySem.W.listOf #[.ref r1] no), (r0, PySem.W.listOf #[.ref e] nr)] ?k3 ?k5 ?kb ?km ?k8 ?k6 ?k7 ?k9 ?kB ?_ ?c2 ?c3 ?c4 ?c5; (case k3 => assumption); (case k5 => assumption); (case k6 => k_is); (case k7 => k_is); (case k8 => k_room); (case k9 => exact BindsTo.of_eq rfl); (case c5 => decide); (case kB => exact locs rfl); (case c2 => exact rfl); (case c3 => exact rfl); (case c4 => exact rfl); (case kb => assumption); (case km => exact (List.forall_mem_cons.mpr ⟨⟨ho, hoB⟩, List.forall_mem_cons.mpr ⟨⟨hr, hrB⟩, List.forall_mem_nil _⟩⟩))))
  intro g L h₁ tk' st kg _ Xg Tg F N
  have hIg : InstAt g x0 (instObj 121 d0) 121 (some (dictOf (lvEs w k1 k2 k3 k4 k5 (.str (Str.ofString "top") k6) vw va (.ref o0) (.ref r0)) 5)) := by
    obtain ⟨a, b, c, d⟩ := hI
    exact ⟨kg _ _ a (by simp [hn1, hn2]), b, c, kg _ _ d (by simp [hn3, hn4])⟩
  have heg : IsTup g e #[.str (Str.ofString "neg") u1, .int 12 u2] := by
    obtain ⟨o, q, r⟩ := he
    exact ⟨o, kg _ _ q (by simp [he1, he2]), r⟩
  clear hI he X T
  (try dsimp only)
  (try k_fold)
  k_steps
  exact ret _ _ _ _ _ _ _ (mu_of (by k_asm) (by k_asm) kg (List.forall_mem_cons.mpr ⟨by k_mem, List.forall_mem_cons.mpr ⟨by k_mem, List.forall_mem_nil _⟩⟩) (List.forall_mem_cons.mpr ⟨by k_mem, List.forall_mem_nil _⟩) (List.forall_mem_cons.mpr ⟨by (simp only [List.mem_cons, List.not_mem_nil, or_false, not_or]; first | k_ne | exact ⟨by k_ne, by k_ne⟩), List.forall_mem_nil _⟩))
set_option maxRecDepth 100000 in
set_option maxHeartbeats 8000000 in
theorem joinP (X : (kfrag.heap_1 w.params).In hB) (T : Top p loose mean mg mb hB) (hs : hB.StaysIn s.heap) (hD : dp < 860) (hU : un < 8970) (hI : InstAt s.heap x0 (instObj 121 d0) 121 (some (dictOf (lvEs w k1 k2 k3 k4 k5 (.str (Str.ofString "top") k6) vw va (.ref o0) (.ref r0)) 5))) (hn1 : x0 ≠ o0) (hn2 : x0 ≠ r0) (hn3 : d0 ≠ o0) (hn4 : d0 ≠ r0) (ho : s.heap.get? o0 = some (PySem.W.listOf #[.ref r1, .ref r2] no)) (hoB : hB.get? o0 = none) (hr : s.heap.get? r0 = some (PySem.W.listOf #[.ref e] nr)) (hrB : hB.get? r0 = none) 
   (hor : o0 ≠ r0) (he : IsTup s.heap e #[.str (Str.ofString "+") u1, .int 8 u2]) (he1 : e ≠ o0) (he2 : e ≠ r0)
   (ret : ∀ h' tk' t nt no' nr' u3 u4, Mu s.heap h' [o0, r0] [(o0, PySem.W.listOf #[.ref t] no'), (r0, PySem.W.listOf #[] nr')] [(t, tupOf [.str (Str.ofString "two") u3, .str (Str.ofString "+") u4, .ref r1, .ref r2] nt)] → Q .none { s with heap := h', toks := tk' }) :
   wpAny (model Challenge.rw_pq0141_01.row.prog w) ⟨none, dp, fr, gd, un⟩ (call (.ref 132) [.ref x0, .int 0 tk]) Q E s := by
  revert X; k_fill; intro X
  refine wpAny_call ?_
  (k_dflt (refine' mu_code [(o0, PySem.W.listOf #[.ref r1, .ref r2] no), (r0, PySem.W.listOf #[.ref e] nr)] ?k3 ?k5 ?kb ?km ?k8 ?k6 ?k7 ?k9 ?kB ?_ ?c2 ?c3 ?c4 ?c5; (case k3 => assumption); (case k5 => assumption); (case k6 => k_is); (case k7 => k_is); (case k8 => k_room); (case k9 => exact BindsTo.of_eq rfl); (case c5 => decide); (case kB => exact locs rfl); (case c2 => exact rfl); (case c3 => exact rfl); (case c4 => exact rfl); (case kb => assumption); (case km => exact (List.forall_mem_cons.mpr ⟨⟨ho, hoB⟩, List.forall_mem_cons.mpr ⟨⟨hr, hrB⟩, List.forall_mem_nil _⟩⟩))))
  intro g L h₁ tk' st kg _ Xg Tg F N
  have hIg : InstAt g x0 (instObj 121 d0) 121 (some (dictOf (lvEs w k1 k2 k3 k4 k5 (.str (Str.ofString "top") k6) vw va (.ref o0) (.ref r0)) 5)) := by
    obtain ⟨a, b, c, d⟩ := hI
    exact ⟨kg _ _ a (by simp [hn1, hn2]), b, c, kg _ _ d (by simp [hn3, hn4])⟩
  have heg : IsTup g e #[.str (Str.ofString "+") u1, .int 8 u2] := by
    obtain ⟨o, q, r⟩ := he
    exact ⟨o, kg _ _ q (by simp [he1, he2]), r⟩
  clear hI he X T
  (try dsimp only)
  (try k_fold)
  k_steps
  exact ret _ _ _ _ _ _ _ _ (mu_of (by k_asm) (by k_asm) kg (List.forall_mem_cons.mpr ⟨by k_mem, List.forall_mem_cons.mpr ⟨by k_mem, List.forall_mem_nil _⟩⟩) (List.forall_mem_cons.mpr ⟨by k_mem, List.forall_mem_nil _⟩) (List.forall_mem_cons.mpr ⟨by (simp only [List.mem_cons, List.not_mem_nil, or_false, not_or]; first | k_ne | exact ⟨by k_ne, by k_ne⟩), List.forall_mem_nil _⟩))
set_option maxRecDepth 100000 in
set_option maxHeartbeats 8000000 in
theorem finA (X : (kfrag.heap_1 w.params).In hB) (T : Top p loose mean mg mb hB) (hs : hB.StaysIn s.heap) (hD : dp < 850) (hU : un < 8960) (hI : InstAt s.heap x0 (instObj 121 d0) 121 (some (dictOf (lvEs w k1 k2 k3 k4 k5 (.str (Str.ofString "top") k6) vw va (.ref o0) (.ref r0)) 5))) (hn1 : x0 ≠ o0) (hn3 : d0 ≠ o0) (ho : s.heap.get? o0 = some (PySem.W.listOf #[.ref r1] no)) (hoB : hB.get? o0 = none) (hr : s.heap.IsList r0 #[]) (hor : r0 ≠ o0)
   (ret : ∀ h' tk', Mu s.heap h' [o0] [] [] → Q (.ref r1) { s with heap := h', toks := tk' }) :
   wpAny (model Challenge.rw_pq0141_01.row.prog w) ⟨none, dp, fr, gd, un⟩ (call (.ref 139) [.ref x0]) Q E s := by
  revert X; k_fill; intro X
  refine wpAny_call ?_
  (k_dflt (refine' mu_code [(o0, PySem.W.listOf #[.ref r1] no)] ?k3 ?k5 ?kb ?km ?k8 ?k6 ?k7 ?k9 ?kB ?_ ?c2 ?c3 ?c4 ?c5; (case k3 => assumption); (case k5 => assumption); (case k6 => k_is); (case k7 => k_is); (case k8 => k_room); (case k9 => exact BindsTo.of_eq rfl); (case c5 => decide); (case kB => exact locs rfl); (case c2 => exact rfl); (case c3 => exact rfl); (case c4 => exact rfl); (case kb => assumption); (case km => exact fun q hq => by rw [List.mem_singleton.mp hq]; exact ⟨ho, hoB⟩)))
  intro g L h₁ tk' st kg _ Xg Tg F N
  have hIg : InstAt g x0 (instObj 121 d0) 121 (some (dictOf (lvEs w k1 k2 k3 k4 k5 (.str (Str.ofString "top") k6) vw va (.ref o0) (.ref r0)) 5)) := by
    obtain ⟨a, b, c, d⟩ := hI
    exact ⟨kg _ _ a (by simpa using hn1), b, c, kg _ _ d (by simpa using hn3)⟩
  have hrg : g.IsList r0 #[] := by
    obtain ⟨o, q, r⟩ := hr
    exact ⟨o, kg _ _ q (by simp [hor]), r⟩
  clear hI X T
  (try dsimp only)
  (try k_fold)
  k_steps
  (k_dflt refine joinE (by k_in) (Top.keeps (by k_asm) (Fr.keep (by k_asm))) (by walk_at "down") (by walk_at "down") (inst_keeps hIg (Fr.keep (by k_asm))) (Fr.lst (by k_asm) hrg) ?_)
  intro h' tk' K'
  (with_reducible rename Fr _ _ _ _ => kF); (with_reducible rename News _ _ _ _ => kN)
  have F' := fr_on kF K'
  have N' := news_on kN K'
  clear kF kN
  k_steps
  exact ret _ _ (mu_of (by k_asm) (by k_asm) kg (List.forall_mem_nil _) (List.forall_mem_nil _) (List.forall_mem_nil _))
set_option maxRecDepth 100000 in
set_option maxHeartbeats 8000000 in
theorem finN (X : (kfrag.heap_1 w.params).In hB) (T : Top p loose mean mg mb hB) (hs : hB.StaysIn s.heap) (hD : dp < 850) (hU : un < 8960) (hI : InstAt s.heap x0 (instObj 121 d0) 121 (some (dictOf (lvEs w k1 k2 k3 k4 k5 (.str (Str.ofString "top") k6) vw va (.ref o0) (.ref r0)) 5))) (hn1 : x0 ≠ o0) (hn2 : x0 ≠ r0) (hn3 : d0 ≠ o0) (hn4 : d0 ≠ r0) (ho : s.heap.get? o0 = some (PySem.W.listOf #[.ref r1] no)) (hoB : hB.get? o0 = none) (hr : s.heap.get? r0 = some (PySem.W.listOf #[.ref e] nr)) (hrB : hB.get? r0 = none) 
   (hor : o0 ≠ r0) (he : IsTup s.heap e #[.str (Str.ofString "neg") u1, .int 12 u2]) (he1 : e ≠ o0) (he2 : e ≠ r0)
   (ret : ∀ h' tk' t nt u3, Mu s.heap h' [o0, r0] [] [(t, tupOf [.str (Str.ofString "neg") u3, .ref r1] nt)] → Q (.ref t) { s with heap := h', toks := tk' }) :
   wpAny (model Challenge.rw_pq0141_01.row.prog w) ⟨none, dp, fr, gd, un⟩ (call (.ref 139) [.ref x0]) Q E s := by
  revert X; k_fill; intro X
  refine wpAny_call ?_
  (k_dflt (refine' mu_code [(o0, PySem.W.listOf #[.ref r1] no), (r0, PySem.W.listOf #[.ref e] nr)] ?k3 ?k5 ?kb ?km ?k8 ?k6 ?k7 ?k9 ?kB ?_ ?c2 ?c3 ?c4 ?c5; (case k3 => assumption); (case k5 => assumption); (case k6 => k_is); (case k7 => k_is); (case k8 => k_room); (case k9 => exact BindsTo.of_eq rfl); (case c5 => decide); (case kB => exact locs rfl); (case c2 => exact rfl); (case c3 => exact rfl); (case c4 => exact rfl); (case kb => assumption); (case km => exact (List.forall_mem_cons.mpr ⟨⟨ho, hoB⟩, List.forall_mem_cons.mpr ⟨⟨hr, hrB⟩, List.forall_mem_nil _⟩⟩))))
  intro g L h₁ tk' st kg _ Xg Tg F N
  have hIg : InstAt g x0 (instObj 121 d0) 121 (some (dictOf (lvEs w k1 k2 k3 k4 k5 (.str (Str.ofString "top") k6) vw va (.ref o0) (.ref r0)) 5)) := by
    obtain ⟨a, b, c, d⟩ := hI
    exact ⟨kg _ _ a (by simp [hn1, hn2]), b, c, kg _ _ d (by simp [hn3, hn4])⟩
  have heg : IsTup g e #[.str (Str.ofString "neg") u1, .int 12 u2] := by
    obtain ⟨o, q, r⟩ := he
    exact ⟨o, kg _ _ q (by simp [he1, he2]), r⟩
  clear hI he X T
  (try dsimp only)
  (try k_fold)
  k_steps
  (with_reducible rename Fr _ _ _ _ => kF); (with_reducible rename News _ _ _ _ => kN)
  (k_dflt refine joinN (hB := g) Xg Tg (Fr.keep (by k_asm)) (by walk_at "down") (by walk_at "down") (inst_keeps hIg (Fr.keep (by k_asm))) hn1 hn2 hn3 hn4 (kN.get (.head _)) (kN _ (.head _)).2.2 (kN.get (.tail _ (.head _))) (kN _ (.tail _ (.head _))).2.2 hor (IsTup.keeps heg (Fr.keep (by k_asm))) he1 he2 ?_)
  intro h' tk' t nt no' nr' u3 M
  have hk : ∀ c ∈ [o0, r0], ∃ o, (c, o) ∈ [(o0, PySem.W.listOf #[.ref r1] no), (r0, PySem.W.listOf #[.ref e] nr)] := List.forall_mem_cons.mpr ⟨⟨_, .head _⟩, List.forall_mem_cons.mpr ⟨⟨_, .tail _ (.head _)⟩, List.forall_mem_nil _⟩⟩
  have F' := fr_mu kF kN M hk
  have N' : News g L h' [(o0, PySem.W.listOf #[.ref t] no'), (r0, PySem.W.listOf #[] nr'), (t, tupOf [.str (Str.ofString "neg") u3, .ref r1] nt)] := fun q hq => mu_fact kF kN hk M (List.forall_mem_cons.mpr ⟨.head _, List.forall_mem_cons.mpr ⟨.tail _ (.head _), List.forall_mem_nil _⟩⟩) ((List.mem_append (s := [_, _]).mp hq).elim .inl fun q => .inr (.inl q))
  have hne := apart_of (mu_ne kN M)
  (repeat (have _ := And.left hne; replace hne := And.right hne))
  clear hne
  clear kF kN M
  k_steps
  exact ret _ _ _ _ _ (mu_of (by k_asm) (by k_asm) kg (List.forall_mem_nil _) (List.forall_mem_cons.mpr ⟨by k_mem, List.forall_mem_nil _⟩) (List.forall_mem_cons.mpr ⟨by (simp only [List.mem_cons, List.not_mem_nil, or_false, not_or]; first | k_ne | exact ⟨by k_ne, by k_ne⟩), List.forall_mem_nil _⟩))
set_option maxRecDepth 100000 in
set_option maxHeartbeats 8000000 in
theorem finP (X : (kfrag.heap_1 w.params).In hB) (T : Top p loose mean mg mb hB) (hs : hB.StaysIn s.heap) (hD : dp < 850) (hU : un < 8960) (hI : InstAt s.heap x0 (instObj 121 d0) 121 (some (dictOf (lvEs w k1 k2 k3 k4 k5 (.str (Str.ofString "top") k6) vw va (.ref o0) (.ref r0)) 5))) (hn1 : x0 ≠ o0) (hn2 : x0 ≠ r0) (hn3 : d0 ≠ o0) (hn4 : d0 ≠ r0) (ho : s.heap.get? o0 = some (PySem.W.listOf #[.ref r1, .ref r2] no)) (hoB : hB.get? o0 = none) (hr : s.heap.get? r0 = some (PySem.W.listOf #[.ref e] nr)) (hrB : hB.get? r0 = none) 
   (hor : o0 ≠ r0) (he : IsTup s.heap e #[.str (Str.ofString "+") u1, .int 8 u2]) (he1 : e ≠ o0) (he2 : e ≠ r0)
   (ret : ∀ h' tk' t nt u3 u4, Mu s.heap h' [o0, r0] [] [(t, tupOf [.str (Str.ofString "two") u3, .str (Str.ofString "+") u4, .ref r1, .ref r2] nt)] → Q (.ref t) { s with heap := h', toks := tk' }) :
   wpAny (model Challenge.rw_pq0141_01.row.prog w) ⟨none, dp, fr, gd, un⟩ (call (.ref 139) [.ref x0]) Q E s := by
  revert X; k_fill; intro X
  refine wpAny_call ?_
  (k_dflt (refine' mu_code [(o0, PySem.W.listOf #[.ref r1, .ref r2] no), (r0, PySem.W.listOf #[.ref e] nr)] ?k3 ?k5 ?kb ?km ?k8 ?k6 ?k7 ?k9 ?kB ?_ ?c2 ?c3 ?c4 ?c5; (case k3 => assumption); (case k5 => assumption); (case k6 => k_is); (case k7 => k_is); (case k8 => k_room); (case k9 => exact BindsTo.of_eq rfl); (case c5 => decide); (case kB => exact locs rfl); (case c2 => exact rfl); (case c3 => exact rfl); (case c4 => exact rfl); (case kb => assumption); (case km => exact (List.forall_mem_cons.mpr ⟨⟨ho, hoB⟩, List.forall_mem_cons.mpr ⟨⟨hr, hrB⟩, List.forall_mem_nil _⟩⟩))))
  intro g L h₁ tk' st kg _ Xg Tg F N
  have hIg : InstAt g x0 (instObj 121 d0) 121 (some (dictOf (lvEs w k1 k2 k3 k4 k5 (.str (Str.ofString "top") k6) vw va (.ref o0) (.ref r0)) 5)) := by
    obtain ⟨a, b, c, d⟩ := hI
    exact ⟨kg _ _ a (by simp [hn1, hn2]), b, c, kg _ _ d (by simp [hn3, hn4])⟩
  have heg : IsTup g e #[.str (Str.ofString "+") u1, .int 8 u2] := by
    obtain ⟨o, q, r⟩ := he
    exact ⟨o, kg _ _ q (by simp [he1, he2]), r⟩
  clear hI he X T
  (try dsimp only)
  (try k_fold)
  k_steps
  (with_reducible rename Fr _ _ _ _ => kF); (with_reducible rename News _ _ _ _ => kN)
  (k_dflt refine joinP (hB := g) Xg Tg (Fr.keep (by k_asm)) (by walk_at "down") (by walk_at "down") (inst_keeps hIg (Fr.keep (by k_asm))) hn1 hn2 hn3 hn4 (kN.get (.head _)) (kN _ (.head _)).2.2 (kN.get (.tail _ (.head _))) (kN _ (.tail _ (.head _))).2.2 hor (IsTup.keeps heg (Fr.keep (by k_asm))) he1 he2 ?_)
  intro h' tk' t nt no' nr' u3 u4 M
  have hk : ∀ c ∈ [o0, r0], ∃ o, (c, o) ∈ [(o0, PySem.W.listOf #[.ref r1, .ref r2] no), (r0, PySem.W.listOf #[.ref e] nr)] := List.forall_mem_cons.mpr ⟨⟨_, .head _⟩, List.forall_mem_cons.mpr ⟨⟨_, .tail _ (.head _)⟩, List.forall_mem_nil _⟩⟩
  have F' := fr_mu kF kN M hk
  have N' : News g L h' [(o0, PySem.W.listOf #[.ref t] no'), (r0, PySem.W.listOf #[] nr'), (t, tupOf [.str (Str.ofString "two") u3, .str (Str.ofString "+") u4, .ref r1, .ref r2] nt)] := fun q hq => mu_fact kF kN hk M (List.forall_mem_cons.mpr ⟨.head _, List.forall_mem_cons.mpr ⟨.tail _ (.head _), List.forall_mem_nil _⟩⟩) ((List.mem_append (s := [_, _]).mp hq).elim .inl fun q => .inr (.inl q))
  have hne := apart_of (mu_ne kN M)
  (repeat (have _ := And.left hne; replace hne := And.right hne))
  clear hne
  clear kF kN M
  k_steps
  exact ret _ _ _ _ _ _ (mu_of (by k_asm) (by k_asm) kg (List.forall_mem_nil _) (List.forall_mem_cons.mpr ⟨by k_mem, List.forall_mem_nil _⟩) (List.forall_mem_cons.mpr ⟨by (simp only [List.mem_cons, List.not_mem_nil, or_false, not_or]; first | k_ne | exact ⟨by k_ne, by k_ne⟩), List.forall_mem_nil _⟩))
end
section -- B9
open PySem PySem.W PyProof.Rows PySem.Calls PySem.Spec
variable {w : World} {p : Program} {loose : List Str} {mean : ExcName → Option Value} {mg mb : Str → Option Value} {dp un : Nat} {fr : Option (List Env)} {gd : Option (List Code)} {s : Shared} {Q E : Value → Shared → Prop}
theorem keys1 {news : List (Addr × Obj)} {a : Addr} {o : Obj} (h : (a, o) ∈ news) : ∀ c ∈ [a], ∃ o, (c, o) ∈ news := fun c hc => by rw [List.mem_singleton.mp hc]; exact ⟨o, h⟩
theorem keys2 {news : List (Addr × Obj)} {a b : Addr} {o q : Obj} (h : (a, o) ∈ news) (k : (b, q) ∈ news) : ∀ c ∈ [a, b], ∃ o, (c, o) ∈ news := fun c hc => by
  rcases List.mem_cons.mp hc with rfl | hc
  · exact ⟨o, h⟩
  · rw [List.mem_singleton.mp hc]; exact ⟨q, k⟩
inductive FormAt (w : World) (bs : Heap) (l : Addr) (vs : List Value) (k : Nat) : Dat → Nat → Prop
  | one {t : Str × Str} {tree : Dat} : TokAt bs vs k t → PoSpec w bs l k tree → FormAt w bs l vs k tree (k + 1)
  | neg {t : Str × Str} {tree : Dat} : TokAt bs vs k (Str.ofString "sign", Str.ofString "-") → TokAt bs vs (k + 1) t → t ≠ (Str.ofString "sign", Str.ofString "(") → PoSpec w bs l (k + 1) tree → FormAt w bs l vs k (.tuple [.str (Str.ofString "neg"), tree]) (k + 1 + 1)
  | two {t t2 : Str × Str} {tree tree2 : Dat} : TokAt bs vs k t → PoSpec w bs l k tree → TokAt bs vs (k + 1) (Str.ofString "sign", Str.ofString "+") → TokAt bs vs (k + 1 + 1) t2 → PoSpec w bs l (k + 1 + 1) tree2 → FormAt w bs l vs k (.tuple [.str (Str.ofString "two"), .str (Str.ofString "+"), tree, tree2]) (k + 1 + 1 + 1)
set_option maxRecDepth 100000 in
set_option maxHeartbeats 8000000 in
theorem expr {bs : Heap} {l : Addr} {vs : List Value} {k k' : Nat} {tk : Tok} {tree : Dat} {kd td : Str} (X : (kfrag.heap_1 w.params).In s.heap) (T : Top p loose mean mg mb s.heap) (hb : bs.StaysIn s.heap) (hl : bs.IsList l vs.toArray) (hn : vs.length < 1000) (hD : dp < 840) (hU : un < 8950) 
   (hF : FormAt w bs l vs k tree k') (htk : TokAt bs vs k' (kd, td)) (h7 : td ∈ [Str.ofString "", Str.ofString "t", Str.ofString ",", Str.ofString ")", Str.ofString ";", Str.ofString "THEN", Str.ofString "ELSE"])
   (ret : ∀ h' tk' q n v u tl, NewIn s.heap h' ((q, tupOf [v, .int (k' : Int) u] n) :: tl) → DatIn tl v tree → Q (.ref q) { s with heap := h', toks := tk' }) :
   wpAny (model Challenge.rw_pq0141_01.row.prog w) ⟨none, dp, fr, gd, un⟩ (call (.ref 174) [.ref l, .int (k : Int) tk]) Q E s := by
  revert X; k_fill; intro X
  (k_dflt (refine' ro_enter ?zk3x32 ?zk5x32 ?zk8x32 ?zk6x32 ?zk7x32 ?zk9x32 ?zkBx32 ?_ ?zc2x32 ?zc3x32 ?zc4x32 ?zc5x32; (case zk3x32 => assumption); (case zk5x32 => assumption); (case zk6x32 => k_is); (case zk7x32 => k_is); (case zk8x32 => simp only [recursionLimit]; omega); (case zk9x32 => exact BindsTo.of_eq rfl); (case zc5x32 => decide); (case zkBx32 => exact locs rfl); (case zc2x32 => exact rfl); (case zc3x32 => exact rfl); (case zc4x32 => exact rfl); k_whole; intro _ _ _ _ _; (try dsimp only); (try k_fold)))
  k_steps
  (k_dflt refine mkLevel (by k_asm) (by k_asm) (by k_asm) (by k_asm) (by walk_at "down") (by walk_at "down") ?_)
  intro h' tk' x d a0 o0 r0 k1 k2 k3 k4 k5 na no nr F' N' _ l1 l2 l3 l4
  (k_lt2 l1); (k_lt2 l2); (k_lt2 l3); (k_lt2 l4)
  (try k_sweep)
  k_steps
  (k_dflt refine funcs (by k_in) (Top.keeps (by k_asm) (Fr.keep (by k_asm))) (by walk_at "down") (by walk_at "down") ?_)
  intro h' tk' kn n ws K' _ _ _
  ((with_reducible rename Fr _ _ _ _ => zkF); (with_reducible rename News _ _ _ _ => zkN); (with_reducible rename NewIn _ _ _ => zkK); have zF := fr_on zkF zkK.1; have zN := news_in zkF zkN zkK; have zne := apart_of (news_ne zkN zkK); (try dsimp only [List.cons_append, List.nil_append] at zN); (repeat (have _ := And.left zne; replace zne := And.right zne)); clear zne zkF zkN zkK)
  k_steps
  cases hF
  case one t ht P =>
    (k_dflt (refine tkO (k := k) (hB := s.heap) (by k_asm) (by k_asm) (Fr.keep (by k_asm)) hb hl hn (by walk_at "down") (by walk_at "down") ht P (News.isList (by k_asm) (by k_mem)) (InstAt.of_news (by k_asm) (by k_mem) (by k_mem)) (News.get (by k_asm) (by k_mem)) (News.fresh (by k_asm) (by k_mem)) (by k_ne) (by k_ne) (by k_ne) (by first | decide | (simp only [List.length_cons, List.length_nil]; omega)) ?_))
    intro h' tk' q nq r ob u1 M hd
    ((with_reducible rename Fr _ _ _ _ => zkF); (with_reducible rename News _ _ _ _ => zkN); (rename Mu _ _ _ _ _ => zkM); have zne := apart_of (mu_ne zkN zkM); k_dflt (have zN := news_mu1 zkF zkN (by k_upd) zkM); k_dflt (have zF := fr_mu1 zkF zkN (by k_upd) zkM); (try dsimp only [List.cons_append, List.nil_append] at zN); (try simp only [List.push_toArray, List.cons_append, List.nil_append] at zN); (repeat (have _ := And.left zne; replace zne := And.right zne)); clear zne zkF zkN zkM)
    k_steps
    (k_dflt (refine opE (k := k + 1) (by k_in) (Top.keeps (by k_asm) (Fr.keep (by k_asm))) (fun b o e => Fr.keep (by k_asm) _ _ (hb b o e)) hl hn (by walk_at "down") (by walk_at "down") htk h7 (News.isList (by k_asm) (by k_mem)) (InstAt.of_news (by k_asm) (by k_mem) (by k_mem)) ?_))
    intro h' tk' q2 nq2 u3 u4 K'
    ((with_reducible rename Fr _ _ _ _ => zkF); (with_reducible rename News _ _ _ _ => zkN); (with_reducible rename NewIn _ _ _ => zkK); have zF := fr_on zkF zkK.1; have zN := news_in zkF zkN zkK; have zne := apart_of (news_ne zkN zkK); (try dsimp only [List.cons_append, List.nil_append] at zN); (repeat (have _ := And.left zne; replace zne := And.right zne)); clear zne zkF zkN zkK)
    k_steps
    (k_dflt (refine finA (hB := s.heap) (by k_asm) (by k_asm) (Fr.keep (by k_asm)) (by walk_at "down") (by walk_at "down") (InstAt.of_news (by k_asm) (by k_mem) (by k_mem)) (by k_ne) (by k_ne) (News.get (by k_asm) (by k_mem)) (News.fresh (by k_asm) (by k_mem)) (News.isList (by k_asm) (by k_mem)) (by k_ne) ?_))
    intro h' tk' M
    (with_reducible rename Fr _ _ _ _ => kF); (with_reducible rename News _ _ _ _ => kN)
    have F' := fr_mu kF kN M (keys1 (by k_mem))
    have N' : News s.heap _ h' [(r, ob)] := List.forall_mem_cons.mpr ⟨mu_fact kF kN (keys1 (by k_mem)) M (List.forall_mem_nil _) (.inr (.inr ⟨by k_mem, by (simp only [List.mem_cons, List.not_mem_nil, or_false, not_or]; first | k_ne | exact ⟨by k_ne, by k_ne⟩)⟩)), List.forall_mem_nil _⟩
    clear kF kN M
    k_steps
    exact ret _ _ _ _ _ _ _ (newIn_of (by k_asm) (by k_asm) (List.forall_mem_cons.mpr ⟨by k_mem, List.forall_mem_cons.mpr ⟨by k_mem, List.forall_mem_nil _⟩⟩)) hd
  case neg t tree ht ht2 hnt P =>
    (k_dflt (refine tkN (k := k) (rs := []) (hB := s.heap) (by k_asm) (by k_asm) (Fr.keep (by k_asm)) hb hl hn (by walk_at "down") (by walk_at "down") ht ht2 hnt (News.isList (by k_asm) (by k_mem)) (InstAt.of_news (by k_asm) (by k_mem) (by k_mem)) (News.get (by k_asm) (by k_mem)) (News.fresh (by k_asm) (by k_mem)) (by k_ne) (by k_ne) (by k_ne) (by decide) ?_))
    intro h' tk' q nq e ne u1 u2 u3 M
    ((with_reducible rename Fr _ _ _ _ => zkF); (with_reducible rename News _ _ _ _ => zkN); (rename Mu _ _ _ _ _ => zkM); have zne := apart_of (mu_ne zkN zkM); k_dflt (have zN := news_mu1 zkF zkN (by k_upd) zkM); k_dflt (have zF := fr_mu1 zkF zkN (by k_upd) zkM); (try dsimp only [List.cons_append, List.nil_append] at zN); (try simp only [List.push_toArray, List.cons_append, List.nil_append] at zN); (repeat (have _ := And.left zne; replace zne := And.right zne)); clear zne zkF zkN zkM)
    k_steps
    (k_dflt (refine tkO (k := k + 1) (hB := s.heap) (by k_asm) (by k_asm) (Fr.keep (by k_asm)) hb hl hn (by walk_at "down") (by walk_at "down") ht2 P (News.isList (by k_asm) (by k_mem)) (InstAt.of_news (by k_asm) (by k_mem) (by k_mem)) (News.get (by k_asm) (by k_mem)) (News.fresh (by k_asm) (by k_mem)) (by k_ne) (by k_ne) (by k_ne) (by first | decide | (simp only [List.length_cons, List.length_nil]; omega)) ?_))
    intro h' tk' q nq r ob u1 M hd
    ((with_reducible rename Fr _ _ _ _ => zkF); (with_reducible rename News _ _ _ _ => zkN); (rename Mu _ _ _ _ _ => zkM); have zne := apart_of (mu_ne zkN zkM); k_dflt (have zN := news_mu1 zkF zkN (by k_upd) zkM); k_dflt (have zF := fr_mu1 zkF zkN (by k_upd) zkM); (try dsimp only [List.cons_append, List.nil_append] at zN); (try simp only [List.push_toArray, List.cons_append, List.nil_append] at zN); (repeat (have _ := And.left zne; replace zne := And.right zne)); clear zne zkF zkN zkM)
    k_steps
    (k_dflt (refine opE (k := k + 1 + 1) (by k_in) (Top.keeps (by k_asm) (Fr.keep (by k_asm))) (fun b o e => Fr.keep (by k_asm) _ _ (hb b o e)) hl hn (by walk_at "down") (by walk_at "down") htk h7 (News.isList (by k_asm) (by k_mem)) (InstAt.of_news (by k_asm) (by k_mem) (by k_mem)) ?_))
    intro h' tk' q2 nq2 u3 u4 K'
    ((with_reducible rename Fr _ _ _ _ => zkF); (with_reducible rename News _ _ _ _ => zkN); (with_reducible rename NewIn _ _ _ => zkK); have zF := fr_on zkF zkK.1; have zN := news_in zkF zkN zkK; have zne := apart_of (news_ne zkN zkK); (try dsimp only [List.cons_append, List.nil_append] at zN); (repeat (have _ := And.left zne; replace zne := And.right zne)); clear zne zkF zkN zkK)
    k_steps
    (k_dflt (refine finN (e := e) (r1 := r) (hB := s.heap) (by k_asm) (by k_asm) (Fr.keep (by k_asm)) (by walk_at "down") (by walk_at "down") (InstAt.of_news (by k_asm) (by k_mem) (by k_mem)) (by k_ne) (by k_ne) (by k_ne) (by k_ne) (News.get (by k_asm) (by k_mem)) (News.fresh (by k_asm) (by k_mem)) (News.get (by k_asm) (by k_mem)) (News.fresh (by k_asm) (by k_mem)) (by k_ne) (News.isTup (by k_asm) (by k_mem)) (by k_ne) (by k_ne) ?_))
    intro h' tk' t9 nt u9 M
    (with_reducible rename Fr _ _ _ _ => kF); (with_reducible rename News _ _ _ _ => kN)
    have F' := fr_mu kF kN M (keys2 (by k_mem) (by k_mem))
    have N' : News s.heap _ h' [(t9, tupOf [.str (Str.ofString "neg") u9, .ref r] nt), (r, ob)] := List.forall_mem_cons.mpr ⟨mu_fact kF kN (keys2 (by k_mem) (by k_mem)) M (List.forall_mem_nil _) (.inr (.inl (.head _))), List.forall_mem_cons.mpr ⟨mu_fact kF kN (keys2 (by k_mem) (by k_mem)) M (List.forall_mem_nil _) (.inr (.inr ⟨by k_mem, by (simp only [List.mem_cons, List.not_mem_nil, or_false, not_or]; first | k_ne | exact ⟨by k_ne, by k_ne⟩)⟩)), List.forall_mem_nil _⟩⟩
    clear kF kN M
    k_steps
    exact ret _ _ _ _ _ _ _ (newIn_of (by k_asm) (by k_asm) (List.forall_mem_cons.mpr ⟨by k_mem, List.forall_mem_cons.mpr ⟨by k_mem, List.forall_mem_cons.mpr ⟨by k_mem, List.forall_mem_nil _⟩⟩⟩)) (.tuple (.head _) (.cons (.str _ _) (.cons (hd.mono (List.forall_mem_cons.mpr ⟨.tail _ (.head _), List.forall_mem_nil _⟩)) .nil)))
  case two t t2 tree tree2 ht P ht1 ht2 P2 =>
    (k_dflt (refine tkO (k := k) (hB := s.heap) (by k_asm) (by k_asm) (Fr.keep (by k_asm)) hb hl hn (by walk_at "down") (by walk_at "down") ht P (News.isList (by k_asm) (by k_mem)) (InstAt.of_news (by k_asm) (by k_mem) (by k_mem)) (News.get (by k_asm) (by k_mem)) (News.fresh (by k_asm) (by k_mem)) (by k_ne) (by k_ne) (by k_ne) (by first | decide | (simp only [List.length_cons, List.length_nil]; omega)) ?_))
    intro h' tk' q nq r ob u1 M hd
    ((with_reducible rename Fr _ _ _ _ => zkF); (with_reducible rename News _ _ _ _ => zkN); (rename Mu _ _ _ _ _ => zkM); have zne := apart_of (mu_ne zkN zkM); k_dflt (have zN := news_mu1 zkF zkN (by k_upd) zkM); k_dflt (have zF := fr_mu1 zkF zkN (by k_upd) zkM); (try dsimp only [List.cons_append, List.nil_append] at zN); (try simp only [List.push_toArray, List.cons_append, List.nil_append] at zN); (repeat (have _ := And.left zne; replace zne := And.right zne)); clear zne zkF zkN zkM)
    k_steps
    (k_dflt (refine opP (k := k + 1) (hB := s.heap) (by k_asm) (by k_asm) (Fr.keep (by k_asm)) hb hl hn (by walk_at "down") (by walk_at "down") ht1 (News.isList (by k_asm) (by k_mem)) (InstAt.of_news (by k_asm) (by k_mem) (by k_mem)) (News.get (by k_asm) (by k_mem)) (News.fresh (by k_asm) (by k_mem)) (by k_ne) (by k_ne) (by k_ne) ?_))
    intro h' tk' q nq e ne u1 u2 u3 u4 M
    ((with_reducible rename Fr _ _ _ _ => zkF); (with_reducible rename News _ _ _ _ => zkN); (rename Mu _ _ _ _ _ => zkM); have zne := apart_of (mu_ne zkN zkM); k_dflt (have zN := news_mu1 zkF zkN (by k_upd) zkM); k_dflt (have zF := fr_mu1 zkF zkN (by k_upd) zkM); (try dsimp only [List.cons_append, List.nil_append] at zN); (try simp only [List.push_toArray, List.cons_append, List.nil_append] at zN); (repeat (have _ := And.left zne; replace zne := And.right zne)); clear zne zkF zkN zkM)
    k_steps
    (k_dflt (refine tkO (k := k + 1 + 1) (os := [.ref r]) (hB := s.heap) (by k_asm) (by k_asm) (Fr.keep (by k_asm)) hb hl hn (by walk_at "down") (by walk_at "down") ht2 P2 (News.isList (by k_asm) (by k_mem)) (InstAt.of_news (by k_asm) (by k_mem) (by k_mem)) (News.get (by k_asm) (by k_mem)) (News.fresh (by k_asm) (by k_mem)) (by k_ne) (by k_ne) (by k_ne) (by first | decide | (simp only [List.length_cons, List.length_nil]; omega)) ?_))
    intro h' tk' q nq r2 ob2 u1 M hd2
    ((with_reducible rename Fr _ _ _ _ => zkF); (with_reducible rename News _ _ _ _ => zkN); (rename Mu _ _ _ _ _ => zkM); have zne := apart_of (mu_ne zkN zkM); k_dflt (have zN := news_mu1 zkF zkN (by k_upd) zkM); k_dflt (have zF := fr_mu1 zkF zkN (by k_upd) zkM); (try dsimp only [List.cons_append, List.nil_append] at zN); (try simp only [List.push_toArray, List.cons_append, List.nil_append] at zN); (repeat (have _ := And.left zne; replace zne := And.right zne)); clear zne zkF zkN zkM)
    k_steps
    (k_dflt (refine opE (k := k + 1 + 1 + 1) (by k_in) (Top.keeps (by k_asm) (Fr.keep (by k_asm))) (fun b o e => Fr.keep (by k_asm) _ _ (hb b o e)) hl hn (by walk_at "down") (by walk_at "down") htk h7 (News.isList (by k_asm) (by k_mem)) (InstAt.of_news (by k_asm) (by k_mem) (by k_mem)) ?_))
    intro h' tk' q2 nq2 u3 u4 K'
    ((with_reducible rename Fr _ _ _ _ => zkF); (with_reducible rename News _ _ _ _ => zkN); (with_reducible rename NewIn _ _ _ => zkK); have zF := fr_on zkF zkK.1; have zN := news_in zkF zkN zkK; have zne := apart_of (news_ne zkN zkK); (try dsimp only [List.cons_append, List.nil_append] at zN); (repeat (have _ := And.left zne; replace zne := And.right zne)); clear zne zkF zkN zkK)
    k_steps
    (k_dflt (refine finP (e := e) (r1 := r) (r2 := r2) (hB := s.heap) (by k_asm) (by k_asm) (Fr.keep (by k_asm)) (by walk_at "down") (by walk_at "down") (InstAt.of_news (by k_asm) (by k_mem) (by k_mem)) (by k_ne) (by k_ne) (by k_ne) (by k_ne) (News.get (by k_asm) (by k_mem)) (News.fresh (by k_asm) (by k_mem)) (News.get (by k_asm) (by k_mem)) (News.fresh (by k_asm) (by k_mem)) (by k_ne) (News.isTup (by k_asm) (by k_mem)) (by k_ne) (by k_ne) ?_))
    intro h' tk' t9 nt u9 u8 M
    (with_reducible rename Fr _ _ _ _ => kF); (with_reducible rename News _ _ _ _ => kN)
    have F' := fr_mu kF kN M (keys2 (by k_mem) (by k_mem))
    have old := fun {q : Addr × Obj} => mu_fact (p := q) kF kN (keys2 (by k_mem) (by k_mem)) M (List.forall_mem_nil _)
    have N' : News s.heap _ h' [(t9, tupOf [.str (Str.ofString "two") u9, .str (Str.ofString "+") u8, .ref r, .ref r2] nt), (r, ob), (r2, ob2)] := List.forall_mem_cons.mpr ⟨old (.inr (.inl (.head _))), List.forall_mem_cons.mpr ⟨old (.inr (.inr ⟨by k_mem, by (simp only [List.mem_cons, List.not_mem_nil, or_false, not_or]; first | k_ne | exact ⟨by k_ne, by k_ne⟩)⟩)), List.forall_mem_cons.mpr ⟨old (.inr (.inr ⟨by k_mem, by (simp only [List.mem_cons, List.not_mem_nil, or_false, not_or]; first | k_ne | exact ⟨by k_ne, by k_ne⟩)⟩)), List.forall_mem_nil _⟩⟩⟩
    clear kF kN M old
    k_steps
    exact ret _ _ _ _ _ _ _ (newIn_of (by k_asm) (by k_asm) (List.forall_mem_cons.mpr ⟨by k_mem, List.forall_mem_cons.mpr ⟨by k_mem, List.forall_mem_cons.mpr ⟨by k_mem, List.forall_mem_cons.mpr ⟨by k_mem, List.forall_mem_nil _⟩⟩⟩⟩)) (.tuple (.head _) (.cons (.str _ _) (.cons (.str _ _) (.cons (hd.mono (List.forall_mem_cons.mpr ⟨.tail _ (.head _), List.forall_mem_nil _⟩)) (.cons (hd2.mono (List.forall_mem_cons.mpr ⟨.tail _ (.tail _ (.head _)), List.forall_mem_nil _⟩)) .nil)))))
end
section -- C0
open PySem PySem.W PyProof.Rows PySem.Calls PySem.Spec
set_option maxRecDepth 100000
theorem wd_slot : Slot "wrapper_descriptor" "__get__" "wrapper_descriptor.__get__" := .of (owner := "wrapper_descriptor") (n := "__get__") (by rw [typeLookup_type, builtinLookup_eq_fast]; kernel_rfl) (by decide +kernel) (by decide +kernel) (by decide +kernel)
  (by first | exact .inl (by decide +kernel) | exact .inr (by decide +kernel)) (by rw [isSubtype_type]; kernel_rfl)
theorem wd_entry : entryFor table "wrapper_descriptor.__get__" = some Builtin.«wrapper_descriptor.__get__» := entryFor_of_tree (by kernel_rfl)
theorem wd_args (a b c : Value) : argsOk "wrapper_descriptor.__get__" ⟨[a, b, c], []⟩ := by unfold argsOk; kernel_rfl
theorem ei_kind : builtinKind "Exception.__init__" = some .slot := by decide +kernel
theorem ei_type : typeOf (.builtin "Exception.__init__") = pure (.type "wrapper_descriptor") := by
  have hop : withoutEnding? "Exception.__init__" "#opaque" = none := by decide +kernel
  have hdat : withoutEnding? "Exception.__init__" "#data" = none := by decide +kernel
  simp only [typeOf, builtinType, hop, hdat, ei_kind]; rfl
section
variable {prog : Program} {w : World} {M : Model} {A : Around} {E : Value → Shared → Prop} {h : Heap} {g : Array GenState} {d : Drawn} {t : Nat} {os : OsState}
theorem ei_owner : (".".intercalate ("Exception.__init__".cutAt '.').dropLast) = "Exception" := by
  have e0 : "Exception.__init__".cutAt '.' = ["Exception", "__init__"] := by first | rfl | decide +kernel
  rw [e0]; decide +kernel
theorem wd_get {x C : Addr} {ox : Obj} {Q : Fin → Shared → Prop} (hx : h.get? x = some ox) (hc : ox.cls = .ref C) (hsub : Looks (model prog w) h (isSubtype (.ref C) (.type "Exception")) true)
    (hq : Q (.done (.ret (.ref h.objs.size))) ⟨h.push { cls := .type "method-wrapper", data := .fields #[.builtin "Exception.__init__", .ref x] }, g, d, t, os⟩) :
    wpAny (model prog w) A (Builtin.«wrapper_descriptor.__get__» ⟨[.builtin "Exception.__init__", .ref x, .ref C], []⟩) Q E ⟨h, g, d, t, os⟩ := by
  unfold Builtin.«wrapper_descriptor.__get__»
  repeat (first | (with_reducible refine Looks.at hsub ?_) | (with_reducible refine wpAny_loadPart_at hx ?_; rw [hc]) | rw [ei_owner] | (with_reducible refine wpAny_newObj_type ?_ (by size_fits)) | wp_step)
  all_goals exact hq
theorem super_ga_wd {so D x C : Addr} {ox : Obj} {l₀ l : List Value} {K : Frag} {tk : Tok} {Q : Fin → Shared → Prop}
    (hso : h.get? so = some { cls := .type "super", dict := none, data := .fields #[.ref D, .ref x, .ref C], slots := #[] }) (hno : Looks (model prog w) h (opaqueClassAbove (.ref C)) none)
    (hC : Looks (model prog w) h (mroOf (.ref C)) l₀) (hl : (l₀.dropWhile (· != .ref D)).drop 1 = l) (X : K.In h)
    (hf : alongIn K "__init__" l = some (some (.builtin "Exception.__init__"))) (hxC : x ≠ C) (hx : h.get? x = some ox) (hc : ox.cls = .ref C) (hsub : Looks (model prog w) h (isSubtype (.ref C) (.type "Exception")) true)
    (hq : Q (.done (.ret (.ref h.objs.size))) ⟨h.push { cls := .type "method-wrapper", data := .fields #[.builtin "Exception.__init__", .ref x] }, g, d, t, os⟩) :
    wpAny (model prog w) A (Builtin.«super.__getattribute__» ⟨[.ref so, .str "__init__" tk], []⟩) Q E ⟨h, g, d, t, os⟩ := by
  have hlk := wd_slot.lookup
  have hne : (Value.ref x == Value.ref C) = false := by simp [hxC]
  have hn : ((Str.ofString "__init__") == (Str.ofString "__class__")) = false := by decide +kernel
  have hTf : (⟨h, g, d, t, os⟩ : Shared).TypeIs (.builtin "Exception.__init__") "wrapper_descriptor" := ei_type
  have hdt : ({ cls := .type "super", dict := none, data := .fields #[.ref D, .ref x, .ref C], slots := #[] } : Obj).data = .fields #[.ref D, .ref x, .ref C] := rfl
  have f0 : (#[.ref D, .ref x, .ref C] : Array Value)[0]? = some (.ref D) := rfl
  have f1 : (#[.ref D, .ref x, .ref C] : Array Value)[1]? = some (.ref x) := rfl
  have f2 : (#[.ref D, .ref x, .ref C] : Array Value)[2]? = some (.ref C) := rfl
  unfold Builtin.«super.__getattribute__»
  repeat (first
    | (with_reducible refine wpAny_field hso hdt f0 ?_) | (with_reducible refine wpAny_field hso hdt f1 ?_) | (with_reducible refine wpAny_field hso hdt f2 ?_)
    | (with_reducible refine ks_wpAny_notOpaque hno ?_)
    | (with_reducible refine Looks.at hC ?_; rw [hl])
    | (refine ks_forIn_along X (fun _ _ => rfl) rfl ?_ hf)
    | (with_reducible refine wpAny_typeOf hTf ?_)
    | (with_reducible refine wpAny_call_entry wd_slot hTf wd_entry ?_ (wd_args _ _ _))
    | (with_reducible refine wd_get hx hc hsub ?_)
    | (with_reducible refine ⟨_, rfl, ?_⟩)
    | (simp only [hn, hne, Bool.or_false, Bool.false_eq_true, if_false])
    | wp_step
    | dsimp only)
  all_goals exact hq
theorem getMethod_super_wd {so D x C : Addr} {ox : Obj} {l₀ l : List Value} {K : Frag} {pl : Sem Bool} {Q : Value × List Value → Shared → Prop}
    (hso : h.get? so = some { cls := .type "super", dict := none, data := .fields #[.ref D, .ref x, .ref C], slots := #[] }) (hno : Looks (model prog w) h (opaqueClassAbove (.ref C)) none)
    (hC : Looks (model prog w) h (mroOf (.ref C)) l₀) (hl : (l₀.dropWhile (· != .ref D)).drop 1 = l) (X : K.In h)
    (hf : alongIn K "__init__" l = some (some (.builtin "Exception.__init__"))) (hxC : x ≠ C) (hx : h.get? x = some ox) (hc : ox.cls = .ref C) (hsub : Looks (model prog w) h (isSubtype (.ref C) (.type "Exception")) true)
    (hq : Q (.ref h.objs.size, []) ⟨h.push { cls := .type "method-wrapper", data := .fields #[.builtin "Exception.__init__", .ref x] }, g, d, t + 1, os⟩) :
    wpAny (model prog w) A (getMethod (.ref so) "__init__" pl) Q E ⟨h, g, d, t, os⟩ := by
  have hlk := F.ks_slot_super_ga.lookup
  have hcan := F.ks_canon_super_ga
  have hT : ∀ t', (⟨h, g, d, t', os⟩ : Shared).TypeIs (.ref so) "super" := fun _ => ⟨_, hso, rfl⟩
  unfold getMethod
  refine wpAny_bind (wpAny_specialOf (hT _) hlk ?_)
  show wpAny _ _ (if (Manifest.canonical "super.__getattribute__" != "object.__getattribute__") = true then _ else _) _ _ _
  rw [if_pos hcan]
  unfold getAttr getAttrBy
  refine wpAny_bind (wpAny_bind (wpAny_mkText (wpAny_holding (wpAny_bind (wpAny_typeOf (hT _) (wpAny_bind (wpAny_of_eq hlk ?_)))))))
  show wpAny _ _ (getAttrByItsOwn (.ref so) (.str "__init__" t) (.type "super") (.builtin "super.__getattribute__") true false) _ _ _
  unfold getAttrByItsOwn hookBefore callGetattribute boundAndCalled
  refine wpAny_bind (wpAny_of_eq (show (if onTheHeap (.type "super") then typeLookup (.type "super") "__getattr__" else pure none) = pure none from rfl) ?_)
  refine wpAny_bind (wpAny_attempt (wpAny_holding ?_))
  show wpAny _ _ (bindSpecial (.builtin "super.__getattribute__") (.ref so) >>= _) _ _ _
  refine wpAny_bind (wpAny_of_eq (F.ks_slot_super_ga.bind _) ?_)
  refine wpAny_mono (Q := fun v s' => v = .ref h.objs.size ∧ s' = ⟨h.push { cls := .type "method-wrapper", data := .fields #[.builtin "Exception.__init__", .ref x] }, g, d, t + 1, os⟩) (E := fun _ _ => False)
    (wpAny_call_entry F.ks_slot_super_ga (hT _) F.ks_entry_super_ga (super_ga_wd hso hno hC hl X hf hxC hx hc hsub ⟨_, rfl, rfl, rfl⟩) (F.ks_gaArgs_super _ _)) (fun v s' hv => ?_) fun _ _ z => z.elim
  obtain ⟨rfl, rfl⟩ := hv
  exact wpAny_pure (wpAny_pure hq)
end
end
section -- C2
open PySem PySem.W PyProof.Rows PySem.Calls PySem.Spec
set_option maxRecDepth 100000
/-- the exception at e: its class, its own dict, the head of its trace at T with flight fl -/
def TrD (h B : Heap) (e : Addr) (cls : Value) (dct : Option Addr) (fl : Value) : Prop :=
  ∃ vs sl T oT ts, h.get? e = some ⟨cls, dct, .fields vs, sl⟩ ∧ vs[1]? = some (.ref T) ∧ B.get? T = none ∧ T ≠ e ∧ h.get? T = some oT ∧ oT.data = .fields ts ∧ ts[3]? = some fl
def FlyD (B : Heap) (l : List Env) (e : Addr) (cls : Value) (dct : Option Addr) (fl : Value) (h : Heap) : Prop := B.StaysIn h ∧ B.get? e = none ∧ h.FunFrames B l ∧ TrD h B e cls dct fl
theorem FlyD.tail {B h : Heap} {env : Env} {l : List Env} {e : Addr} {cls fl : Value} {dct : Option Addr} (x : FlyD B (env :: l) e cls dct fl h) : FlyD B l e cls dct fl h := ⟨x.1, x.2.1, x.2.2.1.2.2, x.2.2.2⟩
section
variable {M : Model} {A : Around} {E : Value → Shared → Prop} {s : Shared} {B : Heap} {env : Env} {outer : List Env} {L e : Addr} {cls : Value} {dct : Option Addr} {Q : Unit → Shared → Prop}
theorem entryD {vs sl : Array _} {head : Value} {hadNext : Bool} (hfr : A.frames = some (env :: outer)) (hl : s.heap.FunFrames B (env :: outer)) (hf : env.frame = some L)
    (he : s.heap.get? e = some ⟨cls, dct, .fields vs, sl⟩) (hB : B.StaysIn s.heap) (hen : B.get? e = none) (hsz : 1 < vs.size)
    (h : ∀ h', FlyD B (env :: outer) e cls dct (rawInt L) h' → s.heap.UpToSlots h' → Q () { s with heap := h' }) :
    wpAny M A (do let a ← frameOf env; let pl ← entryPlaceOf L hadNext; let b ← EntryCells.newEntry head a .none (rawInt L) .none pl; setField (.ref e) 1 b) Q E s := by
  have hene : e ∉ (env :: outer).filterMap (·.frame) := fun hm => by
    obtain ⟨_, o, ho, hnf⟩ := hl.mem hm
    rw [he] at ho; cases ho; exact hnf vs rfl
  refine wpAny_bind (wpAny_frameOf_fun hfr hl hf fun h₁ hs₁ => ?_)
  refine wpAny_bind (wpAny_entryPlaceOf fun pl hpl => ?_)
  unfold EntryCells.newEntry newFields
  refine wpAny_bind (wpAny_newObj_type ?_ (hpl.sizeOk5 _ _ _ _ _))
  have he₁ := (hs₁.2.1 e hene).trans he
  generalize hob : ({ cls := .type "traceback", dict := none, data := .fields ([head, .ref L, .none, rawInt L, .none] ++ (if pl.isEmpty then List.replicate 6 Value.none else pl)).toArray } : Obj) = ob
  have he₂ := Heap.get?_push_of_some (h := h₁) ob he₁
  have keep : ∀ b o, b ≠ e → h₁.get? b = some o → ((h₁.push ob).update e (Obj.mapFields (·.setIfInBounds 1 (Value.ref h₁.objs.size)))).get? b = some o := fun b o hbe hb => by
    rw [Heap.get?_update_other _ _ (Ne.symm hbe)]
    exact Heap.get?_push_of_some _ hb
  have noRec : ∀ b o, s.heap.get? b = some o → (∀ vs, o.data ≠ .fields vs) → b ≠ e := fun b o hb hnf q => by
    rw [q, he] at hb; cases hb; exact hnf vs rfl
  refine wpAny_setField he₂ rfl hsz (h _ ?_ ?_)
  · have kb₁ : B.StaysIn h₁ := fun b o hbo => (hs₁.2.1 b fun hm => by rw [(hl.mem hm).1] at hbo; cases hbo).trans (hB b o hbo)
    have hTe : h₁.objs.size ≠ e := Nat.ne_of_gt (Heap.lt_size he₁)
    refine ⟨fun b o hbo => keep b o (fun q => by rw [q, hen] at hbo; cases hbo) (kb₁ b o hbo), hen, hl.of_keeps fun b o hb hnf => ?_, ?_⟩
    · obtain ⟨sl, hs⟩ := hs₁.2.2 b o hb
      exact ⟨_, keep b _ (noRec b o hb hnf) hs, rfl⟩
    · refine ⟨_, _, h₁.objs.size, ob, _, Heap.get?_update_self _ he₂ rfl, by simp [hsz], kb₁.fresh, hTe, (Heap.get?_update_other _ _ (Ne.symm hTe)).trans (Heap.get?_push_size h₁ (by subst hob; rfl)), by subst hob; rfl, by first | (simp; done) | (rcases hpl with rfl | ⟨_, _, _, _, _, _, _, rfl⟩ <;> simp)⟩
  · intro b o hb hnf
    obtain ⟨sl, hs⟩ := hs₁.2.2 b o hb
    exact ⟨sl, keep b _ (noRec b o hb hnf) hs⟩
theorem landsD {l : List Env} {fl : Value} (hfl : FlyD B l e cls dct fl s.heap) (h : ∀ h', FlyD B l e cls dct .none h' → s.heap.UpToSlots h' → Q () { s with heap := h' }) : wpAny M A (setFlight (.ref e) none) Q E s := by
  obtain ⟨hB, hen, hl, vs, sl, T, oT, ts, he, h1, hnT, hTe, hT, hdT, h3⟩ := hfl
  have hsz3 : 3 < ts.size := (Array.getElem?_eq_some_iff.mp h3).1
  have other : ∀ b, b ≠ T → (s.heap.update T (Obj.mapFields (·.setIfInBounds 3 ((none : Option Addr).elim Value.none fun f => rawInt f)))).get? b = s.heap.get? b := fun b hb => Heap.get?_update_other _ _ (Ne.symm hb)
  have noRec : ∀ b o, s.heap.get? b = some o → (∀ vs, o.data ≠ .fields vs) → b ≠ T := fun b o hb hnf q => by
    rw [q, hT] at hb; cases hb; exact hnf ts hdT
  unfold setFlight
  refine wpAny_bind (wpAny_field he rfl h1 ?_)
  rw [if_pos (show (Value.ref T != Value.none) = true from by simp)]
  refine wpAny_setField hT hdT hsz3 (h _ ⟨fun b o hbo => (other b fun q => by rw [q, hnT] at hbo; cases hbo).trans (hB b o hbo), hen, hl.of_keeps fun b o hb hnf => ⟨o, (other b (noRec b o hb hnf)).trans hb, rfl⟩, ?_⟩
    fun b o hb hnf => ⟨o.slots, (other b (noRec b o hb hnf)).trans hb⟩)
  exact ⟨vs, sl, T, _, _, (other e (Ne.symm hTe)).trans he, h1, hnT, hTe, Heap.get?_update_self _ hT (Obj.isFreed_of_fields (Obj.data_mapFields hdT _)), Obj.data_mapFields hdT _, by simp [hsz3]⟩
theorem noteD (hfr : A.frames = some (env :: outer)) (hf : env.frame = some L) (hfl : FlyD B (env :: outer) e cls dct .none s.heap)
    (h : ∀ h', FlyD B (env :: outer) e cls dct (rawInt L) h' → s.heap.UpToSlots h' → Q () { s with heap := h' }) : wpAny M A (noteFrame (.ref e) env) Q E s := by
  obtain ⟨hB, hen, hl, vs, sl, T, oT, ts, he, h1, hnT, hTe, hT, hdT, h3⟩ := hfl
  unfold noteFrame
  simp only [hf]
  refine wpAny_bind (wpAny_field he rfl h1 ?_)
  rw [if_pos (show (Value.ref T != Value.none) = true from by simp)]
  refine wpAny_bind (wpAny_field hT hdT h3 ?_)
  rw [if_neg (show ¬ ((Value.none == rawInt L) = true) from by simp [rawInt])]
  refine wpAny_bind (wpAny_setField hT hdT (Array.getElem?_eq_some_iff.mp h3).1 ?_)
  have other : ∀ b, b ≠ T → (s.heap.update T (Obj.mapFields (·.setIfInBounds 3 Value.none))).get? b = s.heap.get? b := fun b hb => Heap.get?_update_other _ _ (Ne.symm hb)
  have noRec : ∀ b o, s.heap.get? b = some o → (∀ vs, o.data ≠ .fields vs) → b ≠ T := fun b o hb hnf q => by
    rw [q, hT] at hb; cases hb; exact hnf ts hdT
  exact entryD hfr (hl.of_keeps fun b o hb hnf => ⟨o, (other b (noRec b o hb hnf)).trans hb, rfl⟩) hf ((other e (Ne.symm hTe)).trans he)
    (fun b o hbo => (other b fun q => by rw [q, hnT] at hbo; cases hbo).trans (hB b o hbo)) hen (Array.getElem?_eq_some_iff.mp h1).1
    fun h' x y => h h' x fun b o hb hnf => y b o ((other b (noRec b o hb hnf)).trans hb) hnf
theorem leaveD (hfr : A.frames = some (env :: outer)) (hf : env.frame = some L) (hfl : FlyD B (env :: outer) e cls dct .none s.heap)
    (h : ∀ h', FlyD B outer e cls dct .none h' → s.heap.UpToSlots h' → Q () { s with heap := h' }) : wpAny M A (leaving env (.ref e)) Q E s := by
  unfold leaving
  exact wpAny_bind (noteD hfr hf hfl fun h₁ x₁ y₁ => landsD (s := { s with heap := h₁ }) x₁ fun h₂ x₂ y₂ => h h₂ x₂.tail (y₁.trans y₂))
theorem leaveD1 {vs sl : Array _} (hfr : A.frames = some (env :: outer)) (hf : env.frame = some L) (hl : s.heap.FunFrames B (env :: outer))
    (he : s.heap.get? e = some ⟨cls, dct, .fields vs, sl⟩) (h1 : vs[1]? = some .none) (hB : B.StaysIn s.heap) (hen : B.get? e = none)
    (h : ∀ h', FlyD B outer e cls dct .none h' → s.heap.UpToSlots h' → Q () { s with heap := h' }) : wpAny M A (leaving env (.ref e)) Q E s := by
  unfold leaving noteFrame
  simp only [hf]
  refine wpAny_bind (wpAny_bind (wpAny_field he rfl h1 ?_))
  rw [if_neg (by decide)]
  exact entryD hfr hl hf he hB hen (Array.getElem?_eq_some_iff.mp h1).1 fun h₁ x₁ y₁ => landsD (s := { s with heap := h₁ }) x₁ fun h₂ x₂ y₂ => h h₂ x₂.tail (y₁.trans y₂)
end
end
section -- C3
open PySem PySem.W PyProof.Rows PySem.Calls PySem.Spec
set_option maxRecDepth 100000
theorem ns_val_of {K : Frag} {h : Heap} {N : Addr} {mg : Str → Option Value} {n : Str} {r : Option Value} (X : K.In h) (G : h.Ns N mg) (e : nsIn K N n = some r) : mg n = r := by
  obtain ⟨o, es, ep, ho, hd, _, hf⟩ := G
  unfold nsIn at e
  split at e
  · rename_i c d es' n' sl q
    have := X _ _ q
    rw [ho] at this
    cases this
    cases hd
    rw [← hf]
    unfold nsFind findBy
    rw [← Array.find?_toList]
    split at e
    · rename_i he; cases e; rw [he]; rfl
    · rename_i he
      split at e
      · cases e
      · cases e; rw [he]; rfl
  · cases e
structure Cls41 (h : Heap) : Prop where
  ex : ∃ N nm q bs sn sub ab col dd k0 k1 k2 k3 k5 mN, h.get? 41 = some (excClassObj nm q 41 N bs [.type "Exception", .type "BaseException", .type "object"] true sn sub ab col dd k0 k1 k2 k3 k5 "Exception.__new__") ∧ h.Ns N mN ∧ mN "__init__" = some (.ref 38) ∧ mN "code" = none ∧ mN "told" = none ∧ mN "__setattr__" = none ∧ mN "__getattribute__" = none ∧ mN "__getattr__" = none
theorem cls41 {w : World} {h : Heap} (X : (kfrag.heap_1 w.params).In h) : Cls41 h := by
  have ok : nsOkIn (kfrag.heap_1 w.params) 40 = true := by kernel_rfl
  have G := Heap.Ns.of_isNs (isNs_of_in X ok)
  refine ⟨40, _, _, _, _, _, _, _, _, _, _, _, _, _, _, X 41 _ (by rfl), G, ns_val_of X G ?_, ns_val_of X G ?_, ns_val_of X G ?_, ns_val_of X G ?_, ns_val_of X G ?_, ns_val_of X G ?_⟩ <;> kernel_rfl
end
section -- C4
open PySem PySem.W PyProof.Rows PySem.Calls PySem.Spec
set_option maxRecDepth 100000
abbrev wrapObj (e : Addr) : Obj := { cls := .type "method-wrapper", dict := none, data := .fields #[.builtin "Exception.__init__", .ref e], slots := #[] }
abbrev excObj (t : Addr) : Obj := { cls := .ref 41, dict := none, data := .fields #[.ref t, .none, .none, .none, .bool false, .none], slots := #[] }
theorem chk_bound {M : Model} {A : Around} {e : Addr} {oe : Obj} {v : Value} {Q : Unit → Shared → Prop} {E : Value → Shared → Prop} {h : Heap} {g : Array GenState} {d : Drawn} {t : Nat} {os : OsState}
    (C41 : Cls41 h) (he : h.get? e = some oe) (hcls : oe.cls = .ref 41) (hq : Q () ⟨h, g, d, t, os⟩) : wpAny M A (checkBoundCall "Exception.__init__" ⟨[.ref e, v], []⟩) Q E ⟨h, g, d, t, os⟩ := by
  have F := PySem.F.excBase_Exception
  obtain ⟨N, nm, q, bs, sn, sub, ab, col, dd, k0, k1, k2, k3, k5, mN, hC, -⟩ := C41.ex
  simp only [checkBoundCall, F.initRow, F.initKind]
  rw [if_pos (by decide)]
  have hshort := F.noStar
  repeat (first | (with_reducible refine wpAny_loadPart_at he ?_; rw [hcls]) | with_reducible refine wpAny_loadPart_at hC ?_ | wp_step)
  exact hq
theorem ei_quiet (a : Args) : Code.quiet (.builtin "Exception.__init__" a) = true := Code.quiet_builtin _ (by decide +kernel)
section
variable {prog : Program} {w : World} {A : Around} {E : Value → Shared → Prop} {h : Heap} {g : Array GenState} {d : Drawn} {t : Nat} {os : OsState}
theorem mw_call {mw e t0 : Addr} {v : Value} {Q : Value → Shared → Prop} (C41 : Cls41 h) (hm : h.get? mw = some (wrapObj e)) (he : h.get? e = some (excObj t0))
    (hq : ∀ h' t1, (∀ b o, b ≠ e → h.get? b = some o → h'.get? b = some o) → h'.get? e = some (excObj t1) → Q .none ⟨h', g, d, t, os⟩) :
    wpAny (model prog w) A (call (.ref mw) [v]) Q E ⟨h, g, d, t, os⟩ := by
  refine wpAny_call (codeAny_of_tree ?_)
  show wpAny _ A.in1 (callAny (.ref mw) ⟨[v], []⟩) _ _ _
  simp only [callAny]
  refine wpAny_bind (wpAny_load hm ?_)
  simp only [show (Value.type "method-wrapper" == Value.type "method" || Value.type "method-wrapper" == Value.type "builtin_function_or_method" || Value.type "method-wrapper" == Value.type "method-wrapper") = true by decide, if_true]
  show wpAny _ _ (if (Value.type "method-wrapper" != Value.type "method") = true then _ else _) _ _ _
  rw [if_pos (by decide)]
  refine wpAny_bind (chk_bound C41 he rfl ?_)
  refine wpAny_bind (wpAny_pure (wpAny_pure ?_))
  refine ⟨ei_quiet _, codeAny_builtin F.excBase_Exception.initEntry ?_⟩
  unfold Builtin.«BaseException.__init__»
  repeat (first | (with_reducible refine wpAny_newObj_type ?_ (by size_fits)) | wp_step)
  refine hq _ h.objs.size (fun b o hb ho => ?_) ?_
  · exact (Heap.get?_update_other _ _ (Ne.symm hb)).trans (Heap.get?_push_of_some _ ho)
  · exact Heap.get?_update_self _ (Heap.get?_push_of_some _ he) rfl
end
end
section -- C6
open PySem PySem.W PyProof.Rows PySem.Calls PySem.Spec PySem.Builtin PySem.Builtin.ObjectAttr
set_option maxRecDepth 100000
theorem noName_code : typeLookup (.type "Exception") "code" = pure none := by rw [typeLookup_type, builtinLookup_eq_fast]; kernel_rfl
theorem noName_told : typeLookup (.type "Exception") "told" = pure none := by rw [typeLookup_type, builtinLookup_eq_fast]; kernel_rfl
section
variable {prog : Program} {w : World} {A : Around} {E : Value → Shared → Prop} {h : Heap} {g : Array GenState} {d : Drawn} {t : Nat} {os : OsState} {e t1 : Addr} {name : Str} {v : Value} {tk : Tok}
set_option maxHeartbeats 2000000 in
theorem set1_body {Q : Fin → Shared → Prop} (C41 : Cls41 h) (hN : name = "code") (hx : h.get? e = some (excObj t1))
    (hq : ∀ h' tk', h'.get? e = some { excObj t1 with dict := some h.objs.size } → h'.Ns1 h.objs.size (fun y => if y = name then some v else none) → (∀ b o, b ≠ e → h.get? b = some o → h'.get? b = some o) → Q (.done (.ret .none)) ⟨h', g, d, tk', os⟩) :
    wpAny (model prog w) A (Builtin.«object.__setattr__» ⟨[.ref e, .str name tk, v], []⟩) Q E ⟨h, g, d, t, os⟩ := by
  obtain ⟨N, nm, q, bs, sn, sub, ab, col, dd, k0, k1, k2, k3, k5, mN, hC, hn, -, hna, -⟩ := C41.ex
  subst hN
  have SF := PySem.F.store_Exception
  have hpass := SF.passes (.ref e)
  unfold Builtin.«object.__setattr__»
  have hx₁ : (h.push { cls := .type "dict", data := .dict #[] }).get? e = some (excObj t1) := Heap.get?_push_of_some _ hx
  have hxs : e ≠ h.objs.size := Nat.ne_of_lt (Heap.lt_size hx)
  have hgd : ((h.push { cls := .type "dict", data := .dict #[] }).update e fun o => { cls := o.cls, dict := some h.objs.size, data := o.data, slots := o.slots }).get? h.objs.size = some { cls := .type "dict", data := .dict #[] } :=
    (Heap.get?_update_ne _ _ _ _ hxs.symm).trans (Heap.get?_push_at rfl rfl)
  have hnd : ((h.push { cls := .type "dict", data := .dict #[] }).update e fun o => { cls := o.cls, dict := some h.objs.size, data := o.data, slots := o.slots }).Ns h.objs.size (fun _ => none) :=
    ⟨_, #[], _, hgd, rfl, fun e he => absurd he (by simp), fun _ => rfl⟩
  repeat (first | (with_reducible refine wpAny_nsSet1 (Heap.Ns1.of_empty hnd) fun h' hn' hs => ?_) | rw [refuse_eq] | (rw [refuseLoop_ref, hpass]) | (with_reducible refine wpAny_loadPart_at hx ?_) | with_reducible refine wpAny_mroOf_exc hC ?_ | (with_reducible refine wpAny_typeLookup_exc hC hn SF.mro noName_code ?_; rw [hna]) | with_reducible refine wpAny_loadPart_at hC ?_ | wp_step)
  obtain ⟨oD, esD, epD, hoD, hdD, hcD⟩ := hn'.count (Within.cons (Str.ofString "code") v Within.nil)
  refine wpAny_loadPart hoD ?_
  rw [hdD, show (Data.dict esD epD).pastItsLine = none from pastItsLine_dict (Nat.le_trans hcD (by rw [List.length_cons, List.length_nil, sizeLine_eq]; omega))]
  wp_walk
  refine hq h' _ ((hs.2 e hxs).trans (Heap.get?_update_self _ hx₁ rfl)) hn' fun b o hbx hb => ?_
  exact (hs.2 b (Nat.ne_of_lt (Heap.lt_size hb))).trans ((Heap.get?_update_ne _ _ _ _ hbx).trans (Heap.get?_push_of_some _ hb))
end
end
section -- C7
open PySem PySem.W PyProof.Rows PySem.Calls PySem.Spec
set_option maxRecDepth 100000
abbrev excObjD (t d : Addr) : Obj := { cls := .ref 41, dict := some d, data := .fields #[.ref t, .none, .none, .none, .bool false, .none], slots := #[] }
theorem exc_inst {h : Heap} {e t1 d : Addr} {mA : Str → Option Value} (hx : h.get? e = some (excObjD t1 d)) (hne : d ≠ e) (hd : h.Ns1 d mA) : h.Inst e 41 mA := ⟨_, hx, rfl, fun _ => Data.noConfusion, .inr ⟨d, rfl, hne, hd⟩⟩
section
variable {prog : Program} {w : World} {A : Around} {E : Value → Shared → Prop} {s : Shared} {h₀ : Heap} {L e t1 : Addr} {m : Str → Option Value} {v : Value} {Q : Unit → Shared → Prop}
set_option maxHeartbeats 4000000 in
theorem set1_K (F : Fr h₀ L s.heap m) (X₀ : (kfrag.heap_1 w.params).In h₀) (N : News h₀ L s.heap [(e, excObj t1)])
    (h : ∀ h' tk' d, Fr h₀ L h' m → h'.get? e = some (excObjD t1 d) → h'.Ns1 d (fun y => if y = Str.ofString "code" then some v else none) → h₀.get? d = none → d ≠ L → d ≠ e → (∀ b o, b ≠ e → s.heap.get? b = some o → h'.get? b = some o) → Q () { s with heap := h', toks := tk' }) :
    wpAny (model prog w) A (setAttr (.ref e) "code" v) Q E s := by
  have X := X₀.keeps F.keep
  have C41 := cls41 X
  obtain ⟨hx, hL, hB⟩ := N _ (.head _)
  obtain ⟨N', nm, q, bs, sn, sub, ab, col, dd, k0, k1, k2, k3, k5, mN, hC, -⟩ := id C41.ex
  refine set_plain X (od := none) ⟨hx, rfl, rfl, trivial⟩ (by kernel_rfl) ?_
  obtain ⟨hh, g, dr, t, os⟩ := s
  refine codeAny_call_builtin PySem.F.store_Exception.slot.plain PySem.F.store_Exception.entry ?_
  with_reducible refine wpAny_check_sa PySem.F.store_Exception hC hx rfl ?_
  refine set1_body C41 rfl hx fun h' tk' he hd k => ?_
  refine h h' tk' hh.objs.size ?_ he hd ?_ ?_ ?_ k
  · exact fr_off (ks := [e]) F N (fun b o e1 n => k b o (fun z => n (by rw [z]; exact .head _)) e1) fun a ha => by rw [List.mem_singleton.mp ha]; exact ⟨_, .head _⟩
  · cases z : h₀.get? hh.objs.size with
    | none => rfl
    | some o => exact absurd (Heap.lt_size (F.keep _ _ z)) (Nat.lt_irrefl _)
  · obtain ⟨oL, _, _, hL', _⟩ := F.ns
    exact Nat.ne_of_gt (Heap.lt_size hL')
  · exact Nat.ne_of_gt (Heap.lt_size hx)
set_option maxHeartbeats 4000000 in
theorem set2_K {c : Value} {d : Addr} (F : Fr h₀ L s.heap m) (X₀ : (kfrag.heap_1 w.params).In h₀) (he : s.heap.get? e = some (excObjD t1 d)) (hd : s.heap.Ns1 d (fun y => if y = Str.ofString "code" then some c else none))
    (heB : h₀.get? e = none) (heL : e ≠ L) (hdB : h₀.get? d = none) (hdL : d ≠ L) (hde : d ≠ e)
    (h : ∀ h' tk', Fr h₀ L h' m → h'.get? e = some (excObjD t1 d) → h'.Ns1 d (fun y => if y = Str.ofString "told" then some v else if y = Str.ofString "code" then some c else none) → (∀ b o, b ≠ e → b ≠ d → s.heap.get? b = some o → h'.get? b = some o) → Q () { s with heap := h', toks := tk' }) :
    wpAny (model prog w) A (setAttr (.ref e) "told" v) Q E s := by
  have C41 := cls41 (X₀.keeps F.keep)
  obtain ⟨N', nm, q, bs, sn, sub, ab, col, dd, k0, k1, k2, k3, k5, mN, hC, hn, -, hcode, htold, hsa, -⟩ := id C41.ex
  have ne : e ≠ 41 := by rintro rfl; rw [hC] at he; cases he
  obtain ⟨hh, g, dr, t, os⟩ := s
  refine store_attr (ns := [Str.ofString "code"]) PySem.F.store_Exception hC hn hsa htold noName_told ne (exc_inst he hde hd) (fun h' tk' I k ko => ?_) (by intro y hy; by_cases z : y = Str.ofString "code" <;> simp_all) (by size_fits)
  obtain ⟨o₁, ho₁, c1, c2, c3, c4⟩ := ko _ he
  have e1 : o₁ = excObjD t1 d := by
    obtain ⟨a, b, c', d'⟩ := o₁
    have := c4 d rfl
    dsimp only at c1 c2 c3 this
    subst c1 c2 c3 this; rfl
  subst e1
  have K : ∀ b o, b ≠ e → b ≠ d → hh.get? b = some o → h'.get? b = some o := fun b o n1 n2 => k b o n1 fun o₀ dx q1 q2 => by
    rw [he] at q1; cases q1; cases q2; exact n2
  refine h h' tk' ?_ ho₁ ?_ K
  · obtain ⟨oL, es, ep, hL, r⟩ := F.ns
    exact ⟨⟨oL, es, ep, K _ _ heL.symm hdL.symm hL, r⟩, fun b o z => K b o (fun y => by rw [y, heB] at z; cases z) (fun y => by rw [y, hdB] at z; cases z) (F.keep _ _ z), F.above⟩
  · obtain ⟨o, ho, _, _, hh2⟩ := I
    rw [ho₁] at ho; cases ho
    rcases hh2 with ⟨z, _⟩ | ⟨d', z, _, hns⟩
    · cases z
    · cases z; exact hns
end
end
section -- C5
open PySem PySem.W PyProof.Rows PySem.Calls PySem.Spec
variable {w : World} {p : Program} {loose : List Str} {mean : ExcName → Option Value} {mg mb : Str → Option Value} {dp un : Nat} {fr : Option (List Env)} {gd : Option (List Code)} {s : Shared} {Q E : Value → Shared → Prop}
theorem inst_exc {h₀ h : Heap} {L e t : Addr} {news : List (Addr × Obj)} (N : News h₀ L h news) (h1 : (e, excObj t) ∈ news) : InstAt h e (excObj t) 41 none := ⟨(N _ h1).1, rfl, rfl, trivial⟩
local macro_rules | `(tactic| k_inst) => `(tactic| exact inst_exc (by k_asm) (by k_mem))
local macro_rules | `(tactic| walk_at "getMethod ref") => `(tactic| (k_here; k_dflt (refine' getMethod_super_K ?F ?X ?N ?s ?e ?a ?b ?c ?_; (case F => k_asm); (case X => k_asm); (case N => k_asm); (case s => k_mem); (case e => k_mem); (case a => k_is); (case b => (first | k_is | kernel_rfl)); (case c => k_is); intro q' h' F' N' l1; (try k_lt l1))))
section
variable {prog : Program} {w : World} {A : Around} {s : Shared} {R : Result → Shared → Prop}
theorem mu_codeS {K : Frag} {p : Program} {loose : List Str} {mean : ExcName → Option Value} {mg mb : Str → Option Value} {hB : Heap} (mu : List (Addr × Obj))
    {name qual : Str} {params : Arguments} {body : List Stmt} {scope : Scope} {dV kV doc pm cdv ct oc : Value} {an od : Option Addr} {osl : Array (Option Value)} {f cc : Addr} {args : List Value} {binds : List (Str × Value)}
    (X : K.In hB) (T : Top p loose mean mg mb hB) (hBs : hB.StaysIn s.heap) (hm : ∀ q ∈ mu, s.heap.get? q.1 = some q.2 ∧ hB.get? q.1 = none) (hroom : A.depth < recursionLimit)
    (ho : K.lookup f = some ⟨oc, od, .func (ksFn name qual params body scope dV kV doc pm an cdv ct cc), osl⟩) (hcd : codeIn K cdv qual = true)
    (hbind : BindsTo s (ksFn name qual params body scope dV kV doc pm an cdv ct cc) ⟨args, []⟩ binds) (hloc : ∀ y ∈ binds, scope.names.lookup y.1 = some .local)
    (h : ∀ g L h₁ tk, hB.StaysIn g → (∀ b o, s.heap.get? b = some o → b ∉ mu.map (·.1) → g.get? b = some o) → (∀ b o, g.get? b = some o → s.heap.get? b = some o) → K.In g → Top p loose mean mg mb g →
      Fr g L h₁ (fun y => binds.reverse.lookup y) → News g L h₁ mu →
      _root_.PySem.wpAt (model prog w) (A.deeper (ksEnv qual scope L f cdv cc)) (.func body (ksEnv qual scope L f cdv cc)) (execs body (ksEnv qual scope L f cdv cc))
        (fun fl s' => R (.ok (.ret (match fl with | .ret v => v | _ => .none))) s')
        (fun e s' => wpAny (model prog w) (A.deeper (ksEnv qual scope L f cdv cc)) (leaving (ksEnv qual scope L f cdv cc) e) (fun _ s'' => R (.error e) s'') (fun e' s'' => R (.error e') s'') s')
        { s with heap := h₁, toks := tk })
    (hco : scope.isCoroutine = false) (hgen : scope.isGenerator = false) (hk : scope.kind = .function)
    (hcell : ∀ x ∈ scope.names, x.2 ≠ .cell) : codeAny (model prog w) A (.call (.ref f) ⟨args, []⟩) R s := by
  refine ks_codeAny_call_defAt (fd := ksFn name qual params body scope dV kV doc pm an cdv ct cc) (body := body) (binds := binds) hroom (hBs _ _ (X _ _ ho)) rfl (T.nolimit.keeps hBs) (codeRec_of (X.keeps hBs) hcd) rfl hbind hcell hloc (fun h₁ hns hk₁ => ?_) hco hgen hk
  have st : hB.StaysIn (hideAll s.heap (mu.map (·.1))) := fun b o e => hideAll_get _ (hBs b o e) fun q => by
    obtain ⟨p, hp, rfl⟩ := List.mem_map.mp q
    rw [(hm p hp).2] at e; cases e
  exact h _ _ h₁ _ st (fun b o e n => hideAll_get _ e n) (fun b o e => of_hideAll _ e) (X.keeps st) (T.keeps st)
    ⟨hns, fun b o e => hk₁ b o (of_hideAll _ e), Nat.le_of_eq (hideAll_size _ _)⟩
    (fun p hp => ⟨hk₁ _ _ (hm p hp).1, Nat.ne_of_lt (Heap.lt_size (hm p hp).1), hideAll_none _ (List.mem_map_of_mem hp)⟩)
theorem getMethod_super_K {E : Value → Shared → Prop} {h₀ : Heap} {L e so : Addr} {m : Str → Option Value} {news : List (Addr × Obj)} {K : Frag} {t0 : Addr} {pl : Sem Bool} {Q : Value × List Value → Shared → Prop}
    (F : Fr h₀ L s.heap m) (X₀ : K.In h₀) (N : News h₀ L s.heap news) (hso : (so, ks_superObj 41 e 41) ∈ news) (he : (e, excObj t0) ∈ news) (ho : nsIn K cStatics "thirdparty.any" = some none)
    (hm : ks_superIn K 41 41 "__init__" = some (some (.builtin "Exception.__init__"))) (hsub : mroIn K 41 (.type "Exception") = some true)
    (h : ∀ q h', Fr h₀ L h' m → News h₀ L h' ((q, wrapObj e) :: news) → (∀ p ∈ news, p.1 < q) → Q (.ref q, []) { s with heap := h', toks := s.toks + 1 }) : wpAny (model prog w) A (getMethod (.ref so) "__init__" pl) Q E s := by
  have X : K.In s.heap := X₀.keeps F.keep
  obtain ⟨hh, g, d, t, os⟩ := s
  unfold ks_superIn at hm
  cases hc : clsIn K 41 with
  | none => rw [hc] at hm; cases hm
  | some cd =>
    rw [hc] at hm
    have hx := (N _ he).1
    have ne : e ≠ 41 := by
      rintro rfl
      unfold clsIn at hc
      split at hc
      · rename_i ho'
        have z := X _ _ ho'
        dsimp only at hx
        rw [hx] at z; cases z
      · cases hc
    refine getMethod_super_wd (N _ hso).1 (looks_opaque X ho) (l₀ := cd.mro) ?_ rfl X hm ne hx rfl (looks_mroIn X hsub) ?_
    · exact fun A Q E s k q => wpAny_bind ((looks_clsIn X hc) A _ E s k (wpAny_pure q))
    · obtain ⟨F', N', l'⟩ := ks_newsPush (s := ⟨hh, g, d, t, os⟩) (o := wrapObj e) F N rfl (Heap.get?_push_at rfl rfl) (fun b o e => Heap.get?_push_of_some _ e)
      exact h _ _ F' N' l'
theorem callWith_wrap {M : Model} {E : Value → Shared → Prop} {pos : Pos} {q e : Addr} {env : Env} {x : Str} {np : Pos} {Q : Value → Shared → Prop}
    (h : wpAny M A (spliced (backTo pos (starEach [.Name x np] env))) (fun vs s₁ => s₁.heap.get? q = some (wrapObj e) ∧ wpAny M A (call (.ref q) ([] ++ vs)) Q E s₁) E s) : wpAny M A (callWith pos (.ref q) [] (backTo pos (starEach [.Name x np] env)) []) Q E s := by
  have he : starEach [.Name x np] env = (false, eval (.Name x np) env) :: starEach [] env := rfl
  rw [he] at h ⊢
  unfold callWith
  have hp : (backTo pos ((false, eval (.Name x np) env) :: starEach [] env)).any (·.1) = false := by rfl
  refine wpAny_bind (wpAny_holding (evalArgs_plain (wpAny_mono h (fun vs s₁ h₁ => wpAny_bind (wpAny_standAt ?_)) fun _ _ x => x)))
  obtain ⟨ho, hcall⟩ := h₁
  simp only [hp, List.any_nil, Bool.or_false]
  refine wpAny_bind (m := keeperOf (.ref q)) ?_
  unfold keeperOf
  refine wpAny_bind (wpAny_load ho ?_)
  simp only [show (Value.type "method-wrapper" != Value.type "method") = true by decide, show (Value.type "method-wrapper" == Value.type "builtin_function_or_method" || Value.type "method-wrapper" == Value.type "method-wrapper") = true by decide, if_true]
  refine wpAny_pure ?_
  exact wpAny_bind (wpAny_mono hcall (fun r s₂ hr => wpAny_bind (wpAny_holding (wpAny_point (wpAny_pure hr)))) fun _ _ x => x)
theorem mw_call_K {E : Value → Shared → Prop} {h₀ : Heap} {L e q : Addr} {m : Str → Option Value} {news : List (Addr × Obj)} {t0 : Addr} {v : Value} {Q : Value → Shared → Prop} (F : Fr h₀ L s.heap m) (X₀ : (kfrag.heap_1 w.params).In h₀) (N : News h₀ L s.heap news)
    (hm : (q, wrapObj e) ∈ news) (he : (e, excObj t0) ∈ news) (h : ∀ h' t1, Fr h₀ L h' m → News h₀ L h' [(e, excObj t1)] → Q .none { s with heap := h' }) : wpAny (model prog w) A (call (.ref q) ([] ++ [v])) Q E s := by
  obtain ⟨hh, gg, d, t, os⟩ := s
  refine mw_call (cls41 (X₀.keeps F.keep)) (N _ hm).1 (N _ he).1 fun h' t1 k ke => h h' t1 ?_ ?_
  · exact fr_off (ks := [e]) F N (fun b o e1 n => k b o (fun z => n (by rw [z]; exact .head _)) e1) fun a ha => by rw [List.mem_singleton.mp ha]; exact ⟨_, he⟩
  · exact List.forall_mem_cons.mpr ⟨⟨ke, (N _ he).2⟩, List.forall_mem_nil _⟩
end
set_option maxRecDepth 100000 in
set_option maxHeartbeats 8000000 in
theorem init41 {hB : Heap} {e t0 : Addr} {c : Str} {u : Tok} {v : Value} (X : (kfrag.heap_1 w.params).In hB) (T : Top p loose mean mg mb hB) (hs : hB.StaysIn s.heap) (hD : dp < 900) (hU : un < 9000)
   (he : s.heap.get? e = some (excObj t0)) (heB : hB.get? e = none)
   (ret : ∀ h' tk' t1 d, (∀ b o, b ≠ e → s.heap.get? b = some o → h'.get? b = some o) → h'.get? e = some (excObjD t1 d) → h'.Ns1 d (fun y => if y = Str.ofString "told" then some v else if y = Str.ofString "code" then some (.str c u) else none) → s.heap.get? d = none → d ≠ e → Q .none { s with heap := h', toks := tk' }) :
   wpAny (model Challenge.rw_pq0141_01.row.prog w) ⟨none, dp, fr, gd, un⟩ (call (.ref 38) [.ref e, .str c u, v]) Q E s := by
  revert X; k_fill; intro X
  refine wpAny_call ?_
  k_dflt (refine' mu_codeS (binds := [(Str.ofString "self", .ref e), (Str.ofString "code", .str c u), (Str.ofString "told", v)]) [(e, excObj t0)] ?k3 ?k5 ?k8 ?m ?k6 ?k7 ?k9 ?kA ?kB ?_ ?c2 ?c3 ?c4 ?c5; (case k3 => assumption); (case k5 => assumption); (case k8 => assumption); (case m => exact List.forall_mem_cons.mpr ⟨⟨he, heB⟩, List.forall_mem_nil _⟩); (case k6 => simp only [recursionLimit]; omega); (case k7 => k_is); (case k9 => k_is); (case kA => exact BindsTo.of_defaults (T := 30) rfl (hs _ _ (X 30 _ rfl)) rfl rfl rfl); (case c5 => decide); (case kB => exact locs rfl); (case c2 => exact rfl); (case c3 => exact rfl); (case c4 => exact rfl); k_whole; intro g L h₁ tk st kg kg2 Xg Tg F N; (try dsimp only); (try k_fold))
  k_steps
  k_steps
  (k_dflt (refine' getMethod_super_K ?F ?X ?N ?s ?e ?a ?b ?c ?_; (case F => k_asm); (case X => k_asm); (case N => k_asm); (case s => k_mem); (case e => k_mem); (case a => k_is); (case b => ks_is); (case c => k_is); intro q' h' F' N' l1; (try k_lt l1)))
  refine callWith_wrap (e := e) ?_
  k_steps
  · exact News.get (by k_asm) (by k_mem)
  refine mw_call_K (by k_asm) (by k_asm) (by k_asm) (by k_mem) (by k_mem) ?_
  intro h' t1 F' N'
  clear F N
  (try k_sweep)
  k_steps
  refine set1_K (by k_asm) Xg (by k_asm) ?_
  intro h2 tk2 d F2 e2 n2 dB dL de k2
  obtain ⟨_, eL, eB⟩ := N' _ (.head _)
  clear F' N'
  dsimp only
  k_steps
  refine set2_K (by k_asm) Xg e2 n2 eB eL dB dL de ?_
  intro h3 tk3 F3 e3 n3 k3
  clear F2
  dsimp only
  k_steps
  refine ret h3 tk3 t1 d (fun b o n1 h1 => F3.keep _ _ (kg b o h1 (fun z => n1 (List.mem_singleton.mp z)))) e3 n3 ?_ de
  cases z : s.heap.get? d with
  | none => rfl
  | some o => rw [kg d o z (fun y => de (List.mem_singleton.mp y))] at dB; cases dB
end
section -- C8
open PySem PySem.W PyProof.Rows PySem.Calls PySem.Spec
set_option maxRecDepth 100000
theorem func38 {w : World} {h : Heap} (X : (kfrag.heap_1 w.params).In h) : ∃ o, h.get? 38 = some o ∧ o.cls = .type "function" := ⟨_, X 38 _ (by rfl), rfl⟩
theorem mkErr {w : World} {p : Program} {loose : List Str} {mean : ExcName → Option Value} {mg mb : Str → Option Value} {dp un : Nat} {fr : Option (List Env)} {gd : Option (List Code)} {s : Shared} {Q E : Value → Shared → Prop} {c : Str} {u : Tok} {v : Value}
   (X : (kfrag.heap_1 w.params).In s.heap) (T : Top p loose mean mg mb s.heap) (hD : dp < 890) (hU : un < 8990)
   (ret : ∀ h' tk' e t1 d, (∀ b o, s.heap.get? b = some o → h'.get? b = some o) → s.heap.get? e = none → h'.get? e = some (excObjD t1 d) → h'.Ns1 d (fun y => if y = Str.ofString "told" then some v else if y = Str.ofString "code" then some (.str c u) else none) → s.heap.get? d = none → d ≠ e → Q (.ref e) { s with heap := h', toks := tk' }) :
   wpAny (model Challenge.rw_pq0141_01.row.prog w) ⟨none, dp, fr, gd, un⟩ (call (.ref 41) [.str c u, v]) Q E s := by
  obtain ⟨N, nm, q, bs, sn, sub, ab, col, dd, k0, k1, k2, k3, k5, mN, hC, hn, hi, -⟩ := (cls41 X).ex
  obtain ⟨oF, hF, hFc⟩ := func38 X
  obtain ⟨h, g, d, t, os⟩ := s
  refine wpAny_call_exc_init PySem.F.excBase_Exception hC hn hi hF hFc fun h' e hm => ?_
  obtain ⟨t0, het, ht0, _⟩ := hm.there
  generalize hA : Around.under _ _ = A'
  have hH : A'.handled = none := by rw [← hA]; rfl
  have hD' : A'.depth < 900 := by
    rw [← hA]
    dsimp only [Around.under]
    rw [show (Code.builtin "type.__call__" ⟨[Value.ref 41, Value.str c u, v], []⟩).weight = 1 by kernel_rfl]
    omega
  have hU' : A'.units < 9000 := by
    rw [← hA]
    dsimp only [Around.under]
    rw [show (Code.builtin "type.__call__" ⟨[Value.ref 41, Value.str c u, v], []⟩).cUnits = 1 by kernel_rfl]
    omega
  obtain ⟨a1, a2, a3, a4, a5⟩ := A'
  dsimp only at hH hD' hU'
  subst hH
  exact init41 (hB := h) (s := ⟨h', g, d, t, os⟩) X T hm.keeps hD' hU' het hm.new fun h2 tk2 t1 d2 k e2 n2 z n3 => ⟨rfl, ret h2 tk2 e t1 d2 (fun b o z1 => k b o (fun y => by rw [y, hm.new] at z1; cases z1) (hm.keeps _ _ z1)) hm.new e2 n2 (by
    cases y : h.get? d2 with
    | none => rfl
    | some o => rw [hm.keeps _ _ y] at z; cases z) n3⟩
end
section -- C9
open PySem PySem.W PyProof.Rows PySem.Calls PySem.Spec
set_option maxRecDepth 100000
section
variable {prog : Program} {w : World} {A : Around} {E : Value → Shared → Prop} {s : Shared} {env : Env}
theorem raise_made {x : Sem Value} {Q : Flow → Shared → Prop} (hh : A.handled = none)
    (h : wpAny (model prog w) A x (fun v s₁ => ∃ e t d, v = .ref e ∧ Cls41 s₁.heap ∧ s₁.heap.get? e = some (excObjD t d) ∧ E (.ref e) s₁) E s) : wpAny (model prog w) A (raiseStmt env (some x) none) Q E s := by
  unfold raiseStmt
  refine wpAny_bind (wpAny_mono h (fun v s₁ h₁ => ?_) fun _ _ x => x)
  obtain ⟨e, t, d, rfl, C41, he, hE⟩ := h₁
  obtain ⟨N, nm, q, bs, sn, sub, ab, col, dd, k0, k1, k2, k3, k5, mN, hC, -⟩ := C41.ex
  obtain ⟨hp, g, dr, tk, os⟩ := s₁
  have hcB : (Value.ref 41 :: [Value.type "Exception", .type "BaseException", .type "object"]).contains (.type "BaseException") = true := by decide +kernel
  repeat (first | with_reducible refine wpAny_loadPart_at he ?_ | with_reducible refine wpAny_loadPart_at hC ?_ | (with_reducible refine wpAny_isSubtype_exc hC ?_; rw [hcB]) | wp_step)
  exact wpAny_raiseNew_none hh hE
theorem exec_raise {ex : Expr} {pos : Pos} {Q : Flow → Shared → Prop} (hh : A.handled = none)
    (h : wpAny (model prog w) A (eval ex env) (fun v s₁ => ∃ e t d, v = .ref e ∧ Cls41 s₁.heap ∧ s₁.heap.get? e = some (excObjD t d) ∧ E (.ref e) s₁) E s) : wpAny (model prog w) A (exec (.Raise (some ex) none pos) env) Q E s := by
  rw [arm_exec_Raise]
  first
    | exact wpAny_bind (wpAny_standAt (raise_made hh (wpAny_bind (wpAny_mono h (fun v s₃ h₃ => wpAny_bind (wpAny_standAt (wpAny_pure h₃))) fun _ _ x => x))))
    | (simp only [evalOpt, Option.map]; exact wpAny_bind (wpAny_standAt (raise_made hh (wpAny_bind (wpAny_mono h (fun v s₃ h₃ => wpAny_bind (wpAny_standAt (wpAny_pure h₃))) fun _ _ x => x)))))
    | (refine wpAny_bind (wpAny_standAt (raise_made hh ?_)); trace_state; exact h)
end
end
local macro_rules | `(tactic| walk_at "exec Raise some none") => `(tactic| (k_here; refine exec_raise rfl ?_))
section -- C1
open PySem PySem.W PyProof.Rows PySem.Calls PySem.Spec
variable {w : World} {p : Program} {loose : List Str} {mean : ExcName → Option Value} {mg mb : Str → Option Value} {dp un : Nat} {fr : Option (List Env)} {gd : Option (List Code)} {s : Shared} {Q E : Value → Shared → Prop}
abbrev errNs (c : Value) (v : Value) : Str → Option Value := fun y => if y = Str.ofString "told" then some v else if y = Str.ofString "code" then some c else none
theorem frames_push {B h₀ h : Heap} {env : Env} {outer : List Env} {L : Addr} {m : Str → Option Value} (F : Fr h₀ L h m) (hB : B.StaysIn h₀) (hl : h₀.FunFrames B outer) (hf : env.frame = some L) (hk : env.scope.kind ≠ .module) : h.FunFrames B (env :: outer) :=
  Heap.FunFrames.cons hk hf F.ns (by
    cases z : B.get? L with
    | none => rfl
    | some o => exact absurd (Heap.lt_size (hB _ _ z)) (Nat.not_lt.mpr F.above)) (hl.of_keeps fun b o z _ => ⟨o, F.keep _ _ z, rfl⟩)
theorem frames_keep {B h h' : Heap} {l : List Env} (hl : h.FunFrames B l) (k : ∀ b o, h.get? b = some o → h'.get? b = some o) : h'.FunFrames B l := hl.of_keeps fun b o z _ => ⟨o, k _ _ z, rfl⟩
set_option maxRecDepth 100000 in
set_option maxHeartbeats 8000000 in
theorem expRaise {B bs : Heap} {outer : List Env} {l : Addr} {vs : List Value} {k : Nat} {kd td sg : Str} {u0 : Tok} (X : (kfrag.heap_1 w.params).In s.heap) (T : Top p loose mean mg mb s.heap) (hB : B.StaysIn s.heap) (hF : s.heap.FunFrames B outer) (hb : bs.StaysIn s.heap) (hl : bs.IsList l vs.toArray) (hn : vs.length < 1000) (hD : dp < 840) (hU : un < 8950) 
   (htk : TokAt bs vs k (kd, td)) (h7 : (kd, td) ≠ (Str.ofString "sign", sg)) (s3 : PyData.strOk sg = true)
   (ret : ∀ h' tk' e d u, FlyD B outer e (.ref 41) (some d) .none h' → s.heap.UpToSlots h' → h'.Ns d (errNs (.str (Str.ofString "SN") u) (.int (k : Int) tk)) → E (.ref e) { s with heap := h', toks := tk' }) :
   wpAny (model Challenge.rw_pq0141_01.row.prog w) ⟨none, dp, some outer, gd, un⟩ (call (.ref 76) [.ref l, .int (k : Int) tk, .str sg u0]) Q E s := by
  revert X; k_fill; intro X
  obtain ⟨⟨s1, s2⟩, a, t1, t2, hv, ht⟩ := htk
  replace ht := ht.keeps hb
  replace hl := stays_list hb hl
  (k_dflt (refine' ro_enter ?zk3x47 ?zk5x47 ?zk8x47 ?zk6x47 ?zk7x47 ?zk9x47 ?zkBx47 ?_ ?zc2x47 ?zc3x47 ?zc4x47 ?zc5x47; (case zk3x47 => assumption); (case zk5x47 => assumption); (case zk6x47 => k_is); (case zk7x47 => k_is); (case zk8x47 => simp only [recursionLimit]; omega); (case zk9x47 => exact BindsTo.of_eq rfl); (case zc5x47 => decide); (case zkBx47 => exact locs rfl); (case zc2x47 => exact rfl); (case zc3x47 => exact rfl); (case zc4x47 => exact rfl); k_whole; intro _ _ _ _ _; (try dsimp only); (try k_fold)))
  k_steps
  refine mkErr (by k_in) (Top.keeps (by k_asm) (Fr.keep (by k_asm))) (by walk_at "down") (by walk_at "down") ?_
  intro h' tk' e t1 d k' e0 he n1 d0 de
  with_reducible rename Fr _ _ _ _ => kF
  refine ⟨e, t1, d, rfl, cls41 ((Frag.In.keeps X (Fr.keep kF)).keeps k'), he, ?_⟩
  refine leaveD1 (B := B) rfl rfl ?_ he rfl ?_ ?_ ?_
  · exact frames_keep (frames_push kF hB hF rfl (fun z => nomatch z)) k'
  · exact fun b o z => k' _ _ (Fr.keep kF _ _ (hB _ _ z))
  · cases z : B.get? e with
    | none => rfl
    | some o => have := Fr.keep kF _ _ (hB _ _ z); rw [e0] at this; cases this
  · intro h3 f3 u3
    exact ret _ _ e d _ f3 (((Heap.UpToSlots.of_keeps (Fr.keep kF)).trans (Heap.UpToSlots.of_keeps k')).trans u3) (u3.ns n1.ns)
end
section -- D1
open PySem PySem.W PyProof.Rows PySem.Calls PySem.Spec
variable {w : World} {p : Program} {loose : List Str} {mean : ExcName → Option Value} {mg mb : Str → Option Value} {dp un : Nat} {fr : Option (List Env)} {gd : Option (List Code)} {s : Shared} {Q E : Value → Shared → Prop}
set_option maxRecDepth 100000 in
set_option maxHeartbeats 8000000 in
theorem tkR_P {B bs : Heap} {outer : List Env} {l lv kn : Addr} {vs : List Value} {k : Nat} {t : Str × Str} (X : (kfrag.heap_1 w.params).In s.heap) (T : Top p loose mean mg mb s.heap) (hB : B.StaysIn s.heap) (hF : s.heap.FunFrames B outer) (hb : bs.StaysIn s.heap) (hl : bs.IsList l vs.toArray) (hn : vs.length < 1000) (hD : dp < 840) (hU : un < 8950) 
   (htk : TokAt bs vs k (Str.ofString "sign", Str.ofString ")")) (htk2 : TokAt bs vs (k + 1) t) (hnt : t ≠ (Str.ofString "sign", Str.ofString "("))
   (ret : ∀ h' tk' e d u tk2, FlyD B outer e (.ref 41) (some d) .none h' → s.heap.UpToSlots h' → h'.Ns d (errNs (.str (Str.ofString "SN") u) (.int (k : Int) tk2)) → E (.ref e) { s with heap := h', toks := tk' }) :
   wpAny (model Challenge.rw_pq0141_01.row.prog w) ⟨none, dp, some outer, gd, un⟩ (call (.ref 160) [.ref lv, .ref l, .int (k : Int) tk, .ref kn]) Q E s := by
  revert X; k_fill; intro X
  obtain ⟨⟨s1, s2⟩, a, t1, t2, hv, ht⟩ := htk
  obtain ⟨⟨s3, s4⟩, a2, t3, t4, hv2, ht2⟩ := htk2
  replace ht := ht.keeps hb
  replace ht2 := ht2.keeps hb
  replace hl := stays_list hb hl
  (k_dflt (refine' ro_enter ?zk3x48 ?zk5x48 ?zk8x48 ?zk6x48 ?zk7x48 ?zk9x48 ?zkBx48 ?_ ?zc2x48 ?zc3x48 ?zc4x48 ?zc5x48; (case zk3x48 => assumption); (case zk5x48 => assumption); (case zk6x48 => k_is); (case zk7x48 => k_is); (case zk8x48 => simp only [recursionLimit]; omega); (case zk9x48 => exact BindsTo.of_eq rfl); (case zc5x48 => decide); (case zkBx48 => exact locs rfl); (case zc2x48 => exact rfl); (case zc3x48 => exact rfl); (case zc4x48 => exact rfl); k_whole; intro _ _ _ _ _; (try dsimp only); (try k_fold)))
  k_steps
  (k_dflt (refine poS s2 (by k_in) (Top.keeps (by k_asm) (Fr.keep (by k_asm))) (by walk_at "down") (by walk_at "down") (Fr.lst (by k_asm) hl) hn rfl hv (ht.keeps (Fr.keep (by k_asm))) hv2 (ht2.keeps (Fr.keep (by k_asm))) s3 s4 hnt ?_))
  intro h' tk' K'
  with_reducible rename Fr _ _ _ _ => kF0
  with_reducible rename News _ _ _ _ => kN0
  have F' := fr_on kF0 K'
  have N' := news_on kN0 K'
  clear kF0 kN0
  (try k_sweep)
  k_steps
  refine mkErr (by k_in) (Top.keeps (by k_asm) (Fr.keep (by k_asm))) (by walk_at "down") (by walk_at "down") ?_
  intro h' tk' e t1 d k' e0 he n1 d0 de
  with_reducible rename Fr _ _ _ _ => kF
  refine ⟨e, t1, d, rfl, cls41 ((Frag.In.keeps X (Fr.keep kF)).keeps k'), he, ?_⟩
  refine leaveD1 (B := B) rfl rfl ?_ he rfl ?_ ?_ ?_
  · exact frames_keep (frames_push kF hB hF rfl (fun z => nomatch z)) k'
  · exact fun b o z => k' _ _ (Fr.keep kF _ _ (hB _ _ z))
  · cases z : B.get? e with
    | none => rfl
    | some o => have := Fr.keep kF _ _ (hB _ _ z); rw [e0] at this; cases this
  · intro h3 f3 u3
    exact ret _ _ e d _ _ f3 (((Heap.UpToSlots.of_keeps (Fr.keep kF)).trans (Heap.UpToSlots.of_keeps k')).trans u3) (u3.ns n1.ns)
set_option maxRecDepth 100000 in
set_option maxHeartbeats 8000000 in
theorem tkR_S {B bs : Heap} {outer : List Env} {l lv kn : Addr} {vs : List Value} {k : Nat} {t : Str × Str} (X : (kfrag.heap_1 w.params).In s.heap) (T : Top p loose mean mg mb s.heap) (hB : B.StaysIn s.heap) (hF : s.heap.FunFrames B outer) (hb : bs.StaysIn s.heap) (hl : bs.IsList l vs.toArray) (hn : vs.length < 1000) (hD : dp < 840) (hU : un < 8950) 
   (htk : TokAt bs vs k (Str.ofString "sign", Str.ofString ";")) (htk2 : TokAt bs vs (k + 1) t) (hnt : t ≠ (Str.ofString "sign", Str.ofString "("))
   (ret : ∀ h' tk' e d u tk2, FlyD B outer e (.ref 41) (some d) .none h' → s.heap.UpToSlots h' → h'.Ns d (errNs (.str (Str.ofString "SN") u) (.int (k : Int) tk2)) → E (.ref e) { s with heap := h', toks := tk' }) :
   wpAny (model Challenge.rw_pq0141_01.row.prog w) ⟨none, dp, some outer, gd, un⟩ (call (.ref 160) [.ref lv, .ref l, .int (k : Int) tk, .ref kn]) Q E s := by
  revert X; k_fill; intro X
  obtain ⟨⟨s1, s2⟩, a, t1, t2, hv, ht⟩ := htk
  obtain ⟨⟨s3, s4⟩, a2, t3, t4, hv2, ht2⟩ := htk2
  replace ht := ht.keeps hb
  replace ht2 := ht2.keeps hb
  replace hl := stays_list hb hl
  (k_dflt (refine' ro_enter ?zk3x49 ?zk5x49 ?zk8x49 ?zk6x49 ?zk7x49 ?zk9x49 ?zkBx49 ?_ ?zc2x49 ?zc3x49 ?zc4x49 ?zc5x49; (case zk3x49 => assumption); (case zk5x49 => assumption); (case zk6x49 => k_is); (case zk7x49 => k_is); (case zk8x49 => simp only [recursionLimit]; omega); (case zk9x49 => exact BindsTo.of_eq rfl); (case zc5x49 => decide); (case zkBx49 => exact locs rfl); (case zc2x49 => exact rfl); (case zc3x49 => exact rfl); (case zc4x49 => exact rfl); k_whole; intro _ _ _ _ _; (try dsimp only); (try k_fold)))
  k_steps
  (k_dflt (refine poS s2 (by k_in) (Top.keeps (by k_asm) (Fr.keep (by k_asm))) (by walk_at "down") (by walk_at "down") (Fr.lst (by k_asm) hl) hn rfl hv (ht.keeps (Fr.keep (by k_asm))) hv2 (ht2.keeps (Fr.keep (by k_asm))) s3 s4 hnt ?_))
  intro h' tk' K'
  with_reducible rename Fr _ _ _ _ => kF0
  with_reducible rename News _ _ _ _ => kN0
  have F' := fr_on kF0 K'
  have N' := news_on kN0 K'
  clear kF0 kN0
  (try k_sweep)
  k_steps
  refine mkErr (by k_in) (Top.keeps (by k_asm) (Fr.keep (by k_asm))) (by walk_at "down") (by walk_at "down") ?_
  intro h' tk' e t1 d k' e0 he n1 d0 de
  with_reducible rename Fr _ _ _ _ => kF
  refine ⟨e, t1, d, rfl, cls41 ((Frag.In.keeps X (Fr.keep kF)).keeps k'), he, ?_⟩
  refine leaveD1 (B := B) rfl rfl ?_ he rfl ?_ ?_ ?_
  · exact frames_keep (frames_push kF hB hF rfl (fun z => nomatch z)) k'
  · exact fun b o z => k' _ _ (Fr.keep kF _ _ (hB _ _ z))
  · cases z : B.get? e with
    | none => rfl
    | some o => have := Fr.keep kF _ _ (hB _ _ z); rw [e0] at this; cases this
  · intro h3 f3 u3
    exact ret _ _ e d _ _ f3 (((Heap.UpToSlots.of_keeps (Fr.keep kF)).trans (Heap.UpToSlots.of_keeps k')).trans u3) (u3.ns n1.ns)
set_option maxRecDepth 100000 in
set_option maxHeartbeats 8000000 in
theorem tkR_E {B bs : Heap} {outer : List Env} {l lv kn : Addr} {vs : List Value} {k : Nat} {t : Str × Str} (X : (kfrag.heap_1 w.params).In s.heap) (T : Top p loose mean mg mb s.heap) (hB : B.StaysIn s.heap) (hF : s.heap.FunFrames B outer) (hb : bs.StaysIn s.heap) (hl : bs.IsList l vs.toArray) (hn : vs.length < 1000) (hD : dp < 840) (hU : un < 8950) 
   (htk : TokAt bs vs k (Str.ofString "end", Str.ofString "")) (htk2 : TokAt bs vs (k + 1) t) (hnt : t ≠ (Str.ofString "sign", Str.ofString "("))
   (ret : ∀ h' tk' e d u tk2, FlyD B outer e (.ref 41) (some d) .none h' → s.heap.UpToSlots h' → h'.Ns d (errNs (.str (Str.ofString "SN") u) (.int (k : Int) tk2)) → E (.ref e) { s with heap := h', toks := tk' }) :
   wpAny (model Challenge.rw_pq0141_01.row.prog w) ⟨none, dp, some outer, gd, un⟩ (call (.ref 160) [.ref lv, .ref l, .int (k : Int) tk, .ref kn]) Q E s := by
  revert X; k_fill; intro X
  obtain ⟨⟨s1, s2⟩, a, t1, t2, hv, ht⟩ := htk
  obtain ⟨⟨s3, s4⟩, a2, t3, t4, hv2, ht2⟩ := htk2
  replace ht := ht.keeps hb
  replace ht2 := ht2.keeps hb
  replace hl := stays_list hb hl
  (k_dflt (refine' ro_enter ?zk3x50 ?zk5x50 ?zk8x50 ?zk6x50 ?zk7x50 ?zk9x50 ?zkBx50 ?_ ?zc2x50 ?zc3x50 ?zc4x50 ?zc5x50; (case zk3x50 => assumption); (case zk5x50 => assumption); (case zk6x50 => k_is); (case zk7x50 => k_is); (case zk8x50 => simp only [recursionLimit]; omega); (case zk9x50 => exact BindsTo.of_eq rfl); (case zc5x50 => decide); (case zkBx50 => exact locs rfl); (case zc2x50 => exact rfl); (case zc3x50 => exact rfl); (case zc4x50 => exact rfl); k_whole; intro _ _ _ _ _; (try dsimp only); (try k_fold)))
  k_steps
  (k_dflt (refine poE s2 (by k_in) (Top.keeps (by k_asm) (Fr.keep (by k_asm))) (by walk_at "down") (by walk_at "down") (Fr.lst (by k_asm) hl) hn rfl hv (ht.keeps (Fr.keep (by k_asm))) hv2 (ht2.keeps (Fr.keep (by k_asm))) s3 s4 hnt ?_))
  intro h' tk' K'
  with_reducible rename Fr _ _ _ _ => kF0
  with_reducible rename News _ _ _ _ => kN0
  have F' := fr_on kF0 K'
  have N' := news_on kN0 K'
  clear kF0 kN0
  (try k_sweep)
  k_steps
  refine mkErr (by k_in) (Top.keeps (by k_asm) (Fr.keep (by k_asm))) (by walk_at "down") (by walk_at "down") ?_
  intro h' tk' e t1 d k' e0 he n1 d0 de
  with_reducible rename Fr _ _ _ _ => kF
  refine ⟨e, t1, d, rfl, cls41 ((Frag.In.keeps X (Fr.keep kF)).keeps k'), he, ?_⟩
  refine leaveD1 (B := B) rfl rfl ?_ he rfl ?_ ?_ ?_
  · exact frames_keep (frames_push kF hB hF rfl (fun z => nomatch z)) k'
  · exact fun b o z => k' _ _ (Fr.keep kF _ _ (hB _ _ z))
  · cases z : B.get? e with
    | none => rfl
    | some o => have := Fr.keep kF _ _ (hB _ _ z); rw [e0] at this; cases this
  · intro h3 f3 u3
    exact ret _ _ e d _ _ f3 (((Heap.UpToSlots.of_keeps (Fr.keep kF)).trans (Heap.UpToSlots.of_keeps k')).trans u3) (u3.ns n1.ns)
end
section -- D2
open PySem PySem.W PyProof.Rows PySem.Calls PySem.Spec
variable {w : World} {p : Program} {loose : List Str} {mean : ExcName → Option Value} {mg mb : Str → Option Value} {dp un : Nat} {fr : Option (List Env)} {gd : Option (List Code)} {s : Shared} {Q E : Value → Shared → Prop}
set_option maxRecDepth 100000 in
set_option maxHeartbeats 8000000 in
theorem tkR_T {B bs : Heap} {outer : List Env} {l lv kn : Addr} {vs : List Value} {k : Nat} {t : Str × Str} {ws : List (Str × Tok)} (X : (kfrag.heap_1 w.params).In s.heap) (T : Top p loose mean mg mb s.heap) (hB : B.StaysIn s.heap) (hF : s.heap.FunFrames B outer) (hb : bs.StaysIn s.heap) (hl : bs.IsList l vs.toArray) (hn : vs.length < 1000) (hD : dp < 840) (hU : un < 8950) 
   (htk : TokAt bs vs k (Str.ofString "word", Str.ofString "THEN")) (htk2 : TokAt bs vs (k + 1) t) (hk : s.heap.IsList kn (strValues ws).toArray) (hS : StrsAre (strValues ws) (ws.map fun x => x.1)) (hT : (ws.map fun x => x.1).any (· == Str.ofString "THEN") = false) (hnt : t ≠ (Str.ofString "sign", Str.ofString "("))
   (ret : ∀ h' tk' e d u tk2, FlyD B outer e (.ref 41) (some d) .none h' → s.heap.UpToSlots h' → h'.Ns d (errNs (.str (Str.ofString "SN") u) (.int (k : Int) tk2)) → E (.ref e) { s with heap := h', toks := tk' }) :
   wpAny (model Challenge.rw_pq0141_01.row.prog w) ⟨none, dp, some outer, gd, un⟩ (call (.ref 160) [.ref lv, .ref l, .int (k : Int) tk, .ref kn]) Q E s := by
  revert X; k_fill; intro X
  obtain ⟨⟨s1, s2⟩, a, t1, t2, hv, ht⟩ := htk
  obtain ⟨⟨s3, s4⟩, a2, t3, t4, hv2, ht2⟩ := htk2
  replace ht := ht.keeps hb
  replace ht2 := ht2.keeps hb
  replace hl := stays_list hb hl
  (k_dflt (refine' ro_enter ?zk3x51 ?zk5x51 ?zk8x51 ?zk6x51 ?zk7x51 ?zk9x51 ?zkBx51 ?_ ?zc2x51 ?zc3x51 ?zc4x51 ?zc5x51; (case zk3x51 => assumption); (case zk5x51 => assumption); (case zk6x51 => k_is); (case zk7x51 => k_is); (case zk8x51 => simp only [recursionLimit]; omega); (case zk9x51 => exact BindsTo.of_eq rfl); (case zc5x51 => decide); (case zkBx51 => exact locs rfl); (case zc2x51 => exact rfl); (case zc3x51 => exact rfl); (case zc4x51 => exact rfl); k_whole; intro _ _ _ _ _; (try dsimp only); (try k_fold)))
  k_steps
  (k_dflt (refine poT (by k_in) (Top.keeps (by k_asm) (Fr.keep (by k_asm))) (by walk_at "down") (by walk_at "down") (Fr.lst (by k_asm) hl) hn rfl hv (ht.keeps (Fr.keep (by k_asm))) hv2 (ht2.keeps (Fr.keep (by k_asm))) s3 s4 hnt ?_))
  intro h' tk' K'
  with_reducible rename Fr _ _ _ _ => kF0
  with_reducible rename News _ _ _ _ => kN0
  have F' := fr_on kF0 K'
  have N' := news_on kN0 K'
  clear kF0 kN0
  (try k_sweep)
  k_steps
  refine mkErr (by k_in) (Top.keeps (by k_asm) (Fr.keep (by k_asm))) (by walk_at "down") (by walk_at "down") ?_
  intro h' tk' e t1 d k' e0 he n1 d0 de
  with_reducible rename Fr _ _ _ _ => kF
  refine ⟨e, t1, d, rfl, cls41 ((Frag.In.keeps X (Fr.keep kF)).keeps k'), he, ?_⟩
  refine leaveD1 (B := B) rfl rfl ?_ he rfl ?_ ?_ ?_
  · exact frames_keep (frames_push kF hB hF rfl (fun z => nomatch z)) k'
  · exact fun b o z => k' _ _ (Fr.keep kF _ _ (hB _ _ z))
  · cases z : B.get? e with
    | none => rfl
    | some o => have := Fr.keep kF _ _ (hB _ _ z); rw [e0] at this; cases this
  · intro h3 f3 u3
    exact ret _ _ e d _ _ f3 (((Heap.UpToSlots.of_keeps (Fr.keep kF)).trans (Heap.UpToSlots.of_keeps k')).trans u3) (u3.ns n1.ns)
set_option maxRecDepth 100000 in
set_option maxHeartbeats 8000000 in
theorem tkR_L {B bs : Heap} {outer : List Env} {l lv kn : Addr} {vs : List Value} {k : Nat} {t : Str × Str} {ws : List (Str × Tok)} (X : (kfrag.heap_1 w.params).In s.heap) (T : Top p loose mean mg mb s.heap) (hB : B.StaysIn s.heap) (hF : s.heap.FunFrames B outer) (hb : bs.StaysIn s.heap) (hl : bs.IsList l vs.toArray) (hn : vs.length < 1000) (hD : dp < 840) (hU : un < 8950) 
   (htk : TokAt bs vs k (Str.ofString "word", Str.ofString "ELSE")) (htk2 : TokAt bs vs (k + 1) t) (hk : s.heap.IsList kn (strValues ws).toArray) (hS : StrsAre (strValues ws) (ws.map fun x => x.1)) (hT : (ws.map fun x => x.1).any (· == Str.ofString "ELSE") = false) (hnt : t ≠ (Str.ofString "sign", Str.ofString "("))
   (ret : ∀ h' tk' e d u tk2, FlyD B outer e (.ref 41) (some d) .none h' → s.heap.UpToSlots h' → h'.Ns d (errNs (.str (Str.ofString "SN") u) (.int (k : Int) tk2)) → E (.ref e) { s with heap := h', toks := tk' }) :
   wpAny (model Challenge.rw_pq0141_01.row.prog w) ⟨none, dp, some outer, gd, un⟩ (call (.ref 160) [.ref lv, .ref l, .int (k : Int) tk, .ref kn]) Q E s := by
  revert X; k_fill; intro X
  obtain ⟨⟨s1, s2⟩, a, t1, t2, hv, ht⟩ := htk
  obtain ⟨⟨s3, s4⟩, a2, t3, t4, hv2, ht2⟩ := htk2
  replace ht := ht.keeps hb
  replace ht2 := ht2.keeps hb
  replace hl := stays_list hb hl
  (k_dflt (refine' ro_enter ?zk3x52 ?zk5x52 ?zk8x52 ?zk6x52 ?zk7x52 ?zk9x52 ?zkBx52 ?_ ?zc2x52 ?zc3x52 ?zc4x52 ?zc5x52; (case zk3x52 => assumption); (case zk5x52 => assumption); (case zk6x52 => k_is); (case zk7x52 => k_is); (case zk8x52 => simp only [recursionLimit]; omega); (case zk9x52 => exact BindsTo.of_eq rfl); (case zc5x52 => decide); (case zkBx52 => exact locs rfl); (case zc2x52 => exact rfl); (case zc3x52 => exact rfl); (case zc4x52 => exact rfl); k_whole; intro _ _ _ _ _; (try dsimp only); (try k_fold)))
  k_steps
  (k_dflt (refine poL (by k_in) (Top.keeps (by k_asm) (Fr.keep (by k_asm))) (by walk_at "down") (by walk_at "down") (Fr.lst (by k_asm) hl) hn rfl hv (ht.keeps (Fr.keep (by k_asm))) hv2 (ht2.keeps (Fr.keep (by k_asm))) s3 s4 hnt ?_))
  intro h' tk' K'
  with_reducible rename Fr _ _ _ _ => kF0
  with_reducible rename News _ _ _ _ => kN0
  have F' := fr_on kF0 K'
  have N' := news_on kN0 K'
  clear kF0 kN0
  (try k_sweep)
  k_steps
  refine mkErr (by k_in) (Top.keeps (by k_asm) (Fr.keep (by k_asm))) (by walk_at "down") (by walk_at "down") ?_
  intro h' tk' e t1 d k' e0 he n1 d0 de
  with_reducible rename Fr _ _ _ _ => kF
  refine ⟨e, t1, d, rfl, cls41 ((Frag.In.keeps X (Fr.keep kF)).keeps k'), he, ?_⟩
  refine leaveD1 (B := B) rfl rfl ?_ he rfl ?_ ?_ ?_
  · exact frames_keep (frames_push kF hB hF rfl (fun z => nomatch z)) k'
  · exact fun b o z => k' _ _ (Fr.keep kF _ _ (hB _ _ z))
  · cases z : B.get? e with
    | none => rfl
    | some o => have := Fr.keep kF _ _ (hB _ _ z); rw [e0] at this; cases this
  · intro h3 f3 u3
    exact ret _ _ e d _ _ f3 (((Heap.UpToSlots.of_keeps (Fr.keep kF)).trans (Heap.UpToSlots.of_keeps k')).trans u3) (u3.ns n1.ns)
end
section -- E1
open PySem PySem.W PyProof.Rows PySem.Calls PySem.Spec
variable {w : World} {p : Program} {loose : List Str} {mean : ExcName → Option Value} {mg mb : Str → Option Value} {dp un : Nat} {fr : Option (List Env)} {gd : Option (List Code)} {s : Shared} {Q E : Value → Shared → Prop}
/-- at k there is what no operand begins with -/
def BadAt (bs : Heap) (vs : List Value) (k : Nat) : Prop := (∃ t2, TokAt bs vs (k + 1) t2 ∧ t2 ≠ (Str.ofString "sign", Str.ofString "(")) ∧
  (TokAt bs vs k (Str.ofString "sign", Str.ofString ")") ∨ TokAt bs vs k (Str.ofString "sign", Str.ofString ";") ∨ TokAt bs vs k (Str.ofString "end", Str.ofString "") ∨ TokAt bs vs k (Str.ofString "word", Str.ofString "THEN") ∨ TokAt bs vs k (Str.ofString "word", Str.ofString "ELSE"))
theorem tkR {B bs : Heap} {outer : List Env} {l lv kn : Addr} {vs : List Value} {k : Nat} {ws : List (Str × Tok)} (X : (kfrag.heap_1 w.params).In s.heap) (T : Top p loose mean mg mb s.heap) (hB : B.StaysIn s.heap) (hF : s.heap.FunFrames B outer) (hb : bs.StaysIn s.heap) (hl : bs.IsList l vs.toArray) (hn : vs.length < 1000) (hD : dp < 840) (hU : un < 8950) 
   (hbad : BadAt bs vs k) (hk : s.heap.IsList kn (strValues ws).toArray) (hS : StrsAre (strValues ws) (ws.map fun x => x.1)) (hT : (ws.map fun x => x.1).any (· == Str.ofString "THEN") = false) (hE : (ws.map fun x => x.1).any (· == Str.ofString "ELSE") = false) 
   (ret : ∀ h' tk' e d u tk2, FlyD B outer e (.ref 41) (some d) .none h' → s.heap.UpToSlots h' → h'.Ns d (errNs (.str (Str.ofString "SN") u) (.int (k : Int) tk2)) → E (.ref e) { s with heap := h', toks := tk' }) :
   wpAny (model Challenge.rw_pq0141_01.row.prog w) ⟨none, dp, some outer, gd, un⟩ (call (.ref 160) [.ref lv, .ref l, .int (k : Int) tk, .ref kn]) Q E s := by
  obtain ⟨⟨t2, h2, hnt⟩, h | h | h | h | h⟩ := hbad
  · exact tkR_P X T hB hF hb hl hn hD hU h h2 hnt ret
  · exact tkR_S X T hB hF hb hl hn hD hU h h2 hnt ret
  · exact tkR_E X T hB hF hb hl hn hD hU h h2 hnt ret
  · exact tkR_T X T hB hF hb hl hn hD hU h h2 hk hS hT hnt ret
  · exact tkR_L X T hB hF hb hl hn hD hU h h2 hk hS hE hnt ret
set_option maxRecDepth 100000 in
set_option maxHeartbeats 8000000 in
theorem exprR {B bs : Heap} {outer : List Env} {l : Addr} {vs : List Value} {k : Nat} {tk : Tok} (X : (kfrag.heap_1 w.params).In s.heap) (T : Top p loose mean mg mb s.heap) (hB : B.StaysIn s.heap) (hF : s.heap.FunFrames B outer) (hb : bs.StaysIn s.heap) (hl : bs.IsList l vs.toArray) (hn : vs.length < 1000) (hD : dp < 830) (hU : un < 8940) 
   (hbad : BadAt bs vs k)
   (ret : ∀ h' tk' e d u tk2, FlyD B outer e (.ref 41) (some d) .none h' → s.heap.UpToSlots h' → h'.Ns d (errNs (.str (Str.ofString "SN") u) (.int (k : Int) tk2)) → E (.ref e) { s with heap := h', toks := tk' }) :
   wpAny (model Challenge.rw_pq0141_01.row.prog w) ⟨none, dp, some outer, gd, un⟩ (call (.ref 174) [.ref l, .int (k : Int) tk]) Q E s := by
  revert X; k_fill; intro X
  (k_dflt (refine' ro_enter ?zk3x53 ?zk5x53 ?zk8x53 ?zk6x53 ?zk7x53 ?zk9x53 ?zkBx53 ?_ ?zc2x53 ?zc3x53 ?zc4x53 ?zc5x53; (case zk3x53 => assumption); (case zk5x53 => assumption); (case zk6x53 => k_is); (case zk7x53 => k_is); (case zk8x53 => simp only [recursionLimit]; omega); (case zk9x53 => exact BindsTo.of_eq rfl); (case zc5x53 => decide); (case zkBx53 => exact locs rfl); (case zc2x53 => exact rfl); (case zc3x53 => exact rfl); (case zc4x53 => exact rfl); k_whole; intro _ _ _ _ _; (try dsimp only); (try k_fold)))
  k_steps
  (k_dflt refine mkLevel (by k_asm) (by k_asm) (by k_asm) (by k_asm) (by walk_at "down") (by walk_at "down") ?_)
  intro h' tk' x d a0 o0 r0 k1 k2 k3 k4 k5 na no nr F' N' _ l1 l2 l3 l4
  (k_lt2 l1); (k_lt2 l2); (k_lt2 l3); (k_lt2 l4)
  (try k_sweep)
  k_steps
  (k_dflt refine funcs (by k_in) (Top.keeps (by k_asm) (Fr.keep (by k_asm))) (by walk_at "down") (by walk_at "down") ?_)
  intro h' tk' kn n ws K' hS hT hE
  ((with_reducible rename Fr _ _ _ _ => zkF); (with_reducible rename News _ _ _ _ => zkN); (with_reducible rename NewIn _ _ _ => zkK); have zF := fr_on zkF zkK.1; have zN := news_in zkF zkN zkK; have zne := apart_of (news_ne zkN zkK); (try dsimp only [List.cons_append, List.nil_append] at zN); (repeat (have _ := And.left zne; replace zne := And.right zne)); clear zne zkF zkN zkK)
  k_steps
  (k_dflt (refine tkR (B := B) (bs := bs) (k := k) (by k_in) (Top.keeps (by k_asm) (Fr.keep (by k_asm))) (fun b o z => Fr.keep (by k_asm) _ _ (hB _ _ z)) (frames_push (by k_asm) hB hF rfl (fun z => nomatch z)) (fun b o e => Fr.keep (by k_asm) _ _ (hb b o e)) hl hn (by walk_at "down") (by walk_at "down") hbad (News.isList (by k_asm) (by k_mem)) hS hT hE ?_))
  intro h2 tk2 e d' u tk3 fly up ns
  refine leaveD (B := B) rfl rfl fly ?_
  intro h3 f3 u3
  exact ret _ _ e d' _ _ f3 (((Heap.UpToSlots.of_keeps (Fr.keep (by k_asm))).trans up).trans u3) (u3.ns ns)
end
local macro_rules | `(tactic| k_all) => `(tactic| assumption)
section -- E2
open PySem PySem.W PyProof.Rows PySem.Calls PySem.Spec
variable {w : World} {p : Program} {loose : List Str} {mean : ExcName → Option Value} {mg mb : Str → Option Value} {dp un : Nat} {fr : Option (List Env)} {gd : Option (List Code)} {s : Shared} {Q E : Value → Shared → Prop}
inductive TailAt (w : World) (bs : Heap) (l : Addr) (vs : List Value) (e : Nat) : Bool → Nat → List Dat → Prop
  | stop {t : Str × Str} : TokAt bs vs e t → t.2 ∈ [Str.ofString "", Str.ofString "t", Str.ofString ",", Str.ofString ")", Str.ofString ";", Str.ofString "THEN", Str.ofString "ELSE"] → t ≠ (Str.ofString "sign", Str.ofString ",") → TailAt w bs l vs e true e []
  | bad {k : Nat} : e = k + 1 → TokAt bs vs k (Str.ofString "sign", Str.ofString ",") → BadAt bs vs (k + 1) → TailAt w bs l vs e false k []
  | more {ok : Bool} {k k2 : Nat} {tree : Dat} {rest : List Dat} : TokAt bs vs k (Str.ofString "sign", Str.ofString ",") → FormAt w bs l vs (k + 1) tree k2 → TailAt w bs l vs e ok k2 rest → TailAt w bs l vs e ok k (tree :: rest)
def RowAt (w : World) (bs : Heap) (l : Addr) (vs : List Value) (e : Nat) (ok : Bool) (k : Nat) (trees : List Dat) : Prop :=
  (BadAt bs vs k ∧ e = k ∧ ok = false) ∨ ∃ tree rest k2, FormAt w bs l vs k tree k2 ∧ TailAt w bs l vs e ok k2 rest ∧ trees = tree :: rest
theorem TailAt.tok {w : World} {bs : Heap} {l : Addr} {vs : List Value} {e k : Nat} {ok : Bool} {rest : List Dat} (h : TailAt w bs l vs e ok k rest) : ∃ t : Str × Str, TokAt bs vs k t ∧ t.2 ∈ [Str.ofString "", Str.ofString "t", Str.ofString ",", Str.ofString ")", Str.ofString ";", Str.ofString "THEN", Str.ofString "ELSE"] := by
  cases h with
  | stop a b => exact ⟨_, a, b⟩
  | bad _ a => exact ⟨_, a, by decide +kernel⟩
  | more a => exact ⟨_, a, by decide +kernel⟩
theorem TailAt.cases {w : World} {bs : Heap} {l : Addr} {vs : List Value} {e k : Nat} {ok : Bool} {rest : List Dat} (h : TailAt w bs l vs e ok k rest) :
    (∃ t : Str × Str, TokAt bs vs k t ∧ t ≠ (Str.ofString "sign", Str.ofString ",") ∧ ok = true ∧ e = k ∧ rest = []) ∨ (TokAt bs vs k (Str.ofString "sign", Str.ofString ",") ∧ RowAt w bs l vs e ok (k + 1) rest) := by
  cases h with
  | stop a b c => exact .inl ⟨_, a, c, rfl, rfl, rfl⟩
  | bad q a b => exact .inr ⟨a, .inl ⟨b, q, rfl⟩⟩
  | more a b c => exact .inr ⟨a, .inr ⟨_, _, _, b, c, rfl⟩⟩
theorem sign_is {h₀ bs : Heap} {L : Addr} {m : Str → Option Value} {news : List (Addr × Obj)} {l : Addr} {vs : List Value} {k : Nat} {tk tk2 : Tok} {sg : Str} {t : Str × Str} (b : Bool)
   (F : Fr h₀ L s.heap m) (N : News h₀ L s.heap news) (X : (kfrag.heap_1 w.params).In h₀) (T : Top p loose mean mg mb h₀) (hb : bs.StaysIn h₀) (hl : bs.IsList l vs.toArray) (hn : vs.length < 1000)
   (ht : TokAt bs vs k t) (s3 : PyData.strOk sg = true) (hv : decide (t = (Str.ofString "sign", sg)) = b) (hD : dp < 890) (hU : un < 9000)
   (ret : ∀ h' tk', Fr h₀ L h' m → News h₀ L h' news → Q (.bool b) { s with heap := h', toks := tk' }) :
   wpAny (model Challenge.rw_pq0141_01.row.prog w) ⟨none, dp, fr, gd, un⟩ (call (.ref 69) [.ref l, .int (k : Int) tk, .str sg tk2]) Q E s := by
  obtain ⟨⟨s1, s2⟩, a, t1, t2, ha, hp⟩ := ht
  exact is_sign w k (X.keeps F.keep) (T.keeps F.keep) hD hU (stays_list (fun b o e => F.keep _ _ (hb b o e)) hl) rfl hn ha (stays_tup (fun b o e => F.keep _ _ (hb b o e)) hp) s1 s2 s3 fun h' tk' kk => hv ▸ ret h' tk' (fr_on F kk) (news_on N kk)
abbrev exM (l A : Addr) (v : Value) (k : Nat) (u : Tok) : Str → Option Value := fun y => if y = Str.ofString "some" then some (.ref A) else if y = Str.ofString "at" then some (.int (k : Int) u) else if y = Str.ofString "found" then some v else if y = Str.ofString "tokens" then some (.ref l) else none
theorem fr_as {h₀ h : Heap} {L : Addr} {m m' : Str → Option Value} (F : Fr h₀ L h m) (e : ∀ y, m y = m' y) : Fr h₀ L h m' := (funext e : m = m') ▸ F
theorem datAll_len {news : List (Addr × Obj)} : ∀ {vs : List Value} {ds : List Dat}, DatAll news vs ds → vs.length = ds.length
  | _, _, .nil => rfl
  | _, _, .cons _ r => congrArg (· + 1) (datAll_len r)
theorem datAll_snoc {news : List (Addr × Obj)} {v : Value} {d : Dat} (h : DatIn news v d) : ∀ {vs : List Value} {ds : List Dat}, DatAll news vs ds → DatAll news (vs ++ [v]) (ds ++ [d])
  | _, _, .nil => .cons h .nil
  | _, _, .cons a r => .cons a (datAll_snoc h r)
/-- where the loop over the commas stands -/
def ExI (s₀ : Shared) (L l : Addr) (trees : List Dat) (k : Nat) (rest : List Dat) (s' : Shared) : Prop := ∃ (h : Heap) (tk : Nat) (A : Addr) (v : Value) (u : Tok) (vals : List Value) (cap : Nat) (tl : List (Addr × Obj)) (done : List Dat),
  s' = { s₀ with heap := h, toks := tk } ∧ Fr s₀.heap L h (exM l A v k u) ∧ News s₀.heap L h ((A, PySem.W.listOf vals.toArray cap) :: tl) ∧ (∀ q ∈ tl, q.1 ≠ A) ∧ DatAll tl vals done ∧ trees = done ++ rest
theorem ExI.mk {s₀ : Shared} {L l : Addr} {trees : List Dat} {k : Nat} {rest : List Dat} {h : Heap} {tk : Nat} {A : Addr} {v : Value} {u : Tok} {vals : List Value} {cap : Nat} {tl : List (Addr × Obj)} {done : List Dat}
   (a : Fr s₀.heap L h (exM l A v k u)) (b : News s₀.heap L h ((A, PySem.W.listOf vals.toArray cap) :: tl)) (c : ∀ q ∈ tl, q.1 ≠ A) (d : DatAll tl vals done) (e : trees = done ++ rest) : ExI s₀ L l trees k rest { s₀ with heap := h, toks := tk } :=
  ⟨h, tk, A, v, u, vals, cap, tl, done, rfl, a, b, c, d, e⟩
theorem exM_of {l A : Addr} {v : Value} {k k0 : Nat} {u t : Tok} (y : Str) : (if y = Str.ofString "some" then some (Value.ref A) else if y = Str.ofString "at" then some (Value.int (k : Int) u) else if y = Str.ofString "found" then some v else List.lookup y [(Str.ofString "tokens", Value.ref l), (Str.ofString "at", Value.int (k0 : Int) t)].reverse) = exM l A v k u y := by
  unfold exM
  split
  · rfl
  · split
    · rfl
    · split
      · rfl
      · rename_i h _
        simp only [List.reverse, List.reverseAux, List.lookup]
        have : (y == Str.ofString "at") = false := by simpa using h
        rw [this]
        by_cases z : y = Str.ofString "tokens"
        · simp [z]
        · have : (y == Str.ofString "tokens") = false := by simpa using z
          rw [this]; simp [z]
theorem exM_of2 {l A : Addr} {v v2 : Value} {k k2 : Nat} {u u2 : Tok} (y : Str) : (if y = Str.ofString "at" then some (Value.int (k2 : Int) u2) else if y = Str.ofString "found" then some v2 else exM l A v k u y) = exM l A v2 k2 u2 y := by
  unfold exM
  by_cases h1 : y = Str.ofString "some"
  · subst h1
    rw [if_neg (by decide +kernel), if_neg (by decide +kernel), if_pos rfl, if_pos rfl]
  · rw [if_neg h1, if_neg h1]
    split
    · rfl
    · split <;> rfl
theorem news_mid {h₀ h h' : Heap} {L A q : Addr} {m : Str → Option Value} {o o2 : Obj} {tl tl2 : List (Addr × Obj)} (F : Fr h₀ L h m) (N : News h₀ L h ((A, o) :: tl)) (k : NewIn h h' ((q, o2) :: tl2)) : News h₀ L h' ((A, o) :: (q, o2) :: (tl2 ++ tl)) := fun p hp => by
  refine news_in F N k p ?_
  rcases List.mem_cons.mp hp with rfl | hp
  · exact List.mem_append.mpr (.inr (.head _))
  · rcases List.mem_cons.mp hp with rfl | hp
    · exact .head _
    · rcases List.mem_append.mp hp with hp | hp
      · exact .tail _ (List.mem_append.mpr (.inl hp))
      · exact List.mem_append.mpr (.inr (.tail _ hp))
theorem allLt_ne {d : Addr} : ∀ {l : List (Addr × Obj)}, AllLt d l → ∀ q ∈ l, q.1 ≠ d
  | [], _, _, h => nomatch h
  | p :: _, a, q, h => by
    rcases List.mem_cons.mp h with rfl | h
    · exact Nat.ne_of_lt a.1
    · exact allLt_ne a.2 q h
def Halt (p : Prop) : Prop := p
theorem Halt.go {p : Prop} (h : p) : Halt p := h
theorem Halt.of {p : Prop} (h : Halt p) : p := h
section
variable {prog : Program} {A : Around} {env : Env} {test : PySem.Expr} {body orelse : List Stmt} {QF : Flow → Shared → Prop} {bs : Heap} {l : Addr} {vs : List Value} {e n : Nat} {ok : Bool}
theorem whl_halt {pos : Pos} (h : Halt (WhlRest prog w A E env test body orelse QF 100 s)) : wpAny (model prog w) A (exec (.While test body orelse pos) env) QF E s := whl_start 100 h
theorem whl_rest (h : Halt (WhlRest prog w A E env test body orelse QF n s)) : WhlRest prog w A E env test body orelse QF n s := h
theorem whl_tail (I : Nat → List Dat → Shared → Prop) {k : Nat} {rest : List Dat} (hT : TailAt w bs l vs e ok k rest)
   (step : ∀ k1 rest s, TailAt w bs l vs e ok k1 rest → I k1 rest s → (∀ k2 rest' s', TailAt w bs l vs e ok k2 rest' → I k2 rest' s' → rest'.length < rest.length → Halt (WhlRest prog w A E env test body orelse QF n s')) → WhlRest prog w A E env test body orelse QF (n + 1) s) (h : I k rest s) : Halt (WhlRest prog w A E env test body orelse QF n s) := by
  generalize hm : rest.length = m
  induction m using Nat.strongRecOn generalizing k rest s with
  | _ m ih => exact step k rest s hT h fun k2 rest' s' T' h' lt => ih rest'.length (hm ▸ lt) T' h' rfl
end
/-- one element of a list: an expression, or none -/
theorem elemU {B bs : Heap} {outer : List Env} {l : Addr} {vs : List Value} {k e : Nat} {ok : Bool} {tk : Tok} {trees : List Dat} (X : (kfrag.heap_1 w.params).In s.heap) (T : Top p loose mean mg mb s.heap) (hB : B.StaysIn s.heap) (hF : s.heap.FunFrames B outer) (hb : bs.StaysIn s.heap) (hl : bs.IsList l vs.toArray) (hn : vs.length < 1000) (hD : dp < 830) (hU : un < 8940) 
   (hR : RowAt w bs l vs e ok k trees)
   (ret : ∀ tree rest k2, TailAt w bs l vs e ok k2 rest → trees = tree :: rest → ∀ h' tk' q n v u tl, NewIn s.heap h' ((q, tupOf [v, .int (k2 : Int) u] n) :: tl) → DatIn tl v tree → Q (.ref q) { s with heap := h', toks := tk' })
   (err : ok = false → ∀ h' tk' x d u tk2, FlyD B outer x (.ref 41) (some d) .none h' → s.heap.UpToSlots h' → h'.Ns d (errNs (.str (Str.ofString "SN") u) (.int (e : Int) tk2)) → E (.ref x) { s with heap := h', toks := tk' }) :
   wpAny (model Challenge.rw_pq0141_01.row.prog w) ⟨none, dp, some outer, gd, un⟩ (call (.ref 174) [.ref l, .int (k : Int) tk]) Q E s := by
  rcases hR with ⟨hb1, rfl, rfl⟩ | ⟨tree, rest, k2, hF2, hT, rfl⟩
  · exact exprR X T hB hF hb hl hn hD hU hb1 fun h' tk' x d u tk2 a b c => err rfl h' tk' x d u tk2 a b c
  · obtain ⟨t, ht, h7⟩ := hT.tok
    exact expr X T hb hl hn (by omega) (by omega) hF2 ht h7 fun h' tk' q n v u tl N d => ret tree rest k2 hT rfl h' tk' q n v u tl N d
local macro_rules | `(tactic| walk_at "exec While Call") => `(tactic| (k_here; refine whl_halt ?_))
local macro_rules | `(tactic| walk_at "WhlRest") => `(tactic| (refine whl_rest ?_))
set_option maxRecDepth 100000 in
set_option maxHeartbeats 8000000 in
theorem exprs {B bs : Heap} {outer : List Env} {l : Addr} {vs : List Value} {k e : Nat} {ok : Bool} {tk : Tok} {trees : List Dat} (X : (kfrag.heap_1 w.params).In s.heap) (T : Top p loose mean mg mb s.heap) (hB : B.StaysIn s.heap) (hF : s.heap.FunFrames B outer) (hb : bs.StaysIn s.heap) (hl : bs.IsList l vs.toArray) (hn : vs.length < 1000) (hD : dp < 820) (hU : un < 8930) 
   (hR : RowAt w bs l vs e ok k trees) (htn : trees.length < 1000)
   (ret : ok = true → ∀ h' tk' q n v u tl, NewIn s.heap h' ((q, tupOf [v, .int (e : Int) u] n) :: tl) → DatIn tl v (.list trees) → Q (.ref q) { s with heap := h', toks := tk' })
   (err : ok = false → ∀ h' tk' x d u tk2, FlyD B outer x (.ref 41) (some d) .none h' → s.heap.UpToSlots h' → h'.Ns d (errNs (.str (Str.ofString "SN") u) (.int (e : Int) tk2)) → E (.ref x) { s with heap := h', toks := tk' }) :
   wpAny (model Challenge.rw_pq0141_01.row.prog w) ⟨none, dp, some outer, gd, un⟩ (call (.ref 181) [.ref l, .int (k : Int) tk]) Q E s := by
  revert X; k_fill; intro X
  (k_dflt (refine' ro_enter (binds := [(Str.ofString "tokens", .ref l), (Str.ofString "at", .int (k : Int) tk)]) ?k3 ?k5 ?k8 ?k6 ?k7 ?k9 ?kB ?_ ?c2 ?c3 ?c4 ?c5; (case k3 => assumption); (case k5 => assumption); (case k6 => k_is); (case k7 => k_is); (case k8 => simp only [recursionLimit]; omega); (case k9 => exact BindsTo.of_eq rfl); (case c5 => decide); (case kB => exact locs rfl); (case c2 => exact rfl); (case c3 => exact rfl); (case c4 => exact rfl)))
  intro L h₁ tk0 F N
  (try dsimp only [List.reverse, List.reverseAux])
  (try k_fold)
  k_steps
  (k_dflt (refine elemU (B := B) (bs := bs) (k := k) (by k_in) (Top.keeps (by k_asm) (Fr.keep (by k_asm))) (fun b o z => Fr.keep (by k_asm) _ _ (hB _ _ z)) (frames_push (by k_asm) hB hF rfl (fun z => nomatch z)) (fun b o e => Fr.keep (by k_asm) _ _ (hb b o e)) hl hn (by walk_at "down") (by walk_at "down") hR ?_ ?_))
  rotate_left
  · intro ho h2 tk2 x d' u tk3 fly up ns
    refine leaveD (B := B) rfl rfl fly ?_
    intro h3 f3 u3
    exact err ho _ _ x d' _ _ f3 (((Heap.UpToSlots.of_keeps (Fr.keep (by k_asm))).trans up).trans u3) (u3.ns ns)
  intro tree rest k2 hT htr h' tk' q n v u tl K' hd
  ((with_reducible rename Fr _ _ _ _ => zkF); (with_reducible rename News _ _ _ _ => zkN); (with_reducible rename NewIn _ _ _ => zkK); have zF := fr_on zkF zkK.1; have zN := news_in zkF zkN zkK; have zne := apart_of (news_ne zkN zkK); (try dsimp only [List.cons_append, List.nil_append] at zN); (repeat (have _ := And.left zne; replace zne := And.right zne)); clear zne zkF zkN zkK)
  k_steps
  k_dflt (refine whl_tail (ExI s L l trees) hT ?_ ?_)
  rotate_left
  · rename_i A _ l1 _ F6 N6
    exact ExI.mk (A := A) (v := v) (u := u) (cap := 0) (vals := [v]) (tl := tl) (done := [tree]) (fr_as F6 exM_of) (fun q hq => N6 q ((List.mem_cons.mp hq).elim (fun z => z ▸ .head _) fun z => .tail _ (.tail _ (List.mem_append.mpr (.inl z))))) (fun q hq => Nat.ne_of_lt (l1 q (.tail _ (List.mem_append.mpr (.inl hq))))) (.cons hd .nil) htr
  · intro k1 rest1 s1 hT1 hI ih
    (with_reducible rename Fr _ _ _ _ => kF); (with_reducible rename News _ _ _ _ => kN)
    clear kN kF hT htr
    obtain ⟨h, tk, A, v, u, vals, cap, tl, done, rfl, F1, N1, hne, hds, htr1⟩ := hI
    k_dflt (refine' whl_turn ?hE ?_; (case hE => first | passes_own | with_unfolding_all passes_own))
    k_steps
    rcases hT1.cases with ⟨t, ht, hnc, rfl, rfl, rfl⟩ | ⟨hc, hR1⟩
    · (k_dflt (refine sign_is false (by k_asm) (by k_asm) (by k_asm) (by k_asm) hb hl hn ht (by decide +kernel) (decide_eq_false hnc) (by walk_at "down") (by walk_at "down") ?_))
      intro h' tk' F' N'
      clear F1 N1
      k_steps
      refine ret rfl _ _ _ _ _ _ _ (newIn_of (by k_asm) (by k_asm) fun p hp => hp) ?_
      rw [htr1, List.append_nil]
      exact .list (.head _) (hds.mono fun p hp => .tail _ hp)
    · (k_dflt (refine sign_is true (by k_asm) (by k_asm) (by k_asm) (by k_asm) hb hl hn hc (by decide +kernel) (by decide +kernel) (by walk_at "down") (by walk_at "down") ?_))
      intro h' tk' F' N'
      clear F1 N1
      k_steps
      (k_dflt (refine elemU (B := B) (bs := bs) (k := k1 + 1) (by k_in) (Top.keeps (by k_asm) (Fr.keep (by k_asm))) (fun b o z => Fr.keep (by k_asm) _ _ (hB _ _ z)) (frames_push (by k_asm) hB hF rfl (fun z => nomatch z)) (fun b o e => Fr.keep (by k_asm) _ _ (hb b o e)) hl hn (by walk_at "down") (by walk_at "down") hR1 ?_ ?_))
      rotate_left
      · intro ho h2 tk2 x d' u tk3 fly up ns
        refine leaveD (B := B) rfl rfl fly ?_
        intro h3 f3 u3
        exact err ho _ _ x d' _ _ f3 (((Heap.UpToSlots.of_keeps (Fr.keep (by k_asm))).trans up).trans u3) (u3.ns ns)
      intro tree2 rest2 k2 hT2 hr2 h2 tk2 q n v2 u2 tl2 K' hd2
      have F2 := fr_on F' K'.1
      have N2 := news_mid F' N' K'
      have hA := news_ne N' K'
      have hall : ∀ p ∈ tl2 ++ tl, p.1 ≠ A := fun p hp => (List.mem_append.mp hp).elim (fun z => (hA p (.tail _ z) _ (.head _)).symm) (hne p)
      have hqA : @Ne Nat q A := (hA _ (.head _) _ (.head _)).symm
      have hln : vals.length < 1000 := by
        rw [datAll_len hds]; rw [htr1] at htn; simp only [List.length_append] at htn; omega
      clear F' N' K'
      k_steps
      rename_i F6 N6
      refine ih k2 rest2 _ hT2 (ExI.mk (A := A) (v := v2) (u := u2) (cap := cap + 1) (vals := vals ++ [v2]) (tl := tl2 ++ tl) (done := done ++ [tree2]) (fr_as F6 exM_of2) (fun p hp => N6 p ?_) hall (datAll_snoc (hd2.mono fun p hp => List.mem_append.mpr (.inl hp)) (hds.mono fun p hp => List.mem_append.mpr (.inr hp))) (by rw [htr1, hr2]; simp)) (by rw [hr2]; simp)
      rcases List.mem_cons.mp hp with rfl | hp
      · rw [← List.push_toArray]; exact .head _
      · exact .tail _ (.tail _ hp)
end
section -- E3
open PySem PySem.W PyProof.Rows PySem.Calls PySem.Spec
variable {w : World} {p : Program} {loose : List Str} {mean : ExcName → Option Value} {mg mb : Str → Option Value} {dp un : Nat} {fr : Option (List Env)} {gd : Option (List Code)} {s : Shared} {Q E : Value → Shared → Prop}
set_option maxRecDepth 100000 in
set_option maxHeartbeats 8000000 in
theorem tgtR_5 {B bs : Heap} {outer : List Env} {l : Addr} {vs : List Value} {k : Nat} {tk : Tok} (X : (kfrag.heap_1 w.params).In s.heap) (T : Top p loose mean mg mb s.heap) (hB : B.StaysIn s.heap) (hF : s.heap.FunFrames B outer) (hb : bs.StaysIn s.heap) (hl : bs.IsList l vs.toArray) (hn : vs.length < 1000) (hD : dp < 810) (hU : un < 8920) 
   (htk : TokAt bs vs k (Str.ofString "number", Str.ofString "5"))
   (ret : ∀ h' tk' e d u tk2, FlyD B outer e (.ref 41) (some d) .none h' → s.heap.UpToSlots h' → h'.Ns d (errNs (.str (Str.ofString "SN") u) (.int (k : Int) tk2)) → E (.ref e) { s with heap := h', toks := tk' }) :
   wpAny (model Challenge.rw_pq0141_01.row.prog w) ⟨none, dp, some outer, gd, un⟩ (call (.ref 188) [.ref l, .int (k : Int) tk]) Q E s := by
  revert X; k_fill; intro X
  obtain ⟨⟨s1, s2⟩, a, t1, t2, hv, ht⟩ := htk
  replace ht := ht.keeps hb
  replace hl := stays_list hb hl
  (k_dflt (refine' ro_enter (binds := [(Str.ofString "tokens", .ref l), (Str.ofString "at", .int (k : Int) tk)]) ?k3 ?k5 ?k8 ?k6 ?k7 ?k9 ?kB ?_ ?c2 ?c3 ?c4 ?c5; (case k3 => assumption); (case k5 => assumption); (case k6 => k_is); (case k7 => k_is); (case k8 => simp only [recursionLimit]; omega); (case k9 => exact BindsTo.of_eq rfl); (case c5 => decide); (case kB => exact locs rfl); (case c2 => exact rfl); (case c3 => exact rfl); (case c4 => exact rfl)))
  intro L h₁ tk0 F N
  (try dsimp only [List.reverse, List.reverseAux])
  (try k_fold)
  k_steps
  refine mkErr (by k_in) (Top.keeps (by k_asm) (Fr.keep (by k_asm))) (by walk_at "down") (by walk_at "down") ?_
  intro h' tk' e t1 d k' e0 he n1 d0 de
  with_reducible rename Fr _ _ _ _ => kF
  refine ⟨e, t1, d, rfl, cls41 ((Frag.In.keeps X (Fr.keep kF)).keeps k'), he, ?_⟩
  refine leaveD1 (B := B) rfl rfl ?_ he rfl ?_ ?_ ?_
  · exact frames_keep (frames_push kF hB hF rfl (fun z => nomatch z)) k'
  · exact fun b o z => k' _ _ (Fr.keep kF _ _ (hB _ _ z))
  · cases z : B.get? e with
    | none => rfl
    | some o => have := Fr.keep kF _ _ (hB _ _ z); rw [e0] at this; cases this
  · intro h3 f3 u3
    exact ret _ _ e d _ _ f3 (((Heap.UpToSlots.of_keeps (Fr.keep kF)).trans (Heap.UpToSlots.of_keeps k')).trans u3) (u3.ns n1.ns)
set_option maxRecDepth 100000 in
set_option maxHeartbeats 8000000 in
theorem tgtR_E {B bs : Heap} {outer : List Env} {l : Addr} {vs : List Value} {k : Nat} {tk : Tok} (X : (kfrag.heap_1 w.params).In s.heap) (T : Top p loose mean mg mb s.heap) (hB : B.StaysIn s.heap) (hF : s.heap.FunFrames B outer) (hb : bs.StaysIn s.heap) (hl : bs.IsList l vs.toArray) (hn : vs.length < 1000) (hD : dp < 810) (hU : un < 8920) 
   (htk : TokAt bs vs k (Str.ofString "sign", Str.ofString "="))
   (ret : ∀ h' tk' e d u tk2, FlyD B outer e (.ref 41) (some d) .none h' → s.heap.UpToSlots h' → h'.Ns d (errNs (.str (Str.ofString "SN") u) (.int (k : Int) tk2)) → E (.ref e) { s with heap := h', toks := tk' }) :
   wpAny (model Challenge.rw_pq0141_01.row.prog w) ⟨none, dp, some outer, gd, un⟩ (call (.ref 188) [.ref l, .int (k : Int) tk]) Q E s := by
  revert X; k_fill; intro X
  obtain ⟨⟨s1, s2⟩, a, t1, t2, hv, ht⟩ := htk
  replace ht := ht.keeps hb
  replace hl := stays_list hb hl
  (k_dflt (refine' ro_enter (binds := [(Str.ofString "tokens", .ref l), (Str.ofString "at", .int (k : Int) tk)]) ?k3 ?k5 ?k8 ?k6 ?k7 ?k9 ?kB ?_ ?c2 ?c3 ?c4 ?c5; (case k3 => assumption); (case k5 => assumption); (case k6 => k_is); (case k7 => k_is); (case k8 => simp only [recursionLimit]; omega); (case k9 => exact BindsTo.of_eq rfl); (case c5 => decide); (case kB => exact locs rfl); (case c2 => exact rfl); (case c3 => exact rfl); (case c4 => exact rfl)))
  intro L h₁ tk0 F N
  (try dsimp only [List.reverse, List.reverseAux])
  (try k_fold)
  k_steps
  refine mkErr (by k_in) (Top.keeps (by k_asm) (Fr.keep (by k_asm))) (by walk_at "down") (by walk_at "down") ?_
  intro h' tk' e t1 d k' e0 he n1 d0 de
  with_reducible rename Fr _ _ _ _ => kF
  refine ⟨e, t1, d, rfl, cls41 ((Frag.In.keeps X (Fr.keep kF)).keeps k'), he, ?_⟩
  refine leaveD1 (B := B) rfl rfl ?_ he rfl ?_ ?_ ?_
  · exact frames_keep (frames_push kF hB hF rfl (fun z => nomatch z)) k'
  · exact fun b o z => k' _ _ (Fr.keep kF _ _ (hB _ _ z))
  · cases z : B.get? e with
    | none => rfl
    | some o => have := Fr.keep kF _ _ (hB _ _ z); rw [e0] at this; cases this
  · intro h3 f3 u3
    exact ret _ _ e d _ _ f3 (((Heap.UpToSlots.of_keeps (Fr.keep kF)).trans (Heap.UpToSlots.of_keeps k')).trans u3) (u3.ns n1.ns)
set_option maxRecDepth 100000 in
set_option maxHeartbeats 8000000 in
theorem tgtR_F {B bs : Heap} {outer : List Env} {l : Addr} {vs : List Value} {k : Nat} {tk : Tok} (X : (kfrag.heap_1 w.params).In s.heap) (T : Top p loose mean mg mb s.heap) (hB : B.StaysIn s.heap) (hF : s.heap.FunFrames B outer) (hb : bs.StaysIn s.heap) (hl : bs.IsList l vs.toArray) (hn : vs.length < 1000) (hD : dp < 810) (hU : un < 8920) 
   (htk : TokAt bs vs k (Str.ofString "name", Str.ofString "FN"))
   (ret : ∀ h' tk' e d u tk2, FlyD B outer e (.ref 41) (some d) .none h' → s.heap.UpToSlots h' → h'.Ns d (errNs (.str (Str.ofString "SN") u) (.int (k : Int) tk2)) → E (.ref e) { s with heap := h', toks := tk' }) :
   wpAny (model Challenge.rw_pq0141_01.row.prog w) ⟨none, dp, some outer, gd, un⟩ (call (.ref 188) [.ref l, .int (k : Int) tk]) Q E s := by
  revert X; k_fill; intro X
  obtain ⟨⟨s1, s2⟩, a, t1, t2, hv, ht⟩ := htk
  replace ht := ht.keeps hb
  replace hl := stays_list hb hl
  (k_dflt (refine' ro_enter (binds := [(Str.ofString "tokens", .ref l), (Str.ofString "at", .int (k : Int) tk)]) ?k3 ?k5 ?k8 ?k6 ?k7 ?k9 ?kB ?_ ?c2 ?c3 ?c4 ?c5; (case k3 => assumption); (case k5 => assumption); (case k6 => k_is); (case k7 => k_is); (case k8 => simp only [recursionLimit]; omega); (case k9 => exact BindsTo.of_eq rfl); (case c5 => decide); (case kB => exact locs rfl); (case c2 => exact rfl); (case c3 => exact rfl); (case c4 => exact rfl)))
  intro L h₁ tk0 F N
  (try dsimp only [List.reverse, List.reverseAux])
  (try k_fold)
  k_steps
  refine mkErr (by k_in) (Top.keeps (by k_asm) (Fr.keep (by k_asm))) (by walk_at "down") (by walk_at "down") ?_
  intro h' tk' e t1 d k' e0 he n1 d0 de
  with_reducible rename Fr _ _ _ _ => kF
  refine ⟨e, t1, d, rfl, cls41 ((Frag.In.keeps X (Fr.keep kF)).keeps k'), he, ?_⟩
  refine leaveD1 (B := B) rfl rfl ?_ he rfl ?_ ?_ ?_
  · exact frames_keep (frames_push kF hB hF rfl (fun z => nomatch z)) k'
  · exact fun b o z => k' _ _ (Fr.keep kF _ _ (hB _ _ z))
  · cases z : B.get? e with
    | none => rfl
    | some o => have := Fr.keep kF _ _ (hB _ _ z); rw [e0] at this; cases this
  · intro h3 f3 u3
    exact ret _ _ e d _ _ f3 (((Heap.UpToSlots.of_keeps (Fr.keep kF)).trans (Heap.UpToSlots.of_keeps k')).trans u3) (u3.ns n1.ns)
set_option maxRecDepth 100000 in
set_option maxHeartbeats 8000000 in
theorem tgtR_G {B bs : Heap} {outer : List Env} {l : Addr} {vs : List Value} {k : Nat} {tk : Tok} (X : (kfrag.heap_1 w.params).In s.heap) (T : Top p loose mean mg mb s.heap) (hB : B.StaysIn s.heap) (hF : s.heap.FunFrames B outer) (hb : bs.StaysIn s.heap) (hl : bs.IsList l vs.toArray) (hn : vs.length < 1000) (hD : dp < 810) (hU : un < 8920) 
   (htk : TokAt bs vs k (Str.ofString "name", Str.ofString "FNA"))
   (ret : ∀ h' tk' e d u tk2, FlyD B outer e (.ref 41) (some d) .none h' → s.heap.UpToSlots h' → h'.Ns d (errNs (.str (Str.ofString "SN") u) (.int (k : Int) tk2)) → E (.ref e) { s with heap := h', toks := tk' }) :
   wpAny (model Challenge.rw_pq0141_01.row.prog w) ⟨none, dp, some outer, gd, un⟩ (call (.ref 188) [.ref l, .int (k : Int) tk]) Q E s := by
  revert X; k_fill; intro X
  obtain ⟨⟨s1, s2⟩, a, t1, t2, hv, ht⟩ := htk
  replace ht := ht.keeps hb
  replace hl := stays_list hb hl
  (k_dflt (refine' ro_enter (binds := [(Str.ofString "tokens", .ref l), (Str.ofString "at", .int (k : Int) tk)]) ?k3 ?k5 ?k8 ?k6 ?k7 ?k9 ?kB ?_ ?c2 ?c3 ?c4 ?c5; (case k3 => assumption); (case k5 => assumption); (case k6 => k_is); (case k7 => k_is); (case k8 => simp only [recursionLimit]; omega); (case k9 => exact BindsTo.of_eq rfl); (case c5 => decide); (case kB => exact locs rfl); (case c2 => exact rfl); (case c3 => exact rfl); (case c4 => exact rfl)))
  intro L h₁ tk0 F N
  (try dsimp only [List.reverse, List.reverseAux])
  (try k_fold)
  k_steps
  refine mkErr (by k_in) (Top.keeps (by k_asm) (Fr.keep (by k_asm))) (by walk_at "down") (by walk_at "down") ?_
  intro h' tk' e t1 d k' e0 he n1 d0 de
  with_reducible rename Fr _ _ _ _ => kF
  refine ⟨e, t1, d, rfl, cls41 ((Frag.In.keeps X (Fr.keep kF)).keeps k'), he, ?_⟩
  refine leaveD1 (B := B) rfl rfl ?_ he rfl ?_ ?_ ?_
  · exact frames_keep (frames_push kF hB hF rfl (fun z => nomatch z)) k'
  · exact fun b o z => k' _ _ (Fr.keep kF _ _ (hB _ _ z))
  · cases z : B.get? e with
    | none => rfl
    | some o => have := Fr.keep kF _ _ (hB _ _ z); rw [e0] at this; cases this
  · intro h3 f3 u3
    exact ret _ _ e d _ _ f3 (((Heap.UpToSlots.of_keeps (Fr.keep kF)).trans (Heap.UpToSlots.of_keeps k')).trans u3) (u3.ns n1.ns)
end
section -- E4
open PySem PySem.W PyProof.Rows PySem.Calls PySem.Spec
variable {w : World} {p : Program} {loose : List Str} {mean : ExcName → Option Value} {mg mb : Str → Option Value} {dp un : Nat} {fr : Option (List Env)} {gd : Option (List Code)} {s : Shared} {Q E : Value → Shared → Prop}
theorem good_slice {word : Str} (hw : word ∈ [Str.ofString "A", Str.ofString "B%", Str.ofString "C$", Str.ofString "X.1"]) : (Txt.slice word none (some 2) == Str.ofString "FN") = false := by
  simp only [List.mem_cons, List.not_mem_nil, or_false] at hw
  rcases hw with rfl | rfl | rfl | rfl <;> decide +kernel
theorem good_len {word : Str} (hw : word ∈ [Str.ofString "A", Str.ofString "B%", Str.ofString "C$", Str.ofString "X.1"]) : word.length ≤ sizeLine := by
  simp only [List.mem_cons, List.not_mem_nil, or_false] at hw
  rcases hw with rfl | rfl | rfl | rfl <;> exact Nat.le_of_ble_eq_true (by decide +kernel)
set_option maxRecDepth 100000 in
set_option maxHeartbeats 8000000 in
theorem tgtN {bs : Heap} {l : Addr} {vs : List Value} {k : Nat} {tk : Tok} {word : Str} {t : Str × Str} (X : (kfrag.heap_1 w.params).In s.heap) (T : Top p loose mean mg mb s.heap) (hb : bs.StaysIn s.heap) (hl : bs.IsList l vs.toArray) (hn : vs.length < 1000) (hD : dp < 810) (hU : un < 8920) 
   (htk : TokAt bs vs k (Str.ofString "name", word)) (hw : word ∈ [Str.ofString "A", Str.ofString "B%", Str.ofString "C$", Str.ofString "X.1"]) (htk2 : TokAt bs vs (k + 1) t) (hnt : t ≠ (Str.ofString "sign", Str.ofString "("))
   (ret : ∀ h' tk' q n v u tl, NewIn s.heap h' ((q, tupOf [v, .int ((k + 1 : Nat) : Int) u] n) :: tl) → DatIn tl v (.tuple [.str (Str.ofString "name"), .str word]) → Q (.ref q) { s with heap := h', toks := tk' }) :
   wpAny (model Challenge.rw_pq0141_01.row.prog w) ⟨none, dp, fr, gd, un⟩ (call (.ref 188) [.ref l, .int (k : Int) tk]) Q E s := by
  revert X; k_fill; intro X
  obtain ⟨⟨s1, s2⟩, a, t1, t2, hv, ht⟩ := htk
  replace ht := ht.keeps hb
  have hlb := hl
  replace hl := stays_list hb hl
  dsimp only at ht s2
  have hsl : (Txt.slice word none (some 2) == Str.ofString "FN") = false := good_slice hw
  have hwl : word.length ≤ sizeLine := good_len hw
  (k_dflt (refine' ro_enter (binds := [(Str.ofString "tokens", .ref l), (Str.ofString "at", .int (k : Int) tk)]) ?k3 ?k5 ?k8 ?k6 ?k7 ?k9 ?kB ?_ ?c2 ?c3 ?c4 ?c5; (case k3 => assumption); (case k5 => assumption); (case k6 => k_is); (case k7 => k_is); (case k8 => simp only [recursionLimit]; omega); (case k9 => exact BindsTo.of_eq rfl); (case c5 => decide); (case kB => exact locs rfl); (case c2 => exact rfl); (case c3 => exact rfl); (case c4 => exact rfl)))
  intro L h₁ tk0 F N
  (try dsimp only [List.reverse, List.reverseAux])
  (try k_fold)
  k_steps
  (k_dflt (refine sign_is (k := k + 1) false (by k_asm) (by k_asm) (by k_asm) (by k_asm) hb hlb hn htk2 (by decide +kernel) (decide_eq_false hnt) (by walk_at "down") (by walk_at "down") ?_))
  intro h' tk' F' N'
  k_steps
  exact ret _ _ _ _ _ _ _ (newIn_of (by k_asm) (by k_asm) fun p hp => hp) (.tuple (.head _) (.cons (.str _ _) (.cons (.str _ _) .nil)))
set_option maxRecDepth 100000 in
set_option maxHeartbeats 8000000 in
theorem expOk {bs : Heap} {l : Addr} {vs : List Value} {k : Nat} {tk u0 : Tok} {sg : Str} (X : (kfrag.heap_1 w.params).In s.heap) (T : Top p loose mean mg mb s.heap) (hb : bs.StaysIn s.heap) (hl : bs.IsList l vs.toArray) (hn : vs.length < 1000) (hD : dp < 840) (hU : un < 8950) 
   (htk : TokAt bs vs k (Str.ofString "sign", sg)) (s3 : PyData.strOk sg = true)
   (ret : ∀ h' tk' u, (∀ b o, s.heap.get? b = some o → h'.get? b = some o) → Q (.int ((k + 1 : Nat) : Int) u) { s with heap := h', toks := tk' }) :
   wpAny (model Challenge.rw_pq0141_01.row.prog w) ⟨none, dp, fr, gd, un⟩ (call (.ref 76) [.ref l, .int (k : Int) tk, .str sg u0]) Q E s := by
  revert X; k_fill; intro X
  (k_dflt (refine' ro_enter (binds := [(Str.ofString "tokens", .ref l), (Str.ofString "at", .int (k : Int) tk), (Str.ofString "sign", .str sg u0)]) ?k3 ?k5 ?k8 ?k6 ?k7 ?k9 ?kB ?_ ?c2 ?c3 ?c4 ?c5; (case k3 => assumption); (case k5 => assumption); (case k6 => k_is); (case k7 => k_is); (case k8 => simp only [recursionLimit]; omega); (case k9 => exact BindsTo.of_eq rfl); (case c5 => decide); (case kB => exact locs rfl); (case c2 => exact rfl); (case c3 => exact rfl); (case c4 => exact rfl)))
  intro L h₁ tk0 F N
  (try dsimp only [List.reverse, List.reverseAux])
  (try k_fold)
  k_steps
  (k_dflt (refine sign_is true (by k_asm) (by k_asm) (by k_asm) (by k_asm) hb hl hn htk s3 (decide_eq_true rfl) (by walk_at "down") (by walk_at "down") ?_))
  intro h' tk' F' N'
  k_steps
  exact ret _ _ _ (Fr.keep (by k_asm))
set_option maxRecDepth 100000 in
set_option maxHeartbeats 8000000 in
theorem tgtI {B bs : Heap} {outer : List Env} {l : Addr} {vs : List Value} {k e e0 : Nat} {ok ok0 : Bool} {tk : Tok} {word : Str} {trees : List Dat} (X : (kfrag.heap_1 w.params).In s.heap) (T : Top p loose mean mg mb s.heap) (hB : B.StaysIn s.heap) (hF : s.heap.FunFrames B outer) (hb : bs.StaysIn s.heap) (hl : bs.IsList l vs.toArray) (hn : vs.length < 1000) (hD : dp < 810) (hU : un < 8920) 
   (htk : TokAt bs vs k (Str.ofString "name", word)) (hw : word ∈ [Str.ofString "A", Str.ofString "B%", Str.ofString "C$", Str.ofString "X.1"]) (htk2 : TokAt bs vs (k + 1) (Str.ofString "sign", Str.ofString "("))
   (hR : RowAt w bs l vs e0 ok0 (k + 2) trees) (htn : trees.length < 1000) (h0 : ok0 = false → ok = false ∧ e = e0)
   (h1 : ok0 = true → ∃ t, TokAt bs vs e0 t ∧ ((t = (Str.ofString "sign", Str.ofString ")") ∧ ok = true ∧ e = e0 + 1) ∨ (t ≠ (Str.ofString "sign", Str.ofString ")") ∧ ok = false ∧ e = e0)))
   (ret : ok = true → ∀ h' tk' q n v u tl, NewIn s.heap h' ((q, tupOf [v, .int (e : Int) u] n) :: tl) → DatIn tl v (.tuple [.str (Str.ofString "item"), .str word, .list trees]) → Q (.ref q) { s with heap := h', toks := tk' })
   (err : ok = false → ∀ h' tk' x d u tk2, FlyD B outer x (.ref 41) (some d) .none h' → s.heap.UpToSlots h' → h'.Ns d (errNs (.str (Str.ofString "SN") u) (.int (e : Int) tk2)) → E (.ref x) { s with heap := h', toks := tk' }) :
   wpAny (model Challenge.rw_pq0141_01.row.prog w) ⟨none, dp, some outer, gd, un⟩ (call (.ref 188) [.ref l, .int (k : Int) tk]) Q E s := by
  revert X; k_fill; intro X
  obtain ⟨⟨s1, s2⟩, a, t1, t2, hv, ht⟩ := htk
  replace ht := ht.keeps hb
  have hlb := hl
  replace hl := stays_list hb hl
  dsimp only at ht s2
  have hsl : (Txt.slice word none (some 2) == Str.ofString "FN") = false := good_slice hw
  have hwl : word.length ≤ sizeLine := good_len hw
  (k_dflt (refine' ro_enter (binds := [(Str.ofString "tokens", .ref l), (Str.ofString "at", .int (k : Int) tk)]) ?k3 ?k5 ?k8 ?k6 ?k7 ?k9 ?kB ?_ ?c2 ?c3 ?c4 ?c5; (case k3 => assumption); (case k5 => assumption); (case k6 => k_is); (case k7 => k_is); (case k8 => simp only [recursionLimit]; omega); (case k9 => exact BindsTo.of_eq rfl); (case c5 => decide); (case kB => exact locs rfl); (case c2 => exact rfl); (case c3 => exact rfl); (case c4 => exact rfl)))
  intro L h₁ tk0 F N
  (try dsimp only [List.reverse, List.reverseAux])
  (try k_fold)
  k_steps
  (k_dflt (refine sign_is (k := k + 1) true (by k_asm) (by k_asm) (by k_asm) (by k_asm) hb hlb hn htk2 (by decide +kernel) (by decide +kernel) (by walk_at "down") (by walk_at "down") ?_))
  intro h' tk' F' N'
  k_steps
  (k_dflt (refine exprs (B := B) (bs := bs) (k := k + 2) (by k_in) (Top.keeps (by k_asm) (Fr.keep (by k_asm))) (fun b o z => Fr.keep (by k_asm) _ _ (hB _ _ z)) (frames_push (by k_asm) hB hF rfl (fun z => nomatch z)) (fun b o e => Fr.keep (by k_asm) _ _ (hb b o e)) hlb hn (by walk_at "down") (by walk_at "down") hR htn ?_ ?_))
  rotate_left
  · intro ho h2 tk2 x d' u tk3 fly up ns
    obtain ⟨ho, rfl⟩ := h0 ho
    refine leaveD (B := B) rfl rfl fly ?_
    intro h3 f3 u3
    exact err ho _ _ x d' _ _ f3 (((Heap.UpToSlots.of_keeps (Fr.keep (by k_asm))).trans up).trans u3) (u3.ns ns)
  intro ho h' tk' q n v u tl K' hd
  obtain ⟨t, ht9, hend⟩ := h1 ho
  ((with_reducible rename Fr _ _ _ _ => zkF); (with_reducible rename News _ _ _ _ => zkN); (with_reducible rename NewIn _ _ _ => zkK); have zF := fr_on zkF zkK.1; have zN := news_in zkF zkN zkK; have zne := apart_of (news_ne zkN zkK); (try dsimp only [List.cons_append, List.nil_append] at zN); (repeat (have _ := And.left zne; replace zne := And.right zne)); clear zne zkF zkN zkK)
  k_steps
  rcases hend with ⟨rfl, ho2, he2⟩ | ⟨hne2, ho2, he2⟩
  · (k_dflt (refine expOk (k := e0) (bs := bs) (by k_in) (Top.keeps (by k_asm) (Fr.keep (by k_asm))) (fun b o e => Fr.keep (by k_asm) _ _ (hb b o e)) hlb hn (by walk_at "down") (by walk_at "down") ht9 (by decide +kernel) ?_))
    intro h' tk' u7 K7
    (with_reducible rename Fr _ _ _ _ => kF); (with_reducible rename News _ _ _ _ => kN)
    have F' := fr_on kF K7
    have N' := news_on kN K7
    clear kF kN
    k_steps
    subst he2
    exact ret ho2 _ _ _ _ _ _ _ (newIn_of (by k_asm) (by k_asm) fun p hp => hp) (.tuple (.head _) (.cons (.str _ _) (.cons (.str _ _) (.cons (hd.mono fun p hp => .tail _ (.tail _ (List.mem_append.mpr (.inl hp)))) .nil))))
  · (k_dflt (refine expRaise (B := B) (bs := bs) (k := e0) (by k_in) (Top.keeps (by k_asm) (Fr.keep (by k_asm))) (fun b o z => Fr.keep (by k_asm) _ _ (hB _ _ z)) (frames_push (by k_asm) hB hF rfl (fun z => nomatch z)) (fun b o e => Fr.keep (by k_asm) _ _ (hb b o e)) hlb hn (by walk_at "down") (by walk_at "down") ht9 hne2 (by decide +kernel) ?_))
    intro h2 tk2 x d' u3 fly up ns
    subst he2
    refine leaveD (B := B) rfl rfl fly ?_
    intro h3 f3 u4
    exact err ho2 _ _ x d' _ _ f3 (((Heap.UpToSlots.of_keeps (Fr.keep (by k_asm))).trans up).trans u4) (u4.ns ns)
end
section -- F0
open PySem PySem.W PyProof.Rows PySem.Calls PySem.Spec
set_option maxRecDepth 100000
/-- the heap holds the datum at v -/
def HasD (h : Heap) (v : Value) (d : Dat) : Prop := ∃ tl, (∀ p ∈ tl, h.get? p.1 = some p.2) ∧ DatIn tl v d
def HasAll (h : Heap) (vs : List Value) (ds : List Dat) : Prop := ∃ tl, (∀ p ∈ tl, h.get? p.1 = some p.2) ∧ DatAll tl vs ds
section
variable {h h' : Heap} {v : Value} {d : Dat} {vs : List Value} {ds : List Dat}
theorem HasD.keeps (x : HasD h v d) (k : ∀ b o, h.get? b = some o → h'.get? b = some o) : HasD h' v d := let ⟨tl, a, b⟩ := x; ⟨tl, fun p hp => k _ _ (a p hp), b⟩
theorem HasAll.keeps (x : HasAll h vs ds) (k : ∀ b o, h.get? b = some o → h'.get? b = some o) : HasAll h' vs ds := let ⟨tl, a, b⟩ := x; ⟨tl, fun p hp => k _ _ (a p hp), b⟩
theorem HasD.int (i : Int) (t : Tok) : HasD h (.int i t) (.int i) := ⟨[], List.forall_mem_nil _, .int i t⟩
theorem HasD.str (x : Str) (t : Tok) : HasD h (.str x t) (.str x) := ⟨[], List.forall_mem_nil _, .str x t⟩
theorem HasAll.nil : HasAll h [] [] := ⟨[], List.forall_mem_nil _, .nil⟩
theorem HasAll.cons (x : HasD h v d) (y : HasAll h vs ds) : HasAll h (v :: vs) (d :: ds) := by
  obtain ⟨t1, a1, b1⟩ := x
  obtain ⟨t2, a2, b2⟩ := y
  exact ⟨t1 ++ t2, fun p hp => (List.mem_append.mp hp).elim (a1 p) (a2 p), .cons (b1.mono fun p hp => List.mem_append.mpr (.inl hp)) (b2.mono fun p hp => List.mem_append.mpr (.inr hp))⟩
theorem HasAll.append (x : HasAll h vs ds) {us : List Value} {es : List Dat} (y : HasAll h us es) : HasAll h (vs ++ us) (ds ++ es) := by
  obtain ⟨t1, a1, b1⟩ := x
  exact HasAll.append.go (a1 := a1) y b1
where go {h : Heap} {us : List Value} {es : List Dat} {t1 : List (Addr × Obj)} {a1 : ∀ p ∈ t1, h.get? p.1 = some p.2} (y : HasAll h us es) : ∀ {vs : List Value} {ds : List Dat}, DatAll t1 vs ds → HasAll h (vs ++ us) (ds ++ es)
  | _, _, .nil => y
  | _, _, .cons q r => .cons ⟨t1, a1, q⟩ (go (a1 := a1) y r)
theorem HasAll.inv {ws : List Value} (x : HasAll h ws (d :: ds)) : ∃ v vs, ws = v :: vs ∧ HasD h v d ∧ HasAll h vs ds := by
  obtain ⟨tl, a, b⟩ := x
  cases b with
  | cons q r => exact ⟨_, _, rfl, ⟨tl, a, q⟩, ⟨tl, a, r⟩⟩
theorem HasAll.inv0 {ws : List Value} (x : HasAll h ws []) : ws = [] := by
  obtain ⟨tl, a, b⟩ := x
  cases b; rfl
theorem HasAll.length (x : HasAll h vs ds) : vs.length = ds.length := let ⟨_, _, b⟩ := x; datAll_len b
theorem HasD.tuple {a : Addr} {n : Nat} (o : h.get? a = some (tupOf vs n)) (x : HasAll h vs ds) : HasD h (.ref a) (.tuple ds) := by
  obtain ⟨tl, q, b⟩ := x
  exact ⟨(a, tupOf vs n) :: tl, List.forall_mem_cons.mpr ⟨o, q⟩, .tuple (.head _) (b.mono fun p hp => .tail _ hp)⟩
theorem HasD.list {a : Addr} {n : Nat} (o : h.get? a = some (PySem.W.listOf vs.toArray n)) (x : HasAll h vs ds) : HasD h (.ref a) (.list ds) := by
  obtain ⟨tl, q, b⟩ := x
  exact ⟨(a, PySem.W.listOf vs.toArray n) :: tl, List.forall_mem_cons.mpr ⟨o, q⟩, .list (.head _) (b.mono fun p hp => .tail _ hp)⟩
theorem HasD.tuple_inv (x : HasD h v (.tuple ds)) : ∃ a vs n, v = .ref a ∧ h.get? a = some (tupOf vs n) ∧ HasAll h vs ds := by
  obtain ⟨tl, q, b⟩ := x
  cases b with
  | tuple m r => exact ⟨_, _, _, rfl, q _ m, ⟨tl, q, r⟩⟩
theorem HasD.list_inv (x : HasD h v (.list ds)) : ∃ a vs n, v = .ref a ∧ h.get? a = some (PySem.W.listOf vs.toArray n) ∧ HasAll h vs ds := by
  obtain ⟨tl, q, b⟩ := x
  cases b with
  | list m r => exact ⟨_, _, _, rfl, q _ m, ⟨tl, q, r⟩⟩
theorem HasD.str_inv {x : Str} (y : HasD h v (.str x)) : ∃ t, v = .str x t := by
  obtain ⟨tl, q, b⟩ := y
  cases b; exact ⟨_, rfl⟩
theorem HasD.int_inv {i : Int} (y : HasD h v (.int i)) : ∃ t, v = .int i t := by
  obtain ⟨tl, q, b⟩ := y
  cases b; exact ⟨_, rfl⟩
theorem HasD.of_new {h0 : Heap} {tl tl2 : List (Addr × Obj)} (k : NewIn h0 h tl2) (hs : ∀ p ∈ tl, p ∈ tl2) (x : DatIn tl v d) : HasD h v d := ⟨tl, fun p hp => (k.2 p (hs p hp)).1, x⟩
theorem reads_of (n : Nat) (x : HasD h v d) (k : kqdOk n d = true) : ∃ as, Reads h v (kqdP d) as := by
  obtain ⟨tl, q, b⟩ := x
  exact kqd_in (h₀ := hideAll h (tl.map (·.1))) (L := h.objs.size) (fun p hp => ⟨q p hp, Nat.ne_of_lt (Heap.lt_size (q p hp)), hideAll_none _ (List.mem_map_of_mem hp)⟩) n b k
end
section
variable {prog : Program} {w : World} {A : Around} {E : Value → Shared → Prop} {s : Shared} {Q : Value → Shared → Prop}
theorem eqv_has {da db : Dat} (ka : kqdOk 8 da = true) (kb : kqdOk 8 db = true) {r : Bool} (hr : r = true ↔ da = db) : PyData.eqv (kqdP da) (kqdP db) = r := by
  have q := (kqd_eqv 8 da db 8 ka kb).trans hr.symm
  cases r with
  | true => exact q.mpr rfl
  | false => exact Bool.eq_false_iff.mpr fun x => Bool.noConfusion (q.mp x)
theorem shaped_has {da : Dat} (ka : kqdOk 8 da = true) : SeqAt.shaped (kqdP da) = true := by
  have la := kqd_lay 8 _ ka
  unfold SeqAt.shaped; rw [la.1, Bool.true_and]; exact decide_eq_true (Nat.le_trans la.2 (by decide))
theorem eq_has {a b : Value} {da db : Dat} (x : HasD s.heap a da) (y : HasD s.heap b db) (ka : kqdOk 8 da = true) (kb : kqdOk 8 db = true) (hu : A.units + 64 < cLine) (r : Bool) (hr : r = true ↔ da = db)
    (h : Q (.bool r) s) : wpAny (model prog w) A (compareOp .Eq a b) Q E s := by
  obtain ⟨as, ra⟩ := reads_of 8 x ka
  obtain ⟨bs, rb⟩ := reads_of 8 y kb
  exact eq_dataH ra rb (shaped_has ka) (shaped_has kb) hu (by rw [eqv_has ka kb hr]; exact h)
theorem ne_has {a b : Value} {da db : Dat} (x : HasD s.heap a da) (y : HasD s.heap b db) (ka : kqdOk 8 da = true) (kb : kqdOk 8 db = true) (hu : A.units + 64 < cLine) (r : Bool) (hr : r = true ↔ da = db)
    (h : Q (.bool (!r)) s) : wpAny (model prog w) A (compareOp .NotEq a b) Q E s := by
  obtain ⟨as, ra⟩ := reads_of 8 x ka
  obtain ⟨bs, rb⟩ := reads_of 8 y kb
  exact ne_dataH ra rb (shaped_has ka) (shaped_has kb) hu (by rw [eqv_has ka kb hr]; exact h)
end
def isSeq (p : Addr × Obj) : Bool := match p.2.data with | .seq _ _ => true | _ => false
theorem isSeq_no {p : Addr × Obj} (h : isSeq p = true) : ∀ es n, p.2.data ≠ .dict es n := fun es n q => by unfold isSeq at h; rw [q] at h; cases h
mutual
theorem datIn_seq {tl : List (Addr × Obj)} : ∀ {v : Value} {d : Dat}, DatIn tl v d → DatIn (tl.filter isSeq) v d
  | _, _, .none => .none
  | _, _, .bool b => .bool b
  | _, _, .int i t => .int i t
  | _, _, .str x t => .str x t
  | _, _, .bytes b t => .bytes b t
  | _, _, .tuple h r => .tuple (List.mem_filter.mpr ⟨h, rfl⟩) (datAll_seq r)
  | _, _, .list h r => .list (List.mem_filter.mpr ⟨h, rfl⟩) (datAll_seq r)
theorem datAll_seq {tl : List (Addr × Obj)} : ∀ {vs : List Value} {ds : List Dat}, DatAll tl vs ds → DatAll (tl.filter isSeq) vs ds
  | _, _, .nil => .nil
  | _, _, .cons a r => .cons (datIn_seq a) (datAll_seq r)
end
/-- a datum moves to any heap that holds the lists and tuples -/
theorem HasD.into {h h' : Heap} {v : Value} {d : Dat} (x : HasD h v d) (k : ∀ b o, h.get? b = some o → (∀ es n, o.data ≠ .dict es n) → h'.get? b = some o) : HasD h' v d := by
  obtain ⟨tl, a, b⟩ := x
  exact ⟨tl.filter isSeq, fun p hp => k _ _ (a p (List.mem_filter.mp hp).1) (isSeq_no (List.mem_filter.mp hp).2), datIn_seq b⟩
/-- the frames below: each a namespace of h that B does not hold -/
def Outs (B h : Heap) (outer : List Env) : Prop := ∀ env ∈ outer, env.scope.kind ≠ .module ∧ ∃ L m, env.frame = some L ∧ B.get? L = none ∧ h.Ns L m
section
variable {B B' h h' : Heap} {outer : List Env} {env : Env} {L : Addr} {m : Str → Option Value}
theorem Outs.nil : Outs B h [] := List.forall_mem_nil _
theorem Outs.slots (x : Outs B h outer) (u : h.UpToSlots h') : Outs B h' outer := fun env he => let ⟨a, L, m, b, c, d⟩ := x env he; ⟨a, L, m, b, c, u.ns d⟩
theorem Outs.keeps (x : Outs B h outer) (k : ∀ b o, h.get? b = some o → h'.get? b = some o) : Outs B h' outer := x.slots (.of_keeps k)
theorem Outs.cons (x : Outs B h outer) (a : env.scope.kind ≠ .module) (b : env.frame = some L) (c : B.get? L = none) (d : h.Ns L m) : Outs B h (env :: outer) := List.forall_mem_cons.mpr ⟨⟨a, L, m, b, c, d⟩, x⟩
theorem Outs.base (x : Outs B h outer) (e : ∀ env ∈ outer, ∀ a, env.frame = some a → B'.get? a = none) : Outs B' h outer := fun env he => let ⟨a, L, m, b, _, d⟩ := x env he; ⟨a, L, m, b, e env he L b, d⟩
theorem Outs.fun_ : ∀ {outer : List Env}, Outs B h outer → h.FunFrames B outer
  | [], _ => trivial
  | env :: rest, x => by
    obtain ⟨a, L, m, b, c, d⟩ := x env (.head _)
    exact Heap.FunFrames.cons a b d c (Outs.fun_ fun e he => x e (.tail _ he))
theorem Outs.data (x : Outs B h outer) {a : Addr} {o : Obj} (ho : h.get? a = some o) (hd : ∀ es n, o.data ≠ .dict es n) : ∀ env ∈ outer, env.frame ≠ some a := fun env he q => by
  obtain ⟨_, L, m, b, _, oL, es, ep, hL, hdd, _⟩ := x env he
  obtain rfl : L = a := Option.some.inj (b.symm.trans q)
  rw [hL] at ho; cases ho
  exact hd es ep hdd
abbrev framesOf (outer : List Env) : List Addr := outer.filterMap (·.frame)
theorem mem_framesOf {a : Addr} : a ∈ framesOf outer ↔ ∃ env ∈ outer, env.frame = some a := List.mem_filterMap
/-- all that stands now but for the frames -/
theorem Outs.hide (x : Outs B h outer) (as : List Addr) : Outs (hideAll h (framesOf outer ++ as)) h outer := x.base fun env he a q => hideAll_none _ (List.mem_append.mpr (.inl (mem_framesOf.mpr ⟨env, he, q⟩)))
theorem Outs.stays (x : Outs B h outer) (k : B.StaysIn h) {as : List Addr} (n : ∀ a ∈ as, B.get? a = none) : B.StaysIn (hideAll h (framesOf outer ++ as)) := fun b o e => hideAll_get _ (k b o e) fun q => by
  rcases List.mem_append.mp q with q | q
  · obtain ⟨env, he, hf⟩ := mem_framesOf.mp q
    obtain ⟨_, L, m, b', c, _⟩ := x env he
    obtain rfl : L = b := Option.some.inj (b'.symm.trans hf)
    rw [c] at e; cases e
  · rw [n b q] at e; cases e
theorem Outs.into (x : Outs B h outer) {a : Addr} {o : Obj} {as : List Addr} (ho : h.get? a = some o) (hd : ∀ es n, o.data ≠ .dict es n) (n : a ∉ as) : (hideAll h (framesOf outer ++ as)).get? a = some o := hideAll_get _ ho fun q => by
  rcases List.mem_append.mp q with q | q
  · obtain ⟨env, he, hf⟩ := mem_framesOf.mp q
    exact x.data ho hd env he hf
  · exact n q
end
/-- the first n objects -/
def trunc (h : Heap) (n : Nat) : Heap := { h with objs := h.objs.extract 0 n }
theorem trunc_get {h : Heap} {n b : Nat} (hb : b < n) : (trunc h n).get? b = h.get? b := by
  unfold trunc Heap.get?
  simp only [Array.getElem?_extract, Nat.zero_add, Nat.sub_zero]
  by_cases q : b < h.objs.size
  · rw [if_pos (by omega)]
  · rw [if_neg (by omega), Array.getElem?_eq_none (by omega)]
theorem trunc_size {h : Heap} {n : Nat} : (trunc h n).objs.size ≤ n := by
  unfold trunc
  simp only [Array.size_extract]; omega
theorem of_trunc {h : Heap} {n b : Nat} {o : Obj} (e : (trunc h n).get? b = some o) : h.get? b = some o ∧ b < n := by
  have : b < n := Nat.lt_of_lt_of_le (Heap.lt_size e) trunc_size
  exact ⟨by rw [← trunc_get this]; exact e, this⟩
section
variable {B g h h' : Heap} {L : Addr} {m : Str → Option Value} {news : List (Addr × Obj)} {outer : List Env} {env : Env}
theorem frames_now (F : Fr g L h m) (hO : Outs B g outer) (hB : B.StaysIn g) (hf : env.frame = some L) (hk : env.scope.kind = .function) : Outs B h (env :: outer) :=
  (hO.keeps F.keep).cons (by rw [hk]; decide) hf (by
    cases z : B.get? L with
    | none => rfl
    | some o => exact absurd (Heap.lt_size (hB _ _ z)) (Nat.not_lt.mpr F.above)) F.ns
/-- the base laid anew behind a call that may have touched the frames below -/
theorem rebase {as : List Addr} (F : Fr g L h m) (N : News g L h news) (hO : Outs B g outer) (hB : B.StaysIn g) (hd : ∀ p ∈ news, ∀ es n, p.2.data ≠ .dict es n)
    (st : ∀ b o, h.get? b = some o → (∀ es n, o.data ≠ .dict es n) → b ∉ as → h'.get? b = some o) (stB : B.StaysIn h') (up : ∀ b o, h.get? b = some o → b ∉ as → (∀ vs, o.data ≠ .fields vs) → ∃ sl, h'.get? b = some { o with slots := sl }) (hLa : L ∉ as) (hna : ∀ p ∈ news, p.1 ∉ as) (hOa : ∀ env ∈ outer, ∀ a, env.frame = some a → a ∉ as) :
    ∃ g2, B.StaysIn g2 ∧ g2.StaysIn h' ∧ Outs B g2 outer ∧ Fr g2 L h' m ∧ News g2 L h' news ∧ (∀ b o, h'.get? b = some o → b < L → b ∉ news.map (·.1) → g2.get? b = some o) := by
  have lt : ∀ {b o}, g.get? b = some o → b < L := fun e => Nat.lt_of_lt_of_le (Heap.lt_size e) F.above
  have key : ∀ b o, h'.get? b = some o → b < L → b ∉ news.map (·.1) → (hideAll (trunc h' L) (news.map (·.1))).get? b = some o := fun b o e l n => hideAll_get _ ((trunc_get l).trans e) n
  have fresh : ∀ {b o}, g.get? b = some o → b ∉ news.map (·.1) := fun e q => by
    obtain ⟨p, hp, rfl⟩ := List.mem_map.mp q
    rw [(N p hp).2.2] at e; cases e
  have nsUp : ∀ {a : Addr} {m' : Str → Option Value}, h.Ns a m' → a ∉ as → h'.Ns a m' := fun x n => by
    obtain ⟨o, es, ep, ho, hdd, r⟩ := x
    obtain ⟨sl, hs⟩ := up _ _ ho n fun vs q => by rw [hdd] at q; cases q
    exact ⟨_, es, ep, hs, hdd, r⟩
  refine ⟨hideAll (trunc h' L) (news.map (·.1)), fun b o e => key b o (stB _ _ e) (lt (hB _ _ e)) (fresh (hB _ _ e)), fun b o e => (of_trunc (of_hideAll _ e)).1, ?_, ?_, ?_, key⟩
  · intro env he
    obtain ⟨a, L', m', b, c, oL, es, ep, hL, hdd, r⟩ := hO env he
    have na := hOa env he L' b
    obtain ⟨sl, hs⟩ := up _ _ (F.keep _ _ hL) na fun vs q => by rw [hdd] at q; cases q
    exact ⟨a, L', m', b, c, _, es, ep, key _ _ hs (lt hL) (fresh hL), hdd, r⟩
  · exact ⟨nsUp F.ns hLa, fun b o e => (of_trunc (of_hideAll _ e)).1, Nat.le_trans (Nat.le_of_eq (hideAll_size _ _)) trunc_size⟩
  · exact fun p hp => ⟨st _ _ (N p hp).1 (hd p hp) (hna p hp), (N p hp).2.1, hideAll_none _ (List.mem_map_of_mem hp)⟩
end
section
variable {prog : Program} {w : World} {A : Around} {E : Value → Shared → Prop} {s : Shared} {Q : Value → Shared → Prop}
/-- entering a def or a lambda: what is to change is hidden from the base -/
theorem fr_enter {K : Frag} {p : Program} {loose : List Str} {mean : ExcName → Option Value} {mg mb : Str → Option Value} {hB : Heap} {outer : List Env} (mu : List (Addr × Obj))
    {name qual : Str} {params : Arguments} {body : List Stmt} {scope : Scope} {dV kV doc pm cdv ct : Value} {an : Option Addr} {o : Obj} {f : Addr} {args : List Value} {binds : List (Str × Value)}
    (X : K.In hB) (T : Top p loose mean mg mb hB) (hBs : hB.StaysIn s.heap) (hO : Outs hB s.heap outer) (hm : ∀ q ∈ mu, s.heap.get? q.1 = some q.2 ∧ hB.get? q.1 = none ∧ ∀ es n, q.2.data ≠ .dict es n) (hroom : A.depth < recursionLimit)
    (ho : s.heap.get? f = some o) (hdat : o.data = .func (fnOf name qual params body scope dV kV doc pm an cdv ct)) (hcd : codeIn K cdv qual = true)
    (hbind : BindsTo s (fnOf name qual params body scope dV kV doc pm an cdv ct) ⟨args, []⟩ binds) (hloc : ∀ y ∈ binds, scope.names.lookup y.1 = some .local)
    (h : ∀ g L h₁ tk, hB.StaysIn g → g.StaysIn s.heap → (∀ b o, s.heap.get? b = some o → b ∉ mu.map (·.1) → g.get? b = some o) → K.In g → Top p loose mean mg mb g →
      (∀ b o, s.heap.get? b = some o → b < L) → Outs hB g outer → Fr g L h₁ (fun y => binds.reverse.lookup y) → News g L h₁ mu →
      wpAny (model prog w) (A.deeper (envOf qual scope L f cdv)) (execs body (envOf qual scope L f cdv))
        (fun fl s' => Q (match fl with | .ret v => v | _ => .none) s')
        (fun e s' => wpAny (model prog w) (A.deeper (envOf qual scope L f cdv)) (leaving (envOf qual scope L f cdv) e) (fun _ s'' => E e s'') (fun e' s'' => E e' s'') s')
        { s with heap := h₁, toks := tk })
    (hco : scope.isCoroutine = false) (hgen : scope.isGenerator = false) (hk : scope.kind = .function)
    (hcell : ∀ x ∈ scope.names, x.2 ≠ .cell) : wpAny (model prog w) A (call (.ref f) args) Q E s := by
  refine wpAny_call ?_
  refine codeAny_call_def (fd := fnOf name qual params body scope dV kV doc pm an cdv ct) (body := body) (binds := binds) hroom ho hdat (T.nolimit.keeps hBs) (codeRec_of (X.keeps hBs) hcd) rfl hbind hcell hloc (fun h₁ hns hk₁ => ?_) hco hgen hk
  have key : ∀ b o, s.heap.get? b = some o → b ∉ mu.map (·.1) → (hideAll s.heap (mu.map (·.1))).get? b = some o := fun b o e n => hideAll_get _ e n
  have st : hB.StaysIn (hideAll s.heap (mu.map (·.1))) := fun b o e => key _ _ (hBs _ _ e) fun q => by
    obtain ⟨p, hp, rfl⟩ := List.mem_map.mp q
    rw [(hm p hp).2.1] at e; cases e
  refine h _ _ h₁ _ st (fun b o e => of_hideAll _ e) key (X.keeps st) (T.keeps st) (fun b o e => Heap.lt_size e) (fun env he => ?_) ⟨hns, fun b o e => hk₁ b o (of_hideAll _ e), Nat.le_of_eq (hideAll_size _ _)⟩
    (fun p hp => ⟨hk₁ _ _ (hm p hp).1, Nat.ne_of_lt (Heap.lt_size (hm p hp).1), hideAll_none _ (List.mem_map_of_mem hp)⟩)
  obtain ⟨a, L', m', b, c, oL, es, ep, hL, hdd, r⟩ := hO env he
  refine ⟨a, L', m', b, c, oL, es, ep, key _ _ hL fun q => ?_, hdd, r⟩
  obtain ⟨p, hp, z⟩ := List.mem_map.mp q
  have := (hm p hp).1
  rw [z, hL] at this; cases this
  exact (hm p hp).2.2 es ep hdd
theorem fr_def {K : Frag} {p : Program} {loose : List Str} {mean : ExcName → Option Value} {mg mb : Str → Option Value} {hB : Heap} {outer : List Env} (mu : List (Addr × Obj))
    {name qual : Str} {params : Arguments} {body : List Stmt} {scope : Scope} {dV kV doc pm cdv ct oc : Value} {an od : Option Addr} {osl : Array (Option Value)} {f : Addr} {args : List Value} {binds : List (Str × Value)}
    (X : K.In hB) (T : Top p loose mean mg mb hB) (hBs : hB.StaysIn s.heap) (hO : Outs hB s.heap outer) (hm : ∀ q ∈ mu, s.heap.get? q.1 = some q.2 ∧ hB.get? q.1 = none ∧ ∀ es n, q.2.data ≠ .dict es n) (hroom : A.depth < recursionLimit)
    (ho : K.lookup f = some ⟨oc, od, .func (fnOf name qual params body scope dV kV doc pm an cdv ct), osl⟩) (hcd : codeIn K cdv qual = true)
    (hbind : BindsTo s (fnOf name qual params body scope dV kV doc pm an cdv ct) ⟨args, []⟩ binds) (hloc : ∀ y ∈ binds, scope.names.lookup y.1 = some .local)
    (h : ∀ g L h₁ tk, hB.StaysIn g → g.StaysIn s.heap → (∀ b o, s.heap.get? b = some o → b ∉ mu.map (·.1) → g.get? b = some o) → K.In g → Top p loose mean mg mb g →
      (∀ b o, s.heap.get? b = some o → b < L) → Outs hB g outer → Fr g L h₁ (fun y => binds.reverse.lookup y) → News g L h₁ mu →
      wpAny (model prog w) (A.deeper (envOf qual scope L f cdv)) (execs body (envOf qual scope L f cdv))
        (fun fl s' => Q (match fl with | .ret v => v | _ => .none) s')
        (fun e s' => wpAny (model prog w) (A.deeper (envOf qual scope L f cdv)) (leaving (envOf qual scope L f cdv) e) (fun _ s'' => E e s'') (fun e' s'' => E e' s'') s')
        { s with heap := h₁, toks := tk })
    (hco : scope.isCoroutine = false) (hgen : scope.isGenerator = false) (hk : scope.kind = .function)
    (hcell : ∀ x ∈ scope.names, x.2 ≠ .cell) : wpAny (model prog w) A (call (.ref f) args) Q E s :=
  fr_enter mu X T hBs hO hm hroom (hBs _ _ (X _ _ ho)) rfl hcd hbind hloc h hco hgen hk hcell
end
end
section -- F2
open PySem PySem.W PyProof.Rows PySem.Calls PySem.Spec PySem.Builtin PySem.Builtin.ObjectAttr
set_option maxRecDepth 100000
section
variable {prog : Program} {w : World} {A : Around} {E : Value → Shared → Prop} {h : Heap} {g : Array GenState} {d : Drawn} {t : Nat} {os : OsState} {a dx : Addr} {o : Obj} {vs : Array Value} {v : Value} {tk : Tok} {name : Str} {mA mN : Str → Option Value}
  {nm q : Str} {N : Addr} {bs : List Value} {hdct : Bool} {sn : List Str} {sub : List Value} {ab : Bool} {col : Option Bool} {dd : Option Addr} {k0 k1 k2 k3 k5 : Option Value}
set_option maxHeartbeats 2000000 in
theorem xg_entry {Q : Fin → Shared → Prop} (hC : h.get? 41 = some (excClassObj nm q 41 N bs [.type "Exception", .type "BaseException", .type "object"] true sn sub ab col dd k0 k1 k2 k3 k5 "Exception.__new__")) (hn : h.Ns N mN) (hna : mN name = none)
    (hB : typeLookup (.type "Exception") name = pure none) (hx : h.get? a = some o) (hc : o.cls = .ref 41) (hd : o.data = .fields vs) (hdx : o.dict = some dx) (hns : h.Ns dx mA) (hv : mA name = some v) (hq : Q (.done (.ret v)) ⟨h, g, d, t, os⟩) :
    wpAny (model prog w) A (Builtin.«object.__getattribute__» ⟨[.ref a, .str name tk], []⟩) Q E ⟨h, g, d, t, os⟩ := by
  have SF := PySem.F.store_Exception
  unfold Builtin.«object.__getattribute__»
  repeat (first | (with_reducible refine wpAny_loadPart_at hx ?_; rw [hc]) | (with_reducible refine wpAny_typeLookup_exc hC hn SF.mro hB ?_; rw [hna]) | wp_step)
  rw [hd]
  dsimp only
  unfold instanceDict
  repeat (first | (with_reducible refine wpAny_loadPart_at hx ?_; rw [hc]) | with_reducible refine wpAny_loadPart_at hC ?_ | wp_step)
  rw [hdx]
  repeat (first | (with_reducible refine wpAny_nsGet hns ?_; rw [hv]) | wp_step)
  exact hq
set_option maxHeartbeats 2000000 in
theorem xg_attr {expr : Bool} {Q : Value → Shared → Prop} (hC : h.get? 41 = some (excClassObj nm q 41 N bs [.type "Exception", .type "BaseException", .type "object"] true sn sub ab col dd k0 k1 k2 k3 k5 "Exception.__new__")) (hn : h.Ns N mN) (hna : mN name = none)
    (hga : mN "__getattribute__" = none) (hgg : mN "__getattr__" = none) (hB : typeLookup (.type "Exception") name = pure none) (hx : h.get? a = some o) (hc : o.cls = .ref 41) (hd : o.data = .fields vs) (hdx : o.dict = some dx) (hns : h.Ns dx mA) (hv : mA name = some v) (hh : handedOut v = pure v) (hq : Q v ⟨h, g, d, t + 1, os⟩) :
    wpAny (model prog w) A (getAttr (.ref a) name expr) Q E ⟨h, g, d, t, os⟩ := by
  have SF := PySem.F.store_Exception
  have FB := PySem.F.attrBase_Exception
  have f3 := FB.ga.bind (.ref a)
  have hx0 : (expr && onTheHeap (Value.builtin "BaseException.__getattribute__")) = false := by cases expr <;> rfl
  have hx2 : (Value.builtin "BaseException.__getattribute__" == Value.builtin "object.__getattribute__") = false := by decide +kernel
  have hx1 : (onTheHeap (Value.ref 41) && Value.builtin "BaseException.__getattribute__" == Value.builtin "object.__getattribute__") = false := by rw [hx2]; rfl
  unfold getAttr getAttrBy
  repeat (any_goals (first | assumption | (with_reducible refine wpAny_loadPart_at hx ?_; rw [hc]) | (with_reducible refine wpAny_typeLookup_exc hC hn SF.mro FB.ga.lookup ?_; rw [hga]) | (with_reducible refine wpAny_typeLookup_exc hC hn SF.mro FB.noGetattr ?_; rw [hgg]) | wp_step))
  refine codeAny_call_builtin FB.ga.plain F.entry_bexc_ga (wpAny_check_ga_own FB hC .base hx hc (xg_entry hC hn hna hB hx hc hd hdx hns hv ?_))
  repeat (any_goals (first | assumption | wp_step))
theorem xg_get {s : Shared} {expr : Bool} {Q : Value → Shared → Prop} {sl : Array (Option Value)} (C41 : Cls41 s.heap) (hnm : name = "code" ∨ name = "told") (hx : s.heap.get? a = some ⟨.ref 41, some dx, .fields vs, sl⟩) (hns : s.heap.Ns dx mA) (hv : mA name = some v) (hh : handedOut v = pure v) (hq : Q v { s with toks := s.toks + 1 }) :
    wpAny (model prog w) A (getAttr (.ref a) name expr) Q E s := by
  obtain ⟨N', nm, q, bs, sn, sub, ab, col, dd, k0, k1, k2, k3, k5, mN, hC, hn, -, h1, h2, -, h3, h4⟩ := C41.ex
  obtain ⟨hp, g, dr, t, os⟩ := s
  rcases hnm with rfl | rfl
  · exact xg_attr hC hn h1 h3 h4 noName_code hx rfl rfl rfl hns hv hh hq
  · exact xg_attr hC hn h2 h3 h4 noName_told hx rfl rfl rfl hns hv hh hq
end
end
section -- F1
open PySem PySem.W PyProof.Rows PySem.Calls PySem.Spec
variable {w : World} {p : Program} {loose : List Str} {mean : ExcName → Option Value} {mg mb : Str → Option Value} {dp un : Nat} {fr : Option (List Env)} {gd : Option (List Code)} {s : Shared} {Q E : Value → Shared → Prop}
theorem stSame {prog : Program} {A : Around} {h₀ : Heap} {L a : Addr} {m : Str → Option Value} {name : Str} {scope : Scope} {cd : Value} {news : List (Addr × Obj)} {x : Str} {v : Value} {Q : Unit → Shared → Prop} (F : Fr h₀ L s.heap m) (N : News h₀ L s.heap news)
    (h : ∀ h', Heap.SameBut L s.heap h' → Fr h₀ L h' (fun y => if y = x then some v else m y) → News h₀ L h' news → Q () { s with heap := h', toks := s.toks + 1 })
    (hk : scope.kind = .function) (hl : (envOf name scope L a cd).kindOf x = some .local) :
    wpAny (model prog w) A (storeName (envOf name scope L a cd) x v) Q E s :=
  wpAny_storeName_local hl F.ns (fun h' hn hs => h h' hs (F.set hn hs) (N.set hs))
    (by show (scope.kind == .class || (scope.kind == .module && L != mainGlobals)) = false; rw [hk]; rfl)
theorem kept_mem {α : Type} {p q : α} {tl news : List α} (h : p ∈ news) : p ∈ q :: (tl ++ news) := .tail _ (List.mem_append.mpr (.inr h))
theorem none_of {B g : Heap} {b : Addr} (k : B.StaysIn g) (e : g.get? b = none) : B.get? b = none := by
  cases z : B.get? b with
  | none => rfl
  | some o => rw [k _ _ z] at e; cases e
theorem fresh_of_base {g h : Heap} {b : Addr} (k : ∀ b o, h.get? b = some o → b ∉ List.map (fun (x : Addr × Obj) => x.1) [] → g.get? b = some o) (e : g.get? b = none) : h.get? b = none := by
  cases z : h.get? b with
  | none => rfl
  | some o => rw [k _ _ z (by simp)] at e; cases e
/-- what a lambda handed to _law_heard does: it hands back a pair, or it raises BasicError('SN', e) -/
def WorkAt (w : World) (bs : Heap) (fw l : Addr) (k e : Nat) (ok : Bool) (d : Dat) : Prop := ∀ {B2 : Heap} {outer2 : List Env} {dp2 un2 : Nat} {gd2 : Option (List Code)} {s2 : Shared} {Q2 E2 : Value → Shared → Prop} {tk2 : Tok},
  bs.StaysIn s2.heap → B2.StaysIn s2.heap → s2.heap.FunFrames B2 outer2 → dp2 < 800 → un2 < 8900 →
  (ok = true → ∀ h' tk' q n v u tl, NewIn s2.heap h' ((q, tupOf [v, .int (e : Int) u] n) :: tl) → DatIn tl v d → Q2 (.ref q) { s2 with heap := h', toks := tk' }) →
  (ok = false → ∀ h' tk' x dd u tk3, FlyD B2 outer2 x (.ref 41) (some dd) .none h' → s2.heap.UpToSlots h' → h'.Ns dd (errNs (.str (Str.ofString "SN") u) (.int (e : Int) tk3)) → E2 (.ref x) { s2 with heap := h', toks := tk' }) →
  wpAny (model Challenge.rw_pq0141_01.row.prog w) ⟨none, dp2, some outer2, gd2, un2⟩ (call (.ref fw) [.ref l, .int (k : Int) tk2]) Q2 E2 s2
theorem work_use {B g : Heap} {L fw l : Addr} {k e : Nat} {ok : Bool} {d : Dat} {m : Str → Option Value} {news : List (Addr × Obj)} {outer : List Env} {env : Env} {tk : Tok} (hw : WorkAt w B fw l k e ok d) (F : Fr g L s.heap m) (N : News g L s.heap news) (hO : Outs B g outer) (hb : B.StaysIn g) (hD : dp < 800) (hU : un < 8900)
   (hf : env.frame = some L) (hk : env.scope.kind = .function) (hd : ∀ p ∈ news, ∀ es n, p.2.data ≠ .dict es n)
   (ret : ok = true → ∀ h' tk' q n v u tl, NewIn s.heap h' ((q, tupOf [v, .int (e : Int) u] n) :: tl) → Fr g L h' m → News g L h' ((q, tupOf [v, .int (e : Int) u] n) :: (tl ++ news)) → DatIn tl v d → Q (.ref q) { s with heap := h', toks := tk' })
   (err : ok = false → ∀ h' tk' x dd u tk3 B2, FlyD B2 (env :: outer) x (.ref 41) (some dd) .none h' → s.heap.UpToSlots h' → h'.Ns dd (errNs (.str (Str.ofString "SN") u) (.int (e : Int) tk3)) →
     (∀ h2, B2.StaysIn h2 → s.heap.UpToSlots h2 → ∃ g2, B.StaysIn g2 ∧ g2.StaysIn h2 ∧ Outs B g2 outer ∧ Fr g2 L h2 m ∧ News g2 L h2 news ∧ (∀ b o, h2.get? b = some o → b < L → b ∉ news.map (·.1) → g2.get? b = some o)) → E (.ref x) { s with heap := h', toks := tk' }) :
   wpAny (model Challenge.rw_pq0141_01.row.prog w) ⟨none, dp, some (env :: outer), gd, un⟩ (call (.ref fw) [.ref l, .int (k : Int) tk]) Q E s := by
  have O := frames_now F hO hb hf hk
  have st := O.stays (fun b o z => F.keep _ _ (hb _ _ z)) (as := []) fun a ha => nomatch ha
  refine hw (B2 := hideAll s.heap (framesOf (env :: outer) ++ [])) (fun b o z => F.keep _ _ (hb _ _ z)) (fun b o z => of_hideAll _ z) (O.hide _).fun_ hD hU (fun ho h' tk' q n v u tl k hq => ret ho h' tk' q n v u tl k (fr_on F k.1) (news_in F N k) hq) fun ho h' tk' x dd u tk3 a b c => err ho h' tk' x dd u tk3 _ a b c fun h2 s2 u2 => ?_
  exact rebase (as := []) F N hO hb hd (fun b o z hd _ => s2 _ _ (O.into z hd (fun q => nomatch q))) (fun b o z => s2 _ _ (st _ _ z)) (fun b o z _ q => u2 _ _ z q) (fun q => nomatch q) (fun _ _ q => nomatch q) (fun _ _ _ _ q => nomatch q)
section
variable {A₀ : Around} {s' : Shared} {h0 B B2 : Heap} {outer : List Env} {L a e dd : Addr} {m mE : Str → Option Value} {name : Str} {scope : Scope} {cd : Value} {n x : Str} {b₀ : Stmt} {suite : List Stmt} {pos np : Pos} {rest : List ExceptHandler} {QF : Flow → Shared → Prop} {news : List (Addr × Obj)}
theorem caughtD (hA : A₀.frames = some outer) (X : (kfrag.heap_1 w.params).In B) (T : Top p loose mean mg mb B) (ex : nsIn (kfrag.heap_1 w.params) mainGlobals x = some (some (.ref 41)))
    (fly : FlyD B2 (envOf name scope L a cd :: outer) e (.ref 41) (some dd) .none s'.heap) (up : h0.UpToSlots s'.heap) (hd : s'.heap.Ns dd mE) (hm0 : m (Str.ofString "code") = none) (hm1 : mE (Str.ofString "code") ≠ none)
    (re : ∀ h2, B2.StaysIn h2 → h0.UpToSlots h2 → ∃ g2, B.StaysIn g2 ∧ g2.StaysIn h2 ∧ Outs B g2 outer ∧ Fr g2 L h2 m ∧ News g2 L h2 news ∧ (∀ b o, h2.get? b = some o → b < L → b ∉ news.map (·.1) → g2.get? b = some o))
    (k : ∀ g2 h' tk vs sl, B.StaysIn g2 → Outs B g2 outer → (∀ b o, h0.get? b = some o → b < L → b ∉ news.map (·.1) → (∀ vs, o.data ≠ .fields vs) → ∃ sl, g2.get? b = some { o with slots := sl }) → Fr g2 L h' (fun y => if y = n then some (.ref e) else m y) → News g2 L h' news →
      h'.get? e = some ⟨.ref 41, some dd, .fields vs, sl⟩ → h'.Ns dd mE →
      wpAny (model Challenge.rw_pq0141_01.row.prog w) ((A₀.deeper (envOf name scope L a cd)).mark (some (.ref e))) (execs (b₀ :: suite) (envOf name scope L a cd))
        (fun f s₄ => wpAny (model Challenge.rw_pq0141_01.row.prog w) (A₀.deeper (envOf name scope L a cd)) (do bindName (envOf name scope L a cd) n .none; unbindBehindTheSuite (envOf name scope L a cd) n pos) (fun _ s₅ => QF f s₅) E s₄)
        (AsSuiteRaised (model Challenge.rw_pq0141_01.row.prog w) ((A₀.deeper (envOf name scope L a cd)).mark (some (.ref e))) (envOf name scope L a cd) n pos (notedBy (model Challenge.rw_pq0141_01.row.prog w) ((A₀.deeper (envOf name scope L a cd)).mark (some (.ref e))) (envOf name scope L a cd) (cameBackBy (model Challenge.rw_pq0141_01.row.prog w) (A₀.deeper (envOf name scope L a cd)) (envOf name scope L a cd) E)))
        { s' with heap := h', toks := tk })
    (hk : scope.kind = .function := by rfl) (hlo : (envOf name scope L a cd).kindOf n = some .local := by rfl) (hx : (envOf name scope L a cd).kindOf x = some .globalImplicit := by rfl) (hdb : (x == ("__debug__" : Str)) = false := by decide) :
    wpAny (model Challenge.rw_pq0141_01.row.prog w) (A₀.deeper (envOf name scope L a cd)) (noteFrame (.ref e) (envOf name scope L a cd))
      (fun _ s₂ => wpAny (model Challenge.rw_pq0141_01.row.prog w) (A₀.deeper (envOf name scope L a cd)) (setFlight (.ref e) none) (fun _ s₃ =>
        wpAny (model Challenge.rw_pq0141_01.row.prog w) (A₀.deeper (envOf name scope L a cd)) (handleBy (.ref e) (envOf name scope L a cd) (.ExceptHandler (some (.Name x np)) (some n) (b₀ :: suite) pos :: rest)) QF E s₃) E s₂) E s' := by
  refine noteD (Around.frames_deeper hA) rfl fly fun h₄ x₄ y₄ => ?_
  refine landsD x₄ fun h₅ x₅ y₅ => ?_
  obtain ⟨g5, hB5, hs5, hO5, F5, N5, hk5⟩ := re h₅ x₅.1 ((up.trans y₄).trans y₅)
  refine wpAny_handleBy_cons (codeAny_handlers_test (name_K F5 (X.keeps hB5) (topRead_of (T.keeps hB5)) ex ?_ hk hx hdb)) (by intro q; cases q)
  obtain ⟨N, nm, q, bs, sn, sub, ab, col, ddx, k0, k1, k2, k3, k5, mN, hC, hN, -⟩ := (cls41 ((X.keeps hB5).keeps hs5)).ex
  obtain ⟨vs, sl, Tt, oT, ts, he, -⟩ := x₅.2.2.2
  refine wpAny_excMatches_sub_self hC he rfl (by decide +kernel) (codeAny_handlers_suite_as ?_)
  refine landsD x₅ fun h₆ x₆ y₆ => ?_
  obtain ⟨g6, hB6, hs6, hO6, F6, N6, hk6⟩ := re h₆ x₆.1 (((up.trans y₄).trans y₅).trans y₆)
  obtain ⟨vs6, sl6, T6, oT6, ts6, he6, h16, hn6, hne6, -⟩ := x₆.2.2.2
  have hup := ((up.trans y₄).trans y₅).trans y₆
  have hdd := ((y₄.trans y₅).trans y₆).ns hd
  have hel : e ≠ L := fun z => by
    obtain ⟨o, es, ep, ho, hdx, _⟩ := F6.ns
    rw [← z, he6] at ho; cases ho; cases hdx
  have hdl : dd ≠ L := fun z => by
    obtain ⟨o, es, ep, ho, hdx, _, r⟩ := F6.ns
    obtain ⟨o2, es2, ep2, ho2, hdx2, _, r2⟩ := hdd
    rw [z, ho] at ho2; cases ho2; rw [hdx] at hdx2; cases hdx2
    exact hm1 (((r2 _).symm.trans (r _)).trans hm0)
  refine stSame F6 N6 (fun h₇ hs₇ F₇ N₇ => ?_) hk hlo
  refine k g6 h₇ _ vs6 sl6 hB6 hO6 (fun b o z l n f => ?_) F₇ N₇ ((hs₇.2 e hel).trans he6) (hdd.sameBut hs₇ hdl)
  obtain ⟨sl, z2⟩ := hup b o z f
  exact ⟨sl, hk6 _ _ z2 l n⟩
end
set_option maxRecDepth 100000 in
set_option maxHeartbeats 8000000 in
theorem heard {B : Heap} {outer : List Env} {fw l : Addr} {k e : Nat} {ok : Bool} {d : Dat} {ts : List Dat} {tk : Tok} (X : (kfrag.heap_1 w.params).In B) (T : Top p loose mean mg mb B) (hB : B.StaysIn s.heap) (hO : Outs B s.heap outer)
   (hl : HasD B (.ref l) (.list ts)) (hfo : ∃ o fd, B.get? fw = some o ∧ o.data = .func fd) (hk : kqdOk 8 (.list ts) = true) (htn : ts.length < 1000) (hw : WorkAt w B fw l k e ok d) (hD : dp < 790) (hU : un < 8890)
   (ret : ∀ h' tk' q tl, B.StaysIn h' → s.heap.UpToSlots h' → (∀ p ∈ tl, h'.get? p.1 = some p.2 ∧ B.get? p.1 = none ∧ isSeq p = true) → DatIn tl (.ref q) (.tuple [bif ok then d else .str (Str.ofString "SN"), .int (e : Int)]) → Q (.ref q) { s with heap := h', toks := tk' }) :
   wpAny (model Challenge.rw_pq0141_01.row.prog w) ⟨none, dp, some outer, gd, un⟩ (call (.ref 216) [.ref fw, .ref l, .int (k : Int) tk]) Q E s := by
  revert X; k_fill; intro X
  obtain ⟨_, vs, n, hr, hlo, hva⟩ := hl.list_inv
  cases hr
  have hlb : B.IsList l vs.toArray := ⟨_, hlo, rfl, _, rfl⟩
  have hvn : vs.length < 1000 := by rw [hva.length]; exact htn
  (k_dflt (refine' fr_def (binds := [(Str.ofString "work", .ref fw), (Str.ofString "tokens", .ref l), (Str.ofString "begin", .int (k : Int) tk)]) [] ?k3 ?k5 ?kb ?kO ?km ?k8 ?k6 ?k7 ?k9 ?kB ?_ ?c2 ?c3 ?c4 ?c5; (case k3 => assumption); (case k5 => assumption); (case kb => assumption); (case kO => assumption); (case km => exact List.forall_mem_nil _); (case k6 => k_is); (case k7 => k_is); (case k8 => simp only [recursionLimit]; omega); (case k9 => exact BindsTo.of_eq rfl); (case c5 => decide); (case kB => exact locs rfl); (case c2 => exact rfl); (case c3 => exact rfl); (case c4 => exact rfl)))
  intro g L h₁ tk0 hBg hgs hin Xg Tg hlt hOg F N
  (try dsimp only [List.reverse, List.reverseAux])
  (try k_fold)
  have hlg := stays_list hBg hlb
  obtain ⟨fo, fd, hfo, hfd⟩ := hfo
  k_steps
  · exact Fr.keep (by k_asm) _ _ (hBg _ _ hfo)
  k_dflt (refine work_use (B := B) (g := g) (L := L) hw (by k_asm) (by k_asm) hOg hBg (by walk_at "down") (by walk_at "down") rfl rfl ?_ ?_ ?_)
  · exact List.forall_mem_cons.mpr ⟨fun _ _ q => (nomatch q), List.forall_mem_cons.mpr ⟨fun _ _ q => (nomatch q), List.forall_mem_nil _⟩⟩
  · intro ho h' tk' q n v u tl K' F' N' hd
    k_steps
    refine eq_has (da := .list ts) (db := .list ts) (hl.keeps fun b o z => Fr.keep (by k_asm) _ _ (hBg _ _ z)) (.list (News.get (by k_asm) (kept_mem (by k_mem))) (hva.keeps fun b o z => Fr.keep (by k_asm) _ _ (hBg _ _ z))) hk hk (by first | walk_at "rm" | ((try dsimp only [Around.deeper, Around.in1]); simp only [cLine]; omega)) true ⟨fun _ => rfl, fun _ => rfl⟩ ?_
    k_steps
    (with_reducible rename Fr _ _ _ _ => kF); (with_reducible rename News _ _ _ _ => kN)
    refine ret _ _ _ (((q, tupOf [v, .int (e : Int) u] n) :: tl).filter isSeq) (fun b o z => kF.keep _ _ (hBg _ _ z)) (.of_keeps fun b o z => kF.keep _ _ (hin _ _ z (by simp))) (fun p hp => ?_) (datIn_seq ?_)
    · have z := kN p (List.mem_append.mpr (.inl (List.mem_filter.mp hp).1))
      exact ⟨z.1, none_of hBg z.2.2, (List.mem_filter.mp hp).2⟩
    · rw [ho]
      exact .tuple (.head _) (.cons (hd.mono fun p hp => .tail _ hp) (.cons (.int _ _) .nil))
  · intro ho h' tk' x dd u tk3 B2 fly up ns re
    (with_reducible rename Fr _ _ _ _ => kF1); (with_reducible rename News _ _ _ _ => kN1)
    k_dflt (refine caughtD (B := B) (L := L) rfl X T (by k_is) fly up ns (by first | rfl | kernel_rfl) (fun z => nomatch z) re ?_)
    intro g2 h2 tk2 vs2 sl2 hBg2 hO2 hup2 F2 N2 he2 hns2
    have Xg2 := X.keeps hBg2
    have Tg2 := T.keeps hBg2
    clear Xg Tg
    k_steps
    (k_dflt (refine xg_get (cls41 (Frag.In.keeps Xg2 (Fr.keep (by k_asm)))) (.inl rfl) he2 hns2 (by rfl) rfl ?_))
    k_steps
    (k_dflt (refine xg_get (cls41 (Frag.In.keeps Xg2 (Fr.keep (by k_asm)))) (.inr rfl) he2 hns2 (by rfl) rfl ?_))
    k_steps
    refine eq_has (da := .list ts) (db := .list ts) (hl.keeps fun b o z => Fr.keep (by k_asm) _ _ (hBg2 _ _ z)) (.list (News.get (by k_asm) (by k_mem)) (hva.keeps fun b o z => Fr.keep (by k_asm) _ _ (hBg2 _ _ z))) hk hk (by first | walk_at "rm" | ((try dsimp only [Around.deeper, Around.in1]); simp only [cLine]; omega)) true ⟨fun _ => rfl, fun _ => rfl⟩ ?_
    k_steps
    (with_reducible rename Fr _ _ _ _ => kF); (with_reducible rename News _ _ _ _ => kN)
    refine ret _ _ _ [_] (fun b o z => kF.keep _ _ (hBg2 _ _ z)) (fun b o z f => ?_) (List.forall_mem_cons.mpr ⟨⟨kN.get (.head _), none_of hBg2 (kN _ (.head _)).2.2, rfl⟩, List.forall_mem_nil _⟩) ?_
    · have zg := hin _ _ z (by simp)
      obtain ⟨sl, z2⟩ := hup2 b o (kF1.keep _ _ zg) (hlt _ _ z) (fun q => by
        obtain ⟨p, hp, rfl⟩ := List.mem_map.mp q
        rw [(kN1 p hp).2.2] at zg; cases zg) f
      exact ⟨sl, kF.keep _ _ z2⟩
    · rw [ho]
      exact .tuple (.head _) (.cons (.str _ _) (.cons (.int _ _) .nil))
end
section -- F3
open PySem PySem.W PyProof.Rows PySem.Calls PySem.Spec
set_option maxRecDepth 100000
section
variable {B g h h' : Heap} {L : Addr} {m : Str → Option Value} {news tl : List (Addr × Obj)} {outer : List Env} {env : Env}
/-- the base laid anew behind a call that may have touched the frames below, with what the call has made -/
theorem rebase2 {as : List Addr} (F : Fr g L h m) (N : News g L h news) (hO : Outs B g outer) (hB : B.StaysIn g) (hd : ∀ p ∈ news, ∀ es n, p.2.data ≠ .dict es n)
    (ht : ∀ p ∈ tl, h'.get? p.1 = some p.2 ∧ B.get? p.1 = none ∧ ∀ es n, p.2.data ≠ .dict es n)
    (st : ∀ b o, h.get? b = some o → (∀ es n, o.data ≠ .dict es n) → b ∉ as → h'.get? b = some o) (stB : B.StaysIn h') (up : ∀ b o, h.get? b = some o → b ∉ as → (∀ vs, o.data ≠ .fields vs) → ∃ sl, h'.get? b = some { o with slots := sl }) (hLa : L ∉ as) (hna : ∀ p ∈ news, p.1 ∉ as) (hOa : ∀ env ∈ outer, ∀ a, env.frame = some a → a ∉ as) :
    ∃ g2, B.StaysIn g2 ∧ g2.StaysIn h' ∧ Outs B g2 outer ∧ Fr g2 L h' m ∧ News g2 L h' (tl ++ news) ∧ (∀ b o, h'.get? b = some o → b < L → b ∉ (tl ++ news).map (·.1) → g2.get? b = some o) := by
  have lt : ∀ {b o}, g.get? b = some o → b < L := fun e => Nat.lt_of_lt_of_le (Heap.lt_size e) F.above
  have key : ∀ b o, h'.get? b = some o → b < L → b ∉ (tl ++ news).map (·.1) → (hideAll (trunc h' L) ((tl ++ news).map (·.1))).get? b = some o := fun b o e l n => hideAll_get _ ((trunc_get l).trans e) n
  have nsUp : ∀ {a : Addr} {m' : Str → Option Value}, h.Ns a m' → a ∉ as → h'.Ns a m' := fun x n => by
    obtain ⟨o, es, ep, ho, hdd, r⟩ := x
    obtain ⟨sl, hs⟩ := up _ _ ho n fun vs q => by rw [hdd] at q; cases q
    exact ⟨_, es, ep, hs, hdd, r⟩
  have frB : ∀ {b o}, B.get? b = some o → b ∉ (tl ++ news).map (·.1) := fun e q => by
    obtain ⟨p, hp, rfl⟩ := List.mem_map.mp q
    rcases List.mem_append.mp hp with hp | hp
    · rw [(ht p hp).2.1] at e; cases e
    · have := hB _ _ e
      rw [(N p hp).2.2] at this; cases this
  refine ⟨hideAll (trunc h' L) ((tl ++ news).map (·.1)), fun b o e => key b o (stB _ _ e) (lt (hB _ _ e)) (frB e), fun b o e => (of_trunc (of_hideAll _ e)).1, ?_, ?_, ?_, key⟩
  · intro env he
    obtain ⟨a, L', m', b, c, oL, es, ep, hL, hdd, r⟩ := hO env he
    have na := hOa env he L' b
    obtain ⟨sl, hs⟩ := up _ _ (F.keep _ _ hL) na fun vs q => by rw [hdd] at q; cases q
    refine ⟨a, L', m', b, c, _, es, ep, key _ _ hs (lt hL) (fun q => ?_), hdd, r⟩
    obtain ⟨p, hp, rfl⟩ := List.mem_map.mp q
    rcases List.mem_append.mp hp with hp | hp
    · have z := (ht p hp).1
      rw [hs] at z
      exact (ht p hp).2.2 es ep (by rw [← Option.some.inj z]; exact hdd)
    · rw [(N p hp).2.2] at hL; cases hL
  · exact ⟨nsUp F.ns hLa, fun b o e => (of_trunc (of_hideAll _ e)).1, Nat.le_trans (Nat.le_of_eq (hideAll_size _ _)) trunc_size⟩
  · intro p hp
    refine ⟨?_, ?_, hideAll_none _ (List.mem_map_of_mem hp)⟩
    · rcases List.mem_append.mp hp with hp | hp
      · exact (ht p hp).1
      · exact st _ _ (N p hp).1 (hd p hp) (hna p hp)
    · rcases List.mem_append.mp hp with hp | hp
      · intro q
        obtain ⟨o, es, ep, ho, hdd, _⟩ := nsUp F.ns hLa
        have z := (ht p hp).1
        rw [q, ho] at z
        exact (ht p hp).2.2 es ep (by rw [← Option.some.inj z]; exact hdd)
      · exact (N p hp).2.1
end
variable {w : World} {p : Program} {loose : List Str} {mean : ExcName → Option Value} {mg mb : Str → Option Value} {dp un : Nat} {fr : Option (List Env)} {gd : Option (List Code)} {s : Shared} {Q E : Value → Shared → Prop}
theorem heard_use {B g : Heap} {L fw l : Addr} {k e : Nat} {ok : Bool} {d : Dat} {ts : List Dat} {m : Str → Option Value} {news : List (Addr × Obj)} {outer : List Env} {env : Env} {tk : Tok}
   (X : (kfrag.heap_1 w.params).In B) (T : Top p loose mean mg mb B) (F : Fr g L s.heap m) (N : News g L s.heap news) (hO : Outs B g outer) (hBg : B.StaysIn g) (hf : env.frame = some L) (hk : env.scope.kind = .function) (hd : ∀ p ∈ news, ∀ es n, p.2.data ≠ .dict es n)
   (hl : HasD s.heap (.ref l) (.list ts)) (hfo : ∃ o fd, s.heap.get? fw = some o ∧ o.data = .func fd) (hok : kqdOk 8 (.list ts) = true) (htn : ts.length < 1000)
   (hw : ∀ B2 : Heap, B.StaysIn B2 → (∀ b o, s.heap.get? b = some o → (∀ es n, o.data ≠ .dict es n) → B2.get? b = some o) → WorkAt w B2 fw l k e ok d) (hD : dp < 790) (hU : un < 8890)
   (ret : ∀ g2 h' tk' q tl, B.StaysIn g2 → Outs B g2 outer → Fr g2 L h' m → News g2 L h' (tl ++ news) → (∀ p ∈ tl, isSeq p = true) → DatIn tl (.ref q) (.tuple [bif ok then d else .str (Str.ofString "SN"), .int (e : Int)]) →
     (∀ b o, g.get? b = some o → (∀ vs, o.data ≠ .fields vs) → ∃ sl, g2.get? b = some { o with slots := sl }) → Q (.ref q) { s with heap := h', toks := tk' }) :
   wpAny (model Challenge.rw_pq0141_01.row.prog w) ⟨none, dp, some (env :: outer), gd, un⟩ (call (.ref 216) [.ref fw, .ref l, .int (k : Int) tk]) Q E s := by
  have O := frames_now F hO hBg hf hk
  have st := O.stays (fun b o z => F.keep _ _ (hBg _ _ z)) (as := []) fun a ha => nomatch ha
  have into : ∀ b o, s.heap.get? b = some o → (∀ es n, o.data ≠ .dict es n) → (hideAll s.heap (framesOf (env :: outer) ++ [])).get? b = some o := fun b o z hd => O.into z hd (fun q => nomatch q)
  obtain ⟨fo, fd, hfo, hfd⟩ := hfo
  refine heard (B := hideAll s.heap (framesOf (env :: outer) ++ [])) (X.keeps st) (T.keeps st) (fun b o z => of_hideAll _ z) (O.hide _) (hl.into into) ⟨fo, fd, into _ _ hfo (fun es n q => by rw [hfd] at q; cases q), hfd⟩ hok htn (hw _ st into) hD hU fun h' tk' q tl sB uB ht hq => ?_
  have htB : ∀ p ∈ tl, h'.get? p.1 = some p.2 ∧ B.get? p.1 = none ∧ ∀ es n, p.2.data ≠ .dict es n := fun p hp => ⟨(ht p hp).1, none_of st (ht p hp).2.1, isSeq_no (ht p hp).2.2⟩
  obtain ⟨g2, a, b, c, d2, e2, f2⟩ := rebase2 (tl := tl) (as := []) F N hO hBg hd htB (fun b o z hd _ => sB _ _ (into _ _ z hd)) (fun b o z => sB _ _ (st _ _ z)) (fun b o z _ q => uB _ _ z q) (fun q => nomatch q) (fun _ _ q => nomatch q) (fun _ _ _ _ q => nomatch q)
  refine ret g2 h' tk' q tl a c d2 e2 (fun p hp => (ht p hp).2.2) hq fun b o z nf => ?_
  obtain ⟨sl, z2⟩ := uB _ _ (F.keep _ _ z) nf
  refine ⟨sl, f2 _ _ z2 (Nat.lt_of_lt_of_le (Heap.lt_size z) F.above) fun q => ?_⟩
  obtain ⟨p, hp, rfl⟩ := List.mem_map.mp q
  rcases List.mem_append.mp hp with hp | hp
  · by_cases hdict : ∃ es n, o.data = .dict es n
    · obtain ⟨es, n, hdict⟩ := hdict
      have y := (ht p hp).1
      rw [z2] at y
      exact isSeq_no (ht p hp).2.2 es n (by rw [← Option.some.inj y]; exact hdict)
    · have := into _ _ (F.keep _ _ z) fun es n q => hdict ⟨es, n, q⟩
      rw [(ht p hp).2.1] at this; cases this
  · rw [(N p hp).2.2] at z; cases z
end
section -- G1
open PySem PySem.W PyProof.Rows PySem.Calls PySem.Spec
variable {w : World} {p : Program} {loose : List Str} {mean : ExcName → Option Value} {mg mb : Str → Option Value} {dp un : Nat} {fr : Option (List Env)} {gd : Option (List Code)} {s : Shared} {Q E : Value → Shared → Prop}
set_option maxRecDepth 100000 in
set_option maxHeartbeats 8000000 in
theorem scooped {hB : Heap} {sd cl : Addr} {i : Int} {u : Tok} {n : Nat} {cv : List Value} {ns : List Int} {m : Int} {tm : Tok} (X : (kfrag.heap_1 w.params).In hB) (T : Top p loose mean mg mb hB) (hs0 : hB.StaysIn s.heap) (hD : dp < 880) (hU : un < 8990) (hs : s.heap.get? sd = some (PySem.W.listOf #[.ref cl, .int i u] n)) (hsB : hB.get? sd = none) (hi0 : -1 ≤ i) (hi1 : i < 40) (hc : hB.IsList cl cv.toArray) (hci : IntsAre cv ns) (hc0 : ∀ x ∈ ns, 0 ≤ x) (hcn : ns.length < 1000) (hm0 : 0 < m) (hm9 : m < 10)
   (ret : ∀ h' tk' r ur u', Mu s.heap h' [sd] [(sd, PySem.W.listOf #[.ref cl, .int (i + 1) u'] n)] [] → 0 ≤ r → r < m → Q (.int r ur) { s with heap := h', toks := tk' }) :
   wpAny (model Challenge.rw_pq0141_01.row.prog w) ⟨none, dp, fr, gd, un⟩ (call (.ref 195) [.ref sd, .int m tm]) Q E s := by
  revert X; k_fill; intro X
  refine wpAny_call ?_
  (k_dflt (refine' mu_code (binds := [(Str.ofString "sand", .ref sd), (Str.ofString "many", .int m tm)]) [(sd, PySem.W.listOf #[.ref cl, .int i u] n)] ?k3 ?k5 ?kb ?km ?k8 ?k6 ?k7 ?k9 ?kB ?_ ?c2 ?c3 ?c4 ?c5; (case k3 => assumption); (case k5 => assumption); (case kb => assumption); (case km => exact (fun q hq => by rw [List.mem_singleton.mp hq]; exact ⟨hs, hsB⟩)); (case k6 => k_is); (case k7 => k_is); (case k8 => k_room); (case k9 => exact BindsTo.of_eq rfl); (case c5 => decide); (case kB => exact locs rfl); (case c2 => exact rfl); (case c3 => exact rfl); (case c4 => exact rfl)))
  intro g L h₁ tk0 hBg hin hgs Xg Tg F N
  (try dsimp only [List.reverse, List.reverseAux])
  (try k_fold)
  have hcg := stays_list hBg hc
  clear hc X T hs
  k_steps
  all_goals exact ret _ _ _ _ _ (mu_of (by k_asm) (by k_asm) hin (List.forall_mem_cons.mpr ⟨by k_mem, List.forall_mem_nil _⟩) (List.forall_mem_nil _) (List.forall_mem_nil _)) (Int.fmod_nonneg_of_pos _ hm0) (Int.fmod_lt_of_pos _ hm0)
end
section -- G2
open PySem PySem.W PyProof.Rows PySem.Calls PySem.Spec
variable {w : World} {p : Program} {loose : List Str} {mean : ExcName → Option Value} {mg mb : Str → Option Value} {dp un : Nat} {fr : Option (List Env)} {gd : Option (List Code)} {s : Shared} {Q E : Value → Shared → Prop}
abbrev tkD (t : Str × Str) : Dat := .tuple [.str t.1, .str t.2]
def formToks : Nat → List (Str × Str)
  | 0 => [(Str.ofString "number", Str.ofString "12")]
  | 1 => [(Str.ofString "name", Str.ofString "I%")]
  | 2 => [(Str.ofString "sign", Str.ofString "-"), (Str.ofString "name", Str.ofString "A")]
  | _ => [(Str.ofString "number", Str.ofString "1"), (Str.ofString "sign", Str.ofString "+"), (Str.ofString "name", Str.ofString "B")]
def formTree : Nat → Dat
  | 0 => .tuple [.str (Str.ofString "whole"), .int 12]
  | 1 => .tuple [.str (Str.ofString "name"), .str (Str.ofString "I%")]
  | 2 => .tuple [.str (Str.ofString "neg"), .tuple [.str (Str.ofString "name"), .str (Str.ofString "A")]]
  | _ => .tuple [.str (Str.ofString "two"), .str (Str.ofString "+"), .tuple [.str (Str.ofString "whole"), .int 1], .tuple [.str (Str.ofString "name"), .str (Str.ofString "B")]]
theorem mu_split {g h h' : Heap} {L sd : Addr} {o : Obj} {m : Str → Option Value} {tl : List (Addr × Obj)} (F : Fr g L h' m) (N : News g L h' (tl ++ [(sd, o)])) (hin : ∀ b o, h.get? b = some o → b ∉ [sd] → g.get? b = some o) (hne : ∀ p ∈ tl, p.1 ≠ sd) : Mu h h' [sd] [(sd, o)] tl :=
  mu_of F N hin (List.forall_mem_cons.mpr ⟨List.mem_append.mpr (.inr (.head _)), List.forall_mem_nil _⟩) (fun p hp => List.mem_append.mpr (.inl hp)) fun p hp q => hne p hp (List.mem_singleton.mp q)
set_option maxRecDepth 100000 in
set_option maxHeartbeats 8000000 in
theorem short {hB : Heap} {sd cl : Addr} {i : Int} {u : Tok} {n : Nat} {cv : List Value} {ns : List Int} (X : (kfrag.heap_1 w.params).In hB) (T : Top p loose mean mg mb hB) (hs0 : hB.StaysIn s.heap) (hD : dp < 870) (hU : un < 8980) (hs : s.heap.get? sd = some (PySem.W.listOf #[.ref cl, .int i u] n)) (hsB : hB.get? sd = none) (hi0 : -1 ≤ i) (hi1 : i < 40) (hc : hB.IsList cl cv.toArray) (hci : IntsAre cv ns) (hc0 : ∀ x ∈ ns, 0 ≤ x) (hcn : ns.length < 1000) 
   (ret : ∀ h' tk' q f tl u', f < 4 → Mu s.heap h' [sd] [(sd, PySem.W.listOf #[.ref cl, .int (i + 1) u'] n)] tl → DatIn tl (.ref q) (.tuple [.list ((formToks f).map tkD), formTree f]) → Q (.ref q) { s with heap := h', toks := tk' }) :
   wpAny (model Challenge.rw_pq0141_01.row.prog w) ⟨none, dp, fr, gd, un⟩ (call (.ref 202) [.ref sd]) Q E s := by
  revert X; k_fill; intro X
  refine wpAny_call ?_
  (k_dflt (refine' mu_code (binds := [(Str.ofString "sand", .ref sd)]) [(sd, PySem.W.listOf #[.ref cl, .int i u] n)] ?k3 ?k5 ?kb ?km ?k8 ?k6 ?k7 ?k9 ?kB ?_ ?c2 ?c3 ?c4 ?c5; (case k3 => assumption); (case k5 => assumption); (case kb => assumption); (case km => exact (fun q hq => by rw [List.mem_singleton.mp hq]; exact ⟨hs, hsB⟩)); (case k6 => k_is); (case k7 => k_is); (case k8 => k_room); (case k9 => exact BindsTo.of_eq rfl); (case c5 => decide); (case kB => exact locs rfl); (case c2 => exact rfl); (case c3 => exact rfl); (case c4 => exact rfl)))
  intro g L h₁ tk0 hBg hin hgs Xg Tg F N
  (try dsimp only [List.reverse, List.reverseAux])
  (try k_fold)
  have hcg := stays_list hBg hc
  clear hc X T hs
  k_steps
  (k_dflt (refine scooped (hB := g) (m := 4) (by k_asm) (by k_asm) (Fr.keep (by k_asm)) (by walk_at "down") (by walk_at "down") (News.get (by k_asm) (by k_mem)) (News.fresh (by k_asm) (by k_mem)) (by omega) (by omega) (by assumption) hci hc0 hcn (by decide) (by decide) ?_))
  intro h' tk' r ur u' M hr0 hr1
  ((with_reducible rename Fr _ _ _ _ => zkF); (with_reducible rename News _ _ _ _ => zkN); (rename Mu _ _ _ _ _ => zkM); have zne := apart_of (mu_ne zkN zkM); k_dflt (have zN := news_mu1 zkF zkN (by k_upd) zkM); k_dflt (have zF := fr_mu1 zkF zkN (by k_upd) zkM); (try dsimp only [List.cons_append, List.nil_append] at zN); (try simp only [List.push_toArray, List.cons_append, List.nil_append] at zN); (repeat (have _ := And.left zne; replace zne := And.right zne)); clear zne zkF zkN zkM)
  k_steps
  · exact ret _ _ _ 0 _ _ (by decide) (mu_split (tl := [_, _, _, _]) (by k_asm) (by k_asm) hin (by (repeat' (first | exact List.forall_mem_nil _ | (refine List.forall_mem_cons.mpr ⟨by k_ne, ?_⟩))))) (by show DatIn _ _ (.tuple [.list _, _]); simp only [formToks, formTree, List.map_cons, List.map_nil]; (repeat' (first | exact DatIn.int _ _ | exact DatIn.str _ _ | exact DatAll.nil | refine DatAll.cons ?_ ?_ | refine DatIn.tuple (by k_mem) ?_ | refine DatIn.list (by k_mem) ?_)))
  · exact ret _ _ _ 1 _ _ (by decide) (mu_split (tl := [_, _, _, _]) (by k_asm) (by k_asm) hin (by (repeat' (first | exact List.forall_mem_nil _ | (refine List.forall_mem_cons.mpr ⟨by k_ne, ?_⟩))))) (by show DatIn _ _ (.tuple [.list _, _]); simp only [formToks, formTree, List.map_cons, List.map_nil]; (repeat' (first | exact DatIn.int _ _ | exact DatIn.str _ _ | exact DatAll.nil | refine DatAll.cons ?_ ?_ | refine DatIn.tuple (by k_mem) ?_ | refine DatIn.list (by k_mem) ?_)))
  · exact ret _ _ _ 2 _ _ (by decide) (mu_split (tl := [_, _, _, _, _, _]) (by k_asm) (by k_asm) hin (by (repeat' (first | exact List.forall_mem_nil _ | (refine List.forall_mem_cons.mpr ⟨by k_ne, ?_⟩))))) (by show DatIn _ _ (.tuple [.list _, _]); simp only [formToks, formTree, List.map_cons, List.map_nil]; (repeat' (first | exact DatIn.int _ _ | exact DatIn.str _ _ | exact DatAll.nil | refine DatAll.cons ?_ ?_ | refine DatIn.tuple (by k_mem) ?_ | refine DatIn.list (by k_mem) ?_)))
  · exact ret _ _ _ 3 _ _ (by decide) (mu_split (tl := [_, _, _, _, _, _, _, _]) (by k_asm) (by k_asm) hin (by (repeat' (first | exact List.forall_mem_nil _ | (refine List.forall_mem_cons.mpr ⟨by k_ne, ?_⟩))))) (by show DatIn _ _ (.tuple [.list _, _]); simp only [formToks, formTree, List.map_cons, List.map_nil]; (repeat' (first | exact DatIn.int _ _ | exact DatIn.str _ _ | exact DatAll.nil | refine DatAll.cons ?_ ?_ | refine DatIn.tuple (by k_mem) ?_ | refine DatIn.list (by k_mem) ?_)))
end
section -- G3a
open PySem PySem.W PyProof.Rows PySem.Calls PySem.Spec
variable {w : World} {p : Program} {loose : List Str} {mean : ExcName → Option Value} {mg mb : Str → Option Value} {dp un : Nat} {fr : Option (List Env)} {gd : Option (List Code)} {s : Shared} {Q E : Value → Shared → Prop}
def sep (i : Nat) : List (Str × Str) := if i = 0 then [] else [(Str.ofString "sign", Str.ofString ",")]
/-- what i whole turns of the row make -/
inductive RowB : Nat → List (Str × Str) → List Dat → Prop
  | nil : RowB 0 [] []
  | snoc {i f : Nat} {ts : List (Str × Str)} {trs : List Dat} : RowB i ts trs → f < 4 → RowB (i + 1) (ts ++ sep i ++ formToks f) (trs ++ [formTree f])
def wrD : Option Nat → Dat
  | none => .none
  | some k => .int (k : Int)
def RowR (n : Nat) (ts : List (Str × Str)) (trs : List Dat) (wr : Option Nat) : Prop :=
  (RowB n ts trs ∧ wr = none) ∨ ∃ i ts0, i < n ∧ RowB i ts0 trs ∧ ts = ts0 ++ sep i ∧ wr = some ts.length
theorem datAll_app {news : List (Addr × Obj)} {us : List Value} {es : List Dat} (k : DatAll news us es) : ∀ {vs : List Value} {ds : List Dat}, DatAll news vs ds → DatAll news (vs ++ us) (ds ++ es)
  | _, _, .nil => k
  | _, _, .cons a r => .cons a (datAll_app k r)
theorem small_row {n : Nat} (h : n ≤ 5) : Builtin.Range.small 0 (n : Int) 1 = true := by
  have : n = 0 ∨ n = 1 ∨ n = 2 ∨ n = 3 ∨ n = 4 ∨ n = 5 := by omega
  rcases this with rfl | rfl | rfl | rfl | rfl | rfl <;> decide +kernel
theorem size_row {n : Nat} (h : n ≤ 5) : Builtin.Range.rangeSize 0 (n : Int) 1 = (n : Int) := by
  have : n = 0 ∨ n = 1 ∨ n = 2 ∨ n = 3 ∨ n = 4 ∨ n = 5 := by omega
  rcases this with rfl | rfl | rfl | rfl | rfl | rfl <;> decide +kernel
theorem sep_len (i : Nat) : (sep i).length ≤ 1 := by unfold sep; split <;> simp
theorem form_len (f : Nat) : (formToks f).length ≤ 3 := by unfold formToks; split <;> simp
theorem RowB.len : ∀ {i : Nat} {ts : List (Str × Str)} {trs : List Dat}, RowB i ts trs → ts.length ≤ 4 * i ∧ trs.length = i
  | _, _, _, .nil => by simp
  | _, _, _, .snoc (i := i) (f := f) r _ => by
    have := r.len
    have := sep_len i
    have := form_len f
    simp only [List.length_append, List.length_cons, List.length_nil]; omega
/-- where the loop of the row stands: i turns are through -/
structure RowI (sd cl : Addr) (n : Nat) (lo : Int) (r : Int) (ur : Tok) (i : Nat) (m : Str → Option Value) (news : List (Addr × Obj)) (A T : Addr) (vs us : List Value) (c1 c2 : Nat) (tl : List (Addr × Obj)) (j : Int) (u' : Tok) (ts : List (Str × Str)) (trs : List Dat) : Prop where
  led : news = (A, PySem.W.listOf vs.toArray c1) :: (T, PySem.W.listOf us.toArray c2) :: (sd, PySem.W.listOf #[.ref cl, .int j u'] n) :: tl
  made : RowB i ts trs
  dt : DatAll tl vs (ts.map tkD)
  du : DatAll tl us trs
  j0 : lo ≤ j
  j1 : j ≤ lo + i
  m1 : m (Str.ofString "tokens") = some (.ref A)
  m2 : m (Str.ofString "trees") = some (.ref T)
  m3 : m (Str.ofString "lacking") = some (.int r ur)
  m4 : m (Str.ofString "wrong") = some .none
  m5 : m (Str.ofString "sand") = some (.ref sd)
  n1 : sd ≠ A
  n2 : sd ≠ T
  n3 : ∀ p ∈ tl, p.1 ≠ sd
section
variable {prog : Program} {w : World} {A : Around} {E : Value → Shared → Prop} {s : Shared} {env : Env} {h₀ : Heap} {x : Str} {body : List Stmt} {Q : Flow → Shared → Prop} {I : Addr} {a : Int} {n : Nat}
theorem rr_ind (J : Nat → (Str → Option Value) → List (Addr × Obj) → Prop) (zero : ∀ m news, J n m news → RangeRest prog w A E h₀ env x body Q s I a n 0 n m news)
   (succ : ∀ k i m news, i + (k + 1) = n → J i m news → (∀ m' news', J (i + 1) m' news' → RangeRest prog w A E h₀ env x body Q s I a n k (i + 1) m' news') → RangeRest prog w A E h₀ env x body Q s I a n (k + 1) i m news) :
   ∀ k i m news, i + k = n → J i m news → RangeRest prog w A E h₀ env x body Q s I a n k i m news
  | 0, i, m, news, e, h => by obtain rfl : i = n := by omega
                              exact zero m news h
  | k + 1, i, m, news, e, h => succ k i m news e h fun m' news' h' => rr_ind J zero succ k (i + 1) m' news' (by omega) h'
end
abbrev rowM (m : Str → Option Value) (A T sd : Addr) (r : Int) (ur : Tok) : Str → Option Value := fun y => if y = Str.ofString "tokens" then some (.ref A) else if y = Str.ofString "trees" then some (.ref T) else if y = Str.ofString "lacking" then some (.int r ur) else if y = Str.ofString "wrong" then some .none else if y = Str.ofString "sand" then some (.ref sd) else m y
theorem rowM_of {m : Str → Option Value} {A T sd : Addr} {r : Int} {ur : Tok} (m1 : m (Str.ofString "tokens") = some (.ref A)) (m2 : m (Str.ofString "trees") = some (.ref T)) (m3 : m (Str.ofString "lacking") = some (.int r ur)) (m4 : m (Str.ofString "wrong") = some .none) (m5 : m (Str.ofString "sand") = some (.ref sd)) (y : Str) :
    m y = rowM m A T sd r ur y := by
  unfold rowM
  split
  · rename_i h; rw [h, m1]
  · split
    · rename_i h; rw [h, m2]
    · split
      · rename_i h; rw [h, m3]
      · split
        · rename_i h; rw [h, m4]
        · split
          · rename_i h; rw [h, m5]
          · rfl
theorem rowAt_of {m : Str → Option Value} {at_ : Value} {A T sd : Addr} {r : Int} {ur : Tok} (m1 : m (Str.ofString "tokens") = some (.ref A)) (m2 : m (Str.ofString "trees") = some (.ref T)) (m3 : m (Str.ofString "lacking") = some (.int r ur)) (m4 : m (Str.ofString "wrong") = some .none) (m5 : m (Str.ofString "sand") = some (.ref sd)) (y : Str) :
    (if y = Str.ofString "at" then some at_ else m y) = (if y = Str.ofString "at" then some at_ else rowM m A T sd r ur y) := by
  rw [← rowM_of m1 m2 m3 m4 m5 y]
section
variable {prog : Program} {w : World} {A' : Around} {E : Value → Shared → Prop} {s : Shared} {g : Heap} {L : Addr} {m : Str → Option Value} {news : List (Addr × Obj)} {Q : Value → Shared → Prop}
theorem add_any {a b : Addr} {xs ys : List Value} {n1 n2 : Nat} (F : Fr g L s.heap m) (N : News g L s.heap news) (ha : (a, PySem.W.listOf xs.toArray n1) ∈ news) (hb : (b, PySem.W.listOf ys.toArray n2) ∈ news) (hz : xs.length + ys.length ≤ 1000)
   (h : ∀ D h', Fr g L h' m → News g L h' ((D, PySem.W.listOf (xs ++ ys).toArray 0) :: news) → (∀ p ∈ news, p.1 < D) → Q (.ref D) { s with heap := h' }) : wpAny (model prog w) A' (binaryOp .Add (.ref a) (.ref b)) Q E s :=
  kmk_add_lit F N (its := xs.toArray) (its2 := ys.toArray) (N.isList ha) (N.isList hb) (by simp) h (by rw [sizeLine_eq]; simp only [List.length_append]; omega)
def sepV (i : Nat) (v : Value) : List Value := if i = 0 then [] else [v]
theorem rep_sep {i : Nat} {v : Value} : (List.foldl (fun x1 x2 => x1 ++ x2) #[] (List.replicate (if #[v].isEmpty = true then 0 else (if decide (0 < 0 + (i : Int)) = true then (1 : Int) else 0).toNat) #[v])) = (sepV i v).toArray := by
  unfold sepV
  by_cases h : i = 0
  · subst h; simp
  · rw [if_neg h, show decide (0 < 0 + (i : Int)) = true from decide_eq_true (by omega)]; simp
theorem len_news {l : Addr} {vs : List Value} {n1 : Nat} (N : News g L s.heap news) (hl : (l, PySem.W.listOf vs.toArray n1) ∈ news) (hn : vs.length < 1000) (h : Q (.int vs.length (s.toks + 1)) { s with toks := s.toks + 1 + 1 }) :
   wpAny (model prog w) A' (call (.builtin "len") [.ref l]) Q E s :=
  Calls.call_len_list (N.isList hl) (by simp; omega) (by simpa using h)
theorem row_add1 {R l' D I A T sd : Addr} {o2 it oS : Obj} {i c1 c2 n0 : Nat} {vs us : List Value} {t1 t2 : Tok} {tl : List (Addr × Obj)} {ts : List (Str × Str)} {trs : List Dat}
   (F : Fr g L s.heap m) (N : News g L s.heap ((R, ({ cls := .type "list", data := .seq (List.foldl (fun x1 x2 => x1 ++ x2) #[] (List.replicate (if #[Value.ref D].isEmpty = true then 0 else (if decide (0 < 0 + (i : Int)) = true then (1 : Int) else 0).toNat) #[Value.ref D])) n0 } : Obj)) :: (l', o2) :: (D, tupOf [.str (Str.ofString "sign") t1, .str (Str.ofString ",") t2] 0) :: (I, it) :: (A, PySem.W.listOf vs.toArray c1) :: (T, PySem.W.listOf us.toArray c2) :: (sd, oS) :: tl))
   (hd : DatAll tl vs (ts.map tkD)) (hu : DatAll tl us trs) (h3 : ∀ p ∈ tl, p.1 ≠ sd) (h3I : ∀ p ∈ tl, p.1 ≠ I) (hD : sd ≠ D) (hDI : I ≠ D) (hlen : ts.length ≤ 100)
   (h : ∀ D2 h' ws tl2, Fr g L h' m → News g L h' ((D2, PySem.W.listOf ws.toArray 0) :: (I, it) :: (T, PySem.W.listOf us.toArray c2) :: (sd, oS) :: tl2) → DatAll tl2 ws ((ts ++ sep i).map tkD) → DatAll tl2 us trs → (∀ p ∈ tl2, p.1 ≠ sd) → (∀ p ∈ tl2, p.1 ≠ I) → @LT.lt Nat _ I D2 → @LT.lt Nat _ T D2 → @LT.lt Nat _ sd D2 → Q (.ref D2) { s with heap := h' }) :
   wpAny (model prog w) A' (binaryOp .Add (.ref A) (.ref R)) Q E s := by
  have hR : s.heap.IsList R (sepV i (.ref D)).toArray := ⟨_, (N _ (.head _)).1, rfl, n0, by rw [rep_sep]⟩
  have hvl : vs.length = ts.length := by rw [datAll_len hd, List.length_map]
  have hsl : (sepV i (.ref D)).length ≤ 1 := by unfold sepV; split <;> simp
  refine kmk_add_lit F N (its := vs.toArray) (its2 := (sepV i (.ref D)).toArray) (zs := vs ++ sepV i (.ref D)) (N.isList (.tail _ (.tail _ (.tail _ (.tail _ (.head _)))))) hR (by simp) (fun D2 h' F' N' lt => ?_) (by rw [sizeLine_eq]; simp only [List.length_append]; omega)
  have sub : ∀ p ∈ tl, p ∈ (D, tupOf [.str (Str.ofString "sign") t1, .str (Str.ofString ",") t2] 0) :: tl := fun p hp => .tail _ hp
  refine h D2 h' (vs ++ sepV i (.ref D)) ((D, tupOf [.str (Str.ofString "sign") t1, .str (Str.ofString ",") t2] 0) :: tl) F' (fun p hp => N' p ?_) ?_ (hu.mono sub) (List.forall_mem_cons.mpr ⟨hD.symm, h3⟩) (List.forall_mem_cons.mpr ⟨hDI.symm, h3I⟩) (lt _ (.tail _ (.tail _ (.tail _ (.head _))))) (lt _ (.tail _ (.tail _ (.tail _ (.tail _ (.tail _ (.head _))))))) (lt _ (.tail _ (.tail _ (.tail _ (.tail _ (.tail _ (.tail _ (.head _))))))))
  · rcases List.mem_cons.mp hp with rfl | hp
    · exact .head _
    rcases List.mem_cons.mp hp with rfl | hp
    · exact .tail _ (.tail _ (.tail _ (.tail _ (.head _))))
    rcases List.mem_cons.mp hp with rfl | hp
    · exact .tail _ (.tail _ (.tail _ (.tail _ (.tail _ (.tail _ (.head _))))))
    rcases List.mem_cons.mp hp with rfl | hp
    · exact .tail _ (.tail _ (.tail _ (.tail _ (.tail _ (.tail _ (.tail _ (.head _)))))))
    rcases List.mem_cons.mp hp with rfl | hp
    · exact .tail _ (.tail _ (.tail _ (.head _)))
    exact .tail _ (.tail _ (.tail _ (.tail _ (.tail _ (.tail _ (.tail _ (.tail _ (hp))))))))
  · rw [List.map_append]
    refine datAll_app ?_ (hd.mono sub)
    unfold sepV sep
    split
    · exact .nil
    · exact .cons (.tuple (vs := [_, _]) (n := 0) (.head _) (.cons (.str _ _) (.cons (.str _ _) .nil))) .nil
/-- what _law_short hands back, laid open -/
theorem short_open {tl : List (Addr × Obj)} {q : Addr} {ds : List Dat} {d : Dat} (h : DatIn tl (.ref q) (.tuple [.list ds, d])) : ∃ ml ws n1 n2 tv, (q, tupOf [.ref ml, tv] n1) ∈ tl ∧ (ml, PySem.W.listOf ws.toArray n2) ∈ tl ∧ DatAll tl ws ds ∧ DatIn tl tv d := by
  cases h with
  | tuple hm r =>
    cases r with
    | cons a r2 =>
      cases a with
      | list hl ra =>
        cases r2 with
        | cons b r3 => cases r3; exact ⟨_, _, _, _, _, hm, hl, ra, b⟩
theorem row_more {h h' : Heap} {sd D I T q : Addr} {oS oS' it : Obj} {ws us : List Value} {c0 c2 : Nat} {tl tl2 : List (Addr × Obj)} {ds es trs : List Dat} {d : Dat}
   (F : Fr g L h m) (N : News g L h ((D, PySem.W.listOf ws.toArray c0) :: (I, it) :: (T, PySem.W.listOf us.toArray c2) :: (sd, oS) :: tl)) (M : Mu h h' [sd] [(sd, oS')] tl2) (hq : DatIn tl2 (.ref q) (.tuple [.list es, d])) (hd : DatAll tl ws ds) (hu : DatAll tl us trs)
   (h3 : ∀ p ∈ tl, p.1 ≠ sd) (h3I : ∀ p ∈ tl, p.1 ≠ I) (hDs : sd ≠ D) (hIs : sd ≠ I) (hTs : sd ≠ T) :
   ∃ ml n1 n2 xs tv tl3, Fr g L h' m ∧ News g L h' ((q, tupOf [.ref ml, tv] n1) :: (ml, PySem.W.listOf xs.toArray n2) :: (D, PySem.W.listOf ws.toArray c0) :: (I, it) :: (T, PySem.W.listOf us.toArray c2) :: (sd, oS') :: tl3) ∧ DatAll tl3 ws ds ∧ DatAll tl3 us trs ∧ DatAll tl3 xs es ∧ DatIn tl3 tv d ∧
     (∀ p ∈ tl3, p.1 ≠ sd) ∧ (∀ p ∈ tl3, p.1 ≠ I) ∧ sd ≠ q ∧ sd ≠ ml ∧ I ≠ q ∧ I ≠ ml := by
  obtain ⟨ml, xs, n1, n2, tv, h1, h2, h4, h5⟩ := short_open hq
  have ne := mu_ne N M
  have hk : ∀ a ∈ [sd], ∃ o, (a, o) ∈ ((D, PySem.W.listOf ws.toArray c0) :: (I, it) :: (T, PySem.W.listOf us.toArray c2) :: (sd, oS) :: tl) := fun a ha => by rw [List.mem_singleton.mp ha]; exact ⟨_, .tail _ (.tail _ (.tail _ (.head _)))⟩
  have F' := fr_mu F N M hk
  have N' : News g L h' (tl2 ++ ((D, PySem.W.listOf ws.toArray c0) :: (I, it) :: (T, PySem.W.listOf us.toArray c2) :: (sd, oS') :: tl)) := by
    refine news_mu1 (o := oS) F N ?_ M
    exact Upd.tail hDs.symm (Upd.tail hIs.symm (Upd.tail hTs.symm (Upd.head h3)))
  refine ⟨ml, n1, n2, xs, tv, tl2 ++ tl, F', fun p hp => N' p ?_, hd.mono fun p hp => List.mem_append.mpr (.inr hp), hu.mono fun p hp => List.mem_append.mpr (.inr hp), h4.mono fun p hp => List.mem_append.mpr (.inl hp), h5.mono fun p hp => List.mem_append.mpr (.inl hp), ?_, ?_, ?_, ?_, ?_, ?_⟩
  · rcases List.mem_cons.mp hp with rfl | hp
    · exact List.mem_append.mpr (.inl h1)
    rcases List.mem_cons.mp hp with rfl | hp
    · exact List.mem_append.mpr (.inl h2)
    rcases List.mem_cons.mp hp with rfl | hp
    · exact List.mem_append.mpr (.inr (.head _))
    rcases List.mem_cons.mp hp with rfl | hp
    · exact List.mem_append.mpr (.inr (.tail _ (.head _)))
    rcases List.mem_cons.mp hp with rfl | hp
    · exact List.mem_append.mpr (.inr (.tail _ (.tail _ (.head _))))
    rcases List.mem_cons.mp hp with rfl | hp
    · exact List.mem_append.mpr (.inr (.tail _ (.tail _ (.tail _ (.head _)))))
    exact (List.mem_append.mp hp).elim (fun z => List.mem_append.mpr (.inl z)) fun z => List.mem_append.mpr (.inr (.tail _ (.tail _ (.tail _ (.tail _ (z))))))
  · intro p hp
    rcases List.mem_append.mp hp with hp | hp
    · exact (ne p hp _ (.tail _ (.tail _ (.tail _ (.head _))))).symm
    · exact h3 p hp
  · intro p hp
    rcases List.mem_append.mp hp with hp | hp
    · exact (ne p hp _ (.tail _ (.head _))).symm
    · exact h3I p hp
  · exact ne _ h1 _ (.tail _ (.tail _ (.tail _ (.head _))))
  · exact ne _ h2 _ (.tail _ (.tail _ (.tail _ (.head _))))
  · exact ne _ h1 _ (.tail _ (.head _))
  · exact ne _ h2 _ (.tail _ (.head _))
end
theorem row_end {g h h' : Heap} {L D A T sd : Addr} {m : Str → Option Value} {oD oA oT oS : Obj} {tl : List (Addr × Obj)} (F : Fr g L h' m) (N : News g L h' ((D, oD) :: (A, oA) :: (T, oT) :: (sd, oS) :: tl)) (hin : ∀ b o, h.get? b = some o → b ∉ [sd] → g.get? b = some o) (h3 : ∀ p ∈ tl, p.1 ≠ sd) (n0 : sd ≠ D) (n1 : sd ≠ A) (n2 : sd ≠ T) :
   Mu h h' [sd] [(sd, oS)] ((D, oD) :: (A, oA) :: (T, oT) :: tl) := by
  have no : ∀ p ∈ (D, oD) :: (A, oA) :: (T, oT) :: tl, p.1 ≠ sd := List.forall_mem_cons.mpr ⟨n0.symm, List.forall_mem_cons.mpr ⟨n1.symm, List.forall_mem_cons.mpr ⟨n2.symm, h3⟩⟩⟩
  refine mu_of F N hin (List.forall_mem_cons.mpr ⟨.tail _ (.tail _ (.tail _ (.head _))), List.forall_mem_nil _⟩) (fun p hp => ?_) fun p hp q => no p hp (List.mem_singleton.mp q)
  rcases List.mem_cons.mp hp with rfl | hp
  · exact .head _
  rcases List.mem_cons.mp hp with rfl | hp
  · exact .tail _ (.head _)
  rcases List.mem_cons.mp hp with rfl | hp
  · exact .tail _ (.tail _ (.head _))
  exact .tail _ (.tail _ (.tail _ (.tail _ hp)))
theorem news_noI {g h : Heap} {L : Addr} {a b i : Addr × Obj} {r : List (Addr × Obj)} (N : News g L h (a :: b :: i :: r)) : News g L h (a :: b :: r) := List.forall_mem_cons.mpr ⟨N _ (.head _), List.forall_mem_cons.mpr ⟨N _ (.tail _ (.head _)), fun p hp => N p (.tail _ (.tail _ (.tail _ hp)))⟩⟩
theorem news_row {g h : Heap} {L : Addr} {a b c d : Addr × Obj} (N : News g L h [d, b, a, c]) : News g L h [a, b, c] := List.forall_mem_cons.mpr ⟨N _ (.tail _ (.tail _ (.head _))), List.forall_mem_cons.mpr ⟨N _ (.tail _ (.head _)), List.forall_mem_cons.mpr ⟨N _ (.tail _ (.tail _ (.tail _ (.head _)))), List.forall_mem_nil _⟩⟩⟩
end
local macro_rules | `(tactic| walk_at "call builtin:len") => `(tactic| (k_here; (with_reducible show wpAny _ _ (call (Value.builtin "len") [Value.ref _]) _ _ _); k_dflt (refine' len_news ?N ?a ?z ?_; (case N => k_asm); (case a => k_mem); (case z => omega); k_whole)))
section -- G3
open PySem PySem.W PyProof.Rows PySem.Calls PySem.Spec
variable {w : World} {p : Program} {loose : List Str} {mean : ExcName → Option Value} {mg mb : Str → Option Value} {dp un : Nat} {fr : Option (List Env)} {gd : Option (List Code)} {s : Shared} {Q E : Value → Shared → Prop}
local macro_rules | `(tactic| walk_at "binaryOp Add ref ref") => `(tactic| (k_here; (with_reducible show wpAny _ _ (binaryOp _ (Value.ref _) (Value.ref _)) _ _ _); k_dflt (refine' add_any ?F ?N ?a ?b ?z ?_; (case F => k_asm); (case N => k_asm); (case a => k_mem); (case b => k_mem); (case z => first | omega | (simp only [List.length_append, List.length_cons, List.length_nil]; omega))); intro D' h' F' N' l1; (try k_lt l1); (try k_sweep)))
set_option maxRecDepth 100000 in
set_option maxHeartbeats 8000000 in
theorem row {hB : Heap} {sd cl : Addr} {i : Int} {u : Tok} {n : Nat} {cv : List Value} {ns : List Int} {mn : Nat} {tm : Tok} (X : (kfrag.heap_1 w.params).In hB) (T : Top p loose mean mg mb hB) (hs0 : hB.StaysIn s.heap) (hD : dp < 860) (hU : un < 8970) (hs : s.heap.get? sd = some (PySem.W.listOf #[.ref cl, .int i u] n)) (hsB : hB.get? sd = none) (hi0 : -1 ≤ i) (hi1 : i < 30) (hc : hB.IsList cl cv.toArray) (hci : IntsAre cv ns) (hc0 : ∀ x ∈ ns, 0 ≤ x) (hcn : ns.length < 1000) (hm0 : 1 ≤ mn) (hm9 : mn ≤ 5)
   (ret : ∀ h' tk' q ts trs wr tl j u', RowR mn ts trs wr → i ≤ j → j ≤ i + 6 → Mu s.heap h' [sd] [(sd, PySem.W.listOf #[.ref cl, .int j u'] n)] tl → DatIn tl (.ref q) (.tuple [.list (ts.map tkD), .list trs, wrD wr]) → Q (.ref q) { s with heap := h', toks := tk' }) :
   wpAny (model Challenge.rw_pq0141_01.row.prog w) ⟨none, dp, fr, gd, un⟩ (call (.ref 209) [.ref sd, .int (mn : Int) tm]) Q E s := by
  revert X; k_fill; intro X
  refine wpAny_call ?_
  (k_dflt (refine' mu_code (binds := [(Str.ofString "sand", .ref sd), (Str.ofString "many", .int (mn : Int) tm)]) [(sd, PySem.W.listOf #[.ref cl, .int i u] n)] ?k3 ?k5 ?kb ?km ?k8 ?k6 ?k7 ?k9 ?kB ?_ ?c2 ?c3 ?c4 ?c5; (case k3 => assumption); (case k5 => assumption); (case kb => assumption); (case km => exact (fun q hq => by rw [List.mem_singleton.mp hq]; exact ⟨hs, hsB⟩)); (case k6 => k_is); (case k7 => k_is); (case k8 => k_room); (case k9 => exact BindsTo.of_eq rfl); (case c5 => decide); (case kB => exact locs rfl); (case c2 => exact rfl); (case c3 => exact rfl); (case c4 => exact rfl)))
  intro g L h₁ tk0 hBg hin hgs Xg Tg F N
  (try dsimp only [List.reverse, List.reverseAux])
  (try k_fold)
  have hcg := stays_list hBg hc
  clear hc X T hs
  k_steps
  (k_dflt (refine scooped (hB := g) (m := 9) (by k_asm) (by k_asm) (Fr.keep (by k_asm)) (by walk_at "down") (by walk_at "down") (News.get (by k_asm) (by k_mem)) (News.fresh (by k_asm) (by k_mem)) (by omega) (by omega) (by assumption) hci hc0 hcn (by decide) (by decide) ?_))
  intro h' tk' r ur u' M hr0 hr1
  ((with_reducible rename Fr _ _ _ _ => zkF); (with_reducible rename News _ _ _ _ => zkN); (rename Mu _ _ _ _ _ => zkM); have zne := apart_of (mu_ne zkN zkM); k_dflt (have zN := news_mu1 zkF zkN (by k_upd) zkM); k_dflt (have zF := fr_mu1 zkF zkN (by k_upd) zkM); (try dsimp only [List.cons_append, List.nil_append] at zN); (try simp only [List.push_toArray, List.cons_append, List.nil_append] at zN); (repeat (have _ := And.left zne; replace zne := And.right zne)); clear zne zkF zkN zkM)
  k_steps
  rename IsRange _ _ _ _ _ _ _ _ => hrg
  (with_reducible rename Fr _ _ _ _ => lF); (with_reducible rename News _ _ _ _ => lN)
  (with_unfolding_all refine iter_rangeUnr (n := mn) (by rfl) hrg (small_row hm9) (size_row hm9) lF (news_row lN) ?_)
  clear hrg lF lN
  intro I hI
  refine rr_ind (fun i2 m news => ∃ A T vs us c1 c2 tl j u' ts trs, RowI sd cl n (i + 1) r ur i2 m news A T vs us c1 c2 tl j u' ts trs ∧ ∀ p ∈ news, p.1 ≠ I) ?_ ?_ mn 0 _ _ (by omega) ?_
  rotate_left
  rotate_left
  · refine ⟨_, _, [], [], 0, 0, [], i + 1, _, [], [], ⟨rfl, .nil, .nil, .nil, Int.le_refl _, by omega, by first | rfl | kernel_rfl, by first | rfl | kernel_rfl, by first | rfl | kernel_rfl, by first | rfl | kernel_rfl, by first | rfl | kernel_rfl, by k_ne, by k_ne, List.forall_mem_nil _⟩, fun p hp => Nat.ne_of_lt (hI p hp)⟩
  · rintro m news ⟨A, T, vs, us, c1, c2, tl, j, u', ts, trs, R, hIn⟩
    refine RangeRest.zero fun h tk F1 N1 => ?_
    have F2 := fr_as F1 (rowM_of R.m1 R.m2 R.m3 R.m4 R.m5)
    have n1 := R.n1; have n2 := R.n2; have n3 := R.n3; have j0 := R.j0; have j1 := R.j1
    rw [R.led] at N1 hIn
    replace N1 : News g L h _ := N1
    replace F2 : Fr g L h _ := F2
    clear F1
    have made := R.made; have dt := R.dt; have du := R.du
    k_steps
    (with_reducible rename Fr _ _ _ _ => kF); (with_reducible rename News _ _ _ _ => kN)
    refine ret _ _ _ ts trs none _ j u' (.inl ⟨made, rfl⟩) (by omega) (by omega) (row_end kF kN hin n3 (by k_ne) n1 n2) (.tuple (.head _) (.cons (.list (.tail _ (.head _)) (dt.mono fun p hp => .tail _ (.tail _ (.tail _ hp)))) (.cons (.list (.tail _ (.tail _ (.head _))) (du.mono fun p hp => .tail _ (.tail _ (.tail _ hp)))) (.cons .none .nil))))
  · rintro k i2 m news hik ⟨A, T, vs, us, c1, c2, tl, j, u', ts, trs, R, hIn⟩ next
    refine RangeRest.succ fun t h tk F1 N1 => ?_
    have F2 := fr_as F1 (rowAt_of R.m1 R.m2 R.m3 R.m4 R.m5)
    have n1 := R.n1; have n2 := R.n2; have n3 := R.n3; have j0 := R.j0; have j1 := R.j1
    rw [R.led] at N1 hIn
    replace N1 : News g L h _ := N1
    replace F2 : Fr g L h _ := F2
    clear F1
    have hlb := R.made.len
    have hsI : sd ≠ I := hIn _ (.tail _ (.tail _ (.head _)))
    k_steps
    (with_reducible rename Fr _ _ _ _ => kF); (with_reducible rename News _ _ _ _ => kN)
    k_dflt (refine row_add1 (ts := ts) (trs := trs) kF kN R.dt R.du n3 (fun p hp => hIn p (.tail _ (.tail _ (.tail _ hp)))) (by k_ne) (by k_ne) (by omega) ?_)
    clear kF kN
    intro D2 h' ws tl2 F' N' hd2 hu2 h32 h32I lI lT lS
    have hwe : ws.length = (ts ++ sep i2).length := by rw [datAll_len hd2, List.length_map]
    have hwl : ws.length ≤ 40 := by
      have := sep_len i2
      rw [hwe, List.length_append]
      omega
    have hul : us.length ≤ 10 := by have := datAll_len hu2; omega
    k_steps
    · (with_reducible rename Fr _ _ _ _ => kF); (with_reducible rename News _ _ _ _ => kN)
      refine ret _ _ _ (ts ++ sep i2) trs (some (ts ++ sep i2).length) _ j u' (.inr ⟨i2, ts, by omega, R.made, rfl, rfl⟩) (by omega) (by omega) (row_end kF (news_noI kN) hin h32 (by k_ne) (by k_ne) R.n2) (.tuple (.head _) (.cons (.list (.tail _ (.head _)) (hd2.mono fun p hp => .tail _ (.tail _ (.tail _ hp)))) (.cons (.list (.tail _ (.tail _ (.head _))) (hu2.mono fun p hp => .tail _ (.tail _ (.tail _ hp)))) (.cons (hwe ▸ .int _ _) .nil))))
    · (k_dflt (refine short (hB := g) (by k_asm) (by k_asm) (Fr.keep (by k_asm)) (by walk_at "down") (by walk_at "down") (News.get (by k_asm) (by k_mem)) (News.fresh (by k_asm) (by k_mem)) (by omega) (by omega) hcg hci hc0 hcn ?_))
      intro h' tk' q f tl3 u3 hf M hq
      (with_reducible rename Fr _ _ _ _ => kF); (with_reducible rename News _ _ _ _ => kN)
      obtain ⟨ml, n1', n2', xs, tv, tl4, F', N', d4, u4, x4, t4, h34, h34I, hq1, hq2, hq3, hq4⟩ := row_more kF kN M hq hd2 hu2 h32 h32I (by k_ne) (hIn _ (.tail _ (.tail _ (.head _)))) R.n2
      clear kF kN
      have hxl : xs.length ≤ 3 := by
        have z := datAll_len x4
        have := form_len f
        rw [List.length_map] at z
        omega
      k_steps
      rename_i Dt _ la l2 _ lb Dr _ lc D0 _ ld _ _ _ F9 N9
      have offs : ∀ p ∈ (Dt, PySem.W.listOf (ws ++ xs).toArray 0) :: (Dr, PySem.W.listOf (us ++ [tv]).toArray 0) :: (sd, PySem.W.listOf #[.ref cl, .int (j + 1) u3] n) :: tl4, p.1 ≠ I :=
        List.forall_mem_cons.mpr ⟨by k_ne, List.forall_mem_cons.mpr ⟨by k_ne, List.forall_mem_cons.mpr ⟨hsI, h34I⟩⟩⟩
      refine UnrEnd.intro F9 N9 _ (fun p hp => ?_) offs (next _ _ ⟨Dt, Dr, ws ++ xs, us ++ [tv], 0, 0, tl4, j + 1, u3, ts ++ sep i2 ++ formToks f, trs ++ [formTree f], ⟨rfl, .snoc R.made hf, ?_, datAll_snoc t4 u4, by omega, by omega, by first | rfl | kernel_rfl, by first | rfl | kernel_rfl, by first | rfl | kernel_rfl, by first | rfl | kernel_rfl, by first | rfl | kernel_rfl, by k_ne, by k_ne, h34⟩, offs⟩)
      · rcases List.mem_cons.mp hp with rfl | hp
        · exact .tail _ (.tail _ (.tail _ (.tail _ (.tail _ (.tail _ (.tail _ (.head _)))))))
        rcases List.mem_cons.mp hp with rfl | hp
        · exact .tail _ (.tail _ (.tail _ (.head _)))
        rcases List.mem_cons.mp hp with rfl | hp
        · exact .tail _ (.head _)
        rcases List.mem_cons.mp hp with rfl | hp
        · exact .tail _ (.tail _ (.tail _ (.tail _ (.tail _ (.tail _ (.tail _ (.tail _ (.tail _ (.head _)))))))))
        exact .tail _ (.tail _ (.tail _ (.tail _ (.tail _ (.tail _ (.tail _ (.tail _ (.tail _ (.tail _ (hp))))))))))
      · rw [List.map_append]
        exact datAll_app x4 d4
end
section -- P1
open PySem PySem.W PyProof.Rows PySem.Calls PySem.Spec
set_option maxRecDepth 100000
abbrev Tk := Str × Str
def endT : Tk := (Str.ofString "end", Str.ofString "")
def look (R : List Tk) (k : Nat) : Tk := R.getD k endT
def At (TS : List Tk) (k : Nat) (R : List Tk) : Prop := ∃ P, TS = P ++ R ∧ k = P.length
theorem At.head {TS R : List Tk} {k : Nat} {q : Tk} (h : At TS k (q :: R)) : look TS k = q := by
  obtain ⟨P, rfl, rfl⟩ := h
  simp [look]
theorem At.tail {TS R : List Tk} {k : Nat} {q : Tk} (h : At TS k (q :: R)) : At TS (k + 1) R := by
  obtain ⟨P, rfl, rfl⟩ := h
  exact ⟨P ++ [q], by simp, by simp⟩
theorem At.skip {TS R Q : List Tk} {k : Nat} (h : At TS k (Q ++ R)) : At TS (k + Q.length) R := by
  obtain ⟨P, rfl, rfl⟩ := h
  exact ⟨P ++ Q, by simp, by simp⟩
theorem At.lk {TS R : List Tk} {k : Nat} (h : At TS k R) (j : Nat) : Mine.look TS (k + j) = Mine.look R j := by
  obtain ⟨P, rfl, rfl⟩ := h
  simp [Mine.look, List.getElem?_append_right]
def okT (t : Tk) : Bool := PyData.strOk t.1 && PyData.strOk t.2
/-- the tokens of a list, each at its place, and NO_TOKEN behind them -/
theorem tokAt_of {w : World} {B : Heap} {vs : List Value} {TS : List Tk} (X : (kfrag.heap_1 w.params).In B) (h : HasAll B vs (TS.map tkD)) (ok : TS.all okT = true) (k : Nat) : TokAt B vs k (look TS k) := by
  by_cases hk : k < TS.length
  · have hl : vs.length = TS.length := by rw [h.length, List.length_map]
    obtain ⟨tl, a, b⟩ := h
    have key : ∀ (vs : List Value) (TS : List Tk) (k : Nat), DatAll tl vs (TS.map tkD) → TS.all okT = true → k < TS.length → TokAt B vs k (look TS k) := by
      intro vs TS
      induction TS generalizing vs with
      | nil => intro k _ _ hk; exact absurd hk (by simp)
      | cons t TS ih =>
        intro k d ok hk
        cases d with
        | cons q r =>
          simp only [List.all_cons, Bool.and_eq_true] at ok
          cases k with
          | zero =>
            cases q with
            | tuple hm ra =>
              rename_i ws n a
              cases ra with
              | cons q1 r1 =>
                cases q1
                cases r1 with
                | cons q2 r2 =>
                  cases q2; cases r2
                  have o := ok.1
                  simp only [okT, Bool.and_eq_true] at o
                  exact ⟨o, _, _, _, rfl, _, ‹∀ p ∈ tl, B.get? p.1 = some p.2› _ hm, rfl, _, rfl⟩
          | succ k =>
            have := ih _ k r ok.2 (by simpa using hk)
            exact this
    exact key vs TS k b ok hk
  · have hl : vs.length = TS.length := by rw [h.length, List.length_map]
    have e1 : look TS k = endT := by unfold look; rw [List.getD_eq_getElem?_getD, List.getElem?_eq_none (by omega)]; rfl
    have e2 : tokV vs k = .ref 55 := by unfold tokV; rw [List.getElem?_eq_none (by omega)]; rfl
    rw [e1]
    exact ⟨by decide +kernel, 55, _, _, e2, _, X 55 _ (by rfl), rfl, _, rfl⟩
abbrev comma : Tk := (Str.ofString "sign", Str.ofString ",")
abbrev opener : Tk := (Str.ofString "sign", Str.ofString "(")
def badT : List Tk := [(Str.ofString "sign", Str.ofString ")"), (Str.ofString "sign", Str.ofString ";"), endT, (Str.ofString "word", Str.ofString "THEN"), (Str.ofString "word", Str.ofString "ELSE")]
section
variable {w : World} {B : Heap} {l : Addr} {vs : List Value} {TS R : List Tk} {k : Nat}
theorem At.tok (T : ∀ k, TokAt B vs k (Mine.look TS k)) (h : At TS k R) (j : Nat) {t : Tk} (e : Mine.look R j = t) : TokAt B vs (k + j) t := by
  have := T (k + j)
  rwa [h.lk j, e] at this
theorem form_at (hl : B.IsList l vs.toArray) (hn : vs.length < 1000) (T : ∀ k, TokAt B vs k (look TS k)) {f : Nat} (hf : f < 4) (h : At TS k (formToks f ++ R)) (hR : look R 0 ≠ opener) : FormAt w B l vs k (formTree f) (k + (formToks f).length) := by
  have : f = 0 ∨ f = 1 ∨ f = 2 ∨ f = 3 := by omega
  rcases this with rfl | rfl | rfl | rfl
  · exact .one (h.tok T 0 rfl) (spec12 hl hn (h.tok T 0 rfl))
  · exact .one (h.tok T 0 rfl) (specI (t := look R 0) hl hn (h.tok T 0 rfl) (h.tok T 1 rfl) hR)
  · exact .neg (h.tok T 0 rfl) (h.tok T 1 (t := (Str.ofString "name", Str.ofString "A")) rfl) (by decide +kernel) (specA (t := look R 0) hl hn (h.tok T 1 rfl) (h.tok T 2 rfl) hR)
  · exact .two (h.tok T 0 rfl) (spec1 hl hn (h.tok T 0 rfl)) (h.tok T 1 rfl) (h.tok T 2 rfl) (specB (t := look R 0) hl hn (h.tok T 2 rfl) (h.tok T 3 rfl) hR)
end
def tailToks : List Nat → List Tk
  | [] => []
  | f :: fs => comma :: (formToks f ++ tailToks fs)
def rowToks : List Nat → List Tk
  | [] => []
  | f :: fs => formToks f ++ tailToks fs
theorem tailToks_snoc (f : Nat) : ∀ fs : List Nat, tailToks (fs ++ [f]) = tailToks fs ++ comma :: formToks f
  | [] => by simp [tailToks]
  | g :: fs => by simp [tailToks, tailToks_snoc f fs]
theorem rowToks_snoc (f : Nat) : ∀ fs : List Nat, rowToks (fs ++ [f]) = rowToks fs ++ sep fs.length ++ formToks f
  | [] => by simp [rowToks, tailToks, sep]
  | g :: fs => by simp [rowToks, tailToks_snoc, sep]
theorem RowB.forms : ∀ {i : Nat} {ts : List Tk} {trs : List Dat}, RowB i ts trs → ∃ fs : List Nat, fs.length = i ∧ (∀ f ∈ fs, f < 4) ∧ ts = rowToks fs ∧ trs = fs.map formTree
  | _, _, _, .nil => ⟨[], rfl, List.forall_mem_nil _, rfl, rfl⟩
  | _, _, _, .snoc (i := i) (f := f) r hf => by
    obtain ⟨fs, e, h, rfl, rfl⟩ := r.forms
    refine ⟨fs ++ [f], by simp [e], fun x hx => ?_, by rw [rowToks_snoc, e], by simp⟩
    rcases List.mem_append.mp hx with hx | hx
    · exact h x hx
    · rw [List.mem_singleton.mp hx]; exact hf
def SEVT : List Str := [Str.ofString "", Str.ofString "t", Str.ofString ",", Str.ofString ")", Str.ofString ";", Str.ofString "THEN", Str.ofString "ELSE"]
/-- what may stand behind a row -/
def RowEnd (ok : Bool) (R : List Tk) : Prop := (ok = true ∧ (look R 0).2 ∈ SEVT ∧ look R 0 ≠ comma ∧ look R 0 ≠ opener) ∨ (ok = false ∧ look R 0 ∈ badT ∧ look R 1 ≠ opener)
section
variable {w : World} {B : Heap} {l : Addr} {vs : List Value} {TS R : List Tk}
theorem bad_at {k : Nat} (T : ∀ k, TokAt B vs k (look TS k)) (h : At TS k R) (h0 : look R 0 ∈ badT) (h1 : look R 1 ≠ opener) : BadAt B vs k := by
  refine ⟨⟨look R 1, h.tok T 1 rfl, h1⟩, ?_⟩
  have t0 := h.tok T 0 rfl
  rw [Nat.add_zero] at t0
  simp only [badT, List.mem_cons, List.not_mem_nil, or_false] at h0
  rcases h0 with e | e | e | e | e <;> rw [e] at t0
  · exact .inl t0
  · exact .inr (.inl t0)
  · exact .inr (.inr (.inl t0))
  · exact .inr (.inr (.inr (.inl t0)))
  · exact .inr (.inr (.inr (.inr t0)))
/-- behind a form: nothing of it goes on with a bracket -/
theorem next_no {ok : Bool} (he : RowEnd ok R) : ∀ fs : List Nat, look (tailToks fs ++ (if ok then R else comma :: R)) 0 ≠ opener
  | [] => by
    rcases he with ⟨rfl, _, _, h⟩ | ⟨rfl, _, _⟩
    · exact h
    · show comma ≠ opener
      decide +kernel
  | f :: fs => by show comma ≠ opener; decide +kernel
theorem tail_at {ok : Bool} (hl : B.IsList l vs.toArray) (hn : vs.length < 1000) (T : ∀ k, TokAt B vs k (look TS k)) (he : RowEnd ok R) : ∀ (fs : List Nat) (k : Nat), (∀ f ∈ fs, f < 4) → At TS k (tailToks fs ++ (if ok then R else comma :: R)) →
    TailAt w B l vs (k + (tailToks fs).length + (if ok then 0 else 1)) ok k (fs.map formTree)
  | [], k, _, h => by
    rcases he with ⟨rfl, h1, h2, _⟩ | ⟨rfl, h1, h2⟩
    · have t := h.tok T 0 rfl
      rw [Nat.add_zero] at t
      exact .stop t h1 h2
    · have t := h.tok T 0 rfl
      rw [Nat.add_zero] at t
      exact .bad rfl t (bad_at T (At.tail (q := comma) h) h1 h2)
  | f :: fs, k, hf, h => by
    have h2 : At TS (k + 1) (formToks f ++ (tailToks fs ++ (if ok then R else comma :: R))) := by
      have := At.tail (q := comma) h
      simpa using this
    have t := h.tok T 0 rfl
    rw [Nat.add_zero] at t
    have := tail_at hl hn T he fs (k + 1 + (formToks f).length) (fun g hg => hf g (.tail _ hg)) h2.skip
    have e : k + (tailToks (f :: fs)).length + (if ok then 0 else 1) = k + 1 + (formToks f).length + (tailToks fs).length + (if ok then 0 else 1) := by simp [tailToks]; omega
    rw [e]
    exact .more t (form_at hl hn T (hf f (.head _)) h2 (next_no he fs)) this
/-- a row that the law has laid, as the program reads it -/
theorem row_at {mn : Nat} {ts : List Tk} {trs : List Dat} {wr : Option Nat} {k : Nat} (hl : B.IsList l vs.toArray) (hn : vs.length < 1000) (T : ∀ k, TokAt B vs k (look TS k)) (hm : 1 ≤ mn) (r : RowR mn ts trs wr) (he : RowEnd wr.isNone R) (h : At TS k (ts ++ R)) :
    RowAt w B l vs (k + ts.length) wr.isNone k trs := by
  rcases r with ⟨b, rfl⟩ | ⟨i, ts0, hi, b, rfl, rfl⟩
  · obtain ⟨fs, e, hf, rfl, rfl⟩ := b.forms
    cases fs with
    | nil => simp at e; omega
    | cons f fs =>
      have h2 : At TS k (formToks f ++ (tailToks fs ++ (if true then R else comma :: R))) := by simpa [rowToks] using h
      have := tail_at (w := w) (ok := true) hl hn T he fs (k + (formToks f).length) (fun g hg => hf g (.tail _ hg)) h2.skip
      refine .inr ⟨formTree f, fs.map formTree, _, form_at hl hn T (hf f (.head _)) h2 (next_no (ok := true) he fs), ?_, rfl⟩
      have e2 : k + (rowToks (f :: fs)).length = k + (formToks f).length + (tailToks fs).length + (if true then 0 else 1) := by simp [rowToks]; omega
      rw [e2]
      exact this
  · obtain ⟨fs, e, hf, rfl, rfl⟩ := b.forms
    cases fs with
    | nil =>
      have : i = 0 := by simpa using e.symm
      subst this
      rcases he with ⟨z, _⟩ | ⟨_, h1, h2⟩
      · cases z
      · exact .inl ⟨bad_at T (by simpa [rowToks, sep] using h) h1 h2, by simp [rowToks, sep], rfl⟩
    | cons f fs =>
      have hs : sep i = [comma] := by
        have : i ≠ 0 := by rw [← e]; simp
        simp [sep, this]
      rw [hs] at h ⊢
      have h2 : At TS k (formToks f ++ (tailToks fs ++ (if false then R else comma :: R))) := by simpa [rowToks] using h
      have := tail_at (w := w) (ok := false) hl hn T he fs (k + (formToks f).length) (fun g hg => hf g (.tail _ hg)) h2.skip
      refine .inr ⟨formTree f, fs.map formTree, _, form_at hl hn T (hf f (.head _)) h2 (next_no (ok := false) he fs), ?_, rfl⟩
      have e2 : k + (rowToks (f :: fs) ++ [comma]).length = k + (formToks f).length + (tailToks fs).length + (if false then 0 else 1) := by simp [rowToks]; omega
      rw [e2]
      exact this
end
end
section -- T0
open PySem PySem.W PyProof.Rows PySem.Calls PySem.Spec
variable {w : World} {p : Program} {loose : List Str} {mean : ExcName → Option Value} {mg mb : Str → Option Value} {dp un : Nat} {fr : Option (List Env)} {gd : Option (List Code)} {s : Shared} {Q E : Value → Shared → Prop}
section
variable {prog : Program} {w : World} {A' : Around} {E : Value → Shared → Prop} {s : Shared} {g : Heap} {L : Addr} {m : Str → Option Value} {news : List (Addr × Obj)} {Q : Value → Shared → Prop}
theorem item_menu {l : Addr} {xs : List Value} {n : Nat} {value slice : PySem.Expr} {r : Int} {u : Tok} (N : News g L s.heap news) (hm : (l, PySem.W.listOf xs.toArray n) ∈ news) (h0 : 0 ≤ r) (h1 : r < xs.length) (h2 : xs.length < 1000) (h : ∀ v, v ∈ xs → Q v s)
    (hs : subscripted slice false (.ref l) (.int r u) = operate [.ref l, .int r u] (getItem (.ref l) (.int r u)) := by with_unfolding_all rfl) :
    wpAny (model prog w) A' (subscriptTail value slice (.ref l) (.int r u)) Q E s := by
  have hlt : r.toNat < xs.length := by omega
  exact item_litK (N.isList hm) h0 (by omega) (List.getElem?_eq_getElem hlt) (h _ (List.getElem_mem hlt)) hs
theorem add_base {a b : Addr} {xs ys : List Value} {n2 : Nat} (F : Fr g L s.heap m) (N : News g L s.heap news) (ha : g.IsList a xs.toArray) (hb : (b, PySem.W.listOf ys.toArray n2) ∈ news) (hz : xs.length + ys.length ≤ 1000)
   (h : ∀ D h', Fr g L h' m → News g L h' ((D, PySem.W.listOf (xs ++ ys).toArray 0) :: news) → (∀ p ∈ news, p.1 < D) → Q (.ref D) { s with heap := h' }) : wpAny (model prog w) A' (binaryOp .Add (.ref a) (.ref b)) Q E s :=
  kmk_add_lit F N (its := xs.toArray) (its2 := ys.toArray) (Fr.lst F ha) (N.isList hb) (by simp) h (by rw [sizeLine_eq]; simp only []; omega)
end
def goodW : List Str := [Str.ofString "A", Str.ofString "B%", Str.ofString "C$", Str.ofString "X.1"]
def fnW : List Str := [Str.ofString "FNA", Str.ofString "FN"]
theorem fn_slice {word : Str} (h : word ∈ fnW) : (Txt.slice word none (some 2) == Str.ofString "FN") = true := by
  simp only [fnW, List.mem_cons, List.not_mem_nil, or_false] at h
  rcases h with rfl | rfl <;> decide +kernel
theorem word_len {word : Str} (h : word ∈ goodW ∨ word ∈ fnW) : word.length ≤ sizeLine := by
  simp only [goodW, fnW, List.mem_cons, List.not_mem_nil, or_false] at h
  rcases h with (rfl | rfl | rfl | rfl) | rfl | rfl <;> exact Nat.le_of_ble_eq_true (by decide +kernel)
theorem word_ok {word : Str} (h : word ∈ goodW ∨ word ∈ fnW) : PyData.strOk word = true := by
  simp only [goodW, fnW, List.mem_cons, List.not_mem_nil, or_false] at h
  rcases h with (rfl | rfl | rfl | rfl) | rfl | rfl <;> decide +kernel
theorem fn_mem {word : Str} (h : word ∈ fnW) : (Str.ofString "name", word) ∈ [(Str.ofString "number", Str.ofString "5"), (Str.ofString "sign", Str.ofString "="), (Str.ofString "name", Str.ofString "FN"), (Str.ofString "name", Str.ofString "FNA")] := by
  simp only [fnW, List.mem_cons, List.not_mem_nil, or_false] at h
  rcases h with rfl | rfl <;> simp
theorem word_of {v : Value} {t1 t2 t3 t4 t5 t6 : Tok} (h : v ∈ [Value.str (Str.ofString "A") t1, .str (Str.ofString "B%") t2, .str (Str.ofString "C$") t3, .str (Str.ofString "X.1") t4, .str (Str.ofString "FNA") t5, .str (Str.ofString "FN") t6]) :
    ∃ word t, v = .str word t ∧ (word ∈ goodW ∨ word ∈ fnW) := by
  simp only [List.mem_cons, List.not_mem_nil, or_false] at h
  rcases h with rfl | rfl | rfl | rfl | rfl | rfl
  all_goals exact ⟨_, _, rfl, by decide +kernel⟩
end
section -- T2
open PySem PySem.W PyProof.Rows PySem.Calls PySem.Spec
set_option maxRecDepth 100000
section
variable {prog : Program} {w : World} {A : Around} {E : Value → Shared → Prop} {s : Shared} {Q : Value → Shared → Prop}
theorem lam_enter {K : Frag} {p : Program} {loose : List Str} {mean : ExcName → Option Value} {mg mb : Str → Option Value} {name qual : Str} {params : Arguments} {body : PySem.Expr} {scope : Scope} {pm ctv : Value} {c' f : Addr} {args : List Value} {binds : List (Str × Value)}
    (T : Top p loose mean mg mb s.heap) (hroom : A.depth < recursionLimit) (ho : s.heap.get? f = some (kla_obj name qual params body scope [] pm c' ctv)) (hcd : s.heap.CodeRec (.ref c') qual)
    (hbind : bindArgs (kla_fn name qual params body scope [] pm (.ref c') ctv) ⟨args, []⟩ = pure binds) (hloc : ∀ y ∈ binds, scope.names.lookup y.1 = some .local)
    (h : ∀ L h₁ tk, Fr s.heap L h₁ (fun y => binds.reverse.lookup y) → News s.heap L h₁ [] →
      wpAny (model prog w) (A.deeper (envOf qual scope L f (.ref c'))) (eval body (envOf qual scope L f (.ref c'))) (fun v s' => Q v s')
        (fun e s' => wpAny (model prog w) (A.deeper (envOf qual scope L f (.ref c'))) (leaving (envOf qual scope L f (.ref c')) e) (fun _ s'' => E e s'') (fun e' s'' => E e' s'') s')
        { s with heap := h₁, toks := tk })
    (hco : scope.isCoroutine = false) (hgen : scope.isGenerator = false) (hk : scope.kind = .function)
    (hcell : ∀ x ∈ scope.names, x.2 ≠ .cell) : wpAny (model prog w) A (call (.ref f) args) Q E s := by
  refine wpAny_call ?_
  refine kla_callFunE hroom ho rfl hco hgen rfl hcd ?_
  rw [hbind]
  refine wpAny_pure (wpAny_newFunctionEnv hcell hloc (fun h₁ hns hsb => ⟨T.nolimit.fresh _ hsb, ?_⟩) hk)
  show codeAny _ _ (.expr body (envOf qual scope s.heap.objs.size f (.ref c'))) _ _
  exact kla_codeExpr (h s.heap.objs.size h₁ _ ⟨hns, fun b o e => hsb.extBut b o (Nat.ne_of_lt (Heap.lt_size e)) (Heap.get?_push_of_some _ e), Nat.le_refl _⟩ News.nil)
end
end
section -- T3
open PySem PySem.W PyProof.Rows PySem.Calls PySem.Spec
variable {w : World} {p : Program} {loose : List Str} {mean : ExcName → Option Value} {mg mb : Str → Option Value} {dp un : Nat} {fr : Option (List Env)} {gd : Option (List Code)} {s : Shared} {Q E : Value → Shared → Prop}
def WorkAtD (D U : Nat) (w : World) (bs : Heap) (a l : Addr) (k e : Nat) (ok : Bool) (d : Dat) : Prop := ∀ {B2 : Heap} {outer2 : List Env} {dp2 un2 : Nat} {gd2 : Option (List Code)} {s2 : Shared} {Q2 E2 : Value → Shared → Prop} {tk2 : Tok},
  bs.StaysIn s2.heap → B2.StaysIn s2.heap → s2.heap.FunFrames B2 outer2 → dp2 < D → un2 < U →
  (ok = true → ∀ h' tk' q n v u tl, NewIn s2.heap h' ((q, tupOf [v, .int (e : Int) u] n) :: tl) → DatIn tl v d → Q2 (.ref q) { s2 with heap := h', toks := tk' }) →
  (ok = false → ∀ h' tk' x dd u tk3, FlyD B2 outer2 x (.ref 41) (some dd) .none h' → s2.heap.UpToSlots h' → h'.Ns dd (errNs (.str (Str.ofString "SN") u) (.int (e : Int) tk3)) → E2 (.ref x) { s2 with heap := h', toks := tk' }) →
  wpAny (model Challenge.rw_pq0141_01.row.prog w) ⟨none, dp2, some outer2, gd2, un2⟩ (call (.ref a) [.ref l, .int (k : Int) tk2]) Q2 E2 s2
theorem work_tgtR {B : Heap} {l : Addr} {vs : List Value} {k : Nat} {t : Tk} {d : Dat} (X : (kfrag.heap_1 w.params).In B) (T : Top p loose mean mg mb B) (hl : B.IsList l vs.toArray) (hn : vs.length < 1000) (htk : TokAt B vs k t)
   (ht : t ∈ [(Str.ofString "number", Str.ofString "5"), (Str.ofString "sign", Str.ofString "="), (Str.ofString "name", Str.ofString "FN"), (Str.ofString "name", Str.ofString "FNA")]) : WorkAtD 805 8910 w B 188 l k k false d := by
  intro B2 outer2 dp2 un2 gd2 s2 Q2 E2 tk2 hb hB hF hD hU _ err
  simp only [List.mem_cons, List.not_mem_nil, or_false] at ht
  rcases ht with rfl | rfl | rfl | rfl
  · exact tgtR_5 (X.keeps hb) (T.keeps hb) hB hF hb hl hn (by omega) (by omega) htk (err rfl)
  · exact tgtR_E (X.keeps hb) (T.keeps hb) hB hF hb hl hn (by omega) (by omega) htk (err rfl)
  · exact tgtR_F (X.keeps hb) (T.keeps hb) hB hF hb hl hn (by omega) (by omega) htk (err rfl)
  · exact tgtR_G (X.keeps hb) (T.keeps hb) hB hF hb hl hn (by omega) (by omega) htk (err rfl)
theorem work_tgtN {B : Heap} {l : Addr} {vs : List Value} {k : Nat} {word : Str} {t : Tk} (X : (kfrag.heap_1 w.params).In B) (T : Top p loose mean mg mb B) (hl : B.IsList l vs.toArray) (hn : vs.length < 1000) (htk : TokAt B vs k (Str.ofString "name", word)) (hw : word ∈ goodW) (htk2 : TokAt B vs (k + 1) t) (hnt : t ≠ opener) :
   WorkAtD 805 8910 w B 188 l k (k + 1) true (.tuple [.str (Str.ofString "name"), .str word]) := by
  intro B2 outer2 dp2 un2 gd2 s2 Q2 E2 tk2 hb hB hF hD hU ret _
  exact tgtN (X.keeps hb) (T.keeps hb) hb hl hn (by omega) (by omega) htk hw htk2 hnt (ret rfl)
theorem work_tgtI {B : Heap} {l : Addr} {vs : List Value} {k e e0 : Nat} {ok ok0 : Bool} {word : Str} {trees : List Dat} (X : (kfrag.heap_1 w.params).In B) (T : Top p loose mean mg mb B) (hl : B.IsList l vs.toArray) (hn : vs.length < 1000) (htk : TokAt B vs k (Str.ofString "name", word)) (hw : word ∈ goodW) (htk2 : TokAt B vs (k + 1) opener)
   (hR : RowAt w B l vs e0 ok0 (k + 2) trees) (htn : trees.length < 1000) (h0 : ok0 = false → ok = false ∧ e = e0)
   (h1 : ok0 = true → ∃ t, TokAt B vs e0 t ∧ ((t = (Str.ofString "sign", Str.ofString ")") ∧ ok = true ∧ e = e0 + 1) ∨ (t ≠ (Str.ofString "sign", Str.ofString ")") ∧ ok = false ∧ e = e0))) :
   WorkAtD 805 8910 w B 188 l k e ok (.tuple [.str (Str.ofString "item"), .str word, .list trees]) := by
  intro B2 outer2 dp2 un2 gd2 s2 Q2 E2 tk2 hb hB hF hD hU ret err
  exact tgtI (X.keeps hb) (T.keeps hb) hB hF hb hl hn (by omega) (by omega) htk hw htk2 hR htn h0 h1 ret err
theorem work_exprs {B : Heap} {l : Addr} {vs : List Value} {k e : Nat} {ok : Bool} {trees : List Dat} (X : (kfrag.heap_1 w.params).In B) (T : Top p loose mean mg mb B) (hl : B.IsList l vs.toArray) (hn : vs.length < 1000) (hR : RowAt w B l vs e ok k trees) (htn : trees.length < 1000) :
   WorkAtD 805 8910 w B 181 l k e ok (.list trees) := by
  intro B2 outer2 dp2 un2 gd2 s2 Q2 E2 tk2 hb hB hF hD hU ret err
  exact exprs (X.keeps hb) (T.keeps hb) hB hF hb hl hn (by omega) (by omega) hR htn ret err
abbrev lamP (q1 q2 : Pos) : Arguments := { posonlyargs := [], args := [{ arg := Str.ofString "row", annotation := none, pos := q1 }, { arg := Str.ofString "at", annotation := none, pos := q2 }], vararg := none, kwonlyargs := [], kw_defaults := [], kwarg := none, defaults := [] }
abbrev lamS (x : Str) : Scope := { kind := ScopeKind.function, names := [(Str.ofString "row", NameKind.local), (Str.ofString "at", NameKind.local), (x, NameKind.globalImplicit)], isGenerator := false, isCoroutine := false }
set_option maxRecDepth 100000 in
set_option maxHeartbeats 8000000 in
theorem lam_T {B : Heap} {fw c' l : Addr} {k e : Nat} {ok : Bool} {d : Dat} {qual : Str} {q1 q2 p1 p2 p3 p4 : Pos} {pm ctv : Value} {oc : Obj} {vs : Array Value} {t : Tok} (X : (kfrag.heap_1 w.params).In B) (T : Top p loose mean mg mb B)
   (ho : B.get? fw = some (kla_obj (Str.ofString "<lambda>") qual (lamP q1 q2) (.Call (.Name (Str.ofString "target") p1) [.Name (Str.ofString "row") p2, .Name (Str.ofString "at") p3] [] p4) (lamS (Str.ofString "target")) [] pm c' ctv)) (hc : B.get? c' = some oc) (hcd : oc.data = .fields vs) (hcv : vs[1]? = some (.str qual t))
   (W : WorkAtD 805 8910 w B 188 l k e ok d) : WorkAt w B fw l k e ok d := by
  unfold WorkAt
  revert X; k_fill; intro X
  intro B2 outer2 dp2 un2 gd2 s2 Q2 E2 tk2 hb hB hF hD hU ret err
  have X2 := X.keeps hb
  have T2 := T.keeps hb
  (k_dflt (refine' lam_enter (K := kfrag.heap_1 w.params) (binds := [(Str.ofString "row", .ref l), (Str.ofString "at", .int (k : Int) tk2)]) T2 ?r (hb _ _ ho) ⟨c', oc, vs, t, rfl, hb _ _ hc, hcd, hcv⟩ ?b ?l ?_ ?c2 ?c3 ?c4 ?c5; (case r => simp only [recursionLimit]; omega); (case b => exact rfl); (case l => exact locs rfl); (case c2 => exact rfl); (case c3 => exact rfl); (case c4 => exact rfl); (case c5 => decide)))
  intro L h₁ tk0 F N
  (try dsimp only [lamS])
  (try k_fold)
  k_steps
  (with_reducible rename Fr _ _ _ _ => kF); (with_reducible rename News _ _ _ _ => kN)
  refine W (B2 := B2) (fun b o z => kF.keep _ _ (hb _ _ z)) (fun b o z => kF.keep _ _ (hB _ _ z)) (frames_push kF hB hF rfl (fun z => nomatch z)) (by walk_at "down") (by walk_at "down") (fun ho h' tk' q n v u tl K' hd => ?_) (fun ho h' tk' x dd u tk3 fly up ns => ?_)
  · exact ret ho _ _ q n v u tl (newIn_of (fr_on kF K'.1) (news_in kF kN K') fun p hp => List.mem_append.mpr (.inl hp)) hd
  · refine leaveD (B := B2) rfl rfl fly ?_
    intro h3 f3 u3
    exact err ho _ _ x dd _ _ f3 (((Heap.UpToSlots.of_keeps kF.keep).trans up).trans u3) (u3.ns ns)
set_option maxRecDepth 100000 in
set_option maxHeartbeats 8000000 in
theorem lam_X {B : Heap} {fw c' l : Addr} {k e : Nat} {ok : Bool} {d : Dat} {qual : Str} {q1 q2 p1 p2 p3 p4 : Pos} {pm ctv : Value} {oc : Obj} {vs : Array Value} {t : Tok} (X : (kfrag.heap_1 w.params).In B) (T : Top p loose mean mg mb B)
   (ho : B.get? fw = some (kla_obj (Str.ofString "<lambda>") qual (lamP q1 q2) (.Call (.Name (Str.ofString "expressions") p1) [.Name (Str.ofString "row") p2, .Name (Str.ofString "at") p3] [] p4) (lamS (Str.ofString "expressions")) [] pm c' ctv)) (hc : B.get? c' = some oc) (hcd : oc.data = .fields vs) (hcv : vs[1]? = some (.str qual t))
   (W : WorkAtD 805 8910 w B 181 l k e ok d) : WorkAt w B fw l k e ok d := by
  unfold WorkAt
  revert X; k_fill; intro X
  intro B2 outer2 dp2 un2 gd2 s2 Q2 E2 tk2 hb hB hF hD hU ret err
  have X2 := X.keeps hb
  have T2 := T.keeps hb
  (k_dflt (refine' lam_enter (K := kfrag.heap_1 w.params) (binds := [(Str.ofString "row", .ref l), (Str.ofString "at", .int (k : Int) tk2)]) T2 ?r (hb _ _ ho) ⟨c', oc, vs, t, rfl, hb _ _ hc, hcd, hcv⟩ ?b ?l ?_ ?c2 ?c3 ?c4 ?c5; (case r => simp only [recursionLimit]; omega); (case b => exact rfl); (case l => exact locs rfl); (case c2 => exact rfl); (case c3 => exact rfl); (case c4 => exact rfl); (case c5 => decide)))
  intro L h₁ tk0 F N
  (try dsimp only [lamS])
  (try k_fold)
  k_steps
  (with_reducible rename Fr _ _ _ _ => kF); (with_reducible rename News _ _ _ _ => kN)
  refine W (B2 := B2) (fun b o z => kF.keep _ _ (hb _ _ z)) (fun b o z => kF.keep _ _ (hB _ _ z)) (frames_push kF hB hF rfl (fun z => nomatch z)) (by walk_at "down") (by walk_at "down") (fun ho h' tk' q n v u tl K' hd => ?_) (fun ho h' tk' x dd u tk3 fly up ns => ?_)
  · exact ret ho _ _ q n v u tl (newIn_of (fr_on kF K'.1) (news_in kF kN K') fun p hp => List.mem_append.mpr (.inl hp)) hd
  · refine leaveD (B := B2) rfl rfl fly ?_
    intro h3 f3 u3
    exact err ho _ _ x dd _ _ f3 (((Heap.UpToSlots.of_keeps kF.keep).trans up).trans u3) (u3.ns ns)
end
section -- T4
open PySem PySem.W PyProof.Rows PySem.Calls PySem.Spec
variable {w : World} {p : Program} {loose : List Str} {mean : ExcName → Option Value} {mg mb : Str → Option Value} {dp un : Nat} {fr : Option (List Env)} {gd : Option (List Code)} {s : Shared} {Q E : Value → Shared → Prop}
theorem kqd_toks {TS : List Tk} (h : TS.all okT = true) : kqdOk 8 (.list (TS.map tkD)) = true := by
  rw [kqdOk, List.all_map, List.all_eq_true]
  intro t ht
  have := List.all_eq_true.mp h t ht
  simp only [okT, Bool.and_eq_true] at this
  simp [kqdOk, tkD, this.1, this.2]
section
variable {prog : Program} {A' : Around} {g : Heap} {L : Addr} {m : Str → Option Value} {news : List (Addr × Obj)}
theorem tr_tokens {al b sd P : Addr} {av ys : List Value} {n2 : Nat} {oS oP : Obj} {tlx : List (Addr × Obj)} {es : List Dat} (F : Fr g L s.heap m) (N : News g L s.heap news) (ha : g.IsList al av.toArray) (hav : av.length ≤ 3) (hb : (b, PySem.W.listOf ys.toArray n2) ∈ news) (hd : DatAll tlx ys es) (hel : es.length ≤ 3)
   (hx : ∀ p ∈ tlx, p ∈ news) (hxs : ∀ p ∈ tlx, p.1 ≠ sd) (hxP : ∀ p ∈ tlx, p.1 ≠ P) (hxd : ∀ p ∈ tlx, ∀ es n, p.2.data ≠ .dict es n) (hS : (sd, oS) ∈ news) (hP : (P, oP) ∈ news)
   (h : ∀ D h' tl, Fr g L h' m → News g L h' ((D, PySem.W.listOf (av ++ ys).toArray 0) :: (sd, oS) :: (P, oP) :: tl) → DatAll tl ys es → ys.length ≤ 3 → (∀ p ∈ tl, p.1 ≠ sd) → (∀ p ∈ tl, p.1 ≠ P) → (∀ p ∈ tl, ∀ es n, p.2.data ≠ .dict es n) → @LT.lt Nat _ sd D → @LT.lt Nat _ P D → Q (.ref D) { s with heap := h' }) :
   wpAny (model prog w) A' (binaryOp .Add (.ref al) (.ref b)) Q E s := by
  have hyl : ys.length ≤ 3 := by rw [datAll_len hd]; exact hel
  refine add_base F N ha hb (by omega) fun D h' F' N' lt => h D h' tlx F' (fun p hp => ?_) hd hyl hxs hxP hxd (lt _ hS) (lt _ hP)
  rcases List.mem_cons.mp hp with rfl | hp
  · exact N' _ (.head _)
  rcases List.mem_cons.mp hp with rfl | hp
  · exact N' _ (.tail _ hS)
  rcases List.mem_cons.mp hp with rfl | hp
  · exact N' _ (.tail _ hP)
  exact N' _ (.tail _ (hx p hp))
end
theorem heard_T {B g : Heap} {L fw l c' : Addr} {k e : Nat} {ok : Bool} {d : Dat} {TS : List Tk} {m : Str → Option Value} {news : List (Addr × Obj)} {outer : List Env} {env : Env} {tk : Tok} {qual : Str} {q1 q2 p1 p2 p3 p4 : Pos} {pm ctv : Value} {oc : Obj} {cvs : Array Value} {t : Tok}
   (X : (kfrag.heap_1 w.params).In B) (T : Top p loose mean mg mb B) (F : Fr g L s.heap m) (N : News g L s.heap news) (hO : Outs B g outer) (hBg : B.StaysIn g) (hf : env.frame = some L) (hk : env.scope.kind = .function) (hd : ∀ p ∈ news, ∀ es n, p.2.data ≠ .dict es n)
   (hl : HasD s.heap (.ref l) (.list (TS.map tkD))) (hok : TS.all okT = true) (htn : TS.length < 1000)
   (hfw : s.heap.get? fw = some (kla_obj (Str.ofString "<lambda>") qual (lamP q1 q2) (.Call (.Name (Str.ofString "target") p1) [.Name (Str.ofString "row") p2, .Name (Str.ofString "at") p3] [] p4) (lamS (Str.ofString "target")) [] pm c' ctv)) (hc : s.heap.get? c' = some oc) (hcd : oc.data = .fields cvs) (hcv : cvs[1]? = some (.str qual t))
   (hw : ∀ (B2 : Heap) (vs : List Value), (kfrag.heap_1 w.params).In B2 → Top p loose mean mg mb B2 → B2.IsList l vs.toArray → vs.length < 1000 → (∀ k, TokAt B2 vs k (look TS k)) → WorkAtD 805 8910 w B2 188 l k e ok d) (hD : dp < 790) (hU : un < 8890)
   (ret : ∀ g2 h' tk' q tl, B.StaysIn g2 → Outs B g2 outer → Fr g2 L h' m → News g2 L h' (tl ++ news) → (∀ p ∈ tl, isSeq p = true) → DatIn tl (.ref q) (.tuple [bif ok then d else .str (Str.ofString "SN"), .int (e : Int)]) →
     (∀ b o, g.get? b = some o → (∀ vs, o.data ≠ .fields vs) → ∃ sl, g2.get? b = some { o with slots := sl }) → Q (.ref q) { s with heap := h', toks := tk' }) :
   wpAny (model Challenge.rw_pq0141_01.row.prog w) ⟨none, dp, some (env :: outer), gd, un⟩ (call (.ref 216) [.ref fw, .ref l, .int (k : Int) tk]) Q E s := by
  refine heard_use X T F N hO hBg hf hk hd hl ⟨_, _, hfw, rfl⟩ (kqd_toks hok) (by rw [List.length_map]; exact htn) (fun B2 st into => ?_) hD hU ret
  have X2 := X.keeps st
  have T2 := T.keeps st
  obtain ⟨_, vs, n, hr, hlo, hva⟩ := (hl.into into).list_inv
  cases hr
  intro B3 o3 d3 u3 g3 s3 Q3 E3 t3 a1 a2 a3 a4 a5 a6 a7
  exact lam_T X2 T2 (into _ _ hfw fun _ _ z => nomatch z) (into _ _ hc fun _ _ z => by rw [hcd] at z; cases z) hcd hcv (hw B2 vs X2 T2 ⟨_, hlo, rfl, _, rfl⟩ (by rw [hva.length, List.length_map]; exact htn) (tokAt_of X2 hva hok)) a1 a2 a3 a4 a5 a6 a7
theorem row3_open {tl : List (Addr × Obj)} {q : Addr} {ds es : List Dat} {d : Dat} (h : DatIn tl (.ref q) (.tuple [.list ds, .list es, d])) : ∃ ml ws n1 n2 tv wv, (q, tupOf [.ref ml, tv, wv] n1) ∈ tl ∧ (ml, PySem.W.listOf ws.toArray n2) ∈ tl ∧ DatAll tl ws ds ∧ DatIn tl tv (.list es) ∧ DatIn tl wv d := by
  cases h with
  | tuple hm r =>
    cases r with
    | cons a r2 =>
      cases a with
      | list hl ra =>
        cases r2 with
        | cons b r3 =>
          cases r3 with
          | cons c r4 => cases r4; exact ⟨_, _, _, _, _, _, hm, hl, ra, b, c⟩
/-- the ledger behind _law_row: what it has made, laid open -/
theorem row_take {g h h' : Heap} {L x D sd P q : Addr} {ox oD oS oS' oP : Obj} {m : Str → Option Value} {tl tl3 : List (Addr × Obj)} {ds es : List Dat} {d : Dat}
   (F : Fr g L h m) (N : News g L h ((x, ox) :: (D, oD) :: (sd, oS) :: (P, oP) :: tl)) (M : Mu h h' [sd] [(sd, oS')] tl3) (hq : DatIn tl3 (.ref q) (.tuple [.list ds, .list es, d])) (hx : x ≠ sd) (hD : D ≠ sd) (hP : P ≠ sd) (hs : ∀ p ∈ tl, p.1 ≠ sd) (hPt : ∀ p ∈ tl, p.1 ≠ P) (nd : ∀ p ∈ tl, ∀ es n, p.2.data ≠ .dict es n) :
   ∃ ml ws n1 n2 tv wv tl4, Fr g L h' m ∧ News g L h' ((q, tupOf [.ref ml, tv, wv] n1) :: (ml, PySem.W.listOf ws.toArray n2) :: (D, oD) :: (sd, oS') :: (P, oP) :: (tl4 ++ tl)) ∧ DatAll tl4 ws ds ∧ DatIn tl4 tv (.list es) ∧ DatIn tl4 wv d ∧
     (∀ p ∈ tl4 ++ tl, p.1 ≠ sd) ∧ (∀ p ∈ tl4 ++ tl, p.1 ≠ P) ∧ (∀ p ∈ tl4 ++ tl, ∀ es n, p.2.data ≠ .dict es n) ∧ sd ≠ q ∧ sd ≠ ml ∧ P ≠ q ∧ P ≠ ml := by
  have hq' := datIn_seq hq
  obtain ⟨ml, ws, n1, n2, tv, wv, h1, h2, h3, h4, h5⟩ := row3_open hq'
  have ne := mu_ne N M
  have ms : ∀ {p}, p ∈ tl3.filter isSeq → p ∈ tl3 := fun hp => (List.mem_filter.mp hp).1
  have hk : ∀ a ∈ [sd], ∃ o, (a, o) ∈ ((x, ox) :: (D, oD) :: (sd, oS) :: (P, oP) :: tl) := fun a ha => by rw [List.mem_singleton.mp ha]; exact ⟨_, .tail _ (.tail _ (.head _))⟩
  have F' := fr_mu F N M hk
  have N' : News g L h' (tl3 ++ ((x, ox) :: (D, oD) :: (sd, oS') :: (P, oP) :: tl)) :=
    news_mu1 (o := oS) F N (Upd.tail hx (Upd.tail hD (Upd.head (List.forall_mem_cons.mpr ⟨hP, hs⟩)))) M
  have inS : (sd, oS) ∈ ((x, ox) :: (D, oD) :: (sd, oS) :: (P, oP) :: tl) := .tail _ (.tail _ (.head _))
  have inP : (P, oP) ∈ ((x, ox) :: (D, oD) :: (sd, oS) :: (P, oP) :: tl) := .tail _ (.tail _ (.tail _ (.head _)))
  refine ⟨ml, ws, n1, n2, tv, wv, tl3.filter isSeq, F', fun p hp => N' p ?_, h3, h4, h5, ?_, ?_, ?_, ne _ (ms h1) _ inS, ne _ (ms h2) _ inS, ne _ (ms h1) _ inP, ne _ (ms h2) _ inP⟩
  · rcases List.mem_cons.mp hp with rfl | hp
    · exact List.mem_append.mpr (.inl (ms h1))
    rcases List.mem_cons.mp hp with rfl | hp
    · exact List.mem_append.mpr (.inl (ms h2))
    rcases List.mem_cons.mp hp with rfl | hp
    · exact List.mem_append.mpr (.inr (.tail _ (.head _)))
    rcases List.mem_cons.mp hp with rfl | hp
    · exact List.mem_append.mpr (.inr (.tail _ (.tail _ (.head _))))
    rcases List.mem_cons.mp hp with rfl | hp
    · exact List.mem_append.mpr (.inr (.tail _ (.tail _ (.tail _ (.head _)))))
    rcases List.mem_append.mp hp with hp | hp
    · exact List.mem_append.mpr (.inl (ms hp))
    · exact List.mem_append.mpr (.inr (.tail _ (.tail _ (.tail _ (.tail _ hp)))))
  · intro p hp
    rcases List.mem_append.mp hp with hp | hp
    · exact (ne _ (ms hp) _ inS).symm
    · exact hs p hp
  · intro p hp
    rcases List.mem_append.mp hp with hp | hp
    · exact (ne _ (ms hp) _ inP).symm
    · exact hPt p hp
  · intro p hp
    rcases List.mem_append.mp hp with hp | hp
    · exact isSeq_no (List.mem_filter.mp hp).2
    · exact nd p hp
def closers : List Tk := [(Str.ofString "sign", Str.ofString ")"), (Str.ofString "sign", Str.ofString ";"), (Str.ofString "word", Str.ofString "THEN")]
theorem closer_of {g h9 : Heap} {L : Addr} {news : List (Addr × Obj)} (_N : News g L h9 news) {v : Value} {c1 c2 c3 : Addr} {t1 t2 t3 t4 t5 t6 : Tok} (h : v ∈ [Value.ref c1, .ref c2, .ref c3]) (m1 : (c1, tupOf [.str (Str.ofString "sign") t1, .str (Str.ofString ")") t2] 0) ∈ news) (m2 : (c2, tupOf [.str (Str.ofString "sign") t3, .str (Str.ofString ";") t4] 0) ∈ news) (m3 : (c3, tupOf [.str (Str.ofString "word") t5, .str (Str.ofString "THEN") t6] 0) ∈ news) {P : Addr} (n1 : c1 ≠ P) (n2 : c2 ≠ P) (n3 : c3 ≠ P) :
    ∃ Dc kd td u1 u2, v = .ref Dc ∧ (Dc, tupOf [.str kd u1, .str td u2] 0) ∈ news ∧ (kd, td) ∈ closers ∧ Dc ≠ P := by
  simp only [List.mem_cons, List.not_mem_nil, or_false] at h
  rcases h with rfl | rfl | rfl
  · exact ⟨_, _, _, _, _, rfl, m1, by simp [closers], n1⟩
  · exact ⟨_, _, _, _, _, rfl, m2, by simp [closers], n2⟩
  · exact ⟨_, _, _, _, _, rfl, m3, by simp [closers], n3⟩
theorem pickC {g h : Heap} {L : Addr} {tl : List (Addr × Obj)} {c a1 a2 a3 a4 q ml D sd P : Addr × Obj} (N : News g L h (a1 :: a2 :: a3 :: a4 :: q :: ml :: D :: sd :: P :: tl)) (hm : c ∈ (a1 :: a2 :: a3 :: a4 :: q :: ml :: D :: sd :: P :: tl)) : News g L h (c :: ml :: D :: sd :: P :: tl) :=
  List.forall_mem_cons.mpr ⟨N _ hm, fun p hp => N p (.tail _ (.tail _ (.tail _ (.tail _ (.tail _ hp)))))⟩
theorem RowR.len {mn : Nat} {ts : List Tk} {trs : List Dat} {wr : Option Nat} (r : RowR mn ts trs wr) : ts.length ≤ 4 * mn ∧ trs.length ≤ mn := by
  rcases r with ⟨b, _⟩ | ⟨i, ts0, hi, b, rfl, _⟩
  · have := b.len; omega
  · have := b.len
    have := sep_len i
    rw [List.length_append]; omega
theorem sep_ok (i : Nat) : (sep i).all okT = true := by unfold sep; split <;> decide +kernel
theorem form_ok (f : Nat) : (formToks f).all okT = true := by unfold formToks; split <;> decide +kernel
theorem RowB.ok : ∀ {i : Nat} {ts : List Tk} {trs : List Dat}, RowB i ts trs → ts.all okT = true
  | _, _, _, .nil => rfl
  | _, _, _, .snoc (i := i) (f := f) r _ => by rw [List.all_append, List.all_append, r.ok, sep_ok, form_ok]; rfl
theorem RowR.ok {mn : Nat} {ts : List Tk} {trs : List Dat} {wr : Option Nat} (r : RowR mn ts trs wr) : ts.all okT = true := by
  rcases r with ⟨b, _⟩ | ⟨i, ts0, hi, b, rfl, _⟩
  · exact b.ok
  · rw [List.all_append, b.ok, sep_ok]; rfl
theorem RowR.wrong {mn kk : Nat} {ts : List Tk} {trs : List Dat} (r : RowR mn ts trs (some kk)) : kk = ts.length := by
  rcases r with ⟨_, h⟩ | ⟨_, _, _, _, _, h⟩
  · cases h
  · exact Option.some.inj h
theorem closer_end {c : Tk} (h : c ∈ closers) : c.2 ∈ SEVT ∧ c ≠ comma ∧ c ≠ opener ∧ c ∈ badT ∧ okT c = true := by
  simp only [closers, List.mem_cons, List.not_mem_nil, or_false] at h
  rcases h with rfl | rfl | rfl <;> exact ⟨by decide +kernel, by decide +kernel, by decide +kernel, by decide +kernel, by decide +kernel⟩
theorem closer_two {kd td : Str} (h : (kd, td) ∈ closers) : (kd = Str.ofString "sign" ∧ td = Str.ofString ")") ∨ ((kd, td) ≠ (Str.ofString "sign", Str.ofString ")") ∧ (td == Str.ofString ")") = false) := by
  simp only [closers, List.mem_cons, List.not_mem_nil, or_false, Prod.mk.injEq] at h
  rcases h with ⟨rfl, rfl⟩ | ⟨rfl, rfl⟩ | ⟨rfl, rfl⟩
  · exact .inl ⟨rfl, rfl⟩
  · exact .inr ⟨by decide +kernel, by decide +kernel⟩
  · exact .inr ⟨by decide +kernel, by decide +kernel⟩
theorem form_tree_ok (f : Nat) : kqdOk 4 (formTree f) = true := by unfold formTree; split <;> (simp only [kqdOk, List.all_cons, List.all_nil, Bool.and_true]; decide +kernel)
theorem RowB.trees : ∀ {i : Nat} {ts : List Tk} {trs : List Dat}, RowB i ts trs → trs.all (kqdOk 4) = true
  | _, _, _, .nil => rfl
  | _, _, _, .snoc (f := f) r _ => by rw [List.all_append, r.trees]; simp only [List.all_cons, List.all_nil, form_tree_ok]; rfl
theorem RowR.trees {mn : Nat} {ts : List Tk} {trs : List Dat} {wr : Option Nat} (r : RowR mn ts trs wr) : trs.all (kqdOk 4) = true := by
  rcases r with ⟨b, _⟩ | ⟨i, ts0, hi, b, rfl, _⟩ <;> exact b.trees
theorem kqd_mono : ∀ (n k : Nat) (d : Dat), n ≤ k → kqdOk n d = true → kqdOk k d = true
  | _, _, .none, _, _ => by simp [kqdOk]
  | _, _, .bool _, _, h => by simp [kqdOk] at h
  | _, _, .int _, _, _ => by simp [kqdOk]
  | _, _, .str _, _, h => by simpa [kqdOk] using h
  | n, _, .bytes _, _, h => by cases n <;> simp [kqdOk] at h
  | 0, _, .tuple _, _, h => by simp [kqdOk] at h
  | 0, _, .list _, _, h => by simp [kqdOk] at h
  | n + 1, 0, .tuple _, e, _ => by omega
  | n + 1, 0, .list _, e, _ => by omega
  | n + 1, k + 1, .tuple ds, e, h => by
    rw [kqdOk, List.all_eq_true] at h ⊢
    exact fun d hd => kqd_mono n k d (by omega) (h d hd)
  | n + 1, k + 1, .list ds, e, h => by
    rw [kqdOk, List.all_eq_true] at h ⊢
    exact fun d hd => kqd_mono n k d (by omega) (h d hd)
theorem kqd_item {word : Str} {trs : List Dat} {i : Int} (h : PyData.strOk word = true) (ht : trs.all (kqdOk 4) = true) : kqdOk 8 (.tuple [.tuple [.str (Str.ofString "item"), .str word, .list trs], .int i]) = true := by
  have hl : trs.all (kqdOk 5) = true := List.all_eq_true.mpr fun d hd => kqd_mono 4 5 d (by omega) (List.all_eq_true.mp ht d hd)
  simp only [kqdOk, List.all_cons, List.all_nil, Bool.and_true, h, hl]
  decide +kernel
theorem kqd_list {trs : List Dat} {i : Int} (ht : trs.all (kqdOk 4) = true) : kqdOk 8 (.tuple [.list trs, .int i]) = true := by
  have hl : trs.all (kqdOk 6) = true := List.all_eq_true.mpr fun d hd => kqd_mono 4 6 d (by omega) (List.all_eq_true.mp ht d hd)
  simp only [kqdOk, List.all_cons, List.all_nil, Bool.and_true, hl]
theorem sn_eq {x y : Int} (h : x = y) : Dat.tuple [.str (Str.ofString "SN"), .int x] = .tuple [.str (Str.ofString "SN"), .int y] := by rw [h]
theorem it_eq {d : Dat} {x y : Int} (h : x = y) : Dat.tuple [d, .int x] = .tuple [d, .int y] := by rw [h]
theorem pickD {g h : Heap} {L : Addr} {tl : List (Addr × Obj)} {a1 a2 a3 a4 c ml D sd P : Addr × Obj} (N : News g L h (a1 :: a2 :: a3 :: a4 :: c :: ml :: D :: sd :: P :: tl)) : News g L h (a2 :: c :: sd :: P :: tl) :=
  List.forall_mem_cons.mpr ⟨N _ (.tail _ (.head _)), List.forall_mem_cons.mpr ⟨N _ (.tail _ (.tail _ (.tail _ (.tail _ (.head _))))), fun p hp => N p (.tail _ (.tail _ (.tail _ (.tail _ (.tail _ (.tail _ (.tail _ hp))))))) ⟩⟩
end
section -- T7
open PySem PySem.W PyProof.Rows PySem.Calls PySem.Spec
variable {w : World} {p : Program} {loose : List Str} {mean : ExcName → Option Value} {mg mb : Str → Option Value} {dp un : Nat} {fr : Option (List Env)} {gd : Option (List Code)} {s : Shared} {Q E : Value → Shared → Prop}
theorem heard_X {B g : Heap} {L fw l c' : Addr} {k e : Nat} {ok : Bool} {d : Dat} {TS : List Tk} {m : Str → Option Value} {news : List (Addr × Obj)} {outer : List Env} {env : Env} {tk : Tok} {qual : Str} {q1 q2 p1 p2 p3 p4 : Pos} {pm ctv : Value} {oc : Obj} {cvs : Array Value} {t : Tok}
   (X : (kfrag.heap_1 w.params).In B) (T : Top p loose mean mg mb B) (F : Fr g L s.heap m) (N : News g L s.heap news) (hO : Outs B g outer) (hBg : B.StaysIn g) (hf : env.frame = some L) (hk : env.scope.kind = .function) (hd : ∀ p ∈ news, ∀ es n, p.2.data ≠ .dict es n)
   (hl : HasD s.heap (.ref l) (.list (TS.map tkD))) (hok : TS.all okT = true) (htn : TS.length < 1000)
   (hfw : s.heap.get? fw = some (kla_obj (Str.ofString "<lambda>") qual (lamP q1 q2) (.Call (.Name (Str.ofString "expressions") p1) [.Name (Str.ofString "row") p2, .Name (Str.ofString "at") p3] [] p4) (lamS (Str.ofString "expressions")) [] pm c' ctv)) (hc : s.heap.get? c' = some oc) (hcd : oc.data = .fields cvs) (hcv : cvs[1]? = some (.str qual t))
   (hw : ∀ (B2 : Heap) (vs : List Value), (kfrag.heap_1 w.params).In B2 → Top p loose mean mg mb B2 → B2.IsList l vs.toArray → vs.length < 1000 → (∀ k, TokAt B2 vs k (look TS k)) → WorkAtD 805 8910 w B2 181 l k e ok d) (hD : dp < 790) (hU : un < 8890)
   (ret : ∀ g2 h' tk' q tl, B.StaysIn g2 → Outs B g2 outer → Fr g2 L h' m → News g2 L h' (tl ++ news) → (∀ p ∈ tl, isSeq p = true) → DatIn tl (.ref q) (.tuple [bif ok then d else .str (Str.ofString "SN"), .int (e : Int)]) →
     (∀ b o, g.get? b = some o → (∀ vs, o.data ≠ .fields vs) → ∃ sl, g2.get? b = some { o with slots := sl }) → Q (.ref q) { s with heap := h', toks := tk' }) :
   wpAny (model Challenge.rw_pq0141_01.row.prog w) ⟨none, dp, some (env :: outer), gd, un⟩ (call (.ref 216) [.ref fw, .ref l, .int (k : Int) tk]) Q E s := by
  refine heard_use X T F N hO hBg hf hk hd hl ⟨_, _, hfw, rfl⟩ (kqd_toks hok) (by rw [List.length_map]; exact htn) (fun B2 st into => ?_) hD hU ret
  have X2 := X.keeps st
  have T2 := T.keeps st
  obtain ⟨_, vs, n, hr, hlo, hva⟩ := (hl.into into).list_inv
  cases hr
  intro B3 o3 d3 u3 g3 s3 Q3 E3 t3 a1 a2 a3 a4 a5 a6 a7
  exact lam_X X2 T2 (into _ _ hfw fun _ _ z => nomatch z) (into _ _ hc fun _ _ z => by rw [hcd] at z; cases z) hcd hcv (hw B2 vs X2 T2 ⟨_, hlo, rfl, _, rfl⟩ (by rw [hva.length, List.length_map]; exact htn) (tokAt_of X2 hva hok)) a1 a2 a3 a4 a5 a6 a7
abbrev textT : Tk := (Str.ofString "text", Str.ofString "t")
def behinds : List (List Tk) := [[], [(Str.ofString "sign", Str.ofString ";")], [(Str.ofString "sign", Str.ofString ")")], [(Str.ofString "word", Str.ofString "ELSE")], [textT]]
theorem behind_of {g h9 : Heap} {L : Addr} {news : List (Addr × Obj)} (_N : News g L h9 news) {v : Value} {b1 b2 b3 b4 b5 c2 c3 c4 c5 : Addr} {t1 t2 t3 t4 t5 t6 t7 t8 : Tok} (h : v ∈ [Value.ref b1, .ref b2, .ref b3, .ref b4, .ref b5])
   (m1 : (b1, PySem.W.listOf (List.toArray []) 0) ∈ news) (m2 : (b2, PySem.W.listOf [Value.ref c2].toArray 0) ∈ news) (m3 : (b3, PySem.W.listOf [Value.ref c3].toArray 0) ∈ news) (m4 : (b4, PySem.W.listOf [Value.ref c4].toArray 0) ∈ news) (m5 : (b5, PySem.W.listOf [Value.ref c5].toArray 0) ∈ news)
   (k2 : (c2, tupOf [.str (Str.ofString "sign") t1, .str (Str.ofString ";") t2] 0) ∈ news) (k3 : (c3, tupOf [.str (Str.ofString "sign") t3, .str (Str.ofString ")") t4] 0) ∈ news) (k4 : (c4, tupOf [.str (Str.ofString "word") t5, .str (Str.ofString "ELSE") t6] 0) ∈ news) (k5 : (c5, tupOf [.str (Str.ofString "text") t7, .str (Str.ofString "t") t8] 0) ∈ news)
   {sd P : Addr} (n1 : b1 ≠ sd ∧ b1 ≠ P) (n2 : b2 ≠ sd ∧ b2 ≠ P) (n3 : b3 ≠ sd ∧ b3 ≠ P) (n4 : b4 ≠ sd ∧ b4 ≠ P) (n5 : b5 ≠ sd ∧ b5 ≠ P) (p2 : c2 ≠ sd ∧ c2 ≠ P) (p3 : c3 ≠ sd ∧ c3 ≠ P) (p4 : c4 ≠ sd ∧ c4 ≠ P) (p5 : c5 ≠ sd ∧ c5 ≠ P) :
    ∃ bl bs b tlx, v = .ref bl ∧ (bl, PySem.W.listOf bs.toArray 0) ∈ news ∧ b ∈ behinds ∧ DatAll tlx bs (b.map tkD) ∧ (∀ p ∈ tlx, p ∈ news) ∧ (∀ p ∈ tlx, p.1 ≠ sd) ∧ (∀ p ∈ tlx, p.1 ≠ P) ∧ (∀ p ∈ tlx, ∀ es n, p.2.data ≠ .dict es n) ∧ bl ≠ sd ∧ bl ≠ P := by
  have one : ∀ {c : Addr} {a b : Str} {u1 u2 : Tok}, DatAll [(c, tupOf [.str a u1, .str b u2] 0)] [.ref c] [tkD (a, b)] := .cons (.tuple (vs := [_, _]) (n := 0) (.head _) (.cons (.str _ _) (.cons (.str _ _) .nil))) .nil
  simp only [List.mem_cons, List.not_mem_nil, or_false] at h
  rcases h with rfl | rfl | rfl | rfl | rfl
  · exact ⟨_, [], [], [], rfl, m1, by simp [behinds], .nil, List.forall_mem_nil _, List.forall_mem_nil _, List.forall_mem_nil _, List.forall_mem_nil _, n1⟩
  · exact ⟨_, _, [(Str.ofString "sign", Str.ofString ";")], _, rfl, m2, by simp [behinds], one, List.forall_mem_cons.mpr ⟨k2, List.forall_mem_nil _⟩, List.forall_mem_cons.mpr ⟨p2.1, List.forall_mem_nil _⟩, List.forall_mem_cons.mpr ⟨p2.2, List.forall_mem_nil _⟩, List.forall_mem_cons.mpr ⟨fun _ _ z => (nomatch z), List.forall_mem_nil _⟩, n2⟩
  · exact ⟨_, _, [(Str.ofString "sign", Str.ofString ")")], _, rfl, m3, by simp [behinds], one, List.forall_mem_cons.mpr ⟨k3, List.forall_mem_nil _⟩, List.forall_mem_cons.mpr ⟨p3.1, List.forall_mem_nil _⟩, List.forall_mem_cons.mpr ⟨p3.2, List.forall_mem_nil _⟩, List.forall_mem_cons.mpr ⟨fun _ _ z => (nomatch z), List.forall_mem_nil _⟩, n3⟩
  · exact ⟨_, _, [(Str.ofString "word", Str.ofString "ELSE")], _, rfl, m4, by simp [behinds], one, List.forall_mem_cons.mpr ⟨k4, List.forall_mem_nil _⟩, List.forall_mem_cons.mpr ⟨p4.1, List.forall_mem_nil _⟩, List.forall_mem_cons.mpr ⟨p4.2, List.forall_mem_nil _⟩, List.forall_mem_cons.mpr ⟨fun _ _ z => (nomatch z), List.forall_mem_nil _⟩, n4⟩
  · exact ⟨_, _, [textT], _, rfl, m5, by simp [behinds], one, List.forall_mem_cons.mpr ⟨k5, List.forall_mem_nil _⟩, List.forall_mem_cons.mpr ⟨p5.1, List.forall_mem_nil _⟩, List.forall_mem_cons.mpr ⟨p5.2, List.forall_mem_nil _⟩, List.forall_mem_cons.mpr ⟨fun _ _ z => (nomatch z), List.forall_mem_nil _⟩, n5⟩
theorem behind_end {b : List Tk} (h : b ∈ behinds) : b.length ≤ 1 ∧ b.all okT = true ∧ RowEnd true b ∧ (b = [textT] ∨ (b ≠ [textT] ∧ RowEnd false b)) := by
  simp only [behinds, List.mem_cons, List.not_mem_nil, or_false] at h
  have a1 : textT ≠ (Str.ofString "sign", Str.ofString ";") := by decide +kernel
  rcases h with rfl | rfl | rfl | rfl | rfl
  · exact ⟨by simp, by decide +kernel, .inl ⟨rfl, by decide +kernel, by decide +kernel, by decide +kernel⟩, .inr ⟨by simp, .inr ⟨rfl, by decide +kernel, by decide +kernel⟩⟩⟩
  · exact ⟨by simp, by decide +kernel, .inl ⟨rfl, by decide +kernel, by decide +kernel, by decide +kernel⟩, .inr ⟨by decide +kernel, .inr ⟨rfl, by decide +kernel, by decide +kernel⟩⟩⟩
  · exact ⟨by simp, by decide +kernel, .inl ⟨rfl, by decide +kernel, by decide +kernel, by decide +kernel⟩, .inr ⟨by decide +kernel, .inr ⟨rfl, by decide +kernel, by decide +kernel⟩⟩⟩
  · exact ⟨by simp, by decide +kernel, .inl ⟨rfl, by decide +kernel, by decide +kernel, by decide +kernel⟩, .inr ⟨by decide +kernel, .inr ⟨rfl, by decide +kernel, by decide +kernel⟩⟩⟩
  · exact ⟨by simp, by decide +kernel, .inl ⟨rfl, by decide +kernel, by decide +kernel, by decide +kernel⟩, .inl rfl⟩
theorem end_false : RowEnd false [] := .inr ⟨rfl, by decide +kernel, by decide +kernel⟩
theorem tk_inj {a b : List Tk} (h : Dat.list (a.map tkD) = .list (b.map tkD)) : a = b := by
  have h' := Dat.list.inj h
  clear h
  induction a generalizing b with
  | nil => cases b with
    | nil => rfl
    | cons y b => simp at h'
  | cons x a ih => cases b with
    | nil => simp at h'
    | cons y b =>
      simp only [List.map_cons, List.cons.injEq, tkD, Dat.tuple.injEq, Dat.str.injEq, and_true] at h'
      obtain ⟨⟨h1, h2⟩, h3⟩ := h'
      rw [ih h3, Prod.ext h1 h2]
theorem row_take0 {g h h' : Heap} {L sd P q : Addr} {oS oS' oP : Obj} {m : Str → Option Value} {tl3 : List (Addr × Obj)} {ds es : List Dat} {d : Dat}
   (F : Fr g L h m) (N : News g L h ((sd, oS) :: (P, oP) :: [])) (M : Mu h h' [sd] [(sd, oS')] tl3) (hq : DatIn tl3 (.ref q) (.tuple [.list ds, .list es, d])) (hP : P ≠ sd) :
   ∃ ml ws n1 n2 tv wv tl4, Fr g L h' m ∧ News g L h' ((q, tupOf [.ref ml, tv, wv] n1) :: (ml, PySem.W.listOf ws.toArray n2) :: (sd, oS') :: (P, oP) :: tl4) ∧ DatAll tl4 ws ds ∧ DatIn tl4 tv (.list es) ∧ DatIn tl4 wv d ∧
     (∀ p ∈ tl4, p.1 ≠ sd) ∧ (∀ p ∈ tl4, p.1 ≠ P) ∧ (∀ p ∈ tl4, ∀ es n, p.2.data ≠ .dict es n) ∧ sd ≠ q ∧ sd ≠ ml ∧ P ≠ q ∧ P ≠ ml := by
  have hq' := datIn_seq hq
  obtain ⟨ml, ws, n1, n2, tv, wv, h1, h2, h3, h4, h5⟩ := row3_open hq'
  have ne := mu_ne N M
  have ms : ∀ {p}, p ∈ tl3.filter isSeq → p ∈ tl3 := fun hp => (List.mem_filter.mp hp).1
  have hk : ∀ a ∈ [sd], ∃ o, (a, o) ∈ ((sd, oS) :: (P, oP) :: []) := fun a ha => by rw [List.mem_singleton.mp ha]; exact ⟨_, .head _⟩
  have F' := fr_mu F N M hk
  have N' : News g L h' (tl3 ++ ((sd, oS') :: (P, oP) :: [])) := news_mu1 (o := oS) F N (Upd.head (List.forall_mem_cons.mpr ⟨hP, List.forall_mem_nil _⟩)) M
  refine ⟨ml, ws, n1, n2, tv, wv, tl3.filter isSeq, F', fun p hp => N' p ?_, h3, h4, h5, ?_, ?_, ?_, ne _ (ms h1) _ (.head _), ne _ (ms h2) _ (.head _), ne _ (ms h1) _ (.tail _ (.head _)), ne _ (ms h2) _ (.tail _ (.head _))⟩
  · rcases List.mem_cons.mp hp with rfl | hp
    · exact List.mem_append.mpr (.inl (ms h1))
    rcases List.mem_cons.mp hp with rfl | hp
    · exact List.mem_append.mpr (.inl (ms h2))
    rcases List.mem_cons.mp hp with rfl | hp
    · exact List.mem_append.mpr (.inr (.head _))
    rcases List.mem_cons.mp hp with rfl | hp
    · exact List.mem_append.mpr (.inr (.tail _ (.head _)))
    exact List.mem_append.mpr (.inl (ms hp))
  · exact fun p hp => (ne _ (ms hp) _ (.head _)).symm
  · exact fun p hp => (ne _ (ms hp) _ (.tail _ (.head _))).symm
  · exact fun p hp => isSeq_no (List.mem_filter.mp hp).2
theorem pickE {g h : Heap} {L : Addr} {tl tlx : List (Addr × Obj)} {bl a1 a2 a3 a4 a5 a6 a7 a8 a9 a10 a11 ml sd P : Addr × Obj} (N : News g L h (a1 :: a2 :: a3 :: a4 :: a5 :: a6 :: a7 :: a8 :: a9 :: a10 :: a11 :: ml :: sd :: P :: tl)) (hb : bl ∈ (a1 :: a2 :: a3 :: a4 :: a5 :: a6 :: a7 :: a8 :: a9 :: a10 :: a11 :: ml :: sd :: P :: tl)) (hx : ∀ p ∈ tlx, p ∈ (a1 :: a2 :: a3 :: a4 :: a5 :: a6 :: a7 :: a8 :: a9 :: a10 :: a11 :: ml :: sd :: P :: tl)) : News g L h (bl :: ml :: sd :: P :: (tlx ++ tl)) := by
  have k : ∀ q ∈ ml :: sd :: P :: tl, q ∈ (a1 :: a2 :: a3 :: a4 :: a5 :: a6 :: a7 :: a8 :: a9 :: a10 :: a11 :: ml :: sd :: P :: tl) := fun q hq => by (iterate 11 (refine List.Mem.tail _ ?_)); exact hq
  intro q hq
  rcases List.mem_cons.mp hq with rfl | hq
  · exact N _ hb
  rcases List.mem_cons.mp hq with rfl | hq
  · exact N _ (k _ (.head _))
  rcases List.mem_cons.mp hq with rfl | hq
  · exact N _ (k _ (.tail _ (.head _)))
  rcases List.mem_cons.mp hq with rfl | hq
  · exact N _ (k _ (.tail _ (.tail _ (.head _))))
  rcases List.mem_append.mp hq with hq | hq
  · exact N _ (hx q hq)
  · exact N _ (k _ (.tail _ (.tail _ (.tail _ hq))))
theorem all_app {α : Type} {P : α → Prop} {a b : List α} (x : ∀ p ∈ a, P p) (y : ∀ p ∈ b, P p) : ∀ p ∈ a ++ b, P p := fun p hp => (List.mem_append.mp hp).elim (x p) (y p)
end
section -- T4m
open PySem PySem.W PyProof.Rows PySem.Calls PySem.Spec
variable {w : World} {p : Program} {loose : List Str} {mean : ExcName → Option Value} {mg mb : Str → Option Value} {dp un : Nat} {fr : Option (List Env)} {gd : Option (List Code)} {s : Shared} {Q E : Value → Shared → Prop}
theorem nd_fields {o : Obj} {vs : Array Value} (h : o.data = .fields vs) : ∀ es n, o.data ≠ .dict es n := fun _ _ z => by rw [h] at z; cases z
theorem kqd_sn {i : Int} : kqdOk 8 (.tuple [.str (Str.ofString "SN"), .int i]) = true := by
  simp only [kqdOk, List.all_cons, List.all_nil, Bool.and_true]
  decide +kernel
theorem two_no {b sd P : Addr} {o1 o2 : Obj} (h1 : b ≠ sd) (h2 : b ≠ P) : b ∉ List.map (fun (x : Addr × Obj) => x.1) [(sd, o1), (P, o2)] := by simp [h1, h2]
theorem wp_halt {M : Model} {α : Type} {A' : Around} {t : Sem α} {Q : α → Shared → Prop} (h : Halt (wpAny M A' t Q E s)) : wpAny M A' t Q E s := h
theorem wp_unhalt {M : Model} {α : Type} {A' : Around} {t : Sem α} {Q : α → Shared → Prop} (h : wpAny M A' t Q E s) : Halt (wpAny M A' t Q E s) := h
theorem pick4 {g h : Heap} {L : Addr} {tl5 tl : List (Addr × Obj)} {a1 a2 a3 a4 a5 d i x D sd P : Addr × Obj} (N : News g L h (tl5 ++ a1 :: a2 :: a3 :: a4 :: a5 :: d :: i :: x :: D :: sd :: P :: tl)) : News g L h (d :: i :: D :: P :: tl) := by
  have k := fun q hq => N q (List.mem_append.mpr (.inr hq))
  exact List.forall_mem_cons.mpr ⟨k _ (by (repeat (first | exact List.Mem.head _ | refine List.Mem.tail _ ?_))), List.forall_mem_cons.mpr ⟨k _ (by (repeat (first | exact List.Mem.head _ | refine List.Mem.tail _ ?_))), List.forall_mem_cons.mpr ⟨k _ (by (repeat (first | exact List.Mem.head _ | refine List.Mem.tail _ ?_))), List.forall_mem_cons.mpr ⟨k _ (by (repeat (first | exact List.Mem.head _ | refine List.Mem.tail _ ?_))), fun q hq => k q (by (repeat (first | assumption | refine List.Mem.tail _ ?_)))⟩⟩⟩⟩
theorem kqd_nm {word : Str} {i : Int} (h : PyData.strOk word = true) : kqdOk 8 (.tuple [.tuple [.str (Str.ofString "name"), .str word], .int i]) = true := by
  simp only [kqdOk, List.all_cons, List.all_nil, Bool.and_true, h]
  decide +kernel
theorem look_app {ah R : List Tk} {k : Nat} (e : k = ah.length) (j : Nat) : look (ah ++ R) (k + j) = look R j := (At.lk (TS := ah ++ R) ⟨ah, rfl, e⟩ j)
abbrev eqT : Tk := (Str.ofString "sign", Str.ofString "=")
end
local macro_rules | `(tactic| walk_at "subscriptTail") => `(tactic| (k_here; (with_reducible show wpAny _ _ (subscriptTail (PySem.Expr.List _ _) _ (Value.ref _) (Value.int _ _)) _ _ _); refine wp_halt ?_))
local macro_rules | `(tactic| walk_at "compareOp Eq ref ref") => `(tactic| (k_here; (with_reducible show wpAny _ _ (compareOp CmpOp.Eq (Value.ref _) (Value.ref _)) _ _ _); refine wp_halt ?_))
local macro_rules | `(tactic| walk_at "call ref") => `(tactic| (k_here; (with_reducible show wpAny _ _ (call (Value.ref _) _) _ _ _); refine wp_halt ?_))
local macro_rules | `(tactic| walk_at "eval Lambda") => `(tactic| (k_here; refine wp_halt ?_))
local macro_rules | `(tactic| walk_at "call builtin:len") => `(tactic| (k_here; (with_reducible show wpAny _ _ (call (Value.builtin "len") [Value.ref _]) _ _ _); k_dflt (refine' len_base ?k1 ?k2 ?k3 ?_; (case k1 => k_asm); (case k2 => assumption); (case k3 => omega); k_whole)))
local macro_rules | `(tactic| walk_at "call builtin:len") => `(tactic| (k_here; (with_reducible show wpAny _ _ (call (Value.builtin "len") [Value.ref _]) _ _ _); k_dflt (refine' len_news ?N ?a ?z ?_; (case N => k_asm); (case a => k_mem); (case z => omega); k_whole)))
local macro_rules | `(tactic| walk_at "binaryOp Add ref ref") => `(tactic| (k_here; (with_reducible show wpAny _ _ (binaryOp _ (Value.ref _) (Value.ref _)) _ _ _); refine wp_halt ?_))
section -- T5
open PySem PySem.W PyProof.Rows PySem.Calls PySem.Spec
variable {w : World} {p : Program} {loose : List Str} {mean : ExcName → Option Value} {mg mb : Str → Option Value} {dp un : Nat} {fr : Option (List Env)} {gd : Option (List Code)} {s : Shared} {Q E : Value → Shared → Prop}
set_option maxRecDepth 100000 in
set_option maxHeartbeats 8000000 in
theorem tright {hB : Heap} {sd cl : Addr} {i : Int} {u : Tok} {n : Nat} {cv : List Value} {ns : List Int} {outer : List Env} {al P : Addr} {ah : List Tk} (X : (kfrag.heap_1 w.params).In hB) (T : Top p loose mean mg mb hB) (hs0 : hB.StaysIn s.heap) (hO : Outs hB s.heap outer) (hD : dp < 780) (hU : un < 8880) (hs : s.heap.get? sd = some (PySem.W.listOf #[.ref cl, .int i u] n)) (hsB : hB.get? sd = none) (hi0 : -1 ≤ i) (hi1 : i < 20) (hc : hB.IsList cl cv.toArray) (hci : IntsAre cv ns) (hc0 : ∀ x ∈ ns, 0 ≤ x) (hcn : ns.length < 1000) (hC : CodeHd hB 222 P) (hP : s.heap.get? P = some (tabObj #[])) (hPB : hB.get? P = none) (hsP : sd ≠ P) (hah : HasD hB (.ref al) (.list (ah.map tkD))) (hahl : ah.length ≤ 3) (hahk : ah.all okT = true)
   (ret : ∀ h' tk', hB.StaysIn h' → (∀ b o, s.heap.get? b = some o → b ≠ sd → b ≠ P → (∀ vs, o.data ≠ .fields vs) → ∃ sl, h'.get? b = some { o with slots := sl }) → (∃ ps, h'.get? P = some (tabObj ps)) → Q (.bool true) { s with heap := h', toks := tk' }) :
   wpAny (model Challenge.rw_pq0141_01.row.prog w) ⟨none, dp, some outer, gd, un⟩ (call (.ref 223) [.ref sd, .ref al]) Q E s := by
  revert X; k_fill; intro X
  obtain ⟨_, av, an, har, halo, hava⟩ := hah.list_inv
  cases har
  have halb : hB.IsList al av.toArray := ⟨_, halo, rfl, _, rfl⟩
  have havn : av.length ≤ 3 := by rw [hava.length, List.length_map]; exact hahl
  have havl : av.length = ah.length := by rw [hava.length, List.length_map]
  (k_dflt (refine' fr_def (binds := [(Str.ofString "sand", .ref sd), (Str.ofString "ahead", .ref al)]) [(sd, PySem.W.listOf #[.ref cl, .int i u] n), (P, tabObj #[])] ?k3 ?k5 ?kb ?kO ?km ?k8 ?k6 ?k7 ?k9 ?kB ?_ ?c2 ?c3 ?c4 ?c5; (case k3 => assumption); (case k5 => assumption); (case kb => assumption); (case kO => assumption); (case km => exact (List.forall_mem_cons.mpr ⟨⟨hs, hsB, fun _ _ z => (nomatch z)⟩, List.forall_mem_cons.mpr ⟨⟨hP, hPB, fun _ _ z => (nomatch z)⟩, List.forall_mem_nil _⟩⟩)); (case k6 => k_is); (case k7 => k_is); (case k8 => simp only [recursionLimit]; omega); (case k9 => exact BindsTo.of_eq rfl); (case c5 => decide); (case kB => exact locs rfl); (case c2 => exact rfl); (case c3 => exact rfl); (case c4 => exact rfl)))
  intro g L h₁ tk0 hBg hgs hin Xg Tg hlt hOg F N
  (try dsimp only [List.reverse, List.reverseAux])
  (try k_fold)
  have hcg := stays_list hBg hc
  have hag := stays_list hBg halb
  have hCg := CodeHd.keeps hC hBg
  clear hs hP
  k_steps
  refine wp_unhalt ?_
  (k_dflt (refine scooped (hB := g) (m := 6) (by k_asm) (by k_asm) (Fr.keep (by k_asm)) (by walk_at "down") (by walk_at "down") (News.get (by k_asm) (by k_mem)) (News.fresh (by k_asm) (by k_mem)) (by omega) (by omega) (by assumption) hci hc0 hcn (by decide) (by decide) ?_))
  intro h' tk' r ur u' M hr0 hr1
  ((with_reducible rename Fr _ _ _ _ => zkF); (with_reducible rename News _ _ _ _ => zkN); (rename Mu _ _ _ _ _ => zkM); have zne := apart_of (mu_ne zkN zkM); k_dflt (have zN := news_mu1 zkF zkN (by k_upd) zkM); k_dflt (have zF := fr_mu1 zkF zkN (by k_upd) zkM); (try dsimp only [List.cons_append, List.nil_append] at zN); (try simp only [List.push_toArray, List.cons_append, List.nil_append] at zN); (repeat (have _ := And.left zne; replace zne := And.right zne)); clear zne zkF zkN zkM)
  k_steps
  refine wp_unhalt ?_
  k_dflt (refine item_menu (by k_asm) (by k_mem) hr0 (by simpa using hr1) (by simp) ?_)
  intro v hv
  obtain ⟨word, wt, rfl, hw⟩ := word_of hv
  clear hv
  k_steps
  refine wp_unhalt ?_
  (k_dflt (refine scooped (hB := g) (m := 4) (by k_asm) (by k_asm) (Fr.keep (by k_asm)) (by walk_at "down") (by walk_at "down") (News.get (by k_asm) (by k_mem)) (News.fresh (by k_asm) (by k_mem)) (by omega) (by omega) (by assumption) hci hc0 hcn (by decide) (by decide) ?_))
  intro h' tk' r ur u' M hr0 hr1
  ((with_reducible rename Fr _ _ _ _ => zkF); (with_reducible rename News _ _ _ _ => zkN); (rename Mu _ _ _ _ _ => zkM); have zne := apart_of (mu_ne zkN zkM); k_dflt (have zN := news_mu1 zkF zkN (by k_upd) zkM); k_dflt (have zF := fr_mu1 zkF zkN (by k_upd) zkM); (try dsimp only [List.cons_append, List.nil_append] at zN); (try simp only [List.push_toArray, List.cons_append, List.nil_append] at zN); (repeat (have _ := And.left zne; replace zne := And.right zne)); clear zne zkF zkN zkM)
  k_steps
  have hr : r = 0 ∨ r = 1 ∨ r = 2 ∨ r = 3 := by omega
  rcases hr with rfl | rfl | rfl | rfl
  · refine wp_unhalt ?_
    k_dflt (refine item_litK (News.isList (by k_asm) (by k_mem)) (by decide) (by decide) rfl ?_)
    k_steps
    refine wp_unhalt ?_
    k_dflt (refine tr_tokens (sd := sd) (P := P) (tlx := [_]) (es := [tkD (Str.ofString "number", Str.ofString "5")]) (by k_asm) (by k_asm) hag havn (by k_mem) (.cons (.tuple (.head _) (.cons (.str _ _) (.cons (.str _ _) .nil))) .nil) (by simp) (by (repeat' (first | exact List.forall_mem_nil _ | (refine List.forall_mem_cons.mpr ⟨by k_mem, ?_⟩)))) (by (repeat' (first | exact List.forall_mem_nil _ | (refine List.forall_mem_cons.mpr ⟨by k_ne, ?_⟩)))) (by (repeat' (first | exact List.forall_mem_nil _ | (refine List.forall_mem_cons.mpr ⟨by k_ne, ?_⟩)))) (by (repeat' (first | exact List.forall_mem_nil _ | (refine List.forall_mem_cons.mpr ⟨fun _ _ z => Data.noConfusion z, ?_⟩)))) (by k_mem) (by k_mem) ?_)
    (with_reducible rename Fr _ _ _ _ => kF); (with_reducible rename News _ _ _ _ => kN)
    clear kF kN
    intro D h2 tl F' N' hys hyl ns nP nd lS lP
    k_steps
    refine wp_unhalt ?_
    k_dflt (refine' kla_eval ?q1d0 ?_; (case q1d0 => exact rfl))
    (k_dflt (refine' kla_nest ?q1F ?q1N ?q1T ?q1C ?q1cd ?q1U ?q1t ?q1n ?q1cl ?_; (case q1F => k_asm); (case q1N => k_asm); (case q1T => k_asm); (case q1cd => exact rfl); (case q1C => assumption); (case q1U => k_updF); (case q1t => kn_triples); (case q1n => kn_among); (case q1cl => exact rfl)))
    (with_reducible rename Fr _ _ _ _ => kF); (with_reducible rename News _ _ _ _ => kN)
    clear kF kN
    intro fw cw ow cvs tw ctw h8 tk8 F' N' dw ew lw1 lw2
    (try dsimp only at N')
    k_lt lw1
    k_lt2 lw2
    k_steps
    refine wp_unhalt ?_
    k_dflt (refine add_any (by k_asm) (by k_asm) (by k_mem) (by k_mem) (by simp only [List.length_append, List.length_cons, List.length_nil]; omega) ?_)
    (with_reducible rename Fr _ _ _ _ => kF); (with_reducible rename News _ _ _ _ => kN)
    clear kF kN
    intro D9 h9 F' N' l9
    k_lt l9
    k_steps
    (with_reducible rename Fr _ _ _ _ => kF); (with_reducible rename News _ _ _ _ => kN)
    refine wp_unhalt ?_
    k_dflt (refine heard_T (B := hB) (g := g) (L := L) (k := av.length) (e := av.length) (ok := false) (d := .none) (TS := (ah ++ [(Str.ofString "number", Str.ofString "5")]) ++ [eqT]) X T kF kN hOg hBg rfl rfl (by (repeat' (first | assumption | exact List.forall_mem_nil _ | (refine List.forall_mem_cons.mpr ⟨fun _ _ z => Data.noConfusion z, ?_⟩) | (refine List.forall_mem_cons.mpr ⟨nd_fields (by assumption), ?_⟩)))) ?hla ?hoka ?hlena (News.get kN (by k_mem)) (News.get kN (by k_mem)) dw ew ?hwa (by walk_at "down") (by walk_at "down") ?hreta)
    case hla =>
      rw [List.map_append, List.map_append]
      exact .list (News.get kN (by k_mem)) (HasAll.append (HasAll.append (hava.keeps fun b o z => kF.keep _ _ (hBg _ _ z)) ⟨tl, fun p hp => (kN p (by (repeat (first | assumption | refine List.Mem.tail _ ?_)))).1, hys⟩) (.cons (.tuple (News.get kN (by k_mem)) (.cons (.str _ _) (.cons (.str _ _) .nil))) .nil))
    case hoka => rw [List.all_append, List.all_append, hahk]; decide +kernel
    case hlena => simp only [List.length_append, List.length_cons, List.length_nil]; omega
    case hwa =>
      intro B2 vs2 X2 T2 hl2 hn2 tok2
      have z := tok2 av.length
      rw [List.append_assoc] at z
      have e1 := look_app (R := [(Str.ofString "number", Str.ofString "5")] ++ [eqT]) havl 0
      rw [Nat.add_zero] at e1
      rw [e1] at z
      intro B3 o3 d3 u3 g3 s3 Q3 E3 t3 a1 a2 a3 a4 a5 a6 a7
      exact work_tgtR X2 T2 hl2 hn2 z (by decide +kernel) a1 a2 a3 a4 a5 a6 a7
    case hreta =>
      intro g2 h5 tk5 q5 tl5 hB5 hO5 F' N' nd5 hq5 up5
      clear kF kN
      have Xg2 := X.keeps hB5
      have Tg2 := T.keeps hB5
      clear Xg Tg
      k_steps
      (with_reducible rename Fr _ _ _ _ => kF2); (with_reducible rename News _ _ _ _ => kN2)
      refine wp_unhalt ?_
      k_dflt (refine eq_has (da := .tuple [.str (Str.ofString "SN"), .int (av.length : Int)]) (db := .tuple [.str (Str.ofString "SN"), .int (av.length : Int)]) ⟨tl5, fun p hp => (kN2 p (.tail _ (List.mem_append.mpr (.inl hp)))).1, hq5⟩ (.tuple (News.get kN2 (.head _)) (.cons (.str _ _) (.cons (.int _ _) .nil))) kqd_sn kqd_sn (by first | walk_at "rm" | ((try dsimp only [Around.deeper, Around.in1]); simp only [cLine]; omega)) true ⟨fun _ => rfl, fun _ => rfl⟩ ?_)
      refine ret _ _ (fun b o z => kF2.keep _ _ (hB5 _ _ z)) (fun b o z n1 n2 nf => ?_) ⟨_, kN2.get (.tail _ (List.mem_append.mpr (.inr (by k_mem))))⟩
      obtain ⟨sl, z2⟩ := up5 b o (hin b o z (two_no n1 n2)) nf
      exact ⟨sl, kF2.keep _ _ z2⟩
  · refine wp_unhalt ?_
    k_dflt (refine item_litK (News.isList (by k_asm) (by k_mem)) (by decide) (by decide) rfl ?_)
    k_steps
    refine wp_unhalt ?_
    k_dflt (refine tr_tokens (sd := sd) (P := P) (tlx := [_]) (es := [tkD (Str.ofString "name", word)]) (by k_asm) (by k_asm) hag havn (by k_mem) (.cons (.tuple (.head _) (.cons (.str _ _) (.cons (.str _ _) .nil))) .nil) (by simp) (by (repeat' (first | exact List.forall_mem_nil _ | (refine List.forall_mem_cons.mpr ⟨by k_mem, ?_⟩)))) (by (repeat' (first | exact List.forall_mem_nil _ | (refine List.forall_mem_cons.mpr ⟨by k_ne, ?_⟩)))) (by (repeat' (first | exact List.forall_mem_nil _ | (refine List.forall_mem_cons.mpr ⟨by k_ne, ?_⟩)))) (by (repeat' (first | exact List.forall_mem_nil _ | (refine List.forall_mem_cons.mpr ⟨fun _ _ z => Data.noConfusion z, ?_⟩)))) (by k_mem) (by k_mem) ?_)
    (with_reducible rename Fr _ _ _ _ => kF); (with_reducible rename News _ _ _ _ => kN)
    clear kF kN
    intro D h2 tl F' N' hys hyl ns nP nd lS lP
    have hwok := word_ok hw
    have hwl := word_len hw
    rcases hw with hg | hf
    · have hsl := good_slice hg
      k_steps
      rename_i Di _ ldi Dd _ ldd _ F5 N5
      refine wp_unhalt ?_
      k_dflt (refine' kla_eval ?q2d0 ?_; (case q2d0 => exact rfl))
      (k_dflt (refine' kla_nest ?q2F ?q2N ?q2T ?q2C ?q2cd ?q2U ?q2t ?q2n ?q2cl ?_; (case q2F => k_asm); (case q2N => k_asm); (case q2T => k_asm); (case q2cd => exact rfl); (case q2C => assumption); (case q2U => k_updF); (case q2t => kn_triples); (case q2n => kn_among); (case q2cl => exact rfl)))
      (with_reducible rename Fr _ _ _ _ => kF); (with_reducible rename News _ _ _ _ => kN)
      clear kF kN
      intro fw cw ow cvs tw ctw h8 tk8 F' N' dw ew lw1 lw2
      (try dsimp only at N')
      k_lt lw1
      k_lt2 lw2
      k_steps
      refine wp_unhalt ?_
      k_dflt (refine add_any (by k_asm) (by k_asm) (by k_mem) (by k_mem) (by simp only [List.length_append, List.length_cons, List.length_nil]; omega) ?_)
      (with_reducible rename Fr _ _ _ _ => kF); (with_reducible rename News _ _ _ _ => kN)
      clear kF kN
      intro D9 h9 F' N' l9
      k_lt l9
      k_steps
      (with_reducible rename Fr _ _ _ _ => kF); (with_reducible rename News _ _ _ _ => kN)
      refine wp_unhalt ?_
      k_dflt (refine heard_T (B := hB) (g := g) (L := L) (k := av.length) (e := av.length + 1) (ok := true) (d := (.tuple [.str (Str.ofString "name"), .str word])) (TS := (ah ++ [(Str.ofString "name", word)]) ++ [eqT]) X T kF kN hOg hBg rfl rfl (by (repeat' (first | assumption | exact List.forall_mem_nil _ | (refine List.forall_mem_cons.mpr ⟨fun _ _ z => Data.noConfusion z, ?_⟩) | (refine List.forall_mem_cons.mpr ⟨nd_fields (by assumption), ?_⟩)))) ?hld ?hokd ?hlend (News.get kN (by k_mem)) (News.get kN (by k_mem)) dw ew ?hwd (by walk_at "down") (by walk_at "down") ?hretd)
      case hld =>
        rw [List.map_append, List.map_append]
        exact .list (News.get kN (by k_mem)) (HasAll.append (HasAll.append (hava.keeps fun b o z => kF.keep _ _ (hBg _ _ z)) ⟨tl, fun p hp => (kN p (by (repeat (first | assumption | refine List.Mem.tail _ ?_)))).1, hys⟩) (.cons (.tuple (News.get kN (by k_mem)) (.cons (.str _ _) (.cons (.str _ _) .nil))) .nil))
      case hokd => rw [List.all_append, List.all_append, hahk]; simp only [List.all_cons, List.all_nil, okT, hwok]; decide +kernel
      case hlend => simp only [List.length_append, List.length_cons, List.length_nil]; omega
      case hwd =>
        intro B2 vs2 X2 T2 hl2 hn2 tok2
        have z0 := tok2 av.length
        have z1 := tok2 (av.length + 1)
        rw [List.append_assoc] at z0 z1
        have e0 := look_app (R := [(Str.ofString "name", word)] ++ [eqT]) havl 0
        have e1 := look_app (R := [(Str.ofString "name", word)] ++ [eqT]) havl 1
        rw [Nat.add_zero] at e0
        rw [e0] at z0
        rw [e1] at z1
        intro B3 o3 d3 u3 g3 s3 Q3 E3 t3 a1 a2 a3 a4 a5 a6 a7
        exact work_tgtN X2 T2 hl2 hn2 z0 hg z1 (by show eqT ≠ opener; decide +kernel) a1 a2 a3 a4 a5 a6 a7
      case hretd =>
        intro g2 h5 tk5 q5 tl5 hB5 hO5 F' N' sq5 hq5 up5
        clear kF kN
        have Xg2 := X.keeps hB5
        have Tg2 := T.keeps hB5
        have hCg2 := CodeHd.keeps hC hB5
        clear Xg Tg hCg
        k_steps
        (with_reducible rename Fr _ _ _ _ => kF2); (with_reducible rename News _ _ _ _ => kN2)
        refine wp_unhalt ?_
        k_dflt (refine eq_has (da := .tuple [(.tuple [.str (Str.ofString "name"), .str word]), .int ((av.length + 1 : Nat) : Int)]) (db := .tuple [(.tuple [.str (Str.ofString "name"), .str word]), .int ((av.length + 1 : Nat) : Int)]) ⟨_, fun p hp => (kN2 p (List.mem_append.mpr (.inl hp))).1, hq5⟩ (.tuple (News.get kN2 (List.mem_append.mpr (.inr (by k_mem)))) (.cons (.tuple (News.get kN2 (List.mem_append.mpr (.inr (by k_mem)))) (.cons (.str _ _) (.cons (.str _ _) .nil))) (.cons (.int _ _) .nil))) (kqd_nm hwok) (kqd_nm hwok) (by first | walk_at "rm" | ((try dsimp only [Around.deeper, Around.in1]); simp only [cLine]; omega)) true ⟨fun _ => rfl, fun _ => rfl⟩ ?_)
        have N6 := pick4 kN2
        clear kN2
        k_steps
        refine wp_unhalt ?_
        k_dflt (refine' kla_eval ?q3d0 ?_; (case q3d0 => exact rfl))
        (k_dflt (refine' kla_nest ?q3F ?q3N ?q3T ?q3C ?q3cd ?q3U ?q3t ?q3n ?q3cl ?_; (case q3F => k_asm); (case q3N => k_asm); (case q3T => k_asm); (case q3cd => exact rfl); (case q3C => assumption); (case q3U => k_updF); (case q3t => kn_triples); (case q3n => kn_among); (case q3cl => exact rfl)))
        (with_reducible rename Fr _ _ _ _ => kF); (with_reducible rename News _ _ _ _ => kN)
        clear kF kN
        intro fw cw ow cvs tw ctw h8 tk8 F' N' dw ew lw1 lw2
        (try dsimp only at N')
        k_lt lw1
        k_lt2 lw2
        k_steps
        (with_reducible rename Fr _ _ _ _ => kF); (with_reducible rename News _ _ _ _ => kN)
        refine wp_unhalt ?_
        k_dflt (refine heard_T (B := hB) (g := g2) (L := L) (k := av.length) (e := av.length + 1) (ok := true) (d := (.tuple [.str (Str.ofString "name"), .str word])) (TS := ah ++ [(Str.ofString "name", word)]) X T kF kN hO5 hB5 rfl rfl (by (repeat' (first | assumption | exact List.forall_mem_nil _ | (refine List.forall_mem_cons.mpr ⟨fun _ _ z => Data.noConfusion z, ?_⟩) | (refine List.forall_mem_cons.mpr ⟨nd_fields (by assumption), ?_⟩)))) ?hle ?hoke ?hlene (News.get kN (by k_mem)) (News.get kN (by k_mem)) dw ew ?hwe (by walk_at "down") (by walk_at "down") ?hrete)
        case hle =>
          rw [List.map_append]
          exact .list (News.get kN (by k_mem)) (HasAll.append (hava.keeps fun b o z => kF.keep _ _ (hB5 _ _ z)) ⟨tl, fun p hp => (kN p (by (repeat (first | assumption | refine List.Mem.tail _ ?_)))).1, hys⟩)
        case hoke => rw [List.all_append, hahk]; simp only [List.all_cons, List.all_nil, okT, hwok]; decide +kernel
        case hlene => simp only [List.length_append, List.length_cons, List.length_nil]; omega
        case hwe =>
          intro B2 vs2 X2 T2 hl2 hn2 tok2
          have z0 := tok2 av.length
          have z1 := tok2 (av.length + 1)
          have e0 := look_app (R := [(Str.ofString "name", word)]) havl 0
          have e1 := look_app (R := [(Str.ofString "name", word)]) havl 1
          rw [Nat.add_zero] at e0
          rw [e0] at z0
          rw [e1] at z1
          intro B3 o3 d3 u3 g3 s3 Q3 E3 t3 a1 a2 a3 a4 a5 a6 a7
          exact work_tgtN X2 T2 hl2 hn2 z0 hg z1 (by show endT ≠ opener; decide +kernel) a1 a2 a3 a4 a5 a6 a7
        case hrete =>
          intro g3 h6 tk6 q6 tl6 hB6 hO6 F' N' sq6 hq6 up6
          clear kF kN
          have Xg3 := X.keeps hB6
          have Tg3 := T.keeps hB6
          clear Xg2 Tg2 hCg2
          k_steps
          (with_reducible rename Fr _ _ _ _ => kF2); (with_reducible rename News _ _ _ _ => kN2)
          refine wp_unhalt ?_
          k_dflt (refine eq_has (da := .tuple [(.tuple [.str (Str.ofString "name"), .str word]), .int ((av.length + 1 : Nat) : Int)]) (db := .tuple [(.tuple [.str (Str.ofString "name"), .str word]), .int ((av.length + 1 : Nat) : Int)]) ⟨_, fun p hp => (kN2 p (List.mem_append.mpr (.inl hp))).1, hq6⟩ (.tuple (News.get kN2 (List.mem_append.mpr (.inr (by k_mem)))) (.cons (.tuple (News.get kN2 (List.mem_append.mpr (.inr (by k_mem)))) (.cons (.str _ _) (.cons (.str _ _) .nil))) (.cons (.int _ _) .nil))) (kqd_nm hwok) (kqd_nm hwok) (by first | walk_at "rm" | ((try dsimp only [Around.deeper, Around.in1]); simp only [cLine]; omega)) true ⟨fun _ => rfl, fun _ => rfl⟩ ?_)
          refine ret _ _ (fun b o z => kF2.keep _ _ (hB6 _ _ z)) (fun b o z n1 n2 nf => ?_) ⟨_, kN2.get (List.mem_append.mpr (.inr (by k_mem)))⟩
          obtain ⟨sl, z2⟩ := up5 b o (hin b o z (two_no n1 n2)) nf
          obtain ⟨sl2, z3⟩ := up6 b _ z2 nf
          exact ⟨sl2, kF2.keep _ _ z3⟩
    · have hsl := fn_slice hf
      k_steps
      refine wp_unhalt ?_
      k_dflt (refine' kla_eval ?q4d0 ?_; (case q4d0 => exact rfl))
      (k_dflt (refine' kla_nest ?q4F ?q4N ?q4T ?q4C ?q4cd ?q4U ?q4t ?q4n ?q4cl ?_; (case q4F => k_asm); (case q4N => k_asm); (case q4T => k_asm); (case q4cd => exact rfl); (case q4C => assumption); (case q4U => k_updF); (case q4t => kn_triples); (case q4n => kn_among); (case q4cl => exact rfl)))
      (with_reducible rename Fr _ _ _ _ => kF); (with_reducible rename News _ _ _ _ => kN)
      clear kF kN
      intro fw cw ow cvs tw ctw h8 tk8 F' N' dw ew lw1 lw2
      (try dsimp only at N')
      k_lt lw1
      k_lt2 lw2
      k_steps
      refine wp_unhalt ?_
      k_dflt (refine add_any (by k_asm) (by k_asm) (by k_mem) (by k_mem) (by simp only [List.length_append, List.length_cons, List.length_nil]; omega) ?_)
      (with_reducible rename Fr _ _ _ _ => kF); (with_reducible rename News _ _ _ _ => kN)
      clear kF kN
      intro D9 h9 F' N' l9
      k_lt l9
      k_steps
      (with_reducible rename Fr _ _ _ _ => kF); (with_reducible rename News _ _ _ _ => kN)
      refine wp_unhalt ?_
      k_dflt (refine heard_T (B := hB) (g := g) (L := L) (k := av.length) (e := av.length) (ok := false) (d := .none) (TS := (ah ++ [(Str.ofString "name", word)]) ++ [eqT]) X T kF kN hOg hBg rfl rfl (by (repeat' (first | assumption | exact List.forall_mem_nil _ | (refine List.forall_mem_cons.mpr ⟨fun _ _ z => Data.noConfusion z, ?_⟩) | (refine List.forall_mem_cons.mpr ⟨nd_fields (by assumption), ?_⟩)))) ?hlc ?hokc ?hlenc (News.get kN (by k_mem)) (News.get kN (by k_mem)) dw ew ?hwc (by walk_at "down") (by walk_at "down") ?hretc)
      case hlc =>
        rw [List.map_append, List.map_append]
        exact .list (News.get kN (by k_mem)) (HasAll.append (HasAll.append (hava.keeps fun b o z => kF.keep _ _ (hBg _ _ z)) ⟨tl, fun p hp => (kN p (by (repeat (first | assumption | refine List.Mem.tail _ ?_)))).1, hys⟩) (.cons (.tuple (News.get kN (by k_mem)) (.cons (.str _ _) (.cons (.str _ _) .nil))) .nil))
      case hokc => rw [List.all_append, List.all_append, hahk]; simp only [List.all_cons, List.all_nil, okT, hwok]; decide +kernel
      case hlenc => simp only [List.length_append, List.length_cons, List.length_nil]; omega
      case hwc =>
        intro B2 vs2 X2 T2 hl2 hn2 tok2
        have z := tok2 av.length
        rw [List.append_assoc] at z
        have e1 := look_app (R := [(Str.ofString "name", word)] ++ [eqT]) havl 0
        rw [Nat.add_zero] at e1
        rw [e1] at z
        intro B3 o3 d3 u3 g3 s3 Q3 E3 t3 a1 a2 a3 a4 a5 a6 a7
        exact work_tgtR X2 T2 hl2 hn2 z (fn_mem hf) a1 a2 a3 a4 a5 a6 a7
      case hretc =>
        intro g2 h5 tk5 q5 tl5 hB5 hO5 F' N' nd5 hq5 up5
        clear kF kN
        have Xg2 := X.keeps hB5
        have Tg2 := T.keeps hB5
        clear Xg Tg
        k_steps
        (with_reducible rename Fr _ _ _ _ => kF2); (with_reducible rename News _ _ _ _ => kN2)
        refine wp_unhalt ?_
        k_dflt (refine eq_has (da := .tuple [.str (Str.ofString "SN"), .int (av.length : Int)]) (db := .tuple [.str (Str.ofString "SN"), .int (av.length : Int)]) ⟨tl5, fun p hp => (kN2 p (.tail _ (List.mem_append.mpr (.inl hp)))).1, hq5⟩ (.tuple (News.get kN2 (.head _)) (.cons (.str _ _) (.cons (.int _ _) .nil))) kqd_sn kqd_sn (by first | walk_at "rm" | ((try dsimp only [Around.deeper, Around.in1]); simp only [cLine]; omega)) true ⟨fun _ => rfl, fun _ => rfl⟩ ?_)
        refine ret _ _ (fun b o z => kF2.keep _ _ (hB5 _ _ z)) (fun b o z n1 n2 nf => ?_) ⟨_, kN2.get (.tail _ (List.mem_append.mpr (.inr (by k_mem))))⟩
        obtain ⟨sl, z2⟩ := up5 b o (hin b o z (two_no n1 n2)) nf
        exact ⟨sl, kF2.keep _ _ z2⟩
  · refine wp_unhalt ?_
    k_dflt (refine item_litK (News.isList (by k_asm) (by k_mem)) (by decide) (by decide) rfl ?_)
    k_steps
    refine wp_unhalt ?_
    k_dflt (refine tr_tokens (sd := sd) (P := P) (tlx := [_, _]) (es := [tkD (Str.ofString "name", word), tkD (Str.ofString "sign", Str.ofString "(")]) (by k_asm) (by k_asm) hag havn (by k_mem) (.cons (.tuple (.head _) (.cons (.str _ _) (.cons (.str _ _) .nil))) (.cons (.tuple (.tail _ (.head _)) (.cons (.str _ _) (.cons (.str _ _) .nil))) .nil)) (by simp) (by (repeat' (first | exact List.forall_mem_nil _ | (refine List.forall_mem_cons.mpr ⟨by k_mem, ?_⟩)))) (by (repeat' (first | exact List.forall_mem_nil _ | (refine List.forall_mem_cons.mpr ⟨by k_ne, ?_⟩)))) (by (repeat' (first | exact List.forall_mem_nil _ | (refine List.forall_mem_cons.mpr ⟨by k_ne, ?_⟩)))) (by (repeat' (first | exact List.forall_mem_nil _ | (refine List.forall_mem_cons.mpr ⟨fun _ _ z => Data.noConfusion z, ?_⟩)))) (by k_mem) (by k_mem) ?_)
    (with_reducible rename Fr _ _ _ _ => kF); (with_reducible rename News _ _ _ _ => kN)
    clear kF kN
    intro D h2 tl F' N' hys hyl ns nP nd lS lP
    have hwok := word_ok hw
    have hwl := word_len hw
    rcases hw with hg | hf
    · have hsl := good_slice hg
      k_steps
      refine wp_unhalt ?_
      (k_dflt (refine scooped (hB := g) (m := 4) (by k_asm) (by k_asm) (Fr.keep (by k_asm)) (by walk_at "down") (by walk_at "down") (News.get (by k_asm) (by k_mem)) (News.fresh (by k_asm) (by k_mem)) (by omega) (by omega) (by assumption) hci hc0 hcn (by decide) (by decide) ?_))
      intro h' tk' r ur u' M hr0 hr1
      ((with_reducible rename Fr _ _ _ _ => zkF); (with_reducible rename News _ _ _ _ => zkN); (rename Mu _ _ _ _ _ => zkM); have zne := apart_of (mu_ne zkN zkM); k_dflt (have zN := news_mu1 zkF zkN (by k_upd) zkM); k_dflt (have zF := fr_mu1 zkF zkN (by k_upd) zkM); (try dsimp only [List.cons_append, List.nil_append] at zN); (try simp only [List.push_toArray, List.cons_append, List.nil_append] at zN); (repeat (have _ := And.left zne; replace zne := And.right zne)); clear zne zkF zkN zkM)
      obtain ⟨mr, rfl⟩ : ∃ mr : Nat, r = mr := ⟨r.toNat, by omega⟩
      k_steps
      (with_reducible rename Fr _ _ _ _ => kF); (with_reducible rename News _ _ _ _ => kN)
      refine wp_unhalt ?_
      k_dflt (refine row (hB := g) (mn := 1 + mr) (by k_asm) (by k_asm) kF.keep (by walk_at "down") (by walk_at "down") (News.get kN (by k_mem)) (News.fresh kN (by k_mem)) (by omega) (by omega) hcg hci hc0 hcn (by omega) (by omega) ?_)
      intro h' tk' q ts trs wr tl3 j u3 hRR hj0 hj1 M hq
      obtain ⟨ml, ws, n1', n2', tv, wv, tl4, F', N', d4, t4, w4, ns4, nP4, nd4, q1, q2, q3, q4⟩ := row_take kF kN M hq (by k_ne) (by k_ne) (by k_ne) ns nP nd
      clear kF kN M hq
      k_steps
      refine wp_unhalt ?_
      (k_dflt (refine scooped (hB := g) (m := 3) (by k_asm) (by k_asm) (Fr.keep (by k_asm)) (by walk_at "down") (by walk_at "down") (News.get (by k_asm) (by k_mem)) (News.fresh (by k_asm) (by k_mem)) (by omega) (by omega) (by assumption) hci hc0 hcn (by decide) (by decide) ?_))
      intro h' tk' r ur u' M hr0 hr1
      ((with_reducible rename Fr _ _ _ _ => zkF); (with_reducible rename News _ _ _ _ => zkN); (rename Mu _ _ _ _ _ => zkM); have zne := apart_of (mu_ne zkN zkM); k_dflt (have zN := news_mu1 zkF zkN (by k_upd) zkM); k_dflt (have zF := fr_mu1 zkF zkN (by k_upd) zkM); (try dsimp only [List.cons_append, List.nil_append] at zN); (try simp only [List.push_toArray, List.cons_append, List.nil_append] at zN); (repeat (have _ := And.left zne; replace zne := And.right zne)); clear zne zkF zkN zkM)
      k_steps
      refine wp_unhalt ?_
      (with_reducible rename Fr _ _ _ _ => kF); (with_reducible rename News _ _ _ _ => kN)
      k_dflt (refine item_menu kN (by k_mem) hr0 (by simpa using hr1) (by simp) ?_)
      intro v hv
      obtain ⟨Dc, ckd, ctd, cu1, cu2, rfl, hcm, hcl, hcP⟩ := closer_of (P := P) kN hv (by k_mem) (by k_mem) (by k_mem) (by k_ne) (by k_ne) (by k_ne)
      have N' := pickC kN hcm
      clear kN hcm hv
      have hwl4 : ws.length = ts.length := by rw [datAll_len d4, List.length_map]
      have hrl := hRR.len
      k_steps
      refine wp_unhalt ?_
      (with_reducible rename Fr _ _ _ _ => kF); (with_reducible rename News _ _ _ _ => kN)
      k_dflt (refine add_any kF kN (by k_mem) (by k_mem) (by simp only [List.length_append, List.length_cons, List.length_nil]; omega) ?_)
      intro D7 h7 F' N' l7
      k_lt l7
      clear kF kN
      k_steps
      refine wp_unhalt ?_
      (with_reducible rename Fr _ _ _ _ => kF); (with_reducible rename News _ _ _ _ => kN)
      k_dflt (refine add_any kF kN (by k_mem) (by k_mem) (by simp only [List.length_append, List.length_cons, List.length_nil]; omega) ?_)
      intro D8 h7 F' N' l8
      k_lt l8
      clear kF kN
      k_steps
      (with_reducible rename News _ _ _ _ => kN)
      have N9 := pickD kN
      clear kN
      obtain ⟨ce1, ce2, ce3, ce4, ce5⟩ := closer_end hcl
      have htr := hRR.trees
      have hrk := hRR.ok
      rcases wr with _ | kk
      · obtain rfl : wv = Value.none := by
          simp only [wrD] at w4; cases w4; rfl
        rcases closer_two hcl with ⟨rfl, rfl⟩ | ⟨cne, cnb⟩
        · k_steps
          refine wp_unhalt ?_
          k_dflt (refine' kla_eval ?q6d0 ?_; (case q6d0 => exact rfl))
          (k_dflt (refine' kla_nest ?q6F ?q6N ?q6T ?q6C ?q6cd ?q6U ?q6t ?q6n ?q6cl ?_; (case q6F => k_asm); (case q6N => k_asm); (case q6T => k_asm); (case q6cd => exact rfl); (case q6C => assumption); (case q6U => k_updF); (case q6t => kn_triples); (case q6n => kn_among); (case q6cl => exact rfl)))
          (with_reducible rename Fr _ _ _ _ => kF); (with_reducible rename News _ _ _ _ => kN)
          clear kF kN
          intro fw cw ow cvs tw ctw h8 tk8 F' N' dw ew lw1 lw2
          (try dsimp only at N')
          k_lt lw1
          k_lt2 lw2
          k_steps
          (with_reducible rename Fr _ _ _ _ => kF); (with_reducible rename News _ _ _ _ => kN)
          refine wp_unhalt ?_
          k_dflt (refine heard_T (B := hB) (g := g) (L := L) (k := av.length) (e := av.length + 2 + ts.length + 1) (ok := true) (d := (.tuple [.str (Str.ofString "item"), .str word, .list trs])) (TS := ((ah ++ [(Str.ofString "name", word), opener]) ++ ts) ++ [(Str.ofString "sign", Str.ofString ")")]) X T kF kN hOg hBg rfl rfl (by (repeat' (first | assumption | exact List.forall_mem_nil _ | (refine List.forall_mem_cons.mpr ⟨fun _ _ z => Data.noConfusion z, ?_⟩) | (refine List.forall_mem_cons.mpr ⟨nd_fields (by assumption), ?_⟩)))) ?hlh9 ?hokh9 ?hlenh9 (News.get kN (by k_mem)) (News.get kN (by k_mem)) dw ew ?hwh9 (by walk_at "down") (by walk_at "down") ?hreth9)
          case hlh9 =>
            rw [List.map_append, List.map_append, List.map_append]
            exact .list (News.get kN (by k_mem)) (HasAll.append (HasAll.append (HasAll.append (hava.keeps fun b o z => kF.keep _ _ (hBg _ _ z)) ⟨tl, fun p hp => (kN p (by (repeat (first | exact List.mem_append.mpr (.inr (by assumption)) | refine List.Mem.tail _ ?_)))).1, hys⟩) ⟨tl4, fun p hp => (kN p (by (repeat (first | exact List.mem_append.mpr (.inl (by assumption)) | refine List.Mem.tail _ ?_)))).1, d4⟩) (.cons (.tuple (News.get kN (by k_mem)) (.cons (.str _ _) (.cons (.str _ _) .nil))) .nil))
          case hokh9 => rw [List.all_append, List.all_append, List.all_append, hahk, hrk]; simp only [List.all_cons, List.all_nil, ce5]; simp only [okT, hwok]; decide +kernel
          case hlenh9 => simp only [List.length_append, List.length_cons, List.length_nil]; omega
          case hwh9 =>
            intro B2 vs2 X2 T2 hl2 hn2 tok2
            have z0 := tok2 av.length
            have z1 := tok2 (av.length + 1)
            have z2 := tok2 (av.length + 2 + ts.length)
            have eA : ((ah ++ [(Str.ofString "name", word), opener]) ++ ts) ++ [(Str.ofString "sign", Str.ofString ")")] = ah ++ ([(Str.ofString "name", word), opener] ++ ts ++ [(Str.ofString "sign", Str.ofString ")")]) := by simp
            have hA : At (((ah ++ [(Str.ofString "name", word), opener]) ++ ts) ++ [(Str.ofString "sign", Str.ofString ")")]) (av.length + 2) (ts ++ [(Str.ofString "sign", Str.ofString ")")]) := ⟨ah ++ [(Str.ofString "name", word), opener], by simp, by simp; omega⟩
            have hA2 := (At.skip hA).lk 0
            rw [Nat.add_zero] at hA2
            rw [hA2] at z2
            have hRA := row_at (w := w) hl2 hn2 tok2 (by omega : 1 ≤ 1 + mr) hRR (R := [(Str.ofString "sign", Str.ofString ")")]) (.inl ⟨rfl, ce1, ce2, ce3⟩) hA
            rw [eA] at z0 z1
            have e0 := look_app (R := [(Str.ofString "name", word), opener] ++ ts ++ [(Str.ofString "sign", Str.ofString ")")]) havl 0
            have e1 := look_app (R := [(Str.ofString "name", word), opener] ++ ts ++ [(Str.ofString "sign", Str.ofString ")")]) havl 1
            rw [Nat.add_zero] at e0
            rw [e0] at z0
            rw [e1] at z1
            intro B3 o3 d3 u3 g3 s3 Q3 E3 t3 a1 a2 a3 a4 a5 a6 a7
            exact work_tgtI X2 T2 hl2 hn2 z0 hg z1 hRA (by omega) (fun z => nomatch z) (fun _ => ⟨_, z2, .inl ⟨rfl, rfl, rfl⟩⟩) a1 a2 a3 a4 a5 a6 a7
          case hreth9 =>
            intro g2 h5 tk5 q5 tl5 hB5 hO5 F' N' sq5 hq5 up5
            clear kF kN
            have Xg2 := X.keeps hB5
            have Tg2 := T.keeps hB5
            clear Xg Tg
            k_steps
            (with_reducible rename Fr _ _ _ _ => kF2); (with_reducible rename News _ _ _ _ => kN2)
            refine wp_unhalt ?_
            k_dflt (refine eq_has (da := .tuple [(.tuple [.str (Str.ofString "item"), .str word, .list trs]), .int ((av.length + 2 + ts.length + 1 : Nat) : Int)]) (db := .tuple [(.tuple [.str (Str.ofString "item"), .str word, .list trs]), .int ((av.length : Int) + 2 + (ws.length : Int) + 1)]) ⟨_, fun p hp => (kN2 p (by (repeat (first | exact List.mem_append.mpr (.inl (by assumption)) | refine List.Mem.tail _ ?_)))).1, hq5⟩ (.tuple (News.get kN2 (by (repeat (first | exact List.mem_append.mpr (.inr (by k_mem)) | exact List.Mem.head _ | refine List.Mem.tail _ ?_)))) (.cons (.tuple (News.get kN2 (by (repeat (first | exact List.mem_append.mpr (.inr (by k_mem)) | exact List.Mem.head _ | refine List.Mem.tail _ ?_)))) (.cons (.str _ _) (.cons (.str _ _) (.cons ⟨tl4, fun p hp => (kN2 p (List.mem_append.mpr (.inr (by (repeat (first | exact List.mem_append.mpr (.inl (by assumption)) | refine List.Mem.tail _ ?_)))))).1, t4⟩ .nil)))) (.cons (.int _ _) .nil))) (kqd_item hwok htr) (kqd_item hwok htr) (by first | walk_at "rm" | ((try dsimp only [Around.deeper, Around.in1]); simp only [cLine]; omega)) true ⟨fun _ => it_eq (by omega), fun _ => rfl⟩ ?_)
            refine ret _ _ (fun b o z => kF2.keep _ _ (hB5 _ _ z)) (fun b o z n1 n2 nf => ?_) ⟨_, (kN2 (P, tabObj _) (by (repeat (first | exact List.mem_append.mpr (.inr (by k_mem)) | exact List.Mem.head _ | refine List.Mem.tail _ ?_)))).1⟩
            obtain ⟨sl, z2⟩ := up5 b o (hin b o z (two_no n1 n2)) nf
            exact ⟨sl, kF2.keep _ _ z2⟩
        · k_steps
          refine wp_unhalt ?_
          k_dflt (refine' kla_eval ?q7d0 ?_; (case q7d0 => exact rfl))
          (k_dflt (refine' kla_nest ?q7F ?q7N ?q7T ?q7C ?q7cd ?q7U ?q7t ?q7n ?q7cl ?_; (case q7F => k_asm); (case q7N => k_asm); (case q7T => k_asm); (case q7cd => exact rfl); (case q7C => assumption); (case q7U => k_updF); (case q7t => kn_triples); (case q7n => kn_among); (case q7cl => exact rfl)))
          (with_reducible rename Fr _ _ _ _ => kF); (with_reducible rename News _ _ _ _ => kN)
          clear kF kN
          intro fw cw ow cvs tw ctw h8 tk8 F' N' dw ew lw1 lw2
          (try dsimp only at N')
          k_lt lw1
          k_lt2 lw2
          k_steps
          (with_reducible rename Fr _ _ _ _ => kF); (with_reducible rename News _ _ _ _ => kN)
          refine wp_unhalt ?_
          k_dflt (refine heard_T (B := hB) (g := g) (L := L) (k := av.length) (e := av.length + 2 + ts.length) (ok := false) (d := (.tuple [.str (Str.ofString "item"), .str word, .list trs])) (TS := ((ah ++ [(Str.ofString "name", word), opener]) ++ ts) ++ [(ckd, ctd)]) X T kF kN hOg hBg rfl rfl (by (repeat' (first | assumption | exact List.forall_mem_nil _ | (refine List.forall_mem_cons.mpr ⟨fun _ _ z => Data.noConfusion z, ?_⟩) | (refine List.forall_mem_cons.mpr ⟨nd_fields (by assumption), ?_⟩)))) ?hli9 ?hoki9 ?hleni9 (News.get kN (by k_mem)) (News.get kN (by k_mem)) dw ew ?hwi9 (by walk_at "down") (by walk_at "down") ?hreti9)
          case hli9 =>
            rw [List.map_append, List.map_append, List.map_append]
            exact .list (News.get kN (by k_mem)) (HasAll.append (HasAll.append (HasAll.append (hava.keeps fun b o z => kF.keep _ _ (hBg _ _ z)) ⟨tl, fun p hp => (kN p (by (repeat (first | exact List.mem_append.mpr (.inr (by assumption)) | refine List.Mem.tail _ ?_)))).1, hys⟩) ⟨tl4, fun p hp => (kN p (by (repeat (first | exact List.mem_append.mpr (.inl (by assumption)) | refine List.Mem.tail _ ?_)))).1, d4⟩) (.cons (.tuple (News.get kN (by k_mem)) (.cons (.str _ _) (.cons (.str _ _) .nil))) .nil))
          case hoki9 => rw [List.all_append, List.all_append, List.all_append, hahk, hrk]; simp only [List.all_cons, List.all_nil, ce5]; simp only [okT, hwok]; decide +kernel
          case hleni9 => simp only [List.length_append, List.length_cons, List.length_nil]; omega
          case hwi9 =>
            intro B2 vs2 X2 T2 hl2 hn2 tok2
            have z0 := tok2 av.length
            have z1 := tok2 (av.length + 1)
            have z2 := tok2 (av.length + 2 + ts.length)
            have eA : ((ah ++ [(Str.ofString "name", word), opener]) ++ ts) ++ [(ckd, ctd)] = ah ++ ([(Str.ofString "name", word), opener] ++ ts ++ [(ckd, ctd)]) := by simp
            have hA : At (((ah ++ [(Str.ofString "name", word), opener]) ++ ts) ++ [(ckd, ctd)]) (av.length + 2) (ts ++ [(ckd, ctd)]) := ⟨ah ++ [(Str.ofString "name", word), opener], by simp, by simp; omega⟩
            have hA2 := (At.skip hA).lk 0
            rw [Nat.add_zero] at hA2
            rw [hA2] at z2
            have hRA := row_at (w := w) hl2 hn2 tok2 (by omega : 1 ≤ 1 + mr) hRR (R := [(ckd, ctd)]) (.inl ⟨rfl, ce1, ce2, ce3⟩) hA
            rw [eA] at z0 z1
            have e0 := look_app (R := [(Str.ofString "name", word), opener] ++ ts ++ [(ckd, ctd)]) havl 0
            have e1 := look_app (R := [(Str.ofString "name", word), opener] ++ ts ++ [(ckd, ctd)]) havl 1
            rw [Nat.add_zero] at e0
            rw [e0] at z0
            rw [e1] at z1
            intro B3 o3 d3 u3 g3 s3 Q3 E3 t3 a1 a2 a3 a4 a5 a6 a7
            exact work_tgtI X2 T2 hl2 hn2 z0 hg z1 hRA (by omega) (fun z => nomatch z) (fun _ => ⟨_, z2, .inr ⟨cne, rfl, rfl⟩⟩) a1 a2 a3 a4 a5 a6 a7
          case hreti9 =>
            intro g2 h5 tk5 q5 tl5 hB5 hO5 F' N' sq5 hq5 up5
            clear kF kN
            have Xg2 := X.keeps hB5
            have Tg2 := T.keeps hB5
            clear Xg Tg
            k_steps
            (with_reducible rename Fr _ _ _ _ => kF2); (with_reducible rename News _ _ _ _ => kN2)
            refine wp_unhalt ?_
            k_dflt (refine eq_has (da := .tuple [.str (Str.ofString "SN"), .int ((av.length + 2 + ts.length : Nat) : Int)]) (db := .tuple [.str (Str.ofString "SN"), .int ((av.length : Int) + 2 + (ws.length : Int))]) ⟨_, fun p hp => (kN2 p (by (repeat (first | exact List.mem_append.mpr (.inl (by assumption)) | refine List.Mem.tail _ ?_)))).1, hq5⟩ (.tuple (News.get kN2 (by (repeat (first | exact List.mem_append.mpr (.inr (by k_mem)) | exact List.Mem.head _ | refine List.Mem.tail _ ?_)))) (.cons (.str _ _) (.cons (.int _ _) .nil))) kqd_sn kqd_sn (by first | walk_at "rm" | ((try dsimp only [Around.deeper, Around.in1]); simp only [cLine]; omega)) true ⟨fun _ => sn_eq (by omega), fun _ => rfl⟩ ?_)
            refine ret _ _ (fun b o z => kF2.keep _ _ (hB5 _ _ z)) (fun b o z n1 n2 nf => ?_) ⟨_, (kN2 (P, tabObj _) (by (repeat (first | exact List.mem_append.mpr (.inr (by k_mem)) | exact List.Mem.head _ | refine List.Mem.tail _ ?_)))).1⟩
            obtain ⟨sl, z2⟩ := up5 b o (hin b o z (two_no n1 n2)) nf
            exact ⟨sl, kF2.keep _ _ z2⟩
      · have hkk := hRR.wrong
        obtain ⟨wt9, rfl⟩ : ∃ t9, wv = .int (kk : Int) t9 := by
          simp only [wrD] at w4; cases w4; exact ⟨_, rfl⟩
        k_steps
        refine wp_unhalt ?_
        k_dflt (refine' kla_eval ?q5d0 ?_; (case q5d0 => exact rfl))
        (k_dflt (refine' kla_nest ?q5F ?q5N ?q5T ?q5C ?q5cd ?q5U ?q5t ?q5n ?q5cl ?_; (case q5F => k_asm); (case q5N => k_asm); (case q5T => k_asm); (case q5cd => exact rfl); (case q5C => assumption); (case q5U => k_updF); (case q5t => kn_triples); (case q5n => kn_among); (case q5cl => exact rfl)))
        (with_reducible rename Fr _ _ _ _ => kF); (with_reducible rename News _ _ _ _ => kN)
        clear kF kN
        intro fw cw ow cvs tw ctw h8 tk8 F' N' dw ew lw1 lw2
        (try dsimp only at N')
        k_lt lw1
        k_lt2 lw2
        k_steps
        (with_reducible rename Fr _ _ _ _ => kF); (with_reducible rename News _ _ _ _ => kN)
        refine wp_unhalt ?_
        k_dflt (refine heard_T (B := hB) (g := g) (L := L) (k := av.length) (e := av.length + 2 + ts.length) (ok := false) (d := (.tuple [.str (Str.ofString "item"), .str word, .list trs])) (TS := ((ah ++ [(Str.ofString "name", word), opener]) ++ ts) ++ [(ckd, ctd)]) X T kF kN hOg hBg rfl rfl (by (repeat' (first | assumption | exact List.forall_mem_nil _ | (refine List.forall_mem_cons.mpr ⟨fun _ _ z => Data.noConfusion z, ?_⟩) | (refine List.forall_mem_cons.mpr ⟨nd_fields (by assumption), ?_⟩)))) ?hlg9 ?hokg9 ?hleng9 (News.get kN (by k_mem)) (News.get kN (by k_mem)) dw ew ?hwg9 (by walk_at "down") (by walk_at "down") ?hretg9)
        case hlg9 =>
          rw [List.map_append, List.map_append, List.map_append]
          exact .list (News.get kN (by k_mem)) (HasAll.append (HasAll.append (HasAll.append (hava.keeps fun b o z => kF.keep _ _ (hBg _ _ z)) ⟨tl, fun p hp => (kN p (by (repeat (first | exact List.mem_append.mpr (.inr (by assumption)) | refine List.Mem.tail _ ?_)))).1, hys⟩) ⟨tl4, fun p hp => (kN p (by (repeat (first | exact List.mem_append.mpr (.inl (by assumption)) | refine List.Mem.tail _ ?_)))).1, d4⟩) (.cons (.tuple (News.get kN (by k_mem)) (.cons (.str _ _) (.cons (.str _ _) .nil))) .nil))
        case hokg9 => rw [List.all_append, List.all_append, List.all_append, hahk, hrk]; simp only [List.all_cons, List.all_nil, ce5]; simp only [okT, hwok]; decide +kernel
        case hleng9 => simp only [List.length_append, List.length_cons, List.length_nil]; omega
        case hwg9 =>
          intro B2 vs2 X2 T2 hl2 hn2 tok2
          have z0 := tok2 av.length
          have z1 := tok2 (av.length + 1)
          have z2 := tok2 (av.length + 2 + ts.length)
          have eA : ((ah ++ [(Str.ofString "name", word), opener]) ++ ts) ++ [(ckd, ctd)] = ah ++ ([(Str.ofString "name", word), opener] ++ ts ++ [(ckd, ctd)]) := by simp
          have hA : At (((ah ++ [(Str.ofString "name", word), opener]) ++ ts) ++ [(ckd, ctd)]) (av.length + 2) (ts ++ [(ckd, ctd)]) := ⟨ah ++ [(Str.ofString "name", word), opener], by simp, by simp; omega⟩
          have hA2 := (At.skip hA).lk 0
          rw [Nat.add_zero] at hA2
          rw [hA2] at z2
          have hRA := row_at (w := w) hl2 hn2 tok2 (by omega : 1 ≤ 1 + mr) hRR (R := [(ckd, ctd)]) (.inr ⟨rfl, ce4, by show endT ≠ opener; decide +kernel⟩) hA
          rw [eA] at z0 z1
          have e0 := look_app (R := [(Str.ofString "name", word), opener] ++ ts ++ [(ckd, ctd)]) havl 0
          have e1 := look_app (R := [(Str.ofString "name", word), opener] ++ ts ++ [(ckd, ctd)]) havl 1
          rw [Nat.add_zero] at e0
          rw [e0] at z0
          rw [e1] at z1
          intro B3 o3 d3 u3 g3 s3 Q3 E3 t3 a1 a2 a3 a4 a5 a6 a7
          exact work_tgtI X2 T2 hl2 hn2 z0 hg z1 hRA (by omega) (fun _ => ⟨rfl, rfl⟩) (fun z => nomatch z) a1 a2 a3 a4 a5 a6 a7
        case hretg9 =>
          intro g2 h5 tk5 q5 tl5 hB5 hO5 F' N' sq5 hq5 up5
          clear kF kN
          have Xg2 := X.keeps hB5
          have Tg2 := T.keeps hB5
          clear Xg Tg
          k_steps
          (with_reducible rename Fr _ _ _ _ => kF2); (with_reducible rename News _ _ _ _ => kN2)
          refine wp_unhalt ?_
          k_dflt (refine eq_has (da := .tuple [.str (Str.ofString "SN"), .int ((av.length + 2 + ts.length : Nat) : Int)]) (db := .tuple [.str (Str.ofString "SN"), .int ((av.length : Int) + 2 + (kk : Int))]) ⟨_, fun p hp => (kN2 p (by (repeat (first | exact List.mem_append.mpr (.inl (by assumption)) | refine List.Mem.tail _ ?_)))).1, hq5⟩ (.tuple (News.get kN2 (by (repeat (first | exact List.mem_append.mpr (.inr (by k_mem)) | exact List.Mem.head _ | refine List.Mem.tail _ ?_)))) (.cons (.str _ _) (.cons (.int _ _) .nil))) kqd_sn kqd_sn (by first | walk_at "rm" | ((try dsimp only [Around.deeper, Around.in1]); simp only [cLine]; omega)) true ⟨fun _ => sn_eq (by omega), fun _ => rfl⟩ ?_)
          refine ret _ _ (fun b o z => kF2.keep _ _ (hB5 _ _ z)) (fun b o z n1 n2 nf => ?_) ⟨_, (kN2 (P, tabObj _) (by (repeat (first | exact List.mem_append.mpr (.inr (by k_mem)) | exact List.Mem.head _ | refine List.Mem.tail _ ?_)))).1⟩
          obtain ⟨sl, z2⟩ := up5 b o (hin b o z (two_no n1 n2)) nf
          exact ⟨sl, kF2.keep _ _ z2⟩
    · have hsl := fn_slice hf
      k_steps
      refine wp_unhalt ?_
      k_dflt (refine' kla_eval ?q8d0 ?_; (case q8d0 => exact rfl))
      (k_dflt (refine' kla_nest ?q8F ?q8N ?q8T ?q8C ?q8cd ?q8U ?q8t ?q8n ?q8cl ?_; (case q8F => k_asm); (case q8N => k_asm); (case q8T => k_asm); (case q8cd => exact rfl); (case q8C => assumption); (case q8U => k_updF); (case q8t => kn_triples); (case q8n => kn_among); (case q8cl => exact rfl)))
      (with_reducible rename Fr _ _ _ _ => kF); (with_reducible rename News _ _ _ _ => kN)
      clear kF kN
      intro fw cw ow cvs tw ctw h8 tk8 F' N' dw ew lw1 lw2
      (try dsimp only at N')
      k_lt lw1
      k_lt2 lw2
      k_steps
      refine wp_unhalt ?_
      k_dflt (refine add_any (by k_asm) (by k_asm) (by k_mem) (by k_mem) (by simp only [List.length_append, List.length_cons, List.length_nil]; omega) ?_)
      (with_reducible rename Fr _ _ _ _ => kF); (with_reducible rename News _ _ _ _ => kN)
      clear kF kN
      intro D9 h9 F' N' l9
      k_lt l9
      k_steps
      (with_reducible rename Fr _ _ _ _ => kF); (with_reducible rename News _ _ _ _ => kN)
      refine wp_unhalt ?_
      k_dflt (refine heard_T (B := hB) (g := g) (L := L) (k := av.length) (e := av.length) (ok := false) (d := .none) (TS := (ah ++ [(Str.ofString "name", word), (Str.ofString "sign", Str.ofString "(")]) ++ [eqT]) X T kF kN hOg hBg rfl rfl (by (repeat' (first | assumption | exact List.forall_mem_nil _ | (refine List.forall_mem_cons.mpr ⟨fun _ _ z => Data.noConfusion z, ?_⟩) | (refine List.forall_mem_cons.mpr ⟨nd_fields (by assumption), ?_⟩)))) ?hlf ?hokf ?hlenf (News.get kN (by k_mem)) (News.get kN (by k_mem)) dw ew ?hwf (by walk_at "down") (by walk_at "down") ?hretf)
      case hlf =>
        rw [List.map_append, List.map_append]
        exact .list (News.get kN (by k_mem)) (HasAll.append (HasAll.append (hava.keeps fun b o z => kF.keep _ _ (hBg _ _ z)) ⟨tl, fun p hp => (kN p (by (repeat (first | assumption | refine List.Mem.tail _ ?_)))).1, hys⟩) (.cons (.tuple (News.get kN (by k_mem)) (.cons (.str _ _) (.cons (.str _ _) .nil))) .nil))
      case hokf => rw [List.all_append, List.all_append, hahk]; simp only [List.all_cons, List.all_nil, okT, hwok]; decide +kernel
      case hlenf => simp only [List.length_append, List.length_cons, List.length_nil]; omega
      case hwf =>
        intro B2 vs2 X2 T2 hl2 hn2 tok2
        have z := tok2 av.length
        rw [List.append_assoc] at z
        have e1 := look_app (R := [(Str.ofString "name", word), (Str.ofString "sign", Str.ofString "(")] ++ [eqT]) havl 0
        rw [Nat.add_zero] at e1
        rw [e1] at z
        intro B3 o3 d3 u3 g3 s3 Q3 E3 t3 a1 a2 a3 a4 a5 a6 a7
        exact work_tgtR X2 T2 hl2 hn2 z (fn_mem hf) a1 a2 a3 a4 a5 a6 a7
      case hretf =>
        intro g2 h5 tk5 q5 tl5 hB5 hO5 F' N' nd5 hq5 up5
        clear kF kN
        have Xg2 := X.keeps hB5
        have Tg2 := T.keeps hB5
        clear Xg Tg
        k_steps
        (with_reducible rename Fr _ _ _ _ => kF2); (with_reducible rename News _ _ _ _ => kN2)
        refine wp_unhalt ?_
        k_dflt (refine eq_has (da := .tuple [.str (Str.ofString "SN"), .int (av.length : Int)]) (db := .tuple [.str (Str.ofString "SN"), .int (av.length : Int)]) ⟨tl5, fun p hp => (kN2 p (.tail _ (List.mem_append.mpr (.inl hp)))).1, hq5⟩ (.tuple (News.get kN2 (.head _)) (.cons (.str _ _) (.cons (.int _ _) .nil))) kqd_sn kqd_sn (by first | walk_at "rm" | ((try dsimp only [Around.deeper, Around.in1]); simp only [cLine]; omega)) true ⟨fun _ => rfl, fun _ => rfl⟩ ?_)
        refine ret _ _ (fun b o z => kF2.keep _ _ (hB5 _ _ z)) (fun b o z n1 n2 nf => ?_) ⟨_, kN2.get (.tail _ (List.mem_append.mpr (.inr (by k_mem))))⟩
        obtain ⟨sl, z2⟩ := up5 b o (hin b o z (two_no n1 n2)) nf
        exact ⟨sl, kF2.keep _ _ z2⟩
  · refine wp_unhalt ?_
    k_dflt (refine item_litK (News.isList (by k_asm) (by k_mem)) (by decide) (by decide) rfl ?_)
    k_steps
    refine wp_unhalt ?_
    k_dflt (refine tr_tokens (sd := sd) (P := P) (tlx := []) (es := []) (by k_asm) (by k_asm) hag havn (by k_mem) .nil (by simp) (by (repeat' (first | exact List.forall_mem_nil _ | (refine List.forall_mem_cons.mpr ⟨by k_mem, ?_⟩)))) (by (repeat' (first | exact List.forall_mem_nil _ | (refine List.forall_mem_cons.mpr ⟨by k_ne, ?_⟩)))) (by (repeat' (first | exact List.forall_mem_nil _ | (refine List.forall_mem_cons.mpr ⟨by k_ne, ?_⟩)))) (by (repeat' (first | exact List.forall_mem_nil _ | (refine List.forall_mem_cons.mpr ⟨fun _ _ z => Data.noConfusion z, ?_⟩)))) (by k_mem) (by k_mem) ?_)
    (with_reducible rename Fr _ _ _ _ => kF); (with_reducible rename News _ _ _ _ => kN)
    clear kF kN
    intro D h2 tl F' N' hys hyl ns nP nd lS lP
    k_steps
    refine wp_unhalt ?_
    k_dflt (refine' kla_eval ?q9d0 ?_; (case q9d0 => exact rfl))
    (k_dflt (refine' kla_nest ?q9F ?q9N ?q9T ?q9C ?q9cd ?q9U ?q9t ?q9n ?q9cl ?_; (case q9F => k_asm); (case q9N => k_asm); (case q9T => k_asm); (case q9cd => exact rfl); (case q9C => assumption); (case q9U => k_updF); (case q9t => kn_triples); (case q9n => kn_among); (case q9cl => exact rfl)))
    (with_reducible rename Fr _ _ _ _ => kF); (with_reducible rename News _ _ _ _ => kN)
    clear kF kN
    intro fw cw ow cvs tw ctw h8 tk8 F' N' dw ew lw1 lw2
    (try dsimp only at N')
    k_lt lw1
    k_lt2 lw2
    k_steps
    refine wp_unhalt ?_
    k_dflt (refine add_any (by k_asm) (by k_asm) (by k_mem) (by k_mem) (by simp only [List.length_append, List.length_cons, List.length_nil]; omega) ?_)
    (with_reducible rename Fr _ _ _ _ => kF); (with_reducible rename News _ _ _ _ => kN)
    clear kF kN
    intro D9 h9 F' N' l9
    k_lt l9
    k_steps
    (with_reducible rename Fr _ _ _ _ => kF); (with_reducible rename News _ _ _ _ => kN)
    refine wp_unhalt ?_
    k_dflt (refine heard_T (B := hB) (g := g) (L := L) (k := av.length) (e := av.length) (ok := false) (d := .none) (TS := (ah ++ []) ++ [eqT]) X T kF kN hOg hBg rfl rfl (by (repeat' (first | assumption | exact List.forall_mem_nil _ | (refine List.forall_mem_cons.mpr ⟨fun _ _ z => Data.noConfusion z, ?_⟩) | (refine List.forall_mem_cons.mpr ⟨nd_fields (by assumption), ?_⟩)))) ?hlb ?hokb ?hlenb (News.get kN (by k_mem)) (News.get kN (by k_mem)) dw ew ?hwb (by walk_at "down") (by walk_at "down") ?hretb)
    case hlb =>
      rw [List.map_append, List.map_append]
      exact .list (News.get kN (by k_mem)) (HasAll.append (HasAll.append (hava.keeps fun b o z => kF.keep _ _ (hBg _ _ z)) ⟨tl, fun p hp => (kN p (by (repeat (first | assumption | refine List.Mem.tail _ ?_)))).1, hys⟩) (.cons (.tuple (News.get kN (by k_mem)) (.cons (.str _ _) (.cons (.str _ _) .nil))) .nil))
    case hokb => rw [List.all_append, List.all_append, hahk]; decide +kernel
    case hlenb => simp only [List.length_append, List.length_cons, List.length_nil]; omega
    case hwb =>
      intro B2 vs2 X2 T2 hl2 hn2 tok2
      have z := tok2 av.length
      rw [List.append_assoc] at z
      have e1 := look_app (R := [] ++ [eqT]) havl 0
      rw [Nat.add_zero] at e1
      rw [e1] at z
      intro B3 o3 d3 u3 g3 s3 Q3 E3 t3 a1 a2 a3 a4 a5 a6 a7
      exact work_tgtR X2 T2 hl2 hn2 z (by decide +kernel) a1 a2 a3 a4 a5 a6 a7
    case hretb =>
      intro g2 h5 tk5 q5 tl5 hB5 hO5 F' N' nd5 hq5 up5
      clear kF kN
      have Xg2 := X.keeps hB5
      have Tg2 := T.keeps hB5
      clear Xg Tg
      k_steps
      (with_reducible rename Fr _ _ _ _ => kF2); (with_reducible rename News _ _ _ _ => kN2)
      refine wp_unhalt ?_
      k_dflt (refine eq_has (da := .tuple [.str (Str.ofString "SN"), .int (av.length : Int)]) (db := .tuple [.str (Str.ofString "SN"), .int (av.length : Int)]) ⟨tl5, fun p hp => (kN2 p (.tail _ (List.mem_append.mpr (.inl hp)))).1, hq5⟩ (.tuple (News.get kN2 (.head _)) (.cons (.str _ _) (.cons (.int _ _) .nil))) kqd_sn kqd_sn (by first | walk_at "rm" | ((try dsimp only [Around.deeper, Around.in1]); simp only [cLine]; omega)) true ⟨fun _ => rfl, fun _ => rfl⟩ ?_)
      refine ret _ _ (fun b o z => kF2.keep _ _ (hB5 _ _ z)) (fun b o z n1 n2 nf => ?_) ⟨_, kN2.get (.tail _ (List.mem_append.mpr (.inr (by k_mem))))⟩
      obtain ⟨sl, z2⟩ := up5 b o (hin b o z (two_no n1 n2)) nf
      exact ⟨sl, kF2.keep _ _ z2⟩
end
section -- T8
open PySem PySem.W PyProof.Rows PySem.Calls PySem.Spec
variable {w : World} {p : Program} {loose : List Str} {mean : ExcName → Option Value} {mg mb : Str → Option Value} {dp un : Nat} {fr : Option (List Env)} {gd : Option (List Code)} {s : Shared} {Q E : Value → Shared → Prop}
set_option maxRecDepth 100000 in
set_option maxHeartbeats 8000000 in
theorem lright {hB : Heap} {sd cl : Addr} {i : Int} {u : Tok} {n : Nat} {cv : List Value} {ns : List Int} {outer : List Env} {al P : Addr} {ah : List Tk} (X : (kfrag.heap_1 w.params).In hB) (T : Top p loose mean mg mb hB) (hs0 : hB.StaysIn s.heap) (hO : Outs hB s.heap outer) (hD : dp < 780) (hU : un < 8880) (hs : s.heap.get? sd = some (PySem.W.listOf #[.ref cl, .int i u] n)) (hsB : hB.get? sd = none) (hi0 : -1 ≤ i) (hi1 : i < 20) (hc : hB.IsList cl cv.toArray) (hci : IntsAre cv ns) (hc0 : ∀ x ∈ ns, 0 ≤ x) (hcn : ns.length < 1000) (hC : CodeHd hB 229 P) (hP : s.heap.get? P = some (tabObj #[])) (hPB : hB.get? P = none) (hsP : sd ≠ P) (hah : HasD hB (.ref al) (.list (ah.map tkD))) (hahl : ah.length ≤ 3) (hahk : ah.all okT = true)
   (ret : ∀ h' tk', hB.StaysIn h' → (∀ b o, s.heap.get? b = some o → b ≠ sd → b ≠ P → (∀ vs, o.data ≠ .fields vs) → ∃ sl, h'.get? b = some { o with slots := sl }) → (∃ ps, h'.get? P = some (tabObj ps)) → Q (.bool true) { s with heap := h', toks := tk' }) :
   wpAny (model Challenge.rw_pq0141_01.row.prog w) ⟨none, dp, some outer, gd, un⟩ (call (.ref 230) [.ref sd, .ref al]) Q E s := by
  revert X; k_fill; intro X
  obtain ⟨_, av, an, har, halo, hava⟩ := hah.list_inv
  cases har
  have halb : hB.IsList al av.toArray := ⟨_, halo, rfl, _, rfl⟩
  have havn : av.length ≤ 3 := by rw [hava.length, List.length_map]; exact hahl
  have havl : av.length = ah.length := by rw [hava.length, List.length_map]
  (k_dflt (refine' fr_def (binds := [(Str.ofString "sand", .ref sd), (Str.ofString "ahead", .ref al)]) [(sd, PySem.W.listOf #[.ref cl, .int i u] n), (P, tabObj #[])] ?k3 ?k5 ?kb ?kO ?km ?k8 ?k6 ?k7 ?k9 ?kB ?_ ?c2 ?c3 ?c4 ?c5; (case k3 => assumption); (case k5 => assumption); (case kb => assumption); (case kO => assumption); (case km => exact (List.forall_mem_cons.mpr ⟨⟨hs, hsB, fun _ _ z => (nomatch z)⟩, List.forall_mem_cons.mpr ⟨⟨hP, hPB, fun _ _ z => (nomatch z)⟩, List.forall_mem_nil _⟩⟩)); (case k6 => k_is); (case k7 => k_is); (case k8 => simp only [recursionLimit]; omega); (case k9 => exact BindsTo.of_eq rfl); (case c5 => decide); (case kB => exact locs rfl); (case c2 => exact rfl); (case c3 => exact rfl); (case c4 => exact rfl)))
  intro g L h₁ tk0 hBg hgs hin Xg Tg hlt hOg F N
  (try dsimp only [List.reverse, List.reverseAux])
  (try k_fold)
  have hcg := stays_list hBg hc
  have hag := stays_list hBg halb
  have hCg := CodeHd.keeps hC hBg
  clear hs hP
  k_steps
  refine wp_unhalt ?_
  (k_dflt (refine scooped (hB := g) (m := 5) (by k_asm) (by k_asm) (Fr.keep (by k_asm)) (by walk_at "down") (by walk_at "down") (News.get (by k_asm) (by k_mem)) (News.fresh (by k_asm) (by k_mem)) (by omega) (by omega) (by assumption) hci hc0 hcn (by decide) (by decide) ?_))
  intro h' tk' r ur u' M hr0 hr1
  ((with_reducible rename Fr _ _ _ _ => zkF); (with_reducible rename News _ _ _ _ => zkN); (rename Mu _ _ _ _ _ => zkM); have zne := apart_of (mu_ne zkN zkM); k_dflt (have zN := news_mu1 zkF zkN (by k_upd) zkM); k_dflt (have zF := fr_mu1 zkF zkN (by k_upd) zkM); (try dsimp only [List.cons_append, List.nil_append] at zN); (try simp only [List.push_toArray, List.cons_append, List.nil_append] at zN); (repeat (have _ := And.left zne; replace zne := And.right zne)); clear zne zkF zkN zkM)
  obtain ⟨mr, rfl⟩ : ∃ mr : Nat, r = mr := ⟨r.toNat, by omega⟩
  k_steps
  (with_reducible rename Fr _ _ _ _ => kF); (with_reducible rename News _ _ _ _ => kN)
  refine wp_unhalt ?_
  k_dflt (refine row (hB := g) (mn := 1 + mr) (by k_asm) (by k_asm) kF.keep (by walk_at "down") (by walk_at "down") (News.get kN (by k_mem)) (News.fresh kN (by k_mem)) (by omega) (by omega) hcg hci hc0 hcn (by omega) (by omega) ?_)
  intro h' tk' q ts trs wr tl3 j u3 hRR hj0 hj1 M hq
  obtain ⟨ml, ws, n1', n2', tv, wv, tl4, F', N', d4, t4, w4, ns4, nP4, nd4, q1, q2, q3, q4⟩ := row_take0 kF kN M hq (by k_ne)
  clear kF kN M hq
  k_steps
  refine wp_unhalt ?_
  (k_dflt (refine scooped (hB := g) (m := 5) (by k_asm) (by k_asm) (Fr.keep (by k_asm)) (by walk_at "down") (by walk_at "down") (News.get (by k_asm) (by k_mem)) (News.fresh (by k_asm) (by k_mem)) (by omega) (by omega) (by assumption) hci hc0 hcn (by decide) (by decide) ?_))
  intro h' tk' r ur u' M hr0 hr1
  ((with_reducible rename Fr _ _ _ _ => zkF); (with_reducible rename News _ _ _ _ => zkN); (rename Mu _ _ _ _ _ => zkM); have zne := apart_of (mu_ne zkN zkM); k_dflt (have zN := news_mu1 zkF zkN (by k_upd) zkM); k_dflt (have zF := fr_mu1 zkF zkN (by k_upd) zkM); (try dsimp only [List.cons_append, List.nil_append] at zN); (try simp only [List.push_toArray, List.cons_append, List.nil_append] at zN); (repeat (have _ := And.left zne; replace zne := And.right zne)); clear zne zkF zkN zkM)
  k_steps
  refine wp_unhalt ?_
  (with_reducible rename Fr _ _ _ _ => kF); (with_reducible rename News _ _ _ _ => kN)
  k_dflt (refine item_menu kN (by k_mem) hr0 (by simpa using hr1) (by simp) ?_)
  intro v hv
  obtain ⟨bl, bs, b, tlx, rfl, hbm, hb, hbd, hxn, hxs, hxP, hxd, hbs1, hbP⟩ := behind_of (sd := sd) (P := P) kN hv (by k_mem) (by k_mem) (by k_mem) (by k_mem) (by k_mem) (by k_mem) (by k_mem) (by k_mem) (by k_mem) ⟨by k_ne, by k_ne⟩ ⟨by k_ne, by k_ne⟩ ⟨by k_ne, by k_ne⟩ ⟨by k_ne, by k_ne⟩ ⟨by k_ne, by k_ne⟩ ⟨by k_ne, by k_ne⟩ ⟨by k_ne, by k_ne⟩ ⟨by k_ne, by k_ne⟩ ⟨by k_ne, by k_ne⟩
  have N' := pickE kN hbm hxn
  clear kN hbm hv hxn
  have ns := all_app hxs ns4; have nP := all_app hxP nP4; have nd := all_app hxd nd4
  clear hxs hxP hxd ns4 nP4 nd4
  obtain ⟨be1, be2, be3, be4⟩ := behind_end hb
  have hwl4 : ws.length = ts.length := by rw [datAll_len d4, List.length_map]
  have hbl : bs.length ≤ 1 := by rw [datAll_len hbd, List.length_map]; exact be1
  have hrl := hRR.len
  have htr := hRR.trees
  have hrk := hRR.ok
  rcases wr with _ | kk
  · obtain rfl : wv = Value.none := by
      simp only [wrD] at w4; cases w4; rfl
    k_steps
    refine wp_unhalt ?_
    (with_reducible rename Fr _ _ _ _ => kF); (with_reducible rename News _ _ _ _ => kN)
    k_dflt (refine add_base kF kN hag (by k_mem) (by omega) ?_)
    intro D7 h7 F' N' l7
    k_lt l7
    clear kF kN
    k_steps
    refine wp_unhalt ?_
    (with_reducible rename Fr _ _ _ _ => kF); (with_reducible rename News _ _ _ _ => kN)
    k_dflt (refine add_any kF kN (by k_mem) (by k_mem) (by simp only [List.length_append, List.length_cons, List.length_nil]; omega) ?_)
    intro D8 h8 F' N' l8
    k_lt l8
    clear kF kN
    k_steps
    refine wp_unhalt ?_
    k_dflt (refine' kla_eval ?q10d0 ?_; (case q10d0 => exact rfl))
    (k_dflt (refine' kla_nest ?q10F ?q10N ?q10T ?q10C ?q10cd ?q10U ?q10t ?q10n ?q10cl ?_; (case q10F => k_asm); (case q10N => k_asm); (case q10T => k_asm); (case q10cd => exact rfl); (case q10C => assumption); (case q10U => k_updF); (case q10t => kn_triples); (case q10n => kn_among); (case q10cl => exact rfl)))
    (with_reducible rename Fr _ _ _ _ => kF); (with_reducible rename News _ _ _ _ => kN)
    clear kF kN
    intro fw cw ow cvs tw ctw h8 tk8 F' N' dw ew lw1 lw2
    (try dsimp only at N')
    k_lt lw1
    k_lt2 lw2
    k_steps
    (with_reducible rename Fr _ _ _ _ => kF); (with_reducible rename News _ _ _ _ => kN)
    refine wp_unhalt ?_
    k_dflt (refine heard_X (B := hB) (g := g) (L := L) (k := av.length) (e := av.length + ts.length) (ok := true) (d := .list trs) (TS := (ah ++ ts) ++ b) X T kF kN hOg hBg rfl rfl (by (repeat' (first | assumption | exact List.forall_mem_nil _ | (refine List.forall_mem_cons.mpr ⟨fun _ _ z => Data.noConfusion z, ?_⟩) | (refine List.forall_mem_cons.mpr ⟨nd_fields (by assumption), ?_⟩)))) ?hlla ?hokla ?hlenla (News.get kN (by k_mem)) (News.get kN (by k_mem)) dw ew ?hwla (by walk_at "down") (by walk_at "down") ?hretla)
    case hlla =>
      rw [List.map_append, List.map_append]
      exact .list (News.get kN (by k_mem)) (HasAll.append (HasAll.append (hava.keeps fun b o z => kF.keep _ _ (hBg _ _ z)) ⟨tl4, fun p hp => (kN p (by (repeat (first | exact List.mem_append.mpr (.inr (by assumption)) | refine List.Mem.tail _ ?_)))).1, d4⟩) ⟨tlx, fun p hp => (kN p (by (repeat (first | exact List.mem_append.mpr (.inl (by assumption)) | refine List.Mem.tail _ ?_)))).1, hbd⟩)
    case hokla => rw [List.all_append, List.all_append, hahk, hrk, be2]; rfl
    case hlenla => simp only [List.length_append, List.length_cons, List.length_nil]; omega
    case hwla =>
      intro B2 vs2 X2 T2 hl2 hn2 tok2
      have hA : At ((ah ++ ts) ++ b) av.length (ts ++ b) := ⟨ah, by simp, havl⟩
      have hRA := row_at (w := w) hl2 hn2 tok2 (by omega : 1 ≤ 1 + mr) hRR (R := b) be3 hA
      intro B3 o3 d3 u3 g3 s3 Q3 E3 t3 a1 a2 a3 a4 a5 a6 a7
      exact work_exprs X2 T2 hl2 hn2 hRA (by omega) a1 a2 a3 a4 a5 a6 a7
    case hretla =>
      intro g2 h5 tk5 q5 tl5 hB5 hO5 F' N' sq5 hq5 up5
      clear kF kN
      have Xg2 := X.keeps hB5
      have Tg2 := T.keeps hB5
      clear Xg Tg
      k_steps
      (with_reducible rename Fr _ _ _ _ => kF2); (with_reducible rename News _ _ _ _ => kN2)
      refine wp_unhalt ?_
      k_dflt (refine eq_has (da := .tuple [.list trs, .int ((av.length + ts.length : Nat) : Int)]) (db := .tuple [.list trs, .int ((av.length : Int) + (ws.length : Int))]) ⟨_, fun p hp => (kN2 p (by (repeat (first | exact List.mem_append.mpr (.inl (by assumption)) | refine List.Mem.tail _ ?_)))).1, hq5⟩ (.tuple (News.get kN2 (by (repeat (first | exact List.mem_append.mpr (.inr (by k_mem)) | exact List.Mem.head _ | refine List.Mem.tail _ ?_)))) (.cons ⟨tl4, fun p hp => (kN2 p (List.mem_append.mpr (.inr (by (repeat (first | exact List.mem_append.mpr (.inr (by assumption)) | refine List.Mem.tail _ ?_)))))).1, t4⟩ (.cons (.int _ _) .nil))) (kqd_list htr) (kqd_list htr) (by first | walk_at "rm" | ((try dsimp only [Around.deeper, Around.in1]); simp only [cLine]; omega)) true ⟨fun _ => it_eq (by omega), fun _ => rfl⟩ ?_)
      refine ret _ _ (fun b o z => kF2.keep _ _ (hB5 _ _ z)) (fun b o z n1 n2 nf => ?_) ⟨_, (kN2 (P, tabObj _) (by (repeat (first | exact List.mem_append.mpr (.inr (by k_mem)) | exact List.Mem.head _ | refine List.Mem.tail _ ?_)))).1⟩
      obtain ⟨sl, z2⟩ := up5 b o (hin b o z (two_no n1 n2)) nf
      exact ⟨sl, kF2.keep _ _ z2⟩
  · have hkk := hRR.wrong
    obtain ⟨wt9, rfl⟩ : ∃ t9, wv = .int (kk : Int) t9 := by
      simp only [wrD] at w4; cases w4; exact ⟨_, rfl⟩
    k_steps
    refine wp_unhalt ?_
    (with_reducible rename News _ _ _ _ => kN3)
    rcases be4 with hbt | ⟨bne, bend⟩
    · k_dflt (refine eq_has (da := .list (b.map tkD)) (db := .list ([textT].map tkD)) (.list (News.get kN3 (by k_mem)) ⟨tlx, fun p hp => (kN3 p (by (repeat (first | exact List.mem_append.mpr (.inl (by assumption)) | refine List.Mem.tail _ ?_)))).1, hbd⟩) (.list (News.get kN3 (by k_mem)) (.cons (.tuple (News.get kN3 (by k_mem)) (.cons (.str _ _) (.cons (.str _ _) .nil))) .nil)) (kqd_toks be2) (kqd_toks (by decide +kernel)) (by first | walk_at "rm" | ((try dsimp only [Around.deeper, Around.in1]); simp only [cLine]; omega)) true ⟨fun _ => by rw [hbt], fun _ => rfl⟩ ?_)
      k_steps
      refine wp_unhalt ?_
      (with_reducible rename Fr _ _ _ _ => kF); (with_reducible rename News _ _ _ _ => kN)
      k_dflt (refine add_base kF kN hag (by k_mem) (by omega) ?_)
      intro D7 h7 F' N' l7
      k_lt l7
      clear kF kN
      k_steps
      refine wp_unhalt ?_
      (with_reducible rename Fr _ _ _ _ => kF); (with_reducible rename News _ _ _ _ => kN)
      k_dflt (refine add_any kF kN (by k_mem) (by k_mem) (by simp only [List.length_append, List.length_cons, List.length_nil]; omega) ?_)
      intro D8 h8 F' N' l8
      k_lt l8
      clear kF kN
      k_steps
      refine wp_unhalt ?_
      k_dflt (refine' kla_eval ?q11d0 ?_; (case q11d0 => exact rfl))
      (k_dflt (refine' kla_nest ?q11F ?q11N ?q11T ?q11C ?q11cd ?q11U ?q11t ?q11n ?q11cl ?_; (case q11F => k_asm); (case q11N => k_asm); (case q11T => k_asm); (case q11cd => exact rfl); (case q11C => assumption); (case q11U => k_updF); (case q11t => kn_triples); (case q11n => kn_among); (case q11cl => exact rfl)))
      (with_reducible rename Fr _ _ _ _ => kF); (with_reducible rename News _ _ _ _ => kN)
      clear kF kN
      intro fw cw ow cvs tw ctw h8 tk8 F' N' dw ew lw1 lw2
      (try dsimp only at N')
      k_lt lw1
      k_lt2 lw2
      k_steps
      (with_reducible rename Fr _ _ _ _ => kF); (with_reducible rename News _ _ _ _ => kN)
      refine wp_unhalt ?_
      k_dflt (refine heard_X (B := hB) (g := g) (L := L) (k := av.length) (e := av.length + ts.length) (ok := false) (d := .list trs) (TS := (ah ++ ts) ++ []) X T kF kN hOg hBg rfl rfl (by (repeat' (first | assumption | exact List.forall_mem_nil _ | (refine List.forall_mem_cons.mpr ⟨fun _ _ z => Data.noConfusion z, ?_⟩) | (refine List.forall_mem_cons.mpr ⟨nd_fields (by assumption), ?_⟩)))) ?hllb ?hoklb ?hlenlb (News.get kN (by k_mem)) (News.get kN (by k_mem)) dw ew ?hwlb (by walk_at "down") (by walk_at "down") ?hretlb)
      case hllb =>
        rw [List.map_append, List.map_append]
        exact .list (News.get kN (by k_mem)) (HasAll.append (HasAll.append (hava.keeps fun b o z => kF.keep _ _ (hBg _ _ z)) ⟨tl4, fun p hp => (kN p (by (repeat (first | exact List.mem_append.mpr (.inr (by assumption)) | refine List.Mem.tail _ ?_)))).1, d4⟩) .nil)
      case hoklb => rw [List.all_append, List.all_append, hahk, hrk]; rfl
      case hlenlb => simp only [List.length_append, List.length_cons, List.length_nil]; omega
      case hwlb =>
        intro B2 vs2 X2 T2 hl2 hn2 tok2
        have hA : At ((ah ++ ts) ++ []) av.length (ts ++ []) := ⟨ah, by simp, havl⟩
        have hRA := row_at (w := w) hl2 hn2 tok2 (by omega : 1 ≤ 1 + mr) hRR (R := []) end_false hA
        intro B3 o3 d3 u3 g3 s3 Q3 E3 t3 a1 a2 a3 a4 a5 a6 a7
        exact work_exprs X2 T2 hl2 hn2 hRA (by omega) a1 a2 a3 a4 a5 a6 a7
      case hretlb =>
        intro g2 h5 tk5 q5 tl5 hB5 hO5 F' N' sq5 hq5 up5
        clear kF kN
        have Xg2 := X.keeps hB5
        have Tg2 := T.keeps hB5
        clear Xg Tg
        k_steps
        (with_reducible rename Fr _ _ _ _ => kF2); (with_reducible rename News _ _ _ _ => kN2)
        refine wp_unhalt ?_
        k_dflt (refine eq_has (da := .tuple [.str (Str.ofString "SN"), .int ((av.length + ts.length : Nat) : Int)]) (db := .tuple [.str (Str.ofString "SN"), .int ((av.length : Int) + (kk : Int))]) ⟨_, fun p hp => (kN2 p (by (repeat (first | exact List.mem_append.mpr (.inl (by assumption)) | refine List.Mem.tail _ ?_)))).1, hq5⟩ (.tuple (News.get kN2 (by (repeat (first | exact List.mem_append.mpr (.inr (by k_mem)) | exact List.Mem.head _ | refine List.Mem.tail _ ?_)))) (.cons (.str _ _) (.cons (.int _ _) .nil))) kqd_sn kqd_sn (by first | walk_at "rm" | ((try dsimp only [Around.deeper, Around.in1]); simp only [cLine]; omega)) true ⟨fun _ => sn_eq (by omega), fun _ => rfl⟩ ?_)
        refine ret _ _ (fun b o z => kF2.keep _ _ (hB5 _ _ z)) (fun b o z n1 n2 nf => ?_) ⟨_, (kN2 (P, tabObj _) (by (repeat (first | exact List.mem_append.mpr (.inr (by k_mem)) | exact List.Mem.head _ | refine List.Mem.tail _ ?_)))).1⟩
        obtain ⟨sl, z2⟩ := up5 b o (hin b o z (two_no n1 n2)) nf
        exact ⟨sl, kF2.keep _ _ z2⟩
    · k_dflt (refine eq_has (da := .list (b.map tkD)) (db := .list ([textT].map tkD)) (.list (News.get kN3 (by k_mem)) ⟨tlx, fun p hp => (kN3 p (by (repeat (first | exact List.mem_append.mpr (.inl (by assumption)) | refine List.Mem.tail _ ?_)))).1, hbd⟩) (.list (News.get kN3 (by k_mem)) (.cons (.tuple (News.get kN3 (by k_mem)) (.cons (.str _ _) (.cons (.str _ _) .nil))) .nil)) (kqd_toks be2) (kqd_toks (by decide +kernel)) (by first | walk_at "rm" | ((try dsimp only [Around.deeper, Around.in1]); simp only [cLine]; omega)) false ⟨fun z => (nomatch z), fun z => absurd (tk_inj z) bne⟩ ?_)
      k_steps
      refine wp_unhalt ?_
      (with_reducible rename Fr _ _ _ _ => kF); (with_reducible rename News _ _ _ _ => kN)
      k_dflt (refine add_base kF kN hag (by k_mem) (by omega) ?_)
      intro D7 h7 F' N' l7
      k_lt l7
      clear kF kN
      k_steps
      refine wp_unhalt ?_
      (with_reducible rename Fr _ _ _ _ => kF); (with_reducible rename News _ _ _ _ => kN)
      k_dflt (refine add_any kF kN (by k_mem) (by k_mem) (by simp only [List.length_append, List.length_cons, List.length_nil]; omega) ?_)
      intro D8 h8 F' N' l8
      k_lt l8
      clear kF kN
      k_steps
      refine wp_unhalt ?_
      k_dflt (refine' kla_eval ?q12d0 ?_; (case q12d0 => exact rfl))
      (k_dflt (refine' kla_nest ?q12F ?q12N ?q12T ?q12C ?q12cd ?q12U ?q12t ?q12n ?q12cl ?_; (case q12F => k_asm); (case q12N => k_asm); (case q12T => k_asm); (case q12cd => exact rfl); (case q12C => assumption); (case q12U => k_updF); (case q12t => kn_triples); (case q12n => kn_among); (case q12cl => exact rfl)))
      (with_reducible rename Fr _ _ _ _ => kF); (with_reducible rename News _ _ _ _ => kN)
      clear kF kN
      intro fw cw ow cvs tw ctw h8 tk8 F' N' dw ew lw1 lw2
      (try dsimp only at N')
      k_lt lw1
      k_lt2 lw2
      k_steps
      (with_reducible rename Fr _ _ _ _ => kF); (with_reducible rename News _ _ _ _ => kN)
      refine wp_unhalt ?_
      k_dflt (refine heard_X (B := hB) (g := g) (L := L) (k := av.length) (e := av.length + ts.length) (ok := false) (d := .list trs) (TS := (ah ++ ts) ++ b) X T kF kN hOg hBg rfl rfl (by (repeat' (first | assumption | exact List.forall_mem_nil _ | (refine List.forall_mem_cons.mpr ⟨fun _ _ z => Data.noConfusion z, ?_⟩) | (refine List.forall_mem_cons.mpr ⟨nd_fields (by assumption), ?_⟩)))) ?hllc ?hoklc ?hlenlc (News.get kN (by k_mem)) (News.get kN (by k_mem)) dw ew ?hwlc (by walk_at "down") (by walk_at "down") ?hretlc)
      case hllc =>
        rw [List.map_append, List.map_append]
        exact .list (News.get kN (by k_mem)) (HasAll.append (HasAll.append (hava.keeps fun b o z => kF.keep _ _ (hBg _ _ z)) ⟨tl4, fun p hp => (kN p (by (repeat (first | exact List.mem_append.mpr (.inr (by assumption)) | refine List.Mem.tail _ ?_)))).1, d4⟩) ⟨tlx, fun p hp => (kN p (by (repeat (first | exact List.mem_append.mpr (.inl (by assumption)) | refine List.Mem.tail _ ?_)))).1, hbd⟩)
      case hoklc => rw [List.all_append, List.all_append, hahk, hrk, be2]; rfl
      case hlenlc => simp only [List.length_append, List.length_cons, List.length_nil]; omega
      case hwlc =>
        intro B2 vs2 X2 T2 hl2 hn2 tok2
        have hA : At ((ah ++ ts) ++ b) av.length (ts ++ b) := ⟨ah, by simp, havl⟩
        have hRA := row_at (w := w) hl2 hn2 tok2 (by omega : 1 ≤ 1 + mr) hRR (R := b) bend hA
        intro B3 o3 d3 u3 g3 s3 Q3 E3 t3 a1 a2 a3 a4 a5 a6 a7
        exact work_exprs X2 T2 hl2 hn2 hRA (by omega) a1 a2 a3 a4 a5 a6 a7
      case hretlc =>
        intro g2 h5 tk5 q5 tl5 hB5 hO5 F' N' sq5 hq5 up5
        clear kF kN
        have Xg2 := X.keeps hB5
        have Tg2 := T.keeps hB5
        clear Xg Tg
        k_steps
        (with_reducible rename Fr _ _ _ _ => kF2); (with_reducible rename News _ _ _ _ => kN2)
        refine wp_unhalt ?_
        k_dflt (refine eq_has (da := .tuple [.str (Str.ofString "SN"), .int ((av.length + ts.length : Nat) : Int)]) (db := .tuple [.str (Str.ofString "SN"), .int ((av.length : Int) + (kk : Int))]) ⟨_, fun p hp => (kN2 p (by (repeat (first | exact List.mem_append.mpr (.inl (by assumption)) | refine List.Mem.tail _ ?_)))).1, hq5⟩ (.tuple (News.get kN2 (by (repeat (first | exact List.mem_append.mpr (.inr (by k_mem)) | exact List.Mem.head _ | refine List.Mem.tail _ ?_)))) (.cons (.str _ _) (.cons (.int _ _) .nil))) kqd_sn kqd_sn (by first | walk_at "rm" | ((try dsimp only [Around.deeper, Around.in1]); simp only [cLine]; omega)) true ⟨fun _ => sn_eq (by omega), fun _ => rfl⟩ ?_)
        refine ret _ _ (fun b o z => kF2.keep _ _ (hB5 _ _ z)) (fun b o z n1 n2 nf => ?_) ⟨_, (kN2 (P, tabObj _) (by (repeat (first | exact List.mem_append.mpr (.inr (by k_mem)) | exact List.Mem.head _ | refine List.Mem.tail _ ?_)))).1⟩
        obtain ⟨sl, z2⟩ := up5 b o (hin b o z (two_no n1 n2)) nf
        exact ⟨sl, kF2.keep _ _ z2⟩
end
section -- U0
open PySem PySem.W PyProof.Rows PySem.Calls PySem.Spec
variable {w : World} {p : Program} {loose : List Str} {mean : ExcName → Option Value} {mg mb : Str → Option Value} {dp un : Nat} {fr : Option (List Env)} {gd : Option (List Code)} {s : Shared} {Q E : Value → Shared → Prop}
theorem abs_pos {l : List Int} : ∀ x ∈ l.map (fun k' : Int => if k' < 0 then -k' else k'), (0 : Int) ≤ x := fun x hx => by
  obtain ⟨y, _, rfl⟩ := List.mem_map.mp hx
  split <;> omega
theorem scoop_use {g : Heap} {L sd cl : Addr} {i : Int} {u : Tok} {n n2 : Nat} {cv : List Value} {ns : List Int} {m : Int} {tm : Tok} {mm : Str → Option Value} {news : List (Addr × Obj)}
   (X : (kfrag.heap_1 w.params).In g) (T : Top p loose mean mg mb g) (F : Fr g L s.heap mm) (N : News g L s.heap news) (hD : dp < 880) (hU : un < 8990) (h1 : (sd, PySem.W.listOf #[.ref cl, .int i u] n) ∈ news) (h2 : (cl, PySem.W.listOf cv.toArray n2) ∈ news) (ne : cl ≠ sd) (hi0 : -1 ≤ i) (hi1 : i < 40) (hci : IntsAre cv ns) (hc0 : ∀ x ∈ ns, 0 ≤ x) (hcn : ns.length < 1000) (hm0 : 0 < m) (hm9 : m < 10)
   (ret : ∀ h' tk' r ur u', Mu s.heap h' [sd] [(sd, PySem.W.listOf #[.ref cl, .int (i + 1) u'] n)] [] → 0 ≤ r → r < m → Q (.int r ur) { s with heap := h', toks := tk' }) :
   wpAny (model Challenge.rw_pq0141_01.row.prog w) ⟨none, dp, fr, gd, un⟩ (call (.ref 195) [.ref sd, .int m tm]) Q E s := by
  have st : g.StaysIn (hideAll s.heap [sd]) := fun b o e => hideAll_get _ (F.keep _ _ e) fun q => by
    rw [List.mem_singleton.mp q, N.fresh h1] at e; cases e
  exact scooped (hB := hideAll s.heap [sd]) (X.keeps st) (T.keeps st) (fun b o z => of_hideAll _ z) hD hU (N.get h1) (hideAll_none _ (.head _)) hi0 hi1 ⟨_, hideAll_get _ (N.get h2) fun q => ne (List.mem_singleton.mp q), rfl, _, rfl⟩ hci hc0 hcn hm0 hm9 ret
theorem pickA {g h : Heap} {L D l' a b c : Addr} {o1 : Obj} {t1 t2 t3 t4 t5 t6 : Tok} {r : Int} {news : List (Addr × Obj)} (N : News g L h ((D, PySem.W.listOf (slicePick #[Value.ref a, Value.ref b, Value.ref c] none (some r) none) 0) :: (l', o1) :: (c, tupOf [.str (Str.ofString "sign") t5, .str (Str.ofString "(") t6] 0) :: (b, tupOf [.str (Str.ofString "sign") t3, .str (Str.ofString ",") t4] 0) :: (a, tupOf [.str (Str.ofString "word") t1, .str (Str.ofString "LET") t2] 0) :: news)) (h0 : 0 ≤ r) (h1 : r < 4) :
   ∃ (av : List Value) (ah : List Tk), News g L h ((D, PySem.W.listOf av.toArray 0) :: (c, tupOf [.str (Str.ofString "sign") t5, .str (Str.ofString "(") t6] 0) :: (b, tupOf [.str (Str.ofString "sign") t3, .str (Str.ofString ",") t4] 0) :: (a, tupOf [.str (Str.ofString "word") t1, .str (Str.ofString "LET") t2] 0) :: news) ∧
     DatAll [(c, tupOf [.str (Str.ofString "sign") t5, .str (Str.ofString "(") t6] 0), (b, tupOf [.str (Str.ofString "sign") t3, .str (Str.ofString ",") t4] 0), (a, tupOf [.str (Str.ofString "word") t1, .str (Str.ofString "LET") t2] 0)] av (ah.map tkD) ∧ ah.length ≤ 3 ∧ ah.all okT = true := by
  have drop : ∀ {x}, News g L h ((D, x) :: (l', o1) :: (c, tupOf [.str (Str.ofString "sign") t5, .str (Str.ofString "(") t6] 0) :: (b, tupOf [.str (Str.ofString "sign") t3, .str (Str.ofString ",") t4] 0) :: (a, tupOf [.str (Str.ofString "word") t1, .str (Str.ofString "LET") t2] 0) :: news) → News g L h ((D, x) :: (c, tupOf [.str (Str.ofString "sign") t5, .str (Str.ofString "(") t6] 0) :: (b, tupOf [.str (Str.ofString "sign") t3, .str (Str.ofString ",") t4] 0) :: (a, tupOf [.str (Str.ofString "word") t1, .str (Str.ofString "LET") t2] 0) :: news) :=
    fun N => List.forall_mem_cons.mpr ⟨N _ (.head _), fun q hq => N q (.tail _ (.tail _ hq))⟩
  have da : DatIn [(c, tupOf [.str (Str.ofString "sign") t5, .str (Str.ofString "(") t6] 0), (b, tupOf [.str (Str.ofString "sign") t3, .str (Str.ofString ",") t4] 0), (a, tupOf [.str (Str.ofString "word") t1, .str (Str.ofString "LET") t2] 0)] (.ref a) (tkD (Str.ofString "word", Str.ofString "LET")) := .tuple (.tail _ (.tail _ (.head _))) (.cons (.str _ _) (.cons (.str _ _) .nil))
  have db : DatIn [(c, tupOf [.str (Str.ofString "sign") t5, .str (Str.ofString "(") t6] 0), (b, tupOf [.str (Str.ofString "sign") t3, .str (Str.ofString ",") t4] 0), (a, tupOf [.str (Str.ofString "word") t1, .str (Str.ofString "LET") t2] 0)] (.ref b) (tkD (Str.ofString "sign", Str.ofString ",")) := .tuple (.tail _ (.head _)) (.cons (.str _ _) (.cons (.str _ _) .nil))
  have dc : DatIn [(c, tupOf [.str (Str.ofString "sign") t5, .str (Str.ofString "(") t6] 0), (b, tupOf [.str (Str.ofString "sign") t3, .str (Str.ofString ",") t4] 0), (a, tupOf [.str (Str.ofString "word") t1, .str (Str.ofString "LET") t2] 0)] (.ref c) (tkD (Str.ofString "sign", Str.ofString "(")) := .tuple (.head _) (.cons (.str _ _) (.cons (.str _ _) .nil))
  have hr : r = 0 ∨ r = 1 ∨ r = 2 ∨ r = 3 := by omega
  rcases hr with rfl | rfl | rfl | rfl
  · exact ⟨[], [], drop N, .nil, by decide, by decide +kernel⟩
  · exact ⟨[.ref a], [(Str.ofString "word", Str.ofString "LET")], drop N, .cons da .nil, by decide, by decide +kernel⟩
  · exact ⟨[.ref a, .ref b], [(Str.ofString "word", Str.ofString "LET"), (Str.ofString "sign", Str.ofString ",")], drop N, .cons da (.cons db .nil), by decide, by decide +kernel⟩
  · exact ⟨[.ref a, .ref b, .ref c], [(Str.ofString "word", Str.ofString "LET"), (Str.ofString "sign", Str.ofString ","), (Str.ofString "sign", Str.ofString "(")], drop N, .cons da (.cons db (.cons dc .nil)), by decide, by decide +kernel⟩
set_option maxRecDepth 100000 in
set_option maxHeartbeats 8000000 in
theorem lam_E {B : Heap} {fw c' l : Addr} {k : Nat} {d : Dat} {qual : Str} {q1 q2 p1 p2 p3 p4 : Pos} {p5 : Pos} {vsl : List Value} {tt : Tk} {pm ctv : Value} {oc : Obj} {vs : Array Value} {t : Tok} (X : (kfrag.heap_1 w.params).In B) (T : Top p loose mean mg mb B)
   (ho : B.get? fw = some (kla_obj (Str.ofString "<lambda>") qual (lamP q1 q2) (.Call (.Name (Str.ofString "expect") p1) [.Name (Str.ofString "row") p2, .Name (Str.ofString "at") p3, .Constant (.str (Str.ofString "=")) 0 p5] [] p4) (lamS (Str.ofString "expect")) [] pm c' ctv)) (hc : B.get? c' = some oc) (hcd : oc.data = .fields vs) (hcv : vs[1]? = some (.str qual t))
   (hl : B.IsList l vsl.toArray) (hn : vsl.length < 1000) (htk : TokAt B vsl k tt) (h7 : tt ≠ (Str.ofString "sign", Str.ofString "=")) : WorkAt w B fw l k k false d := by
  unfold WorkAt
  revert X; k_fill; intro X
  intro B2 outer2 dp2 un2 gd2 s2 Q2 E2 tk2 hb hB hF hD hU ret err
  have X2 := X.keeps hb
  have T2 := T.keeps hb
  (k_dflt (refine' lam_enter (K := kfrag.heap_1 w.params) (binds := [(Str.ofString "row", .ref l), (Str.ofString "at", .int (k : Int) tk2)]) T2 ?r (hb _ _ ho) ⟨c', oc, vs, t, rfl, hb _ _ hc, hcd, hcv⟩ ?b ?l ?_ ?c2 ?c3 ?c4 ?c5; (case r => simp only [recursionLimit]; omega); (case b => exact rfl); (case l => exact locs rfl); (case c2 => exact rfl); (case c3 => exact rfl); (case c4 => exact rfl); (case c5 => decide)))
  intro L h₁ tk0 F N
  (try dsimp only [lamS])
  (try k_fold)
  k_steps
  (with_reducible rename Fr _ _ _ _ => kF); (with_reducible rename News _ _ _ _ => kN)
  refine wp_unhalt ?_
  refine expRaise (B := B2) (bs := B) (X2.keeps kF.keep) (T2.keeps kF.keep) (fun b o z => kF.keep _ _ (hB _ _ z)) (frames_push kF hB hF rfl (fun z => nomatch z)) (fun b o z => kF.keep _ _ (hb _ _ z)) hl hn (by walk_at "down") (by walk_at "down") htk h7 (by decide +kernel) (fun h' tk' x dd u fly up ns => ?_)
  refine leaveD (B := B2) rfl rfl fly ?_
  intro h3 f3 u3
  exact err rfl _ _ x dd _ _ f3 (((Heap.UpToSlots.of_keeps kF.keep).trans up).trans u3) (u3.ns ns)
theorem heard_E {B g : Heap} {L fw l c' : Addr} {k : Nat} {TS : List Tk} {m : Str → Option Value} {news : List (Addr × Obj)} {outer : List Env} {env : Env} {tk : Tok} {qual : Str} {q1 q2 p1 p2 p3 p4 p5 : Pos} {pm ctv : Value} {oc : Obj} {cvs : Array Value} {t : Tok}
   (X : (kfrag.heap_1 w.params).In B) (T : Top p loose mean mg mb B) (F : Fr g L s.heap m) (N : News g L s.heap news) (hO : Outs B g outer) (hBg : B.StaysIn g) (hf : env.frame = some L) (hk : env.scope.kind = .function) (hd : ∀ p ∈ news, ∀ es n, p.2.data ≠ .dict es n)
   (hl : HasD s.heap (.ref l) (.list (TS.map tkD))) (hok : TS.all okT = true) (htn : TS.length < 1000)
   (hfw : s.heap.get? fw = some (kla_obj (Str.ofString "<lambda>") qual (lamP q1 q2) (.Call (.Name (Str.ofString "expect") p1) [.Name (Str.ofString "row") p2, .Name (Str.ofString "at") p3, .Constant (.str (Str.ofString "=")) 0 p5] [] p4) (lamS (Str.ofString "expect")) [] pm c' ctv)) (hc : s.heap.get? c' = some oc) (hcd : oc.data = .fields cvs) (hcv : cvs[1]? = some (.str qual t))
   (h7 : look TS k ≠ (Str.ofString "sign", Str.ofString "=")) (hD : dp < 790) (hU : un < 8890)
   (ret : ∀ g2 h' tk' q tl, B.StaysIn g2 → Outs B g2 outer → Fr g2 L h' m → News g2 L h' (tl ++ news) → (∀ p ∈ tl, isSeq p = true) → DatIn tl (.ref q) (.tuple [.str (Str.ofString "SN"), .int (k : Int)]) →
     (∀ b o, g.get? b = some o → (∀ vs, o.data ≠ .fields vs) → ∃ sl, g2.get? b = some { o with slots := sl }) → Q (.ref q) { s with heap := h', toks := tk' }) :
   wpAny (model Challenge.rw_pq0141_01.row.prog w) ⟨none, dp, some (env :: outer), gd, un⟩ (call (.ref 216) [.ref fw, .ref l, .int (k : Int) tk]) Q E s := by
  refine heard_use (k := k) (e := k) (ok := false) (d := .none) X T F N hO hBg hf hk hd hl ⟨_, _, hfw, rfl⟩ (kqd_toks hok) (by rw [List.length_map]; exact htn) (fun B2 st into => ?_) hD hU ret
  have X2 := X.keeps st
  have T2 := T.keeps st
  obtain ⟨_, vs, n, hr, hlo, hva⟩ := (hl.into into).list_inv
  cases hr
  intro B3 o3 d3 u3 g3 s3 Q3 E3 t3 a1 a2 a3 a4 a5 a6 a7
  exact lam_E X2 T2 (into _ _ hfw fun _ _ z => nomatch z) (into _ _ hc fun _ _ z => by rw [hcd] at z; cases z) hcd hcv ⟨_, hlo, rfl, _, rfl⟩ (by rw [hva.length, List.length_map]; exact htn) (tokAt_of X2 hva hok k) h7 a1 a2 a3 a4 a5 a6 a7
theorem tl2 {α : Type} {a b c d e : α} {q : α} (h : q ∈ [a, b, c]) : q ∈ a :: b :: c :: [d, e] := List.mem_append_left [d, e] h
theorem tl4 {α : Type} {a b c d e f : α} {q : α} (h : q ∈ [a, b, c, d]) : q ∈ a :: b :: c :: d :: [e, f] := List.mem_append_left [e, f] h
theorem tl3 {α : Type} {a b c d e f : α} {q : α} (h : q ∈ [a, b, c]) : q ∈ a :: b :: c :: [d, e, f] := List.mem_append_left [d, e, f] h
theorem pickL1 {g h : Heap} {L k a0 c b a sd D X P1 P2 P3 : Addr} {ko ao co bo oa so od ox : Obj} (N : News g L h ((k, ko) :: (a0, ao) :: (c, co) :: (b, bo) :: (a, oa) :: (sd, so) :: (D, od) :: (X, ox) :: (P1, tabObj #[]) :: (P2, tabObj #[]) :: (P3, tabObj #[]) :: [])) :
   News g L h ((k, ko) :: (a0, ao) :: (c, co) :: (b, bo) :: (a, oa) :: (D, od) :: (P2, tabObj #[]) :: (P3, tabObj #[]) :: []) ∧ News g L h [(sd, so), (P1, tabObj #[])] :=
  ⟨fun q hq => N q (by simp only [List.mem_cons, List.not_mem_nil, or_false] at hq ⊢; rcases hq with h | h | h | h | h | h | h | h <;> simp [h]), fun q hq => N q (by simp only [List.mem_cons, List.not_mem_nil, or_false] at hq ⊢; rcases hq with h | h <;> simp [h])⟩
theorem pickL2 {g h : Heap} {L k a0 c b a sd D X P1 P2 P3 : Addr} {ko ao co bo oa so od ox : Obj} (N : News g L h ((k, ko) :: (a0, ao) :: (c, co) :: (b, bo) :: (a, oa) :: (sd, so) :: (D, od) :: (X, ox) :: (P1, tabObj #[]) :: (P2, tabObj #[]) :: (P3, tabObj #[]) :: [])) :
   News g L h ((k, ko) :: (a0, ao) :: (c, co) :: (b, bo) :: (a, oa) :: (D, od) :: (P1, tabObj #[]) :: (P3, tabObj #[]) :: []) ∧ News g L h [(sd, so), (P2, tabObj #[])] :=
  ⟨fun q hq => N q (by simp only [List.mem_cons, List.not_mem_nil, or_false] at hq ⊢; rcases hq with h | h | h | h | h | h | h | h <;> simp [h]), fun q hq => N q (by simp only [List.mem_cons, List.not_mem_nil, or_false] at hq ⊢; rcases hq with h | h <;> simp [h])⟩
theorem tright_use {B g : Heap} {L sd cl al P : Addr} {i : Int} {u : Tok} {n n2 : Nat} {cv : List Value} {ns : List Int} {mm : Str → Option Value} {news : List (Addr × Obj)} {env : Env} {ah : List Tk}
   (X : (kfrag.heap_1 w.params).In B) (T : Top p loose mean mg mb B) (F : Fr g L s.heap mm) (N : News g L s.heap news) (hBg : B.StaysIn g) (hf : env.frame = some L) (hk : env.scope.kind = .function) (hD : dp < 780) (hU : un < 8880) 
   (N2 : News g L s.heap [(sd, PySem.W.listOf #[.ref cl, .int i u] n), (P, tabObj #[])]) (hn : ∀ p ∈ news, p.1 ∉ [sd, P]) (hd : ∀ p ∈ news, ∀ es n, p.2.data ≠ .dict es n) (h2 : (cl, PySem.W.listOf cv.toArray n2) ∈ news) (hi0 : -1 ≤ i) (hi1 : i < 20) (hci : IntsAre cv ns) (hc0 : ∀ x ∈ ns, 0 ≤ x) (hcn : ns.length < 1000)
   (hC : CodeHd B 222 P) (hsP : sd ≠ P) (hah : ∀ h : Heap, (∀ p ∈ news, h.get? p.1 = some p.2) → HasD h (.ref al) (.list (ah.map tkD))) (hahl : ah.length ≤ 3) (hahk : ah.all okT = true)
   (ret : ∀ g2 h' tk' ps, B.StaysIn g2 → Fr g2 L h' mm → News g2 L h' ((P, tabObj ps) :: news) → Q (.bool true) { s with heap := h', toks := tk' }) :
   wpAny (model Challenge.rw_pq0141_01.row.prog w) ⟨none, dp, some [env], gd, un⟩ (call (.ref 223) [.ref sd, .ref al]) Q E s := by
  have hO : Outs B g [] := Outs.nil
  have O := frames_now F hO hBg hf hk
  have bn : ∀ {a o}, (a, o) ∈ [(sd, PySem.W.listOf #[.ref cl, .int i u] n), (P, tabObj #[])] → B.get? a = none := fun {a o} hm => by
    cases e : B.get? a with
    | none => rfl
    | some o' => have := hBg _ _ e; rw [N2.fresh hm] at this; cases this
  have ba : ∀ a ∈ [sd, P], B.get? a = none := List.forall_mem_cons.mpr ⟨bn (.head _), List.forall_mem_cons.mpr ⟨bn (.tail _ (.head _)), List.forall_mem_nil _⟩⟩
  have st := O.stays (fun b o z => F.keep _ _ (hBg _ _ z)) (as := [sd, P]) ba
  have into : ∀ b o, s.heap.get? b = some o → (∀ es n, o.data ≠ .dict es n) → b ∉ [sd, P] → (hideAll s.heap (framesOf [env] ++ [sd, P])).get? b = some o := fun b o z hd nq => O.into z hd nq
  have inN : ∀ p ∈ news, (hideAll s.heap (framesOf [env] ++ [sd, P])).get? p.1 = some p.2 := fun p hp => into _ _ (N p hp).1 (hd p hp) (hn p hp)
  have hc : (hideAll s.heap (framesOf [env] ++ [sd, P])).IsList cl cv.toArray := ⟨_, inN _ h2, rfl, _, rfl⟩
  refine tright (hB := hideAll s.heap (framesOf [env] ++ [sd, P])) (X.keeps st) (T.keeps st) (fun b o z => of_hideAll _ z) (O.hide _) hD hU (N2.get (.head _)) (hideAll_none _ (List.mem_append.mpr (.inr (.head _)))) hi0 hi1 hc hci hc0 hcn (CodeHd.keeps hC st) (N2.get (.tail _ (.head _))) (hideAll_none _ (List.mem_append.mpr (.inr (.tail _ (.head _))))) hsP (hah _ inN) hahl hahk fun h' tk' sB up hP => ?_
  obtain ⟨ps, hP⟩ := hP
  have sP : ∀ p ∈ [(P, tabObj ps)], h'.get? p.1 = some p.2 ∧ B.get? p.1 = none ∧ ∀ es n, p.2.data ≠ .dict es n := List.forall_mem_cons.mpr ⟨⟨hP, bn (.tail _ (.head _)), fun _ _ z => (nomatch z)⟩, List.forall_mem_nil _⟩
  have Lsd : L ∉ [sd, P] := fun q => by
    rcases List.mem_cons.mp q with q | q
    · exact (N2 _ (.head _)).2.1 q.symm
    · exact (N2 _ (.tail _ (.head _))).2.1 (List.mem_singleton.mp q).symm
  obtain ⟨g2, a, b, c, d2, e2, f2⟩ := rebase2 (tl := [(P, tabObj ps)]) (as := [sd, P]) F N hO hBg hd sP (fun b o z hd nq => sB _ _ (into _ _ z hd nq)) (fun b o z => sB _ _ (st _ _ z)) (fun b o z nq q => up _ _ z (fun e => nq (e ▸ .head _)) (fun e => nq (e ▸ .tail _ (.head _))) q) Lsd hn (fun _ q => nomatch q)
  exact ret g2 h' tk' ps a d2 e2
theorem lright_use {B g : Heap} {L sd cl al P : Addr} {i : Int} {u : Tok} {n n2 : Nat} {cv : List Value} {ns : List Int} {mm : Str → Option Value} {news : List (Addr × Obj)} {env : Env} {ah : List Tk}
   (X : (kfrag.heap_1 w.params).In B) (T : Top p loose mean mg mb B) (F : Fr g L s.heap mm) (N : News g L s.heap news) (hBg : B.StaysIn g) (hf : env.frame = some L) (hk : env.scope.kind = .function) (hD : dp < 780) (hU : un < 8880) 
   (N2 : News g L s.heap [(sd, PySem.W.listOf #[.ref cl, .int i u] n), (P, tabObj #[])]) (hn : ∀ p ∈ news, p.1 ∉ [sd, P]) (hd : ∀ p ∈ news, ∀ es n, p.2.data ≠ .dict es n) (h2 : (cl, PySem.W.listOf cv.toArray n2) ∈ news) (hi0 : -1 ≤ i) (hi1 : i < 20) (hci : IntsAre cv ns) (hc0 : ∀ x ∈ ns, 0 ≤ x) (hcn : ns.length < 1000)
   (hC : CodeHd B 229 P) (hsP : sd ≠ P) (hah : ∀ h : Heap, (∀ p ∈ news, h.get? p.1 = some p.2) → HasD h (.ref al) (.list (ah.map tkD))) (hahl : ah.length ≤ 3) (hahk : ah.all okT = true)
   (ret : ∀ g2 h' tk' ps, B.StaysIn g2 → Fr g2 L h' mm → News g2 L h' ((P, tabObj ps) :: news) → Q (.bool true) { s with heap := h', toks := tk' }) :
   wpAny (model Challenge.rw_pq0141_01.row.prog w) ⟨none, dp, some [env], gd, un⟩ (call (.ref 230) [.ref sd, .ref al]) Q E s := by
  have hO : Outs B g [] := Outs.nil
  have O := frames_now F hO hBg hf hk
  have bn : ∀ {a o}, (a, o) ∈ [(sd, PySem.W.listOf #[.ref cl, .int i u] n), (P, tabObj #[])] → B.get? a = none := fun {a o} hm => by
    cases e : B.get? a with
    | none => rfl
    | some o' => have := hBg _ _ e; rw [N2.fresh hm] at this; cases this
  have ba : ∀ a ∈ [sd, P], B.get? a = none := List.forall_mem_cons.mpr ⟨bn (.head _), List.forall_mem_cons.mpr ⟨bn (.tail _ (.head _)), List.forall_mem_nil _⟩⟩
  have st := O.stays (fun b o z => F.keep _ _ (hBg _ _ z)) (as := [sd, P]) ba
  have into : ∀ b o, s.heap.get? b = some o → (∀ es n, o.data ≠ .dict es n) → b ∉ [sd, P] → (hideAll s.heap (framesOf [env] ++ [sd, P])).get? b = some o := fun b o z hd nq => O.into z hd nq
  have inN : ∀ p ∈ news, (hideAll s.heap (framesOf [env] ++ [sd, P])).get? p.1 = some p.2 := fun p hp => into _ _ (N p hp).1 (hd p hp) (hn p hp)
  have hc : (hideAll s.heap (framesOf [env] ++ [sd, P])).IsList cl cv.toArray := ⟨_, inN _ h2, rfl, _, rfl⟩
  refine lright (hB := hideAll s.heap (framesOf [env] ++ [sd, P])) (X.keeps st) (T.keeps st) (fun b o z => of_hideAll _ z) (O.hide _) hD hU (N2.get (.head _)) (hideAll_none _ (List.mem_append.mpr (.inr (.head _)))) hi0 hi1 hc hci hc0 hcn (CodeHd.keeps hC st) (N2.get (.tail _ (.head _))) (hideAll_none _ (List.mem_append.mpr (.inr (.tail _ (.head _))))) hsP (hah _ inN) hahl hahk fun h' tk' sB up hP => ?_
  obtain ⟨ps, hP⟩ := hP
  have sP : ∀ p ∈ [(P, tabObj ps)], h'.get? p.1 = some p.2 ∧ B.get? p.1 = none ∧ ∀ es n, p.2.data ≠ .dict es n := List.forall_mem_cons.mpr ⟨⟨hP, bn (.tail _ (.head _)), fun _ _ z => (nomatch z)⟩, List.forall_mem_nil _⟩
  have Lsd : L ∉ [sd, P] := fun q => by
    rcases List.mem_cons.mp q with q | q
    · exact (N2 _ (.head _)).2.1 q.symm
    · exact (N2 _ (.tail _ (.head _))).2.1 (List.mem_singleton.mp q).symm
  obtain ⟨g2, a, b, c, d2, e2, f2⟩ := rebase2 (tl := [(P, tabObj ps)]) (as := [sd, P]) F N hO hBg hd sP (fun b o z hd nq => sB _ _ (into _ _ z hd nq)) (fun b o z => sB _ _ (st _ _ z)) (fun b o z nq q => up _ _ z (fun e => nq (e ▸ .head _)) (fun e => nq (e ▸ .tail _ (.head _))) q) Lsd hn (fun _ q => nomatch q)
  exact ret g2 h' tk' ps a d2 e2
theorem pickS {g h : Heap} {L D9 l' en P k a0 c b a D P2 P3 : Addr} {n1 : Nat} {o1 oP ko ao co bo oa od oP2 oP3 : Obj} {av : List Value} {ah : List Tk} {t1 t2 : Tok} (N : News g L h ((D9, PySem.W.listOf (av ++ [Value.ref en]).toArray n1) :: (l', o1) :: (en, tupOf [.str (Str.ofString "sign") t1, .str (Str.ofString "=") t2] 0) :: (P, oP) :: (P2, oP2) :: (k, ko) :: (a0, ao) :: (c, co) :: (b, bo) :: (a, oa) :: (D, od) :: (P3, oP3) :: [])) (hav : DatAll [(c, co), (b, bo), (a, oa)] av (ah.map tkD)) :
   ∃ (sv : List Value), News g L h ((D9, PySem.W.listOf sv.toArray n1) :: (P, oP) :: (k, ko) :: (a0, ao) :: (en, tupOf [.str (Str.ofString "sign") t1, .str (Str.ofString "=") t2] 0) :: (c, co) :: (b, bo) :: (a, oa) :: (P2, oP2) :: (P3, oP3) :: []) ∧ (∀ h : Heap, (∀ p ∈ [(en, tupOf [.str (Str.ofString "sign") t1, .str (Str.ofString "=") t2] 0), (c, co), (b, bo), (a, oa)], h.get? p.1 = some p.2) → HasAll h sv ((ah ++ [eqT]).map tkD)) ∧ sv.length = av.length + 1 := by
  refine ⟨av ++ [Value.ref en], fun q hq => N q (by simp only [List.mem_cons, List.not_mem_nil, or_false] at hq ⊢; rcases hq with h | h | h | h | h | h | h | h | h | h <;> simp [h]), fun h k => ?_, by simp⟩
  rw [List.map_append]
  exact HasAll.append ⟨_, fun p hp => k p (.tail _ hp), hav⟩ (.cons (.tuple (vs := [_, _]) (n := 0) (k _ (.head _)) (.cons (.str _ _) (.cons (.str _ _) .nil))) .nil)
theorem end_has {B : Heap} (X : (kfrag.heap_1 w.params).In B) : HasD B (.ref 55) (tkD endT) := by
  have h : ∃ t1 t2 n, B.get? 55 = some (tupOf [.str (Str.ofString "end") t1, .str (Str.ofString "") t2] n) := ⟨_, _, _, X 55 _ (by rfl)⟩
  obtain ⟨t1, t2, n, h⟩ := h
  exact HasD.tuple h (.cons (.str _ t1) (.cons (.str _ t2) .nil))
theorem tok_now {g : Heap} {L : Addr} {m : Str → Option Value} {news : List (Addr × Obj)} {l a : Addr} {vs : List Value} {k : Nat} {i : Int} {tk : Tok} (F : Fr g L s.heap m) (N : News g L s.heap news) (X : (kfrag.heap_1 w.params).In g) (T : Top p loose mean mg mb g) (hl : s.heap.IsList l vs.toArray) (hi : i = (k : Int)) (hn : vs.length < 1000) (hv : tokV vs k = .ref a) (hD : dp < 880) (hU : un < 8990) 
   (ret : ∀ h' tk', (∀ b o, s.heap.get? b = some o → h'.get? b = some o) → Fr g L h' m → News g L h' news → Q (.ref a) { s with heap := h', toks := tk' }) :
   wpAny (model Challenge.rw_pq0141_01.row.prog w) ⟨none, dp, fr, gd, un⟩ (call (.ref 62) [.ref l, .int i tk]) Q E s :=
  tok_at w k (X.keeps F.keep) (T.keeps F.keep) (by dsimp only; omega) hl hi hn fun h' tk' kk => hv ▸ ret h' tk' kk (fr_on F kk) (news_on N kk)
theorem sign_now (b : Bool) {g : Heap} {L : Addr} {m : Str → Option Value} {news : List (Addr × Obj)} {l : Addr} {vs : List Value} {k : Nat} {i : Int} {tk tk2 : Tok} {sg : Str} {t : Tk} (F : Fr g L s.heap m) (N : News g L s.heap news) (X : (kfrag.heap_1 w.params).In g) (T : Top p loose mean mg mb g) (hl : s.heap.IsList l vs.toArray) (hi : i = (k : Int)) (hn : vs.length < 1000) (ht : TokAt s.heap vs k t) (s3 : PyData.strOk sg = true) (hv : decide (t = (Str.ofString "sign", sg)) = b) (hD : dp < 880) (hU : un < 8990) 
   (ret : ∀ h' tk', (∀ b o, s.heap.get? b = some o → h'.get? b = some o) → Fr g L h' m → News g L h' news → Q (.bool b) { s with heap := h', toks := tk' }) :
   wpAny (model Challenge.rw_pq0141_01.row.prog w) ⟨none, dp, fr, gd, un⟩ (call (.ref 69) [.ref l, .int i tk, .str sg tk2]) Q E s := by
  obtain ⟨⟨s1, s2⟩, a, t1, t2, ha, hp⟩ := ht
  exact is_sign w k (X.keeps F.keep) (T.keeps F.keep) (by dsimp only; omega) (by dsimp only; omega) hl hi hn ha hp s1 s2 s3 fun h' tk' kk => hv ▸ ret h' tk' kk (fr_on F kk) (news_on N kk)
theorem exp_now {g : Heap} {L : Addr} {m : Str → Option Value} {news : List (Addr × Obj)} {l : Addr} {vs : List Value} {k : Nat} {tk u0 : Tok} {sg : Str} {t : Tk} (F : Fr g L s.heap m) (N : News g L s.heap news) (X : (kfrag.heap_1 w.params).In g) (T : Top p loose mean mg mb g) (hl : s.heap.IsList l vs.toArray) (hn : vs.length < 1000) (ht : TokAt s.heap vs k t) (he : t = (Str.ofString "sign", sg)) (s3 : PyData.strOk sg = true) (hD : dp < 840) (hU : un < 8950) 
   (ret : ∀ h' tk' u, (∀ b o, s.heap.get? b = some o → h'.get? b = some o) → Fr g L h' m → News g L h' news → Q (.int ((k + 1 : Nat) : Int) u) { s with heap := h', toks := tk' }) :
   wpAny (model Challenge.rw_pq0141_01.row.prog w) ⟨none, dp, fr, gd, un⟩ (call (.ref 76) [.ref l, .int (k : Int) tk, .str sg u0]) Q E s :=
  expOk (X.keeps F.keep) (T.keeps F.keep) (fun _ _ z => z) hl hn hD hU (he ▸ ht) s3 fun h' tk' u kk => ret h' tk' u kk (fr_on F kk) (news_on N kk)
def MarkC : Prop := True
theorem wp_cut {M : Model} {A' : Around} {t : Sem Value} {B g : Heap} {L P1 P2 P3 k a0 c b a sd D X : Addr} {ko ao co bo oa so od ox : Obj} {m : Str → Option Value} (_F : Fr g L s.heap m) (_N : News g L s.heap ((k, ko) :: (a0, ao) :: (c, co) :: (b, bo) :: (a, oa) :: (sd, so) :: (D, od) :: (X, ox) :: (P1, tabObj #[]) :: (P2, tabObj #[]) :: (P3, tabObj #[]) :: []))
   (key : (∀ g2 h' tk' ps1 ps2, B.StaysIn g2 → Fr g2 L h' m → News g2 L h' ((P1, tabObj ps1) :: (P2, tabObj ps2) :: (k, ko) :: (a0, ao) :: (c, co) :: (b, bo) :: (a, oa) :: (D, od) :: (P3, tabObj #[]) :: []) → Q (.bool true) { s with heap := h', toks := tk' })) (walk : (∀ g2 h' tk' ps1 ps2, B.StaysIn g2 → Fr g2 L h' m → News g2 L h' ((P1, tabObj ps1) :: (P2, tabObj ps2) :: (k, ko) :: (a0, ao) :: (c, co) :: (b, bo) :: (a, oa) :: (D, od) :: (P3, tabObj #[]) :: []) → Q (.bool true) { s with heap := h', toks := tk' }) → wpAny M A' t Q E s) : wpAny M A' t Q E s := walk key
theorem permP1 {α : Type} {x1 x2 x3 k a0 c b a d q : α} (h : q ∈ [x1, x2, k, a0, c, b, a, d, x3]) : q ∈ [x1, k, a0, c, b, a, d, x2, x3] := by
  simp only [List.mem_cons, List.not_mem_nil, or_false] at h ⊢
  rcases h with h | h | h | h | h | h | h | h | h <;> simp [h]
theorem permP2 {α : Type} {x1 x2 x3 k a0 c b a d q : α} (h : q ∈ [x2, x1, k, a0, c, b, a, d, x3]) : q ∈ [x1, k, a0, c, b, a, d, x2, x3] := by
  simp only [List.mem_cons, List.not_mem_nil, or_false] at h ⊢
  rcases h with h | h | h | h | h | h | h | h | h <;> simp [h]
end
section -- U1
open PySem PySem.W PyProof.Rows PySem.Calls PySem.Spec
variable {w : World} {p : Program} {loose : List Str} {mean : ExcName → Option Value} {mg mb : Str → Option Value} {dp un : Nat} {fr : Option (List Env)} {gd : Option (List Code)} {s : Shared} {Q E : Value → Shared → Prop}
local macro_rules | `(tactic| walk_at "subscriptTail") => `(tactic| (k_here; (with_reducible show wpAny _ _ (subscriptTail (PySem.Expr.List _ _) _ (Value.ref _) (Value.ref _)) _ _ _); refine wp_halt ?_))
local macro_rules | `(tactic| walk_at "eval IfExp") => `(tactic| (k_here; (fail_if_success (have hz : MarkC := (by assumption))); refine wp_halt ?_))
local macro_rules | `(tactic| walk_at "compareOp NotEq ref ref") => `(tactic| (k_here; (with_reducible show wpAny _ _ (compareOp CmpOp.NotEq (Value.ref _) (Value.ref _)) _ _ _); refine wp_halt ?_))
set_option maxRecDepth 100000 in
set_option maxHeartbeats 8000000 in
theorem lawT {hB : Heap} {sc P1 P2 P3 : Addr} {cv : List Value} {ns : List Int} (X : (kfrag.heap_1 w.params).In hB) (T : Top p loose mean mg mb hB) (hs0 : hB.StaysIn s.heap) (hD : dp < 500) (hU : un < 5000) (hsc : hB.IsList sc cv.toArray) (hci : IntsAre cv ns) (hcn : ns.length < 100)
   (hC1 : CodeHd hB 222 P1) (hC2 : CodeHd hB 229 P2) (hC3 : CodeHd hB 234 P3) (hP1 : s.heap.get? P1 = some (tabObj #[])) (hP2 : s.heap.get? P2 = some (tabObj #[])) (hP3 : s.heap.get? P3 = some (tabObj #[])) (hB1 : hB.get? P1 = none) (hB2 : hB.get? P2 = none) (hB3 : hB.get? P3 = none) (n12 : P1 ≠ P2) (n13 : P1 ≠ P3) (n23 : P2 ≠ P3)
   (ret : ∀ h' tk', hB.StaysIn h' → (∃ ps, h'.get? P1 = some (tabObj ps)) → (∃ ps, h'.get? P2 = some (tabObj ps)) → (∃ ps, h'.get? P3 = some (tabObj ps)) → Q (.bool true) { s with heap := h', toks := tk' }) :
   wpAny (model Challenge.rw_pq0141_01.row.prog w) ⟨none, dp, some [], gd, un⟩ (call (.ref 235) [.ref sc]) Q E s := by
  revert X; k_fill; intro X
  have hO : Outs hB s.heap [] := Outs.nil
  (k_dflt (refine' fr_def (binds := [(Str.ofString "script", .ref sc)]) [(P1, tabObj #[]), (P2, tabObj #[]), (P3, tabObj #[])] ?k3 ?k5 ?kb ?kO ?km ?k8 ?k6 ?k7 ?k9 ?kB ?_ ?c2 ?c3 ?c4 ?c5; (case k3 => assumption); (case k5 => assumption); (case kb => assumption); (case kO => assumption); (case km => exact (List.forall_mem_cons.mpr ⟨⟨hP1, hB1, fun _ _ z => (nomatch z)⟩, List.forall_mem_cons.mpr ⟨⟨hP2, hB2, fun _ _ z => (nomatch z)⟩, List.forall_mem_cons.mpr ⟨⟨hP3, hB3, fun _ _ z => (nomatch z)⟩, List.forall_mem_nil _⟩⟩⟩)); (case k6 => k_is); (case k7 => k_is); (case k8 => simp only [recursionLimit]; omega); (case k9 => exact BindsTo.of_eq rfl); (case c5 => decide); (case kB => exact locs rfl); (case c2 => exact rfl); (case c3 => exact rfl); (case c4 => exact rfl)))
  intro g L h₁ tk0 hBg hgs hin Xg Tg hlt hOg F N
  (try dsimp only [List.reverse, List.reverseAux])
  (try k_fold)
  have hsg := stays_list hBg hsc
  have hCg := CodeHd.keeps hC3 hBg
  clear hP1 hP2 hP3
  k_steps
  refine wp_unhalt ?_
  have hys0 : ∀ x ∈ (List.map (fun k' => if k' < 0 then -k' else k') (List.take 24 ns)), (0 : Int) ≤ x := abs_pos
  have hysn : (List.map (fun k' : Int => if k' < 0 then -k' else k') (List.take 24 ns)).length < 1000 := by rw [List.length_map, List.length_take]; omega
  (with_reducible rename Fr _ _ _ _ => kF); (with_reducible rename News _ _ _ _ => kN)
  (k_dflt (refine scoop_use (g := g) (m := 2) Xg Tg kF kN (by walk_at "down") (by walk_at "down") (by k_mem) (by k_mem) (by k_ne) (by omega) (by omega) (by assumption) hys0 hysn (by decide) (by decide) ?_))
  intro h' tk' r ur u' M hr0 hr1
  ((with_reducible rename Fr _ _ _ _ => zkF); (with_reducible rename News _ _ _ _ => zkN); (rename Mu _ _ _ _ _ => zkM); have zne := apart_of (mu_ne zkN zkM); k_dflt (have zN := news_mu1 zkF zkN (by k_upd) zkM); k_dflt (have zF := fr_mu1 zkF zkN (by k_upd) zkM); (try dsimp only [List.cons_append, List.nil_append] at zN); (try simp only [List.push_toArray, List.cons_append, List.nil_append] at zN); (repeat (have _ := And.left zne; replace zne := And.right zne)); clear zne zkF zkN zkM)
  k_steps
  refine wp_unhalt ?_
  (with_reducible rename Fr _ _ _ _ => kF); (with_reducible rename News _ _ _ _ => kN)
  (k_dflt (refine scoop_use (g := g) (m := 4) Xg Tg kF kN (by walk_at "down") (by walk_at "down") (by k_mem) (by k_mem) (by k_ne) (by omega) (by omega) (by assumption) hys0 hysn (by decide) (by decide) ?_))
  intro h' tk' r ur u' M hr0 hr1
  ((with_reducible rename Fr _ _ _ _ => zkF); (with_reducible rename News _ _ _ _ => zkN); (rename Mu _ _ _ _ _ => zkM); have zne := apart_of (mu_ne zkN zkM); k_dflt (have zN := news_mu1 zkF zkN (by k_upd) zkM); k_dflt (have zF := fr_mu1 zkF zkN (by k_upd) zkM); (try dsimp only [List.cons_append, List.nil_append] at zN); (try simp only [List.push_toArray, List.cons_append, List.nil_append] at zN); (repeat (have _ := And.left zne; replace zne := And.right zne)); clear zne zkF zkN zkM)
  k_steps
  refine wp_unhalt ?_
  (with_reducible rename Fr _ _ _ _ => kF); (with_reducible rename News _ _ _ _ => kN)
  k_dflt (refine kba_turn (value' := PySem.Expr.Name (PySem.Str.ofString "_") ⟨0, 0, 0, 0⟩) (fun _ => rfl) ?_)
  k_dflt (refine' kmk_slice ?sF ?sN ?sl ?sp ?sq ?_ ?ss ?st ?sz; (case sF => k_asm); (case sN => k_asm); (case sl => kmk_list); (case sp => kmk_part); (case sq => kmk_part); (case ss => with_unfolding_all rfl); (case st => (intro _; with_unfolding_all rfl)); (case sz => kmk_size))
  clear kN
  intro D' h' F' N' l1
  clear kF
  k_lt l1
  (with_reducible rename Fr _ _ _ _ => kF); (with_reducible rename News _ _ _ _ => kN)
  obtain ⟨av, ah, N', hav, hahl, hahk⟩ := pickA kN (by assumption) (by assumption)
  clear kN
  have havl : av.length = ah.length := by rw [datAll_len hav, List.length_map]
  have havn : av.length ≤ 3 := by rw [havl]; exact hahl
  k_steps
  refine wp_unhalt ?_
  (with_reducible rename Fr _ _ _ _ => kF0)
  refine wp_cut (B := hB) (L := L) (P1 := P1) (P2 := P2) (P3 := P3) kF0 (by assumption) ?ckey ?cwalk
  case ckey =>
    intro g2 h' tk' ps1 ps2 hB2 F' N'
    have Xg2 := X.keeps hB2
    have Tg2 := T.keeps hB2
    have hCg2 := CodeHd.keeps hC3 hB2
    clear Xg Tg hCg
    k_steps
    refine wp_unhalt ?_
    k_dflt (refine add_any (by k_asm) (by k_asm) (by k_mem) (by k_mem) (by simp only [List.length_append, List.length_cons, List.length_nil]; omega) ?_)
    (with_reducible rename Fr _ _ _ _ => kF); (with_reducible rename News _ _ _ _ => kN)
    clear kF kN
    intro D9 h9 F' N' l9
    k_lt l9
    (with_reducible rename News _ _ _ _ => kN)
    obtain ⟨sv, N', hsv, hsl⟩ := pickS kN hav
    clear kN
    have hslA : sv.length = (ah ++ [eqT]).length := by rw [hsl, List.length_append, List.length_singleton, havl]
    have hokA : (ah ++ [eqT]).all okT = true := by rw [List.all_append, hahk]; decide +kernel
    have hlkA : look (ah ++ [eqT]) av.length = eqT := by have e0 := look_app (R := [eqT]) havl 0; rw [Nat.add_zero] at e0; rw [e0]; rfl
    have hlkE : look (ah ++ [eqT]) sv.length = endT := by unfold look; rw [List.getD_eq_getElem?_getD, List.getElem?_eq_none (by omega)]; rfl
    have hvE : tokV sv sv.length = .ref 55 := by unfold tokV; rw [List.getElem?_eq_none (by omega)]; rfl
    k_steps
    refine wp_unhalt ?_
    (with_reducible rename Fr _ _ _ _ => kF); (with_reducible rename News _ _ _ _ => kN)
    k_dflt (refine ne_has (da := .list (ah.map tkD)) (db := .list (ah.map tkD)) (.list (kN _ (.tail _ (.tail _ (.tail _ (.head _))))).1 ⟨_, fun q hq => (kN q (.tail _ (.tail _ (.tail _ (.tail _ (.tail _ (tl2 hq))))))).1, hav⟩) (.list (kN _ (.tail _ (.tail _ (.head _)))).1 ⟨_, fun q hq => (kN q (.tail _ (.tail _ (.tail _ (.tail _ (.tail _ (tl2 hq))))))).1, hav⟩) (kqd_toks hahk) (kqd_toks hahk) (by first | walk_at "rm" | ((try dsimp only [Around.deeper, Around.in1]); simp only [cLine]; omega)) true ⟨fun _ => rfl, fun _ => rfl⟩ ?_)
    k_steps
    refine wp_unhalt ?_
    k_dflt (refine tok_now (k := sv.length) kF kN Xg2 Tg2 (News.isList kN (.head _)) rfl (by omega) hvE (by walk_at "down") (by walk_at "down") ?_)
    clear kF kN
    intro h' tk' kk F' N'
    k_steps
    refine wp_unhalt ?_
    (with_reducible rename Fr _ _ _ _ => kF); (with_reducible rename News _ _ _ _ => kN)
    k_dflt (refine ne_has (da := tkD endT) (db := tkD endT) (end_has (Xg2.keeps kF.keep)) (.tuple (kN _ (.head _)).1 (.cons (.str _ _) (.cons (.str _ _) .nil))) (by decide +kernel) (by decide +kernel) (by first | walk_at "rm" | ((try dsimp only [Around.deeper, Around.in1]); simp only [cLine]; omega)) true ⟨fun _ => rfl, fun _ => rfl⟩ ?_)
    k_steps
    refine wp_unhalt ?_
    k_dflt (refine sign_now true (k := av.length) (t := eqT) kF kN Xg2 Tg2 (News.isList kN (.tail _ (.head _))) rfl (by omega) (hlkA ▸ tokAt_of (Xg2.keeps kF.keep) (hsv _ fun q hq => (kN q (.tail _ (.tail _ (.tail _ (.tail _ (.tail _ (tl4 hq))))))).1) hokA av.length) (by decide +kernel) (by decide +kernel) (by walk_at "down") (by walk_at "down") ?_)
    clear kF kN
    intro h' tk' kk F' N'
    k_steps
    refine wp_unhalt ?_
    (with_reducible rename Fr _ _ _ _ => kF); (with_reducible rename News _ _ _ _ => kN)
    k_dflt (refine sign_now false (k := sv.length) (t := endT) kF kN Xg2 Tg2 (News.isList kN (.tail _ (.head _))) rfl (by omega) (hlkE ▸ tokAt_of (Xg2.keeps kF.keep) (hsv _ fun q hq => (kN q (.tail _ (.tail _ (.tail _ (.tail _ (.tail _ (tl4 hq))))))).1) hokA sv.length) (by decide +kernel) (by decide +kernel) (by walk_at "down") (by walk_at "down") ?_)
    clear kF kN
    intro h' tk' kk F' N'
    k_steps
    refine wp_unhalt ?_
    (with_reducible rename Fr _ _ _ _ => kF); (with_reducible rename News _ _ _ _ => kN)
    k_dflt (refine exp_now (k := av.length) (t := eqT) kF kN Xg2 Tg2 (News.isList kN (.tail _ (.head _))) (by omega) (hlkA ▸ tokAt_of (Xg2.keeps kF.keep) (hsv _ fun q hq => (kN q (.tail _ (.tail _ (.tail _ (.tail _ (.tail _ (tl4 hq))))))).1) hokA av.length) rfl (by decide +kernel) (by walk_at "down") (by walk_at "down") ?_)
    clear kF kN
    intro h' tk' u9 kk F' N'
    k_steps
    all_goals (first | (exfalso; omega) | skip)
    refine wp_unhalt ?_
    k_dflt (refine' kla_eval ?q13d0 ?_; (case q13d0 => exact rfl))
    (k_dflt (refine' kla_nest ?q13F ?q13N ?q13T ?q13C ?q13cd ?q13U ?q13t ?q13n ?q13cl ?_; (case q13F => k_asm); (case q13N => k_asm); (case q13T => k_asm); (case q13cd => exact rfl); (case q13C => assumption); (case q13U => k_updF); (case q13t => kn_triples); (case q13n => kn_among); (case q13cl => exact rfl)))
    (with_reducible rename Fr _ _ _ _ => kF); (with_reducible rename News _ _ _ _ => kN)
    clear kF kN
    intro fw cw ow cvs tw ctw h8 tk8 F' N' dw ew lw1 lw2
    (try dsimp only at N')
    k_lt lw1
    k_lt2 lw2
    k_steps
    (with_reducible rename Fr _ _ _ _ => kF); (with_reducible rename News _ _ _ _ => kN)
    refine wp_unhalt ?_
    k_dflt (refine heard_E (B := hB) (g := g2) (L := L) (k := sv.length) (TS := ah ++ [eqT]) X T kF kN Outs.nil hB2 rfl rfl (by (repeat' (first | assumption | exact List.forall_mem_nil _ | (refine List.forall_mem_cons.mpr ⟨fun _ _ z => Data.noConfusion z, ?_⟩) | (refine List.forall_mem_cons.mpr ⟨nd_fields (by assumption), ?_⟩)))) ?hla hokA (by simp only [List.length_append, List.length_cons, List.length_nil]; omega) (News.get kN (by k_mem)) (News.get kN (by k_mem)) dw ew (by rw [hlkE]; decide +kernel) (by walk_at "down") (by walk_at "down") ?hreta)
    case hla => exact .list (News.get kN (by k_mem)) (hsv _ fun q hq => (kN q (by repeat (first | exact tl4 hq | refine List.Mem.tail _ ?_))).1)
    case hreta =>
      intro g3 h5 tk5 q5 tl5 hB5 hO5 F' N' nd5 hq5 up5
      clear kF kN
      have Xg3 := X.keeps hB5
      have Tg3 := T.keeps hB5
      clear Xg2 Tg2 hCg2
      k_steps
      (with_reducible rename Fr _ _ _ _ => kF2); (with_reducible rename News _ _ _ _ => kN2)
      refine wp_unhalt ?_
      k_dflt (refine eq_has (da := .tuple [.str (Str.ofString "SN"), .int (sv.length : Int)]) (db := .tuple [.str (Str.ofString "SN"), .int (sv.length : Int)]) ⟨tl5, fun p hp => (kN2 p (.tail _ (List.mem_append.mpr (.inl hp)))).1, hq5⟩ (.tuple (News.get kN2 (.head _)) (.cons (.str _ _) (.cons (.int _ _) .nil))) kqd_sn kqd_sn (by first | walk_at "rm" | ((try dsimp only [Around.deeper, Around.in1]); simp only [cLine]; omega)) true ⟨fun _ => rfl, fun _ => rfl⟩ ?_)
      exact ret _ _ (fun b o z => kF2.keep _ _ (hB5 _ _ z)) ⟨_, kN2.get (.tail _ (List.mem_append.mpr (.inr (by k_mem))))⟩ ⟨_, kN2.get (.tail _ (List.mem_append.mpr (.inr (by k_mem))))⟩ ⟨_, kN2.get (.tail _ (List.mem_append.mpr (.inr (by k_mem))))⟩
  intro key
  have hmark : MarkC := trivial
  k_steps
  · (with_reducible rename Fr _ _ _ _ => kF); (with_reducible rename News _ _ _ _ => kN); rename IntsAre _ (List.map _ _) => hI9
    obtain ⟨N1, N2⟩ := pickL1 kN
    refine wp_unhalt ?_
    k_dflt (refine tright_use X T kF N1 hBg rfl rfl (by walk_at "down") (by walk_at "down") N2 (by (repeat' (first | exact List.forall_mem_nil _ | (refine List.forall_mem_cons.mpr ⟨by (simp only [List.mem_cons, List.not_mem_nil, or_false, not_or]; first | k_ne | exact ⟨by k_ne, by k_ne⟩), ?_⟩)))) (by (repeat' (first | assumption | exact List.forall_mem_nil _ | (refine List.forall_mem_cons.mpr ⟨fun _ _ z => Data.noConfusion z, ?_⟩) | (refine List.forall_mem_cons.mpr ⟨nd_fields (by assumption), ?_⟩)))) (by k_mem) (by omega) (by omega) hI9 hys0 hysn hC1 (by k_ne) (fun h kh => .list (kh _ (.tail _ (.head _))) ⟨_, fun q hq => kh q (.tail _ (.tail _ (tl3 hq))), hav⟩) hahl hahk ?_)
    clear N1 N2 kF kN
    intro g2 h' tk' ps hB2 F' N'
    exact key g2 h' tk' ps #[] hB2 F' (fun q hq => N' q (permP1 hq))
  · (with_reducible rename Fr _ _ _ _ => kF); (with_reducible rename News _ _ _ _ => kN); rename IntsAre _ (List.map _ _) => hI9
    obtain ⟨N1, N2⟩ := pickL2 kN
    refine wp_unhalt ?_
    k_dflt (refine lright_use X T kF N1 hBg rfl rfl (by walk_at "down") (by walk_at "down") N2 (by (repeat' (first | exact List.forall_mem_nil _ | (refine List.forall_mem_cons.mpr ⟨by (simp only [List.mem_cons, List.not_mem_nil, or_false, not_or]; first | k_ne | exact ⟨by k_ne, by k_ne⟩), ?_⟩)))) (by (repeat' (first | assumption | exact List.forall_mem_nil _ | (refine List.forall_mem_cons.mpr ⟨fun _ _ z => Data.noConfusion z, ?_⟩) | (refine List.forall_mem_cons.mpr ⟨nd_fields (by assumption), ?_⟩)))) (by k_mem) (by omega) (by omega) hI9 hys0 hysn hC2 (by k_ne) (fun h kh => .list (kh _ (.tail _ (.head _))) ⟨_, fun q hq => kh q (.tail _ (.tail _ (tl3 hq))), hav⟩) hahl hahk ?_)
    clear N1 N2 kF kN
    intro g2 h' tk' ps hB2 F' N'
    exact key g2 h' tk' #[] ps hB2 F' (fun q hq => N' q (permP2 hq))
end
section -- V0
open PySem PySem.W PyProof.Rows PySem.Calls PySem.Spec
abbrev lawTabs : List (Addr × Addr) := [(222, 218), (229, 225), (234, 232)]
/-- the law's end, read over the heap in which it began -/
theorem good_true {c : ClaimW} {cl : Str → Option Addr} {mean : ExcName → Option Value} {args : List WData} {s₁ : Shared} {h' : Heap} {tk : Tok}
    (hr : ∀ a x, c.raises a x = false) (hp : c.post args (.bool true) args = true) (hT : TabsAt lawTabs s₁.heap) (hg : s₁.gens = #[])
    (hst : (ghostOf s₁.heap lawTabs).StaysIn h') (g1 : ∃ ps, h'.get? 218 = some (tabObj ps)) (g2 : ∃ ps, h'.get? 225 = some (tabObj ps)) (g3 : ∃ ps, h'.get? 232 = some (tabObj ps)) :
    GoodWG c cl mean args s₁ (.ok (.ret (.bool true))) { s₁ with heap := h', toks := tk } := by
  have all : ∀ q ∈ lawTabs, ∃ ps, h'.get? q.2 = some (tabObj ps) :=
    List.forall_mem_cons.mpr ⟨g1, List.forall_mem_cons.mpr ⟨g2, List.forall_mem_cons.mpr ⟨g3, List.forall_mem_nil _⟩⟩⟩
  have tab : ∀ b o, s₁.heap.get? b = some o → b ∈ lawTabs.map (·.2) → isCodeTable s₁.heap b ∧ o = tabObj #[] ∧ ∃ ps, h'.get? b = some (tabObj ps) := fun b o e hb => by
    obtain ⟨q, hq, rfl⟩ := List.mem_map.mp hb
    have z := hT q hq
    exact ⟨(z.1.tab z.2).isCodeTable, Option.some.inj (e.symm.trans z.2), all q hq⟩
  refine ⟨.inl ⟨.bool true, .bool true, [], rfl, fun x => hr _ x, .bool true, hp, fun _ => ⟨List.nodup_nil, fun a ha => (nomatch ha)⟩⟩, ⟨fun b o e => ?_, fun b o e => ?_⟩, rfl, .of_eq hg⟩
  · by_cases hb : b ∈ lawTabs.map (·.2)
    · obtain ⟨z, rfl, ps, hps⟩ := tab b o e hb
      exact .inr (.inl ⟨z, rfl, #[], ps, rfl, by rw [Array.empty_append]; exact hps⟩)
    · exact .inl (hst b o (ghost_ne e hb))
  · by_cases hb : b ∈ lawTabs.map (·.2)
    · obtain ⟨_, _, ps, hps⟩ := tab b o e hb
      exact ⟨_, hps⟩
    · exact ⟨o, hst b o (ghost_ne e hb)⟩
/-- the law from the caller's side -/
theorem lawU {w : World} {p : Program} {loose : List Str} {mean mean' : ExcName → Option Value} {mg mb : Str → Option Value} {s₁ : Shared} {sc : Addr} {cv : List Value} {ns : List Int}
    {c : ClaimW} {cl : Str → Option Addr} {args : List WData} {fa : Addr}
    (X : (kfrag.heap_1 w.params).In s₁.heap) (T : Top p loose mean mg mb s₁.heap) (hT8 : ∀ P ∈ [225, 218, 232], s₁.heap.get? P = some (tabObj #[])) (hmg : mg (Str.ofString "law") = some (.ref fa)) (hg : s₁.gens = #[])
    (hsc : s₁.heap.IsList sc cv.toArray) (hci : IntsAre cv ns) (hcn : ns.length < 100) (hr : ∀ a x, c.raises a x = false) (hp : c.post args (.bool true) args = true) :
    wpAny (model Challenge.rw_pq0141_01.row.prog w) callerA (call (.ref fa) [.ref sc]) (fun v s' => GoodWG c cl mean' args s₁ (.ok (.ret v)) s') (fun e s' => GoodWG c cl mean' args s₁ (.error e) s') s₁ := by
  have hfa : fa = 235 := Value.ref.inj (Option.some.inj (hmg.symm.trans (mg_of X T.g (by kernel_rfl))))
  subst hfa
  have h1 := hT8 218 (.tail _ (.head _))
  have h2 := hT8 225 (.head _)
  have h3 := hT8 232 (.tail _ (.tail _ (.head _)))
  have hT : TabsAt lawTabs s₁.heap :=
    List.forall_mem_cons.mpr ⟨⟨codeHd_of_K X (by kernel_rfl), h1⟩, List.forall_mem_cons.mpr ⟨⟨codeHd_of_K X (by kernel_rfl), h2⟩, List.forall_mem_cons.mpr ⟨⟨codeHd_of_K X (by kernel_rfl), h3⟩, List.forall_mem_nil _⟩⟩⟩
  have C := ghost_code hT
  exact lawT (hB := ghostOf s₁.heap lawTabs) (P1 := 218) (P2 := 225) (P3 := 232) (ghost_K hT X (by kernel_rfl)) (ghost_top hT T) (fun b o e => of_hideAll _ e) (by decide) (by decide) (ghost_list hT hsc) hci hcn
    C.1 C.2.1 C.2.2.1 h1 h2 h3 (hideAll_none _ (.head _)) (hideAll_none _ (.tail _ (.head _))) (hideAll_none _ (.tail _ (.tail _ (.head _)))) (by decide) (by decide) (by decide)
    fun h' tk' hst g1 g2 g3 => good_true hr hp hT hg hst g1 g2 g3
end
section
open PySem PySem.W PySem.W.X PyProof.Rows PySem.Calls PySem.Spec
theorem in_eq {K K' : Params → Frag} {w : World} {h : Heap} (e : K = K') (x : (K w.params).In h) : (K' w.params).In h := e ▸ x
-- the head's own helpers need no second form: these names are taken, so that none is written (size of the compiled file)
theorem hd.tw17311223219408574766 : True := trivial
theorem hd.tw978945382295711627 : True := trivial
theorem hd.tw6293948785866598258 : True := trivial
theorem hd.tw5961118342813265553 : True := trivial
theorem hd.tw9641152695372364146 : True := trivial
theorem hd.tw11128854368766332075 : True := trivial
theorem hd.tw5148922909946612681 : True := trivial
theorem hd.tw5781342201191254626 : True := trivial
theorem hd.tw14620637471214046174 : True := trivial
theorem hd.tw4218054939716304509 : True := trivial
theorem hd.tw2867327485932766208 : True := trivial
theorem hd.tw11652457597714270106 : True := trivial
theorem hd.tw15103106377680225435 : True := trivial
theorem hd.tw11117797201346649052 : True := trivial
theorem hd.tw2216850387143573719 : True := trivial
theorem hd.tw8343274005884668182 : True := trivial
theorem hd.tw12936449754285732098 : True := trivial
theorem hd.tw13330244855972007585 : True := trivial
theorem hd.tw2114630138375439770 : True := trivial
theorem hd.tw7752767780024739350 : True := trivial
theorem hd.tw17650839729002327288 : True := trivial
theorem hd.tw5373601922739893978 : True := trivial
theorem hd.tw17447410573909459338 : True := trivial
theorem hd.tw7540655947842036084 : True := trivial
theorem hd.tw14353793391729792155 : True := trivial
theorem hd.tw4014540891139286612 : True := trivial
theorem hd.tw12588582704262371052 : True := trivial
theorem hd.tw11953376511379268794 : True := trivial
theorem hd.tw1382963296337349011 : True := trivial
theorem hd.tw18300207936620678264 : True := trivial
theorem hd.tw2167537188350426706 : True := trivial
theorem hd.tw13919464512627920130 : True := trivial
theorem hd.tw5278057926702712004 : True := trivial
theorem hd.tw6545403380812914513 : True := trivial
theorem hd.tw12173100003817136821 : True := trivial
theorem hd.tw4478964076566166474 : True := trivial
theorem hd.tw4115565904173853331 : True := trivial
theorem hd.tw10111801491309104144 : True := trivial
theorem hd.tw10525666975642140466 : True := trivial
theorem hd.tw12901994302517312135 : True := trivial
theorem hd.tw6819123309680001836 : True := trivial
theorem hd.tw2195365466389143174 : True := trivial
theorem hd.tw16037735763661986305 : True := trivial
theorem hd.tw3759623122121258479 : True := trivial
theorem hd.tw8117029840178788049 : True := trivial
theorem hd.tw9421340871869096474 : True := trivial
theorem hd.tw701787995468756871 : True := trivial
theorem hd.tw7914949630228597729 : True := trivial
theorem hd.tw16056359734778111409 : True := trivial
theorem hd.tw9277588360372424766 : True := trivial
theorem hd.tw6060742912462422084 : True := trivial
theorem hd.tw13483081372092288885 : True := trivial
theorem hd.tw2274498078352570744 : True := trivial
theorem hd.tw10258999931320997221 : True := trivial
theorem hd.tw10170382586518783626 : True := trivial
theorem hd.tw15166520500009309586 : True := trivial
theorem hd.tw17574625026820762457 : True := trivial
theorem hd.tw16412773359747925120 : True := trivial
theorem hd.tw17673860158736603733 : True := trivial
theorem hd.tw10403243965636340961 : True := trivial
theorem hd.tw4225703048834024713 : True := trivial
theorem hd.tw7366208706002141716 : True := trivial
theorem hd.tw4172343393113369950 : True := trivial
theorem hd.tw16945582573551092051 : True := trivial
theorem hd.tw4015398097383911347 : True := trivial
theorem hd.tw16853341256802265648 : True := trivial
theorem hd.tw9386895884608548742 : True := trivial
theorem hd.tw13828106393651249627 : True := trivial
theorem hd.tw10727248033764811480 : True := trivial
theorem hd.tw4851647983119433812 : True := trivial
theorem hd.tw14705683404202351889 : True := trivial
theorem hd.tw4272726840584523970 : True := trivial
theorem hd.tw12487502673411948298 : True := trivial
theorem hd.tw16828841361933241965 : True := trivial
theorem hd.tw15595854959937240912 : True := trivial
theorem hd.tw6196171512934965099 : True := trivial
theorem hd.tw17950676927832955104 : True := trivial
theorem hd.tw10458740792067480800 : True := trivial
theorem hd.tw3219085151875037572 : True := trivial
theorem hd.tw1506431575118746342 : True := trivial
theorem hd.tw17183224562656869120 : True := trivial
theorem hd.tw15833661619300960221 : True := trivial
theorem hd.tw12112201142124510154 : True := trivial
theorem hd.tw16091413853298234908 : True := trivial
theorem hd.tw3530705653197291679 : True := trivial
theorem hd.tw8052382678804489345 : True := trivial
theorem hd.tw16904818350239718627 : True := trivial
theorem hd.tw8716120427605611371 : True := trivial
theorem hd.tw15837987909243819085 : True := trivial
theorem hd.tw6276725880618359904 : True := trivial
theorem hd.tw991583007596301734 : True := trivial
theorem hd.tw3789350110615891812 : True := trivial
theorem hd.tw4478166936697009375 : True := trivial
theorem hd.tw9653751418590077562 : True := trivial
theorem hd.tw9170477692918782315 : True := trivial
theorem hd.tw18103342009636024947 : True := trivial
theorem hd.tw15967140613478806237 : True := trivial
theorem hd.tw1017328040139425936 : True := trivial
theorem hd.tw16194383521188589630 : True := trivial
theorem hd.tw11210553801493137410 : True := trivial
theorem hd.tw6123773746684550334 : True := trivial
theorem hd.tw1413172679324656950 : True := trivial
theorem hd.tw9719896912496429819 : True := trivial
theorem hd.tw5902613922787404954 : True := trivial
theorem hd.tw1580110805410547442 : True := trivial
theorem hd.tw12949589719889679912 : True := trivial
theorem hd.tw8268277133935991078 : True := trivial
theorem hd.tw14955159897011116063 : True := trivial
theorem hd.tw10246146449241189800 : True := trivial
theorem hd.tw5130813555471234732 : True := trivial
theorem hd.tw16259696140248634718 : True := trivial
theorem hd.tw11917015161858427179 : True := trivial
theorem hd.tw9748044761591592747 : True := trivial
theorem hd.tw11054480109507316185 : True := trivial
theorem hd.tw2386827423013361158 : True := trivial
theorem hd.tw14560493823538711346 : True := trivial
theorem hd.tw16634568088961857937 : True := trivial
theorem hd.tw13790719812936386609 : True := trivial
theorem hd.tw6164396464334811476 : True := trivial
theorem hd.tw2101469004524951375 : True := trivial
theorem hd.tw15615537253650120727 : True := trivial
theorem hd.tw464777395874653626 : True := trivial
theorem hd.tw18093812233618175256 : True := trivial
theorem hd.tw1222794163293265305 : True := trivial
theorem hd.tw17672654358674132775 : True := trivial
theorem hd.tw8735263284916673568 : True := trivial
theorem hd.tw17893044597097874663 : True := trivial
theorem hd.tw13267510147771200024 : True := trivial
theorem hd.tw15042006015671813226 : True := trivial
theorem hd.tw8112040973832200146 : True := trivial
theorem hd.tw18343703819029505601 : True := trivial
theorem hd.tw17681399029576232318 : True := trivial
theorem hd.tw8959176491354863721 : True := trivial
theorem hd.tw2930668341846507884 : True := trivial
theorem hd.tw7023726343779634624 : True := trivial
theorem hd.tw5511420028821071320 : True := trivial
theorem hd.tw9741134391959003819 : True := trivial
theorem hd.tw10949625832625181284 : True := trivial
theorem hd.tw16722109127936396110 : True := trivial
theorem hd.tw5657824000916062451 : True := trivial
theorem hd.tw6555240042291301478 : True := trivial
theorem hd.tw6411954120941647267 : True := trivial
theorem hd.tw922143313871775805 : True := trivial
theorem hd.tw6785817131721698500 : True := trivial
theorem hd.tw12070051907170230399 : True := trivial
theorem hd.tw11232374478483605306 : True := trivial
theorem hd.tw9345676750909349944 : True := trivial
theorem hd.tw2442259710966052079 : True := trivial
theorem hd.tw10614716105012338702 : True := trivial
theorem hd.tw8597412750376464033 : True := trivial
theorem hd.tw1800889605409440832 : True := trivial
theorem hd.tw9960721518486171458 : True := trivial
theorem hd.tw5036846961687405229 : True := trivial
theorem hd.tw17903497710992402801 : True := trivial
theorem hd.tw3919010098100093602 : True := trivial
theorem hd.tw1997569388931296116 : True := trivial
theorem hd.tw17054507655720011243 : True := trivial
theorem hd.tw3740922100787987374 : True := trivial
theorem hd.tw1760603350576429475 : True := trivial
theorem hd.tw16920754564084929960 : True := trivial
theorem hd.tw17975533764899295144 : True := trivial
theorem hd.tw16868993833207775613 : True := trivial
theorem hd.tw8458067239894703972 : True := trivial
theorem hd.tw8226494294326810461 : True := trivial
theorem hd.tw13770079208771991547 : True := trivial
theorem hd.tw15790720579355451973 : True := trivial
theorem hd.tw11319892378374348655 : True := trivial
theorem hd.tw3452082135128663414 : True := trivial
theorem hd.tw728884934406724761 : True := trivial
theorem hd.tw13368278939475635651 : True := trivial
theorem hd.tw11465210709893060100 : True := trivial
theorem hd.tw3451239065008710300 : True := trivial
theorem hd.tw11319097763535126812 : True := trivial
theorem hd.tw15759970867653108152 : True := trivial
theorem hd.tw15411387601460861337 : True := trivial
theorem hd.tw8457440626546761165 : True := trivial
theorem hd.tw15529170255622000948 : True := trivial
theorem hd.tw16240987189780228909 : True := trivial
theorem hd.tw7754304195085646258 : True := trivial
theorem hd.tw10601615944963115059 : True := trivial
theorem hd.tw7296583596125217682 : True := trivial
theorem hd.tw12271959270614036898 : True := trivial
theorem hd.tw4185656317496899905 : True := trivial
theorem hd.tw3646829019195819677 : True := trivial
theorem hd.tw18264374347568628810 : True := trivial
theorem hd.tw4971549296188076032 : True := trivial
theorem hd.tw17177331786930743035 : True := trivial
theorem hd.tw7289634563603522867 : True := trivial
theorem hd.tw17542962492245011380 : True := trivial
theorem hd.tw17252143746492648416 : True := trivial
theorem hd.tw5343241284826551009 : True := trivial
theorem hd.tw11162318198679636149 : True := trivial
theorem hd.tw4702841417184801058 : True := trivial
theorem hd.tw10328675519437393325 : True := trivial
theorem hd.tw17846660462469342289 : True := trivial
theorem hd.tw11136197038861592535 : True := trivial
theorem hd.tw18293732401869909652 : True := trivial
theorem hd.tw11660266114150955751 : True := trivial
theorem hd.tw6442067068224118133 : True := trivial
theorem hd.tw16477043939570097188 : True := trivial
theorem hd.tw3229955645248102723 : True := trivial
theorem hd.tw10603584201595350602 : True := trivial
theorem hd.tw2887051446865420828 : True := trivial
theorem hd.tw14103535550066685397 : True := trivial
theorem hd.tw26425463804135960 : True := trivial
theorem hd.tw3350844169311001129 : True := trivial
theorem hd.tw16432713993328977331 : True := trivial
theorem hd.tw15347494238783688032 : True := trivial
theorem hd.tw7028611270464810887 : True := trivial
theorem hd.tw8228950375871286339 : True := trivial
theorem hd.tw16064382804478563927 : True := trivial
theorem hd.tw6394381022753523788 : True := trivial
theorem hd.tw6305734824756694309 : True := trivial
theorem hd.tw2708950531961675432 : True := trivial
theorem hd.tw4494801613693538912 : True := trivial
theorem hd.tw10424393626065333798 : True := trivial
theorem hd.tw15325930267561039836 : True := trivial
theorem hd.tw13132252242611242036 : True := trivial
theorem hd.tw12023040214023829324 : True := trivial
set_option Elab.async true in
set_option maxRecDepth 100000 in
set_option maxHeartbeats 0 in
theorem hd : PySem.Challenge.rw_pq0141_01.Holds := by
  w_on; o_law; k_head
  (case hw => w_witness2)
  k_fill
  intro w s₀ s₁ mg mb G Y fa o pm cd doc dV kV ho hd hcd hD hmg hg args vals as hpre hlay hrd hwl hlo
  have KX := km_in_of Y
  km_tabs Y
  clear hd hcd hD Y
  refine Ground.open G ?_
  intro T B D TE TW
  clear D TE TW B
  wrow_args hpre hlay hrd hwl hlo
  refine lawU (in_eq (by kernel_rfl) KX) T hT8 hmg hg (by assumption) (by assumption) (by omega) (fun _ _ => rfl) ?_
  exact postW_of (by wrow_shape) (w_eq_bool (w_res rfl) w_lit) rfl
end
end Mine
theorem PySem.Challenge.cw_pq0141_01_holds : PySem.Challenge.rw_pq0141_01.Holds :=
  Mine.hd
